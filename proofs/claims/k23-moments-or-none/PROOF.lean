import PyProof.Rows.All
import Wide.All
import OpenK.AllK
import Wide.FinOn
import HandS.ForMost
import HandS.Exc
import HandS.Strs
import HandS.Lambda
import HandS.TupAny
import HandS.Deep
import HandS.IsInst
import HandS.RaiseMore
import HandS.SetFor
import HandS.More
import HandS.TupLen
import KE.SortData
import HandS.Iter
import KE.GoesNew
import KE.KDictCopyH
import KE.KTupTabMore
import KE.KDictPairs
import KE.KDictWalk
import HandS.Words
import HandS.Ends
import HandS.Style
import PyProof.Rows.ReprOcc
import PyProof.ReprRoads
import KE.DataMinMax
import HandS.TupLe
import PyProof.Rows.RowBridgeK
import HandS.Zip
import KE.KRevSl
import HandS.TupMul
import HandS.Text
import PyProof.Rows.IntBool
import PyProof.CallStr
import KE.GoesNewDict
import HandS.Conv
import KE.KUnpackStar
import HandS.DictTup
import HandS.SetBool
import HandS.Defaults
import HandS.ExcInit
import HandS.ExcField
import HandS.ExcIs
import KE.KExcIs
import HandS.EndTab
import KE.DataFind
import HandS.TryOnly
import HandS.SetKeys
import HandS.CallLocal
import KE.SortKeyHeap
import KE.KSortKey
import HandS.SortKw
import PyProof.DictMoreH
import HandS.Flow
import HandS.DictComp
import KE.KDictZip
import KE.GoesZip
import HandS.ListItems
import PySem.Challenge.RW_drawerways_k23_whole_moments_or_none
set_option Elab.async false
set_option linter.all false
set_option maxRecDepth 100000
namespace DL
open PySem PySem.Spec PyProof.Rows L2
structure KW where
  fr : PySem.W.Frag
  P : Program
  w : World
end DL
abbrev L2.Cx.KW (X : L2.Cx) : DL.KW := ⟨X.K, X.prog, X.w⟩
namespace DL
open PySem PySem.Spec PyProof.Rows L2
inductive D where
  | non | bl (b : Bool) | int (i : Int) | str (x : Str) | tup (ds : List D) | wt (ds : List D) | fz (ds : List D) | ref (a : Addr) | ty (n : String)
inductive AO where
  | lst (ds : List D)
  | dct (kvs : List (D × D))
  /-- a dict while a loop walks it: read only -/
  | fdc (o : Obj) (kvs : List (D × D))
  | set (ds : List D)
  /-- a table of code objects -/
  | tab (ps : Array Value)
  /-- a code object of the name q -/
  | cod (q : Str)
  /-- an exception's fields -/
  | exc (fs : List (Str × D))
abbrev Sto := Addr → Option AO
def put (S : Sto) (a : Addr) (o : AO) : Sto := fun b => if b = a then some o else S b
@[simp] theorem put_same {S : Sto} {a : Addr} {o : AO} : put S a o a = some o := by simp [put]
theorem put_ne {S : Sto} {a b : Addr} {o : AO} (h : b ≠ a) : put S a o b = S b := by simp [put, h]
theorem put_put {S : Sto} {a : Addr} {o u : AO} : put (put S a o) a u = put S a u := by
  funext b; unfold put; split <;> rfl
def Grow (S S' : Sto) : Prop := ∀ a o, S a = some o → S' a = some o
theorem Grow.refl (S : Sto) : Grow S S := fun _ _ h => h
theorem Grow.trans {S S1 S2 : Sto} (a : Grow S S1) (b : Grow S1 S2) : Grow S S2 := fun c o h => b c o (a c o h)
theorem Grow.put {S : Sto} {p : Addr} {o : AO} (h : S p = none) : Grow S (put S p o) := fun b u e => by
  rw [put_ne (fun z => by subst z; rw [h] at e; cases e)]; exact e
theorem Grow.then {S S1 : Sto} {p : Addr} {o : AO} (g : Grow S S1) (h : S1 p = none) : Grow S (DL.put S1 p o) := g.trans (.put h)
theorem Grow.free {S S1 : Sto} (g : Grow S S1) {p : Addr} (h : S1 p = none) : S p = none := by
  cases e : S p with
  | none => rfl
  | some o => rw [g p o e] at h; cases h
def TupAt (K : KW) (H : Hp) (a : Addr) (xs : List V) : Prop :=
  (∃ o : Obj, o.dict = none ∧ H a = some (.frz o (.tup xs))) ∨
    ∃ (o : Obj) (its : Array Value) (n : Nat), K.fr.lookup a = some o ∧ o.cls = .type "tuple" ∧ o.dict = none ∧ o.data = .seq its n ∧ its.size ≤ sizeLine ∧ Vals xs its.toList
section
variable (K : KW)
def FzAt (H : Hp) (a : Addr) (xs : List V) : Prop :=
  (∃ o, H a = some (.frz o (.lst xs))) ∨
    ∃ (o : Obj) (its : Array Value) (n : Nat), K.fr.lookup a = some o ∧ o.cls = .type "list" ∧ o.dict = none ∧ o.data = .seq its n ∧ its.size ≤ sizeLine ∧ Vals xs its.toList
mutual
inductive RelD (H : Hp) : V → D → Prop
  | non : RelD H .non .non
  | bl (b) : RelD H (.bl b) (.bl b)
  | int (i) : RelD H (.int i) (.int i)
  | str (x) : PyData.strOk x = true → RelD H (.str x) (.str x)
  | ty (n) : RelD H (.ty n) (.ty n)
  | ref (a) : RelD H (.ref a) (.ref a)
  | tup {a vs ds} : TupAt K H a vs → RelDs H vs ds → RelD H (.ref a) (.tup ds)
  | wt {a vs ds} : H a = some (.tup vs) → RelDs H vs ds → RelD H (.ref a) (.wt ds)
  | fz {a vs ds} : FzAt K H a vs → RelDs H vs ds → RelD H (.ref a) (.fz ds)
inductive RelDs (H : Hp) : List V → List D → Prop
  | nil : RelDs H [] []
  | cons {v d vs ds} : RelD H v d → RelDs H vs ds → RelDs H (v :: vs) (d :: ds)
end
end
def stays : HO → Bool
  | .tup _ => true
  | .frz _ (.lst _) => true
  | .frz _ (.tup _) => true
  | _ => false
def Ev (H H' : Hp) : Prop := ∀ a o, H a = some o → stays o = true → H' a = some o
theorem Ev.refl (H : Hp) : Ev H H := fun _ _ h _ => h
theorem Ev.trans {H H1 H2 : Hp} (a : Ev H H1) (b : Ev H1 H2) : Ev H H2 := fun c o h z => b c o (a c o h z) z
theorem Ev.new {H : Hp} {p : Addr} {o : HO} (h : H p = none) : Ev H (upd H p o) := fun b xs e _ => by
  rw [upd_ne (ne_of_none e h)]; exact e
theorem Ev.upd {H : Hp} {p : Addr} {u o : HO} (h : H p = some u) (hu : stays u = false) : Ev H (upd H p o) := fun b x e z => by
  have n : b ≠ p := fun q => by subst q; rw [e] at h; cases h; rw [hu] at z; cases z
  rw [upd_ne n]; exact e
section
variable {K : KW} {H H' : Hp}
theorem TupAt.ev {a : Addr} {xs : List V} (h : TupAt K H a xs) (e : Ev H H') : TupAt K H' a xs := h.elim (fun ⟨o, d, h⟩ => .inl ⟨o, d, e _ _ h rfl⟩) .inr
theorem FzAt.ev {a : Addr} {xs : List V} (h : FzAt K H a xs) (e : Ev H H') : FzAt K H' a xs := h.elim (fun ⟨o, h⟩ => .inl ⟨o, e _ _ h rfl⟩) .inr
theorem FzAt.sq {a : Addr} {xs : List V} (h : FzAt K H a xs) : SqL K.fr H a xs := h.elim (fun ⟨o, h⟩ => .inl (.inr ⟨o, h⟩)) .inr
theorem TupAt.sq {a : Addr} {xs : List V} (h : TupAt K H a xs) : SqT K.fr H a xs := h.elim (fun ⟨o, _, h⟩ => .inl (.inr ⟨o, h⟩)) fun ⟨o, its, n, h1, h2, _, h3⟩ => .inr ⟨o, its, n, h1, h2, h3⟩
mutual
theorem RelD.ev : ∀ {v : V} {d : D}, RelD K H v d → Ev H H' → RelD K H' v d
  | _, _, .non, _ => .non
  | _, _, .bl b, _ => .bl b
  | _, _, .int i, _ => .int i
  | _, _, .str x h, _ => .str x h
  | _, _, .ty n, _ => .ty n
  | _, _, .ref a, _ => .ref a
  | _, _, .tup t r, e => .tup (t.ev e) (RelDs.ev r e)
  | _, _, .wt t r, e => .wt (e _ _ t rfl) (RelDs.ev r e)
  | _, _, .fz t r, e => .fz (t.ev e) (RelDs.ev r e)
theorem RelDs.ev : ∀ {vs : List V} {ds : List D}, RelDs K H vs ds → Ev H H' → RelDs K H' vs ds
  | _, _, .nil, _ => .nil
  | _, _, .cons r t, e => .cons (RelD.ev r e) (RelDs.ev t e)
end
theorem RelDs.length : ∀ {vs : List V} {ds : List D}, RelDs K H vs ds → vs.length = ds.length
  | _, _, .nil => rfl
  | _, _, .cons _ t => by simp [RelDs.length t]
theorem RelDs.get : ∀ {vs : List V} {ds : List D} {i : Nat} {d : D}, RelDs K H vs ds → ds[i]? = some d → ∃ v, vs[i]? = some v ∧ RelD K H v d
  | _, _, _, _, .nil, e => by simp at e
  | _, _, 0, _, .cons r _, e => by simp at e; subst e; exact ⟨_, rfl, r⟩
  | _, _, i + 1, d, .cons _ t, e => by
    obtain ⟨u, h1, h2⟩ := RelDs.get (i := i) (d := d) t (by simpa using e)
    exact ⟨u, by simpa using h1, h2⟩
theorem RelDs.append : ∀ {vs ws : List V} {ds es : List D}, RelDs K H vs ds → RelDs K H ws es → RelDs K H (vs ++ ws) (ds ++ es)
  | _, _, _, _, .nil, s => s
  | _, _, _, _, .cons r t, s => .cons r (RelDs.append t s)
theorem RelDs.take : ∀ {vs : List V} {ds : List D} (n : Nat), RelDs K H vs ds → RelDs K H (vs.take n) (ds.take n)
  | _, _, 0, _ => .nil
  | _, _, _ + 1, .nil => .nil
  | _, _, n + 1, .cons r t => .cons r (RelDs.take n t)
theorem RelDs.drop : ∀ {vs : List V} {ds : List D} (n : Nat), RelDs K H vs ds → RelDs K H (vs.drop n) (ds.drop n)
  | _, _, 0, r => r
  | _, _, _ + 1, .nil => .nil
  | _, _, n + 1, .cons _ t => RelDs.drop n t
theorem RelDs.set {v : V} {d : D} (r : RelD K H v d) : ∀ {vs : List V} {ds : List D} (i : Nat), RelDs K H vs ds → RelDs K H (vs.set i v) (ds.set i d)
  | _, _, _, .nil => .nil
  | _, _, 0, .cons _ t => .cons r t
  | _, _, i + 1, .cons q t => .cons q (RelDs.set r i t)
theorem RelDs.ints : ∀ (ns : List Int), RelDs K H (ns.map V.int) (ns.map D.int)
  | [] => .nil
  | n :: r => .cons (.int n) (RelDs.ints r)
end
mutual
def D.beq : D → D → Bool
  | .non, .non => true
  | .bl a, .bl b => a == b
  | .int a, .int b => a == b
  | .str a, .str b => a == b
  | .tup a, .tup b => D.beqs a b
  | .wt a, .wt b => D.beqs a b
  | .fz a, .fz b => D.beqs a b
  | .ref a, .ref b => Nat.beq a b
  | .ty a, .ty b => a == b
  | _, _ => false
def D.beqs : List D → List D → Bool
  | [], [] => true
  | a :: r, b :: t => D.beq a b && D.beqs r t
  | _, _ => false
end
mutual
theorem D.eq_of_beq : ∀ {a b : D}, D.beq a b = true → a = b
  | .non, b, h => by cases b <;> first | rfl | cases h
  | .bl x, b, h => by cases b <;> first | (simp [D.beq] at h; rw [h]) | cases h
  | .int x, b, h => by cases b <;> first | (simp [D.beq] at h; rw [h]) | cases h
  | .str x, b, h => by cases b <;> first | (simp [D.beq] at h; rw [h]) | cases h
  | .tup x, b, h => by
    cases b with
    | tup y => exact congrArg D.tup (D.eqs_of_beq (by rw [D.beq] at h; exact h))
    | _ => simp [D.beq] at h
  | .wt x, b, h => by
    cases b with
    | wt y => exact congrArg D.wt (D.eqs_of_beq (by rw [D.beq] at h; exact h))
    | _ => simp [D.beq] at h
  | .fz x, b, h => by
    cases b with
    | fz y => exact congrArg D.fz (D.eqs_of_beq (by rw [D.beq] at h; exact h))
    | _ => simp [D.beq] at h
  | .ref x, b, h => by
    cases b with
    | ref y => exact congrArg D.ref (Nat.eq_of_beq_eq_true (by rw [D.beq] at h; exact h))
    | _ => simp [D.beq] at h
  | .ty x, b, h => by cases b <;> first | (simp [D.beq] at h; rw [h]) | cases h
theorem D.eqs_of_beq : ∀ {a b : List D}, D.beqs a b = true → a = b
  | [], b, h => by cases b <;> first | rfl | cases h
  | x :: r, b, h => by
    cases b with
    | nil => cases h
    | cons y t =>
      simp only [D.beqs, Bool.and_eq_true] at h
      rw [D.eq_of_beq h.1, D.eqs_of_beq h.2]
end
mutual
theorem D.beq_refl : ∀ a : D, D.beq a a = true
  | .non => rfl
  | .bl x => by simp [D.beq]
  | .int x => by simp [D.beq]
  | .str x => by simp [D.beq]
  | .tup x => by rw [D.beq]; exact D.beqs_refl x
  | .wt x => by rw [D.beq]; exact D.beqs_refl x
  | .fz x => by rw [D.beq]; exact D.beqs_refl x
  | .ref x => by rw [D.beq]; exact Nat.beq_refl x
  | .ty x => by simp [D.beq]
theorem D.beqs_refl : ∀ a : List D, D.beqs a a = true
  | [] => rfl
  | x :: r => by rw [D.beqs, D.beq_refl x, D.beqs_refl r]; rfl
end
instance : DecidableEq D := fun a b => if h : D.beq a b = true then .isTrue (D.eq_of_beq h) else .isFalse fun e => h (e ▸ D.beq_refl a)
def kD : Key → D
  | .inl i => .int i
  | .inr x => .str x
theorem kD_inj {a b : Key} (h : kD a = kD b) : a = b := by
  cases a <;> cases b <;> simp [kD] at h <;> simp [h]
def kTD (k : List Key) : D := .tup (k.map kD)
theorem kDs_inj : ∀ {a b : List Key}, a.map kD = b.map kD → a = b
  | [], [], _ => rfl
  | [], _ :: _, h => by simp at h
  | _ :: _, [], h => by simp at h
  | x :: r, y :: t, h => by
    simp only [List.map_cons, List.cons.injEq] at h
    rw [kD_inj h.1, kDs_inj h.2]
theorem kTD_inj {a b : List Key} (h : kTD a = kTD b) : a = b := kDs_inj (D.tup.inj h)
inductive RelKV {κ : Type} (f : κ → D) (K : KW) (H : Hp) : List (κ × V) → List (D × D) → Prop
  | nil : RelKV f K H [] []
  | cons {k v d r t} : (∀ x, f k = .str x → PyData.strOk x = true) → RelD K H v d → RelKV f K H r t → RelKV f K H ((k, v) :: r) ((f k, d) :: t)
def TDo (K : KW) (a : Addr) (xs : List (List Key × Addr × Value)) (h : Heap) : Prop :=
  (xs.length ≤ sizeLine ∧ (a == sysModules) = false) ∧ ∃ o es ep, h.get? a = some o ∧ o.ExactDict ∧ o.data = .dict es ep ∧ es.toList = xs.map (entryOfKey (tupleKind (mixKind K.P K.w))) ∧ (xs.map (·.1)).Nodup
def TDn (K : KW) (a : Addr) (xs : List (List Key × Addr × Value)) : HO := .ext (TDo K a xs)
def KeyT (K : KW) (H : Hp) (b : Addr) (k : List Key) : Prop := TupAt K H b (k.map kV) ∧ RelDs K H (k.map kV) (k.map kD)
theorem KeyT.ev {K : KW} {H H' : Hp} {b : Addr} {k : List Key} (h : KeyT K H b k) (e : Ev H H') : KeyT K H' b k := ⟨h.1.ev e, h.2.ev e⟩
inductive RelTV (K : KW) (H : Hp) : List (List Key × Addr × Value) → List (D × D) → Prop
  | nil : RelTV K H [] []
  | cons {k b u v d r t} : KeyT K H b k → RelV v u → RelD K H v d → RelTV K H r t → RelTV K H ((k, b, u) :: r) ((kTD k, d) :: t)
theorem RelTV.ev {K : KW} {H H' : Hp} : ∀ {xs : List (List Key × Addr × Value)} {kvs : List (D × D)}, RelTV K H xs kvs → Ev H H' → RelTV K H' xs kvs
  | _, _, .nil, _ => .nil
  | _, _, .cons t v r q, e => .cons (t.ev e) v (r.ev e) (q.ev e)
theorem RelTV.length {K : KW} {H : Hp} : ∀ {xs : List (List Key × Addr × Value)} {kvs : List (D × D)}, RelTV K H xs kvs → xs.length = kvs.length
  | _, _, .nil => rfl
  | _, _, .cons _ _ _ t => by simp [t.length]
inductive RelFs (K : KW) (H : Hp) : List (Str × V) → List (Str × D) → Prop
  | nil : RelFs K H [] []
  | cons {n v d r t} : RelD K H v d → RelFs K H r t → RelFs K H ((n, v) :: r) ((n, d) :: t)
theorem RelFs.ev {K : KW} {H H' : Hp} : ∀ {vs ds}, RelFs K H vs ds → Ev H H' → RelFs K H' vs ds
  | _, _, .nil, _ => .nil
  | _, _, .cons r t, e => .cons (r.ev e) (t.ev e)
section
variable (K : KW)
def OkO (H : Hp) (a : Addr) : AO → Prop
  | .lst ds => ∃ vs, H a = some (.lst vs) ∧ RelDs K H vs ds
  | .dct kvs => (∃ es : List (Key × V), H a = some (.dK es) ∧ RelKV kD K H es kvs) ∨ ∃ xs, H a = some (TDn K a xs) ∧ RelTV K H xs kvs
  | .fdc o kvs => (∃ es : List (Key × V), H a = some (.frz o (.dK es)) ∧ RelKV kD K H es kvs) ∨ ∃ xs, H a = some (.frz o (TDn K a xs)) ∧ RelTV K H xs kvs
  | .set ds => ∃ ns : List Int, ds = ns.map D.int ∧ ns.Nodup ∧ H a = some (SetO K.w a (fun k => decide (k ∈ ns)) ns.length)
  | .tab ps => H a = some (.tbl ps)
  | .cod q => H a = some (LamX.CodeO a q)
  | .exc fs => ∃ vs, H a = some (.xd vs) ∧ RelFs K H vs fs
def HR (H : Hp) (S : Sto) : Prop := ∀ a o, S a = some o → OkO K H a o
end
theorem RelKV.ev {κ : Type} {f : κ → D} {K : KW} {H H' : Hp} : ∀ {es : List (κ × V)} {kvs : List (D × D)}, RelKV f K H es kvs → Ev H H' → RelKV f K H' es kvs
  | _, _, .nil, _ => .nil
  | _, _, .cons h r t, e => .cons h (r.ev e) (t.ev e)
theorem RelKV.length {κ : Type} {f : κ → D} {K : KW} {H : Hp} : ∀ {es : List (κ × V)} {kvs : List (D × D)}, RelKV f K H es kvs → es.length = kvs.length
  | _, _, .nil => rfl
  | _, _, .cons _ _ t => by simp [t.length]
abbrev DSt := List (Option D)
def RelOD (K : KW) (H : Hp) : Option V → Option D → Prop
  | some v, some d => RelD K H v d
  | _, none => True
  | none, some _ => False
inductive StR (K : KW) (H : Hp) : L2.St → DSt → Prop
  | nil : StR K H [] []
  | cons {v d vs ds} : RelOD K H v d → StR K H vs ds → StR K H (v :: vs) (d :: ds)
section
variable {K : KW} {H H' : Hp}
theorem StR.ev : ∀ {σ : L2.St} {τ : DSt}, StR K H σ τ → Ev H H' → StR K H' σ τ
  | _, _, .nil, _ => .nil
  | v :: _, d :: _, .cons r t, e => .cons (by
      cases d with
      | none => cases v <;> trivial
      | some d => cases v with
        | none => exact r
        | some v => exact RelD.ev r e) (StR.ev t e)
theorem StR.get : ∀ {σ : L2.St} {τ : DSt} {i : Nat} {d : D}, StR K H σ τ → τ[i]? = some (some d) → ∃ v, σ[i]? = some (some v) ∧ RelD K H v d
  | _, _, _, _, .nil, e => by simp at e
  | v :: _, _, 0, d, .cons r _, e => by
    simp at e; subst e
    cases v with
    | none => exact r.elim
    | some v => exact ⟨v, rfl, r⟩
  | _, _, i + 1, d, .cons _ t, e => by
    obtain ⟨u, h1, h2⟩ := StR.get (i := i) (d := d) t (by simpa using e)
    exact ⟨u, by simpa using h1, h2⟩
theorem StR.set {v : V} {d : D} (r : RelD K H v d) : ∀ {σ : L2.St} {τ : DSt} (i : Nat), StR K H σ τ → StR K H (σ.set i (some v)) (τ.set i (some d))
  | _, _, _, .nil => .nil
  | _, _, 0, .cons _ t => .cons r t
  | _, _, i + 1, .cons q t => .cons q (StR.set r i t)
theorem StR.setN : ∀ {σ : L2.St} {τ : DSt} (i : Nat), StR K H σ τ → StR K H (σ.set i none) (τ.set i none)
  | _, _, _, .nil => .nil
  | _, _, 0, .cons _ t => .cons (by trivial) t
  | _, _, i + 1, .cons q t => .cons q (StR.setN i t)
theorem StR.nones : ∀ n : Nat, StR K H (List.replicate n none) (List.replicate n none)
  | 0 => .nil
  | n + 1 => .cons trivial (StR.nones n)
theorem StR.somes : ∀ {vs : List V} {ds : List D}, RelDs K H vs ds → ∀ {σ : L2.St} {τ : DSt}, StR K H σ τ → StR K H (vs.map some ++ σ) (ds.map some ++ τ)
  | _, _, .nil, _, _, s => s
  | _, _, .cons r t, _, _, s => .cons r (StR.somes t s)
theorem OkO.ev {a : Addr} {o : AO} (h : OkO K H a o) (e : Ev H H') (k : ∀ u, H a = some u → H' a = some u) : OkO K H' a o := by
  cases o with
  | lst ds => obtain ⟨vs, h1, h2⟩ := h; exact ⟨vs, k _ h1, h2.ev e⟩
  | dct kvs =>
    rcases h with ⟨es, h1, h2⟩ | ⟨es, h1, h2⟩
    · exact .inl ⟨es, k _ h1, h2.ev e⟩
    · exact .inr ⟨es, k _ h1, h2.ev e⟩
  | fdc o kvs =>
    rcases h with ⟨es, h1, h2⟩ | ⟨es, h1, h2⟩
    · exact .inl ⟨es, k _ h1, h2.ev e⟩
    · exact .inr ⟨es, k _ h1, h2.ev e⟩
  | set ds => obtain ⟨ns, e1, nd, h1⟩ := h; exact ⟨ns, e1, nd, k _ h1⟩
  | tab ps => exact k _ h
  | cod q => exact k _ h
  | exc fs => obtain ⟨vs, h1, h2⟩ := h; exact ⟨vs, k _ h1, h2.ev e⟩
theorem HR.new {S : Sto} {p : Addr} {o : HO} (h : HR K H S) (n : H p = none) : HR K (upd H p o) S := fun a u e =>
  (h a u e).ev (.new n) fun x q => by rw [upd_ne (ne_of_none q n)]; exact q
end
end DL
namespace DL
open PySem PySem.Spec PyProof.Rows L2
abbrev KD := D → Sto → Prop
abbrev DTE := DSt → Sto → KD → Prop
abbrev DTT := DSt → Sto → (Bool → Sto → Prop) → Prop
abbrev DTA := DSt → Sto → (List D → Sto → Prop) → Prop
structure DEnds where
  nx : DSt → Sto → Prop
  rt : KD
  bk : DSt → Sto → Prop
  ct : DSt → Sto → Prop
abbrev DTS := DEnds → DSt → Sto → Prop
def Up (K : KW) (H : Hp) (Q : KD) : VK := fun v H' => Ev H H' ∧ ∃ d S', HR K H' S' ∧ RelD K H' v d ∧ Q d S'
def UpT (K : KW) (H : Hp) (Q : Bool → Sto → Prop) : Bool → Hp → Prop := fun b H' => Ev H H' ∧ ∃ S', HR K H' S' ∧ Q b S'
def UpA (K : KW) (H : Hp) (Q : List D → Sto → Prop) : List V → Hp → Prop := fun vs H' => Ev H H' ∧ ∃ ds S', HR K H' S' ∧ RelDs K H' vs ds ∧ Q ds S'
def UpS (K : KW) (H : Hp) (Q : DSt → Sto → Prop) : L2.St → Hp → Prop := fun σ H' => Ev H H' ∧ ∃ τ S', HR K H' S' ∧ StR K H' σ τ ∧ Q τ S'
def UpE (K : KW) (H : Hp) (Dn : DEnds) : Ends := ⟨UpS K H Dn.nx, Up K H Dn.rt, UpS K H Dn.bk, UpS K H Dn.ct⟩
section
variable {K : KW} {H H1 H' : Hp}
theorem Up.of {Q : KD} {v : V} {d : D} {S' : Sto} (e : Ev H H') (h : HR K H' S') (r : RelD K H' v d) (q : Q d S') : Up K H Q v H' := ⟨e, d, S', h, r, q⟩
theorem Up.back {Q : KD} {v : V} (e : Ev H H1) (u : Up K H1 Q v H') : Up K H Q v H' := ⟨e.trans u.1, u.2⟩
theorem UpT.back {Q : Bool → Sto → Prop} {v : Bool} (e : Ev H H1) (u : UpT K H1 Q v H') : UpT K H Q v H' := ⟨e.trans u.1, u.2⟩
theorem UpS.back {Q : DSt → Sto → Prop} {v : L2.St} (e : Ev H H1) (u : UpS K H1 Q v H') : UpS K H Q v H' := ⟨e.trans u.1, u.2⟩
theorem UpS.same {Q : DSt → Sto → Prop} {σ : L2.St} {τ : DSt} {S : Sto} (st : StR K H σ τ) (h : HR K H S) (q : Q τ S) : UpS K H Q σ H := ⟨.refl _, τ, S, h, st, q⟩
end
structure DE (X : Cx) (e : Expr) (t : DTE) : Prop where
  run : ∀ (pins : List (Addr × Obj)) (s : Shared) (σ : L2.St) (H : Hp) (τ : DSt) (S : Sto) (Q : KD), Inv X pins σ H s → StR X.KW H σ τ → HR X.KW H S → t τ S Q →
    wpAny (model X.prog X.w) X.A (eval e X.env) (EP X pins σ (Up X.KW H Q)) X.xe s
structure DT (X : Cx) (e : Expr) (t : DTT) : Prop where
  run : ∀ (pins : List (Addr × Obj)) (s : Shared) (σ : L2.St) (H : Hp) (τ : DSt) (S : Sto) (Q : Bool → Sto → Prop), Inv X pins σ H s → StR X.KW H σ τ → HR X.KW H S → t τ S Q →
    wpAny (model X.prog X.w) X.A (isTrue e X.env (eval e X.env)) (TP X pins σ (UpT X.KW H Q)) X.xe s
structure DW (X : Cx) (e : Expr) (t : DTT) : Prop where
  run : ∀ (whole : Sem Value) (pins : List (Addr × Obj)) (s : Shared) (σ : L2.St) (H : Hp) (τ : DSt) (S : Sto) (Q : Bool → Sto → Prop), Inv X pins σ H s → StR X.KW H σ τ → HR X.KW H S → t τ S Q →
    wpAny (model X.prog X.w) X.A (isTrue e X.env whole) (TP X pins σ (UpT X.KW H Q)) X.xe s
structure DAr (X : Cx) (es : List Expr) (t : DTA) : Prop where
  run : ∀ (pos : Pos) (pins : List (Addr × Obj)) (s : Shared) (σ : L2.St) (H : Hp) (τ : DSt) (S : Sto) (Q : List D → Sto → Prop), Inv X pins σ H s → StR X.KW H σ τ → HR X.KW H S → t τ S Q →
    wpAny (model X.prog X.w) X.A (spliced (backTo pos (starEach es X.env))) (AP X pins σ (UpA X.KW H Q)) X.xe s
structure DSm (X : Cx) (st : Stmt) (t : DTS) : Prop where
  run : ∀ (pins : List (Addr × Obj)) (s : Shared) (σ : L2.St) (H : Hp) (τ : DSt) (S : Sto) (Dn : DEnds), Inv X pins σ H s → StR X.KW H σ τ → HR X.KW H S → t Dn τ S →
    wpAny (model X.prog X.w) X.A (exec st X.env) (SP X pins (UpE X.KW H Dn)) X.xe s
structure DSs (X : Cx) (st : List Stmt) (t : DTS) : Prop where
  run : ∀ (pins : List (Addr × Obj)) (s : Shared) (σ : L2.St) (H : Hp) (τ : DSt) (S : Sto) (Dn : DEnds), Inv X pins σ H s → StR X.KW H σ τ → HR X.KW H S → t Dn τ S →
    wpAny (model X.prog X.w) X.A (execs st X.env) (SP X pins (UpE X.KW H Dn)) X.xe s
def loE (K : KW) (t : DTE) : TE := fun σ H R => ∃ τ S Q, StR K H σ τ ∧ HR K H S ∧ t τ S Q ∧ ∀ v H', Up K H Q v H' → R v H'
def loT (K : KW) (t : DTT) : TT := fun σ H R => ∃ τ S Q, StR K H σ τ ∧ HR K H S ∧ t τ S Q ∧ ∀ v H', UpT K H Q v H' → R v H'
def loA (K : KW) (t : DTA) : TA := fun σ H R => ∃ τ S Q, StR K H σ τ ∧ HR K H S ∧ t τ S Q ∧ ∀ v H', UpA K H Q v H' → R v H'
def loS (K : KW) (t : DTS) : TS := fun D σ H => ∃ τ S Dn, StR K H σ τ ∧ HR K H S ∧ t Dn τ S ∧ (∀ σ' H', UpS K H Dn.nx σ' H' → D.nx σ' H') ∧ (∀ v H', Up K H Dn.rt v H' → D.rt v H') ∧
  (∀ σ' H', UpS K H Dn.bk σ' H' → D.bk σ' H') ∧ ∀ σ' H', UpS K H Dn.ct σ' H' → D.ct σ' H'
section
variable {X : Cx}
theorem SP.imp {pins : List (Addr × Obj)} {D D' : Ends} {f : Flow} {s : Shared} (h : SP X pins D f s) (h1 : ∀ σ H, D.nx σ H → D'.nx σ H) (h2 : ∀ v H, D.rt v H → D'.rt v H) (h3 : ∀ σ H, D.bk σ H → D'.bk σ H) (h4 : ∀ σ H, D.ct σ H → D'.ct σ H) : SP X pins D' f s := by
  cases f with
  | next => obtain ⟨a, b, c, d⟩ := h; exact ⟨a, b, c, h1 _ _ d⟩
  | brk => obtain ⟨a, b, c, d⟩ := h; exact ⟨a, b, c, h3 _ _ d⟩
  | cont => obtain ⟨a, b, c, d⟩ := h; exact ⟨a, b, c, h4 _ _ d⟩
  | ret u => obtain ⟨a, b, c, d, e, g⟩ := h; exact ⟨a, b, c, d, e, h2 _ _ g⟩
theorem DE.lo {e : Expr} {t : DTE} (h : DE X e t) : PE X e (loE X.KW t) := ⟨fun pins s σ H R I ⟨τ, S, Q, st, hr, q, k⟩ => thn (h.run pins s σ H τ S Q I st hr q) fun u s' ⟨v, H', I', r, q'⟩ => ⟨v, H', I', r, k _ _ q'⟩⟩
theorem DT.lo {e : Expr} {t : DTT} (h : DT X e t) : PT X e (loT X.KW t) := ⟨fun pins s σ H R I ⟨τ, S, Q, st, hr, q, k⟩ => thn (h.run pins s σ H τ S Q I st hr q) fun u s' ⟨H', I', q'⟩ => ⟨H', I', k _ _ q'⟩⟩
theorem DAr.lo {e : List Expr} {t : DTA} (h : DAr X e t) : PA X e (loA X.KW t) := ⟨fun pos pins s σ H R I ⟨τ, S, Q, st, hr, q, k⟩ => thn (h.run pos pins s σ H τ S Q I st hr q) fun u s' ⟨v, H', I', r, q'⟩ => ⟨v, H', I', r, k _ _ q'⟩⟩
theorem DSm.lo {st : Stmt} {t : DTS} (h : DSm X st t) : PS X st (loS X.KW t) := ⟨fun pins s σ H D I ⟨τ, S, Dn, st, hr, q, k1, k2, k3, k4⟩ => thn (h.run pins s σ H τ S Dn I st hr q) fun f s' z => SP.imp z k1 k2 k3 k4⟩
theorem DSs.lo {st : List Stmt} {t : DTS} (h : DSs X st t) : PSs X st (loS X.KW t) := ⟨fun pins s σ H D I ⟨τ, S, Dn, st, hr, q, k1, k2, k3, k4⟩ => thn (h.run pins s σ H τ S Dn I st hr q) fun f s' z => SP.imp z k1 k2 k3 k4⟩
theorem loE.mk {K : KW} {t : DTE} {σ : L2.St} {H : Hp} {R : VK} {τ : DSt} {S : Sto} {Q : KD} (st : StR K H σ τ) (hr : HR K H S) (q : t τ S Q) (k : ∀ v H', Up K H Q v H' → R v H') : loE K t σ H R := ⟨τ, S, Q, st, hr, q, k⟩
theorem DE.up {e : Expr} {t : DTE} {u : TE} (h : PE X e u) (c : ∀ (σ : L2.St) (H : Hp) (τ : DSt) (S : Sto) (Q : KD), StR X.KW H σ τ → HR X.KW H S → t τ S Q → u σ H (Up X.KW H Q)) : DE X e t :=
  ⟨fun pins s σ H τ S Q I st hr q => h.run pins s σ H _ I (c σ H τ S Q st hr q)⟩
theorem DT.up {e : Expr} {t : DTT} {u : TT} (h : PT X e u) (c : ∀ (σ : L2.St) (H : Hp) (τ : DSt) (S : Sto) (Q : Bool → Sto → Prop), StR X.KW H σ τ → HR X.KW H S → t τ S Q → u σ H (UpT X.KW H Q)) : DT X e t :=
  ⟨fun pins s σ H τ S Q I st hr q => h.run pins s σ H _ I (c σ H τ S Q st hr q)⟩
theorem DW.up {e : Expr} {t : DTT} {u : TT} (h : PW X e u) (c : ∀ (σ : L2.St) (H : Hp) (τ : DSt) (S : Sto) (Q : Bool → Sto → Prop), StR X.KW H σ τ → HR X.KW H S → t τ S Q → u σ H (UpT X.KW H Q)) : DW X e t :=
  ⟨fun wh pins s σ H τ S Q I st hr q => h.run wh pins s σ H _ I (c σ H τ S Q st hr q)⟩
theorem DW.dt {e : Expr} {t : DTT} (h : DW X e t) : DT X e t := ⟨h.run _⟩
theorem DW.lo {e : Expr} {t : DTT} (h : DW X e t) : PW X e (loT X.KW t) := ⟨fun wh pins s σ H R I ⟨τ, S, Q, st, hr, q, k⟩ => thn (h.run wh pins s σ H τ S Q I st hr q) fun u s' ⟨H', I', q'⟩ => ⟨H', I', k _ _ q'⟩⟩
theorem DAr.up {e : List Expr} {t : DTA} {u : TA} (h : PA X e u) (c : ∀ (σ : L2.St) (H : Hp) (τ : DSt) (S : Sto) (Q : List D → Sto → Prop), StR X.KW H σ τ → HR X.KW H S → t τ S Q → u σ H (UpA X.KW H Q)) : DAr X e t :=
  ⟨fun pos pins s σ H τ S Q I st hr q => h.run pos pins s σ H _ I (c σ H τ S Q st hr q)⟩
theorem DSm.up {st : Stmt} {t : DTS} {u : TS} (h : PS X st u) (c : ∀ (σ : L2.St) (H : Hp) (τ : DSt) (S : Sto) (Dn : DEnds), StR X.KW H σ τ → HR X.KW H S → t Dn τ S → u (UpE X.KW H Dn) σ H) : DSm X st t :=
  ⟨fun pins s σ H τ S Dn I st hr q => h.run pins s σ H _ I (c σ H τ S Dn st hr q)⟩
theorem DSs.up {st : List Stmt} {t : DTS} {u : TS} (h : PSs X st u) (c : ∀ (σ : L2.St) (H : Hp) (τ : DSt) (S : Sto) (Dn : DEnds), StR X.KW H σ τ → HR X.KW H S → t Dn τ S → u (UpE X.KW H Dn) σ H) : DSs X st t :=
  ⟨fun pins s σ H τ S Dn I st hr q => h.run pins s σ H _ I (c σ H τ S Dn st hr q)⟩
def dC (d : D) : DTE := fun _ S Q => Q d S
def dV (i : Nat) : DTE := fun τ S Q => match τ[i]? with | some (some d) => Q d S | _ => False
theorem de_c {e : Expr} {v : V} {d : D} (h : PE X e (tC v)) (r : ∀ H, RelD X.KW H v d) : DE X e (dC d) := .up h fun _ H _ S _ _ hr q => .of (.refl _) hr (r H) q
variable {pos : Pos}
theorem de_int {i j} : DE X (.Constant (.int i) j pos) (dC (.int i)) := de_c pe_int fun _ => .int i
theorem de_bl {b j} : DE X (.Constant (.bool b) j pos) (dC (.bl b)) := de_c pe_bl fun _ => .bl b
theorem de_non {j} : DE X (.Constant .none j pos) (dC .non) := de_c pe_non fun _ => .non
theorem de_str {x j} (h : PyData.strOk x = true := by decide +kernel) : DE X (.Constant (.str x) j pos) (dC (.str x)) := de_c pe_str fun _ => .str x h
theorem de_v (i : Nat) {x : Str} (hN : X.N[i]? = some x := by rfl) (hv : Vis X.env.scope x := by first | exact Or.inl rfl | exact Or.inr (Or.inl rfl) | exact Or.inr (Or.inr rfl)) (hd : (x == ("__debug__" : Str)) = false := by decide)
    (hcd : (x == ("__classdict__" : Str)) = false := by decide) : DE X (.Name x pos) (dV i) := .up (pe_var (i := i) hN hv hd hcd) fun σ H τ S Q st hr q => by
  unfold dV at q
  cases e : τ[i]? with
  | none => rw [e] at q; exact q.elim
  | some o =>
    cases o with
    | none => rw [e] at q; exact q.elim
    | some d =>
      rw [e] at q
      obtain ⟨v, h1, h2⟩ := st.get e
      exact ⟨v, h1, .of (.refl _) hr h2 q⟩
def DOp (X : Cx) (f : Value → Value → Sem Value) (r : D → D → Sto → KD → Prop) : Prop :=
  ∃ rh : R2, OpR X f rh ∧ ∀ (x y : V) (dx dy : D) (H : Hp) (S : Sto) (Q : KD) (R : VK), HR X.KW H S → RelD X.KW H x dx → RelD X.KW H y dy → r dx dy S Q → (∀ v H', Up X.KW H Q v H' → R v H') → rh x y H R
def dBin (r : D → D → Sto → KD → Prop) (ta tb : DTE) : DTE := fun τ S Q => ta τ S fun x S1 => tb τ S1 fun y S2 => r x y S2 Q
variable {a b c : Expr} {ta tb tc : DTE} {r : D → D → Sto → KD → Prop}
theorem bin_lo {K : KW} {σ : L2.St} {H : Hp} {τ : DSt} {S : Sto} {R : V → V → Hp → Prop} {r' : D → D → Sto → Prop} (st : StR K H σ τ) (hr : HR K H S) (q : ta τ S fun x S1 => tb τ S1 fun y S2 => r' x y S2)
    (k : ∀ x y dx dy H2 S2, Ev H H2 → HR K H2 S2 → RelD K H2 x dx → RelD K H2 y dy → r' dx dy S2 → R x y H2) : loE K ta σ H fun x H1 => loE K tb σ H1 fun y H2 => R x y H2 :=
  .mk st hr q fun _ _ ⟨e1, _, _, hr1, r1, q1⟩ => .mk (st.ev e1) hr1 q1 fun _ _ ⟨e2, _, _, hr2, r2, q2⟩ => k _ _ _ _ _ _ (e1.trans e2) hr2 (r1.ev e2) r2 q2
theorem de_op {op : Operator} (ho : DOp X (binaryOp op) r) (ha : DE X a ta) (hb : DE X b tb) : DE X (.BinOp a op b pos) (dBin r ta tb) := by
  obtain ⟨rh, h1, h2⟩ := ho
  exact .up (pe_op h1 ha.lo hb.lo) fun σ H τ S Q st hr q => bin_lo st hr q fun x y dx dy H2 S2 e hr2 r1 r2 q2 => h2 x y dx dy H2 S2 Q _ hr2 r1 r2 q2 fun v H' u => u.back e
theorem de_cmp {op : CmpOp} (ho : DOp X (compareOp op) r) (ha : DE X a ta) (hb : DE X b tb) (hm : behindInMarks op b = false) : DE X (.Compare a [op] [b] pos) (dBin r ta tb) := by
  obtain ⟨rh, h1, h2⟩ := ho
  exact .up (pe_cmpR h1 ha.lo hb.lo hm) fun σ H τ S Q st hr q => bin_lo st hr q fun x y dx dy H2 S2 e hr2 r1 r2 q2 => h2 x y dx dy H2 S2 Q _ hr2 r1 r2 q2 fun v H' u => u.back e
def isB (Q : Bool → Sto → Prop) : KD := fun d S => match d with | .bl b => Q b S | _ => False
theorem isB.of {Q : Bool → Sto → Prop} {K : KW} {H H' : Hp} {v : V} (u : Up K H (isB Q) v H') : ∃ b, v = .bl b ∧ UpT K H Q b H' := by
  obtain ⟨e, d, S', hr, r, q⟩ := u
  cases d with
  | bl b => cases r; exact ⟨b, rfl, e, S', hr, q⟩
  | _ => exact q.elim
def dTst (t : DTE) : DTT := fun τ S Q => t τ S (isB Q)
theorem dt_cmp {op : CmpOp} (ho : DOp X (compareOp op) r) (ha : DE X a ta) (hb : DE X b tb) (hm : behindInMarks op b = false) : DT X (.Compare a [op] [b] pos) (dTst (dBin r ta tb)) := by
  obtain ⟨rh, h1, h2⟩ := ho
  exact .up (pt_cmpR h1 ha.lo hb.lo hm) fun σ H τ S Q st hr q => bin_lo st hr q fun x y dx dy H2 S2 e hr2 r1 r2 q2 => h2 x y dx dy H2 S2 _ _ hr2 r1 r2 q2 fun v H' u => by
    obtain ⟨k, e1, u1⟩ := isB.of u
    exact ⟨k, e1, u1.back e⟩
theorem dt_val {e : Expr} {t : DTE} (h : DE X e t) (he : ∀ whole, isTrue e X.env whole = (do let v ← whole; standAt e.pos; holding [v] (truthy v)) := by intro _; rfl) : DT X e (dTst t) :=
  .up (pt_val h.lo he) fun σ H τ S Q st hr q => .mk st hr q fun v H' u => isB.of u
def dAnd (t u : DTT) : DTT := fun τ S Q => t τ S fun c S1 => if c = true then u τ S1 Q else Q false S1
def dOr (t u : DTT) : DTT := fun τ S Q => t τ S fun c S1 => if c = true then Q true S1 else u τ S1 Q
def dNot (t : DTT) : DTT := fun τ S Q => t τ S fun c S1 => Q (!c) S1
variable {t u : DTT} {rest : List Expr}
theorem dw_and1 (ha : DT X a t) : DW X (.BoolOp .And [a] pos) t := .up (pw_and1 ha.lo) fun _ _ τ S Q st hr q => ⟨τ, S, Q, st, hr, q, fun _ _ z => z⟩
theorem dw_or1 (ha : DT X a t) : DW X (.BoolOp .Or [a] pos) t := .up (pw_or1 ha.lo) fun _ _ τ S Q st hr q => ⟨τ, S, Q, st, hr, q, fun _ _ z => z⟩
theorem dw_and (ha : DT X a t) (hb : DW X (.BoolOp .And (b :: rest) pos) u) : DW X (.BoolOp .And (a :: b :: rest) pos) (dAnd t u) := .up (pw_and ha.lo hb.lo) fun σ H τ S Q st hr q =>
  ⟨τ, S, _, st, hr, q, fun c H1 ⟨e, S1, hr1, q1⟩ => by
    cases c with
    | true => exact ⟨τ, S1, Q, st.ev e, hr1, q1, fun _ _ z => z.back e⟩
    | false => exact ⟨e, S1, hr1, q1⟩⟩
theorem dw_or (ha : DT X a t) (hb : DW X (.BoolOp .Or (b :: rest) pos) u) : DW X (.BoolOp .Or (a :: b :: rest) pos) (dOr t u) := .up (pw_or ha.lo hb.lo) fun σ H τ S Q st hr q =>
  ⟨τ, S, _, st, hr, q, fun c H1 ⟨e, S1, hr1, q1⟩ => by
    cases c with
    | false => exact ⟨τ, S1, Q, st.ev e, hr1, q1, fun _ _ z => z.back e⟩
    | true => exact ⟨e, S1, hr1, q1⟩⟩
def dIf (t : DTT) (ta tb : DTE) : DTE := fun τ S Q => t τ S fun c S1 => if c = true then ta τ S1 Q else tb τ S1 Q
theorem de_if (hc : DT X c t) (ha : DE X a ta) (hb : DE X b tb) : DE X (.IfExp c a b pos) (dIf t ta tb) := .up (pe_ifExp hc.lo ha.lo hb.lo) fun σ H τ S Q st hr q =>
  ⟨τ, S, _, st, hr, q, fun c H1 ⟨e, S1, hr1, q1⟩ => by
    cases c with
    | true => exact .mk (st.ev e) hr1 q1 fun _ _ z => z.back e
    | false => exact .mk (st.ev e) hr1 q1 fun _ _ z => z.back e⟩
def dChain (r r' : D → D → Sto → KD → Prop) (ta tb tc : DTE) : DTE := fun τ S Q => ta τ S fun x S1 => tb τ S1 fun y S2 => r x y S2 (isB fun k S3 => if k = true then tc τ S3 fun z S4 => r' y z S4 Q else Q (.bl false) S3)
theorem de_chain {op op' : CmpOp} {r' : D → D → Sto → KD → Prop} (ho : DOp X (compareOp op) r) (ho' : DOp X (compareOp op') r') (ha : DE X a ta) (hb : DE X b tb) (hc : DE X c tc)
    (hm : lastMarks [op, op'] [b, c] = false) : DE X (.Compare a [op, op'] [b, c] pos) (dChain r r' ta tb tc) := by
  obtain ⟨rh, h1, h2⟩ := ho
  obtain ⟨rh', h1', h2'⟩ := ho'
  refine .up (pe_chain h1 h1' ha.lo hb.lo hc.lo hm) fun σ H τ S Q st hr q => bin_lo st hr q fun x y dx dy H2 S2 e hr2 r1 r2 q2 => h2 x y dx dy H2 S2 _ _ hr2 r1 r2 q2 fun v H' z => ?_
  obtain ⟨k, e1, e3, S3, hr3, q3⟩ := isB.of z
  refine ⟨k, e1, ?_⟩
  cases k with
  | false => exact .of (e.trans e3) hr3 (.bl false) q3
  | true => exact .mk (st.ev (e.trans e3)) hr3 q3 fun w H4 ⟨e4, dw, S4, hr4, r4, q4⟩ => h2' y w dy dw H4 S4 _ _ hr4 (r2.ev (e3.trans e4)) r4 q4 fun _ _ z => z.back ((e.trans e3).trans e4)
def DUn (X : Cx) (f : Value → Sem Value) (r : D → Sto → KD → Prop) : Prop :=
  ∃ rh, UnR X f rh ∧ ∀ (x : V) (dx : D) (H : Hp) (S : Sto) (Q : KD) (R : VK), HR X.KW H S → RelD X.KW H x dx → r dx S Q → (∀ v H', Up X.KW H Q v H' → R v H') → rh x H R
def dUn (r : D → Sto → KD → Prop) (ta : DTE) : DTE := fun τ S Q => ta τ S fun x S1 => r x S1 Q
theorem de_un {op : UnaryOp} {r : D → Sto → KD → Prop} (ho : DUn X (unaryOp op) r) (ha : DE X a ta) : DE X (.UnaryOp op a pos) (dUn r ta) := by
  obtain ⟨rh, h1, h2⟩ := ho
  exact .up (pe_un h1 ha.lo) fun σ H τ S Q st hr q => .mk st hr q fun v H1 ⟨e, d, S1, hr1, r1, q1⟩ => h2 v d H1 S1 Q _ hr1 r1 q1 fun _ _ z => z.back e
def dNil : DTA := fun _ S Q => Q [] S
def dCons (ta : DTE) (t : DTA) : DTA := fun τ S Q => ta τ S fun x S1 => t τ S1 fun xs S2 => Q (x :: xs) S2
variable {es : List Expr} {tr : DTA}
theorem da_nil : DAr X [] dNil := .up pa_nil fun _ H _ S _ _ hr q => ⟨.refl _, [], S, hr, .nil, q⟩
theorem da_cons (ha : DE X a ta) (hb : DAr X es tr) (hs : starEach (a :: es) X.env = (false, eval a X.env) :: starEach es X.env := by rfl) : DAr X (a :: es) (dCons ta tr) :=
  .up (pa_cons ha.lo hb.lo hs) fun σ H τ S Q st hr q => .mk st hr q fun v H1 ⟨e, d, S1, hr1, r1, q1⟩ => ⟨τ, S1, _, st.ev e, hr1, q1, fun vs H2 ⟨e2, ds, S2, hr2, r2, q2⟩ => ⟨e.trans e2, d :: ds, S2, hr2, .cons (r1.ev e2) r2, q2⟩⟩
def DCall (X : Cx) (f : Value) (r : List D → Sto → KD → Prop) : Prop :=
  ∀ (pins : List (Addr × Obj)) (s : Shared) (σ : L2.St) (H : Hp) (xs : List V) (us : List Value) (ds : List D) (S : Sto) (Q : KD), Inv X pins σ H s → Vals xs us → HR X.KW H S → RelDs X.KW H xs ds → r ds S Q →
    wpAny (model X.prog X.w) X.A (call f us) (EP X pins σ (Up X.KW H Q)) X.xe s
def loC (K : KW) (r : List D → Sto → KD → Prop) : List V → Hp → VK → Prop := fun xs H R => ∃ ds S Q, HR K H S ∧ RelDs K H xs ds ∧ r ds S Q ∧ ∀ v H', Up K H Q v H' → R v H'
theorem DCall.lo {f : Value} {r : List D → Sto → KD → Prop} (h : DCall X f r) : CallR X f (loC X.KW r) := fun pins s σ H xs us R I v ⟨ds, S, Q, hr, rd, q, k⟩ => thn (h pins s σ H xs us ds S Q I v hr rd q) fun u s' ⟨z, H', I', r', q'⟩ => ⟨z, H', I', r', k _ _ q'⟩
def dCB (r : List D → Sto → KD → Prop) (t : DTA) : DTE := fun τ S Q => t τ S fun ds S1 => r ds S1 Q
theorem cb_lo {K : KW} {r : List D → Sto → KD → Prop} {σ : L2.St} {H : Hp} {τ : DSt} {S : Sto} {Q : KD} {t : DTA} (st : StR K H σ τ) (hr : HR K H S) (q : dCB r t τ S Q) : tCB (loC K r) (loA K t) σ H (Up K H Q) :=
  ⟨τ, S, _, st, hr, q, fun vs H1 ⟨e, ds, S1, hr1, r1, q1⟩ => ⟨ds, S1, Q, hr1, r1, q1, fun _ _ z => z.back e⟩⟩
theorem de_callB {x : Str} {p : Pos} {id : String} {r : List D → Sto → KD → Prop} (hc : DCall X (.builtin id) r) (hg : Gl X x) (hm : X.mg x = none) (hv : bootBuiltins x = some (.builtin id)) (ha : DAr X (a :: es) tr) (hn : x ≠ "__name__" := by decide) (hdb : (x == ("__debug__" : Str)) = false := by decide)
    (he : starEach (a :: es) X.env = (false, eval a X.env) :: starEach es X.env := by rfl) (hpl : (backTo pos (starEach es X.env)).any (·.1) = false := by rfl) : DE X (.Call (.Name x p) (a :: es) [] pos) (dCB r tr) :=
  .up (pe_callB hc.lo hg hm hv ha.lo hn hdb he hpl) fun _ _ _ _ _ st hr q => cb_lo st hr q
theorem de_callT {x : Str} {p : Pos} {T : String} {r : List D → Sto → KD → Prop} (hc : DCall X (.type T) r) (hg : Gl X x) (hm : X.mg x = none) (hv : bootBuiltins x = some (.type T)) (ha : DAr X (a :: es) tr) (hn : x ≠ "__name__" := by decide) (hdb : (x == ("__debug__" : Str)) = false := by decide)
    (he : starEach (a :: es) X.env = (false, eval a X.env) :: starEach es X.env := by rfl) (hpl : (backTo pos (starEach es X.env)).any (·.1) = false := by rfl) : DE X (.Call (.Name x p) (a :: es) [] pos) (dCB r tr) :=
  .up (pe_callTy hc.lo hg hm hv ha.lo hn hdb he hpl) fun _ _ _ _ _ st hr q => cb_lo st hr q
def dTup (t : DTA) : DTE := fun τ S Q => t τ S fun ds S1 => ds.length ≤ sizeLine ∧ Q (.tup ds) S1
def dLst (t : DTA) : DTE := fun τ S Q => t τ S fun ds S1 => ds.length ≤ sizeLine ∧ ∀ p, S1 p = none → Q (.ref p) (put S1 p (.lst ds))
theorem HR.free {K : KW} {H : Hp} {S : Sto} {p : Addr} (h : HR K H S) (n : H p = none) : S p = none := by
  cases e : S p with
  | none => rfl
  | some o =>
    have := h p o e
    cases o with
    | lst ds => obtain ⟨_, z, _⟩ := this; rw [n] at z; cases z
    | dct kvs => rcases this with ⟨_, z, _⟩ | ⟨_, z, _⟩ <;> (rw [n] at z; cases z)
    | fdc o kvs => rcases this with ⟨_, z, _⟩ | ⟨_, z, _⟩ <;> (rw [n] at z; cases z)
    | set ds => obtain ⟨_, _, _, z⟩ := this; rw [n] at z; cases z
    | tab ps => exact absurd (n.symm.trans this) (by simp)
    | cod q => exact absurd (n.symm.trans this) (by simp)
    | exc fs => obtain ⟨_, z, _⟩ := this; rw [n] at z; cases z
theorem HR.lst {K : KW} {H : Hp} {S : Sto} {p : Addr} {vs : List V} {ds : List D} (h : HR K H S) (n : H p = none) (r : RelDs K H vs ds) : HR K (upd H p (.lst vs)) (put S p (.lst ds)) := fun a o e => by
  by_cases z : a = p
  · subst z; rw [put_same] at e; cases e; exact ⟨vs, upd_same, r.ev (.new n)⟩
  · rw [put_ne z] at e; exact h.new n a o e
theorem HR.chg {K : KW} {H : Hp} {S : Sto} {p : Addr} {u o : HO} {b : AO} (h : HR K H S) (e : H p = some u) (hu : stays u = false) (k : OkO K (upd H p o) p b) : HR K (upd H p o) (put S p b) := fun a x q => by
  by_cases z : a = p
  · subst z; rw [put_same] at q; cases q; exact k
  · rw [put_ne z] at q; exact (h a x q).ev (.upd e hu) fun y w => by rw [upd_ne z]; exact w
def tupO (us : List Value) : Obj := { cls := .type "tuple", data := .seq us.toArray }
theorem Inv.laidT {X : Cx} {pins : List (Addr × Obj)} {s : Shared} {σ : L2.St} {H : Hp} {vs : List V} {us : List Value} (I : Inv X pins σ H s) (r : Vals vs us) (z : vs.length ≤ sizeLine) :
    Inv X pins σ (upd H s.heap.objs.size (.frz (tupO us) (.tup vs))) { s with heap := s.heap.push (tupO us) } :=
  I.laid (t' := s.toks) (fun b u e => Heap.get?_push_of_some _ e) (Nat.le_refl _) ⟨Heap.get?_push_size _ rfl, z, us, r, ⟨_, Heap.get?_push_size _ rfl, rfl, _, rfl⟩⟩
theorem relD_new {K : KW} {H : Hp} {p : Addr} {vs : List V} {ds : List D} {us : List Value} (n : H p = none) (r : RelDs K H vs ds) : RelD K (upd H p (.frz (tupO us) (.tup vs))) (.ref p) (.tup ds) :=
  .tup (.inl ⟨_, rfl, upd_same⟩) (r.ev (.new n))
theorem de_tup {k} (h : DAr X es tr) : DE X (.Tuple es k pos) (dTup tr) := ⟨fun pins s σ H τ S Q I st hr hq => by
  refine wpAny_Tuple_spliced (thn (h.run pos pins s σ H τ S _ I st hr hq) fun us s1 ⟨xs, H1, I1, r, e, ds, S1, hr1, rd, z, q⟩ => ⟨by rw [← r.length, rd.length]; exact z, ?_⟩)
  have hf : H1 s1.heap.objs.size = none := I1.hok.fresh (Nat.le_refl _)
  exact ⟨.ref s1.heap.objs.size, _, Inv.laidT I1 r (by rw [rd.length]; exact z), rfl, .of (e.trans (.new hf)) (hr1.new hf) (relD_new hf rd) q⟩⟩
theorem de_lst (h : DAr X es tr) : DE X (.List es pos) (dLst tr) := .up (pe_lst h.lo) fun σ H τ S Q st hr q => ⟨τ, S, _, st, hr, q, fun vs H1 ⟨e, ds, S1, hr1, r1, z, q1⟩ =>
  ⟨by rw [r1.length]; exact z, fun p n => .of (e.trans (.new n)) (hr1.lst n r1) (.ref p) (q1 p (hr1.free n))⟩⟩
end
end DL
namespace DL
open PySem PySem.Spec PyProof.Rows L2
section
variable {X : Cx} {pos : Pos}
theorem loS.e {K : KW} {t : DTS} {σ : L2.St} {H H0 : Hp} {τ : DSt} {S : Sto} {Dn : DEnds} (e : Ev H0 H) (st : StR K H σ τ) (hr : HR K H S) (q : t Dn τ S) : loS K t (UpE K H0 Dn) σ H :=
  ⟨τ, S, Dn, st, hr, q, fun _ _ z => z.back e, fun _ _ z => z.back e, fun _ _ z => z.back e, fun _ _ z => z.back e⟩
def dNext : DTS := fun Dn τ S => Dn.nx τ S
def dSeq (t u : DTS) : DTS := fun Dn τ S => t { Dn with nx := u Dn } τ S
variable {st : Stmt} {rest : List Stmt} {t u : DTS} {e : Expr} {te : DTE}
theorem dss_nil : DSs X [] dNext := .up pss_nil fun σ H τ S Dn st hr q => .same st hr q
theorem dss_cons (h1 : DSm X st t) (h2 : DSs X rest u) : DSs X (st :: rest) (dSeq t u) := .up (pss_cons h1.lo h2.lo) fun σ H τ S Dn sr hr q =>
  ⟨τ, S, { Dn with nx := u Dn }, sr, hr, q, fun σ' H' ⟨e, τ', S', hr', sr', q'⟩ => loS.e e sr' hr' q', fun _ _ z => z, fun _ _ z => z, fun _ _ z => z⟩
theorem dss_one (h1 : DSm X st t) : DSs X [st] t := .up (pss_one h1.lo) fun σ H τ S Dn sr hr q => loS.e (.refl _) sr hr q
def dDrop (te : DTE) : DTS := fun Dn τ S => te τ S fun _ S1 => Dn.nx τ S1
theorem ds_expr (he : DE X e te) (hs : swapsWith e none pos.line X.env = pure false := by rfl) : DSm X (.Expr e pos) (dDrop te) := .up (ps_expr he.lo hs) fun σ H τ S Dn st hr q =>
  .mk st hr q fun v H1 ⟨e, d, S1, hr1, r1, q1⟩ => ⟨e, τ, S1, hr1, st.ev e, q1⟩
def dRet (te : DTE) : DTS := fun Dn τ S => te τ S Dn.rt
theorem ds_ret (he : DE X e te) : DSm X (.Return (some e) pos) (dRet te) := .up (ps_ret he.lo) fun σ H τ S Dn st hr q => .mk st hr q fun v H1 z => z
def dIfS (c : DTT) (t u : DTS) : DTS := fun Dn τ S => c τ S fun b S1 => if b = true then t Dn τ S1 else u Dn τ S1
theorem ds_if {c : Expr} {a b : List Stmt} {tc : DTT} (hc : DT X c tc) (ha : DSs X a t) (hb : DSs X b u) : DSm X (.If c a b pos) (dIfS tc t u) := .up (ps_if hc.lo ha.lo hb.lo) fun σ H τ S Dn st hr q =>
  ⟨τ, S, _, st, hr, q, fun c H1 ⟨e, S1, hr1, q1⟩ => by
    cases c with
    | true => exact loS.e e (st.ev e) hr1 q1
    | false => exact loS.e e (st.ev e) hr1 q1⟩
abbrev DTG := D → DSt → Sto → (DSt → Sto → Prop) → Prop
abbrev DTGs := List D → DSt → Sto → (DSt → Sto → Prop) → Prop
def loG (K : KW) (g : DTG) : TG := fun v σ H R => ∃ d τ S Q, RelD K H v d ∧ StR K H σ τ ∧ HR K H S ∧ g d τ S Q ∧ ∀ σ' H', UpS K H Q σ' H' → R σ' H'
def loGs (K : KW) (g : DTGs) : TGs := fun vs σ H R => ∃ ds τ S Q, RelDs K H vs ds ∧ StR K H σ τ ∧ HR K H S ∧ g ds τ S Q ∧ ∀ σ' H', UpS K H Q σ' H' → R σ' H'
structure DG (X : Cx) (target : Expr) (g : DTG) : Prop where
  pg : PG X target (loG X.KW g)
structure DGs (X : Cx) (ts : List Expr) (g : DTGs) : Prop where
  pg : PGs X ts (loGs X.KW g)
theorem DG.up {tg : Expr} {g : DTG} {h : TG} (p : PG X tg h) (c : ∀ v σ H d τ S Q, RelD X.KW H v d → StR X.KW H σ τ → HR X.KW H S → g d τ S Q → h v σ H (UpS X.KW H Q)) : DG X tg g :=
  ⟨⟨fun pins s σ H v u R I r ⟨d, τ, S, Q, rd, st, hr, q, k⟩ => thn (p.run pins s σ H v u _ I r (c v σ H d τ S Q rd st hr q)) fun _ s' ⟨σ', H', I', z⟩ => ⟨σ', H', I', k _ _ z⟩⟩⟩
theorem DGs.up {tg : List Expr} {g : DTGs} {h : TGs} (p : PGs X tg h) (c : ∀ v σ H d τ S Q, RelDs X.KW H v d → StR X.KW H σ τ → HR X.KW H S → g d τ S Q → h v σ H (UpS X.KW H Q)) : DGs X tg g :=
  ⟨⟨fun pins s σ H v u R I r ⟨d, τ, S, Q, rd, st, hr, q, k⟩ => thn (p.run pins s σ H v u _ I r (c v σ H d τ S Q rd st hr q)) fun _ s' ⟨σ', H', I', z⟩ => ⟨σ', H', I', k _ _ z⟩⟩⟩
def gdName (i : Nat) : DTG := fun d τ S Q => Q (τ.set i (some d)) S
theorem dg_name {i : Nat} {x : Str} (hN : X.N.Nodup) (hi : X.N[i]? = some x) (hx : Loc X.env.scope x) (hf : X.fn x = true ∨ X.env.scope.names.lookup x = some .local := by first | exact .inl rfl | exact .inr rfl | assumption) : DG X (.Name x pos) (gdName i) :=
  .up (pg_name hN hi hx hf) fun v σ H d τ S Q rd st hr q => ⟨.refl _, _, S, hr, st.set rd i, q⟩
def gdNil : DTGs := fun ds τ S Q => ds = [] ∧ Q τ S
def gdCons (g : DTG) (h : DTGs) : DTGs := fun ds τ S Q => match ds with | d :: r => g d τ S fun τ' S' => h r τ' S' Q | [] => False
theorem dgs_nil : DGs X [] gdNil := .up pgs_nil fun v σ H d τ S Q rd st hr ⟨e, q⟩ => by
  subst e; cases rd; exact ⟨rfl, .same st hr q⟩
theorem dgs_cons {e : Expr} {es : List Expr} {g : DTG} {h : DTGs} (h1 : DG X e g) (h2 : DGs X es h) (hs : (assignEach (e :: es) X.env).map (·.2) = assign e X.env :: (assignEach es X.env).map (·.2) := by rfl) : DGs X (e :: es) (gdCons g h) :=
  .up (pgs_cons h1.pg h2.pg hs) fun v σ H ds τ S Q rd st hr q => by
    cases rd with
    | nil => exact q.elim
    | cons r t => exact ⟨_, _, rfl, _, τ, S, _, r, st, hr, q, fun σ' H' ⟨e, τ', S', hr', st', q'⟩ => ⟨_, τ', S', Q, t.ev e, st', hr', q', fun _ _ z => z.back e⟩⟩
def gdTup (n : Nat) (g : DTGs) : DTG := fun d τ S Q => match d with | .tup ds => ds.length = n ∧ g ds τ S Q | .wt ds => ds.length = n ∧ g ds τ S Q | _ => False
theorem dg_tup {es : List Expr} {k : Nat} {g : DTGs} {n : Nat} (hc : X.calm = true) (h : DGs X es g) (hn : (assignEach es X.env).length = n := by rfl) (hst : (assignEach es X.env).findIdx? (·.1) = none := by rfl) : DG X (.Tuple es k pos) (gdTup n g) :=
  .up (pg_tup hc h.pg hn hst) fun v σ H d τ S Q rd st hr q => by
    cases d with
    | tup ds =>
      cases rd with
      | tup t r => exact ⟨_, _, rfl, t.sq, by rw [r.length]; exact q.1, _, τ, S, Q, r, st, hr, q.2, fun _ _ z => z⟩
    | wt ds =>
      cases rd with
      | wt t r => exact ⟨_, _, rfl, .inl (.inl t), by rw [r.length]; exact q.1, _, τ, S, Q, r, st, hr, q.2, fun _ _ z => z⟩
    | _ => exact q.elim
def DSet (X : Cx) (t : D → D → D → Sto → (Sto → Prop) → Prop) : Prop :=
  ∀ (pins : List (Addr × Obj)) (s : Shared) (σ : L2.St) (H : Hp) (o i v : V) (od id vd : D) (ov iv u : Value) (S : Sto) (Q : Sto → Prop), Inv X pins σ H s → HR X.KW H S → RelV o ov → RelV i iv → RelV v u → RelD X.KW H o od → RelD X.KW H i id → RelD X.KW H v vd → t od id vd S Q →
    wpAny (model X.prog X.w) X.A (setItem ov iv u) (fun _ s' => ∃ H', Inv X pins σ H' s' ∧ Ev H H' ∧ ∃ S', HR X.KW H' S' ∧ Q S') X.xe s
def gdSub (to ti : DTE) (t : D → D → D → Sto → (Sto → Prop) → Prop) : DTG := fun v τ S Q => to τ S fun o S1 => ti τ S1 fun i S2 => t o i v S2 fun S3 => Q τ S3
theorem dg_sub {o i : Expr} {to ti : DTE} {t : D → D → D → Sto → (Sto → Prop) → Prop} (ho : DE X o to) (hi : DE X i ti) (hs : DSet X t)
    (ha : ∀ v, assign (.Subscript o i pos) X.env v = (do
      let ov ← holding [v] (eval o X.env)
      let iv ← holding [v, ov] (eval i X.env)
      standAt pos
      holding [v, ov, iv] (setItem ov iv v)
      release [v, ov, iv] []) := by intro _; rfl) : DG X (.Subscript o i pos) (gdSub to ti t) := by
  refine .up (pg_sub (t := fun o i v H R => ∃ od id vd S Q, HR X.KW H S ∧ RelD X.KW H o od ∧ RelD X.KW H i id ∧ RelD X.KW H v vd ∧ t od id vd S Q ∧ ∀ H' S', Ev H H' → HR X.KW H' S' → Q S' → R H') ho.lo hi.lo ?_ ha) fun v σ H d τ S Q rd st hr q =>
    .mk st hr q fun o1 H1 ⟨e1, od, S1, hr1, r1, q1⟩ => .mk (st.ev e1) hr1 q1 fun i1 H2 ⟨e2, id, S2, hr2, r2, q2⟩ =>
      ⟨od, id, d, S2, _, hr2, r1.ev e2, r2, rd.ev (e1.trans e2), q2, fun H' S' e3 hr' q3 => ⟨(e1.trans e2).trans e3, τ, S', hr', st.ev ((e1.trans e2).trans e3), q3⟩⟩
  intro pins s σ H o i v ov iv u R I r1 r2 r3 ⟨od, id, vd, S, Q, hr, d1, d2, d3, q, k⟩
  exact thn (hs pins s σ H o i v od id vd ov iv u S Q I hr r1 r2 r3 d1 d2 d3 q) fun _ s' ⟨H', I', e, S', hr', q'⟩ => ⟨H', I', k H' S' e hr' q'⟩
def dAsg (te : DTE) (g : DTG) : DTS := fun Dn τ S => te τ S fun x S1 => g x τ S1 Dn.nx
theorem ds_asg {tg : Expr} {g : DTG} (he : DE X e te) (hg : DG X tg g) (hs : swapsWithSole [tg] e pos.line X.env = pure false := by rfl) (hw : swappedStores [tg] e X.env = pure none := by rfl)
    (h1 : (assignEach [tg] X.env).map (·.2) = [assign tg X.env] := by rfl) : DSm X (.Assign [tg] e pos) (dAsg te g) := .up (ps_asg he.lo hg.pg hs hw h1) fun σ H τ S Dn st hr q =>
  .mk st hr q fun v H1 ⟨e, d, S1, hr1, r1, q1⟩ => ⟨d, τ, S1, _, r1, st.ev e, hr1, q1, fun _ _ z => z.back e⟩
theorem ds_set {i : Nat} {x : Str} {p' : Pos} (hN : X.N.Nodup) (hi : X.N[i]? = some x) (hx : Loc X.env.scope x) (he : DE X e te) (hs : swapsWith e (some (.Name x p')) pos.line X.env = pure false := by rfl) (hf : X.fn x = true ∨ X.env.scope.names.lookup x = some .local := by first | exact .inl rfl | exact .inr rfl | assumption) :
    DSm X (.Assign [.Name x p'] e pos) (dAsg te (gdName i)) := .up (ps_set hN hi hx he.lo hs hf) fun σ H τ S Dn st hr q =>
  .mk st hr q fun v H1 ⟨e, d, S1, hr1, r1, q1⟩ => ⟨e, _, S1, hr1, (st.ev e).set r1 i, q1⟩
def dPar (i j : Nat) (ta : DTA) : DTS := fun Dn τ S => ta τ S fun ds S1 => match ds with | [x, y] => Dn.nx ((τ.set i (some x)).set j (some y)) S1 | _ => False
theorem ds_par {i j : Nat} {x y : Str} {a b : Expr} {ta : DTA} {px py pt : Pos} {kt k2 pt2} (hc : X.calm = true) (hN : X.N.Nodup) (hi : X.N[i]? = some x) (hj : X.N[j]? = some y) (hij : i ≠ j)
    (hx : X.env.scope.names.lookup x = some .local) (hy : X.env.scope.names.lookup y = some .local) (ha : DAr X [a, b] ta)
    (hw : swappedStores [.Tuple [.Name x px, .Name y py] kt pt] (.Tuple [a, b] k2 pt2) X.env = pure (some [x, y]))
    (hs : swapsWithSole [.Tuple [.Name x px, .Name y py] kt pt] (.Tuple [a, b] k2 pt2) pos.line X.env = pure false := by rfl) :
    DSm X (.Assign [.Tuple [.Name x px, .Name y py] kt pt] (.Tuple [a, b] k2 pt2) pos) (dPar i j ta) := .up (ps_par hc hN hi hj hij hx hy ha.lo hw hs) fun σ H τ S Dn st hr q =>
  ⟨τ, S, _, st, hr, q, fun vs H1 ⟨e, ds, S1, hr1, r1, q1⟩ => by
    cases r1 with
    | nil => exact q1.elim
    | cons r t =>
      cases t with
      | nil => exact q1.elim
      | cons r' t' =>
        cases t' with
        | nil => exact ⟨_, _, rfl, e, _, S1, hr1, (((st.ev e).set r i).set r' j), q1⟩
        | cons _ _ => exact q1.elim⟩
def whF (c : DTT) (tb : DTS) (Dn : DEnds) : Nat → DSt → Sto → Prop
  | 0, _, _ => False
  | n + 1, τ, S => c τ S fun b S1 => if b = true then tb { Dn with nx := whF c tb Dn n, ct := whF c tb Dn n, bk := Dn.nx } τ S1 else Dn.nx τ S1
def dWhile (c : DTT) (tb : DTS) : DTS := fun Dn τ S => ∃ n, whF c tb Dn n τ S
theorem ds_while {c : Expr} {body : List Stmt} {tc : DTT} {tb : DTS} (hp : PassesOwn (model X.prog X.w) X.A X.env X.xe) (hc : DT X c tc) (hb : DSs X body tb) : DSm X (.While c body [] pos) (dWhile tc tb) :=
  .up (ps_while hp hc.lo hb.lo) fun σ H τ S Dn st hr ⟨n, q⟩ => by
    refine ⟨fun n σ' H' => UpS X.KW H (whF tc tb Dn n) σ' H', ⟨n, .same st hr q⟩, ?_⟩
    rintro m σ1 H1 ⟨e1, τ1, S1, hr1, st1, q1⟩
    cases m with
    | zero => exact q1.elim
    | succ m =>
      refine ⟨τ1, S1, _, st1, hr1, q1, fun b H2 ⟨e2, S2, hr2, q2⟩ => ?_⟩
      cases b with
      | false => exact ⟨e1.trans e2, τ1, S2, hr2, st1.ev e2, q2⟩
      | true => exact ⟨UpS X.KW H (whF tc tb Dn m), fun σ' H' z => ⟨m, Nat.lt_succ_self m, z⟩, loS.e (e1.trans e2) (st1.ev e2) hr2 q2⟩
abbrev DTI := DSt → Sto → (List D → (Sto → Prop) → Sto → Prop) → Prop
def ItD (K : KW) (H0 : Hp) (ds : List D) (stab : Sto → Prop) : It :=
  ⟨fun i H => Ev H0 H ∧ (∃ S, HR K H S ∧ stab S) ∧ i < ds.length, fun i H x H' => Ev H H' ∧ (∀ S, HR K H S → HR K H' S) ∧ ∃ d, ds[i]? = some d ∧ RelD K H' x d, fun i H => Ev H0 H ∧ (∃ S, HR K H S ∧ stab S) ∧ i = ds.length⟩
def loI (K : KW) (wi : DTI) : TI := fun σ H R => ∃ τ S Rd, StR K H σ τ ∧ HR K H S ∧ wi τ S Rd ∧ ∀ ds stab S1 H1, Ev H H1 → HR K H1 S1 → Rd ds stab S1 → R (ItD K H1 ds stab) H1
structure DI (X : Cx) (tg iter : Expr) (wi : DTI) : Prop where
  pi : PI X tg iter (loI X.KW wi)
theorem Turn.imp {P : Program} {w : World} {K : PySem.W.Frag} {tg : Expr} {J J' : It} {fp : List Addr} {it : Addr} {tn : Nat → Heap → Prop} (T : Turn P w K tg J fp it tn) (h1 : ∀ i H, J'.go i H → J.go i H) (h2 : ∀ i H x H', J'.go i H → J.yld i H x H' → J'.yld i H x H')
    (h3 : ∀ i H, J'.stop i H → J.stop i H) : Turn P w K tg J' fp it tn where
  mem := T.mem
  obj := T.obj
  keep := T.keep
  item := fun X a b c d i pins s σ H E I f st g => thn (T.item X a b c d i pins s σ H E I f st (h1 _ _ g)) fun r s1 ⟨u, hu, z⟩ => ⟨u, hu, thn z fun _ s2 ⟨x, H', I', r', y, q⟩ => ⟨x, H', I', r', h2 _ _ _ _ g y, q⟩⟩
  done := fun X a b c d i pins s σ H E I f st g => T.done X a b c d i pins s σ H E I f st (h3 _ _ g)
  self := T.self
theorem DI.up {tg iter : Expr} {wi : DTI} {w : TI} (p : PI X tg iter w)
    (c : ∀ σ H τ S Rd, StR X.KW H σ τ → HR X.KW H S → wi τ S Rd → w σ H fun J H1 => ∃ ds stab S1, Ev H H1 ∧ HR X.KW H1 S1 ∧ Rd ds stab S1 ∧ (∀ i H, (ItD X.KW H1 ds stab).go i H → J.go i H) ∧ (∀ i H x H', (ItD X.KW H1 ds stab).go i H → J.yld i H x H' → (ItD X.KW H1 ds stab).yld i H x H') ∧ ∀ i H, (ItD X.KW H1 ds stab).stop i H → J.stop i H) : DI X tg iter wi :=
  ⟨⟨fun pins s σ H R I ⟨τ, S, Rd, st, hr, q, k⟩ => thn (p.run pins s σ H _ I (c σ H τ S Rd st hr q)) fun v s1 h => thn h fun itv s2 ⟨it, fp, tn, J, H', e, I', T, t0, f, ds, stab, S1, ev, hr1, rd, h1, h2, h3⟩ =>
    ⟨it, fp, tn, ItD X.KW H' ds stab, H', e, I', Turn.imp T h1 h2 h3, t0, f, k ds stab S1 H' ev hr1 rd⟩⟩⟩
def loopF (g : DTG) (tb : DTS) (Dn : DEnds) (stab : Sto → Prop) : List D → DSt → Sto → Prop
  | [], τ, S => stab S ∧ Dn.nx τ S
  | d :: ds, τ, S => stab S ∧ g d τ S fun τ2 S2 => tb { Dn with nx := loopF g tb Dn stab ds, ct := loopF g tb Dn stab ds, bk := Dn.nx } τ2 S2
def dFor (wi : DTI) (g : DTG) (tb : DTS) : DTS := fun Dn τ S => wi τ S fun ds stab S1 => loopF g tb Dn stab ds τ S1
theorem ds_for {tg iter : Expr} {body : List Stmt} {wi : DTI} {g : DTG} {tb : DTS} (hp : PassesOwn (model X.prog X.w) X.A X.env X.xe) (hc : X.calm = true) (hi : DI X tg iter wi) (hg : DG X tg g) (hb : DSs X body tb)
    (hs : ∀ x, foldedSetIterable iter X.env x = pure x := by intro _; rfl) : DSm X (.For tg iter body [] pos) (dFor wi g tb) :=
  .up (ps_for hp hc hi.pi hg.pg hb.lo hs) fun σ H τ S Dn st hr q => by
    refine ⟨τ, S, _, st, hr, q, fun ds stab S1 H1 e1 hr1 q1 => ?_⟩
    refine ⟨fun i m σ' H' => m = ds.length - i ∧ i ≤ ds.length ∧ Ev H1 H' ∧ UpS X.KW H (loopF g tb Dn stab (ds.drop i)) σ' H', ⟨ds.length, by simp, Nat.zero_le _, .refl _, e1, τ, S1, hr1, st.ev e1, by simpa using q1⟩, ?_⟩
    rintro i m σ2 H2 ⟨em, hi, e12, e2, τ2, S2, hr2, st2, q2⟩
    by_cases hlt : i < ds.length
    · rw [List.drop_eq_getElem_cons hlt] at q2
      refine .inr ⟨⟨e12, ⟨S2, hr2, q2.1⟩, hlt⟩, fun σ' H' => Ev H1 H' ∧ UpS X.KW H (loopF g tb Dn stab (ds.drop (i + 1))) σ' H', fun σ' H' ⟨z1, z⟩ => ⟨m - 1, by omega, by omega, by omega, z1, z⟩, fun x H3 ⟨e3, k3, d, hd, r3⟩ => ?_⟩
      rw [List.getElem?_eq_getElem hlt] at hd
      cases hd
      refine ⟨_, τ2, S2, _, r3, st2.ev e3, k3 _ hr2, q2.2, fun σ4 H4 ⟨e4, τ4, S4, hr4, st4, q4⟩ => ?_⟩
      have e14 : Ev H1 H4 := (e12.trans e3).trans e4
      have e04 : Ev H H4 := (e2.trans e3).trans e4
      refine ⟨τ4, S4, _, st4, hr4, q4, fun _ _ z => ⟨e14.trans z.1, z.back e04⟩, fun _ _ z => z.back e04, fun _ _ z => z.back e04, fun _ _ z => ⟨e14.trans z.1, z.back e04⟩⟩
    · have ei : i = ds.length := by omega
      subst ei
      rw [List.drop_length] at q2
      exact .inl ⟨⟨e12, ⟨S2, hr2, q2.1⟩, rfl⟩, e2, τ2, S2, hr2, st2, q2.2⟩
end
end DL
namespace DL
open PySem PySem.Spec PyProof.Rows L2
abbrev KX := Value → List (Str × D) → Sto → Prop
def UpX (K : KW) (H : Hp) (E : KX) : XK := fun cls dx H' => Ev H H' ∧ ∃ fs S', HR K H' S' ∧ ((dx = none ∧ fs = []) ∨ ∃ d vs, dx = some d ∧ H' d = some (.xd vs) ∧ RelFs K H' vs fs) ∧ E cls fs S'
theorem UpX.back {K : KW} {H H1 H' : Hp} {E : KX} {c d} (e : Ev H H1) (u : UpX K H1 E c d H') : UpX K H E c d H' := ⟨e.trans u.1, u.2⟩
abbrev DSp := List D → Sto → KD → KX → Prop
abbrev noX : KX := fun _ _ _ => False
structure FnD (P : Program) (w : World) (K : PySem.W.Frag) (mg : Str → Option Value) (base : Heap) (k : Nat) (f : Addr) (fd : FuncData) (ps : List Str) (sp : DSp) : Prop where
  len : ∀ ds S Q E, sp ds S Q E → ds.length = ps.length
  run : ∀ (A : Around) (outer : List Env) (s : Shared) (H : Hp) (args : Args) (us : List Value) (vs : List V) (ds : List D) (S : Sto) (Q : KD) (E : KX), Room k A → A.guards = some [] →
    Env0 P w K mg base A outer s H → BindsTo s fd args (ps.zip us) → Vals vs us → RelDs ⟨K, P, w⟩ H vs ds → HR ⟨K, P, w⟩ H S → sp ds S Q E →
    codeAny (model P w) A (.call (.ref f) args) (CR (CX P w) outer P w H s (Up ⟨K, P, w⟩ H Q) (UpX ⟨K, P, w⟩ H E)) s
section
variable {P : Program} {w : World} {K : PySem.W.Frag} {mg : Str → Option Value} {base : Heap} {j k : Nat} {f : Addr} {fd : FuncData} {ps : List Str} {sp sp' : DSp}
theorem FnD.mono (F : FnD P w K mg base j f fd ps sp) (h : j ≤ k) : FnD P w K mg base k f fd ps sp := ⟨F.len, fun A outer s H args us vs ds S Q E hr => F.run A outer s H args us vs ds S Q E (hr.mono h)⟩
theorem FnD.imp (F : FnD P w K mg base k f fd ps sp) (h : ∀ ds S Q E, sp' ds S Q E → sp ds S Q E) : FnD P w K mg base k f fd ps sp' :=
  ⟨fun ds S Q E q => F.len ds S Q E (h _ _ _ _ q), fun A outer s H args us vs ds S Q E hr hg he hb hv hd hs q => F.run A outer s H args us vs ds S Q E hr hg he hb hv hd hs (h _ _ _ _ q)⟩
def startD (N : List Str) (ds : List D) : DSt := ds.map some ++ List.replicate (N.length - ds.length) none
theorem startD.rel {K : KW} {H : Hp} {N : List Str} {vs : List V} {ds : List D} (r : RelDs K H vs ds) : StR K H (L2.start N vs) (startD N ds) := by
  unfold L2.start startD
  rw [r.length]
  exact StR.somes r (StR.nones _)
def bodyEnds (Q : KD) : DEnds := ⟨fun _ S => Q .non S, Q, fun _ _ => False, fun _ _ => False⟩
theorem FnD.of {x qual : Str} {st : Stmt} {N : List Str} (F : Fun K x qual st f fd) (S : FnScope N ps (defScope st)) (len : ∀ ds S Q E, sp ds S Q E → ds.length = ps.length)
    (hbody : ∀ (cdv : Value) (A : Around) (outer : List Env) (s : Shared) (H : Hp) (ds : List D) (So : Sto) (Q : KD) (E : KX), Room k (A.deeper (envOfC qual (defScope st) s.heap.objs.size f cdv)) → (A.deeper (envOfC qual (defScope st) s.heap.objs.size f cdv)).guards = some [] → sp ds So Q E →
      ∃ t, DSs (cxOf (CX P w) P w K mg base N qual (defScope st) f cdv A outer s H (UpX ⟨K, P, w⟩ H E)) (defBody st) t ∧ t (bodyEnds Q) (startD N ds) So) : FnD P w K mg base (k + 1) f fd ps sp := by
  obtain ⟨oc, od, kV, doc, pm, an, cdv, ct, osl, rfl, lk, hcd⟩ := F.ex
  refine ⟨len, fun A outer s H args us vs ds So Q E hr hgd e0 hb rv rd hR hsp => ?_⟩
  have hl : vs.length = ps.length := by rw [rd.length]; exact len _ _ _ _ hsp
  have stays : ∀ b o, base.get? b = some o → s.heap.get? b = some o := fun b o e => (e0.bs b o e).1
  have inK : K.In s.heap := e0.mod.kin.keeps stays
  have lim : s.heap.NoLimit := e0.mod.nolimit.keeps stays
  have params : ∀ y ∈ ps.zip us, (defScope st).names.lookup y.1 = some .local ∨ ((defScope st).names.lookup y.1 = some .cell ∧ ((cellsFrom (s.heap.objs.size + 1) (defScope st).names []).lookup y.1).isSome = true) := by
    rintro ⟨n, v⟩ hy
    rcases S.par n (List.of_mem_zip hy).1 with q | q
    · exact .inl q
    · exact .inr ⟨q, PySem.W.cellsFrom_some _ _ _ (.inl q)⟩
  refine codeAny_call_function hr.depth (inK _ _ lk) rfl S.co S.gen rfl (PySem.W.codeRec_of inK hcd) (hb _ _ _ _ (wpAny_newFunctionEnv_cells S.kind params fun env he s1 entered => ?_))
  subst he
  refine ⟨lim.keeps entered.toInCall.keep, codeAny_func ?_⟩
  obtain ⟨t, ht, hq⟩ := hbody cdv A outer s H ds So Q E (hr.deeper _) (by
    first
      | exact hgd
      | simpa [Around.deeper, Code.guards, pushGuards, Code.isGuard] using hgd) hsp
  have I := inv_start (CX := CX P w) (N := N) (mg := mg) (E := UpX ⟨K, P, w⟩ H E) S hr.hd e0 hl rv entered
  refine wpAny_mono (ht.run [] s1 (L2.start N vs) H _ So _ I (startD.rel rd) hR hq) (fun fl s' z => ?_) fun _ _ z => z
  have fin : ∀ {σ' H' v u}, Inv (cxOf (CX P w) P w K mg base N qual (defScope st) f cdv A outer s H (UpX ⟨K, P, w⟩ H E)) [] σ' H' s' → RelV v u → Up ⟨K, P, w⟩ H Q v H' → CE outer P w H s (Up ⟨K, P, w⟩ H Q) u s' :=
    fun J r q => ⟨_, _, J.os, J.bare, J.base, J.hok, r, q⟩
  cases fl with
  | ret u => obtain ⟨v, σ', H', J, r, q⟩ := z; exact fin J r q
  | next => obtain ⟨σ', H', J, e, τ', S', hr', _, q⟩ := z; exact fin (v := .non) (u := .none) J rfl (.of e hr' .non q)
  | brk => obtain ⟨_, _, _, _, _, _, _, _, q⟩ := z; exact q.elim
  | cont => obtain ⟨_, _, _, _, _, _, _, _, q⟩ := z; exact q.elim
end
section
variable {X : Cx} {k : Nat} {f : Addr} {fd : FuncData} {ps : List Str} {sp : DSp} {x : Str} {p pos : Pos} {e : Expr} {es : List Expr} {tr : DTA}
theorem noPass {H : Hp} {E : Value → Shared → Prop} {s s' : Shared} {e : Value} {outer : List Env} (c : CX X.prog X.w outer H s (UpX X.KW H noX) e s') : E e s' := by
  obtain ⟨_, _, _, _, _, _, _, _, _, _, _, _, _, _, _, _, _, z⟩ := c
  exact z.elim
structure Dfl (P : Program) (w : World) (K : PySem.W.Frag) (dds : List D) (dfl : List Value) : Prop where
  ex : ∃ dvs, Vals dvs dfl ∧ ∀ H, RelDs ⟨K, P, w⟩ H dvs dds
theorem Dfl.nil {P : Program} {w : World} {K : PySem.W.Frag} : Dfl P w K [] [] := ⟨[], .nil, fun _ => .nil⟩
theorem runD {dds : List D} {dfl : List Value} {pins : List (Addr × Obj)} {σ : L2.St} {H : Hp} {s : Shared} {S : Sto} {Q : KD} {E : KX} {us : List Value} {vs : List V} {ds : List D} (F : FnD X.prog X.w X.K X.mg X.base k f fd ps sp) (hr : Room k X.A) (hgd : X.A.guards = some [])
    (hb : Binds X.K fd ps dfl) (hd : Dfl X.prog X.w X.K dds dfl) (I : Inv X pins σ H s) (r : Vals vs us) (rd : RelDs X.KW H vs ds) (hR : HR X.KW H S) (h : sp (ds ++ dds) S Q E) (hx : ∀ e s', CX X.prog X.w X.stack H s (UpX X.KW H E) e s' → X.xe e s') :
    wpAny (model X.prog X.w) X.A (call (.ref f) us) (EP X pins σ (Up X.KW H Q)) X.xe s := by
  obtain ⟨dvs, d1, d2⟩ := hd.ex
  have hl : (us ++ dfl).length = ps.length := by
    rw [List.length_append, ← r.length, ← d1.length, rd.length, (d2 H).length, ← List.length_append]
    exact F.len _ _ _ _ h
  refine wpAny_call (codeAny_mono (F.run X.A X.stack s H ⟨us, []⟩ (us ++ dfl) (vs ++ dvs) (ds ++ dds) S Q E hr hgd I.env0 (hb s us I.kIn hl) (r.append d1) (rd.append (d2 H)) hR h) fun res s' z => ?_)
  cases res with
  | error e => exact hx e s' z
  | ok fl =>
    cases fl with
    | ret u => exact I.after z
    | next => exact z.elim
    | brk => exact z.elim
    | cont => exact z.elim
def dCall (sp : DSp) (dds : List D) (t : DTA) : DTE := fun τ S Q => t τ S fun ds S1 => sp (ds ++ dds) S1 Q noX
theorem de_call {dds : List D} {dfl : List Value} (F : FnD X.prog X.w X.K X.mg X.base k f fd ps sp) (hr : Room k X.A) (hgd : X.A.guards = some []) (hg : Gl X x) (hm : X.mg x = some (.ref f)) (hk : PySem.W.keepIn X.K (.ref f) = true) (hb : Binds X.K fd ps dfl) (hd : Dfl X.prog X.w X.K dds dfl)
    (ha : DAr X (e :: es) tr) (hdb : (x == ("__debug__" : Str)) = false := by decide) (he : starEach (e :: es) X.env = (false, eval e X.env) :: starEach es X.env := by rfl) (hpl : (backTo pos (starEach es X.env)).any (·.1) = false := by rfl) :
    DE X (.Call (.Name x p) (e :: es) [] pos) (dCall sp dds tr) := by
  refine ⟨fun pins s σ H τ S Q I st hR q => wpAny_Call_Name_kw (ld_glob I hg hm ?_ hdb)⟩
  refine PySem.W.callWith_K (h₀ := X.base) I.ok.mod.kin hk (thn (ha.run pos pins s σ H τ S _ I st hR q) fun us s1 ⟨vs, H1, I1, r, ev, ds, S1, hR1, rd, q1⟩ => ⟨I1.kIn, ?_⟩) he hpl
  exact thn (runD F hr hgd hb hd I1 r rd hR1 q1 fun e s' c => noPass c) fun u s' ⟨v, H', I', r', z⟩ => ⟨v, H', I', r', z.back ev⟩
theorem DSs.nox {st : List Stmt} {t : DTS} (h : DSs X.nox st t) : DSs X st t := ⟨fun pins s σ H τ S Dn I sr hr q =>
  wpAny_mono (h.run pins s σ H τ S Dn (I.wish _) sr hr q) (fun _ _ z => SP.unwish z) fun _ _ z => z.elim⟩
end
end DL
namespace DL
open PySem PySem.Spec PyProof.Rows L2
mutual
def D.py : D → PyData
  | .non => .none | .bl b => .bool b | .int i => .int i | .str x => .str x
  | .tup ds => .tuple (D.pys ds) | .wt _ => .none | .fz ds => .list (D.pys ds) | .ref _ => .none | .ty _ => .none
def D.pys : List D → List PyData
  | [] => []
  | d :: r => D.py d :: D.pys r
end
mutual
def D.ok : D → Nat → Bool
  | .non, _ => true | .bl _, _ => true | .int _, _ => true | .str _, _ => true
  | .tup ds, n + 1 => D.oks ds n | .fz ds, n + 1 => D.oks ds n
  | _, _ => false
def D.oks : List D → Nat → Bool
  | [], _ => true
  | d :: r, n => D.ok d n && D.oks r n
end
def rd : Nat → Sto → D → D
  | 0, _, d => d
  | n + 1, S, .tup ds => .tup (ds.map (rd n S))
  | n + 1, S, .fz ds => .fz (ds.map (rd n S))
  | n + 1, S, .ref a => match S a with | some (.lst ds) => .fz (ds.map (rd n S)) | _ => .ref a
  | _ + 1, _, d => d
theorem pys_map : ∀ ds : List D, D.pys ds = ds.map D.py
  | [] => rfl
  | d :: r => by rw [D.pys, pys_map r]; rfl
theorem oks_all : ∀ (ds : List D) (n : Nat), D.oks ds n = ds.all fun d => D.ok d n
  | [], _ => rfl
  | d :: r, n => by rw [D.oks, oks_all r]; rfl
section
variable {K : KW} {H : Hp} {S : Sto}
mutual
theorem dp_of : ∀ {v : V} {d : D}, RelD K H v d → ∀ m, d.ok m = true → Dp K.fr H v d.py ∧ d.py.canLay0 = true ∧ d.py.depth ≤ m
  | _, _, .non, m, _ => ⟨by rw [D.py]; exact .non, by simp [D.py, PyData.canLay0], by simp [D.py, PyData.depth]⟩
  | _, _, .bl b, m, _ => ⟨by rw [D.py]; exact .bl b, by simp [D.py, PyData.canLay0], by simp [D.py, PyData.depth]⟩
  | _, _, .int b, m, _ => ⟨by rw [D.py]; exact .int b, by simp [D.py, PyData.canLay0], by simp [D.py, PyData.depth]⟩
  | _, _, .str b h, m, _ => ⟨by rw [D.py]; exact .str b, by simp [D.py, PyData.canLay0, h], by simp [D.py, PyData.depth]⟩
  | _, _, .ty _, _, h => by simp [D.ok] at h
  | _, _, .ref _, _, h => by simp [D.ok] at h
  | _, _, .wt _ _, _, h => by simp [D.ok] at h
  | _, _, .tup _ _, 0, h => by simp [D.ok] at h
  | _, _, .fz _ _, 0, h => by simp [D.ok] at h
  | _, .tup ds, .tup t r, m + 1, h => by
    obtain ⟨a, b, c⟩ := dps_of r m (by simpa [D.ok] using h)
    refine ⟨by rw [D.py]; exact .tup t.sq a, by rw [D.py, PyData.canLay0]; exact b, by rw [D.py, PyData.depth]; omega⟩
  | _, .fz ds, .fz t r, m + 1, h => by
    obtain ⟨a, b, c⟩ := dps_of r m (by simpa [D.ok] using h)
    refine ⟨by rw [D.py]; exact .lst t.sq a, by rw [D.py, PyData.canLay0]; exact b, by rw [D.py, PyData.depth]; omega⟩
theorem dps_of : ∀ {vs : List V} {ds : List D}, RelDs K H vs ds → ∀ m, D.oks ds m = true → DpAll K.fr H vs (D.pys ds) ∧ PyData.canLayAll0 (D.pys ds) = true ∧ PyData.depthAll (D.pys ds) ≤ m
  | _, _, .nil, m, _ => ⟨by rw [D.pys]; exact .nil, by simp [D.pys, PyData.canLayAll0], by simp [D.pys, PyData.depthAll]⟩
  | _, _, .cons r t, m, h => by
    rw [D.oks, Bool.and_eq_true] at h
    obtain ⟨a, b, c⟩ := dp_of r m h.1
    obtain ⟨a', b', c'⟩ := dps_of t m h.2
    refine ⟨by rw [D.pys]; exact .cons a a', by rw [D.pys, PyData.canLayAll0, b, b']; rfl, by rw [D.pys, PyData.depthAll]; omega⟩
end
theorem rd_dps {n : Nat} (ih : ∀ {v : V} {d : D}, RelD K H v d → ∀ m, (rd n S d).ok m = true → Dp K.fr H v (rd n S d).py ∧ (rd n S d).py.canLay0 = true ∧ (rd n S d).py.depth ≤ m) :
    ∀ {vs : List V} {ds : List D}, RelDs K H vs ds → ∀ m, D.oks (ds.map (rd n S)) m = true → DpAll K.fr H vs (D.pys (ds.map (rd n S))) ∧ PyData.canLayAll0 (D.pys (ds.map (rd n S))) = true ∧ PyData.depthAll (D.pys (ds.map (rd n S))) ≤ m
  | _, _, .nil, m, _ => ⟨by rw [List.map_nil, D.pys]; exact .nil, by simp [D.pys, PyData.canLayAll0], by simp [D.pys, PyData.depthAll]⟩
  | _, _, .cons r t, m, h => by
    rw [List.map_cons, D.oks, Bool.and_eq_true] at h
    obtain ⟨a, b, c⟩ := ih r m h.1
    obtain ⟨a', b', c'⟩ := rd_dps ih t m h.2
    refine ⟨by rw [List.map_cons, D.pys]; exact .cons a a', by rw [List.map_cons, D.pys, PyData.canLayAll0, b, b']; rfl, by rw [List.map_cons, D.pys, PyData.depthAll]; omega⟩
theorem rd_dp (hr : HR K H S) : ∀ (n : Nat) {v : V} {d : D}, RelD K H v d → ∀ m, (rd n S d).ok m = true → Dp K.fr H v (rd n S d).py ∧ (rd n S d).py.canLay0 = true ∧ (rd n S d).py.depth ≤ m
  | 0, _, _, r, m, h => dp_of r m h
  | n + 1, v, d, r, m, h => by
    cases r with
    | tup t r =>
      rw [rd] at h ⊢
      cases m with
      | zero => simp [D.ok] at h
      | succ m =>
        obtain ⟨a, b, c⟩ := rd_dps (rd_dp hr n) r m (by simpa [D.ok] using h)
        exact ⟨by rw [D.py]; exact .tup t.sq a, by rw [D.py, PyData.canLay0]; exact b, by rw [D.py, PyData.depth]; omega⟩
    | wt t r => rw [rd] at h <;> first | (simp [D.ok] at h; done) | (intro _; nofun) | nofun
    | fz t r =>
      rw [rd] at h ⊢
      cases m with
      | zero => simp [D.ok] at h
      | succ m =>
        obtain ⟨a, b, c⟩ := rd_dps (rd_dp hr n) r m (by simpa [D.ok] using h)
        exact ⟨by rw [D.py]; exact .lst t.sq a, by rw [D.py, PyData.canLay0]; exact b, by rw [D.py, PyData.depth]; omega⟩
    | ref p =>
      rw [rd] at h ⊢
      split at h
      · rename_i ds e
        obtain ⟨vs, h1, h2⟩ := hr p _ e
        cases m with
        | zero => simp [D.ok] at h
        | succ m =>
          obtain ⟨a, b, c⟩ := rd_dps (rd_dp hr n) h2 m (by simpa [D.ok] using h)
          exact ⟨by show Dp K.fr H _ (D.py (.fz _)); rw [D.py]; exact .lst (.inl (.inl h1)) a, by show (D.py (.fz _)).canLay0 = true; rw [D.py, PyData.canLay0]; exact b, by show (D.py (.fz _)).depth ≤ _; rw [D.py, PyData.depth]; omega⟩
      · simp [D.ok] at h
    | non => exact dp_of .non m (by simpa [rd] using h)
    | bl b => exact dp_of (.bl b) m (by simpa [rd] using h)
    | int i => exact dp_of (.int i) m (by simpa [rd] using h)
    | str x hx => exact dp_of (.str x hx) m (by simpa [rd] using h)
    | ty x => simp [rd, D.ok] at h
end
theorem shaped_of {d : PyData} {m : Nat} (h1 : d.canLay0 = true) (h2 : d.depth ≤ m) (hm : m ≤ 64) : SeqAt.shaped d = true := by
  unfold SeqAt.shaped
  rw [h1, Bool.true_and]
  exact decide_eq_true (Nat.le_trans h2 hm)
def D.eqv (a b : D) : Bool := PyData.eqv a.py b.py
abbrev DR := D → D → Sto → KD → Prop
def wEq : DR := fun x y S Q => (rd 6 S x).ok 40 = true ∧ (rd 6 S y).ok 40 = true ∧ Q (.bl ((rd 6 S x).eqv (rd 6 S y))) S
def wNe : DR := fun x y S Q => (rd 6 S x).ok 40 = true ∧ (rd 6 S y).ok 40 = true ∧ Q (.bl (!(rd 6 S x).eqv (rd 6 S y))) S
section
variable {X : Cx}
theorem dop_eq (hu : X.A.units + 64 < cLine) : DOp X (compareOp .Eq) wEq := ⟨_, op_eqD hu, fun x y dx dy H S Q R hr r1 r2 ⟨h1, h2, q⟩ k => by
  obtain ⟨a1, a2, a3⟩ := rd_dp hr 6 r1 40 h1
  obtain ⟨b1, b2, b3⟩ := rd_dp hr 6 r2 40 h2
  exact ⟨_, _, a1, b1, shaped_of a2 a3 (by decide), shaped_of b2 b3 (by decide), k _ _ (.of (.refl _) hr (.bl _) q)⟩⟩
theorem dop_ne (hu : X.A.units + 64 < cLine) : DOp X (compareOp .NotEq) wNe := ⟨_, op_neD hu, fun x y dx dy H S Q R hr r1 r2 ⟨h1, h2, q⟩ k => by
  obtain ⟨a1, a2, a3⟩ := rd_dp hr 6 r1 40 h1
  obtain ⟨b1, b2, b3⟩ := rd_dp hr 6 r2 40 h2
  exact ⟨_, _, a1, b1, shaped_of a2 a3 (by decide), shaped_of b2 b3 (by decide), k _ _ (.of (.refl _) hr (.bl _) q)⟩⟩
def wCmp (p : Int → Int → Bool) (t : List Nat → List Nat → Bool) : DR := fun x y S Q => match x, y with
  | .int i, .int j => Q (.bl (p i j)) S
  | .str a, .str b => Q (.bl (t a.cps.toList b.cps.toList)) S
  | _, _ => False
theorem dop_cmp {op : CmpOp} {p : Int → Int → Bool} {t : List Nat → List Nat → Bool} (h1 : OpR X (compareOp op) (rI0 fun i j => .bl (p i j))) (h2 : OpR X (compareOp op) (fun x y H Q => ∃ i j, x = .str i ∧ y = .str j ∧ Q (.bl (t i.cps.toList j.cps.toList)) H)) :
    DOp X (compareOp op) (wCmp p t) := ⟨_, h1.or h2, fun x y dx dy H S Q R hr r1 r2 q k => by
  cases r1 <;> cases r2 <;> first
    | exact .inl ⟨_, _, rfl, rfl, k _ _ (.of (.refl _) hr (.bl _) q)⟩
    | exact .inr ⟨_, _, rfl, rfl, k _ _ (.of (.refl _) hr (.bl _) q)⟩
    | exact q.elim⟩
abbrev wLt : DR := wCmp (fun i j => decide (i < j)) (fun a b => decide (a < b))
abbrev wLe : DR := wCmp (fun i j => decide (i ≤ j)) (fun a b => !decide (b < a))
abbrev wGt : DR := wCmp (fun i j => decide (j < i)) (fun a b => decide (b < a))
abbrev wGe : DR := wCmp (fun i j => decide (j ≤ i)) (fun a b => !decide (a < b))
theorem dop_lt : DOp X (compareOp .Lt) wLt := dop_cmp op_lt op_lt_str
theorem dop_le : DOp X (compareOp .LtE) wLe := dop_cmp op_le op_le_str
theorem dop_gt : DOp X (compareOp .Gt) wGt := dop_cmp op_gt op_gt_str
theorem dop_ge : DOp X (compareOp .GtE) wGe := dop_cmp op_ge op_ge_str
def wIsN : DR := fun x y S Q => y = .non ∧ Q (.bl (decide (x = .non))) S
def wNotN : DR := fun x y S Q => y = .non ∧ Q (.bl (!decide (x = .non))) S
theorem relD_non {K : KW} {H : Hp} {v : V} {d : D} (r : RelD K H v d) : decide (v = .non) = decide (d = .non) := by
  cases r <;> simp
theorem dop_isN : DOp X (compareOp .Is) wIsN := ⟨_, op_isN, fun x y dx dy H S Q R hr r1 r2 ⟨e, q⟩ k => by
  subst e; cases r2
  exact ⟨rfl, by rw [relD_non r1]; exact k _ _ (.of (.refl _) hr (.bl _) q)⟩⟩
theorem dop_notN : DOp X (compareOp .IsNot) wNotN := ⟨_, op_notN, fun x y dx dy H S Q R hr r1 r2 ⟨e, q⟩ k => by
  subst e; cases r2
  exact ⟨rfl, by rw [relD_non r1]; exact k _ _ (.of (.refl _) hr (.bl _) q)⟩⟩
theorem strOk_append {a b : Str} (h1 : PyData.strOk a = true) (h2 : PyData.strOk b = true) : PyData.strOk (a ++ b) = true := by
  unfold PyData.strOk at *
  show (Str.append a b).cps.all _ = true
  simp only [Str.append, Array.all_append, h1, h2, Bool.and_self]
def onL (S : Sto) (a : Addr) (k : List D → Prop) : Prop := match S a with | some (.lst ds) => k ds | _ => False
theorem onL.out {S : Sto} {a : Addr} {k : List D → Prop} (h : onL S a k) : ∃ ds, S a = some (.lst ds) ∧ k ds := by
  unfold onL at h
  split at h
  · exact ⟨_, by assumption, h⟩
  · exact h.elim
@[simp] theorem onL_eq {S : Sto} {a : Addr} {k : List D → Prop} {ds : List D} (h : S a = some (.lst ds)) : onL S a k = k ds := by unfold onL; rw [h]
def wAdd : DR := fun x y S Q => match x, y with
  | .int i, .int j => Q (.int (i + j)) S
  | .int i, .bl b => Q (.int (i + b2i b)) S
  | .str a, .str b => a.length + b.length ≤ sizeLine ∧ Q (.str (a ++ b)) S
  | .tup a, .tup b => a.length + b.length ≤ sizeLine ∧ Q (.tup (a ++ b)) S
  | .ref a, .ref b => onL S a fun xs => onL S b fun ys => xs.length + ys.length ≤ sizeLine ∧ ∀ p, S p = none → Q (.ref p) (put S p (.lst (xs ++ ys)))
  | _, _ => False
def rCatA (K : PySem.W.Frag) : R2 := fun x y H Q => ∃ a b xs ys, x = .ref a ∧ y = .ref b ∧ SqT K H a xs ∧ SqT K H b ys ∧ xs.length + ys.length ≤ sizeLine ∧ (xs = [] → Q (.ref b) H) ∧ (ys = [] → Q (.ref a) H) ∧ (∀ p us, H p = none → Q (.ref p) (upd H p (.frz (tupO us) (.tup (xs ++ ys)))))
theorem op_catA : OpR X (binaryOp .Add) (rCatA X.K) := by
  intro pins s σ H x y v u Q I rx ry ⟨a, b, xs, ys, ex, ey, ha, hb, hz, q0, q1, q2⟩
  subst ex; subst ey
  cases rx; cases ry
  obtain ⟨its, r1, t1, _⟩ := I.tuple ha
  obtain ⟨its2, r2, t2, _⟩ := I.tuple hb
  by_cases h : its = []
  · subst h
    cases r1
    exact cat_tup0 t1 t2 ⟨.ref b, H, I, rfl, q0 rfl⟩
  · refine HT.cat_tup t1 t2 h (fun e => ?_) (fun _ => ?_) (by rw [← r1.length, ← r2.length]; exact hz)
    · subst e; cases r2
      exact ⟨.ref a, H, I, rfl, q1 rfl⟩
    · exact ⟨.ref s.heap.objs.size, _, Inv.laidT I (r1.append r2) (by rw [List.length_append]; exact hz), rfl, q2 _ _ (I.hok.fresh (Nat.le_refl _))⟩
theorem dop_add : DOp X (binaryOp .Add) wAdd := ⟨_, ((op_add.or op_add_ib).or op_add_str).or (op_catA.or op_cat), fun x y dx dy H S Q R hr r1 r2 q k => by
  cases r1 with
  | int i =>
    cases r2 <;> first
      | exact .inl (.inl (.inl ⟨_, _, rfl, rfl, k _ _ (.of (.refl _) hr (.int _) q)⟩))
      | exact .inl (.inl (.inr ⟨_, _, rfl, rfl, k _ _ (.of (.refl _) hr (.int _) q)⟩))
      | exact q.elim
  | str a h =>
    cases r2 with
    | str b h' => exact .inl (.inr ⟨_, _, rfl, rfl, q.1, k _ _ (.of (.refl _) hr (.str _ (strOk_append h h')) q.2)⟩)
    | _ => exact q.elim
  | tup t r =>
    cases r2 with
    | tup t' r' =>
      refine .inr (.inl ⟨_, _, _, _, rfl, rfl, t.sq, t'.sq, by rw [r.length, r'.length]; exact q.1, fun e => ?_, fun e => ?_, fun p us n => ?_⟩)
      · subst e; cases r; exact k _ _ (.of (.refl _) hr (.tup t' r') q.2)
      · subst e; cases r'
        have q' := q.2
        rw [List.append_nil] at q'
        exact k _ _ (.of (.refl _) hr (.tup t r) q')
      · exact k _ _ (.of (.new n) (hr.new n) (relD_new n (r.append r')) q.2)
    | _ => exact q.elim
  | ref a =>
    cases r2 with
    | ref b =>
      obtain ⟨xs, e1, q⟩ := onL.out q
      obtain ⟨ys, e2, q⟩ := onL.out q
      obtain ⟨v1, h1, d1⟩ := hr a _ e1
      obtain ⟨v2, h2, d2⟩ := hr b _ e2
      exact .inr (.inr ⟨_, _, _, _, rfl, rfl, h1, h2, by rw [d1.length, d2.length]; exact q.1, fun p n => k _ _ (.of (.new n) (hr.lst n (d1.append d2)) (.ref p) (q.2 p (hr.free n)))⟩)
    | _ => exact q.elim
  | _ => exact q.elim⟩
def wI (C : Int → Int → Prop) (g : Int → Int → Int) : DR := fun x y S Q => match x, y with
  | .int i, .int j => C i j ∧ Q (.int (g i j)) S
  | _, _ => False
theorem dop_I {op : Operator} {C : Int → Int → Prop} {g : Int → Int → Int} (h : OpR X (binaryOp op) (rI C fun i j => .int (g i j))) : DOp X (binaryOp op) (wI C g) := ⟨_, h, fun x y dx dy H S Q R hr r1 r2 q k => by
  cases r1 <;> cases r2 <;> first
    | exact ⟨_, _, rfl, rfl, q.1, k _ _ (.of (.refl _) hr (.int _) q.2)⟩
    | exact q.elim⟩
def wI0 (g : Int → Int → Int) : DR := fun x y S Q => match x, y with
  | .int i, .int j => Q (.int (g i j)) S
  | _, _ => False
theorem dop_sub : DOp X (binaryOp .Sub) (wI0 fun i j => i - j) := ⟨_, op_sub, fun x y dx dy H S Q R hr r1 r2 q k => by
  cases r1 <;> cases r2 <;> first
    | exact ⟨_, _, rfl, rfl, k _ _ (.of (.refl _) hr (.int _) q)⟩
    | exact q.elim⟩
abbrev wSub : DR := wI0 fun i j => i - j
abbrev wMul : DR := wI CMul fun i j => i * j
abbrev wMod : DR := wI (fun _ j => 0 < j) fun i j => i % j
abbrev wDiv : DR := wI CDiv fun i j => i / j
abbrev wPow : DR := wI CPow fun i j => i ^ j.toNat
theorem dop_mul : DOp X (binaryOp .Mult) wMul := dop_I op_mul
theorem dop_mod : DOp X (binaryOp .Mod) wMod := dop_I op_mod
theorem dop_div : DOp X (binaryOp .FloorDiv) wDiv := dop_I op_fdiv
theorem dop_pow : DOp X (binaryOp .Pow) wPow := dop_I op_pow
def wNeg : D → Sto → KD → Prop := fun x S Q => match x with | .int i => Q (.int (-i)) S | _ => False
theorem dun_neg : DUn X (unaryOp .USub) wNeg := ⟨_, un_neg, fun x dx H S Q R hr r q k => by
  cases r <;> first
    | exact ⟨_, rfl, k _ _ (.of (.refl _) hr (.int _) q)⟩
    | exact q.elim⟩
end
end DL
namespace DL
open PySem PySem.Spec PyProof.Rows L2
section
variable {X : Cx} {pos : Pos} {K : KW} {H : Hp} {S : Sto}
def D.items? : D → Option (List D)
  | .fz ds => some ds
  | .tup ds => some ds
  | _ => none
def onI (d : D) (k : List D → Prop) : Prop := match d.items? with | some ds => k ds | none => False
theorem onI.out {d : D} {k : List D → Prop} (h : onI d k) : ∃ ds, d.items? = some ds ∧ k ds := by
  unfold onI at h
  split at h
  · exact ⟨_, by assumption, h⟩
  · exact h.elim
def wInS (neg : Bool) : DR := fun x y S Q => match x, y with
  | .str a, .str b => Q (.bl (neg != (!(Builtin.Str.occurrences b a 0 b.length 1).isEmpty))) S
  | _, _ => (rd 6 S x).ok 40 = true ∧ (rd 6 S y).ok 40 = true ∧ onI (rd 6 S y) fun ds => Q (.bl (neg != (ds.any fun z => z.eqv (rd 6 S x)))) S
def rInP (K : PySem.W.Frag) (neg : Bool) : R2 := fun x y H Q => ∃ d ds, Dp K H x d ∧ (Dp K H y (.list ds) ∨ Dp K H y (.tuple ds)) ∧ SeqAt.shaped d = true ∧ PyData.canLayAll0 ds = true ∧ Q (.bl (neg != ds.any fun z => PyData.eqv z d)) H
theorem op_inP (hu : X.A.units + 65 < cLine) : OpR X (compareOp .In) (rInP X.K false) := by
  intro pins s σ H x y v u Q I rx ry ⟨d, ds, hx, hy, sd, sl, q⟩
  obtain ⟨bs, r1⟩ := Dp.reads I d x v hx rx
  have room : X.A.units + 1 + min (PyData.depthAll ds) d.depth < cLine := by
    have := SeqAt.depth_of_shaped sd
    omega
  have fin : EP X pins σ Q (.bool (ds.any fun z => PyData.eqv z d)) s := ⟨.bl _, H, I, rfl, by simpa using q⟩
  rcases hy with hy | hy
  · obtain ⟨as, r2⟩ := Dp.reads I _ y u hy ry
    exact SeqAt.in_list_reads r2 r1 sl (SeqAt.canLay_of_shaped sd) room fin
  · obtain ⟨as, r2⟩ := Dp.reads I _ y u hy ry
    exact SeqAt.in_tuple_reads r2 r1 sl (SeqAt.canLay_of_shaped sd) room fin
theorem op_notInP (hu : X.A.units + 65 < cLine) : OpR X (compareOp .NotIn) (rInP X.K true) := by
  intro pins s σ H x y v u Q I rx ry ⟨d, ds, hx, hy, sd, sl, q⟩
  obtain ⟨bs, r1⟩ := Dp.reads I d x v hx rx
  have room : X.A.units + 1 + min (PyData.depthAll ds) d.depth < cLine := by
    have := SeqAt.depth_of_shaped sd
    omega
  have fin : EP X pins σ Q (.bool (!ds.any fun z => PyData.eqv z d)) s := ⟨.bl _, H, I, rfl, by simpa using q⟩
  rcases hy with hy | hy
  · obtain ⟨as, r2⟩ := Dp.reads I _ y u hy ry
    exact SeqAt.notIn_list_reads r2 r1 sl (SeqAt.canLay_of_shaped sd) room fin
  · obtain ⟨as, r2⟩ := Dp.reads I _ y u hy ry
    exact SeqAt.notIn_tuple_reads r2 r1 sl (SeqAt.canLay_of_shaped sd) room fin
theorem inP_of {neg : Bool} {x y : V} {dx dy : D} {R : VK} {Q : KD} (hr : HR K H S) (r1 : RelD K H x dx) (r2 : RelD K H y dy) (h1 : (rd 6 S dx).ok 40 = true) (h2 : (rd 6 S dy).ok 40 = true)
    (q : onI (rd 6 S dy) fun ds => Q (.bl (neg != (ds.any fun z => z.eqv (rd 6 S dx)))) S) (k : ∀ v H', Up K H Q v H' → R v H') : rInP K.fr neg x y H R := by
  obtain ⟨ds, e, q⟩ := onI.out q
  obtain ⟨a1, a2, a3⟩ := rd_dp hr 6 r1 40 h1
  obtain ⟨b1, b2, b3⟩ := rd_dp hr 6 r2 40 h2
  have fin : R (.bl (neg != ((D.pys ds).any fun z => PyData.eqv z (rd 6 S dx).py))) H := by
    have : ((D.pys ds).any fun z => PyData.eqv z (rd 6 S dx).py) = ds.any fun z => z.eqv (rd 6 S dx) := by rw [pys_map, List.any_map]; rfl
    rw [this]
    exact k _ _ (.of (.refl _) hr (.bl _) q)
  cases hd : rd 6 S dy with
  | fz es =>
    rw [hd] at e b1 b2 b3
    cases e
    rw [D.py] at b1 b2
    rw [PyData.canLay0] at b2
    exact ⟨_, _, a1, .inl b1, shaped_of a2 a3 (by decide), b2, fin⟩
  | tup es =>
    rw [hd] at e b1 b2 b3
    cases e
    rw [D.py] at b1 b2
    rw [PyData.canLay0] at b2
    exact ⟨_, _, a1, .inr b1, shaped_of a2 a3 (by decide), b2, fin⟩
  | _ => rw [hd] at e; cases e
theorem dop_inS (hu : X.A.units + 65 < cLine) : DOp X (compareOp .In) (wInS false) := ⟨_, op_in_str.or (op_inP hu), fun x y dx dy H S Q R hr r1 r2 q k => by
  cases r1 <;> cases r2 <;> first
    | exact .inl ⟨_, _, rfl, rfl, k _ _ (.of (.refl _) hr (.bl _) (by simpa [wInS] using q))⟩
    | exact .inr (inP_of hr (by constructor <;> assumption) (by constructor <;> assumption) q.1 q.2.1 q.2.2 k)⟩
theorem dop_notInS (hu : X.A.units + 65 < cLine) : DOp X (compareOp .NotIn) (wInS true) := ⟨_, op_notin_str.or (op_notInP hu), fun x y dx dy H S Q R hr r1 r2 q k => by
  cases r1 <;> cases r2 <;> first
    | exact .inl ⟨_, _, rfl, rfl, k _ _ (.of (.refl _) hr (.bl _) (by simpa [wInS] using q))⟩
    | exact .inr (inP_of hr (by constructor <;> assumption) (by constructor <;> assumption) q.1 q.2.1 q.2.2 k)⟩
def DIx (X : Cx) (r : DR) : Prop :=
  ∃ rh : R2, IxR X rh ∧ ∀ (x y : V) (dx dy : D) (H : Hp) (S : Sto) (Q : KD) (R : VK), HR X.KW H S → RelD X.KW H x dx → RelD X.KW H y dy → r dx dy S Q → (∀ v H', Up X.KW H Q v H' → R v H') → rh x y H R
theorem de_ix {a b : Expr} {ta tb : DTE} {r : DR} (ho : DIx X r) (ha : DE X a ta) (hb : DE X b tb) (hs : PlainIx b) : DE X (.Subscript a b pos) (dBin r ta tb) := by
  obtain ⟨rh, h1, h2⟩ := ho
  exact .up (pe_ix h1 ha.lo hb.lo hs) fun σ H τ S Q st hr q => bin_lo st hr q fun x y dx dy H2 S2 e hr2 r1 r2 q2 => h2 x y dx dy H2 S2 Q _ hr2 r1 r2 q2 fun v H' u => u.back e
def onS {α : Type} (o : Option α) (k : α → Prop) : Prop := match o with | some x => k x | none => False
theorem onS.out {α : Type} {o : Option α} {k : α → Prop} (h : onS o k) : ∃ x, o = some x ∧ k x := by
  cases o with
  | none => exact h.elim
  | some x => exact ⟨x, rfl, h⟩
def wIx : DR := fun x y S Q => match x, y with
  | .tup ds, .int i => onS (atI ds i) fun d => Q d S
  | .fz ds, .int i => onS (atI ds i) fun d => Q d S
  | .ref a, .int i => onL S a fun ds => onS (atI ds i) fun d => Q d S
  | .str z, .int i => z.length ≤ sizeLine ∧ onS (atI z.cps.toList i) fun c => Q (.str ⟨#[c]⟩) S
  | _, _ => False
theorem RelDs.atI {vs : List V} {ds : List D} {i : Int} {d : D} (r : RelDs K H vs ds) (h : L2.atI ds i = some d) : ∃ v, L2.atI vs i = some v ∧ RelD K H v d := by
  unfold L2.atI at *
  rw [r.length]
  cases e : ixN ds.length i with
  | none => rw [e] at h; cases h
  | some j =>
    rw [e] at h
    obtain ⟨v, h1, h2⟩ := r.get (i := j) h
    exact ⟨v, h1, h2⟩
theorem strOk_one {z : Str} {i : Int} {c : Nat} (h : PyData.strOk z = true) (e : L2.atI z.cps.toList i = some c) : PyData.strOk ⟨#[c]⟩ = true := by
  unfold L2.atI at e
  cases q : ixN z.cps.toList.length i with
  | none => rw [q] at e; cases e
  | some j =>
    rw [q] at e
    have hm : c ∈ z.cps.toList := List.mem_of_getElem? e
    unfold PyData.strOk at *
    rw [← Array.all_toList] at h
    have := List.all_eq_true.mp h c hm
    simpa using this
theorem dix_seq : DIx X wIx := ⟨_, (ix_list.or ix_tup).or ix_str, fun x y dx dy H S Q R hr r1 r2 q k => by
  cases r1 <;> cases r2 <;> first
    | exact q.elim
    | (rename_i t r i
       obtain ⟨d, e, q⟩ := onS.out q
       obtain ⟨v, e1, r'⟩ := r.atI e
       exact .inl (.inr ⟨_, _, _, _, rfl, rfl, t.sq, e1, k _ _ (.of (.refl _) hr r' q)⟩))
    | (rename_i t r i
       obtain ⟨d, e, q⟩ := onS.out q
       obtain ⟨v, e1, r'⟩ := r.atI e
       exact .inl (.inl ⟨_, _, _, _, rfl, rfl, t.sq, e1, k _ _ (.of (.refl _) hr r' q)⟩))
    | (rename_i a i
       obtain ⟨ds, e0, q⟩ := onL.out q
       obtain ⟨d, e, q⟩ := onS.out q
       obtain ⟨vs, h1, r⟩ := hr a _ e0
       obtain ⟨v, e1, r'⟩ := r.atI e
       exact .inl (.inl ⟨_, _, _, _, rfl, rfl, SqL.of h1, e1, k _ _ (.of (.refl _) hr r' q)⟩))
    | (rename_i x hx i
       obtain ⟨z, q⟩ := q
       obtain ⟨c, e, q⟩ := onS.out q
       exact .inr ⟨_, _, _, rfl, rfl, z, e, k _ _ (.of (.refl _) hr (.str _ (strOk_one hx e)) q)⟩)⟩
abbrev DTO := DSt → Sto → (Option Int → Sto → Prop) → Prop
structure DPo (X : Cx) (e : Option Expr) (t : DTO) : Prop where
  po : PO X e (fun σ H R => ∃ τ S Q, StR X.KW H σ τ ∧ HR X.KW H S ∧ t τ S Q ∧ ∀ o H' S', Ev H H' → HR X.KW H' S' → Q o S' → R o H')
def dNoPart : DTO := fun _ S Q => Q none S
def isI (Q : Option Int → Sto → Prop) : KD := fun d S => match d with | .int i => Q (some i) S | _ => False
def dPart (t : DTE) : DTO := fun τ S Q => t τ S (isI Q)
theorem dpo_none : DPo X none dNoPart := ⟨⟨fun pins s σ H R I ⟨τ, S, Q, st, hr, q, k⟩ => po_none.run pins s σ H R I (k none H S (.refl _) hr q)⟩⟩
theorem dpo_some {e : Expr} {te : DTE} (h : DE X e te) : DPo X (some e) (dPart te) := ⟨⟨fun pins s σ H R I ⟨τ, S, Q, st, hr, q, k⟩ => (po_some h.lo).run pins s σ H R I (.mk st hr q fun v H' ⟨e, d, S', hr', r, q'⟩ => by
  cases r with
  | int i => exact ⟨i, rfl, k _ _ _ e hr' q'⟩
  | _ => exact q'.elim)⟩⟩
def cutD (ds : List D) (lo hi : Option Int) : List D := (ds.drop (HT.sIx ds.length 0 lo)).take (HT.sIx ds.length ds.length hi - HT.sIx ds.length 0 lo)
theorem RelDs.cut {vs : List V} {ds : List D} (r : RelDs K H vs ds) (lo hi : Option Int) : RelDs K H (cutV vs lo hi) (cutD ds lo hi) := by
  unfold cutV cutD
  rw [r.length]
  exact (r.drop _).take _
def wCut (x : D) (lo hi : Option Int) (S : Sto) (Q : KD) : Prop := match x with
  | .tup ds => Q (.tup (cutD ds lo hi)) S
  | .fz ds => ∀ p, S p = none → Q (.ref p) (put S p (.lst (cutD ds lo hi)))
  | .ref a => onL S a fun ds => ∀ p, S p = none → Q (.ref p) (put S p (.lst (cutD ds lo hi)))
  | .str z => z.length ≤ sizeLine ∧ Q (.str (cutS z lo hi)) S
  | _ => False
def dCut (te : DTE) (tl th : DTO) : DTE := fun τ S Q => te τ S fun x S1 => tl τ S1 fun l S2 => th τ S2 fun u S3 => wCut x l u S3 Q
theorem strOk_cut {z : Str} (h : PyData.strOk z = true) (lo hi : Option Int) : PyData.strOk (cutS z lo hi) = true := by
  unfold cutS PyData.strOk at *
  rw [← Array.all_toList] at h
  have h' := List.all_eq_true.mp h
  first
    | (rw [← Array.all_toList]
       refine List.all_eq_true.mpr fun c hc => h' c ?_
       simp at hc
       exact List.mem_of_mem_drop (List.mem_of_mem_take (by simpa using hc)))
    | skip
def rSlB (K : PySem.W.Frag) : V → Option Int → Option Int → Hp → VK → Prop := fun x lo hi H Q => ∃ a xs, x = .ref a ∧ SqT K H a xs ∧
  (HT.sIx xs.length 0 lo = 0 ∧ HT.sIx xs.length xs.length hi = xs.length → Q (.ref a) H) ∧ (∀ p us, H p = none → Q (.ref p) (upd H p (.frz (tupO us) (.tup (cutV xs lo hi)))))
theorem sl_tupB : SlR X (rSlB X.K) := by
  intro pins s σ H x v vl vu lo hi sl Q I rx hs pl pu h
  obtain ⟨a, xs, rfl, hx, q1, q2⟩ := h
  cases rx
  obtain ⟨its, r, ht, hz⟩ := I.tuple hx
  have hlen : its.toArray.size = xs.length := by rw [List.size_toArray]; exact r.length.symm
  refine ⟨"tuple", _, PyProof.Rows.slot_tuple_getitem.lookup, ht.typeIs, ?_⟩
  by_cases hw : HT.sIx xs.length 0 lo = 0 ∧ HT.sIx xs.length xs.length hi = xs.length
  · exact getItem_tuple_whole ht hs pl pu (by rw [hlen]; exact hw) ⟨.ref a, H, I, rfl, q1 hw⟩
  · refine HT.getItem_tuple_cut ht hs pl pu (by rw [hlen]; exact hw) ?_ (by rw [hlen]; exact hz)
    rw [hlen]
    exact ⟨.ref s.heap.objs.size, _, Inv.laidT I (vs := cutV xs lo hi) ((r.drop (HT.sIx xs.length 0 lo)).take (HT.sIx xs.length xs.length hi - HT.sIx xs.length 0 lo)) (Nat.le_trans (cutV_length xs lo hi) hz), rfl, q2 _ _ (I.hok.fresh (Nat.le_refl _))⟩
theorem de_cut {e : Expr} {lo hi : Option Expr} {te : DTE} {tl th : DTO} {p2 : Pos} (he : DE X e te) (hl : DPo X lo tl) (hh : DPo X hi th) : DE X (.Subscript e (.Slice lo hi none p2) pos) (dCut te tl th) :=
  .up (pe_slice ((sl_tupB.or sl_list).or sl_str) he.lo hl.po hh.po) fun σ H τ S Q st hr q => .mk st hr q fun x H1 ⟨e1, d, S1, hr1, r1, q1⟩ =>
    ⟨τ, S1, _, st.ev e1, hr1, q1, fun l H2 S2 e2 hr2 q2 => ⟨τ, S2, _, st.ev (e1.trans e2), hr2, q2, fun u H3 S3 e3 hr3 q3 => by
      have r3 := (r1.ev e2).ev e3
      have e03 := (e1.trans e2).trans e3
      cases r3 with
      | @tup a vs ds t r =>
        refine .inl (.inl ⟨_, _, rfl, t.sq, fun w => ?_, fun p us n => .of (e03.trans (.new n)) (hr3.new n) (relD_new n (r.cut l u)) q3⟩)
        have : cutD ds l u = ds := by
          unfold cutD
          rw [← r.length, w.1, w.2]
          simp [r.length]
        have q3' : Q (.tup (cutD ds l u)) S3 := q3
        rw [this] at q3'
        exact .of e03 hr3 (.tup t r) q3'
      | fz t r => exact .inl (.inr ⟨_, _, rfl, t.sq, fun p n => .of (e03.trans (.new n)) (hr3.lst n (r.cut l u)) (.ref p) (q3 p (hr3.free n))⟩)
      | ref a =>
        obtain ⟨ds, e0, q3⟩ := onL.out q3
        obtain ⟨vs, h1, r⟩ := hr3 a _ e0
        exact .inl (.inr ⟨_, _, rfl, SqL.of h1, fun p n => .of (e03.trans (.new n)) (hr3.lst n (r.cut l u)) (.ref p) (q3 p (hr3.free n))⟩)
      | str z hz => exact .inr ⟨_, rfl, q3.1, .of e03 hr3 (.str _ (strOk_cut hz l u)) q3.2⟩
      | _ => exact q3.elim⟩⟩
theorem RelDs.kVs : ∀ {vs : List V} {ks : List Key}, RelDs K H vs (ks.map kD) → vs = ks.map kV
  | _, [], .nil => rfl
  | _, .inl i :: ks, .cons r t => by cases r; rw [RelDs.kVs t]; rfl
  | _, .inr x :: ks, .cons r t => by cases r; rw [RelDs.kVs t]; rfl
section
variable {pins : List (Addr × Obj)} {σ : L2.St} {s : Shared} {a : Addr}
theorem keyT {ks : List Key} (I : Inv X pins σ H s) (t : KeyT X.KW H a ks) : (tupleKind (mixKind X.prog X.w)).is s.heap ks a := by
  obtain ⟨its, r, p, _⟩ := I.tuple t.1.sq
  obtain ⟨o, h1, h2, n, h3⟩ := p
  exact ⟨o, its.toArray, n, h1, h2, h3, by simpa using items_are r⟩
theorem tdn_keys (I : Inv X pins σ H s) : ∀ {xs : List (List Key × Addr × Value)} {kvs : List (D × D)}, RelTV X.KW H xs kvs → ∀ x ∈ xs, (tupleKind (mixKind X.prog X.w)).is s.heap x.1 x.2.1
  | _, _, .nil, x, hx => nomatch hx
  | _, _, .cons t _ _ q, x, hx => by
    rcases List.mem_cons.mp hx with rfl | hx
    · exact keyT I t
    · exact tdn_keys I q x hx
theorem tdn_rd {xs : List (List Key × Addr × Value)} {kvs : List (D × D)} (I : Inv X pins σ H s) (e : Rd H a (TDn X.KW a xs)) (r : RelTV X.KW H xs kvs) :
    xs.length ≤ sizeLine ∧ (a == sysModules) = false ∧ s.heap.DictOfH (tupleKind (mixKind X.prog X.w)) a xs := by
  obtain ⟨⟨⟨z, y⟩, o, es, ep, h1, h2, h3, h4, h5⟩, _⟩ := (show ObjOk X.prog X.w H s.heap a (TDn X.KW a xs) from rd_of I.hok e)
  exact ⟨z, y, o, es, ep, h1, h2, h3, h4, tdn_keys I r, h5⟩
end
theorem call_lenK : CallR X (.builtin "len") (fun xs H Q => ∃ a kvs, xs = [V.ref a] ∧ Rd H a (.dK kvs) ∧ Q (.int kvs.length) H) := by
  intro pins s σ H xs us Q I r h
  obtain ⟨a, kvs, rfl, ha, q⟩ := h
  obtain ⟨u, rfl, ru⟩ := vals1 r
  cases ru
  exact d_len I ha fun t s' I' => ⟨.int kvs.length, H, I', ⟨t, rfl⟩, q⟩
theorem call_lenTD : CallR X (.builtin "len") (fun xs H Q => ∃ a es kvs, xs = [V.ref a] ∧ Rd H a (TDn X.KW a es) ∧ RelTV X.KW H es kvs ∧ Q (.int ((es.length : Nat) : Int)) H) := by
  intro pins s σ H xs us Q I r h
  obtain ⟨a, es, kvs, rfl, ha, rk, q⟩ := h
  obtain ⟨u, rfl, ru⟩ := vals1 r
  cases ru
  obtain ⟨z, hd, dd⟩ := tdn_rd I ha rk
  exact call_len_dictH hd dd (by rw [sizeLine_eq] at z; omega) ⟨.int ((es.length : Nat) : Int), H, I.tok _, ⟨_, rfl⟩, q⟩
def DCall.of {f : Value} {r : List D → Sto → KD → Prop} {rh : List V → Hp → VK → Prop} (h : CallR X f rh) (c : ∀ xs H ds S (Q : KD) (R : VK), HR X.KW H S → RelDs X.KW H xs ds → r ds S Q → (∀ v H', Up X.KW H Q v H' → R v H') → rh xs H R) : DCall X f r :=
  fun pins s σ H xs us ds S Q I v hr rd q => h pins s σ H xs us _ I v (c xs H ds S Q _ hr rd q fun _ _ z => z)
def wLen : List D → Sto → KD → Prop := fun xs S Q => match xs with
  | [.tup ds] => Q (.int ds.length) S
  | [.fz ds] => Q (.int ds.length) S
  | [.str z] => z.length ≤ sizeLine ∧ Q (.int z.length) S
  | [.ref a] => match S a with | some (.lst ds) => Q (.int ds.length) S | some (.dct kvs) => Q (.int kvs.length) S | some (.fdc _ kvs) => Q (.int kvs.length) S | _ => False
  | _ => False
theorem dcall_len : DCall X (.builtin "len") wLen := .of ((call_len_seq.or call_len_str).or (call_lenK.or call_lenTD)) fun xs H ds S Q R hr rd q k => by
  cases rd with
  | nil => exact q.elim
  | cons r t =>
    cases t with
    | cons _ _ => cases r <;> exact q.elim
    | nil =>
      cases r with
      | tup t r => exact .inl (.inl ⟨_, _, rfl, .inr t.sq, by rw [r.length]; exact k _ _ (.of (.refl _) hr (.int _) q)⟩)
      | fz t r => exact .inl (.inl ⟨_, _, rfl, .inl t.sq, by rw [r.length]; exact k _ _ (.of (.refl _) hr (.int _) q)⟩)
      | str z h => exact .inl (.inr ⟨_, rfl, q.1, k _ _ (.of (.refl _) hr (.int _) q.2)⟩)
      | ref a =>
        simp only [wLen] at q
        split at q
        · rename_i ds e
          obtain ⟨vs, h1, r⟩ := hr a _ e
          exact .inl (.inl ⟨_, _, rfl, .inl (SqL.of h1), by rw [r.length]; exact k _ _ (.of (.refl _) hr (.int _) q)⟩)
        · rename_i kvs e
          rcases hr a _ e with ⟨es, h1, r⟩ | ⟨es, h1, r⟩
          · exact .inr (.inl ⟨_, _, rfl, .inl h1, by rw [r.length]; exact k _ _ (.of (.refl _) hr (.int _) q)⟩)
          · exact .inr (.inr ⟨_, _, _, rfl, .inl h1, r, by rw [r.length]; exact k _ _ (.of (.refl _) hr (.int _) q)⟩)
        · rename_i o kvs e
          rcases hr a _ e with ⟨es, h1, r⟩ | ⟨es, h1, r⟩
          · exact .inr (.inl ⟨_, _, rfl, .inr ⟨_, h1⟩, by rw [r.length]; exact k _ _ (.of (.refl _) hr (.int _) q)⟩)
          · exact .inr (.inr ⟨_, _, _, rfl, .inr ⟨_, h1⟩, r, by rw [r.length]; exact k _ _ (.of (.refl _) hr (.int _) q)⟩)
        · exact q.elim
      | _ => exact q.elim
def wTuple : List D → Sto → KD → Prop := fun xs S Q => match xs with
  | [.tup ds] => Q (.tup ds) S
  | [.fz ds] => Q (.tup ds) S
  | [.ref a] => onL S a fun ds => Q (.tup ds) S
  | _ => False
theorem call_tupleB : CallR X (.type "tuple") (fun xs H Q => ∃ p ys, xs = [.ref p] ∧ ((SqL X.K H p ys ∧ ∀ l us, H l = none → Q (.ref l) (upd H l (.frz (tupO us) (.tup ys)))) ∨ (SqT X.K H p ys ∧ Q (.ref p) H))) := by
  intro pins s σ H xs us Q I r h
  obtain ⟨p, ys, rfl, h⟩ := h
  obtain ⟨u, rfl, rx⟩ := vals1 r
  cases rx
  rcases h with ⟨hq, q⟩ | ⟨hq, q⟩
  · obtain ⟨its, r', pl, hz⟩ := I.list hq
    have hlen := r'.length
    refine call_tuple_list pl.isList (fun h' kp => ?_) (by simp only [List.size_toArray] <;> omega)
    have I1 : Inv X pins σ H { s with heap := h' } := I.kept (t' := s.toks) kp
    exact ⟨.ref h'.objs.size, _, Inv.laidT I1 r' hz, rfl, q _ _ (I1.hok.fresh (Nat.le_refl _))⟩
  · obtain ⟨its, r', pl, hz⟩ := I.tuple hq
    exact call_tuple_same pl ⟨.ref p, H, I, rfl, q⟩
theorem dcall_tuple : DCall X (.type "tuple") wTuple := .of call_tupleB fun xs H ds S Q R hr rd q k => by
  cases rd with
  | nil => exact q.elim
  | cons r t =>
    cases t with
    | cons _ _ => cases r <;> exact q.elim
    | nil =>
      cases r with
      | tup t r => exact ⟨_, _, rfl, .inr ⟨t.sq, k _ _ (.of (.refl _) hr (.tup t r) q)⟩⟩
      | fz t r => exact ⟨_, _, rfl, .inl ⟨t.sq, fun p us n => k _ _ (.of (.new n) (hr.new n) (relD_new n r) q)⟩⟩
      | ref a =>
        obtain ⟨ds, e, q⟩ := onL.out q
        obtain ⟨vs, h1, r⟩ := hr a _ e
        exact ⟨_, _, rfl, .inl ⟨SqL.of h1, fun p us n => k _ _ (.of (.new n) (hr.new n) (relD_new n r) q)⟩⟩
      | _ => exact q.elim
def wList : List D → Sto → KD → Prop := fun xs S Q => match xs with
  | [.tup ds] => ∀ p, S p = none → Q (.ref p) (put S p (.lst ds))
  | [.fz ds] => ∀ p, S p = none → Q (.ref p) (put S p (.lst ds))
  | [.ref a] => onL S a fun ds => ∀ p, S p = none → Q (.ref p) (put S p (.lst ds))
  | _ => False
theorem dcall_list : DCall X (.type "list") wList := .of call_list_of fun xs H ds S Q R hr rd q k => by
  cases rd with
  | nil => exact q.elim
  | cons r t =>
    cases t with
    | cons _ _ => cases r <;> exact q.elim
    | nil =>
      cases r with
      | tup t r => exact ⟨_, _, rfl, .inr t.sq, fun p n => k _ _ (.of (.new n) (hr.lst n r) (.ref p) (q p (hr.free n)))⟩
      | fz t r => exact ⟨_, _, rfl, .inl t.sq, fun p n => k _ _ (.of (.new n) (hr.lst n r) (.ref p) (q p (hr.free n)))⟩
      | ref a =>
        obtain ⟨ds, e, q⟩ := onL.out q
        obtain ⟨vs, h1, r⟩ := hr a _ e
        exact ⟨_, _, rfl, .inl (SqL.of h1), fun p n => k _ _ (.of (.new n) (hr.lst n r) (.ref p) (q p (hr.free n)))⟩
      | _ => exact q.elim
end
end DL
namespace DL
open PySem PySem.Spec PyProof.Rows L2
section
variable {X : Cx} {pos : Pos} {K : KW} {H : Hp} {S : Sto}
def DMt (X : Cx) (id : String) (r : D → List D → Sto → KD → Prop) : Prop :=
  ∃ rh, MtR X id rh ∧ ∀ (x : V) (xs : List V) (dx : D) (ds : List D) (H : Hp) (S : Sto) (Q : KD) (R : VK), HR X.KW H S → RelD X.KW H x dx → RelDs X.KW H xs ds → r dx ds S Q → (∀ v H', Up X.KW H Q v H' → R v H') → rh x xs H R
def tyD (T : String) (x : D) (S : Sto) : Prop := match x with
  | .str _ => T = "str"
  | .fz _ => T = "list"
  | .ref a => match S a with | some (.lst _) => T = "list" | _ => False
  | _ => False
theorem tyD.v {T : String} {x : V} {d : D} (hr : HR K H S) (r : RelD K H x d) (h : tyD T d S) : tyV K.fr T x H := by
  cases r with
  | str z _ => exact h
  | fz t _ => exact .inl ⟨h, _, t.sq⟩
  | ref a =>
    simp only [tyD] at h
    split at h
    · rename_i ds e
      obtain ⟨vs, h1, _⟩ := hr a _ e
      exact .inl ⟨h, _, SqL.of h1⟩
    · exact h.elim
  | _ => exact h.elim
def dBM (T : String) (r : D → List D → Sto → KD → Prop) (to : DTE) (t : DTA) : DTE := fun τ S Q => to τ S fun x S1 => tyD T x S1 ∧ t τ S1 fun ds S2 => r x ds S2 Q
variable {o e : Expr} {es : List Expr} {to : DTE} {t : DTA} {name : Str} {apos cpos : Pos} {T id : String} {r : D → List D → Sto → KD → Prop}
theorem de_bm (pa : PlainAttrs T) (slot : Slot T name id) (hty : typeOf (.builtin id) = pure (.type "method_descriptor")) (hm : DMt X id r) (ho : DE X o to) (ha : DAr X (e :: es) t)
    (hbase : attributeBase o name X.env (eval o X.env) = eval o X.env := by rfl)
    (hfew : ((backTo cpos (starEach (e :: es) X.env)).all (fun x => !x.1) && (backToKw cpos (keywordEach [] X.env)).all (fun x => x.1.isSome)
      && decide ((e :: es).length + ([] : List Keyword).length + (if ([] : List Keyword).isEmpty then 0 else 1) < 30)) = true := by rfl)
    (hline : (apos.endLine == cpos.line) = true := by rfl) (hs : starEach (e :: es) X.env = (false, eval e X.env) :: starEach es X.env := by rfl) (hplain : (backTo cpos (starEach es X.env)).any (·.1) = false := by rfl) :
    DE X (.Call (.Attribute o name apos) (e :: es) [] cpos) (dBM T r to t) := by
  obtain ⟨rh, h1, h2⟩ := hm
  exact .up (pe_bm pa slot hty h1 ho.lo ha.lo hbase hfew hline hs hplain) fun σ H τ S Q st hr q => .mk st hr q fun v H1 ⟨e1, d, S1, hr1, r1, ty, q1⟩ => ⟨ty.v hr1 r1, τ, S1, _, st.ev e1, hr1, q1, fun vs H2 ⟨e2, ds, S2, hr2, r2, q2⟩ =>
    h2 v vs d ds H2 S2 Q _ hr2 (r1.ev e2) r2 q2 fun _ _ z => z.back (e1.trans e2)⟩
theorem relD_ref {v : V} {a : Addr} (r : RelD K H v (.ref a)) : v = .ref a := by cases r; rfl
theorem RelDs.one {vs : List V} {d : D} (r : RelDs K H vs [d]) : ∃ v, vs = [v] ∧ RelD K H v d := by
  cases r with
  | cons r t => cases t; exact ⟨_, rfl, r⟩
theorem RelDs.two {vs : List V} {d e : D} (r : RelDs K H vs [d, e]) : ∃ v w, vs = [v, w] ∧ RelD K H v d ∧ RelD K H w e := by
  cases r with
  | cons r t => cases t with
    | cons r' t => cases t; exact ⟨_, _, rfl, r, r'⟩
theorem up_lst {a : Addr} {vs ws : List V} {ds : List D} {Q : KD} {v : V} {d : D} (hr : HR K H S) (h1 : H a = some (.lst vs)) (r : RelDs K H ws ds) (rv : RelD K H v d) (q : Q d (put S a (.lst ds))) : Up K H Q v (upd H a (.lst ws)) :=
  have e : Ev H (upd H a (.lst ws)) := .upd h1 rfl
  .of e (hr.chg (b := .lst ds) h1 rfl ⟨ws, upd_same, r.ev e⟩) (rv.ev e) q
def wAppend : D → List D → Sto → KD → Prop := fun x xs S Q => match x, xs with
  | .ref a, [y] => onL S a fun ds => ds.length < sizeLine ∧ Q .non (put S a (.lst (ds ++ [y])))
  | _, _ => False
theorem dmt_append : DMt X "list.append" wAppend := ⟨_, mt_append, fun x xs dx ds H S Q R hr r1 r2 q k => by
  unfold wAppend at q
  split at q
  · obtain ⟨ds, e, z, q⟩ := onL.out q
    obtain ⟨vs, h1, r⟩ := hr _ _ e
    obtain ⟨y, rfl, ry⟩ := r2.one
    exact ⟨_, vs, y, relD_ref r1, rfl, h1, by rw [r.length]; exact z, k _ _ (up_lst hr h1 (r.append (.cons ry .nil)) .non q)⟩
  · exact q.elim⟩
theorem list_extend_tupW (l : Addr) (items : Array Value) (n : Nat) (b : Addr) (items2 : Array Value) (n2 : Nat) (dd2 : Option Addr) (sl2 : Array (Option Value))
    (hs0 : ¬(!items.isEmpty && Builtin.List.listTooLong (items.size + items2.size)) = true) (hs1 : items.size ≤ sizeLine) (hs2 : items.size + items2.size ≤ sizeLine) :
    Meets (Builtin.«list.extend» ⟨[.ref l, .ref b], []⟩) (fun _ R s => s.heap.get? l = some { cls := .type "list", data := .seq items n } ∧ s.heap.get? b = some { cls := .type "tuple", dict := dd2, data := .seq items2 n2, slots := sl2 } ∧
      R (.ok (.ret Value.none)) { s with heap := s.heap.update l (Obj.mapSeq fun x => x ++ items2), toks := s.toks }) :=
  .of_wp fun prog w A R s h => by
    obtain ⟨hp, g, d, tk, os⟩ := s
    obtain ⟨hl, hb, h⟩ := h
    have f1 := AutoSeq1.idx_int
    have f2 := AutoSeq1.sub_tuple_tuple
    have f3 := AutoSeq1.sub_list_list
    have f4 := AutoSeq1.sub_tuple_list
    have f5 := AutoSeq1.sub_list_tuple
    have hz' : (items ++ items2).size ≤ sizeLine + 1 := by rw [Array.size_append]; omega
    wp_walk using (wpAny_updateSeq hl rfl (hz := hs1) (_hz' := hz')), wpAny_loadPart' hl, wpAny_loadPart' hb
    exact ⟨_, rfl, h⟩
def rExtT (K : PySem.W.Frag) : V → List V → Hp → VK → Prop := fun x vs H Q => ∃ l b xs zs, x = .ref l ∧ vs = [.ref b] ∧ H l = some (.lst xs) ∧ SqT K H b zs ∧ xs.length + zs.length ≤ sizeLine ∧ Q .non (upd H l (.lst (xs ++ zs)))
theorem mt_extT : MtR X "list.extend" (rExtT X.K) := by
  intro pins s σ H x vs v us Q I rx rv ⟨l, b, xs, zs, ex, ev, hH, hB, hz, q⟩
  subst ex; subst ev
  cases rx
  obtain ⟨u, rfl, ru⟩ := rv.one
  cases ru
  obtain ⟨z, its, n, r, hl, e⟩ := I.lstM hH
  obtain ⟨its2, r2, ⟨⟨cls, dd, data, sl⟩, ho, hc, n2, hd⟩, z2⟩ := I.tuple hB
  simp only at hc hd
  subst hc hd
  have hl2 := r2.length
  have hsz : its.toArray.size + its2.toArray.size ≤ sizeLine := by rw [List.size_toArray, List.size_toArray]; omega
  have hlong : ¬ (!its.toArray.isEmpty && Builtin.List.listTooLong (its.toArray.size + its2.toArray.size)) = true := by
    rw [notLongL hsz, Bool.and_false]
    exact Bool.false_ne_true
  refine call_meets PySem.F.slot_list_extend ⟨_, e, rfl⟩ PySem.F.entry_list_extend (PySem.F.args_list_extend_2 _ _)
    (list_extend_tupW l its.toArray n b its2.toArray n2 dd sl hlong (by rw [List.size_toArray]; omega) hsz) ⟨e, ho, ?_⟩
  refine ⟨.non, _, I.lset (its' := its ++ its2) hH e (by simp) (r.append r2) ?_, rfl, q⟩
  rw [List.length_append]
  omega
def wExtend : D → List D → Sto → KD → Prop := fun x xs S Q => match x, xs with
  | .ref a, [.tup es] => onL S a fun ds => ds.length + es.length ≤ sizeLine ∧ Q .non (put S a (.lst (ds ++ es)))
  | .ref a, [.ref b] => onL S a fun ds => onL S b fun es => ds.length + es.length ≤ sizeLine ∧ Q .non (put S a (.lst (ds ++ es)))
  | _, _ => False
theorem dmt_extend : DMt X "list.extend" wExtend := ⟨_, MtR.or mt_extend mt_extT, fun x xs dx ds H S Q R hr r1 r2 q k => by
  unfold wExtend at q
  split at q
  · obtain ⟨ds, e, z, q⟩ := onL.out q
    obtain ⟨vs, h1, r⟩ := hr _ _ e
    obtain ⟨y, rfl, ry⟩ := r2.one
    cases ry with
    | tup t rt => exact .inr ⟨_, _, vs, _, relD_ref r1, rfl, h1, t.sq, by rw [r.length, rt.length]; exact z, k _ _ (up_lst hr h1 (r.append rt) .non q)⟩
  · obtain ⟨ds, e, q⟩ := onL.out q
    obtain ⟨es, e2, z, q⟩ := onL.out q
    obtain ⟨vs, h1, r⟩ := hr _ _ e
    obtain ⟨ws, h2, rt⟩ := hr _ _ e2
    obtain ⟨y, rfl, ry⟩ := r2.one
    cases ry
    exact .inl ⟨_, _, vs, _, relD_ref r1, rfl, h1, h2, by rw [r.length, rt.length]; exact z, k _ _ (up_lst hr h1 (r.append rt) .non q)⟩
  · exact q.elim⟩
end
end DL
namespace DL
open PySem PySem.Spec PyProof.Rows L2
def emitOf (e : Expr) (acc : Value) (env : Env) : Sem Unit := match e with
  | .ListComp elt _ _ _ => do let _ ← call (.builtin "list.append") [acc, ← eval elt env]
  | .SetComp elt _ _ _ => do let v ← eval elt env; standAt elt.pos; let _ ← call (.builtin "set.add") [acc, v]
  | .DictComp k v _ _ _ => do
    let kv ← eval k env
    let vv ← holding [kv] (eval v env)
    match acc with
    | .ref d => do
      standAt { k.pos with endLine := v.pos.endLine, endCol := v.pos.endCol }
      holding [kv, vv] (dictSet d kv vv)
    | _ => unsupported "internal:dictcomp"
  | _ => unsupported "internal:not-a-comprehension"
def isLC : Expr → Bool
  | .ListComp .. => true | .SetComp .. => true | .DictComp .. => true | _ => false
abbrev testsIn (env : Env) (ifs : List Expr) : Sem Bool := forIn ifs true fun c r => if r = true then do let ok ← isTrue c env (eval c env); pure (ForInStep.yield ok) else pure (ForInStep.yield r)
theorem turn_last {e : Expr} {d : Nat} {it acc : Value} {env : Env} {tg iter : Expr} {ifs : List Expr} (h0 : isLC e = true) (h1 : (clausesOf e)[d]? = some ⟨tg, iter, ifs, 0⟩) (h2 : (clausesOf e)[d + 1]? = none) :
    compTurn e d it acc env = (do
      standAt iter.pos
      match ← pyNext it with
      | none => pure (.done .next)
      | some v =>
        letOwnedTupleGo tg it v
        assign tg env v
        let ok ← testsIn env ifs
        if ok then
          emitOf e acc env
          again (.compLoop e d it acc env)
        else again (.compLoop e d it acc env)) := by
  cases e <;> first
    | (cases h0; done)
    | (simp only [clausesOf] at h1 h2
       unfold compTurn
       simp only [h1, h2]
       rfl)
theorem turn_more {e : Expr} {d : Nat} {it acc : Value} {env : Env} {tg iter tg' iter' : Expr} {ifs ifs' : List Expr} (h0 : isLC e = true) (h1 : (clausesOf e)[d]? = some ⟨tg, iter, ifs, 0⟩) (h2 : (clausesOf e)[d + 1]? = some ⟨tg', iter', ifs', 0⟩) :
    compTurn e d it acc env = (do
      standAt iter.pos
      match ← pyNext it with
      | none => pure (.done .next)
      | some v =>
        letOwnedTupleGo tg it v
        assign tg env v
        let ok ← testsIn env ifs
        if ok then
          let x ← eval iter' env
          standAt iter'.pos
          let x ← foldedSetIterable iter' env x
          let _ ← runOwn (.compStart e (d + 1) (← holding [x] (pyIter x)) acc env) env
          again (.compLoop e d it acc env)
        else again (.compLoop e d it acc env)) := by
  cases e <;> first
    | (cases h0; done)
    | (simp only [clausesOf] at h1 h2
       unfold compTurn
       simp only [h1, h2]
       rfl)
def wipeD (τ : DSt) : List Nat → DSt
  | [] => τ
  | v :: vs => (wipeD τ vs).set v none
theorem StR.wipe {K : KW} {H : Hp} {σ : L2.St} {τ : DSt} (r : StR K H σ τ) : ∀ vs : List Nat, StR K H (L2.wipe σ vs) (wipeD τ vs)
  | [] => r
  | v :: vs => (StR.wipe r vs).setN v
abbrev DEmT := DSt → Sto → (Sto → Prop) → Prop
def loopC (g : DTG) (tt : DTT) (vs : List Nat) (inner : DEmT) (stab : Sto → Prop) : List D → DSt → Sto → (Sto → Prop) → Prop
  | [], _, S, k => stab S ∧ k S
  | d :: ds, τ, S, k => stab S ∧ g d τ S fun τ2 S2 => wipeD τ2 vs = τ ∧ tt τ2 S2 fun b S3 => if b = true then inner τ2 S3 fun S4 => loopC g tt vs inner stab ds τ S4 k else loopC g tt vs inner stab ds τ S3 k
abbrev ClT := DTI × DTG × DTT × List Nat
def compR : List ClT → DEmT → DEmT
  | [], em => em
  | (wi, g, tt, vs) :: rs, em => fun τ S k => wi τ S fun ds stab S1 => loopC g tt vs (compR rs em) stab ds τ S1 k
structure DTs (X : Cx) (ifs : List Expr) (t : DTT) : Prop where
  run : ∀ (pins : List (Addr × Obj)) (s : Shared) (σ : L2.St) (H : Hp) (τ : DSt) (S : Sto) (Q : Bool → Sto → Prop), Inv X pins σ H s → StR X.KW H σ τ → HR X.KW H S → t τ S Q →
    wpAny (model X.prog X.w) X.A (testsIn X.env ifs) (TP X pins σ (UpT X.KW H Q)) X.xe s
def dYes : DTT := fun _ S Q => Q true S
theorem dts_nil {X : Cx} : DTs X [] dYes := ⟨fun pins s σ H τ S Q I st hr q => wpAny_tests_nil ⟨H, I, .refl _, S, hr, q⟩⟩
theorem dts_one {X : Cx} {c : Expr} {t : DTT} (h : DT X c t) : DTs X [c] t := ⟨fun pins s σ H τ S Q I st hr q => wpAny_tests_one (h.run pins s σ H τ S Q I st hr q)⟩
inductive DCl (Y : Cx) : List Comprehension → List ClT → Prop
  | nil : DCl Y [] []
  | cons {tg iter ifs wi g tt vs gs rs} : DI Y tg iter wi → DG Y tg g → DTs Y ifs tt → (∀ env x, foldedSetIterable iter env x = pure x) → DCl Y gs rs → DCl Y (⟨tg, iter, ifs, 0⟩ :: gs) ((wi, g, tt, vs) :: rs)
structure DEm (Y : Cx) (emit : Sem Unit) (em : DEmT) : Prop where
  run : ∀ (pins : List (Addr × Obj)) (s : Shared) (σ : L2.St) (H : Hp) (τ : DSt) (S : Sto) (k : Sto → Prop), Inv Y pins σ H s → StR Y.KW H σ τ → HR Y.KW H S → em τ S k →
    wpAny (model Y.prog Y.w) Y.A emit (fun _ s' => ∃ H' S', Inv Y pins σ H' s' ∧ Ev H H' ∧ HR Y.KW H' S' ∧ k S') (fun _ _ => False) s
theorem thnN {α : Type} {t : Sem α} {Q Q' : α → Shared → Prop} {M : Model} {A : Around} {E : Value → Shared → Prop} {s : Shared} (h : wpAny M A t Q (fun _ _ => False) s) (hQ : ∀ a s, Q a s → Q' a s) : wpAny M A t Q' E s := wpAny_mono h hQ fun _ _ z => z.elim
theorem start_more {prog : Program} {w : World} {A : Around} {R : Result → Shared → Prop} {s : Shared} {e : Expr} {d : Nat} {g : Comprehension} {it acc : Value} {env : Env} (hlc : isLC e = true) (hg : (clausesOf e)[d]? = some g) (ha : g.is_async = 0)
    (h0 : codeAny (model prog w) A (.compLoop e d it acc env) R s)
    (h : wpAny (model prog w) A (pyIter it) (fun it' s' => codeAny (model prog w) A (.compLoop e d it' acc env) R s') (notedBy (model prog w) A env fun x s' => R (.error x) s') s) : codeAny (model prog w) A (.compStart e d it acc env) R s := by
  have hb : (g.is_async != 0) = false := by rw [ha]; rfl
  refine codeAny_of_tree ?_
  cases e
  case ListComp | SetComp | DictComp =>
    all_goals
      show wpAny _ A ((compStart _ d it acc env).onRaise (fun x => do noteFrame x env; standAt theWindowsPlace)) _ _ s
      refine wpAny_notedAt ?_
      unfold compStart
      rw [hg]
      simp only [Option.elim_some, hb, Bool.false_eq_true, if_false]
      refine wpAny_bind (wpAny_askSetting (wpAny_ite ?_))
      split
      · first
          | exact wpAny_bind (wpAny_pure (wpAny_pure (And.intro rfl h0)))
          | exact wpAny_pure (And.intro rfl h0)
      · first
          | exact wpAny_bind (wpAny_rule (wpAny_bind (wpAny_standAt (wpAny_bind (wpAny_mono h (fun it' s' h' => wpAny_pure (And.intro rfl h')) fun _ _ x => x)))))
          | (refine wpAny_bind (wpAny_rule ?_); show wpAny _ _ (standAt _ >>= _) _ _ s; exact wpAny_bind (wpAny_standAt (wpAny_bind (wpAny_mono h (fun it' s' h' => wpAny_pure (And.intro rfl h')) fun _ _ x => x))))
  all_goals cases hlc
theorem loop_turn {prog : Program} {w : World} {A : Around} {R : Result → Shared → Prop} {s : Shared} {e : Expr} {d : Nat} {it acc : Value} {env : Env} (hlc : isLC e = true) (I : Nat → Shared → Prop)
    (turn : ∀ n s, I n s → wpAny (model prog w) A (compTurn e d it acc env) (fun fin s' => match fin with | .done f => R (.ok f) s' | .again c' => c' = .compLoop e d it acc env ∧ ∃ m, m < n ∧ I m s') (notedBy (model prog w) A env fun x s' => R (.error x) s') s)
    (n : Nat) (h : I n s) : codeAny (model prog w) A (.compLoop e d it acc env) R s := by
  cases e
  case ListComp | SetComp | DictComp =>
    all_goals
      refine codeAny_loop rfl I (fun n s hI => ?_) n h
      show wpAny _ A ((compTurn _ d it acc env).onRaise (fun x => do noteFrame x env; theTreesLotGoes x)) _ _ s
      exact wpAny_noted (turn n s hI)
  all_goals cases hlc
theorem DG.runF {Y : Cx} {tg : Expr} {g : DTG} (h : DG Y tg g) (hxe : Y.xe = fun _ _ => False) {pins : List (Addr × Obj)} {s : Shared} {σ : L2.St} {H : Hp} {τ : DSt} {S : Sto} {v : V} {d : D} {u : Value} {Q : DSt → Sto → Prop} (I : Inv Y pins σ H s) (r : RelV v u) (rd : RelD Y.KW H v d) (st : StR Y.KW H σ τ) (hr : HR Y.KW H S) (q : g d τ S Q) :
    wpAny (model Y.prog Y.w) Y.A (assign tg Y.env u) (fun _ s' => ∃ σ' H', Inv Y pins σ' H' s' ∧ UpS Y.KW H Q σ' H') (fun _ _ => False) s := by
  have z := h.pg.run _ s σ H v u _ I r ⟨d, τ, S, Q, rd, st, hr, q, fun _ _ z => z⟩
  rw [hxe] at z
  exact thnN z fun _ s' ⟨σ', H', a, b⟩ => ⟨σ', H', a, b⟩
theorem DI.runF {Y : Cx} {tg iter : Expr} {wi : DTI} (h : DI Y tg iter wi) (hxe : Y.xe = fun _ _ => False) {pins : List (Addr × Obj)} {s : Shared} {σ : L2.St} {H : Hp} {τ : DSt} {S : Sto} {Rd : List D → (Sto → Prop) → Sto → Prop} (I : Inv Y pins σ H s) (st : StR Y.KW H σ τ) (hr : HR Y.KW H S) (q : wi τ S Rd) :
    wpAny (model Y.prog Y.w) Y.A (eval iter Y.env) (fun v s1 => wpAny (model Y.prog Y.w) Y.A (pyIter v) (fun itv s2 => ∃ (it : Addr) (fp : List Addr) (tn : Nat → Heap → Prop) (H' : Hp) (ds : List D) (stab : Sto → Prop) (S1 : Sto), itv = .ref it ∧ Inv Y pins σ H' s2 ∧ Ev H H' ∧ HR Y.KW H' S1 ∧
      Turn Y.prog Y.w Y.K tg (ItD Y.KW H' ds stab) fp it tn ∧ tn 0 s2.heap ∧ (∀ b ∈ fp, FpOk Y pins H' b) ∧ Rd ds stab S1) (fun _ _ => False) s1) (fun _ _ => False) s := by
  have z := h.pi.run pins s σ H (fun J H' => ∃ ds stab S1, J = ItD Y.KW H' ds stab ∧ Ev H H' ∧ HR Y.KW H' S1 ∧ Rd ds stab S1) I ⟨τ, S, Rd, st, hr, q, fun ds stab S1 H1 e hr' rd => ⟨ds, stab, S1, rfl, e, hr', rd⟩⟩
  rw [hxe] at z
  refine thnN z fun v s1 h1 => thnN h1 fun itv s2 hp => ?_
  obtain ⟨it, fp, tn, J, H', e, I', T, t0, f, ds, stab, S1, ej, ev, hr', rd⟩ := hp
  subst ej
  exact ⟨it, fp, tn, H', ds, stab, S1, e, I', ev, hr', T, t0, f, rd⟩
theorem DTs.runF {Y : Cx} {ifs : List Expr} {t : DTT} (h : DTs Y ifs t) (hxe : Y.xe = fun _ _ => False) {pins : List (Addr × Obj)} {s : Shared} {σ : L2.St} {H : Hp} {τ : DSt} {S : Sto} {Q : Bool → Sto → Prop} (I : Inv Y pins σ H s) (st : StR Y.KW H σ τ) (hr : HR Y.KW H S) (q : t τ S Q) :
    wpAny (model Y.prog Y.w) Y.A (testsIn Y.env ifs) (fun b s' => ∃ H', Inv Y pins σ H' s' ∧ UpT Y.KW H Q b H') (fun _ _ => False) s := by
  have z := h.run _ s σ H τ S Q I st hr q
  rw [hxe] at z
  exact z
structure DRest (Y : Cx) (rest : Sem Fin) (c : Code) (em : DEmT) : Prop where
  run : ∀ (pins : List (Addr × Obj)) (s : Shared) (σ : L2.St) (H : Hp) (τ : DSt) (S : Sto) (k : Sto → Prop), Inv Y pins σ H s → StR Y.KW H σ τ → HR Y.KW H S → em τ S k →
    wpAny (model Y.prog Y.w) Y.A rest (fun r s' => r = .again c ∧ ∃ σ' H' S', Inv Y pins σ' H' s' ∧ Ev H H' ∧ StR Y.KW H' σ' τ ∧ HR Y.KW H' S' ∧ k S') (fun _ _ => False) s
theorem clause_loop {Y : Cx} {e : Expr} {acc : Value} {em : DEmT} {d : Nat} {tg iter : Expr} {ifs : List Expr} {g : DTG} {tt : DTT} {vs : List Nat} {rest : Sem Fin} {it : Addr} (hlc : isLC e = true) (hc : Y.calm = true) (hxe : Y.xe = fun _ _ => False)
    (ht : compTurn e d (.ref it) acc Y.env = (do
      standAt iter.pos
      match ← pyNext (.ref it) with
      | none => pure (.done .next)
      | some v =>
        letOwnedTupleGo tg (.ref it) v
        assign tg Y.env v
        let ok ← testsIn Y.env ifs
        if ok then rest
        else again (.compLoop e d (.ref it) acc Y.env)))
    (hg : DG Y tg g) (hts : DTs Y ifs tt) (hrest : DRest Y rest (.compLoop e d (.ref it) acc Y.env) em) :
      ∀ (pins : List (Addr × Obj)) (s : Shared) (σ : L2.St) (H : Hp) (τ : DSt) (S : Sto) (k : Sto → Prop) (H0 : Hp) (fp : List Addr) (tn : Nat → Heap → Prop) (ds : List D) (stab : Sto → Prop),
        Inv Y pins σ H s → Ev H0 H → StR Y.KW H σ τ → HR Y.KW H S → Turn Y.prog Y.w Y.K tg (ItD Y.KW H0 ds stab) fp it tn → tn 0 s.heap → (∀ b ∈ fp, FpOk Y pins H b) → loopC g tt vs em stab ds τ S k →
        codeAny (model Y.prog Y.w) Y.A (.compLoop e d (.ref it) acc Y.env) (fun r s' => r = .ok .next ∧ ∃ σ' H' S', Inv Y pins σ' H' s' ∧ Ev H H' ∧ StR Y.KW H' σ' τ ∧ HR Y.KW H' S' ∧ k S') s := by
  intro pins s σ H τ S k H0 fp tn ds stab I e0 st hr T t0 f q
  refine loop_turn hlc (fun n s' => ∃ i σ' H' S', n = ds.length - i ∧ i ≤ ds.length ∧ Inv Y pins σ' H' s' ∧ Ev H H' ∧ StR Y.KW H' σ' τ ∧ HR Y.KW H' S' ∧ tn i s'.heap ∧ (∀ b ∈ fp, H' b = none) ∧ loopC g tt vs em stab (ds.drop i) τ S' k) ?_ ds.length
    ⟨0, σ, H, S, by simp, Nat.zero_le _, I, .refl _, st, hr, t0, fun b hb => (f b hb).1, by simpa using q⟩
  rintro n s5 ⟨i, σ5, H5, S5, en, hi, I5, e5, st5, hr5, t5, n5, q5⟩
  have stat : ∀ {H' : Hp}, (∀ b ∈ fp, H' b = none) → ∀ b ∈ fp, FpOk Y pins H' b := fun hn b hb => ⟨hn b hb, (f b hb).2⟩
  rw [ht]
  refine wpAny_bind (wpAny_standAt (wpAny_bind ?_))
  by_cases hlt : i < ds.length
  · rw [List.drop_eq_getElem_cons hlt] at q5
    have ti := T.item Y rfl rfl rfl hc i pins s5 σ5 H5 (fun _ _ => False) I5 (stat n5) t5 ⟨e0.trans e5, ⟨S5, hr5, q5.1⟩, hlt⟩
    refine thnN ti fun r s6 ⟨u, hr, h6⟩ => ?_
    subst hr
    refine wpAny_bind (thnN h6 fun _ s7 ⟨x, H7, I7, r7, y7, t7, n7⟩ => ?_)
    obtain ⟨e57, k57, dd, hdd, rd⟩ := y7
    rw [List.getElem?_eq_getElem hlt] at hdd
    cases hdd
    have I7' := I7.pinned (stat n7) (T.obj _ _ t7)
    have q7 := q5.2
    refine wpAny_bind (thnN (hg.runF hxe I7' r7 rd (st5.ev e57) (k57 _ hr5) q7) fun _ s8 ⟨σ8, H8, I8, e78, τ8, S8, hr8, st8, hw8, q8⟩ => ?_)
    refine wpAny_bind (thnN (hts.runF hxe I8 st8 hr8 q8) fun b s9 ⟨H9, I9, e89, S9, hr9, q9⟩ => ?_)
    -- the turn's end
    have e59 : Ev H5 H9 := (e57.trans e78).trans e89
    have fin : ∀ {s' : Shared} {σ' : L2.St} {H' : Hp} {S' : Sto}, Inv Y (pins ++ pinsAt fp s7.heap) σ' H' s' → Ev H9 H' → StR Y.KW H' σ' τ8 → HR Y.KW H' S' → loopC g tt vs em stab (ds.drop (i + 1)) τ S' k →
        ∃ m, m < n ∧ ∃ i σ' H' S', m = ds.length - i ∧ i ≤ ds.length ∧ Inv Y pins σ' H' s' ∧ Ev H H' ∧ StR Y.KW H' σ' τ ∧ HR Y.KW H' S' ∧ tn i s'.heap ∧ (∀ b ∈ fp, H' b = none) ∧ loopC g tt vs em stab (ds.drop i) τ S' k := fun {s' σ' H' S'} I' e' st' hr' q' => by
      have pin' : ∀ b ∈ fp, ∀ o, s7.heap.get? b = some o → s'.heap.get? b = some o ∧ H' b = none := fun b hb o e =>
        let z := I'.pin (b, o) (List.mem_append_right _ (List.mem_append_right _ (mem_pinsAt hb e)))
        ⟨z.1, z.2.1⟩
      refine ⟨ds.length - (i + 1), by omega, i + 1, L2.wipe σ' vs, H', S', rfl, hlt, (I'.unpinned).weak (wipe_length ..) fun j v e => (wipe_some e).1, (e5.trans e59).trans e', ?_, hr', T.keep _ _ _ t7 fun b hb o e => (pin' b hb o e).1, fun b hb => ?_, q'⟩
      · have z := StR.wipe st' vs
        rw [hw8] at z
        exact z
      · obtain ⟨o, e, _⟩ := T.obj _ _ t7 b hb
        exact (pin' b hb o e).2
    cases b with
    | false =>
      simp only [Bool.false_eq_true, if_false] at q9 ⊢
      exact wpAny_pure ⟨rfl, fin I9 (.refl _) (st8.ev e89) hr9 q9⟩
    | true =>
      simp only [if_true] at q9 ⊢
      refine thnN (hrest.run _ s9 σ8 H9 τ8 S9 _ I9 (st8.ev e89) hr9 q9) fun r s10 ⟨er, σ', H', S', I', e', st', hr', q'⟩ => ?_
      subst er
      exact ⟨rfl, fin I' e' st' hr' q'⟩
  · have ei : i = ds.length := by omega
    subst ei
    rw [List.drop_length] at q5
    have td := T.done Y rfl rfl rfl hc ds.length pins s5 σ5 H5 (fun _ _ => False) I5 (stat n5) t5 ⟨e0.trans e5, ⟨S5, hr5, q5.1⟩, rfl⟩
    refine thnN td fun r s6 ⟨hr, I6⟩ => ?_
    subst hr
    exact wpAny_pure ⟨rfl, σ5, H5, S5, I6, e5, st5, hr5, q5.2⟩
theorem drop_at {α : Type} {l : List α} {d : Nat} {a : α} {r : List α} (h : l.drop d = a :: r) : l[d]? = some a ∧ l.drop (d + 1) = r := by
  have h1 : (l.drop d)[0]? = some a := by rw [h]; rfl
  rw [List.getElem?_drop] at h1
  refine ⟨by simpa using h1, ?_⟩
  have h2 : (l.drop d).drop 1 = r := by rw [h]; rfl
  rw [List.drop_drop] at h2
  simpa [Nat.add_comm] using h2
theorem comp_loop {Y : Cx} {e : Expr} {acc : Value} {em : DEmT} (hlc : isLC e = true) (hc : Y.calm = true) (hxe : Y.xe = fun _ _ => False) (hem : DEm Y (emitOf e acc Y.env) em) :
    ∀ (gs : List Comprehension) (rs : List ClT) (tg iter : Expr) (ifs : List Expr) (g : DTG) (tt : DTT) (vs : List Nat) (d : Nat), (clausesOf e).drop d = ⟨tg, iter, ifs, 0⟩ :: gs → DG Y tg g → DTs Y ifs tt → DCl Y gs rs →
      ∀ (pins : List (Addr × Obj)) (s : Shared) (σ : L2.St) (H : Hp) (τ : DSt) (S : Sto) (k : Sto → Prop) (H0 : Hp) (it : Addr) (fp : List Addr) (tn : Nat → Heap → Prop) (ds : List D) (stab : Sto → Prop),
        Inv Y pins σ H s → Ev H0 H → StR Y.KW H σ τ → HR Y.KW H S → Turn Y.prog Y.w Y.K tg (ItD Y.KW H0 ds stab) fp it tn → tn 0 s.heap → (∀ b ∈ fp, FpOk Y pins H b) → loopC g tt vs (compR rs em) stab ds τ S k →
        codeAny (model Y.prog Y.w) Y.A (.compLoop e d (.ref it) acc Y.env) (fun r s' => r = .ok .next ∧ ∃ σ' H' S', Inv Y pins σ' H' s' ∧ Ev H H' ∧ StR Y.KW H' σ' τ ∧ HR Y.KW H' S' ∧ k S') s := by
  intro gs
  induction gs with
  | nil =>
    intro rs tg iter ifs g tt vs d hd hg hts hcl pins s σ H τ S k H0 it fp tn ds stab I e0 st hr T t0 f q
    cases hcl
    obtain ⟨h1, h2⟩ := drop_at hd
    have h3 : (clausesOf e)[d + 1]? = none := by
      have z : ((clausesOf e).drop (d + 1))[0]? = none := by rw [h2]; rfl
      rw [List.getElem?_drop] at z
      simpa using z
    refine clause_loop hlc hc hxe (rest := do emitOf e acc Y.env; again (.compLoop e d (.ref it) acc Y.env)) (em := em) (turn_last hlc h1 h3) hg hts ⟨fun pins s σ H τ S k I st hr q => ?_⟩ pins s σ H τ S k H0 fp tn ds stab I e0 st hr T t0 f q
    exact wpAny_bind (thnN (hem.run pins s σ H τ S k I st hr q) fun _ s' ⟨H', S', I', e', hr', q'⟩ => wpAny_pure ⟨rfl, σ, H', S', I', e', st.ev e', hr', q'⟩)
  | cons g2 gs ih =>
    intro rs tg iter ifs g tt vs d hd hg hts hcl pins s σ H τ S k H0 it fp tn ds stab I e0 st hr T t0 f q
    cases hcl with
    | @cons tg' iter' ifs' wi' g' tt' vs' _ rs' hi' hg' ht' hf' hcl' =>
    obtain ⟨h1, h2⟩ := drop_at hd
    obtain ⟨h3, _⟩ := drop_at h2
    refine clause_loop hlc hc hxe (em := compR ((wi', g', tt', vs') :: rs') em) (turn_more hlc h1 h3) hg hts ⟨fun pins s σ H τ S k I st hr q => ?_⟩ pins s σ H τ S k H0 fp tn ds stab I e0 st hr T t0 f q
    refine wpAny_bind (thnN (hi'.runF hxe I st hr (Rd := fun ds stab S1 => loopC g' tt' vs' (compR rs' em) stab ds τ S1 k) q) fun v s1 h1 => ?_)
    refine wpAny_bind (wpAny_standAt (wpAny_bind (wpAny_of_eq (hf' _ _) ?_)))
    refine wpAny_bind (wpAny_holding (thnN h1 fun itv s2 ⟨it2, fp2, tn2, H2, ds2, stab2, S2, ei, I2, ev2, hr2, T2, t2, f2, q2⟩ => ?_))
    subst ei
    have st2 := st.ev ev2
    have loop := ih rs' tg' iter' ifs' g' tt' vs' (d + 1) h2 hg' ht' hcl' pins s2 σ H2 τ S2 k H2 it2 fp2 tn2 ds2 stab2 I2 (.refl _) st2 hr2 T2 t2 f2 q2
    refine wpAny_bind (wpAny_runOwn (h := none) ?_ (by intro x; cases x))
    rw [Around.mark_none]
    have R2 : codeAny (model Y.prog Y.w) Y.A (.compLoop e (d + 1) (.ref it2) acc Y.env) (fun r s' => match r with | .ok f => wpAny (model Y.prog Y.w) Y.A (do let _ ← pure f; again (.compLoop e d (.ref it) acc Y.env)) (fun r s' => r = .again (.compLoop e d (.ref it) acc Y.env) ∧ ∃ σ' H' S', Inv Y pins σ' H' s' ∧ Ev H H' ∧ StR Y.KW H' σ' τ ∧ HR Y.KW H' S' ∧ k S') (fun _ _ => False) s' | .error e => cameBackBy (model Y.prog Y.w) Y.A Y.env (fun _ _ => False) e s') s2 := by
      refine codeAny_mono loop ?_
      rintro r s' ⟨rfl, σ', H', S', I', e', st', hr', q'⟩
      exact wpAny_bind (wpAny_pure (wpAny_pure ⟨rfl, σ', H', S', I', ev2.trans e', st', hr', q'⟩))
    exact start_more hlc h3 rfl R2 (T2.self _ 0 _ _ _ t2 R2)
end DL
namespace DL
open PySem PySem.Spec PyProof.Rows L2
structure CompB (Y : Cx) (e tg : Expr) (ifs : List Expr) (gs : List Comprehension) (g : DTG) (tt : DTT) (rs : List ClT) (em : Addr → DEmT) : Prop where
  tgt : DG Y tg g
  tst : DTs Y ifs tt
  cls : DCl Y gs rs
  emit : ∀ D, DEm Y (emitOf e (.ref D) Y.env) (em D)
abbrev BlkAll (X : Cx) (scope : Scope) (φ : Cx → Prop) : Prop := ∀ (s : Shared) (H : Hp) (C : Addr) (cl : List (Str × Addr)) (fp : List Addr), φ (X.blk s H scope (compEnvC scope cl C X.env) fp)
structure NewAcc (X : Cx) (newAcc : Sem Value) (ob : Obj) (o : Addr → HO) (ao : AO) : Prop where
  lay : ∀ (s : Shared) (E : Value → Shared → Prop) (Q : Value → Shared → Prop), Q (.ref s.heap.objs.size) { s with heap := s.heap.push ob } → wpAny (model X.prog X.w) X.A newAcc Q E s
  ok : ∀ (h : Heap) (H : Hp), sysModules < h.objs.size → ObjOk X.prog X.w (upd H h.objs.size (o h.objs.size)) (h.push ob) h.objs.size (o h.objs.size)
  rel : ∀ (H : Hp) (D : Addr), OkO X.KW (upd H D (o D)) D ao
  st : ∀ D, stays (o D) = false
theorem HR.newO {K : KW} {H : Hp} {S : Sto} {D : Addr} {o : HO} {ao : AO} (h : HR K H S) (n : H D = none) (r : OkO K (upd H D o) D ao) : HR K (upd H D o) (put S D ao) := fun a u e => by
  by_cases ha : a = D
  · subst ha; rw [put_same] at e; cases e; exact r
  · rw [put_ne ha] at e; exact (h.new n) a u e
def dComp (wi : DTI) (g : DTG) (tt : DTT) (vs all : List Nat) (rs : List ClT) (em : Addr → DEmT) (ao : AO) : DTE := fun τ S Q => wi τ S fun ds stab S1 => ∀ D, S1 D = none → loopC g tt vs (compR rs (em D)) stab ds (wipeD τ all) (put S1 D ao) (fun S2 => Q (.ref D) S2)
section
variable {X : Cx}
theorem comp_core {pins : List (Addr × Obj)} {s : Shared} {σ : L2.St} {H : Hp} {τ : DSt} {S : Sto} {Q : D → Sto → Prop} {e tg iter : Expr} {ifs : List Expr} {gs : List Comprehension} {scope : Scope} {own : List (Str × Nat)} {pos' : Pos} {wi : DTI} {g : DTG} {tt : DTT} {vs : List Nat} {rs : List ClT} {em : Addr → DEmT} {newAcc : Sem Value} {ob : Obj} {o : Addr → HO} {ao : AO}
    {use : Option (Value → Sem Unit)} {Qf : Value → Shared → Prop}
    (hlc : isLC e = true) (hcl : clausesOf e = ⟨tg, iter, ifs, 0⟩ :: gs) (hc : X.calm = true) (hN : X.N.Nodup) (I : Inv X pins σ H s) (st : StR X.KW H σ τ) (hr : HR X.KW H S) (hi : DI X tg iter wi) (ok : BlkOk X.N X.env.scope scope own)
    (hb : BlkAll X scope fun Y => CompB Y e tg ifs gs g tt rs em) (na : NewAcc X newAcc ob o ao) (hs : ∀ x, foldedSetIterable iter X.env x = pure x)
    (h : dComp wi g tt vs (own.map (·.2)) rs em ao τ S Q)
    (hRR : ∀ D C s' m H' S', Inv X pins σ H' s' → Ev H H' → HR X.KW H' S' → Q (.ref D) S' → s'.heap.Ns C m → FpOk X pins H' C → compPost (model X.prog X.w) X.A X.xe use Qf (.ref D) C (.ok .next) s') :
    wpAny (model X.prog X.w) X.A (comprehension e scope X.env pos' newAcc false (eval iter X.env) use) Qf X.xe s := by
  have hfree : ∀ y ∈ scope.names, y.2 = .free → ∃ c, X.env.cells.lookup y.1 = some c := fun y hy e => (ok.free y hy e).elim (fun k => I.ok.has _ (.inl k)) fun k => I.ok.has _ (.inr k)
  refine wpAny_comprehension_free (use := use) hcl hs (closure_ok hfree) ok.kind (fun y hy e => by rw [ok.uniq y hy, e]) ?_
  refine thn (hi.pi.run pins s σ H (fun J H' => ∃ ds stab S1, J = ItD X.KW H' ds stab ∧ Ev H H' ∧ HR X.KW H' S1 ∧ ∀ D, S1 D = none → loopC g tt vs (compR rs (em D)) stab ds (wipeD τ (own.map (·.2))) (put S1 D ao) (fun S2 => Q (.ref D) S2)) I
    ⟨τ, S, _, st, hr, h, fun ds stab S1 H1 e1 hr1 rd => ⟨ds, stab, S1, rfl, e1, hr1, rd⟩⟩) fun xv s1 hx => thn hx fun itv s2 h2 => ?_
  obtain ⟨it, fp, tn, J, H2, ei, I2, T, t2, f2, ds, stab, S2, ej, ev2, hr2, q⟩ := h2
  subst ei
  subst ej
  refine na.lay _ _ _ (newEnv_comp ?_)
  generalize hD : s2.heap.objs.size = D
  have hDn : H2 D = none := I2.hok.fresh (Nat.le_of_eq hD)
  have hSn : S2 D = none := hr2.free hDn
  have q := q D hSn
  -- the new thing
  generalize hs3 : ({ s2 with heap := s2.heap.push ob } : Shared) = s3
  have I3 : Inv X pins σ (upd H2 D (o D)) s3 := by
    rw [← hs3, ← hD]
    exact I2.laid (t' := s2.toks) (fun b _ e => Heap.get?_push_of_some _ e) (Nat.le_refl _) (na.ok _ _ I2.big)
  have h3 : s3.heap = s2.heap.push ob := by rw [← hs3]
  have hr3 : HR X.KW (upd H2 D (o D)) (put S2 D ao) := hr2.newO hDn (na.rel _ _)
  have ev3 : Ev H2 (upd H2 D (o D)) := .new hDn
  have f3 : ∀ b ∈ fp, FpOk X pins (upd H2 D (o D)) b ∧ b < s3.heap.objs.size := fun b hb => by
    obtain ⟨ob', eb, _⟩ := T.obj _ _ t2 b hb
    have hlt := Heap.lt_size eb
    refine ⟨⟨?_, (f2 b hb).2⟩, by rw [h3, Heap.size_push]; exact Nat.lt_succ_of_lt hlt⟩
    rw [upd_ne (by rw [← hD]; exact Nat.ne_of_lt hlt)]
    exact (f2 b hb).1
  have t3 : tn 0 s3.heap := T.keep _ _ _ t2 fun b _ _ e => by rw [h3]; exact Heap.get?_push_of_some _ e
  have I4 := block_start I3 ok hN f3
  have B := hb s3 (upd H2 D (o D)) s3.heap.objs.size (cellsFrom (s3.heap.objs.size + 1) scope.names (cloFrom X.env.cells scope.names [])) fp
  show codeAny _ _ (.compStart e 0 (.ref it) (.ref D) (compEnvC scope (cellsFrom (s3.heap.objs.size + 1) scope.names (cloFrom X.env.cells scope.names [])) s3.heap.objs.size X.env)) (compPost (model X.prog X.w) X.A X.xe use Qf (.ref D) s3.heap.objs.size) { s3 with heap := pushCells (s3.heap.push { cls := .type "dict", data := .dict #[] }) scope.names }
  generalize hce : compEnvC scope (cellsFrom (s3.heap.objs.size + 1) scope.names (cloFrom X.env.cells scope.names [])) s3.heap.objs.size X.env = ce at I4 B ⊢
  have cL : ce.locals = s3.heap.objs.size := by subst hce; rfl
  have nfp : ∀ b ∈ fp, (upd H2 D (o D)) b = none := fun b hb => (f3 b hb).1.1
  generalize hH3 : upd H2 D (o D) = H3 at I3 I4 B nfp f3 hr3 ev3
  generalize hs4 : ({ s3 with heap := pushCells (s3.heap.push { cls := .type "dict", data := .dict #[] }) scope.names } : Shared) = s4 at I4 ⊢
  have t4 : tn 0 s4.heap := T.keep _ _ _ t3 fun b _ _ e => by rw [← hs4]; exact pushCells_keeps _ _ _ _ (Heap.get?_push_of_some _ e)
  have f4 : ∀ b ∈ fp, FpOk (X.blk s3 H3 scope ce fp) [] H3 b := fun b hb => ⟨nfp b hb, (I4.ok.exf b hb).1, I4.ok.exfs b hb, .inl hb, fun x c e => (I4.ok.exf b hb).2 x c e, fun p hp => absurd (show p ∈ ([] : List (Addr × Obj)) ++ [] from hp) (by simp)⟩
  have st4 : StR X.KW H3 (L2.wipe σ (own.map (·.2))) (wipeD τ (own.map (·.2))) := StR.wipe (st.ev (ev2.trans ev3)) _
  have loop := comp_loop (Y := X.blk s3 H3 scope ce fp) (e := e) (acc := .ref D) (em := em D) hlc hc rfl (B.emit D) gs rs tg iter ifs g tt vs 0 (by rw [hcl]; rfl) B.tgt B.tst B.cls [] s4 _ H3 _ _ _ H2 it fp tn ds stab I4 ev3 st4 hr3 T t4 f4 q
  have loop' : codeAny (model X.prog X.w) X.A (.compLoop e 0 (.ref it) (.ref D) ce) (compPost (model X.prog X.w) X.A X.xe use Qf (.ref D) s3.heap.objs.size) s4 := by
    refine codeAny_mono loop ?_
    rintro r s6 ⟨rfl, σ6, H6, S6, I6, e6, st6, hr6, q6⟩
    have I7 : Inv X pins σ H6 s6 := I3.call' (ch := fp) I6.os I6.base I6.hok I6.bare fun b hb => ⟨(f3 b hb).1.2.2.2.1, (f3 b hb).1.2.1, (f3 b hb).1.2.2.2.2.1, (f3 b hb).1.2.2.2.2.2⟩
    have nC : H6 s3.heap.objs.size = none := by
      have z : H6 ce.locals = none := I6.free
      rw [cL] at z
      exact z
    obtain ⟨m, hn, _⟩ := I6.loc
    have hn : s6.heap.Ns ce.locals m := hn
    rw [cL] at hn
    exact hRR D s3.heap.objs.size s6 m H6 S6 I7 ((ev2.trans ev3).trans e6) hr6 q6 hn (I3.fpOk (Nat.le_refl _) nC)
  exact start_more hlc (by rw [hcl]; rfl) rfl loop' (T.self X.A 0 _ _ _ t4 loop')
theorem comp_val {e tg iter : Expr} {ifs : List Expr} {gs : List Comprehension} {scope : Scope} {own : List (Str × Nat)} {pos' : Pos} {wi : DTI} {g : DTG} {tt : DTT} {vs : List Nat} {rs : List ClT} {em : Addr → DEmT} {newAcc : Sem Value} {ob : Obj} {o : Addr → HO} {ao : AO}
    (he : eval e X.env = comprehension e scope X.env pos' newAcc false (eval iter X.env) none)
    (hlc : isLC e = true) (hcl : clausesOf e = ⟨tg, iter, ifs, 0⟩ :: gs) (hc : X.calm = true) (hN : X.N.Nodup) (hi : DI X tg iter wi) (ok : BlkOk X.N X.env.scope scope own)
    (hb : BlkAll X scope fun Y => CompB Y e tg ifs gs g tt rs em) (na : NewAcc X newAcc ob o ao) (hs : ∀ x, foldedSetIterable iter X.env x = pure x) : DE X e (dComp wi g tt vs (own.map (·.2)) rs em ao) := by
  refine ⟨fun pins s σ H τ S Q I st hr h => ?_⟩
  rw [he]
  refine comp_core hlc hcl hc hN I st hr hi ok hb na hs h fun D C s' m H' S' I' e' hr' q hn f => ⟨m, hn, fun h'' sb => ?_⟩
  obtain ⟨f0, f1, f2, f3, f4, f5⟩ := f
  exact ⟨.ref D, H', I'.turned (t' := s'.toks) (fun b _ hb e => (sb.2 b hb).trans e) f0 f1 f3 f4 f5, rfl, .of e' hr' (.ref D) q⟩
def emLst (te : DTE) (D : Addr) : DEmT := fun τ S k => te τ S fun y S1 => onL S1 D fun acc => acc.length < sizeLine ∧ k (put S1 D (.lst (acc ++ [y])))
theorem em_lst {Y : Cx} {elt : Expr} {gs : List Comprehension} {scope : Scope} {pos : Pos} {te : DTE} (hxe : Y.xe = fun _ _ => False) (he : DE Y elt te) (D : Addr) : DEm Y (emitOf (.ListComp elt gs scope pos) (.ref D) Y.env) (emLst te D) := by
  refine ⟨fun pins s σ H τ S k I st hr q => ?_⟩
  have z := he.run pins s σ H τ S _ I st hr q
  rw [hxe] at z
  show wpAny _ _ (do let v ← eval elt Y.env; let _ ← call (.builtin "list.append") [.ref D, v]) _ _ s
  refine wpAny_bind (thnN z fun u s1 ⟨v, H1, I1, r1, e1, d, S1, hr1, rd, q1⟩ => ?_)
  obtain ⟨acc, e, z, q1⟩ := onL.out q1
  obtain ⟨vs, h1, rv⟩ := hr1 _ _ e
  refine wpAny_bind (app_ok I1 h1 (by rw [rv.length]; exact z) r1 fun s2 I2 => wpAny_pure ⟨_, put S1 D (.lst (acc ++ [d])), I2, e1.trans (.upd h1 rfl), ?_, q1⟩)
  have e2 : Ev H1 (upd H1 D (.lst (vs ++ [v]))) := .upd h1 rfl
  exact hr1.chg h1 rfl ⟨_, upd_same, (rv.append (.cons rd .nil)).ev e2⟩
theorem na_lst : NewAcc X (newList []) { cls := .type "list", data := .seq ([] : List Value).toArray } (fun _ => .lst []) (.lst []) where
  lay := fun s E Q q => wpAny_newObj_type q (by show 0 ≤ sizeLine; decide)
  ok := fun h H _ => ⟨Nat.zero_le _, [], 0, .nil, Heap.get?_push_size _ rfl⟩
  rel := fun H D => ⟨[], upd_same, .nil⟩
  st := fun _ => rfl
def dLC (wi : DTI) (g : DTG) (tt : DTT) (vs all : List Nat) (rs : List ClT) (te : DTE) : DTE := dComp wi g tt vs all rs (emLst te) (.lst [])
theorem de_lc {elt tg iter : Expr} {ifs : List Expr} {gs : List Comprehension} {scope : Scope} {own : List (Str × Nat)} {pos : Pos} {wi : DTI} {g : DTG} {tt : DTT} {te : DTE} {vs : List Nat} {rs : List ClT}
    (hc : X.calm = true) (hN : X.N.Nodup) (hi : DI X tg iter wi) (ok : BlkOk X.N X.env.scope scope own)
    (hb : BlkAll X scope fun Y => DG Y tg g ∧ DTs Y ifs tt ∧ DCl Y gs rs ∧ DE Y elt te) (hs : ∀ x, foldedSetIterable iter X.env x = pure x := by intro _; rfl) :
    DE X (.ListComp elt (⟨tg, iter, ifs, 0⟩ :: gs) scope pos) (dLC wi g tt vs (own.map (·.2)) rs te) :=
  comp_val (pos' := firstIterPos (⟨tg, iter, ifs, 0⟩ :: gs) pos) rfl rfl rfl hc hN hi ok (fun s H C cl fp => let ⟨a, b, c, d⟩ := hb s H C cl fp; ⟨a, b, c, fun D => em_lst rfl d D⟩) na_lst hs
theorem comp_asg {i : Nat} {y : Str} {py spos : Pos} {e tg iter : Expr} {ifs : List Expr} {gs : List Comprehension} {scope : Scope} {own : List (Str × Nat)} {pos' : Pos} {wi : DTI} {g : DTG} {tt : DTT} {vs : List Nat} {rs : List ClT} {em : Addr → DEmT} {newAcc : Sem Value} {ob : Obj} {o : Addr → HO} {ao : AO}
    (hy : X.N[i]? = some y) (hyl : X.env.scope.names.lookup y = some .local)
    (he : exec (.Assign [.Name y py] e spos) X.env = (do
      standAt spos
      evalThenUse e X.env (assign (.Name y py) X.env)
      pure .next))
    (hev : evalThenUse e X.env (assign (.Name y py) X.env) = (do let _ ← comprehension e scope X.env pos' newAcc false (eval iter X.env) (some (assign (.Name y py) X.env))))
    (hlc : isLC e = true) (hcl : clausesOf e = ⟨tg, iter, ifs, 0⟩ :: gs) (hc : X.calm = true) (hN : X.N.Nodup) (hi : DI X tg iter wi) (ok : BlkOk X.N X.env.scope scope own)
    (hb : BlkAll X scope fun Y => CompB Y e tg ifs gs g tt rs em) (na : NewAcc X newAcc ob o ao) (hs : ∀ x, foldedSetIterable iter X.env x = pure x) : DSm X (.Assign [.Name y py] e spos) (dAsg (dComp wi g tt vs (own.map (·.2)) rs em ao) (gdName i)) := by
  refine ⟨fun pins s σ H τ S Dn I st hr h => ?_⟩
  rw [he]
  refine wpAny_bind (wpAny_standAt (wpAny_bind ?_))
  rw [hev]
  have h : dComp wi g tt vs (own.map (·.2)) rs em ao τ S (fun x S1 => gdName i x τ S1 Dn.nx) := h
  refine wpAny_bind (thn (comp_core (Qf := fun _ s' => SP X pins (UpE X.KW H Dn) .next s') hlc hcl hc hN I st hr hi ok hb na hs h fun L C s' m H' S' I' e' hr' q hn f => ?_) fun _ s' hq => wpAny_pure (wpAny_pure hq))
  show wpAny _ _ (assign (.Name y py) X.env (.ref L)) _ _ _
  refine wpAny_assign_Name (store_ok2 (v := V.ref L) I' hN hy (.inl hyl) rfl (fun s2 I2 ⟨a, sb, ha⟩ => ?_) (.inr hyl))
  obtain ⟨f0, f1, f2, f3, f4, f5⟩ := f
  have haC : C ≠ a := by
    rcases ha with z | z
    · rw [z]; exact f1
    · exact fun e => f4 y a z e.symm
  refine ⟨m, hn.sameBut sb haC, fun h3 sb3 => ?_⟩
  exact ⟨_, H', I2.turned (t' := s2.toks) (fun b _ hb e => (sb3.2 b hb).trans e) f0 f1 f3 f4 f5, e', _, S', hr', (st.ev e').set (.ref L) i, q⟩
theorem ds_lc {i : Nat} {y : Str} {py spos : Pos} {elt tg iter : Expr} {ifs : List Expr} {gs : List Comprehension} {scope : Scope} {own : List (Str × Nat)} {pos : Pos} {wi : DTI} {g : DTG} {tt : DTT} {te : DTE} {vs : List Nat} {rs : List ClT}
    (hc : X.calm = true) (hN : X.N.Nodup) (hy : X.N[i]? = some y) (hyl : X.env.scope.names.lookup y = some .local) (hsw : swapsWith (.ListComp elt (⟨tg, iter, ifs, 0⟩ :: gs) scope pos) (some (.Name y py)) spos.line X.env = pure true)
    (hi : DI X tg iter wi) (ok : BlkOk X.N X.env.scope scope own)
    (hb : BlkAll X scope fun Y => DG Y tg g ∧ DTs Y ifs tt ∧ DCl Y gs rs ∧ DE Y elt te) (hs : ∀ x, foldedSetIterable iter X.env x = pure x := by intro _; rfl) :
    DSm X (.Assign [.Name y py] (.ListComp elt (⟨tg, iter, ifs, 0⟩ :: gs) scope pos) spos) (dAsg (dLC wi g tt vs (own.map (·.2)) rs te) (gdName i)) :=
  comp_asg (pos' := firstIterPos (⟨tg, iter, ifs, 0⟩ :: gs) pos) hy hyl (exec_Assign_Name_used _ _ _ _ hsw) rfl rfl rfl hc hN hi ok (fun s H C cl fp => let ⟨a, b, c, d⟩ := hb s H C cl fp; ⟨a, b, c, fun D => em_lst rfl d D⟩) na_lst hs
end
end DL
namespace DL
open PySem PySem.Spec PyProof.Rows L2
section
variable {X : Cx} {tg : Expr} {pins : List (Addr × Obj)} {σ : L2.St} {H : Hp} {s : Shared} {E : Value → Shared → Prop} {K : KW}
def ItP (X : Cx) (pins : List (Addr × Obj)) (σ : L2.St) (tg : Expr) (H : Hp) (ds : List D) (stab : Sto → Prop) (itv : Value) (s2 : Shared) : Prop :=
  ∃ (it : Addr) (fp : List Addr) (tn : Nat → Heap → Prop), itv = .ref it ∧ Inv X pins σ H s2 ∧ Turn X.prog X.w X.K tg (ItD X.KW H ds stab) fp it tn ∧ tn 0 s2.heap ∧ ∀ b ∈ fp, FpOk X pins H b
theorem itP_one {tk : Nat} {ds : List D} {stab : Sto → Prop} {tn : Nat → Heap → Prop} (I : Inv X pins σ H s) (o : Obj) (T : Turn X.prog X.w X.K tg (ItD X.KW H ds stab) [s.heap.objs.size] s.heap.objs.size tn) (st : tn 0 (s.heap.push o)) :
    ItP X pins σ tg H ds stab (.ref s.heap.objs.size) { s with heap := s.heap.push o, toks := tk } := by
  refine ⟨s.heap.objs.size, [s.heap.objs.size], tn, rfl, I.kept fun b ob e => Heap.get?_push_of_some _ e, T, st, fun b hb => ?_⟩
  have e : b = s.heap.objs.size := by simpa using hb
  subst e
  exact I.fpOk (Nat.le_refl _) (I.hok.fresh (Nat.le_refl _))
theorem turnD_list {P : Program} {w : World} {a it : Addr} {ds : List D} {stab : Sto → Prop} (hs : ∀ H' S, Ev H H' → HR K H' S → stab S → ∃ vs, SqL K.fr H' a vs ∧ RelDs K H' vs ds) : Turn P w K.fr tg (ItD K H ds stab) [it] it (fun i h => h.IsListIter it a i) := by
  refine Turn.imp (turn_list a it) (fun i H' ⟨e, ⟨S, hr, z⟩, hi⟩ => ?_) (fun i H' x H2 ⟨e, ⟨S, hr, z⟩, hi⟩ ⟨e2, y⟩ => ?_) fun i H' ⟨e, ⟨S, hr, z⟩, hi⟩ => ?_
  · obtain ⟨vs, q, r⟩ := hs H' S e hr z
    obtain ⟨v, h1, _⟩ := r.get (List.getElem?_eq_getElem hi)
    exact ⟨vs, v, q, h1⟩
  · subst e2
    obtain ⟨vs, q, r⟩ := hs _ S e hr z
    obtain ⟨v, h1, h2⟩ := r.get (List.getElem?_eq_getElem hi)
    have := y vs q
    rw [this] at h1; cases h1
    exact ⟨.refl _, fun _ h => h, _, List.getElem?_eq_getElem hi, h2⟩
  · obtain ⟨vs, q, r⟩ := hs H' S e hr z
    exact ⟨vs, q, by rw [r.length]; omega⟩
theorem turnD_tup {P : Program} {w : World} {a it : Addr} {ds : List D} {stab : Sto → Prop} (hs : ∀ H', Ev H H' → ∃ vs, SqT K.fr H' a vs ∧ RelDs K H' vs ds) : Turn P w K.fr tg (ItD K H ds stab) [it] it (fun i h => h.IsTupleIter it a i) := by
  refine Turn.imp (turn_tuple a it) (fun i H' ⟨e, _, hi⟩ => ?_) (fun i H' x H2 ⟨e, _, hi⟩ ⟨e2, y⟩ => ?_) fun i H' ⟨e, _, hi⟩ => ?_
  · obtain ⟨vs, q, r⟩ := hs H' e
    obtain ⟨v, h1, _⟩ := r.get (List.getElem?_eq_getElem hi)
    exact ⟨vs, v, q, h1⟩
  · subst e2
    obtain ⟨vs, q, r⟩ := hs _ e
    obtain ⟨v, h1, h2⟩ := r.get (List.getElem?_eq_getElem hi)
    have := y vs q
    rw [this] at h1; cases h1
    exact ⟨.refl _, fun _ h => h, _, List.getElem?_eq_getElem hi, h2⟩
  · obtain ⟨vs, q, r⟩ := hs H' e
    exact ⟨vs, q, by rw [r.length]; omega⟩
theorem turnD_str {P : Program} {w : World} {it : Addr} {x : Str} {t : Tok} {ty : String} {stab : Sto → Prop} (hx : PyData.strOk x = true) (hty : ty = "str_ascii_iterator" ∨ ty = "str_iterator") :
    Turn P w K.fr tg (ItD K H (x.cps.toList.map fun c => D.str ⟨#[c]⟩) stab) [it] it (fun i h => h.IsStrIter it ty x t i) := by
  refine Turn.imp (turn_str it x t ty hty) (fun i H' ⟨e, _, hi⟩ => by show i < x.cps.size; simpa using hi) (fun i H' y H2 ⟨e, _, hi⟩ ⟨e2, c, hc, ey⟩ => ?_) fun i H' ⟨e, _, hi⟩ => by show x.cps.size ≤ i; simp at hi; exact Nat.le_of_eq hi.symm
  subst e2 ey
  refine ⟨.refl _, fun _ h => h, .str ⟨#[c]⟩, by simp [hc], .str _ ?_⟩
  have hm : c ∈ x.cps := Array.mem_of_getElem? hc
  unfold PyData.strOk at hx ⊢
  have := Array.all_eq_true_iff_forall_mem.mp hx c hm
  simpa using this
abbrev WIt := D → Sto → (List D → (Sto → Prop) → Sto → Prop) → Prop
def wIter : WIt := fun d S R => match d with
  | .tup ds => R ds (fun _ => True) S
  | .fz ds => R ds (fun _ => True) S
  | .str x => R (x.cps.toList.map fun c => D.str ⟨#[c]⟩) (fun _ => True) S
  | .ref a => onL S a fun ds => R ds (fun S' => S' a = some (.lst ds)) S
  | _ => False
theorem iter_seq {v : V} {u : Value} {d : D} {S : Sto} {R : List D → (Sto → Prop) → Sto → Prop} (I : Inv X pins σ H s) (rv : RelV v u) (rd : RelD X.KW H v d) (hr : HR X.KW H S) (w : wIter d S R) :
    wpAny (model X.prog X.w) X.A (pyIter u) (fun itv s2 => ∃ ds stab, ItP X pins σ tg H ds stab itv s2 ∧ R ds stab S) E s := by
  cases rd with
  | tup t r =>
    cases rv
    obtain ⟨its, rv, p, hz⟩ := I.tuple t.sq
    exact wpAny_pyIter_tuple (show s.heap.IsTuple _ its.toArray from p) ⟨_, _, itP_one (tk := s.toks) I _ (turnD_tup (K := X.KW) fun H' e => ⟨_, (t.ev e).sq, r.ev e⟩) ⟨_, Heap.get?_push_size _ rfl, rfl, rfl⟩, w⟩
  | fz t r =>
    cases rv
    obtain ⟨its, rv, p, hz⟩ := I.list t.sq
    exact wpAny_pyIter_list p.isList ⟨_, _, itP_one (tk := s.toks) I _ (turnD_list (K := X.KW) fun H' S' e _ _ => ⟨_, (t.ev e).sq, r.ev e⟩) ⟨_, Heap.get?_push_size _ rfl, rfl, rfl⟩, w⟩
  | ref a =>
    cases rv
    obtain ⟨ds, e, w⟩ := onL.out w
    obtain ⟨vs, h1, r⟩ := hr a _ e
    obtain ⟨its, rv, p, hz⟩ := I.list (SqL.of h1)
    exact wpAny_pyIter_list p.isList ⟨_, _, itP_one (tk := s.toks) I _ (turnD_list (K := X.KW) fun H' S' _ hr' (z : S' a = some (.lst ds)) => let ⟨vs', h', r'⟩ := hr' a _ z; ⟨vs', SqL.of h', r'⟩) ⟨_, Heap.get?_push_size _ rfl, rfl, rfl⟩, w⟩
  | str x hx =>
    obtain ⟨t, rfl⟩ := rv
    cases ha : x.cps.all (· < 128)
    · exact wpAny_pyIter_wide ha ⟨_, _, itP_one (tk := s.toks) I _ (turnD_str (K := X.KW) (t := t) hx (.inr rfl)) ⟨_, Heap.get?_push_size _ rfl, rfl, rfl⟩, w⟩
    · exact wpAny_pyIter_ascii ha ⟨_, _, itP_one (tk := s.toks) I _ (turnD_str (K := X.KW) (t := t) hx (.inl rfl)) ⟨_, Heap.get?_push_size _ rfl, rfl, rfl⟩, w⟩
  | _ => exact w.elim
def diVal (te : DTE) (w : WIt) : DTI := fun τ S R => te τ S fun d S1 => w d S1 R
theorem pie_of {H0 : Hp} {R : It → Hp → Prop} {ds : List D} {stab : Sto → Prop} {S1 : Sto} {Rd : List D → (Sto → Prop) → Sto → Prop} {itv : Value} {s2 : Shared} (e : Ev H0 H) (hr : HR X.KW H S1) (h : ItP X pins σ tg H ds stab itv s2) (rd : Rd ds stab S1)
    (k : ∀ ds stab S1 H1, Ev H0 H1 → HR X.KW H1 S1 → Rd ds stab S1 → R (ItD X.KW H1 ds stab) H1) : PIE X pins σ tg R itv s2 := by
  obtain ⟨it, fp, tn, e1, I, T, t0, f⟩ := h
  exact ⟨it, fp, tn, _, H, e1, I, T, t0, f, k _ _ _ _ e hr rd⟩
def rngD (lo : Int) : Nat → List D
  | 0 => []
  | n + 1 => .int lo :: rngD (lo + 1) n
theorem rngD_len (lo : Int) (n : Nat) : (rngD lo n).length = n := by induction n generalizing lo with
  | zero => rfl
  | succ n ih => simp [rngD, ih]
theorem rngD_get : ∀ (n : Nat) (lo : Int) (i : Nat), i < n → (rngD lo n)[i]? = some (.int (lo + i))
  | n + 1, lo, 0, _ => by simp [rngD]
  | n + 1, lo, i + 1, h => by
    have := rngD_get n (lo + 1) i (by omega)
    simp only [rngD, List.getElem?_cons_succ, this, Option.some.injEq, D.int.injEq]
    omega
def diRng1 (ta : DTA) : DTI := fun τ S R => ta τ S fun ds S1 => match ds with
  | [.int j] => j < 2 ^ 62 ∧ -(2 ^ 62) ≤ j ∧ R (rngD 0 j.toNat) (fun _ => True) S1
  | _ => False
def diRng2 (ta : DTA) : DTI := fun τ S R => ta τ S fun ds S1 => match ds with
  | [.int i, .int j] => (-(2 ^ 62) ≤ i ∧ i < 2 ^ 62 ∧ -(2 ^ 62) ≤ j ∧ j < 2 ^ 62) ∧ R (rngD i (j - i).toNat) (fun _ => True) S1
  | _ => False
theorem itr_ok {lo : Int} {n : Nat} {H1 : Hp} (H0 : Hp) : (∀ i H, (ItD K H1 (rngD lo n) (fun _ => True)).go i H → (Itr lo n).go i H) ∧ (∀ i H x H', (ItD K H1 (rngD lo n) (fun _ => True)).go i H → (Itr lo n).yld i H x H' → (ItD K H1 (rngD lo n) (fun _ => True)).yld i H x H') ∧
    ∀ i H, (ItD K H1 (rngD lo n) (fun _ => True)).stop i H → (Itr lo n).stop i H := by
  refine ⟨fun i H ⟨_, _, h⟩ => by rw [rngD_len] at h; exact h, fun i H x H' ⟨_, _, h⟩ ⟨e, y⟩ => ?_, fun i H ⟨_, _, h⟩ => by rw [rngD_len] at h; exact Nat.le_of_eq h.symm⟩
  subst e y
  rw [rngD_len] at h
  exact ⟨.refl _, fun _ h => h, _, rngD_get n lo i h, .int _⟩
theorem di_range1 {a : Expr} {ta : DTA} {p pos : Pos} (hg : Gl X "range") (hm : X.mg "range" = none) (ha : DAr X [a] ta) (hs : starEach [a] X.env = [(false, eval a X.env)] := by rfl) : DI X tg (.Call (.Name "range" p) [a] [] pos) (diRng1 ta) :=
  .up (pi_range1 hg hm ha.lo hs) fun σ H τ S Rd st hr q => ⟨τ, S, _, st, hr, q, fun vs H1 ⟨e1, ds, S1, hr1, rd, q1⟩ => by
    simp only at q1
    split at q1
    · obtain ⟨v, rfl, r⟩ := rd.one
      cases r
      exact ⟨_, rfl, q1.2.1, q1.1, _, _, S1, e1, hr1, q1.2.2, itr_ok H⟩
    · exact q1.elim⟩
theorem di_range2 {a b : Expr} {ta : DTA} {p pos : Pos} (hg : Gl X "range") (hm : X.mg "range" = none) (ha : DAr X [a, b] ta) (hs : starEach [a, b] X.env = [(false, eval a X.env), (false, eval b X.env)] := by rfl) (hs2 : starEach [b] X.env = [(false, eval b X.env)] := by rfl) :
    DI X tg (.Call (.Name "range" p) [a, b] [] pos) (diRng2 ta) :=
  .up (pi_range2 hg hm ha.lo hs hs2) fun σ H τ S Rd st hr q => ⟨τ, S, _, st, hr, q, fun vs H1 ⟨e1, ds, S1, hr1, rd, q1⟩ => by
    simp only at q1
    split at q1
    · obtain ⟨v, v', rfl, r, r'⟩ := rd.two
      cases r
      cases r'
      exact ⟨_, _, rfl, q1.1, _, _, S1, e1, hr1, q1.2, itr_ok H⟩
    · exact q1.elim⟩
end
end DL
namespace DL
open PySem PySem.Spec PyProof.Rows L2
set_option maxHeartbeats 1000000 in
theorem enum_new1 {v : Value} {o : Obj} {Hh : Heap → Prop} (B : Begins v o Hh) :
    Meets (Builtin.«enumerate.__new__» ⟨[.type "enumerate", v], []⟩) (fun _ R s => Hh s.heap ∧
      R (.ok (.ret (.ref (s.heap.push o).objs.size))) { s with heap := (s.heap.push o).push { cls := .type "enumerate", data := .fields #[.none, .bool false, .ref s.heap.objs.size, rawInt 0, .none, .none] } }) :=
  .of_wp fun prog w A R s h => by
    obtain ⟨hp, g, d, tk, os⟩ := s; obtain ⟨h1, h⟩ := h
    have hsub := sub_enumerate
    have q1 : ∀ {A' : Around} {E : Value → Shared → Prop} {Q : Value → Shared → Prop}, Q (.ref hp.objs.size) ⟨hp.push o, g, d, tk, os⟩ → wpAny (model prog w) A' (pyIter v) Q E ⟨hp, g, d, tk, os⟩ :=
      fun q => B.iter prog w _ _ ⟨hp, g, d, tk, os⟩ _ h1 q
    wp_walk using q1
    refine wpAny_stack_any fun st => wpAny_pure ?_
    split
    · rename_i c _ _ _ _ _
      cases (c == Value.type "enumerate")
      · wp_walk using q1
        exact ⟨_, rfl, h⟩
      · wp_walk using q1
        exact ⟨_, rfl, h⟩
    · wp_walk using q1
      exact ⟨_, rfl, h⟩
theorem enum_call1 {prog : Program} {w : World} {A : Around} {E : Value → Shared → Prop} {s : Shared} {v : Value} {o : Obj} {Hh : Heap → Prop} {Q : Value → Shared → Prop} (B : Begins v o Hh) (h1 : Hh s.heap)
    (h : ∀ h', IsEnum h' (s.heap.objs.size + 1) s.heap.objs.size 0 .none → h'.get? s.heap.objs.size = some o → h'.objs.size = s.heap.objs.size + 2 →
      (∀ b o, s.heap.get? b = some o → h'.get? b = some o) → Q (.ref (s.heap.objs.size + 1)) { s with heap := h' }) :
    wpAny (model prog w) A (call (.type "enumerate") [v]) Q E s := by
  refine callType_new F.called_enumerate (by decide) (F.typeCall_enumerate_1 _) (F.newCall_enumerate_1 _) (fun obj => F.args_object_init_2 obj _) F.entry_enumerate_new (enum_new1 B) ⟨h1, ?_⟩
  have hz : (s.heap.push o).objs.size = s.heap.objs.size + 1 := Heap.size_push ..
  show _ ∧ _
  rw [hz]
  have he : IsEnum ((s.heap.push o).push { cls := .type "enumerate", data := .fields #[.none, .bool false, .ref s.heap.objs.size, rawInt 0, .none, .none] }) (s.heap.objs.size + 1) s.heap.objs.size 0 .none := by
    have := Heap.get?_push_size (s.heap.push o) (o := { cls := .type "enumerate", data := .fields #[.none, .bool false, .ref s.heap.objs.size, rawInt 0, .none, .none] }) rfl
    rw [hz] at this; exact this
  exact ⟨⟨_, he, rfl⟩, h _ he (Heap.get?_push_of_some _ (Heap.get?_push_size _ B.free)) (by rw [Heap.size_push, hz]) fun b o x => Heap.get?_push_of_some _ (Heap.get?_push_of_some _ x)⟩
def enumD : Nat → List D → List D
  | _, [] => []
  | i, d :: ds => .wt [.int (i : Int), d] :: enumD (i + 1) ds
theorem enumD_len (ds : List D) : ∀ i : Nat, (enumD i ds).length = ds.length := by induction ds with
  | nil => intro i; rfl
  | cons d ds ih => intro i; simp [enumD, ih]
theorem enumD_get : ∀ (ds : List D) (i j : Nat) (d : D), ds[j]? = some d → (enumD i ds)[j]? = some (.wt [.int ((i + j : Nat) : Int), d])
  | d :: ds, i, 0, _, h => by simp at h; subst h; simp [enumD]
  | d :: ds, i, j + 1, x, h => by
    have := enumD_get ds (i + 1) j x (by simpa using h)
    simp only [enumD, List.getElem?_cons_succ, this]
    have : i + 1 + j = i + (j + 1) := by omega
    rw [this]
section
variable {X : Cx} {tg : Expr} {pins : List (Addr × Obj)} {σ : L2.St} {H : Hp} {s : Shared} {E : Value → Shared → Prop} {K : KW}
theorem enum_yld {S : Sto} {T : Addr} {i : Nat} {x : V} {d : D} {ds : List D} (hn : H T = none) (hd : ds[i]? = some d) (r : RelD K H x d) :
    Ev H (upd H T (.tup [.int (i : Nat), x])) ∧ (∀ S, HR K H S → HR K (upd H T (.tup [.int (i : Nat), x])) S) ∧ ∃ e, (enumD 0 ds)[i]? = some e ∧ RelD K (upd H T (.tup [.int (i : Nat), x])) (.ref T) e := by
  refine ⟨.new hn, fun S h => h.new hn, _, enumD_get ds 0 i d hd, .wt upd_same (.cons ?_ (.cons (r.ev (.new hn)) .nil))⟩
  rw [Nat.zero_add]
  exact .int _
theorem turnD_enumL {P : Program} {w : World} {elts : List Expr} {kk : Nat} {tpos : Pos} {a e it : Addr} {ds : List D} {stab : Sto → Prop} (hs : ∀ H' S, Ev H H' → HR K H' S → stab S → ∃ vs, SqL K.fr H' a vs ∧ RelDs K H' vs ds) :
    Turn P w K.fr (.Tuple elts kk tpos) (ItD K H (enumD 0 ds) stab) [e, it] e (fun i h => (∃ old, IsEnum h e it ((i : Nat) : Int) old) ∧ h.IsListIter it a i ∧ e ≠ it) := by
  refine Turn.imp (turn_enum a e it) (fun i H' ⟨ev, ⟨S, hr, z⟩, hi⟩ => ?_) (fun i H' x H2 ⟨ev, ⟨S, hr, z⟩, hi⟩ y => ?_) fun i H' ⟨ev, ⟨S, hr, z⟩, hi⟩ => ?_
  · obtain ⟨vs, q, r⟩ := hs H' S ev hr z
    rw [enumD_len] at hi
    obtain ⟨v, h1, _⟩ := r.get (List.getElem?_eq_getElem hi)
    exact ⟨vs, v, q, h1⟩
  · obtain ⟨T, v, e1, e2, e3, y⟩ := y
    subst e1 e3
    obtain ⟨vs, q, r⟩ := hs _ S ev hr z
    rw [enumD_len] at hi
    obtain ⟨v', h1, h2⟩ := r.get (List.getElem?_eq_getElem hi)
    rw [y vs q] at h1; cases h1
    exact enum_yld (S := S) e2 (List.getElem?_eq_getElem hi) h2
  · obtain ⟨vs, q, r⟩ := hs H' S ev hr z
    rw [enumD_len] at hi
    exact ⟨vs, q, by rw [r.length]; omega⟩
theorem turnD_enumT {P : Program} {w : World} {elts : List Expr} {kk : Nat} {tpos : Pos} {a e it : Addr} {ds : List D} {stab : Sto → Prop} (hs : ∀ H', Ev H H' → ∃ vs, SqT K.fr H' a vs ∧ RelDs K H' vs ds) :
    Turn P w K.fr (.Tuple elts kk tpos) (ItD K H (enumD 0 ds) stab) [e, it] e (fun i h => (∃ old, IsEnum h e it ((i : Nat) : Int) old) ∧ h.IsTupleIter it a i ∧ e ≠ it) where
  mem := by simp
  obj := fun i h st b hb => by
    obtain ⟨⟨old, he⟩, ⟨o, ho, hc, hd⟩, _⟩ := st
    rcases (by simpa using hb : b = e ∨ b = it) with rfl | rfl
    · exact ⟨_, he, fun v q => nomatch q⟩
    · exact ⟨o, ho, fun v q => by rw [hd] at q; cases q⟩
  keep := fun i h h' st k => let ⟨⟨old, he⟩, hi, hne⟩ := st; ⟨⟨old, k e (by simp) _ he⟩, hi.at fun o q => k it (by simp) o q, hne⟩
  item := by
    intro X hP hw hK hc i pins s σ H' E I hf st hg
    obtain ⟨Kf, KP, Kw⟩ := K
    change X.K = Kf at hK
    subst hP hw hK
    obtain ⟨⟨old, he⟩, hit, hne⟩ := st
    obtain ⟨ev, _, hi⟩ := hg
    rw [enumD_len] at hi
    obtain ⟨vs, hq, rr⟩ := hs H' ev
    obtain ⟨x, hx, rx⟩ := rr.get (List.getElem?_eq_getElem hi)
    obtain ⟨its, rv, p, hz⟩ := I.tuple hq
    obtain ⟨u, hu, ru⟩ := rv.get hx
    have hel : e < s.heap.objs.size := Heap.lt_size he
    have hil : it < s.heap.objs.size := by obtain ⟨_, q, _⟩ := hit; exact Heap.lt_size q
    have hta : s.heap.IsTuple a its.toArray := p
    have hae : a ≠ e := fun z => by
      subst z
      obtain ⟨o, h1, h2, _⟩ := hta
      have h1' := he
      rw [IsEnum] at h1'
      rw [h1] at h1'; cases h1'; exact absurd (Value.type.inj h2) (by decide)
    have hai : a ≠ it := fun z => by
      subst z
      obtain ⟨o, h1, h2, _⟩ := hta
      obtain ⟨o', h3, h4, _⟩ := hit
      rw [h1] at h3; cases h3; rw [h2] at h4; exact absurd (Value.type.inj h4) (by decide)
    have D := Draws.tuple (prog := X.prog) (w := X.w) (A := X.A.in1) (I.ok.hd hc) it a hai its.toArray
    have G := GoesN.enumFrom (elts := elts) (x1 := kk) (pos := tpos) 0 D e hne (by simp [hne, Ne.symm hae]) (by simp)
    have hsz : i < its.toArray.size := by
      have := rv.length
      have := rr.length
      simp; omega
    refine thn (G.goes i s _ E hsz ⟨⟨old, by simpa using he⟩, hit, hta⟩ fun v h' tk Y St' k _ => ?_) fun r s1 h => h
    obtain ⟨T, t, y, ev', hT0, hy, hT⟩ := Y
    subst ev'
    have hyu : y = u := by
      rw [show its.toArray[i]? = some u by simpa using hu] at hy
      cases hy; rfl
    subst hyu
    obtain ⟨⟨old', he'⟩, hit', _⟩ := St'
    have hT0' : H' T = none := I.hok.fresh hT0
    have new : ObjOk X.prog X.w (upd H' T (.tup [.int (i : Nat), x])) h' T (.tup [.int (i : Nat), x]) :=
      ⟨by show 2 ≤ sizeLine; decide, [.int (0 + (i : Int)) t, y], .cons ⟨t, by rw [Int.zero_add]⟩ (.cons ru .nil), hT⟩
    have I1 : Inv X pins σ (upd H' T (.tup [.int (i : Nat), x])) { s with heap := h', toks := tk } :=
      I.turnedNew (ch := [e, it]) (fun b ob hb q => k b ob hb q) hf hT0 new
    refine ⟨.ref T, _, I1, rfl, enum_yld (S := fun _ => none) hT0' (List.getElem?_eq_getElem hi) rx, ⟨⟨old', ?_⟩, hit', hne⟩, fun b hb => ?_⟩
    · have e1 : ((i + 1 : Nat) : Int) = 0 + ((i + 1 : Nat) : Int) := by omega
      rw [e1]; exact he'
    · have hb' : b < s.heap.objs.size := by
        rcases (by simpa using hb : b = e ∨ b = it) with rfl | rfl
        · exact hel
        · exact hil
      rw [upd_ne (Nat.ne_of_lt (Nat.lt_of_lt_of_le hb' hT0))]
      exact (hf b hb).1
  done := by
    intro X hP hw hK hc i pins s σ H' E I hf st hg
    obtain ⟨Kf, KP, Kw⟩ := K
    change X.K = Kf at hK
    subst hP hw hK
    obtain ⟨⟨old, he⟩, hit, hne⟩ := st
    obtain ⟨ev, _, hi⟩ := hg
    rw [enumD_len] at hi
    obtain ⟨vs, hq, rr⟩ := hs H' ev
    obtain ⟨its, rv, p, hz⟩ := I.tuple hq
    have hta : s.heap.IsTuple a its.toArray := p
    have hae : a ≠ e := fun z => by
      subst z
      obtain ⟨o, h1, h2, _⟩ := hta
      have h1' := he
      rw [IsEnum] at h1'
      rw [h1] at h1'; cases h1'; exact absurd (Value.type.inj h2) (by decide)
    have hai : a ≠ it := fun z => by
      subst z
      obtain ⟨o, h1, h2, _⟩ := hta
      obtain ⟨o', h3, h4, _⟩ := hit
      rw [h1] at h3; cases h3; rw [h2] at h4; exact absurd (Value.type.inj h4) (by decide)
    have D := Draws.tuple (prog := X.prog) (w := X.w) (A := X.A.in1) (I.ok.hd hc) it a hai its.toArray
    have G := GoesN.enumFrom (elts := elts) (x1 := kk) (pos := tpos) 0 D e hne (by simp [hne, Ne.symm hae]) (by simp)
    have hsz : its.toArray.size = i := by
      have := rv.length
      have := rr.length
      simp; omega
    rw [hsz] at G
    exact G.stops s _ E ⟨⟨old, by simpa using he⟩, hit, hta⟩ fun h' tk k _ => I.turnedL (ch := [e, it]) (fun b ob hb q => k b ob hb q) hf
  self := fun A i s Q E st h => let ⟨⟨_, he⟩, _⟩ := st; wpAny_pyIter_enum he h
def wEnum : WIt := fun d S R => match d with
  | .tup ds => R (enumD 0 ds) (fun _ => True) S
  | .fz ds => R (enumD 0 ds) (fun _ => True) S
  | .ref a => onL S a fun ds => R (enumD 0 ds) (fun S' => S' a = some (.lst ds)) S
  | _ => False
def diEnum (ta : DTA) : DTI := fun τ S R => ta τ S fun ds S1 => match ds with
  | [d] => wEnum d S1 R
  | _ => False
theorem itP_enum {ds : List D} {stab : Sto → Prop} {tn : Nat → Heap → Prop} {h' : Heap} (I : Inv X pins σ H s) (k : ∀ b o, s.heap.get? b = some o → h'.get? b = some o)
    (T : Turn X.prog X.w X.K tg (ItD X.KW H ds stab) [s.heap.objs.size + 1, s.heap.objs.size] (s.heap.objs.size + 1) tn) (st : tn 0 h') : ItP X pins σ tg H ds stab (.ref (s.heap.objs.size + 1)) { s with heap := h' } := by
  refine ⟨_, _, tn, rfl, I.kept (t' := s.toks) k, T, st, fun b hb => ?_⟩
  have hle : s.heap.objs.size ≤ b := by
    rcases (by simpa using hb : b = s.heap.objs.size + 1 ∨ b = s.heap.objs.size) with z | z
    · rw [z]; exact Nat.le_add_right _ _
    · rw [z]; exact Nat.le_refl _
  exact I.fpOk hle (I.hok.fresh hle)
theorem di_enum {e : Expr} {ta : DTA} {p pos tpos : Pos} {elts : List Expr} {kk : Nat} (hg : Gl X "enumerate") (hm : X.mg "enumerate" = none) (ha : DAr X [e] ta) (hs : starEach [e] X.env = [(false, eval e X.env)] := by rfl) :
    DI X (.Tuple elts kk tpos) (.Call (.Name "enumerate" p) [e] [] pos) (diEnum ta) := ⟨⟨fun pins s σ H R I ⟨τ, S, Rd, st, hr, q, k⟩ => by
  refine Call_ (ld_blt I hg hm boot_enumerate (PyProof.Rows.callWith_type1 (thn (ha.run pos pins s σ H τ S _ I st hr q) fun us s1 ⟨vs, H1, I1, rv, e1, ds, S1, hr1, rd, q1⟩ => ?_) hs rfl))
  simp only at q1
  split at q1
  · rename_i d
    obtain ⟨v, rfl, r⟩ := rd.one
    cases rv with
    | cons rv t =>
    cases t
    cases r with
    | tup t r =>
      cases rv
      obtain ⟨its, rv, p', hz⟩ := I1.tuple t.sq
      exact enum_call1 (begins_tuple _ its.toArray) p' fun h' he hit hsz hk => wpAny_pyIter_enum he (pie_of e1 hr1 (itP_enum I1 hk (turnD_enumT (K := X.KW) fun H' e => ⟨_, (t.ev e).sq, r.ev e⟩) ⟨⟨.none, he⟩, ⟨_, hit, rfl, rfl⟩, Nat.succ_ne_self _⟩) q1 k)
    | fz t r =>
      cases rv
      obtain ⟨its, rv, p', hz⟩ := I1.list t.sq
      exact call_enumerate_list p'.isList fun h' he hit hsz hk => wpAny_pyIter_enum he (pie_of e1 hr1 (itP_enum I1 hk (turnD_enumL (K := X.KW) fun H' S' e _ _ => ⟨_, (t.ev e).sq, r.ev e⟩) ⟨⟨.none, he⟩, hit, Nat.succ_ne_self _⟩) q1 k)
    | ref a =>
      cases rv
      obtain ⟨ds, e, q1⟩ := onL.out q1
      obtain ⟨vs, h1, r⟩ := hr1 a _ e
      obtain ⟨its, rv, p', hz⟩ := I1.list (SqL.of h1)
      exact call_enumerate_list p'.isList fun h' he hit hsz hk => wpAny_pyIter_enum he (pie_of e1 hr1 (itP_enum I1 hk (turnD_enumL (K := X.KW) fun H' S' _ hr' (z : S' a = some (.lst ds)) => let ⟨vs', h', r'⟩ := hr' a _ z; ⟨vs', SqL.of h', r'⟩) ⟨⟨.none, he⟩, hit, Nat.succ_ne_self _⟩) q1 k)
    | _ => exact q1.elim
  · exact q1.elim⟩⟩
end
end DL
namespace DL
open PySem PySem.Spec PyProof.Rows L2
def leafK : D → Option Key
  | .int i => some (.inl i)
  | .str x => some (.inr x)
  | _ => none
def leafKs : List D → Option (List Key)
  | [] => some []
  | d :: ds => match leafK d, leafKs ds with | some k, some ks => some (k :: ks) | _, _ => none
def leafT : D → Option (List Key)
  | .tup ds => leafKs ds
  | _ => none
theorem leafK_eq {d : D} {k : Key} (h : leafK d = some k) : d = kD k := by
  cases d <;> simp [leafK] at h <;> subst h <;> rfl
theorem leafKs_eq : ∀ {ds : List D} {ks : List Key}, leafKs ds = some ks → ds = ks.map kD
  | [], ks, h => by simp [leafKs] at h; subst h; rfl
  | d :: ds, ks, h => by
    simp only [leafKs] at h
    split at h
    · rename_i k ks' h1 h2
      cases h
      rw [leafK_eq h1, leafKs_eq h2]; rfl
    · cases h
theorem leafT_eq {d : D} {ks : List Key} (h : leafT d = some ks) : d = kTD ks := by
  cases d <;> simp [leafT] at h
  rw [leafKs_eq h]; rfl
theorem leafK_kD (k : Key) : leafK (kD k) = some k := by cases k <;> rfl
theorem leafKs_kD : ∀ ks : List Key, leafKs (ks.map kD) = some ks
  | [] => rfl
  | k :: r => by simp [leafKs, leafK_kD, leafKs_kD r]
theorem leafT_kTD (k : List Key) : leafT (kTD k) = some k := leafKs_kD k
theorem leafK_kTD (k : List Key) : leafK (kTD k) = none := rfl
def dGet (kvs : List (D × D)) (k : D) : Option D := (kvs.find? fun p => decide (p.1 = k)).map (·.2)
def dPut (kvs : List (D × D)) (k v : D) : List (D × D) := if (kvs.any fun p => decide (p.1 = k)) = true then kvs.map (fun p => if p.1 = k then (p.1, v) else p) else kvs ++ [(k, v)]
def keyFit (kvs : List (D × D)) (k : D) : Bool := match kvs with
  | [] => (leafK k).isSome || (leafT k).isSome || decide (k = .non)
  | (k0, _) :: _ => if (leafK k0).isSome then (leafK k).isSome || decide (k = .non) else (leafT k0).isSome && (leafT k).isSome
def keyFitW (kvs : List (D × D)) (k : D) : Bool := keyFit kvs k && decide (k ≠ .non)
def RelOk (K : KW) (H : Hp) : Option V → Option D → Prop
  | some v, some d => RelD K H v d
  | none, none => True
  | _, _ => False
section
variable {K : KW} {H H' : Hp}
theorem RelKV.val {κ : Type} [DecidableEq κ] {f : κ → D} (inj : ∀ a b, f a = f b → a = b) (k : κ) : ∀ {es : List (κ × V)} {kvs : List (D × D)}, RelKV f K H es kvs → RelOk K H (valV es k) (dGet kvs (f k))
  | _, _, .nil => trivial
  | _, _, .cons (k := k0) (v := v) (d := d) (r := r) (t := t) hk rd rt => by
    by_cases e : k0 = k
    · subst e
      rw [valV_pos rfl]
      have : dGet ((f k0, d) :: t) (f k0) = some d := by simp [dGet]
      rw [this]; exact rd
    · have ne : f k0 ≠ f k := fun z => e (inj _ _ z)
      rw [valV_neg (p := (k0, v)) e]
      have : dGet ((f k0, d) :: t) (f k) = dGet t (f k) := by simp [dGet, ne]
      rw [this]; exact RelKV.val inj k rt
theorem RelKV.anyK {κ : Type} [DecidableEq κ] {f : κ → D} (inj : ∀ a b, f a = f b → a = b) (k : κ) : ∀ {es : List (κ × V)} {kvs : List (D × D)}, RelKV f K H es kvs → (es.any fun p => decide (p.1 = k)) = kvs.any fun p => decide (p.1 = f k)
  | _, _, .nil => rfl
  | _, _, .cons (k := k0) (t := t) hk rd rt => by
    simp only [List.any_cons]
    rw [RelKV.anyK inj k rt]
    by_cases e : k0 = k
    · subst e; simp
    · have ne : f k0 ≠ f k := fun z => e (inj _ _ z)
      simp [e, ne]
theorem RelKV.repl {κ : Type} [DecidableEq κ] {f : κ → D} (inj : ∀ a b, f a = f b → a = b) (k : κ) {v : V} {d : D} (r : RelD K H v d) : ∀ {es : List (κ × V)} {kvs : List (D × D)}, RelKV f K H es kvs →
    RelKV f K H (es.map fun p => if p.1 = k then (p.1, v) else p) (kvs.map fun p => if p.1 = f k then (p.1, d) else p)
  | _, _, .nil => .nil
  | _, _, .cons (k := k0) (t := t) hk rd rt => by
    simp only [List.map_cons]
    by_cases e : k0 = k
    · subst e; simp only [if_true]; exact .cons hk r (RelKV.repl inj _ r rt)
    · have ne : f k0 ≠ f k := fun z => e (inj _ _ z)
      rw [if_neg e, if_neg ne]
      exact .cons hk rd (RelKV.repl inj k r rt)
theorem RelKV.snoc {κ : Type} {f : κ → D} (k : κ) (hk : ∀ x, f k = .str x → PyData.strOk x = true) {v : V} {d : D} (r : RelD K H v d) : ∀ {es : List (κ × V)} {kvs : List (D × D)}, RelKV f K H es kvs → RelKV f K H (es ++ [(k, v)]) (kvs ++ [(f k, d)])
  | _, _, .nil => .cons hk r .nil
  | _, _, .cons h rd rt => .cons h rd (RelKV.snoc k hk r rt)
theorem RelKV.put {κ : Type} [DecidableEq κ] {f : κ → D} (inj : ∀ a b, f a = f b → a = b) (k : κ) (hk : ∀ x, f k = .str x → PyData.strOk x = true) {v : V} {d : D} (r : RelD K H v d) {es : List (κ × V)} {kvs : List (D × D)} (h : RelKV f K H es kvs) : RelKV f K H (putK es k v) (dPut kvs (f k) d) := by
  unfold putK dPut
  rw [h.anyK inj k]
  split
  · exact h.repl inj k r
  · exact h.snoc k hk r
theorem RelD.kV {v : V} {k : Key} (r : RelD K H v (kD k)) : v = L2.kV k := by cases k <;> cases r <;> rfl
theorem RelD.kT {v : V} {k : List Key} (r : RelD K H v (kTD k)) : ∃ b, v = .ref b ∧ KeyT K H b k := by
  cases r with
  | tup t r =>
    have e := r.kVs
    subst e
    exact ⟨_, rfl, t, r⟩
theorem RelD.kOk {v : V} {k : Key} (r : RelD K H v (kD k)) : ∀ x, kD k = .str x → PyData.strOk x = true := fun x e => by
  rw [e] at r
  cases r; assumption
theorem put_id {S : Sto} {a : Addr} {o : AO} (h : S a = some o) : put S a o = S := by
  funext b; unfold put; split
  · rename_i e; subst e; exact h.symm
  · rfl
theorem RelTV.val (k : List Key) : ∀ {xs : List (List Key × Addr × Value)} {kvs : List (D × D)}, RelTV K H xs kvs → ∃ o : Option V, RelO o ((atKey xs k).map (·.2)) ∧ RelOk K H o (dGet kvs (kTD k))
  | _, _, .nil => ⟨none, trivial, trivial⟩
  | _, _, .cons (k := k0) (b := b) (u := u) (v := v) (d := d) (r := r) (t := t) tt rv rd rt => by
    by_cases e : k0 = k
    · subst e
      have h1 : atKey ((k0, b, u) :: r) k0 = some (b, u) := by simp [atKey]
      have h2 : dGet ((kTD k0, d) :: t) (kTD k0) = some d := by simp [dGet]
      rw [h1, h2]
      exact ⟨some v, rv, rd⟩
    · have ne : kTD k0 ≠ kTD k := fun z => e (kTD_inj z)
      have h1 : atKey ((k0, b, u) :: r) k = atKey r k := by simp [atKey, List.find?_cons, e]
      have h2 : dGet ((kTD k0, d) :: t) (kTD k) = dGet t (kTD k) := by simp [dGet, ne]
      rw [h1, h2]
      exact RelTV.val k rt
theorem RelTV.repl (k : List Key) {v : V} {u : Value} {d : D} (rv : RelV v u) (rd : RelD K H v d) : ∀ {xs : List (List Key × Addr × Value)} {kvs : List (D × D)}, RelTV K H xs kvs → RelTV K H (xs.map (putAt k u)) (kvs.map fun p => if p.1 = kTD k then (p.1, d) else p)
  | _, _, .nil => .nil
  | _, _, .cons (k := k0) (t := t) tt rv' rd' rt => by
    simp only [List.map_cons, putAt]
    by_cases e : k0 = k
    · subst e; simp only [if_true]; exact .cons tt rv rd (RelTV.repl _ rv rd rt)
    · have ne : kTD k0 ≠ kTD k := fun z => e (kTD_inj z)
      rw [if_neg e, if_neg ne]
      exact .cons tt rv' rd' (RelTV.repl k rv rd rt)
theorem RelTV.snoc (k : List Key) {b : Addr} {v : V} {u : Value} {d : D} (tb : KeyT K H b k) (rv : RelV v u) (rd : RelD K H v d) : ∀ {xs : List (List Key × Addr × Value)} {kvs : List (D × D)}, RelTV K H xs kvs → RelTV K H (xs ++ [(k, b, u)]) (kvs ++ [(kTD k, d)])
  | _, _, .nil => .cons tb rv rd .nil
  | _, _, .cons tt rv' rd' rt => .cons tt rv' rd' (RelTV.snoc k tb rv rd rt)
theorem dGet_any (k : D) : ∀ kvs : List (D × D), (kvs.any fun p => decide (p.1 = k)) = (dGet kvs k).isSome
  | [] => rfl
  | p :: r => by
    have ih := dGet_any k r
    unfold dGet at *
    by_cases e : p.1 = k
    · simp [e]
    · simp only [List.any_cons, e, decide_false, Bool.false_or, List.find?_cons]; exact ih
theorem RelOk.isSome {o : Option V} {p : Option D} (r : RelOk K H o p) : o.isSome = p.isSome := by cases o <;> cases p <;> first | rfl | exact r.elim
theorem RelTV.put (k : List Key) {b : Addr} {v : V} {u : Value} {d : D} (tb : KeyT K H b k) (rv : RelV v u) (rd : RelD K H v d) {xs : List (List Key × Addr × Value)} {kvs : List (D × D)} (h : RelTV K H xs kvs) : RelTV K H (storedH xs k b u) (dPut kvs (kTD k) d) := by
  obtain ⟨o, h1, h2⟩ := h.val k
  have e : (kvs.any fun p => decide (p.1 = kTD k)) = (atKey xs k).isSome := by
    rw [dGet_any, ← h2.isSome, h1.isSome_eq, Option.isSome_map]
  unfold storedH dPut
  rw [e]
  split
  · exact h.repl k rv rd
  · exact h.snoc k tb rv rd
def conv (K : KW) (H H' : Hp) (a : Addr) : Prop := H' = H ∨ (H a = some (.dK []) ∧ H' = upd H a (TDn K a [])) ∨ (H a = some (TDn K a []) ∧ H' = upd H a (.dK []))
theorem conv.ev {a : Addr} (c : conv K H H' a) : Ev H H' := by
  rcases c with rfl | ⟨h, rfl⟩ | ⟨h, rfl⟩
  · exact .refl _
  · exact .upd h rfl
  · exact .upd h rfl
theorem conv.hr {S : Sto} {a : Addr} (c : conv K H H' a) (hr : HR K H S) (e : S a = some (.dct [])) : HR K H' S := by
  rcases c with rfl | ⟨h, rfl⟩ | ⟨h, rfl⟩
  · exact hr
  · rw [← put_id e]
    exact hr.chg h rfl (.inr ⟨[], upd_same, .nil⟩)
  · rw [← put_id e]
    exact hr.chg h rfl (.inl ⟨[], upd_same, .nil⟩)
theorem Inv.conv {X : Cx} {pins : List (Addr × Obj)} {s : Shared} {σ : L2.St} {H H' : Hp} {a : Addr} (I : Inv X pins σ H s) (c : conv X.KW H H' a) : Inv X pins σ H' s := by
  rcases c with rfl | ⟨h, rfl⟩ | ⟨h, rfl⟩
  · exact I
  · obtain ⟨z, hd, vs, rel, o, es, ep, h1, h2, h3, h4, h5, h6⟩ := (show ObjOk X.prog X.w H s.heap a (.dK []) from I.hok a _ h)
    have ev : vs = [] := by have := rel.length; exact List.length_eq_zero_iff.mp this.symm
    subst ev
    have ee : es.toList = [] := by have := h5.length; exact List.length_eq_zero_iff.mp this
    refine I.write (t' := s.toks) (x := a) (e := a) (by rw [h]; trivial) (.inl rfl) (fun b u _ q => q) ⟨o, h1⟩ ⟨⟨⟨Nat.zero_le _, hd⟩, o, es, ep, h1, h2, h3, ee, List.nodup_nil⟩, ⟨o, h1⟩, fun h1 h2 ⟨z, o, es, ep, q, r⟩ k => ⟨z, o, es, ep, k _ q, r⟩⟩
  · obtain ⟨⟨⟨z, hd⟩, o, es, ep, h1, h2, h3, h4, h5⟩, _⟩ := (show ObjOk X.prog X.w H s.heap a (TDn X.KW a []) from I.hok a _ h)
    have ee : es.toList = [] := h4
    have ea : es = #[] := by simpa using ee
    subst ea
    exact I.write (t' := s.toks) (x := a) (e := a) (by rw [h]; trivial) (.inl rfl) (fun b u _ q => q) ⟨o, h1⟩ ⟨Nat.zero_le _, hd, [], .nil, o, #[], ep, h1, h2, h3, (by intro e he; simp at he), .nil, List.nodup_nil⟩
theorem keyFit.kD {es : List (Key × V)} {kvs : List (D × D)} {d : D} (r : RelKV DL.kD K H es kvs) (h : keyFit kvs d = true) (hn : kvs ≠ []) : (∃ k, d = DL.kD k) ∨ d = .non := by
  cases r with
  | nil => exact absurd rfl hn
  | @cons k v e r t hk rd rt =>
    simp only [keyFit, leafK_kD, Option.isSome_some, if_true, Bool.or_eq_true, decide_eq_true_eq] at h
    rcases h with h | h
    · obtain ⟨k', e⟩ := Option.isSome_iff_exists.mp h
      exact .inl ⟨k', leafK_eq e⟩
    · exact .inr h
theorem keyFit.kTD {es : List (List Key × Addr × Value)} {kvs : List (D × D)} {d : D} (r : RelTV K H es kvs) (h : keyFit kvs d = true) (hn : kvs ≠ []) : ∃ k, d = DL.kTD k := by
  cases r with
  | nil => exact absurd rfl hn
  | @cons k b u v d' r t tt rv rd rt =>
    simp only [keyFit, leafK_kTD, leafT_kTD, Option.isSome_none, Option.isSome_some, Bool.false_eq_true, if_false, Bool.true_and] at h
    obtain ⟨k', e⟩ := Option.isSome_iff_exists.mp h
    exact ⟨k', leafT_eq e⟩
theorem keyFit.nil {d : D} (h : keyFit [] d = true) : (∃ k, d = DL.kD k) ∨ (∃ k, d = DL.kTD k) ∨ d = .non := by
  simp only [keyFit, Bool.or_eq_true, decide_eq_true_eq] at h
  rcases h with (h | h) | h
  · obtain ⟨k', e⟩ := Option.isSome_iff_exists.mp h
    exact .inl ⟨k', leafK_eq e⟩
  · obtain ⟨k', e⟩ := Option.isSome_iff_exists.mp h
    exact .inr (.inl ⟨k', leafT_eq e⟩)
  · exact .inr (.inr h)
def DGy (K : KW) (H : Hp) (a : Addr) (y : V) (o : Option V) : Prop :=
  (∃ kvs k, Rd H a (.dK kvs) ∧ y = L2.kV k ∧ o = valV kvs k) ∨ (y = .non ∧ o = none ∧ ∃ kvs, Rd H a (.dK kvs)) ∨
    ∃ xs kvs k b, Rd H a (TDn K a xs) ∧ RelTV K H xs kvs ∧ y = .ref b ∧ KeyT K H b k ∧ RelO o ((atKey xs k).map (·.2))
def rdD (S : Sto) (a : Addr) (d : D) : Option (List (D × D)) := match S a with
  | some (.dct kvs) => if keyFit kvs d = true then some kvs else none
  | some (.fdc _ kvs) => if keyFit kvs d = true ∧ kvs ≠ [] then some kvs else none
  | _ => none
theorem dGet_non_kD : ∀ {es : List (Key × V)} {kvs : List (D × D)}, RelKV DL.kD K H es kvs → dGet kvs .non = none
  | _, _, .nil => rfl
  | _, _, .cons (k := k) (t := t) hk rd rt => by
    have ne : DL.kD k ≠ .non := by cases k <;> simp [DL.kD]
    have := dGet_non_kD rt
    unfold dGet at *
    simpa [List.find?_cons, ne] using this
theorem dget_rd {S : Sto} {a : Addr} {kvs : List (D × D)} {y : V} {d : D} (hn : kvs ≠ []) (fit : keyFit kvs d = true) (r : RelD K H y d)
    (h : (∃ es, Rd H a (.dK es) ∧ RelKV DL.kD K H es kvs) ∨ ∃ xs, Rd H a (TDn K a xs) ∧ RelTV K H xs kvs) : ∃ o, DGy K H a y o ∧ RelOk K H o (dGet kvs d) := by
  rcases h with ⟨ks, h1, rk⟩ | ⟨ks, h1, rk⟩
  · rcases keyFit.kD rk fit hn with ⟨k, rfl⟩ | rfl
    · have ey := r.kV
      subst ey
      exact ⟨_, .inl ⟨_, k, h1, rfl, rfl⟩, rk.val (fun a b => kD_inj) k⟩
    · cases r
      exact ⟨none, .inr (.inl ⟨rfl, rfl, _, h1⟩), by rw [dGet_non_kD rk]; trivial⟩
  · obtain ⟨k, rfl⟩ := keyFit.kTD rk fit hn
    obtain ⟨b, rfl, hb⟩ := r.kT
    obtain ⟨o, h2, h3⟩ := rk.val k
    exact ⟨o, .inr (.inr ⟨ks, kvs, k, b, h1, rk, rfl, hb, h2⟩), h3⟩
theorem dget_ok {S : Sto} {a : Addr} {kvs : List (D × D)} {y : V} {d : D} (hr : HR K H S) (e : rdD S a d = some kvs) (r : RelD K H y d) : ∃ o H', conv K H H' a ∧ HR K H' S ∧ DGy K H' a y o ∧ RelOk K H' o (dGet kvs d) := by
  unfold rdD at e
  split at e
  · rename_i kvs' es
    split at e
    · rename_i fit
      cases e
      by_cases hn : kvs = []
      · subst hn
        have go : ∀ H', conv K H H' a → DGy K H' a y none → ∃ o H', conv K H H' a ∧ HR K H' S ∧ DGy K H' a y o ∧ RelOk K H' o (dGet [] d) := fun H' c g => ⟨none, H', c, c.hr hr es, g, trivial⟩
        have tp : ∀ b ks, TupAt K H b ks → ∀ H', conv K H H' a → TupAt K H' b ks := fun b ks t H' c => t.ev c.ev
        rcases keyFit.nil fit with ⟨k, rfl⟩ | ⟨k, rfl⟩ | rfl
        · have ey := r.kV
          subst ey
          rcases hr a _ es with ⟨ks, h1, rk⟩ | ⟨ks, h1, rk⟩
          · cases rk
            exact go H (.inl rfl) (.inl ⟨[], k, .inl h1, rfl, rfl⟩)
          · cases rk
            exact go _ (.inr (.inr ⟨h1, rfl⟩)) (.inl ⟨[], k, .inl upd_same, rfl, rfl⟩)
        · obtain ⟨b, rfl, hb⟩ := r.kT
          rcases hr a _ es with ⟨ks, h1, rk⟩ | ⟨ks, h1, rk⟩
          · cases rk
            have c : conv K H (upd H a (TDn K a [])) a := .inr (.inl ⟨h1, rfl⟩)
            exact go _ c (.inr (.inr ⟨[], [], k, b, .inl upd_same, .nil, rfl, hb.ev c.ev, trivial⟩))
          · cases rk
            exact go H (.inl rfl) (.inr (.inr ⟨[], [], k, b, .inl h1, .nil, rfl, hb, trivial⟩))
        · cases r
          rcases hr a _ es with ⟨ks, h1, rk⟩ | ⟨ks, h1, rk⟩
          · exact go H (.inl rfl) (.inr (.inl ⟨rfl, rfl, _, .inl h1⟩))
          · cases rk
            exact go _ (.inr (.inr ⟨h1, rfl⟩)) (.inr (.inl ⟨rfl, rfl, _, .inl upd_same⟩))
      · obtain ⟨o, h1, h2⟩ := dget_rd (S := S) hn fit r ((hr a _ es).imp (fun ⟨ks, h, r⟩ => ⟨ks, .inl h, r⟩) fun ⟨ks, h, r⟩ => ⟨ks, .inl h, r⟩)
        exact ⟨o, H, .inl rfl, hr, h1, h2⟩
    · cases e
  · rename_i ob kvs' es
    split at e
    · rename_i fit
      obtain ⟨fit, hn⟩ := fit
      cases e
      obtain ⟨o, h1, h2⟩ := dget_rd (S := S) hn fit r ((hr a _ es).imp (fun ⟨ks, h, r⟩ => ⟨ks, .inr ⟨_, h⟩, r⟩) fun ⟨ks, h, r⟩ => ⟨ks, .inr ⟨_, h⟩, r⟩)
      exact ⟨o, H, .inl rfl, hr, h1, h2⟩
    · cases e
  · cases e
end
end DL
namespace DL
open PySem PySem.Spec PyProof.Rows L2
section
variable {X : Cx} {pins : List (Addr × Obj)} {σ : L2.St} {H : Hp} {s : Shared} {a : Addr} {y : V} {u : Value} {o : Option V} {E : Value → Shared → Prop}
theorem leafMap {kvs : List (Key × V)} (I : Inv X pins σ H s) (e : Rd H a (.dK kvs)) : (a == sysModules) = false ∧ ∃ f, s.heap.MapOf (leafKind X.prog X.w) a f ∧ f .none = none := by
  obtain ⟨z, hd, vs, rel, o, es, ep, h1, h2, h3, h4, h5, h6⟩ := dk_rd I.hok e
  refine ⟨hd, fun k => findBy (leafKind X.prog X.w).is es k, ⟨o, es, ep, h1, h2, h3, fun e he => ?_, fun k => rfl⟩, ?_⟩
  · obtain ⟨k, q1, q2⟩ := h4 e he
    cases k with
    | inl i =>
      obtain ⟨t, ek⟩ := Value.isInt_shape (show Value.isInt i e.key = true from q1)
      refine ⟨.num i, ?_, q2⟩
      rw [ek]; exact leaf_int i t
    | inr x =>
      obtain ⟨t, ek⟩ := Value.isStrOf_shape (show Value.isStrOf x e.key = true from q1)
      refine ⟨.text x, ?_, q2⟩
      rw [ek]; exact leaf_str x t
  · show findBy (leafKind X.prog X.w).is es .none = none
    have : es.find? (fun e => (leafKind X.prog X.w).is .none e.key) = none := by
      rw [Array.find?_eq_none]
      intro e he
      obtain ⟨k, q1, q2⟩ := h4 e he
      cases k with
      | inl i =>
        obtain ⟨t, ek⟩ := Value.isInt_shape (show Value.isInt i e.key = true from q1)
        rw [ek]; exact (fun z => nomatch z)
      | inr x =>
        obtain ⟨t, ek⟩ := Value.isStrOf_shape (show Value.isStrOf x e.key = true from q1)
        rw [ek]; exact (fun z => nomatch z)
    unfold findBy
    rw [this]; rfl
theorem dy_in (hu : X.A.units + 1 < cLine) (I : Inv X pins σ H s) (g : DGy X.KW H a y o) (ry : RelV y u) : wpAny (model X.prog X.w) X.A (compareOp .In u (.ref a)) (fun r s' => r = .bool o.isSome ∧ Inv X pins σ H s') E s := by
  rcases g with ⟨kvs, k, e, ey, l⟩ | ⟨ey, eo, kvs, e⟩ | ⟨xs, kvs, k, b, e, rk, ey, tb, l⟩
  · subst ey
    obtain ⟨z, hd, vs, rel, dd⟩ := dk_rd I.hok e
    refine wpAny_in_of (kV_is ry) hd dd.mapOf ⟨?_, I.tok _⟩
    rw [← (rel.val k).isSome_eq, ← l]
  · subst ey eo
    cases ry
    obtain ⟨hd, f, hm, hf⟩ := leafMap I e
    refine wpAny_in_of (knd := leafKind X.prog X.w) (k := .none) leaf_none hd hm ⟨?_, I.tok _⟩
    rw [hf]
    rfl
  · subst ey
    cases ry
    obtain ⟨z, hd, dd⟩ := tdn_rd I e rk
    refine wpAny_in_heap (tupleKind_room_in1 hu) (keyT I tb) hd dd ⟨?_, I.tok _⟩
    rw [l.isSome_eq, Option.isSome_map]
theorem dy_notIn (hu : X.A.units + 1 < cLine) (I : Inv X pins σ H s) (g : DGy X.KW H a y o) (ry : RelV y u) : wpAny (model X.prog X.w) X.A (compareOp .NotIn u (.ref a)) (fun r s' => r = .bool (!o.isSome) ∧ Inv X pins σ H s') E s := by
  rcases g with ⟨kvs, k, e, ey, l⟩ | ⟨ey, eo, kvs, e⟩ | ⟨xs, kvs, k, b, e, rk, ey, tb, l⟩
  · subst ey
    obtain ⟨z, hd, vs, rel, dd⟩ := dk_rd I.hok e
    refine wpAny_notIn_of (kV_is ry) hd dd.mapOf ⟨?_, I.tok _⟩
    rw [← (rel.val k).isSome_eq, ← l]
  · subst ey eo
    cases ry
    obtain ⟨hd, f, hm, hf⟩ := leafMap I e
    refine wpAny_notIn_of (knd := leafKind X.prog X.w) (k := .none) leaf_none hd hm ⟨?_, I.tok _⟩
    rw [hf]
    rfl
  · subst ey
    cases ry
    obtain ⟨z, hd, dd⟩ := tdn_rd I e rk
    refine wpAny_notIn_heap (tupleKind_room_in1 hu) (keyT I tb) hd dd ⟨?_, I.tok _⟩
    rw [l.isSome_eq, Option.isSome_map]
theorem dy_item {v : V} (hu : X.A.units + 1 < cLine) (I : Inv X pins σ H s) (g : DGy X.KW H a y (some v)) (ry : RelV y u) : wpAny (model X.prog X.w) X.A (getItem (.ref a) u) (fun r s' => RelV v r ∧ Inv X pins σ H s') E s := by
  rcases g with ⟨kvs, k, e, ey, l⟩ | ⟨ey, eo, kvs, e⟩ | ⟨xs, kvs, k, b, e, rk, ey, tb, l⟩
  · subst ey
    obtain ⟨z, hd, vs, rel, dd⟩ := dk_rd I.hok e
    obtain ⟨w', hw, rw'⟩ := RelO.some_of (v := v) (o := valueAt vs k) (by rw [l]; exact rel.val k)
    exact wpAny_getItem_of (kV_is ry) dd.mapOf hw ⟨rw', I.tok _⟩
  · cases eo
  · subst ey
    cases ry
    obtain ⟨z, hd, dd⟩ := tdn_rd I e rk
    obtain ⟨w', hw, rw'⟩ := RelO.some_of (v := v) l
    obtain ⟨p, hp, hp2⟩ := Option.map_eq_some_iff.mp hw
    refine wpAny_getItem_heap (tupleKind_room_in1 hu) (keyT I tb) dd hp ⟨?_, I.tok _⟩
    rw [hp2]; exact rw'
theorem dy_type (I : Inv X pins σ H s) (g : DGy X.KW H a y o) : s.TypeIs (.ref a) "dict" ∧ ∀ b, Value.ref a = .ref b → ∃ ob, s.heap.get? b = some ob ∧ ob.dict = none := by
  have fin : (∃ o es ep, s.heap.get? a = some o ∧ o.ExactDict ∧ o.data = Data.dict es ep) → s.TypeIs (.ref a) "dict" ∧ ∀ b, Value.ref a = .ref b → ∃ ob, s.heap.get? b = some ob ∧ ob.dict = none := fun ⟨ob, es, ep, h1, h2, _⟩ =>
    ⟨⟨ob, h1, h2.1⟩, fun b e => by cases e; exact ⟨ob, h1, h2.2.1⟩⟩
  rcases g with ⟨kvs, k, e, ey, l⟩ | ⟨ey, eo, kvs, e⟩ | ⟨xs, kvs, k, b, e, rk, ey, tb, l⟩
  · obtain ⟨z, hd, vs, rel, ob, es, ep, h1, h2, h3, _⟩ := dk_rd I.hok e
    exact fin ⟨ob, es, ep, h1, h2, h3⟩
  · obtain ⟨z, hd, vs, rel, ob, es, ep, h1, h2, h3, _⟩ := dk_rd I.hok e
    exact fin ⟨ob, es, ep, h1, h2, h3⟩
  · obtain ⟨z, hd, ob, es, ep, h1, h2, h3, _⟩ := tdn_rd I e rk
    exact fin ⟨ob, es, ep, h1, h2, h3⟩
end
def onD (S : Sto) (a : Addr) (d : D) (k : List (D × D) → Prop) : Prop := match rdD S a d with | some kvs => k kvs | none => False
theorem onD.out {S : Sto} {a : Addr} {d : D} {k : List (D × D) → Prop} (h : onD S a d k) : ∃ kvs, rdD S a d = some kvs ∧ k kvs := by
  unfold onD at h
  split at h
  · exact ⟨_, by assumption, h⟩
  · exact h.elim
def isLst (S : Sto) : D → Bool
  | .ref a => match S a with | some (.lst _) => true | _ => false
  | _ => true
def wIn (neg : Bool) : DR := fun x y S Q => match isLst S y, y with
  | false, .ref a => onD S a x fun kvs => Q (.bl (neg != (dGet kvs x).isSome)) S
  | _, _ => wInS neg x y S Q
section
variable {X : Cx} {pos : Pos}
def rDIn (K : KW) (neg : Bool) : R2 := fun x y H Q => ∃ a o H', y = .ref a ∧ conv K H H' a ∧ DGy K H' a x o ∧ Q (.bl (neg != o.isSome)) H'
theorem op_din (hu : X.A.units + 1 < cLine) : OpR X (compareOp .In) (rDIn X.KW false) := by
  intro pins s σ H x y v u Q I rx ry ⟨a, o, H', ey, c, g, q⟩
  subst ey
  cases ry
  exact wpAny_mono (dy_in hu (Inv.conv I c) g rx) (fun r s' ⟨e, I'⟩ => ⟨.bl _, H', I', e, by simpa using q⟩) fun _ _ z => z
theorem op_dnotin (hu : X.A.units + 1 < cLine) : OpR X (compareOp .NotIn) (rDIn X.KW true) := by
  intro pins s σ H x y v u Q I rx ry ⟨a, o, H', ey, c, g, q⟩
  subst ey
  cases ry
  exact wpAny_mono (dy_notIn hu (Inv.conv I c) g rx) (fun r s' ⟨e, I'⟩ => ⟨.bl _, H', I', e, by simpa using q⟩) fun _ _ z => z
theorem rDIn_of {neg : Bool} {x : V} {dx : D} {H : Hp} {S : Sto} {Q : KD} {R : VK} {a : Addr} (hr : HR X.KW H S) (r1 : RelD X.KW H x dx) (q : onD S a dx fun kvs => Q (.bl (neg != (dGet kvs dx).isSome)) S) (k : ∀ v H', Up X.KW H Q v H' → R v H') : rDIn X.KW neg x (.ref a) H R := by
  obtain ⟨kvs, e, q⟩ := onD.out q
  obtain ⟨o, H', c, hr', g, ro⟩ := dget_ok hr e r1
  exact ⟨a, o, H', rfl, c, g, k _ _ (.of c.ev hr' (.bl _) (by rw [ro.isSome]; exact q))⟩
theorem dop_in (hu : X.A.units + 65 < cLine) : DOp X (compareOp .In) (wIn false) := by
  obtain ⟨rh, h1, h2⟩ := dop_inS (X := X) hu
  refine ⟨_, h1.or (op_din (by omega)), fun x y dx dy H S Q R hr r1 r2 q k => ?_⟩
  unfold wIn at q
  split at q
  · cases r2
    exact .inr (rDIn_of hr r1 q k)
  · exact .inl (h2 x y dx _ H S Q R hr r1 r2 q k)
theorem dop_notIn (hu : X.A.units + 65 < cLine) : DOp X (compareOp .NotIn) (wIn true) := by
  obtain ⟨rh, h1, h2⟩ := dop_notInS (X := X) hu
  refine ⟨_, h1.or (op_dnotin (by omega)), fun x y dx dy H S Q R hr r1 r2 q k => ?_⟩
  unfold wIn at q
  split at q
  · cases r2
    exact .inr (rDIn_of hr r1 q k)
  · exact .inl (h2 x y dx _ H S Q R hr r1 r2 q k)
def wAt : DR := fun x y S Q => match isLst S x, x with
  | false, .ref a => onD S a y fun kvs => onS (dGet kvs y) fun d => Q d S
  | _, _ => wIx x y S Q
def rDIx (K : KW) : R2 := fun x y H Q => ∃ a v H', x = .ref a ∧ conv K H H' a ∧ DGy K H' a y (some v) ∧ Q v H'
theorem ix_dict (hu : X.A.units + 1 < cLine) : IxR X (rDIx X.KW) := by
  intro value slice pins s σ H x y v u Q I rx ry h hs
  obtain ⟨a, w, H', rfl, c, g, q⟩ := h
  cases rx
  have I' := Inv.conv I c
  exact tail_any (dy_type I' g).1 slot_dict_getitem.lookup (wpAny_mono (dy_item hu I' g ry) (fun r s' ⟨e, I2⟩ => ⟨w, H', I2, e, q⟩) fun _ _ z => z) hs
theorem dix_at (hu : X.A.units + 1 < cLine) : DIx X wAt := by
  obtain ⟨rh, h1, h2⟩ := dix_seq (X := X)
  refine ⟨_, h1.or (ix_dict hu), fun x y dx dy H S Q R hr r1 r2 q k => ?_⟩
  unfold wAt at q
  split at q
  · cases r1
    obtain ⟨kvs, e, q⟩ := onD.out q
    obtain ⟨d, ed, q⟩ := onS.out q
    obtain ⟨o, H', c, hr', g, ro⟩ := dget_ok hr e r2
    rw [ed] at ro
    cases o with
    | none => exact ro.elim
    | some v => exact .inr ⟨_, v, H', rfl, c, g, k _ _ (.of c.ev hr' ro q)⟩
  · exact .inl (h2 x y _ dy H S Q R hr r1 r2 q k)
end
end DL
namespace DL
open PySem PySem.Spec PyProof.Rows L2
section
variable {X : Cx} {o e f : Expr} {apos cpos : Pos} {to te tf : DTE}
theorem RelOk.getD {K : KW} {H : Hp} {o : Option V} {p : Option D} {v : V} {d : D} (r : RelOk K H o p) (rd : RelD K H v d) : RelD K H (o.getD v) (p.getD d) := by
  cases o <;> cases p <;> first | exact rd | exact r | exact r.elim
end
section
variable {X : Cx} {pins : List (Addr × Obj)} {σ : L2.St} {H : Hp} {s : Shared} {E : Value → Shared → Prop}
theorem length_storedH {κ : Type} [DecidableEq κ] (xs : List (κ × Addr × Value)) (k : κ) (b : Addr) (u : Value) : (storedH xs k b u).length ≤ xs.length + 1 := by
  unfold storedH
  split
  · simp
  · simp
theorem dput_ok {S : Sto} {a : Addr} {kvs : List (D × D)} {ky v : V} {kd vd : D} {ku vu : Value} {t : Sem Unit} (I : Inv X pins σ H s) (hr : HR X.KW H S) (es : S a = some (.dct kvs)) (fit : keyFitW kvs kd = true) (hz : kvs.length < sizeLine) (r1 : RelV ky ku) (r2 : RelV v vu) (d1 : RelD X.KW H ky kd) (d2 : RelD X.KW H v vd)
    (tK : ∀ (H : Hp) (s : Shared) (k : Key) (vs : List (Key × Value)) (Q : Unit → Shared → Prop), (mixKind X.prog X.w).is k ku = true → s.heap.DictOf (mixKind X.prog X.w) a vs → vs.length ≤ sizeLine → (∀ h', h'.DictOf (mixKind X.prog X.w) a (stored vs k vu) → Heap.SameBut a s.heap h' → ∀ tk, Q () { s with heap := h', toks := tk }) → wpAny (model X.prog X.w) X.A t Q E s)
    (tT : ∀ (H : Hp) (s : Shared) (k : List Key) (b : Addr) (xs : List (List Key × Addr × Value)) (Q : Unit → Shared → Prop), ku = .ref b → (tupleKind (mixKind X.prog X.w)).is s.heap k b → s.heap.DictOfH (tupleKind (mixKind X.prog X.w)) a xs → xs.length ≤ sizeLine → (∀ h', h'.DictOfH (tupleKind (mixKind X.prog X.w)) a (storedH xs k b vu) → Heap.SameBut a s.heap h' → ∀ tk, Q () { s with heap := h', toks := tk }) → wpAny (model X.prog X.w) X.A t Q E s) :
    wpAny (model X.prog X.w) X.A t (fun _ s' => ∃ H', Inv X pins σ H' s' ∧ Ev H H' ∧ HR X.KW H' (put S a (.dct (dPut kvs kd vd)))) E s := by
  unfold keyFitW at fit
  rw [Bool.and_eq_true, decide_eq_true_eq] at fit
  obtain ⟨fit, hnn⟩ := fit
  have doK : ∀ (H1 : Hp) (es1 : List (Key × V)) (k : Key), Inv X pins σ H1 s → Ev H H1 → HR X.KW H1 S → H1 a = some (.dK es1) → RelKV DL.kD X.KW H1 es1 kvs → kd = DL.kD k → wpAny (model X.prog X.w) X.A t (fun _ s' => ∃ H', Inv X pins σ H' s' ∧ Ev H H' ∧ HR X.KW H' (put S a (.dct (dPut kvs kd vd)))) E s := by
    intro H1 es1 k I1 ev hr1 e1 rk ek
    subst ek
    have hkk := d1.kOk
    have ey := d1.kV
    subst ey
    obtain ⟨z, hd, vs, rel, dd⟩ := dk_of I1.hok e1
    have hzv : vs.length ≤ sizeLine := by rw [← rel.length]; exact z
    have hl : (putK es1 k v).length ≤ sizeLine := by have := length_putK es1 k v; have := rk.length; omega
    refine tK H1 s k vs _ (kV_is r1) dd hzv fun h' dd' hs tk => ?_
    have he : ∃ q, h'.get? a = some q := let ⟨q, _, _, hq, _⟩ := dd'; ⟨q, hq⟩
    have e2 : Ev H1 (upd H1 a (.dK (putK es1 k v))) := .upd e1 rfl
    exact ⟨_, d_write I1 (by rw [e1]; exact True.intro) hs he (dk_new hl hd (rel.put k r2) dd'), ev.trans e2, hr1.chg e1 rfl (.inl ⟨_, upd_same, ((rk.put (fun a b => kD_inj) k hkk (d2.ev ev)).ev e2)⟩)⟩
  have doT : ∀ (H1 : Hp) (xs : List (List Key × Addr × Value)) (k : List Key), Inv X pins σ H1 s → Ev H H1 → HR X.KW H1 S → H1 a = some (TDn X.KW a xs) → RelTV X.KW H1 xs kvs → kd = DL.kTD k → wpAny (model X.prog X.w) X.A t (fun _ s' => ∃ H', Inv X pins σ H' s' ∧ Ev H H' ∧ HR X.KW H' (put S a (.dct (dPut kvs kd vd)))) E s := by
    intro H1 xs k I1 ev hr1 e1 rk ek
    subst ek
    obtain ⟨b, rfl, tb⟩ := (d1.ev ev).kT
    cases r1
    obtain ⟨z, hd, dd⟩ := tdn_rd I1 (.inl e1) rk
    refine tT H1 s k b xs _ rfl (keyT I1 tb) dd z fun h' dd' hs tk => ?_
    obtain ⟨q, es, ep, hq, h2, h3, h4, _, h5⟩ := dd'
    have e2 : Ev H1 (upd H1 a (TDn X.KW a (storedH xs k b vu))) := .upd e1 rfl
    refine ⟨_, d_write (ob := TDn X.KW a (storedH xs k b vu)) I1 (by rw [e1]; exact True.intro) hs ⟨q, hq⟩ ⟨⟨⟨?_, hd⟩, q, es, ep, hq, h2, h3, h4, h5⟩, ⟨q, hq⟩, fun h1 h2 ⟨z, o, es, ep, q, r⟩ k => ⟨z, o, es, ep, k _ q, r⟩⟩, ev.trans e2, hr1.chg e1 rfl (.inr ⟨_, upd_same, (rk.put k tb r2 (d2.ev ev)).ev e2⟩)⟩
    have := length_storedH xs k b vu
    have := rk.length
    omega
  by_cases hn : kvs = []
  · subst hn
    rcases keyFit.nil fit with ⟨k, rfl⟩ | ⟨k, rfl⟩ | rfl
    · rcases hr a _ es with ⟨ks, h1, rk⟩ | ⟨ks, h1, rk⟩
      · exact doK H ks k I (.refl _) hr h1 rk rfl
      · cases rk
        have c : conv X.KW H (upd H a (.dK [])) a := .inr (.inr ⟨h1, rfl⟩)
        exact doK _ [] k (Inv.conv I c) c.ev (c.hr hr es) upd_same .nil rfl
    · rcases hr a _ es with ⟨ks, h1, rk⟩ | ⟨ks, h1, rk⟩
      · cases rk
        have c : conv X.KW H (upd H a (TDn X.KW a [])) a := .inr (.inl ⟨h1, rfl⟩)
        exact doT _ [] k (Inv.conv I c) c.ev (c.hr hr es) upd_same .nil rfl
      · exact doT H ks k I (.refl _) hr h1 rk rfl
    · exact absurd rfl hnn
  · rcases hr a _ es with ⟨ks, h1, rk⟩ | ⟨ks, h1, rk⟩
    · rcases keyFit.kD rk fit hn with ⟨k, rfl⟩ | rfl
      · exact doK H ks k I (.refl _) hr h1 rk rfl
      · exact absurd rfl hnn
    · obtain ⟨k, rfl⟩ := keyFit.kTD rk fit hn
      exact doT H ks k I (.refl _) hr h1 rk rfl
end
def wSet : D → D → D → Sto → (Sto → Prop) → Prop := fun o i v S Q => match o with
  | .ref a => match S a with
    | some (.lst ds) => (match i with | .int k => (match ixN ds.length k with | some j => Q (put S a (.lst (ds.set j v))) | none => False) | _ => False)
    | some (.dct kvs) => keyFitW kvs i = true ∧ kvs.length < sizeLine ∧ Q (put S a (.dct (dPut kvs i v)))
    | _ => False
  | _ => False
theorem dset_any {X : Cx} (hu : X.A.units + 1 < cLine) : DSet X wSet := by
  intro pins s σ H o i v od id vd ov iv u S Q I hr ro ri rv d1 d2 d3 q
  unfold wSet at q
  split at q
  · rename_i a
    cases d1
    cases ro
    split at q
    · rename_i ds e
      split at q
      · rename_i k
        cases d2
        split at q
        · rename_i j ej
          obtain ⟨vs, h1, r⟩ := hr a _ e
          refine thn (set_list pins s σ H (V.ref a) (V.int k) v _ iv u (fun H' => H' = upd H a (.lst (vs.set j v))) I (show RelV (V.ref a) (Value.ref a) from rfl) ri rv ⟨a, vs, k, j, rfl, rfl, h1, by rw [r.length]; exact ej, rfl⟩) fun _ s' ⟨H', I', e'⟩ => ?_
          subst e'
          have ev : Ev H (upd H a (.lst (vs.set j v))) := .upd h1 rfl
          exact ⟨_, I', ev, _, hr.chg (b := .lst (ds.set j vd)) h1 rfl ⟨_, upd_same, (r.set d3 j).ev ev⟩, q⟩
        · exact q.elim
      · exact q.elim
    · rename_i kvs e
      refine thn (dput_ok I hr e q.1 q.2.1 ri rv d2 d3 (fun H s k vs Q hk dd hz h => wpAny_setItem_pairs (hsz := hz) hk dd fun h' dd' hs => h h' dd' hs _)
        (fun H s k b xs Q eb hk dd hz h => by subst eb; exact wpAny_setItem_heap (hsz := hz) (tupleKind_room_in1 hu) hk dd fun h' dd' hs => h h' dd' hs _)) fun _ s' ⟨H', I', ev, hr'⟩ => ⟨H', I', ev, _, hr', q.2.2⟩
    · exact q.elim
  · exact q.elim
end DL
namespace DL
open PySem PySem.Spec PyProof.Rows L2
def emDct (tk tv : DTE) (D : Addr) : DEmT := fun τ S k => tk τ S fun kd S1 => tv τ S1 fun vd S2 => match S2 D with
  | some (.dct kvs) => keyFitW kvs kd = true ∧ kvs.length < sizeLine ∧ k (put S2 D (.dct (dPut kvs kd vd)))
  | _ => False
theorem em_dct {Y : Cx} {kx vx : Expr} {gs : List Comprehension} {scope : Scope} {pos : Pos} {tk tv : DTE} (hu : Y.A.units + 1 < cLine) (hxe : Y.xe = fun _ _ => False) (hk : DE Y kx tk) (hv : DE Y vx tv) (D : Addr) : DEm Y (emitOf (.DictComp kx vx gs scope pos) (.ref D) Y.env) (emDct tk tv D) := by
  refine ⟨fun pins s σ H τ S k I st hr q => ?_⟩
  have z := hk.run pins s σ H τ S _ I st hr q
  rw [hxe] at z
  show wpAny _ _ (do
    let kv ← eval kx Y.env
    let vv ← holding [kv] (eval vx Y.env)
    standAt { kx.pos with endLine := vx.pos.endLine, endCol := vx.pos.endCol }
    holding [kv, vv] (dictSet D kv vv)) _ _ s
  refine wpAny_bind (thnN z fun ku s1 ⟨kv, H1, I1, r1, e1, kd, S1, hr1, d1, q1⟩ => ?_)
  have z := hv.run pins s1 σ H1 τ S1 _ I1 (st.ev e1) hr1 q1
  rw [hxe] at z
  refine wpAny_bind (wpAny_holding (thnN z fun vu s2 ⟨vv, H2, I2, r2, e2, vd, S2, hr2, d2, q2⟩ => wpAny_bind (wpAny_standAt (wpAny_holding ?_))))
  simp only at q2
  split at q2
  · rename_i kvs e
    refine thn (dput_ok I2 hr2 e q2.1 q2.2.1 r1 r2 (d1.ev e2) d2 (fun H s k vs Q hk dd hz h => wpAny_dictSet_pairs (hsz := hz) hk dd fun h' dd' hs => h h' dd' hs _)
      (fun H s k b xs Q eb hk dd hz h => by subst eb; exact wpAny_dictSet_heap (hsz := hz) (show _ < _ by omega) hk dd fun h' dd' hs => h h' dd' hs _)) fun _ s' ⟨H', I', ev, hr'⟩ => ⟨H', _, I', (e1.trans e2).trans ev, hr', q2.2.2⟩
  · exact q2.elim
theorem na_dct {X : Cx} : NewAcc X newDict { cls := .type "dict", data := .dict #[] } (fun _ => .dK []) (.dct []) where
  lay := fun s E Q q => wpAny_newObj_type q
  ok := fun h H hb => dk_empty h hb
  rel := fun H D => .inl ⟨[], upd_same, .nil⟩
  st := fun _ => rfl
section
variable {X : Cx}
def dDC (wi : DTI) (g : DTG) (tt : DTT) (vs all : List Nat) (rs : List ClT) (tk tv : DTE) : DTE := dComp wi g tt vs all rs (emDct tk tv) (.dct [])
theorem de_dc {kx vx tg iter : Expr} {ifs : List Expr} {gs : List Comprehension} {scope : Scope} {own : List (Str × Nat)} {pos : Pos} {wi : DTI} {g : DTG} {tt : DTT} {tk tv : DTE} {vs : List Nat} {rs : List ClT}
    (hu : X.A.units + 1 < cLine) (hc : X.calm = true) (hN : X.N.Nodup) (hi : DI X tg iter wi) (ok : BlkOk X.N X.env.scope scope own)
    (hb : BlkAll X scope fun Y => DG Y tg g ∧ DTs Y ifs tt ∧ DCl Y gs rs ∧ DE Y kx tk ∧ DE Y vx tv) (hs : ∀ x, foldedSetIterable iter X.env x = pure x := by intro _; rfl) :
    DE X (.DictComp kx vx (⟨tg, iter, ifs, 0⟩ :: gs) scope pos) (dDC wi g tt vs (own.map (·.2)) rs tk tv) :=
  comp_val (pos' := firstIterPos (⟨tg, iter, ifs, 0⟩ :: gs) pos) rfl rfl rfl hc hN hi ok (fun s H C cl fp => let ⟨a, b, c, d, e⟩ := hb s H C cl fp; ⟨a, b, c, fun D => em_dct (Y := X.blk s H scope (compEnvC scope cl C X.env) fp) hu rfl d e D⟩) na_dct hs
def dNewD : DTE := fun _ S Q => ∀ p, S p = none → Q (.ref p) (put S p (.dct []))
theorem HR.dct0 {K : KW} {H : Hp} {S : Sto} {p : Addr} (hr : HR K H S) (n : H p = none) : HR K (upd H p (.dK [])) (put S p (.dct [])) := hr.newO n (.inl ⟨[], upd_same, .nil⟩)
theorem de_newD {pos : Pos} : DE X (.Dict [] [] pos) dNewD := .up pe_dnewK fun σ H τ S Q st hr q => fun p n => .of (.new n) (hr.dct0 n) (.ref p) (q p (hr.free n))
def dPairs : List (DTE × DTE) → DSt → Sto → (List (D × D) → Sto → Prop) → Prop
  | [], _, S, Q => Q [] S
  | (tk, tv) :: r, τ, S, Q => tk τ S fun x S1 => tv τ S1 fun y S2 => dPairs r τ S2 fun ps S3 => Q ((x, y) :: ps) S3
inductive RelPs (K : KW) (H : Hp) : List (V × V) → List (D × D) → Prop
  | nil : RelPs K H [] []
  | cons {k v kd vd r t} : RelD K H k kd → RelD K H v vd → RelPs K H r t → RelPs K H ((k, v) :: r) ((kd, vd) :: t)
structure DPs (X : Cx) (pos : Pos) (keys : List (Option Expr)) (values : List Expr) (trs : List (DTE × DTE)) : Prop where
  run : ∀ (pins : List (Addr × Obj)) (s : Shared) (σ : L2.St) (H : Hp) (τ : DSt) (S : Sto) (Q : List (D × D) → Sto → Prop), Inv X pins σ H s → StR X.KW H σ τ → HR X.KW H S → dPairs trs τ S Q →
    wpAny (model X.prog X.w) X.A (evalPairs (pairTrees keys values X.env pos)) (fun vs s' => ∃ ps H', Inv X pins σ H' s' ∧ VV ps vs ∧ Ev H H' ∧ ∃ ds S', HR X.KW H' S' ∧ RelPs X.KW H' ps ds ∧ Q ds S') X.xe s
theorem dps_nil {pos : Pos} : DPs X pos [] [] [] := ⟨fun pins s σ H τ S Q I st hr h => pairTrees_nil_walk ⟨[], H, I, .nil, .refl _, [], S, hr, .nil, h⟩⟩
theorem dps_cons {pos : Pos} {k v : Expr} {ks : List (Option Expr)} {vs : List Expr} {tk tv : DTE} {trs : List (DTE × DTE)} (hk : DE X k tk) (hv : DE X v tv) (h : DPs X pos ks vs trs) :
    DPs X pos (some k :: ks) (v :: vs) ((tk, tv) :: trs) := ⟨fun pins s σ H τ S Q I st hr q =>
  pairTrees_cons_walk (thn (hk.run pins s σ H τ S _ I st hr q) fun u s1 ⟨x, H1, I1, rx, e1, xd, S1, hr1, dx, q1⟩ => thn (hv.run pins s1 σ H1 τ S1 _ I1 (st.ev e1) hr1 q1) fun w2 s2 ⟨y, H2, I2, ry, e2, yd, S2, hr2, dy, q2⟩ =>
    thn (h.run pins s2 σ H2 τ S2 _ I2 (st.ev (e1.trans e2)) hr2 q2) fun ws s3 ⟨ps, H3, I3, rel, e3, ds, S3, hr3, dp, q3⟩ => ⟨(x, y) :: ps, H3, I3, .cons ⟨rx, ry⟩ rel, (e1.trans e2).trans e3, (xd, yd) :: ds, S3, hr3, .cons (dx.ev (e2.trans e3)) (dy.ev e3) dp, q3⟩)⟩
def kvMerge (kvs more : List (D × D)) : List (D × D) := more.foldl (fun acc kv => dPut acc kv.1 kv.2) kvs
def leafAll (ps : List (D × D)) : Bool := ps.all fun p => (leafK p.1).isSome
theorem relPs_K {K : KW} {H : Hp} : ∀ {ps : List (V × V)} {ds : List (D × D)}, RelPs K H ps ds → leafAll ds = true → ∃ es : List (Key × V), ps = es.map (fun kv => (L2.kV kv.1, kv.2)) ∧ RelKV kD K H es ds
  | _, _, .nil, _ => ⟨[], rfl, .nil⟩
  | _, _, .cons rk rv t, h => by
    simp only [leafAll, List.all_cons, Bool.and_eq_true] at h
    obtain ⟨k, ek⟩ := Option.isSome_iff_exists.mp h.1
    obtain ⟨es, e1, e2⟩ := relPs_K t h.2
    have := leafK_eq ek
    subst this
    have hkk := rk.kOk
    have e3 := rk.kV
    subst e3
    exact ⟨(k, _) :: es, by rw [List.map_cons, e1], .cons hkk rv e2⟩
theorem relKV_merge {K : KW} {H : Hp} : ∀ {more : List (Key × V)} {md : List (D × D)}, RelKV kD K H more md → ∀ {es : List (Key × V)} {ds : List (D × D)}, RelKV kD K H es ds → RelKV kD K H (mergeK es more) (kvMerge ds md)
  | _, _, .nil, _, _, h => h
  | _, _, .cons (k := k) hk r t, es, ds, h => by
    show RelKV kD K H (mergeK (putK es k _) _) (kvMerge (dPut ds (kD k) _) _)
    exact relKV_merge t (h.put (fun a b => kD_inj) k hk r)
def dDisp (trs : List (DTE × DTE)) : DTE := fun τ S Q => ∀ p, S p = none → dPairs trs τ (put S p (.dct [])) fun ps S1 => S1 p = some (.dct []) ∧ (leafAll ps = true ∧ ps.length ≤ 15) ∧ Q (.ref p) (put S1 p (.dct (kvMerge [] ps)))
theorem de_disp {pos : Pos} {keys : List (Option Expr)} {values : List Expr} {trs : List (DTE × DTE)} (h : DPs X pos keys values trs) (hall : keys.all (·.isSome) = true) (hl : keys.length = values.length) (h0 : keys ≠ [])
    (h15 : keys.length ≤ 15) : DE X (.Dict keys values pos) (dDisp trs) := ⟨fun pins s σ H τ S Q I st hr q => by
  have hn := I.hok.fresh (Nat.le_refl s.heap.objs.size)
  have I1 := I.laid (a := s.heap.objs.size) (o := .dK []) (h' := s.heap.push { cls := .type "dict", data := .dict #[] }) (t' := s.toks) (fun _ _ q => Heap.get?_push_of_some _ q) (Nat.le_refl _) (dk_empty s.heap I.big)
  have e0 : Ev H (upd H s.heap.objs.size (.dK [])) := .new hn
  refine wpAny_Dict_walk (knd := mixKind X.prog X.w) hall hl h0 h15 (thn (h.run pins _ σ _ τ _ _ I1 (st.ev e0) (hr.dct0 hn) (q _ (hr.free hn))) fun ws s2 ⟨ps, H2, I2, rel, e2, ds, S2, hr2, rp, q1, q2, q3⟩ => ?_)
  obtain ⟨es, ep, rk⟩ := relPs_K rp q2.1
  subst ep
  obtain ⟨rs, c, rk'⟩ := carries_of (P := X.prog) (w := X.w) rel
  obtain ⟨H3, c3, hr3, e3⟩ : ∃ H3, conv X.KW H2 H3 s.heap.objs.size ∧ HR X.KW H3 S2 ∧ H3 s.heap.objs.size = some (.dK []) := by
    rcases hr2 _ _ q1 with ⟨ks, h1, rk⟩ | ⟨ks, h1, rk⟩
    · cases rk; exact ⟨H2, .inl rfl, hr2, h1⟩
    · cases rk
      have c : conv X.KW H2 (upd H2 s.heap.objs.size (.dK [])) s.heap.objs.size := .inr (.inr ⟨h1, rfl⟩)
      exact ⟨_, c, c.hr hr2 q1, upd_same⟩
  have I3 := Inv.conv I2 c3
  obtain ⟨z, hd, vs0, r0, dd⟩ := dk_of I3.hok e3
  cases r0
  refine ⟨rs, c, dd, fun h' dd' hs => ?_⟩
  have hz : (mergeK [] es).length ≤ sizeLine := by
    have h1 := length_mergeK es []
    rw [List.length_nil] at h1
    have h2 : es.length ≤ 15 := by
      have := rk.length
      have := q2.2
      omega
    rw [sizeLine_eq]; omega
  have he : ∃ q, h'.get? s.heap.objs.size = some q := let ⟨q, _, _, hq, _⟩ := dd'; ⟨q, hq⟩
  have e4 : Ev H3 (upd H3 s.heap.objs.size (.dK (mergeK [] es))) := .upd e3 rfl
  refine ⟨.ref s.heap.objs.size, _, d_write I3 (by rw [e3]; exact True.intro) hs he (dk_new hz hd (rk'.merge .nil) dd'), rfl, .of (((e0.trans e2).trans c3.ev).trans e4) (hr3.chg (b := .dct (kvMerge [] ds)) e3 rfl (.inl ⟨_, upd_same, ?_⟩)) (.ref _) q3⟩
  exact (relKV_merge (rk.ev c3.ev) .nil).ev e4⟩
end
end DL
namespace DL
open PySem PySem.Spec PyProof.Rows L2
def seqOf (S : Sto) : D → Option (List D)
  | .tup ds => some ds
  | .fz ds => some ds
  | .ref a => match S a with | some (.lst ds) => some ds | _ => none
  | _ => none
def pairD : D → Option (D × D)
  | .tup [k, v] => some (k, v)
  | _ => none
def pairsD : List D → Option (List (D × D))
  | [] => some []
  | d :: ds => match pairD d, pairsD ds with | some p, some ps => some (p :: ps) | _, _ => none
def tupAll (ps : List (D × D)) : Bool := ps.all fun p => (leafT p.1).isSome
theorem pairD_eq {d : D} {p : D × D} (h : pairD d = some p) : d = .tup [p.1, p.2] := by
  unfold pairD at h
  split at h
  · cases h; rfl
  · cases h
section
variable {X : Cx} {pins : List (Addr × Obj)} {σ : L2.St} {H : Hp} {s : Shared} {S : Sto}
theorem tup_obj {a : Addr} {vs : List V} (I : Inv X pins σ H s) (t : TupAt X.KW H a vs) : ∃ its : List Value, Vals vs its ∧ PlainSeq "tuple" s.heap a its.toArray ∧ vs.length ≤ sizeLine := by
  rcases t with ⟨o, hd, h⟩ | ⟨o, its, n, h1, h2, h3, h4, h5, h6⟩
  · obtain ⟨e, z, its, r, o', h1, h2, n, h3⟩ := (show ObjOk X.prog X.w H s.heap a (.frz o (.tup vs)) from I.hok a _ h)
    rw [e] at h1; cases h1
    exact ⟨its, r, ⟨o, n, e, h2, hd, h3⟩, z⟩
  · exact ⟨its.toList, h6, ⟨o, n, I.kIn _ _ h1, h2, h3, h4⟩, by rw [h6.length]; simpa using h5⟩
theorem lst_obj {a : Addr} {vs : List V} (I : Inv X pins σ H s) (q : SqL X.K H a vs) : ∃ its : List Value, Vals vs its ∧ PlainSeq "list" s.heap a its.toArray ∧ vs.length ≤ sizeLine := by
  obtain ⟨its, rv, ⟨o, n, ho, hc, hd, hdat⟩, hz⟩ := I.list q
  exact ⟨its, rv, ⟨o, n, ho, hc, hd, hdat⟩, hz⟩
theorem seq_at {v : V} {u : Value} {d : D} {ds : List D} (I : Inv X pins σ H s) (hr : HR X.KW H S) (rv : RelV v u) (rd : RelD X.KW H v d) (h : seqOf S d = some ds) :
    ∃ a its vs, u = .ref a ∧ v = .ref a ∧ Vals vs its ∧ RelDs X.KW H vs ds ∧ vs.length ≤ sizeLine ∧ (PlainSeq "list" s.heap a its.toArray ∨ PlainSeq "tuple" s.heap a its.toArray) := by
  cases rd with
  | tup t r =>
    cases h; cases rv
    obtain ⟨its, a, b, c⟩ := tup_obj I t
    exact ⟨_, its, _, rfl, rfl, a, r, c, .inr b⟩
  | fz t r =>
    cases h; cases rv
    obtain ⟨its, a, b, c⟩ := lst_obj I t.sq
    exact ⟨_, its, _, rfl, rfl, a, r, c, .inl b⟩
  | ref a =>
    simp only [seqOf] at h
    split at h
    · rename_i ds' e
      cases h; cases rv
      obtain ⟨vs, h1, r⟩ := hr a _ e
      obtain ⟨its, x, b, c⟩ := lst_obj I (SqL.of h1)
      exact ⟨_, its, _, rfl, rfl, x, r, c, .inl b⟩
    · cases h
  | _ => cases h
theorem pairs_at (I : Inv X pins σ H s) : ∀ {vs : List V} {ds : List D} {its : List Value} {pd : List (D × D)}, Vals vs its → RelDs X.KW H vs ds → pairsD ds = some pd →
    ∃ (ps : List (Value × Value)) (kv : List (V × V)) (Ts : List Addr), its = Ts.map Value.ref ∧ Ts.length = ps.length ∧ VV kv ps ∧ RelPs X.KW H kv pd ∧ ∀ (j : Nat) (k v : Value), ps[j]? = some (k, v) → ∃ T, Ts[j]? = some T ∧ s.heap.IsTuple T #[k, v]
  | _, _, _, _, .nil, .nil, h => by cases h; exact ⟨[], [], [], rfl, rfl, .nil, .nil, fun j k v e => by simp at e⟩
  | _, _, _, _, .cons rv tv, .cons rd td, h => by
    simp only [pairsD] at h
    split at h
    · rename_i p ps' h1 h2
      cases h
      obtain ⟨ps, kv, Ts, e1, e2, e3, e4, e5⟩ := pairs_at I tv td h2
      have := pairD_eq h1
      subst this
      cases rd with
      | tup t r =>
        cases rv
        rename_i b vs'
        obtain ⟨its', r1, p1, _⟩ := I.tuple t.sq
        cases r with
        | cons ra r =>
        cases r with
        | cons rb r =>
        cases r
        cases r1 with
        | cons rka r1 =>
        cases r1 with
        | cons rkb r1 =>
        cases r1
        rename_i ka kb
        refine ⟨(ka, kb) :: ps, (_, _) :: kv, b :: Ts, by rw [List.map_cons, e1], by simp [e2], .cons ⟨rka, rkb⟩ e3, .cons ra rb e4, fun j k v e => ?_⟩
        cases j with
        | zero =>
          simp only [List.getElem?_cons_zero, Option.some.injEq, Prod.mk.injEq] at e
          obtain ⟨rfl, rfl⟩ := e
          exact ⟨b, rfl, p1⟩
        | succ j => simpa using e5 j k v (by simpa using e)
    · cases h
theorem pairItems_of {its : List Value} {ps : List (Value × Value)} {Ts : List Addr} (e1 : its = Ts.map Value.ref) (e2 : Ts.length = ps.length) (e5 : ∀ (j : Nat) (k v : Value), ps[j]? = some (k, v) → ∃ T, Ts[j]? = some T ∧ s.heap.IsTuple T #[k, v]) :
    PairItems s.heap its.toArray (fun j => Ts.getD j 0) ps := by
  refine ⟨by subst e1; simp [e2], fun j k v e => ?_⟩
  obtain ⟨T, h1, h2⟩ := e5 j k v e
  subst e1
  have : (fun j => Ts.getD j 0) j = T := by simp [List.getD, h1]
  rw [this]
  exact ⟨by simp [h1], .inl h2⟩
theorem dict_pairsK {E : Value → Shared → Prop} {a : Addr} {its : List Value} {vs : List V} {ds : List D} {pd : List (D × D)} {Q : Value → Shared → Prop} (hc : X.calm = true) (I : Inv X pins σ H s) (rv : Vals vs its) (rd : RelDs X.KW H vs ds) (hz : vs.length ≤ sizeLine)
    (hp : PlainSeq "list" s.heap a its.toArray ∨ PlainSeq "tuple" s.heap a its.toArray) (h : pairsD ds = some pd) (hl : leafAll pd = true)
    (k : ∀ p es s', H p = none → RelKV kD X.KW H es (kvMerge [] pd) → Inv X pins σ (upd H p (.dK es)) s' → Q (.ref p) s') : wpAny (model X.prog X.w) X.A (call (.type "dict") [.ref a]) Q E s := by
  obtain ⟨ps, kv, Ts, e1, e2, e3, e4, e5⟩ := pairs_at I rv rd h
  obtain ⟨es, ek, rk⟩ := relPs_K e4 hl
  subst ek
  obtain ⟨rs, c, rk'⟩ := carries_of (P := X.prog) (w := X.w) e3
  have pi := pairItems_of e1 e2 e5
  have hn : ps.length ≤ sizeLine := by
    have h1 := rv.length
    have h2 : its.length = ps.length := by rw [e1, List.length_map, e2]
    omega
  have have' : PairsHave (mixKind X.prog X.w) ps.length (PairRel ps) rs := by
    refine ⟨c.length, ?_⟩
    clear pi e5 e2 hn e3 rk' rk
    induction ps generalizing rs with
    | nil => intro i key v e; exact absurd (show ([] : List (Value × Value))[i]? = some (key, v) from e) (by simp)
    | cons p ps ih =>
      cases rs with
      | nil => exact c.elim
      | cons q rs =>
        obtain ⟨pk, pv⟩ := p
        obtain ⟨qk, qv⟩ := q
        obtain ⟨c1, c2, c3⟩ := c
        intro i key v e
        cases i with
        | zero =>
          have e : some (pk, pv) = some (key, v) := e
          cases e
          exact ⟨qk, by rw [c2]; rfl, c1⟩
        | succ i => exact ih rs c3 i key v e
  have fin : ∀ h' tk, h'.DictOf (mixKind X.prog X.w) s.heap.objs.size (merged [] rs) → (∀ b o, b ∉ ([] : List Addr) → s.heap.get? b = some o → h'.get? b = some o) → Q (.ref s.heap.objs.size) { s with heap := h', toks := tk } := by
    intro h' tk hd' hk
    have hm : (s.heap.objs.size == sysModules) = false := beq_eq_false_iff_ne.mpr (Nat.ne_of_gt I.big)
    have hlen : (mergeK [] es).length ≤ sizeLine := by
      refine Nat.le_trans (length_mergeK es []) ?_
      have : es.length = rs.length := rk'.length
      have := c.length
      simp only [List.length_nil, Nat.zero_add]
      omega
    exact k _ _ _ (I.hok.fresh (Nat.le_refl _)) (relKV_merge rk .nil) (I.laid (t' := tk) (fun b o e => hk b o (by simp) e) (Nat.le_refl _) (show ObjOk X.prog X.w _ _ _ (.dK (mergeK [] es)) from ⟨hlen, hm, merged [] rs, KV.merge rk' .nil, hd'⟩))
  rcases hp with hp | hp
  · exact PySem.call_dict_pairs (PairArg.list (prog := X.prog) (w := X.w) a its.toArray (fun j => Ts.getD j 0) ps) (I.ok.hd hc) ⟨hp, pi⟩ have' hn fin
  · exact PySem.call_dict_pairs (PairArg.tuple (prog := X.prog) (w := X.w) a its.toArray (fun j => Ts.getD j 0) ps) (I.ok.hd hc) ⟨hp, pi⟩ have' hn fin
theorem relPs_T {K : KW} : ∀ {ps : List (V × V)} {ds : List (D × D)} {vs : List (Value × Value)}, RelPs K H ps ds → VV ps vs → tupAll ds = true →
    ∃ xs : List (List Key × Addr × Value), RelTV K H xs ds ∧ xs.length = vs.length ∧ ∀ (i : Nat) (k v : Value), vs[i]? = some (k, v) → ∃ (kk : List Key) (b : Addr), xs[i]? = some (kk, b, v) ∧ k = Value.ref b
  | _, _, _, .nil, .nil, _ => ⟨[], .nil, rfl, fun i k v e => by simp at e⟩
  | _, _, _, .cons rk rv t, .cons rr tt, h => by
    simp only [tupAll, List.all_cons, Bool.and_eq_true] at h
    obtain ⟨k, ek⟩ := Option.isSome_iff_exists.mp h.1
    obtain ⟨xs, e1, e2, e3⟩ := relPs_T t tt h.2
    have := leafT_eq ek
    subst this
    obtain ⟨b, eb, tb⟩ := rk.kT
    subst eb
    obtain ⟨r1, r2⟩ := rr
    have r1 : _ = Value.ref b := r1
    refine ⟨(k, b, _) :: xs, .cons tb r2 rv e1, by simp [e2], fun i k' v e => ?_⟩
    cases i with
    | zero =>
      simp only [List.getElem?_cons_zero, Option.some.injEq] at e
      subst e
      exact ⟨k, b, rfl, r1⟩
    | succ i => simpa using e3 i k' v (by simpa using e)
theorem relTV_all {K : KW} : ∀ {xs : List (List Key × Addr × Value)} {ds : List (D × D)}, RelTV K H xs ds → ∀ {ys : List (List Key × Addr × Value)} {es : List (D × D)}, RelTV K H ys es → RelTV K H (storedAllH ys xs) (kvMerge es ds)
  | _, _, .nil, _, _, h => h
  | _, _, .cons (k := k) (b := b) (u := u) tb ru rd t, ys, es, h => by
    show RelTV K H (storedAllH (storedH ys k b u) _) (kvMerge (dPut es (kTD k) _) _)
    exact relTV_all t (h.put k tb ru rd)
theorem dict_pairsT {E : Value → Shared → Prop} {a : Addr} {its : List Value} {vs : List V} {ds : List D} {pd : List (D × D)} {Q : Value → Shared → Prop} (hu : X.A.units + 2 < cLine) (hc : X.calm = true) (I : Inv X pins σ H s) (rv : Vals vs its) (rd : RelDs X.KW H vs ds) (hz : vs.length ≤ sizeLine)
    (hp : PlainSeq "list" s.heap a its.toArray ∨ PlainSeq "tuple" s.heap a its.toArray) (h : pairsD ds = some pd) (hl : tupAll pd = true)
    (k : ∀ p xs s', H p = none → RelTV X.KW H xs (kvMerge [] pd) → Inv X pins σ (upd H p (TDn X.KW p xs)) s' → Q (.ref p) s') : wpAny (model X.prog X.w) X.A (call (.type "dict") [.ref a]) Q E s := by
  obtain ⟨ps, kv, Ts, e1, e2, e3, e4, e5⟩ := pairs_at I rv rd h
  obtain ⟨xs, rk, el, ex⟩ := relPs_T e4 e3 hl
  have pi := pairItems_of e1 e2 e5
  have hn : ps.length ≤ sizeLine := by
    have h1 := rv.length
    have h2 : its.length = ps.length := by rw [e1, List.length_map, e2]
    omega
  have have' : PairsHaveH (tupleKind (mixKind X.prog X.w)) ps.length (PairRel ps) xs := ⟨el, ex⟩
  have keys := tdn_keys I rk
  have stay : KeysStay (tupleKind (mixKind X.prog X.w)) s.heap s.heap.objs.size [] xs := by
    intro h' hk x hx
    obtain ⟨o, arr, n, g1, g2, g3, g4⟩ := keys x hx
    exact ⟨o, arr, n, hk _ _ (Nat.ne_of_lt (Heap.lt_size g1)) (by simp) g1, g2, g3, g4⟩
  have fin : ∀ h' tk, h'.DictOfH (tupleKind (mixKind X.prog X.w)) s.heap.objs.size (storedAllH [] xs) → (∀ b o, b ∉ ([] : List Addr) → s.heap.get? b = some o → h'.get? b = some o) → Q (.ref s.heap.objs.size) { s with heap := h', toks := tk } := by
    intro h' tk hd' hk
    have hm : (s.heap.objs.size == sysModules) = false := beq_eq_false_iff_ne.mpr (Nat.ne_of_gt I.big)
    have hlen := storedAllH_length xs []
    obtain ⟨o, es, ep, g1, g2, g3, g4, _, g5⟩ := hd'
    refine k _ _ _ (I.hok.fresh (Nat.le_refl _)) (relTV_all rk .nil) (I.laid (o := TDn X.KW s.heap.objs.size (storedAllH [] xs)) (t' := tk) (fun b o e => hk b o (by simp) e) (Nat.le_refl _) ⟨⟨⟨?_, hm⟩, o, es, ep, g1, g2, g3, g4, g5⟩, ⟨o, g1⟩, fun h1 h2 ⟨z, o, es, ep, q, r⟩ k => ⟨z, o, es, ep, k _ q, r⟩⟩)
    simp only [List.length_nil, Nat.zero_add] at hlen
    omega
  rcases hp with hp | hp
  · exact PySem.call_dict_pairsH (PairArg.list (prog := X.prog) (w := X.w) a its.toArray (fun j => Ts.getD j 0) ps) (I.ok.hd hc) (show _ < _ by show X.A.in1.units + 1 < cLine; simp [Around.in1]; omega) ⟨hp, pi⟩ have' stay hn fin
  · exact PySem.call_dict_pairsH (PairArg.tuple (prog := X.prog) (w := X.w) a its.toArray (fun j => Ts.getD j 0) ps) (I.ok.hd hc) (show _ < _ by show X.A.in1.units + 1 < cLine; simp [Around.in1]; omega) ⟨hp, pi⟩ have' stay hn fin
def wDict : List D → Sto → KD → Prop := fun xs S Q => match xs with
  | [] => ∀ p, S p = none → Q (.ref p) (put S p (.dct []))
  | [d] => match seqOf S d with
    | some ds => onS (pairsD ds) fun ps => (leafAll ps || tupAll ps) = true ∧ ∀ p, S p = none → Q (.ref p) (put S p (.dct (kvMerge [] ps)))
    | none => match d with
      | .ref a => match S a with
        | some (.dct kvs) => kvs ≠ [] ∧ leafAll kvs = true ∧ ∀ p, S p = none → Q (.ref p) (put S p (.dct kvs))
        | _ => False
      | _ => False
  | _ => False
theorem dcall_dict (hu : X.A.units + 2 < cLine) (hc : X.calm = true) : DCall X (.type "dict") wDict := by
  intro pins s σ H xs us ds S Q I rv hr rd q
  unfold wDict at q
  split at q
  · cases rd; cases rv
    have n := I.hok.fresh (Nat.le_refl s.heap.objs.size)
    exact FK.call_dict0 ⟨.ref s.heap.objs.size, _, I.laid (a := s.heap.objs.size) (o := .dK []) (t' := s.toks) (fun _ _ q => Heap.get?_push_of_some _ q) (Nat.le_refl _) (dk_empty s.heap I.big), rfl, .of (.new n) (hr.dct0 n) (.ref _) (q _ (hr.free n))⟩
  · rename_i d
    obtain ⟨v, rfl, r⟩ := rd.one
    cases rv with
    | cons rv t =>
    cases t
    split at q
    · rename_i ds e
      obtain ⟨pd, ep, q1, q2⟩ := onS.out q
      obtain ⟨a, its, vs, rfl, rfl, z1, z2, z3, z4⟩ := seq_at I hr rv r e
      by_cases hl : leafAll pd = true
      · exact dict_pairsK hc I z1 z2 z3 z4 ep hl fun p es s' n rk I' => ⟨.ref p, _, I', rfl, .of (.new n) (hr.newO (ao := .dct _) n (.inl ⟨es, upd_same, rk.ev (.new n)⟩)) (.ref p) (q2 p (hr.free n))⟩
      · have ht : tupAll pd = true := by simpa [hl] using q1
        exact dict_pairsT hu hc I z1 z2 z3 z4 ep ht fun p es s' n rk I' => ⟨.ref p, _, I', rfl, .of (.new n) (hr.newO (ao := .dct _) n (.inr ⟨es, upd_same, rk.ev (.new n)⟩)) (.ref p) (q2 p (hr.free n))⟩
    · split at q
      · rename_i a _
        cases r
        cases rv
        split at q
        · rename_i kvs e
          obtain ⟨q1, q2, q3⟩ := q
          rcases hr a _ e with ⟨es, h1, rk⟩ | ⟨es, h1, rk⟩
          · exact d_copyOf I (.inl h1) fun p s' n I' => ⟨.ref p, _, I', rfl, .of (.new n) (hr.newO (ao := .dct _) n (.inl ⟨es, upd_same, rk.ev (.new n)⟩)) (.ref p) (q3 p (hr.free n))⟩
          · cases rk with
            | nil => exact absurd rfl q1
            | cons _ _ _ _ => simp [leafAll, leafK_kTD] at q2
        · exact q.elim
      · exact q.elim
  · exact q.elim
end
end DL
namespace DL
open PySem PySem.Spec PyProof.Rows L2
def EntAt (K : KW) (H : Hp) (es : Array DictEntry) (kvs : List (D × D)) : Prop :=
  es.size = kvs.length ∧ ∀ (i : Nat) (en : DictEntry) (kd vd : D), es[i]? = some en → kvs[i]? = some (kd, vd) → (∃ k, RelV k en.key ∧ RelD K H k kd) ∧ ∃ v, RelV v en.val ∧ RelD K H v vd
section
variable {X : Cx} {pins : List (Addr × Obj)} {σ : L2.St} {H : Hp} {s : Shared}
theorem relKV_get {κ : Type} {f : κ → D} {K : KW} : ∀ {es : List (κ × V)} {kvs : List (D × D)}, RelKV f K H es kvs → ∀ {i : Nat} {kd vd : D}, kvs[i]? = some (kd, vd) → ∃ k v, es[i]? = some (k, v) ∧ kd = f k ∧ (∀ x, f k = .str x → PyData.strOk x = true) ∧ RelD K H v vd
  | _, _, .nil, i, kd, vd, e => by simp at e
  | _, _, .cons hk r t, 0, kd, vd, e => by
    simp only [List.getElem?_cons_zero, Option.some.injEq, Prod.mk.injEq] at e
    obtain ⟨rfl, rfl⟩ := e
    exact ⟨_, _, rfl, rfl, hk, r⟩
  | _, _, .cons hk r t, i + 1, kd, vd, e => by
    obtain ⟨k, v, h⟩ := relKV_get t (i := i) (by simpa using e)
    exact ⟨k, v, by simpa using h⟩
theorem relTV_get {K : KW} : ∀ {xs : List (List Key × Addr × Value)} {kvs : List (D × D)}, RelTV K H xs kvs → ∀ {i : Nat} {kd vd : D}, kvs[i]? = some (kd, vd) → ∃ k b u v, xs[i]? = some (k, b, u) ∧ kd = kTD k ∧ KeyT K H b k ∧ RelV v u ∧ RelD K H v vd
  | _, _, .nil, i, kd, vd, e => by simp at e
  | _, _, .cons tb ru r t, 0, kd, vd, e => by
    simp only [List.getElem?_cons_zero, Option.some.injEq, Prod.mk.injEq] at e
    obtain ⟨rfl, rfl⟩ := e
    exact ⟨_, _, _, _, rfl, rfl, tb, ru, r⟩
  | _, _, .cons tb ru r t, i + 1, kd, vd, e => by
    obtain ⟨k, b, u, v, h⟩ := relTV_get t (i := i) (by simpa using e)
    exact ⟨k, b, u, v, by simpa using h⟩
theorem fdc_at {S : Sto} {a : Addr} {o : Obj} {kvs : List (D × D)} (I : Inv X pins σ H s) (hr : HR X.KW H S) (e : S a = some (.fdc o kvs)) :
    (a == sysModules) = false ∧ s.heap.get? a = some o ∧ o.ExactDict ∧ ∃ es ep, o.data = .dict es ep ∧ EntAt X.KW H es kvs := by
  rcases hr a _ e with ⟨ks, h1, rk⟩ | ⟨xs, h1, rk⟩
  · obtain ⟨z, hd, vs, kv, o', es, ep, ho, hx, hdt, hk, hp, hn⟩ := dk_rd I.hok (.inr ⟨_, h1⟩)
    have hg : s.heap.get? a = some o := (show ObjOk X.prog X.w H s.heap a (.frz o (.dK ks)) from I.hok a _ h1).1
    rw [hg] at ho; cases ho
    have hsz : es.size = kvs.length := by
      have l1 := hp.length
      have l2 : ks.length = vs.length := Paired.length kv
      have l3 := rk.length
      rw [Array.length_toList] at l1
      omega
    refine ⟨hd, hg, hx, es, ep, hdt, hsz, fun i en kd vd e1 e2 => ?_⟩
    obtain ⟨k, v, q1, rfl, hs, q3⟩ := relKV_get rk e2
    obtain ⟨u, q4, q5⟩ := kv_get kv q1
    obtain ⟨q6, q7⟩ := hp.get? (e := en) (by simpa using e1) q4
    refine ⟨⟨L2.kV k, relV_key q6, ?_⟩, v, by rw [q7]; exact q5, q3⟩
    cases k with
    | inl i => exact .int i
    | inr x => exact .str x (hs x rfl)
  · obtain ⟨z, hd, o', es, ep, ho, hx, hdt, hes, _, _⟩ := tdn_rd I (.inr ⟨_, h1⟩) rk
    have hg : s.heap.get? a = some o := (show ObjOk X.prog X.w H s.heap a (.frz o (TDn X.KW a xs)) from I.hok a _ h1).1
    rw [hg] at ho; cases ho
    refine ⟨hd, hg, hx, es, ep, hdt, by rw [size_of_entries hes, rk.length], fun i en kd vd e1 e2 => ?_⟩
    obtain ⟨k, b, u, v, q1, rfl, q3, q4, q5⟩ := relTV_get rk e2
    have q := entry_at hes i
    rw [e1, q1] at q
    have q' := Option.some.inj q
    exact ⟨⟨.ref b, by rw [q']; rfl, .tup q3.1 q3.2⟩, v, by rw [q']; exact q4, q5⟩
theorem fdc_raw {S : Sto} {a : Addr} {o : Obj} {kvs : List (D × D)} {es : Array DictEntry} {ep : Nat} (hod : o.data = .dict es ep) (I : Inv X pins σ H s) (hr : HR X.KW H S) (e : S a = some (.fdc o kvs)) :
    s.heap.DictRaw a es ep ∧ EntAt X.KW H es kvs := by
  obtain ⟨_, hg, hx, es', ep', hdt, ea⟩ := fdc_at I hr e
  obtain ⟨rfl, rfl⟩ := dict_ep hod hdt
  exact ⟨⟨o, hg, hx, hdt⟩, ea⟩
theorem turnD_keys {P : Program} {w : World} {K : KW} {tg : Expr} {H0 : Hp} {kvs : List (D × D)} {d it : Addr} {o : Obj} {es : Array DictEntry} {ep : Nat} (hod : o.data = .dict es ep) (hsz : es.size = kvs.length) (hK : K.P = P ∧ K.w = w) :
    Turn P w K.fr tg (ItD K H0 (kvs.map (·.1)) fun S' => S' d = some (.fdc o kvs)) [it] it (fun i h => h.IsKeyIter it d i kvs.length ep) where
  mem := by simp
  obj := fun i h st b hb => by
    obtain rfl : b = it := by simpa using hb
    obtain ⟨oi, e, c, dd⟩ := st
    exact ⟨oi, e, fun v z => by rw [dd] at z; cases z⟩
  keep := fun i h h' st k => st.at fun oi e => k it (by simp) oi e
  item := by
    intro X hP hw hKK hc i pins s σ H E I hf st hg
    obtain ⟨Kf, KP, Kw⟩ := K
    change X.K = Kf at hKK
    obtain ⟨hP', hw'⟩ := hK
    change KP = P at hP'
    change Kw = w at hw'
    subst hP hw hKK hP' hw'
    obtain ⟨ev, ⟨S, hr, hs⟩, hi⟩ := hg
    rw [List.length_map] at hi
    obtain ⟨f0, f1, f2, f3, f4, f5⟩ := hf it (by simp)
    obtain ⟨raw, ea⟩ := fdc_raw hod I hr hs
    rw [← hsz] at st hi
    have hi2 : i < kvs.length := by rw [← hsz]; exact hi
    refine wpAny_pyNext_keys_item_raw st raw hi fun h' st' sb => ?_
    have I1 : Inv X pins σ H { s with heap := h' } := I.turned (t' := s.toks) (fun b ob hb e => (sb.2 b hb).trans e) f0 f1 f3 f4 f5
    obtain ⟨oi, e, c, dd⟩ := id st'
    obtain ⟨⟨k, rk, dk⟩, _⟩ := ea.2 i es[i] (kvs[i]).1 (kvs[i]).2 (Array.getElem?_eq_getElem hi) (List.getElem?_eq_getElem hi2)
    refine ⟨_, rfl, go_of (s := { s with heap := h' }) e c dd (by decide) ⟨k, H, I1, rk, ⟨.refl _, fun _ z => z, (kvs[i]).1, by simp [hi2], dk⟩, ?_, fun b hb => (hf b hb).1⟩⟩
    rw [← hsz]; exact st'
  done := by
    intro X hP hw hKK hc i pins s σ H E I hf st hg
    obtain ⟨Kf, KP, Kw⟩ := K
    change X.K = Kf at hKK
    obtain ⟨hP', hw'⟩ := hK
    change KP = P at hP'
    change Kw = w at hw'
    subst hP hw hKK hP' hw'
    obtain ⟨ev, ⟨S, hr, hs⟩, hi⟩ := hg
    rw [List.length_map] at hi
    obtain ⟨f0, f1, f2, f3, f4, f5⟩ := hf it (by simp)
    obtain ⟨raw, ea⟩ := fdc_raw hod I hr hs
    rw [← hsz] at st
    exact wpAny_pyNext_keys_end_raw (I.ok.hd hc) st raw (by omega) fun h' eb => ⟨rfl, I.turned (t' := s.toks) (fun b ob hb e => eb b ob hb e) f0 f1 f3 f4 f5⟩
  self := fun A i s Q E st h => by
    refine wpAny_pyIter_slot st.typeIs F.slot_dict_keyiterator_iter (wpAny_call_entry F.slot_dict_keyiterator_iter st.typeIs F.entry_dict_keyiterator_iter ?_ (F.args_dict_keyiterator_iter_1 _))
    show wpAny _ _ (ret (.ref it)) _ _ s
    exact wpAny_pure ⟨_, rfl, "dict_keyiterator", _, st.typeIs, F.slot_dict_keyiterator_next.lookup, h⟩
def fdcOf (S : Sto) : D → Option (Addr × Obj × List (D × D))
  | .ref a => match S a with | some (.fdc o kvs) => some (a, o, kvs) | _ => none
  | _ => none
def wIterA : WIt := fun d S R => match fdcOf S d with
  | some (a, o, kvs) => R (kvs.map (·.1)) (fun S' => S' a = some (.fdc o kvs)) S
  | none => wIter d S R
theorem fdcOf_eq {S : Sto} {d : D} {a : Addr} {o : Obj} {kvs : List (D × D)} (h : fdcOf S d = some (a, o, kvs)) : d = .ref a ∧ S a = some (.fdc o kvs) := by
  unfold fdcOf at h
  split at h
  · split at h
    · cases h; exact ⟨rfl, by assumption⟩
    · cases h
  · cases h
variable {tg : Expr}
theorem di_any {e : Expr} {te : DTE} (he : DE X e te) : DI X tg e (diVal te wIterA) := ⟨⟨fun pins s σ H R I ⟨τ, S, Rd, st, hr, q, k⟩ =>
  thn (he.run pins s σ H τ S _ I st hr q) fun u s1 ⟨v, H1, I1, rv, e1, d, S1, hr1, rd, q1⟩ => by
    unfold wIterA at q1
    simp only at q1
    split at q1
    · rename_i a o kvs ef
      obtain ⟨rfl, eS⟩ := fdcOf_eq ef
      cases rd; cases rv
      obtain ⟨hs, hg, hx, es, ep, hdt, ea⟩ := fdc_at I1 hr1 eS
      refine iter_keys hs hg hx hdt (pie_of e1 hr1 (itP_one (tk := s1.toks) I1 _ (turnD_keys (K := X.KW) hdt ea.1 ⟨rfl, rfl⟩) ⟨_, Heap.get?_push_size _ rfl, rfl, ?_⟩) q1 k)
      rw [ea.1] <;> rfl
    · exact wpAny_mono (iter_seq I1 rv rd hr1 q1) (fun itv s2 ⟨ds, stab, h, rr⟩ => pie_of e1 hr1 h rr k) fun _ _ z => z⟩⟩
end
end DL
namespace DL
open PySem PySem.Spec PyProof.Rows L2
theorem relDs_ints (K : KW) (H : Hp) (ns : List Int) : RelDs K H (ns.map V.int) (ns.map D.int) := .ints ns
structure Start (K : PySem.W.Frag) (s : Shared) (a : Addr) (ns : List Int) (H : Hp) : Prop where
  one : ∀ b, H b ≠ none → b = a ∧ ∃ o, H b = some (.frz o (.lst (ns.map V.int)))
  out : H a ≠ none → K.lookup a = none
theorem start_env {P : Program} {w : World} {K : PySem.W.Frag} {mg mb : Str → Option Value} {a : Addr} {s : Shared} {vs : List Value} {ns : List Int} {H : Hp} (KX : K.In s.heap) (hns : s.heap.Ns mainGlobals mg) (hb : s.heap.Ns builtinsNs mb) (hbb : ∀ x : Str, x ≠ "__name__" → mb x = bootBuiltins x)
    (hlim : s.heap.NoLimit) (hg : s.gens = #[]) (ha : s.heap.get? a = some { cls := .type "list", data := .seq vs.toArray }) (St : Start K s a ns H) (hok : HOk P w H s.heap) : Env0 P w K mg (hidT s.heap H) callerA [] s H ∧ K.In (hidT s.heap H) ∧ (hidT s.heap H).Ns mainGlobals mg := by
  have free : ∀ {b : Addr} {o : Obj}, s.heap.get? b = some o → (∀ xs n, o.data = .seq xs n → False) → H b = none := fun {b o} e d => by
    cases q : H b with
    | none => rfl
    | some u =>
      obtain ⟨rfl, _⟩ := St.one b (by rw [q]; simp)
      rw [ha] at e; cases e
      exact (d _ _ rfl).elim
  have ns_in : ∀ {b : Addr} {m : Str → Option Value}, s.heap.Ns b m → (hidT s.heap H).Ns b m := fun ⟨o, es, ep, e, d, r⟩ => ⟨o, es, ep, hidT_get e (free e fun xs n z => by rw [d] at z; cases z), d, r⟩
  have k_in : K.In (hidT s.heap H) := fun b o e => hidT_get (KX b o e) (by
    cases q : H b with
    | none => rfl
    | some u =>
      obtain ⟨rfl, _⟩ := St.one b (by rw [q]; simp)
      rw [St.out (by rw [q]; simp)] at e; cases e)
  obtain ⟨mc, l1, l2⟩ := hlim
  exact ⟨⟨rfl, ⟨k_in, ns_in hns, ⟨mb, ns_in hb, hbb⟩, mc, ns_in l1, l2⟩, fun b o e => of_hidT e, Nat.le_of_eq (hidT_size _ _), trivial, fun b hb => (nomatch hb), hok, .of_eq hg⟩, k_in, ns_in hns⟩
theorem call_ends {P : Program} {w : World} {K : PySem.W.Frag} {a : Addr} {s s' : Shared} {ns : List Int} {H : Hp} {r : Result} (St : Start K s a ns H) (hok : HOk P w H s.heap)
    (h : CR (CX P w) [] P w H s (Up ⟨K, P, w⟩ H fun d _ => d = .bl true) (UpX ⟨K, P, w⟩ H noX) r s') : r = .ok (.ret (.bool true)) ∧ OldK s.heap s'.heap ∧ s'.os = s.os ∧ AllBare s'.gens := by
  cases r with
  | error e =>
    obtain ⟨_, _, _, _, _, _, _, _, _, _, _, _, _, _, _, _, _, z⟩ := (show CX P w [] H s (UpX ⟨K, P, w⟩ H noX) e s' from h)
    exact z.elim
  | ok fl =>
    cases fl with
    | next => exact h.elim
    | brk => exact h.elim
    | cont => exact h.elim
    | ret u =>
      obtain ⟨v, H', os, bare, un, hok', rv, _, d, S', _, rd, q⟩ := h
      subst q
      cases rd
      cases rv
      refine ⟨rfl, OldK.of_keep fun b o e => ?_, os, bare⟩
      by_cases n : H b = none
      · exact un.keep b o e n (fun z => nomatch z) (fun z => nomatch z)
      · obtain ⟨_, ob, z⟩ := St.one b n
        have e1 := (show ObjOk P w H s.heap b (.frz ob (.lst (ns.map V.int))) from hok b _ z).1
        have e2 := (show ObjOk P w H' s'.heap b (.frz ob (.lst (ns.map V.int))) from hok' b _ (un.frzs b ob _ z)).1
        rw [e] at e1; cases e1
        exact e2
theorem entry {P : Program} {w : World} {K : PySem.W.Frag} {mg mb : Str → Option Value} {k : Nat} {fa a : Addr} {fd : FuncData} {x : Str} {sp : DSp} {s : Shared} {vs : List Value} {ns : List Int}
    (KX : K.In s.heap) (hns : s.heap.Ns mainGlobals mg) (hb : s.heap.Ns builtinsNs mb) (hbb : ∀ x : Str, x ≠ "__name__" → mb x = bootBuiltins x) (hlim : s.heap.NoLimit) (hg : s.gens = #[])
    (ha : s.heap.get? a = some { cls := .type "list", data := .seq vs.toArray }) (hi : IntsAre vs ns) (hl : ns.length ≤ sizeLine) (hr : Room k callerA)
    (F : ∀ base : Heap, K.In base → base.Ns mainGlobals mg → FnD P w K mg base k fa fd [x] sp) (hbind : ∀ (s : Shared) (u : Value), BindsTo s fd ⟨[u], []⟩ [(x, u)])
    (hsp : sp [.fz (ns.map D.int)] (fun _ => none) (fun d _ => d = .bl true) noX) :
    codeAny (model P w) callerA (.call (.ref fa) ⟨[.ref a], []⟩) (fun r s' => r = .ok (.ret (.bool true)) ∧ OldK s.heap s'.heap ∧ s'.os = s.os ∧ AllBare s'.gens) s := by
  have rv := vals_ints hi
  have go : ∀ H : Hp, Start K s a ns H → FzAt ⟨K, P, w⟩ H a (ns.map V.int) → HOk P w H s.heap → codeAny (model P w) callerA (.call (.ref fa) ⟨[.ref a], []⟩) (fun r s' => r = .ok (.ret (.bool true)) ∧ OldK s.heap s'.heap ∧ s'.os = s.os ∧ AllBare s'.gens) s := by
    intro H St hz hok
    obtain ⟨e0, b1, b2⟩ := start_env KX hns hb hbb hlim hg ha St hok
    exact codeAny_mono ((F _ b1 b2).run callerA [] s H ⟨[.ref a], []⟩ [.ref a] [.ref a] _ _ _ _ hr rfl e0 (hbind s (.ref a)) (.cons rfl .nil) (.cons (.fz hz (relDs_ints _ _ ns)) .nil) (fun b o e => absurd (show (none : Option AO) = some o from e) (by simp)) hsp) fun r s' h => call_ends St hok h
  cases hk : K.lookup a with
  | some o =>
    have e := KX a o hk
    rw [ha] at e
    cases e
    refine go (fun _ => none) ⟨fun b z => absurd rfl z, fun z => absurd rfl z⟩ (.inr ⟨_, vs.toArray, _, hk, rfl, rfl, rfl, ?_, by simpa using rv⟩) fun b u z => by cases z
    rw [List.size_toArray, hi.length]; exact hl
  | none =>
    refine go (upd (fun _ => none) a (.frz { cls := .type "list", data := .seq vs.toArray } (.lst (ns.map V.int)))) ⟨fun b z => ?_, fun _ => hk⟩ (.inl ⟨_, upd_same⟩) fun b u z => ?_
    · by_cases e : b = a
      · subst e; exact ⟨rfl, _, upd_same⟩
      · rw [upd_ne e] at z; exact absurd rfl z
    · by_cases e : b = a
      · subst e; rw [upd_same] at z; cases z
        exact ⟨ha, by rw [List.length_map]; exact hl, vs, _, rv, ha⟩
      · rw [upd_ne e] at z; cases z
theorem walk_law {l : PySem.W.OpenLaw} {n k : Nat} {q : Program} {loose : List Str} {XP : (Str → Option Value) → Heap → Prop} {YP : World → Heap → Prop} {d : DefRec} {K : Params → PySem.W.Frag} {sp : DSp} {x : Str}
    (hn : l.most = some n) (hn2 : n ≤ sizeLine) (hdf : d.params.defaults = []) (hr : Room k callerA)
    (hY : ∀ (w : World) (h : Heap), YP w h → (K w.params).In h)
    (F : ∀ (w : World) (mg : Str → Option Value) (fa : Addr) (h : Heap), (K w.params).In h → h.Ns mainGlobals mg → mg d.name = some (.ref fa) →
      ∃ fd : FuncData, (∀ (s : Shared) (u : Value), BindsTo s fd ⟨[u], []⟩ [(x, u)]) ∧
        ∀ base : Heap, (K w.params).In base → base.Ns mainGlobals mg → FnD l.prog w (K w.params) mg base k fa fd [x] sp)
    (hsp : ∀ ns : List Int, ns.length ≤ n → sp [.fz (ns.map D.int)] (fun _ => none) (fun d _ => d = .bl true) noX) :
    PySem.W.WalkO q loose XP YP l.row.toRowW d [] (fun f vs => PySem.call f vs) := by
  refine Att.attach_call hn hdf fun w s₀ s₁ mg mb fa o pm cd doc a vs ns G Y ho hd hcd hmg hobj hints hlen hg => ?_
  have KX := hY w _ Y
  obtain ⟨fd, hb, hF⟩ := F w mg fa _ KX G.T.g hmg
  exact entry KX G.T.g G.T.b G.T.builtins G.T.nolimit hg hobj hints (Nat.le_trans hlen hn2) hr hF hb (hsp ns hlen)
end DL
namespace DL
open PySem PySem.Spec PyProof.Rows L2
structure CalD (P : Program) (w : World) (K : PySem.W.Frag) (mg : Str → Option Value) (base : Heap) (k : Nat) (x : Str) (sp : DSp) (dds : List D) : Prop where
  ex : ∃ (f : Addr) (fd : FuncData) (ps : List Str) (dfl : List Value), FnD P w K mg base k f fd ps sp ∧ mg x = some (.ref f) ∧ PySem.W.keepIn K (.ref f) = true ∧ Binds K fd ps dfl ∧ Dfl P w K dds dfl
section
variable {P : Program} {w : World} {K : PySem.W.Frag} {mg : Str → Option Value} {base : Heap}
theorem CalD.of {x : Str} {st : Stmt} {f : Addr} {fd : FuncData} {N ps : List Str} {k : Nat} {sp : DSp} (F : Fun K x x st f fd) (S : FnScope N ps (defScope st)) (hm : mg x = some (.ref f)) (hb : Binds K fd ps []) (len : ∀ ds S Q E, sp ds S Q E → ds.length = ps.length)
    (hbody : ∀ (cdv : Value) (A : Around) (outer : List Env) (s : Shared) (H : Hp) (ds : List D) (So : Sto) (Q : KD) (E : KX), Room k (A.deeper (envOfC x (defScope st) s.heap.objs.size f cdv)) → (A.deeper (envOfC x (defScope st) s.heap.objs.size f cdv)).guards = some [] → sp ds So Q E →
      ∃ t, DSs (cxOf (CX P w) P w K mg base N x (defScope st) f cdv A outer s H (UpX ⟨K, P, w⟩ H E)).nox (defBody st) t ∧ t (bodyEnds Q) (startD N ds) So) : CalD P w K mg base (k + 1) x sp [] :=
  ⟨f, fd, ps, [], FnD.of F S len (fun cdv A outer s H ds So Q E hr hg hs => let ⟨t, a, b⟩ := hbody cdv A outer s H ds So Q E hr hg hs; ⟨t, a.nox, b⟩), hm, F.kp, hb, .nil⟩
theorem CalD.mono {x : Str} {j k : Nat} {sp : DSp} {dds : List D} (C : CalD P w K mg base j x sp dds) (h : j ≤ k) : CalD P w K mg base k x sp dds :=
  let ⟨f, fd, ps, dfl, a, b⟩ := C.ex; ⟨f, fd, ps, dfl, a.mono h, b⟩
end
theorem room_u {k : Nat} {A : Around} (r : Room k A) : A.units + 100 < cLine := by have := r.un; omega
section
variable {X : Cx} {x : Str} {k : Nat} {sp : DSp} {dds : List D} {p pos : Pos} {e : Expr} {es : List Expr} {tr : DTA}
theorem de_cal (C : CalD X.prog X.w X.K X.mg X.base k x sp dds) (hr : Room k X.A) (hgd : X.A.guards = some []) (hg : Gl X x) (ha : DAr X (e :: es) tr) (hdb : (x == ("__debug__" : Str)) = false := by decide)
    (he : starEach (e :: es) X.env = (false, eval e X.env) :: starEach es X.env := by rfl) (hpl : (backTo pos (starEach es X.env)).any (·.1) = false := by rfl) :
    DE X (.Call (.Name x p) (e :: es) [] pos) (dCall sp dds tr) := by
  obtain ⟨f, fd, ps, dfl, F, hm, hk, hb, hd⟩ := C.ex
  exact de_call F hr hgd hg hm hk hb hd ha hdb he hpl
end
theorem sw_comp {e : Expr} {scope : Scope} {py : Pos} {y : Str} {l : Nat} {env : Env} (he : (∃ a b p, e = .ListComp a b scope p) ∨ ∃ a c b p, e = .DictComp a c b scope p) (hk : env.scope.kind = .function) (hy : env.scope.names.lookup y = some .local) (hl : (py.line == e.pos.line) = true)
    (ha : (scope.names.any fun (n, k) => n == y && (k == .local || k == .cell)) = false) : swapsWith e (some (.Name y py)) l env = pure true := by
  have ky : env.kindOf y = some .local := hy
  have hb : env.blockKind = .function := by unfold Env.blockKind; rw [hk]; rfl
  rcases he with ⟨a, b, p, rfl⟩ | ⟨a, c, b, p, rfl⟩ <;>
    (unfold swapsWith
     simp only [hb, ky, ha, hl]
     rfl)
def dPar3 (i j l : Nat) (ta : DTA) : DTS := fun Dn τ S => ta τ S fun ds S1 => match ds with | [x, y, z] => Dn.nx (((τ.set i (some x)).set j (some y)).set l (some z)) S1 | _ => False
theorem ds_par3 {X : Cx} {i j l : Nat} {x y z : Str} {a b c : Expr} {ta : DTA} {px py pz pt pos : Pos} {kt k2 pt2} (hc : X.calm = true) (hN : X.N.Nodup) (hi : X.N[i]? = some x) (hj : X.N[j]? = some y) (hl : X.N[l]? = some z) (hij : i ≠ j) (hil : i ≠ l) (hjl : j ≠ l)
    (hx : X.env.scope.names.lookup x = some .local) (hy : X.env.scope.names.lookup y = some .local) (hz : X.env.scope.names.lookup z = some .local) (ha : DAr X [a, b, c] ta)
    (hw : swappedStores [.Tuple [.Name x px, .Name y py, .Name z pz] kt pt] (.Tuple [a, b, c] k2 pt2) X.env = pure (some [x, y, z]))
    (hs : swapsWithSole [.Tuple [.Name x px, .Name y py, .Name z pz] kt pt] (.Tuple [a, b, c] k2 pt2) pos.line X.env = pure false := by rfl) :
    DSm X (.Assign [.Tuple [.Name x px, .Name y py, .Name z pz] kt pt] (.Tuple [a, b, c] k2 pt2) pos) (dPar3 i j l ta) := .up (ps_par3 hc hN hi hj hl hij hil hjl hx hy hz ha.lo hw hs) fun σ H τ S Dn st hr q =>
  ⟨τ, S, _, st, hr, q, fun vs H1 ⟨e, ds, S1, hr1, r1, q1⟩ => by
    cases r1 with
    | nil => exact q1.elim
    | cons r t => cases t with
      | nil => exact q1.elim
      | cons r' t' => cases t' with
        | nil => exact q1.elim
        | cons r2 t2 => cases t2 with
          | nil => exact ⟨_, _, _, rfl, e, _, S1, hr1, ((((st.ev e).set r i).set r' j).set r2 l), q1⟩
          | cons _ _ => exact q1.elim⟩
end DL
namespace DL
open PySem PySem.Spec PyProof.Rows L2
def setNew (w : World) : Obj := { cls := .type "set", dict := none, data := .set #[] 0 (.fresh 0 0 (!w.params.followText "set-order")) }
def litNew (l : Addr) : Obj := { cls := .type "list_iterator", data := .fields #[.ref l, .int 0 0] }
section
variable {P : Program} {w : World} {A : Around} {E : Value → Shared → Prop} {s : Shared}
abbrev FilledBy (w : World) (s : Shared) (ns : List Int) (s₂ : Shared) : Prop := ∃ h' tk c, s₂ = { s with heap := h', toks := tk } ∧ SetR w h' s.heap.objs.size (fun j => decide (j ∈ ns)) c ∧ c ≤ ns.length ∧ ∀ b o, s.heap.get? b = some o → h'.get? b = some o
set_option maxRecDepth 100000 in
set_option maxHeartbeats 3200000 in
theorem set_init_list {l : Addr} {items : Array Value} (ns : List Int) (hh : A.handled = none) (hl : s.heap.IsList l items) (hit : IntsAre items.toList ns) (hb : ns.length + 1 < scanBound) :
    codeAny (model P w) A (.call (.builtin "set.__init__") ⟨[.ref s.heap.objs.size, .ref l], []⟩) (wants (fun r s₂ => r = .none ∧ FilledBy w s ns s₂) E) { s with heap := s.heap.push (setNew w) } := by
  have hisz : items.size = ns.length := by
    have q := IntsAre.length hit
    simpa using q
  have hS : (s.heap.push (setNew w)).get? s.heap.objs.size = some (setNew w) := Heap.get?_push_size _ rfl
  have hT : Shared.TypeIs { s with heap := s.heap.push (setNew w) } (.ref s.heap.objs.size) "set" := ⟨_, hS, rfl⟩
  have hz : (s.heap.push (setNew w)).objs.size = s.heap.objs.size + 1 := Heap.size_push ..
  refine codeAny_call_builtin F.called_set.init.plain F.entry_set_init (check_set_init_1 hT ?_)
  obtain ⟨⟨ocls, odict, odata, oslots⟩, hol, hcl, nl, hdl⟩ := hl
  simp only at hcl hdl
  subst hcl; subst hdl
  have hol' : (s.heap.push (setNew w)).get? l = some { cls := .type "list", dict := odict, data := .seq items nl, slots := oslots } := Heap.get?_push_of_some _ hol
  have hsls := F.sub_list_set
  have hslf := F.sub_list_frozenset
  have hne : (Value.type "list" == Value.type "dict") = false := by decide
  have hl1 : (s.heap.push (setNew w)).IsList l items := ⟨_, hol', rfl, nl, rfl⟩
  have hlS : l < s.heap.objs.size := Heap.lt_size hol
  have hneI : l ≠ (s.heap.push (setNew w)).objs.size := by rw [hz]; exact Nat.ne_of_lt (Nat.lt_succ_of_lt hlS)
  unfold Builtin.«set.__init__» noKeywords Builtin.Frozenset.updateFrom
  generalize hPI : pyIter = PI
  wp_walk
  subst hPI
  refine wpAny_pyIter_list hl1 (wpAny_bind (wpAny_runValue ?_))
  have hh3 : A.in1.in1.handled = none := by simp [hh]
  have hSf : s.heap.objs.size ∉ [(s.heap.push (setNew w)).objs.size, l] := by
    simp only [hz, List.mem_cons, List.not_mem_nil, or_false, not_or]
    exact ⟨Nat.ne_of_lt (Nat.lt_succ_self _), Nat.ne_of_gt hlS⟩
  have hval : ∀ (i : Nat) (v : Value), items[i]? = some v → ∃ k t, ns[i]? = some k ∧ v = .int k t := fun i v hv => by
    have hi : i < ns.length := by rw [← hisz]; exact (Array.getElem?_eq_some_iff.mp hv).1
    obtain ⟨t, e⟩ := PyProof.Rows.IntsAre.int_at hit i v (by simpa using hv)
    refine ⟨ns[i], t, List.getElem?_eq_getElem hi, ?_⟩
    rw [e, List.getD_eq_getElem?_getD, List.getElem?_eq_getElem hi] <;> rfl
  have hget : ((s.heap.push (setNew w)).push (litNew l)).get? s.heap.objs.size = some (setNew w) := Heap.get?_push_of_some _ hS
  refine set_update_ints ((Walks.list hh3 _ l hneI items).toS) s.heap.objs.size hSf ns hisz hb hval (items.size - 0) 0 { s with heap := (s.heap.push (setNew w)).push (litNew l) } (by omega) (Nat.zero_le _) ⟨⟨_, Heap.get?_push_size _ rfl, rfl, rfl⟩, hl1.push _⟩ ?hS0 ?hR
  case hS0 => exact ⟨0, Nat.le_refl 0, setR_new_at hget⟩
  case hR =>
  intro s' c' hm hc' hS'
  obtain ⟨h', g2, d', tk', os'⟩ := s'
  cases (show g2 = s.gens from hm.gens)
  cases (show d' = s.drawn from hm.drawn)
  cases (show os' = s.os from hm.os)
  show wpAny _ _ _ _ _ _
  refine wpAny_pure ?_
  show wpAny _ _ (ret Value.none) _ _ _
  rw [hisz] at hc'
  refine wpAny_pure ⟨rfl, h', tk', c', rfl, hS', hc', fun b o e => hm.heap b o ?_ (Heap.get?_push_of_some _ (Heap.get?_push_of_some _ e))⟩
  have hb0 : b < s.heap.objs.size := Heap.lt_size e
  simp only [List.mem_cons, List.not_mem_nil, or_false, not_or]
  refine ⟨Nat.ne_of_lt hb0, Nat.ne_of_lt ?_⟩
  show b < (s.heap.push (setNew w)).objs.size
  rw [hz]; exact Nat.lt_succ_of_lt hb0
set_option maxRecDepth 100000 in
set_option maxHeartbeats 3200000 in
theorem set_of_list {l : Addr} {items : Array Value} (ns : List Int) {Q : Value → Shared → Prop} (hh : A.handled = none) (hl : s.heap.IsList l items) (hit : IntsAre items.toList ns) (hb : ns.length + 1 < scanBound)
    (h : ∀ (h' : Heap) (tk c : Nat), SetR w h' s.heap.objs.size (fun j => decide (j ∈ ns)) c → c ≤ ns.length → (∀ b o, s.heap.get? b = some o → h'.get? b = some o) → Q (.ref s.heap.objs.size) { s with heap := h', toks := tk }) :
    wpAny (model P w) A (call (.type "set") [.ref l]) Q E s := by
  obtain ⟨c, tl, hmro⟩ := F.called_set.mro
  have hmade := F.called_set.made
  have hsub := F.called_set.sub
  refine wpAny_call (codeAny_of_tree ?_)
  show wpAny _ _ (callAny (.type "set") _) _ _ _
  refine wpAny_pure ⟨Code.quiet_builtin _ (by decide +kernel), codeAny_builtin F.entry_type_call ?_⟩
  rw [Around.under_plain (weight_type_call_type "set" [.ref l] []) rfl]
  have h1 := F.called_set.notType
  have h2 := F.called_set.canCreate
  have hct := F.typeCall_set_1 (.ref l)
  repeat (any_goals (first | assumption | wp_step))
  refine codeAny_mono (code_set_led1 (.ref l) (E := E) (Q₁ := fun obj s₁ => obj = .ref s.heap.objs.size ∧ s₁ = { s with heap := s.heap.push (setNew w) }) ⟨rfl, rfl⟩) fun r s₁ hr => ?_
  cases r with
  | error e => exact hr
  | ok fl =>
    cases fl with
    | ret obj =>
      obtain ⟨rfl, rfl⟩ := hr
      have hT : Shared.TypeIs { s with heap := s.heap.push (setNew w) } (.ref s.heap.objs.size) "set" := ⟨_, Heap.get?_push_size _ rfl, rfl⟩
      have hli := F.called_set.init.lookup
      have hbi := F.called_set.init.bind (.ref s.heap.objs.size)
      repeat (any_goals (first | assumption | wp_step))
      refine codeAny_mono (set_init_list ns (E := E) (by simp [hh]) hl hit hb) fun r₂ s₂ hr₂ => ?_
      cases r₂ with
      | error e => exact hr₂
      | ok fl₂ =>
        cases fl₂ with
        | ret r =>
          obtain ⟨rfl, h', tk, c', rfl, hS', hc', hk'⟩ := hr₂
          repeat (any_goals (first | assumption | wp_step))
          exact h _ _ _ hS' hc' hk'
        | _ => exact hr₂.elim
    | _ => exact hr.elim
end
end DL
namespace DL
open PySem PySem.Spec PyProof.Rows L2
abbrev enc6 (S : Sto) (d : D) : PyData := (rd 6 S d).py
def dLe (S : Sto) (a b : D) : Bool := PySem.W.dataLe false (enc6 S) a b
structure SortOk (S : Sto) (ds : List D) : Prop where
  ok : ∀ d ∈ ds, (rd 6 S d).ok 40 = true
  alk : PySem.W.AllAlike (ds.map (enc6 S))
  srt : PySem.W.Sortable (ds.map (enc6 S))
def lstOf (S : Sto) : D → Option (List D)
  | .fz ds => some ds
  | .ref a => match S a with | some (.lst ds) => some ds | _ => none
  | _ => none
section
variable {X : Cx} {pins : List (Addr × Obj)} {σ : L2.St} {H : Hp} {s : Shared} {S : Sto}
theorem lst_at {v : V} {u : Value} {d : D} {ds : List D} (I : Inv X pins σ H s) (hr : HR X.KW H S) (rv : RelV v u) (rd : RelD X.KW H v d) (h : lstOf S d = some ds) :
    ∃ a its vs, u = .ref a ∧ v = .ref a ∧ Vals vs its ∧ RelDs X.KW H vs ds ∧ vs.length ≤ sizeLine ∧ s.heap.IsList a its.toArray := by
  cases rd with
  | fz t r =>
    cases h; cases rv
    obtain ⟨its, a, b, c⟩ := I.list t.sq
    exact ⟨_, its, _, rfl, rfl, a, r, c, b.isList⟩
  | ref a =>
    simp only [lstOf] at h
    split at h
    · rename_i ds' e
      cases h; cases rv
      obtain ⟨vs, h1, r⟩ := hr a _ e
      obtain ⟨its, x, b, c⟩ := I.list (SqL.of h1)
      exact ⟨_, its, _, rfl, rfl, x, r, c, b.isList⟩
    · cases h
  | _ => cases h
theorem each_of : ∀ {vs : List V} {its : List Value} {ds : List D}, Vals vs its → RelDs X.KW H vs ds → PySem.W.EachIs (fun (u : Value) (b : V × D) => RelV b.1 u ∧ RelD X.KW H b.1 b.2) its (vs.zip ds)
  | _, _, _, .nil, .nil => .nil
  | _, _, _, .cons a t, .cons b r => .cons ⟨a, b⟩ (each_of t r)
theorem of_each : ∀ {its : List Value} {bs : List (V × D)}, PySem.W.EachIs (fun (u : Value) (b : V × D) => RelV b.1 u ∧ RelD X.KW H b.1 b.2) its bs → Vals (bs.map (·.1)) its ∧ RelDs X.KW H (bs.map (·.1)) (bs.map (·.2))
  | _, _, .nil => ⟨.nil, .nil⟩
  | _, _, .cons a t => ⟨.cons a.1 (of_each t).1, .cons a.2 (of_each t).2⟩
theorem zip_snd : ∀ {vs : List V} {ds : List D}, vs.length = ds.length → (vs.zip ds).map (·.2) = ds
  | [], [], _ => rfl
  | _ :: _, _ :: _, h => by simp [zip_snd (by simpa using h)]
theorem sorted_ok {E : Value → Shared → Prop} {a : Addr} {its : List Value} {vs : List V} {ds : List D} {Q : Value → Shared → Prop} (hu : X.A.units + 65 < cLine) (I : Inv X pins σ H s) (hr : HR X.KW H S) (rv : Vals vs its) (r : RelDs X.KW H vs ds) (hz : vs.length ≤ sizeLine) (hl : s.heap.IsList a its.toArray) (so : SortOk S ds)
    (k : ∀ p vs' s', H p = none → RelDs X.KW H vs' (ds.mergeSort (dLe S)) → Inv X pins σ (upd H p (.lst vs')) s' → Q (.ref p) s') : wpAny (model X.prog X.w) X.A (call (.builtin "sorted") [.ref a]) Q E s := by
  have el : vs.length = ds.length := r.length
  have e2 := zip_snd el
  have mem2 : ∀ b ∈ vs.zip ds, b.2 ∈ ds := fun b hb => by rw [← e2]; exact List.mem_map.mpr ⟨b, hb, rfl⟩
  have em : (vs.zip ds).map (fun b => enc6 S b.2) = ds.map (enc6 S) := by
    have := congrArg (List.map (enc6 S)) e2
    rw [List.map_map] at this
    exact this
  have E := each_of rv r
  have ER : PySem.W.EachIs (fun (u : Value) (b : V × D) => ∃ as, Reads s.heap u (enc6 S b.2) as) its (vs.zip ds) := by
    have all : ∀ b ∈ vs.zip ds, (rd 6 S b.2).ok 40 = true := fun b hb => so.ok _ (mem2 b hb)
    clear em mem2 e2 rv hl r el hz
    generalize vs.zip ds = bs at E all
    induction E with
    | nil => exact .nil
    | cons h t ih =>
      refine .cons ?_ (ih fun b hb => all b (List.mem_cons_of_mem _ hb))
      obtain ⟨dp, _, _⟩ := rd_dp hr 6 h.2 40 (all _ List.mem_cons_self)
      exact Dp.reads I _ _ _ dp h.1
  have hlen : (vs.zip ds).length = vs.length := by simp [el]
  refine PySem.W.sorted_data (bs := vs.zip ds) (enc := fun b => enc6 S b.2) hl E ER (by rw [em]; exact so.alk) (by rw [em]; exact so.srt) (by rw [hlen]; exact hz) (fun b hb => ?_) fun out ho eo => ?_
  · have q := so.ok _ (mem2 b hb)
    -- the depth
    have : (enc6 S b.2).depth ≤ 40 := by
      have hm := mem2 b hb
      obtain ⟨i, hi, e⟩ := List.getElem_of_mem hm
      obtain ⟨v, _, rdd⟩ := r.get (i := i) (d := b.2) (by rw [List.getElem?_eq_getElem hi, e])
      exact (rd_dp hr 6 rdd 40 q).2.2
    omega
  · obtain ⟨c, hc⟩ := PyProof.Rows.sortedAll_at s.heap its out.toArray
    obtain ⟨o1, o2⟩ := of_each eo
    have ms : ((vs.zip ds).mergeSort (PySem.W.dataLe false fun b => enc6 S b.2)).map (·.2) = ds.mergeSort (dLe S) := by
      have q := List.map_mergeSort (r := PySem.W.dataLe false fun b : V × D => enc6 S b.2) (s := dLe S) (f := fun b : V × D => b.2) (l := vs.zip ds) (fun a _ b _ => rfl)
      rw [e2] at q
      exact q
    rw [ms] at o2
    have n1 : H (s.heap.objs.size + 1) = none := I.hok.fresh (Nat.le_succ _)
    refine k _ _ _ n1 o2 (I.laid (t' := s.toks) (fun b o e => PyProof.Rows.sortedAll_old e) (Nat.le_succ _) ⟨?_, out, c, o1, hc⟩)
    rw [o1.length, ho, hlen]; exact hz
def wSorted : List D → Sto → KD → Prop := fun xs S Q => match xs with
  | [d] => onS (lstOf S d) fun ds => SortOk S ds ∧ ∀ p, S p = none → Q (.ref p) (put S p (.lst (ds.mergeSort (dLe S))))
  | _ => False
theorem dcall_sorted (hc : X.calm = true) (hu : X.A.units + 65 < cLine) : DCall X (.builtin "sorted") wSorted := by
  intro pins s σ H xs us ds S Q I rv hr rd q
  unfold wSorted at q
  split at q
  · rename_i d
    obtain ⟨v, rfl, r⟩ := rd.one
    cases rv with
    | cons rv t =>
    cases t
    obtain ⟨es, ee, so, q⟩ := onS.out q
    obtain ⟨a, its, vs, rfl, rfl, z1, z2, z3, z4⟩ := lst_at I hr rv r ee
    exact sorted_ok hu I hr z1 z2 z3 z4 so fun p vs' s' n r' I' => ⟨.ref p, _, I', rfl, .of (.new n) (hr.lst n r') (.ref p) (q p (hr.free n))⟩
  · exact q.elim
def intsD : List D → Option (List Int)
  | [] => some []
  | .int i :: r => (intsD r).map (i :: ·)
  | _ :: _ => none
theorem intsD_eq : ∀ {ds : List D} {ns : List Int}, intsD ds = some ns → ds = ns.map D.int
  | [], ns, h => by cases h; rfl
  | d :: r, ns, h => by
    cases d <;> simp only [intsD] at h <;> first | (cases h; done) | skip
    obtain ⟨ms, h1, h2⟩ := Option.map_eq_some_iff.mp h
    subst h2
    rw [intsD_eq h1]; rfl
theorem intsD_map (ns : List Int) : intsD (ns.map D.int) = some ns := by induction ns with
  | nil => rfl
  | cons n r ih => simp [intsD, ih]
theorem ints_vals : ∀ {vs : List V} {its : List Value} {ns : List Int}, Vals vs its → RelDs X.KW H vs (ns.map D.int) → IntsAre its ns
  | _, _, [], .nil, .nil => .nil
  | _, _, n :: r, .cons a t, .cons b q => by
    cases b
    obtain ⟨tk, rfl⟩ := a
    exact .cons n tk (ints_vals t q)
def dSortedSet (te : DTE) : DTE := fun τ S Q => te τ S fun d S1 => onS (lstOf S1 d) fun ds => onS (intsD ds) fun ns => ns.length < 63 ∧ ∀ (ms : List Int) (p : Addr), ms.Pairwise (· < ·) → (∀ k, k ∈ ms ↔ k ∈ ns) → S1 p = none → Q (.ref p) (put S1 p (.lst (ms.map D.int)))
theorem de_sortedSet {e : Expr} {te : DTE} {p1 p2 q1 q2 : Pos} (hc : X.calm = true) (hu : X.A.units + 65 < cLine) (hm1 : X.mg "sorted" = none) (hm2 : X.mg "set" = none) (hg1 : Gl X "sorted") (hg2 : Gl X "set") (he : DE X e te)
    (na : starEach [e] X.env = (false, eval e X.env) :: starEach [] X.env := by rfl) :
    DE X (.Call (.Name "sorted" p1) [.Call (.Name "set" p2) [e] [] q2] [] q1) (dSortedSet te) := ⟨fun pins s σ H τ S Q I st hr q => by
  refine Call_ (ld_blt I hg1 hm1 boot_sorted ?_)
  refine PyProof.Rows.callWith_builtin1 (PyProof.Rows.args_cons ?_ rfl) rfl rfl
  refine Call_ (ld_blt I hg2 hm2 boot_set ?_)
  refine PyProof.Rows.callWith_type1 (PyProof.Rows.args_cons (thn (he.run pins s σ H τ S _ I st hr q) fun v s1 ⟨x, H1, I1, r1, e1, d, S1, hr1, rd, q1⟩ => PyProof.Rows.args_nil ?_) na) na rfl
  obtain ⟨ds, ed, q1⟩ := onS.out q1
  obtain ⟨ns, en, h63, q9⟩ := onS.out q1
  have := intsD_eq en
  subst this
  obtain ⟨a, its, vs, rfl, rfl, z1, z2, z3, z4⟩ := lst_at I1 hr1 r1 rd ed
  refine set_of_list ns (I1.ok.hd hc) z4 (by simpa using ints_vals z1 z2) (by show _ < 4096; omega) fun h' tk c hR hcn hk => ?_
  have I2 : Inv X pins σ H1 { s1 with heap := h', toks := tk } := I1.kept hk
  refine PyProof.Rows.args_nil (sorted_set hR (I2.ok.hd hc) (by omega) fun s' p out c' ms k g o hp hg hi hs hm hl => ?_)
  have hlen : (ms.map V.int).length ≤ sizeLine := by rw [List.length_map, hl, sizeLine_eq]; omega
  have hn : H1 p = none := I2.hok.fresh hp
  have J : Inv X pins σ (upd H1 p (.lst (ms.map V.int))) { ({ s1 with heap := h', toks := tk } : Shared) with heap := s'.heap, gens := s'.gens, drawn := s'.drawn, toks := s'.toks } :=
    I2.call (ch := []) (Un.laid k hp hn) (I2.hok.laid k hp ⟨hlen, out.toList, c', vals_of_ints hi, hg⟩) (by rw [g]; exact I2.bare) (fun _ z => nomatch z)
  have e : s' = { ({ s1 with heap := h', toks := tk } : Shared) with heap := s'.heap, gens := s'.gens, drawn := s'.drawn, toks := s'.toks } := by
    cases s'
    cases o
    rfl
  rw [e]
  exact ⟨.ref p, _, J, rfl, .of (e1.trans (.new hn)) (hr1.lst hn (.ints ms)) (.ref p) (q9 ms p hs (fun k => by rw [hm k, decide_eq_true_eq]) (hr1.free hn))⟩⟩
def maxI : List Int → Int
  | [] => 0
  | x :: r => r.foldl max x
def minI : List Int → Int
  | [] => 0
  | x :: r => r.foldl min x
theorem foldl_max : ∀ (r : List Int) (x : Int), (r.foldl max x = x ∨ r.foldl max x ∈ r) ∧ x ≤ r.foldl max x ∧ ∀ y ∈ r, y ≤ r.foldl max x
  | [], x => ⟨.inl rfl, Int.le_refl _, fun y h => nomatch h⟩
  | z :: r, x => by
    obtain ⟨h1, h2, h3⟩ := foldl_max r (max x z)
    simp only [List.foldl_cons, List.mem_cons]
    refine ⟨?_, by omega, fun y h => ?_⟩
    · rcases h1 with h | h
      · by_cases e : x ≤ z
        · exact .inr (.inl (by rw [h]; omega))
        · exact .inl (by rw [h]; omega)
      · exact .inr (.inr h)
    · rcases h with rfl | h
      · omega
      · exact h3 y h
theorem foldl_min : ∀ (r : List Int) (x : Int), (r.foldl min x = x ∨ r.foldl min x ∈ r) ∧ r.foldl min x ≤ x ∧ ∀ y ∈ r, r.foldl min x ≤ y
  | [], x => ⟨.inl rfl, Int.le_refl _, fun y h => nomatch h⟩
  | z :: r, x => by
    obtain ⟨h1, h2, h3⟩ := foldl_min r (min x z)
    simp only [List.foldl_cons, List.mem_cons]
    refine ⟨?_, by omega, fun y h => ?_⟩
    · rcases h1 with h | h
      · by_cases e : x ≤ z
        · exact .inl (by rw [h]; omega)
        · exact .inr (.inl (by rw [h]; omega))
      · exact .inr (.inr h)
    · rcases h with rfl | h
      · omega
      · exact h3 y h
theorem maxI_uniq {ns : List Int} {m : Int} (hm : m ∈ ns) (h : ∀ y ∈ ns, y ≤ m) : m = maxI ns := by
  cases ns with
  | nil => cases hm
  | cons x r =>
    obtain ⟨h1, h2, h3⟩ := foldl_max r x
    have a : m ≤ r.foldl max x := by
      rcases List.mem_cons.mp hm with rfl | hm
      · exact h2
      · exact h3 m hm
    have b : r.foldl max x ≤ m := by
      rcases h1 with e | e
      · rw [e]; exact h x List.mem_cons_self
      · exact h _ (List.mem_cons_of_mem _ e)
    exact Int.le_antisymm a b
theorem minI_uniq {ns : List Int} {m : Int} (hm : m ∈ ns) (h : ∀ y ∈ ns, m ≤ y) : m = minI ns := by
  cases ns with
  | nil => cases hm
  | cons x r =>
    obtain ⟨h1, h2, h3⟩ := foldl_min r x
    have a : r.foldl min x ≤ m := by
      rcases List.mem_cons.mp hm with rfl | hm
      · exact h2
      · exact h3 m hm
    have b : m ≤ r.foldl min x := by
      rcases h1 with e | e
      · rw [e]; exact h x List.mem_cons_self
      · exact h _ (List.mem_cons_of_mem _ e)
    exact Int.le_antisymm b a
def wMaxI : List D → Sto → KD → Prop := fun xs S Q => match xs with
  | [.int i, .int j] => Q (.int (if j > i then j else i)) S
  | [d] => onS (lstOf S d) fun ds => onS (intsD ds) fun ns => ns ≠ [] ∧ Q (.int (maxI ns)) S
  | _ => False
def wMin : List D → Sto → KD → Prop := fun xs S Q => match xs with
  | [.int i, .int j] => Q (.int (if j < i then j else i)) S
  | [d] => onS (lstOf S d) fun ds => onS (intsD ds) fun ns => ns ≠ [] ∧ Q (.int (minI ns)) S
  | _ => False
theorem lst_sq {v : V} {d : D} {ds : List D} (hr : HR X.KW H S) (rd : RelD X.KW H v d) (h : lstOf S d = some ds) : ∃ a vs, v = .ref a ∧ SqL X.K H a vs ∧ RelDs X.KW H vs ds := by
  cases rd with
  | fz t r => cases h; exact ⟨_, _, rfl, t.sq, r⟩
  | ref a =>
    simp only [lstOf] at h
    split at h
    · rename_i ds' e
      cases h
      obtain ⟨vs, h1, r⟩ := hr a _ e
      exact ⟨_, _, rfl, SqL.of h1, r⟩
    · cases h
  | _ => cases h
theorem relDs_intV : ∀ {vs : List V} {ns : List Int}, RelDs X.KW H vs (ns.map D.int) → vs = ns.map V.int
  | _, [], .nil => rfl
  | _, n :: r, .cons a t => by cases a; rw [relDs_intV t]; rfl
theorem dcall_maxI (hc : X.calm = true) : DCall X (.builtin "max") wMaxI := by
  refine .of ((call_max2 hc).or (cr_max hc)) fun xs H ds S Q R hr rd q k => ?_
  unfold wMaxI at q
  split at q
  · obtain ⟨a, b, rfl, ra, rb⟩ := rd.two
    cases ra; cases rb
    exact .inl ⟨_, _, rfl, k _ _ (.of (.refl _) hr (.int _) q)⟩
  · obtain ⟨v, rfl, r⟩ := rd.one
    obtain ⟨es, ee, q⟩ := onS.out q
    obtain ⟨ns, en, q1, q2⟩ := onS.out q
    have := intsD_eq en
    subst this
    obtain ⟨a, vs, rfl, sq, rr⟩ := lst_sq hr r ee
    have := relDs_intV rr
    subst this
    refine .inr ⟨a, ns, rfl, sq, List.length_pos_iff.mpr q1, fun m hm hall => ?_⟩
    rw [maxI_uniq hm hall]
    exact k _ _ (.of (.refl _) hr (.int _) q2)
  · exact q.elim
theorem dcall_min (hc : X.calm = true) : DCall X (.builtin "min") wMin := by
  refine .of ((call_min2 hc).or (cr_min hc)) fun xs H ds S Q R hr rd q k => ?_
  unfold wMin at q
  split at q
  · obtain ⟨a, b, rfl, ra, rb⟩ := rd.two
    cases ra; cases rb
    exact .inl ⟨_, _, rfl, k _ _ (.of (.refl _) hr (.int _) q)⟩
  · obtain ⟨v, rfl, r⟩ := rd.one
    obtain ⟨es, ee, q⟩ := onS.out q
    obtain ⟨ns, en, q1, q2⟩ := onS.out q
    have := intsD_eq en
    subst this
    obtain ⟨a, vs, rfl, sq, rr⟩ := lst_sq hr r ee
    have := relDs_intV rr
    subst this
    refine .inr ⟨a, ns, rfl, sq, List.length_pos_iff.mpr q1, fun m hm hall => ?_⟩
    rw [minI_uniq hm hall]
    exact k _ _ (.of (.refl _) hr (.int _) q2)
  · exact q.elim
end
end DL
namespace DL
open PySem PySem.Spec PyProof.Rows L2
open Builtin.Str (reprChar)
theorem strOk_mem {x : Str} : PyData.strOk x = true ↔ ∀ c ∈ x.cps.toList, c < 0x110000 := by
  unfold PyData.strOk
  rw [← Array.all_toList, List.all_eq_true]
  exact ⟨fun h c hc => by simpa using h c hc, fun h c hc => by simpa using h c hc⟩
theorem strOk_app {x y : Str} (h1 : PyData.strOk x = true) (h2 : PyData.strOk y = true) : PyData.strOk (x ++ y) = true := strOk_append h1 h2
theorem strOk_textFrom : ∀ (ts : List Str) (k : Nat) (acc : Str), PyData.strOk acc = true → (∀ t ∈ ts, PyData.strOk t = true) → PyData.strOk (textFrom k acc ts) = true
  | [], _, _, h, _ => h
  | t :: ts, k, acc, h, ht => by
    refine strOk_textFrom ts (k + 1) _ (strOk_app (strOk_app h ?_) (ht t List.mem_cons_self)) fun u hu => ht u (List.mem_cons_of_mem _ hu)
    split <;> decide +kernel
theorem strOk_join {sep : Str} (hs : PyData.strOk sep = true) : ∀ ts : List Str, (∀ t ∈ ts, PyData.strOk t = true) → PyData.strOk (Str.join sep ts) = true
  | [], _ => (by decide +kernel : PyData.strOk (Str.ofString "") = true)
  | [x], h => h x List.mem_cons_self
  | x :: y :: r, h => by
    show PyData.strOk (x ++ sep ++ Str.join sep (y :: r)) = true
    exact strOk_app (strOk_app (h x List.mem_cons_self) hs) (strOk_join hs (y :: r) fun t ht => h t (List.mem_cons_of_mem _ ht))
theorem hexd_lt (c : Nat) : ∀ x ∈ (Nat.toDigits 16 c).map Char.toNat, x < 0x110000 := by
  intro x hx
  obtain ⟨ch, _, rfl⟩ := List.mem_map.mp hx
  have := ch.valid
  unfold UInt32.isValidChar Nat.isValidChar at this
  show ch.val.toNat < _
  omega
theorem reprChar_lt {q c : Nat} (hc : c < 0x110000) : ∀ x ∈ reprChar q c, x < 0x110000 := by
  intro x hx
  unfold reprChar at hx
  have hex : ∀ (w : Nat) (x : Nat), x ∈ (List.replicate (w - ((Nat.toDigits 16 c).map Char.toNat).length) 48 ++ (Nat.toDigits 16 c).map Char.toNat) → x < 0x110000 := fun w x h => by
    rcases List.mem_append.mp h with h | h
    · rw [List.eq_of_mem_replicate h]; decide
    · exact hexd_lt c x h
  have two : ∀ (a b : Nat), a < 0x110000 → b < 0x110000 → ∀ x ∈ [a, b], x < 0x110000 := fun a b ha hb x h => by
    rcases List.mem_cons.mp h with rfl | h
    · exact ha
    · rw [List.mem_singleton.mp h]; exact hb
  split at hx
  · exact two _ _ (by decide) hc x hx
  split at hx
  · exact two _ _ (by decide) (by decide) x hx
  split at hx
  · exact two _ _ (by decide) (by decide) x hx
  split at hx
  · exact two _ _ (by decide) (by decide) x hx
  split at hx
  · rw [List.mem_singleton.mp hx]; exact hc
  split at hx
  · rcases List.mem_append.mp hx with h | h
    · exact two _ _ (by decide) (by decide) x h
    · exact hex _ x h
  split at hx
  · rcases List.mem_append.mp hx with h | h
    · exact two _ _ (by decide) (by decide) x h
    · exact hex _ x h
  · rcases List.mem_append.mp hx with h | h
    · exact two _ _ (by decide) (by decide) x h
    · exact hex _ x h
theorem foldl_repr_lt (q : Nat) : ∀ (l : List Nat) (acc : Array Nat), (∀ c ∈ l, c < 0x110000) → (∀ c ∈ acc.toList, c < 0x110000) → ∀ c ∈ (l.foldl (fun out c => out ++ (reprChar q c).toArray) acc).toList, c < 0x110000
  | [], acc, _, h => h
  | c :: r, acc, hl, h => by
    refine foldl_repr_lt q r _ (fun x hx => hl x (List.mem_cons_of_mem _ hx)) fun x hx => ?_
    simp only [Array.toList_append, List.mem_append] at hx
    rcases hx with hx | hx
    · exact h x hx
    · exact reprChar_lt (hl c List.mem_cons_self) x hx
theorem reprQuote_lt (x : Str) : reprQuote x < 0x110000 := by
  unfold reprQuote
  split <;> decide
theorem strOk_repr {x : Str} (h : PyData.strOk x = true) : PyData.strOk (reprText x) = true := by
  rw [strOk_mem] at h ⊢
  intro c hc
  unfold reprText at hc
  simp only [Array.toList_push, List.mem_append, List.mem_singleton] at hc
  rcases hc with hc | rfl
  · have e : x.cps.foldl (fun out c => out ++ (reprChar (reprQuote x) c).toArray) #[reprQuote x] = x.cps.toList.foldl (fun out c => out ++ (reprChar (reprQuote x) c).toArray) #[reprQuote x] := by rw [← Array.foldl_toList]
    rw [e] at hc
    exact foldl_repr_lt _ _ _ h (fun c hc => by
      have hc' : c = reprQuote x := by simpa using hc
      rw [hc']; exact reprQuote_lt x) c hc
  · exact reprQuote_lt x
theorem strOk_intT (i : Int) : PyData.strOk (PyData.int i).shown = true := by
  rw [strOk_mem]
  intro c hc
  by_cases h : c ≠ 45 ∧ (c < 48 ∨ 57 < c)
  · exact absurd hc (PyProof.Rows.shown_int_free' h i)
  · omega
mutual
theorem strOk_shown : ∀ d : PyData, d.canLay0 = true → PyData.strOk d.shown = true
  | .none, _ => by decide +kernel
  | .bool b, _ => by cases b <;> decide +kernel
  | .int i, _ => strOk_intT i
  | .str x, h => by rw [PyData.shown]; exact strOk_repr (by simpa [PyData.canLay0] using h)
  | .list xs, h => by
    rw [PyData.shown]
    exact strOk_app (strOk_textFrom _ _ _ (by decide +kernel) (strOk_shownAll xs (by simpa [PyData.canLay0] using h))) (by decide +kernel)
  | .tuple xs, h => by
    rw [PyData.shown]
    unfold tupleText
    refine strOk_app (strOk_app (by decide +kernel) (strOk_join (by decide +kernel) _ (strOk_shownAll xs (by simpa [PyData.canLay0] using h)))) ?_
    split <;> decide +kernel
  | .dict _, h => by simp [PyData.canLay0] at h
theorem strOk_shownAll : ∀ xs : List PyData, PyData.canLayAll0 xs = true → ∀ t ∈ PyData.shownAll xs, PyData.strOk t = true
  | [], _, t, ht => by simp [PyData.shownAll] at ht
  | x :: xs, h, t, ht => by
    have h' : x.canLay0 = true ∧ PyData.canLayAll0 xs = true := by simpa [PyData.canLayAll0] using h
    rw [PyData.shownAll] at ht
    rcases List.mem_cons.mp ht with rfl | ht
    · exact strOk_shown x h'.1
    · exact strOk_shownAll xs h'.2 t ht
end
section
variable {X : Cx}
def wRepr : List D → Sto → KD → Prop := fun xs S Q => match xs with
  | [d] => (rd 6 S d).ok 40 = true ∧ (rd 6 S d).py.showable = true ∧ (rd 6 S d).py.shown.length ≤ sizeLine ∧ (∃ ds, seqOf S d = some ds) ∧ Q (.str (rd 6 S d).py.shown) S
  | _ => False
theorem dcall_repr (hu : X.A.units + 65 < cLine) (hgd : X.A.guards = some []) : DCall X (.builtin "repr") wRepr := by
  intro pins s σ H xs us ds S Q I rv hr rd q
  unfold wRepr at q
  split at q
  · rename_i d
    obtain ⟨q1, q2, q3, ⟨es, ee⟩, q4⟩ := q
    obtain ⟨v, rfl, r⟩ := rd.one
    cases rv with
    | cons rv t =>
    cases t
    obtain ⟨dp, cl, dep⟩ := rd_dp hr 6 r 40 q1
    obtain ⟨a, its, vs, rfl, rfl, _⟩ := seq_at I hr rv r ee
    obtain ⟨as, rr⟩ := Dp.reads I _ _ _ dp rv
    refine repr_of_reads' rr q2 (PyData.noDict_hsm (PyData.hasDict_of_canLay _ cl)) hgd (by omega) (fun b o e => e) (fun h' u tk k => ?_) q3
    exact ⟨.str _, H, I.kept (t' := tk) k, ⟨u, rfl⟩, .of (.refl _) hr (.str _ (strOk_shown _ cl)) q4⟩
  · exact q.elim
end
end DL
namespace DL
open PySem PySem.Spec PyProof.Rows L2
def dctOf (S : Sto) : D → Option (Addr × List (D × D))
  | .ref a => match S a with | some (.dct kvs) => some (a, kvs) | some (.fdc _ kvs) => some (a, kvs) | _ => none
  | _ => none
section
variable {X : Cx} {pins : List (Addr × Obj)} {σ : L2.St} {H : Hp} {s : Shared} {S : Sto}
theorem ent_K {a : Addr} {ks : List (Key × V)} {kvs : List (D × D)} (I : Inv X pins σ H s) (h1 : Rd H a (.dK ks)) (rk : RelKV kD X.KW H ks kvs) : (a == sysModules) = false ∧ kvs.length ≤ sizeLine ∧ ∃ es ep, s.heap.DictRaw a es ep ∧ EntAt X.KW H es kvs := by
  obtain ⟨z, hd, vs, kv, o, es, ep, ho, hx, hdt, hk, hp, hn⟩ := dk_rd I.hok h1
  have hsz : es.size = kvs.length := by
    have l1 := hp.length
    have l2 : ks.length = vs.length := Paired.length kv
    have l3 := rk.length
    rw [Array.length_toList] at l1
    omega
  refine ⟨hd, by rw [← rk.length]; exact z, es, ep, ⟨o, ho, hx, hdt⟩, hsz, fun i en kd vd e1 e2 => ?_⟩
  obtain ⟨k, v, q1, rfl, hs, q3⟩ := relKV_get rk e2
  obtain ⟨u, q4, q5⟩ := kv_get kv q1
  obtain ⟨q6, q7⟩ := hp.get? (e := en) (by simpa using e1) q4
  refine ⟨⟨L2.kV k, relV_key q6, ?_⟩, v, by rw [q7]; exact q5, q3⟩
  cases k with
  | inl i => exact .int i
  | inr x => exact .str x (hs x rfl)
theorem ent_T {a : Addr} {xs : List (List Key × Addr × Value)} {kvs : List (D × D)} (I : Inv X pins σ H s) (h1 : Rd H a (TDn X.KW a xs)) (rk : RelTV X.KW H xs kvs) : (a == sysModules) = false ∧ kvs.length ≤ sizeLine ∧ ∃ es ep, s.heap.DictRaw a es ep ∧ EntAt X.KW H es kvs := by
  obtain ⟨z, hd, o, es, ep, ho, hx, hdt, hes, _, _⟩ := tdn_rd I h1 rk
  refine ⟨hd, by rw [← rk.length]; exact z, es, ep, ⟨o, ho, hx, hdt⟩, by rw [size_of_entries hes, rk.length], fun i en kd vd e1 e2 => ?_⟩
  obtain ⟨k, b, u, v, q1, rfl, q3, q4, q5⟩ := relTV_get rk e2
  have q := entry_at hes i
  rw [e1, q1] at q
  have q' := Option.some.inj q
  exact ⟨⟨.ref b, by rw [q']; rfl, .tup q3.1 q3.2⟩, v, by rw [q']; exact q4, q5⟩
theorem ent_at {d : D} {a : Addr} {kvs : List (D × D)} (I : Inv X pins σ H s) (hr : HR X.KW H S) (e : dctOf S d = some (a, kvs)) : d = .ref a ∧ (a == sysModules) = false ∧ kvs.length ≤ sizeLine ∧ ∃ es ep, s.heap.DictRaw a es ep ∧ EntAt X.KW H es kvs := by
  unfold dctOf at e
  split at e
  · rename_i a'
    split at e
    · rename_i kvs' es
      cases e
      rcases hr a _ es with ⟨ks, h1, rk⟩ | ⟨xs, h1, rk⟩
      · exact ⟨rfl, ent_K I (.inl h1) rk⟩
      · exact ⟨rfl, ent_T I (.inl h1) rk⟩
    · rename_i o kvs' es
      cases e
      rcases hr a _ es with ⟨ks, h1, rk⟩ | ⟨xs, h1, rk⟩
      · exact ⟨rfl, ent_K I (.inr ⟨_, h1⟩) rk⟩
      · exact ⟨rfl, ent_T I (.inr ⟨_, h1⟩) rk⟩
    · cases e
  · cases e
theorem rel_items : ∀ (ds : List D) (vs : List Value), vs.length = ds.length → (∀ (i : Nat) (d : D) (u : Value), ds[i]? = some d → vs[i]? = some u → ∃ v, RelV v u ∧ RelD X.KW H v d) → ∃ ws, Vals ws vs ∧ RelDs X.KW H ws ds
  | [], [], _, _ => ⟨[], .nil, .nil⟩
  | d :: ds, u :: vs, hl, h => by
    obtain ⟨v, r1, r2⟩ := h 0 d u rfl rfl
    obtain ⟨ws, a, b⟩ := rel_items ds vs (by simpa using hl) fun i d' u' e1 e2 => h (i + 1) d' u' (by simpa using e1) (by simpa using e2)
    exact ⟨v :: ws, .cons r1 a, .cons r2 b⟩
end
end DL
namespace DL
open PySem PySem.Spec PyProof.Rows L2
section
variable {τ : DSt} {S : Sto} {Dn : DEnds} {Q : KD} {QT : Bool → Sto → Prop} {QA : List D → Sto → Prop} {t u v : DTE} {ts us : DTS} {c : DTT} {ta : DTA} {r r' : DR} {d x y : D} {i j : Nat}
@[simp] theorem dC_eq : dC d τ S Q = Q d S := rfl
@[simp] theorem dV_eq : dV i τ S Q = match τ[i]? with | some (some d) => Q d S | _ => False := rfl
@[simp] theorem dBin_eq : dBin r t u τ S Q = t τ S fun x S1 => u τ S1 fun y S2 => r x y S2 Q := rfl
@[simp] theorem isB_bl {b : Bool} : isB QT (.bl b) S = QT b S := rfl
@[simp] theorem isI_int {n : Int} {Qi : Option Int → Sto → Prop} : isI Qi (.int n) S = Qi (some n) S := rfl
@[simp] theorem dTst_eq : dTst t τ S QT = t τ S (isB QT) := rfl
@[simp] theorem dAnd_eq {c1 c2 : DTT} : dAnd c1 c2 τ S QT = c1 τ S fun b S1 => if b = true then c2 τ S1 QT else QT false S1 := rfl
@[simp] theorem dOr_eq {c1 c2 : DTT} : dOr c1 c2 τ S QT = c1 τ S fun b S1 => if b = true then QT true S1 else c2 τ S1 QT := rfl
@[simp] theorem dNot_eq : dNot c τ S QT = c τ S fun b S1 => QT (!b) S1 := rfl
@[simp] theorem dIf_eq : dIf c t u τ S Q = c τ S fun b S1 => if b = true then t τ S1 Q else u τ S1 Q := rfl
@[simp] theorem dChain_eq : dChain r r' t u v τ S Q = t τ S fun x S1 => u τ S1 fun y S2 => r x y S2 (isB fun k S3 => if k = true then v τ S3 fun z S4 => r' y z S4 Q else Q (.bl false) S3) := rfl
@[simp] theorem dUn_eq {w : D → Sto → KD → Prop} : dUn w t τ S Q = t τ S fun x S1 => w x S1 Q := rfl
@[simp] theorem wNeg_int {n : Int} : wNeg (.int n) S Q = Q (.int (-n)) S := rfl
@[simp] theorem dNil_eq : dNil τ S QA = QA [] S := rfl
@[simp] theorem dCons_eq : dCons t ta τ S QA = t τ S fun x S1 => ta τ S1 fun xs S2 => QA (x :: xs) S2 := rfl
@[simp] theorem dCB_eq {w : List D → Sto → KD → Prop} : dCB w ta τ S Q = ta τ S fun ds S1 => w ds S1 Q := rfl
@[simp] theorem dTup_eq : dTup ta τ S Q = ta τ S fun ds S1 => ds.length ≤ sizeLine ∧ Q (.tup ds) S1 := rfl
@[simp] theorem dLst_eq : dLst ta τ S Q = ta τ S fun ds S1 => ds.length ≤ sizeLine ∧ ∀ p, S1 p = none → Q (.ref p) (put S1 p (.lst ds)) := rfl
@[simp] theorem dNext_eq : dNext Dn τ S = Dn.nx τ S := rfl
@[simp] theorem dSeq_eq : dSeq ts us Dn τ S = ts { Dn with nx := us Dn } τ S := rfl
@[simp] theorem dDrop_eq : dDrop t Dn τ S = t τ S fun _ S1 => Dn.nx τ S1 := rfl
@[simp] theorem dRet_eq : dRet t Dn τ S = t τ S Dn.rt := rfl
@[simp] theorem dIfS_eq : dIfS c ts us Dn τ S = c τ S fun b S1 => if b = true then ts Dn τ S1 else us Dn τ S1 := rfl
variable {k : DSt → Sto → Prop}
@[simp] theorem gdName_eq : gdName i d τ S k = k (τ.set i (some d)) S := rfl
@[simp] theorem gdNil_eq {ds : List D} : gdNil ds τ S k = (ds = [] ∧ k τ S) := rfl
@[simp] theorem gdCons_eq {g : DTG} {h : DTGs} {ds : List D} : gdCons g h (d :: ds) τ S k = g d τ S fun τ' S' => h ds τ' S' k := rfl
@[simp] theorem gdTup_tup {g : DTGs} {n : Nat} {ds : List D} : gdTup n g (.tup ds) τ S k = (ds.length = n ∧ g ds τ S k) := rfl
@[simp] theorem gdTup_wt {g : DTGs} {n : Nat} {ds : List D} : gdTup n g (.wt ds) τ S k = (ds.length = n ∧ g ds τ S k) := rfl
@[simp] theorem gdSub_eq {w : D → D → D → Sto → (Sto → Prop) → Prop} : gdSub t u w d τ S k = t τ S fun o S1 => u τ S1 fun i S2 => w o i d S2 fun S3 => k τ S3 := rfl
@[simp] theorem dAsg_eq {g : DTG} : dAsg t g Dn τ S = t τ S fun x S1 => g x τ S1 Dn.nx := rfl
@[simp] theorem dPar_eq : dPar i j ta Dn τ S = ta τ S fun ds S1 => match ds with | [x, y] => Dn.nx ((τ.set i (some x)).set j (some y)) S1 | _ => False := rfl
@[simp] theorem dPar3_eq {l : Nat} : dPar3 i j l ta Dn τ S = ta τ S fun ds S1 => match ds with | [x, y, z] => Dn.nx (((τ.set i (some x)).set j (some y)).set l (some z)) S1 | _ => False := rfl
@[simp] theorem dCall_eq {sp : DSp} {dds : List D} : dCall sp dds ta τ S Q = ta τ S fun ds S1 => sp (ds ++ dds) S1 Q noX := rfl
@[simp] theorem bodyEnds_nx : (bodyEnds Q).nx τ S = Q .non S := rfl
@[simp] theorem bodyEnds_rt : (bodyEnds Q).rt = Q := rfl
@[simp] theorem dNoPart_eq {Qi : Option Int → Sto → Prop} : dNoPart τ S Qi = Qi none S := rfl
@[simp] theorem dPart_eq {Qi : Option Int → Sto → Prop} : dPart t τ S Qi = t τ S (isI Qi) := rfl
@[simp] theorem dCut_eq {tl th : DTO} : dCut t tl th τ S Q = t τ S fun x S1 => tl τ S1 fun l S2 => th τ S2 fun u S3 => wCut x l u S3 Q := rfl
@[simp] theorem dBM_eq {T : String} {w : D → List D → Sto → KD → Prop} : dBM T w t ta τ S Q = t τ S fun x S1 => tyD T x S1 ∧ ta τ S1 fun ds S2 => w x ds S2 Q := rfl
@[simp] theorem dFor_eq {wi : DTI} {g : DTG} : dFor wi g ts Dn τ S = wi τ S fun ds stab S1 => loopF g ts Dn stab ds τ S1 := rfl
@[simp] theorem dWhile_eq : dWhile c ts Dn τ S = ∃ n, whF c ts Dn n τ S := rfl
@[simp] theorem diVal_eq {w : WIt} {R : List D → (Sto → Prop) → Sto → Prop} : diVal t w τ S R = t τ S fun d S1 => w d S1 R := rfl
@[simp] theorem diRng1_eq {R : List D → (Sto → Prop) → Sto → Prop} : diRng1 ta τ S R = ta τ S fun ds S1 => match ds with | [.int j] => j < 2 ^ 62 ∧ -(2 ^ 62) ≤ j ∧ R (rngD 0 j.toNat) (fun _ => True) S1 | _ => False := rfl
@[simp] theorem dLC_eq {wi : DTI} {g : DTG} {tt : DTT} {vs all : List Nat} {rs : List ClT} : dLC wi g tt vs all rs t τ S Q = wi τ S fun ds stab S1 => ∀ D, S1 D = none → loopC g tt vs (compR rs (emLst t D)) stab ds (wipeD τ all) (put S1 D (.lst [])) (fun S2 => Q (.ref D) S2) := rfl
@[simp] theorem dDC_eq {wi : DTI} {g : DTG} {tt : DTT} {vs all : List Nat} {rs : List ClT} : dDC wi g tt vs all rs t u τ S Q = wi τ S fun ds stab S1 => ∀ D, S1 D = none → loopC g tt vs (compR rs (emDct t u D)) stab ds (wipeD τ all) (put S1 D (.dct [])) (fun S2 => Q (.ref D) S2) := rfl
@[simp] theorem dYes_eq : dYes τ S QT = QT true S := rfl
@[simp] theorem wipeD_nil : wipeD τ [] = τ := rfl
@[simp] theorem wipeD_cons {n : Nat} {ns : List Nat} : wipeD τ (n :: ns) = (wipeD τ ns).set n none := rfl
-- values
variable {m n : Int} {a b : Addr} {ds es : List D}
@[simp] theorem wAdd_int : wAdd (.int m) (.int n) S Q = Q (.int (m + n)) S := rfl
@[simp] theorem wAdd_str {p q : Str} : wAdd (.str p) (.str q) S Q = (p.length + q.length ≤ sizeLine ∧ Q (.str (p ++ q)) S) := rfl
@[simp] theorem wAdd_tup : wAdd (.tup ds) (.tup es) S Q = (ds.length + es.length ≤ sizeLine ∧ Q (.tup (ds ++ es)) S) := rfl
@[simp] theorem wAdd_ref : wAdd (.ref a) (.ref b) S Q = onL S a fun xs => onL S b fun ys => xs.length + ys.length ≤ sizeLine ∧ ∀ p, S p = none → Q (.ref p) (put S p (.lst (xs ++ ys))) := rfl
@[simp] theorem wI0_int {g : Int → Int → Int} : wI0 g (.int m) (.int n) S Q = Q (.int (g m n)) S := rfl
@[simp] theorem wI_int {C : Int → Int → Prop} {g : Int → Int → Int} : wI C g (.int m) (.int n) S Q = (C m n ∧ Q (.int (g m n)) S) := rfl
@[simp] theorem wCmp_int {p : Int → Int → Bool} {t : List Nat → List Nat → Bool} : wCmp p t (.int m) (.int n) S Q = Q (.bl (p m n)) S := rfl
@[simp] theorem wIsN_eq : wIsN x .non S Q = Q (.bl (decide (x = .non))) S := by simp [wIsN]
@[simp] theorem wNotN_eq : wNotN x .non S Q = Q (.bl (!decide (x = .non))) S := by simp [wNotN]
@[simp] theorem wLen_tup : wLen [.tup ds] S Q = Q (.int ds.length) S := rfl
@[simp] theorem wLen_fz : wLen [.fz ds] S Q = Q (.int ds.length) S := rfl
@[simp] theorem wLen_lst (h : S a = some (.lst ds)) : wLen [.ref a] S Q = Q (.int ds.length) S := by simp [wLen, h]
@[simp] theorem wLen_dct {kvs : List (D × D)} (h : S a = some (.dct kvs)) : wLen [.ref a] S Q = Q (.int kvs.length) S := by simp [wLen, h]
@[simp] theorem wLen_fdc {o : Obj} {kvs : List (D × D)} (h : S a = some (.fdc o kvs)) : wLen [.ref a] S Q = Q (.int kvs.length) S := by simp [wLen, h]
@[simp] theorem onS_some {α : Type} {x : α} {k : α → Prop} : onS (some x) k = k x := rfl
@[simp] theorem wTuple_tup : wTuple [.tup ds] S Q = Q (.tup ds) S := rfl
@[simp] theorem wTuple_lst (h : S a = some (.lst ds)) : wTuple [.ref a] S Q = Q (.tup ds) S := by simp [wTuple, h]
@[simp] theorem wList_tup : wList [.tup ds] S Q = ∀ p, S p = none → Q (.ref p) (put S p (.lst ds)) := rfl
@[simp] theorem wList_fz : wList [.fz ds] S Q = ∀ p, S p = none → Q (.ref p) (put S p (.lst ds)) := rfl
@[simp] theorem wList_lst (h : S a = some (.lst ds)) : wList [.ref a] S Q = ∀ p, S p = none → Q (.ref p) (put S p (.lst ds)) := by simp [wList, h]
@[simp] theorem wAt_tup {i : Int} : wAt (.tup ds) (.int i) S Q = onS (atI ds i) fun d => Q d S := rfl
@[simp] theorem wAt_fz {i : Int} : wAt (.fz ds) (.int i) S Q = onS (atI ds i) fun d => Q d S := rfl
@[simp] theorem wAt_lst {i : Int} (h : S a = some (.lst ds)) : wAt (.ref a) (.int i) S Q = onS (atI ds i) fun d => Q d S := by simp [wAt, isLst, h, wIx]
theorem wAt_dct {kvs : List (D × D)} {v : D} (h : S a = some (.dct kvs)) (f : keyFit kvs y = true) (e : dGet kvs y = some v) : wAt (.ref a) y S Q = Q v S := by simp [wAt, isLst, h, onD, rdD, f, e]
theorem wIn_dct {neg : Bool} {kvs : List (D × D)} (h : S a = some (.dct kvs)) (f : keyFit kvs x = true) : wIn neg x (.ref a) S Q = Q (.bl (neg != (dGet kvs x).isSome)) S := by simp [wIn, isLst, h, onD, rdD, f]
@[simp] theorem wSet_lst {i : Int} {v : D} {k : Sto → Prop} (h : S a = some (.lst ds)) : wSet (.ref a) (.int i) v S k = onS (ixN ds.length i) fun j => k (put S a (.lst (ds.set j v))) := by simp [wSet, h]; cases ixN ds.length i <;> rfl
@[simp] theorem wAppend_lst (h : S a = some (.lst ds)) : wAppend (.ref a) [y] S Q = (ds.length < sizeLine ∧ Q .non (put S a (.lst (ds ++ [y])))) := by simp [wAppend, h]
@[simp] theorem wExtend_tup (h : S a = some (.lst ds)) : wExtend (.ref a) [.tup es] S Q = (ds.length + es.length ≤ sizeLine ∧ Q .non (put S a (.lst (ds ++ es)))) := by simp [wExtend, h]
@[simp] theorem wExtend_lst (h : S a = some (.lst ds)) (h' : S b = some (.lst es)) : wExtend (.ref a) [.ref b] S Q = (ds.length + es.length ≤ sizeLine ∧ Q .non (put S a (.lst (ds ++ es)))) := by simp [wExtend, h, h']
@[simp] theorem tyD_lst (h : S a = some (.lst ds)) : tyD "list" (.ref a) S := by simp [tyD, h]
@[simp] theorem wIter_tup {R : List D → (Sto → Prop) → Sto → Prop} : wIterA (.tup ds) S R = R ds (fun _ => True) S := rfl
@[simp] theorem wIter_fz {R : List D → (Sto → Prop) → Sto → Prop} : wIterA (.fz ds) S R = R ds (fun _ => True) S := rfl
@[simp] theorem wIter_lst {R : List D → (Sto → Prop) → Sto → Prop} (h : S a = some (.lst ds)) : wIterA (.ref a) S R = R ds (fun S' => S' a = some (.lst ds)) S := by simp [wIterA, fdcOf, h, wIter]
@[simp] theorem wIter_fdc {R : List D → (Sto → Prop) → Sto → Prop} {o : Obj} {kvs : List (D × D)} (h : S a = some (.fdc o kvs)) : wIterA (.ref a) S R = R (kvs.map (·.1)) (fun S' => S' a = some (.fdc o kvs)) S := by simp [wIterA, fdcOf, h]
theorem ne_of_free {p : Addr} {o : AO} (h : S p = none) (h' : S a = some o) : a ≠ p := fun e => by subst e; rw [h] at h'; cases h'
@[simp] theorem put_put' {o o' : AO} : put (put S a o) a o' = put S a o' := put_put
end
end DL
namespace DL
open PySem PySem.Spec PyProof.Rows L2
mutual
def D.cl : D → Nat → Bool
  | .non, _ => true | .int _, _ => true | .str _, _ => true
  | .tup ds, n + 1 => D.cls ds n | .fz ds, n + 1 => D.cls ds n
  | _, _ => false
def D.cls : List D → Nat → Bool
  | [], _ => true
  | d :: r, n => D.cl d n && D.cls r n
end
mutual
theorem D.ok_of_cl : ∀ (d : D) (n : Nat), d.cl n = true → d.ok n = true
  | .non, _, _ => rfl | .int _, _, _ => rfl | .str _, _, _ => rfl
  | .tup ds, n + 1, h => by rw [D.ok]; rw [D.cl] at h; exact D.oks_of_cls ds n h
  | .fz ds, n + 1, h => by rw [D.ok]; rw [D.cl] at h; exact D.oks_of_cls ds n h
  | .tup _, 0, h => by simp [D.cl] at h
  | .fz _, 0, h => by simp [D.cl] at h
  | .bl _, _, h => by simp [D.cl] at h
  | .wt _, _, h => by simp [D.cl] at h
  | .ref _, _, h => by simp [D.cl] at h
  | .ty _, _, h => by simp [D.cl] at h
theorem D.oks_of_cls : ∀ (ds : List D) (n : Nat), D.cls ds n = true → D.oks ds n = true
  | [], _, _ => rfl
  | d :: r, n, h => by
    rw [D.cls, Bool.and_eq_true] at h
    rw [D.oks, D.ok_of_cl d n h.1, D.oks_of_cls r n h.2]; rfl
end
mutual
theorem D.cl_up : ∀ (d : D) (n m : Nat), n ≤ m → d.cl n = true → d.cl m = true
  | .non, _, _, _, _ => by simp [D.cl]
  | .int _, _, _, _, _ => by simp [D.cl]
  | .str _, _, _, _, _ => by simp [D.cl]
  | .tup ds, n + 1, m, hm, h => by
    obtain ⟨m', rfl⟩ : ∃ m', m = m' + 1 := ⟨m - 1, by omega⟩
    rw [D.cl] at *; exact D.cls_up ds n m' (by omega) h
  | .fz ds, n + 1, m, hm, h => by
    obtain ⟨m', rfl⟩ : ∃ m', m = m' + 1 := ⟨m - 1, by omega⟩
    rw [D.cl] at *; exact D.cls_up ds n m' (by omega) h
  | .tup _, 0, _, _, h => by simp [D.cl] at h
  | .fz _, 0, _, _, h => by simp [D.cl] at h
  | .bl _, _, _, _, h => by simp [D.cl] at h
  | .wt _, _, _, _, h => by simp [D.cl] at h
  | .ref _, _, _, _, h => by simp [D.cl] at h
  | .ty _, _, _, _, h => by simp [D.cl] at h
theorem D.cls_up : ∀ (ds : List D) (n m : Nat), n ≤ m → D.cls ds n = true → D.cls ds m = true
  | [], _, _, _, _ => by simp [D.cls]
  | d :: r, n, m, hm, h => by
    rw [D.cls, Bool.and_eq_true] at *
    exact ⟨D.cl_up d n m hm h.1, D.cls_up r n m hm h.2⟩
end
mutual
theorem rd_ok : ∀ (d : D) (n k : Nat) (S : Sto), d.ok n = true → rd k S d = d
  | _, _, 0, _, _ => by simp [rd]
  | .non, _, _ + 1, _, _ => by simp [rd]
  | .bl _, _, _ + 1, _, _ => by simp [rd]
  | .int _, _, _ + 1, _, _ => by simp [rd]
  | .str _, _, _ + 1, _, _ => by simp [rd]
  | .tup ds, n + 1, k + 1, S, h => by rw [rd, rds_ok ds n k S (by rw [D.ok] at h; exact h)]
  | .fz ds, n + 1, k + 1, S, h => by rw [rd, rds_ok ds n k S (by rw [D.ok] at h; exact h)]
  | .tup _, 0, _ + 1, _, h => by simp [D.ok] at h
  | .fz _, 0, _ + 1, _, h => by simp [D.ok] at h
  | .wt _, _, _ + 1, _, h => by simp [D.ok] at h
  | .ref _, _, _ + 1, _, h => by simp [D.ok] at h
  | .ty _, _, _ + 1, _, h => by simp [D.ok] at h
theorem rds_ok : ∀ (ds : List D) (n k : Nat) (S : Sto), D.oks ds n = true → ds.map (rd k S) = ds
  | [], _, _, _, _ => rfl
  | d :: r, n, k, S, h => by
    rw [D.oks, Bool.and_eq_true] at h
    rw [List.map_cons, rd_ok d n k S h.1, rds_ok r n k S h.2]
end
theorem rd_cl {d : D} {n k : Nat} {S : Sto} (h : d.cl n = true) : rd k S d = d := rd_ok d n k S (D.ok_of_cl d n h)
mutual
theorem eqv_cl : ∀ (a b : D) (n m : Nat), a.cl n = true → b.cl m = true → PyData.eqv a.py b.py = decide (a = b)
  | .non, b, _, _, _, h => by cases b <;> simp [D.cl, D.py, PyData.eqv] at *
  | .int i, b, _, _, _, h => by
    cases b with
    | int j => simp only [D.py, PyData.eqv, D.int.injEq]; by_cases e : i = j <;> simp [e]
    | _ => simp [D.cl, D.py, PyData.eqv] at *
  | .str x, b, _, _, _, h => by
    cases b with
    | str y => simp only [D.py, PyData.eqv, D.str.injEq]; by_cases e : x = y <;> simp [e]
    | _ => simp [D.cl, D.py, PyData.eqv] at *
  | .tup ds, b, n + 1, m, h1, h => by
    rw [D.cl] at h1
    cases b with
    | tup es =>
      cases m with
      | zero => simp [D.cl] at h
      | succ m =>
        rw [D.cl] at h
        rw [D.py, D.py, PyData.eqv, eqvs_cl ds es n m h1 h]
        simp
    | _ => simp [D.cl, D.py, PyData.eqv] at *
  | .fz ds, b, n + 1, m, h1, h => by
    rw [D.cl] at h1
    cases b with
    | fz es =>
      cases m with
      | zero => simp [D.cl] at h
      | succ m =>
        rw [D.cl] at h
        rw [D.py, D.py, PyData.eqv, eqvs_cl ds es n m h1 h]
        simp
    | _ => simp [D.cl, D.py, PyData.eqv] at *
  | .tup _, _, 0, _, h, _ => by simp [D.cl] at h
  | .fz _, _, 0, _, h, _ => by simp [D.cl] at h
  | .bl _, _, _, _, h, _ => by simp [D.cl] at h
  | .wt _, _, _, _, h, _ => by simp [D.cl] at h
  | .ref _, _, _, _, h, _ => by simp [D.cl] at h
  | .ty _, _, _, _, h, _ => by simp [D.cl] at h
theorem eqvs_cl : ∀ (a b : List D) (n m : Nat), D.cls a n = true → D.cls b m = true → PyData.eqvAll (D.pys a) (D.pys b) = decide (a = b)
  | [], [], _, _, _, _ => by simp [D.pys, PyData.eqvAll]
  | [], _ :: _, _, _, _, _ => by simp [D.pys, PyData.eqvAll]
  | _ :: _, [], _, _, _, _ => by simp [D.pys, PyData.eqvAll]
  | a :: r, b :: t, n, m, h1, h2 => by
    rw [D.cls, Bool.and_eq_true] at h1 h2
    rw [D.pys, D.pys, PyData.eqvAll, eqv_cl a b n m h1.1 h2.1, eqvs_cl r t n m h1.2 h2.2]
    by_cases e : a = b <;> by_cases e' : r = t <;> simp [e, e']
end
theorem D.cls_iff {ds : List D} {n : Nat} : D.cls ds n = true ↔ ∀ d ∈ ds, d.cl n = true := by
  induction ds with
  | nil => simp [D.cls]
  | cons d r ih => rw [D.cls, Bool.and_eq_true, ih]; simp
def Reads (S : Sto) (x c : D) : Prop := rd 6 S x = c ∧ c.cl 20 = true
theorem Reads.cl {S : Sto} {x : D} (h : x.cl 20 = true) : Reads S x x := ⟨rd_cl h, h⟩
theorem Reads.lst {S : Sto} {a : Addr} {ds : List D} (e : S a = some (.lst ds)) (h : ∀ d ∈ ds, d.cl 19 = true) : Reads S (.ref a) (.fz ds) := by
  have hc : D.cls ds 19 = true := D.cls_iff.mpr h
  exact ⟨by rw [rd, e]; simp only; rw [rds_ok ds 19 5 S (D.oks_of_cls ds 19 hc)], by rw [D.cl]; exact hc⟩
section
variable {S : Sto} {Q : KD} {x y c e : D} {neg : Bool}
theorem wEq_of (h1 : Reads S x c) (h2 : Reads S y e) : wEq x y S Q = Q (.bl (decide (c = e))) S := by
  unfold wEq
  rw [h1.1, h2.1, D.eqv, eqv_cl c e 20 20 h1.2 h2.2]
  simp [D.ok_of_cl _ _ (D.cl_up _ 20 40 (by decide) h1.2), D.ok_of_cl _ _ (D.cl_up _ 20 40 (by decide) h2.2)]
theorem wNe_of (h1 : Reads S x c) (h2 : Reads S y e) : wNe x y S Q = Q (.bl (!decide (c = e))) S := by
  unfold wNe
  rw [h1.1, h2.1, D.eqv, eqv_cl c e 20 20 h1.2 h2.2]
  simp [D.ok_of_cl _ _ (D.cl_up _ 20 40 (by decide) h1.2), D.ok_of_cl _ _ (D.cl_up _ 20 40 (by decide) h2.2)]
theorem isLst_dct {a : Addr} (h : isLst S y = true) : wIn neg x y S Q = wInS neg x y S Q := by
  unfold wIn
  rw [h]
theorem mem_any {ds : List D} {c : D} {n : Nat} (h : ∀ d ∈ ds, d.cl n = true) (hc : c.cl n = true) : (ds.any fun z => z.eqv c) = decide (c ∈ ds) := by
  induction ds with
  | nil => simp
  | cons d r ih =>
    rw [List.any_cons, ih (fun z hz => h z (List.mem_cons_of_mem _ hz)), D.eqv, eqv_cl d c n n (h d (List.mem_cons_self ..)) hc]
    by_cases e : d = c
    · simp [e]
    · have : ¬ c = d := fun z => e z.symm
      simp [e, this]
theorem wIn_tupR {ds : List D} (hl : isLst S y = true) (hs : (∃ a, x = .str a) → ¬ ∃ b, y = .str b) (h1 : Reads S x c) (h2 : Reads S y (.tup ds)) : wIn neg x y S Q = Q (.bl (neg != decide (c ∈ ds))) S := by
  have e : wInS neg x y S Q = ((rd 6 S x).ok 40 = true ∧ (rd 6 S y).ok 40 = true ∧ onI (rd 6 S y) fun ds => Q (.bl (neg != (ds.any fun z => z.eqv (rd 6 S x)))) S) := by
    unfold wInS
    split
    · exact absurd ⟨_, rfl⟩ (hs ⟨_, rfl⟩)
    · rfl
  rw [isLst_dct (a := 0) hl, e, h1.1, h2.1]
  have h3 := h2.2
  rw [D.cl] at h3
  have hx := h1.2
  simp only [onI, D.items?]
  rw [mem_any (n := 20) (D.cls_iff.mp (D.cls_up _ 19 20 (by decide) h3)) hx]
  have z : (D.tup ds).ok 40 = true := D.ok_of_cl _ _ (D.cl_up _ 20 40 (by decide) h2.2)
  simp [D.ok_of_cl _ _ (D.cl_up _ 20 40 (by decide) h1.2), z]
theorem wIn_tup {ds : List D} (h1 : Reads S x c) (h2 : ∀ d ∈ ds, d.cl 19 = true) : wIn neg x (.tup ds) S Q = Q (.bl (neg != decide (c ∈ ds))) S :=
  wIn_tupR rfl (fun _ ⟨_, z⟩ => nomatch z) h1 (.cl (by rw [D.cl]; exact D.cls_iff.mpr h2))
end
theorem ints_cl {ns : List Int} {n : Nat} : ∀ d ∈ ns.map D.int, d.cl n = true := fun d hd => by
  obtain ⟨i, _, rfl⟩ := List.mem_map.mp hd
  simp [D.cl]
theorem int_inj {a b : Int} (h : D.int a = D.int b) : a = b := by cases h; rfl
@[simp] theorem ints_eq {a b : List Int} : a.map D.int = b.map D.int ↔ a = b := ⟨fun h => List.map_inj_right (fun _ _ => int_inj) |>.mp h, fun h => by rw [h]⟩
@[simp] theorem mem_ints {a : Int} {b : List Int} : D.int a ∈ b.map D.int ↔ a ∈ b := by simp
theorem atI_nat {α : Type} {xs : List α} {i : Nat} (h : i < xs.length) : atI xs (i : Int) = some xs[i] := by
  unfold atI ixN
  rw [if_pos (by omega), if_pos (by omega)]
  simp [h]
theorem atI_int {α : Type} {xs : List α} {i : Int} (h0 : 0 ≤ i) (h : i < xs.length) : atI xs i = some (xs[i.toNat]'(by omega)) := by
  unfold atI ixN
  rw [if_pos h0, if_pos h]
  have : i.toNat < xs.length := by omega
  simp [this]
theorem atI_last {α : Type} {xs : List α} (h : xs ≠ []) : atI xs (-1) = xs.getLast? := by
  have : 0 < xs.length := List.length_pos_iff.mpr h
  unfold atI ixN
  rw [if_neg (by decide), if_pos (by omega), List.getLast?_eq_getElem?]
  simp
  congr 1
  omega
@[simp] theorem atI0 {α : Type} {x : α} {r : List α} : atI (x :: r) 0 = some x := by
  have := atI_nat (xs := x :: r) (i := 0) (by simp)
  simpa using this
@[simp] theorem atI1 {α : Type} {x y : α} {r : List α} : atI (x :: y :: r) 1 = some y := by
  have := atI_nat (xs := x :: y :: r) (i := 1) (by simp)
  simpa using this
@[simp] theorem atI2 {α : Type} {x y z : α} {r : List α} : atI (x :: y :: z :: r) 2 = some z := by
  have := atI_nat (xs := x :: y :: z :: r) (i := 2) (by simp)
  simpa using this
@[simp] theorem atI3 {α : Type} {x y z u : α} {r : List α} : atI (x :: y :: z :: u :: r) 3 = some u := by
  have := atI_nat (xs := x :: y :: z :: u :: r) (i := 3) (by simp)
  simpa using this
theorem rngD_eq (n : Nat) : ∀ k : Int, rngD k n = (List.range n).map fun i : Nat => D.int (k + (i : Int)) := by
  induction n with
  | zero => intro k; rfl
  | succ n ih =>
    intro k
    rw [rngD, ih, List.range_succ_eq_map, List.map_cons, List.map_map]
    simp only [Function.comp_def, List.cons.injEq, List.map_inj_left]
    refine ⟨by simp, fun i _ => ?_⟩
    congr 1
    omega
theorem loop_map {β : Type} {g : DTG} {tb : DTS} {Dn : DEnds} {stab : Sto → Prop} (f : β → D) (I : List β → DSt → Sto → Prop) {xs : List β}
    (hst : ∀ done τ S, I done τ S → stab S) (hend : ∀ τ S, I xs τ S → Dn.nx τ S)
    (step : ∀ done x rest τ S, xs = done ++ x :: rest → I done τ S → ∀ N : DSt → Sto → Prop, (∀ τ' S', I (done ++ [x]) τ' S' → N τ' S') → g (f x) τ S fun τ2 S2 => tb { Dn with nx := N, ct := N, bk := Dn.nx } τ2 S2) :
    ∀ {τ : DSt} {S : Sto}, I [] τ S → loopF g tb Dn stab (xs.map f) τ S := by
  have main : ∀ (rest done : List β), xs = done ++ rest → ∀ τ S, I done τ S → loopF g tb Dn stab (rest.map f) τ S := by
    intro rest
    induction rest with
    | nil => intro done e τ S h; rw [List.append_nil] at e; subst e; exact ⟨hst _ _ _ h, hend _ _ h⟩
    | cons d rest ih =>
      intro done e τ S h
      exact ⟨hst _ _ _ h, step done d rest τ S e h _ fun τ' S' h' => ih (done ++ [d]) (by rw [e, List.append_assoc]; rfl) τ' S' h'⟩
  intro τ S h
  exact main xs [] rfl τ S h
theorem rngD_map (n : Nat) : rngD 0 n = (List.range n).map fun i : Nat => D.int (i : Int) := by rw [rngD_eq]; simp
theorem while_of {c : DTT} {tb : DTS} {Dn : DEnds} (I : Nat → DSt → Sto → Prop)
    (step : ∀ n τ S, I n τ S → ∀ N : DSt → Sto → Prop, (∀ m τ' S', m < n → I m τ' S' → N τ' S') → c τ S fun b S1 => if b = true then tb { Dn with nx := N, ct := N, bk := Dn.nx } τ S1 else Dn.nx τ S1) :
    ∀ {n : Nat} {τ : DSt} {S : Sto}, I n τ S → dWhile c tb Dn τ S := by
  have main : ∀ (k n : Nat) τ S, n < k → I n τ S → whF c tb Dn k τ S := by
    intro k
    induction k with
    | zero => intro n τ S h; omega
    | succ k ih => exact fun n τ S h hi => step n τ S hi _ fun m τ' S' hm hi' => ih m τ' S' (by omega) hi'
  intro n τ S h
  exact ⟨n + 1, main (n + 1) n τ S (Nat.lt_succ_self n) h⟩
theorem lc_map {β : Type} {g : DTG} {tt : DTT} {vs : List Nat} {te : DTE} {D' : Addr} {stab : Sto → Prop} {τ : DSt} {S : Sto} {k : Sto → Prop} (enc : β → D) (f : β → List D) (xs : List β)
    (hst : ∀ o, stab (put S D' o)) (hz : ((xs.flatMap f).length) ≤ sizeLine)
    (step : ∀ x ∈ xs, ∀ (acc : List D) (k : Sto → Prop), acc.length + (f x).length ≤ sizeLine → k (put S D' (.lst (acc ++ f x))) → g (enc x) τ (put S D' (.lst acc)) fun τ2 S2 => wipeD τ2 vs = τ ∧ tt τ2 S2 fun b S3 => if b = true then emLst te D' τ2 S3 k else k S3)
    (hk : k (put S D' (.lst (xs.flatMap f)))) : loopC g tt vs (compR [] (emLst te D')) stab (xs.map enc) τ (put S D' (.lst [])) k := by
  have main : ∀ (rest done : List β), xs = done ++ rest → loopC g tt vs (compR [] (emLst te D')) stab (rest.map enc) τ (put S D' (.lst (done.flatMap f))) k := by
    intro rest
    induction rest with
    | nil => intro done e; rw [List.append_nil] at e; subst e; exact ⟨hst _, hk⟩
    | cons d rest ih =>
      intro done e
      have hd : d ∈ xs := by rw [e]; simp
      have hlen : (done.flatMap f).length + (f d).length ≤ sizeLine := by
        rw [e] at hz
        simp only [List.flatMap_append, List.flatMap_cons, List.length_append] at hz
        omega
      have e2 : (done ++ [d]).flatMap f = done.flatMap f ++ f d := by simp
      have e3 := ih (done ++ [d]) (by rw [e, List.append_assoc]; rfl)
      rw [e2] at e3
      exact ⟨hst _, step d hd _ _ hlen e3⟩
  exact main xs [] rfl
theorem loopC_map {β : Type} {g : DTG} {tt : DTT} {vs : List Nat} {inner : DEmT} {stab : Sto → Prop} {τ : DSt} {k : Sto → Prop} (enc : β → D) (I : List β → Sto → Prop) {xs : List β}
    (hst : ∀ done S, I done S → stab S) (hend : ∀ S, I xs S → k S)
    (step : ∀ done x rest S, xs = done ++ x :: rest → I done S → ∀ N : Sto → Prop, (∀ S', I (done ++ [x]) S' → N S') → g (enc x) τ S fun τ2 S2 => wipeD τ2 vs = τ ∧ tt τ2 S2 fun b S3 => if b = true then inner τ2 S3 N else N S3) :
    ∀ {S : Sto}, I [] S → loopC g tt vs inner stab (xs.map enc) τ S k := by
  have main : ∀ (rest done : List β), xs = done ++ rest → ∀ S, I done S → loopC g tt vs inner stab (rest.map enc) τ S k := by
    intro rest
    induction rest with
    | nil => intro done e S h; rw [List.append_nil] at e; subst e; exact ⟨hst _ _ h, hend _ h⟩
    | cons d rest ih =>
      intro done e S h
      exact ⟨hst _ _ h, step done d rest S e h _ fun S' h' => ih (done ++ [d]) (by rw [e, List.append_assoc]; rfl) S' h'⟩
  intro S h
  exact main xs [] rfl S h
@[simp] theorem emDct_eq {tk tv : DTE} {D' : Addr} {τ : DSt} {S : Sto} {k : Sto → Prop} : emDct tk tv D' τ S k = tk τ S fun kd S1 => tv τ S1 fun vd S2 => match S2 D' with
  | some (.dct kvs) => keyFitW kvs kd = true ∧ kvs.length < sizeLine ∧ k (put S2 D' (.dct (dPut kvs kd vd)))
  | _ => False := rfl
@[simp] theorem compR_nil {em : DEmT} : compR [] em = em := rfl
@[simp] theorem compR_cons {wi : DTI} {g : DTG} {tt : DTT} {vs : List Nat} {rs : List ClT} {em : DEmT} {τ : DSt} {S : Sto} {k : Sto → Prop} : compR ((wi, g, tt, vs) :: rs) em τ S k = wi τ S fun ds stab S1 => loopC g tt vs (compR rs em) stab ds τ S1 k := rfl
theorem flatMap_le {α β : Type} (f : α → List β) (n : Nat) : ∀ xs : List α, (∀ x ∈ xs, (f x).length ≤ n) → (xs.flatMap f).length ≤ n * xs.length
  | [], _ => by simp
  | x :: xs, h => by
    have := flatMap_le f n xs fun z hz => h z (List.mem_cons_of_mem _ hz)
    have := h x (List.mem_cons_self ..)
    simp only [List.flatMap_cons, List.length_append, List.length_cons, Nat.mul_add]
    omega
@[simp] theorem emLst_eq {te : DTE} {D' : Addr} {τ : DSt} {S : Sto} {k : Sto → Prop} : emLst te D' τ S k = te τ S fun y S1 => onL S1 D' fun acc => acc.length < sizeLine ∧ k (put S1 D' (.lst (acc ++ [y]))) := rfl
end DL
namespace DL
open PySem PySem.Spec PyProof.Rows L2
def Keeps (t : Addr) (S S' : Sto) : Prop := ∀ a o, a ≠ t → S a = some o → S' a = some o
theorem Keeps.refl {t : Addr} {S : Sto} : Keeps t S S := fun _ _ _ h => h
theorem Keeps.trans {t : Addr} {S S1 S2 : Sto} (h : Keeps t S S1) (k : Keeps t S1 S2) : Keeps t S S2 := fun a o z e => k a o z (h a o z e)
theorem Keeps.new {t p : Addr} {S : Sto} {o : AO} (h : S p = none) : Keeps t S (put S p o) := fun a u z e => by
  rw [put_ne (fun y => by subst y; rw [h] at e; cases e)]; exact e
theorem Keeps.then {t p : Addr} {S S1 : Sto} {o : AO} (k : Keeps t S S1) (h : S p = none) : Keeps t S (put S1 p o) := fun a u z e => by
  rw [put_ne (fun y => by subst y; rw [h] at e; cases e)]; exact k a u z e
theorem Keeps.free {t p : Addr} {S S1 : Sto} (k : Keeps t S S1) (h : S1 p = none) (hpt : p ≠ t) : S p = none := by
  cases e : S p with
  | none => rfl
  | some o => rw [k p o hpt e] at h; cases h
theorem cutD_map {f : Int → D} {ns : List Int} {lo hi : Option Int} : ∃ ms : List Int, cutD (ns.map f) lo hi = ms.map f := ⟨(ns.drop (HT.sIx (ns.map f).length 0 lo)).take (HT.sIx (ns.map f).length (ns.map f).length hi - HT.sIx (ns.map f).length 0 lo), by
  unfold cutD
  rw [← List.map_drop, ← List.map_take]⟩
@[simp] theorem wCut_fz {ds : List D} {lo hi : Option Int} {S : Sto} {Q : KD} : wCut (.fz ds) lo hi S Q = ∀ p, S p = none → Q (.ref p) (put S p (.lst (cutD ds lo hi))) := rfl
@[simp] theorem wCut_tup {ds : List D} {lo hi : Option Int} {S : Sto} {Q : KD} : wCut (.tup ds) lo hi S Q = Q (.tup (cutD ds lo hi)) S := rfl
@[simp] theorem wCut_lst {a : Addr} {ds : List D} {lo hi : Option Int} {S : Sto} {Q : KD} (h : S a = some (.lst ds)) : wCut (.ref a) lo hi S Q = ∀ p, S p = none → Q (.ref p) (put S p (.lst (cutD ds lo hi))) := by simp [wCut, onL_eq h]
end DL
namespace DL
open PySem PySem.Spec PyProof.Rows L2
theorem flatMap_one {α β : Type} (f : α → β) : ∀ xs : List α, (xs.flatMap fun x => [f x]) = xs.map f
  | [] => rfl
  | x :: r => by rw [List.flatMap_cons, flatMap_one f r]; rfl
theorem range_split {n i : Nat} {d r : List Nat} (h : List.range n = d ++ i :: r) : i = d.length ∧ d.length < n := by
  have hl := congrArg List.length h
  simp at hl
  have h1 : (List.range n)[d.length]? = some i := by rw [h]; simp
  rw [List.getElem?_range (by omega)] at h1
  exact ⟨(Option.some.inj h1).symm, by omega⟩
@[simp] theorem wNe_int {S : Sto} {Q : KD} {a b : Int} : wNe (.int a) (.int b) S Q = Q (.bl (!decide (a = b))) S := by
  rw [wNe_of (.cl rfl) (.cl rfl)]; simp
@[simp] theorem wEq_int {S : Sto} {Q : KD} {a b : Int} : wEq (.int a) (.int b) S Q = Q (.bl (decide (a = b))) S := by
  rw [wEq_of (.cl rfl) (.cl rfl)]; simp
@[simp] theorem wNe_str {S : Sto} {Q : KD} {a b : Str} : wNe (.str a) (.str b) S Q = Q (.bl (!decide (a = b))) S := by
  rw [wNe_of (.cl rfl) (.cl rfl)]; simp
@[simp] theorem wEq_str {S : Sto} {Q : KD} {a b : Str} : wEq (.str a) (.str b) S Q = Q (.bl (decide (a = b))) S := by
  rw [wEq_of (.cl rfl) (.cl rfl)]; simp
end DL
namespace DL
open PySem PySem.Spec PyProof.Rows L2
structure CalK (P : Program) (w : World) (K : PySem.W.Frag) (mg : Str → Option Value) (base : Heap) (k : Nat) (x : Str) (sp : DSp) (ks : List Str) (gD : List D → List D → List D) : Prop where
  ex : ∃ (f : Addr) (fd : FuncData) (ps : List Str) (g : List Value → List Value → List Value) (gV : List V → List V → List V), FnD P w K mg base k f fd ps sp ∧ mg x = some (.ref f) ∧ PySem.W.keepIn K (.ref f) = true ∧ KBinds K fd ps ks g gV ∧
    ∀ H vs zs ds es, RelDs ⟨K, P, w⟩ H vs ds → RelDs ⟨K, P, w⟩ H zs es → RelDs ⟨K, P, w⟩ H (gV vs zs) (gD ds es)
end DL
namespace DL
open PySem PySem.Spec PyProof.Rows L2
def kwG {α : Type} (n m : Nat) (xs ys : List α) : List α := if xs.length = n ∧ ys.length = m then xs ++ ys else []
theorem kwG_rel {K : KW} {H : Hp} {n m : Nat} {vs zs : List V} {ds es : List D} (r : RelDs K H vs ds) (q : RelDs K H zs es) : RelDs K H (kwG n m vs zs) (kwG n m ds es) := by
  unfold kwG
  rw [r.length, q.length]
  split
  · exact r.append q
  · exact .nil
section
variable {P : Program} {w : World} {K : PySem.W.Frag} {mg : Str → Option Value} {base : Heap}
theorem CalK.of {x : Str} {st : Stmt} {f : Addr} {fd : FuncData} {N ps ks : List Str} {n k : Nat} {sp : DSp} (F : Fun K x x st f fd) (S : FnScope N ps (defScope st)) (hm : mg x = some (.ref f)) (hb : KBinds K fd ps ks (kwG n ks.length) (kwG n ks.length)) (len : ∀ ds S Q E, sp ds S Q E → ds.length = ps.length)
    (hbody : ∀ (cdv : Value) (A : Around) (outer : List Env) (s : Shared) (H : Hp) (ds : List D) (So : Sto) (Q : KD) (E : KX), Room k (A.deeper (envOfC x (defScope st) s.heap.objs.size f cdv)) → (A.deeper (envOfC x (defScope st) s.heap.objs.size f cdv)).guards = some [] → sp ds So Q E →
      ∃ t, DSs (cxOf (CX P w) P w K mg base N x (defScope st) f cdv A outer s H (UpX ⟨K, P, w⟩ H E)).nox (defBody st) t ∧ t (bodyEnds Q) (startD N ds) So) : CalK P w K mg base (k + 1) x sp ks (kwG n ks.length) :=
  ⟨f, fd, ps, _, _, FnD.of F S len (fun cdv A outer s H ds So Q E hr hg hs => let ⟨t, a, b⟩ := hbody cdv A outer s H ds So Q E hr hg hs; ⟨t, a.nox, b⟩), hm, F.kp, hb, fun _ _ _ _ _ r q => kwG_rel r q⟩
end
end DL
namespace DL
open PySem PySem.Spec PyProof.Rows L2
def leP (p q : Int × Int) : Prop := p.1 < q.1 ∨ (p.1 = q.1 ∧ p.2 ≤ q.2)
instance (p q : Int × Int) : Decidable (leP p q) := by unfold leP; infer_instance
theorem leP.trans {p q r : Int × Int} (a : leP p q) (b : leP q r) : leP p r := by unfold leP at *; omega
end DL
namespace DL
open PySem PySem.Spec PyProof.Rows L2
def inF (S S1 : Sto) (a : Addr) : Prop := S1 a = none ∧ S a ≠ none
noncomputable instance {S S1 : Sto} {a : Addr} : Decidable (inF S S1 a) := Classical.propDecidable _
noncomputable def over (S S1 S' : Sto) : Sto := fun a => if inF S S1 a then S a else S' a
def Sub (S1 S : Sto) : Prop := ∀ a o, S1 a = some o → S a = some o
def frmG (sp : DSp) : DSp := fun ds S Q E => ∃ S1 Q0 E0, Sub S1 S ∧ sp ds S1 Q0 E0 ∧ (∀ d S', Q0 d S' → (∀ a, inF S S1 a → S' a = none) → ∃ S2, Sub S2 (over S S1 S') ∧ Q d S2) ∧ ∀ c fs S', E0 c fs S' → (∀ a, inF S S1 a → S' a = none) → ∃ S2, Sub S2 (over S S1 S') ∧ E c fs S2
theorem HR.less {K : KW} {H : Hp} {S S' : Sto} (h : HR K H S') (g : Sub S S') : HR K H S := fun a o e => h a o (g a o e)
section
variable {P : Program} {w : World} {K : PySem.W.Frag} {mg : Str → Option Value} {base : Heap} {S S1 S' : Sto} {H H1' : Hp} {h h2 : Heap}
noncomputable def hideF (S S1 : Sto) (H : Hp) : Hp := fun b => if inF S S1 b then none else H b
noncomputable def backF (S S1 : Sto) (H H1' : Hp) : Hp := fun b => if inF S S1 b then H b else H1' b
theorem hide_in {b : Addr} (z : inF S S1 b) : hideF S S1 H b = none := if_pos z
theorem hide_out {b : Addr} (z : ¬ inF S S1 b) : hideF S S1 H b = H b := if_neg z
theorem back_in {b : Addr} (z : inF S S1 b) : backF S S1 H H1' b = H b := if_pos z
theorem back_out {b : Addr} (z : ¬ inF S S1 b) : backF S S1 H H1' b = H1' b := if_neg z
def plainO : HO → Bool
  | .lst _ => true | .dK _ => true | .ext _ => true
  | .frz _ (.dK _) => true | .frz _ (.ext _) => true
  | .tbl _ => true | .xd _ => true
  | _ => false
theorem inF_obj (hR : HR ⟨K, P, w⟩ H S) {b : Addr} (z : inF S S1 b) : ∃ u, H b = some u ∧ plainO u = true := by
  cases e : S b with
  | none => exact absurd e z.2
  | some o =>
    have := hR b o e
    cases o with
    | lst ds => obtain ⟨vs, q, _⟩ := this; exact ⟨_, q, rfl⟩
    | dct kvs => rcases this with ⟨es, q, _⟩ | ⟨xs, q, _⟩ <;> exact ⟨_, q, rfl⟩
    | fdc o kvs => rcases this with ⟨es, q, _⟩ | ⟨xs, q, _⟩ <;> exact ⟨_, q, rfl⟩
    | set ds => obtain ⟨_, _, _, q⟩ := this; exact ⟨_, q, rfl⟩
    | tab ps => exact ⟨_, this, rfl⟩
    | cod q => exact ⟨_, this, rfl⟩
    | exc fs => obtain ⟨_, q, _⟩ := this; exact ⟨_, q, rfl⟩
theorem hide_keep (hR : HR ⟨K, P, w⟩ H S) {b : Addr} {u : HO} (e : H b = some u) (n : plainO u = false) : hideF S S1 H b = some u := by
  rw [hide_out fun z => by
    obtain ⟨u', e', n'⟩ := inF_obj hR z
    rw [e] at e'; cases e'; rw [n] at n'; cases n']
  exact e
theorem hide_none {b : Addr} (e : H b = none) : hideF S S1 H b = none := by
  unfold hideF; split
  · rfl
  · exact e
theorem stays_plain {u : HO} (h : stays u = true) : plainO u = false := by
  cases u with
  | frz o v => cases v <;> first | rfl | (simp [stays] at h; done)
  | _ => first | rfl | (simp [stays] at h; done)
theorem hide_ev (hR : HR ⟨K, P, w⟩ H S) : Ev H (hideF S S1 H) := fun b u e z => hide_keep hR e (stays_plain z)
theorem hide_hr (hR : HR ⟨K, P, w⟩ H S) (sub : Sub S1 S) : HR ⟨K, P, w⟩ (hideF S S1 H) S1 := fun a o e =>
  (hR a o (sub a o e)).ev (hide_ev hR) fun u hu => by rw [hide_out fun z => by rw [z.1] at e; cases e]; exact hu
theorem hide_ok (hR : HR ⟨K, P, w⟩ H S) (ok : HOk P w H h) : HOk P w (hideF S S1 H) h := fun a o e => by
  have n : ¬ inF S S1 a := fun z => by rw [hide_in z] at e; cases e
  rw [hide_out n] at e
  exact (ok a o e).stay (fun _ _ _ q => q) (fun b q => hide_keep hR q rfl) fun b xs q => hide_keep hR q rfl
theorem back_ev (hR : HR ⟨K, P, w⟩ H S) (e1 : Ev (hideF S S1 H) H1') : Ev H (backF S S1 H H1') := fun b u e z => by
  have n : ¬ inF S S1 b := fun q => by
    obtain ⟨u', e', n'⟩ := inF_obj hR q
    rw [e] at e'; cases e'; rw [stays_plain z] at n'; cases n'
  rw [back_out n]
  exact e1 b u (by rw [hide_out n]; exact e) z
theorem back_ev2 (fr : ∀ b, inF S S1 b → H1' b = none) : Ev H1' (backF S S1 H H1') := fun b u e z => by
  rw [back_out fun q => by rw [fr b q] at e; cases e]; exact e
theorem back_ok (hR : HR ⟨K, P, w⟩ H S) (ok : HOk P w H h) (ok2 : HOk P w H1' h2) (fr : ∀ b, inF S S1 b → H1' b = none) (kp : ∀ b o, inF S S1 b → h.get? b = some o → h2.get? b = some o) : HOk P w (backF S S1 H H1') h2 := fun a o e => by
  by_cases z : inF S S1 a
  · rw [back_in z] at e
    obtain ⟨u, e', n⟩ := inF_obj hR z
    rw [e] at e'; cases e'
    have x := ok a o e
    cases o with
    | lst xs => obtain ⟨y, its, n, r, e⟩ := x; exact ⟨y, its, n, r, kp _ _ z e⟩
    | dK kvs => obtain ⟨y1, y, vs, r, ob, es, ep, e, c⟩ := x; exact ⟨y1, y, vs, r, ob, es, ep, kp _ _ z e, c⟩
    | ext φ => obtain ⟨p, ⟨o, e⟩, st⟩ := x; exact ⟨st _ _ p fun o q => kp _ _ z q, ⟨o, kp _ _ z e⟩, st⟩
    | tbl ps => exact kp _ _ z x
    | xd vs => obtain ⟨mA, ⟨o, es, ep, e, r⟩, q⟩ := x; exact ⟨mA, ⟨o, es, ep, kp _ _ z e, r⟩, q⟩
    | frz ob u =>
      cases u with
      | dK kvs => obtain ⟨e0, y1, y, vs, r, ob, es, ep, e, c⟩ := x; exact ⟨kp _ _ z e0, y1, y, vs, r, ob, es, ep, kp _ _ z e, c⟩
      | ext φ => obtain ⟨e0, p, ⟨o, e⟩, st⟩ := x; exact ⟨kp _ _ z e0, st _ _ p fun o q => kp _ _ z q, ⟨o, kp _ _ z e⟩, st⟩
      | _ => simp [plainO] at n
    | _ => simp [plainO] at n
  · rw [back_out z] at e
    exact (ok2 a o e).stay (fun _ _ _ q => q) (fun b q => by rw [back_out fun y => by rw [fr b y] at q; cases q]; exact q) fun b xs q => by rw [back_out fun y => by rw [fr b y] at q; cases q]; exact q
theorem back_free (hR1 : HR ⟨K, P, w⟩ H1' S') (fr : ∀ b, inF S S1 b → H1' b = none) : ∀ a, inF S S1 a → S' a = none := fun a z => hR1.free (fr a z)
theorem back_hr (hR : HR ⟨K, P, w⟩ H S) (hR1 : HR ⟨K, P, w⟩ H1' S') (e1 : Ev (hideF S S1 H) H1') (fr : ∀ b, inF S S1 b → H1' b = none) : HR ⟨K, P, w⟩ (backF S S1 H H1') (over S S1 S') := fun a o e => by
  by_cases z : inF S S1 a
  · unfold over at e; rw [if_pos z] at e
    exact (hR a o e).ev (back_ev hR e1) fun u hu => by rw [back_in z]; exact hu
  · unfold over at e; rw [if_neg z] at e
    exact (hR1 a o e).ev (back_ev2 fr) fun u hu => by rw [back_out z]; exact hu
theorem FnD.frameG {k : Nat} {f : Addr} {fd : FuncData} {ps : List Str} {sp : DSp} (F : FnD P w K mg base k f fd ps sp) : FnD P w K mg base k f fd ps (frmG sp) := by
  refine ⟨fun ds S Q E ⟨S1, _, _, _, q, _⟩ => F.len _ _ _ _ q, fun A outer s H args us vs ds S Q E hr hg e0 hb hv hd hR ⟨S1, Q0, E0, sub, hsp, hQ, hE⟩ => ?_⟩
  have e01 : Env0 P w K mg base A outer s (hideF S S1 H) := ⟨e0.frames, e0.mod, fun b o e => ⟨(e0.bs b o e).1, hide_none (e0.bs b o e).2⟩, e0.bsz, e0.funs, fun b hb => hide_none (e0.frf b hb), hide_ok hR e0.hok, e0.bare⟩
  have nfr : ∀ b, inF S S1 b → b ∉ frs outer := fun b z hm => by
    obtain ⟨u, e, _⟩ := inF_obj hR z
    rw [e0.frf b hm] at e; cases e
  have got : ∀ b, inF S S1 b → ∃ o, s.heap.get? b = some o := fun b z => by
    obtain ⟨u, e, n⟩ := inF_obj hR z
    have x := e0.hok b u e
    cases u with
    | lst xs => obtain ⟨y, its, n, r, e⟩ := x; exact ⟨_, e⟩
    | dK kvs => obtain ⟨y1, y, vs, r, ob, es, ep, e, c⟩ := x; exact ⟨_, e⟩
    | ext φ => obtain ⟨p, ⟨o, e⟩, st⟩ := x; exact ⟨_, e⟩
    | tbl ps => exact ⟨_, x⟩
    | xd vs => obtain ⟨mA, ⟨o, es, ep, e, r⟩, q⟩ := x; exact ⟨_, e⟩
    | frz ob u => exact ⟨_, x.1⟩
    | _ => simp [plainO] at n
  refine codeAny_mono (F.run A outer s (hideF S S1 H) args us vs ds S1 _ _ hr hg e01 hb hv (hd.ev (hide_ev hR)) (hide_hr hR sub) hsp) fun r s' z => ?_
  cases r with
  | error e =>
    obtain ⟨a, B, H1', cls, d, rfl, fly, ok2, ub, na, os, bare, ev, fs, S', hR', hd', q⟩ := (show CX P w outer (hideF S S1 H) s _ e s' from z)
    have fr : ∀ b, inF S S1 b → H1' b = none := fun b z => by
      obtain ⟨o, e⟩ := got b z
      exact ub.free b o e (hide_in z)
    have kp : ∀ b o, inF S S1 b → s.heap.get? b = some o → B.get? b = some o := fun b o z e => ub.keep b o e (hide_in z) (nfr b z)
    have nb : ∀ b, (∀ u, plainO u = true → H b ≠ some u) → ¬ inF S S1 b := fun b h z => by
      obtain ⟨u, e, n⟩ := inF_obj hR z; exact h u n e
    obtain ⟨S2, sub2, q2⟩ := hE _ _ _ q (back_free hR' fr)
    refine (show CX P w outer H s _ _ s' from ⟨a, B, backF S S1 H H1', cls, d, rfl, fly, back_ok hR e0.hok ok2 fr kp, ⟨?_, ub.slot, ?_, ub.there, ?_, ?_, ?_⟩, ?_, os, bare, back_ev hR ev, fs, S2, (back_hr hR hR' ev fr).less sub2, ?_, q2⟩)
    · exact fun b o e n hm => ub.keep b o e (hide_none n) hm
    · intro b o e n
      rw [back_out (fun z => by obtain ⟨u, e', _⟩ := inF_obj hR z; rw [n] at e'; cases e')]
      exact ub.free b o e (hide_none n)
    · intro b xs e
      have n := nb b fun u hu e' => by rw [e] at e'; cases e'; cases hu
      rw [back_out n]
      exact ub.tups b xs (by rw [hide_out n]; exact e)
    · intro b o xs e
      by_cases n : inF S S1 b
      · rw [back_in n]; exact e
      · rw [back_out n]
        exact ub.frzs b o xs (by rw [hide_out n]; exact e)
    · intro b ps e
      by_cases n : inF S S1 b
      · exact ⟨#[], by rw [back_in n, Array.append_empty]; exact e⟩
      obtain ⟨more, e2⟩ := ub.tbls b ps (by rw [hide_out n]; exact e)
      exact ⟨more, by rw [back_out n]; exact e2⟩
    · by_cases n : inF S S1 a
      · exfalso
        obtain ⟨o, e⟩ := got a n
        have e2 := kp a o n e
        rw [fly.2.1] at e2; cases e2
      · rw [back_out n]; exact na
    · rcases hd' with h | ⟨dd, ws, h1, h2, h3⟩
      · exact .inl h
      · exact .inr ⟨dd, ws, h1, (by rw [back_out fun z => by rw [fr dd z] at h2; cases h2]; exact h2), h3.ev (back_ev2 fr)⟩
  | ok fl =>
    cases fl with
    | next => exact z.elim
    | brk => exact z.elim
    | cont => exact z.elim
    | ret u =>
      obtain ⟨v, H1', os, bare, un, ok2, rv, ev, d, S', hR', rd, q⟩ := (show CE outer P w (hideF S S1 H) s _ u s' from z)
      have fr : ∀ b, inF S S1 b → H1' b = none := fun b z => by
        obtain ⟨o, e⟩ := got b z
        exact un.free b o e (hide_in z) (fun q => nomatch q)
      have kp : ∀ b o, inF S S1 b → s.heap.get? b = some o → s'.heap.get? b = some o := fun b o z e => un.keep b o e (hide_in z) (nfr b z) (fun q => nomatch q)
      have nb : ∀ b, (∀ u, plainO u = true → H b ≠ some u) → ¬ inF S S1 b := fun b h z => by
        obtain ⟨u, e, n⟩ := inF_obj hR z; exact h u n e
      obtain ⟨S2, sub2, q2⟩ := hQ _ _ q (back_free hR' fr)
      refine (show CE outer P w H s _ u s' from ⟨v, backF S S1 H H1', os, bare, ⟨?_, ?_, ?_, un.there, ?_, ?_, ?_⟩, back_ok hR e0.hok ok2 fr kp, rv, back_ev hR ev, d, S2, (back_hr hR hR' ev fr).less sub2, rd.ev (back_ev2 fr), q2⟩)
      · exact fun b o e n h1 h2 => un.keep b o e (hide_none n) h1 h2
      · exact fun b o e n h1 h2 => un.slot b o e (hide_none n) h1 h2
      · intro b o e n h
        rw [back_out (fun z => by obtain ⟨u, e', _⟩ := inF_obj hR z; rw [n] at e'; cases e')]
        exact un.free b o e (hide_none n) h
      · intro b xs e
        have n := nb b fun u hu e' => by rw [e] at e'; cases e'; cases hu
        rw [back_out n]
        exact un.tups b xs (by rw [hide_out n]; exact e)
      · intro b o xs e
        by_cases n : inF S S1 b
        · rw [back_in n]; exact e
        · rw [back_out n]
          exact un.frzs b o xs (by rw [hide_out n]; exact e)
      · intro b ps e
        by_cases n : inF S S1 b
        · exact ⟨#[], by rw [back_in n, Array.append_empty]; exact e⟩
        obtain ⟨more, e2⟩ := un.tbls b ps (by rw [hide_out n]; exact e)
        exact ⟨more, by rw [back_out n]; exact e2⟩
def pur (sp : DSp) : DSp := fun ds S Q E => sp ds (fun _ => none) (fun d _ => Q d S) (fun c fs _ => E c fs S)
theorem over_all {a : Addr} {o : AO} (h : S a = some o) : over S (fun _ => none) S' a = some o := by
  unfold over; rw [if_pos ⟨rfl, by rw [h]; simp⟩, h]
theorem FnD.pure {k : Nat} {f : Addr} {fd : FuncData} {ps : List Str} {sp : DSp} (F : FnD P w K mg base k f fd ps sp) : FnD P w K mg base k f fd ps (pur sp) :=
  F.frameG.imp fun ds S Q E h => ⟨fun _ => none, _, _, (fun _ _ z => by cases z), h, fun d S' q _ => ⟨S, fun _ _ z => over_all z, q⟩, fun c fs S' q _ => ⟨S, fun _ _ z => over_all z, q⟩⟩
end
end DL
namespace DL
open PySem PySem.Spec PyProof.Rows L2
section
variable {P : Program} {w : World} {K : PySem.W.Frag} {mg : Str → Option Value} {base : Heap} {k : Nat} {x : Str} {sp : DSp} {dds : List D}
theorem CalD.pure (C : CalD P w K mg base k x sp dds) : CalD P w K mg base k x (pur sp) dds :=
  let ⟨f, fd, ps, dfl, a, b⟩ := C.ex; ⟨f, fd, ps, dfl, a.pure, b⟩
theorem CalK.pure {ks : List Str} {g : List D → List D → List D} (C : CalK P w K mg base k x sp ks g) : CalK P w K mg base k x (pur sp) ks g :=
  let ⟨f, fd, ps, g, gV, a, b⟩ := C.ex; ⟨f, fd, ps, g, gV, a.pure, b⟩
end
section
variable {S S1 S' : Sto} {a : Addr} {o : AO}
def only (S : Sto) (as : List Addr) : Sto := fun a => if a ∈ as then S a else none
end
end DL
namespace DL
open PySem PySem.Spec PyProof.Rows L2
def del (S : Sto) (a : Addr) : Sto := fun b => if b = a then none else S b
theorem del_put {S : Sto} {p : Addr} {o : AO} (h : S p = none) : del (put S p o) p = S := by
  funext b; unfold del put; split
  · rename_i e; rw [e, h]
  · rfl
theorem del_ne {S : Sto} {a b : Addr} (h : b ≠ a) : del S a b = S b := if_neg h
@[simp] theorem onL_put {S : Sto} {p : Addr} {ds : List D} {k : List D → Prop} : onL (put S p (.lst ds)) p k = k ds := by rw [onL_eq put_same]
def frzK (Q : KD) : KD := fun d S => match d with | .ref a => onL S a fun ds => Q (.fz ds) (del S a) | _ => False
@[simp] theorem frzK_ref {Q : KD} {a : Addr} {S : Sto} : frzK Q (.ref a) S = onL S a fun ds => Q (.fz ds) (del S a) := rfl
def dFrz (t : DTE) : DTE := fun τ S Q => t τ S (frzK Q)
@[simp] theorem dFrz_eq {t : DTE} {τ : DSt} {S : Sto} {Q : KD} : dFrz t τ S Q = t τ S (frzK Q) := rfl
section
variable {X : Cx} {pos : Pos} {e : Expr} {t : DTE}
theorem frz_hr {K : KW} {H : Hp} {S : Sto} {a : Addr} {vs : List V} {od : Obj} (hr : HR K H S) (h1 : H a = some (.lst vs)) : HR K (upd H a (.frz od (.lst vs))) (del S a) := fun b o e => by
  have n : b ≠ a := fun z => by subst z; unfold del at e; rw [if_pos rfl] at e; cases e
  rw [del_ne n] at e
  exact (hr b o e).ev (.upd h1 rfl) fun u hu => by rw [upd_ne n]; exact hu
theorem de_frz (h : DE X e t) : DE X e (dFrz t) := ⟨fun pins s σ H τ S Q I st hr q => thn (h.run pins s σ H τ S _ I st hr q) fun u s' ⟨v, H', I', rv, ev, d, S', hr', rd, q'⟩ => by
  cases d with
  | ref a =>
    obtain ⟨ds, e1, q2⟩ := onL.out (show onL S' a _ from q')
    obtain ⟨vs, h1, r⟩ := hr' a _ e1
    have := relD_ref rd; subst this
    obtain ⟨od, I2⟩ := I'.lock h1 trivial
    exact ⟨.ref a, _, I2, rv, ev.trans (.upd h1 rfl), .fz ds, del S' a, frz_hr hr' h1, .fz (.inl ⟨od, upd_same⟩) (r.ev (.upd h1 rfl)), q2⟩
  | _ => exact (show False from q').elim⟩
end
end DL
namespace DL
open PySem PySem.Spec PyProof.Rows L2
def TabIs : List DictEntry → List (Str × Str) → Prop
  | e :: r, p :: s => (∃ t, e.key = .str p.1 t) ∧ (∃ t, e.val = .str p.2 t) ∧ TabIs r s
  | [], [] => True
  | _, _ => False
structure TabOk (K : PySem.W.Frag) (w : World) (d : Addr) (tbl : List (Str × Str)) : Prop where
  ex : ∃ es n, KDict K w d es n ∧ TabIs es.toList tbl
  ok : (tbl.all fun p => PyData.strOk p.2) = true
end DL
namespace DL
open PySem PySem.Spec PyProof.Rows L2
mutual
theorem reads_lt {h : Heap} : ∀ {v : Value} {d : PyData} {as : List Addr}, PySem.Reads h v d as → ∀ a ∈ as, a < h.objs.size
  | _, _, _, .none, _, m => nomatch m
  | _, _, _, .bool _, _, m => nomatch m
  | _, _, _, .int _ _, _, m => nomatch m
  | _, _, _, .str _ _, _, m => nomatch m
  | _, _, _, .list h1 _ _ r, a, m => by
    rcases List.mem_cons.mp m with e | m
    · rw [e]; exact Heap.lt_size h1
    · exact readsAll_lt r a m
  | _, _, _, .tuple _ _ _ r, a, m => readsAll_lt r a m
  | _, _, _, .dict h1 _ _ r s, a, m => by
    rcases List.mem_append.mp m with m | m
    · rcases List.mem_cons.mp m with e | m
      · rw [e]; exact Heap.lt_size h1
      · exact readsAll_lt r a m
    · exact readsAll_lt s a m
theorem readsAll_lt {h : Heap} : ∀ {v : List Value} {d : List PyData} {as : List Addr}, PySem.ReadsAll h v d as → ∀ a ∈ as, a < h.objs.size
  | _, _, _, .nil, _, m => nomatch m
  | _, _, _, .cons r s, a, m => by
    rcases List.mem_append.mp m with m | m
    · exact reads_lt r a m
    · exact readsAll_lt s a m
end
def itmsD (kvs : List (D × D)) : List D := kvs.map fun p => .tup [p.1, p.2]
@[simp] theorem itmsD_len (kvs : List (D × D)) : (itmsD kvs).length = kvs.length := by simp [itmsD]
section
variable {X : Cx} {pins : List (Addr × Obj)} {σ : L2.St} {H : Hp} {s : Shared}
theorem take_pairs {h' : Heap} {tk : Nat} (I0 : Inv X pins σ H s) : ∀ (as : List Addr) (kvs : List (D × D)) (H1 : Hp), Inv X pins σ H1 { s with heap := h', toks := tk } → Ev H H1 → as.Nodup → as.length = kvs.length →
    (∀ a ∈ as, s.heap.objs.size ≤ a ∧ H1 a = none) →
    (∀ (j : Nat) (a : Addr) (p : D × D), as[j]? = some a → kvs[j]? = some p → ∃ (kv vv : V) (ku vu : Value), RelV kv ku ∧ RelD X.KW H kv p.1 ∧ RelV vv vu ∧ RelD X.KW H vv p.2 ∧ h'.get? a = some (tupO [ku, vu])) →
    ∃ H2, Inv X pins σ H2 { s with heap := h', toks := tk } ∧ Ev H1 H2 ∧ (∀ S, HR X.KW H1 S → HR X.KW H2 S) ∧ RelDs X.KW H2 (as.map V.ref) (itmsD kvs)
  | [], [], H1, I1, _, _, _, _, _ => ⟨H1, I1, .refl _, fun _ h => h, .nil⟩
  | [], _ :: _, _, _, _, _, hl, _, _ => by simp at hl
  | _ :: _, [], _, _, _, _, hl, _, _ => by simp at hl
  | a :: as, p :: kvs, H1, I1, e01, hn, hl, hb, hp => by
    obtain ⟨b1, b2⟩ := hb a (List.mem_cons_self ..)
    obtain ⟨kv, vv, ku, vu, r1, d1, r2, d2, hg⟩ := hp 0 a p rfl rfl
    have ev : Ev H1 (upd H1 a (.frz (tupO [ku, vu]) (.tup [kv, vv]))) := .new b2
    have I2 : Inv X pins σ (upd H1 a (.frz (tupO [ku, vu]) (.tup [kv, vv]))) { s with heap := h', toks := tk } :=
      I1.take (h' := h') (t' := tk) (fun b ob _ e => e) (I0.fpOk b1 b2) ⟨hg, by show 2 ≤ sizeLine; decide, [ku, vu], .cons r1 (.cons r2 .nil), ⟨_, hg, rfl, _, rfl⟩⟩
    rw [List.nodup_cons] at hn
    obtain ⟨H2, I3, e2, k2, r⟩ := take_pairs I0 as kvs _ I2 (e01.trans ev) hn.2 (by simpa using hl) (fun c hc => by
      obtain ⟨c1, c2⟩ := hb c (List.mem_cons_of_mem _ hc)
      exact ⟨c1, by rw [upd_ne (fun z => hn.1 (by rw [← z]; exact hc))]; exact c2⟩) fun j c q h1 h2 => hp (j + 1) c q (by simpa using h1) (by simpa using h2)
    have rt : RelD X.KW (upd H1 a (.frz (tupO [ku, vu]) (.tup [kv, vv]))) (.ref a) (.tup [p.1, p.2]) := relD_new b2 (.cons (d1.ev e01) (.cons (d2.ev e01) .nil))
    exact ⟨H2, I3, ev.trans e2, fun S h => k2 S (h.new b2), .cons (rt.ev e2) r⟩
theorem vals_refs : ∀ as : List Addr, Vals (as.map V.ref) (as.map Value.ref)
  | [] => .nil
  | _ :: as => .cons rfl (vals_refs as)
def dSortedItems (td : DTE) : DTE := fun τ S Q => td τ S fun d S1 => match dctOf S1 d with
  | some (_, kvs) => SortOk S1 (itmsD kvs) ∧ ∀ p, S1 p = none → Q (.ref p) (put S1 p (.lst ((itmsD kvs).mergeSort (dLe S1))))
  | none => False
theorem de_sortedItems {e : Expr} {te : DTE} {p pos apos cpos : Pos} (hc : X.calm = true) (hu : X.A.units + 65 < cLine) (hm : X.mg "sorted" = none) (hg : Gl X "sorted") (he : DE X e te) (hbase : attributeBase e "items" X.env (eval e X.env) = eval e X.env := by rfl) (hline : (apos.endLine == cpos.line) = true := by rfl)
    (na : starEach [(.Call (.Attribute e "items" apos) [] [] cpos : Expr)] X.env = [(false, eval (.Call (.Attribute e "items" apos) [] [] cpos) X.env)] := by rfl) :
    DE X (.Call (.Name "sorted" p) [.Call (.Attribute e "items" apos) [] [] cpos] [] pos) (dSortedItems te) := ⟨fun pins s σ H τ S Q I st hr q => by
  refine Call_ (ld_blt I hg hm boot_sorted ?_)
  refine PyProof.Rows.callWith_builtin1 (PyProof.Rows.args_cons ?_ na) na rfl
  refine wpAny_Call_method (T := "dict") (id := "dict.items") hbase rfl hline F.plainAttrs_dict F.slot_dict_items F.type_dict_items (thn (he.run pins s σ H τ S _ I st hr q) fun u s1 ⟨v, H1, I1, rv, e1, d, S1, hr1, rd, q1⟩ => ?_)
  simp only at q1
  split at q1
  · rename_i a kvs ef
    obtain ⟨so, q1⟩ := q1
    obtain ⟨rfl, hs, hz, es, ep, raw, ea⟩ := ent_at I1 hr1 ef
    cases rd; cases rv
    obtain ⟨o, hg', hx, hdt⟩ := id raw
    refine ⟨raw.typeIs, fun b e => by cases e; exact ⟨o, hg', hx.2.1⟩, ?_⟩
    have I2 : Inv X pins σ H1 { s1 with heap := s1.heap.push { cls := .type "dict_items", data := .fields #[.ref a] } } := I1.kept (t' := s1.toks) fun b ob q => Heap.get?_push_of_some _ q
    refine method_meetsIn F.slot_dict_items F.entry_dict_items rfl (PySem.evalArgs_none ⟨rfl, raw.typeIs, F.args_dict_items_1 _, _, meets_dict_items_raw a hs, ⟨es, ep, raw⟩, ?_⟩)
    have raw2 : (s1.heap.push { cls := .type "dict_items", data := .fields #[.ref a] }).DictRaw a es ep := raw.at fun ob q => Heap.get?_push_of_some _ q
    refine PyProof.Rows.args_nil (_root_.DT.sortedI (es := es) (ep := ep) (I2.ok.hd hc) ⟨_, Heap.get?_push_size _ rfl, rfl, rfl⟩ raw2 (by rw [ea.1]; exact hz) fun h' tk as hk hlt hl hG => ?_)
    have I3 : Inv X pins σ H1 { s1 with heap := h', toks := tk } := I2.kept (t' := tk) hk
    have ll : as.length = kvs.length := hl.trans ea.1
    obtain ⟨H2, I4, e2, k2, rt⟩ := take_pairs (h' := h') (tk := tk) I2 as kvs H1 I3 (.refl _) (List.Pairwise.imp (fun h => Nat.ne_of_lt h) hG.rise) ll
      (fun b hb => ⟨Nat.le_of_lt (hG.above b hb), I2.hok.fresh (Nat.le_of_lt (hG.above b hb))⟩) (fun j b pq hj hp => by
        obtain ⟨en, h1, h2⟩ := hG.pairs j b hj
        obtain ⟨⟨kv, r1, d1⟩, vv, r2, d2⟩ := ea.2 j en pq.1 pq.2 h1 hp
        exact ⟨kv, vv, en.key, en.val, r1, d1, r2, d2, by rw [h2]; rfl⟩)
    have hr2 := k2 S1 hr1
    have lt2 : (as.map V.ref).length = (itmsD kvs).length := rt.length
    have z2 := zip_snd lt2
    have mem2 : ∀ b ∈ (as.map V.ref).zip (itmsD kvs), b.2 ∈ itmsD kvs := fun b hb => by rw [← z2]; exact List.mem_map.mpr ⟨b, hb, rfl⟩
    have em : ((as.map V.ref).zip (itmsD kvs)).map (fun b => enc6 S1 b.2) = (itmsD kvs).map (enc6 S1) := by
      have := congrArg (List.map (enc6 S1)) z2
      rw [List.map_map] at this
      exact this
    have hob : (h'.push { cls := .type "list", data := .seq (as.map Value.ref).toArray }).get? h'.objs.size = some (seqObj "list" (as.map Value.ref).toArray 0) := Heap.get?_push_size _ rfl
    have EE := each_of (vals_refs as) rt
    have ER : PySem.W.EachIs (fun (u : Value) (b : V × D) => ∃ as', PySem.Reads (h'.push { cls := .type "list", data := .seq (as.map Value.ref).toArray }) u (enc6 S1 b.2) as' ∧ h'.objs.size ∉ as') (as.map Value.ref) ((as.map V.ref).zip (itmsD kvs)) := by
      have all : ∀ b ∈ (as.map V.ref).zip (itmsD kvs), (rd 6 S1 b.2).ok 40 = true := fun b hb => so.ok _ (mem2 b hb)
      clear em mem2 z2 hob
      generalize (as.map V.ref).zip (itmsD kvs) = bs at EE all
      generalize hits : as.map Value.ref = its at EE ⊢
      generalize hpush : h'.push { cls := .type "list", data := .seq its.toArray } = hp
      have kp : ∀ b o, h'.get? b = some o → hp.get? b = some o := fun b o e => by rw [← hpush]; exact Heap.get?_push_of_some _ e
      clear hpush hits
      induction EE with
      | nil => exact .nil
      | cons h t ih =>
        refine .cons ?_ (ih fun b hb => all b (List.mem_cons_of_mem _ hb))
        obtain ⟨dp, _, _⟩ := rd_dp hr2 6 h.2 40 (all _ List.mem_cons_self)
        obtain ⟨as', r'⟩ := Dp.reads I4 _ _ _ dp h.1
        exact ⟨as', PyProof.Rows.Reads.keeps kp r', fun m => Nat.lt_irrefl _ (reads_lt r' _ m)⟩
    have hlen : ((as.map V.ref).zip (itmsD kvs)).length = kvs.length := by simp [ll]
    have ui : X.A.in1.units = X.A.units + 1 := rfl
    refine PySem.W.list_sort_data (s := { s1 with heap := h'.push { cls := .type "list", data := .seq (as.map Value.ref).toArray }, toks := tk }) (bs := (as.map V.ref).zip (itmsD kvs)) (enc := fun b => enc6 S1 b.2) hob EE ER (by rw [em]; exact so.alk) (by rw [em]; exact so.srt) (by rw [hlen]; exact hz) (fun b hb => ?_) fun out ho eo => ?_
    · have hm := mem2 b hb
      have q := so.ok _ hm
      have : (enc6 S1 b.2).depth ≤ 40 := by
        obtain ⟨i, hi, e⟩ := List.getElem_of_mem hm
        obtain ⟨v, _, rdd⟩ := rt.get (i := i) (d := b.2) (by rw [List.getElem?_eq_getElem hi, e])
        exact (rd_dp hr2 6 rdd 40 q).2.2
      omega
    · obtain ⟨c, hcc⟩ := PyProof.Rows.sortedHeap_at (vs := as.map Value.ref) (out := out.toArray) hob
      obtain ⟨o1, o2⟩ := of_each eo
      have ms : (((as.map V.ref).zip (itmsD kvs)).mergeSort (PySem.W.dataLe false fun b => enc6 S1 b.2)).map (·.2) = (itmsD kvs).mergeSort (dLe S1) := by
        have q := List.map_mergeSort (r := PySem.W.dataLe false fun b : V × D => enc6 S1 b.2) (s := dLe S1) (f := fun b : V × D => b.2) (l := (as.map V.ref).zip (itmsD kvs)) (fun a _ b _ => rfl)
        rw [z2] at q
        exact q
      rw [ms] at o2
      have n1 : H2 h'.objs.size = none := I4.hok.fresh (Nat.le_refl _)
      have I5 := I4.laid (t' := tk) (h' := sortedHeap (h'.push { cls := .type "list", data := .seq (as.map Value.ref).toArray }) h'.objs.size (as.map Value.ref) out.toArray)
        (fun b o e => (PyProof.Rows.sortedHeap_old (Nat.ne_of_lt (Heap.lt_size e)) (Heap.lt_size (Heap.get?_push_of_some _ e))).trans (Heap.get?_push_of_some _ e)) (Nat.le_refl _)
        (show ObjOk X.prog X.w _ _ h'.objs.size (.lst _) from ⟨by rw [o1.length, ho, hlen]; exact hz, out, c, o1, hcc⟩)
      exact ⟨.ref h'.objs.size, _, I5, rfl, .of (e1.trans (e2.trans (.new n1))) (hr2.lst n1 o2) (.ref _) (q1 _ (hr2.free n1))⟩
  · exact q1.elim⟩
end
end DL
namespace DL
open PySem PySem.Spec PyProof.Rows L2
section
variable {X : Cx}
def wIntT : List D → Sto → KD → Prop := fun xs S Q => match xs with
  | [.int i] => Q (.int i) S
  | [.bl b] => Q (.int (if b then 1 else 0)) S
  | _ => False
theorem dcall_int : DCall X (.type "int") wIntT := .of call_int1 fun xs H ds S Q R hr rd q k => by
  unfold wIntT at q
  split at q
  · obtain ⟨v, rfl, r⟩ := rd.one
    cases r
    exact .inl ⟨_, rfl, k _ _ (.of (.refl _) hr (.int _) q)⟩
  · obtain ⟨v, rfl, r⟩ := rd.one
    cases r
    exact .inr ⟨_, rfl, k _ _ (.of (.refl _) hr (.int _) q)⟩
  · exact q.elim
end
end DL
namespace DL
open PySem PySem.Spec PyProof.Rows L2
section
variable {τ : DSt} {S : Sto} {Q : KD} {R : List D → (Sto → Prop) → Sto → Prop} {ta : DTA} {te tb : DTE} {tbl : List (Str × Str)} {n i : Nat} {g : DTGs} {d : D} {K : DSt → Sto → Prop}
@[simp] theorem dSortedItems_eq : dSortedItems te τ S Q = te τ S fun d S1 => match dctOf S1 d with
  | some (_, kvs) => SortOk S1 (itmsD kvs) ∧ ∀ p, S1 p = none → Q (.ref p) (put S1 p (.lst ((itmsD kvs).mergeSort (dLe S1))))
  | none => False := rfl
@[simp] theorem wIntT_bl {b : Bool} : wIntT [.bl b] S Q = Q (.int (if b then 1 else 0)) S := rfl
@[simp] theorem wIntT_int {j : Int} : wIntT [.int j] S Q = Q (.int j) S := rfl
end
end DL
namespace DL
open PySem PySem.Spec PyProof.Rows L2
section
variable {X : Cx}
def wReprA : List D → Sto → KD → Prop := fun xs S Q => match xs with
  | [d] => (rd 6 S d).ok 40 = true ∧ (rd 6 S d).py.showable = true ∧ (rd 6 S d).py.shown.length ≤ sizeLine ∧ Q (.str (rd 6 S d).py.shown) S
  | _ => False
theorem dcall_reprA (hu : X.A.units + 65 < cLine) (hgd : X.A.guards = some []) : DCall X (.builtin "repr") wReprA := by
  intro pins s σ H xs us ds S Q I rv hr rd q
  unfold wReprA at q
  split at q
  · rename_i d
    obtain ⟨q1, q2, q3, q4⟩ := q
    have seqc : ∀ es, seqOf S d = some es → wpAny (model X.prog X.w) X.A (call (.builtin "repr") us) (EP X pins σ (Up X.KW H Q)) X.xe s := fun es ee =>
      dcall_repr hu hgd pins s σ H xs us [d] S Q I rv hr rd ⟨q1, q2, q3, ⟨es, ee⟩, q4⟩
    obtain ⟨v, rfl, r⟩ := rd.one
    obtain ⟨_, cl, _⟩ := rd_dp hr 6 r 40 q1
    have ok := strOk_shown _ cl
    cases rv with
    | cons rv t =>
    cases t
    cases r with
    | non =>
      cases rv
      exact P.repr_of_none ⟨.str _, H, I.kept (t' := s.toks + 1) (fun b o e => e), ⟨_, rfl⟩, .of (.refl _) hr (.str _ ok) q4⟩
    | bl b =>
      cases rv
      exact P.repr_of_bool ⟨.str _, H, I.kept (t' := s.toks + 1) (fun b o e => e), ⟨_, rfl⟩, .of (.refl _) hr (.str _ ok) q4⟩
    | int i =>
      obtain ⟨t, rfl⟩ := rv
      exact P.repr_of_int (by simpa [DL.rd, D.py, PyData.showable] using q2) ⟨.str _, H, I.kept (t' := s.toks + 1) (fun b o e => e), ⟨_, rfl⟩, .of (.refl _) hr (.str _ ok) q4⟩
    | str x hx =>
      obtain ⟨t, rfl⟩ := rv
      exact P.repr_of_str ⟨.str _, H, I.kept (t' := s.toks + 1) (fun b o e => e), ⟨_, rfl⟩, .of (.refl _) hr (.str _ ok) q4⟩ q3
    | ty n => simp [DL.rd, D.ok] at q1
    | ref a =>
      cases e : S a with
      | none => simp [DL.rd, e, D.ok] at q1
      | some o =>
        cases o with
        | lst ds => exact seqc ds (by simp [seqOf, e])
        | _ => simp [DL.rd, e, D.ok] at q1
    | tup _ _ => exact seqc _ rfl
    | wt _ _ => simp [DL.rd, D.ok] at q1
    | fz _ _ => exact seqc _ rfl
  · exact q.elim
end
theorem wReprA_ok {S : Sto} {Q : KD} {d : D} (ok : d.ok 40 = true) (h1 : d.py.showable = true) (h2 : d.py.shown.length ≤ sizeLine) : wReprA [d] S Q = Q (.str d.py.shown) S := by
  unfold wReprA
  simp only [rd_ok d 40 6 S ok, ok, h1, h2, true_and]
end DL
namespace DL
open PySem PySem.Spec PyProof.Rows L2
section
open PySem.W PySem.Calls
theorem sorted_src {prog : Program} {w : World} {A : Around} {E : Value → Shared → Prop} {s : Shared} {T : String} {r d : Addr} {n : Nat} {P : Nat → Value → Prop} {OK : Heap → Prop} {Q : Value → Shared → Prop} (K : KdlSrc prog w T r d n P OK) (hh : A.handled = none) (hok : OK s.heap) (hn : n ≤ sizeLine)
    (h : ∀ (h' : Heap) (tk : Nat) (vs : List Value), (∀ b o, s.heap.get? b = some o → h'.get? b = some o) → vs.length = n → (∀ (j : Nat) (v : Value), vs[j]? = some v → P j v) →
      wpAny (model prog w) A.in1 (call (.builtin "list.sort") [.ref h'.objs.size]) (fun _ s' => Q (.ref h'.objs.size) s') E { s with heap := h'.push { cls := .type "list", data := .seq vs.toArray }, toks := tk }) :
    wpAny (model prog w) A (call (.builtin "sorted") [.ref r]) Q E s := by
  refine call_function_entry kind_sorted plain_sorted entry_sorted (args_sorted1 _) ?_
  unfold Builtin.«sorted»
  refine wpAny_bind (m := checkCount "sorted" 1 1 _) (wpAny_pure ?_)
  refine wpAny_bind (kdu_collect (A := A.in1) K hh hok hn fun h' tk acc hk hacc => ?_)
  have hl : acc.toList.length = n := by rw [Array.length_toList]; exact hacc.1
  refine wpAny_bind (wpAny_newList ?_ (by rw [hl]; exact hn))
  have hg := h h' tk acc.toList hk hl (fun j v e => hacc.2 j v (by rw [← Array.getElem?_toList]; exact e))
  refine wpAny_bind (wpAny_holding (wpAny_mono hg (fun _ s' x => ?_) fun _ _ e => e))
  exact wpAny_pure ⟨_, rfl, x⟩
end
section
variable {X : Cx}
def wSortedD : List D → Sto → KD → Prop := fun xs S Q => match xs with
  | [d] => match dctOf S d with
    | some (_, kvs) => SortOk S (kvs.map (·.1)) ∧ ∀ p, S p = none → Q (.ref p) (put S p (.lst ((kvs.map (·.1)).mergeSort (dLe S))))
    | none => wSorted [d] S Q
  | _ => False
theorem dcall_sortedD (hc : X.calm = true) (hu : X.A.units + 65 < cLine) : DCall X (.builtin "sorted") wSortedD := by
  intro pins s σ H xs us ds S Q I rv hr rdx q
  unfold wSortedD at q
  split at q
  · rename_i d
    split at q
    · rename_i a kvs ef
      obtain ⟨so, q1⟩ := q
      obtain ⟨v, rfl, r⟩ := rdx.one
      obtain ⟨rfl, hs, hz, es, ep, raw, ea⟩ := ent_at I hr ef
      cases rv with
      | cons rv t =>
      cases t
      cases r; cases rv
      refine sorted_src (n := es.size) (KdlSrc.rawDict hs) (I.ok.hd hc) raw (by rw [ea.1]; exact hz) fun h' tk vs hk hl hv => ?_
      have I3 : Inv X pins σ H { s with heap := h', toks := tk } := I.kept (t' := tk) hk
      have hl2 : vs.length = (kvs.map (·.1)).length := by rw [hl, ea.1, List.length_map]
      obtain ⟨ws, w1, w2⟩ := rel_items (X := X) (H := H) (kvs.map (·.1)) vs hl2 fun i d u p1 p2 => by
        rw [List.getElem?_map] at p1
        cases p3 : kvs[i]? with
        | none => rw [p3] at p1; cases p1
        | some kv =>
          rw [p3] at p1; cases p1
          obtain ⟨hi, rfl⟩ := hv i u p2
          exact (ea.2 i es[i] kv.1 kv.2 (by rw [Array.getElem?_eq_getElem hi]) p3).1
      generalize kvs.map (·.1) = ks at *
      have lt2 : ws.length = ks.length := w2.length
      have z2 := zip_snd lt2
      have mem2 : ∀ b ∈ ws.zip ks, b.2 ∈ ks := fun b hb => by rw [← z2]; exact List.mem_map.mpr ⟨b, hb, rfl⟩
      have em : (ws.zip ks).map (fun b => enc6 S b.2) = ks.map (enc6 S) := by
        have := congrArg (List.map (enc6 S)) z2
        rw [List.map_map] at this
        exact this
      have hob : (h'.push { cls := .type "list", data := .seq vs.toArray }).get? h'.objs.size = some (seqObj "list" vs.toArray 0) := Heap.get?_push_size _ rfl
      have EE := each_of w1 w2
      have ER : PySem.W.EachIs (fun (u : Value) (b : V × D) => ∃ as', PySem.Reads (h'.push { cls := .type "list", data := .seq vs.toArray }) u (enc6 S b.2) as' ∧ h'.objs.size ∉ as') vs (ws.zip ks) := by
        have all : ∀ b ∈ ws.zip ks, (rd 6 S b.2).ok 40 = true := fun b hb => so.ok _ (mem2 b hb)
        clear em mem2 z2 hob
        generalize ws.zip ks = bs at EE all
        generalize hpush : h'.push { cls := .type "list", data := .seq vs.toArray } = hp
        have kp : ∀ b o, h'.get? b = some o → hp.get? b = some o := fun b o e => by rw [← hpush]; exact Heap.get?_push_of_some _ e
        clear hpush hl hl2 hv w1
        induction EE with
        | nil => exact .nil
        | cons h t ih =>
          refine .cons ?_ (ih fun b hb => all b (List.mem_cons_of_mem _ hb))
          obtain ⟨dp, _, _⟩ := rd_dp hr 6 h.2 40 (all _ List.mem_cons_self)
          obtain ⟨as', r'⟩ := Dp.reads I3 _ _ _ dp h.1
          exact ⟨as', PyProof.Rows.Reads.keeps kp r', fun m => Nat.lt_irrefl _ (reads_lt r' _ m)⟩
      have hlk : ks.length ≤ sizeLine := by rw [← hl2, hl, ea.1]; exact hz
      have hlen : (ws.zip ks).length = ks.length := by simp [lt2]
      have ui : X.A.in1.units = X.A.units + 1 := rfl
      refine PySem.W.list_sort_data (s := { s with heap := h'.push { cls := .type "list", data := .seq vs.toArray }, toks := tk }) (bs := ws.zip ks) (enc := fun b => enc6 S b.2) hob EE ER (by rw [em]; exact so.alk) (by rw [em]; exact so.srt) (by rw [hlen]; exact hlk) (fun b hb => ?_) fun out ho eo => ?_
      · have hm := mem2 b hb
        have q := so.ok _ hm
        have : (enc6 S b.2).depth ≤ 40 := by
          obtain ⟨i, hi, e⟩ := List.getElem_of_mem hm
          obtain ⟨v, _, rdd⟩ := w2.get (i := i) (d := b.2) (by rw [List.getElem?_eq_getElem hi, e])
          exact (rd_dp hr 6 rdd 40 q).2.2
        omega
      · obtain ⟨c, hcc⟩ := PyProof.Rows.sortedHeap_at (vs := vs) (out := out.toArray) hob
        obtain ⟨o1, o2⟩ := of_each eo
        have ms : ((ws.zip ks).mergeSort (PySem.W.dataLe false fun b => enc6 S b.2)).map (·.2) = ks.mergeSort (dLe S) := by
          have q := List.map_mergeSort (r := PySem.W.dataLe false fun b : V × D => enc6 S b.2) (s := dLe S) (f := fun b : V × D => b.2) (l := ws.zip ks) (fun a _ b _ => rfl)
          rw [z2] at q
          exact q
        rw [ms] at o2
        have n1 : H h'.objs.size = none := I3.hok.fresh (Nat.le_refl _)
        have I5 := I3.laid (t' := tk) (h' := sortedHeap (h'.push { cls := .type "list", data := .seq vs.toArray }) h'.objs.size vs out.toArray)
          (fun b o e => (PyProof.Rows.sortedHeap_old (Nat.ne_of_lt (Heap.lt_size e)) (Heap.lt_size (Heap.get?_push_of_some _ e))).trans (Heap.get?_push_of_some _ e)) (Nat.le_refl _)
          (show ObjOk X.prog X.w _ _ h'.objs.size (.lst _) from ⟨by rw [o1.length, ho, hlen]; exact hlk, out, c, o1, hcc⟩)
        exact ⟨.ref h'.objs.size, _, I5, rfl, .of (.new n1) (hr.lst n1 o2) (.ref _) (q1 _ (hr.free n1))⟩
    · exact dcall_sorted hc hu pins s σ H xs us _ S Q I rv hr rdx q
  · exact q.elim
end
end DL
namespace DL
open PySem PySem.Spec PyProof.Rows L2
@[simp] theorem keyFit_int {α : Type} {g : α → D} {f : α → Int} {xs : List α} {n : Int} : keyFit (xs.map fun p => (D.int (f p), g p)) (.int n) = true := by
  cases xs <;> rfl
@[simp] theorem keyFitW_int {α : Type} {g : α → D} {f : α → Int} {xs : List α} {n : Int} : keyFitW (xs.map fun p => (D.int (f p), g p)) (.int n) = true := by
  unfold keyFitW; rw [keyFit_int]; simp
@[simp] theorem keyFit_str {α : Type} {g : α → D} {f : α → Str} {xs : List α} {n : Str} : keyFit (xs.map fun p => (D.str (f p), g p)) (.str n) = true := by
  cases xs <;> rfl
@[simp] theorem keyFitW_str {α : Type} {g : α → D} {f : α → Str} {xs : List α} {n : Str} : keyFitW (xs.map fun p => (D.str (f p), g p)) (.str n) = true := by
  unfold keyFitW; rw [keyFit_str]; simp
theorem dGet_int {α : Type} {g : α → D} {f : α → Int} {xs : List α} {n : Int} : dGet (xs.map fun p => (D.int (f p), g p)) (.int n) = (xs.find? fun p => decide (f p = n)).map g := by
  unfold dGet
  rw [List.find?_map]
  simp only [Function.comp_def, D.int.injEq, Option.map_map]
theorem dGet_str {α : Type} {g : α → D} {f : α → Str} {xs : List α} {n : Str} : dGet (xs.map fun p => (D.str (f p), g p)) (.str n) = (xs.find? fun p => decide (f p = n)).map g := by
  unfold dGet
  rw [List.find?_map]
  simp only [Function.comp_def, D.str.injEq, Option.map_map]
theorem find_of_mem {α β : Type} [DecidableEq β] {f : α → β} : ∀ {xs : List α}, (xs.map f).Nodup → ∀ {x : α}, x ∈ xs → (xs.find? fun p => decide (f p = f x)) = some x
  | [], _, _, h => by cases h
  | y :: ys, nd, x, h => by
    rw [List.map_cons, List.nodup_cons] at nd
    rw [List.find?_cons]
    rcases List.mem_cons.mp h with rfl | h
    · simp
    · have : f y ≠ f x := fun e => nd.1 (by rw [e]; exact List.mem_map.mpr ⟨x, h, rfl⟩)
      simp only [this, decide_false]
      exact find_of_mem nd.2 h
theorem find_none {α β : Type} [DecidableEq β] {f : α → β} {xs : List α} {b : β} : (xs.find? fun p => decide (f p = b)) = none ↔ b ∉ xs.map f := by
  rw [List.find?_eq_none]
  simp only [decide_eq_true_eq, List.mem_map, not_exists, not_and]
theorem dPut_int_new {α : Type} {g : α → D} {f : α → Int} {xs : List α} {y : α} (h : f y ∉ xs.map f) : dPut (xs.map fun p => (D.int (f p), g p)) (.int (f y)) (g y) = (xs ++ [y]).map fun p => (D.int (f p), g p) := by
  unfold dPut
  rw [if_neg]
  · simp
  · simp only [List.any_map, List.any_eq_true, Function.comp_def, D.int.injEq, decide_eq_true_eq, not_exists, not_and]
    exact fun x hx e => h (by rw [← e]; exact List.mem_map.mpr ⟨x, hx, rfl⟩)
theorem dPut_str_new {α : Type} {g : α → D} {f : α → Str} {xs : List α} {y : α} (h : f y ∉ xs.map f) : dPut (xs.map fun p => (D.str (f p), g p)) (.str (f y)) (g y) = (xs ++ [y]).map fun p => (D.str (f p), g p) := by
  unfold dPut
  rw [if_neg]
  · simp
  · simp only [List.any_map, List.any_eq_true, Function.comp_def, D.str.injEq, decide_eq_true_eq, not_exists, not_and]
    exact fun x hx e => h (by rw [← e]; exact List.mem_map.mpr ⟨x, hx, rfl⟩)
theorem SortOk.mk' {β : Type} {S : Sto} (xs : List β) (g : β → D) (hc : ∀ x ∈ xs, (g x).cl 20 = true) (al : ∀ x ∈ xs, ∀ y ∈ xs, PySem.W.alike (g x).py (g y).py = true)
    (so : (∀ x ∈ xs, ∃ u r, (g x).py = .tuple (u :: r)) ∨ ∀ x ∈ xs, (g x).py ≠ .none ∧ ∀ ys, (g x).py ≠ .tuple ys) : SortOk S (xs.map g) := by
  have er : ∀ x ∈ xs, rd 6 S (g x) = g x := fun x hx => rd_cl (hc x hx)
  have em : (xs.map g).map (enc6 S) = xs.map fun x => (g x).py := by
    rw [List.map_map]
    exact List.map_congr_left fun x hx => by show (rd 6 S (g x)).py = _; rw [er x hx]
  refine ⟨fun d hd => ?_, ?_, ?_⟩
  · obtain ⟨x, hx, rfl⟩ := List.mem_map.mp hd
    rw [er x hx]
    exact D.ok_of_cl _ _ (D.cl_up _ 20 40 (by decide) (hc x hx))
  · rw [em]
    intro d hd d' hd'
    obtain ⟨x, hx, rfl⟩ := List.mem_map.mp hd
    obtain ⟨y, hy, rfl⟩ := List.mem_map.mp hd'
    exact al x hx y hy
  · rw [em]
    rcases so with so | so
    · refine .inl fun d hd => ?_
      obtain ⟨x, hx, rfl⟩ := List.mem_map.mp hd
      exact so x hx
    · refine .inr fun d hd => ?_
      obtain ⟨x, hx, rfl⟩ := List.mem_map.mp hd
      exact so x hx
theorem SortOk.ints {S : Sto} (xs : List Int) : SortOk S (xs.map D.int) :=
  .mk' xs D.int (fun _ _ => by simp [D.cl]) (fun _ _ _ _ => by simp [D.py, PySem.W.alike]) (.inr fun _ _ => by simp [D.py])
def pairSI (p : Str × Int) : D := .tup [.str p.1, .int p.2]
theorem SortOk.pairsSI {S : Sto} (xs : List (Str × Int)) : SortOk S (xs.map pairSI) :=
  .mk' xs pairSI (fun _ _ => by simp [pairSI, D.cl, D.cls]) (fun _ _ _ _ => by simp [pairSI, D.py, D.pys, PySem.W.alike, PySem.W.alikeAll]) (.inl fun _ _ => by simp [pairSI, D.py, D.pys])
theorem mergeSort_map {β : Type} (g : β → D) (le : D → D → Bool) (xs : List β) : (xs.map g).mergeSort le = (xs.mergeSort fun a b => le (g a) (g b)).map g := by
  rw [List.map_mergeSort]
  intro a _ b _
  rfl
theorem dV_at {i : Nat} {τ : DSt} {S : Sto} {Q : KD} {d : D} (h : τ[i]? = some (some d)) (q : Q d S) : dV i τ S Q := by unfold dV; rw [h]; exact q
end DL
namespace KB
open PySem PySem.Spec PyProof.Rows L2 DL
def fdD (c a b n : D) : List (D × D) := [(.str "cells", c), (.str "at", a), (.str "rest", b), (.str "count", n)]
section
variable {c a b n v : D} {S : Sto} {Q : KD} {f : Addr}
theorem kne : (D.str "cells" ≠ D.str "at" ∧ D.str "cells" ≠ D.str "rest" ∧ D.str "cells" ≠ D.str "count") ∧ (D.str "at" ≠ D.str "rest" ∧ D.str "at" ≠ D.str "count") ∧ D.str "rest" ≠ D.str "count" := by decide +kernel
theorem fit (x : Str) : keyFit (fdD c a b n) (.str x) = true := rfl
theorem fitW (x : Str) : keyFitW (fdD c a b n) (.str x) = true := by unfold keyFitW; rw [fit]; simp
theorem get_c : dGet (fdD c a b n) (.str "cells") = some c := by simp [dGet, fdD]
theorem get_a : dGet (fdD c a b n) (.str "at") = some a := by simp [dGet, fdD, List.find?_cons, kne.1.1]
theorem get_b : dGet (fdD c a b n) (.str "rest") = some b := by simp [dGet, fdD, List.find?_cons, kne.1.2.1, kne.2.1.1]
theorem get_n : dGet (fdD c a b n) (.str "count") = some n := by simp [dGet, fdD, List.find?_cons, kne.1.2.2, kne.2.1.2, kne.2.2]
theorem put_a : dPut (fdD c a b n) (.str "at") v = fdD c v b n := by simp [dPut, fdD, kne.1.1, kne.2.1.1.symm, kne.2.1.2.symm]
theorem put_b : dPut (fdD c a b n) (.str "rest") v = fdD c a v n := by simp [dPut, fdD, kne.1.2.1, kne.2.1.1, kne.2.2.symm]
theorem put_n : dPut (fdD c a b n) (.str "count") v = fdD c a b v := by simp [dPut, fdD, kne.1.2.2, kne.2.1.2, kne.2.2]
theorem at_c (h : S f = some (.dct (fdD c a b n))) : wAt (.ref f) (.str "cells") S Q = Q c S := wAt_dct h (fit _) get_c
theorem at_a (h : S f = some (.dct (fdD c a b n))) : wAt (.ref f) (.str "at") S Q = Q a S := wAt_dct h (fit _) get_a
theorem at_b (h : S f = some (.dct (fdD c a b n))) : wAt (.ref f) (.str "rest") S Q = Q b S := wAt_dct h (fit _) get_b
theorem at_n (h : S f = some (.dct (fdD c a b n))) : wAt (.ref f) (.str "count") S Q = Q n S := wAt_dct h (fit _) get_n
variable {k : Sto → Prop}
theorem sz : (fdD c a b n).length < sizeLine := by show 4 < sizeLine; decide
theorem set_a (h : S f = some (.dct (fdD c a b n))) : wSet (.ref f) (.str "at") v S k = k (put S f (.dct (fdD c v b n))) := by simp [wSet, h, fitW, put_a, sz]
theorem set_b (h : S f = some (.dct (fdD c a b n))) : wSet (.ref f) (.str "rest") v S k = k (put S f (.dct (fdD c a v n))) := by simp [wSet, h, fitW, put_b, sz]
theorem set_n (h : S f = some (.dct (fdD c a b n))) : wSet (.ref f) (.str "count") v S k = k (put S f (.dct (fdD c a b v))) := by simp [wSet, h, fitW, put_n, sz]
end
theorem wPow_int {i j : Int} {S : Sto} {Q : KD} : wPow (.int i) (.int j) S Q = (CPow i j ∧ Q (.int (i ^ j.toNat)) S) := (rfl)
theorem wLt_int {i j : Int} {S : Sto} {Q : KD} : wLt (.int i) (.int j) S Q = Q (.bl (decide (i < j))) S := (rfl)
theorem wLe_int {i j : Int} {S : Sto} {Q : KD} : wLe (.int i) (.int j) S Q = Q (.bl (decide (i ≤ j))) S := (rfl)
theorem wGe_int {i j : Int} {S : Sto} {Q : KD} : wGe (.int i) (.int j) S Q = Q (.bl (decide (j ≤ i))) S := (rfl)
theorem wGt_int {i j : Int} {S : Sto} {Q : KD} : wGt (.int i) (.int j) S Q = Q (.bl (decide (j < i))) S := (rfl)
theorem wSub_int {i j : Int} {S : Sto} {Q : KD} : wSub (.int i) (.int j) S Q = Q (.int (i - j)) S := (rfl)
def Feed (S : Sto) (f : Addr) (m : Nat) : Prop := ∃ (xs : List Int) (a b n : Int), S f = some (.dct (fdD (.fz (xs.map D.int)) (.int a) (.int b) (.int n))) ∧ 0 ≤ n ∧ n ≤ (m : Int)
section
variable {S S' : Sto} {f p : Addr} {o : AO} {m : Nat}
theorem Feed.nt (T : Feed S f m) (h : S p = none) : p ≠ f := fun e => by subst e; obtain ⟨xs, a, b, n, h1, _⟩ := T; rw [h1] at h; cases h
theorem Feed.put (T : Feed S f m) (h : p ≠ f) : Feed (DL.put S p o) f m := by
  obtain ⟨xs, a, b, n, h1, h2⟩ := T
  exact ⟨xs, a, b, n, by rw [put_ne (Ne.symm h)]; exact h1, h2⟩
theorem Feed.new (T : Feed S f m) (h : S p = none) : Feed (DL.put S p o) f m := T.put (T.nt h)
theorem Feed.keep (T : Feed S f m) (k : Grow S S') : Feed S' f m := by
  obtain ⟨xs, a, b, n, h1, h2⟩ := T
  exact ⟨xs, a, b, n, k _ _ h1, h2⟩
theorem Feed.up {m' : Nat} (T : Feed S f m) (k : m ≤ m') : Feed S f m' := by
  obtain ⟨xs, a, b, n, h1, h2, h3⟩ := T
  exact ⟨xs, a, b, n, h1, h2, by omega⟩
theorem Feed.freeT {S1 : Sto} (T : Feed S1 f m) (k : Keeps f S S1) (h : S1 p = none) : S p = none := k.free h (T.nt h)
theorem Feed.ne_lst {ds : List D} (T : Feed S f m) (h : S p = some (.lst ds)) : p ≠ f := fun z => by subst z; obtain ⟨_, _, _, _, e, _⟩ := T; rw [e] at h; cases h
end
def sp__law_pick : DSp := fun ds S Q E => ∃ f many m, ds = [.ref f, .int many] ∧ 0 < many ∧ many < 10000000 ∧ m < 1000000000 ∧ Feed S f m ∧ ∀ r S', 0 ≤ r → r < many → Feed S' f (m + 1) → Keeps f S S' → Q (.int r) S'
theorem len__law_pick : ∀ ds S Q E, sp__law_pick ds S Q E → ds.length = (["_law_source_here", "_law_many"] : List Str).length := fun _ _ _ _ ⟨_, _, _, e, _⟩ => by rw [e]; rfl
def sp__law_source : DSp := fun ds S Q E => ∃ ns : List Int, ds = [.fz (ns.map D.int)] ∧ ∀ f S', Feed S' f 0 → S f = none → Grow S S' → Q (.ref f) S'
theorem len__law_source : ∀ ds S Q E, sp__law_source ds S Q E → ds.length = (["_law_script"] : List Str).length := fun _ _ _ _ ⟨_, e, _⟩ => by rw [e]; rfl
def r__law_source : DTS := dRet (dDisp ((dC (.str "cells"), dFrz (dCB wList (dCons (dCut (dV 0) dNoPart (dPart (dC (.int 63)))) dNil))) :: (dC (.str "at"), dC (.int 0)) :: (dC (.str "rest"), dC (.int 0)) :: (dC (.str "count"), dC (.int 0)) :: []))
abbrev N__law_source : List Str := ["_law_script"]
def pk0 : DTS := dAsg (dBin wAdd (dBin wAt (dV 0) (dC (.str "count"))) (dC (.int 1))) (gdSub (dV 0) (dC (.str "count")) wSet)
def pk1 : DTS := dIfS (dTst (dBin wGt (dBin wAt (dV 0) (dC (.str "rest"))) (dC (.int 0)))) (dSeq (dAsg (dBin wMod (dBin wAt (dV 0) (dC (.str "rest"))) (dV 1)) (gdName 5)) (dSeq (dAsg (dBin wDiv (dBin wAt (dV 0) (dC (.str "rest"))) (dV 1)) (gdSub (dV 0) (dC (.str "rest")) wSet)) (dRet (dV 5)))) dNext
def pk2 : DTS := dAsg (dBin wAt (dV 0) (dC (.str "cells"))) (gdName 2)
def pk3 : DTS := dAsg (dIf (dTst (dBin wNe (dV 2) (dLst dNil))) (dBin wAt (dV 2) (dBin wMod (dBin wAt (dV 0) (dC (.str "at"))) (dCB wLen (dCons (dV 2) dNil)))) (dC (.int 54))) (gdName 3)
def pk4 : DTS := dAsg (dBin wAdd (dBin wAt (dV 0) (dC (.str "at"))) (dC (.int 1))) (gdSub (dV 0) (dC (.str "at")) wSet)
def pk5 : DTS := dIfS (dAnd (dTst (dBin wGe (dV 3) (dBin wPow (dC (.int 10)) (dC (.int 18))))) (dTst (dBin wLe (dBin wAt (dV 0) (dC (.str "at"))) (dCB wLen (dCons (dV 2) dNil))))) (dSeq (dAsg (dBin wDiv (dV 3) (dV 1)) (gdSub (dV 0) (dC (.str "rest")) wSet)) (dRet (dBin wMod (dV 3) (dV 1)))) dNext
def pk6 : DTS := dAsg (dBin wAdd (dBin wMod (dV 3) (dC (.int 1073741827))) (dBin wMul (dC (.int 611953)) (dBin wAt (dV 0) (dC (.str "count"))))) (gdName 4)
def pk7 : DTS := dAsg (dBin wMod (dBin wAdd (dBin wAdd (dBin wMul (dV 4) (dV 4)) (dBin wMul (dC (.int 3)) (dBin wAt (dV 0) (dC (.str "count"))))) (dC (.int 7))) (dC (.int 2147483543))) (gdName 4)
def pk8 : DTS := dAsg (dBin wMod (dBin wAdd (dBin wAdd (dBin wMul (dV 4) (dV 4)) (dBin wMul (dC (.int 69069)) (dBin wAt (dV 0) (dC (.str "count"))))) (dC (.int 1))) (dC (.int 2147483497))) (gdName 4)
def pk9 : DTS := dRet (dBin wMod (dBin wDiv (dV 4) (dC (.int 256))) (dV 1))
def pkT : DTS := dSeq pk4 (dSeq pk5 (dSeq pk6 (dSeq pk7 (dSeq pk8 pk9))))
def r__law_pick : DTS := dSeq pk0 (dSeq pk1 (dSeq pk2 (dSeq pk3 pkT)))
abbrev N__law_pick : List Str := ["_law_source_here", "_law_many", "_law_cells", "_law_cell", "_law_mixed", "_law_found"]
@[simp] theorem dDisp_eq {trs : List (DTE × DTE)} {τ : DSt} {S : Sto} {Q : KD} : dDisp trs τ S Q = ∀ p, S p = none → dPairs trs τ (put S p (.dct [])) fun ps S1 => S1 p = some (.dct []) ∧ (leafAll ps = true ∧ ps.length ≤ 15) ∧ Q (.ref p) (put S1 p (.dct (kvMerge [] ps))) := rfl
@[simp] theorem dPairs_nil {τ : DSt} {S : Sto} {Q : List (D × D) → Sto → Prop} : dPairs [] τ S Q = Q [] S := rfl
@[simp] theorem dPairs_cons {tk tv : DTE} {r : List (DTE × DTE)} {τ : DSt} {S : Sto} {Q : List (D × D) → Sto → Prop} : dPairs ((tk, tv) :: r) τ S Q = tk τ S fun x S1 => tv τ S1 fun y S2 => dPairs r τ S2 fun ps S3 => Q ((x, y) :: ps) S3 := rfl
theorem merge_fd (c a b n : D) : kvMerge [] [(.str "cells", c), (.str "at", a), (.str "rest", b), (.str "count", n)] = fdD c a b n := by
  simp [kvMerge, dPut, fdD, kne.1.1, kne.1.2.1, kne.1.2.2, kne.2.1.1, kne.2.1.2, kne.2.2]
theorem vc__law_source {ds S Q E} (h : sp__law_source ds S Q E) : r__law_source (bodyEnds Q) (startD N__law_source ds) S := by
  obtain ⟨ns, rfl, k⟩ := h
  obtain ⟨ms, e⟩ := cutD_map (f := D.int) (ns := ns) (lo := none) (hi := some 63)
  unfold r__law_source
  simp [startD, e]
  intro p hp q hq r hr
  have hpq : p ≠ q := ne_of_free hq put_same
  have hpr : p ≠ r := fun z => by subst z; rw [put_ne hpq, put_same] at hr; cases hr
  rw [del_put hr, put_ne hpq, put_same, merge_fd]
  refine ⟨rfl, rfl, k p _ ⟨ms, 0, 0, 0, put_same, by decide, by decide⟩ hp fun a o z => ?_⟩
  have h1 : a ≠ p := ne_of_free hp z
  have h2 : a ≠ q := ne_of_free hq (by rw [put_ne h1]; exact z)
  rw [put_ne h1, put_ne h2, put_ne h1]; exact z
theorem pkT_of {f : Addr} {many a b n cell : Int} {xs : List Int} {S : Sto} {Q : KD} (h0 : 0 < many) (h1 : many < 10000000) (g3 : S f = some (.dct (fdD (.fz (xs.map D.int)) (.int a) (.int b) (.int n)))) (n0 : 0 ≤ n) (n1 : n ≤ 1000000000)
    (fin : ∀ (r a b : Int) S', S' f = some (.dct (fdD (.fz (xs.map D.int)) (.int a) (.int b) (.int n))) → (∀ u o, u ≠ f → S u = some o → S' u = some o) → Q (.int (r % many)) S') :
    pkT (bodyEnds Q) [some (.ref f), some (.int many), some (.fz (xs.map D.int)), some (.int cell), none, none] S := by
  have bd : ∀ i j : Int, 0 < j → j < 2 ^ 40 → -(2 ^ 64) < i % j ∧ i % j < 2 ^ 64 := fun i j h1 h2 => by
    have := Int.emod_nonneg i (b := j) (by omega); have := Int.emod_lt_of_pos i h1; omega
  have cm : ∀ i j k : Int, 0 < j → j < 2 ^ 40 → CMul (i % j) k := fun i j k h1 h2 => .inl (bd i j h1 h2)
  have cl : ∀ i j : Int, -(2 ^ 64) < i ∧ i < 2 ^ 64 → CMul i j := fun i j h => .inl h
  have cp : CPow 10 18 := ⟨by decide, by decide, by decide⟩
  have kp1 : ∀ o u v, u ≠ f → S u = some v → put S f o u = some v := fun o u v z h => by rw [put_ne z]; exact h
  unfold pkT pk4
  simp only [dSeq_eq, dAsg_eq, dBin_eq, dC_eq, gdSub_eq]
  refine dV_at (by rfl) ?_
  rw [at_a g3, wAdd_int]
  refine dV_at (by rfl) ?_
  rw [set_a g3]
  have g4 : put S f (.dct (fdD (.fz (xs.map D.int)) (.int (a + 1)) (.int b) (.int n))) f = some (.dct (fdD (.fz (xs.map D.int)) (.int (a + 1)) (.int b) (.int n))) := put_same
  have kp := kp1 (.dct (fdD (.fz (xs.map D.int)) (.int (a + 1)) (.int b) (.int n)))
  generalize put S f (.dct (fdD (.fz (xs.map D.int)) (.int (a + 1)) (.int b) (.int n))) = S4 at *
  have rest : ∀ Dn : DEnds, Dn.rt = Q → dSeq pk6 (dSeq pk7 (dSeq pk8 pk9)) Dn [some (.ref f), some (.int many), some (.fz (xs.map D.int)), some (.int cell), none, none] S4 := fun Dn hD => by
    unfold pk6 pk7 pk8 pk9
    simp [at_n g4, hD]
    have c0 := Int.emod_nonneg cell (b := 1073741827) (by decide)
    have c1 := Int.emod_lt_of_pos cell (b := 1073741827) (by decide)
    refine ⟨?_, ?_, ?_, ?_, ?_, ?_, h0, fin _ _ _ S4 g4 kp⟩ <;> first | exact cm _ _ _ (by decide) (by decide) | exact cl _ _ (by decide) | exact cl _ _ (by omega) | exact ⟨by decide, by decide⟩
  unfold pk5
  show dIfS _ _ _ _ _ _
  simp only [dIfS_eq, dAnd_eq, dTst_eq, dBin_eq, dCB_eq, dCons_eq, dNil_eq, dC_eq]
  refine dV_at (by rfl) ?_
  rw [wPow_int]
  refine ⟨cp, ?_⟩
  rw [wGe_int, isB_bl]
  by_cases hb : (10 : Int) ^ (18 : Int).toNat ≤ cell
  · rw [decide_eq_true hb, if_pos rfl]
    refine dV_at (by rfl) ?_
    rw [at_a g4]
    refine dV_at (by rfl) ?_
    rw [wLen_fz, List.length_map, wLe_int, isB_bl]
    by_cases ha : a + 1 ≤ (xs.length : Int)
    · rw [decide_eq_true ha, if_pos rfl]
      simp [set_b g4]
      exact ⟨⟨h0, by omega⟩, h0, fin _ _ _ _ put_same fun u o z h => by rw [put_ne z]; exact kp u o z h⟩
    · rw [decide_eq_false ha, if_neg (by decide)]
      exact rest _ rfl
  · rw [decide_eq_false hb, if_neg (by decide), if_neg (by decide)]
    exact rest _ rfl
theorem vc__law_pick {ds S Q E} (h : sp__law_pick ds S Q E) : r__law_pick (bodyEnds Q) (startD N__law_pick ds) S := by
  obtain ⟨f, many, m, rfl, h0, h1, hm, ⟨xs, a, b, n, hf, n0, n1⟩, k⟩ := h
  have fin : ∀ (r a b : Int) S', S' f = some (.dct (fdD (.fz (xs.map D.int)) (.int a) (.int b) (.int (n + 1)))) → (∀ u o, u ≠ f → S u = some o → S' u = some o) → Q (.int (r % many)) S' := fun r a b S' e hk =>
    k _ _ (Int.emod_nonneg _ (by omega)) (Int.emod_lt_of_pos _ h0) ⟨xs, _, _, _, e, by omega, by omega⟩ fun u o z h => hk u o z h
  unfold r__law_pick pk0 pk1 pk2 pk3
  simp [startD, at_n hf, set_n hf]
  have g1 : put S f (.dct (fdD (.fz (xs.map D.int)) (.int a) (.int b) (.int (n + 1)))) f = some (.dct (fdD (.fz (xs.map D.int)) (.int a) (.int b) (.int (n + 1)))) := put_same
  simp [at_b g1]
  split
  · rw [set_b g1, put_put]
    exact ⟨h0, ⟨h0, by omega⟩, fin b _ _ _ put_same (fun _ _ z h => by rw [put_ne z]; exact h)⟩
  · rw [at_c g1]
    intro p hp
    have hfp : f ≠ p := ne_of_free hp g1
    have g3 : put (put S f (.dct (fdD (.fz (xs.map D.int)) (.int a) (.int b) (.int (n + 1))))) p (.lst []) f = some (.dct (fdD (.fz (xs.map D.int)) (.int a) (.int b) (.int (n + 1)))) := by rw [put_ne hfp]; exact g1
    have kp : ∀ u o, u ≠ f → S u = some o → put (put S f (.dct (fdD (.fz (xs.map D.int)) (.int a) (.int b) (.int (n + 1))))) p (.lst []) u = some o := fun u o z h => by
      have h2 : put S f (.dct (fdD (.fz (xs.map D.int)) (.int a) (.int b) (.int (n + 1)))) u = some o := by rw [put_ne z]; exact h
      rw [put_ne (ne_of_free hp h2)]; exact h2
    rw [wNe_of (.cl (by rw [D.cl]; exact D.cls_iff.mpr ints_cl)) (.lst put_same (by simp))]
    generalize put (put S f (.dct (fdD (.fz (xs.map D.int)) (.int a) (.int b) (.int (n + 1))))) p (.lst []) = S2 at *
    have last : ∀ cell : Int, pkT (bodyEnds Q) [some (.ref f), some (.int many), some (.fz (xs.map D.int)), some (.int cell), none, none] S2 := fun cell => pkT_of h0 h1 g3 (by omega) (by omega) fun r a b S' e hk => fin r a b S' e fun u o z h => hk u o z (kp u o z h)
    by_cases hx : xs = []
    · subst hx
      simp
      exact last 54
    · have hx0 : (0 : Int) < xs.length := by have := List.length_pos_iff.mpr hx; omega
      have m0 := Int.emod_nonneg a (b := (xs.length : Int)) (by omega)
      have m1 := Int.emod_lt_of_pos a hx0
      have e3 : atI (xs.map D.int) (a % (xs.length : Int)) = some (D.int (xs[(a % (xs.length : Int)).toNat]'(by omega))) := by
        rw [atI_int m0 (by simpa using m1)]; simp
      simp [hx, at_a g3, hx0, e3]
      exact ⟨List.length_pos_iff.mpr hx, last _⟩
end KB
namespace KB
open PySem PySem.Spec PyProof.Rows L2 DL
abbrev Nd := Int × Str × List (Str × Int)
def rowD (r : Nd) : D := .tup [.int r.1, .str r.2.1, .tup (r.2.2.map pairSI)]
def NM : List Str := ["a", "ab", "b", "c", "x", "z"]
def isK (x : Str) : Prop := x = "drawer" ∨ x = "sheet"
def srtE (es : List (Str × Int)) : List (Str × Int) := es.mergeSort fun a b => PySem.W.dataLe false D.py (pairSI a) (pairSI b)
structure TreeG (rows : List Nd) (made : Int) : Prop where
  len : rows.length ≤ 14
  asc : (rows.map (·.1)).Pairwise (· < ·)
  top : ∃ es r, rows = ((0 : Int), ("drawer" : Str), es) :: r
  lt : ∀ r ∈ rows, r.1 < made
  made : made ≤ 100
  kd : ∀ r ∈ rows, isK r.2.1
  sh : ∀ r ∈ rows, r.2.1 = ("sheet" : Str) → r.2.2 = []
  nd : ∀ r ∈ rows, (r.2.2.map (·.1)).Nodup
  nm : ∀ r ∈ rows, ∀ e ∈ r.2.2, e.1 ∈ NM
  tg : ∀ r ∈ rows, ∀ e ∈ r.2.2, e.2 ∈ rows.map (·.1) ∧ 0 < e.2
  one : ∃ ex : List Int, (rows.flatMap fun r => r.2.2.map (·.2)).Perm ((rows.map (·.1)).tail ++ ex) ∧ ∀ s ∈ ex, ∃ r ∈ rows, r.1 = s ∧ r.2.1 = ("sheet" : Str)
  up : ∀ r ∈ rows, ∀ e ∈ r.2.2, r.1 < e.2 ∨ ∃ q ∈ rows, q.1 = e.2 ∧ q.2.1 = ("sheet" : Str)
  se : ∀ r ∈ rows, ∃ es, r.2.2 = srtE es
structure Gn where
  id : Int
  kind : Str
  es : List (Str × Int)
  ad : Addr
def eN (p : Str × Int) : D × D := (.str p.1, .int p.2)
structure GW (gs : List Gn) (last : Int) : Prop where
  asc : (gs.map (·.id)).Pairwise (· < ·)
  top : ∃ es a r, gs = ⟨0, "drawer", es, a⟩ :: r
  le : ∀ g ∈ gs, 0 ≤ g.id ∧ g.id ≤ last
  kd : ∀ g ∈ gs, isK g.kind
  sh : ∀ g ∈ gs, g.kind = ("sheet" : Str) → g.es = []
  nd : ∀ g ∈ gs, (g.es.map (·.1)).Nodup
  nm : ∀ g ∈ gs, ∀ e ∈ g.es, e.1 ∈ NM ∧ e.1 ≠ ("z" : Str)
  up : ∀ g ∈ gs, ∀ e ∈ g.es, g.id < e.2
  pm : (gs.flatMap fun g => g.es.map (·.2)).Perm (gs.map (·.id)).tail
theorem GW.nodup {gs : List Gn} {last : Int} (h : GW gs last) : (gs.map (·.id)).Nodup := h.asc.imp fun h e => by omega
def withE (gs : List Gn) (a : Addr) (es : List (Str × Int)) : List Gn := gs.map fun g => if g.ad = a then { g with es := es } else g
theorem withE_id {gs : List Gn} {a : Addr} {es : List (Str × Int)} : (withE gs a es).map (·.id) = gs.map (·.id) := by
  unfold withE; rw [List.map_map]; refine List.map_congr_left fun g _ => ?_
  show (if g.ad = a then { g with es := es } else g).id = g.id
  split <;> rfl
theorem withE_ad {gs : List Gn} {a : Addr} {es : List (Str × Int)} : (withE gs a es).map (·.ad) = gs.map (·.ad) := by
  unfold withE; rw [List.map_map]; refine List.map_congr_left fun g _ => ?_
  show (if g.ad = a then { g with es := es } else g).ad = g.ad
  split <;> rfl
theorem withE_mem {gs : List Gn} {a : Addr} {es : List (Str × Int)} {g : Gn} (h : g ∈ withE gs a es) : ∃ q ∈ gs, (q.ad = a ∧ g = { q with es := es }) ∨ (q.ad ≠ a ∧ g = q) := by
  obtain ⟨q, hq, rfl⟩ := List.mem_map.mp h
  refine ⟨q, hq, ?_⟩
  by_cases e : q.ad = a
  · rw [if_pos e]; exact .inl ⟨e, rfl⟩
  · rw [if_neg e]; exact .inr ⟨e, rfl⟩
theorem withE_flat {x : Str} {v : Int} : ∀ {gs : List Gn} {g : Gn}, (gs.map (·.ad)).Nodup → g ∈ gs → ((withE gs g.ad (g.es ++ [(x, v)])).flatMap fun g => g.es.map (·.2)).Perm ((gs.flatMap fun g => g.es.map (·.2)) ++ [v])
  | q :: gs, g, nd, hg => by
    rw [List.map_cons, List.nodup_cons] at nd
    unfold withE
    rw [List.map_cons, List.flatMap_cons, List.flatMap_cons]
    by_cases e : q.ad = g.ad
    · have : q = g := by
        rcases List.mem_cons.mp hg with h | h
        · exact h.symm
        · exact absurd (List.mem_map_of_mem (f := (·.ad)) h) (by rw [← e]; exact nd.1)
      subst this
      rw [if_pos rfl]
      have e2 : (gs.map fun g => if g.ad = q.ad then { g with es := q.es ++ [(x, v)] } else g) = gs := by
        refine (List.map_congr_left fun g hg => ?_).trans (List.map_id gs)
        rw [if_neg fun z => nd.1 (by rw [← z]; exact List.mem_map_of_mem (f := (·.ad)) hg)]; rfl
      rw [e2]
      show (List.map (·.2) (q.es ++ [(x, v)]) ++ _).Perm _
      rw [List.map_append, List.append_assoc, List.append_assoc]
      exact List.Perm.append_left _ List.perm_append_comm
    · rw [if_neg e, List.append_assoc]
      refine List.Perm.append_left _ ?_
      exact withE_flat nd.2 ((List.mem_cons.mp hg).resolve_left fun z => e (by rw [z]))
theorem GW.add {gs : List Gn} {last m : Int} {g : Gn} {x k : Str} {p : Addr} (h : GW gs last) (nda : (gs.map (·.ad)).Nodup) (hg : g ∈ gs) (hd : g.kind = ("drawer" : Str)) (hx : x ∈ NM) (hz : x ≠ ("z" : Str)) (hn : x ∉ g.es.map (·.1)) (hm : last < m) (hk : isK k) :
    GW (withE gs g.ad (g.es ++ [(x, m)]) ++ [⟨m, k, [], p⟩]) m := by
  have same : ∀ q ∈ gs, q.ad = g.ad → q = g := fun q hq e => by
    have a1 := find_of_mem nda hq
    have a2 := find_of_mem nda hg
    rw [e, a2] at a1
    exact (Option.some.inj a1).symm
  have hlast : ∀ q ∈ gs, q.id < m := fun q hq => by have := (h.le q hq).2; omega
  have m0 : 0 ≤ m := by have := (h.le g hg); omega
  have mem : ∀ q ∈ withE gs g.ad (g.es ++ [(x, m)]) ++ [⟨m, k, [], p⟩], (q = { g with es := g.es ++ [(x, m)] }) ∨ (q ∈ gs) ∨ q = ⟨m, k, [], p⟩ := fun q hq => by
    rcases List.mem_append.mp hq with hq | hq
    · obtain ⟨q', hq', ⟨e, rfl⟩ | ⟨_, rfl⟩⟩ := withE_mem hq
      · rw [same q' hq' e]; exact .inl rfl
      · exact .inr (.inl hq')
    · exact .inr (.inr (List.mem_singleton.mp hq))
  refine ⟨?_, ?_, fun q hq => ?_, fun q hq => ?_, fun q hq => ?_, fun q hq => ?_, fun q hq => ?_, fun q hq => ?_, ?_⟩
  · rw [List.map_append, withE_id, List.pairwise_append]
    refine ⟨h.asc, by simp, fun a ha b hb => ?_⟩
    obtain ⟨q, hq, rfl⟩ := List.mem_map.mp ha
    rw [List.map_singleton, List.mem_singleton] at hb
    rw [hb]; exact hlast q hq
  · obtain ⟨es, a, r, rfl⟩ := h.top
    unfold withE
    rw [List.map_cons]
    by_cases e : a = g.ad
    · rw [if_pos e]; exact ⟨_, _, _, rfl⟩
    · rw [if_neg e]; exact ⟨_, _, _, rfl⟩
  · rcases mem q hq with rfl | hq | rfl
    · have := h.le g hg; exact ⟨this.1, by show g.id ≤ m; omega⟩
    · have := h.le q hq; omega
    · exact ⟨m0, Int.le_refl _⟩
  · rcases mem q hq with rfl | hq | rfl
    · exact h.kd g hg
    · exact h.kd q hq
    · exact hk
  · rcases mem q hq with rfl | hq | rfl
    · intro z
      have : g.kind = ("sheet" : Str) := z
      rw [hd] at this
      exact absurd this (by decide +kernel)
    · exact h.sh q hq
    · exact fun _ => rfl
  · rcases mem q hq with rfl | hq | rfl
    · show ((g.es ++ [(x, m)]).map (·.1)).Nodup
      rw [List.map_append, List.nodup_append]
      refine ⟨h.nd g hg, by simp, fun a ha b hb e => ?_⟩
      rw [List.map_singleton, List.mem_singleton] at hb
      rw [e, hb] at ha; exact hn ha
    · exact h.nd q hq
    · exact .nil
  · rcases mem q hq with rfl | hq | rfl
    · intro e he
      rcases List.mem_append.mp he with he | he
      · exact h.nm g hg e he
      · rw [List.mem_singleton.mp he]; exact ⟨hx, hz⟩
    · exact h.nm q hq
    · exact fun e he => by cases he
  · rcases mem q hq with rfl | hq | rfl
    · intro e he
      rcases List.mem_append.mp he with he | he
      · exact h.up g hg e he
      · rw [List.mem_singleton.mp he]; exact hlast g hg
    · exact h.up q hq
    · exact fun e he => by cases he
  · rw [List.flatMap_append, List.map_append, withE_id]
    have hne : gs.map (·.id) ≠ [] := by intro z; rw [List.map_eq_nil_iff] at z; rw [z] at hg; cases hg
    rw [List.tail_append_of_ne_nil hne]
    have e1 : ([(⟨m, k, [], p⟩ : Gn)].flatMap fun g => g.es.map (·.2)) = [] := rfl
    rw [e1, List.append_nil]
    exact (withE_flat nda hg).trans (h.pm.append_right _)
structure TI (S0 : Sto) (f E K : Addr) (gs : List Gn) (m : Nat) (S : Sto) : Prop where
  gE : S E = some (.dct (gs.map fun g => (D.int g.id, D.ref g.ad)))
  gK : S K = some (.dct (gs.map fun g => (D.int g.id, D.str g.kind)))
  inn : ∀ g ∈ gs, (g.ad ≠ E ∧ g.ad ≠ K ∧ g.ad ≠ f ∧ S0 g.ad = none) ∧ S g.ad = some (.dct (g.es.map eN))
  nda : (gs.map (·.ad)).Nodup
  ne : E ≠ K ∧ E ≠ f ∧ K ≠ f
  n0 : S0 E = none ∧ S0 K = none
  F : Feed S f m
  ks : Keeps f S0 S
section
variable {S0 S S' : Sto} {f E K p : Addr} {gs : List Gn} {m m' : Nat} {o : AO}
theorem TI.keep (T : TI S0 f E K gs m S) (F : Feed S' f m') (k : Keeps f S S') : TI S0 f E K gs m' S' :=
  ⟨k _ _ T.ne.2.1 T.gE, k _ _ T.ne.2.2 T.gK, fun g hg => ⟨(T.inn g hg).1, k _ _ (T.inn g hg).1.2.2.1 (T.inn g hg).2⟩, T.nda, T.ne, T.n0, F, T.ks.trans k⟩
theorem TI.new (T : TI S0 f E K gs m S) (h : S p = none) : TI S0 f E K gs m (put S p o) := T.keep (T.F.new h) (Keeps.new h)
theorem TI.free (T : TI S0 f E K gs m S) (h : S p = none) : S0 p = none := T.F.freeT T.ks h
theorem TI.entry (T : TI S0 f E K gs m S) {g : Gn} (hg : g ∈ gs) (es : List (Str × Int)) : TI S0 f E K (withE gs g.ad es) m (put S g.ad (.dct (es.map eN))) := by
  obtain ⟨⟨a, b, c, d⟩, e⟩ := T.inn g hg
  refine ⟨?_, ?_, fun q hq => ?_, by rw [withE_ad]; exact T.nda, T.ne, T.n0, T.F.put c, T.ks.then d⟩
  · rw [put_ne (Ne.symm a), T.gE]
    unfold withE; rw [List.map_map]
    congr 2
    refine List.map_congr_left fun q _ => ?_
    show _ = (D.int (if q.ad = g.ad then { q with es := es } else q).id, D.ref (if q.ad = g.ad then { q with es := es } else q).ad)
    split <;> rfl
  · rw [put_ne (Ne.symm b), T.gK]
    unfold withE; rw [List.map_map]
    congr 2
    refine List.map_congr_left fun q _ => ?_
    show _ = (D.int (if q.ad = g.ad then { q with es := es } else q).id, D.str (if q.ad = g.ad then { q with es := es } else q).kind)
    split <;> rfl
  · obtain ⟨q', hq', ⟨e1, rfl⟩ | ⟨e1, rfl⟩⟩ := withE_mem hq
    · exact ⟨(T.inn q' hq').1, by show put S g.ad _ q'.ad = _; rw [e1, put_same]⟩
    · exact ⟨(T.inn q hq').1, by rw [put_ne e1]; exact (T.inn q hq').2⟩
theorem TI.node (T : TI S0 f E K gs m S) {n : Int} {w : Str} {p : Addr} (hp : S p = some (.dct [])) (hE : p ≠ E) (hK : p ≠ K) (hf : p ≠ f) (h0 : S0 p = none) (hn : p ∉ gs.map (·.ad)) :
    TI S0 f E K (gs ++ [⟨n, w, [], p⟩]) m (put (put S E (.dct ((gs ++ [(⟨n, w, [], p⟩ : Gn)]).map fun g : Gn => (D.int g.id, D.ref g.ad)))) K (.dct ((gs ++ [(⟨n, w, [], p⟩ : Gn)]).map fun g : Gn => (D.int g.id, D.str g.kind)))) := by
  obtain ⟨n1, n2, n3⟩ := T.ne
  obtain ⟨z1, z2⟩ := T.n0
  refine ⟨by rw [put_ne n1, put_same], put_same, fun q hq => ?_, ?_, T.ne, T.n0, (T.F.put n2).put n3, (T.ks.then z1).then z2⟩
  · rcases List.mem_append.mp hq with hq | hq
    · obtain ⟨⟨a, b, c, d⟩, e⟩ := T.inn q hq
      exact ⟨⟨a, b, c, d⟩, by rw [put_ne b, put_ne a]; exact e⟩
    · rw [List.mem_singleton.mp hq]
      exact ⟨⟨hE, hK, hf, h0⟩, by show put _ _ _ p = _; rw [put_ne hK, put_ne hE]; exact hp⟩
  · rw [List.map_append, List.nodup_append]
    refine ⟨T.nda, by simp, fun a ha b hb e => ?_⟩
    rw [List.map_singleton, List.mem_singleton] at hb
    rw [e, hb] at ha; exact hn ha
end
theorem getE {gs : List Gn} (nd : (gs.map (·.id)).Nodup) {g : Gn} (h : g ∈ gs) : dGet (gs.map fun g => (D.int g.id, D.ref g.ad)) (.int g.id) = some (.ref g.ad) := by
  rw [dGet_int (f := fun g : Gn => g.id) (g := fun g : Gn => D.ref g.ad), find_of_mem nd h]; rfl
theorem getK {gs : List Gn} (nd : (gs.map (·.id)).Nodup) {g : Gn} (h : g ∈ gs) : dGet (gs.map fun g => (D.int g.id, D.str g.kind)) (.int g.id) = some (.str g.kind) := by
  rw [dGet_int (f := fun g : Gn => g.id) (g := fun g : Gn => D.str g.kind), find_of_mem nd h]; rfl
theorem fitN {kk : List (Str × Int)} {n : Str} : keyFit (kk.map eN) (.str n) = true := by cases kk <;> rfl
theorem fitWN {kk : List (Str × Int)} {n : Str} : keyFitW (kk.map eN) (.str n) = true := by unfold keyFitW; rw [fitN]; simp
theorem isN {kk : List (Str × Int)} {n : Str} : (dGet (kk.map eN) (.str n)).isSome = decide (n ∈ kk.map (·.1)) := by
  have e : dGet (kk.map eN) (.str n) = (kk.find? fun q => decide (q.1 = n)).map fun q => D.int q.2 := dGet_str
  rw [e, Option.isSome_map]
  by_cases h : n ∈ kk.map (·.1)
  · rw [decide_eq_true h]
    cases z : kk.find? fun q => decide (q.1 = n) with
    | none => exact absurd h (find_none.mp z)
    | some _ => rfl
  · rw [decide_eq_false h, find_none.mpr h]; rfl
theorem putN {kk : List (Str × Int)} {y : Str × Int} (h : y.1 ∉ kk.map (·.1)) : dPut (kk.map eN) (.str y.1) (.int y.2) = (kk ++ [y]).map eN := dPut_str_new (g := fun p : Str × Int => D.int p.2) h
theorem wSet_dct {S : Sto} {a : Addr} {kvs : List (D × D)} {i v : D} {k : Sto → Prop} (h : S a = some (.dct kvs)) (f : keyFitW kvs i = true) (hl : kvs.length < sizeLine) (q : k (put S a (.dct (dPut kvs i v)))) : wSet (.ref a) i v S k := by
  simp only [wSet, h]
  exact ⟨f, hl, q⟩
theorem dLe_int {S : Sto} {a b : Int} : dLe S (.int a) (.int b) = decide (a ≤ b) := by
  have h := PySem.W.dataLe_int (fun b : Int => b)
  have h2 := congrFun (congrFun h a) b
  rw [← h2]; rfl
theorem sorted_asc {S : Sto} {ns : List Int} (h : ns.Pairwise (· < ·)) : (ns.map D.int).mergeSort (dLe S) = ns.map D.int := by
  refine List.mergeSort_of_pairwise ?_
  rw [List.pairwise_map]
  exact h.imp fun h => by rw [dLe_int]; exact decide_eq_true (Int.le_of_lt h)
theorem wSortedD_asc {S : Sto} {E : Addr} {gs : List Gn} {g : Gn → D} {Q : KD} (e : S E = some (.dct (gs.map fun q => (D.int q.id, g q)))) (asc : (gs.map (·.id)).Pairwise (· < ·)) (k : ∀ p, S p = none → Q (.ref p) (put S p (.lst ((gs.map (·.id)).map D.int)))) : wSortedD [.ref E] S Q := by
  have ed : dctOf S (.ref E) = some (E, gs.map fun q => (D.int q.id, g q)) := by simp [dctOf, e]
  have em : (gs.map fun q => (D.int q.id, g q)).map (·.1) = (gs.map (·.id)).map D.int := by rw [List.map_map, List.map_map]; rfl
  unfold wSortedD
  simp only [ed]
  rw [em, sorted_asc asc]
  exact ⟨SortOk.ints _, k⟩
theorem mem_str {ns : List Str} {x : D} (h : x ∈ ns.map D.str) : ∃ n ∈ ns, x = .str n := by
  obtain ⟨n, h1, rfl⟩ := List.mem_map.mp h; exact ⟨n, h1, rfl⟩
theorem onS_mem {k : D → Prop} {xs : List D} {r : Int} (h0 : 0 ≤ r) (h1 : r < xs.length) (q : ∀ x ∈ xs, k x) : onS (atI xs r) k := by
  rw [atI_int h0 h1]; exact q _ (List.getElem_mem _)
theorem wAt_mem {S : Sto} {Q : KD} {G : Addr} {xs : List D} {r : Int} (h : S G = some (.lst xs)) (h0 : 0 ≤ r) (h1 : r < xs.length) (q : ∀ x ∈ xs, Q x S) : wAt (.ref G) (.int r) S Q := by
  rw [wAt_lst h]; exact onS_mem h0 h1 q
theorem pk_of {n : Int} {τ : DSt} {S : Sto} {f : Addr} {m : Nat} {Q : KD} (h0 : τ[0]? = some (some (.ref f))) (F : Feed S f m) (hm : m < 1000000000) (n0 : 0 < n) (n1 : n < 1000000) (k : ∀ r S', 0 ≤ r → r < n → Feed S' f (m + 1) → Keeps f S S' → Q (.int r) S') :
    dCall sp__law_pick [] (dCons (dV 0) (dCons (dC (.int n)) dNil)) τ S Q := by
  simp only [dCall_eq, dCons_eq, dC_eq, dNil_eq, List.append_nil]
  refine dV_at h0 ?_
  exact ⟨f, n, m, rfl, n0, by omega, hm, F, k⟩
def rdPick (i : Nat) : DTE := dBin wAt (dV i) (dCall sp__law_pick [] (dCons (dV 0) (dCons (dCB wLen (dCons (dV i) dNil)) dNil)))
theorem rdPick_of {i : Nat} {τ : DSt} {S : Sto} {f L : Addr} {m : Nat} {xs : List D} {Q : KD} (h0 : τ[0]? = some (some (.ref f))) (hi : τ[i]? = some (some (.ref L))) (F : Feed S f m) (hm : m < 1000000000) (g : S L = some (.lst xs)) (h : xs ≠ []) (hl : xs.length < 1000000)
    (k : ∀ x ∈ xs, ∀ S', Feed S' f (m + 1) → Keeps f S S' → Q x S') : rdPick i τ S Q := by
  have hp := List.length_pos_iff.mpr h
  unfold rdPick
  simp only [dBin_eq, dCall_eq, dCons_eq, dNil_eq, dCB_eq, List.append_nil]
  refine dV_at hi ?_
  refine dV_at h0 ?_
  refine dV_at hi ?_
  rw [wLen_lst g]
  exact ⟨f, _, m, rfl, by omega, by omega, hm, F, fun r S1 r0 r1 F1 K1 => wAt_mem (K1 _ _ (F.ne_lst g) g) r0 (by omega) fun x hx => k x hx S1 F1 K1⟩
theorem fixed_of {ta : DTA} {n : Int} {τ : DSt} {S : Sto} {f : Addr} {m : Nat} {xs : List D} {Q : KD} (hta : ∀ (τ : DSt) (S : Sto) (Q : List D → Sto → Prop), Q xs S → ta τ S Q) (h0 : τ[0]? = some (some (.ref f))) (F : Feed S f m) (hm : m < 1000000000) (hl : (xs.length : Int) = n) (hp : 0 < n) (hs : n ≤ 1000)
    (k : ∀ x ∈ xs, ∀ S', Feed S' f (m + 1) → Keeps f S S' → Q x S') : dBin wAt (dLst ta) (dCall sp__law_pick [] (dCons (dV 0) (dCons (dC (.int n)) dNil))) τ S Q := by
  have sz : 1001 < sizeLine := by rw [sizeLine_eq]; decide
  simp only [dBin_eq, dLst_eq]
  refine hta _ _ _ ⟨by omega, fun p hp2 => ?_⟩
  refine pk_of h0 (F.new hp2) hm hp (by omega) fun r S1 r0 r1 F1 K1 => ?_
  exact wAt_mem (K1 _ _ (F.nt hp2) put_same) r0 (by omega) fun x hx => k x hx S1 F1 ((Keeps.new hp2).trans K1)
def tn0 : DTS := dAsg (dBin wAdd (dBin wAdd (dV 8) (dC (.int 1))) (dCB wIntT (dCons (dBin wEq (dCall sp__law_pick [] (dCons (dV 0) (dCons (dC (.int 4)) dNil))) (dC (.int 0))) dNil))) (gdName 8)
def tn1 : DTS := dAsg (dV 8) (gdSub (dV 9) (dV 10) wSet)
def tn2 : DTS := dAsg (dTup (dCons dNewD (dCons (dBin wAt (dLst (dCons (dC (.str "drawer")) (dCons (dC (.str "sheet")) (dCons (dC (.str "drawer")) dNil)))) (dCall sp__law_pick [] (dCons (dV 0) (dCons (dC (.int 3)) dNil)))) dNil))) (gdTup 2 (gdCons (gdSub (dV 6) (dV 8) wSet) (gdCons (gdSub (dV 7) (dV 8) wSet) gdNil)))
def tbI : DTS := dIfS (dTst (dBin (wIn true) (dV 10) (dV 9))) (dSeq tn0 (dSeq tn1 tn2)) dNext
def tb0 : DTS := dAsg (dLC (diVal (dCB wSortedD (dCons (dV 6) dNil)) wIterA) (gdName 11) (dTst (dBin wEq (dBin wAt (dV 7) (dV 11)) (dC (.str "drawer")))) [11] [11] [] (dV 11)) (gdName 4)
def tb1 : DTS := dAsg (dBin wAt (dV 6) (dBin wAt (dV 4) (dCall sp__law_pick [] (dCons (dV 0) (dCons (dCB wLen (dCons (dV 4) dNil)) dNil))))) (gdName 9)
def tb2 : DTS := dAsg (dBin wAt (dLst (dCons (dC (.str "a")) (dCons (dC (.str "ab")) (dCons (dC (.str "b")) (dCons (dC (.str "c")) (dCons (dC (.str "x")) dNil)))))) (dCall sp__law_pick [] (dCons (dV 0) (dCons (dC (.int 5)) dNil)))) (gdName 10)
def tr0 : DTS := dAsg (dTup (dCons (dDisp ((dC (.int 0), dNewD) :: [])) (dCons (dDisp ((dC (.int 0), dC (.str "drawer")) :: [])) (dCons (dC (.int 0)) dNil)))) (gdTup 3 (gdCons (gdName 6) (gdCons (gdName 7) (gdCons (gdName 8) gdNil))))
def tr1 : DTS := dFor (diRng1 (dCons (dCall sp__law_pick [] (dCons (dV 0) (dCons (dBin wAdd (dV 1) (dC (.int 1))) dNil))) dNil)) (gdName 2) (dSeq tb0 (dSeq tb1 (dSeq tb2 tbI)))
def tr2 : DTS := dAsg (dLC (diVal (dCB wSortedD (dCons (dV 6) dNil)) wIterA) (gdName 11) (dTst (dBin wEq (dBin wAt (dV 7) (dV 11)) (dC (.str "sheet")))) [11] [11] [] (dV 11)) (gdName 3)
def tr3 : DTS := dAsg (dLC (diVal (dCB wSortedD (dCons (dV 6) dNil)) wIterA) (gdName 11) (dTst (dBin wEq (dBin wAt (dV 7) (dV 11)) (dC (.str "drawer")))) [11] [11] [] (dV 11)) (gdName 4)
def tr4 : DTS := dIfS (dAnd (dTst (dBin wNe (dV 3) (dLst dNil))) (dTst (dBin wEq (dCall sp__law_pick [] (dCons (dV 0) (dCons (dC (.int 2)) dNil))) (dC (.int 0))))) (dSeq (dAsg (dBin wAt (dV 6) (dBin wAt (dV 4) (dCall sp__law_pick [] (dCons (dV 0) (dCons (dCB wLen (dCons (dV 4) dNil)) dNil))))) (gdName 9)) (dAsg (dBin wAt (dV 3) (dCall sp__law_pick [] (dCons (dV 0) (dCons (dCB wLen (dCons (dV 3) dNil)) dNil)))) (gdSub (dV 9) (dC (.str "z")) wSet))) dNext
def tr5 : DTS := dAsg (dLC (diVal (dCB wSortedD (dCons (dV 6) dNil)) wIterA) (gdName 11) dYes [11] [11] [] (dTup (dCons (dV 11) (dCons (dBin wAt (dV 7) (dV 11)) (dCons (dCB wTuple (dCons (dSortedItems (dBin wAt (dV 6) (dV 11))) dNil)) dNil))))) (gdName 5)
def tr6 : DTS := dRet (dTup (dCons (dCB wTuple (dCons (dV 5) dNil)) (dCons (dBin wAdd (dBin wAdd (dV 8) (dC (.int 1))) (dCall sp__law_pick [] (dCons (dV 0) (dCons (dC (.int 2)) dNil)))) dNil)))
def r__law_tree : DTS := dSeq tr0 (dSeq tr1 (dSeq tr2 (dSeq tr3 (dSeq tr4 (dSeq tr5 tr6)))))
abbrev N__law_tree : List Str := ["_law_source_here", "_law_top", "_law_k", "_law_sheets", "_law_drawers", "_law_found", "_law_rows", "_law_kinds", "_law_last", "_law_own", "_law_name", "_law_node"]
end KB
namespace KB
open PySem PySem.Spec PyProof.Rows L2 DL
def treeD (rows : List Nd) (made : Int) : D := .tup [.tup (rows.map rowD), .int made]
def sp__law_tree : DSp := fun ds S Q E => ∃ f top m, ds = [.ref f, .int top] ∧ 0 ≤ top ∧ top ≤ 13 ∧ m < 900000000 ∧ Feed S f m ∧ ∀ rows made S', TreeG rows made → Feed S' f (m + 100) → Keeps f S S' → Q (treeD rows made) S'
theorem len__law_tree : ∀ ds S Q E, sp__law_tree ds S Q E → ds.length = (["_law_source_here", "_law_top"] : List Str).length := fun _ _ _ _ ⟨_, _, _, e, _⟩ => by rw [e]; rfl
def kin (w : Str) (gs : List Gn) : List Int := (gs.filter fun g => decide (g.kind = w)).map (·.id)
theorem kin_len (w : Str) (gs : List Gn) : (kin w gs).length ≤ gs.length := by
  unfold kin; rw [List.length_map]; exact List.length_filter_le _ _
theorem kin_mem {w : Str} {gs : List Gn} {n : Int} (h : n ∈ kin w gs) : ∃ g ∈ gs, g.id = n ∧ g.kind = w := by
  obtain ⟨g, hg, rfl⟩ := List.mem_map.mp h
  obtain ⟨h1, h2⟩ := List.mem_filter.mp hg
  exact ⟨g, h1, rfl, of_decide_eq_true h2⟩
theorem kin_flat (w : Str) (gs : List Gn) : (gs.flatMap fun g => if g.kind = w then [D.int g.id] else []) = (kin w gs).map D.int := by
  unfold kin
  induction gs with
  | nil => rfl
  | cons p r ih =>
    rw [List.flatMap_cons, ih, List.filter_cons]
    by_cases h : p.kind = w
    · rw [if_pos h, if_pos (decide_eq_true h)]; rfl
    · rw [if_neg h, if_neg (by simpa using h)]; rfl
section
variable {S0 S : Sto} {f E K : Addr} {gs : List Gn} {m : Nat} {last : Int} {Dn : DEnds} {Q : KD} {x1 x2 x3 x4 x5 x6 x7 x8 x9 x10 x11 : Option D}
theorem tr0_of (F : Feed S f m) (k : ∀ E K a S', TI S f E K [⟨0, "drawer", [], a⟩] m S' → Dn.nx [some (.ref f), x1, x2, x3, x4, x5, some (.ref E), some (.ref K), some (.int 0), x9, x10, x11] S') : tr0 Dn [some (.ref f), x1, x2, x3, x4, x5, x6, x7, x8, x9, x10, x11] S := by
  have sz : 1001 < sizeLine := by rw [sizeLine_eq]; decide
  unfold tr0
  simp only [dAsg_eq, dTup_eq, dCons_eq, dDisp_eq, dPairs_cons, dPairs_nil, dC_eq, dNil_eq]
  intro E hE
  show ∀ a, _ → _
  intro a ha
  have aE : a ≠ E := fun z => by rw [z, put_same] at ha; cases ha
  refine ⟨by rw [put_ne (Ne.symm aE), put_same], ⟨rfl, by simp⟩, fun K hK => ?_⟩
  have e1 : kvMerge [] [(D.int 0, D.ref a)] = [(⟨0, "drawer", [], a⟩ : Gn)].map fun g : Gn => (D.int g.id, D.ref g.ad) := by simp [kvMerge, dPut]
  rw [e1] at hK ⊢
  refine ⟨put_same, ⟨rfl, by simp⟩, by show 3 ≤ sizeLine; omega, ?_⟩
  have e2 : kvMerge [] [(D.int 0, D.str "drawer")] = [(⟨0, "drawer", [], a⟩ : Gn)].map fun g : Gn => (D.int g.id, D.str g.kind) := by simp [kvMerge, dPut]
  rw [e2]
  refine ⟨rfl, rfl, ?_⟩
  have KE : K ≠ E := fun z => by rw [z, put_same] at hK; cases hK
  have Ka : K ≠ a := fun z => by rw [z, put_ne aE, put_same] at hK; cases hK
  have ha0 : S a = none := by rw [put_ne aE] at ha; exact ha
  have hK0 : S K = none := by rw [put_ne KE, put_ne Ka, put_ne KE] at hK; exact hK
  have fE := F.nt hE
  have fa := F.nt ha0
  have fK := F.nt hK0
  refine k E K a _ ⟨?_, put_same, fun g hg => ?_, by simp, ⟨Ne.symm KE, fE, fK⟩, ⟨hE, hK0⟩, ((((F.put fE).put fa).put fE).put fK).put fK, (((((Keeps.refl).then hE).then ha0).then hE).then hK0).then hK0⟩
  · rw [put_ne (Ne.symm KE), put_ne (Ne.symm KE), put_same]
  · rw [List.mem_singleton.mp hg]
    refine ⟨⟨aE, Ne.symm Ka, fa, ha0⟩, ?_⟩
    show put _ _ _ a = _
    rw [put_ne (Ne.symm Ka), put_ne (Ne.symm Ka), put_ne aE, put_same]; rfl
def rdKin (w : Str) : DTE := dLC (diVal (dCB wSortedD (dCons (dV 6) dNil)) wIterA) (gdName 11) (dTst (dBin wEq (dBin wAt (dV 7) (dV 11)) (dC (.str w)))) [11] [11] [] (dV 11)
theorem kin_of {w : Str} (T : TI S0 f E K gs m S) (asc : (gs.map (·.id)).Pairwise (· < ·)) (hl : gs.length ≤ 1000) (k : ∀ L S', TI S0 f E K gs m S' → S' L = some (.lst ((kin w gs).map D.int)) → (∀ a ds, S a = some (.lst ds) → S' a = some (.lst ds)) → Q (.ref L) S') : rdKin w [some (.ref f), x1, x2, x3, x4, x5, some (.ref E), some (.ref K), some (.int last), x9, x10, x11] S Q := by
  have sz : 1001 < sizeLine := by rw [sizeLine_eq]; decide
  have nd : (gs.map (·.id)).Nodup := asc.imp fun h e => by omega
  unfold rdKin
  simp only [dLC_eq, diVal_eq, dCB_eq, dCons_eq, dNil_eq]
  refine dV_at (by rfl) ?_
  refine wSortedD_asc (g := fun g => D.ref g.ad) T.gE asc fun p hp => ?_
  have T1 := T.new (o := .lst ((gs.map (·.id)).map D.int)) hp
  have e1 : put S p (.lst ((gs.map (·.id)).map D.int)) p = some (.lst ((gs.map (·.id)).map D.int)) := put_same
  have st1 : ∀ a ds, S a = some (.lst ds) → put S p (.lst ((gs.map (·.id)).map D.int)) a = some (.lst ds) := fun a ds h => by rw [put_ne (ne_of_free hp h)]; exact h
  generalize put S p (.lst ((gs.map (·.id)).map D.int)) = S1 at *
  rw [wIter_lst e1]
  intro L hL
  have pL : p ≠ L := ne_of_free hL e1
  have em : (gs.map (·.id)).map D.int = gs.map fun g : Gn => D.int g.id := by rw [List.map_map]; rfl
  rw [em] at e1 ⊢
  refine lc_map (fun g : Gn => D.int g.id) (fun g => if g.kind = w then [D.int g.id] else []) gs (fun o => by rw [put_ne pL]; exact e1) ?_ (fun g hg acc k2 hacc hk => ?_) ?_
  · have := flatMap_le (fun g : Gn => if g.kind = w then [D.int g.id] else []) 1 gs fun x _ => by split <;> simp
    omega
  · refine ⟨rfl, ?_⟩
    simp only [dTst_eq, dBin_eq, dC_eq]
    refine dV_at (by rfl) ?_
    refine dV_at (by rfl) ?_
    have T2 := T1.new (o := .lst acc) hL
    rw [wAt_dct T2.gK (keyFit_int (f := fun g : Gn => g.id) (g := fun g : Gn => D.str g.kind)) (getK nd hg), wEq_str, isB_bl]
    by_cases h : g.kind = w
    · rw [decide_eq_true h, if_pos rfl, emLst_eq]
      rw [if_pos h] at hacc hk
      refine dV_at (by rfl) ?_
      rw [onL_put, put_put']
      simp only [List.length_singleton] at hacc
      exact ⟨by omega, hk⟩
    · rw [decide_eq_false h, if_neg (by decide)]
      rw [if_neg h, List.append_nil] at hk
      exact hk
  · rw [kin_flat]
    exact k L _ (T1.new hL) put_same fun a ds h => by rw [put_ne (ne_of_free hL (st1 a ds h))]; exact st1 a ds h
theorem tb0_eq : tb0 = dAsg (rdKin "drawer") (gdName 4) := rfl
theorem tr2_eq : tr2 = dAsg (rdKin "sheet") (gdName 3) := rfl
theorem tr3_eq : tr3 = dAsg (rdKin "drawer") (gdName 4) := rfl
theorem tb1_eq : tb1 = dAsg (dBin wAt (dV 6) (rdPick 4)) (gdName 9) := rfl
theorem kin_top {gs : List Gn} {last : Int} (W : GW gs last) : kin "drawer" gs ≠ [] := by
  obtain ⟨es, a, r, rfl⟩ := W.top
  intro z
  have : (0 : Int) ∈ kin "drawer" (⟨0, "drawer", es, a⟩ :: r) := List.mem_map.mpr ⟨_, List.mem_filter.mpr ⟨List.mem_cons_self .., by simp⟩, rfl⟩
  rw [z] at this; cases this
theorem own_of {L : Addr} {w : Str} (T : TI S0 f E K gs m S) (nd : (gs.map (·.id)).Nodup) (hm : m < 999999000) (hl : gs.length ≤ 1000) (eL : S L = some (.lst ((kin w gs).map D.int))) (hne : kin w gs ≠ [])
    (k : ∀ g S', g ∈ gs → g.kind = w → TI S0 f E K gs (m + 1) S' → (∀ a ds, S a = some (.lst ds) → S' a = some (.lst ds)) → Q (.ref g.ad) S') : dBin wAt (dV 6) (rdPick 4) [some (.ref f), x1, x2, x3, some (.ref L), x5, some (.ref E), some (.ref K), some (.int last), x9, x10, x11] S Q := by
  rw [dBin_eq]
  refine dV_at (by rfl) ?_
  have lk := kin_len w gs
  refine rdPick_of (L := L) (by rfl) (by rfl) T.F (by omega) eL (by simpa using hne) (by rw [List.length_map]; omega) fun x hx S1 F1 K1 => ?_
  obtain ⟨n, hn, rfl⟩ := List.mem_map.mp hx
  obtain ⟨g, hg, rfl, hk⟩ := kin_mem hn
  have T1 := T.keep F1 K1
  rw [wAt_dct T1.gE (keyFit_int (f := fun g : Gn => g.id) (g := fun g : Gn => D.ref g.ad)) (getE nd hg)]
  exact k g S1 hg hk T1 fun a ds h => K1 _ _ (T.F.ne_lst h) h
theorem tbI_of {g : Gn} {x : Str} (T : TI S0 f E K gs m S) (W : GW gs last) (hm : m < 999999000) (hl : gs.length ≤ 1000) (hg : g ∈ gs) (hd : g.kind = ("drawer" : Str)) (hx : x ∈ NM) (hz : x ≠ ("z" : Str))
    (k : ∀ gs' last' S', TI S0 f E K gs' (m + 2) S' → GW gs' last' → last' ≤ last + 2 → gs'.length ≤ gs.length + 1 → Dn.nx [some (.ref f), x1, x2, x3, x4, x5, some (.ref E), some (.ref K), some (.int last'), some (.ref g.ad), some (.str x), x11] S') : tbI Dn [some (.ref f), x1, x2, x3, x4, x5, some (.ref E), some (.ref K), some (.int last), some (.ref g.ad), some (.str x), x11] S := by
  have sz : 1001 < sizeLine := by rw [sizeLine_eq]; decide
  have eg := (T.inn g hg).2
  have lg : g.es.length ≤ 1000 := by
    have h1 : (gs.flatMap fun g => g.es.map (·.2)).length ≤ gs.length := by rw [W.pm.length_eq, List.length_tail, List.length_map]; omega
    have h2 : ∀ l : List Gn, g ∈ l → g.es.length ≤ (l.flatMap fun g => g.es.map (·.2)).length := fun l => by
      induction l with
      | nil => intro z; cases z
      | cons y r ih =>
        intro z
        rw [List.flatMap_cons, List.length_append]
        rcases List.mem_cons.mp z with rfl | z
        · rw [List.length_map]; omega
        · have := ih z; omega
    have := h2 gs hg
    omega
  unfold tbI
  simp only [dIfS_eq, dTst_eq, dBin_eq, dNext_eq]
  refine dV_at (by rfl) ?_
  refine dV_at (by rfl) ?_
  rw [wIn_dct eg fitN, isN, isB_bl]
  by_cases hn : x ∈ g.es.map (·.1)
  · rw [decide_eq_true hn, if_neg (by decide)]
    exact k gs last S (T.keep (T.F.up (by omega)) .refl) W (by omega) (by omega)
  rw [decide_eq_false hn, if_pos (by rfl)]
  unfold tn0
  simp only [dSeq_eq, dAsg_eq, dBin_eq, dCB_eq, dCons_eq, dNil_eq, dC_eq, gdName_eq]
  refine dV_at (by rfl) ?_
  rw [wAdd_int]
  refine pk_of (by rfl) T.F (by omega) (by decide) (by decide) fun r S1 r0 r1 F1 K1 => ?_
  rw [wEq_int, wIntT_bl, wAdd_int]
  obtain ⟨mm, hmm⟩ : ∃ mm : Int, last + 1 + (if decide (r = 0) = true then 1 else 0) = mm := ⟨_, rfl⟩
  have hm1 : last < mm ∧ mm ≤ last + 2 := by rw [← hmm]; split <;> omega
  rw [hmm]
  have T1 := T.keep F1 K1
  show tn1 _ [some (.ref f), x1, x2, x3, x4, x5, some (.ref E), some (.ref K), some (.int mm), some (.ref g.ad), some (.str x), x11] S1
  unfold tn1
  simp only [dAsg_eq, gdSub_eq]
  refine dV_at (by rfl) ?_
  refine dV_at (by rfl) ?_
  refine dV_at (by rfl) ?_
  refine wSet_dct (T1.inn g hg).2 fitWN (by rw [List.length_map]; omega) ?_
  rw [putN (y := (x, mm)) hn]
  have T2 := T1.entry hg (g.es ++ [(x, mm)])
  generalize put S1 g.ad (.dct ((g.es ++ [(x, mm)]).map eN)) = S2 at T2 ⊢
  show tn2 _ [some (.ref f), x1, x2, x3, x4, x5, some (.ref E), some (.ref K), some (.int mm), some (.ref g.ad), some (.str x), x11] S2
  unfold tn2
  simp only [dAsg_eq, dTup_eq, dCons_eq, dNil_eq]
  show ∀ p, _ → _
  intro p hp
  have T3 := T2.new (o := .dct []) hp
  have ep : put S2 p (.dct []) p = some (.dct []) := put_same
  have pf := T2.F.nt hp
  have p0 := T2.free hp
  have pE : p ≠ E := fun z => by rw [z, T2.gE] at hp; cases hp
  have pK : p ≠ K := fun z => by rw [z, T2.gK] at hp; cases hp
  have pa : p ∉ (withE gs g.ad (g.es ++ [(x, mm)])).map (·.ad) := fun z => by
    obtain ⟨q, hq, e⟩ := List.mem_map.mp z
    have := (T2.inn q hq).2
    rw [e, hp] at this; cases this
  generalize put S2 p (.dct []) = S3 at *
  refine fixed_of (m := m + 1) (xs := [.str "drawer", .str "sheet", .str "drawer"]) (fun _ _ _ q => q) (by rfl) T3.F (by omega) (by rfl) (by decide) (by decide) fun y hy S4 F4 K4 => ?_
  obtain ⟨kd, rfl, hkd⟩ : ∃ kd : Str, y = .str kd ∧ isK kd := by
    simp only [List.mem_cons, List.not_mem_nil, or_false] at hy
    rcases hy with rfl | rfl | rfl
    · exact ⟨_, rfl, .inl rfl⟩
    · exact ⟨_, rfl, .inr rfl⟩
    · exact ⟨_, rfl, .inl rfl⟩
  have T4 := T3.keep F4 K4
  have ep4 := K4 _ _ pf ep
  have nid : mm ∉ (withE gs g.ad (g.es ++ [(x, mm)])).map (·.id) := by
    rw [withE_id]
    intro z
    obtain ⟨q, hq, e⟩ := List.mem_map.mp z
    have := (W.le q hq).2
    omega
  have lw : (withE gs g.ad (g.es ++ [(x, mm)])).length = gs.length := by have := congrArg List.length (withE_id (gs := gs) (a := g.ad) (es := g.es ++ [(x, mm)])); simpa using this
  refine ⟨by show 2 ≤ sizeLine; omega, rfl, ?_⟩
  simp only [gdCons_eq, gdSub_eq]
  refine dV_at (by rfl) ?_
  refine dV_at (by rfl) ?_
  refine wSet_dct T4.gE (keyFitW_int (f := fun g : Gn => g.id) (g := fun g : Gn => D.ref g.ad)) (by rw [List.length_map]; omega) ?_
  have e1 := dPut_int_new (f := fun g : Gn => g.id) (g := fun g : Gn => D.ref g.ad) (xs := withE gs g.ad (g.es ++ [(x, mm)])) (y := ⟨mm, kd, [], p⟩) nid
  have e2 := dPut_int_new (f := fun g : Gn => g.id) (g := fun g : Gn => D.str g.kind) (xs := withE gs g.ad (g.es ++ [(x, mm)])) (y := ⟨mm, kd, [], p⟩) nid
  simp only at e1 e2
  rw [e1]
  refine dV_at (by rfl) ?_
  refine dV_at (by rfl) ?_
  refine wSet_dct (by rw [put_ne (Ne.symm T4.ne.1)]; exact T4.gK) (keyFitW_int (f := fun g : Gn => g.id) (g := fun g : Gn => D.str g.kind)) (by rw [List.length_map]; omega) ?_
  rw [e2]
  refine ⟨rfl, ?_⟩
  exact k _ mm _ (T4.node ep4 pE pK pf p0 pa) (W.add T.nda hg hd hx hz hn hm1.1 hkd) hm1.2 (by rw [List.length_append, lw]; exact Nat.le_refl _)
theorem tr1_of {top : Int} (T : TI S0 f E K gs m S) (W : GW gs 0) (t0 : 0 ≤ top) (t1 : top ≤ 13) (hm : m < 900001000) (hl : gs.length ≤ 1)
    (k : ∀ gs' last' m' y2 y4 y9 y10 S', TI S0 f E K gs' m' S' → m' ≤ m + 80 → GW gs' last' → last' ≤ 30 → gs'.length ≤ 14 → Dn.nx [some (.ref f), some (.int top), y2, x3, y4, x5, some (.ref E), some (.ref K), some (.int last'), y9, y10, x11] S') : tr1 Dn [some (.ref f), some (.int top), x2, x3, x4, x5, some (.ref E), some (.ref K), some (.int 0), x9, x10, x11] S := by
  unfold tr1
  generalize hB : dSeq tb0 (dSeq tb1 (dSeq tb2 tbI)) = B
  simp only [dFor_eq, diRng1_eq, dCons_eq, dNil_eq, dCall_eq, dBin_eq, dC_eq, List.append_nil]
  refine dV_at (by rfl) ?_
  refine dV_at (by rfl) ?_
  rw [wAdd_int]
  refine ⟨f, _, m, rfl, by omega, by omega, by omega, T.F, fun r S1 r0 r1 F1 K1 => ?_⟩
  show r < 2 ^ 62 ∧ -(2 ^ 62) ≤ r ∧ _
  refine ⟨by omega, by omega, ?_⟩
  rw [rngD_map]
  refine loop_map (fun i : Nat => D.int (i : Int)) (fun done τ S' => ∃ gs' last' y2 y4 y9 y10, TI S0 f E K gs' (m + 1 + 4 * done.length) S' ∧ GW gs' last' ∧ last' ≤ 2 * done.length ∧ gs'.length ≤ 1 + done.length ∧ τ = [some (.ref f), some (.int top), y2, x3, y4, x5, some (.ref E), some (.ref K), some (.int last'), y9, y10, x11])
    (fun _ _ _ _ => trivial) (fun τ S' h => ?_) (fun done i rest τ S' es h N hN => ?_) ⟨gs, 0, _, _, _, _, T.keep F1 K1, W, (by decide), hl, rfl⟩
  · obtain ⟨gs', last', y2, y4, y9, y10, T', W', l1, l2, rfl⟩ := h
    rw [List.length_range] at T' l1 l2
    exact k _ _ _ _ _ _ _ _ T' (by omega) W' (by omega) (by omega)
  · obtain ⟨gs', last', y2, y4, y9, y10, T', W', l1, l2, rfl⟩ := h
    have ld : done.length < 13 := by
      have := congrArg List.length es
      rw [List.length_range, List.length_append, List.length_cons] at this
      omega
    show B _ [some (.ref f), some (.int top), some (.int i), x3, y4, x5, some (.ref E), some (.ref K), some (.int last'), y9, y10, x11] S'
    rw [← hB]
    simp only [dSeq_eq]
    rw [tb0_eq, dAsg_eq]
    refine kin_of T' W'.asc (by omega) fun L S2 T2 eL _ => ?_
    show tb1 _ [some (.ref f), some (.int top), some (.int i), x3, some (.ref L), x5, some (.ref E), some (.ref K), some (.int last'), y9, y10, x11] S2
    rw [tb1_eq, dAsg_eq]
    refine own_of (L := L) T2 W'.nodup (by omega) (by omega) eL (kin_top W') fun g S3 hg hd T3 _ => ?_
    show tb2 _ [some (.ref f), some (.int top), some (.int i), x3, some (.ref L), x5, some (.ref E), some (.ref K), some (.int last'), some (.ref g.ad), y10, x11] S3
    unfold tb2
    rw [dAsg_eq]
    refine fixed_of (m := m + 1 + 4 * done.length + 1) (xs := [.str "a", .str "ab", .str "b", .str "c", .str "x"]) (fun _ _ _ q => q) (by rfl) T3.F (by omega) (by rfl) (by decide) (by decide) fun y hy S4 F4 K4 => ?_
    obtain ⟨x, rfl, hx, hz⟩ : ∃ x : Str, y = .str x ∧ x ∈ NM ∧ x ≠ ("z" : Str) := by
      simp only [List.mem_cons, List.not_mem_nil, or_false] at hy
      rcases hy with rfl | rfl | rfl | rfl | rfl
      all_goals exact ⟨_, rfl, by simp [NM], by decide +kernel⟩
    show tbI _ [some (.ref f), some (.int top), some (.int i), x3, some (.ref L), x5, some (.ref E), some (.ref K), some (.int last'), some (.ref g.ad), some (.str x), x11] S4
    refine tbI_of (T3.keep F4 K4) W' (by omega) (by omega) hg hd hx hz fun gs2 last2 S5 T5 W5 h5 l5 => hN _ _ ⟨gs2, last2, _, _, _, _, ?_, W5, by rw [List.length_append]; show last2 ≤ 2 * ((done.length + 1 : Nat) : Int); omega, by rw [List.length_append]; show _ ≤ 1 + (_ + 1); omega, rfl⟩
    rw [List.length_append, show m + 1 + 4 * (done.length + [i].length) = m + 1 + 4 * done.length + 1 + 1 + 2 from rfl]
    exact T5
end
end KB
namespace KB
open PySem PySem.Spec PyProof.Rows L2 DL
structure GF (gs : List Gn) (last : Int) : Prop where
  asc : (gs.map (·.id)).Pairwise (· < ·)
  top : ∃ es a r, gs = ⟨0, "drawer", es, a⟩ :: r
  le : ∀ g ∈ gs, 0 ≤ g.id ∧ g.id ≤ last
  kd : ∀ g ∈ gs, isK g.kind
  sh : ∀ g ∈ gs, g.kind = ("sheet" : Str) → g.es = []
  nd : ∀ g ∈ gs, (g.es.map (·.1)).Nodup
  nm : ∀ g ∈ gs, ∀ e ∈ g.es, e.1 ∈ NM
  tg : ∀ g ∈ gs, ∀ e ∈ g.es, e.2 ∈ gs.map (·.id) ∧ 0 < e.2
  one : ∃ ex : List Int, (gs.flatMap fun g => g.es.map (·.2)).Perm ((gs.map (·.id)).tail ++ ex) ∧ ∀ s ∈ ex, ∃ q ∈ gs, q.id = s ∧ q.kind = ("sheet" : Str)
  up : ∀ g ∈ gs, ∀ e ∈ g.es, g.id < e.2 ∨ ∃ q ∈ gs, q.id = e.2 ∧ q.kind = ("sheet" : Str)
theorem GW.tg {gs : List Gn} {last : Int} (h : GW gs last) {g : Gn} (hg : g ∈ gs) {e : Str × Int} (he : e ∈ g.es) : e.2 ∈ gs.map (·.id) ∧ 0 < e.2 := by
  have h1 : e.2 ∈ gs.flatMap fun g => g.es.map (·.2) := List.mem_flatMap.mpr ⟨g, hg, List.mem_map_of_mem (f := (·.2)) he⟩
  have := h.up g hg e he
  have := (h.le g hg).1
  exact ⟨List.mem_of_mem_tail (h.pm.mem_iff.mp h1), by omega⟩
theorem GW.fin {gs : List Gn} {last : Int} (h : GW gs last) : GF gs last :=
  ⟨h.asc, h.top, h.le, h.kd, h.sh, h.nd, fun g hg e he => (h.nm g hg e he).1, fun g hg e he => h.tg hg he, ⟨[], by rw [List.append_nil]; exact h.pm, by simp⟩, fun g hg e he => .inl (h.up g hg e he)⟩
theorem withE_there {gs : List Gn} {a : Addr} {es : List (Str × Int)} {q : Gn} (h : q ∈ gs) : ∃ q' ∈ withE gs a es, q'.id = q.id ∧ q'.kind = q.kind := by
  refine ⟨_, List.mem_map_of_mem h, ?_⟩
  split <;> exact ⟨rfl, rfl⟩
theorem GW.finz {gs : List Gn} {last : Int} (h : GW gs last) (nda : (gs.map (·.ad)).Nodup) {g : Gn} (hg : g ∈ gs) (hd : g.kind = ("drawer" : Str)) {s : Int} (hs : s ∈ kin "sheet" gs) : GF (withE gs g.ad (g.es ++ [(Str.ofString "z", s)])) last := by
  obtain ⟨q0, hq0, rfl, ks⟩ := kin_mem hs
  have same : ∀ q ∈ gs, q.ad = g.ad → q = g := fun q hq e => by
    have a1 := find_of_mem nda hq
    have a2 := find_of_mem nda hg
    rw [e, a2] at a1
    exact (Option.some.inj a1).symm
  have mem : ∀ q ∈ withE gs g.ad (g.es ++ [(Str.ofString "z", q0.id)]), (q = { g with es := g.es ++ [(Str.ofString "z", q0.id)] }) ∨ (q ∈ gs) := fun q hq => by
    obtain ⟨q', hq', ⟨e, rfl⟩ | ⟨_, rfl⟩⟩ := withE_mem hq
    · rw [same q' hq' e]; exact .inl rfl
    · exact .inr hq'
  have she : ∃ q ∈ withE gs g.ad (g.es ++ [(Str.ofString "z", q0.id)]), q.id = q0.id ∧ q.kind = ("sheet" : Str) := by
    obtain ⟨q', h1, h2, h3⟩ := withE_there (a := g.ad) (es := g.es ++ [(Str.ofString "z", q0.id)]) hq0
    exact ⟨q', h1, h2, h3.trans ks⟩
  have pos : 0 < q0.id := by
    obtain ⟨es, a, r, e⟩ := h.top
    have h1 := (h.le q0 hq0).1
    by_cases hz : q0.id = 0
    · exfalso
      have hm : (⟨0, "drawer", es, a⟩ : Gn) ∈ gs := by rw [e]; exact List.mem_cons_self ..
      have a1 := find_of_mem h.nodup hq0
      have a2 := find_of_mem h.nodup hm
      rw [hz] at a1
      rw [a1] at a2
      have := Option.some.inj a2
      rw [this] at ks
      exact absurd (show Str.ofString "drawer" = Str.ofString "sheet" from ks) (by decide +kernel)
    · omega
  refine ⟨by rw [withE_id]; exact h.asc, ?_, fun q hq => ?_, fun q hq => ?_, fun q hq => ?_, fun q hq => ?_, fun q hq => ?_, fun q hq => ?_, ?_, fun q hq => ?_⟩
  · obtain ⟨es, a, r, rfl⟩ := h.top
    unfold withE
    rw [List.map_cons]
    by_cases e : a = g.ad
    · rw [if_pos e]; exact ⟨_, _, _, rfl⟩
    · rw [if_neg e]; exact ⟨_, _, _, rfl⟩
  · rcases mem q hq with rfl | hq
    · exact h.le g hg
    · exact h.le q hq
  · rcases mem q hq with rfl | hq
    · exact h.kd g hg
    · exact h.kd q hq
  · rcases mem q hq with rfl | hq
    · intro z
      have : g.kind = ("sheet" : Str) := z
      rw [hd] at this
      exact absurd this (by decide +kernel)
    · exact h.sh q hq
  · rcases mem q hq with rfl | hq
    · show ((g.es ++ [(Str.ofString "z", q0.id)]).map (·.1)).Nodup
      rw [List.map_append, List.nodup_append]
      refine ⟨h.nd g hg, by simp, fun a ha b hb e => ?_⟩
      rw [List.map_singleton, List.mem_singleton] at hb
      obtain ⟨x, hx, rfl⟩ := List.mem_map.mp ha
      exact (h.nm g hg x hx).2 (e.trans hb)
    · exact h.nd q hq
  · rcases mem q hq with rfl | hq
    · intro e he
      rcases List.mem_append.mp he with he | he
      · exact (h.nm g hg e he).1
      · rw [List.mem_singleton.mp he]; simp [NM]
    · exact fun e he => (h.nm q hq e he).1
  · rw [withE_id]
    rcases mem q hq with rfl | hq
    · intro e he
      rcases List.mem_append.mp he with he | he
      · exact h.tg hg he
      · rw [List.mem_singleton.mp he]; exact ⟨List.mem_map_of_mem (f := (·.id)) hq0, pos⟩
    · exact fun e he => h.tg hq he
  · refine ⟨[q0.id], ?_, fun s hs => by rw [List.mem_singleton.mp hs]; exact she⟩
    rw [withE_id]
    exact (withE_flat nda hg).trans (h.pm.append_right _)
  · rcases mem q hq with rfl | hq
    · intro e he
      rcases List.mem_append.mp he with he | he
      · exact .inl (h.up g hg e he)
      · rw [List.mem_singleton.mp he]; exact .inr she
    · exact fun e he => .inl (h.up q hq e he)
theorem srtE_perm (es : List (Str × Int)) : (srtE es).Perm es := List.mergeSort_perm _ _
def Gn.row (g : Gn) : Nd := (g.id, g.kind, srtE g.es)
theorem flat_perm {f1 f2 : Gn → List Int} (h : ∀ g, (f1 g).Perm (f2 g)) : ∀ gs : List Gn, (gs.flatMap f1).Perm (gs.flatMap f2)
  | [] => .refl _
  | g :: gs => by rw [List.flatMap_cons, List.flatMap_cons]; exact (h g).append (flat_perm h gs)
theorem GF.tree {gs : List Gn} {last made : Int} (h : GF gs last) (hl : gs.length ≤ 14) (h1 : last < made) (h2 : made ≤ 100) : TreeG (gs.map Gn.row) made := by
  have ids : (gs.map Gn.row).map (·.1) = gs.map (·.id) := by rw [List.map_map]; rfl
  have mem : ∀ r ∈ gs.map Gn.row, ∃ g ∈ gs, r = g.row := fun r hr => by obtain ⟨g, hg, rfl⟩ := List.mem_map.mp hr; exact ⟨g, hg, rfl⟩
  refine ⟨by rw [List.length_map]; exact hl, by rw [ids]; exact h.asc, ?_, fun r hr => ?_, h2, fun r hr => ?_, fun r hr => ?_, fun r hr => ?_, fun r hr e he => ?_, fun r hr e he => ?_, ?_, fun r hr e he => ?_, fun r hr => ?_⟩
  · obtain ⟨es, a, r, rfl⟩ := h.top
    exact ⟨srtE es, r.map Gn.row, rfl⟩
  · obtain ⟨g, hg, rfl⟩ := mem r hr; have := (h.le g hg).2; show g.id < made; omega
  · obtain ⟨g, hg, rfl⟩ := mem r hr; exact h.kd g hg
  · obtain ⟨g, hg, rfl⟩ := mem r hr
    intro z
    have := h.sh g hg z
    show srtE g.es = []
    rw [this]; exact List.mergeSort_nil ..
  · obtain ⟨g, hg, rfl⟩ := mem r hr; exact ((srtE_perm g.es).map _).nodup_iff.mpr (h.nd g hg)
  · obtain ⟨g, hg, rfl⟩ := mem r hr; exact h.nm g hg e ((srtE_perm g.es).mem_iff.mp he)
  · obtain ⟨g, hg, rfl⟩ := mem r hr; rw [ids]; exact h.tg g hg e ((srtE_perm g.es).mem_iff.mp he)
  · obtain ⟨ex, e1, e2⟩ := h.one
    refine ⟨ex, ?_, fun s hs => ?_⟩
    · rw [ids, List.flatMap_map]
      exact (flat_perm (fun g => ((srtE_perm g.es).map _)) gs).trans e1
    · obtain ⟨q, hq, a, b⟩ := e2 s hs
      exact ⟨q.row, List.mem_map_of_mem hq, a, b⟩
  · obtain ⟨g, hg, rfl⟩ := mem r hr
    rcases h.up g hg e ((srtE_perm g.es).mem_iff.mp he) with a | ⟨q, hq, a, b⟩
    · exact .inl a
    · exact .inr ⟨q.row, List.mem_map_of_mem hq, a, b⟩
  · obtain ⟨g, hg, rfl⟩ := mem r hr
    exact ⟨g.es, rfl⟩
theorem dLe_cl {S : Sto} {a b : D} (ha : a.cl 20 = true) (hb : b.cl 20 = true) : dLe S a b = PySem.W.dataLe false D.py a b := by
  have e1 : enc6 S a = a.py := by show (rd 6 S a).py = _; rw [rd_cl ha]
  have e2 : enc6 S b = b.py := by show (rd 6 S b).py = _; rw [rd_cl hb]
  show PySem.W.dataLe false (enc6 S) a b = _
  unfold PySem.W.dataLe PySem.W.sortLe
  simp only [e1, e2]
theorem srt_of {S : Sto} (es : List (Str × Int)) : (es.map pairSI).mergeSort (dLe S) = (srtE es).map pairSI := by
  rw [mergeSort_map]
  unfold srtE
  have : (fun a b : Str × Int => dLe S (pairSI a) (pairSI b)) = fun a b => PySem.W.dataLe false D.py (pairSI a) (pairSI b) := by
    funext a b
    exact dLe_cl (by simp [pairSI, D.cl, D.cls]) (by simp [pairSI, D.cl, D.cls])
  rw [this]
section
variable {S0 S : Sto} {f E K : Addr} {gs : List Gn} {m : Nat} {last : Int} {Dn : DEnds} {Q : KD} {x1 x2 x3 x4 x5 x6 x7 x8 x9 x10 x11 : Option D}
theorem tr4_of {M L : Addr} (T : TI S0 f E K gs m S) (W : GW gs last) (hm : m < 999990000) (hl : gs.length ≤ 14) (eM : S M = some (.lst ((kin "sheet" gs).map D.int))) (eL : S L = some (.lst ((kin "drawer" gs).map D.int)))
    (k : ∀ gs' y9 S', TI S0 f E K gs' (m + 3) S' → GF gs' last → gs'.length ≤ 14 → Dn.nx [some (.ref f), x1, x2, some (.ref M), some (.ref L), x5, some (.ref E), some (.ref K), some (.int last), y9, x10, x11] S') : tr4 Dn [some (.ref f), x1, x2, some (.ref M), some (.ref L), x5, some (.ref E), some (.ref K), some (.int last), x9, x10, x11] S := by
  have sz : 1001 < sizeLine := by rw [sizeLine_eq]; decide
  have lk := kin_len "sheet" gs
  unfold tr4
  simp only [dIfS_eq, dAnd_eq, dTst_eq, dBin_eq, dLst_eq, dNil_eq, dC_eq, dNext_eq]
  refine dV_at (by rfl) ?_
  refine ⟨by show 0 ≤ sizeLine; omega, fun z hz => ?_⟩
  have Mz : M ≠ z := ne_of_free hz eM
  have Lz : L ≠ z := ne_of_free hz eL
  have T1 := T.new (o := .lst []) hz
  have eM1 : put S z (.lst []) M = some (.lst ((kin "sheet" gs).map D.int)) := by rw [put_ne Mz]; exact eM
  have eL1 : put S z (.lst []) L = some (.lst ((kin "drawer" gs).map D.int)) := by rw [put_ne Lz]; exact eL
  rw [wNe_of (.lst eM1 ints_cl) (.lst put_same (by simp)), isB_bl]
  generalize put S z (.lst []) = S1 at *
  by_cases h1 : kin "sheet" gs = []
  · rw [h1]
    show if (!decide (D.fz [] = D.fz [])) = true then _ else _
    rw [decide_eq_true rfl, if_neg (by decide), if_neg (by decide)]
    exact k gs _ S1 (T1.keep (T1.F.up (by omega)) .refl) W.fin hl
  · rw [decide_eq_false (by simpa using h1), if_pos (by rfl)]
    refine pk_of (by rfl) T1.F (by omega) (by decide) (by decide) fun r S2 r0 r1 F2 K2 => ?_
    have T2 := T1.keep F2 K2
    have eM2 := K2 _ _ (T1.F.ne_lst eM1) eM1
    have eL2 := K2 _ _ (T1.F.ne_lst eL1) eL1
    rw [wEq_int, isB_bl]
    by_cases hr : r = 0
    · rw [decide_eq_true hr, if_pos rfl]
      rw [dSeq_eq, dAsg_eq]
      refine own_of (L := L) T2 W.nodup (by omega) (by omega) eL2 (kin_top W) fun g S3 hg hd T3 st3 => ?_
      show dAsg (rdPick 3) (gdSub (dV 9) (dC (.str "z")) wSet) _ [some (.ref f), x1, x2, some (.ref M), some (.ref L), x5, some (.ref E), some (.ref K), some (.int last), some (.ref g.ad), x10, x11] S3
      rw [dAsg_eq]
      refine rdPick_of (L := M) (by rfl) (by rfl) T3.F (by omega) (st3 _ _ eM2) (by simpa using h1) (by rw [List.length_map]; omega) fun x hx S4 F4 K4 => ?_
      obtain ⟨s, hs, rfl⟩ := List.mem_map.mp hx
      have T4 := T3.keep F4 K4
      simp only [gdSub_eq, dC_eq]
      refine dV_at (by rfl) ?_
      have nz : Str.ofString "z" ∉ g.es.map (·.1) := fun z => by
        obtain ⟨e, he, e1⟩ := List.mem_map.mp z
        exact (W.nm g hg e he).2 e1
      have lg : g.es.length ≤ 100 := by
        have n1 := W.nd g hg
        have n2 : ∀ x ∈ g.es.map (·.1), x ∈ NM := fun x hx => by
          obtain ⟨e, he, rfl⟩ := List.mem_map.mp hx
          exact (W.nm g hg e he).1
        have := n1.length_le_of_subset n2
        rw [List.length_map] at this
        have : NM.length = 6 := rfl
        omega
      refine wSet_dct (T4.inn g hg).2 fitWN (by rw [List.length_map]; omega) ?_
      rw [putN (y := (Str.ofString "z", s)) nz]
      exact k _ _ _ (T4.entry hg _) (W.finz T.nda hg hd hs) (by unfold withE; rw [List.length_map]; exact hl)
    · rw [decide_eq_false hr, if_neg (by decide)]
      exact k gs _ S2 (T2.keep (T2.F.up (by omega)) .refl) W.fin hl
theorem tr5_of (T : TI S0 f E K gs m S) (asc : (gs.map (·.id)).Pairwise (· < ·)) (hl : gs.length ≤ 14) (he : ∀ g ∈ gs, g.es.length ≤ 100) (k : ∀ L S', TI S0 f E K gs m S' → S' L = some (.lst ((gs.map Gn.row).map rowD)) → Dn.nx [some (.ref f), x1, x2, x3, x4, some (.ref L), some (.ref E), some (.ref K), some (.int last), x9, x10, x11] S') : tr5 Dn [some (.ref f), x1, x2, x3, x4, x5, some (.ref E), some (.ref K), some (.int last), x9, x10, x11] S := by
  have sz : 1001 < sizeLine := by rw [sizeLine_eq]; decide
  have nd : (gs.map (·.id)).Nodup := asc.imp fun h e => by omega
  unfold tr5
  simp only [dAsg_eq, dLC_eq, diVal_eq, dCB_eq, dCons_eq, dNil_eq, gdName_eq]
  refine dV_at (by rfl) ?_
  refine wSortedD_asc (g := fun g => D.ref g.ad) T.gE asc fun p hp => ?_
  have T1 := T.new (o := .lst ((gs.map (·.id)).map D.int)) hp
  have e1 : put S p (.lst ((gs.map (·.id)).map D.int)) p = some (.lst ((gs.map (·.id)).map D.int)) := put_same
  generalize put S p (.lst ((gs.map (·.id)).map D.int)) = S1 at *
  rw [wIter_lst e1]
  intro L hL
  have pL : p ≠ L := ne_of_free hL e1
  have em : (gs.map (·.id)).map D.int = gs.map fun g : Gn => D.int g.id := by rw [List.map_map]; rfl
  rw [em] at e1 ⊢
  have LE : L ≠ E := fun z => by rw [z, T1.gE] at hL; cases hL
  have LK : L ≠ K := fun z => by rw [z, T1.gK] at hL; cases hL
  have Lf := T1.F.nt hL
  have L0 := T1.free hL
  have Lin : ∀ g ∈ gs, g.ad ≠ L := fun g hg z => by have := (T1.inn g hg).2; rw [z, hL] at this; cases this
  refine loopC_map (fun g : Gn => D.int g.id) (fun done S' => TI S0 f E K gs m S' ∧ S' p = some (.lst (gs.map fun g : Gn => D.int g.id)) ∧ S' L = some (.lst ((done.map Gn.row).map rowD))) (fun _ _ h => h.2.1) (fun S' h => ?_) (fun done g rest S' es h N hN => ?_) ⟨T1.new hL, by rw [put_ne pL]; exact e1, put_same⟩
  · exact k L S' h.1 h.2.2
  · obtain ⟨T2, e2, eL⟩ := h
    have hg : g ∈ gs := by rw [es]; simp
    have ld : done.length < 14 := by
      have := congrArg List.length es
      rw [List.length_append, List.length_cons] at this
      omega
    refine ⟨rfl, ?_⟩
    rw [dYes_eq, if_pos rfl, compR_nil, emLst_eq]
    simp only [dTup_eq, dCons_eq, dNil_eq, dBin_eq, dCB_eq, dSortedItems_eq]
    refine dV_at (by rfl) ?_
    refine dV_at (by rfl) ?_
    refine dV_at (by rfl) ?_
    rw [wAt_dct T2.gK (keyFit_int (f := fun g : Gn => g.id) (g := fun g : Gn => D.str g.kind)) (getK nd hg)]
    refine dV_at (by rfl) ?_
    refine dV_at (by rfl) ?_
    rw [wAt_dct T2.gE (keyFit_int (f := fun g : Gn => g.id) (g := fun g : Gn => D.ref g.ad)) (getE nd hg)]
    have eg := (T2.inn g hg).2
    have ed : dctOf S' (.ref g.ad) = some (g.ad, g.es.map eN) := by simp [dctOf, eg]
    rw [ed]
    simp only
    have ei : itmsD (g.es.map eN) = g.es.map pairSI := by unfold itmsD; rw [List.map_map]; rfl
    rw [ei, srt_of]
    refine ⟨SortOk.pairsSI _, fun v hv => ?_⟩
    rw [wTuple_lst put_same]
    have Lv : L ≠ v := ne_of_free hv eL
    have pv : p ≠ v := ne_of_free hv e2
    have T3 := T2.new (o := .lst ((srtE g.es).map pairSI)) hv
    have eL3 : put S' v (.lst ((srtE g.es).map pairSI)) L = some (.lst ((done.map Gn.row).map rowD)) := by rw [put_ne Lv]; exact eL
    have e23 : put S' v (.lst ((srtE g.es).map pairSI)) p = some (.lst (gs.map fun g : Gn => D.int g.id)) := by rw [put_ne pv]; exact e2
    generalize put S' v (.lst ((srtE g.es).map pairSI)) = S3 at *
    show 3 ≤ sizeLine ∧ onL S3 L _
    rw [onL_eq eL3]
    refine ⟨by omega, by rw [List.length_map, List.length_map]; omega, hN _ ⟨?_, by rw [put_ne pL]; exact e23, by rw [put_same, List.map_append, List.map_append]; rfl⟩⟩
    exact ⟨by rw [put_ne (Ne.symm LE)]; exact T3.gE, by rw [put_ne (Ne.symm LK)]; exact T3.gK, fun q hq => ⟨(T3.inn q hq).1, by rw [put_ne (Lin q hq)]; exact (T3.inn q hq).2⟩, T3.nda, T3.ne, T3.n0, T3.F.put Lf, T3.ks.then L0⟩
end
theorem vc__law_tree {ds S Q E} (h : sp__law_tree ds S Q E) : r__law_tree (bodyEnds Q) (startD N__law_tree ds) S := by
  have sz : 1001 < sizeLine := by rw [sizeLine_eq]; decide
  obtain ⟨f, top, m, rfl, t0, t1, hm, F, k⟩ := h
  show r__law_tree _ [some (.ref f), some (.int top), none, none, none, none, none, none, none, none, none, none] S
  unfold r__law_tree
  simp only [dSeq_eq]
  refine tr0_of F fun E K a S1 T1 => ?_
  have one : ∀ g ∈ [(⟨0, "drawer", [], a⟩ : Gn)], g = ⟨0, "drawer", [], a⟩ := fun g hg => List.mem_singleton.mp hg
  have W1 : GW [⟨0, "drawer", [], a⟩] 0 := ⟨by simp, ⟨_, _, _, rfl⟩, fun g hg => by rw [one g hg]; exact ⟨Int.le_refl _, Int.le_refl _⟩, fun g hg => by rw [one g hg]; exact .inl rfl, fun g hg => by rw [one g hg]; exact fun _ => rfl, fun g hg => by rw [one g hg]; exact .nil, fun g hg => by rw [one g hg]; exact (fun e he => (nomatch he)), fun g hg => by rw [one g hg]; exact (fun e he => (nomatch he)), .refl _⟩
  refine tr1_of T1 W1 t0 t1 (by omega) (by simp) fun gs last m2 y2 y4 y9 y10 S2 T2 hm2 W2 l2 n2 => ?_
  show tr2 _ [some (.ref f), some (.int top), y2, none, y4, none, some (.ref E), some (.ref K), some (.int last), y9, y10, none] S2
  rw [tr2_eq, dAsg_eq]
  refine kin_of T2 W2.asc (by omega) fun M S3 T3 eM _ => ?_
  show tr3 _ [some (.ref f), some (.int top), y2, some (.ref M), y4, none, some (.ref E), some (.ref K), some (.int last), y9, y10, none] S3
  rw [tr3_eq, dAsg_eq]
  refine kin_of T3 W2.asc (by omega) fun L S4 T4 eL st => ?_
  show tr4 _ [some (.ref f), some (.int top), y2, some (.ref M), some (.ref L), none, some (.ref E), some (.ref K), some (.int last), y9, y10, none] S4
  refine tr4_of T4 W2 (by omega) n2 (st _ _ eM) eL fun gs' z9 S5 T5 G5 n5 => ?_
  have l100 : ∀ g ∈ gs', g.es.length ≤ 100 := fun g hg => by
    have n2 : ∀ x ∈ g.es.map (·.1), x ∈ NM := fun x hx => by
      obtain ⟨e, he, rfl⟩ := List.mem_map.mp hx
      exact G5.nm g hg e he
    have := (G5.nd g hg).length_le_of_subset n2
    rw [List.length_map] at this
    have : NM.length = 6 := rfl
    omega
  refine tr5_of T5 G5.asc n5 l100 fun R S6 T6 eR => ?_
  show tr6 _ [some (.ref f), some (.int top), y2, some (.ref M), some (.ref L), some (.ref R), some (.ref E), some (.ref K), some (.int last), z9, y10, none] S6
  unfold tr6
  simp only [dRet_eq, dTup_eq, dCons_eq, dNil_eq, dCB_eq, dBin_eq, dC_eq]
  refine dV_at (by rfl) ?_
  rw [wTuple_lst eR]
  refine dV_at (by rfl) ?_
  rw [wAdd_int]
  refine pk_of (by rfl) T6.F (by omega) (by decide) (by decide) fun r S7 r0 r1 F7 K7 => ?_
  rw [wAdd_int]
  exact ⟨by show 2 ≤ sizeLine; omega, k _ _ _ (G5.tree n5 (by omega) (by omega)) (F7.up (by omega)) (T6.ks.trans K7)⟩
end KB
namespace KB
open PySem PySem.Spec PyProof.Rows L2 DL
def wayD (w : List Str) : D := .tup (w.map D.str)
def frD (p : List Str × Int) : D := .tup [wayD p.1, .int p.2]
def wayOk (w : List Str) : Prop := w.length ≤ 4 ∧ ∀ x ∈ w, x ∈ NM
def sp__law_ways : DSp := fun ds S Q E => ∃ rows made, ds = [treeD rows made] ∧ TreeG rows made ∧ ∀ L ws S', S' L = some (.lst (ws.map wayD)) → S L = none → Grow S S' → ws ≠ [] → ws.length ≤ 3000 → (∀ w ∈ ws, wayOk w) → Q (.ref L) S'
theorem len__law_ways : ∀ ds S Q E, sp__law_ways ds S Q E → ds.length = (["_law_tree_here"] : List Str).length := fun _ _ _ _ ⟨_, _, e, _⟩ => by rw [e]; rfl
def entK (r : Nd) : D × D := (.int r.1, .tup (r.2.2.map pairSI))
theorem kvMerge_int {α : Type} {f : α → Int} {g : α → D} {xs : List α} (nd : (xs.map f).Nodup) : kvMerge [] (xs.map fun p => (D.int (f p), g p)) = xs.map fun p => (D.int (f p), g p) := by
  have main : ∀ (r d : List α), ((d ++ r).map f).Nodup → kvMerge (d.map fun p => (D.int (f p), g p)) (r.map fun p => (D.int (f p), g p)) = (d ++ r).map fun p => (D.int (f p), g p) := by
    intro r
    induction r with
    | nil => intro d _; rw [List.append_nil]; rfl
    | cons p r ih =>
      intro d h
      have hx : f p ∉ d.map f := by
        rw [List.map_append, List.nodup_append] at h
        exact fun z => h.2.2 _ z _ (List.mem_cons_self ..) rfl
      have e := dPut_int_new (f := f) (g := g) (xs := d) (y := p) hx
      have z := ih (d ++ [p]) (by rw [List.append_assoc]; exact h)
      unfold kvMerge at *
      rw [List.map_cons, List.foldl_cons]
      simp only at e ⊢
      rw [e, z, List.append_assoc]
      rfl
  exact main xs [] nd
theorem pairsD_map {α : Type} {k v : α → D} : ∀ xs : List α, pairsD (xs.map fun p => D.tup [k p, v p]) = some (xs.map fun p => (k p, v p))
  | [] => rfl
  | x :: r => by rw [List.map_cons, pairsD, pairsD_map r]; rfl
theorem leafAll_int {α : Type} {f : α → Int} {g : α → D} (xs : List α) : leafAll (xs.map fun p => (D.int (f p), g p)) = true := by
  unfold leafAll
  rw [List.all_map, List.all_eq_true]
  intro x _; rfl
theorem wDict_of {α : Type} {f : α → Int} {g : α → D} {xs : List α} {S : Sto} {d : D} {Q : KD} (h : seqOf S d = some (xs.map fun p => D.tup [.int (f p), g p])) (nd : (xs.map f).Nodup) (q : ∀ p, S p = none → Q (.ref p) (put S p (.dct (xs.map fun p => (D.int (f p), g p))))) : wDict [d] S Q := by
  unfold wDict
  simp only [h, pairsD_map, onS_some, leafAll_int, kvMerge_int nd]
  exact ⟨rfl, q⟩
theorem seqOf_lst {S : Sto} {a : Addr} {ds : List D} (h : S a = some (.lst ds)) : seqOf S (.ref a) = some ds := by simp [seqOf, h]
def wy0 : DTS := dAsg (dCB wDict (dCons (dLC (diVal (dBin wAt (dV 0) (dC (.int 0))) wIterA) (gdTup 3 (gdCons (gdName 6) (gdCons (gdName 7) (gdCons (gdName 8) gdNil)))) dYes [6, 7, 8] [6, 7, 8] [] (dTup (dCons (dV 6) (dCons (dV 8) dNil)))) dNil)) (gdName 1)
def wy1 : DTS := dPar 2 3 (dCons (dLst (dCons (dTup dNil) dNil)) (dCons (dLst (dCons (dTup (dCons (dTup dNil) (dCons (dC (.int 0)) dNil))) dNil)) dNil))
def wy3 : DTS := dRet (dV 2)
def wyF : DTS := dDrop (dBM "list" wExtend (dV 4) (dCons (dLC (diVal (dBin wAt (dV 1) (dV 6)) wIterA) (gdTup 2 (gdCons (gdName 9) (gdCons (gdName 10) gdNil))) (dTst (dBin wLt (dCB wLen (dCons (dV 5) dNil)) (dC (.int 4)))) [9, 10] [9, 10] [] (dTup (dCons (dBin wAdd (dV 5) (dTup (dCons (dV 9) dNil))) (dCons (dV 10) dNil)))) dNil))
def wyA : DTS := dFor (diVal (dV 3) wIterA) (gdTup 2 (gdCons (gdName 5) (gdCons (gdName 6) gdNil))) wyF
def wyB : DTS := dDrop (dBM "list" wExtend (dV 2) (dCons (dLC (diVal (dV 4) wIterA) (gdTup 2 (gdCons (gdName 5) (gdCons (gdName 6) gdNil))) dYes [5, 6] [5, 6] [] (dV 5)) dNil))
def wyC : DTS := dAsg (dV 4) (gdName 3)
def wyD : DTS := dAsg (dLst dNil) (gdName 4)
def wy2 : DTS := dWhile (dTst (dBin wNe (dV 3) (dLst dNil))) (dSeq wyD (dSeq wyA (dSeq wyB wyC)))
def r__law_ways : DTS := dSeq wy0 (dSeq wy1 (dSeq wy2 wy3))
abbrev N__law_ways : List Str := ["_law_tree_here", "_law_entries", "_law_found", "_law_front", "_law_longer", "_law_way_here", "_law_node", "_law_kind", "_law_row", "_law_name", "_law_inner"]
def entO (rows : List Nd) (n : Int) : List (Str × Int) := match rows.find? fun r => decide (r.1 = n) with | some r => r.2.2 | none => []
def next (rows : List Nd) (p : List Str × Int) : List (List Str × Int) := if p.1.length < 4 then (entO rows p.2).map fun e => (p.1 ++ [e.1], e.2) else []
theorem entO_mem {rows : List Nd} {n : Int} {e : Str × Int} (h : e ∈ entO rows n) : ∃ r ∈ rows, e ∈ r.2.2 := by
  unfold entO at h
  split at h
  · rename_i r hr; exact ⟨r, List.mem_of_find?_eq_some hr, h⟩
  · cases h
theorem ent_len {rows : List Nd} {made : Int} (G : TreeG rows made) {r : Nd} (hr : r ∈ rows) : r.2.2.length ≤ 6 := by
  have n2 : ∀ x ∈ r.2.2.map (·.1), x ∈ NM := fun x hx => by
    obtain ⟨e, he, rfl⟩ := List.mem_map.mp hx
    exact G.nm r hr e he
  have := (G.nd r hr).length_le_of_subset n2
  rw [List.length_map] at this
  exact this
theorem entO_len {rows : List Nd} {made : Int} (G : TreeG rows made) (n : Int) : (entO rows n).length ≤ 6 := by
  unfold entO
  split
  · rename_i r hr; exact ent_len G (List.mem_of_find?_eq_some hr)
  · exact Nat.zero_le _
theorem next_len {rows : List Nd} {made : Int} (G : TreeG rows made) (p : List Str × Int) : (next rows p).length ≤ 6 := by
  unfold next
  split
  · rw [List.length_map]; exact entO_len G _
  · exact Nat.zero_le _
structure Frt (rows : List Nd) (i : Nat) (fr : List (List Str × Int)) : Prop where
  len : ∀ p ∈ fr, p.1.length = i
  nm : ∀ p ∈ fr, ∀ x ∈ p.1, x ∈ NM
  ids : ∀ p ∈ fr, p.2 ∈ rows.map (·.1)
theorem Frt.step {rows : List Nd} {made : Int} (G : TreeG rows made) {i : Nat} {fr : List (List Str × Int)} (h : Frt rows i fr) : Frt rows (i + 1) (fr.flatMap (next rows)) := by
  have main : ∀ q ∈ fr.flatMap (next rows), ∃ p ∈ fr, ∃ e ∈ entO rows p.2, q = (p.1 ++ [e.1], e.2) := fun q hq => by
    obtain ⟨p, hp, hq⟩ := List.mem_flatMap.mp hq
    unfold next at hq
    split at hq
    · obtain ⟨e, he, rfl⟩ := List.mem_map.mp hq
      exact ⟨p, hp, e, he, rfl⟩
    · cases hq
  refine ⟨fun q hq => ?_, fun q hq x hx => ?_, fun q hq => ?_⟩
  · obtain ⟨p, hp, e, he, rfl⟩ := main q hq
    show (p.1 ++ [e.1]).length = _
    rw [List.length_append, h.len p hp]; rfl
  · obtain ⟨p, hp, e, he, rfl⟩ := main q hq
    rcases List.mem_append.mp hx with hx | hx
    · exact h.nm p hp x hx
    · rw [List.mem_singleton.mp hx]
      obtain ⟨r, hr, her⟩ := entO_mem he
      exact G.nm r hr e her
  · obtain ⟨p, hp, e, he, rfl⟩ := main q hq
    obtain ⟨r, hr, her⟩ := entO_mem he
    exact (G.tg r hr e her).1
theorem frD_cl (p : List Str × Int) : (frD p).cl 19 = true := by
  show D.cls [wayD p.1, .int p.2] 18 = true
  rw [D.cls_iff]
  intro d hd
  simp only [List.mem_cons, List.not_mem_nil, or_false] at hd
  rcases hd with rfl | rfl
  · show D.cls (p.1.map D.str) 17 = true
    rw [D.cls_iff]
    intro d hd
    obtain ⟨x, _, rfl⟩ := List.mem_map.mp hd
    rfl
  · rfl
section
variable {S : Sto} {rows : List Nd} {made : Int} {Dn : DEnds} {x1 x2 x3 x4 x5 x6 x7 x8 x9 x10 : Option D}
theorem wy0_of (G : TreeG rows made) (k : ∀ E S', Grow S S' → S' E = some (.dct (rows.map entK)) → Dn.nx [some (treeD rows made), some (.ref E), x2, x3, x4, x5, x6, x7, x8, x9, x10] S') : wy0 Dn [some (treeD rows made), x1, x2, x3, x4, x5, x6, x7, x8, x9, x10] S := by
  have sz : 1001 < sizeLine := by rw [sizeLine_eq]; decide
  have l14 := G.len
  unfold wy0
  simp only [dAsg_eq, dCB_eq, dCons_eq, dNil_eq, dLC_eq, diVal_eq, dBin_eq, dC_eq, gdName_eq]
  refine dV_at (by rfl) ?_
  unfold treeD
  rw [wAt_tup, atI0, onS_some, wIter_tup]
  intro L hL
  refine lc_map rowD (fun r => [D.tup [.int r.1, .tup (r.2.2.map pairSI)]]) rows (fun _ => trivial) ?_ (fun r hr acc k2 hacc hk => ?_) ?_
  · have := flatMap_le (fun r : Nd => [D.tup [.int r.1, .tup (r.2.2.map pairSI)]]) 1 rows fun x _ => by simp
    omega
  · refine ⟨rfl, rfl, rfl, ?_⟩
    rw [dYes_eq, if_pos rfl, emLst_eq]
    simp only [dTup_eq, dCons_eq, dNil_eq]
    refine dV_at (by rfl) ?_
    refine dV_at (by rfl) ?_
    rw [onL_put, put_put']
    simp only [List.length_singleton] at hacc
    exact ⟨by show 2 ≤ sizeLine; omega, by omega, hk⟩
  · rw [flatMap_one]
    refine wDict_of (f := fun r : Nd => r.1) (g := fun r : Nd => D.tup (r.2.2.map pairSI)) (xs := rows) (seqOf_lst put_same) (G.asc.imp fun h e => by omega) fun p hp => ?_
    exact k p _ ((Grow.put hL).then hp) put_same
theorem wyF_of (G : TreeG rows made) {E L F R : Addr} {i : Nat} {p : List Str × Int} {rs : List (List Str × Int)} (eE : S E = some (.dct (rows.map entK))) (eR : S R = some (.lst (rs.map frD))) (hp : p.2 ∈ rows.map (·.1)) (hl : p.1.length ≤ 4) (hr : rs.length ≤ 10000)
    (k : ∀ S', (∀ a o, a ≠ R → S a = some o → S' a = some o) → S' R = some (.lst ((rs ++ next rows p).map frD)) → Dn.nx [some (treeD rows made), some (.ref E), some (.ref L), some (.ref F), some (.ref R), some (wayD p.1), some (.int p.2), x7, x8, x9, x10] S') : wyF Dn [some (treeD rows made), some (.ref E), some (.ref L), some (.ref F), some (.ref R), some (wayD p.1), some (.int p.2), x7, x8, x9, x10] S := by
  have sz : 100001 < sizeLine := by rw [sizeLine_eq]; decide
  obtain ⟨r, hr2, er⟩ := List.mem_map.mp hp
  have nd : (rows.map fun r : Nd => r.1).Nodup := G.asc.imp fun h e => by omega
  have eO : entO rows p.2 = r.2.2 := by
    unfold entO
    rw [← er, find_of_mem nd hr2]
  have l6 := ent_len G hr2
  unfold wyF
  simp only [dDrop_eq, dBM_eq, dCons_eq, dNil_eq, dLC_eq, diVal_eq, dBin_eq]
  refine dV_at (by rfl) ?_
  refine ⟨tyD_lst eR, ?_⟩
  refine dV_at (by rfl) ?_
  refine dV_at (by rfl) ?_
  have eg : dGet (rows.map entK) (.int p.2) = some (.tup (r.2.2.map pairSI)) := by
    have := dGet_int (f := fun r : Nd => r.1) (g := fun r : Nd => D.tup (r.2.2.map pairSI)) (xs := rows) (n := p.2)
    rw [← er, find_of_mem nd hr2] at this
    rw [← er]; exact this
  rw [wAt_dct eE (keyFit_int (f := fun r : Nd => r.1) (g := fun r : Nd => D.tup (r.2.2.map pairSI))) eg, wIter_tup]
  intro C hC
  have RC : R ≠ C := ne_of_free hC eR
  refine lc_map pairSI (fun e => if p.1.length < 4 then [frD (p.1 ++ [e.1], e.2)] else []) r.2.2 (fun _ => trivial) ?_ (fun e he acc k2 hacc hk => ?_) ?_
  · have := flatMap_le (fun e : Str × Int => if p.1.length < 4 then [frD (p.1 ++ [e.1], e.2)] else []) 1 r.2.2 fun x _ => by split <;> simp
    omega
  · refine ⟨rfl, rfl, rfl, ?_⟩
    simp only [dTst_eq, dBin_eq, dCB_eq, dCons_eq, dNil_eq, dC_eq]
    refine dV_at (by rfl) ?_
    unfold wayD
    rw [wLen_tup, List.length_map, wLt_int, isB_bl]
    by_cases h : p.1.length < 4
    · rw [if_pos (by simp; omega), emLst_eq]
      rw [if_pos h] at hacc hk
      simp only [dTup_eq, dCons_eq, dNil_eq, dBin_eq]
      refine dV_at (by rfl) ?_
      refine dV_at (by rfl) ?_
      refine ⟨by show 1 ≤ sizeLine; omega, ?_⟩
      rw [wAdd_tup, List.length_map]
      refine ⟨by show _ + 1 ≤ _; omega, ?_⟩
      refine dV_at (by rfl) ?_
      rw [onL_put, put_put']
      simp only [List.length_singleton] at hacc
      have e1 : frD (p.1 ++ [e.1], e.2) = D.tup [.tup (p.1.map D.str ++ [.str e.1]), .int e.2] := by unfold frD wayD; rw [List.map_append]; rfl
      rw [e1] at hk
      exact ⟨by show 2 ≤ sizeLine; omega, by omega, hk⟩
    · rw [if_neg (by simp; omega)]
      rw [if_neg h, List.append_nil] at hk
      exact hk
  · have e2 : (r.2.2.flatMap fun e => if p.1.length < 4 then [frD (p.1 ++ [e.1], e.2)] else []) = (next rows p).map frD := by
      unfold next
      rw [eO]
      by_cases h : p.1.length < 4
      · simp only [if_pos h]; rw [flatMap_one, List.map_map]; rfl
      · simp only [if_neg h]; simp
    rw [e2, wExtend_lst (by rw [put_ne RC]; exact eR) put_same, ← List.map_append]
    have n6 := next_len G p
    refine ⟨by rw [List.length_map, List.length_map]; omega, k _ (fun a o ha h => ?_) put_same⟩
    rw [put_ne ha, put_ne (ne_of_free hC h)]; exact h
theorem wy2_of (G : TreeG rows made) {E L F : Addr} (S0 : Sto) (gr : Grow S0 S) (eE : S E = some (.dct (rows.map entK))) (eL : S L = some (.lst ([[]].map wayD))) (eF : S F = some (.lst ([([], (0 : Int))].map frD))) (L0 : S0 L = none) (LF : L ≠ F)
    (k : ∀ ws y3 y4 y5 y6 S', Grow S0 S' → S' L = some (.lst (ws.map wayD)) → ws ≠ [] → ws.length ≤ 3000 → (∀ w ∈ ws, wayOk w) → Dn.nx [some (treeD rows made), some (.ref E), some (.ref L), y3, y4, y5, y6, x7, x8, x9, x10] S') : wy2 Dn [some (treeD rows made), some (.ref E), some (.ref L), some (.ref F), x4, x5, x6, x7, x8, x9, x10] S := by
  have sz : 100001 < sizeLine := by rw [sizeLine_eq]; decide
  unfold wy2
  generalize hB : dSeq wyD (dSeq wyA (dSeq wyB wyC)) = B
  refine while_of (fun n τ S' => ∃ (i : Nat) (fr : List (List Str × Int)) (ws : List (List Str)) (F : Addr) (y4 y5 y6 : Option D), n + i = 6 ∧ i ≤ 5 ∧ Grow S0 S' ∧ S' E = some (.dct (rows.map entK)) ∧ S' L = some (.lst (ws.map wayD)) ∧ S' F = some (.lst (fr.map frD)) ∧ L ≠ F ∧ Frt rows i fr ∧ (i = 5 → fr = []) ∧ fr.length ≤ 6 ^ i ∧ ws.length ≤ 1 + 2 * 6 ^ (min i 4) ∧ ws ≠ [] ∧ (∀ w ∈ ws, wayOk w) ∧ τ = [some (treeD rows made), some (.ref E), some (.ref L), some (.ref F), y4, y5, y6, x7, x8, x9, x10])
    (fun n τ S' h N hN => ?_) (n := 6) ⟨0, [([], 0)], [[]], F, x4, x5, x6, rfl, by decide, gr, eE, eL, eF, LF, ?_, (fun z => by cases z), by decide, by decide, by simp, (fun w hw => by rw [List.mem_singleton.mp hw]; exact ⟨by decide, by simp⟩), rfl⟩
  · obtain ⟨i, fr, ws, F, y4, y5, y6, hn, hi, g1, e1, e2, e3, lf, Fr, h5, lfr, lws, wne, wok, rfl⟩ := h
    have p6 : 6 ^ i ≤ 7776 := Nat.le_trans (Nat.pow_le_pow_right (by decide) hi) (by decide)
    simp only [dTst_eq, dBin_eq, dLst_eq, dNil_eq]
    refine dV_at (by rfl) ?_
    refine ⟨by show 0 ≤ sizeLine; omega, fun z hz => ?_⟩
    have g2 : Grow S0 (put S' z (.lst [])) := g1.then hz
    have e1' : put S' z (.lst []) E = some (.dct (rows.map entK)) := by rw [put_ne (ne_of_free hz e1)]; exact e1
    have e2' : put S' z (.lst []) L = some (.lst (ws.map wayD)) := by rw [put_ne (ne_of_free hz e2)]; exact e2
    have e3' : put S' z (.lst []) F = some (.lst (fr.map frD)) := by rw [put_ne (ne_of_free hz e3)]; exact e3
    rw [wNe_of (.lst e3' fun d hd => by obtain ⟨p, _, rfl⟩ := List.mem_map.mp hd; exact frD_cl p) (.lst put_same (by simp)), isB_bl]
    generalize put S' z (.lst []) = S1 at *
    by_cases hf : fr = []
    · subst hf
      rw [show (!decide (D.fz (([] : List (List Str × Int)).map frD) = D.fz [])) = false by simp, if_neg (by decide)]
      refine k ws _ _ _ _ S1 g2 e2' wne ?_ wok
      have : 6 ^ (min i 4) ≤ 6 ^ 4 := Nat.pow_le_pow_right (by decide) (by omega)
      have : (6 : Nat) ^ 4 = 1296 := by decide
      omega
    · have hi5 : i < 5 := by
        rcases Nat.lt_or_ge i 5 with h | h
        · exact h
        · exact absurd (h5 (by omega)) hf
      rw [show (!decide (D.fz (fr.map frD) = D.fz [])) = true by simpa using hf, if_pos rfl]
      rw [← hB]
      simp only [dSeq_eq]
      unfold wyD
      simp only [dAsg_eq, dLst_eq, dNil_eq, gdName_eq]
      refine ⟨by show 0 ≤ sizeLine; omega, fun R hR => ?_⟩
      have ER : E ≠ R := ne_of_free hR e1'
      have LR : L ≠ R := ne_of_free hR e2'
      have FR : F ≠ R := ne_of_free hR e3'
      have R0 : S0 R = none := g2.free hR
      show wyA _ [some (treeD rows made), some (.ref E), some (.ref L), some (.ref F), some (.ref R), y5, y6, x7, x8, x9, x10] _
      have eE2 : put S1 R (.lst []) E = some (.dct (rows.map entK)) := by rw [put_ne ER]; exact e1'
      have eL2 : put S1 R (.lst []) L = some (.lst (ws.map wayD)) := by rw [put_ne LR]; exact e2'
      have eF2 : put S1 R (.lst []) F = some (.lst (fr.map frD)) := by rw [put_ne FR]; exact e3'
      have eR2 : put S1 R (.lst []) R = some (.lst (([] : List (List Str × Int)).map frD)) := put_same
      have g3 : Grow S0 (put S1 R (.lst [])) := g2.then hR
      generalize put S1 R (.lst []) = S2 at *
      unfold wyA
      generalize hC : wyF = C
      simp only [dFor_eq, diVal_eq]
      refine dV_at (by rfl) ?_
      rw [wIter_lst eF2]
      refine loop_map frD (fun done τ S' => (∀ a o, a ≠ R → S2 a = some o → S' a = some o) ∧ S' R = some (.lst ((done.flatMap (next rows)).map frD)) ∧ ∃ y5 y6 : Option D, τ = [some (treeD rows made), some (.ref E), some (.ref L), some (.ref F), some (.ref R), y5, y6, x7, x8, x9, x10])
        (fun _ _ _ h => h.1 _ _ FR eF2) (fun τ S' h => ?_) (fun done p rest τ S' es h N' hN' => ?_) ⟨fun _ _ _ h => h, eR2, y5, y6, rfl⟩
      · obtain ⟨kp, eR3, y5, y6, rfl⟩ := h
        have lnx : (fr.flatMap (next rows)).length ≤ 6 * fr.length := flatMap_le (next rows) 6 fr fun p _ => next_len G p
        have h6 : 6 ^ (i + 1) = 6 ^ i * 6 := Nat.pow_succ 6 i
        show wyB _ [some (treeD rows made), some (.ref E), some (.ref L), some (.ref F), some (.ref R), y5, y6, x7, x8, x9, x10] S'
        unfold wyB
        simp only [dDrop_eq, dBM_eq, dCons_eq, dNil_eq, dLC_eq, diVal_eq]
        refine dV_at (by rfl) ?_
        refine ⟨tyD_lst (kp _ _ LR eL2), ?_⟩
        refine dV_at (by rfl) ?_
        rw [wIter_lst eR3]
        intro U hU
        have RU : R ≠ U := ne_of_free hU eR3
        have LU : L ≠ U := ne_of_free hU (kp _ _ LR eL2)
        refine lc_map frD (fun p => [wayD p.1]) (fr.flatMap (next rows)) (fun o => by rw [put_ne RU]; exact eR3) ?_ (fun p hp acc k2 hacc hk => ?_) ?_
        · have := flatMap_le (fun p : List Str × Int => [wayD p.1]) 1 (fr.flatMap (next rows)) fun x _ => by simp
          omega
        · refine ⟨rfl, rfl, rfl, ?_⟩
          rw [dYes_eq, if_pos rfl, emLst_eq]
          refine dV_at (by rfl) ?_
          rw [onL_put, put_put']
          simp only [List.length_singleton] at hacc
          exact ⟨by omega, hk⟩
        · rw [flatMap_one]
          have em : (fr.flatMap (next rows)).map (fun p => wayD p.1) = ((fr.flatMap (next rows)).map (·.1)).map wayD := by rw [List.map_map]; rfl
          rw [em, wExtend_lst (by rw [put_ne LU]; exact kp _ _ LR eL2) put_same, ← List.map_append]
          have Frn := Fr.step G
          have lws2 : ws.length ≤ 5000 := by
            have : 6 ^ (min i 4) ≤ 6 ^ 4 := Nat.pow_le_pow_right (by decide) (by omega)
            have : (6 : Nat) ^ 4 = 1296 := by decide
            omega
          refine ⟨by rw [List.length_map, List.length_map, List.length_map]; omega, ?_⟩
          show wyC _ [some (treeD rows made), some (.ref E), some (.ref L), some (.ref F), some (.ref R), y5, y6, x7, x8, x9, x10] _
          unfold wyC
          simp only [dAsg_eq, gdName_eq]
          refine dV_at (by rfl) ?_
          have kp2 : ∀ a o, a ≠ R → a ≠ L → S2 a = some o → put (put S' U (.lst (((fr.flatMap (next rows)).map (·.1)).map wayD))) L (.lst ((ws ++ (fr.flatMap (next rows)).map (·.1)).map wayD)) a = some o := fun a o h1 h2 h => by
            rw [put_ne h2, put_ne (ne_of_free hU (kp a o h1 h))]; exact kp a o h1 h
          have end5 : i + 1 = 5 → fr.flatMap (next rows) = [] := fun h => by
            rw [List.flatMap_eq_nil_iff]
            intro p hp
            have := Fr.len p hp
            unfold next
            rw [if_neg (by omega)]
          refine hN (n - 1) _ _ (by omega) ⟨i + 1, fr.flatMap (next rows), ws ++ (fr.flatMap (next rows)).map (·.1), R, _, _, _, by omega, by omega, fun a o h => ?_, kp2 _ _ ER (fun z => by subst z; rw [eE2] at eL2; cases eL2) eE2, put_same, ?_, LR, Frn, end5, by omega, ?_, by simp [wne], fun w hw => ?_, rfl⟩
          · exact kp2 a o (fun z => by subst z; rw [R0] at h; cases h) (fun z => by subst z; rw [L0] at h; cases h) (g3 a o h)
          · rw [put_ne (Ne.symm LR), put_ne RU]; exact eR3
          · rw [List.length_append, List.length_map]
            by_cases h4 : i = 4
            · rw [end5 (by omega)]
              have e4 : min (i + 1) 4 = min i 4 := by omega
              rw [e4]
              simpa using lws
            · have e4 : min (i + 1) 4 = i + 1 := by omega
              have e5 : min i 4 = i := by omega
              rw [e5] at lws
              rw [e4]
              omega
          · rcases List.mem_append.mp hw with hw | hw
            · exact wok w hw
            · obtain ⟨p, hp, rfl⟩ := List.mem_map.mp hw
              refine ⟨?_, Frn.nm p hp⟩
              have h1 := Frn.len p hp
              by_cases h4 : i + 1 = 5
              · rw [end5 h4] at hp; cases hp
              · omega
      · obtain ⟨kp, eR3, y5, y6, rfl⟩ := h
        have hp : p ∈ fr := by rw [es]; simp
        refine ⟨rfl, rfl, ?_⟩
        show C _ [some (treeD rows made), some (.ref E), some (.ref L), some (.ref F), some (.ref R), some (wayD p.1), some (.int p.2), x7, x8, x9, x10] S'
        rw [← hC]
        have ld : (done.flatMap (next rows)).length ≤ 6 * done.length := flatMap_le (next rows) 6 done fun p _ => next_len G p
        have lfd : done.length ≤ fr.length := by rw [es, List.length_append]; omega
        have p4 : 6 ^ i ≤ 6 ^ 4 := Nat.pow_le_pow_right (by decide) (by omega)
        have : (6 : Nat) ^ 4 = 1296 := by decide
        refine wyF_of (i := i) G (kp _ _ ER eE2) eR3 (Fr.ids p hp) (by rw [Fr.len p hp]; omega) (by omega) fun S4 k4 eR4 => hN' _ _ ⟨fun a o h1 h2 => k4 a o h1 (kp a o h1 h2), ?_, _, _, rfl⟩
        rw [List.flatMap_append]
        have : [p].flatMap (next rows) = next rows p := by simp
        rw [this]; exact eR4
  · exact ⟨fun p hp => by rw [List.mem_singleton.mp hp]; rfl, fun p hp => by rw [List.mem_singleton.mp hp]; simp, fun p hp => by
      rw [List.mem_singleton.mp hp]
      obtain ⟨es, r, e⟩ := G.top
      rw [e]; exact List.mem_cons_self ..⟩
end
theorem vc__law_ways {ds S Q E} (h : sp__law_ways ds S Q E) : r__law_ways (bodyEnds Q) (startD N__law_ways ds) S := by
  have sz : 1001 < sizeLine := by rw [sizeLine_eq]; decide
  obtain ⟨rows, made, rfl, G, k⟩ := h
  show r__law_ways _ [some (treeD rows made), none, none, none, none, none, none, none, none, none, none] S
  unfold r__law_ways
  simp only [dSeq_eq]
  refine wy0_of G fun E S1 g1 eE => ?_
  unfold wy1
  simp only [dPar_eq, dLst_eq, dCons_eq, dNil_eq, dTup_eq, dC_eq]
  refine ⟨by show 0 ≤ sizeLine; omega, by show 1 ≤ sizeLine; omega, fun L hL => ⟨by show 0 ≤ sizeLine; omega, by show 2 ≤ sizeLine; omega, by show 1 ≤ sizeLine; omega, fun F hF => ?_⟩⟩
  have LF : L ≠ F := ne_of_free hF put_same
  have eE1 : put S1 L (.lst [.tup []]) E = some (.dct (rows.map entK)) := by rw [put_ne (ne_of_free hL eE)]; exact eE
  show wy2 _ [some (treeD rows made), some (.ref E), some (.ref L), some (.ref F), none, none, none, none, none, none, none] _
  refine wy2_of G S ((g1.then hL).then hF) (by rw [put_ne (ne_of_free hF eE1)]; exact eE1) (by rw [put_ne LF]; exact put_same) put_same (g1.free hL) LF fun ws y3 y4 y5 y6 S2 g2 eL wne lws wok => ?_
  unfold wy3
  simp only [dRet_eq]
  refine dV_at (by rfl) ?_
  exact k L ws S2 eL (g1.free hL) g2 wne lws wok
end KB
namespace KB
open PySem PySem.Spec PyProof.Rows L2 DL
structure WL (S : Sto) (f L : Addr) (ws : List (List Str)) : Prop where
  e : S L = some (.lst (ws.map wayD))
  ne : ws ≠ []
  len : ws.length ≤ 3000
  ok : ∀ w ∈ ws, wayOk w
  Lf : L ≠ f
theorem WL.keep {S S' : Sto} {f L : Addr} {ws : List (List Str)} (h : WL S f L ws) (k : Keeps f S S') : WL S' f L ws := ⟨k _ _ h.Lf h.e, h.ne, h.len, h.ok, h.Lf⟩
def sp__law_way : DSp := fun ds S Q E => ∃ f L ws b m, ds = [.ref f, .ref L, .bl b] ∧ m < 900100000 ∧ Feed S f m ∧ WL S f L ws ∧ ∀ w S', wayOk w → (b = true → w ≠ []) → Feed S' f (m + 3) → Keeps f S S' → Q (wayD w) S'
theorem len__law_way : ∀ ds S Q E, sp__law_way ds S Q E → ds.length = (["_law_source_here", "_law_ways_here", "_law_is_named"] : List Str).length := fun _ _ _ _ ⟨_, _, _, _, _, e, _⟩ => by rw [e]; rfl
def wa0 : DTS := dAsg (dBin wAt (dV 1) (dCall sp__law_pick [] (dCons (dV 0) (dCons (dCB wLen (dCons (dV 1) dNil)) dNil)))) (gdName 3)
def wa1 : DTS := dIfS (dOr (dAnd (dTst (dBin wEq (dCall sp__law_pick [] (dCons (dV 0) (dCons (dC (.int 2)) dNil))) (dC (.int 0)))) (dTst (dBin wLt (dCB wLen (dCons (dV 3) dNil)) (dC (.int 4))))) (dAnd (dTst (dV 2)) (dTst (dBin wEq (dV 3) (dTup dNil))))) (dAsg (dBin wAdd (dV 3) (dTup (dCons (dBin wAt (dLst (dCons (dC (.str "a")) (dCons (dC (.str "ab")) (dCons (dC (.str "b")) (dCons (dC (.str "c")) (dCons (dC (.str "x")) (dCons (dC (.str "z")) dNil))))))) (dCall sp__law_pick [] (dCons (dV 0) (dCons (dC (.int 6)) dNil)))) dNil))) (gdName 3)) dNext
def wa2 : DTS := dRet (dV 3)
def waT : DTS := dAsg (dBin wAdd (dV 3) (dTup (dCons (dBin wAt (dLst (dCons (dC (.str "a")) (dCons (dC (.str "ab")) (dCons (dC (.str "b")) (dCons (dC (.str "c")) (dCons (dC (.str "x")) (dCons (dC (.str "z")) dNil))))))) (dCall sp__law_pick [] (dCons (dV 0) (dCons (dC (.int 6)) dNil)))) dNil))) (gdName 3)
theorem wa1_eq : wa1 = dIfS (dOr (dAnd (dTst (dBin wEq (dCall sp__law_pick [] (dCons (dV 0) (dCons (dC (.int 2)) dNil))) (dC (.int 0)))) (dTst (dBin wLt (dCB wLen (dCons (dV 3) dNil)) (dC (.int 4))))) (dAnd (dTst (dV 2)) (dTst (dBin wEq (dV 3) (dTup dNil))))) waT dNext := rfl
def r__law_way : DTS := dSeq wa0 (dSeq wa1 wa2)
abbrev N__law_way : List Str := ["_law_source_here", "_law_ways_here", "_law_is_named", "_law_way_here"]
theorem way_cl (w : List Str) (n : Nat) : (wayD w).cl (n + 1) = true := by
  show D.cls (w.map D.str) n = true
  rw [D.cls_iff]
  intro d hd
  obtain ⟨x, _, rfl⟩ := List.mem_map.mp hd
  rfl
theorem wEq_way {w : List Str} {S : Sto} {Q : KD} : wEq (wayD w) (.tup []) S Q = Q (.bl (decide (w = []))) S := by
  rw [wEq_of (.cl (way_cl w 19)) (.cl rfl)]
  congr 2
  unfold wayD
  cases w <;> simp
theorem vc__law_way {ds S Q E} (h : sp__law_way ds S Q E) : r__law_way (bodyEnds Q) (startD N__law_way ds) S := by
  have sz : 1001 < sizeLine := by rw [sizeLine_eq]; decide
  obtain ⟨f, L, ws, b, m, rfl, hm, F, W, k⟩ := h
  show r__law_way _ [some (.ref f), some (.ref L), some (.bl b), none] S
  unfold r__law_way
  simp only [dSeq_eq]
  show dAsg (rdPick 1) (gdName 3) _ _ _
  rw [dAsg_eq]
  refine rdPick_of (L := L) (by rfl) (by rfl) F (by omega) W.e (by simpa using W.ne) (by rw [List.length_map]; have := W.len; omega) fun x hx S1 F1 K1 => ?_
  obtain ⟨w, hw, rfl⟩ := List.mem_map.mp hx
  have ow := W.ok w hw
  show wa1 _ [some (.ref f), some (.ref L), some (.bl b), some (wayD w)] S1
  rw [wa1_eq]
  have endr : ∀ w' S2, wayOk w' → (b = true → w' ≠ []) → Feed S2 f (m + 3) → Keeps f S S2 → wa2 (bodyEnds Q) [some (.ref f), some (.ref L), some (.bl b), some (wayD w')] S2 := fun w' S2 h1 h2 F2 K2 => by
    unfold wa2
    simp only [dRet_eq]
    refine dV_at (by rfl) ?_
    exact k w' S2 h1 h2 F2 K2
  have more : ∀ S2, w.length < 4 → Feed S2 f (m + 2) → Keeps f S S2 → waT { bodyEnds Q with nx := wa2 (bodyEnds Q) } [some (.ref f), some (.ref L), some (.bl b), some (wayD w)] S2 := fun S2 hl F2 K2 => by
    unfold waT
    rw [dAsg_eq, dBin_eq]
    refine dV_at (by rfl) ?_
    rw [dTup_eq, dCons_eq]
    refine fixed_of (m := m + 2) (xs := [.str "a", .str "ab", .str "b", .str "c", .str "x", .str "z"]) (fun _ _ _ q => q) (by rfl) F2 (by omega) (by rfl) (by decide) (by decide) fun y hy S3 F3 K3 => ?_
    obtain ⟨n, hn, rfl⟩ := mem_str (ns := NM) (x := y) (by simpa [NM] using hy)
    simp only [dNil_eq]
    refine ⟨by show 1 ≤ sizeLine; omega, ?_⟩
    unfold wayD
    rw [wAdd_tup, List.length_map]
    refine ⟨by show _ + 1 ≤ _; omega, ?_⟩
    have e1 : w.map D.str ++ [D.str n] = (w ++ [n]).map D.str := by rw [List.map_append]; rfl
    rw [e1]
    refine endr (w ++ [n]) S3 ⟨by rw [List.length_append]; show _ + 1 ≤ 4; omega, fun x hx => ?_⟩ (fun _ => by simp) F3 (K2.trans K3)
    rcases List.mem_append.mp hx with hx | hx
    · exact ow.2 x hx
    · rw [List.mem_singleton.mp hx]; exact hn
  simp only [dIfS_eq, dOr_eq, dAnd_eq, dTst_eq, dBin_eq, dCB_eq, dNext_eq]
  refine pk_of (by rfl) F1 (by omega) (by decide) (by decide) fun r S2 r0 r1 F2 K2 => ?_
  have K12 := K1.trans K2
  simp only [dC_eq, dCons_eq, dNil_eq, dTup_eq]
  rw [wEq_int, isB_bl]
  have second : dV 2 [some (.ref f), some (.ref L), some (.bl b), some (wayD w)] S2 (isB fun b' S1 => if b' = true then dV 3 [some (.ref f), some (.ref L), some (.bl b), some (wayD w)] S1 fun x S1 => 0 ≤ sizeLine ∧ wEq x (.tup []) S1 (isB fun b' S1 => if b' = true then waT { bodyEnds Q with nx := wa2 (bodyEnds Q) } [some (.ref f), some (.ref L), some (.bl b), some (wayD w)] S1 else wa2 (bodyEnds Q) [some (.ref f), some (.ref L), some (.bl b), some (wayD w)] S1) else wa2 (bodyEnds Q) [some (.ref f), some (.ref L), some (.bl b), some (wayD w)] S1) := by
    refine dV_at (by rfl) ?_
    rw [isB_bl]
    cases b with
    | false =>
      rw [if_neg (by decide)]
      exact endr w S2 ow (fun z => by cases z) (F2.up (by omega)) K12
    | true =>
      rw [if_pos rfl]
      refine dV_at (by rfl) ?_
      refine ⟨Nat.zero_le _, ?_⟩
      rw [wEq_way, isB_bl]
      by_cases he : w = []
      · rw [decide_eq_true he, if_pos rfl]
        exact more S2 (by rw [he]; decide) F2 K12
      · rw [decide_eq_false he, if_neg (by decide)]
        exact endr w S2 ow (fun _ => he) (F2.up (by omega)) K12
  by_cases hr : r = 0
  · rw [decide_eq_true hr, if_pos rfl]
    refine dV_at (by rfl) ?_
    unfold wayD
    rw [wLen_tup, List.length_map, wLt_int, isB_bl]
    by_cases hl : w.length < 4
    · rw [if_pos (by simp; omega)]
      show if True then _ else _
      rw [if_pos trivial]
      exact more S2 hl F2 K12
    · rw [if_neg (by simp; omega)]
      exact second
  · rw [decide_eq_false hr, if_neg (by decide), if_neg (by decide)]
    exact second
inductive Dd where
  | one (x : Str) (w : List Str)
  | mk (w : List Str) (k : Str)
  | two (x : Str) (w v : List Str)
def Dd.D : Dd → D
  | .one x w => .tup [.str x, wayD w]
  | .mk w k => .tup [.str "make", wayD w, .str k]
  | .two x w v => .tup [.str x, wayD w, wayD v]
def Dd.ok : Dd → Prop
  | .one x w => x ∈ (["look", "list", "drop"] : List Str) ∧ wayOk w ∧ (x = ("drop" : Str) → w ≠ [])
  | .mk w k => wayOk w ∧ w ≠ [] ∧ isK k
  | .two x w v => x ∈ (["link", "move", "swap"] : List Str) ∧ wayOk w ∧ w ≠ [] ∧ wayOk v ∧ v ≠ []
def sp__law_deed : DSp := fun ds S Q E => ∃ f L ws m, ds = [.ref f, .ref L] ∧ m < 900090000 ∧ Feed S f m ∧ WL S f L ws ∧ ∀ d S', Dd.ok d → Feed S' f (m + 8) → Keeps f S S' → Q d.D S'
theorem len__law_deed : ∀ ds S Q E, sp__law_deed ds S Q E → ds.length = (["_law_source_here", "_law_ways_here"] : List Str).length := fun _ _ _ _ ⟨_, _, _, _, e, _⟩ => by rw [e]; rfl
def de0 : DTS := dAsg (dBin wAt (dLst (dCons (dC (.str "look")) (dCons (dC (.str "list")) (dCons (dC (.str "make")) (dCons (dC (.str "make")) (dCons (dC (.str "drop")) (dCons (dC (.str "drop")) (dCons (dC (.str "link")) (dCons (dC (.str "move")) (dCons (dC (.str "move")) (dCons (dC (.str "swap")) dNil))))))))))) (dCall sp__law_pick [] (dCons (dV 0) (dCons (dC (.int 10)) dNil)))) (gdName 2)
def de1 : DTS := dAsg (dCall sp__law_way [] (dCons (dV 0) (dCons (dV 1) (dCons (dBin (wIn true) (dV 2) (dTup (dCons (dC (.str "look")) (dCons (dC (.str "list")) dNil)))) dNil)))) (gdName 3)
def de2 : DTS := dIfS (dTst (dBin (wIn false) (dV 2) (dTup (dCons (dC (.str "look")) (dCons (dC (.str "list")) (dCons (dC (.str "drop")) dNil)))))) (dRet (dTup (dCons (dV 2) (dCons (dV 3) dNil)))) dNext
def de3 : DTS := dIfS (dTst (dBin wEq (dV 2) (dC (.str "make")))) (dRet (dTup (dCons (dV 2) (dCons (dV 3) (dCons (dBin wAt (dLst (dCons (dC (.str "drawer")) (dCons (dC (.str "sheet")) dNil))) (dCall sp__law_pick [] (dCons (dV 0) (dCons (dC (.int 2)) dNil)))) dNil))))) dNext
def de4 : DTS := dRet (dTup (dCons (dV 2) (dCons (dV 3) (dCons (dCall sp__law_way [] (dCons (dV 0) (dCons (dV 1) (dCons (dC (.bl true)) dNil)))) dNil))))
def r__law_deed : DTS := dSeq de0 (dSeq de1 (dSeq de2 (dSeq de3 de4)))
abbrev N__law_deed : List Str := ["_law_source_here", "_law_ways_here", "_law_word", "_law_way_here"]
theorem str_in {x : Str} {xs : List Str} {S : Sto} {Q : KD} {neg : Bool} : wIn neg (.str x) (.tup (xs.map D.str)) S Q = Q (.bl (neg != decide (x ∈ xs))) S := by
  rw [wIn_tup (.cl rfl) fun d hd => by obtain ⟨y, _, rfl⟩ := List.mem_map.mp hd; rfl]
  congr 3
  by_cases h : x ∈ xs
  · rw [decide_eq_true h, decide_eq_true (List.mem_map_of_mem h)]
  · rw [decide_eq_false h, decide_eq_false (by simpa using h)]
theorem vc__law_deed {ds S Q E} (h : sp__law_deed ds S Q E) : r__law_deed (bodyEnds Q) (startD N__law_deed ds) S := by
  have sz : 1001 < sizeLine := by rw [sizeLine_eq]; decide
  obtain ⟨f, L, ws, m, rfl, hm, F, W, k⟩ := h
  show r__law_deed _ [some (.ref f), some (.ref L), none, none] S
  unfold r__law_deed
  simp only [dSeq_eq]
  unfold de0
  rw [dAsg_eq]
  refine fixed_of (m := m) (xs := (["look", "list", "make", "make", "drop", "drop", "link", "move", "move", "swap"] : List Str).map D.str) (fun _ _ _ q => q) (by rfl) F (by omega) (by rfl) (by decide) (by decide) fun y hy S1 F1 K1 => ?_
  obtain ⟨x, hx, rfl⟩ := mem_str hy
  show de1 _ [some (.ref f), some (.ref L), some (.str x), none] S1
  unfold de1
  simp only [dAsg_eq, dCall_eq, dCons_eq, dNil_eq, dBin_eq, dTup_eq, dC_eq, List.append_nil]
  refine dV_at (by rfl) ?_
  refine dV_at (by rfl) ?_
  refine dV_at (by rfl) ?_
  refine ⟨by show 2 ≤ sizeLine; omega, ?_⟩
  show wIn true (.str x) (.tup ((["look", "list"] : List Str).map D.str)) S1 _
  rw [str_in]
  refine ⟨f, L, ws, _, m + 1, rfl, by omega, F1, W.keep K1, fun w S2 ow hw F2 K2 => ?_⟩
  have K12 := K1.trans K2
  show de2 _ [some (.ref f), some (.ref L), some (.str x), some (wayD w)] S2
  unfold de2
  simp only [dIfS_eq, dTst_eq, dBin_eq, dTup_eq, dCons_eq, dNil_eq, dC_eq, dNext_eq, dRet_eq]
  refine dV_at (by rfl) ?_
  refine ⟨by show 3 ≤ sizeLine; omega, ?_⟩
  show wIn false (.str x) (.tup ((["look", "list", "drop"] : List Str).map D.str)) S2 _
  rw [str_in, isB_bl]
  by_cases h1 : x ∈ (["look", "list", "drop"] : List Str)
  · rw [decide_eq_true h1, if_pos (by rfl)]
    refine dV_at (by rfl) ?_
    refine dV_at (by rfl) ?_
    refine ⟨by show 2 ≤ sizeLine; omega, k (.one x w) S2 ⟨h1, ow, fun hd => hw ?_⟩ (F2.up (by omega)) K12⟩
    rw [hd]; decide +kernel
  · have nw : w ≠ [] := hw (by
      have : x ∉ (["look", "list"] : List Str) := fun z => h1 (by
        simp only [List.mem_cons, List.not_mem_nil, or_false] at z ⊢
        rcases z with z | z
        · exact .inl z
        · exact .inr (.inl z))
      rw [decide_eq_false this]; rfl)
    rw [decide_eq_false h1, if_neg (by decide)]
    show de3 _ _ _
    unfold de3
    simp only [dIfS_eq, dTst_eq, dBin_eq, dC_eq, dNext_eq]
    refine dV_at (by rfl) ?_
    rw [wEq_str, isB_bl]
    by_cases h2 : x = ("make" : Str)
    · rw [decide_eq_true h2, if_pos rfl]
      subst h2
      rw [dRet_eq, dTup_eq, dCons_eq]
      refine dV_at (by rfl) ?_
      rw [dCons_eq]
      refine dV_at (by rfl) ?_
      rw [dCons_eq]
      refine fixed_of (m := m + 1 + 3) (xs := (["drawer", "sheet"] : List Str).map D.str) (fun _ _ _ q => q) (by rfl) F2 (by omega) (by rfl) (by decide) (by decide) fun y hy S3 F3 K3 => ?_
      obtain ⟨kd, hk, rfl⟩ := mem_str hy
      refine ⟨by show 3 ≤ sizeLine; omega, k (.mk w kd) S3 ⟨ow, nw, by simpa [isK] using hk⟩ (F3.up (by omega)) (K12.trans K3)⟩
    · rw [decide_eq_false h2, if_neg (by decide)]
      show de4 _ _ _
      unfold de4
      simp only [dRet_eq, dTup_eq, dCons_eq, dCall_eq, dNil_eq, dC_eq, List.append_nil]
      refine dV_at (by rfl) ?_
      refine dV_at (by rfl) ?_
      refine dV_at (by rfl) ?_
      refine dV_at (by rfl) ?_
      refine ⟨f, L, ws, _, m + 1 + 3, rfl, by omega, F2, W.keep K12, fun v S3 ov hv F3 K3 => ?_⟩
      refine ⟨by show 3 ≤ sizeLine; omega, k (.two x w v) S3 ⟨?_, ow, nw, ov, hv rfl⟩ (F3.up (by omega)) (K12.trans K3)⟩
      simp only [List.mem_cons, List.not_mem_nil, or_false] at hx h1 ⊢
      rcases hx with h | h | h | h | h | h | h | h | h | h
      · exact absurd (.inl h) h1
      · exact absurd (.inr (.inl h)) h1
      · exact absurd h h2
      · exact absurd h h2
      · exact absurd (.inr (.inr h)) h1
      · exact absurd (.inr (.inr h)) h1
      · exact .inl h
      · exact .inr (.inl h)
      · exact .inr (.inl h)
      · exact .inr (.inr h)
end KB
namespace KB
open PySem PySem.Spec PyProof.Rows L2 DL
def handD (h : List Dd) : D := .tup (h.map Dd.D)
def handsD (hs : List (List Dd)) : D := .tup (hs.map handD)
structure HandsOk (hs : List (List Dd)) : Prop where
  pos : 0 < hs.length
  len : hs.length ≤ 4
  three : ∀ h ∈ hs, h.length ≤ 3
  ok : ∀ h ∈ hs, ∀ d ∈ h, Dd.ok d
def sp__law_hands : DSp := fun ds S Q E => ∃ f rows made nh nd m, ds = [.ref f, treeD rows made, .int nh, .int nd] ∧ TreeG rows made ∧ 0 < nh ∧ nh ≤ 4 ∧ 0 ≤ nd ∧ nd ≤ 10 ∧ m < 900010000 ∧ Feed S f m ∧ ∀ hs S', HandsOk hs → Feed S' f (m + 200) → Keeps f S S' → Q (handsD hs) S'
theorem len__law_hands : ∀ ds S Q E, sp__law_hands ds S Q E → ds.length = (["_law_source_here", "_law_tree_here", "_law_hands_here", "_law_deeds"] : List Str).length := fun _ _ _ _ ⟨_, _, _, _, _, _, e, _⟩ => by rw [e]; rfl
def hn0 : DTS := dAsg (dCall sp__law_ways [] (dCons (dV 1) dNil)) (gdName 4)
def hn1 : DTS := dAsg (dLC (diRng1 (dCons (dBin wAdd (dC (.int 1)) (dCall sp__law_pick [] (dCons (dV 0) (dCons (dV 2) dNil)))) dNil)) (gdName 8) dYes [8] [8] [] (dLst dNil)) (gdName 5)
def hb0 : DTS := dAsg (dBin wAt (dV 5) (dCall sp__law_pick [] (dCons (dV 0) (dCons (dCB wLen (dCons (dV 5) dNil)) dNil)))) (gdName 7)
def hb1 : DTS := dIfS (dTst (dBin wLt (dCB wLen (dCons (dV 7) dNil)) (dC (.int 3)))) (dDrop (dBM "list" wAppend (dV 7) (dCons (dCall sp__law_deed [] (dCons (dV 0) (dCons (dV 4) dNil))) dNil))) dNext
theorem hb0_eq : hb0 = dAsg (rdPick 5) (gdName 7) := rfl
def hn2 : DTS := dFor (diRng1 (dCons (dCall sp__law_pick [] (dCons (dV 0) (dCons (dBin wAdd (dV 3) (dC (.int 1))) dNil))) dNil)) (gdName 6) (dSeq hb0 hb1)
def hn3 : DTS := dRet (dCB wTuple (dCons (dLC (diVal (dV 5) wIterA) (gdName 7) dYes [7] [7] [] (dCB wTuple (dCons (dV 7) dNil))) dNil))
def r__law_hands : DTS := dSeq hn0 (dSeq hn1 (dSeq hn2 hn3))
abbrev N__law_hands : List Str := ["_law_source_here", "_law_tree_here", "_law_hands_here", "_law_deeds", "_law_ways_here", "_law_found", "_law_k", "_law_own", "_law_hand"]
structure HI (S0 : Sto) (f L R : Addr) (ws : List (List Str)) (hs : List (Addr × List Dd)) (m : Nat) (S : Sto) : Prop where
  W : WL S f L ws
  eR : S R = some (.lst (hs.map fun h => D.ref h.1))
  each : ∀ h ∈ hs, S h.1 = some (.lst (h.2.map Dd.D)) ∧ h.1 ≠ f ∧ h.1 ≠ R ∧ h.1 ≠ L ∧ S0 h.1 = none
  ok : ∀ h ∈ hs, h.2.length ≤ 3 ∧ ∀ d ∈ h.2, Dd.ok d
  nd : (hs.map (·.1)).Nodup
  ne : R ≠ f ∧ R ≠ L
  R0 : S0 R = none
  F : Feed S f m
  ks : Keeps f S0 S
section
variable {S0 S S' : Sto} {f L R p : Addr} {ws : List (List Str)} {hs : List (Addr × List Dd)} {m m' : Nat} {o : AO}
theorem HI.keep (H : HI S0 f L R ws hs m S) (F : Feed S' f m') (k : Keeps f S S') : HI S0 f L R ws hs m' S' :=
  ⟨H.W.keep k, k _ _ H.ne.1 H.eR, fun h hh => let ⟨a, b, c⟩ := H.each h hh; ⟨k _ _ b a, b, c⟩, H.ok, H.nd, H.ne, H.R0, F, H.ks.trans k⟩
theorem HI.new (H : HI S0 f L R ws hs m S) (h : S p = none) : HI S0 f L R ws hs m (put S p o) := H.keep (H.F.new h) (Keeps.new h)
theorem HI.up (H : HI S0 f L R ws hs m S) (h : m ≤ m') : HI S0 f L R ws hs m' S := H.keep (H.F.up h) .refl
theorem HI.add (H : HI S0 f L R ws hs m S) {g : Addr × List Dd} (hg : g ∈ hs) {d : Dd} (hd : d.ok) (hl : g.2.length < 3) : HI S0 f L R ws (hs.map fun h => if h.1 = g.1 then (h.1, g.2 ++ [d]) else h) m (put S g.1 (.lst (g.2.map Dd.D ++ [d.D]))) := by
  obtain ⟨a, b, c, e, n0⟩ := H.each g hg
  have mem : ∀ q ∈ hs.map fun h => if h.1 = g.1 then (h.1, g.2 ++ [d]) else h, (q = (g.1, g.2 ++ [d])) ∨ (q ∈ hs ∧ q.1 ≠ g.1) := fun q hq => by
    obtain ⟨h, hh, rfl⟩ := List.mem_map.mp hq
    by_cases z : h.1 = g.1
    · rw [if_pos z, z]; exact .inl rfl
    · rw [if_neg z]; exact .inr ⟨hh, z⟩
  have fs : (hs.map fun h => if h.1 = g.1 then (h.1, g.2 ++ [d]) else h).map (·.1) = hs.map (·.1) := by
    rw [List.map_map]; refine List.map_congr_left fun h _ => ?_
    show (if h.1 = g.1 then (h.1, g.2 ++ [d]) else h).1 = h.1
    split <;> rfl
  refine ⟨⟨by rw [put_ne (Ne.symm e)]; exact H.W.e, H.W.ne, H.W.len, H.W.ok, H.W.Lf⟩, ?_, fun q hq => ?_, fun q hq => ?_, by rw [fs]; exact H.nd, H.ne, H.R0, H.F.put b, H.ks.then n0⟩
  · rw [put_ne (Ne.symm c), H.eR]
    congr 2
    have e1 : (hs.map fun h => D.ref h.1) = (hs.map (·.1)).map D.ref := by rw [List.map_map]; rfl
    have e2 : ∀ l : List (Addr × List Dd), (l.map fun h => D.ref h.1) = (l.map (·.1)).map D.ref := fun l => by rw [List.map_map]; rfl
    rw [e2, e2, fs]
  · rcases mem q hq with rfl | ⟨hq, z⟩
    · exact ⟨by show put _ _ _ g.1 = _; rw [put_same, List.map_append]; rfl, b, c, e, n0⟩
    · obtain ⟨a', r⟩ := H.each q hq
      exact ⟨by rw [put_ne z]; exact a', r⟩
  · rcases mem q hq with rfl | ⟨hq, z⟩
    · refine ⟨by show (g.2 ++ [d]).length ≤ 3; rw [List.length_append]; show _ + 1 ≤ 3; omega, fun x hx => ?_⟩
      rcases List.mem_append.mp hx with hx | hx
      · exact (H.ok g hg).2 x hx
      · rw [List.mem_singleton.mp hx]; exact hd
    · exact H.ok q hq
end
section
variable {S0 S : Sto} {f L R : Addr} {ws : List (List Str)} {hs : List (Addr × List Dd)} {m : Nat} {Dn : DEnds} {x1 x2 x3 x4 x5 x6 x7 x8 : Option D}
theorem hn1_of {nh : Int} (W : WL S f L ws) (F : Feed S f m) (ks : Keeps f S0 S) (hm : m < 999000000) (h0 : 0 < nh) (h4 : nh ≤ 4) (k : ∀ R hs S', HI S0 f L R ws hs (m + 1) S' → 0 < hs.length → hs.length ≤ 4 → Dn.nx [some (.ref f), x1, some (.int nh), x3, x4, some (.ref R), x6, x7, x8] S') : hn1 Dn [some (.ref f), x1, some (.int nh), x3, x4, x5, x6, x7, x8] S := by
  have sz : 1001 < sizeLine := by rw [sizeLine_eq]; decide
  unfold hn1
  simp only [dAsg_eq, dLC_eq, diRng1_eq, dCons_eq, dNil_eq, dBin_eq, dC_eq, dCall_eq, List.append_nil, gdName_eq]
  refine dV_at (by rfl) ?_
  refine dV_at (by rfl) ?_
  refine ⟨f, nh, m, rfl, h0, by omega, by omega, F, fun r S1 r0 r1 F1 K1 => ?_⟩
  show wAdd (.int 1) (.int r) S1 _
  rw [wAdd_int]
  refine ⟨by omega, by omega, ?_⟩
  rw [rngD_map]
  intro R hR
  have Rf := F1.nt hR
  have W1 := W.keep K1
  have RL : R ≠ L := Ne.symm (ne_of_free hR W1.e)
  have ks1 := ks.trans K1
  have R0 : S0 R = none := F1.freeT ks1 hR
  refine loopC_map (fun i : Nat => D.int (i : Int)) (fun done S' => ∃ hs, HI S0 f L R ws hs (m + 1) S' ∧ hs.length = done.length) (fun _ _ _ => trivial) (fun S' h => ?_) (fun done i rest S' es h N hN => ?_) ⟨[], ⟨W1.keep (Keeps.new hR), put_same, by simp, by simp, by simp, ⟨Rf, RL⟩, R0, F1.new hR, ks1.then R0⟩, rfl⟩
  · obtain ⟨hs, H, hl⟩ := h
    rw [List.length_range] at hl
    exact k R hs S' H (by omega) (by omega)
  · obtain ⟨hs, H, hl⟩ := h
    have ld : done.length < 5 := by
      have := congrArg List.length es
      rw [List.length_range, List.length_append, List.length_cons] at this
      omega
    refine ⟨rfl, ?_⟩
    rw [dYes_eq, if_pos rfl, compR_nil, emLst_eq, dLst_eq, dNil_eq]
    refine ⟨by show 0 ≤ sizeLine; omega, fun p hp => ?_⟩
    have H1 := H.new (o := .lst []) hp
    have ep : put S' p (.lst []) p = some (.lst []) := put_same
    have pf := H.F.nt hp
    have pR : p ≠ R := Ne.symm (ne_of_free hp H.eR)
    have pL : p ≠ L := Ne.symm (ne_of_free hp H.W.e)
    have p0 : S0 p = none := H.F.freeT H.ks hp
    have pn : p ∉ hs.map (·.1) := fun z => by
      obtain ⟨q, hq, e⟩ := List.mem_map.mp z
      have := (H.each q hq).1
      rw [e, hp] at this; cases this
    generalize put S' p (.lst []) = S2 at *
    rw [onL_eq H1.eR]
    refine ⟨by rw [List.length_map]; omega, hN _ ⟨hs ++ [(p, [])], ⟨⟨by rw [put_ne (Ne.symm RL)]; exact H1.W.e, H1.W.ne, H1.W.len, H1.W.ok, H1.W.Lf⟩, by rw [put_same, List.map_append]; rfl, fun q hq => ?_, fun q hq => ?_, ?_, ⟨Rf, RL⟩, R0, H1.F.put Rf, H1.ks.then R0⟩, by rw [List.length_append, List.length_append, hl]; rfl⟩⟩
    · rcases List.mem_append.mp hq with hq | hq
      · obtain ⟨a, b, c, d⟩ := H1.each q hq
        exact ⟨by rw [put_ne c]; exact a, b, c, d⟩
      · rw [List.mem_singleton.mp hq]
        exact ⟨by show put _ _ _ p = _; rw [put_ne pR]; exact ep, pf, pR, pL, p0⟩
    · rcases List.mem_append.mp hq with hq | hq
      · exact H1.ok q hq
      · rw [List.mem_singleton.mp hq]; exact ⟨by show 0 ≤ 3; decide, by simp⟩
    · rw [List.map_append, List.nodup_append]
      refine ⟨H1.nd, by simp, fun a ha b hb e => ?_⟩
      rw [List.map_singleton, List.mem_singleton] at hb
      rw [e, hb] at ha; exact pn ha
theorem hn2_of {nd : Int} (H : HI S0 f L R ws hs m S) (hm : m < 900080000) (n0 : 0 ≤ nd) (n1 : nd ≤ 10) (hp : 0 < hs.length) (hl : hs.length ≤ 4) (k : ∀ hs' y6 y7 S', HI S0 f L R ws hs' (m + 150) S' → 0 < hs'.length → hs'.length ≤ 4 → Dn.nx [some (.ref f), x1, x2, some (.int nd), some (.ref L), some (.ref R), y6, y7, x8] S') : hn2 Dn [some (.ref f), x1, x2, some (.int nd), some (.ref L), some (.ref R), x6, x7, x8] S := by
  have sz : 1001 < sizeLine := by rw [sizeLine_eq]; decide
  unfold hn2
  generalize hB : dSeq hb0 hb1 = B
  simp only [dFor_eq, diRng1_eq, dCons_eq, dNil_eq, dCall_eq, dBin_eq, dC_eq, List.append_nil]
  refine dV_at (by rfl) ?_
  refine dV_at (by rfl) ?_
  rw [wAdd_int]
  refine ⟨f, _, m, rfl, by omega, by omega, by omega, H.F, fun r S1 r0 r1 F1 K1 => ?_⟩
  show r < 2 ^ 62 ∧ -(2 ^ 62) ≤ r ∧ _
  refine ⟨by omega, by omega, ?_⟩
  rw [rngD_map]
  refine loop_map (fun i : Nat => D.int (i : Int)) (fun done τ S' => ∃ hs' y6 y7, HI S0 f L R ws hs' (m + 1 + 9 * done.length) S' ∧ 0 < hs'.length ∧ hs'.length ≤ 4 ∧ τ = [some (.ref f), x1, x2, some (.int nd), some (.ref L), some (.ref R), y6, y7, x8])
    (fun _ _ _ _ => trivial) (fun τ S' h => ?_) (fun done i rest τ S' es h N hN => ?_) ⟨hs, _, _, H.keep F1 K1, hp, hl, rfl⟩
  · obtain ⟨hs', y6, y7, H', p1, p2, rfl⟩ := h
    rw [List.length_range] at H'
    exact k hs' _ _ S' (H'.up (by omega)) p1 p2
  · obtain ⟨hs', y6, y7, H', p1, p2, rfl⟩ := h
    have ld : done.length < 11 := by
      have := congrArg List.length es
      rw [List.length_range, List.length_append, List.length_cons] at this
      omega
    show B _ [some (.ref f), x1, x2, some (.int nd), some (.ref L), some (.ref R), some (.int i), y7, x8] S'
    rw [← hB, dSeq_eq, hb0_eq, dAsg_eq]
    refine rdPick_of (L := R) (by rfl) (by rfl) H'.F (by omega) H'.eR (by intro z; rw [List.map_eq_nil_iff] at z; rw [z] at p1; exact absurd p1 (by decide)) (by rw [List.length_map]; omega) fun x hx S2 F2 K2 => ?_
    obtain ⟨g, hg, rfl⟩ := List.mem_map.mp hx
    have H2 := H'.keep F2 K2
    show hb1 _ [some (.ref f), x1, x2, some (.int nd), some (.ref L), some (.ref R), some (.int i), some (.ref g.1), x8] S2
    unfold hb1
    simp only [dIfS_eq, dTst_eq, dBin_eq, dCB_eq, dCons_eq, dNil_eq, dC_eq, dNext_eq]
    refine dV_at (by rfl) ?_
    rw [wLen_lst (H2.each g hg).1, List.length_map, wLt_int, isB_bl]
    have em : m + 1 + 9 * (done ++ [i]).length = m + 1 + 9 * done.length + 1 + 8 := by rw [List.length_append]; show _ + 9 * (_ + 1) = _; omega
    by_cases h3 : g.2.length < 3
    · rw [if_pos (by simp; omega)]
      simp only [dDrop_eq, dBM_eq, dCons_eq, dNil_eq, dCall_eq, List.append_nil]
      refine dV_at (by rfl) ?_
      refine ⟨tyD_lst (H2.each g hg).1, ?_⟩
      refine dV_at (by rfl) ?_
      refine dV_at (by rfl) ?_
      refine ⟨f, L, ws, m + 1 + 9 * done.length + 1, rfl, by omega, F2, H2.W, fun d S3 hd F3 K3 => ?_⟩
      have H3 := H2.keep F3 K3
      show wAppend (.ref g.1) [d.D] S3 _
      rw [wAppend_lst (H3.each g hg).1]
      refine ⟨by rw [List.length_map]; omega, hN _ _ ⟨_, _, _, by rw [em]; exact H3.add hg hd h3, by rw [List.length_map]; exact p1, by rw [List.length_map]; exact p2, rfl⟩⟩
    · rw [if_neg (by simp; omega)]
      exact hN _ _ ⟨hs', _, _, by rw [em]; exact H2.up (by omega), p1, p2, rfl⟩
end
theorem vc__law_hands {ds S Q E} (h : sp__law_hands ds S Q E) : r__law_hands (bodyEnds Q) (startD N__law_hands ds) S := by
  have sz : 1001 < sizeLine := by rw [sizeLine_eq]; decide
  obtain ⟨f, rows, made, nh, nd, m, rfl, G, h0, h4, n0, n1, hm, F, k⟩ := h
  show r__law_hands _ [some (.ref f), some (treeD rows made), some (.int nh), some (.int nd), none, none, none, none, none] S
  unfold r__law_hands
  simp only [dSeq_eq]
  unfold hn0
  simp only [dAsg_eq, dCall_eq, dCons_eq, dNil_eq, List.append_nil, gdName_eq]
  refine dV_at (by rfl) ?_
  refine ⟨rows, made, rfl, G, fun L ws S1 eL L0 g1 wne lws wok => ?_⟩
  have F1 := F.keep g1
  have W1 : WL S1 f L ws := ⟨eL, wne, lws, wok, F1.ne_lst eL⟩
  have k1 : Keeps f S S1 := fun a o _ h => g1 a o h
  show hn1 _ [some (.ref f), some (treeD rows made), some (.int nh), some (.int nd), some (.ref L), none, none, none, none] S1
  refine hn1_of W1 F1 k1 (by omega) h0 h4 fun R hs S2 H2 p1 p2 => ?_
  refine hn2_of H2 (by omega) n0 n1 p1 p2 fun hs' y6 y7 S3 H3 q1 q2 => ?_
  show hn3 _ [some (.ref f), some (treeD rows made), some (.int nh), some (.int nd), some (.ref L), some (.ref R), y6, y7, none] S3
  unfold hn3
  simp only [dRet_eq, dCB_eq, dCons_eq, dNil_eq, dLC_eq, diVal_eq]
  refine dV_at (by rfl) ?_
  rw [wIter_lst H3.eR]
  intro C hC
  have RC : R ≠ C := ne_of_free hC H3.eR
  refine lc_map (fun h : Addr × List Dd => D.ref h.1) (fun h => [handD h.2]) hs' (fun o => by rw [put_ne RC]; exact H3.eR) ?_ (fun h hh acc k2 hacc hk => ?_) ?_
  · have := flatMap_le (fun h : Addr × List Dd => [handD h.2]) 1 hs' fun x _ => by simp
    omega
  · refine ⟨rfl, ?_⟩
    rw [dYes_eq, if_pos rfl, emLst_eq]
    simp only [dCB_eq, dCons_eq, dNil_eq]
    refine dV_at (by rfl) ?_
    have eh := (H3.each h hh).1
    rw [wTuple_lst (by rw [put_ne (ne_of_free hC eh)]; exact eh), onL_put, put_put']
    simp only [List.length_singleton] at hacc
    exact ⟨by omega, hk⟩
  · rw [flatMap_one, wTuple_lst put_same]
    have em : (hs'.map fun h => handD h.2) = (hs'.map (·.2)).map handD := by rw [List.map_map]; rfl
    rw [em]
    refine k (hs'.map (·.2)) _ ⟨by rw [List.length_map]; exact q1, by rw [List.length_map]; exact q2, fun h hh => ?_, fun h hh => ?_⟩ ((H3.F.new hC).up (by omega)) (H3.ks.trans (Keeps.new hC))
    · obtain ⟨q, hq, rfl⟩ := List.mem_map.mp hh; exact (H3.ok q hq).1
    · obtain ⟨q, hq, rfl⟩ := List.mem_map.mp hh; exact (H3.ok q hq).2
end KB
namespace KB
open PySem PySem.Spec PyProof.Rows L2 DL
theorem diEnum_eq {ta : DTA} {τ : DSt} {S : Sto} {R : List D → (Sto → Prop) → Sto → Prop} : diEnum ta τ S R = ta τ S fun ds S1 => match ds with | [d] => wEnum d S1 R | _ => False := rfl
theorem wEnum_tup {ds : List D} {S : Sto} {R : List D → (Sto → Prop) → Sto → Prop} : wEnum (.tup ds) S R = R (enumD 0 ds) (fun _ => True) S := rfl
theorem enumD_range : ∀ (k : Nat) (ds : List D), enumD k ds = (List.range ds.length).map fun i => D.wt [.int ((k + i : Nat) : Int), ds.getD i .non]
  | _, [] => rfl
  | k, d :: r => by
    rw [enumD, enumD_range (k + 1) r, List.length_cons, List.range_succ_eq_map, List.map_cons, List.map_map]
    congr 1
    refine List.map_congr_left fun i _ => ?_
    show D.wt [.int ((k + 1 + i : Nat) : Int), r.getD i .non] = D.wt [.int ((k + (i + 1) : Nat) : Int), r.getD i .non]
    rw [show k + 1 + i = k + (i + 1) by omega]
structure Spn where
  h : Nat
  k : Nat
  b : Nat
  e : Nat
deriving DecidableEq
def Spn.task (s : Spn) : D := .tup [.int s.h, .int s.k]
def Spn.D (s : Spn) : D := .tup [s.task, .int s.b, .int s.e]
def spansD (sp : List Spn) : D := .tup (sp.map Spn.D)
def Spn.lt (s q : Spn) : Prop := s.h < q.h ∨ (s.h = q.h ∧ s.k < q.k ∧ s.e < q.b)
structure SpOk (hs : List (List Dd)) (sp : List Spn) : Prop where
  asc : sp.Pairwise Spn.lt
  inn : ∀ s ∈ sp, s.h < hs.length ∧ s.k < (hs.getD s.h []).length
  be : ∀ s ∈ sp, s.b ≤ s.e ∧ s.e ≤ 1000
  pre : ∀ s ∈ sp, ∀ j, j < s.k → ∃ q ∈ sp, q.h = s.h ∧ q.k = j
  len : sp.length ≤ 12
def sp__law_spans : DSp := fun ds S Q E => ∃ f hs m, ds = [.ref f, handsD hs] ∧ HandsOk hs ∧ m < 900020000 ∧ Feed S f m ∧ ∀ sp S', SpOk hs sp → Feed S' f (m + 100) → Keeps f S S' → Q (spansD sp) S'
theorem len__law_spans : ∀ ds S Q E, sp__law_spans ds S Q E → ds.length = (["_law_source_here", "_law_hands_here"] : List Str).length := fun _ _ _ _ ⟨_, _, _, e, _⟩ => by rw [e]; rfl
def sp0 : DTS := dAsg (dLst dNil) (gdName 2)
def sb0 : DTS := dAsg (dCall sp__law_pick [] (dCons (dV 0) (dCons (dC (.int 5)) dNil))) (gdName 5)
def sb1 : DTS := dAsg (dIf (dTst (dBin wGt (dCall sp__law_pick [] (dCons (dV 0) (dCons (dC (.int 4)) dNil))) (dC (.int 0)))) (dCB wLen (dCons (dV 4) dNil)) (dCall sp__law_pick [] (dCons (dV 0) (dCons (dBin wAdd (dCB wLen (dCons (dV 4) dNil)) (dC (.int 1))) dNil)))) (gdName 6)
def sk0 : DTS := dAsg (dBin wAdd (dV 5) (dBin wAt (dLst (dCons (dC (.int 0)) (dCons (dC (.int 2)) (dCons (dC (.int 5)) (dCons (dC (.int 9)) (dCons (dC (.int 120)) dNil)))))) (dCall sp__law_pick [] (dCons (dV 0) (dCons (dC (.int 5)) dNil))))) (gdName 8)
def sk1 : DTS := dDrop (dBM "list" wAppend (dV 2) (dCons (dTup (dCons (dTup (dCons (dV 3) (dCons (dV 7) dNil))) (dCons (dV 5) (dCons (dV 8) dNil)))) dNil))
def sk2 : DTS := dAsg (dBin wAdd (dBin wAdd (dV 8) (dC (.int 1))) (dCall sp__law_pick [] (dCons (dV 0) (dCons (dC (.int 3)) dNil)))) (gdName 5)
def sb2 : DTS := dFor (diRng1 (dCons (dV 6) dNil)) (gdName 7) (dSeq sk0 (dSeq sk1 sk2))
def sp1 : DTS := dFor (diEnum (dCons (dV 1) dNil)) (gdTup 2 (gdCons (gdName 3) (gdCons (gdName 4) gdNil))) (dSeq sb0 (dSeq sb1 sb2))
def sp2 : DTS := dRet (dCB wTuple (dCons (dV 2) dNil))
def r__law_spans : DTS := dSeq sp0 (dSeq sp1 sp2)
abbrev N__law_spans : List Str := ["_law_source_here", "_law_hands_here", "_law_found", "_law_hand", "_law_own", "_law_at", "_law_many", "_law_k", "_law_end"]
structure SJ (hs : List (List Dd)) (i j at_ : Nat) (sp : List Spn) : Prop where
  asc : sp.Pairwise Spn.lt
  inn : ∀ s ∈ sp, (s.h < i ∨ (s.h = i ∧ s.k < j ∧ s.e < at_)) ∧ s.h < hs.length ∧ s.k < (hs.getD s.h []).length
  be : ∀ s ∈ sp, s.b ≤ s.e ∧ s.e ≤ 1000
  pre : ∀ s ∈ sp, ∀ j, j < s.k → ∃ q ∈ sp, q.h = s.h ∧ q.k = j
  own : ∀ k, k < j → ∃ q ∈ sp, q.h = i ∧ q.k = k
  len : sp.length ≤ 3 * i + j
theorem SJ.next {hs : List (List Dd)} {i j a : Nat} {sp : List Spn} (h : SJ hs i j a sp) (hj : j ≤ 3) (a' : Nat) : SJ hs (i + 1) 0 a' sp :=
  ⟨h.asc, fun s hs' => by
    obtain ⟨x, y⟩ := h.inn s hs'
    exact ⟨.inl (by omega), y⟩, h.be, h.pre, fun k hk => (nomatch hk), by have := h.len; omega⟩
theorem SJ.add {hs : List (List Dd)} {i j a e a' : Nat} {sp : List Spn} (h : SJ hs i j a sp) (hi : i < hs.length) (hj : j < (hs.getD i []).length) (he : a ≤ e) (h1 : e ≤ 1000) (ha : e < a') : SJ hs i (j + 1) a' (sp ++ [⟨i, j, a, e⟩]) := by
  refine ⟨?_, fun s hs' => ?_, fun s hs' => ?_, fun s hs' k hk => ?_, fun k hk => ?_, by rw [List.length_append]; have := h.len; show _ + 1 ≤ _; omega⟩
  · rw [List.pairwise_append]
    refine ⟨h.asc, by simp, fun s hs' q hq => ?_⟩
    rw [List.mem_singleton.mp hq]
    rcases (h.inn s hs').1 with z | ⟨z1, z2, z3⟩
    · exact .inl z
    · exact .inr ⟨z1, z2, z3⟩
  · rcases List.mem_append.mp hs' with hs' | hs'
    · obtain ⟨x, y⟩ := h.inn s hs'
      refine ⟨?_, y⟩
      rcases x with x | ⟨x1, x2, x3⟩
      · exact .inl x
      · exact .inr ⟨x1, by omega, by omega⟩
    · rw [List.mem_singleton.mp hs']
      exact ⟨.inr ⟨rfl, Nat.lt_succ_self _, ha⟩, hi, hj⟩
  · rcases List.mem_append.mp hs' with hs' | hs'
    · exact h.be s hs'
    · rw [List.mem_singleton.mp hs']; exact ⟨he, h1⟩
  · rcases List.mem_append.mp hs' with hs' | hs'
    · obtain ⟨q, hq, z⟩ := h.pre s hs' k hk
      exact ⟨q, List.mem_append_left _ hq, z⟩
    · rw [List.mem_singleton.mp hs'] at hk ⊢
      obtain ⟨q, hq, z⟩ := h.own k hk
      exact ⟨q, List.mem_append_left _ hq, z⟩
  · by_cases z : k < j
    · obtain ⟨q, hq, y⟩ := h.own k z
      exact ⟨q, List.mem_append_left _ hq, y⟩
    · have : k = j := by omega
      exact ⟨⟨i, j, a, e⟩, by simp, rfl, this.symm⟩
structure SI (S0 : Sto) (f R : Addr) (sp : List Spn) (m : Nat) (S : Sto) : Prop where
  eR : S R = some (.lst (sp.map Spn.D))
  Rf : R ≠ f
  R0 : S0 R = none
  F : Feed S f m
  ks : Keeps f S0 S
theorem SI.keep {S0 S S' : Sto} {f R : Addr} {sp : List Spn} {m m' : Nat} (H : SI S0 f R sp m S) (F : Feed S' f m') (k : Keeps f S S') : SI S0 f R sp m' S' := ⟨k _ _ H.Rf H.eR, H.Rf, H.R0, F, H.ks.trans k⟩
section
variable {S0 S : Sto} {f R : Addr} {hs : List (List Dd)} {sp : List Spn} {m : Nat} {Dn : DEnds} {x3 x4 x5 x6 x7 x8 : Option D}
theorem sb2_of {i a n : Nat} (H : SI S0 f R sp m S) (J : SJ hs i 0 a sp) (hi : i < hs.length) (h4 : hs.length ≤ 4) (hn : n ≤ (hs.getD i []).length) (h3 : (hs.getD i []).length ≤ 3) (ha : a ≤ 5) (hm : m < 999000000)
    (k : ∀ sp' a' y7 y8 S', SI S0 f R sp' (m + 2 * n) S' → SJ hs (i + 1) 0 0 sp' → Dn.nx [some (.ref f), some (handsD hs), some (.ref R), some (.int i), some (handD (hs.getD i [])), some (.int (a' : Nat)), some (.int n), y7, y8] S') : sb2 Dn [some (.ref f), some (handsD hs), some (.ref R), some (.int i), some (handD (hs.getD i [])), some (.int a), some (.int n), x7, x8] S := by
  have sz : 1001 < sizeLine := by rw [sizeLine_eq]; decide
  unfold sb2
  generalize hB : dSeq sk0 (dSeq sk1 sk2) = B
  simp only [dFor_eq, diRng1_eq, dCons_eq, dNil_eq]
  refine dV_at (by rfl) ?_
  refine ⟨by omega, by omega, ?_⟩
  rw [Int.toNat_natCast, rngD_map]
  refine loop_map (fun i : Nat => D.int (i : Int)) (fun done τ S' => ∃ (sp' : List Spn) (a' : Nat) (y7 y8 : Option D), SI S0 f R sp' (m + 2 * done.length) S' ∧ SJ hs i done.length a' sp' ∧ a' ≤ 5 + 130 * done.length ∧ τ = [some (.ref f), some (handsD hs), some (.ref R), some (.int i), some (handD (hs.getD i [])), some (.int (a' : Nat)), some (.int n), y7, y8])
    (fun _ _ _ _ => trivial) (fun τ S' h => ?_) (fun done x rest τ S' es h N hN => ?_) ⟨sp, a, _, _, H, J, (by simpa using ha), rfl⟩
  · obtain ⟨sp', a', y7, y8, H', J', _, rfl⟩ := h
    rw [List.length_range] at H' J'
    exact k sp' a' _ _ S' H' (J'.next (by omega) 0)
  · obtain ⟨sp', a', y7, y8, H', J', la, rfl⟩ := h
    obtain ⟨rfl, hd⟩ := range_split es
    show B _ [some (.ref f), some (handsD hs), some (.ref R), some (.int i), some (handD (hs.getD i [])), some (.int (a' : Nat)), some (.int n), some (.int done.length), y8] S'
    rw [← hB]
    simp only [dSeq_eq]
    unfold sk0
    rw [dAsg_eq, dBin_eq]
    refine dV_at (by rfl) ?_
    refine fixed_of (m := m + 2 * done.length) (xs := ([0, 2, 5, 9, 120] : List Nat).map fun n : Nat => D.int (n : Int)) (fun _ _ _ q => q) (by rfl) H'.F (by omega) (by rfl) (by decide) (by decide) fun y hy S1 F1 K1 => ?_
    obtain ⟨d, hd2, rfl⟩ := List.mem_map.mp hy
    have d120 : d ≤ 120 := by
      simp only [List.mem_cons, List.not_mem_nil, or_false] at hd2
      omega
    have H1 := H'.keep F1 K1
    rw [wAdd_int]
    have e1 : (a' : Int) + (d : Int) = ((a' + d : Nat) : Int) := by omega
    rw [e1]
    show sk1 _ [some (.ref f), some (handsD hs), some (.ref R), some (.int i), some (handD (hs.getD i [])), some (.int (a' : Nat)), some (.int n), some (.int done.length), some (.int ((a' + d : Nat) : Int))] S1
    unfold sk1
    simp only [dDrop_eq, dBM_eq, dCons_eq, dNil_eq, dTup_eq]
    refine dV_at (by rfl) ?_
    refine ⟨tyD_lst H1.eR, ?_⟩
    refine dV_at (by rfl) ?_
    refine dV_at (by rfl) ?_
    refine ⟨by show 2 ≤ sizeLine; omega, ?_⟩
    refine dV_at (by rfl) ?_
    refine dV_at (by rfl) ?_
    refine ⟨by show 3 ≤ sizeLine; omega, ?_⟩
    rw [wAppend_lst H1.eR]
    have J1 := J'.add (e := a' + d) (a' := a' + d + 1) hi (by omega) (by omega) (by omega) (by omega)
    refine ⟨by rw [List.length_map]; have := J'.len; omega, ?_⟩
    have H2 : SI S0 f R (sp' ++ [⟨i, done.length, a', a' + d⟩]) (m + 2 * done.length + 1) (put S1 R (.lst (sp'.map Spn.D ++ [D.tup [D.tup [.int i, .int done.length], .int a', .int ((a' + d : Nat) : Int)]]))) :=
      ⟨by rw [put_same, List.map_append]; rfl, H1.Rf, H1.R0, H1.F.put H1.Rf, H1.ks.then H1.R0⟩
    generalize put S1 R (.lst (sp'.map Spn.D ++ [D.tup [D.tup [.int i, .int done.length], .int a', .int ((a' + d : Nat) : Int)]])) = S2 at *
    show sk2 _ [some (.ref f), some (handsD hs), some (.ref R), some (.int i), some (handD (hs.getD i [])), some (.int (a' : Nat)), some (.int n), some (.int done.length), some (.int ((a' + d : Nat) : Int))] S2
    unfold sk2
    simp only [dAsg_eq, dBin_eq, dC_eq, gdName_eq]
    refine dV_at (by rfl) ?_
    rw [wAdd_int]
    refine pk_of (by rfl) H2.F (by omega) (by decide) (by decide) fun r S3 r0 r1 F3 K3 => ?_
    obtain ⟨r, rfl⟩ : ∃ r' : Nat, r = (r' : Int) := ⟨r.toNat, by omega⟩
    rw [wAdd_int]
    have e2 : ((a' + d : Nat) : Int) + 1 + (r : Int) = ((a' + d + 1 + r : Nat) : Int) := by omega
    rw [e2]
    refine hN _ _ ⟨sp' ++ [⟨i, done.length, a', a' + d⟩], a' + d + 1 + r, _, _, ?_, ?_, ?_, rfl⟩
    · have em : m + 2 * (done ++ [done.length]).length = m + 2 * done.length + 1 + 1 := by rw [List.length_append]; show _ + 2 * (_ + 1) = _; omega
      rw [em]; exact H2.keep F3 K3
    · rw [List.length_append]
      refine ⟨J1.asc, fun s hs' => ?_, J1.be, J1.pre, J1.own, J1.len⟩
      obtain ⟨x, y⟩ := J1.inn s hs'
      refine ⟨?_, y⟩
      rcases x with x | ⟨x1, x2, x3⟩
      · exact .inl x
      · exact .inr ⟨x1, x2, by omega⟩
    · rw [List.length_append]; show _ ≤ 5 + 130 * (_ + 1); omega
theorem sp1_of (H : SI S0 f R [] m S) (O : HandsOk hs) (hm : m < 998000000) (k : ∀ sp' y3 y4 y5 y6 y7 y8 S', SI S0 f R sp' (m + 40) S' → SpOk hs sp' → sp'.length ≤ 12 → Dn.nx [some (.ref f), some (handsD hs), some (.ref R), y3, y4, y5, y6, y7, y8] S') : sp1 Dn [some (.ref f), some (handsD hs), some (.ref R), x3, x4, x5, x6, x7, x8] S := by
  have sz : 1001 < sizeLine := by rw [sizeLine_eq]; decide
  have h4 := O.len
  unfold sp1
  generalize hB : dSeq sb0 (dSeq sb1 sb2) = B
  simp only [dFor_eq, diEnum_eq, dCons_eq, dNil_eq]
  refine dV_at (by rfl) ?_
  unfold handsD
  rw [wEnum_tup, enumD_range, List.length_map]
  refine loop_map (fun i : Nat => D.wt [.int ((0 + i : Nat) : Int), (hs.map handD).getD i .non]) (fun done τ S' => ∃ (sp' : List Spn) (y3 y4 y5 y6 y7 y8 : Option D), SI S0 f R sp' (m + 9 * done.length) S' ∧ SJ hs done.length 0 0 sp' ∧ τ = [some (.ref f), some (handsD hs), some (.ref R), y3, y4, y5, y6, y7, y8])
    (fun _ _ _ _ => trivial) (fun τ S' h => ?_) (fun done x rest τ S' es h N hN => ?_) ⟨[], _, _, _, _, _, _, H, ⟨.nil, by simp, by simp, by simp, fun k hk => (nomatch hk), by simp⟩, rfl⟩
  · obtain ⟨sp', y3, y4, y5, y6, y7, y8, H', J', rfl⟩ := h
    rw [List.length_range] at H' J'
    refine k sp' _ _ _ _ _ _ S' (H'.keep (H'.F.up (by omega)) .refl) ⟨J'.asc, fun s hs' => (J'.inn s hs').2, J'.be, J'.pre, by have := J'.len; omega⟩ (by have := J'.len; omega)
  · obtain ⟨sp', y3, y4, y5, y6, y7, y8, H', J', rfl⟩ := h
    obtain ⟨rfl, hd⟩ := range_split es
    have e0 : (hs.map handD).getD done.length .non = handD (hs.getD done.length []) := by
      rw [List.getD_eq_getElem?_getD, List.getElem?_map, List.getElem?_eq_getElem hd, List.getD_eq_getElem?_getD, List.getElem?_eq_getElem hd]; rfl
    have h3 : (hs.getD done.length []).length ≤ 3 := by
      rw [List.getD_eq_getElem?_getD, List.getElem?_eq_getElem hd]; exact O.three _ (List.getElem_mem hd)
    rw [e0, Nat.zero_add]
    refine ⟨rfl, rfl, ?_⟩
    show B _ [some (.ref f), some (handsD hs), some (.ref R), some (.int done.length), some (handD (hs.getD done.length [])), y5, y6, y7, y8] S'
    rw [← hB]
    simp only [dSeq_eq]
    unfold sb0
    rw [dAsg_eq]
    refine pk_of (by rfl) H'.F (by omega) (by decide) (by decide) fun a S1 a0 a1 F1 K1 => ?_
    have H1 := H'.keep F1 K1
    obtain ⟨a, rfl⟩ : ∃ a' : Nat, a = (a' : Int) := ⟨a.toNat, by omega⟩
    show sb1 _ [some (.ref f), some (handsD hs), some (.ref R), some (.int done.length), some (handD (hs.getD done.length [])), some (.int a), y6, y7, y8] S1
    have fin : ∀ (n : Nat) (S2 : Sto), SI S0 f R sp' (m + 9 * done.length + 3) S2 → n ≤ (hs.getD done.length []).length → sb2 { Dn with nx := N, ct := N, bk := Dn.nx } [some (.ref f), some (handsD hs), some (.ref R), some (.int done.length), some (handD (hs.getD done.length [])), some (.int a), some (.int n), y7, y8] S2 := fun n S2 H2 hn => by
      have J2 : SJ hs done.length 0 a sp' := ⟨J'.asc, fun s hs' => by
        obtain ⟨x, y⟩ := J'.inn s hs'
        refine ⟨?_, y⟩
        rcases x with x | ⟨x1, x2, x3⟩
        · exact .inl x
        · exact absurd x2 (Nat.not_lt_zero _), J'.be, J'.pre, J'.own, J'.len⟩
      refine sb2_of H2 J2 hd h4 hn h3 (by omega) (by omega) fun sp2 a2 z7 z8 S3 H3 J3 => hN _ _ ⟨sp2, _, _, _, _, _, _, H3.keep (H3.F.up (by rw [List.length_append]; show _ ≤ m + 9 * (done.length + 1); omega)) .refl, ?_, rfl⟩
      rw [List.length_append]; exact J3
    unfold sb1
    simp only [dAsg_eq, dIf_eq, dTst_eq, dBin_eq, dCB_eq, dCons_eq, dNil_eq]
    refine pk_of (by rfl) H1.F (by omega) (by decide) (by decide) fun r S2 r0 r1 F2 K2 => ?_
    have H2 := H1.keep F2 K2
    rw [dC_eq, wGt_int, isB_bl]
    by_cases hr : 0 < r
    · rw [decide_eq_true hr, if_pos rfl]
      refine dV_at (by rfl) ?_
      show wLen [.tup ((hs.getD done.length []).map Dd.D)] S2 _
      rw [wLen_tup, List.length_map]
      exact fin _ S2 (H2.keep (H2.F.up (by omega)) .refl) (Nat.le_refl _)
    · rw [decide_eq_false hr, if_neg (by decide)]
      simp only [dCall_eq, dCons_eq, dNil_eq, dBin_eq, dCB_eq, dC_eq, List.append_nil]
      refine dV_at (by rfl) ?_
      refine dV_at (by rfl) ?_
      show wLen [.tup ((hs.getD done.length []).map Dd.D)] S2 _
      rw [wLen_tup, List.length_map, wAdd_int]
      refine ⟨f, _, m + 9 * done.length + 1 + 1, rfl, by omega, by omega, by omega, H2.F, fun n S3 n0 n1 F3 K3 => ?_⟩
      obtain ⟨n, rfl⟩ : ∃ n' : Nat, n = (n' : Int) := ⟨n.toNat, by omega⟩
      exact fin n S3 (H2.keep F3 K3) (by omega)
end
theorem vc__law_spans {ds S Q E} (h : sp__law_spans ds S Q E) : r__law_spans (bodyEnds Q) (startD N__law_spans ds) S := by
  have sz : 1001 < sizeLine := by rw [sizeLine_eq]; decide
  obtain ⟨f, hs, m, rfl, O, hm, F, k⟩ := h
  show r__law_spans _ [some (.ref f), some (handsD hs), none, none, none, none, none, none, none] S
  unfold r__law_spans
  simp only [dSeq_eq]
  unfold sp0
  simp only [dAsg_eq, dLst_eq, dNil_eq, gdName_eq]
  refine ⟨by show 0 ≤ sizeLine; omega, fun R hR => ?_⟩
  show sp1 _ [some (.ref f), some (handsD hs), some (.ref R), none, none, none, none, none, none] _
  refine sp1_of (S0 := S) ⟨put_same, F.nt hR, hR, F.new hR, Keeps.new hR⟩ O (by omega) fun sp y3 y4 y5 y6 y7 y8 S2 H2 J2 l2 => ?_
  unfold sp2
  simp only [dRet_eq, dCB_eq, dCons_eq, dNil_eq]
  refine dV_at (by rfl) ?_
  rw [wTuple_lst H2.eR]
  exact k sp _ J2 (H2.F.up (by omega)) H2.ks
def sceneD (rows : List Nd) (made : Int) (hs : List (List Dd)) (sp : List Spn) : D := .tup [treeD rows made, handsD hs, spansD sp]
def sp__law_scene : DSp := fun ds S Q E => ∃ f m, ds = [.ref f] ∧ m < 800000000 ∧ Feed S f m ∧ ∀ rows made hs sp S', TreeG rows made → HandsOk hs → SpOk hs sp → Feed S' f (m + 1000) → Keeps f S S' → Q (sceneD rows made hs sp) S'
theorem len__law_scene : ∀ ds S Q E, sp__law_scene ds S Q E → ds.length = (["_law_source_here"] : List Str).length := fun _ _ _ _ ⟨_, _, e, _⟩ => by rw [e]; rfl
def sc0 : DTS := dAsg (dBin wEq (dCall sp__law_pick [] (dCons (dV 0) (dCons (dC (.int 8)) dNil))) (dC (.int 0))) (gdName 1)
def sc1 : DTS := dAsg (dCall sp__law_tree [] (dCons (dV 0) (dCons (dIf (dTst (dV 1)) (dC (.int 13)) (dC (.int 6))) dNil))) (gdName 2)
def sc2 : DTS := dAsg (dCall sp__law_hands [] (dCons (dV 0) (dCons (dV 2) (dCons (dIf (dTst (dV 1)) (dC (.int 4)) (dC (.int 3))) (dCons (dIf (dTst (dV 1)) (dC (.int 10)) (dC (.int 4))) dNil))))) (gdName 3)
def sc3 : DTS := dRet (dTup (dCons (dV 2) (dCons (dV 3) (dCons (dCall sp__law_spans [] (dCons (dV 0) (dCons (dV 3) dNil))) dNil))))
def r__law_scene : DTS := dSeq sc0 (dSeq sc1 (dSeq sc2 sc3))
abbrev N__law_scene : List Str := ["_law_source_here", "_law_is_great", "_law_tree_here", "_law_hands_here"]
theorem vc__law_scene {ds S Q E} (h : sp__law_scene ds S Q E) : r__law_scene (bodyEnds Q) (startD N__law_scene ds) S := by
  have sz : 1001 < sizeLine := by rw [sizeLine_eq]; decide
  obtain ⟨f, m, rfl, hm, F, k⟩ := h
  show r__law_scene _ [some (.ref f), none, none, none] S
  unfold r__law_scene
  simp only [dSeq_eq]
  unfold sc0
  rw [dAsg_eq, dBin_eq]
  refine pk_of (by rfl) F (by omega) (by decide) (by decide) fun r S1 r0 r1 F1 K1 => ?_
  rw [dC_eq, wEq_int]
  generalize decide (r = 0) = b
  show sc1 _ [some (.ref f), some (.bl b), none, none] S1
  have num : ∀ (x y : Int) (S2 : Sto) (Q2 : KD) (x2 : Option D), Q2 (.int (if b = true then x else y)) S2 → dIf (dTst (dV 1)) (dC (.int x)) (dC (.int y)) [some (.ref f), some (.bl b), x2, none] S2 Q2 := fun x y S2 Q2 x2 q => by
    simp only [dIf_eq, dTst_eq]
    refine dV_at (by rfl) ?_
    rw [isB_bl]
    cases b <;> exact q
  unfold sc1
  simp only [dAsg_eq, dCall_eq, dCons_eq, dNil_eq, List.append_nil]
  refine dV_at (by rfl) ?_
  refine num 13 6 _ _ _ ?_
  refine ⟨f, _, m + 1, rfl, by split <;> decide, by split <;> decide, by omega, F1, fun rows made S2 G F2 K2 => ?_⟩
  show sc2 _ [some (.ref f), some (.bl b), some (treeD rows made), none] S2
  unfold sc2
  simp only [dAsg_eq, dCall_eq, dCons_eq, dNil_eq, List.append_nil]
  refine dV_at (by rfl) ?_
  refine dV_at (by rfl) ?_
  refine num 4 3 _ _ _ ?_
  refine num 10 4 _ _ _ ?_
  refine ⟨f, rows, made, _, _, m + 1 + 100, rfl, G, by split <;> decide, by split <;> decide, by split <;> decide, by split <;> decide, by omega, F2, fun hs S3 O F3 K3 => ?_⟩
  show sc3 _ [some (.ref f), some (.bl b), some (treeD rows made), some (handsD hs)] S3
  unfold sc3
  simp only [dRet_eq, dTup_eq, dCall_eq, dCons_eq, dNil_eq, List.append_nil]
  refine dV_at (by rfl) ?_
  refine dV_at (by rfl) ?_
  refine dV_at (by rfl) ?_
  refine dV_at (by rfl) ?_
  refine ⟨f, hs, m + 1 + 100 + 200, rfl, O, by omega, F3, fun sp S4 J F4 K4 => ?_⟩
  exact ⟨by show 3 ≤ sizeLine; omega, k rows made hs sp S4 G O J (F4.up (by omega)) (((K1.trans K2).trans K3).trans K4)⟩
end KB
namespace DL
open PySem PySem.Spec PyProof.Rows L2
theorem ev_base {X : Cx} {pins : List (Addr × Obj)} {σ : L2.St} {H : Hp} {s : Shared} (I : Inv X pins σ H s) : Ev X.H_0 H := fun a o e z => by
  cases o with
  | tup xs => exact I.base.tups a xs e
  | frz o u => exact I.base.frzs a o u e
  | _ => simp [stays] at z
abbrev TkD (X : Cx) (E : KX) : Prop := Takes X fun cls d _ H => UpX X.KW X.H_0 E cls d H
def dCallX (sp : DSp) (dds : List D) (E : KX) (t : DTA) : DTE := fun τ S Q => t τ S fun ds S1 => sp (ds ++ dds) S1 Q E
@[simp] theorem dCallX_eq {sp : DSp} {dds : List D} {E : KX} {ta : DTA} {τ : DSt} {S : Sto} {Q : KD} : dCallX sp dds E ta τ S Q = ta τ S fun ds S1 => sp (ds ++ dds) S1 Q E := rfl
section
variable {X : Cx} {x : Str} {k : Nat} {sp : DSp} {dds : List D} {p pos : Pos} {e : Expr} {es : List Expr} {tr : DTA} {E : KX}
theorem de_calX (C : CalD X.prog X.w X.K X.mg X.base k x sp dds) (hr : Room k X.A) (hgd : X.A.guards = some []) (hg : Gl X x) (tk : TkD X E) (ha : DAr X (e :: es) tr) (hdb : (x == ("__debug__" : Str)) = false := by decide)
    (he : starEach (e :: es) X.env = (false, eval e X.env) :: starEach es X.env := by rfl) (hpl : (backTo pos (starEach es X.env)).any (·.1) = false := by rfl) :
    DE X (.Call (.Name x p) (e :: es) [] pos) (dCallX sp dds E tr) := by
  obtain ⟨f, fd, ps, dfl, F, hm, hk, hb, hd⟩ := C.ex
  refine ⟨fun pins s σ H τ S Q I st hR q => wpAny_Call_Name_kw (ld_glob I hg hm ?_ hdb)⟩
  refine PySem.W.callWith_K (h₀ := X.base) I.ok.mod.kin hk (thn (ha.run pos pins s σ H τ S _ I st hR q) fun us s1 ⟨vs, H1, I1, r, ev, ds, S1, hR1, rd, q1⟩ => ⟨I1.kIn, ?_⟩) he hpl
  exact thn (runD F hr hgd hb hd I1 r rd hR1 q1 fun e s' c => tk e s' (XE.of_call I1 (fun cls d H' h => UpX.back (ev_base I1) h) c)) fun u s' ⟨v, H', I', r', z⟩ => ⟨v, H', I', r', z.back ev⟩
end
section
variable {P : Program} {w : World} {K : PySem.W.Frag} {mg : Str → Option Value} {base : Heap}
theorem CalD.ofX {x : Str} {st : Stmt} {f : Addr} {fd : FuncData} {N ps : List Str} {k : Nat} {sp : DSp} (F : Fun K x x st f fd) (S : FnScope N ps (defScope st)) (hm : mg x = some (.ref f)) (hb : Binds K fd ps []) (len : ∀ ds S Q E, sp ds S Q E → ds.length = ps.length)
    (hbody : ∀ (cdv : Value) (A : Around) (outer : List Env) (s : Shared) (H : Hp) (ds : List D) (So : Sto) (Q : KD) (E : KX), Room k (A.deeper (envOfC x (defScope st) s.heap.objs.size f cdv)) → (A.deeper (envOfC x (defScope st) s.heap.objs.size f cdv)).guards = some [] → sp ds So Q E →
      ∃ t, DSs (cxOf (CX P w) P w K mg base N x (defScope st) f cdv A outer s H (UpX ⟨K, P, w⟩ H E)) (defBody st) t ∧ t (bodyEnds Q) (startD N ds) So) : CalD P w K mg base (k + 1) x sp [] :=
  ⟨f, fd, ps, [], FnD.of F S len hbody, hm, F.kp, hb, .nil⟩
theorem tk_of {N : List Str} {qual : Str} {sc : Scope} {f : Addr} {cdv : Value} {A : Around} {outer : List Env} {s : Shared} {H : Hp} {E : KX} : TkD (cxOf (CX P w) P w K mg base N qual sc f cdv A outer s H (UpX ⟨K, P, w⟩ H E)) E := takes_of rfl rfl rfl rfl
theorem own_of {N : List Str} {qual : Str} {sc : Scope} {f : Addr} {cdv : Value} {A : Around} {outer : List Env} {s : Shared} {H : Hp} {E : KX} : PassesOwn (model P w) (cxOf (CX P w) P w K mg base N qual sc f cdv A outer s H (UpX ⟨K, P, w⟩ H E)).A (cxOf (CX P w) P w K mg base N qual sc f cdv A outer s H (UpX ⟨K, P, w⟩ H E)).env (cxOf (CX P w) P w K mg base N qual sc f cdv A outer s H (UpX ⟨K, P, w⟩ H E)).xe := passes_of rfl
end
structure BaseI (K : PySem.W.Frag) (cB : Addr) (mc : Value) : Prop where
  ga : PySem.W.specialIn K (.ref cB) "__getattribute__" = some (some (.builtin "type.__getattribute__"))
  ty : PySem.W.typeIn K (.ref cB) = some mc
  rd : PySem.W.readsIn K cB mc = true
  fi : PySem.W.findCls K (.ref cB) mc "__init__" = some (.val (.builtin "ValueError.__init__"))
theorem pe_clsinit {X : Cx} {e : Expr} {es : List Expr} {ta : TA} {B : Str} {cB : Addr} {mc : Value} {p1 p2 pos : Pos} {pl : Sem Bool} (hg : Gl X B) (hm : X.mg B = some (.ref cB)) (F : BaseI X.K cB mc) (ha : PA X (e :: es) ta)
    (hc : eval (.Call (.Attribute (.Name B p1) "__init__" p2) (e :: es) [] pos) X.env = (do
      let ov ← eval (.Name B p1) X.env
      standAt p2.atName
      let (f, first) ← holding [ov] (getMethod ov "__init__" pl)
      callWith pos f first (backTo pos (starEach (e :: es) X.env)) (backToKw pos (keywordEach [] X.env))) := by rfl)
    (hdb : (B == ("__debug__" : Str)) = false := by decide) (he : starEach (e :: es) X.env = (false, eval e X.env) :: starEach es X.env := by rfl) (hpl : (backTo pos (starEach es X.env)).any (·.1) = false := by rfl) :
    PE X (.Call (.Attribute (.Name B p1) "__init__" p2) (e :: es) [] pos) (tVeI X.K ta) := by
  refine ⟨fun pins s σ H Q I h => ?_⟩
  refine PySem.W.methodCall_KW (ld_glob I hg hm ?_ hdb) hc
  obtain ⟨m, fr⟩ := I.fr
  refine PySem.W.method_of_cls fr I.ok.mod.kin F.ga (PySem.W.cls_val fr I.ok.mod.kin F.ty F.rd F.fi (by decide +kernel) ?_)
  show wpAny _ _ (callWith pos (Value.builtin "ValueError.__init__") [] (backTo pos (starEach (e :: es) X.env)) []) _ _ _
  refine PyProof.Rows.callWith_method1 (thn (ha.run pos pins _ σ H _ (I.tok _) h) fun us s1 ⟨vs, H1, I1, r1, a, C, ws, ev, hl, T, ea, q⟩ => ?_) he hpl
  subst ev
  cases r1 with
  | @cons _ u0 _ ur ra rw' =>
    obtain rfl : u0 = Value.ref a := ra
    have hlen : ur.length ≤ sizeLine := by
      rw [← Paired.length rw', sizeLine_eq]
      omega
    exact oinit_ok T I1 ea hlen fun s' J => ⟨.non, H1, J, rfl, q⟩
end DL
namespace DL
open PySem PySem.Spec PyProof.Rows L2
def clsB : Stmt → List Stmt
  | .ClassDef (body := b) .. => b
  | _ => []
def methS (st : Stmt) (i : Nat) : Stmt := (clsB st).getD i (.Pass ⟨0, 0, 0, 0⟩)
def spInit (K : PySem.W.Frag) (names : List Str) : Sp := fun vs H Q _ => ∃ (a C : Addr) (ws : List V), vs = .ref a :: ws ∧ ws.length = names.length ∧ OexC K C ∧ H a = some (exo a C none) ∧ (∀ n ∈ names, PySem.W.findIn K (.ref C) n = some none) ∧
  ∀ d, H d = none → d ≠ a → Q .non (upd (upd H a (exo a C (some d))) d (exd d (names.zip ws).reverse))
theorem len_init {K : PySem.W.Frag} {names ps : List Str} (h : ps.length = names.length + 1) : ∀ vs H Q E, spInit K names vs H Q E → vs.length = ps.length := fun _ _ _ _ ⟨a, _, ws, e, l, _⟩ => by rw [e, h, List.length_cons, l]
theorem upd_swap {H : Hp} {a b : Addr} {o u : HO} (h : a ≠ b) : upd (upd H a o) b u = upd (upd H b u) a o := by
  funext x
  unfold upd
  by_cases h1 : x = b
  · subst h1; rw [if_pos rfl, if_neg (fun z => h z.symm), if_pos rfl]
  · rw [if_neg h1]
    by_cases h2 : x = a
    · rw [if_pos h2, if_pos h2]
    · rw [if_neg h2, if_neg h2, if_neg h1]
theorem init1_reads {K : PySem.W.Frag} {n1 : Str} {v1 m : V} {H : Hp} {Q : VK} {a C : Addr} {σ : L2.St} (h0 : σ[0]? = some (some (.ref a))) (h1 : σ[1]? = some (some v1)) (T : OexC K C) (ea : H a = some (exo a C none)) (hn : ∀ n ∈ [n1], PySem.W.findIn K (.ref C) n = some none)
    (q : ∀ d, H d = none → d ≠ a → Q .non (upd (upd H a (exo a C (some d))) d (exd d ([n1].zip [v1]).reverse))) :
    tSeq (tDrop (tVeI K (tCons (tVar 0) (tCons (tC m) tNil)))) (tOst K n1 (tVar 0) (tVar 1)) { nx := fun _ H' => Q .non H', rt := Q } σ H := by
  refine ⟨.ref a, h0, a, C, [m], rfl, by show 1 ≤ 1000; decide, T, ea, ?_⟩
  refine ⟨v1, h1, .ref a, h0, a, C, rfl, T, hn n1 (by simp), .inl ⟨ea, fun dx nd ne => ?_⟩⟩
  have := q dx nd ne
  rw [upd_swap (Ne.symm ne)] at this
  exact this
def dRaise (C : Addr) (names : List Str) (E : KX) (ta : DTA) : DTS := fun _ τ S => ta τ S fun ds S1 => ds.length = names.length ∧ E (.ref C) (names.zip ds).reverse S1
@[simp] theorem dRaise_eq {C : Addr} {names : List Str} {E : KX} {ta : DTA} {Dn : DEnds} {τ : DSt} {S : Sto} : dRaise C names E ta Dn τ S = ta τ S fun ds S1 => ds.length = names.length ∧ E (.ref C) (names.zip ds).reverse S1 := rfl
structure ExcK (P : Program) (w : World) (K : PySem.W.Frag) (mg : Str → Option Value) (base : Heap) (x : Str) (C : Addr) (names : List Str) : Prop where
  T : OexC K C
  ini : ∃ (fI : Addr) (fd : FuncData) (ps : List Str), PySem.W.findIn K (.ref C) "__init__" = some (some (.ref fI)) ∧ PySem.W.typeIn K (.ref fI) = some (.type "function") ∧ FnOk P w K mg base CX0 1 fI fd ps (spInit K names) ∧ Binds K fd ps []
  mC : mg x = some (.ref C)
  no : ∀ n ∈ names, PySem.W.findIn K (.ref C) n = some none
theorem RelFs.zip {K : KW} {H : Hp} : ∀ {ns : List Str} {vs : List V} {ds : List D}, RelDs K H vs ds → RelFs K H (ns.zip vs) (ns.zip ds)
  | [], _, _, _ => .nil
  | _ :: _, _, _, .nil => .nil
  | _ :: _, _, _, .cons r t => .cons r (RelFs.zip t)
theorem RelFs.append {K : KW} {H : Hp} : ∀ {vs ds vs' ds'}, RelFs K H vs ds → RelFs K H vs' ds' → RelFs K H (vs ++ vs') (ds ++ ds')
  | _, _, _, _, .nil, q => q
  | _, _, _, _, .cons r t, q => .cons r (RelFs.append t q)
theorem RelFs.rev {K : KW} {H : Hp} : ∀ {vs ds}, RelFs K H vs ds → RelFs K H vs.reverse ds.reverse
  | _, _, .nil => .nil
  | _, _, .cons r t => by
    rw [List.reverse_cons, List.reverse_cons]
    exact (RelFs.rev t).append (.cons r .nil)
section
variable {X : Cx} {x : Str} {p pos pos' : Pos} {e : Expr} {es : List Expr} {tr : DTA} {E : KX} {C : Addr} {names : List Str}
theorem ds_raise (T : ExcK X.prog X.w X.K X.mg X.base x C names) (hl : names.length ≤ 9) (hc : X.calm = true) (hr : Room 2 X.A) (hg : Gl X x) (tk : TkD X E) (ha : DAr X (e :: es) tr) (hdb : (x == ("__debug__" : Str)) = false := by decide)
    (he : starEach (e :: es) X.env = (false, eval e X.env) :: starEach es X.env := by rfl) (hpl : (backTo pos (starEach es X.env)).any (·.1) = false := by rfl) :
    DSm X (.Raise (some (.Call (.Name x p) (e :: es) [] pos)) none pos') (dRaise C names E tr) := by
  obtain ⟨fI, fd, ps, h1, h2, F, hb⟩ := T.ini
  have P := pmk_oex (ds := []) (dvs := []) (pos := pos) (p := p) T.T h1 h2 F hr hb .nil (fun _ _ _ _ _ _ _ z => z.elim) hg T.mC ha.lo hdb he hpl
  refine ⟨fun pins s σ H τ S Dn I st hR q => (ps_raise (pos := pos') hc tk P).run pins s σ H _ I ?_⟩
  refine ⟨τ, S, _, st, hR, q, fun vs H1 ⟨ev, ds, S1, hR1, rd, ql, qE⟩ => ?_⟩
  have l1 := rd.length
  refine ⟨by omega, fun a na => ⟨a, C, vs, by rw [List.append_nil], by omega, T.T, upd_same, T.no, fun d nd ne => ?_⟩⟩
  have nd1 : H1 d = none := by rwa [upd_ne ne] at nd
  refine ⟨rfl, d, (names.zip vs).reverse, ?_, upd_same, nd1, ?_⟩
  · rw [upd_ne (Ne.symm ne), upd_same]
  · have eH : upd (L2.del (upd (upd (upd H1 a (exo a C none)) a (exo a C (some d))) d (exd d (names.zip vs).reverse)) a) d (.xd (names.zip vs).reverse) = upd H1 d (.xd (names.zip vs).reverse) := by
      funext b
      by_cases hb : b = d
      · rw [hb, upd_same, upd_same]
      · rw [upd_ne hb, upd_ne hb]
        by_cases hba : b = a
        · rw [hba, L2.del_same, na]
        · rw [L2.del_ne hba, upd_ne hb, upd_ne hba, upd_ne hba]
    rw [eH]
    have ev1 : Ev H1 (upd H1 d (.xd (names.zip vs).reverse)) := .new nd1
    exact ⟨((ev_base I).trans ev).trans ev1, _, S1, hR1.new nd1, .inr ⟨d, _, rfl, upd_same, ((RelFs.zip rd).rev).ev ev1⟩, qE⟩
end
end DL
namespace DL
open PySem PySem.Spec PyProof.Rows L2
def UfS (K : KW) (Q : DSt → Sto → Prop) : L2.St → Hp → Prop := fun σ H' => ∃ τ S', HR K H' S' ∧ StR K H' σ τ ∧ Q τ S'
def UfV (K : KW) (Q : KD) : VK := fun v H' => ∃ d S', HR K H' S' ∧ RelD K H' v d ∧ Q d S'
def UfE (K : KW) (Dn : DEnds) : Ends := ⟨UfS K Dn.nx, UfV K Dn.rt, UfS K Dn.bk, UfS K Dn.ct⟩
structure DSf (X : Cx) (st : List Stmt) (t : DTS) : Prop where
  run : ∀ (pins : List (Addr × Obj)) (s : Shared) (σ : L2.St) (H : Hp) (τ : DSt) (S : Sto) (Dn : DEnds), Inv X pins σ H s → StR X.KW H σ τ → HR X.KW H S → t Dn τ S →
    wpAny (model X.prog X.w) X.A (execs st X.env) (SP X pins (UfE X.KW Dn)) X.xe s
theorem SP.forget {X : Cx} {pins : List (Addr × Obj)} {H : Hp} {Dn : DEnds} {f : Flow} {s : Shared} (h : SP X pins (UpE X.KW H Dn) f s) : SP X pins (UfE X.KW Dn) f s :=
  SP.imp h (fun _ _ z => z.2) (fun _ _ z => z.2) (fun _ _ z => z.2) fun _ _ z => z.2
theorem DSs.f {X : Cx} {st : List Stmt} {t : DTS} (h : DSs X st t) : DSf X st t := ⟨fun pins s σ H τ S Dn I sr hr q => wpAny_mono (h.run pins s σ H τ S Dn I sr hr q) (fun _ _ z => SP.forget z) fun _ _ z => z⟩
def lfS (K : KW) (t : DTS) : TS := fun D σ H => ∃ τ S Dn, StR K H σ τ ∧ HR K H S ∧ t Dn τ S ∧ (∀ σ' H', UfS K Dn.nx σ' H' → D.nx σ' H') ∧ (∀ v H', UfV K Dn.rt v H' → D.rt v H') ∧
  (∀ σ' H', UfS K Dn.bk σ' H' → D.bk σ' H') ∧ ∀ σ' H', UfS K Dn.ct σ' H' → D.ct σ' H'
theorem DSf.lo {X : Cx} {st : List Stmt} {t : DTS} (h : DSf X st t) : PSs X st (lfS X.KW t) :=
  ⟨fun pins s σ H D I ⟨τ, S, Dn, sr, hr, q, k1, k2, k3, k4⟩ => wpAny_mono (h.run pins s σ H τ S Dn I sr hr q) (fun _ _ z => SP.imp z k1 k2 k3 k4) fun _ _ z => z⟩
theorem DSf.up {X : Cx} {st : List Stmt} {t : DTS} {u : TS} (h : PSs X st u) (c : ∀ (σ : L2.St) (H : Hp) (τ : DSt) (S : Sto) (Dn : DEnds), StR X.KW H σ τ → HR X.KW H S → t Dn τ S → u (UfE X.KW Dn) σ H) : DSf X st t :=
  ⟨fun pins s σ H τ S Dn I st hr q => h.run pins s σ H _ I (c σ H τ S Dn st hr q)⟩
structure DSg (X : Cx) (st : Stmt) (t : DTS) : Prop where
  run : ∀ (pins : List (Addr × Obj)) (s : Shared) (σ : L2.St) (H : Hp) (τ : DSt) (S : Sto) (Dn : DEnds), Inv X pins σ H s → StR X.KW H σ τ → HR X.KW H S → t Dn τ S →
    wpAny (model X.prog X.w) X.A (exec st X.env) (SP X pins (UfE X.KW Dn)) X.xe s
theorem DSm.g {X : Cx} {st : Stmt} {t : DTS} (h : DSm X st t) : DSg X st t := ⟨fun pins s σ H τ S Dn I sr hr q => wpAny_mono (h.run pins s σ H τ S Dn I sr hr q) (fun _ _ z => SP.forget z) fun _ _ z => z⟩
theorem DSg.lo {X : Cx} {st : Stmt} {t : DTS} (h : DSg X st t) : PS X st (lfS X.KW t) :=
  ⟨fun pins s σ H D I ⟨τ, S, Dn, sr, hr, q, k1, k2, k3, k4⟩ => wpAny_mono (h.run pins s σ H τ S Dn I sr hr q) (fun _ _ z => SP.imp z k1 k2 k3 k4) fun _ _ z => z⟩
theorem DSg.up {X : Cx} {st : Stmt} {t : DTS} {u : TS} (h : PS X st u) (c : ∀ (σ : L2.St) (H : Hp) (τ : DSt) (S : Sto) (Dn : DEnds), StR X.KW H σ τ → HR X.KW H S → t Dn τ S → u (UfE X.KW Dn) σ H) : DSg X st t :=
  ⟨fun pins s σ H τ S Dn I st hr q => h.run pins s σ H _ I (c σ H τ S Dn st hr q)⟩
theorem dsf_cons {X : Cx} {s : Stmt} {r : List Stmt} {t u : DTS} (h1 : DSg X s t) (h2 : DSf X r u) : DSf X (s :: r) (dSeq t u) :=
  .up (pss_cons h1.lo h2.lo) fun σ H τ S Dn sr hr q => ⟨τ, S, _, sr, hr, q, fun σ' H' ⟨τ', S', hr', sr', q'⟩ => ⟨τ', S', Dn, sr', hr', q', fun _ _ z => z, fun _ _ z => z, fun _ _ z => z, fun _ _ z => z⟩, fun _ _ z => z, fun _ _ z => z, fun _ _ z => z⟩
def dTry1 (C : Addr) (n i : Nat) (tb : KX → DTS) (ts : Addr → Addr → DTS) : DTS := fun Dn τ S => tb (fun cls fs S1 => cls = .ref C ∧ fs ≠ [] ∧ ∀ (τ1 : DSt) (a dd : Addr), τ1.length = n → S1 a = none → (S1 dd = none ∨ ∃ g, S1 dd = some (.exc g)) →
  ts a dd { nx := fun τ' S' => Dn.nx (τ'.set i none) S', rt := Dn.rt, bk := fun τ' S' => Dn.bk (τ'.set i none) S', ct := fun τ' S' => Dn.ct (τ'.set i none) S' } (τ1.set i (some (.ref a))) (put S1 dd (.exc fs))) Dn τ S
theorem len_nones {K : KW} {H : Hp} (σ : L2.St) : StR K H σ (List.replicate σ.length none) := by
  induction σ with
  | nil => exact .nil
  | cons v r ih =>
    rw [List.length_cons, List.replicate_succ]
    exact .cons (by cases v <;> exact True.intro) ih
theorem HR.exc {K : KW} {H : Hp} {S : Sto} {dd : Addr} {vs : List (Str × V)} {fs : List (Str × D)} (h : HR K H S) (e : H dd = some (.xd vs)) (r : RelFs K H vs fs) : HR K H (put S dd (.exc fs)) := fun a o q => by
  by_cases z : a = dd
  · subst z; rw [put_same] at q; cases q; exact ⟨vs, e, r⟩
  · rw [put_ne z] at q; exact h a o q
theorem at_xd {K : KW} {H : Hp} {S : Sto} {dd : Addr} {vs : List (Str × V)} (h : HR K H S) (e : H dd = some (.xd vs)) : S dd = none ∨ ∃ g, S dd = some (.exc g) := by
  cases q : S dd with
  | none => exact .inl rfl
  | some o =>
    have := h dd o q
    cases o with
    | exc g => exact .inr ⟨g, rfl⟩
    | lst ds => obtain ⟨_, z, _⟩ := this; rw [e] at z; cases z
    | dct kvs => rcases this with ⟨_, z, _⟩ | ⟨_, z, _⟩ <;> exact absurd (e.symm.trans z) (by simp [TDn])
    | fdc o kvs => rcases this with ⟨_, z, _⟩ | ⟨_, z, _⟩ <;> (rw [e] at z; cases z)
    | set ds => obtain ⟨_, _, _, z⟩ := this; exact absurd (e.symm.trans z) (by simp [SetO])
    | tab ps => exact absurd (e.symm.trans this) (by simp)
    | cod q => exact absurd (e.symm.trans this) (by simp [LamX.CodeO])
end DL
namespace DL
open PySem PySem.Spec PyProof.Rows L2
structure ExcIs (K : PySem.W.Frag) (C : Addr) : Prop where
  cl : (PySem.W.clsIn K C).isSome = true
  ga : PySem.W.findIn K (.ref C) "__getattribute__" = some (some (.builtin "BaseException.__getattribute__"))
  gt : PySem.W.findIn K (.ref C) "__getattr__" = some none
  sb : PySem.W.subIn K (.ref C) (.type "BaseException") = some true
  ca : PySem.W.findIn K (.ref C) "__class__" = some (some (.builtin "object.__class__"))
  sn : PySem.W.specialIn K (.builtin "object.__class__") "__get__" = some (some (.builtin "getset_descriptor.__get__"))
  tk : PySem.W.takesIn K (.builtin "object.__class__") = some true
  mo : PySem.W.mroIn K C (.type "object") = some true
def KindsOk (K : PySem.W.Frag) (C : Addr) (ks : List (Addr × Bool)) : Prop := ∀ p ∈ ks, PySem.W.kitOne K (.ref C) (.ref p.1) = some p.2
def wIsE (a dd : Addr) (ks : List (Addr × Bool)) : List D → Sto → KD → Prop := fun xs S Q => match xs with
  | [.ref a', .ref c] => a' = a ∧ (∃ g, S dd = some (.exc g)) ∧ ∃ b, (c, b) ∈ ks ∧ Q (.bl b) S
  | [.ref a', .tup ds] => a' = a ∧ (∃ g, S dd = some (.exc g)) ∧ (∀ d ∈ ds, ∃ c, d = .ref c ∧ (c, false) ∈ ks) ∧ Q (.bl false) S
  | _ => False
section
variable {X : Cx} {a C dd : Addr} {oe : Obj} {pn : List (Addr × Obj)} {ks : List (Addr × Bool)}
def dXf (a dd : Addr) (n : Str) (te : DTE) : DTE := fun τ S Q => te τ S fun x S1 => x = .ref a ∧ ∃ fs v, S1 dd = some (.exc fs) ∧ fs.lookup n = some v ∧ Q v S1
@[simp] theorem dXf_eq {n : Str} {te : DTE} {τ : DSt} {S : Sto} {Q : KD} : dXf a dd n te τ S Q = te τ S fun x S1 => x = .ref a ∧ ∃ fs v, S1 dd = some (.exc fs) ∧ fs.lookup n = some v ∧ Q v S1 := rfl
end
end DL
namespace DL
open PySem PySem.Spec PyProof.Rows L2
section
variable {P : Program} {w : World} {K : PySem.W.Frag} {mg : Str → Option Value} {base : Heap} {k : Nat} {f : Addr} {fd : FuncData} {ps : List Str} {sp : DSp}
theorem FnD.ofF {x qual : Str} {st : Stmt} {N : List Str} (F : Fun K x qual st f fd) (S : FnScope N ps (defScope st)) (len : ∀ ds S Q E, sp ds S Q E → ds.length = ps.length)
    (hbody : ∀ (cdv : Value) (A : Around) (outer : List Env) (s : Shared) (H : Hp) (ds : List D) (So : Sto) (Q : KD) (E : KX), Room k (A.deeper (envOfC qual (defScope st) s.heap.objs.size f cdv)) → (A.deeper (envOfC qual (defScope st) s.heap.objs.size f cdv)).guards = some [] → sp ds So Q E →
      ∃ t, DSf (cxOf (CX P w) P w K mg base N qual (defScope st) f cdv A outer s H (UpX ⟨K, P, w⟩ H E)) (defBody st) t ∧ t (bodyEnds Q) (startD N ds) So) : FnD P w K mg base (k + 1) f fd ps sp := by
  obtain ⟨oc, od, kV, doc, pm, an, cdv, ct, osl, rfl, lk, hcd⟩ := F.ex
  refine ⟨len, fun A outer s H args us vs ds So Q E hr hgd e0 hb rv rd hR hsp => ?_⟩
  have hl : vs.length = ps.length := by rw [rd.length]; exact len _ _ _ _ hsp
  have stays : ∀ b o, base.get? b = some o → s.heap.get? b = some o := fun b o e => (e0.bs b o e).1
  have inK : K.In s.heap := e0.mod.kin.keeps stays
  have lim : s.heap.NoLimit := e0.mod.nolimit.keeps stays
  have params : ∀ y ∈ ps.zip us, (defScope st).names.lookup y.1 = some .local ∨ ((defScope st).names.lookup y.1 = some .cell ∧ ((cellsFrom (s.heap.objs.size + 1) (defScope st).names []).lookup y.1).isSome = true) := by
    rintro ⟨n, v⟩ hy
    rcases S.par n (List.of_mem_zip hy).1 with q | q
    · exact .inl q
    · exact .inr ⟨q, PySem.W.cellsFrom_some _ _ _ (.inl q)⟩
  refine codeAny_call_function hr.depth (inK _ _ lk) rfl S.co S.gen rfl (PySem.W.codeRec_of inK hcd) (hb _ _ _ _ (wpAny_newFunctionEnv_cells S.kind params fun env he s1 entered => ?_))
  subst he
  refine ⟨lim.keeps entered.toInCall.keep, codeAny_func ?_⟩
  obtain ⟨t, ht, hq⟩ := hbody cdv A outer s H ds So Q E (hr.deeper _) (by
    first
      | exact hgd
      | simpa [Around.deeper, Code.guards, pushGuards, Code.isGuard] using hgd) hsp
  have I := inv_start (CX := CX P w) (N := N) (mg := mg) (E := UpX ⟨K, P, w⟩ H E) S hr.hd e0 hl rv entered
  refine wpAny_mono (ht.run [] s1 (L2.start N vs) H _ So _ I (startD.rel rd) hR hq) (fun fl s' z => ?_) fun _ _ z => z
  have fin : ∀ {σ' H' v u}, Inv (cxOf (CX P w) P w K mg base N qual (defScope st) f cdv A outer s H (UpX ⟨K, P, w⟩ H E)) [] σ' H' s' → RelV v u → UfV ⟨K, P, w⟩ Q v H' → CE outer P w H s (Up ⟨K, P, w⟩ H Q) u s' :=
    fun J r q => ⟨_, _, J.os, J.bare, J.base, J.hok, r, ev_base J, q⟩
  cases fl with
  | ret u => obtain ⟨v, σ', H', J, r, q⟩ := z; exact fin J r q
  | next =>
    obtain ⟨σ', H', J, τ', S', h1, h2, h3⟩ := z
    exact fin J (v := .non) (u := .none) rfl ⟨.non, S', h1, .non, h3⟩
  | brk => obtain ⟨σ', H', J, τ', S', h1, h2, h3⟩ := z; exact h3.elim
  | cont => obtain ⟨σ', H', J, τ', S', h1, h2, h3⟩ := z; exact h3.elim
theorem CalD.ofF {x : Str} {st : Stmt} {N : List Str} (F : Fun K x x st f fd) (S : FnScope N ps (defScope st)) (hm : mg x = some (.ref f)) (hb : Binds K fd ps []) (len : ∀ ds S Q E, sp ds S Q E → ds.length = ps.length)
    (hbody : ∀ (cdv : Value) (A : Around) (outer : List Env) (s : Shared) (H : Hp) (ds : List D) (So : Sto) (Q : KD) (E : KX), Room k (A.deeper (envOfC x (defScope st) s.heap.objs.size f cdv)) → (A.deeper (envOfC x (defScope st) s.heap.objs.size f cdv)).guards = some [] → sp ds So Q E →
      ∃ t, DSf (cxOf (CX P w) P w K mg base N x (defScope st) f cdv A outer s H (UpX ⟨K, P, w⟩ H E)) (defBody st) t ∧ t (bodyEnds Q) (startD N ds) So) : CalD P w K mg base (k + 1) x sp [] :=
  ⟨f, fd, ps, [], FnD.ofF F S len hbody, hm, F.kp, hb, .nil⟩
end
end DL
namespace DL
open PySem PySem.Spec PyProof.Rows L2
def dTry0 (C : Addr) (n : Nat) (tb : KX → DTS) (ts : DTS) : DTS := fun Dn τ S => tb (fun cls fs S1 => cls = .ref C ∧ fs ≠ [] ∧ ∀ (τ1 : DSt) (dd : Addr), τ1.length = n → (S1 dd = none ∨ ∃ g, S1 dd = some (.exc g)) →
  ts Dn τ1 (put S1 dd (.exc fs))) Dn τ S
section
variable {X : Cx} {x : Str} {c : Value} {C : Addr} {body suite : List Stmt} {b₀ : Stmt} {np pos pos' : Pos} {tb : KX → DTS} {ts : DTS}
theorem ds_try0 (hs : X.stack = X.env :: X.outer) (hf : X.env.frame = some X.env.locals) (hc : Names X x c) (hex : PySem.W.exmOne X.K (.ref C) c = some true)
    (hb : ∀ (E : KX) (pn : List (Addr × Obj)) (xe : Value → Shared → Prop), TkD (X.tr pn xe) E → PassesOwn (model X.prog X.w) X.A X.env xe → DSf (X.tr pn xe) body (tb E))
    (hsu : ∀ (a : Addr) (oe : Obj) (pn : List (Addr × Obj)), DSf (X.suite a ((a, oe) :: pn)) (b₀ :: suite) ts) :
    DSg X (.Try body [.ExceptHandler (some (.Name x np)) none (b₀ :: suite) pos'] [] [] pos) (dTry0 C X.N.length tb ts) := by
  have P := ps_try_only (X := X) (np := np) (pos := pos) (pos' := pos') (body := body) (suite := suite) (b₀ := b₀) (c := c)
    (tb := fun W D σ H => ∃ E : KX, (∀ cls d σ' H', σ'.length = X.N.length → UpX X.KW X.H_0 E cls d H' → W cls d σ' H') ∧ lfS X.KW (tb E) D σ H)
    (ts := fun _ cls _ D σ H => cls = .ref C ∧ lfS X.KW ts D σ H) (Wout := fun _ _ _ _ => False) hs hf hc LamX.takes0
    (fun W pn xe tk po => ⟨fun pins s σ H D I ⟨E, hW, q⟩ => by
      have tkE : TkD (X.tr pn xe) E := fun u s' ⟨a, B, sI, pins', σ', H', cls, d, e, I', nb, up, sky, na, os, ag, w⟩ => tk u s' ⟨a, B, sI, pins', σ', H', cls, d, e, I', nb, up, sky, na, os, ag, hW _ _ _ _ I'.len w⟩
      exact (hb E pn xe tkE po).lo.run pins s σ H D I q⟩)
    (fun a oe cls d pn hz hfl => ⟨fun pins s σ H D I ⟨ec, q⟩ => (hsu a oe pn).lo.run pins s σ H D I q⟩)
  refine .up P fun σ H τ S Dn sr hr q => ⟨_, fun cls d σ' H' hl u => ?_, τ, S, Dn, sr, hr, q, fun _ _ z => z, fun _ _ z => z, fun _ _ z => z, fun _ _ z => z⟩
  obtain ⟨_, fs, S1, hr1, hd, ec, hfs, k⟩ := u
  subst ec
  rcases hd with ⟨_, e⟩ | ⟨dd, vs, ed, exd, rf⟩
  · exact absurd e hfs
  · refine ⟨true, hex, fun _ a na => ⟨rfl, ?_⟩, fun z => Bool.noConfusion z⟩
    have sr1 : StR X.KW H' σ' (List.replicate X.N.length none) := hl ▸ len_nones σ'
    exact ⟨_, _, _, sr1, hr1.exc exd rf, k _ dd (by rw [List.length_replicate]) (at_xd hr1 exd), fun _ _ z => z, fun _ _ z => z, fun _ _ z => z, fun _ _ z => z⟩
end
end DL
namespace DL
open PySem PySem.Spec PyProof.Rows L2
section
variable {X : Cx} {d : Addr} {tbl : List (Str × Addr)}
structure HeldD (P : Program) (w : World) (K : PySem.W.Frag) (mg : Str → Option Value) (base : Heap) (k : Nat) (f : Addr) (sp : DSp) : Prop where
  ex : ∃ (fd : FuncData) (ps : List Str) (n : Str), FnD P w K mg base k f fd ps sp ∧ PySem.W.keepIn K (.ref f) = true ∧ Binds K fd ps []
theorem HeldD.mono {P : Program} {w : World} {K : PySem.W.Frag} {mg : Str → Option Value} {base : Heap} {j k : Nat} {sp : DSp} {f : Addr} (h : HeldD P w K mg base j f sp) (hl : j ≤ k) : HeldD P w K mg base k f sp := by
  obtain ⟨fd, ps, n, F, hk, hb⟩ := h.ex
  exact ⟨fd, ps, n, F.mono hl, hk, hb⟩
end
end DL
namespace KD
open PySem PySem.Spec PyProof.Rows L2 DL KB
def rowO (rows : List Nd) (n : Int) : Option Nd := rows.find? fun r => decide (r.1 = n)
def kindO (rows : List Nd) (n : Int) : Str := match rowO rows n with | some r => r.2.1 | none => ""
theorem entO_eq {rows : List Nd} {n : Int} {r : Nd} (h : rowO rows n = some r) : entO rows n = r.2.2 := by
  unfold entO
  unfold rowO at h
  rw [h]
end KD
namespace KD
open PySem PySem.Spec PyProof.Rows L2 DL KB
inductive Reach (rows : List Nd) : Int → Prop
  | top : Reach rows 0
  | step {r : Nd} {e : Str × Int} : r ∈ rows → e ∈ r.2.2 → Reach rows r.1 → Reach rows e.2
def tgs (rows : List Nd) : List Int := rows.flatMap fun r => r.2.2.map (·.2)
def ltr (x : Str) : Bool := (x.cps.toList.all fun c => decide (97 ≤ c) && decide (c ≤ 122)) && decide (x.length ≤ 8)
structure TreeV (rows : List Nd) (made : Int) : Prop where
  asc : (rows.map (·.1)).Pairwise (· < ·)
  top : ∃ es r, rows = ((0 : Int), ("drawer" : Str), es) :: r
  lt : ∀ r ∈ rows, r.1 < made
  kd : ∀ r ∈ rows, isK r.2.1
  sh : ∀ r ∈ rows, r.2.1 = ("sheet" : Str) → r.2.2 = []
  nd : ∀ r ∈ rows, (r.2.2.map (·.1)).Nodup
  few : ∀ r ∈ rows, r.2.2.length ≤ 12
  nm : ∀ r ∈ rows, ∀ e ∈ r.2.2, ltr e.1 = true
  tg : ∀ r ∈ rows, ∀ e ∈ r.2.2, e.2 ∈ rows.map (·.1) ∧ 0 < e.2
  hd : ∀ r ∈ rows, r.1 ≠ 0 → r.1 ∈ tgs rows
  one : ∀ r ∈ rows, r.2.1 = ("drawer" : Str) → (tgs rows).count r.1 ≤ 1
  up : ∀ r ∈ rows, r.2.1 = ("drawer" : Str) → Reach rows r.1
theorem drawer_ne_sheet : ("drawer" : Str) ≠ ("sheet" : Str) := by decide
theorem TreeV.nodup {rows : List Nd} {made : Int} (V : TreeV rows made) : (rows.map (·.1)).Nodup := V.asc.imp fun h e => by omega
theorem rowO_mem {rows : List Nd} {n : Int} {r : Nd} (h : rowO rows n = some r) : r ∈ rows ∧ r.1 = n := ⟨List.mem_of_find?_eq_some h, of_decide_eq_true (List.find?_some (p := fun r : Nd => decide (r.1 = n)) h)⟩
theorem TreeV.row {rows : List Nd} {made : Int} (V : TreeV rows made) {r : Nd} (h : r ∈ rows) : rowO rows r.1 = some r := find_of_mem (f := fun r : Nd => r.1) V.nodup h
theorem TreeV.at_ {rows : List Nd} {made : Int} (V : TreeV rows made) {n : Int} (h : n ∈ rows.map (·.1)) : ∃ r, rowO rows n = some r ∧ r ∈ rows ∧ r.1 = n := by
  obtain ⟨r, hr, rfl⟩ := List.mem_map.mp h
  exact ⟨r, V.row hr, hr, rfl⟩
theorem TreeV.zero {rows : List Nd} {made : Int} (V : TreeV rows made) : (0 : Int) ∈ rows.map (·.1) := by
  obtain ⟨es, r, rfl⟩ := V.top
  exact List.mem_cons_self ..
theorem names_few {NS : List Str} {es : List (Str × Int)} (nd : (es.map (·.1)).Nodup) (h : ∀ e ∈ es, e.1 ∈ NS) : es.length ≤ NS.length := by
  have n2 : ∀ x ∈ es.map (·.1), x ∈ NS := fun x hx => by
    obtain ⟨e, he, rfl⟩ := List.mem_map.mp hx
    exact h e he
  have := nd.length_le_of_subset n2
  rw [List.length_map] at this
  exact this
def lk (x : Str) (es : List (Str × Int)) : Option Int := (es.find? fun e => decide (e.1 = x)).map (·.2)
theorem lk_mem {x : Str} {es : List (Str × Int)} {n : Int} (h : lk x es = some n) : (x, n) ∈ es := by
  unfold lk at h
  cases e : es.find? fun e => decide (e.1 = x) with
  | none => rw [e] at h; cases h
  | some p =>
    rw [e] at h
    cases h
    have h1 := List.mem_of_find?_eq_some e
    have h2 := of_decide_eq_true (List.find?_some (p := fun e : Str × Int => decide (e.1 = x)) e)
    rw [← h2]
    exact h1
end KD
namespace KD
open PySem PySem.Spec PyProof.Rows L2 DL KB
inductive Ms where
  | ok
  | sh (k : Nat)
  | no (k : Nat)
deriving DecidableEq
def Ms.D : Ms → D
  | .ok => .non
  | .sh k => .tup [.str "sheet", .int k]
  | .no k => .tup [.str "none", .int k]
def thr (rows : List Nd) : List Int → Int → Nat → List Str → (List Int × Int) × Ms
  | p, h, _, [] => ((p, h), .ok)
  | p, h, k, x :: r => if kindO rows h = "sheet" then ((p, h), .sh k) else match lk x (entO rows h) with
    | none => ((p, h), .no k)
    | some n => thr rows (p ++ [h]) n (k + 1) r
theorem thr_in {rows : List Nd} {made : Int} (V : TreeV rows made) : ∀ (w : List Str) {p : List Int} {h : Int} {k : Nat}, h ∈ rows.map (·.1) → (thr rows p h k w).1.2 ∈ rows.map (·.1)
  | [], _, _, _, hh => hh
  | x :: r, p, h, k, hh => by
    rw [thr]
    split
    · exact hh
    · split
      · exact hh
      · rename_i n e
        obtain ⟨q, hq, hm, _⟩ := V.at_ hh
        rw [entO_eq hq] at e
        exact thr_in V r (V.tg q hm _ (lk_mem e)).1
def thru (rows : List Nd) (w : List Str) : (List Int × Int) × Ms := thr rows [] 0 0 w
end KD
namespace KD
open PySem PySem.Spec PyProof.Rows L2 DL KB
def lastN (w : List Str) : Str := w.getLast?.getD ""
def drw (rows : List Nd) (w : List Str) : Int × Ms := ((thru rows w.dropLast).1.2, if (thru rows w.dropLast).2 = .ok ∧ kindO rows (thru rows w.dropLast).1.2 = "sheet" then .sh (w.length - 1) else (thru rows w.dropLast).2)
theorem drw_in {rows : List Nd} {made : Int} (V : TreeV rows made) (w : List Str) : (drw rows w).1 ∈ rows.map (·.1) := thr_in V _ V.zero
theorem drw_ok {rows : List Nd} {made : Int} (V : TreeV rows made) {w : List Str} (h : (drw rows w).2 = .ok) : kindO rows (drw rows w).1 ≠ ("sheet" : Str) := by
  unfold drw at *
  simp only at *
  split at h
  · cases h
  · rename_i z
    exact fun e => z ⟨h, e⟩
def full (r : Nd) : Bool := decide (r.2.1 = ("drawer" : Str)) && !decide (r.2.2 = [])
end KD
namespace KD
open PySem PySem.Spec PyProof.Rows L2 DL KB
def lookD (rows : List Nd) (w : List Str) : D := if (thru rows w).2 = .ok then .tup [.str "found", .str (kindO rows (thru rows w).1.2), .int (thru rows w).1.2] else (thru rows w).2.D
def listD (rows : List Nd) (w : List Str) : D := if (thru rows w).2 = .ok then (if kindO rows (thru rows w).1.2 = "sheet" then (Ms.sh w.length).D else .tup [.str "names", .tup ((entO rows (thru rows w).1.2).map fun e => .str e.1)]) else (thru rows w).2.D
end KD
namespace KD
open PySem PySem.Spec PyProof.Rows L2 DL KB
def holdE (d : Int) (es : List (Str × Int)) (n : Int) : List Int := (es.filter fun e => decide (e.2 = n)).map fun _ => d
def hold (rows : List Nd) (n : Int) : List Int := rows.flatMap fun r => holdE r.1 r.2.2 n
end KD
namespace KD
open PySem PySem.Spec PyProof.Rows L2 DL KB
inductive Climb (rows : List Nd) : Int → List Int → Prop
  | top : Climb rows 0 []
  | step {x p : Int} {t l : List Int} : x ≠ 0 → hold rows x = p :: t → Climb rows p l → Climb rows x (p :: l)
theorem Climb.uniq {rows : List Nd} : ∀ {x : Int} {l m : List Int}, Climb rows x l → Climb rows x m → l = m := by
  intro x l m h
  induction h generalizing m with
  | top =>
    intro h2
    cases h2 with
    | top => rfl
    | step hx _ _ => exact absurd rfl hx
  | step hx hp _ ih =>
    intro h2
    cases h2 with
    | top => exact absurd rfl hx
    | step _ hp' h' =>
      rw [hp] at hp'
      cases hp'
      rw [ih h']
theorem Climb.sub {rows : List Nd} {x : Int} {l : List Int} (h : Climb rows x l) : ∀ y ∈ l, ∃ m, Climb rows y m ∧ m.length < l.length := by
  induction h with
  | top => intro y hy; cases hy
  | step hx hp c ih =>
    rename_i x' p' t' l'
    intro y hy
    rcases List.mem_cons.mp hy with rfl | hy
    · exact ⟨_, c, Nat.lt_succ_self _⟩
    · obtain ⟨m, a, b⟩ := ih y hy
      exact ⟨m, a, Nat.lt_succ_of_lt b⟩
theorem Climb.nodup {rows : List Nd} {x : Int} {l : List Int} (h : Climb rows x l) : l.Nodup := by
  induction h with
  | top => exact List.nodup_nil
  | step hx hp c ih =>
    refine List.nodup_cons.mpr ⟨fun z => ?_, ih⟩
    obtain ⟨m, a, b⟩ := c.sub _ z
    rw [c.uniq a] at b
    exact Nat.lt_irrefl _ b
theorem hold_mem {rows : List Nd} {x p : Int} : p ∈ hold rows x ↔ ∃ r ∈ rows, r.1 = p ∧ ∃ e ∈ r.2.2, e.2 = x := by
  unfold hold holdE
  constructor
  · intro h
    obtain ⟨r, hr, h⟩ := List.mem_flatMap.mp h
    obtain ⟨e, he, rfl⟩ := List.mem_map.mp h
    obtain ⟨h1, h2⟩ := List.mem_filter.mp he
    exact ⟨r, hr, rfl, e, h1, of_decide_eq_true h2⟩
  · rintro ⟨r, hr, rfl, e, he, h⟩
    exact List.mem_flatMap.mpr ⟨r, hr, List.mem_map.mpr ⟨e, List.mem_filter.mpr ⟨he, decide_eq_true h⟩, rfl⟩⟩
theorem Climb.ids {rows : List Nd} {x : Int} {l : List Int} (h : Climb rows x l) : ∀ y ∈ l, y ∈ rows.map (·.1) := by
  induction h with
  | top => intro y hy; cases hy
  | step hx hp c ih =>
    intro y hy
    rcases List.mem_cons.mp hy with rfl | hy
    · obtain ⟨r, hr, e, _⟩ := hold_mem.mp (by rw [hp]; exact List.mem_cons_self .. : y ∈ hold rows _)
      rw [← e]; exact List.mem_map_of_mem hr
    · exact ih y hy
theorem Climb.len {rows : List Nd} {x : Int} {l : List Int} (h : Climb rows x l) : l.length ≤ rows.length := by
  have := h.nodup.length_le_of_subset h.ids
  rw [List.length_map] at this
  exact this
theorem hold_count (rows : List Nd) (n : Int) : (hold rows n).length = (tgs rows).count n := by
  induction rows with
  | nil => rfl
  | cons r l ih =>
    show (holdE r.1 r.2.2 n ++ hold l n).length = (r.2.2.map (·.2) ++ tgs l).count n
    rw [List.length_append, List.count_append, ih]
    congr 1
    unfold holdE
    rw [List.length_map, List.count_eq_countP, List.countP_map, List.countP_eq_length_filter]
    congr 2
theorem TreeV.drawer {rows : List Nd} {made : Int} (V : TreeV rows made) {r : Nd} (hr : r ∈ rows) {e : Str × Int} (he : e ∈ r.2.2) : r.2.1 = ("drawer" : Str) := by
  rcases V.kd r hr with h | h
  · exact h
  · rw [V.sh r hr h] at he; cases he
theorem TreeV.climb {rows : List Nd} {made : Int} (V : TreeV rows made) {n : Int} (h : Reach rows n) : ∀ q ∈ rows, q.1 = n → q.2.1 = ("drawer" : Str) → ∃ l, Climb rows n l := by
  induction h with
  | top => exact fun _ _ _ _ => ⟨[], .top⟩
  | @step r e hr he _ ih =>
    intro q hq e1 hk
    have hrk := V.drawer hr he
    obtain ⟨l, c⟩ := ih r hr rfl hrk
    have hpos := (V.tg r hr e he).2
    have h1 := V.one q hq hk
    rw [e1, ← hold_count] at h1
    have h2 : r.1 ∈ hold rows e.2 := hold_mem.mpr ⟨r, hr, rfl, e, he, rfl⟩
    cases hh : hold rows e.2 with
    | nil => rw [hh] at h2; cases h2
    | cons p t =>
      rw [hh] at h1 h2
      have ht : t = [] := by
        cases t with
        | nil => rfl
        | cons _ _ => simp at h1
      subst ht
      have : r.1 = p := by simpa using h2
      exact ⟨p :: l, .step (by omega) hh (this ▸ c)⟩
def climbF (rows : List Nd) : Nat → Int → List Int
  | 0, _ => []
  | k + 1, x => if x = 0 then [] else match hold rows x with | [] => [] | p :: _ => p :: climbF rows k p
theorem Climb.eqF {rows : List Nd} {x : Int} {l : List Int} (h : Climb rows x l) : ∀ k, l.length ≤ k → climbF rows k x = l := by
  induction h with
  | top => intro k _; cases k <;> simp [climbF]
  | step hx hp c ih =>
    rename_i x' p' t' l'
    intro k hk
    cases k with
    | zero => simp at hk
    | succ k =>
      rw [climbF, if_neg hx, hp]
      show p' :: climbF rows k p' = _
      rw [ih k (by simpa using hk)]
def abv (rows : List Nd) (n : Int) : List Int := climbF rows rows.length n
theorem TreeV.abv {rows : List Nd} {made : Int} (V : TreeV rows made) {q : Nd} (hq : q ∈ rows) (hk : q.2.1 = ("drawer" : Str)) : Climb rows q.1 (abv rows q.1) := by
  obtain ⟨l, c⟩ := V.climb (V.up q hq hk) q hq rfl hk
  unfold KD.abv
  rw [c.eqF _ c.len]
  exact c
def inside (rows : List Nd) (n d : Int) : Bool := decide (n = d) || decide (n ∈ abv rows d)
end KD
namespace KD
open PySem PySem.Spec PyProof.Rows L2 DL KB
def putO (es : List (Str × Option Int)) (x : Str) (v : Option Int) : List (Str × Option Int) := if (es.any fun p => decide (p.1 = x)) = true then es.map (fun p => if p.1 = x then (p.1, v) else p) else es ++ [(x, v)]
theorem putO_names (es : List (Str × Option Int)) (x : Str) (v : Option Int) : (putO es x v).map (·.1) = if x ∈ es.map (·.1) then es.map (·.1) else es.map (·.1) ++ [x] := by
  unfold putO
  by_cases h : x ∈ es.map (·.1)
  · rw [if_pos h]
    have : (es.any fun p => decide (p.1 = x)) = true := by
      obtain ⟨p, hp, e⟩ := List.mem_map.mp h
      exact List.any_eq_true.mpr ⟨p, hp, decide_eq_true e⟩
    rw [if_pos this, List.map_map]
    refine List.map_congr_left fun p _ => ?_
    simp only [Function.comp_def]
    split <;> rfl
  · rw [if_neg h]
    have : ¬ (es.any fun p => decide (p.1 = x)) = true := fun z => by
      obtain ⟨p, hp, e⟩ := List.any_eq_true.mp z
      exact h (List.mem_map.mpr ⟨p, hp, of_decide_eq_true e⟩)
    rw [if_neg this, List.map_append]; rfl
theorem putO_nodup {es : List (Str × Option Int)} {x : Str} {v : Option Int} (h : (es.map (·.1)).Nodup) : ((putO es x v).map (·.1)).Nodup := by
  rw [putO_names]
  split
  · exact h
  · rename_i hx
    rw [List.nodup_append]
    refine ⟨h, by simp, fun a ha b hb e => ?_⟩
    rw [List.mem_singleton.mp hb] at e
    exact hx (e ▸ ha)
theorem putO_len (es : List (Str × Option Int)) (x : Str) (v : Option Int) : (putO es x v).length ≤ es.length + 1 := by
  unfold putO
  split
  · rw [List.length_map]; exact Nat.le_succ _
  · rw [List.length_append]; exact Nat.le_refl _
abbrev Chg := Int × Str × Option Int
def opn (es : List (Str × Int)) : List (Str × Option Int) := es.map fun e => (e.1, some e.2)
def fst0 (rows : List Nd) (n : Int) : List (Str × Option Int) := opn (entO rows n)
def chgF (f : Int → List (Str × Option Int)) (c : Chg) : Int → List (Str × Option Int) := fun n => if n = c.1 then putO (f n) c.2.1 c.2.2 else f n
def chs (rows : List Nd) (cs : List Chg) : Int → List (Str × Option Int) := cs.foldl chgF (fst0 rows)
def kp (es : List (Str × Option Int)) : List (Str × Int) := es.filterMap fun e => e.2.map fun t => (e.1, t)
def named (rows : List Nd) (cs : List Chg) : List Int := rows.flatMap fun r => (kp (chs rows cs r.1)).map (·.2)
def rowL (rows : List Nd) (cs : List Chg) (r : Nd) : Nd := (r.1, r.2.1, srtE (kp (chs rows cs r.1)))
def stays (rows : List Nd) (cs : List Chg) (r : Nd) : Bool := decide (r.1 = 0) || decide (r.1 ∈ named rows cs)
def lay (rows : List Nd) (cs : List Chg) : List Nd := (rows.map (rowL rows cs)).filter (stays rows cs)
end KD
namespace KD
open PySem PySem.Spec PyProof.Rows L2 DL KB
theorem kp_names (es : List (Str × Option Int)) : ((kp es).map (·.1)).Sublist (es.map (·.1)) := by
  induction es with
  | nil => exact .slnil
  | cons e r ih =>
    unfold kp at *
    rw [List.filterMap_cons]
    cases h : e.2 with
    | none => exact ih.cons _
    | some t => exact ih.cons₂ _
end KD
namespace KD
open PySem PySem.Spec PyProof.Rows L2 DL KB
theorem chs_ok {rows : List Nd} : ∀ (cs : List Chg) (f : Int → List (Str × Option Int)), (∀ n, ((f n).map (·.1)).Nodup) → ∀ n, (((cs.foldl chgF f) n).map (·.1)).Nodup ∧ ((cs.foldl chgF f) n).length ≤ (f n).length + cs.length
  | [], f, h, n => ⟨h n, Nat.le_refl _⟩
  | c :: r, f, h, n => by
    have h2 : ∀ n, ((chgF f c n).map (·.1)).Nodup := fun n => by
      unfold chgF
      split
      · exact putO_nodup (h n)
      · exact h n
    obtain ⟨a, b⟩ := chs_ok (rows := rows) r (chgF f c) h2 n
    refine ⟨a, Nat.le_trans b ?_⟩
    have : (chgF f c n).length ≤ (f n).length + 1 := by
      unfold chgF
      split
      · exact putO_len _ _ _
      · exact Nat.le_succ _
    rw [List.length_cons]
    omega
theorem lay_asc {rows : List Nd} {cs : List Chg} (h : (rows.map (·.1)).Pairwise (· < ·)) : ((lay rows cs).map (·.1)).Pairwise (· < ·) := by
  unfold lay
  have e : ((rows.map (rowL rows cs)).map (·.1)) = rows.map (·.1) := by rw [List.map_map]; rfl
  rw [← e] at h
  exact h.sublist ((List.filter_sublist).map _)
end KD
namespace KD
open PySem PySem.Spec PyProof.Rows L2 DL KB
def Ms.Dw (m : Ms) (i : Nat) : DL.D := match m with
  | .ok => .non
  | .sh k => .tup [.str "sheet", .int k, .int i]
  | .no k => .tup [.str "none", .int k, .int i]
def ent (rows : List Nd) (w : List Str) : Option Int := lk (lastN w) (entO rows (drw rows w).1)
def both (rows : List Nd) (w v : List Str) : List Int × List (Option Int) × D :=
  if (drw rows w).2 ≠ .ok then ([], [], (drw rows w).2.Dw 0) else if (drw rows v).2 ≠ .ok then ([], [], (drw rows v).2.Dw 1) else
    ([(drw rows w).1, (drw rows v).1], [ent rows w, ent rows v], if ent rows w = none then .tup [.str "none", .int (w.length - 1 : Nat), .int 0] else .non)
end KD
namespace KD
open PySem PySem.Spec PyProof.Rows L2 DL KB
abbrev TreeT := List Nd × Int
def fullN (rows : List Nd) (n : Int) : Bool := match rowO rows n with | some r => full r | none => false
def dropF (t : TreeT) (w : List Str) : TreeT × D :=
  if (drw t.1 w).2 ≠ .ok then (t, (drw t.1 w).2.D) else match ent t.1 w with
  | none => (t, .tup [.str "none", .int (w.length - 1 : Nat)])
  | some n => if fullN t.1 n = true then (t, .tup [.str "full"]) else ((lay t.1 [((drw t.1 w).1, lastN w, none)], t.2), .tup [.str "dropped", .int n])
end KD
namespace KD
open PySem PySem.Spec PyProof.Rows L2 DL KB
def makeF (t : TreeT) (w : List Str) (kd : Str) : TreeT × D :=
  if (drw t.1 w).2 ≠ .ok then (t, (drw t.1 w).2.D) else if ent t.1 w ≠ none then (t, .tup [.str "there"]) else
    ((lay (t.1 ++ [(t.2, kd, [])]) [((drw t.1 w).1, lastN w, some t.2)], t.2 + 1), .tup [.str "made", .int t.2])
def bar (rows : List Nd) (g n : Int) (old : Option Int) : Option Str :=
  if old = some n then some "same" else if kindO rows n = "drawer" ∧ inside rows n g = true then some "inside" else match old with
  | none => none
  | some o => if kindO rows o ≠ kindO rows n then some "kind" else if fullN rows o = true then some "full" else none
end KD
namespace KD
open PySem PySem.Spec PyProof.Rows L2 DL KB
theorem both_ok {rows : List Nd} {w v : List Str} (h : (both rows w v).2.2 = .non) : (drw rows w).2 = .ok ∧ (drw rows v).2 = .ok ∧ ∃ a, ent rows w = some a ∧ both rows w v = ([(drw rows w).1, (drw rows v).1], [some a, ent rows v], .non) := by
  unfold both at h ⊢
  by_cases h1 : (drw rows w).2 ≠ .ok
  · rw [if_pos h1] at h
    cases hm : (drw rows w).2 with
    | ok => exact absurd hm h1
    | sh k => rw [hm] at h; cases h
    | no k => rw [hm] at h; cases h
  · rw [if_neg h1] at h ⊢
    by_cases h2 : (drw rows v).2 ≠ .ok
    · rw [if_pos h2] at h
      cases hm : (drw rows v).2 with
      | ok => exact absurd hm h2
      | sh k => rw [hm] at h; cases h
      | no k => rw [hm] at h; cases h
    · rw [if_neg h2] at h ⊢
      cases he : ent rows w with
      | none => rw [he] at h; cases h
      | some a => exact ⟨Classical.not_not.mp h1, Classical.not_not.mp h2, a, rfl, rfl⟩
def linkF (t : TreeT) (w v : List Str) : TreeT × D :=
  if (both t.1 w v).2.2 ≠ .non then (t, (both t.1 w v).2.2) else match ent t.1 w with
  | none => (t, .non)
  | some a => if kindO t.1 a = "drawer" then (t, .tup [.str "kind"]) else if ent t.1 v ≠ none then (t, .tup [.str "there"]) else
    ((lay t.1 [((drw t.1 v).1, lastN v, some a)], t.2), .tup [.str "linked", .int a])
end KD
namespace KD
open PySem PySem.Spec PyProof.Rows L2 DL KB
def moveF (t : TreeT) (w v : List Str) : TreeT × D :=
  if (both t.1 w v).2.2 ≠ .non then (t, (both t.1 w v).2.2) else match ent t.1 w with
  | none => (t, .non)
  | some a => match bar t.1 (drw t.1 v).1 a (ent t.1 v) with
    | some s => (t, .tup [.str s])
    | none => ((lay t.1 [((drw t.1 w).1, lastN w, none), ((drw t.1 v).1, lastN v, some a)], t.2), .tup [.str "moved", .int a])
end KD
namespace KD
open PySem PySem.Spec PyProof.Rows L2 DL KB
def swapF (t : TreeT) (w v : List Str) : TreeT × D :=
  if (both t.1 w v).2.2 ≠ .non then (t, (both t.1 w v).2.2) else match ent t.1 w, ent t.1 v with
  | some a, some b => if a = b then (t, .tup [.str "same"]) else if inside t.1 a (drw t.1 v).1 = true ∨ inside t.1 b (drw t.1 w).1 = true then (t, .tup [.str "inside"]) else
    ((lay t.1 [((drw t.1 w).1, lastN w, some b), ((drw t.1 v).1, lastN v, some a)], t.2), .tup [.str "swapped", .int a, .int b])
  | _, _ => (t, .tup [.str "none", .int (v.length - 1 : Nat), .int 1])
end KD
namespace KD
open PySem PySem.Spec PyProof.Rows L2 DL KB
def doF (t : TreeT) : Dd → TreeT × D
  | .one x w => if x = ("look" : Str) then (t, lookD t.1 w) else if x = ("list" : Str) then (t, listD t.1 w) else dropF t w
  | .mk w k => makeF t w k
  | .two x w v => if x = ("link" : Str) then linkF t w v else if x = ("move" : Str) then moveF t w v else swapF t w v
def Dd.sh : Dd → Prop
  | .one x w => x ∈ (["look", "list", "drop"] : List Str) ∧ w.length ≤ 6 ∧ (x = ("drop" : Str) → w ≠ [])
  | .mk w k => w.length ≤ 6 ∧ w ≠ [] ∧ isK k
  | .two x w v => x ∈ (["link", "move", "swap"] : List Str) ∧ w.length ≤ 6 ∧ w ≠ [] ∧ v.length ≤ 6 ∧ v ≠ []
end KD
namespace KD
open PySem PySem.Spec PyProof.Rows L2 DL KB
theorem lay_mem {rows : List Nd} {cs : List Chg} {q : Nd} : q ∈ lay rows cs ↔ ∃ r ∈ rows, q = rowL rows cs r ∧ stays rows cs q = true := by
  unfold lay
  rw [List.mem_filter, List.mem_map]
  constructor
  · rintro ⟨⟨r, hr, rfl⟩, h⟩; exact ⟨r, hr, rfl, h⟩
  · rintro ⟨r, hr, rfl, h⟩; exact ⟨⟨r, hr, rfl⟩, h⟩
theorem rowL_es {rows : List Nd} {cs : List Chg} {r : Nd} {e : Str × Int} : e ∈ (rowL rows cs r).2.2 ↔ e ∈ kp (chs rows cs r.1) := (srtE_perm _).mem_iff
theorem kp_mem {es : List (Str × Option Int)} {x : Str} {t : Int} : (x, t) ∈ kp es ↔ (x, some t) ∈ es := by
  unfold kp
  rw [List.mem_filterMap]
  constructor
  · rintro ⟨⟨y, o⟩, h, e⟩
    cases o with
    | none => cases e
    | some u => simp only [Option.map_some, Option.some.injEq, Prod.mk.injEq] at e; obtain ⟨rfl, rfl⟩ := e; exact h
  · intro h; exact ⟨_, h, rfl⟩
theorem lay_len {rows : List Nd} {cs : List Chg} : (lay rows cs).length ≤ rows.length := by
  unfold lay
  refine Nat.le_trans (List.length_filter_le _ _) ?_
  rw [List.length_map]; exact Nat.le_refl _
theorem doF_len (t : TreeT) (d : Dd) : (doF t d).1.1.length ≤ t.1.length + 1 := by
  have l1 : ∀ cs, (lay t.1 cs).length ≤ t.1.length + 1 := fun cs => Nat.le_trans lay_len (Nat.le_succ _)
  have l0 : t.1.length ≤ t.1.length + 1 := Nat.le_succ _
  cases d with
  | one x w =>
    rw [doF]
    split
    · exact l0
    · split
      · exact l0
      · unfold dropF
        split
        · exact l0
        · split
          · exact l0
          · split
            · exact l0
            · exact l1 _
  | mk w k =>
    rw [doF]
    unfold makeF
    split
    · exact l0
    · split
      · exact l0
      · refine Nat.le_trans lay_len ?_
        rw [List.length_append]; exact Nat.le_refl _
  | two x w v =>
    rw [doF]
    split
    · unfold linkF
      split
      · exact l0
      · split
        · exact l0
        · split
          · exact l0
          · split
            · exact l0
            · exact l1 _
    · split
      · unfold moveF
        split
        · exact l0
        · split
          · exact l0
          · split
            · exact l0
            · exact l1 _
      · unfold swapF
        split
        · exact l0
        · split
          · split
            · exact l0
            · split
              · exact l0
              · exact l1 _
          · exact l0
theorem doF_made (t : TreeT) (d : Dd) : ((doF t d).1.2 = t.2) ∨ ((doF t d).1.2 = t.2 + 1 ∧ (doF t d).2 = .tup [.str "made", .int t.2]) := by
  cases d with
  | one x w =>
    rw [doF]
    split
    · exact .inl rfl
    · split
      · exact .inl rfl
      · unfold dropF
        split
        · exact .inl rfl
        · split
          · exact .inl rfl
          · split <;> exact .inl rfl
  | mk w k =>
    rw [doF]
    unfold makeF
    split
    · exact .inl rfl
    · split
      · exact .inl rfl
      · exact .inr ⟨rfl, rfl⟩
  | two x w v =>
    rw [doF]
    split
    · unfold linkF
      split
      · exact .inl rfl
      · split
        · exact .inl rfl
        · split
          · exact .inl rfl
          · split <;> exact .inl rfl
    · split
      · unfold moveF
        split
        · exact .inl rfl
        · split
          · exact .inl rfl
          · split <;> exact .inl rfl
      · unfold swapF
        split
        · exact .inl rfl
        · split
          · split
            · exact .inl rfl
            · split <;> exact .inl rfl
          · exact .inl rfl
end KD
namespace KD
open PySem PySem.Spec PyProof.Rows L2 DL KB
structure LT (NS : List Str) (rows : List Nd) (made : Int) (cs : List Chg) : Prop where
  asc : (rows.map (·.1)).Pairwise (· < ·)
  top : ∃ es r, rows = ((0 : Int), ("drawer" : Str), es) :: r
  lt : ∀ r ∈ rows, r.1 < made
  kd : ∀ r ∈ rows, isK r.2.1
  sh : ∀ r ∈ rows, r.2.1 = ("sheet" : Str) → chs rows cs r.1 = []
  nd : ∀ r ∈ rows, ((chs rows cs r.1).map (·.1)).Nodup
  nm : ∀ r ∈ rows, ∀ e ∈ chs rows cs r.1, e.1 ∈ NS
  tg : ∀ r ∈ rows, ∀ e ∈ kp (chs rows cs r.1), e.2 ∈ rows.map (·.1) ∧ 0 < e.2
theorem LT.easy {NS : List Str} {rows : List Nd} {made : Int} {cs : List Chg} (h : LT NS rows made cs) : ((lay rows cs).map (·.1)).Pairwise (· < ·) ∧ (∀ q ∈ lay rows cs, q.1 < made) ∧ (∀ q ∈ lay rows cs, isK q.2.1) ∧ (∀ q ∈ lay rows cs, q.2.1 = ("sheet" : Str) → q.2.2 = []) ∧ (∀ q ∈ lay rows cs, (q.2.2.map (·.1)).Nodup) ∧ (∀ q ∈ lay rows cs, ∀ e ∈ q.2.2, e.1 ∈ NS) := by
  refine ⟨lay_asc h.asc, fun q hq => ?_, fun q hq => ?_, fun q hq hs => ?_, fun q hq => ?_, fun q hq e he => ?_⟩ <;> obtain ⟨r, hr, rfl, _⟩ := lay_mem.mp hq
  · exact h.lt r hr
  · exact h.kd r hr
  · have e : chs rows cs r.1 = [] := h.sh r hr hs
    show srtE (kp (chs rows cs r.1)) = []
    rw [e]; exact List.mergeSort_nil ..
  · exact ((srtE_perm _).map _).nodup_iff.mpr ((h.nd r hr).sublist (kp_names _))
  · have := (rowL_es.mp he)
    have h2 : e.1 ∈ (kp (chs rows cs r.1)).map (·.1) := List.mem_map_of_mem this
    obtain ⟨p, hp, e2⟩ := List.mem_map.mp ((kp_names _).subset h2)
    rw [← e2]; exact h.nm r hr p hp
theorem named_mem {rows : List Nd} {cs : List Chg} {n : Int} : n ∈ named rows cs ↔ ∃ r ∈ rows, ∃ e ∈ kp (chs rows cs r.1), e.2 = n := by
  unfold named
  constructor
  · intro h
    obtain ⟨r, hr, h⟩ := List.mem_flatMap.mp h
    obtain ⟨e, he, rfl⟩ := List.mem_map.mp h
    exact ⟨r, hr, e, he, rfl⟩
  · rintro ⟨r, hr, e, he, rfl⟩
    exact List.mem_flatMap.mpr ⟨r, hr, List.mem_map_of_mem he⟩
theorem LT.tgt {NS : List Str} {rows : List Nd} {made : Int} {cs : List Chg} (h : LT NS rows made cs) : ∀ q ∈ lay rows cs, ∀ e ∈ q.2.2, e.2 ∈ (lay rows cs).map (·.1) ∧ 0 < e.2 := fun q hq e he => by
  obtain ⟨r, hr, rfl, _⟩ := lay_mem.mp hq
  have he' := rowL_es.mp he
  obtain ⟨h1, h2⟩ := h.tg r hr e he'
  refine ⟨?_, h2⟩
  obtain ⟨r2, hr2, e2⟩ := List.mem_map.mp h1
  refine List.mem_map.mpr ⟨rowL rows cs r2, lay_mem.mpr ⟨r2, hr2, rfl, ?_⟩, e2⟩
  unfold stays
  have : (rowL rows cs r2).1 ∈ named rows cs := named_mem.mpr ⟨r, hr, e, he', e2.symm⟩
  rw [decide_eq_true this, Bool.or_true]
theorem lay_hd {rows : List Nd} {cs : List Chg} (em : ∀ r ∈ rows, stays rows cs (rowL rows cs r) = false → kp (chs rows cs r.1) = []) : ∀ q ∈ lay rows cs, q.1 ≠ 0 → q.1 ∈ tgs (lay rows cs) := fun q hq h0 => by
  obtain ⟨r, hr, rfl, hs⟩ := lay_mem.mp hq
  unfold stays at hs
  rw [decide_eq_false h0, Bool.false_or] at hs
  obtain ⟨r2, hr2, e, he, e2⟩ := named_mem.mp (of_decide_eq_true hs)
  have st : stays rows cs (rowL rows cs r2) = true := by
    cases z : stays rows cs (rowL rows cs r2) with
    | true => rfl
    | false => rw [em r2 hr2 z] at he; cases he
  rw [← e2]
  exact List.mem_flatMap.mpr ⟨rowL rows cs r2, lay_mem.mpr ⟨r2, hr2, rfl, st⟩, List.mem_map_of_mem (f := fun e : Str × Int => e.2) (rowL_es.mpr he)⟩
end KD
namespace KD
open PySem PySem.Spec PyProof.Rows L2 DL KB
def Ed (rows : List Nd) (d : Int) (x : Str) (n : Int) : Prop := ∃ r ∈ rows, r.1 = d ∧ (x, n) ∈ r.2.2
def Nw (rows : List Nd) (cs : List Chg) (d : Int) (x : Str) (n : Int) : Prop := d ∈ rows.map (·.1) ∧ (x, some n) ∈ chs rows cs d
theorem named_iff {rows : List Nd} {cs : List Chg} {n : Int} : n ∈ named rows cs ↔ ∃ d x, Nw rows cs d x n := by
  rw [named_mem]
  constructor
  · rintro ⟨r, hr, ⟨x, m⟩, he, rfl⟩
    exact ⟨r.1, x, List.mem_map_of_mem hr, kp_mem.mp he⟩
  · rintro ⟨d, x, hd, he⟩
    obtain ⟨r, hr, rfl⟩ := List.mem_map.mp hd
    exact ⟨r, hr, (x, n), kp_mem.mpr he, rfl⟩
theorem Ed_lay {rows : List Nd} {cs : List Chg} (em : ∀ r ∈ rows, stays rows cs (rowL rows cs r) = false → kp (chs rows cs r.1) = []) {d : Int} {x : Str} {n : Int} : Ed (lay rows cs) d x n ↔ Nw rows cs d x n := by
  constructor
  · rintro ⟨q, hq, rfl, he⟩
    obtain ⟨r, hr, rfl, _⟩ := lay_mem.mp hq
    have hm : r.1 ∈ rows.map (·.1) := List.mem_map_of_mem hr
    exact ⟨hm, kp_mem.mp (rowL_es.mp he)⟩
  · rintro ⟨hd, he⟩
    obtain ⟨r, hr, rfl⟩ := List.mem_map.mp hd
    have he := kp_mem.mpr he
    cases z : stays rows cs (rowL rows cs r) with
    | false => rw [em r hr z] at he; cases he
    | true => exact ⟨rowL rows cs r, lay_mem.mpr ⟨r, hr, rfl, z⟩, rfl, rowL_es.mpr he⟩
theorem mem_putO {es : List (Str × Option Int)} {x0 x : Str} {v : Option Int} {n : Int} : (x, some n) ∈ putO es x0 v ↔ if x = x0 then v = some n else (x, some n) ∈ es := by
  unfold putO
  by_cases h : (es.any fun p => decide (p.1 = x0)) = true
  · rw [if_pos h, List.mem_map]
    by_cases hx : x = x0
    · subst hx
      rw [if_pos rfl]
      constructor
      · rintro ⟨p, hp, e⟩
        by_cases hz : p.1 = x
        · rw [if_pos hz] at e; exact (Prod.mk.inj e).2
        · rw [if_neg hz] at e; rw [e] at hz; exact absurd rfl hz
      · rintro rfl
        obtain ⟨p, hp, e⟩ := List.any_eq_true.mp h
        have e := of_decide_eq_true e
        exact ⟨p, hp, by rw [if_pos e, e]⟩
    · rw [if_neg hx]
      constructor
      · rintro ⟨p, hp, e⟩
        by_cases hz : p.1 = x0
        · rw [if_pos hz] at e; exact absurd ((Prod.mk.inj e).1.symm.trans hz) hx
        · rw [if_neg hz] at e; rw [← e]; exact hp
      · intro hp; exact ⟨_, hp, by rw [if_neg hx]⟩
  · rw [if_neg h, List.mem_append, List.mem_singleton]
    have h0 : ∀ y, (x0, y) ∉ es := fun y hy => h (List.any_eq_true.mpr ⟨_, hy, decide_eq_true rfl⟩)
    by_cases hx : x = x0
    · subst hx
      rw [if_pos rfl]
      constructor
      · rintro (a | a)
        · exact absurd a (h0 _)
        · exact (Prod.mk.inj a).2.symm
      · rintro rfl; exact Or.inr rfl
    · rw [if_neg hx]
      exact ⟨fun a => a.resolve_right fun b => hx (Prod.mk.inj b).1, Or.inl⟩
theorem mem_chgF {f : Int → List (Str × Option Int)} {c : Chg} {d : Int} {x : Str} {n : Int} : (x, some n) ∈ chgF f c d ↔ if d = c.1 ∧ x = c.2.1 then c.2.2 = some n else (x, some n) ∈ f d := by
  unfold chgF
  by_cases hd : d = c.1
  · rw [if_pos hd, mem_putO]
    by_cases hx : x = c.2.1
    · rw [if_pos hx, if_pos ⟨hd, hx⟩]
    · rw [if_neg hx, if_neg fun h => hx h.2]
  · rw [if_neg hd, if_neg fun h => hd h.1]
theorem mem_opn {es : List (Str × Int)} {x : Str} {n : Int} : (x, some n) ∈ opn es ↔ (x, n) ∈ es := by
  unfold opn
  rw [List.mem_map]
  constructor
  · rintro ⟨⟨a, b⟩, h, e⟩
    simp only [Prod.mk.injEq, Option.some.injEq] at e
    obtain ⟨rfl, rfl⟩ := e
    exact h
  · intro h; exact ⟨_, h, rfl⟩
theorem entO_none {rows : List Nd} {d : Int} (h : rowO rows d = none) : entO rows d = [] := by
  unfold entO; unfold rowO at h; rw [h]
theorem ent_Ed {rows : List Nd} (nd : (rows.map (·.1)).Nodup) {d : Int} {x : Str} {n : Int} : (x, n) ∈ entO rows d ↔ Ed rows d x n := by
  constructor
  · intro h
    cases e : rowO rows d with
    | none => rw [entO_none e] at h; cases h
    | some r =>
      rw [entO_eq e] at h
      exact ⟨r, (rowO_mem e).1, (rowO_mem e).2, h⟩
  · rintro ⟨r, hr, rfl, h⟩
    have : rowO rows r.1 = some r := find_of_mem (f := fun r : Nd => r.1) nd hr
    rw [entO_eq this]
    exact h
theorem fst0_Ed {rows : List Nd} (nd : (rows.map (·.1)).Nodup) {d : Int} {x : Str} {n : Int} : (x, some n) ∈ fst0 rows d ↔ Ed rows d x n := by
  unfold fst0; rw [mem_opn]; exact ent_Ed nd
theorem Nw1 {rows : List Nd} (nd : (rows.map (·.1)).Nodup) {c : Chg} {d : Int} {x : Str} {n : Int} : Nw rows [c] d x n ↔ d ∈ rows.map (·.1) ∧ if d = c.1 ∧ x = c.2.1 then c.2.2 = some n else Ed rows d x n := by
  unfold Nw chs
  rw [List.foldl_cons, List.foldl_nil, mem_chgF, fst0_Ed nd]
theorem Nw2 {rows : List Nd} (nd : (rows.map (·.1)).Nodup) {c c' : Chg} {d : Int} {x : Str} {n : Int} : Nw rows [c, c'] d x n ↔ d ∈ rows.map (·.1) ∧ if d = c'.1 ∧ x = c'.2.1 then c'.2.2 = some n else if d = c.1 ∧ x = c.2.1 then c.2.2 = some n else Ed rows d x n := by
  unfold Nw chs
  rw [List.foldl_cons, List.foldl_cons, List.foldl_nil, mem_chgF, mem_chgF, fst0_Ed nd]
theorem Ed.id {rows : List Nd} {d : Int} {x : Str} {n : Int} (h : Ed rows d x n) : d ∈ rows.map (·.1) := by
  obtain ⟨r, hr, rfl, _⟩ := h; exact List.mem_map_of_mem hr
theorem Reach.ed {rows : List Nd} {d : Int} {x : Str} {n : Int} (h : Ed rows d x n) (r : Reach rows d) : Reach rows n := by
  obtain ⟨q, hq, rfl, he⟩ := h; exact .step (e := (x, n)) hq he r
def eds (rows : List Nd) : List (Int × Str × Int) := rows.flatMap fun r => r.2.2.map fun e => (r.1, e.1, e.2)
theorem mem_eds {rows : List Nd} {d : Int} {x : Str} {n : Int} : (d, x, n) ∈ eds rows ↔ Ed rows d x n := by
  unfold eds
  constructor
  · intro h
    obtain ⟨r, hr, h⟩ := List.mem_flatMap.mp h
    obtain ⟨e, he, h⟩ := List.mem_map.mp h
    cases h
    exact ⟨r, hr, rfl, he⟩
  · rintro ⟨r, hr, rfl, he⟩
    exact List.mem_flatMap.mpr ⟨r, hr, List.mem_map.mpr ⟨(x, n), he, rfl⟩⟩
theorem tgs_eds (rows : List Nd) : tgs rows = (eds rows).map (·.2.2) := by
  unfold tgs eds
  induction rows with
  | nil => rfl
  | cons r rows ih =>
    rw [List.flatMap_cons, List.flatMap_cons, List.map_append, ih, List.map_map]
    rfl
theorem nodup_of_map {α β : Type} {f : α → β} : ∀ {l : List α}, (l.map f).Nodup → l.Nodup
  | [], _ => List.nodup_nil
  | a :: l, h => by
    rw [List.map_cons, List.nodup_cons] at h
    exact List.nodup_cons.mpr ⟨fun z => h.1 (List.mem_map_of_mem z), nodup_of_map h.2⟩
theorem nodup_map_inj {α β : Type} {f : α → β} : ∀ {l : List α}, l.Nodup → (∀ a ∈ l, ∀ b ∈ l, f a = f b → a = b) → (l.map f).Nodup
  | [], _, _ => List.nodup_nil
  | a :: l, h, i => by
    rw [List.nodup_cons] at h
    rw [List.map_cons, List.nodup_cons]
    refine ⟨fun z => ?_, nodup_map_inj h.2 fun a ha b hb => i a (List.mem_cons_of_mem _ ha) b (List.mem_cons_of_mem _ hb)⟩
    obtain ⟨b, hb, e⟩ := List.mem_map.mp z
    have := i a (List.mem_cons_self ..) b (List.mem_cons_of_mem _ hb) e.symm
    exact h.1 (this ▸ hb)
theorem eds_nodup : ∀ {rows : List Nd}, (rows.map (·.1)).Nodup → (∀ r ∈ rows, (r.2.2.map (·.1)).Nodup) → (eds rows).Nodup
  | [], _, _ => List.nodup_nil
  | r :: rows, h, hn => by
    rw [List.map_cons, List.nodup_cons] at h
    have ih := eds_nodup h.2 fun q hq => hn q (List.mem_cons_of_mem _ hq)
    show ((r.2.2.map fun e => (r.1, e.1, e.2)) ++ eds rows).Nodup
    refine List.nodup_append.mpr ⟨?_, ih, ?_⟩
    · refine nodup_map_inj (nodup_of_map (hn r (List.mem_cons_self ..))) fun a _ b _ e => ?_
      simp only [Prod.mk.injEq] at e
      exact Prod.ext e.2.1 e.2.2
    · rintro ⟨d, x, n⟩ ha ⟨d', x', n'⟩ hb e
      cases e
      obtain ⟨e0, _, e1⟩ := List.mem_map.mp ha
      cases e1
      exact h.1 (mem_eds.mp hb).id
theorem count_le_one {α : Type} {f : α → Int} {n : Int} : ∀ {l : List α}, l.Nodup → (∀ a ∈ l, ∀ b ∈ l, f a = n → f b = n → a = b) → (l.map f).count n ≤ 1
  | [], _, _ => Nat.zero_le _
  | a :: l, h, i => by
    rw [List.nodup_cons] at h
    have ih := count_le_one h.2 fun a ha b hb => i a (List.mem_cons_of_mem _ ha) b (List.mem_cons_of_mem _ hb)
    rw [List.map_cons, List.count_cons]
    by_cases e : f a = n
    · have : (l.map f).count n = 0 := List.count_eq_zero.mpr fun z => by
        obtain ⟨b, hb, e2⟩ := List.mem_map.mp z
        exact h.1 (i a (List.mem_cons_self ..) b (List.mem_cons_of_mem _ hb) e e2 ▸ hb)
      rw [this]
      split <;> omega
    · rw [if_neg (by simpa using e)]; omega
theorem count_uniq {α : Type} {f : α → Int} {n : Int} : ∀ {l : List α}, (l.map f).count n ≤ 1 → ∀ a ∈ l, ∀ b ∈ l, f a = n → f b = n → a = b
  | [], _, a, ha, _, _ => by cases ha
  | c :: l, h, a, ha, b, hb => by
    intro ea eb
    rw [List.map_cons, List.count_cons] at h
    have z : ∀ y ∈ l, f y = n → f c ≠ n := fun y hy ey ec => by
      rw [if_pos (by simpa using ec)] at h
      have : 0 < (l.map f).count n := List.count_pos_iff.mpr (by rw [← ey]; exact List.mem_map_of_mem hy)
      omega
    rcases List.mem_cons.mp ha with rfl | ha' <;> rcases List.mem_cons.mp hb with rfl | hb'
    · rfl
    · exact absurd ea (z b hb' eb)
    · exact absurd eb (z a ha' ea)
    · exact count_uniq (Nat.le_trans (Nat.le_add_right _ _) h) a ha' b hb' ea eb
theorem TreeV.uniq {rows : List Nd} {made : Int} (V : TreeV rows made) {r : Nd} (hr : r ∈ rows) (hk : r.2.1 = ("drawer" : Str)) {d d' : Int} {x x' : Str} (h : Ed rows d x r.1) (h' : Ed rows d' x' r.1) : d = d' ∧ x = x' := by
  have o := V.one r hr hk
  rw [tgs_eds] at o
  have := count_uniq (f := fun e : Int × Str × Int => e.2.2) o _ (mem_eds.mpr h) _ (mem_eds.mpr h') rfl rfl
  simp only [Prod.mk.injEq] at this
  exact ⟨this.1, this.2.1⟩
theorem TreeV.fun_ {rows : List Nd} {made : Int} (V : TreeV rows made) {d n m : Int} {x : Str} (h : Ed rows d x n) (h' : Ed rows d x m) : n = m := by
  obtain ⟨r, hr, rfl, he⟩ := h
  obtain ⟨q, hq, e, hf⟩ := h'
  have a := V.row hr
  have b := V.row hq
  rw [e, a] at b
  cases b
  have nd := V.nd r hr
  have i : ∀ {l : List (Str × Int)}, (l.map (·.1)).Nodup → (x, n) ∈ l → (x, m) ∈ l → n = m := by
    intro l
    induction l with
    | nil => intro _ h; cases h
    | cons p l ih =>
      intro nd h1 h2
      rw [List.map_cons, List.nodup_cons] at nd
      rcases List.mem_cons.mp h1 with e1 | h1 <;> rcases List.mem_cons.mp h2 with e2 | h2
      · rw [← e1] at e2; exact (Prod.mk.inj e2).2.symm
      · exact absurd (List.mem_map_of_mem (f := fun p : Str × Int => p.1) h2) (by rw [← e1] at nd; exact nd.1)
      · exact absurd (List.mem_map_of_mem (f := fun p : Str × Int => p.1) h1) (by rw [← e2] at nd; exact nd.1)
      · exact ih nd.2 h1 h2
  exact i nd he hf
end KD
namespace KD
open PySem PySem.Spec PyProof.Rows L2 DL KB
structure NsOk (NS : List Str) : Prop where
  len : NS.length ≤ 12
  ok : ∀ x ∈ NS, ltr x = true
structure TreeN (NS : List Str) (rows : List Nd) (made : Int) : Prop where
  v : TreeV rows made
  ns : NsOk NS
  nm : ∀ r ∈ rows, ∀ e ∈ r.2.2, e.1 ∈ NS
structure TreeU (NS : List Str) (rows : List Nd) (made : Int) : Prop where
  asc : (rows.map (·.1)).Pairwise (· < ·)
  top : ∃ es r, rows = ((0 : Int), ("drawer" : Str), es) :: r
  lt : ∀ r ∈ rows, r.1 < made
  kd : ∀ r ∈ rows, isK r.2.1
  sh : ∀ r ∈ rows, r.2.1 = ("sheet" : Str) → r.2.2 = []
  nd : ∀ r ∈ rows, (r.2.2.map (·.1)).Nodup
  nm : ∀ r ∈ rows, ∀ e ∈ r.2.2, e.1 ∈ NS
theorem TreeU.nodup {NS : List Str} {rows : List Nd} {made : Int} (V : TreeU NS rows made) : (rows.map (·.1)).Nodup := V.asc.imp fun h e => by omega
theorem TreeU.row {NS : List Str} {rows : List Nd} {made : Int} (V : TreeU NS rows made) {r : Nd} (h : r ∈ rows) : rowO rows r.1 = some r := find_of_mem (f := fun r : Nd => r.1) V.nodup h
theorem TreeN.u {NS : List Str} {rows : List Nd} {made : Int} (W : TreeN NS rows made) : TreeU NS rows made := ⟨W.v.asc, W.v.top, W.v.lt, W.v.kd, W.v.sh, W.v.nd, W.nm⟩
theorem chs_other {n : Int} : ∀ (cs : List Chg) (f : Int → List (Str × Option Int)), (∀ c ∈ cs, c.1 ≠ n) → (cs.foldl chgF f) n = f n
  | [], _, _ => rfl
  | c :: cs, f, h => by
    rw [List.foldl_cons, chs_other cs _ fun c hc => h c (List.mem_cons_of_mem _ hc)]
    unfold chgF
    rw [if_neg fun e => h c (List.mem_cons_self ..) e.symm]
theorem chs_nm {NS : List Str} : ∀ (cs : List Chg) (f : Int → List (Str × Option Int)) {n : Int}, (∀ c ∈ cs, c.2.1 ∈ NS) → (∀ x ∈ (f n).map (·.1), x ∈ NS) → ∀ x ∈ ((cs.foldl chgF f) n).map (·.1), x ∈ NS
  | [], _, _, _, h => h
  | c :: cs, f, n, hc, h => by
    rw [List.foldl_cons]
    refine chs_nm cs _ (fun c hc' => hc c (List.mem_cons_of_mem _ hc')) ?_
    unfold chgF
    split
    · rw [putO_names]
      split
      · exact h
      · intro x hx
        rcases List.mem_append.mp hx with hx | hx
        · exact h x hx
        · rw [List.mem_singleton] at hx; rw [hx]; exact hc c (List.mem_cons_self ..)
    · exact h
theorem opn_names (es : List (Str × Int)) : (opn es).map (·.1) = es.map (·.1) := by
  unfold opn; rw [List.map_map]; rfl
theorem TreeU.lt_ {NS : List Str} {rows : List Nd} {made : Int} {cs : List Chg} (U : TreeU NS rows made) (cd : ∀ c ∈ cs, ∃ r ∈ rows, r.1 = c.1 ∧ r.2.1 = ("drawer" : Str)) (cn : ∀ c ∈ cs, c.2.1 ∈ NS) (ct : ∀ d x n, Nw rows cs d x n → n ∈ rows.map (·.1) ∧ 0 < n) : LT NS rows made cs := by
  have f0 : ∀ r ∈ rows, fst0 rows r.1 = opn r.2.2 := fun r hr => by unfold fst0; rw [entO_eq (U.row hr)]
  refine ⟨U.asc, U.top, U.lt, U.kd, fun r hr hs => ?_, fun r hr => ?_, fun r hr e he => ?_, fun r hr e he => ?_⟩
  · unfold chs
    rw [chs_other cs _ fun c hc e => ?_, f0 r hr, U.sh r hr hs]
    · rfl
    · obtain ⟨q, hq, e1, e2⟩ := cd c hc
      have a := U.row hq
      have b := U.row hr
      rw [e1, e, b] at a
      cases a
      rw [e2] at hs
      exact drawer_ne_sheet hs
  · refine (chs_ok (rows := rows) cs (fst0 rows) (fun n => ?_) r.1).1
    unfold fst0
    rw [opn_names]
    cases e : rowO rows n with
    | none => rw [entO_none e]; exact List.nodup_nil
    | some q => rw [entO_eq e]; exact U.nd q (rowO_mem e).1
  · refine chs_nm cs (fst0 rows) cn (fun x hx => ?_) e.1 (List.mem_map_of_mem he)
    rw [f0 r hr, opn_names] at hx
    obtain ⟨p, hp, rfl⟩ := List.mem_map.mp hx
    exact U.nm r hr p hp
  · exact ct r.1 e.1 e.2 ⟨List.mem_map_of_mem hr, kp_mem.mp he⟩
theorem TreeU.lay {NS : List Str} (ns : NsOk NS) {rows : List Nd} {made : Int} {cs : List Chg} (U : TreeU NS rows made) (cd : ∀ c ∈ cs, ∃ r ∈ rows, r.1 = c.1 ∧ r.2.1 = ("drawer" : Str)) (cn : ∀ c ∈ cs, c.2.1 ∈ NS) (ct : ∀ d x n, Nw rows cs d x n → n ∈ rows.map (·.1) ∧ 0 < n)
    (em : ∀ r ∈ rows, r.1 ≠ 0 → (∀ d x, ¬ Nw rows cs d x r.1) → ∀ x n, ¬ Nw rows cs r.1 x n)
    (one : ∀ r ∈ rows, r.2.1 = ("drawer" : Str) → ∀ d x d' x', Nw rows cs d x r.1 → Nw rows cs d' x' r.1 → d = d' ∧ x = x')
    (up : ∀ rs, (∀ d x n, Ed rs d x n ↔ Nw rows cs d x n) → ∀ r ∈ rows, r.2.1 = ("drawer" : Str) → r.1 = 0 ∨ (∃ d x, Nw rows cs d x r.1) → Reach rs r.1) : TreeN NS (lay rows cs) made := by
  have L := U.lt_ cd cn ct
  have em' : ∀ r ∈ rows, stays rows cs (rowL rows cs r) = false → kp (chs rows cs r.1) = [] := fun r hr h => by
    unfold stays at h
    rw [Bool.or_eq_false_iff] at h
    have h1 : r.1 ≠ 0 := of_decide_eq_false h.1
    have h2 : r.1 ∉ named rows cs := of_decide_eq_false h.2
    refine List.eq_nil_iff_forall_not_mem.mpr fun e he => ?_
    exact em r hr h1 (fun d x hn => h2 (named_iff.mpr ⟨d, x, hn⟩)) e.1 e.2 ⟨List.mem_map_of_mem hr, kp_mem.mp he⟩
  obtain ⟨asc, lt, kd, sh, nd, nm⟩ := L.easy
  have E : ∀ d x n, Ed (KD.lay rows cs) d x n ↔ Nw rows cs d x n := fun d x n => Ed_lay em'
  refine ⟨⟨asc, ?_, lt, kd, sh, nd, fun q hq => Nat.le_trans (names_few (nd q hq) (nm q hq)) ns.len, fun q hq e he => ns.ok _ (nm q hq e he), L.tgt, lay_hd em', fun q hq hk => ?_, fun q hq hk => ?_⟩, ns, nm⟩
  · obtain ⟨es, r, e⟩ := U.top
    refine ⟨(rowL rows cs (0, "drawer", es)).2.2, (r.map (rowL rows cs)).filter (stays rows cs), ?_⟩
    have : KD.lay rows cs = ((((0 : Int), ("drawer" : Str), es) :: r).map (rowL rows cs)).filter (stays rows cs) := by
      conv => lhs; unfold KD.lay; rw [e]
      rw [← e]
    rw [this, List.map_cons, List.filter_cons]
    have s : stays rows cs (rowL rows cs (0, "drawer", es)) = true := by unfold stays rowL; simp
    rw [if_pos s]; rfl
  · obtain ⟨r, hr, rfl, _⟩ := lay_mem.mp hq
    rw [tgs_eds]
    refine count_le_one (eds_nodup (asc.imp fun h e => by omega) nd) ?_
    rintro ⟨d, x, n⟩ ha ⟨d', x', n'⟩ hb e1 e2
    have e1 : n = r.1 := e1
    have e2 : n' = r.1 := e2
    subst e1 e2
    obtain ⟨e3, e4⟩ := one r hr hk d x d' x' ((E ..).mp (mem_eds.mp ha)) ((E ..).mp (mem_eds.mp hb))
    rw [e3, e4]
  · obtain ⟨r, hr, rfl, hs⟩ := lay_mem.mp hq
    refine up _ E r hr hk ?_
    unfold stays at hs
    rw [Bool.or_eq_true] at hs
    rcases hs with h | h
    · exact Or.inl (of_decide_eq_true h)
    · exact Or.inr (named_iff.mp (of_decide_eq_true h))
theorem reach_gen {rows rs : List Nd} {X L : Int → Prop} (surv : ∀ d x m, Ed rows d x m → ¬ X m → Ed rs d x m) (xr : ∀ m, X m → ¬ L m → Reach rs m) (ln : ∀ d x m, Ed rows d x m → ¬ L d) {m : Int} (h : Reach rows m) : ¬ L m → Reach rs m := by
  induction h with
  | top => intro _; exact .top
  | @step r e hr he _ ih =>
    intro hl
    have ed : Ed rows r.1 e.1 e.2 := ⟨r, hr, rfl, he⟩
    by_cases hx : X e.2
    · exact xr _ hx hl
    · exact (ih (ln _ _ _ ed)).ed (surv _ _ _ ed hx)
theorem hold_Ed {rows : List Nd} {x p : Int} : p ∈ hold rows x ↔ ∃ s, Ed rows p s x := by
  rw [hold_mem]
  constructor
  · rintro ⟨r, hr, e, ⟨s, n⟩, he, rfl⟩; exact ⟨s, r, hr, e, he⟩
  · rintro ⟨s, r, hr, e, he⟩; exact ⟨r, hr, e, _, he, rfl⟩
theorem climb_gen {rows rs : List Nd} {X : Int → Prop} (surv : ∀ d x m, Ed rows d x m → ¬ X m → Ed rs d x m) {d : Int} {l : List Int} (c : Climb rows d l) : (∀ y ∈ d :: l, ¬ X y) → Reach rs d := by
  induction c with
  | top => intro _; exact .top
  | @step x p t l hx hp c ih =>
    intro h
    obtain ⟨s, ed⟩ := hold_Ed.mp (by rw [hp]; exact List.mem_cons_self .. : p ∈ hold rows x)
    exact (ih fun y hy => h y (List.mem_cons_of_mem _ hy)).ed (surv _ _ _ ed (h x (List.mem_cons_self ..)))
theorem Climb.not_mem {rows : List Nd} {x : Int} {l : List Int} (h : Climb rows x l) : x ∉ l := fun z => by
  obtain ⟨m, a, b⟩ := h.sub _ z
  rw [h.uniq a] at b
  exact Nat.lt_irrefl _ b
theorem Climb.ed {rows : List Nd} {x : Int} {l : List Int} (h : Climb rows x l) : ∀ y ∈ l, ∃ s n, Ed rows y s n := by
  induction h with
  | top => intro y hy; cases hy
  | @step x p t l hx hp c ih =>
    intro y hy
    rcases List.mem_cons.mp hy with rfl | hy
    · obtain ⟨s, ed⟩ := hold_Ed.mp (by rw [hp]; exact List.mem_cons_self .. : y ∈ hold rows x)
      exact ⟨s, x, ed⟩
    · exact ih y hy
theorem TreeV.noEd {rows : List Nd} {made : Int} (V : TreeV rows made) {r : Nd} (hr : r ∈ rows) (hs : r.2.1 = ("sheet" : Str)) : ∀ x n, ¬ Ed rows r.1 x n := by
  rintro x n ⟨q, hq, e, he⟩
  have a := V.row hq
  rw [e, V.row hr] at a
  cases a
  rw [V.sh r hr hs] at he
  cases he
theorem TreeV.drw_ {rows : List Nd} {made : Int} (V : TreeV rows made) {d n : Int} {x : Str} (h : Ed rows d x n) : ∃ r ∈ rows, r.1 = d ∧ r.2.1 = ("drawer" : Str) := by
  obtain ⟨r, hr, e, he⟩ := h
  exact ⟨r, hr, e, V.drawer hr he⟩
theorem TreeV.tg_ {rows : List Nd} {made : Int} (V : TreeV rows made) {d n : Int} {x : Str} (h : Ed rows d x n) : n ∈ rows.map (·.1) ∧ 0 < n := by
  obtain ⟨r, hr, e, he⟩ := h
  exact V.tg r hr _ he
theorem TreeV.below {rows : List Nd} {made : Int} (V : TreeV rows made) {d n : Int} {x : Str} (h : Ed rows d x n) : n ∉ d :: KD.abv rows d := by
  obtain ⟨r, hr, rfl, hk⟩ := V.drw_ h
  have c := V.abv hr hk
  obtain ⟨hn, hp⟩ := V.tg_ h
  obtain ⟨q, hq, e⟩ := List.mem_map.mp hn
  have e : q.1 = n := e
  subst e
  rcases V.kd q hq with k | k
  · have c2 := V.abv hq k
    have key : KD.abv rows q.1 = r.1 :: KD.abv rows r.1 := by
      have hm : r.1 ∈ hold rows q.1 := hold_Ed.mpr ⟨x, h⟩
      have h1 := V.one q hq k
      rw [← hold_count] at h1
      cases hh : hold rows q.1 with
      | nil => rw [hh] at hm; cases hm
      | cons p t =>
        rw [hh] at h1 hm
        have ht : t = [] := by
          cases t with
          | nil => rfl
          | cons _ _ => simp at h1
        subst ht
        have e : r.1 = p := by simpa using hm
        exact c2.uniq (.step (by omega) (by rw [hh, ← e]) c)
    rw [← key]
    exact c2.not_mem
  · intro hm
    rcases List.mem_cons.mp hm with e | hm
    · obtain ⟨s, hs⟩ : ∃ s, Ed rows q.1 s q.1 := ⟨x, by rw [← e] at h; exact h⟩
      exact V.noEd hq k s q.1 hs
    · obtain ⟨s, m, ed⟩ := c.ed _ hm
      exact V.noEd hq k s m ed
end KD
namespace KD
open PySem PySem.Spec PyProof.Rows L2 DL KB
theorem up_gen {rows rs : List Nd} {made : Int} (V : TreeV rows made) {X L : Int → Prop} (surv : ∀ d x m, Ed rows d x m → ¬ X m → Ed rs d x m) (xr : ∀ m, X m → ¬ L m → Reach rs m) (ln : ∀ d x m, Ed rows d x m → ¬ L d)
    (lnN : ∀ d x m, Ed rs d x m → ¬ L d ∧ ∃ q ∈ rows, q.1 = d ∧ q.2.1 = ("drawer" : Str)) : ∀ r ∈ rows, r.2.1 = ("drawer" : Str) → r.1 = 0 ∨ (∃ d x, Ed rs d x r.1) → Reach rs r.1 := fun r hr hk h => by
  by_cases hl : L r.1
  · rcases h with h | ⟨d, x, ed⟩
    · rw [h]; exact .top
    · obtain ⟨h1, q, hq, rfl, hk2⟩ := lnN _ _ _ ed
      exact (reach_gen surv xr ln (V.up q hq hk2) h1).ed ed
  · exact reach_gen surv xr ln (V.up r hr hk) hl
theorem lk_some {rows : List Nd} {made : Int} (V : TreeV rows made) {d n : Int} {x : Str} (h : lk x (entO rows d) = some n) : Ed rows d x n := (ent_Ed V.nodup).mp (lk_mem h)
theorem lk_none {rows : List Nd} {made : Int} (V : TreeV rows made) {d : Int} {x : Str} (h : lk x (entO rows d) = none) : ∀ n, ¬ Ed rows d x n := fun n ed => by
  have hm := (ent_Ed V.nodup).mpr ed
  unfold lk at h
  rw [Option.map_eq_none_iff, List.find?_eq_none] at h
  exact h _ hm (decide_eq_true rfl)
theorem lk_Ed {rows : List Nd} {made : Int} (V : TreeV rows made) {d n : Int} {x : Str} (ed : Ed rows d x n) : lk x (entO rows d) = some n := by
  cases h : lk x (entO rows d) with
  | none => exact absurd ed (lk_none V h n)
  | some m => rw [V.fun_ ed (lk_some V h)]
theorem TreeV.dr {rows : List Nd} {made : Int} (V : TreeV rows made) {w : List Str} (h : (drw rows w).2 = .ok) : ∃ r ∈ rows, r.1 = (drw rows w).1 ∧ r.2.1 = ("drawer" : Str) := by
  obtain ⟨r, e, hr, e1⟩ := V.at_ (drw_in V w)
  refine ⟨r, hr, e1, ?_⟩
  have := drw_ok V h
  unfold kindO at this
  rw [e] at this
  exact (V.kd r hr).resolve_right this
theorem fullN_no {rows : List Nd} {made : Int} (V : TreeV rows made) {n : Int} (h : fullN rows n ≠ true) : ∀ x m, ¬ Ed rows n x m := fun x m ed => by
  obtain ⟨r, hr, rfl, he⟩ := ed
  unfold fullN at h
  rw [V.row hr] at h
  apply h
  show (decide (r.2.1 = ("drawer" : Str)) && !decide (r.2.2 = [])) = true
  have : r.2.2 ≠ [] := fun z => by rw [z] at he; cases he
  rw [decide_eq_true (V.drawer hr he), decide_eq_false this]; rfl
theorem TreeV.hd_ {rows : List Nd} {made : Int} (V : TreeV rows made) {r : Nd} (hr : r ∈ rows) (h0 : r.1 ≠ 0) : ∃ d x, Ed rows d x r.1 := by
  have := V.hd r hr h0
  unfold tgs at this
  obtain ⟨q, hq, h⟩ := List.mem_flatMap.mp this
  obtain ⟨e, he, e2⟩ := List.mem_map.mp h
  exact ⟨q.1, e.1, q, hq, rfl, by rw [← e2]; exact he⟩
theorem lay_drop {NS : List Str} {rows : List Nd} {made : Int} (W : TreeN NS rows made) {d0 n : Int} {x0 : Str} (ed0 : Ed rows d0 x0 n) (hx : x0 ∈ NS) (hf : ∀ x m, ¬ Ed rows n x m) : TreeN NS (lay rows [(d0, x0, none)]) made := by
  have V := W.v
  have N : ∀ d x m, Nw rows [(d0, x0, none)] d x m ↔ Ed rows d x m ∧ ¬ (d = d0 ∧ x = x0) := fun d x m => by
    rw [Nw1 V.nodup]
    constructor
    · rintro ⟨hd, h⟩
      by_cases c : d = d0 ∧ x = x0
      · rw [if_pos c] at h; cases h
      · rw [if_neg c] at h; exact ⟨h, c⟩
    · rintro ⟨h, c⟩
      exact ⟨h.id, by rw [if_neg c]; exact h⟩
  refine W.u.lay W.ns (fun c hc => ?_) (fun c hc => ?_) (fun d x m h => V.tg_ ((N ..).mp h).1) (fun r hr h0 hno x m h => ?_) (fun r hr hk d x d' x' h h' => V.uniq hr hk ((N ..).mp h).1 ((N ..).mp h').1) (fun rs E => ?_)
  · rw [List.mem_singleton] at hc; rw [hc]; exact V.drw_ ed0
  · rw [List.mem_singleton] at hc; rw [hc]; exact hx
  · obtain ⟨d, y, ed⟩ := V.hd_ hr h0
    by_cases c : d = d0 ∧ y = x0
    · rw [c.1, c.2] at ed
      rw [V.fun_ ed ed0] at h
      exact hf _ _ ((N ..).mp h).1
    · exact hno d y ((N ..).mpr ⟨ed, c⟩)
  · have E' : ∀ d x m, Ed rs d x m ↔ Ed rows d x m ∧ ¬ (d = d0 ∧ x = x0) := fun d x m => (E ..).trans (N ..)
    have := up_gen V (rs := rs) (X := fun m => m = n) (L := fun m => m = n) (fun d x m ed hm => (E' ..).mpr ⟨ed, fun c => hm (by rw [c.1, c.2] at ed; exact V.fun_ ed ed0)⟩) (fun m h1 h2 => absurd h1 h2) (fun d x m ed h => hf x m (by rw [← h]; exact ed))
      (fun d x m ed => ⟨fun h => hf x m (by rw [← h]; exact ((E' ..).mp ed).1), V.drw_ ((E' ..).mp ed).1⟩)
    exact fun r hr hk h => this r hr hk (h.imp id fun ⟨d, x, z⟩ => ⟨d, x, (E ..).mpr z⟩)
theorem lay_link {NS : List Str} {rows : List Nd} {made : Int} (W : TreeN NS rows made) {d1 n : Int} {x1 : Str} (hd : ∃ r ∈ rows, r.1 = d1 ∧ r.2.1 = ("drawer" : Str)) (hx : x1 ∈ NS) (h1 : ∀ m, ¬ Ed rows d1 x1 m) (hn : n ∈ rows.map (·.1)) (hp : 0 < n) (hs : kindO rows n ≠ ("drawer" : Str)) : TreeN NS (lay rows [(d1, x1, some n)]) made := by
  have V := W.v
  have hd1 : d1 ∈ rows.map (·.1) := by obtain ⟨r, hr, rfl, _⟩ := hd; exact List.mem_map_of_mem hr
  have N : ∀ d x m, Nw rows [(d1, x1, some n)] d x m ↔ Ed rows d x m ∨ (d = d1 ∧ x = x1 ∧ m = n) := fun d x m => by
    rw [Nw1 V.nodup]
    constructor
    · rintro ⟨_, h⟩
      by_cases c : d = d1 ∧ x = x1
      · rw [if_pos c] at h; exact Or.inr ⟨c.1, c.2, (Option.some.inj h).symm⟩
      · rw [if_neg c] at h; exact Or.inl h
    · rintro (h | ⟨rfl, rfl, rfl⟩)
      · refine ⟨h.id, ?_⟩
        rw [if_neg fun c : d = d1 ∧ x = x1 => h1 m (by rw [← c.1, ← c.2]; exact h)]; exact h
      · exact ⟨hd1, by rw [if_pos ⟨rfl, rfl⟩]⟩
  have nk : ∀ r ∈ rows, r.2.1 = ("drawer" : Str) → r.1 ≠ n := fun r hr hk e => by
    apply hs
    unfold kindO
    rw [← e, V.row hr]; exact hk
  refine W.u.lay W.ns (fun c hc => ?_) (fun c hc => ?_) (fun d x m h => ?_) (fun r hr h0 hno x m h => ?_) (fun r hr hk d x d' x' h h' => ?_) (fun rs E => ?_)
  · rw [List.mem_singleton] at hc; rw [hc]; exact hd
  · rw [List.mem_singleton] at hc; rw [hc]; exact hx
  · rcases (N ..).mp h with h | ⟨_, _, rfl⟩
    · exact V.tg_ h
    · exact ⟨hn, hp⟩
  · obtain ⟨d, y, ed⟩ := V.hd_ hr h0
    exact hno d y ((N ..).mpr (Or.inl ed))
  · rcases (N ..).mp h with h | ⟨_, _, e⟩
    · rcases (N ..).mp h' with h' | ⟨_, _, e⟩
      · exact V.uniq hr hk h h'
      · exact absurd e (nk r hr hk)
    · exact absurd e (nk r hr hk)
  · have := up_gen V (rs := rs) (X := fun _ => False) (L := fun _ => False) (fun d x m ed _ => (E ..).mpr ((N ..).mpr (Or.inl ed))) (fun m h1 h2 => h1.elim) (fun d x m ed h => h)
      (fun d x m ed => ⟨id, by
        rcases (N ..).mp ((E ..).mp ed) with h | ⟨rfl, _, _⟩
        · exact V.drw_ h
        · exact hd⟩)
    exact fun r hr hk h => this r hr hk (h.imp id fun ⟨d, x, z⟩ => ⟨d, x, (E ..).mpr z⟩)
theorem lay_make {NS : List Str} {rows : List Nd} {made : Int} (W : TreeN NS rows made) {d1 : Int} {x1 kd : Str} (hd : ∃ r ∈ rows, r.1 = d1 ∧ r.2.1 = ("drawer" : Str)) (hx : x1 ∈ NS) (h1 : ∀ m, ¬ Ed rows d1 x1 m) (hk : isK kd) : TreeN NS (lay (rows ++ [(made, kd, [])]) [(d1, x1, some made)]) (made + 1) := by
  have V := W.v
  have U : TreeU NS (rows ++ [(made, kd, [])]) (made + 1) := by
    refine ⟨?_, ?_, fun r hr => ?_, fun r hr => ?_, fun r hr hs => ?_, fun r hr => ?_, fun r hr e he => ?_⟩
    · rw [List.map_append, List.pairwise_append]
      refine ⟨V.asc, List.pairwise_singleton .., fun a ha b hb => ?_⟩
      obtain ⟨r, hr, rfl⟩ := List.mem_map.mp ha
      simp only [List.map_cons, List.map_nil, List.mem_singleton] at hb
      rw [hb]; exact V.lt r hr
    · obtain ⟨es, r, e⟩ := V.top
      exact ⟨es, r ++ [(made, kd, [])], by rw [e]; rfl⟩
    all_goals rcases List.mem_append.mp hr with hr | hr
    · have := V.lt r hr; omega
    · rw [List.mem_singleton] at hr; rw [hr]; show made < made + 1; omega
    · exact V.kd r hr
    · rw [List.mem_singleton] at hr; rw [hr]; exact hk
    · exact V.sh r hr hs
    · rw [List.mem_singleton] at hr; rw [hr]
    · exact V.nd r hr
    · rw [List.mem_singleton] at hr; rw [hr]; exact List.nodup_nil
    · exact W.nm r hr e he
    · rw [List.mem_singleton] at hr; rw [hr] at he; cases he
  have Ee : ∀ d x m, Ed (rows ++ [(made, kd, [])]) d x m ↔ Ed rows d x m := fun d x m => by
    constructor
    · rintro ⟨r, hr, e, he⟩
      rcases List.mem_append.mp hr with hr | hr
      · exact ⟨r, hr, e, he⟩
      · rw [List.mem_singleton] at hr; rw [hr] at he; cases he
    · rintro ⟨r, hr, e, he⟩; exact ⟨r, List.mem_append_left _ hr, e, he⟩
  have idl : ∀ d, d ∈ rows.map (·.1) → d ∈ (rows ++ [((made, kd, []) : Nd)]).map (·.1) := fun d h => by rw [List.map_append]; exact List.mem_append_left _ h
  have hd1 : d1 ∈ rows.map (·.1) := by obtain ⟨r, hr, rfl, _⟩ := hd; exact List.mem_map_of_mem hr
  have N : ∀ d x m, Nw (rows ++ [(made, kd, [])]) [(d1, x1, some made)] d x m ↔ Ed rows d x m ∨ (d = d1 ∧ x = x1 ∧ m = made) := fun d x m => by
    rw [Nw1 U.nodup]
    constructor
    · rintro ⟨_, h⟩
      by_cases c : d = d1 ∧ x = x1
      · rw [if_pos c] at h; exact Or.inr ⟨c.1, c.2, (Option.some.inj h).symm⟩
      · rw [if_neg c] at h; exact Or.inl ((Ee ..).mp h)
    · rintro (h | ⟨rfl, rfl, rfl⟩)
      · refine ⟨idl _ h.id, ?_⟩
        rw [if_neg fun c : d = d1 ∧ x = x1 => h1 m (by rw [← c.1, ← c.2]; exact h)]; exact (Ee ..).mpr h
      · exact ⟨idl _ hd1, by rw [if_pos ⟨rfl, rfl⟩]⟩
  have mp : 0 < made := by
    obtain ⟨es, r, e⟩ := V.top
    exact V.lt _ (by rw [e]; exact List.mem_cons_self ..)
  have nt : ∀ d x, ¬ Ed rows d x made := fun d x h => by
    obtain ⟨hm, _⟩ := V.tg_ h
    obtain ⟨r, hr, e⟩ := List.mem_map.mp hm
    have := V.lt r hr
    omega
  refine U.lay W.ns (fun c hc => ?_) (fun c hc => ?_) (fun d x m h => ?_) (fun r hr h0 hno x m h => ?_) (fun r hr hk d x d' x' h h' => ?_) (fun rs E => ?_)
  · rw [List.mem_singleton] at hc; rw [hc]
    obtain ⟨r, hr, z⟩ := hd
    exact ⟨r, List.mem_append_left _ hr, z⟩
  · rw [List.mem_singleton] at hc; rw [hc]; exact hx
  · rcases (N ..).mp h with h | ⟨_, _, rfl⟩
    · exact ⟨idl _ (V.tg_ h).1, (V.tg_ h).2⟩
    · exact ⟨by rw [List.map_append]; exact List.mem_append_right _ (List.mem_singleton.mpr rfl), mp⟩
  · rcases List.mem_append.mp hr with hr | hr
    · obtain ⟨d, y, ed⟩ := V.hd_ hr h0
      exact hno d y ((N ..).mpr (Or.inl ed))
    · rw [List.mem_singleton] at hr
      exact hno d1 x1 ((N ..).mpr (Or.inr ⟨rfl, rfl, by rw [hr]⟩))
  · rcases List.mem_append.mp hr with hr | hr
    · have ne : r.1 ≠ made := by have := V.lt r hr; omega
      rcases (N ..).mp h with h | ⟨_, _, e⟩
      · rcases (N ..).mp h' with h' | ⟨_, _, e⟩
        · exact V.uniq hr hk h h'
        · exact absurd e ne
      · exact absurd e ne
    · rw [List.mem_singleton] at hr
      rw [hr] at h h'
      rcases (N ..).mp h with h | ⟨e1, e2, _⟩
      · exact absurd h (nt _ _)
      · rcases (N ..).mp h' with h' | ⟨e3, e4, _⟩
        · exact absurd h' (nt _ _)
        · exact ⟨e1.trans e3.symm, e2.trans e4.symm⟩
  · have rg : ∀ m, Reach rows m → Reach rs m := fun m h => reach_gen (X := fun _ => False) (L := fun _ => False) (fun d x m ed _ => (E ..).mpr ((N ..).mpr (Or.inl ed))) (fun m h1 h2 => h1.elim) (fun d x m ed h => h) h id
    intro r hr hk h
    rcases List.mem_append.mp hr with hr | hr
    · exact rg _ (V.up r hr hk)
    · rw [List.mem_singleton] at hr
      rw [hr]
      obtain ⟨q, hq, e, hk2⟩ := hd
      have := rg _ (V.up q hq hk2)
      rw [e] at this
      exact this.ed ((E ..).mpr ((N ..).mpr (Or.inr ⟨rfl, rfl, rfl⟩)))
end KD
namespace KD
open PySem PySem.Spec PyProof.Rows L2 DL KB
theorem lay_move {NS : List Str} {rows : List Nd} {made : Int} (W : TreeN NS rows made) {d0 d1 n : Int} {x0 x1 : Str} {old : Option Int} (ed0 : Ed rows d0 x0 n) (hx0 : x0 ∈ NS) (hd : ∃ r ∈ rows, r.1 = d1 ∧ r.2.1 = ("drawer" : Str)) (hx : x1 ∈ NS) (ho : ∀ m, Ed rows d1 x1 m ↔ old = some m)
    (hs : old ≠ some n) (hi : n ∉ d1 :: abv rows d1) (hf : ∀ o, old = some o → ∀ x m, ¬ Ed rows o x m) : TreeN NS (lay rows [(d0, x0, none), (d1, x1, some n)]) made := by
  have V := W.v
  have hd1 : d1 ∈ rows.map (·.1) := by obtain ⟨r, hr, rfl, _⟩ := hd; exact List.mem_map_of_mem hr
  have ne : ¬ (d0 = d1 ∧ x0 = x1) := fun c => hs ((ho n).mp (by rw [← c.1, ← c.2]; exact ed0))
  have N : ∀ d x m, Nw rows [(d0, x0, none), (d1, x1, some n)] d x m ↔ (Ed rows d x m ∧ ¬ (d = d0 ∧ x = x0) ∧ ¬ (d = d1 ∧ x = x1)) ∨ (d = d1 ∧ x = x1 ∧ m = n) := fun d x m => by
    rw [Nw2 V.nodup]
    constructor
    · rintro ⟨_, h⟩
      by_cases c : d = d1 ∧ x = x1
      · rw [if_pos c] at h; exact Or.inr ⟨c.1, c.2, (Option.some.inj h).symm⟩
      · rw [if_neg c] at h
        by_cases c2 : d = d0 ∧ x = x0
        · rw [if_pos c2] at h; cases h
        · rw [if_neg c2] at h; exact Or.inl ⟨h, c2, c⟩
    · rintro (⟨h, c2, c⟩ | ⟨rfl, rfl, rfl⟩)
      · exact ⟨h.id, by rw [if_neg c, if_neg c2]; exact h⟩
      · exact ⟨hd1, by rw [if_pos ⟨rfl, rfl⟩]⟩
  have new : Nw rows [(d0, x0, none), (d1, x1, some n)] d1 x1 n := (N ..).mpr (Or.inr ⟨rfl, rfl, rfl⟩)
  refine W.u.lay W.ns (fun c hc => ?_) (fun c hc => ?_) (fun d x m h => ?_) (fun r hr h0 hno x m h => ?_) (fun r hr hk d x d' x' h h' => ?_) (fun rs E => ?_)
  · simp only [List.mem_cons, List.not_mem_nil, or_false] at hc
    rcases hc with rfl | rfl
    · exact V.drw_ ed0
    · exact hd
  · simp only [List.mem_cons, List.not_mem_nil, or_false] at hc
    rcases hc with rfl | rfl
    · exact hx0
    · exact hx
  · rcases (N ..).mp h with ⟨h, _⟩ | ⟨_, _, rfl⟩
    · exact V.tg_ h
    · exact V.tg_ ed0
  · obtain ⟨d, y, ed⟩ := V.hd_ hr h0
    by_cases c : d = d1 ∧ y = x1
    · rw [c.1, c.2] at ed
      have e := (ho _).mp ed
      rcases (N ..).mp h with ⟨h, _⟩ | ⟨h, _⟩
      · exact hf _ e _ _ h
      · exact hf _ e _ _ (by rw [h]; exact ed)
    · by_cases c2 : d = d0 ∧ y = x0
      · rw [c2.1, c2.2] at ed
        exact hno d1 x1 (by rw [V.fun_ ed ed0]; exact new)
      · exact hno d y ((N ..).mpr (Or.inl ⟨ed, c2, c⟩))
  · have k : ∀ d x, r.1 = n → Ed rows d x r.1 → d = d0 ∧ x = x0 := fun d x e ed => V.uniq hr hk ed (by rw [e]; exact ed0)
    rcases (N ..).mp h with ⟨h, a, _⟩ | ⟨a, b, e⟩ <;> rcases (N ..).mp h' with ⟨h', a', _⟩ | ⟨a', b', e'⟩
    · exact V.uniq hr hk h h'
    · exact absurd (k _ _ e' h) a
    · exact absurd (k _ _ e h') a'
    · exact ⟨a.trans a'.symm, b.trans b'.symm⟩
  · have surv : ∀ d x m, Ed rows d x m → ¬ (m = n ∨ old = some m) → Ed rs d x m := fun d x m ed h => by
      refine (E ..).mpr ((N ..).mpr (Or.inl ⟨ed, fun c => h (Or.inl ?_), fun c => h (Or.inr ?_)⟩))
      · rw [c.1, c.2] at ed; exact V.fun_ ed ed0
      · rw [c.1, c.2] at ed; exact (ho m).mp ed
    have r1 : Reach rs d1 := by
      obtain ⟨q, hq, rfl, hk⟩ := hd
      refine climb_gen surv (V.abv hq hk) fun y hy h => ?_
      rcases h with rfl | h
      · exact hi hy
      · exact V.below ((ho y).mpr h) hy
    have rn : Reach rs n := r1.ed ((E ..).mpr new)
    have := up_gen V (rs := rs) (X := fun m => m = n ∨ old = some m) (L := fun m => old = some m) surv (fun m h1 h2 => by rw [h1.resolve_right h2]; exact rn) (fun d x m ed h => hf d h x m ed)
      (fun d x m ed => by
        rcases (N ..).mp ((E ..).mp ed) with ⟨h, _⟩ | ⟨rfl, _, _⟩
        · exact ⟨fun z => hf d z x m h, V.drw_ h⟩
        · refine ⟨fun z => ?_, hd⟩
          exact hf _ z _ _ ((ho d).mpr z))
    exact fun r hr hk h => this r hr hk (h.imp id fun ⟨d, x, z⟩ => ⟨d, x, (E ..).mpr z⟩)
theorem lay_swap {NS : List Str} {rows : List Nd} {made : Int} (W : TreeN NS rows made) {d0 d1 a b : Int} {x0 x1 : Str} (ea : Ed rows d0 x0 a) (eb : Ed rows d1 x1 b) (hx0 : x0 ∈ NS) (hx1 : x1 ∈ NS) (hab : a ≠ b)
    (ha : a ∉ d1 :: abv rows d1) (hb : b ∉ d0 :: abv rows d0) : TreeN NS (lay rows [(d0, x0, some b), (d1, x1, some a)]) made := by
  have V := W.v
  have ne : ¬ (d0 = d1 ∧ x0 = x1) := fun c => hab (V.fun_ ea (by rw [c.1, c.2]; exact eb))
  have N : ∀ d x m, Nw rows [(d0, x0, some b), (d1, x1, some a)] d x m ↔ (Ed rows d x m ∧ ¬ (d = d0 ∧ x = x0) ∧ ¬ (d = d1 ∧ x = x1)) ∨ (d = d1 ∧ x = x1 ∧ m = a) ∨ (d = d0 ∧ x = x0 ∧ m = b) := fun d x m => by
    rw [Nw2 V.nodup]
    constructor
    · rintro ⟨_, h⟩
      by_cases c : d = d1 ∧ x = x1
      · rw [if_pos c] at h; exact Or.inr (Or.inl ⟨c.1, c.2, (Option.some.inj h).symm⟩)
      · rw [if_neg c] at h
        by_cases c2 : d = d0 ∧ x = x0
        · rw [if_pos c2] at h; exact Or.inr (Or.inr ⟨c2.1, c2.2, (Option.some.inj h).symm⟩)
        · rw [if_neg c2] at h; exact Or.inl ⟨h, c2, c⟩
    · rintro (⟨h, c2, c⟩ | ⟨rfl, rfl, rfl⟩ | ⟨rfl, rfl, rfl⟩)
      · exact ⟨h.id, by rw [if_neg c, if_neg c2]; exact h⟩
      · exact ⟨eb.id, by rw [if_pos ⟨rfl, rfl⟩]⟩
      · exact ⟨ea.id, by rw [if_neg ne, if_pos ⟨rfl, rfl⟩]⟩
  have newa : Nw rows [(d0, x0, some b), (d1, x1, some a)] d1 x1 a := (N ..).mpr (Or.inr (Or.inl ⟨rfl, rfl, rfl⟩))
  have newb : Nw rows [(d0, x0, some b), (d1, x1, some a)] d0 x0 b := (N ..).mpr (Or.inr (Or.inr ⟨rfl, rfl, rfl⟩))
  refine W.u.lay W.ns (fun c hc => ?_) (fun c hc => ?_) (fun d x m h => ?_) (fun r hr h0 hno x m h => ?_) (fun r hr hk d x d' x' h h' => ?_) (fun rs E => ?_)
  · simp only [List.mem_cons, List.not_mem_nil, or_false] at hc
    rcases hc with rfl | rfl
    · exact V.drw_ ea
    · exact V.drw_ eb
  · simp only [List.mem_cons, List.not_mem_nil, or_false] at hc
    rcases hc with rfl | rfl
    · exact hx0
    · exact hx1
  · rcases (N ..).mp h with ⟨h, _⟩ | ⟨_, _, rfl⟩ | ⟨_, _, rfl⟩
    · exact V.tg_ h
    · exact V.tg_ ea
    · exact V.tg_ eb
  · obtain ⟨d, y, ed⟩ := V.hd_ hr h0
    by_cases c : d = d1 ∧ y = x1
    · rw [c.1, c.2] at ed
      exact hno d0 x0 (by rw [V.fun_ ed eb]; exact newb)
    · by_cases c2 : d = d0 ∧ y = x0
      · rw [c2.1, c2.2] at ed
        exact hno d1 x1 (by rw [V.fun_ ed ea]; exact newa)
      · exact hno d y ((N ..).mpr (Or.inl ⟨ed, c2, c⟩))
  · have ka : ∀ d x, r.1 = a → Ed rows d x r.1 → d = d0 ∧ x = x0 := fun d x e ed => V.uniq hr hk ed (by rw [e]; exact ea)
    have kb : ∀ d x, r.1 = b → Ed rows d x r.1 → d = d1 ∧ x = x1 := fun d x e ed => V.uniq hr hk ed (by rw [e]; exact eb)
    rcases (N ..).mp h with ⟨h, p, q⟩ | ⟨p, q, e⟩ | ⟨p, q, e⟩ <;> rcases (N ..).mp h' with ⟨h', p', q'⟩ | ⟨p', q', e'⟩ | ⟨p', q', e'⟩
    · exact V.uniq hr hk h h'
    · exact absurd (ka _ _ e' h) p
    · exact absurd (kb _ _ e' h) q
    · exact absurd (ka _ _ e h') p'
    · exact ⟨p.trans p'.symm, q.trans q'.symm⟩
    · exact absurd (e.symm.trans e') hab
    · exact absurd (kb _ _ e h') q'
    · exact absurd (e'.symm.trans e) hab
    · exact ⟨p.trans p'.symm, q.trans q'.symm⟩
  · have surv : ∀ d x m, Ed rows d x m → ¬ (m = a ∨ m = b) → Ed rs d x m := fun d x m ed h => by
      refine (E ..).mpr ((N ..).mpr (Or.inl ⟨ed, fun c => h (Or.inl ?_), fun c => h (Or.inr ?_)⟩))
      · rw [c.1, c.2] at ed; exact V.fun_ ed ea
      · rw [c.1, c.2] at ed; exact V.fun_ ed eb
    have ra : Reach rs a := by
      obtain ⟨q, hq, e, hk⟩ := V.drw_ eb
      subst e
      refine Reach.ed ((E ..).mpr newa) (climb_gen surv (V.abv hq hk) fun y hy h => ?_)
      rcases h with rfl | rfl
      · exact ha hy
      · exact V.below eb hy
    have rb : Reach rs b := by
      obtain ⟨q, hq, e, hk⟩ := V.drw_ ea
      subst e
      refine Reach.ed ((E ..).mpr newb) (climb_gen surv (V.abv hq hk) fun y hy h => ?_)
      rcases h with rfl | rfl
      · exact V.below ea hy
      · exact hb hy
    have := up_gen V (rs := rs) (X := fun m => m = a ∨ m = b) (L := fun m => False) surv (fun m h1 _ => by
        rcases h1 with rfl | rfl
        · exact ra
        · exact rb) (fun d x m ed h => h)
      (fun d x m ed => ⟨id, by
        rcases (N ..).mp ((E ..).mp ed) with ⟨h, _⟩ | ⟨rfl, _, _⟩ | ⟨rfl, _, _⟩
        · exact V.drw_ h
        · exact V.drw_ eb
        · exact V.drw_ ea⟩)
    exact fun r hr hk h => this r hr hk (h.imp id fun ⟨d, x, z⟩ => ⟨d, x, (E ..).mpr z⟩)
theorem inside_no {rows : List Nd} {n d : Int} (h : inside rows n d ≠ true) : n ∉ d :: abv rows d := fun z => by
  apply h
  unfold inside
  rcases List.mem_cons.mp z with z | z
  · rw [decide_eq_true z]; rfl
  · rw [decide_eq_true z, Bool.or_true]
theorem kind_row {rows : List Nd} {made : Int} (V : TreeV rows made) {r : Nd} (hr : r ∈ rows) : kindO rows r.1 = r.2.1 := by
  unfold kindO; rw [V.row hr]
theorem sheet_no {rows : List Nd} {made : Int} (V : TreeV rows made) {n d : Int} (hn : n ∈ rows.map (·.1)) (hk : kindO rows n ≠ ("drawer" : Str)) (hd : ∃ r ∈ rows, r.1 = d ∧ r.2.1 = ("drawer" : Str)) : n ∉ d :: abv rows d := fun z => by
  obtain ⟨q, hq, e⟩ := List.mem_map.mp hn
  have e : q.1 = n := e
  subst e
  rw [kind_row V hq] at hk
  obtain ⟨r, hr, rfl, k⟩ := hd
  rcases List.mem_cons.mp z with z | z
  · have a := V.row hq
    rw [z, V.row hr] at a
    cases a; exact hk k
  · obtain ⟨s, m, ed⟩ := (V.abv hr k).ed _ z
    exact V.noEd hq ((V.kd q hq).resolve_left hk) s m ed
theorem last_NM {NS : List Str} {w : List Str} (h : w ≠ []) (hw : ∀ x ∈ w, x ∈ NS) : lastN w ∈ NS := by
  unfold lastN
  rw [List.getLast?_eq_getLast h]
  exact hw _ (List.getLast_mem h)
def waysO : Dd → List (List Str)
  | .one _ w => [w]
  | .mk w _ => [w]
  | .two _ w v => [w, v]
def DdN (NS : List Str) (d : Dd) : Prop := Dd.sh d ∧ ∀ w ∈ waysO d, ∀ x ∈ w, x ∈ NS
theorem doF_tree {NS : List Str} {t : TreeT} (W : TreeN NS t.1 t.2) {d : Dd} (ok : DdN NS d) : TreeN NS (doF t d).1.1 (doF t d).1.2 := by
  have V := W.v
  obtain ⟨ok, hns⟩ := ok
  cases d with
  | one x w =>
    obtain ⟨hx, hw, hd⟩ := ok
    rw [doF]
    split
    · exact W
    · split
      · exact W
      · rename_i h1 h2
        have hx : x = ("drop" : Str) := by
          simp only [List.mem_cons, List.not_mem_nil, or_false] at hx
          rcases hx with h | h | h
          · exact absurd h h1
          · exact absurd h h2
          · exact h
        unfold dropF
        split
        · exact W
        · split
          · exact W
          · rename_i n e
            split
            · exact W
            · rename_i hf
              exact lay_drop W (lk_some V e) (last_NM (hd hx) (hns w (List.mem_cons_self ..))) (fullN_no V hf)
  | mk w k =>
    obtain ⟨hw, hn, hk⟩ := ok
    rw [doF]
    unfold makeF
    split
    · exact W
    · rename_i h1
      split
      · exact W
      · rename_i h2
        exact lay_make W (V.dr (Decidable.not_not.mp h1)) (last_NM hn (hns w (List.mem_cons_self ..))) (lk_none V (Decidable.not_not.mp h2)) hk
  | two x w v =>
    obtain ⟨hx, hw, hwn, hv, hvn⟩ := ok
    rw [doF]
    split
    · unfold linkF
      split
      · exact W
      · rename_i h1
        obtain ⟨o1, o2, a, ea, _⟩ := both_ok (Decidable.not_not.mp h1)
        split
        · exact W
        · rename_i n e
          split
          · exact W
          · rename_i hk
            split
            · exact W
            · rename_i h2
              have t := V.tg_ (lk_some V e)
              exact lay_link W (V.dr o2) (last_NM hvn (hns v (List.mem_cons_of_mem _ (List.mem_cons_self ..)))) (lk_none V (Decidable.not_not.mp h2)) t.1 t.2 hk
    · split
      · unfold moveF
        split
        · exact W
        · rename_i h1
          obtain ⟨o1, o2, a, ea, _⟩ := both_ok (Decidable.not_not.mp h1)
          split
          · exact W
          · rename_i n e
            split
            · exact W
            · rename_i hb
              unfold bar at hb
              split at hb
              · cases hb
              · rename_i hs
                split at hb
                · cases hb
                · rename_i hi
                  have en := lk_some V e
                  refine lay_move W en (last_NM hwn (hns w (List.mem_cons_self ..))) (V.dr o2) (last_NM hvn (hns v (List.mem_cons_of_mem _ (List.mem_cons_self ..)))) (old := ent t.1 v) (fun m => ⟨fun ed => lk_Ed V ed, fun ed => lk_some V ed⟩) hs ?_ fun o ho => ?_
                  · by_cases k : kindO t.1 n = ("drawer" : Str)
                    · exact inside_no fun z => hi ⟨k, z⟩
                    · exact sheet_no V (V.tg_ en).1 k (V.dr o2)
                  · rw [ho] at hb
                    simp only at hb
                    split at hb
                    · cases hb
                    · split at hb
                      · cases hb
                      · rename_i hf
                        exact fullN_no V hf
      · unfold swapF
        split
        · exact W
        · split
          · rename_i a b ea eb
            split
            · exact W
            · rename_i hab
              split
              · exact W
              · rename_i hi
                exact lay_swap W (lk_some V ea) (lk_some V eb) (last_NM hwn (hns w (List.mem_cons_self ..))) (last_NM hvn (hns v (List.mem_cons_of_mem _ (List.mem_cons_self ..)))) hab (inside_no fun z => hi (Or.inl z)) (inside_no fun z => hi (Or.inr z))
          · exact W
end KD
namespace KD
open PySem PySem.Spec PyProof.Rows L2 DL KB
def doAll : TreeT → List Dd → TreeT × List D
  | t, [] => (t, [])
  | t, d :: r => ((doAll (doF t d).1 r).1, (doF t d).2 :: (doAll (doF t d).1 r).2)
end KD
namespace KR
open PySem PySem.Spec PyProof.Rows L2 DL
mutual
theorem D_ok_up : ∀ {d : D} {n m : Nat}, d.ok n = true → n ≤ m → d.ok m = true
  | .non, _, _, _, _ => by simp [D.ok] | .bl _, _, _, _, _ => by simp [D.ok] | .int _, _, _, _, _ => by simp [D.ok] | .str _, _, _, _, _ => by simp [D.ok]
  | .tup ds, n + 1, m, h, hm => by
    obtain ⟨m', rfl⟩ : ∃ m', m = m' + 1 := ⟨m - 1, by omega⟩
    rw [D.ok] at *; exact oks_upm h (by omega)
  | .fz ds, n + 1, m, h, hm => by
    obtain ⟨m', rfl⟩ : ∃ m', m = m' + 1 := ⟨m - 1, by omega⟩
    rw [D.ok] at *; exact oks_upm h (by omega)
  | .tup _, 0, _, h, _ => by simp [D.ok] at h
  | .fz _, 0, _, h, _ => by simp [D.ok] at h
  | .ref _, n, _, h, _ => by cases n <;> simp [D.ok] at h
  | .wt _, n, _, h, _ => by cases n <;> simp [D.ok] at h
  | .ty _, n, _, h, _ => by cases n <;> simp [D.ok] at h
theorem oks_upm : ∀ {ds : List D} {n m : Nat}, D.oks ds n = true → n ≤ m → D.oks ds m = true
  | [], _, _, _, _ => rfl
  | d :: r, n, m, h, hm => by
    rw [D.oks, Bool.and_eq_true] at *
    exact ⟨D_ok_up h.1 hm, oks_upm h.2 hm⟩
end
mutual
def big (c : Nat) : D → Bool
  | .int i => decide (i.natAbs ≤ 10 ^ 203 + c)
  | .str x => x.cps.toList.all fun k => decide (k < 16 ^ 8)
  | .tup ds => bigs c ds | .fz ds => bigs c ds
  | _ => true
def bigs (c : Nat) : List D → Bool
  | [] => true
  | d :: r => big c d && bigs c r
end
theorem bigs_iff {c : Nat} {ds : List D} : bigs c ds = true ↔ ∀ d ∈ ds, big c d = true := by
  induction ds with
  | nil => simp [bigs]
  | cons d r ih => rw [bigs, Bool.and_eq_true, ih]; simp
mutual
theorem big_up {c c' : Nat} (h : c ≤ c') : ∀ {d : D}, big c d = true → big c' d = true
  | .int i, z => by rw [big] at *; have := of_decide_eq_true z; exact decide_eq_true (by omega)
  | .str x, z => by rw [big] at *; exact z
  | .tup ds, z => by rw [big] at *; exact bigs_up h z
  | .fz ds, z => by rw [big] at *; exact bigs_up h z
  | .non, _ => by simp [big] | .bl _, _ => by simp [big] | .wt _, _ => by simp [big] | .ref _, _ => by simp [big] | .ty _, _ => by simp [big]
theorem bigs_up {c c' : Nat} (h : c ≤ c') : ∀ {ds : List D}, bigs c ds = true → bigs c' ds = true
  | [], _ => rfl
  | d :: r, z => by rw [bigs, Bool.and_eq_true] at *; exact ⟨big_up h z.1, bigs_up h z.2⟩
end
def bA (ds : List D) : Nat := PyData.bulkAll (D.pys ds)
@[simp] theorem bA_nil : bA [] = 0 := rfl
@[simp] theorem bA_cons {d : D} {r : List D} : bA (d :: r) = d.py.bulk + 1 + bA r := by simp [bA, D.pys, PyData.bulkAll]
@[simp] theorem bA_app {a b : List D} : bA (a ++ b) = bA a + bA b := by
  induction a with
  | nil => simp
  | cons x r ih => simp only [List.cons_append, bA_cons, ih]; omega
@[simp] theorem bulk_tup {ds : List D} : (D.tup ds).py.bulk = bA ds := by simp [D.py, PyData.bulk, bA]
@[simp] theorem bulk_fz {ds : List D} : (D.fz ds).py.bulk = bA ds := by simp [D.py, PyData.bulk, bA]
structure Th (n m c : Nat) (d : D) : Prop where
  ok : d.ok n = true
  bg : big c d = true
  bk : d.py.bulk ≤ m
theorem Th.up {n m c n' m' c' : Nat} {d : D} (h : Th n m c d) (hn : n ≤ n') (hm : m ≤ m') (hc : c ≤ c') : Th n' m' c' d := ⟨D_ok_up h.ok hn, big_up hc h.bg, Nat.le_trans h.bk hm⟩
theorem Th.tup {n m c : Nat} {es : List D} (h1 : ∀ e ∈ es, e.ok n = true) (h2 : ∀ e ∈ es, big c e = true) (h3 : bA es ≤ m) : Th (n + 1) m c (.tup es) :=
  ⟨by rw [D.ok, oks_all, List.all_eq_true]; exact h1, by rw [big, bigs_iff]; exact h2, by rw [bulk_tup]; exact h3⟩
theorem Th.int {n m c : Nat} {i : Int} (h : i.natAbs ≤ 10 ^ 203 + c) : Th n m c (.int i) := ⟨by simp [D.ok], by rw [big]; exact decide_eq_true h, by simp [D.py, PyData.bulk]⟩
theorem Th.str {n m c : Nat} {x : Str} (h : x.cps.toList.all (fun k => decide (k < 16 ^ 8)) = true) (hl : x.length ≤ m) : Th n m c (.str x) := ⟨by simp [D.ok], by rw [big]; exact h, by simp only [D.py, PyData.bulk]; exact hl⟩
theorem repr_len {i : Int} (h : i.natAbs ≤ 10 ^ 203 + 100) : (Str.ofString (toString i)).length ≤ 206 := by
  have h2 : i.natAbs < 10 ^ 204 := by
    have e1 : (10 : Nat) ^ 204 = 10 * 10 ^ 203 := by rw [Nat.pow_succ, Nat.mul_comm]
    have e2 : 100 ≤ (10 : Nat) ^ 203 := Nat.le_trans (by decide : 100 ≤ 10 ^ 2) (Nat.pow_le_pow_right (by decide) (by decide))
    generalize (10 : Nat) ^ 204 = u at *
    generalize (10 : Nat) ^ 203 = v at *
    omega
  have e := int_text_length_le10 (k := 204) (by decide) h2
  rw [PySem.ofString_length]
  exact Nat.le_trans e (by decide)
theorem log_ok {i : Int} (h : i.natAbs ≤ 10 ^ 203 + 100) : i.natAbs.log2 < 1920 := by
  by_cases e : i.natAbs = 0
  · rw [e]; decide
  · refine (Nat.log2_lt e).mpr (Nat.lt_of_le_of_lt h ?_)
    decide +kernel
mutual
theorem big_py : ∀ d : D, big 100 d = true → d.py.showable = true ∧ d.py.leavesShort 210 = true
  | .non, _ => by simp [D.py, PyData.showable, PyData.leavesShort]
  | .bl _, _ => by simp [D.py, PyData.showable, PyData.leavesShort]
  | .int i, h => by
    have h' : i.natAbs ≤ 10 ^ 203 + 100 := by rw [big] at h; exact of_decide_eq_true h
    rw [D.py]
    exact ⟨by rw [PyData.showable]; exact decide_eq_true (log_ok h'), by rw [PyData.leavesShort]; exact decide_eq_true (Nat.le_trans (repr_len h') (by decide))⟩
  | .str x, h => by
    rw [D.py, PyData.showable, PyData.leavesShort]
    exact ⟨rfl, by rw [big] at h; exact h⟩
  | .tup ds, h => by rw [D.py, PyData.showable, PyData.leavesShort]; exact bigs_py ds (by rw [big] at h; exact h)
  | .fz ds, h => by rw [D.py, PyData.showable, PyData.leavesShort]; exact bigs_py ds (by rw [big] at h; exact h)
  | .wt _, _ => by simp [D.py, PyData.showable, PyData.leavesShort]
  | .ref _, _ => by simp [D.py, PyData.showable, PyData.leavesShort]
  | .ty _, _ => by simp [D.py, PyData.showable, PyData.leavesShort]
theorem bigs_py : ∀ ds : List D, bigs 100 ds = true → PyData.showableAll (D.pys ds) = true ∧ PyData.leavesShortAll 210 (D.pys ds) = true
  | [], _ => by simp [D.pys, PyData.showableAll, PyData.leavesShortAll]
  | d :: r, h => by
    rw [bigs, Bool.and_eq_true] at h
    obtain ⟨a, b⟩ := big_py d h.1
    obtain ⟨c, e⟩ := bigs_py r h.2
    rw [D.pys, PyData.showableAll, PyData.leavesShortAll, a, b, c, e]
    exact ⟨rfl, rfl⟩
end
theorem wReprA_big {S : Sto} {Q : KD} {d : D} (ok : d.ok 40 = true) (hb : big 100 d = true) (hk : d.py.bulk ≤ 79000) : wReprA [d] S Q = Q (.str d.py.shown) S := by
  obtain ⟨a, b⟩ := big_py d hb
  refine wReprA_ok ok a ?_
  have := PyData.shown_le_bulk 210 (by decide) d.py b
  rw [sizeLine_eq]
  omega
theorem wReprA_bl {S : Sto} {Q : KD} {b : Bool} : wReprA [.bl b] S Q = Q (.str (PyData.bool b).shown) S :=
  wReprA_big (d := .bl b) rfl rfl (by simp [D.py, PyData.bulk])
theorem Th.repr {n m c : Nat} {d : D} (h : Th n m c d) (hn : n ≤ 40) (hm : m ≤ 79000) (hc : c ≤ 100) {S : Sto} {Q : KD} : wReprA [d] S Q = Q (.str d.py.shown) S :=
  wReprA_big (D_ok_up h.ok hn) (big_up hc h.bg) (Nat.le_trans h.bk hm)
theorem Th.nat {n m c : Nat} {i : Nat} (h : i ≤ 2000) : Th n m c (.int i) := Th.int (Nat.le_trans (by omega : (i : Int).natAbs ≤ 2000) (Nat.le_trans (by decide +kernel : 2000 ≤ 10 ^ 203) (Nat.le_add_right _ _)))
theorem bA_le {k : Nat} : ∀ {es : List D}, (∀ e ∈ es, e.py.bulk ≤ k) → bA es ≤ (k + 1) * es.length
  | [], _ => by simp
  | x :: r, h => by
    have h1 := h x (List.mem_cons_self ..)
    have h2 := bA_le (k := k) (es := r) fun e he => h e (List.mem_cons_of_mem _ he)
    rw [bA_cons, List.length_cons, Nat.mul_succ]
    omega
theorem Th.tups {n m c k : Nat} {es : List D} (h : ∀ e ∈ es, Th n m c e) (hl : es.length ≤ k) : Th (n + 1) ((m + 1) * k) c (.tup es) :=
  Th.tup (fun e he => (h e he).ok) (fun e he => (h e he).bg) (Nat.le_trans (bA_le fun e he => (h e he).bk) (Nat.mul_le_mul_left _ hl))
end KR
namespace KR
open PySem PySem.Spec PyProof.Rows L2 DL
open Builtin.Str (reprChar)
mutual
def pl : D → Bool
  | .non => true | .bl _ => true
  | .int i => decide (0 ≤ i)
  | .str x => x.cps.toList.all fun c => decide (97 ≤ c) && decide (c ≤ 122)
  | .tup ds => pls ds
  | _ => false
def pls : List D → Bool
  | [] => true
  | d :: r => pl d && pls r
end
end KR
namespace KR
open PySem PySem.Spec PyProof.Rows L2 DL
structure Sd (n m : Nat) (d : D) : Prop where
  th : Th n m 0 d
  p : pl d = true
  c : d.cl n = true
theorem Sd.ok {n m : Nat} {d : D} (h : Sd n m d) : d.ok n = true := h.th.ok
end KR
namespace KD
open PySem PySem.Spec PyProof.Rows L2 DL KB
open KR (Sd)
def Wd (t : TreeT) (q : TreeT × D) : Prop := ∃ x r, q.2 = .tup (.str x :: r) ∧ (x = ("made" : Str) → r = [.int t.2] ∧ q.1.2 = t.2 + 1)
theorem Wd.of {t : TreeT} {u : TreeT} {x : Str} {r : List D} (h : x ≠ ("made" : Str)) : Wd t (u, .tup (.str x :: r)) := ⟨x, r, rfl, fun z => absurd z h⟩
end KD
namespace KD
open PySem PySem.Spec PyProof.Rows L2 DL KB
open KR (Sd)
structure TV (NS : List Str) (t : TreeT) (n m : Nat) : Prop where
  v : TreeN NS t.1 t.2
  len : t.1.length ≤ n
  made : t.2 ≤ (m : Int)
theorem TV.step {NS : List Str} {t : TreeT} {n m : Nat} (h : TV NS t n m) {d : Dd} (ok : DdN NS d) : TV NS (doF t d).1 (n + 1) (m + 1) := by
  refine ⟨doF_tree h.v ok, ?_, ?_⟩
  · have := doF_len t d; have := h.len; omega
  · have := h.made
    rcases doF_made t d with e | ⟨e, _⟩ <;> rw [e] <;> omega
theorem TV.up {NS : List Str} {t : TreeT} {n m n' m' : Nat} (h : TV NS t n m) (hn : n ≤ n') (hm : m ≤ m') : TV NS t n' m' := ⟨h.v, Nat.le_trans h.len hn, by have := h.made; omega⟩
theorem TV.all {NS : List Str} {t : TreeT} {n m : Nat} (h : TV NS t n m) : ∀ {l : List Dd}, (∀ d ∈ l, DdN NS d) → TV NS (doAll t l).1 (n + l.length) (m + l.length) := by
  intro l
  induction l generalizing t n m with
  | nil => intro _; exact h
  | cons d l ih =>
    intro ok
    have := ih (h.step (ok d (List.mem_cons_self ..))) fun d hd => ok d (List.mem_cons_of_mem _ hd)
    rw [doAll]
    exact this.up (by rw [List.length_cons]; omega) (by rw [List.length_cons]; omega)
end KD
namespace KN
open PySem PySem.Spec PyProof.Rows L2 DL KB KD
theorem cut_toT {es : List D} {i : Nat} : DL.cutD es none (some (i : Int)) = es.take i := by
  unfold DL.cutD
  rw [HT.sIx_none, HT.sIx_nat, Nat.sub_zero, List.drop_zero]
  by_cases h : i ≤ es.length
  · rw [Nat.min_eq_left h]
  · rw [Nat.min_eq_right (by omega), List.take_of_length_le (Nat.le_refl _), List.take_of_length_le (by omega)]
end KN
namespace K22
open PySem PySem.Spec PyProof.Rows L2 DL KB
instance : Inhabited Spn := ⟨⟨0, 0, 0, 0⟩⟩
theorem task_inj {s q : Spn} (h : s.task = q.task) : s.h = q.h ∧ s.k = q.k := by
  unfold Spn.task at h
  simp only [D.tup.injEq, List.cons.injEq, D.int.injEq, and_true] at h
  omega
theorem SpOk.keys {hs : List (List Dd)} {sp : List Spn} (h : SpOk hs sp) : (sp.map Spn.task).Nodup := by
  rw [List.Nodup, List.pairwise_map]
  refine h.asc.imp fun {a b} h e => ?_
  have := task_inj e
  rcases h with z | ⟨_, z, _⟩ <;> omega
section
variable {v : Spn → D} {sp : List Spn} {s : Spn} {S : Sto} {Q : KD}
theorem fitT {x : Spn} : keyFit (sp.map fun p => (p.task, v p)) x.task = true := by cases sp <;> rfl
theorem fitWT {x : Spn} : keyFitW (sp.map fun p => (p.task, v p)) x.task = true := by unfold keyFitW; rw [fitT]; rfl
theorem getT (nd : (sp.map Spn.task).Nodup) (h : s ∈ sp) : dGet (sp.map fun p => (p.task, v p)) s.task = some (v s) := by
  have e1 : dGet (sp.map fun p => (p.task, v p)) s.task = (sp.find? fun p => decide (p.task = s.task)).map v := by
    unfold dGet
    rw [List.find?_map]
    simp only [Function.comp_def, Option.map_map]
  rw [e1, find_of_mem nd h]; rfl
theorem putT {y : Spn} (h : y.task ∉ sp.map Spn.task) : dPut (sp.map fun p => (p.task, v p)) y.task (v y) = (sp ++ [y]).map fun p => (p.task, v p) := by
  unfold dPut
  rw [if_neg]
  · rw [List.map_append]; rfl
  · simp only [List.any_map, List.any_eq_true, Function.comp_def, decide_eq_true_eq, not_exists, not_and]
    exact fun x hx e => h (by rw [← e]; exact List.mem_map_of_mem hx)
theorem tupAllT : tupAll (sp.map fun p => (p.task, v p)) = true := by
  unfold tupAll
  rw [List.all_map, List.all_eq_true]
  intro x _; rfl
theorem kvMergeT (nd : (sp.map Spn.task).Nodup) : kvMerge [] (sp.map fun p => (p.task, v p)) = sp.map fun p => (p.task, v p) := by
  have main : ∀ (r d : List Spn), ((d ++ r).map Spn.task).Nodup → kvMerge (d.map fun p => (p.task, v p)) (r.map fun p => (p.task, v p)) = (d ++ r).map fun p => (p.task, v p) := by
    intro r
    induction r with
    | nil => intro d _; rw [List.append_nil]; rfl
    | cons p r ih =>
      intro d h
      have hx : p.task ∉ d.map Spn.task := by
        rw [List.map_append, List.nodup_append] at h
        exact fun z => h.2.2 _ z _ (List.mem_cons_self ..) rfl
      have e := putT (v := v) (sp := d) (y := p) hx
      have z := ih (d ++ [p]) (by rw [List.append_assoc]; exact h)
      unfold kvMerge at *
      rw [List.map_cons, List.foldl_cons]
      simp only
      rw [e, z, List.append_assoc]
      rfl
  exact main sp [] nd
theorem wDictT {d : D} (h : seqOf S d = some (sp.map fun p => D.tup [p.task, v p])) (nd : (sp.map Spn.task).Nodup) (q : ∀ p, S p = none → Q (.ref p) (put S p (.dct (sp.map fun p => (p.task, v p))))) : wDict [d] S Q := by
  unfold wDict
  simp only [h, pairsD_map, onS_some, tupAllT, kvMergeT nd, Bool.or_true]
  exact ⟨trivial, q⟩
end
def boD (s : Spn) : D := .tup [.int s.b, .int s.e]
def sp_bounds_of : DSp := fun ds S Q E => ∃ sp, ds = [spansD sp] ∧ (sp.map Spn.task).Nodup ∧ sp.length ≤ 1000 ∧ ∀ p S', S' p = some (.dct (sp.map fun s => (s.task, boD s))) → S p = none → Grow S S' → Q (.ref p) S'
theorem len_bounds_of : ∀ ds S Q E, sp_bounds_of ds S Q E → ds.length = (["spans"] : List Str).length := fun _ _ _ _ ⟨_, e, _⟩ => by rw [e]; rfl
def r_bounds_of : DTS := dRet (dDC (diVal (dV 0) wIterA) (gdTup 3 (gdCons (gdName 1) (gdCons (gdName 2) (gdCons (gdName 3) gdNil)))) dYes [1, 2, 3] [1, 2, 3] [] (dV 1) (dTup (dCons (dV 2) (dCons (dV 3) dNil))))
abbrev N_bounds_of : List Str := ["spans", "task", "begin", "end"]
theorem vc_bounds_of {ds S Q E} (h : sp_bounds_of ds S Q E) : r_bounds_of (bodyEnds Q) (startD N_bounds_of ds) S := by
  have sz : 1001 < sizeLine := by rw [sizeLine_eq]; decide
  obtain ⟨sp, rfl, nd, hl, k⟩ := h
  show r_bounds_of _ [some (spansD sp), none, none, none] S
  unfold r_bounds_of
  simp only [dRet_eq, dDC_eq, diVal_eq]
  refine dV_at (by rfl) ?_
  unfold spansD
  rw [wIter_tup]
  intro p hp
  refine loopC_map Spn.D (fun done S' => S' = put S p (.dct (done.map fun s => (s.task, boD s)))) (fun _ _ _ => trivial) (fun S' h => ?_) (fun done s rest S' es h N hN => ?_) rfl
  · subst h
    exact k p _ put_same hp (.put hp)
  · subst h
    have hx : s.task ∉ done.map Spn.task := by
      rw [es, List.map_append, List.nodup_append] at nd
      exact fun z => nd.2.2 _ z _ (List.mem_cons_self ..) rfl
    have ld : done.length < 1000 := by
      have := congrArg List.length es
      rw [List.length_append, List.length_cons] at this
      omega
    refine ⟨rfl, rfl, rfl, ?_⟩
    rw [dYes_eq, if_pos rfl, compR_nil, emDct_eq]
    refine dV_at (by rfl) ?_
    simp only [dTup_eq, dCons_eq, dNil_eq]
    refine dV_at (by rfl) ?_
    refine dV_at (by rfl) ?_
    refine ⟨by show 2 ≤ sizeLine; omega, ?_⟩
    rw [put_same]
    refine ⟨fitWT (x := s), by rw [List.length_map]; omega, ?_⟩
    have e := putT (v := boD) (sp := done) (y := s) hx
    rw [put_put']
    refine hN _ ?_
    rw [← e]; rfl
def ahead (s q : Spn) : Bool := decide (s.e < q.b)
def sp_is_ahead : DSp := fun ds S Q E => ∃ sp s q, ds = [spansD sp, s.task, q.task] ∧ (sp.map Spn.task).Nodup ∧ sp.length ≤ 1000 ∧ s ∈ sp ∧ q ∈ sp ∧ ∀ S', Q (.bl (ahead s q)) S'
theorem len_is_ahead : ∀ ds S Q E, sp_is_ahead ds S Q E → ds.length = (["spans", "one", "other"] : List Str).length := fun _ _ _ _ ⟨_, _, _, e, _⟩ => by rw [e]; rfl
def r_is_ahead : DTS := dSeq (dAsg (dCall sp_bounds_of [] (dCons (dV 0) dNil)) (gdName 3)) (dRet (dBin wLt (dBin wAt (dBin wAt (dV 3) (dV 1)) (dC (.int 1))) (dBin wAt (dBin wAt (dV 3) (dV 2)) (dC (.int 0)))))
abbrev N_is_ahead : List Str := ["spans", "one", "other", "known"]
theorem vc_is_ahead {ds S Q E} (h : sp_is_ahead ds S Q E) : r_is_ahead (bodyEnds Q) (startD N_is_ahead ds) S := by
  obtain ⟨sp, s, q, rfl, nd, hl, hs, hq, k⟩ := h
  show r_is_ahead _ [some (spansD sp), some s.task, some q.task, none] S
  unfold r_is_ahead
  simp only [dSeq_eq, dAsg_eq, dCall_eq, dCons_eq, dNil_eq, List.append_nil]
  refine dV_at (by rfl) ?_
  refine ⟨sp, rfl, nd, hl, fun p S1 e1 _ _ => ?_⟩
  show dRet _ _ [some (spansD sp), some s.task, some q.task, some (.ref p)] S1
  simp only [dRet_eq, dBin_eq, dC_eq]
  refine dV_at (by rfl) ?_
  refine dV_at (by rfl) ?_
  rw [wAt_dct e1 (fitT (x := s)) (getT nd hs)]
  unfold boD
  rw [wAt_tup, atI1, onS_some]
  refine dV_at (by rfl) ?_
  refine dV_at (by rfl) ?_
  rw [wAt_dct e1 (fitT (x := q)) (getT nd hq)]
  unfold boD
  rw [wAt_tup, atI0, onS_some, KB.wLt_int]
  have : decide ((s.e : Int) < (q.b : Int)) = ahead s q := by unfold ahead; by_cases h : s.e < q.b <;> simp [h]
  rw [this]
  exact k S1
def lineD (ls : List Spn) : D := .tup (ls.map Spn.task)
def optT : Option Spn → D | none => .non | some s => s.task
def sp_first_behind : DSp := fun ds S Q E => ∃ sp ls s, ds = [spansD sp, lineD ls, s.task] ∧ (sp.map Spn.task).Nodup ∧ sp.length ≤ 1000 ∧ ls.length ≤ 1000 ∧ s ∈ sp ∧ (∀ q ∈ ls, q ∈ sp) ∧ ∀ S', Q (optT (ls.find? fun q => ahead s q)) S'
theorem len_first_behind : ∀ ds S Q E, sp_first_behind ds S Q E → ds.length = (["spans", "line", "other"] : List Str).length := fun _ _ _ _ ⟨_, _, _, e, _⟩ => by rw [e]; rfl
def r_first_behind : DTS := dSeq (dAsg (dLC (diVal (dV 1) wIterA) (gdName 4) (dTst (dCall (pur sp_is_ahead) [] (dCons (dV 0) (dCons (dV 2) (dCons (dV 4) dNil))))) [4] [4] [] (dV 4)) (gdName 3)) (dRet (dIf (dTst (dBin wNe (dV 3) (dLst dNil))) (dBin wAt (dV 3) (dC (.int 0))) (dC .non)))
abbrev N_first_behind : List Str := ["spans", "line", "other", "some", "one"]
theorem task_cl (s : Spn) (n : Nat) : s.task.cl (n + 1) = true := by simp [Spn.task, D.cl, D.cls]
theorem filter_head {p : Spn → Bool} : ∀ ls : List Spn, ls.find? p = (ls.filter p).head?
  | [] => rfl
  | s :: r => by
    rw [List.find?_cons, List.filter_cons]
    cases p s
    · exact filter_head r
    · rfl
theorem vc_first_behind {ds S Q E} (h : sp_first_behind ds S Q E) : r_first_behind (bodyEnds Q) (startD N_first_behind ds) S := by
  have sz : 1001 < sizeLine := by rw [sizeLine_eq]; decide
  obtain ⟨sp, ls, s, rfl, nd, hl, hls, hs, hin, k⟩ := h
  show r_first_behind _ [some (spansD sp), some (lineD ls), some s.task, none, none] S
  unfold r_first_behind
  simp only [dSeq_eq, dAsg_eq, dLC_eq, diVal_eq]
  refine dV_at (by rfl) ?_
  unfold lineD
  rw [wIter_tup]
  intro L hL
  refine lc_map Spn.task (fun q => if ahead s q = true then [q.task] else []) ls (fun _ => trivial) ?_ (fun q hq acc k2 hacc hk => ?_) ?_
  · have := flatMap_le (fun q : Spn => if ahead s q = true then [q.task] else []) 1 ls fun x _ => by split <;> simp
    omega
  · refine ⟨rfl, ?_⟩
    simp only [dTst_eq, dCall_eq, dCons_eq, dNil_eq, List.append_nil]
    refine dV_at (by rfl) ?_
    refine dV_at (by rfl) ?_
    refine dV_at (by rfl) ?_
    refine ⟨sp, s, q, rfl, nd, hl, hs, hin q hq, fun _ => ?_⟩
    show isB _ (.bl (ahead s q)) _
    rw [isB_bl]
    by_cases h : ahead s q = true
    · rw [if_pos h, emLst_eq]
      rw [if_pos h] at hacc hk
      refine dV_at (by rfl) ?_
      rw [onL_put, put_put']
      simp only [List.length_singleton] at hacc
      exact ⟨by omega, hk⟩
    · rw [if_neg h]
      rw [if_neg h, List.append_nil] at hk
      exact hk
  · have e : (ls.flatMap fun q => if ahead s q = true then [q.task] else []) = (ls.filter fun q => ahead s q).map Spn.task := by
      clear hls hin k
      induction ls with
      | nil => rfl
      | cons x r ih =>
        rw [List.flatMap_cons, ih, List.filter_cons]
        by_cases h : ahead s x = true
        · rw [if_pos h, if_pos h]; rfl
        · rw [if_neg h, if_neg h]; rfl
    rw [e]
    have kS := k
    rw [filter_head] at kS
    have eL : put S L (.lst ((ls.filter fun q => ahead s q).map Spn.task)) L = some (.lst ((ls.filter fun q => ahead s q).map Spn.task)) := put_same
    generalize put S L (.lst ((ls.filter fun q => ahead s q).map Spn.task)) = S1 at *
    generalize (ls.filter fun q => ahead s q) = fs at *
    show dRet _ _ [some (spansD sp), some (lineD ls), some s.task, some (.ref L), none] S1
    simp only [dRet_eq, dIf_eq, dTst_eq, dBin_eq, dLst_eq, dNil_eq, dC_eq]
    refine dV_at (by rfl) ?_
    refine ⟨by show 0 ≤ sizeLine; omega, fun z hz => ?_⟩
    have Lz : L ≠ z := ne_of_free hz eL
    have eL2 : put S1 z (.lst []) L = some (.lst (fs.map Spn.task)) := by rw [put_ne Lz]; exact eL
    rw [wNe_of (.lst eL2 fun d hd => by obtain ⟨q, _, rfl⟩ := List.mem_map.mp hd; exact task_cl q 18) (.lst put_same (by simp)), isB_bl]
    cases fs with
    | nil =>
      rw [show (!decide (D.fz (([] : List Spn).map Spn.task) = D.fz [])) = false by simp, if_neg (by decide)]
      exact kS _
    | cons q r =>
      rw [show (!decide (D.fz ((q :: r).map Spn.task) = D.fz [])) = true by simp, if_pos rfl]
      refine dV_at (by rfl) ?_
      rw [wAt_lst eL2]
      show onS (atI (q.task :: r.map Spn.task) 0) _
      rw [atI0, onS_some]
      exact kS _
end K22
namespace K22
open PySem PySem.Spec PyProof.Rows L2 DL KB
def scan (done : List Spn) : List Spn → Option (Spn × Spn)
  | [] => none
  | s :: r => match done.find? (fun q => ahead s q) with | some q => some (q, s) | none => scan (done ++ [s]) r
def lst (m : Nat) (ls : List Spn) : Nat := ls.foldl (fun m s => if m < s.b then s.b else m) m
def moms (m : Nat) : List Spn → List (Spn × Nat)
  | [] => []
  | s :: r => (s, if m < s.b then s.b else m) :: moms (if m < s.b then s.b else m) r
theorem lst_app {m : Nat} {ls : List Spn} {s : Spn} : lst m (ls ++ [s]) = if lst m ls < s.b then s.b else lst m ls := by
  unfold lst; rw [List.foldl_append]; rfl
theorem moms_app {s : Spn} : ∀ {ls : List Spn} {m : Nat}, moms m (ls ++ [s]) = moms m ls ++ [(s, lst m (ls ++ [s]))]
  | [], m => rfl
  | x :: r, m => by
    rw [List.cons_append, moms, moms, moms_app]
    rfl
def momD (p : Spn × Nat) : D := .tup [p.1.task, .int p.2]
def momsD (ls : List Spn) : D := .tup ((moms 0 ls).map momD)
theorem moms_len : ∀ {ls : List Spn} {m : Nat}, (moms m ls).length = ls.length
  | [], _ => rfl
  | _ :: r, _ => by rw [moms, List.length_cons, moms_len, List.length_cons]
def sp_moments_by (c : Addr) : DSp := fun ds S Q E => ∃ sp ls, ds = [spansD sp, lineD ls] ∧ (sp.map Spn.task).Nodup ∧ sp.length ≤ 1000 ∧ ls.length ≤ 1000 ∧ (∀ s ∈ ls, s ∈ sp) ∧ ∀ S', match scan [] ls with | some (q, s) => E (.ref c) [("paper", .tup [q.task, s.task])] S' | none => Q (momsD ls) S'
theorem len_moments_by {c : Addr} : ∀ ds S Q E, sp_moments_by c ds S Q E → ds.length = (["spans", "line"] : List Str).length := fun _ _ _ _ ⟨_, _, e, _⟩ => by rw [e]; rfl
def mb0 (c_NoOrder : Addr) (E : KX) : DTS := dPar3 2 3 4 (dCons (dCall sp_bounds_of [] (dCons (dV 0) dNil)) (dCons (dLst dNil) (dCons (dC (.int 0)) dNil)))
def mbA : DTS := dAsg (dCall (pur sp_first_behind) [] (dCons (dV 0) (dCons (dCut (dV 1) dNoPart (dPart (dV 5))) (dCons (dV 6) dNil)))) (gdName 7)
def mbB (c_NoOrder : Addr) (E : KX) : DTS := dIfS (dTst (dBin wNotN (dV 7) (dC .non))) (dRaise c_NoOrder ["paper"] E (dCons (dTup (dCons (dV 7) (dCons (dV 6) dNil))) dNil)) dNext
def mbC : DTS := dAsg (dCB wMaxI (dCons (dV 4) (dCons (dBin wAt (dBin wAt (dV 2) (dV 6)) (dC (.int 0))) dNil))) (gdName 4)
def mbD : DTS := dDrop (dBM "list" wAppend (dV 3) (dCons (dTup (dCons (dV 6) (dCons (dV 4) dNil))) dNil))
def mb1 (c_NoOrder : Addr) (E : KX) : DTS := dFor (diEnum (dCons (dV 1) dNil)) (gdTup 2 (gdCons (gdName 5) (gdCons (gdName 6) gdNil))) (dSeq mbA (dSeq (mbB c_NoOrder E) (dSeq mbC mbD)))
def mb2 (c_NoOrder : Addr) (E : KX) : DTS := dRet (dCB wTuple (dCons (dV 3) dNil))
def r_moments_by (c_NoOrder : Addr) (E : KX) : DTS := dSeq (mb0 c_NoOrder E) (dSeq (mb1 c_NoOrder E) (mb2 c_NoOrder E))
abbrev N_moments_by : List Str := ["spans", "line", "known", "found", "least", "j", "task", "one"]
theorem cut_toT {es : List D} {i : Nat} : DL.cutD es none (some (i : Int)) = es.take i := by
  unfold DL.cutD
  rw [HT.sIx_none, HT.sIx_nat, Nat.sub_zero, List.drop_zero]
  by_cases h : i ≤ es.length
  · rw [Nat.min_eq_left h]
  · rw [Nat.min_eq_right (by omega), List.take_of_length_le (Nat.le_refl _), List.take_of_length_le (by omega)]
theorem wMaxI_two {a b : Nat} {S : Sto} {Q : KD} : wMaxI [.int a, .int b] S Q = Q (.int ((if a < b then b else a : Nat) : Int)) S := by
  show Q (.int (if (a : Int) < (b : Int) then (b : Int) else (a : Int))) S = _
  congr 2
  by_cases h : a < b
  · rw [if_pos h, if_pos (by omega)]
  · rw [if_neg h, if_neg (by omega)]
theorem take_done {done rest : List Spn} {s : Spn} : ((done ++ s :: rest).map Spn.task).take done.length = done.map Spn.task := by
  rw [← List.map_take, List.take_left']; rfl
theorem idx_done {done rest : List Spn} {s : Spn} : ((done ++ s :: rest).map Spn.task).getD done.length .non = s.task := by
  rw [List.getD_eq_getElem?_getD, List.getElem?_map]
  simp
theorem vc_moments_by {c : Addr} {ds S Q E} (h : sp_moments_by c ds S Q E) : r_moments_by c E (bodyEnds Q) (startD N_moments_by ds) S := by
  have sz : 1001 < sizeLine := by rw [sizeLine_eq]; decide
  obtain ⟨sp, ls, rfl, nd, hl, hls, hin, k⟩ := h
  show r_moments_by c E _ [some (spansD sp), some (lineD ls), none, none, none, none, none, none] S
  unfold r_moments_by
  simp only [dSeq_eq]
  unfold mb0
  simp only [dPar3_eq, dCall_eq, dCons_eq, dNil_eq, dLst_eq, dC_eq, List.append_nil]
  refine dV_at (by rfl) ?_
  refine ⟨sp, rfl, nd, hl, fun p S1 e1 _ _ => ⟨by show 0 ≤ sizeLine; omega, fun R hR => ?_⟩⟩
  have pR : p ≠ R := ne_of_free hR e1
  have e2 : put S1 R (.lst []) p = some (.dct (sp.map fun s => (s.task, boD s))) := by rw [put_ne pR]; exact e1
  have eR : put S1 R (.lst []) R = some (.lst ((moms 0 []).map momD)) := put_same
  generalize put S1 R (.lst []) = S2 at *
  show mb1 c E _ [some (spansD sp), some (lineD ls), some (.ref p), some (.ref R), some (.int ((lst 0 [] : Nat) : Int)), none, none, none] S2
  unfold mb1
  generalize hB : dSeq mbA (dSeq (mbB c E) (dSeq mbC mbD)) = B
  simp only [dFor_eq, diEnum_eq, dCons_eq, dNil_eq]
  refine dV_at (by rfl) ?_
  unfold lineD
  rw [wEnum_tup, enumD_range, List.length_map]
  refine loop_map (fun i : Nat => D.wt [.int ((0 + i : Nat) : Int), (ls.map Spn.task).getD i .non]) (fun done τ S' => ∃ (ld lr : List Spn) (y5 y6 y7 : Option D), ls = ld ++ lr ∧ ld.length = done.length ∧ scan [] ls = scan ld lr ∧ S' p = some (.dct (sp.map fun s => (s.task, boD s))) ∧ S' R = some (.lst ((moms 0 ld).map momD)) ∧ τ = [some (spansD sp), some (lineD ls), some (.ref p), some (.ref R), some (.int ((lst 0 ld : Nat) : Int)), y5, y6, y7])
    (fun _ _ _ _ => trivial) (fun τ S' h => ?_) (fun done x rest τ S' es h N hN => ?_) ⟨[], ls, _, _, _, rfl, rfl, rfl, e2, eR, rfl⟩
  · obtain ⟨ld, lr, y5, y6, y7, e, hld, hsc, _, e4, rfl⟩ := h
    rw [List.length_range] at hld
    have hlr : lr = [] := by
      have := congrArg List.length e
      rw [List.length_append] at this
      exact List.length_eq_zero_iff.mp (by omega)
    subst hlr
    rw [List.append_nil] at e
    subst e
    have kS := k S'
    rw [hsc] at kS
    show mb2 c E (bodyEnds Q) [some (spansD sp), some (lineD ls), some (.ref p), some (.ref R), some (.int ((lst 0 ls : Nat) : Int)), y5, y6, y7] S'
    unfold mb2
    simp only [dRet_eq, dCB_eq, dCons_eq, dNil_eq]
    refine dV_at (by rfl) ?_
    rw [wTuple_lst e4]
    exact kS
  · obtain ⟨ld, lr, y5, y6, y7, e, hld, hsc, e3, e4, rfl⟩ := h
    obtain ⟨rfl, hd⟩ := range_split es
    obtain ⟨s, lr, rfl⟩ : ∃ s lr', lr = s :: lr' := by
      cases lr with
      | nil => rw [e, List.append_nil] at hd; omega
      | cons s r => exact ⟨s, r, rfl⟩
    rw [Nat.zero_add, e, ← hld, idx_done]
    have hs : s ∈ sp := hin s (by rw [e]; simp)
    refine ⟨rfl, rfl, ?_⟩
    show B _ [some (spansD sp), some (lineD (ld ++ s :: lr)), some (.ref p), some (.ref R), some (.int ((lst 0 ld : Nat) : Int)), some (.int ld.length), some s.task, y7] S'
    rw [← hB]
    simp only [dSeq_eq]
    unfold mbA
    simp only [dAsg_eq, dCall_eq, dCons_eq, dNil_eq, dCut_eq, dNoPart_eq, dPart_eq, List.append_nil]
    refine dV_at (by rfl) ?_
    refine dV_at (by rfl) ?_
    refine dV_at (by rfl) ?_
    rw [isI_int]
    unfold lineD
    rw [wCut_tup, cut_toT, take_done]
    refine dV_at (by rfl) ?_
    refine ⟨sp, ld, s, rfl, nd, hl, by rw [e, List.length_append] at hls; omega, hs, fun q hq => hin q (by rw [e]; exact List.mem_append_left _ hq), fun _ => ?_⟩
    show mbB c E _ [some (spansD sp), some (lineD (ld ++ s :: lr)), some (.ref p), some (.ref R), some (.int ((lst 0 ld : Nat) : Int)), some (.int ld.length), some s.task, some (optT (ld.find? fun q => ahead s q))] S'
    unfold mbB
    simp only [dIfS_eq, dTst_eq, dBin_eq, dC_eq, dNext_eq]
    refine dV_at (by rfl) ?_
    rw [wNotN_eq, isB_bl]
    cases hf : ld.find? fun q => ahead s q with
    | some q =>
      have kS := k S'
      rw [hsc, scan, hf] at kS
      rw [show (!decide (optT (some q) = D.non)) = true from by show (!decide (q.task = D.non)) = true; rw [decide_eq_false (by intro z; cases z)]; rfl, if_pos rfl]
      simp only [dRaise_eq, dCons_eq, dNil_eq, dTup_eq]
      refine dV_at (by rfl) ?_
      refine dV_at (by rfl) ?_
      exact ⟨by show 2 ≤ sizeLine; omega, rfl, kS⟩
    | none =>
      rw [show (!decide (optT none = D.non)) = false from by show (!decide (D.non = D.non)) = false; rw [decide_eq_true rfl]; rfl, if_neg (by decide)]
      show mbC _ _ S'
      unfold mbC
      simp only [dAsg_eq, dCB_eq, dCons_eq, dNil_eq, dBin_eq, dC_eq]
      refine dV_at (by rfl) ?_
      refine dV_at (by rfl) ?_
      refine dV_at (by rfl) ?_
      rw [wAt_dct e3 (fitT (x := s)) (getT nd hs)]
      unfold boD
      rw [wAt_tup, atI0, onS_some, wMaxI_two, ← lst_app]
      show mbD _ [some (spansD sp), some (lineD (ld ++ s :: lr)), some (.ref p), some (.ref R), some (.int ((lst 0 (ld ++ [s]) : Nat) : Int)), some (.int ld.length), some s.task, some (optT none)] S'
      unfold mbD
      simp only [dDrop_eq, dBM_eq, dCons_eq, dNil_eq, dTup_eq]
      refine dV_at (by rfl) ?_
      refine ⟨tyD_lst e4, ?_⟩
      refine dV_at (by rfl) ?_
      refine dV_at (by rfl) ?_
      refine ⟨by show 2 ≤ sizeLine; omega, ?_⟩
      rw [wAppend_lst e4]
      refine ⟨by rw [List.length_map, moms_len]; omega, hN _ _ ⟨ld ++ [s], lr, _, _, _, by rw [e, List.append_assoc]; rfl, by rw [List.length_append, List.length_append, hld]; rfl, ?_, ?_, ?_, by rw [e]⟩⟩
      · rw [hsc, scan, hf]
      · have : p ≠ R := fun z => by rw [z, e4] at e3; cases e3
        rw [put_ne this]; exact e3
      · rw [put_same, moms_app, List.map_append]; rfl
end K22
namespace K22
open PySem PySem.Spec PyProof.Rows L2 DL KB
def ansL (ls : List Spn) : D := match scan [] ls with
  | some (q, s) => .tup [.str "no", .tup [q.task, s.task]]
  | none => .tup [.str "told", momsD ls]
def sp__law_due : DSp := fun ds S Q E => ∃ sp ls, ds = [spansD sp, lineD ls] ∧ (sp.map Spn.task).Nodup ∧ sp.length ≤ 1000 ∧ ls.length ≤ 1000 ∧ (∀ s ∈ ls, s ∈ sp) ∧ ∀ S', Q (ansL ls) S'
def sp__law_said : DSp := fun ds S Q E => ∃ sp ls, ds = [spansD sp, lineD ls] ∧ (sp.map Spn.task).Nodup ∧ sp.length ≤ 1000 ∧ ls.length ≤ 1000 ∧ (∀ s ∈ ls, s ∈ sp) ∧ ∀ S', Q (ansL ls) S'
theorem len__law_said : ∀ ds S Q E, sp__law_said ds S Q E → ds.length = (["_law_spans_here", "_law_line_here"] : List Str).length := fun _ _ _ _ ⟨_, _, e, _⟩ => by rw [e]; rfl
section
variable (c_NoPaper c_RunError c_TextError c_NoOrder c_DrawerError : Addr)
def sdS (a dd : Addr) : DTS := dSeq (dAsg (dCB (wIsE a dd [(c_NoPaper, false), (c_RunError, false), (c_TextError, false), (c_NoOrder, true), (c_DrawerError, true)]) (dCons (dV 3) (dCons (dTup (dCons (dC (.ref c_NoPaper)) (dCons (dC (.ref c_RunError)) (dCons (dC (.ref c_TextError)) dNil)))) dNil))) (gdName 4)) (dIfS (dAnd (dTst (dCB (wIsE a dd [(c_NoPaper, false), (c_RunError, false), (c_TextError, false), (c_NoOrder, true), (c_DrawerError, true)]) (dCons (dV 3) (dCons (dC (.ref c_NoOrder)) dNil)))) (dAnd (dTst (dCB (wIsE a dd [(c_NoPaper, false), (c_RunError, false), (c_TextError, false), (c_NoOrder, true), (c_DrawerError, true)]) (dCons (dV 3) (dCons (dC (.ref c_DrawerError)) dNil)))) (dNot (dTst (dV 4))))) (dAsg (dTup (dCons (dC (.str "no")) (dCons (dXf a dd "paper" (dV 3)) dNil))) (gdName 2)) dNext)
def r__law_said : DTS := dSeq (dAsg (dTup (dCons (dC (.str "other")) dNil)) (gdName 2)) (dSeq (dTry1 c_NoOrder 5 3 (fun E => dAsg (dTup (dCons (dC (.str "told")) (dCons (dCallX (pur (sp_moments_by c_NoOrder)) [] E (dCons (dV 0) (dCons (dV 1) dNil))) dNil))) (gdName 2)) (fun a dd => sdS c_NoPaper c_RunError c_TextError c_NoOrder c_DrawerError a dd)) (dRet (dV 2)))
end
abbrev N__law_said : List Str := ["_law_spans_here", "_law_line_here", "_law_found", "e", "_law_is_other"]
theorem sdS_of {c_NoPaper c_RunError c_TextError c_NoOrder c_DrawerError a dd : Addr} {x0 x1 x2 x4 : Option D} {S : Sto} {Dn : DEnds} {w : D} (hS : S dd = some (.exc [("paper", w)])) (k : Dn.nx [x0, x1, some (.tup [.str "no", w]), some (.ref a), some (.bl false)] S) :
    sdS c_NoPaper c_RunError c_TextError c_NoOrder c_DrawerError a dd Dn [x0, x1, x2, some (.ref a), x4] S := by
  have sz : 1001 < sizeLine := by rw [sizeLine_eq]; decide
  unfold sdS
  simp only [dSeq_eq, dAsg_eq, dCB_eq, dCons_eq, dNil_eq, dTup_eq, dC_eq, gdName_eq]
  refine dV_at (by rfl) ?_
  refine ⟨by show 3 ≤ sizeLine; omega, ?_⟩
  refine ⟨rfl, ⟨_, hS⟩, fun d hd => ?_, ?_⟩
  · simp only [List.mem_cons, List.not_mem_nil, or_false] at hd
    rcases hd with rfl | rfl | rfl
    · exact ⟨_, rfl, by simp⟩
    · exact ⟨_, rfl, by simp⟩
    · exact ⟨_, rfl, by simp⟩
  · show dIfS _ _ _ _ [x0, x1, x2, some (.ref a), some (.bl false)] S
    simp only [dIfS_eq, dAnd_eq, dNot_eq, dTst_eq, dCB_eq, dCons_eq, dNil_eq, dC_eq]
    refine dV_at (by rfl) ?_
    refine ⟨rfl, ⟨_, hS⟩, true, by simp, ?_⟩
    rw [isB_bl, if_pos rfl]
    refine dV_at (by rfl) ?_
    refine ⟨rfl, ⟨_, hS⟩, true, by simp, ?_⟩
    rw [isB_bl, if_pos rfl]
    refine dV_at (by rfl) ?_
    rw [isB_bl, if_pos (by rfl)]
    simp only [dAsg_eq, dTup_eq, dCons_eq, dNil_eq, dC_eq, dXf_eq, gdName_eq]
    refine dV_at (by rfl) ?_
    refine ⟨rfl, _, w, hS, by rfl, ?_⟩
    exact ⟨by show 2 ≤ sizeLine; omega, k⟩
theorem vc__law_said {c_NoPaper c_RunError c_TextError c_NoOrder c_DrawerError : Addr} {ds S Q E} (h : sp__law_said ds S Q E) : r__law_said c_NoPaper c_RunError c_TextError c_NoOrder c_DrawerError (bodyEnds Q) (startD N__law_said ds) S := by
  have sz : 1001 < sizeLine := by rw [sizeLine_eq]; decide
  obtain ⟨sp, ls, rfl, nd, hl, hls, hin, k⟩ := h
  show r__law_said _ _ _ _ _ _ [some (spansD sp), some (lineD ls), none, none, none] S
  unfold r__law_said
  simp only [dSeq_eq, dAsg_eq, dTup_eq, dCons_eq, dNil_eq, dC_eq, gdName_eq]
  refine ⟨by show 1 ≤ sizeLine; omega, ?_⟩
  show dTry1 _ _ _ _ _ _ [some (spansD sp), some (lineD ls), some (.tup [.str "other"]), none, none] S
  unfold dTry1
  simp only [dAsg_eq, dTup_eq, dCons_eq, dNil_eq, dC_eq, gdName_eq, dCallX_eq, List.append_nil]
  refine dV_at (by rfl) ?_
  refine dV_at (by rfl) ?_
  refine ⟨sp, ls, rfl, nd, hl, hls, hin, fun _ => ?_⟩
  unfold ansL at k
  cases hsc : scan [] ls with
  | none =>
    rw [hsc] at k
    refine ⟨by show 2 ≤ sizeLine; omega, ?_⟩
    show dRet (dV 2) (bodyEnds Q) [some (spansD sp), some (lineD ls), some (.tup [.str "told", momsD ls]), none, none] S
    rw [dRet_eq]
    refine dV_at (by rfl) ?_
    exact k S
  | some qs =>
    obtain ⟨q, s⟩ := qs
    rw [hsc] at k
    refine ⟨rfl, by simp, fun τ1 x dd hlen hx hdd => ?_⟩
    match τ1, hlen with
    | [y0, y1, y2, y3, y4], _ =>
      show sdS _ _ _ _ _ x dd _ [y0, y1, y2, some (.ref x), y4] _
      refine sdS_of put_same ?_
      show dRet (dV 2) (bodyEnds Q) [y0, y1, some (.tup [.str "no", .tup [q.task, s.task]]), none, some (.bl false)] _
      rw [dRet_eq]
      refine dV_at (by rfl) ?_
      exact k _
end K22
namespace K22
open PySem PySem.Spec PyProof.Rows L2 DL KB
structure LN (g : Spn → D) (S0 : Sto) (f L F : Addr) (sp lf fd : List Spn) (m : Nat) (S : Sto) : Prop where
  eL : S L = some (.lst (lf.map g))
  eF : S F = some (.lst (fd.map g))
  ne : L ≠ f ∧ F ≠ f ∧ L ≠ F
  n0 : S0 L = none ∧ S0 F = none
  fe : Feed S f m
  ks : Keeps f S0 S
  len : lf.length + fd.length = sp.length
  all : ∀ s ∈ sp, s ∈ lf ∨ s ∈ fd
  l1 : ∀ s ∈ lf, s ∈ sp
  l2 : ∀ s ∈ fd, s ∈ sp
section
variable {g : Spn → D} {S0 S S' : Sto} {f L F p : Addr} {sp lf fd : List Spn} {m m' : Nat} {o : AO}
def bB : DTS := dDrop (dBM "list" wAppend (dV 4) (dCons (rdPick 5) dNil))
end
theorem scan_none : ∀ {ls done : List Spn}, (∀ s ∈ ls, ∀ q ∈ done, ahead s q = false) → ls.Pairwise (fun q s => ahead s q = false) → scan done ls = none
  | [], _, _, _ => rfl
  | s :: r, done, h1, h2 => by
    obtain ⟨h3, h4⟩ := List.pairwise_cons.mp h2
    rw [scan, List.find?_eq_none.mpr fun q hq => by rw [h1 s (List.mem_cons_self ..) q hq]; decide]
    refine scan_none (fun x hx q hq => ?_) h4
    rcases List.mem_append.mp hq with hq | hq
    · exact h1 x (List.mem_cons_of_mem _ hx) q hq
    · rw [List.mem_singleton.mp hq]; exact h3 x hx
def sp__law_line : DSp := fun ds S Q E => ∃ f hs sp m, ds = [.ref f, spansD sp] ∧ SpOk hs sp ∧ m < 900000000 ∧ Feed S f m ∧ ∀ ls S', (∀ s ∈ ls, s ∈ sp) → ls.length = sp.length → (∀ s ∈ sp, s ∈ ls) → Feed S' f (m + 20) → Keeps f S S' → Q (lineD ls) S'
def rdy (fd : List Spn) (s : Spn) : Bool := decide (s.k = 0) || decide (D.tup [.int s.h, .int ((s.k : Int) - 1)] ∈ fd.map Spn.task)
end K22
namespace K22
open PySem PySem.Spec PyProof.Rows L2 DL KB
def Fits (ls : List Spn) : Prop := ls.Pairwise fun q s => ahead s q = false
theorem Fits.none {ls : List Spn} (h : Fits ls) : scan [] ls = none := scan_none (fun _ _ _ h => (nomatch h)) h
def sp__law_fitting : DSp := fun ds S Q E => ∃ f hs sp m, ds = [.ref f, spansD sp] ∧ SpOk hs sp ∧ m < 900000000 ∧ Feed S f m ∧ ∀ ls S', (∀ s ∈ ls, s ∈ sp) → ls.length = sp.length → (∀ s ∈ sp, s ∈ ls) → Fits ls → Feed S' f (m + 20) → Keeps f S S' → Q (lineD ls) S'
structure Fd (lf fd : List Spn) : Prop where
  fits : Fits fd
  ok : ∀ s ∈ lf, ∀ q ∈ fd, ahead s q = false
end K22
namespace K22
open PySem PySem.Spec PyProof.Rows L2 DL KB
open KR (wReprA_bl)
def Sml (s : Spn) : Prop := s.h ≤ 2000 ∧ s.k ≤ 2000 ∧ s.b ≤ 2000 ∧ s.e ≤ 2000
theorem sml_of {hs : List (List Dd)} {sp : List Spn} (H : HandsOk hs) (O : SpOk hs sp) : ∀ s ∈ sp, Sml s := fun s h => by
  obtain ⟨i1, i2⟩ := O.inn s h
  obtain ⟨b1, b2⟩ := O.be s h
  have h4 := H.len
  have h3 : (hs.getD s.h []).length ≤ 3 := by
    rw [List.getD_eq_getElem?_getD, List.getElem?_eq_getElem i1]
    exact H.three _ (List.getElem_mem i1)
  exact ⟨by omega, by omega, by omega, by omega⟩
theorem task_Th {s : Spn} (h : Sml s) : KR.Th 2 100 0 s.task := (KR.Th.tups (c := 0) (n := 1) (m := 0) (k := 2) (fun e he => by
  simp only [List.mem_cons, List.not_mem_nil, or_false] at he
  rcases he with rfl | rfl
  · exact .nat h.1
  · exact .nat h.2.1) (by simp)).up (by decide) (by decide) (by decide)
theorem row_Th {s : Spn} (h : Sml s) : KR.Th 3 400 0 s.D := (KR.Th.tups (c := 0) (n := 2) (m := 100) (k := 3) (fun e he => by
  simp only [List.mem_cons, List.not_mem_nil, or_false] at he
  rcases he with rfl | rfl | rfl
  · exact task_Th h
  · exact .nat h.2.2.1
  · exact .nat h.2.2.2) (by simp)).up (by decide) (by decide) (by decide)
theorem spans_Th {sp : List Spn} (h : ∀ s ∈ sp, Sml s) (hl : sp.length ≤ 12) : KR.Th 4 10000 0 (spansD sp) := (KR.Th.tups (c := 0) (n := 3) (m := 400) (k := 12) (fun e he => by
  obtain ⟨s, hs, rfl⟩ := List.mem_map.mp he
  exact row_Th (h s hs)) (by simpa using hl)).up (by decide) (by decide) (by decide)
theorem moms_ok : ∀ {ls : List Spn} {m : Nat}, (∀ s ∈ ls, Sml s) → m ≤ 2000 → ∀ p ∈ moms m ls, Sml p.1 ∧ p.2 ≤ 2000
  | [], _, _, _, p, hp => by simp [moms] at hp
  | s :: r, m, h, hm, p, hp => by
    have hs := h s (List.mem_cons_self ..)
    have h2 : (if m < s.b then s.b else m) ≤ 2000 := by
      have := hs.2.2.1
      split <;> omega
    rw [moms] at hp
    rcases List.mem_cons.mp hp with rfl | hp
    · exact ⟨hs, h2⟩
    · exact moms_ok (fun x hx => h x (List.mem_cons_of_mem _ hx)) h2 p hp
theorem moms_Th {ls : List Spn} (h : ∀ s ∈ ls, Sml s) (hl : ls.length ≤ 12) : KR.Th 4 10000 0 (momsD ls) := (KR.Th.tups (c := 0) (n := 3) (m := 300) (k := 12) (fun e he => by
  obtain ⟨p, hp, rfl⟩ := List.mem_map.mp he
  obtain ⟨h1, h2⟩ := moms_ok h (by omega) p hp
  exact (KR.Th.tups (c := 0) (n := 2) (m := 100) (k := 2) (fun e he => by
    simp only [List.mem_cons, List.not_mem_nil, or_false] at he
    rcases he with rfl | rfl
    · exact task_Th h1
    · exact .nat h2) (by simp)).up (by decide) (by decide) (by decide)) (by rw [List.length_map, moms_len]; exact hl)).up (by decide) (by decide) (by decide)
theorem scan_mem : ∀ {ls done : List Spn} {q s : Spn}, scan done ls = some (q, s) → q ∈ done ++ ls ∧ s ∈ ls
  | [], _, _, _, h => by cases h
  | x :: r, done, q, s, h => by
    rw [scan] at h
    cases e : done.find? fun q => ahead x q with
    | none =>
      rw [e] at h
      obtain ⟨h1, h2⟩ := scan_mem h
      exact ⟨by simpa using h1, List.mem_cons_of_mem _ h2⟩
    | some y =>
      rw [e] at h
      cases h
      exact ⟨List.mem_append_left _ (List.mem_of_find?_eq_some e), List.mem_cons_self ..⟩
theorem ans_Th {ls : List Spn} (h : ∀ s ∈ ls, Sml s) (hl : ls.length ≤ 12) : KR.Th 5 40000 0 (ansL ls) := by
  unfold ansL
  cases e : scan [] ls with
  | none => exact (KR.Th.tups (c := 0) (n := 4) (m := 10000) (k := 2) (fun e he => by
      simp only [List.mem_cons, List.not_mem_nil, or_false] at he
      rcases he with rfl | rfl
      · exact KR.Th.str (by decide) (by decide)
      · exact moms_Th h hl) (by simp)).up (by decide) (by decide) (by decide)
  | some p =>
    obtain ⟨q, s⟩ := p
    obtain ⟨h1, h2⟩ := scan_mem e
    exact (KR.Th.tups (c := 0) (n := 3) (m := 1000) (k := 2) (fun e he => by
      simp only [List.mem_cons, List.not_mem_nil, or_false] at he
      rcases he with rfl | rfl
      · exact KR.Th.str (by decide) (by decide)
      · exact (KR.Th.tups (c := 0) (n := 2) (m := 100) (k := 2) (fun e he => by
          simp only [List.mem_cons, List.not_mem_nil, or_false] at he
          rcases he with rfl | rfl
          · exact task_Th (h _ (by simpa using h1))
          · exact task_Th (h _ h2)) (by simp)).up (by decide) (by decide) (by decide)) (by simp)).up (by decide) (by decide) (by decide)
def qA : DTS := dIfS (dTst (dBin wNe (dCB wReprA (dCons (dCall (pur sp_is_ahead) [] (dCons (dV 7) (dCons (dBin wAt (dV 3) (dC (.int 0))) (dCons (dBin wAt (dV 8) (dC (.int 0))) dNil)))) dNil)) (dCB wReprA (dCons (dBin wLt (dBin wAt (dV 3) (dC (.int 2))) (dBin wAt (dV 8) (dC (.int 1)))) dNil)))) (dRet (dC (.bl false))) dNext
def q0 : DTS := dAsg (dCall sp__law_source [] (dCons (dV 0) dNil)) (gdName 1)
def q1 : DTS := dAsg (dCall sp__law_scene [] (dCons (dV 1) dNil)) (gdTup 3 (gdCons (gdName 5) (gdCons (gdName 6) (gdCons (gdName 7) gdNil))))
def q2 : DTS := dAsg (dCB wReprA (dCons (dV 7) dNil)) (gdName 2)
def q3 : DTS := dFor (diVal (dV 7) wIterA) (gdName 3) (dFor (diVal (dV 7) wIterA) (gdName 8) qA)
def qB : DTS := dAsg (dIf (dTst (dBin wLt (dV 4) (dC (.int 4)))) (dCall sp__law_line [] (dCons (dV 1) (dCons (dV 7) dNil))) (dCall sp__law_fitting [] (dCons (dV 1) (dCons (dV 7) dNil)))) (gdName 9)
def qC : DTS := dIfS (dOr (dTst (dBin wNe (dCB wReprA (dCons (dCall (pur sp__law_said) [] (dCons (dV 7) (dCons (dV 9) dNil))) dNil)) (dCB wReprA (dCons (dCall (pur sp__law_due) [] (dCons (dV 7) (dCons (dV 9) dNil))) dNil)))) (dTst (dBin wNe (dCB wReprA (dCons (dV 7) dNil)) (dV 2)))) (dRet (dC (.bl false))) dNext
def qD : DTS := dIfS (dAnd (dTst (dBin wGt (dV 4) (dC (.int 3)))) (dTst (dBin wNe (dBin wAt (dCall (pur sp__law_said) [] (dCons (dV 7) (dCons (dV 9) dNil))) (dC (.int 0))) (dC (.str "told"))))) (dRet (dC (.bl false))) dNext
def q4 : DTS := dFor (diRng1 (dCons (dC (.int 8)) dNil)) (gdName 4) (dSeq qB (dSeq qC qD))
def q5 : DTS := dRet (dC (.bl true))
def r_law : DTS := dSeq q0 (dSeq q1 (dSeq q2 (dSeq q3 (dSeq q4 q5))))
abbrev N_law : List Str := ["_law_script", "_law_source_here", "_law_kept", "_law_one", "_law_turn", "_law_tree_here", "_law_hands_here", "_law_spans_here", "_law_other", "_law_line_here"]
section
variable {S : Sto} {f : Addr} {hs : List (List Dd)} {sp ls : List Spn} {x0 x1 x2 x3 x4 x5 x6 x7 x8 x9 : Option D}
theorem qA_of {Dn : DEnds} {s q : Spn} (O : SpOk hs sp) (hs' : s ∈ sp) (hq : q ∈ sp) (k : Dn.nx [x0, x1, x2, some s.D, x4, x5, x6, some (spansD sp), some q.D, x9] S) : qA Dn [x0, x1, x2, some s.D, x4, x5, x6, some (spansD sp), some q.D, x9] S := by
  have l12 := O.len
  unfold qA
  simp only [dIfS_eq, dTst_eq, dBin_eq, dCB_eq, dCall_eq, dCons_eq, dNil_eq, dC_eq, List.append_nil]
  refine dV_at (by rfl) ?_
  refine dV_at (by rfl) ?_
  unfold Spn.D
  rw [wAt_tup, atI0, onS_some]
  refine dV_at (by rfl) ?_
  rw [wAt_tup, atI0, onS_some]
  refine ⟨sp, s, q, rfl, (SpOk.keys O), by omega, hs', hq, fun _ => ?_⟩
  show wReprA [.bl (ahead s q)] _ _
  rw [wReprA_bl]
  refine dV_at (by rfl) ?_
  rw [wAt_tup, atI2, onS_some]
  refine dV_at (by rfl) ?_
  rw [wAt_tup, atI1, onS_some, wLt_int, wReprA_bl]
  have e : decide ((s.e : Int) < (q.b : Int)) = ahead s q := by
    unfold ahead
    by_cases h : s.e < q.b
    · rw [decide_eq_true h, decide_eq_true (by omega)]
    · rw [decide_eq_false h, decide_eq_false (by omega)]
  rw [e, wNe_str, isB_bl, if_neg (by simp)]
  exact k
theorem q3_of {Dn : DEnds} (O : SpOk hs sp) (k : ∀ y3 y8, Dn.nx [x0, x1, x2, y3, x4, x5, x6, some (spansD sp), y8, x9] S) : q3 Dn [x0, x1, x2, x3, x4, x5, x6, some (spansD sp), x8, x9] S := by
  unfold q3
  simp only [dFor_eq, diVal_eq]
  refine dV_at (by rfl) ?_
  unfold spansD
  rw [wIter_tup]
  refine loop_map Spn.D (fun _ τ S' => S' = S ∧ ∃ y3 y8, τ = [x0, x1, x2, y3, x4, x5, x6, some (spansD sp), y8, x9]) (fun _ _ _ _ => trivial) (fun τ S' h => ?_) (fun done s rest τ S' es h N hN => ?_) ⟨rfl, _, _, rfl⟩
  · obtain ⟨rfl, y3, y8, rfl⟩ := h
    exact k _ _
  · obtain ⟨rfl, y3, y8, rfl⟩ := h
    have hs' : s ∈ sp := by rw [es]; simp
    show dFor _ _ _ _ [x0, x1, x2, some s.D, x4, x5, x6, some (spansD sp), y8, x9] S'
    simp only [dFor_eq, diVal_eq]
    refine dV_at (by rfl) ?_
    unfold spansD
    rw [wIter_tup]
    refine loop_map Spn.D (fun _ τ S2 => S2 = S' ∧ ∃ y8, τ = [x0, x1, x2, some s.D, x4, x5, x6, some (spansD sp), y8, x9]) (fun _ _ _ _ => trivial) (fun τ S2 h => ?_) (fun done q rest τ S2 es2 h N2 hN2 => ?_) ⟨rfl, _, rfl⟩
    · obtain ⟨rfl, y8, rfl⟩ := h
      exact hN _ _ ⟨rfl, _, _, rfl⟩
    · obtain ⟨rfl, y8, rfl⟩ := h
      have hq : q ∈ sp := by rw [es2]; simp
      exact qA_of O hs' hq (hN2 _ _ ⟨rfl, _, rfl⟩)
theorem qC_of {Dn : DEnds} (H : HandsOk hs) (O : SpOk hs sp) (hin : ∀ s ∈ ls, s ∈ sp) (hl : ls.length = sp.length)
    (k : Dn.nx [x0, x1, some (.str (spansD sp).py.shown), x3, x4, x5, x6, some (spansD sp), x8, some (lineD ls)] S) : qC Dn [x0, x1, some (.str (spansD sp).py.shown), x3, x4, x5, x6, some (spansD sp), x8, some (lineD ls)] S := by
  have l12 := O.len
  have sm := sml_of H O
  have T := ans_Th (ls := ls) (fun s h => sm s (hin s h)) (by omega)
  unfold qC
  simp only [dIfS_eq, dOr_eq, dTst_eq, dBin_eq, dCB_eq, dCall_eq, dCons_eq, dNil_eq, dC_eq, List.append_nil]
  refine dV_at (by rfl) ?_
  refine dV_at (by rfl) ?_
  refine ⟨sp, ls, rfl, (SpOk.keys O), by omega, by omega, hin, fun _ => ?_⟩
  show wReprA [ansL ls] _ _
  rw [T.repr (by decide) (by decide) (by decide)]
  refine dV_at (by rfl) ?_
  refine dV_at (by rfl) ?_
  refine ⟨sp, ls, rfl, (SpOk.keys O), by omega, by omega, hin, fun _ => ?_⟩
  show wReprA [ansL ls] _ _
  rw [T.repr (by decide) (by decide) (by decide), wNe_str, isB_bl, if_neg (by simp)]
  refine dV_at (by rfl) ?_
  rw [(spans_Th sm l12).repr (by decide) (by decide) (by decide)]
  refine dV_at (by rfl) ?_
  rw [wNe_str, isB_bl, if_neg (by simp)]
  exact k
theorem qD_of {Dn : DEnds} {i : Nat} (O : SpOk hs sp) (hin : ∀ s ∈ ls, s ∈ sp) (hl : ls.length = sp.length) (hf : 3 < i → Fits ls)
    (k : Dn.nx [x0, x1, x2, x3, some (.int i), x5, x6, some (spansD sp), x8, some (lineD ls)] S) : qD Dn [x0, x1, x2, x3, some (.int i), x5, x6, some (spansD sp), x8, some (lineD ls)] S := by
  have l12 := O.len
  unfold qD
  simp only [dIfS_eq, dAnd_eq, dTst_eq, dBin_eq, dCall_eq, dCons_eq, dNil_eq, dC_eq, List.append_nil]
  refine dV_at (by rfl) ?_
  rw [wGt_int, isB_bl]
  by_cases h : 3 < i
  · rw [if_pos (decide_eq_true (by omega))]
    refine dV_at (by rfl) ?_
    refine dV_at (by rfl) ?_
    refine ⟨sp, ls, rfl, (SpOk.keys O), by omega, by omega, hin, fun _ => ?_⟩
    show wAt (ansL ls) _ _ _
    unfold ansL
    rw [(hf h).none]
    show wAt (.tup [.str "told", momsD ls]) (.int 0) _ _
    rw [wAt_tup, atI0, onS_some, wNe_str, isB_bl, if_neg (by simp)]
    exact k
  · rw [if_neg (by simp; omega)]
    exact k
theorem q4_of {Dn : DEnds} {m : Nat} (H : HandsOk hs) (O : SpOk hs sp) (fe : Feed S f m) (hm : m < 800010000)
    (k : ∀ y4 y9 S', Dn.nx [x0, some (.ref f), some (.str (spansD sp).py.shown), x3, y4, x5, x6, some (spansD sp), x8, y9] S') : q4 Dn [x0, some (.ref f), some (.str (spansD sp).py.shown), x3, x4, x5, x6, some (spansD sp), x8, x9] S := by
  unfold q4
  generalize hB : dSeq qB (dSeq qC qD) = B
  simp only [dFor_eq, diRng1_eq, dCons_eq, dC_eq, dNil_eq]
  refine ⟨by decide, by decide, ?_⟩
  rw [rngD_map]
  refine loop_map (fun i : Nat => D.int (i : Int)) (fun done τ S' => Feed S' f (m + 20 * done.length) ∧ ∃ y4 y9, τ = [x0, some (.ref f), some (.str (spansD sp).py.shown), x3, y4, x5, x6, some (spansD sp), x8, y9]) (fun _ _ _ _ => trivial) (fun τ S' h => ?_) (fun done i rest τ S' es h N hN => ?_) ⟨fe, _, _, rfl⟩
  · obtain ⟨_, y4, y9, rfl⟩ := h
    exact k _ _ _
  · obtain ⟨fe1, y4, y9, rfl⟩ := h
    have ld : done.length < 8 := by
      have := congrArg List.length es
      rw [List.length_range, List.length_append, List.length_cons] at this
      have : (8 : Int).toNat = 8 := rfl
      omega
    show B _ [x0, some (.ref f), some (.str (spansD sp).py.shown), x3, some (.int i), x5, x6, some (spansD sp), x8, y9] S'
    rw [← hB]
    simp only [dSeq_eq]
    have fin : ∀ ls S2, (∀ s ∈ ls, s ∈ sp) → ls.length = sp.length → (3 < i → Fits ls) → Feed S2 f (m + 20 * done.length + 20) → ∀ Dn : DEnds, Dn.nx = N → qC { Dn with nx := qD Dn } [x0, some (.ref f), some (.str (spansD sp).py.shown), x3, some (.int i), x5, x6, some (spansD sp), x8, some (lineD ls)] S2 := fun ls S2 h1 h2 h3 h4 Dn hn => by
      refine qC_of H O h1 h2 ?_
      refine qD_of O h1 h2 h3 ?_
      rw [hn]
      exact hN _ _ ⟨by rw [List.length_append]; exact h4, _, _, rfl⟩
    show qB _ [x0, some (.ref f), some (.str (spansD sp).py.shown), x3, some (.int i), x5, x6, some (spansD sp), x8, y9] S'
    unfold qB
    simp only [dAsg_eq, dIf_eq, dTst_eq, dBin_eq, dC_eq, dCall_eq, dCons_eq, dNil_eq, List.append_nil]
    refine dV_at (by rfl) ?_
    rw [wLt_int, isB_bl]
    by_cases h : i < 4
    · rw [if_pos (decide_eq_true (by omega))]
      refine dV_at (by rfl) ?_
      refine dV_at (by rfl) ?_
      refine ⟨f, hs, sp, m + 20 * done.length, rfl, O, by omega, fe1, fun ls S2 h1 h2 _ h4 _ => ?_⟩
      exact fin ls S2 h1 h2 (fun z => absurd h (by omega)) h4 _ rfl
    · rw [if_neg (by simp; omega)]
      refine dV_at (by rfl) ?_
      refine dV_at (by rfl) ?_
      refine ⟨f, hs, sp, m + 20 * done.length, rfl, O, by omega, fe1, fun ls S2 h1 h2 _ h3 h4 _ => ?_⟩
      exact fin ls S2 h1 h2 (fun _ => h3) h4 _ rfl
end
def sp_law : DSp := fun ds S Q E => ∃ ns : List Int, ds = [.fz (ns.map D.int)] ∧ ∀ S', Q (.bl true) S'
theorem len_law : ∀ ds S Q E, sp_law ds S Q E → ds.length = (["_law_script"] : List Str).length := fun _ _ _ _ ⟨_, e, _⟩ => by rw [e]; rfl
theorem vc_law {ds S Q E} (h : sp_law ds S Q E) : r_law (bodyEnds Q) (startD N_law ds) S := by
  obtain ⟨ns, rfl, k⟩ := h
  show r_law _ [some (.fz (ns.map D.int)), none, none, none, none, none, none, none, none, none] S
  unfold r_law
  simp only [dSeq_eq]
  show q0 _ _ _
  unfold q0
  simp only [dAsg_eq, dCall_eq, dCons_eq, dNil_eq, List.append_nil, gdName_eq]
  refine dV_at (by rfl) ?_
  refine ⟨ns, rfl, fun f S1 F1 _ _ => ?_⟩
  show q1 _ [some (.fz (ns.map D.int)), some (.ref f), none, none, none, none, none, none, none, none] S1
  unfold q1
  simp only [dAsg_eq, dCall_eq, dCons_eq, dNil_eq, List.append_nil]
  refine dV_at (by rfl) ?_
  refine ⟨f, 0, rfl, by decide, F1, fun rows made hs sp S2 _ H O F2 _ => ?_⟩
  refine ⟨rfl, rfl, ?_⟩
  show q2 _ [some (.fz (ns.map D.int)), some (.ref f), none, none, none, some (treeD rows made), some (handsD hs), some (spansD sp), none, none] S2
  unfold q2
  simp only [dAsg_eq, dCB_eq, dCons_eq, dNil_eq, gdName_eq]
  refine dV_at (by rfl) ?_
  rw [(spans_Th (sml_of H O) O.len).repr (by decide) (by decide) (by decide)]
  refine q3_of O fun y3 y8 => ?_
  refine q4_of H O F2 (by decide) fun y4 y9 S3 => ?_
  exact k _
end K22
namespace KN
open PySem PySem.Spec PyProof.Rows L2 DL KB KD
open K22 (lineD)
def dOf (hs : List (List Dd)) (s : Spn) : Dd := (hs.getD s.h []).getD s.k (.one "look" [])
def HasT (hs : List (List Dd)) (s : Spn) : Prop := s.h < hs.length ∧ s.k < (hs.getD s.h []).length
theorem getD_of {α : Type} {l : List α} {i : Nat} {d : α} (h : i < l.length) : l.getD i d = l[i]'h := by rw [List.getD_eq_getElem?_getD, List.getElem?_eq_getElem h]; rfl
def LsOk (NS : List Str) (hs : List (List Dd)) (ls : List Spn) : Prop := ∀ s ∈ ls, HasT hs s ∧ DdN NS (dOf hs s)
end KN
namespace KN
open PySem PySem.Spec PyProof.Rows L2 DL KB KD
open K22 (lineD)
abbrev TP := Spn × D
theorem task_cl20 (s : Spn) : s.task.cl 20 = true := by simp [Spn.task, D.cl, D.cls]
end KN
namespace KN
open PySem PySem.Spec PyProof.Rows L2 DL KB KD
open K22 (lineD)
theorem at_task {ls : List Spn} {j : Nat} (h : j < ls.length) {S : Sto} {Q : KD} : wAt (lineD ls) (.int (j : Nat)) S Q = Q (ls.getD j default).task S := by
  unfold lineD
  rw [wAt_tup, atI_nat (by rw [List.length_map]; exact h), onS_some, List.getElem_map, getD_of h]
end KN
namespace KN
open PySem PySem.Spec PyProof.Rows L2 DL KB KD
open K22 (lineD)
open KR (Sd Th bA bA_cons bA_nil)
theorem perm_of {α : Type} : ∀ {l r : List α}, l.Nodup → (∀ x ∈ l, x ∈ r) → r.length = l.length → r.Perm l
  | [], r, _, _, h => by rw [List.length_eq_zero_iff.mp h]
  | x :: l, r, nd, hin, h => by
    obtain ⟨a, b, rfl⟩ := List.append_of_mem (hin x (List.mem_cons_self ..))
    obtain ⟨n1, n2⟩ := List.nodup_cons.mp nd
    have p1 : (a ++ x :: b).Perm (x :: (a ++ b)) := List.perm_middle
    refine p1.trans (List.Perm.cons x (perm_of n2 (fun y hy => ?_) ?_))
    · have := p1.mem_iff.mp (hin y (List.mem_cons_of_mem _ hy))
      rcases List.mem_cons.mp this with rfl | z
      · exact absurd hy n1
      · exact z
    · have := p1.length_eq
      rw [List.length_cons] at this h
      omega
end KN
namespace K31
open PySem PySem.Spec PyProof.Rows L2 DL KB KD KN
open K22 (lineD)
open KR (Sd Th bA bA_cons bA_nil)
end K31
namespace KN
open PySem PySem.Spec PyProof.Rows L2 DL KB KD
open K22 (lineD ahead boD sp_bounds_of sp_first_behind fitT getT optT)
open KR (Sd Th bA bA_cons bA_nil)
structure AskS (NS : List Str) (t : TreeT) (hs : List (List Dd)) (sp : List Spn) (rs : List TP) (u : TreeT) (n m : Nat) : Prop where
  V : TV NS t n m
  U : TV NS u 40 1900
  ok : LsOk NS hs sp
  nd : (sp.map Spn.task).Nodup
  rp : ((rs.map fun p => p.1.task)).Perm (sp.map Spn.task)
  sd : ∀ p ∈ rs, Sd 3 200 p.2
  hl : n + sp.length ≤ 30
  hm : m + sp.length ≤ 1900
end KN
namespace KN
open PySem PySem.Spec PyProof.Rows L2 DL KB KD
open K22 (lineD ahead boD sp_bounds_of sp_first_behind fitT getT optT wDictT)
open KR (Sd Th bA bA_cons bA_nil)
def fitB : List Spn → Bool
  | [] => true
  | s :: r => (r.all fun q => !ahead q s) && fitB r
theorem fitB_iff : ∀ {ls : List Spn}, fitB ls = true ↔ ls.Pairwise fun q s => ahead s q = false
  | [] => by simp [fitB]
  | s :: r => by
    rw [fitB, Bool.and_eq_true, fitB_iff, List.pairwise_cons, List.all_eq_true]
    simp
theorem fitB_snoc {ls : List Spn} {s : Spn} : fitB (ls ++ [s]) = (fitB ls && !(ls.find? fun q => ahead s q).isSome) := by
  rw [Bool.eq_iff_iff, fitB_iff, Bool.and_eq_true, fitB_iff, List.pairwise_append]
  simp only [List.pairwise_singleton, List.mem_singleton, true_and, forall_eq]
  simp
def sp__law_fits : DSp := fun ds S Q E => ∃ sp ls, ds = [spansD sp, lineD ls] ∧ (sp.map Spn.task).Nodup ∧ sp.length ≤ 1000 ∧ ls.length ≤ 1000 ∧ (∀ s ∈ ls, s ∈ sp) ∧ ∀ S', Q (.bl (fitB ls)) S'
theorem len__law_fits : ∀ ds S Q E, sp__law_fits ds S Q E → ds.length = (["_law_spans_here", "_law_line_here"] : List Str).length := fun _ _ _ _ ⟨_, _, e, _⟩ => by rw [e]; rfl
def ft0 : DTS := dAsg (dCB wDict (dCons (dLC (diVal (dV 0) wIterA) (gdTup 3 (gdCons (gdName 5) (gdCons (gdName 6) (gdCons (gdName 7) gdNil)))) dYes [5, 6, 7] [5, 6, 7] [] (dTup (dCons (dV 5) (dCons (dTup (dCons (dV 6) (dCons (dV 7) dNil))) dNil)))) dNil)) (gdName 2)
def ftX : DTS := dIfS (dTst (dBin wLt (dBin wAt (dBin wAt (dV 2) (dBin wAt (dV 1) (dV 4))) (dC (.int 1))) (dBin wAt (dBin wAt (dV 2) (dBin wAt (dV 1) (dV 3))) (dC (.int 0))))) (dRet (dC (.bl false))) dNext
def ftY : DTS := dFor (diRng2 (dCons (dBin wAdd (dV 3) (dC (.int 1))) (dCons (dCB wLen (dCons (dV 1) dNil)) dNil))) (gdName 4) ftX
def ft1 : DTS := dFor (diRng1 (dCons (dCB wLen (dCons (dV 1) dNil)) dNil)) (gdName 3) ftY
def ft2 : DTS := dRet (dC (.bl true))
def r__law_fits : DTS := dSeq ft0 (dSeq ft1 ft2)
abbrev N__law_fits : List Str := ["_law_spans_here", "_law_line_here", "_law_known", "_law_i", "_law_j", "_law_task", "_law_begin", "_law_end"]
section
variable {S : Sto} {P : Addr} {sp ls : List Spn} {x0 x3 x4 x5 x6 x7 : Option D} {Dn : DEnds} {i j : Nat}
theorem ftX_of (nd : (sp.map Spn.task).Nodup) (hin : ∀ s ∈ ls, s ∈ sp) (eP : S P = some (.dct (sp.map fun s => (s.task, boD s)))) (hi : i < ls.length) (hj : j < ls.length)
    (bad : ahead (ls.getD j default) (ls.getD i default) = true → Dn.rt (.bl false) S) (good : ahead (ls.getD j default) (ls.getD i default) = false → Dn.nx [x0, some (lineD ls), some (.ref P), some (.int (i : Nat)), some (.int (j : Nat)), x5, x6, x7] S) :
    ftX Dn [x0, some (lineD ls), some (.ref P), some (.int (i : Nat)), some (.int (j : Nat)), x5, x6, x7] S := by
  have ii : ls.getD i default ∈ sp := hin _ (by rw [getD_of hi]; exact List.getElem_mem _)
  have ij : ls.getD j default ∈ sp := hin _ (by rw [getD_of hj]; exact List.getElem_mem _)
  unfold ftX
  simp only [dIfS_eq, dTst_eq, dBin_eq, dC_eq, dNext_eq]
  refine dV_at (by rfl) ?_
  refine dV_at (by rfl) ?_
  refine dV_at (by rfl) ?_
  rw [at_task hj, wAt_dct eP (fitT (x := ls.getD j default)) (getT nd ij)]
  show wAt (.tup [_, .int (ls.getD j default).e]) (.int 1) S _
  rw [wAt_tup, atI1, onS_some]
  refine dV_at (by rfl) ?_
  refine dV_at (by rfl) ?_
  refine dV_at (by rfl) ?_
  rw [at_task hi, wAt_dct eP (fitT (x := ls.getD i default)) (getT nd ii)]
  show wAt (.tup [.int (ls.getD i default).b, _]) (.int 0) S _
  rw [wAt_tup, atI0, onS_some, KB.wLt_int, isB_bl]
  by_cases h : ahead (ls.getD j default) (ls.getD i default) = true
  · have h2 : (ls.getD j default).e < (ls.getD i default).b := of_decide_eq_true h
    rw [if_pos (decide_eq_true (by omega))]
    exact bad h
  · have h2 : ¬ (ls.getD j default).e < (ls.getD i default).b := fun z => h (decide_eq_true z)
    rw [if_neg (fun z => h2 (by have := of_decide_eq_true z; omega))]
    exact good (by simpa using h)
end
theorem fit_idx {ls : List Spn} : (∀ i j, i < j → j < ls.length → ahead (ls.getD j default) (ls.getD i default) = false) ↔ fitB ls = true := by
  rw [fitB_iff, List.pairwise_iff_getElem]
  constructor
  · intro h i j hi hj hij
    have := h i j hij hj
    rwa [getD_of hj, getD_of hi] at this
  · intro h i j hij hj
    have hi : i < ls.length := by omega
    rw [getD_of hj, getD_of hi]
    exact h i j hi hj hij
theorem vc__law_fits {ds S Q E} (h : sp__law_fits ds S Q E) : r__law_fits (bodyEnds Q) (startD N__law_fits ds) S := by
  have sz : 1001 < sizeLine := by rw [sizeLine_eq]; decide
  obtain ⟨sp, ls, rfl, nd, hl, hls, hin, k⟩ := h
  show r__law_fits _ [some (spansD sp), some (lineD ls), none, none, none, none, none, none] S
  unfold r__law_fits
  simp only [dSeq_eq]
  unfold ft0
  simp only [dAsg_eq, dCB_eq, dCons_eq, dNil_eq, dLC_eq, diVal_eq, gdName_eq]
  refine dV_at (by rfl) ?_
  unfold spansD
  rw [wIter_tup]
  intro R hR
  refine lc_map Spn.D (fun s => [.tup [s.task, boD s]]) sp (fun _ => trivial) (by rw [flatMap_one, List.length_map]; omega) (fun s hs acc k2 hacc hk => ?_) ?_
  · refine ⟨rfl, rfl, rfl, ?_⟩
    rw [dYes_eq, if_pos rfl, emLst_eq]
    simp only [dTup_eq, dCons_eq, dNil_eq]
    refine dV_at (by rfl) ?_
    refine dV_at (by rfl) ?_
    refine dV_at (by rfl) ?_
    refine ⟨by show 2 ≤ sizeLine; omega, by show 2 ≤ sizeLine; omega, ?_⟩
    rw [onL_put, put_put']
    simp only [List.length_singleton] at hacc
    exact ⟨by omega, hk⟩
  rw [flatMap_one]
  refine wDictT (v := boD) (sp := sp) ?_ nd fun P hP => ?_
  · show seqOf _ (.ref R) = _
    simp [seqOf, put_same]
  generalize hS : put (put S R _) P _ = S2
  have eP : S2 P = some (.dct (sp.map fun s => (s.task, boD s))) := by rw [← hS]; exact put_same
  clear hS
  show ft1 _ [some (spansD sp), some (lineD ls), some (.ref P), none, none, none, none, none] S2
  unfold ft1
  generalize hB : ftY = B
  simp only [dFor_eq, diRng1_eq, dCB_eq, dCons_eq, dNil_eq]
  refine dV_at (by rfl) ?_
  unfold lineD
  rw [wLen_tup, List.length_map]
  refine ⟨by omega, by omega, ?_⟩
  rw [Int.toNat_natCast, rngD_map]
  refine loop_map (fun i : Nat => D.int (i : Int)) (fun done τ S' => S' = S2 ∧ (∀ i, i < done.length → ∀ j, i < j → j < ls.length → ahead (ls.getD j default) (ls.getD i default) = false) ∧ ∃ y3 y4, τ = [some (spansD sp), some (lineD ls), some (.ref P), y3, y4, none, none, none]) (fun _ _ _ _ => trivial) (fun τ S' h => ?_) (fun done i rest τ S' es h N hN => ?_) ⟨rfl, fun i hi => (nomatch hi), _, _, rfl⟩
  · obtain ⟨rfl, hd, y3, y4, rfl⟩ := h
    rw [List.length_range] at hd
    show ft2 (bodyEnds Q) [some (spansD sp), some (lineD ls), some (.ref P), y3, y4, none, none, none] S'
    unfold ft2
    have e : fitB ls = true := fit_idx.mp fun i j hij hj => hd i (by omega) j hij hj
    have := k S'
    rw [e] at this
    exact this
  · obtain ⟨rfl, hd, y3, y4, rfl⟩ := h
    obtain ⟨rfl, hdl⟩ := range_split es
    show B _ [some (spansD sp), some (lineD ls), some (.ref P), some (.int (done.length : Nat)), y4, none, none, none] S'
    rw [← hB]
    unfold ftY
    simp only [dFor_eq]
    unfold diRng2
    simp only [dCB_eq, dCons_eq, dNil_eq, dBin_eq, dC_eq]
    refine dV_at (by rfl) ?_
    rw [wAdd_int]
    refine dV_at (by rfl) ?_
    unfold lineD
    rw [wLen_tup, List.length_map]
    refine ⟨⟨by omega, by omega, by omega, by omega⟩, ?_⟩
    have e0 : ((ls.length : Int) - ((done.length : Int) + 1)).toNat = ls.length - (done.length + 1) := by omega
    rw [e0, rngD_eq]
    refine loop_map (fun j : Nat => D.int (((done.length : Int) + 1) + (j : Int))) (fun dj τ S2' => S2' = S' ∧ (∀ j, j < dj.length → ahead (ls.getD (done.length + 1 + j) default) (ls.getD done.length default) = false) ∧ ∃ y4, τ = [some (spansD sp), some (lineD ls), some (.ref P), some (.int (done.length : Nat)), y4, none, none, none]) (fun _ _ _ _ => trivial) (fun τ S2' h => ?_) (fun dj j rest2 τ S2' es2 h N2 hN2 => ?_) ⟨rfl, fun j hj => (nomatch hj), _, rfl⟩
    · obtain ⟨rfl, hd2, y4, rfl⟩ := h
      rw [List.length_range] at hd2
      refine hN _ _ ⟨rfl, fun i hi j hij hj => ?_, _, _, rfl⟩
      rw [List.length_append] at hi
      have hi : i < done.length + 1 := hi
      by_cases h : i < done.length
      · exact hd i h j hij hj
      · have ei : i = done.length := by omega
        subst ei
        have := hd2 (j - (done.length + 1)) (by omega)
        rwa [show done.length + 1 + (j - (done.length + 1)) = j by omega] at this
    · obtain ⟨rfl, hd2, y4, rfl⟩ := h
      obtain ⟨rfl, hdj⟩ := range_split es2
      have ec : ((done.length : Int) + 1) + ((dj.length : Nat) : Int) = ((done.length + 1 + dj.length : Nat) : Int) := by omega
      show ftX _ [some (spansD sp), some (lineD ls), some (.ref P), some (.int (done.length : Nat)), some (.int (((done.length : Int) + 1) + ((dj.length : Nat) : Int))), none, none, none] S2'
      rw [ec]
      refine ftX_of nd hin eP (by omega) (by omega) (fun hb => ?_) fun hb => ?_
      · have e : fitB ls = false := by
          rw [← Bool.not_eq_true]
          intro z
          have := fit_idx.mpr z done.length (done.length + 1 + dj.length) (by omega) (by omega)
          rw [hb] at this; cases this
        have := k S2'
        rw [e] at this
        exact this
      · refine hN2 _ _ ⟨rfl, fun j hj => ?_, _, rfl⟩
        rw [List.length_append] at hj
        have hj : j < dj.length + 1 := hj
        by_cases h : j < dj.length
        · exact hd2 j h
        · have ej : j = dj.length := by omega
          subst ej
          exact hb
end KN
namespace KN
open PySem PySem.Spec PyProof.Rows L2 DL KB KD
open K22 (lineD rdy task_cl)
open KR (Sd Th bA bA_cons bA_nil)
theorem dSeq_go {a b : DTS} {Dn : DEnds} {τ : DSt} {S : Sto} (h : a { Dn with nx := b Dn } τ S) : dSeq a b Dn τ S := h
structure Beg (sp l : List Spn) (k : Nat) : Prop where
  len : l.length = k
  nd : l.Nodup
  sub : ∀ s ∈ l, s ∈ sp
theorem Beg.perm {sp l : List Spn} (h : Beg sp l sp.length) (nd : sp.Nodup) : l.Perm sp := by
  have main : ∀ {l r : List Spn}, l.Nodup → (∀ x ∈ l, x ∈ r) → r.length = l.length → r.Perm l := fun nd hin hl => perm_of nd hin hl
  exact (main h.nd h.sub h.len.symm).symm
def fresh (l : List Spn) (s : Spn) : Bool := !decide (s.task ∈ l.map Spn.task)
def more (sp l : List Spn) : List (List Spn) := ((sp.filter (fresh l)).filter (rdy l)).map fun s => l ++ [s]
theorem more_ok {sp l : List Spn} {k : Nat} (h : Beg sp l k) : ∀ r ∈ more sp l, Beg sp r (k + 1) := fun r hr => by
  obtain ⟨s, hs, rfl⟩ := List.mem_map.mp hr
  obtain ⟨h1, _⟩ := List.mem_filter.mp hs
  obtain ⟨h2, h3⟩ := List.mem_filter.mp h1
  refine ⟨by rw [List.length_append, h.len]; rfl, ?_, fun x hx => ?_⟩
  · rw [List.nodup_append]
    refine ⟨h.nd, by simp, fun a ha b hb e => ?_⟩
    rw [List.mem_singleton.mp hb] at e
    rw [e] at ha
    unfold fresh at h3
    have : s.task ∉ l.map Spn.task := by simpa using h3
    exact this (List.mem_map_of_mem ha)
  · rcases List.mem_append.mp hx with hx | hx
    · exact h.sub x hx
    · rw [List.mem_singleton.mp hx]; exact h2
theorem more_len {sp l : List Spn} : (more sp l).length ≤ sp.length := by
  unfold more
  rw [List.length_map]
  exact Nat.le_trans (List.length_filter_le _ _) (List.length_filter_le _ _)
def sp__law_lines : DSp := fun ds S Q E => ∃ (T : Addr) (sp : List Spn), ds = [.ref T] ∧ S T = some (.lst (sp.map Spn.task)) ∧ (sp.map Spn.task).Nodup ∧ sp.length ≤ 4 ∧ ∀ (L : Addr) (lines : List (List Spn)) (S' : Sto), S' L = some (.lst (lines.map lineD)) → S L = none → Grow S S' → lines.length ≤ 256 → (∀ l ∈ lines, l.Perm sp) → Q (.ref L) S'
theorem len__law_lines : ∀ ds S Q E, sp__law_lines ds S Q E → ds.length = (["_law_tasks"] : List Str).length := fun _ _ _ _ ⟨_, _, e, _⟩ => by rw [e]; rfl
def ll0 : DTS := dAsg (dLst (dCons (dTup dNil) dNil)) (gdName 1)
def llA : DTS := dAsg (dLst dNil) (gdName 3)
def llB : DTS := dAsg (dLC (diVal (dV 0) wIterA) (gdName 6) (dTst (dBin (wIn true) (dV 6) (dV 4))) [6] [6] [] (dV 6)) (gdName 5)
def llC : DTS := dAsg (dLC (diVal (dV 5) wIterA) (gdName 6) (dOr (dTst (dBin wEq (dBin wAt (dV 6) (dC (.int 1))) (dC (.int 0)))) (dTst (dBin (wIn false) (dTup (dCons (dBin wAt (dV 6) (dC (.int 0))) (dCons (dBin wSub (dBin wAt (dV 6) (dC (.int 1))) (dC (.int 1))) dNil))) (dV 4)))) [6] [6] [] (dV 6)) (gdName 5)
def llD : DTS := dDrop (dBM "list" wExtend (dV 3) (dCons (dLC (diVal (dV 5) wIterA) (gdName 6) dYes [6] [6] [] (dBin wAdd (dV 4) (dTup (dCons (dV 6) dNil)))) dNil))
def llW : DTS := dFor (diVal (dV 1) wIterA) (gdName 4) (dSeq llB (dSeq llC llD))
def llE : DTS := dAsg (dV 3) (gdName 1)
def ll1 : DTS := dFor (diRng1 (dCons (dCB wLen (dCons (dV 0) dNil)) dNil)) (gdName 2) (dSeq llA (dSeq llW llE))
def ll2 : DTS := dRet (dV 1)
def r__law_lines : DTS := dSeq ll0 (dSeq ll1 ll2)
abbrev N__law_lines : List Str := ["_law_tasks", "_law_found", "_law_k", "_law_longer", "_law_line", "_law_ready", "_law_task"]
theorem flatf {α : Type} {p : α → Bool} {v : α → D} : ∀ ls : List α, (ls.flatMap fun s => if p s = true then [v s] else []) = (ls.filter p).map v
  | [] => rfl
  | x :: r => by
    rw [List.flatMap_cons, flatf r, List.filter_cons]
    by_cases h : p x = true
    · rw [if_pos h, if_pos h]; rfl
    · rw [if_neg h, if_neg h]; rfl
section
variable {S : Sto} {T F R : Addr} {sp l : List Spn} {acc : List (List Spn)} {x2 x5 x6 : Option D} {Dn : DEnds}
theorem llBD_of (eT : S T = some (.lst (sp.map Spn.task))) (eR : S R = some (.lst (acc.map lineD))) (hl : sp.length ≤ 4) (hll : l.length ≤ 4) (ha : acc.length ≤ 300)
    (k : ∀ y5 S', (∀ b o, b ≠ R → S b = some o → S' b = some o) → S' R = some (.lst ((acc ++ more sp l).map lineD)) → Dn.nx [some (.ref T), some (.ref F), x2, some (.ref R), some (lineD l), y5, x6] S') :
    dSeq llB (dSeq llC llD) Dn [some (.ref T), some (.ref F), x2, some (.ref R), some (lineD l), x5, x6] S := by
  have sz : 1001 < sizeLine := by rw [sizeLine_eq]; decide
  have lc : ∀ d ∈ l.map Spn.task, d.cl 19 = true := fun d hd => by obtain ⟨q, _, rfl⟩ := List.mem_map.mp hd; exact task_cl q 17
  refine dSeq_go ?_
  unfold llB
  simp only [dAsg_eq, dLC_eq, diVal_eq, gdName_eq]
  refine dV_at (by rfl) ?_
  rw [wIter_lst eT]
  intro A hA
  have TA : T ≠ A := ne_of_free hA eT
  have RA : R ≠ A := ne_of_free hA eR
  refine lc_map Spn.task (fun s => if fresh l s = true then [s.task] else []) sp (fun _ => by rw [put_ne TA]; exact eT) ?_ (fun s hs acc2 k2 hacc hk => ?_) ?_
  · have := flatMap_le (fun s : Spn => if fresh l s = true then [s.task] else []) 1 sp fun x _ => by split <;> simp
    omega
  · refine ⟨rfl, ?_⟩
    simp only [dTst_eq, dBin_eq]
    refine dV_at (by rfl) ?_
    refine dV_at (by rfl) ?_
    unfold lineD
    rw [wIn_tup (.cl (task_cl20 s)) lc, isB_bl]
    have e : (true != decide (s.task ∈ l.map Spn.task)) = fresh l s := by unfold fresh; simp
    rw [e]
    by_cases h : fresh l s = true
    · rw [if_pos h] at hacc hk ⊢
      rw [emLst_eq]
      refine dV_at (by rfl) ?_
      rw [onL_put, put_put']
      simp only [List.length_singleton] at hacc
      exact ⟨by omega, hk⟩
    · rw [if_neg h] at hk ⊢
      rw [List.append_nil] at hk
      exact hk
  rw [flatf]
  have eA : put S A (.lst ((sp.filter (fresh l)).map Spn.task)) A = some (.lst ((sp.filter (fresh l)).map Spn.task)) := put_same
  have eR1 : put S A (.lst ((sp.filter (fresh l)).map Spn.task)) R = some (.lst (acc.map lineD)) := by rw [put_ne RA]; exact eR
  have G1 : Grow S (put S A (.lst ((sp.filter (fresh l)).map Spn.task))) := (Grow.refl S).then hA
  have n1 := List.length_filter_le (fresh l) sp
  generalize put S A (.lst ((sp.filter (fresh l)).map Spn.task)) = S1 at *
  refine dSeq_go ?_
  show llC _ [some (.ref T), some (.ref F), x2, some (.ref R), some (lineD l), some (.ref A), x6] S1
  unfold more at k
  generalize sp.filter (fresh l) = q1 at *
  unfold llC
  simp only [dAsg_eq, dLC_eq, diVal_eq, gdName_eq]
  refine dV_at (by rfl) ?_
  rw [wIter_lst eA]
  intro B hB
  have AB : A ≠ B := ne_of_free hB eA
  have RB : R ≠ B := ne_of_free hB eR1
  refine lc_map Spn.task (fun s => if rdy l s = true then [s.task] else []) q1 (fun _ => by rw [put_ne AB]; exact eA) ?_ (fun s hs acc2 k2 hacc hk => ?_) ?_
  · have := flatMap_le (fun s : Spn => if rdy l s = true then [s.task] else []) 1 q1 fun x _ => by split <;> simp
    omega
  · refine ⟨rfl, ?_⟩
    have yes : rdy l s = true → emLst (dV 6) B [some (.ref T), some (.ref F), x2, some (.ref R), some (lineD l), some (.ref A), some s.task] (put S1 B (.lst acc2)) k2 := fun h => by
      rw [emLst_eq]
      rw [if_pos h] at hacc hk
      refine dV_at (by rfl) ?_
      rw [onL_put, put_put']
      simp only [List.length_singleton] at hacc
      exact ⟨by omega, hk⟩
    simp only [dOr_eq, dTst_eq, dBin_eq, dC_eq, dTup_eq, dCons_eq, dNil_eq]
    refine dV_at (by rfl) ?_
    unfold Spn.task
    rw [wAt_tup, atI1, onS_some, wEq_int, isB_bl]
    by_cases h0 : s.k = 0
    · rw [if_pos (by simpa using h0), if_pos trivial]
      exact yes (by unfold rdy; rw [decide_eq_true h0]; rfl)
    · rw [if_neg (by simpa using h0)]
      refine dV_at (by rfl) ?_
      rw [wAt_tup, atI0, onS_some]
      refine dV_at (by rfl) ?_
      rw [wAt_tup, atI1, onS_some, KB.wSub_int]
      refine ⟨by show 2 ≤ sizeLine; omega, ?_⟩
      refine dV_at (by rfl) ?_
      unfold lineD
      rw [wIn_tup (.cl (by simp [D.cl, D.cls])) lc, isB_bl]
      by_cases h1 : D.tup [.int s.h, .int ((s.k : Int) - 1)] ∈ l.map Spn.task
      · rw [decide_eq_true h1, if_pos (by rfl)]
        exact yes (by unfold rdy; rw [decide_eq_true h1, Bool.or_true])
      · rw [decide_eq_false h1, if_neg (by decide)]
        have hf : rdy l s = false := by unfold rdy; rw [decide_eq_false h0, decide_eq_false h1]; rfl
        rw [if_neg (by rw [hf]; decide), List.append_nil] at hk
        exact hk
  rw [flatf]
  have eB : put S1 B (.lst ((q1.filter (rdy l)).map Spn.task)) B = some (.lst ((q1.filter (rdy l)).map Spn.task)) := put_same
  have eR2 : put S1 B (.lst ((q1.filter (rdy l)).map Spn.task)) R = some (.lst (acc.map lineD)) := by rw [put_ne RB]; exact eR1
  have G2 : Grow S (put S1 B (.lst ((q1.filter (rdy l)).map Spn.task))) := G1.then hB
  have n2 := List.length_filter_le (rdy l) q1
  generalize put S1 B (.lst ((q1.filter (rdy l)).map Spn.task)) = S2 at *
  show llD _ [some (.ref T), some (.ref F), x2, some (.ref R), some (lineD l), some (.ref B), x6] S2
  generalize q1.filter (rdy l) = q2 at *
  unfold llD
  simp only [dDrop_eq, dBM_eq, dLC_eq, diVal_eq, dCons_eq, dNil_eq]
  refine dV_at (by rfl) ?_
  refine ⟨tyD_lst eR2, ?_⟩
  refine dV_at (by rfl) ?_
  rw [wIter_lst eB]
  intro C hC
  have BC : B ≠ C := ne_of_free hC eB
  have RC : R ≠ C := ne_of_free hC eR2
  refine lc_map Spn.task (fun s => [lineD (l ++ [s])]) q2 (fun _ => by rw [put_ne BC]; exact eB) (by rw [flatMap_one, List.length_map]; omega) (fun s hs acc2 k2 hacc hk => ?_) ?_
  · refine ⟨rfl, ?_⟩
    rw [dYes_eq, if_pos rfl, emLst_eq]
    simp only [dBin_eq, dTup_eq, dCons_eq, dNil_eq]
    refine dV_at (by rfl) ?_
    refine dV_at (by rfl) ?_
    refine ⟨by show 1 ≤ sizeLine; omega, ?_⟩
    show wAdd (.tup (l.map Spn.task)) (.tup [s.task]) _ _
    rw [wAdd_tup]
    refine ⟨by rw [List.length_map]; show _ + 1 ≤ _; omega, ?_⟩
    rw [onL_put, put_put']
    simp only [List.length_singleton] at hacc
    have e : D.tup (l.map Spn.task ++ [s.task]) = lineD (l ++ [s]) := by unfold lineD; rw [List.map_append]; rfl
    rw [e]
    exact ⟨by omega, hk⟩
  rw [flatMap_one]
  show wExtend (.ref R) [.ref C] _ _
  rw [wExtend_lst (by rw [put_ne RC]; exact eR2) put_same]
  refine ⟨by rw [List.length_map, List.length_map]; omega, ?_⟩
  refine k (some (.ref B)) _ (fun b o hbR hb => ?_) ?_
  · have h3 := G2 b o hb
    have bC : b ≠ C := ne_of_free hC h3
    rw [put_ne hbR, put_ne bC]; exact h3
  · rw [put_same, List.map_append, List.map_map]; rfl
end
theorem vc__law_lines {ds S Q E} (h : sp__law_lines ds S Q E) : r__law_lines (bodyEnds Q) (startD N__law_lines ds) S := by
  have sz : 1001 < sizeLine := by rw [sizeLine_eq]; decide
  obtain ⟨T, sp, rfl, eT, nd, hl, k⟩ := h
  have nd' : sp.Nodup := List.Pairwise.of_map Spn.task (fun _ _ h e => h (congrArg _ e)) nd
  show r__law_lines _ [some (.ref T), none, none, none, none, none, none] S
  unfold r__law_lines
  refine dSeq_go ?_
  unfold ll0
  simp only [dAsg_eq, dLst_eq, dTup_eq, dCons_eq, dNil_eq, gdName_eq]
  refine ⟨by show 0 ≤ sizeLine; omega, by show 1 ≤ sizeLine; omega, fun F hF => ?_⟩
  have TF : T ≠ F := ne_of_free hF eT
  have eF : put S F (.lst [.tup []]) F = some (.lst (([[]] : List (List Spn)).map lineD)) := put_same
  have G0 : Grow S (put S F (.lst [.tup []])) := (Grow.refl S).then hF
  refine dSeq_go ?_
  show ll1 _ [some (.ref T), some (.ref F), none, none, none, none, none] (put S F (.lst [.tup []]))
  generalize put S F (.lst [.tup []]) = S0 at *
  have eT0 := G0 T _ eT
  unfold ll1
  generalize hB : dSeq llA (dSeq llW llE) = B
  simp only [dFor_eq, diRng1_eq, dCB_eq, dCons_eq, dNil_eq]
  refine dV_at (by rfl) ?_
  rw [wLen_lst eT0, List.length_map]
  refine ⟨by omega, by omega, ?_⟩
  rw [Int.toNat_natCast, rngD_map]
  refine loop_map (fun i : Nat => D.int (i : Int)) (fun done τ S' => Grow S S' ∧ ∃ (A : Addr) (lines : List (List Spn)) (y2 y3 y4 y5 : Option D), S' A = some (.lst (lines.map lineD)) ∧ S A = none ∧ lines.length ≤ 4 ^ done.length ∧ (∀ l ∈ lines, Beg sp l done.length) ∧ τ = [some (.ref T), some (.ref A), y2, y3, y4, y5, none])
    (fun _ _ _ _ => trivial) (fun τ S' h => ?_) (fun done i rest τ S' es h N hN => ?_) ⟨G0, F, [[]], _, _, _, _, eF, hF, by simp, fun l hl => by rw [List.mem_singleton.mp hl]; exact ⟨rfl, List.nodup_nil, by simp⟩, rfl⟩
  · obtain ⟨G, A, lines, y2, y3, y4, y5, eA, A0, len, bg, rfl⟩ := h
    rw [List.length_range] at len bg
    show ll2 (bodyEnds Q) [some (.ref T), some (.ref A), y2, y3, y4, y5, none] S'
    unfold ll2
    rw [dRet_eq]
    refine dV_at (by rfl) ?_
    refine k A lines S' eA A0 G (Nat.le_trans len (Nat.le_trans (Nat.pow_le_pow_right (by decide) hl) (by decide))) fun l hl => (bg l hl).perm nd'
  · obtain ⟨G, A, lines, y2, y3, y4, y5, eA, A0, len, bg, rfl⟩ := h
    obtain ⟨rfl, hd⟩ := range_split es
    have l64 : lines.length ≤ 64 := Nat.le_trans len (Nat.le_trans (Nat.pow_le_pow_right (by decide) (by omega : done.length ≤ 3)) (by decide))
    show B _ [some (.ref T), some (.ref A), some (.int (done.length : Nat)), y3, y4, y5, none] S'
    rw [← hB]
    refine dSeq_go ?_
    unfold llA
    simp only [dAsg_eq, dLst_eq, dNil_eq, gdName_eq]
    refine ⟨by show 0 ≤ sizeLine; omega, fun R hR => ?_⟩
    have AR : A ≠ R := ne_of_free hR eA
    have TR : T ≠ R := ne_of_free hR (G T _ eT)
    have R0 : S R = none := G.free hR
    have eR : put S' R (.lst []) R = some (.lst (([] : List (List Spn)).map lineD)) := put_same
    have eA1 : put S' R (.lst []) A = some (.lst (lines.map lineD)) := by rw [put_ne AR]; exact eA
    have G1 : Grow S (put S' R (.lst [])) := G.then hR
    refine dSeq_go ?_
    show llW _ [some (.ref T), some (.ref A), some (.int (done.length : Nat)), some (.ref R), y4, y5, none] (put S' R (.lst []))
    generalize put S' R (.lst []) = S1 at *
    unfold llW
    generalize hC : dSeq llB (dSeq llC llD) = C
    simp only [dFor_eq, diVal_eq]
    refine dV_at (by rfl) ?_
    rw [wIter_lst eA1]
    refine loop_map lineD (fun dl τ S2 => S2 A = some (.lst (lines.map lineD)) ∧ Grow S S2 ∧ ∃ (acc : List (List Spn)) (y4 y5 : Option D), S2 R = some (.lst (acc.map lineD)) ∧ acc.length ≤ 4 * dl.length ∧ (∀ l ∈ acc, Beg sp l (done.length + 1)) ∧ τ = [some (.ref T), some (.ref A), some (.int (done.length : Nat)), some (.ref R), y4, y5, none])
      (fun _ _ _ h => h.1) (fun τ S2 h => ?_) (fun dl l rest2 τ S2 es2 h N2 hN2 => ?_) ⟨eA1, G1, [], _, _, eR, by simp, by simp, rfl⟩
    · obtain ⟨_, G2, acc, y4, y5, eR2, len2, bg2, rfl⟩ := h
      show llE { nx := N, rt := (bodyEnds Q).rt, bk := ll2 (bodyEnds Q), ct := N } [some (.ref T), some (.ref A), some (.int (done.length : Nat)), some (.ref R), y4, y5, none] S2
      unfold llE
      simp only [dAsg_eq, gdName_eq]
      refine dV_at (by rfl) ?_
      refine hN _ _ ⟨G2, R, acc, _, _, _, _, eR2, R0, ?_, fun l hl => by rw [List.length_append]; exact bg2 l hl, rfl⟩
      rw [List.length_append]
      show _ ≤ 4 ^ (done.length + 1)
      rw [Nat.pow_succ]
      omega
    · obtain ⟨eA2, G2, acc, y4, y5, eR2, len2, bg2, rfl⟩ := h
      have ldl : dl.length < lines.length := by rw [es2]; simp
      have bl := bg l (by rw [es2]; simp)
      show C _ [some (.ref T), some (.ref A), some (.int (done.length : Nat)), some (.ref R), some (lineD l), y5, none] S2
      rw [← hC]
      refine llBD_of (G2 T _ eT) eR2 hl (by rw [bl.len]; omega) (by omega) fun y5 S3 keep e3 => ?_
      refine hN2 _ _ ⟨keep A _ AR eA2, fun b o hb => ?_, acc ++ more sp l, _, _, e3, ?_, fun r hr => ?_, rfl⟩
      · refine keep b o (fun e => ?_) (G2 b o hb)
        subst e; rw [R0] at hb; cases hb
      · have := more_len (sp := sp) (l := l)
        rw [List.length_append, List.length_append]
        show _ ≤ 4 * (dl.length + 1)
        omega
      · rcases List.mem_append.mp hr with hr | hr
        · exact bg2 r hr
        · exact more_ok bl r hr
def sp__law_few : DSp := fun ds S Q E => ∃ sp, ds = [spansD sp] ∧ ∀ S', Q (spansD (sp.take 4)) S'
theorem len__law_few : ∀ ds S Q E, sp__law_few ds S Q E → ds.length = (["_law_spans_here"] : List Str).length := fun _ _ _ _ ⟨_, e, _⟩ => by rw [e]; rfl
def r__law_few : DTS := dRet (dCut (dV 0) dNoPart (dPart (dC (.int 4))))
abbrev N__law_few : List Str := ["_law_spans_here"]
theorem vc__law_few {ds S Q E} (h : sp__law_few ds S Q E) : r__law_few (bodyEnds Q) (startD N__law_few ds) S := by
  obtain ⟨sp, rfl, k⟩ := h
  show r__law_few _ [some (spansD sp)] S
  unfold r__law_few
  simp only [dRet_eq, dCut_eq, dNoPart_eq, dPart_eq, dC_eq]
  refine dV_at (by rfl) ?_
  unfold spansD
  rw [isI_int, wCut_tup, show (4 : Int) = ((4 : Nat) : Int) from rfl, KN.cut_toT, ← List.map_take]
  exact k S
end KN
namespace DL
open PySem PySem.Spec PyProof.Rows L2
mutual
def noL : PyData → Bool
  | .list _ => false
  | .dict _ => false
  | .tuple ds => noLs ds
  | _ => true
def noLs : List PyData → Bool
  | [] => true
  | d :: ds => noL d && noLs ds
end
def keyD : D → D
  | .tup (x :: _) => x
  | d => d
structure KSortOk (S : Sto) (ds : List D) : Prop where
  key : ∀ d ∈ ds, ∃ x xs, d = .tup (x :: xs)
  ok : ∀ d ∈ ds, (rd 6 S (keyD d)).ok 40 = true
  flat : ∀ d ∈ ds, noL (enc6 S (keyD d)) = true
  alk : PySem.W.AllAlike (ds.map fun d => enc6 S (keyD d))
  srt : PySem.W.Sortable (ds.map fun d => enc6 S (keyD d))
end DL
namespace PySem
open Sem (wp)
section
variable {prog : Program} {w : World} {A : Around} {E : Value → Shared → Prop} {s : Shared} {z TI TO T i1 i2 : Addr} {fp1 fp2 : List Addr} {n1 n2 i : Nat} {P1 P2 : Nat → Value → Prop} {St1 St2 : Nat → Heap → Prop} {f : Bool} {oT : Obj}
theorem zh_next {Q : Value → Shared → Prop} (S : ZipSep2 z TI TO i1 i2 fp1 fp2) (D1 : Draws prog w A i1 fp1 n1 P1 St1) (D2 : Draws prog w A i2 fp2 n2 P2 St2)
    (hz : IsZipHeld s.heap z TI TO T f) (hT : s.heap.get? T = some oT) (hTI : IsTupOf2 s.heap TI (.ref i1) (.ref i2)) (st1 : St1 i s.heap) (st2 : St2 i s.heap) (l1 : i < n1) (l2 : i < n2)
    (hQ : ∀ x1 x2 h' tk, P1 i x1 → P2 i x2 → IsZipHeld h' z TI TO T true → St1 (i + 1) h' → St2 (i + 1) h' → IsTupOf2 h' s.heap.objs.size x1 x2 → h'.objs.size = s.heap.objs.size + 1 →
      (∀ c o, c ≠ z → c ≠ i1 → c ≠ i2 → s.heap.get? c = some o → h'.get? c = some o) → Q (.ref s.heap.objs.size) { s with heap := h', toks := tk }) :
    wpAny (model prog w) A (Builtin.«zip.__next__» ⟨[.ref z], []⟩) (fun fin s' => ∃ v, fin = .done (.ret v) ∧ Q v s') E s := by
  obtain ⟨hp, g, d, tk0, os⟩ := s
  show wpAny _ _ (field (.ref z) 2 >>= _) _ _ _
  refine wpAny_bind (wpAny_field hz rfl (x := .bool false) rfl ?_)
  show wpAny _ _ (field (.ref z) 3 >>= _) _ _ _
  refine wpAny_bind (wpAny_field hz rfl (x := .ref TI) rfl ?_)
  refine wpAny_bind (wpAny_seqItems hTI rfl ?_)
  show wpAny _ _ (Builtin.SmallTypes.ownedTupleIsFree (.ref z) >>= _) _ _ _
  refine wpAny_bind (wpAny_tupleHeld_zip hz hT fun h₁ hz₁ hs₁ => ?_)
  replace hs₁ : Heap.SameBut z hp h₁ := hs₁
  simp only [Bool.false_eq_true, if_false]
  refine wpAny_bind ?_
  rw [← Array.forIn_toList]
  simp only [List.forIn_cons, List.forIn_nil]
  refine wpAny_bind (wpAny_bind (wpAny_holding ?_))
  show wpAny _ _ (Builtin.SmallTypes.nextOf (.ref i1) >>= _) _ _ ⟨h₁, g, d, tk0, os⟩
  refine wpAny_bind (D1.item i _ _ _ l1 (D1.over st1 hs₁ S.zf1) fun x1 h₂ tk1 p1 sn1 hs₂ => wpAny_pure ?_)
  replace hs₂ : Heap.SameBut i1 h₁ h₂ := hs₂
  refine wpAny_pure ?_
  refine wpAny_bind (wpAny_bind (wpAny_holding ?_))
  show wpAny _ _ (Builtin.SmallTypes.nextOf (.ref i2) >>= _) _ _ ⟨h₂, g, d, tk1, os⟩
  refine wpAny_bind (D2.item i _ _ _ l2 (D2.over (D2.over st2 hs₁ S.zf2) hs₂ S.sep1_2) fun x2 h₃ tk2 p2 sn2 hs₃ => wpAny_pure ?_)
  replace hs₃ : Heap.SameBut i2 h₂ h₃ := hs₃
  refine wpAny_pure (wpAny_pure ?_)
  show wpAny _ _ (newTuple [x1, x2] >>= _) _ _ ⟨h₃, g, d, tk2, os⟩
  refine wpAny_bind (wpAny_newTuple ?_)
  have hsz : h₃.objs.size = hp.objs.size := by rw [hs₃.1, hs₂.1, hs₁.1]
  have hz₃ : IsZipHeld h₃ z TI TO T true := hs₃.extBut _ _ S.zi2 (hs₂.extBut _ _ S.zi1 hz₁)
  have hk : ∀ c o, c ≠ z → c ≠ i1 → c ≠ i2 → hp.get? c = some o → h₃.get? c = some o := fun c o c1 c2 c3 e => hs₃.extBut _ _ c3 (hs₂.extBut _ _ c2 (hs₁.extBut _ _ c1 e))
  have s1 : St1 (i + 1) h₃ := D1.over sn1 hs₃ S.sep2_1
  refine wpAny_pure ⟨_, rfl, ?_⟩
  have hpT : IsTupOf2 (h₃.push { cls := .type "tuple", data := .seq #[x1, x2] }) h₃.objs.size x1 x2 := Heap.get?_push_size _ rfl
  have hz4 : (h₃.push { cls := .type "tuple", data := .seq #[x1, x2] }).objs.size = h₃.objs.size + 1 := Heap.size_push ..
  have fr : ∀ b o, h₃.get? b = some o → (h₃.push { cls := .type "tuple", data := .seq #[x1, x2] }).get? b = some o := fun b o e => Heap.get?_push_of_some _ e
  show Q (.ref h₃.objs.size) _
  rw [hsz] at hpT hz4 ⊢
  exact hQ _ _ _ _ p1 p2 (fr _ _ hz₃) (D1.frame _ _ _ s1 fun b _ o e => fr b o e) (D2.frame _ _ _ sn2 fun b _ o e => fr b o e) hpT hz4 fun c o c1 c2 c3 e => fr _ _ (hk c o c1 c2 c3 e)
theorem zh_end {Q : Fin → Shared → Prop} (S : ZipSep2 z TI TO i1 i2 fp1 fp2) (D1 : Draws prog w A i1 fp1 n1 P1 St1) (D2 : Draws prog w A i2 fp2 n2 P2 St2)
    (hz : IsZipHeld s.heap z TI TO T f) (hT : s.heap.get? T = some oT) (hTI : IsTupOf2 s.heap TI (.ref i1) (.ref i2)) (st1 : St1 i s.heap) (st2 : St2 i s.heap) (l1 : i ≤ n1) (l2 : i ≤ n2) (hend : i = n1 ∨ i = n2)
    (hE : ∀ h' tk e, (∀ c o, c ≠ z → c ≠ i1 → c ≠ i2 → s.heap.get? c = some o → h'.get? c = some o) → (∃ o, h'.get? e = some o ∧ o.cls = .type "StopIteration") → E (.ref e) { s with heap := h', toks := tk }) :
    wpAny (model prog w) A (Builtin.«zip.__next__» ⟨[.ref z], []⟩) Q E s := by
  obtain ⟨hp, g, d, tk0, os⟩ := s
  show wpAny _ _ (field (.ref z) 2 >>= _) _ _ _
  refine wpAny_bind (wpAny_field hz rfl (x := .bool false) rfl ?_)
  show wpAny _ _ (field (.ref z) 3 >>= _) _ _ _
  refine wpAny_bind (wpAny_field hz rfl (x := .ref TI) rfl ?_)
  refine wpAny_bind (wpAny_seqItems hTI rfl ?_)
  show wpAny _ _ (Builtin.SmallTypes.ownedTupleIsFree (.ref z) >>= _) _ _ _
  refine wpAny_bind (wpAny_tupleHeld_zip hz hT fun h₁ hz₁ hs₁ => ?_)
  replace hs₁ : Heap.SameBut z hp h₁ := hs₁
  simp only [Bool.false_eq_true, if_false]
  refine wpAny_bind ?_
  rw [← Array.forIn_toList]
  simp only [List.forIn_cons, List.forIn_nil]
  refine wpAny_bind (wpAny_bind (wpAny_holding ?_))
  show wpAny _ _ (Builtin.SmallTypes.nextOf (.ref i1) >>= _) _ _ ⟨h₁, g, d, tk0, os⟩
  by_cases c1 : i < n1
  · refine wpAny_bind (D1.item i _ _ _ c1 (D1.over st1 hs₁ S.zf1) fun x1 h₂ tk1 p1 sn1 hs₂ => wpAny_pure ?_)
    replace hs₂ : Heap.SameBut i1 h₁ h₂ := hs₂
    refine wpAny_pure ?_
    refine wpAny_bind (wpAny_bind (wpAny_holding ?_))
    show wpAny _ _ (Builtin.SmallTypes.nextOf (.ref i2) >>= _) _ _ ⟨h₂, g, d, tk1, os⟩
    have e2 : i = n2 := by omega
    refine wpAny_bind (D2.done ⟨h₂, g, d, tk1, os⟩ _ _ (by rw [← e2]; exact D2.over (D2.over st2 hs₁ S.zf2) hs₂ S.sep1_2) fun h₃ e hq he => ?_)
    replace hq : Heap.ExtBut i2 h₂ h₃ := hq
    exact hE h₃ tk1 e (fun c o a b d x => hq _ _ d (hs₂.extBut _ _ b (hs₁.extBut _ _ a x))) he
  · have e1 : i = n1 := by omega
    refine wpAny_bind (D1.done ⟨h₁, g, d, tk0, os⟩ _ _ (by rw [← e1]; exact D1.over st1 hs₁ S.zf1) fun h₂ e hq he => ?_)
    replace hq : Heap.ExtBut i1 h₁ h₂ := hq
    exact hE h₂ tk0 e (fun c o a b d x => hq _ _ b (hs₁.extBut _ _ a x)) he
end
theorem zh_free {prog : Program} {w : World} {A : Around} {E : Value → Shared → Prop} {s : Shared} {z TI TO T : Addr} {f : Bool} {Q : Bool → Shared → Prop} (hz : IsZipHeld s.heap z TI TO T f) (hT : s.heap.get? T = none) (q : Q true s) : wpAny (model prog w) A (Builtin.SmallTypes.ownedTupleIsFree (.ref z)) Q E s := by
  unfold Builtin.SmallTypes.ownedTupleIsFree
  refine wpAny_bind (wpAny_field hz rfl (x := rawInt T) rfl ?_)
  show wpAny _ _ (loadIfAlive ((T : Int).toNat) >>= _) _ _ _
  rw [Int.toNat_natCast]
  have al : ∀ {R : Option Obj → Shared → Prop}, R none s → wpAny (model prog w) A (loadIfAlive T) R E s := fun {R} h => by
    have h' : R (s.heap.get? T) s := by rw [hT]; exact h
    exact fun _ _ _ => h'
  refine wpAny_bind (al ?_)
  simp only [Option.isNone_none, if_true]
  exact wpAny_pure q
end PySem
namespace PySem
open Sem (wp)
abbrev IsZipF (h : Heap) (z TI TO : Addr) (f0 : Value) (b : Bool) : Prop :=
  h.get? z = some { cls := .type "zip", dict := none, data := .fields #[f0, .bool b, .bool false, .ref TI, .ref TO], slots := #[] }
def ZipAt (h : Heap) (z TI TO : Addr) : Prop := ∃ (f0 : Value) (b : Bool), IsZipF h z TI TO f0 b ∧ (f0 = .none ∨ ∃ T : Addr, f0 = rawInt T)
section
variable {prog : Program} {w : World} {A : Around} {E : Value → Shared → Prop} {s : Shared} {z TI TO i1 i2 : Addr} {fp1 fp2 : List Addr} {n1 n2 i : Nat} {P1 P2 : Nat → Value → Prop} {St1 St2 : Nat → Heap → Prop} {a1 a2 : Value}
theorem zf_next {Q : Value → Shared → Prop} {f0 : Value} {fb : Bool} (S : ZipSep2 z TI TO i1 i2 fp1 fp2) (D1 : Draws prog w A i1 fp1 n1 P1 St1) (D2 : Draws prog w A i2 fp2 n2 P2 St2)
    (hfree : ∀ {Q : Bool → Shared → Prop} {E : Value → Shared → Prop}, Q true s → wpAny (model prog w) A (Builtin.SmallTypes.ownedTupleIsFree (.ref z)) Q E s)
    (hz : IsZipF s.heap z TI TO f0 fb) (hTI : IsTupOf2 s.heap TI (.ref i1) (.ref i2)) (hTO : IsTupOf2 s.heap TO a1 a2) (st1 : St1 i s.heap) (st2 : St2 i s.heap) (hlt1 : i < n1) (hlt2 : i < n2)
    (hQ : ∀ x1 x2 h' tk, P1 i x1 → P2 i x2 → IsZipF h' z TI TO (rawInt s.heap.objs.size) false → IsTupOf2 h' TO x1 x2 → St1 (i + 1) h' → St2 (i + 1) h' → IsTupOf2 h' s.heap.objs.size x1 x2 → h'.objs.size = s.heap.objs.size + 1 →
      (∀ c o, c ≠ z → c ≠ TO → c ≠ i1 → c ≠ i2 → s.heap.get? c = some o → h'.get? c = some o) → Q (.ref s.heap.objs.size) { s with heap := h', toks := tk }) :
    wpAny (model prog w) A (Builtin.«zip.__next__» ⟨[.ref z], []⟩) (fun fin s' => ∃ v, fin = .done (.ret v) ∧ Q v s') E s := by
  obtain ⟨hp, g, d, tk0, os⟩ := s
  show wpAny _ _ (field (.ref z) 2 >>= _) _ _ _
  refine wpAny_bind (wpAny_field hz rfl (x := .bool false) rfl ?_)
  show wpAny _ _ (field (.ref z) 3 >>= _) _ _ _
  refine wpAny_bind (wpAny_field hz rfl (x := .ref TI) rfl ?_)
  refine wpAny_bind (wpAny_seqItems hTI rfl ?_)
  show wpAny _ _ (Builtin.SmallTypes.ownedTupleIsFree (.ref z) >>= _) _ _ _
  refine wpAny_bind (hfree ?_)
  simp only [if_true]
  refine wpAny_bind (wpAny_rule ?_)
  refine wpAny_bind (wpAny_field hz rfl (x := .ref TO) rfl ?_)
  refine wpAny_bind (wpAny_setField_rec hz (by simp) fun g0 hz0 hs0 => ?_)
  replace hz0 : IsZipF g0 z TI TO .ellipsis fb := hz0
  replace hs0 : Heap.SameBut z hp g0 := hs0
  refine wpAny_bind ?_
  simp only [List.zipIdx_cons, List.zipIdx_nil, List.forIn_cons, List.forIn_nil]
  refine wpAny_bind (wpAny_bind (wpAny_onRaise ?_))
  show wpAny _ _ (Builtin.SmallTypes.nextOf (.ref i1) >>= _) _ _ ⟨g0, g, d, tk0, os⟩
  refine wpAny_bind (D1.item i _ _ _ hlt1 (D1.over st1 hs0 S.zf1) fun x1 p1 tk1 hx1 sn1 hp1 => wpAny_pure ?_)
  replace hp1 : Heap.SameBut i1 g0 p1 := hp1
  have hU1 : IsTupOf2 p1 TO a1 a2 := hp1.extBut _ _ S.Ti1 (hs0.extBut _ _ S.TOz hTO)
  refine wpAny_bind (wpAny_seqItems (s := ⟨p1, g, d, tk1, os⟩) hU1 rfl ?_)
  refine wpAny_bind (updateSeq_IsTupOf2 (s := ⟨p1, g, d, tk1, os⟩) hU1 fun g1 hT1 hs1 => ?_)
  replace hT1 : IsTupOf2 g1 TO x1 a2 := hT1
  replace hs1 : Heap.SameBut TO p1 g1 := hs1
  refine wpAny_bind (wpAny_letGo (wpAny_pure ?_))
  refine wpAny_bind (wpAny_bind (wpAny_onRaise ?_))
  show wpAny _ _ (Builtin.SmallTypes.nextOf (.ref i2) >>= _) _ _ ⟨g1, g, d, tk1, os⟩
  refine wpAny_bind (D2.item i _ _ _ hlt2 (D2.over (D2.over (D2.over st2 hs0 S.zf2) hp1 S.sep1_2) hs1 S.Tf2) fun x2 p2 tk2 hx2 sn2 hp2 => wpAny_pure ?_)
  replace hp2 : Heap.SameBut i2 g1 p2 := hp2
  have hU2 : IsTupOf2 p2 TO x1 a2 := hp2.extBut _ _ S.Ti2 hT1
  refine wpAny_bind (wpAny_seqItems (s := ⟨p2, g, d, tk2, os⟩) hU2 rfl ?_)
  refine wpAny_bind (updateSeq_IsTupOf2 (s := ⟨p2, g, d, tk2, os⟩) hU2 fun g2 hT2 hs2 => ?_)
  replace hT2 : IsTupOf2 g2 TO x1 x2 := hT2
  replace hs2 : Heap.SameBut TO p2 g2 := hs2
  refine wpAny_bind (wpAny_letGo (wpAny_pure (wpAny_pure ?_)))
  refine wpAny_bind (wpAny_seqItems (s := ⟨g2, g, d, tk2, os⟩) hT2 rfl ?_)
  refine wpAny_bind (wpAny_newTuple ?_)
  have hsz : g2.objs.size = hp.objs.size := by rw [hs2.1, hp2.1, hs1.1, hp1.1, hs0.1]
  have hzz : IsZipF g2 z TI TO .ellipsis fb := (hs2.extBut _ _ S.TOz.symm (hp2.extBut _ _ S.zi2 (hs1.extBut _ _ S.TOz.symm (hp1.extBut _ _ S.zi1 hz0))))
  have hkk : ∀ c o, c ≠ z → c ≠ TO → c ≠ i1 → c ≠ i2 → hp.get? c = some o → g2.get? c = some o := fun c o cz cT c1 c2 e =>
    (hs2.extBut _ _ cT (hp2.extBut _ _ c2 (hs1.extBut _ _ cT (hp1.extBut _ _ c1 (hs0.extBut _ _ cz e)))))
  have hj1 : St1 (i + 1) g2 := (D1.over (D1.over (D1.over sn1 hs1 S.Tf1) hp2 S.sep2_1) hs2 S.Tf1)
  have hj2 : St2 (i + 1) g2 := (D2.over sn2 hs2 S.Tf2)
  have hzlt : z < g2.objs.size := Heap.lt_size hzz
  show wpAny _ _ (Builtin.SmallTypes.ownedTupleHandOut (.ref z) (.ref g2.objs.size) >>= _) _ _ ⟨g2.push { cls := .type "tuple", data := .seq #[x1, x2] }, g, d, tk2, os⟩
  refine wpAny_bind ?_
  unfold Builtin.SmallTypes.ownedTupleHandOut
  have hz₆ : IsZipF (g2.push { cls := .type "tuple", data := .seq #[x1, x2] }) z TI TO .ellipsis fb := Heap.get?_push_of_some _ hzz
  refine wpAny_bind (wpAny_setField_rec hz₆ (by simp) fun h₇ hz₇ hs₇ => ?_)
  replace hz₇ : IsZipF h₇ z TI TO (rawInt g2.objs.size) fb := hz₇
  refine wpAny_setField_rec hz₇ (by simp) fun h₈ hz₈ hs₈ => ?_
  replace hz₈ : IsZipF h₈ z TI TO (rawInt g2.objs.size) false := hz₈
  replace hs₇ : Heap.SameBut z (g2.push { cls := .type "tuple", data := .seq #[x1, x2] }) h₇ := hs₇
  replace hs₈ : Heap.SameBut z h₇ h₈ := hs₈
  have up : ∀ c o, c ≠ z → g2.get? c = some o → h₈.get? c = some o := fun c o c1 e => hs₈.extBut _ _ c1 (hs₇.extBut _ _ c1 (Heap.get?_push_of_some _ e))
  have hT₈ : IsTupOf2 h₈ g2.objs.size x1 x2 := hs₈.extBut _ _ (Nat.ne_of_gt hzlt) (hs₇.extBut _ _ (Nat.ne_of_gt hzlt) (Heap.get?_push_size _ rfl))
  have hz8 : h₈.objs.size = g2.objs.size + 1 := by rw [hs₈.1, hs₇.1, Heap.size_push]
  rw [hsz] at hz₈ hT₈ hz8
  refine wpAny_pure ⟨_, rfl, ?_⟩
  show Q (.ref g2.objs.size) ⟨h₈, g, d, tk2, os⟩
  rw [hsz]
  exact hQ x1 x2 h₈ tk2 hx1 hx2 hz₈ (up _ _ S.TOz hT2) (D1.frame _ _ _ hj1 fun b hb o e => up b o (fun q => S.zf1 (q ▸ hb)) e) (D2.frame _ _ _ hj2 fun b hb o e => up b o (fun q => S.zf2 (q ▸ hb)) e) hT₈ hz8 fun c o cz cT c1 c2 e => up c o cz (hkk c o cz cT c1 c2 e)
theorem zf_end {Q : Fin → Shared → Prop} {f0 : Value} {fb : Bool} (S : ZipSep2 z TI TO i1 i2 fp1 fp2) (D1 : Draws prog w A i1 fp1 n1 P1 St1) (D2 : Draws prog w A i2 fp2 n2 P2 St2)
    (hfree : ∀ {Q : Bool → Shared → Prop} {E : Value → Shared → Prop}, Q true s → wpAny (model prog w) A (Builtin.SmallTypes.ownedTupleIsFree (.ref z)) Q E s)
    (hz : IsZipF s.heap z TI TO f0 fb) (hTI : IsTupOf2 s.heap TI (.ref i1) (.ref i2)) (hTO : IsTupOf2 s.heap TO a1 a2) (st1 : St1 i s.heap) (st2 : St2 i s.heap) (hle1 : i ≤ n1) (hle2 : i ≤ n2) (hend : i = n1 ∨ i = n2)
    (hE : ∀ h' tk e, (∀ c o, c ≠ z → c ≠ TO → c ≠ i1 → c ≠ i2 → s.heap.get? c = some o → h'.get? c = some o) → (∃ o, h'.get? e = some o ∧ o.cls = .type "StopIteration") → E (.ref e) { s with heap := h', toks := tk }) :
    wpAny (model prog w) A (Builtin.«zip.__next__» ⟨[.ref z], []⟩) Q E s := by
  obtain ⟨hp, g, d, tk0, os⟩ := s
  show wpAny _ _ (field (.ref z) 2 >>= _) _ _ _
  refine wpAny_bind (wpAny_field hz rfl (x := .bool false) rfl ?_)
  show wpAny _ _ (field (.ref z) 3 >>= _) _ _ _
  refine wpAny_bind (wpAny_field hz rfl (x := .ref TI) rfl ?_)
  refine wpAny_bind (wpAny_seqItems hTI rfl ?_)
  show wpAny _ _ (Builtin.SmallTypes.ownedTupleIsFree (.ref z) >>= _) _ _ _
  refine wpAny_bind (hfree ?_)
  simp only [if_true]
  refine wpAny_bind (wpAny_rule ?_)
  refine wpAny_bind (wpAny_field hz rfl (x := .ref TO) rfl ?_)
  refine wpAny_bind (wpAny_setField_rec hz (by simp) fun g0 hz0 hs0 => ?_)
  replace hz0 : IsZipF g0 z TI TO .ellipsis fb := hz0
  replace hs0 : Heap.SameBut z hp g0 := hs0
  refine wpAny_bind ?_
  simp only [List.zipIdx_cons, List.zipIdx_nil, List.forIn_cons, List.forIn_nil]
  refine wpAny_bind (wpAny_bind (wpAny_onRaise ?_))
  show wpAny _ _ (Builtin.SmallTypes.nextOf (.ref i1) >>= _) _ _ ⟨g0, g, d, tk0, os⟩
  by_cases hlt1 : i < n1
  · refine wpAny_bind (D1.item i _ _ _ hlt1 (D1.over st1 hs0 S.zf1) fun x1 p1 tk1 hx1 sn1 hp1 => wpAny_pure ?_)
    replace hp1 : Heap.SameBut i1 g0 p1 := hp1
    have hU1 : IsTupOf2 p1 TO a1 a2 := hp1.extBut _ _ S.Ti1 (hs0.extBut _ _ S.TOz hTO)
    refine wpAny_bind (wpAny_seqItems (s := ⟨p1, g, d, tk1, os⟩) hU1 rfl ?_)
    refine wpAny_bind (updateSeq_IsTupOf2 (s := ⟨p1, g, d, tk1, os⟩) hU1 fun g1 hT1 hs1 => ?_)
    replace hT1 : IsTupOf2 g1 TO x1 a2 := hT1
    replace hs1 : Heap.SameBut TO p1 g1 := hs1
    refine wpAny_bind (wpAny_letGo (wpAny_pure ?_))
    have hi2 : i = n2 := by omega
    refine wpAny_bind (wpAny_bind (wpAny_onRaise ?_))
    show wpAny _ _ (Builtin.SmallTypes.nextOf (.ref i2) >>= _) _ _ ⟨g1, g, d, tk1, os⟩
    refine wpAny_bind (D2.done ⟨g1, g, d, tk1, os⟩ _ _ (by rw [← hi2]; exact (D2.over (D2.over (D2.over st2 hs0 S.zf2) hp1 S.sep1_2) hs1 S.Tf2)) fun q e hq he => ?_)
    replace hq : Heap.ExtBut i2 g1 q := hq
    obtain ⟨oe, hoe, hce⟩ := he
    replace hoe : q.get? e = some oe := hoe
    have hzq : IsZipF q z TI TO .ellipsis fb := hq _ _ S.zi2 (hs1.extBut _ _ S.TOz.symm (hp1.extBut _ _ S.zi1 hz0))
    have hez : e ≠ z := fun x => by subst x; rw [hzq] at hoe; cases hoe; simp at hce
    refine wpAny_setField_rec (s := ⟨q, g, d, tk1, os⟩) hzq (by simp) fun q' _ hq' => ?_
    replace hq' : Heap.SameBut z q q' := hq'
    exact hE q' tk1 e (fun c o cz cT c1 c2 x => hq'.extBut _ _ cz (hq _ _ c2 (hs1.extBut _ _ cT (hp1.extBut _ _ c1 (hs0.extBut _ _ cz x))))) ⟨oe, hq'.extBut _ _ hez hoe, hce⟩
  · have hi1 : i = n1 := by omega
    refine wpAny_bind (D1.done ⟨g0, g, d, tk0, os⟩ _ _ (by rw [← hi1]; exact (D1.over st1 hs0 S.zf1)) fun q e hq he => ?_)
    replace hq : Heap.ExtBut i1 g0 q := hq
    obtain ⟨oe, hoe, hce⟩ := he
    replace hoe : q.get? e = some oe := hoe
    have hzq : IsZipF q z TI TO .ellipsis fb := hq _ _ S.zi1 hz0
    have hez : e ≠ z := fun x => by subst x; rw [hzq] at hoe; cases hoe; simp at hce
    refine wpAny_setField_rec (s := ⟨q, g, d, tk0, os⟩) hzq (by simp) fun q' _ hq' => ?_
    replace hq' : Heap.SameBut z q q' := hq'
    exact hE q' tk0 e (fun c o cz cT c1 c2 x => hq'.extBut _ _ cz (hq _ _ c1 (hs0.extBut _ _ cz x))) ⟨oe, hq'.extBut _ _ hez hoe, hce⟩
theorem zf_free {f0 : Value} {fb : Bool} (hz : IsZipF s.heap z TI TO f0 fb) (h : f0 = .none ∨ ∃ T : Addr, f0 = rawInt T ∧ s.heap.get? T = none) {Q : Bool → Shared → Prop} {E : Value → Shared → Prop} (q : Q true s) :
    wpAny (model prog w) A (Builtin.SmallTypes.ownedTupleIsFree (.ref z)) Q E s := by
  rcases h with rfl | ⟨T, rfl, h⟩
  · unfold Builtin.SmallTypes.ownedTupleIsFree
    exact wpAny_bind (wpAny_field hz rfl (x := .none) rfl (wpAny_pure q))
  · exact zh_free hz h q
theorem za_next {Q : Value → Shared → Prop} (S : ZipSep2 z TI TO i1 i2 fp1 fp2) (D1 : Draws prog w A i1 fp1 n1 P1 St1) (D2 : Draws prog w A i2 fp2 n2 P2 St2)
    (hz : ZipAt s.heap z TI TO) (hTI : IsTupOf2 s.heap TI (.ref i1) (.ref i2)) (hTO : ∃ a1 a2, IsTupOf2 s.heap TO a1 a2) (st1 : St1 i s.heap) (st2 : St2 i s.heap) (hlt1 : i < n1) (hlt2 : i < n2)
    (hQ : ∀ x1 x2 h' tk, P1 i x1 → P2 i x2 → ZipAt h' z TI TO → (∃ a1 a2, IsTupOf2 h' TO a1 a2) → St1 (i + 1) h' → St2 (i + 1) h' → IsTupOf2 h' s.heap.objs.size x1 x2 → h'.objs.size = s.heap.objs.size + 1 →
      (∀ c o, c ≠ z → c ≠ TO → c ≠ i1 → c ≠ i2 → s.heap.get? c = some o → h'.get? c = some o) → Q (.ref s.heap.objs.size) { s with heap := h', toks := tk }) :
    wpAny (model prog w) A (Builtin.«zip.__next__» ⟨[.ref z], []⟩) (fun fin s' => ∃ v, fin = .done (.ret v) ∧ Q v s') E s := by
  obtain ⟨f0, fb, hz, h0⟩ := hz
  obtain ⟨a1, a2, hTO⟩ := hTO
  have free : (f0 = .none ∨ ∃ T : Addr, f0 = rawInt T ∧ s.heap.get? T = none) → wpAny (model prog w) A (Builtin.«zip.__next__» ⟨[.ref z], []⟩) (fun fin s' => ∃ v, fin = .done (.ret v) ∧ Q v s') E s := fun hf =>
    zf_next S D1 D2 (fun q => zf_free hz hf q) hz hTI hTO st1 st2 hlt1 hlt2 fun x1 x2 h' tk p1 p2 z' t' s1 s2 tt sz k => hQ x1 x2 h' tk p1 p2 ⟨_, _, z', .inr ⟨_, rfl⟩⟩ ⟨_, _, t'⟩ s1 s2 tt sz k
  rcases h0 with e | ⟨T, e⟩
  · exact free (.inl e)
  · subst e
    cases hT : s.heap.get? T with
    | none => exact free (.inr ⟨T, rfl, hT⟩)
    | some oT =>
      exact zh_next S D1 D2 hz hT hTI st1 st2 hlt1 hlt2 fun x1 x2 h' tk p1 p2 z' s1 s2 tt sz k => hQ x1 x2 h' tk p1 p2 ⟨_, _, z', .inr ⟨_, rfl⟩⟩ ⟨a1, a2, k _ _ S.TOz S.Ti1 S.Ti2 hTO⟩ s1 s2 tt sz fun c o c1 _ c3 c4 e => k c o c1 c3 c4 e
theorem za_end {Q : Fin → Shared → Prop} (S : ZipSep2 z TI TO i1 i2 fp1 fp2) (D1 : Draws prog w A i1 fp1 n1 P1 St1) (D2 : Draws prog w A i2 fp2 n2 P2 St2)
    (hz : ZipAt s.heap z TI TO) (hTI : IsTupOf2 s.heap TI (.ref i1) (.ref i2)) (hTO : ∃ a1 a2, IsTupOf2 s.heap TO a1 a2) (st1 : St1 i s.heap) (st2 : St2 i s.heap) (hle1 : i ≤ n1) (hle2 : i ≤ n2) (hend : i = n1 ∨ i = n2)
    (hE : ∀ h' tk e, (∀ c o, c ≠ z → c ≠ TO → c ≠ i1 → c ≠ i2 → s.heap.get? c = some o → h'.get? c = some o) → (∃ o, h'.get? e = some o ∧ o.cls = .type "StopIteration") → E (.ref e) { s with heap := h', toks := tk }) :
    wpAny (model prog w) A (Builtin.«zip.__next__» ⟨[.ref z], []⟩) Q E s := by
  obtain ⟨f0, fb, hz, h0⟩ := hz
  obtain ⟨a1, a2, hTO⟩ := hTO
  have free : (f0 = .none ∨ ∃ T : Addr, f0 = rawInt T ∧ s.heap.get? T = none) → wpAny (model prog w) A (Builtin.«zip.__next__» ⟨[.ref z], []⟩) Q E s := fun hf =>
    zf_end S D1 D2 (fun q => zf_free hz hf q) hz hTI hTO st1 st2 hle1 hle2 hend hE
  rcases h0 with e | ⟨T, e⟩
  · exact free (.inl e)
  · subst e
    cases hT : s.heap.get? T with
    | none => exact free (.inr ⟨T, rfl, hT⟩)
    | some oT => exact zh_end S D1 D2 hz hT hTI st1 st2 hle1 hle2 hend fun h' tk e k => hE h' tk e fun c o c1 _ c3 c4 x => k c o c1 c3 c4 x
theorem ZipAt.typeIs (hz : ZipAt s.heap z TI TO) : s.TypeIs (.ref z) "zip" := let ⟨_, _, h, _⟩ := hz; ⟨_, h, rfl⟩
set_option maxHeartbeats 1000000 in
end
end PySem
namespace PySem
open Sem (wp)
open PySem.Calls PyProof.Rows PyProof.V PySem.Spec
section
variable {prog : Program} {w : World} {A : Around} {E : Value → Shared → Prop} {s : Shared} {z TI TO i1 i2 : Addr} {fp1 fp2 : List Addr} {n1 n2 i : Nat} {P1 P2 : Nat → Value → Prop} {St1 St2 : Nat → Heap → Prop}
theorem pyNext_za_item {Q : Option Value → Shared → Prop} (S : ZipSep2 z TI TO i1 i2 fp1 fp2) (D1 : Draws prog w A.in1 i1 fp1 n1 P1 St1) (D2 : Draws prog w A.in1 i2 fp2 n2 P2 St2)
    (hz : ZipAt s.heap z TI TO) (hTI : IsTupOf2 s.heap TI (.ref i1) (.ref i2)) (hTO : ∃ a1 a2, IsTupOf2 s.heap TO a1 a2) (st1 : St1 i s.heap) (st2 : St2 i s.heap) (hlt1 : i < n1) (hlt2 : i < n2)
    (hQ : ∀ x1 x2 h' tk, P1 i x1 → P2 i x2 → ZipAt h' z TI TO → IsTupOf2 h' TI (.ref i1) (.ref i2) → (∃ a1 a2, IsTupOf2 h' TO a1 a2) → St1 (i + 1) h' → St2 (i + 1) h' → IsTupOf2 h' s.heap.objs.size x1 x2 → h'.objs.size = s.heap.objs.size + 1 →
      (∀ c o, c ≠ z → c ≠ TO → c ≠ i1 → c ≠ i2 → s.heap.get? c = some o → h'.get? c = some o) → Q (some (.ref s.heap.objs.size)) { s with heap := h', toks := tk }) :
    wpAny (model prog w) A (pyNext (.ref z)) Q E s := by
  have hT : s.TypeIs (.ref z) "zip" := hz.typeIs
  unfold pyNext
  exact wpAny_bind (wpAny_attempt (wpAny_callSpecial?_slot (name := Str.ofString "__next__") hT F.slot_zip_next
    (wpAny_call_entry F.slot_zip_next hT F.entry_zip_next
      (za_next S D1 D2 hz hTI hTO st1 st2 hlt1 hlt2 fun x1 x2 h' tk a b c d e f t u k => wpAny_pure (hQ x1 x2 h' tk a b c (k _ _ S.TIz S.TITO S.TIi1 S.TIi2 hTI) d e f t u k)) (F.args_zip_next_1 _))))
theorem pyNext_za_end {Q : Option Value → Shared → Prop} (S : ZipSep2 z TI TO i1 i2 fp1 fp2) (D1 : Draws prog w A.in1 i1 fp1 n1 P1 St1) (D2 : Draws prog w A.in1 i2 fp2 n2 P2 St2)
    (hz : ZipAt s.heap z TI TO) (hTI : IsTupOf2 s.heap TI (.ref i1) (.ref i2)) (hTO : ∃ a1 a2, IsTupOf2 s.heap TO a1 a2) (st1 : St1 i s.heap) (st2 : St2 i s.heap) (hle1 : i ≤ n1) (hle2 : i ≤ n2) (hend : i = n1 ∨ i = n2)
    (hQ : ∀ h' tk, (∀ c o, c ≠ z → c ≠ TO → c ≠ i1 → c ≠ i2 → s.heap.get? c = some o → h'.get? c = some o) → Q none { s with heap := h', toks := tk }) :
    wpAny (model prog w) A (pyNext (.ref z)) Q E s := by
  have hTz : s.TypeIs (.ref z) "zip" := hz.typeIs
  unfold pyNext
  refine wpAny_bind (wpAny_attempt (wpAny_callSpecial?_slot (name := Str.ofString "__next__") hTz F.slot_zip_next (wpAny_call_entry F.slot_zip_next hTz F.entry_zip_next
    (za_end S D1 D2 hz hTI hTO st1 st2 hle1 hle2 hend fun h' tk x k hx => ?_) (F.args_zip_next_1 _))))
  obtain ⟨o, ho, hc⟩ := hx
  refine wpAny_bind (wpAny_isInstance (T := "StopIteration") (b := true) ⟨o, ho, hc⟩ isSubtype_stop ?_)
  exact wpAny_pure (hQ _ _ k)
theorem zip_len_none : typeLookup (.type "zip") "__len__" = pure none := am_miss_of_fast (by decide +kernel)
theorem zip_hint_none : typeLookup (.type "zip") "__length_hint__" = pure none := am_miss_of_fast (by decide +kernel)
theorem zip_hint {r : Addr} (hT : s.TypeIs (.ref r) "zip") {Q : Bool → Shared → Prop} (h : Q true s) : wpAny (model prog w) A (Builtin.List.listLengthHint (.ref r)) Q E s := by
  unfold Builtin.List.listLengthHint
  refine wpAny_bind (wpAny_specialOf hT zip_len_none ?_)
  refine wpAny_bind (wpAny_specialOf hT zip_hint_none ?_)
  exact wpAny_pure h
structure ZlG (P1 P2 : Nat → Value → Prop) (lo : Addr) (h : Heap) (as : List Addr) : Prop where
  rise : as.Pairwise (· < ·)
  above : ∀ a ∈ as, lo < a
  pairs : ∀ (j : Nat) (a : Addr), as[j]? = some a → ∃ x y, P1 j x ∧ P2 j y ∧ h.get? a = some { cls := .type "tuple", data := .seq #[x, y] }
theorem ZlG.there {lo : Addr} {h : Heap} {as : List Addr} (g : ZlG P1 P2 lo h as) {a : Addr} (ha : a ∈ as) : a < h.objs.size := by
  obtain ⟨j, hj⟩ := List.mem_iff_getElem?.mp ha
  obtain ⟨_, _, _, _, e⟩ := g.pairs j a hj
  exact Heap.lt_size e
structure ZlS (z TI TO i1 i2 : Addr) (St1 St2 : Nat → Heap → Prop) (i : Nat) (h : Heap) : Prop where
  z : ZipAt h z TI TO
  TI : IsTupOf2 h TI (.ref i1) (.ref i2)
  TO : ∃ a1 a2, IsTupOf2 h TO a1 a2
  s1 : St1 i h
  s2 : St2 i h
theorem ZlS.keep {A1 A2 : Around} (D1 : Draws prog w A1 i1 fp1 n1 P1 St1) (D2 : Draws prog w A2 i2 fp2 n2 P2 St2) {L : Addr} {h h' : Heap} (X : ZlS z TI TO i1 i2 St1 St2 i h) (nz : z ≠ L) (nI : TI ≠ L) (nO : TO ≠ L) (n1 : L ∉ fp1) (n2 : L ∉ fp2) (k : ∀ b o, b ≠ L → h.get? b = some o → h'.get? b = some o) : ZlS z TI TO i1 i2 St1 St2 i h' :=
  ⟨let ⟨f0, b, q, q'⟩ := X.z; ⟨f0, b, k _ _ nz q, q'⟩, k _ _ nI X.TI, let ⟨a, b, q⟩ := X.TO; ⟨a, b, k _ _ nO q⟩, D1.frame _ _ _ X.s1 fun b hb o y => k b o (fun q => n1 (q ▸ hb)) y, D2.frame _ _ _ X.s2 fun b hb o y => k b o (fun q => n2 (q ▸ hb)) y⟩
end
section
variable {prog : Program} {w : World} {A : Around} {s : Shared} {R : Result → Shared → Prop} {z TI TO i1 i2 : Addr} {fp1 fp2 : List Addr} {n1 n2 n : Nat} {P1 P2 : Nat → Value → Prop} {St1 St2 : Nat → Heap → Prop}
theorem zl_loop {L : Addr} (S : ZipSep2 z TI TO i1 i2 fp1 fp2) (D1 : Draws prog w A.in1.in1 i1 fp1 n1 P1 St1) (D2 : Draws prog w A.in1.in1 i2 fp2 n2 P2 St2) (h1n : n ≤ n1) (h2n : n ≤ n2) (hend : n = n1 ∨ n = n2)
    (nz : z ≠ L) (nI : TI ≠ L) (nO : TO ≠ L) (ni1 : i1 ≠ L) (ni2 : i2 ≠ L) (nf1 : L ∉ fp1) (nf2 : L ∉ fp2) (hn : n ≤ sizeLine) (res : Value) {h₁ : Heap}
    (hb : z < h₁.objs.size ∧ TO < h₁.objs.size ∧ i1 < h₁.objs.size ∧ i2 < h₁.objs.size ∧ L < h₁.objs.size)
    (hR : ∀ h' tk acc c as, (∀ b o, b ≠ L → b ≠ z → b ≠ TO → b ≠ i1 → b ≠ i2 → h₁.get? b = some o → h'.get? b = some o) → h'.get? L = some { cls := .type "list", dict := none, data := .seq acc c, slots := #[] } → as.length = n → (∀ a ∈ as, h₁.objs.size ≤ a) → ZlG P1 P2 L h' as →
      acc.toList = as.map Value.ref → R (.ok (.ret res)) { s with heap := h', toks := tk }) :
    ∀ (k i : Nat) (h : Heap) (tk c : Nat) (acc : Array Value) (as : List Addr), n - i = k → i ≤ n → ZlS z TI TO i1 i2 St1 St2 i h → (∀ b o, b ≠ L → b ≠ z → b ≠ TO → b ≠ i1 → b ≠ i2 → h₁.get? b = some o → h.get? b = some o) →
      h.get? L = some { cls := .type "list", dict := none, data := .seq acc c, slots := #[] } → acc.toList = as.map Value.ref → as.length = i → ZlG P1 P2 L h as → (∀ a ∈ as, h₁.objs.size ≤ a) → h₁.objs.size ≤ h.objs.size →
      codeAny (model prog w) A (.builtin "list.extend.loop" ⟨[.ref L, .ref z, res], []⟩) R { s with heap := h, toks := tk } := by
  obtain ⟨bz, bO, b1, b2, bL⟩ := hb
  intro k
  induction k with
  | zero =>
    intro i h tk c acc as hk hi X hkeep hS hacc hal hG hup hsz
    have hin : i = n := by omega
    refine codeAny_builtin PySem.F.entry_extend_loop ?_
    rw [Around.under_plainId PySem.F.plain_extend_loop _]
    show wpAny _ A.in1 (pyNext (.ref z) >>= _) _ _ _
    refine wpAny_bind (pyNext_za_end (s := { s with heap := h, toks := tk }) (A := A.in1) (i := i) S D1 D2 X.z X.TI X.TO X.s1 X.s2 (by omega) (by omega) (by omega) fun h' tk' he => ?_)
    replace he : ∀ c o, c ≠ z → c ≠ TO → c ≠ i1 → c ≠ i2 → h.get? c = some o → h'.get? c = some o := he
    refine wpAny_pure (hR h' tk' acc c as (fun b o h1 h2 h3 h4 h5 e => he b o h2 h3 h4 h5 (hkeep b o h1 h2 h3 h4 h5 e)) (he L _ nz.symm nO.symm ni1.symm ni2.symm hS) (by omega) hup ⟨hG.rise, hG.above, fun j a hj => ?_⟩ hacc)
    obtain ⟨x, y, e1, e2, e3⟩ := hG.pairs j a hj
    have ha := hup a (List.mem_of_getElem? hj)
    exact ⟨x, y, e1, e2, he a _ (Nat.ne_of_gt (Nat.lt_of_lt_of_le bz ha)) (Nat.ne_of_gt (Nat.lt_of_lt_of_le bO ha)) (Nat.ne_of_gt (Nat.lt_of_lt_of_le b1 ha)) (Nat.ne_of_gt (Nat.lt_of_lt_of_le b2 ha)) e3⟩
  | succ k ih =>
    intro i h tk c acc as hk hi X hkeep hS hacc hal hG hup hsz
    have hlt : i < n := by omega
    have hsa : acc.size = i := by rw [← Array.length_toList, hacc, List.length_map, hal]
    refine codeAny_builtin PySem.F.entry_extend_loop ?_
    rw [Around.under_plainId PySem.F.plain_extend_loop _]
    show wpAny _ A.in1 (pyNext (.ref z) >>= _) _ _ _
    refine wpAny_bind (pyNext_za_item (s := { s with heap := h, toks := tk }) (A := A.in1) (i := i) S D1 D2 X.z X.TI X.TO X.s1 X.s2 (by omega) (by omega) fun x y h' tk' p1 p2 q1 q2 q3 q4 q5 ht hz hkp => ?_)
    replace ht : IsTupOf2 h' h.objs.size x y := ht
    replace hz : h'.objs.size = h.objs.size + 1 := hz
    replace hkp : ∀ c o, c ≠ z → c ≠ TO → c ≠ i1 → c ≠ i2 → h.get? c = some o → h'.get? c = some o := hkp
    have hS' := hkp L _ nz.symm nO.symm ni1.symm ni2.symm hS
    have up : ∀ b o, b ≠ L → h'.get? b = some o → (h'.update L (Obj.mapSeq (·.push (Value.ref h.objs.size)))).get? b = some o := fun b o hb e => (Heap.get?_update_other _ _ (Ne.symm hb)).trans e
    have hSl : L < h.objs.size := Heap.lt_size hS
    have hnew : (h'.update L (Obj.mapSeq (·.push (Value.ref h.objs.size)))).get? h.objs.size = _ := up _ _ (Nat.ne_of_gt hSl) ht
    have far : ∀ a, h₁.objs.size ≤ a → a ≠ z ∧ a ≠ TO ∧ a ≠ i1 ∧ a ≠ i2 ∧ a ≠ L := fun a ha => ⟨Nat.ne_of_gt (Nat.lt_of_lt_of_le bz ha), Nat.ne_of_gt (Nat.lt_of_lt_of_le bO ha), Nat.ne_of_gt (Nat.lt_of_lt_of_le b1 ha), Nat.ne_of_gt (Nat.lt_of_lt_of_le b2 ha), Nat.ne_of_gt (Nat.lt_of_lt_of_le bL ha)⟩
    show wpAny _ A.in1 (updateSeq L (·.push (Value.ref h.objs.size)) >>= _) _ _ _
    refine wpAny_bind ?_
    refine wpAny_updateSeq hS' rfl (wpAny_pure ⟨plainId_quiet PySem.F.plain_extend_loop _, ih (i + 1) _ tk' _ (acc.push (Value.ref h.objs.size)) (as ++ [h.objs.size]) (by omega) hlt
      (ZlS.keep D1 D2 (h := h') ⟨q1, q2, q3, q4, q5⟩ nz nI nO nf1 nf2 up)
      (fun b o h1 h2 h3 h4 h5 e => up b o h1 (hkp b o h2 h3 h4 h5 (hkeep b o h1 h2 h3 h4 h5 e))) (Heap.get?_update_self _ hS' rfl) (by rw [Array.toList_push, hacc, List.map_append]; rfl) (by rw [List.length_append, hal]; rfl) ⟨?_, ?_, ?_⟩ ?_ ?_⟩) (by rw [hsa]; omega) (by show (acc.push (Value.ref h.objs.size)).size ≤ sizeLine + 1; rw [Array.size_push, hsa]; omega)
    · refine List.pairwise_append.mpr ⟨hG.rise, List.pairwise_singleton _ _, fun a ha b hb => ?_⟩
      rw [List.mem_singleton.mp hb]
      exact hG.there ha
    · intro a ha
      rcases List.mem_append.mp ha with ha | ha
      · exact hG.above a ha
      · rw [List.mem_singleton.mp ha]; exact hSl
    · intro j b hj
      rcases Nat.lt_trichotomy j as.length with h1 | h1 | h1
      · rw [List.getElem?_append_left h1] at hj
        obtain ⟨x', y', e1, e2, e3⟩ := hG.pairs j b hj
        obtain ⟨f1, f2, f3, f4, f5⟩ := far b (hup b (List.mem_of_getElem? hj))
        exact ⟨x', y', e1, e2, up b _ f5 (hkp b _ f1 f2 f3 f4 e3)⟩
      · subst h1
        have hb : h.objs.size = b := by simpa using hj
        subst hb
        exact ⟨x, y, by rw [hal]; exact p1, by rw [hal]; exact p2, hnew⟩
      · have hnone : (as ++ [h.objs.size])[j]? = none := List.getElem?_eq_none (by rw [List.length_append, List.length_singleton]; omega)
        rw [hnone] at hj; cases hj
    · intro a ha
      rcases List.mem_append.mp ha with ha | ha
      · exact hup a ha
      · rw [List.mem_singleton.mp ha]; exact hsz
    · exact Nat.le_of_lt (Nat.lt_of_le_of_lt hsz (Heap.lt_size hnew))
end
end PySem
namespace PySem
open Sem (wp)
open PySem.Calls PyProof.Rows PyProof.V PySem.Spec
section
variable {prog : Program} {w : World} {A : Around} {E : Value → Shared → Prop} {s : Shared} {z TI TO i1 i2 : Addr} {fp1 fp2 : List Addr} {n1 n2 n : Nat} {P1 P2 : Nat → Value → Prop} {St1 St2 : Nat → Heap → Prop}
theorem zl_iter {Q : Value → Shared → Prop} (hz : ZipAt s.heap z TI TO) (h : Q (.ref z) s) : wpAny (model prog w) A (pyIter (.ref z)) Q E s := by
  refine wpAny_pyIter_slot hz.typeIs F.slot_zip_iter (wpAny_call_entry F.slot_zip_iter hz.typeIs F.entry_zip_iter ?_ (F.args_zip_iter_1 _))
  show wpAny _ _ (ret (.ref z)) _ _ s
  exact wpAny_pure ⟨_, rfl, "zip", _, hz.typeIs, F.slot_zip_next.lookup, h⟩
theorem zl_extend {R : Result → Shared → Prop} {L : Addr} (S : ZipSep2 z TI TO i1 i2 fp1 fp2) (D1 : Draws prog w A.in1.in1 i1 fp1 n1 P1 St1) (D2 : Draws prog w A.in1.in1 i2 fp2 n2 P2 St2) (h1n : n ≤ n1) (h2n : n ≤ n2) (hend : n = n1 ∨ n = n2)
    (nz : z ≠ L) (nI : TI ≠ L) (nO : TO ≠ L) (ni1 : i1 ≠ L) (ni2 : i2 ≠ L) (nf1 : L ∉ fp1) (nf2 : L ∉ fp2) (hn : n ≤ sizeLine) (res : Value) (c₀ : Nat)
    (X : ZlS z TI TO i1 i2 St1 St2 0 s.heap) (hi1 : i1 < s.heap.objs.size) (hi2 : i2 < s.heap.objs.size)
    (hS : s.heap.get? L = some { cls := .type "list", data := .seq #[] c₀ })
    (hR : ∀ h' tk acc c as, (∀ b o, b ≠ L → b ≠ z → b ≠ TO → b ≠ i1 → b ≠ i2 → s.heap.get? b = some o → h'.get? b = some o) → h'.get? L = some { cls := .type "list", dict := none, data := .seq acc c, slots := #[] } → as.length = n → (∀ a ∈ as, s.heap.objs.size ≤ a) → ZlG P1 P2 L h' as →
      acc.toList = as.map Value.ref → R (.ok (.ret res)) { s with heap := h', toks := tk }) :
    wpAny (model prog w) A.in1 (Builtin.List.listExtendWith (.ref L) (.ref z) res)
      (fun fin s' => match fin with | .done f => R (.ok f) s' | .again c' => c'.quiet = true ∧ codeAny (model prog w) A c' R s') (fun e s' => R (.error e) s') s := by
  have key : ∀ (h : Heap) (c₁ : Nat), (∀ b o, b ≠ L → s.heap.get? b = some o → h.get? b = some o) → s.heap.objs.size ≤ h.objs.size →
      h.get? L = some { cls := .type "list", data := .seq #[] c₁ } → codeAny (model prog w) A (.builtin "list.extend.loop" ⟨[.ref L, .ref z, res], []⟩) R { s with heap := h } := by
    intro h c₁ hk hsz hS₁
    exact zl_loop (s := s) (h₁ := s.heap) S D1 D2 h1n h2n hend nz nI nO ni1 ni2 nf1 nf2 hn res
      ⟨(let ⟨_, _, q, _⟩ := X.z; Heap.lt_size q), (let ⟨_, _, q⟩ := X.TO; Heap.lt_size q), hi1, hi2, Heap.lt_size hS⟩ hR n 0 h s.toks c₁ #[] [] (Nat.sub_zero _) (Nat.zero_le _)
      (X.keep D1 D2 nz nI nO nf1 nf2 hk) (fun b o h1 _ _ _ _ e => hk b o h1 e) hS₁ rfl rfl ⟨List.Pairwise.nil, (fun _ ha => nomatch ha), (fun j a hj => by simp at hj)⟩ (fun _ ha => nomatch ha) hsz
  unfold Builtin.List.listExtendWith
  refine wpAny_bind (wpAny_typeOf (T := "zip") X.z.typeIs ?_)
  have h1 : Builtin.List.listSameRef (.ref L) (.ref z) = false := by simp [Builtin.List.listSameRef, nz.symm]
  have h2 : (Value.type "zip" == Value.type "list") = false := by decide
  have h3 : (Value.type "zip" == Value.type "tuple") = false := by decide
  simp only [h1, h2, h3, Bool.or_false, Bool.false_eq_true, if_false]
  refine wpAny_bind (zl_iter X.z ?_)
  refine wpAny_bind (wpAny_holding (zip_hint X.z.typeIs ?_))
  refine wpAny_ite_split (fun _ => ?_) (fun _ => wpAny_pure ⟨plainId_quiet PySem.F.plain_extend_loop _, key _ c₀ (fun b o _ e => e) (Nat.le_refl _) hS⟩)
  refine wpAny_bind (wpAny_rule ?_)
  refine wpAny_bind ?_
  show wpAny _ _ (updateSeq L (·.push .none) >>= fun _ => updateSeq L (·.pop)) _ _ _
  refine wpAny_bind (wpAny_updateSeq hS rfl ?_)
  have hS₂ := Heap.get?_update_self (Obj.mapSeq (·.push Value.none)) hS rfl
  refine wpAny_updateSeq (hz := by seq_fits) hS₂ rfl ?_
  have hS₃ := Heap.get?_update_self (Obj.mapSeq (·.pop)) hS₂ rfl
  refine wpAny_pure ⟨plainId_quiet PySem.F.plain_extend_loop _, key _ _ (fun b o hb e => ?_) ?_ hS₃⟩
  · exact (Heap.get?_update_other _ _ (Ne.symm hb)).trans ((Heap.get?_update_other _ _ (Ne.symm hb)).trans e)
  · simp [Heap.update]
theorem zl_init {R : Result → Shared → Prop} {L : Addr} (S : ZipSep2 z TI TO i1 i2 fp1 fp2) (D1 : Draws prog w A.in1.in1 i1 fp1 n1 P1 St1) (D2 : Draws prog w A.in1.in1 i2 fp2 n2 P2 St2) (h1n : n ≤ n1) (h2n : n ≤ n2) (hend : n = n1 ∨ n = n2)
    (nz : z ≠ L) (nI : TI ≠ L) (nO : TO ≠ L) (ni1 : i1 ≠ L) (ni2 : i2 ≠ L) (nf1 : L ∉ fp1) (nf2 : L ∉ fp2) (hn : n ≤ sizeLine)
    (X : ZlS z TI TO i1 i2 St1 St2 0 s.heap) (hi1 : i1 < s.heap.objs.size) (hi2 : i2 < s.heap.objs.size)
    (hS : s.heap.get? L = some { cls := .type "list", data := .seq #[] })
    (hR : ∀ h' tk acc c as, (∀ b o, b ≠ L → b ≠ z → b ≠ TO → b ≠ i1 → b ≠ i2 → s.heap.get? b = some o → h'.get? b = some o) → h'.get? L = some { cls := .type "list", dict := none, data := .seq acc c, slots := #[] } → as.length = n → (∀ a ∈ as, s.heap.objs.size ≤ a) → ZlG P1 P2 L h' as →
      acc.toList = as.map Value.ref → R (.ok (.ret .none)) { s with heap := h', toks := tk }) :
    wpAny (model prog w) A.in1 (Builtin.«list.__init__» ⟨[.ref L, .ref z], []⟩)
      (fun fin s' => match fin with | .done f => R (.ok f) s' | .again c' => c'.quiet = true ∧ codeAny (model prog w) A c' R s') (fun e s' => R (.error e) s') s := by
  show wpAny _ _ (do let old ← Builtin.List.listItems (.ref L); Builtin.List.listUpdate (.ref L) (fun _ => #[]); letGo old.toList.reverse; Builtin.List.listExtendWith (.ref L) (.ref z) .none) _ _ s
  refine wpAny_bind ?_
  unfold Builtin.List.listItems
  refine wpAny_bind (wpAny_seqItems hS rfl (wpAny_pure ?_))
  show wpAny _ _ (updateSeq L (fun _ => #[]) >>= fun _ => letGo (#[] : Array Value).toList.reverse >>= fun _ => Builtin.List.listExtendWith (.ref L) (.ref z) .none) _ _ s
  refine wpAny_bind (wpAny_updateSeq hS rfl ?_)
  have hS₂ := Heap.get?_update_self (Obj.mapSeq (fun _ => (#[] : Array Value))) hS rfl
  have oth : ∀ b o, b ≠ L → s.heap.get? b = some o → (s.heap.update L (Obj.mapSeq (fun _ => (#[] : Array Value)))).get? b = some o :=
    fun b o hb e => (Heap.get?_update_other _ _ (Ne.symm hb)).trans e
  have hsz : (s.heap.update L (Obj.mapSeq (fun _ => (#[] : Array Value)))).objs.size = s.heap.objs.size := by simp [Heap.update]
  refine wpAny_bind (wpAny_letGo ?_)
  refine zl_extend (s := { s with heap := s.heap.update L (Obj.mapSeq (fun _ => (#[] : Array Value))) }) S D1 D2 h1n h2n hend nz nI nO ni1 ni2 nf1 nf2 hn .none _ (X.keep D1 D2 nz nI nO nf1 nf2 oth) (by rw [hsz]; exact hi1) (by rw [hsz]; exact hi2) hS₂ fun h' tk acc c as hk hS' hl hup hG hacc => ?_
  exact hR h' tk acc c as (fun b o h1 h2 h3 h4 h5 e => hk b o h1 h2 h3 h4 h5 (oth b o h1 e)) hS' hl (fun a ha => by have := hup a ha; rw [hsz] at this; exact this) hG hacc
theorem zl_call {Q : Value → Shared → Prop} (S : ZipSep2 z TI TO i1 i2 fp1 fp2) (D1 : Draws prog w A.in1.in1.in1 i1 fp1 n1 P1 St1) (D2 : Draws prog w A.in1.in1.in1 i2 fp2 n2 P2 St2) (h1n : n ≤ n1) (h2n : n ≤ n2) (hend : n = n1 ∨ n = n2) (hn : n ≤ sizeLine)
    (X : ZlS z TI TO i1 i2 St1 St2 0 s.heap) (hf1 : ∀ b ∈ fp1, b < s.heap.objs.size) (hf2 : ∀ b ∈ fp2, b < s.heap.objs.size)
    (hQ : ∀ h' tk acc c as, (∀ b o, b ≠ z → b ≠ TO → b ≠ i1 → b ≠ i2 → s.heap.get? b = some o → h'.get? b = some o) → h'.get? s.heap.objs.size = some { cls := .type "list", dict := none, data := .seq acc c, slots := #[] } → as.length = n → ZlG P1 P2 s.heap.objs.size h' as →
      acc.toList = as.map Value.ref → Q (.ref s.heap.objs.size) { s with heap := h', toks := tk }) :
    wpAny (model prog w) A (call (.type "list") [.ref z]) Q E s := by
  refine callType_codes (Q₁ := fun obj s₁ => obj = .ref s.heap.objs.size ∧ s₁ = { s with heap := s.heap.push { cls := .type "list", data := .seq #[] } }) PySem.F.called_list (PySem.F.typeCall_list_1 _) PySem.F.entry_list_init
    (code_list_new _ ⟨rfl, rfl⟩) fun obj s₁ h₁ => ?_
  obtain ⟨rfl, rfl⟩ := h₁
  have hS : (s.heap.push { cls := .type "list", data := .seq #[] }).get? s.heap.objs.size = some { cls := .type "list", data := .seq #[] } := Heap.get?_push_size _ rfl
  have hz1 : (s.heap.push { cls := .type "list", data := .seq #[] }).objs.size = s.heap.objs.size + 1 := Heap.size_push ..
  have lt : ∀ b o, s.heap.get? b = some o → b ≠ s.heap.objs.size := fun b o e => Nat.ne_of_lt (Heap.lt_size e)
  have nz : z ≠ s.heap.objs.size := let ⟨_, _, q, _⟩ := X.z; lt _ _ q
  have nI : TI ≠ s.heap.objs.size := lt _ _ X.TI
  have nO : TO ≠ s.heap.objs.size := let ⟨_, _, q⟩ := X.TO; lt _ _ q
  have l1 := hf1 _ S.mem1
  have l2 := hf2 _ S.mem2
  have nf1 : s.heap.objs.size ∉ fp1 := fun h => Nat.lt_irrefl _ (hf1 _ h)
  have nf2 : s.heap.objs.size ∉ fp2 := fun h => Nat.lt_irrefl _ (hf2 _ h)
  refine ⟨⟨_, hS, rfl⟩, PySem.F.args_list_init_2 _ _, zl_init (A := A.in1) S D1 D2 h1n h2n hend nz nI nO (Nat.ne_of_lt l1) (Nat.ne_of_lt l2) nf1 nf2 hn (X.keep D1 D2 nz nI nO nf1 nf2 fun b o _ e => Heap.get?_push_of_some _ e) (by rw [hz1]; exact Nat.lt_succ_of_lt l1) (by rw [hz1]; exact Nat.lt_succ_of_lt l2) hS fun h' tk acc c as hk hS' hl hup hG hacc => ?_⟩
  exact ⟨rfl, hQ h' tk acc c as (fun b o h2 h3 h4 h5 e => hk b o (lt _ _ e) h2 h3 h4 h5 (Heap.get?_push_of_some _ e)) hS' hl hG hacc⟩
end
end PySem
namespace DL
open PySem PySem.Spec PyProof.Rows L2
abbrev QQ := (V × V) × (Value × Value)
def frT (q : QQ) : HO := .frz (tupO [q.2.1, q.2.2]) (.tup [q.1.1, q.1.2])
def putF : Hp → List Addr → List QQ → Hp
  | H, a :: as, q :: qs => putF (upd H a (frT q)) as qs
  | H, _, _ => H
theorem putF_off {b : Addr} : ∀ (as : List Addr) (qs : List QQ) (H : Hp), b ∉ as → putF H as qs b = H b
  | [], _, _, _ => rfl
  | _ :: _, [], _, _ => rfl
  | a :: as, p :: qs, H, h => by
    show putF (upd H a (frT p)) as qs b = H b
    rw [putF_off as qs _ (fun z => h (List.mem_cons_of_mem _ z)), upd_ne (fun z => h (by rw [z]; exact List.mem_cons_self))]
theorem putF_at : ∀ (as : List Addr) (qs : List QQ) (H : Hp), as.length = qs.length → as.Nodup → ∀ (j : Nat) (a : Addr) (q : QQ), as[j]? = some a → qs[j]? = some q → putF H as qs a = some (frT q)
  | [], _, _, _, _, j, a, q, h, _ => by simp at h
  | _ :: _, [], _, h, _, _, _, _, _, _ => by cases h
  | a :: as, p :: qs, H, h, hn, 0, b, q, e1, e2 => by
    have e1 : a = b := by simpa using e1
    have e2 : p = q := by simpa using e2
    subst e1 e2
    show putF (upd H a (frT p)) as qs a = _
    rw [putF_off as qs _ (List.nodup_cons.mp hn).1, upd_same]
  | a :: as, p :: qs, H, h, hn, j + 1, b, q, e1, e2 => putF_at as qs (upd H a (frT p)) (by simpa using h) (List.nodup_cons.mp hn).2 j b q (by simpa using e1) (by simpa using e2)
section
variable {X : Cx}
theorem zl_laid {pins : List (Addr × Obj)} {σ : L2.St} {H : Hp} {s : Shared} {h' : Heap} {tk : Nat} {qs : List QQ} {acc : Array Value} {c : Nat} {as : List Addr} {L : Addr} (I : Inv X pins σ H s) (hz : qs.length ≤ sizeLine)
    (hk : ∀ b o, s.heap.get? b = some o → h'.get? b = some o) (hL : s.heap.objs.size ≤ L) (hS : h'.get? L = some { cls := .type "list", dict := none, data := .seq acc c, slots := #[] }) (hl : as.length = qs.length) (rise : as.Pairwise (· < ·)) (above : ∀ a ∈ as, L < a)
    (pairs : ∀ (j : Nat) (a : Addr) (q : QQ), as[j]? = some a → qs[j]? = some q → h'.get? a = some (tupO [q.2.1, q.2.2]) ∧ RelV q.1.1 q.2.1 ∧ RelV q.1.2 q.2.2) (hacc : acc.toList = as.map Value.ref) :
    ∃ H' : Hp, (∀ b o, H b = some o → H' b = some o) ∧ H L = none ∧ H' L = some (.lst (as.map V.ref)) ∧ (∀ (j : Nat) (a : Addr) (q : QQ), as[j]? = some a → qs[j]? = some q → H' a = some (frT q)) ∧ Inv X pins σ H' { s with heap := h', toks := tk } := by
  have hSn : L ∉ as := fun z => Nat.lt_irrefl _ (above _ z)
  have nd : as.Nodup := List.Pairwise.imp (fun {a b} (h : a < b) => Nat.ne_of_lt h) rise
  have new : ∀ t ∈ as, H t = none := fun t ht => I.hok.fresh (Nat.le_trans hL (Nat.le_of_lt (above t ht)))
  have newS : H L = none := I.hok.fresh hL
  have atP := putF_at as qs (upd H L (.lst (as.map V.ref))) hl nd
  have off : ∀ b, b ∉ as → b ≠ L → putF (upd H L (.lst (as.map V.ref))) as qs b = H b := fun b h1 h2 => by rw [putF_off as qs _ h1, upd_ne h2]
  have low : ∀ b o, s.heap.get? b = some o → b ∉ as ∧ b ≠ L := fun b o e => ⟨fun z => absurd (Heap.lt_size e) (Nat.not_lt.mpr (Nat.le_trans hL (Nat.le_of_lt (above b z)))), Nat.ne_of_lt (Nat.lt_of_lt_of_le (Heap.lt_size e) hL)⟩
  have kp : ∀ b u, H b = some u → (putF (upd H L (.lst (as.map V.ref))) as qs) b = some u := fun b u e => by
    rw [off b (fun z => by rw [new b z] at e; cases e) (fun z => by rw [z, newS] at e; cases e)]
    exact e
  have eS : putF (upd H L (.lst (as.map V.ref))) as qs L = some (.lst (as.map V.ref)) := by rw [putF_off as qs _ hSn, upd_same]
  refine ⟨putF (upd H L (.lst (as.map V.ref))) as qs, kp, newS, eS, atP, ?_⟩
  refine I.call' (ch := []) rfl ⟨fun b o q _ _ _ => hk b o q, fun b o q _ _ _ => ⟨o.slots, hk b o q⟩, fun b o q n _ => ?_, fun b o q _ => ⟨o, hk b o q⟩, fun b xs q => kp b _ q, fun b o u q => kp b _ q, fun b ps q => ⟨#[], by rw [kp b _ q]; simp⟩⟩ (fun b u q => ?_) I.bare fun b z => by simp at z
  · obtain ⟨z1, z2⟩ := low b o q
    rw [off b z1 z2]
    exact n
  · by_cases hb : b ∈ as
    · obtain ⟨j, hj⟩ := List.mem_iff_getElem?.mp hb
      have jl : j < qs.length := by rw [← hl]; exact (List.getElem?_eq_some_iff.mp hj).1
      have e2 : qs[j]? = some qs[j] := List.getElem?_eq_getElem jl
      rw [atP j b _ hj e2] at q
      cases q
      obtain ⟨f1, f2, f3⟩ := pairs j b _ hj e2
      exact ⟨f1, by show 2 ≤ sizeLine; decide, _, .cons f2 (.cons f3 .nil), ⟨_, f1, rfl, _, rfl⟩⟩
    · by_cases hb2 : b = L
      · rw [hb2] at q ⊢
        rw [eS] at q
        cases q
        refine ⟨by rw [List.length_map]; omega, acc.toList, c, by rw [hacc]; exact LiI.vals_refs as, ?_⟩
        rw [Array.toArray_toList]
        exact hS
      · rw [off b hb hb2] at q
        exact (I.hok b u q).stay (fun d v _ y => hk d v y) (fun d y => kp d _ y) fun d xs y => kp d _ y
def zipT (a b : List D) : List D := List.zipWith (fun x y => D.tup [x, y]) a b
theorem rel_zipT {K : KW} {H' : Hp} : ∀ {xs ys : List V} {its its2 : List Value} {a b : List D} {as : List Addr}, RelDs K H' xs a → RelDs K H' ys b → Vals xs its → Vals ys its2 → as.length = ((xs.zip ys).zip (its.zip its2)).length →
    (∀ (j : Nat) (t : Addr) (q : QQ), as[j]? = some t → ((xs.zip ys).zip (its.zip its2))[j]? = some q → H' t = some (frT q)) → RelDs K H' (as.map V.ref) (zipT a b)
  | [], _, _, _, [], _, as, .nil, _, _, _, hl, _ => by
    have : as = [] := List.length_eq_zero_iff.mp (by simpa using hl)
    subst this; exact .nil
  | _ :: _, [], _, _, _ :: _, [], as, _, .nil, _, _, hl, _ => by
    have : as = [] := List.length_eq_zero_iff.mp (by simpa using hl)
    subst this; exact .nil
  | x :: xs, y :: ys, u :: its, v :: its2, d :: a, e :: b, as, .cons r1 t1, .cons r2 t2, .cons v1 w1, .cons v2 w2, hl, h => by
    cases as with
    | nil => simp at hl
    | cons t as =>
      refine .cons (.tup (.inl ⟨_, rfl, h 0 t _ rfl rfl⟩) (.cons r1 (.cons r2 .nil))) ?_
      exact rel_zipT (as := as) t1 t2 w1 w2 (by simpa using hl) fun j t' q e1 e2 => h (j + 1) t' q (by simpa using e1) (by simpa using e2)
def dLstZip (ta : DTA) : DTE := fun τ S Q => ta τ S fun ds S1 => match ds with
  | [.tup a, .ref q] => onL S1 q fun b => ∀ p, S1 p = none → Q (.ref p) (put S1 p (.lst (zipT a b)))
  | _ => False
@[simp] theorem dLstZip_eq {ta : DTA} {τ : DSt} {S : Sto} {Q : KD} : dLstZip ta τ S Q = ta τ S fun ds S1 => match ds with
  | [.tup a, .ref q] => onL S1 q fun b => ∀ p, S1 p = none → Q (.ref p) (put S1 p (.lst (zipT a b)))
  | _ => False := rfl
theorem de_listZip {e e2 : Expr} {ta : DTA} {p p2 pos pos2 : Pos} (hc : X.calm = true) (hm : X.mg "list" = none) (hg : Gl X "list") (hg2 : Gl X "zip") (hm2 : X.mg "zip" = none) (ha : DAr X [e, e2] ta)
    (hs : starEach [e, e2] X.env = (false, eval e X.env) :: starEach [e2] X.env := by rfl) (hpl : (backTo pos2 (starEach [e2] X.env)).any (·.1) = false := by rfl)
    (hs0 : starEach [.Call (.Name "zip" p2) [e, e2] [] pos2] X.env = (false, eval (.Call (.Name "zip" p2) [e, e2] [] pos2) X.env) :: starEach [] X.env := by rfl) :
    DE X (.Call (.Name "list" p) [.Call (.Name "zip" p2) [e, e2] [] pos2] [] pos) (dLstZip ta) := ⟨fun pins s σ H τ S Q I st hr q => by
  refine Call_ (ld_blt I hg hm boot_list (PyProof.Rows.callWith_type1 (PyProof.Rows.args_cons (Call_ (ld_blt I hg2 hm2 PyProof.Rows.boot_zip (PyProof.Rows.callWith_type1 (thn (ha.run pos2 pins s σ H τ S _ I st hr q) fun us s1 ⟨vs, H1, I1, rv, e1, ds, S1, hr1, rd, q1⟩ => ?_) hs hpl))) hs0) hs0 rfl))
  simp only at q1
  split at q1
  · rename_i a l
    obtain ⟨b, el, q1⟩ := onL.out q1
    obtain ⟨v, w', rfl, r1, r2⟩ := rd.two
    cases rv with
    | cons rv1 rv2 =>
    cases rv2 with
    | cons rv2 rv3 =>
    cases rv3
    cases relD_ref r2
    cases r1 with
    | @tup aT xs _ tt ra =>
    cases rv1
    cases rv2
    obtain ⟨ys, g1, rb⟩ := hr1 l _ el
    obtain ⟨its, rva, p1, hz1⟩ := I1.tuple tt.sq
    obtain ⟨its2, rvb, p2', hz2⟩ := I1.list (SqL.of g1)
    refine zip_begins2 (begins_tuple _ its.toArray) (begins_list l its2.toArray) p1 p2'.isList fun h' hz hTI hTO h1 h2 hsz hk => PyProof.Rows.args_nil ?_
    replace hk : ∀ c o, s1.heap.get? c = some o → h'.get? c = some o := hk
    have lt1 : _ < s1.heap.objs.size := (fun h => by obtain ⟨_, h, _⟩ := h; exact Heap.lt_size h : IsTup s1.heap _ its.toArray → _) p1
    have lt2 := p2'.lt
    have hd := I1.ok.hd hc
    have n1 := rva.length
    have n2 := rvb.length
    refine zl_call (s := { s1 with heap := h' }) (n := min its.length its2.length) (zip_sep2 (by simp; exact lt1) (by simp; exact lt2)) (Draws.tuple (A := X.A.in1.in1.in1) hd s1.heap.objs.size _ (Nat.ne_of_lt lt1) its.toArray) (Draws.list (A := X.A.in1.in1.in1) hd (s1.heap.objs.size + 1) l (Nat.ne_of_lt (Nat.lt_succ_of_lt lt2)) its2.toArray)
      (by rw [List.size_toArray]; exact Nat.min_le_left _ _) (by rw [List.size_toArray]; exact Nat.min_le_right _ _) (by rw [List.size_toArray, List.size_toArray]; omega) (by omega)
      ⟨⟨.none, false, hz, .inl rfl⟩, hTI, ⟨_, _, hTO⟩, ⟨⟨_, h1, rfl, rfl⟩, (show s1.heap.IsTuple _ its.toArray from p1).at fun o q => hk _ o q⟩, ⟨⟨_, h2, rfl, rfl⟩, p2'.isList.at fun o q => hk _ o q⟩⟩ ?_ ?_ fun h'' tk acc c as hk2 hS hl hG hacc => ?_
    · intro b hb
      show b < h'.objs.size
      rw [hsz]
      rcases (by simpa using hb : b = s1.heap.objs.size ∨ b = _) with z | z
      · rw [z]; exact Nat.lt_add_of_pos_right (by decide)
      · rw [z]; exact Nat.lt_add_right _ lt1
    · intro b hb
      show b < h'.objs.size
      rw [hsz]
      rcases (by simpa using hb : b = s1.heap.objs.size + 1 ∨ b = l) with z | z
      · rw [z]; exact Nat.add_lt_add_left (by decide : 1 < 5) _
      · rw [z]; exact Nat.lt_add_right _ lt2
    · replace hS : h''.get? h'.objs.size = _ := hS
      have kk : ∀ b o, s1.heap.get? b = some o → h''.get? b = some o := fun b o e => by
        have lb := Heap.lt_size e
        exact hk2 b o (Nat.ne_of_lt (Nat.lt_add_right _ lb)) (Nat.ne_of_lt (Nat.lt_add_right _ lb)) (Nat.ne_of_lt lb) (Nat.ne_of_lt (Nat.lt_add_right _ lb)) (hk b o e)
      have hle : s1.heap.objs.size ≤ h'.objs.size := by rw [hsz]; exact Nat.le_add_right _ _
      have xl := rva.length
      have prs : ∀ (j : Nat) (t : Addr) (q : QQ), as[j]? = some t → ((xs.zip ys).zip (its.zip its2))[j]? = some q → h''.get? t = some (tupO [q.2.1, q.2.2]) ∧ RelV q.1.1 q.2.1 ∧ RelV q.1.2 q.2.2 := fun j t q e1' e2' => by
        obtain ⟨x, y, p1x, p2y, et⟩ := hG.pairs j t e1'
        obtain ⟨f1, f2⟩ := List.getElem?_zip_eq_some.mp e2'
        obtain ⟨k1, k2⟩ := List.getElem?_zip_eq_some.mp f1
        obtain ⟨k3, k4⟩ := List.getElem?_zip_eq_some.mp f2
        have p1x : its[j]? = some x := by simpa using p1x
        have p2y : its2[j]? = some y := by simpa using p2y
        obtain ⟨u1, m1, m2⟩ := rva.get k1
        obtain ⟨u2, m3, m4⟩ := rvb.get k2
        rw [k3] at p1x m1
        rw [k4] at p2y m3
        cases p1x; cases p2y; cases m1; cases m3
        exact ⟨et, m2, m4⟩
      obtain ⟨H', kp, newS, eS, atT, I2⟩ := zl_laid (tk := tk) (qs := (xs.zip ys).zip (its.zip its2)) I1 (by simp only [List.length_zip]; omega) kk hle hS (by simp only [List.length_zip]; omega) hG.rise hG.above prs hacc
      · have ev : Ev H1 H' := fun b o e _ => kp b o e
        exact ⟨.ref _, H', I2, rfl, .of (e1.trans ev) (by
          intro b o e
          by_cases hb : b = h'.objs.size
          · subst hb
            rw [put_same] at e; cases e
            exact ⟨_, eS, rel_zipT (ra.ev ev) (rb.ev ev) rva rvb (by simp only [List.length_zip]; omega) atT⟩
          · rw [put_ne hb] at e
            exact (hr1 b o e).ev ev (kp b)) (.ref _) (q1 _ (hr1.free newS))⟩
  · exact q1.elim⟩
end
end DL
namespace K23
open PySem PySem.Spec PyProof.Rows L2 DL KB KN
open K22 (lineD ahead scan lst moms lst_app moms_app momD momsD moms_len)
def GR (sp : List Spn) : List Spn → List Nat → Prop
  | [], [] => True
  | s :: ls, m :: r => GR sp ls r ∧ (∃ q ∈ sp, q.b = m) ∧ s.b ≤ m ∧ m ≤ s.e ∧ (r = [] ∨ r.headD 0 ≤ m)
  | _, _ => False
def Good (sp ls : List Spn) (r : List Nat) : Prop := GR sp ls.reverse r.reverse
theorem good_nil {sp : List Spn} {r : List Nat} : Good sp [] r ↔ r = [] := by
  unfold Good
  constructor
  · intro h
    cases e : r.reverse with
    | nil => simpa using e
    | cons a b => rw [e] at h; exact h.elim
  · intro h; subst h; trivial
theorem good_snoc {sp ls : List Spn} {s : Spn} {x : List Nat} : Good sp (ls ++ [s]) x ↔ ∃ r m, x = r ++ [m] ∧ Good sp ls r ∧ (∃ q ∈ sp, q.b = m) ∧ s.b ≤ m ∧ m ≤ s.e ∧ (r = [] ∨ r.reverse.headD 0 ≤ m) := by
  unfold Good
  rw [List.reverse_append]
  constructor
  · intro h
    cases e : x.reverse with
    | nil => rw [e] at h; exact h.elim
    | cons m r =>
      rw [e] at h
      have ex : x = r.reverse ++ [m] := by
        have := congrArg List.reverse e
        rw [List.reverse_reverse, List.reverse_cons] at this
        exact this
      obtain ⟨h1, h2, h3, h4, h5⟩ : GR sp ls.reverse r ∧ (∃ q ∈ sp, q.b = m) ∧ s.b ≤ m ∧ m ≤ s.e ∧ (r = [] ∨ r.headD 0 ≤ m) := h
      refine ⟨r.reverse, m, ex, by rw [List.reverse_reverse]; exact h1, h2, h3, h4, ?_⟩
      rw [List.reverse_reverse]
      rcases h5 with h5 | h5
      · left; rw [h5]; rfl
      · exact .inr h5
  · rintro ⟨r, m, rfl, h1, h2, h3, h4, h5⟩
    rw [List.reverse_append]
    refine ⟨h1, h2, h3, h4, ?_⟩
    rcases h5 with h5 | h5
    · left; show r.reverse = []; rw [h5]; rfl
    · exact .inr h5
def gr (ls : List Spn) : List Nat := (moms 0 ls).map (·.2)
theorem gr_len {ls : List Spn} : (gr ls).length = ls.length := by unfold gr; rw [List.length_map, moms_len]
theorem gr_snoc {ls : List Spn} {s : Spn} : gr (ls ++ [s]) = gr ls ++ [lst 0 (ls ++ [s])] := by unfold gr; rw [moms_app, List.map_append]; rfl
theorem lst_ge {s : Spn} : ∀ {ls : List Spn} {m : Nat}, m ≤ lst m ls ∧ (s ∈ ls → s.b ≤ lst m ls)
  | [], m => ⟨Nat.le_refl _, fun h => nomatch h⟩
  | x :: r, m => by
    have e : lst m (x :: r) = lst (if m < x.b then x.b else m) r := rfl
    obtain ⟨a, b⟩ := lst_ge (s := s) (ls := r) (m := if m < x.b then x.b else m)
    rw [e]
    refine ⟨Nat.le_trans (by split <;> omega) a, fun h => ?_⟩
    rcases List.mem_cons.mp h with h | h
    · subst h; exact Nat.le_trans (by split <;> omega) a
    · exact b h
theorem lst_mem : ∀ {ls : List Spn} {m : Nat}, lst m ls = m ∨ ∃ q ∈ ls, q.b = lst m ls
  | [], m => .inl rfl
  | x :: r, m => by
    have e : lst m (x :: r) = lst (if m < x.b then x.b else m) r := rfl
    rw [e]
    rcases lst_mem (ls := r) (m := if m < x.b then x.b else m) with h | ⟨q, h1, h2⟩
    · by_cases c : m < x.b
      · rw [if_pos c] at h ⊢
        exact .inr ⟨x, List.mem_cons_self .., h.symm⟩
      · rw [if_neg c] at h ⊢
        exact .inl h
    · exact .inr ⟨q, List.mem_cons_of_mem _ h1, h2⟩
theorem lst_in {ls : List Spn} (h : ls ≠ []) : ∃ q ∈ ls, q.b = lst 0 ls := by
  rcases lst_mem (ls := ls) (m := 0) with e | e
  · cases ls with
    | nil => exact absurd rfl h
    | cons x r =>
      have := (lst_ge (s := x) (ls := x :: r) (m := 0)).2 (List.mem_cons_self ..)
      exact ⟨x, List.mem_cons_self .., by omega⟩
  · exact e
theorem getD_app {α : Type} {a b : List α} {d : α} {k : Nat} : (a ++ b).getD k d = if k < a.length then a.getD k d else b.getD (k - a.length) d := by
  rw [List.getD_eq_getElem?_getD, List.getElem?_append]
  split <;> rw [List.getD_eq_getElem?_getD]
theorem snoc_ind {α : Type} {P : List α → Prop} (h0 : P []) (h1 : ∀ l a, P l → P (l ++ [a])) (l : List α) : P l := by
  have : ∀ l : List α, P l.reverse := by
    intro l
    induction l with
    | nil => exact h0
    | cons a l ih => rw [List.reverse_cons]; exact h1 _ _ ih
  have := this l.reverse
  rw [List.reverse_reverse] at this
  exact this
theorem good_ge {sp : List Spn} (ls : List Spn) : ∀ r, Good sp ls r → r.length = ls.length ∧ fitB ls = true ∧ (ls ≠ [] → lst 0 ls ≤ r.reverse.headD 0) ∧ ∀ k, k < ls.length → (gr ls).getD k 0 ≤ r.getD k 0 := by
  refine snoc_ind (P := fun ls => ∀ r, Good sp ls r → r.length = ls.length ∧ fitB ls = true ∧ (ls ≠ [] → lst 0 ls ≤ r.reverse.headD 0) ∧ ∀ k, k < ls.length → (gr ls).getD k 0 ≤ r.getD k 0) ?_ ?_ ls
  · intro r h
    rw [good_nil] at h
    subst h
    exact ⟨rfl, rfl, fun h => absurd rfl h, fun k hk => absurd hk (Nat.not_lt_zero _)⟩
  · intro ls s ih x h
    obtain ⟨r, m, rfl, g, _, h3, h4, h5⟩ := good_snoc.mp h
    obtain ⟨i1, i2, i3, i4⟩ := ih r g
    have up : lst 0 ls ≤ m := by
      rcases h5 with h5 | h5
      · subst h5
        have : ls = [] := List.length_eq_zero_iff.mp i1.symm
        subst this
        exact Nat.zero_le _
      · by_cases e : ls = []
        · subst e; exact Nat.zero_le _
        · exact Nat.le_trans (i3 e) h5
    have top : lst 0 (ls ++ [s]) ≤ m := by rw [lst_app]; split <;> omega
    refine ⟨by rw [List.length_append, List.length_append, i1]; rfl, ?_, fun _ => ?_, fun k hk => ?_⟩
    · rw [fitB_snoc, i2]
      show (true && !(ls.find? fun q => ahead s q).isSome) = true
      have : ls.find? (fun q => ahead s q) = none := by
        rw [List.find?_eq_none]
        intro q hq ha
        have ha : s.e < q.b := of_decide_eq_true ha
        have := (lst_ge (s := q) (ls := ls) (m := 0)).2 hq
        omega
      rw [this]; rfl
    · rw [List.reverse_append]; exact top
    · rw [gr_snoc, getD_app, getD_app, gr_len, i1]
      rw [List.length_append] at hk
      have hk : k < ls.length + 1 := hk
      by_cases c : k < ls.length
      · rw [if_pos c, if_pos c]; exact i4 k c
      · have : k - ls.length = 0 := by omega
        rw [if_neg c, if_neg c, this]
        exact top
theorem gr_good {sp : List Spn} (be : ∀ s ∈ sp, s.b ≤ s.e) (ls : List Spn) : (∀ s ∈ ls, s ∈ sp) → fitB ls = true → Good sp ls (gr ls) ∧ (ls ≠ [] → (gr ls).reverse.headD 0 = lst 0 ls) := by
  refine snoc_ind (P := fun ls => (∀ s ∈ ls, s ∈ sp) → fitB ls = true → Good sp ls (gr ls) ∧ (ls ≠ [] → (gr ls).reverse.headD 0 = lst 0 ls)) ?_ ?_ ls
  · exact fun _ _ => ⟨good_nil.mpr rfl, fun h => absurd rfl h⟩
  · intro ls s ih hin hf
    rw [fitB_snoc, Bool.and_eq_true] at hf
    obtain ⟨i1, i2⟩ := ih (fun q hq => hin q (List.mem_append_left _ hq)) hf.1
    have hs := hin s (List.mem_append_right _ (List.mem_singleton.mpr rfl))
    have na : ∀ q ∈ ls, q.b ≤ s.e := fun q hq => by
      have h2 := hf.2
      rw [Bool.not_eq_true', Option.isSome_eq_false_iff, Option.isNone_iff_eq_none, List.find?_eq_none] at h2
      have := h2 q hq
      have : ¬ s.e < q.b := fun z => this (decide_eq_true z)
      omega
    have ge := lst_ge (s := s) (ls := ls ++ [s]) (m := 0)
    refine ⟨good_snoc.mpr ⟨gr ls, lst 0 (ls ++ [s]), gr_snoc, i1, ?_, ge.2 (List.mem_append_right _ (List.mem_singleton.mpr rfl)), ?_, ?_⟩, fun _ => by rw [gr_snoc, List.reverse_append]; rfl⟩
    · obtain ⟨q, hq, e⟩ := lst_in (ls := ls ++ [s]) (by simp)
      exact ⟨q, hin q hq, e⟩
    · obtain ⟨q, hq, e⟩ := lst_in (ls := ls ++ [s]) (by simp)
      rw [← e]
      rcases List.mem_append.mp hq with hq | hq
      · exact na q hq
      · rw [List.mem_singleton.mp hq]; exact be s hs
    · by_cases e : ls = []
      · left; subst e; rfl
      · right
        rw [i2 e, lst_app]
        split <;> omega
theorem scan_fit : ∀ {r done : List Spn}, fitB done = true → (scan done r = none ↔ fitB (done ++ r) = true)
  | [], done, h => by rw [List.append_nil]; exact ⟨fun _ => h, fun _ => rfl⟩
  | s :: r, done, h => by
    have e : scan done (s :: r) = (match done.find? (fun q => ahead s q) with | some q => some (q, s) | none => scan (done ++ [s]) r) := rfl
    have h2 : fitB (done ++ [s]) = !(done.find? fun q => ahead s q).isSome := by rw [fitB_snoc, h, Bool.true_and]
    rw [e]
    cases c : done.find? (fun q => ahead s q) with
    | none =>
      rw [c] at h2
      have ih := scan_fit (r := r) (done := done ++ [s]) (by rw [h2]; rfl)
      rw [List.append_assoc] at ih
      exact ih
    | some q =>
      refine ⟨fun z => (by cases z), fun z => ?_⟩
      rw [c] at h2
      have h3 : fitB (done ++ [s]) = false := by rw [h2]; rfl
      rw [fitB_iff] at z
      have z2 : (done ++ [s]).Pairwise fun q s => ahead s q = false := by
        have : done ++ s :: r = (done ++ [s]) ++ r := by simp
        rw [this] at z
        exact (List.pairwise_append.mp z).1
      rw [← fitB_iff] at z2
      rw [z2] at h3; cases h3
theorem sub_len : ∀ {ms ns : List Int}, ms.Pairwise (· < ·) → (∀ k ∈ ms, k ∈ ns) → ms.length ≤ ns.length
  | [], _, _, _ => Nat.zero_le _
  | m :: r, ns, hp, hs => by
    have hm := hs m (List.mem_cons_self ..)
    obtain ⟨h1, h2⟩ := List.pairwise_cons.mp hp
    have ih := sub_len (ns := ns.erase m) h2 fun k hk => (List.mem_erase_of_ne (by have := h1 k hk; omega)).mpr (hs k (List.mem_cons_of_mem _ hk))
    rw [List.length_erase_of_mem hm] at ih
    have := List.length_pos_of_mem hm
    rw [List.length_cons]; omega
end K23
namespace K23
open PySem PySem.Spec PyProof.Rows L2 DL KB KN
open K22 (lineD ahead scan lst moms lst_app moms_app momD momsD moms_len sp_moments_by fitT getT wDictT)
theorem ifS_go {τ : DSt} {S : Sto} {t u : DTS} {Dn : DEnds} {ta : DTT} (k : ta τ S fun b S1 => if b = true then t Dn τ S1 else u Dn τ S1) : dIfS ta t u Dn τ S := k
theorem tst_go {τ : DSt} {S : Sto} {t : DTE} {QT : Bool → Sto → Prop} (k : t τ S (isB QT)) : dTst t τ S QT := k
theorem szk : 100001 < sizeLine := by rw [sizeLine_eq]; decide
def ansS (ls : List Spn) : D := if fitB ls = true then momsD ls else .non
def sp__law_said : DSp := fun ds S Q E => ∃ sp ls, ds = [spansD sp, lineD ls] ∧ (sp.map Spn.task).Nodup ∧ sp.length ≤ 1000 ∧ ls.length ≤ 1000 ∧ (∀ s ∈ ls, s ∈ sp) ∧ ∀ S', Q (ansS ls) S'
theorem len__law_said : ∀ ds S Q E, sp__law_said ds S Q E → ds.length = (["_law_spans_here", "_law_line"] : List Str).length := fun _ _ _ _ ⟨_, _, e, _⟩ => by rw [e]; rfl
def sd0 : DTS := dAsg (dC .non) (gdName 2)
def sd1 (c_NoOrder : Addr) : DTS := dTry0 c_NoOrder 3 (fun E => dAsg (dCallX (pur (sp_moments_by c_NoOrder)) [] E (dCons (dV 0) (dCons (dV 1) dNil))) (gdName 2)) (dAsg (dC .non) (gdName 2))
def sd2 : DTS := dRet (dV 2)
def r__law_said (c_NoOrder c_PaperError c_DrawerError : Addr) : DTS := dSeq sd0 (dSeq (sd1 c_NoOrder) sd2)
abbrev N__law_said : List Str := ["_law_spans_here", "_law_line", "_law_found"]
theorem vc__law_said {c_NoOrder c_PaperError c_DrawerError : Addr} {ds S Q E} (h : sp__law_said ds S Q E) : r__law_said c_NoOrder c_PaperError c_DrawerError (bodyEnds Q) (startD N__law_said ds) S := by
  obtain ⟨sp, ls, rfl, nd, hl, hls, hin, k⟩ := h
  show r__law_said _ _ _ _ [some (spansD sp), some (lineD ls), none] S
  unfold r__law_said sd0
  simp only [dSeq_eq, dAsg_eq, dC_eq, gdName_eq]
  show sd1 _ _ [some (spansD sp), some (lineD ls), some .non] S
  unfold sd1 dTry0
  simp only [dAsg_eq, dC_eq, gdName_eq, dCallX_eq, dCons_eq, dNil_eq, List.append_nil]
  refine dV_at (by rfl) ?_
  refine dV_at (by rfl) ?_
  refine ⟨sp, ls, rfl, nd, hl, hls, hin, fun _ => ?_⟩
  have sf := scan_fit (r := ls) (done := []) rfl
  rw [List.nil_append] at sf
  unfold ansS at k
  cases hsc : scan [] ls with
  | none =>
    rw [if_pos (sf.mp hsc)] at k
    show sd2 (bodyEnds Q) [some (spansD sp), some (lineD ls), some (momsD ls)] S
    unfold sd2
    rw [dRet_eq]
    refine dV_at (by rfl) ?_
    exact k S
  | some qs =>
    obtain ⟨q, s⟩ := qs
    rw [if_neg (fun z => by rw [sf.mpr z] at hsc; cases hsc)] at k
    refine ⟨rfl, by simp, fun τ1 dd hlen hdd => ?_⟩
    match τ1, hlen with
    | [y0, y1, y2], _ =>
      show sd2 (bodyEnds Q) [y0, y1, some .non] _
      unfold sd2
      rw [dRet_eq]
      refine dV_at (by rfl) ?_
      exact k _
def rowD (r : List Nat) : D := .tup (r.map fun m : Nat => D.int (m : Int))
structure RowsOk (sp ls : List Spn) (rows : List (List Nat)) : Prop where
  iff : ∀ r, r ∈ rows ↔ Good sp ls r
  len : rows.length ≤ 4 ^ ls.length
def sp__law_tried : DSp := fun ds S Q E => ∃ sp ls, ds = [spansD sp, lineD ls] ∧ (sp.map Spn.task).Nodup ∧ sp.length ≤ 4 ∧ ls.length ≤ 4 ∧ (∀ s ∈ ls, s ∈ sp) ∧ ∀ (F : Addr) (rows : List (List Nat)) (S' : Sto), S' F = some (.lst (rows.map rowD)) → Grow S S' → RowsOk sp ls rows → Q (.ref F) S'
theorem len__law_tried : ∀ ds S Q E, sp__law_tried ds S Q E → ds.length = (["_law_spans_here", "_law_line"] : List Str).length := fun _ _ _ _ ⟨_, _, e, _⟩ => by rw [e]; rfl
def tr0 : DTS := dAsg (dCB wDict (dCons (dLC (diVal (dV 0) wIterA) (gdName 6) dYes [6] [6] [] (dTup (dCons (dBin wAt (dV 6) (dC (.int 0))) (dCons (dV 6) dNil)))) dNil)) (gdName 2)
def tr1 : DTS := dAsg (dLst (dCons (dTup dNil) dNil)) (gdName 3)
def trA : DTS := dAsg (dLst dNil) (gdName 5)
def trM : DTI := diVal (dSortedSet (dLC (diVal (dV 0) wIterA) (gdName 9) dYes [9] [9] [] (dBin wAt (dV 9) (dC (.int 1))))) wIterA
def trX : DTS := dAsg (dChain wLe wLe (dBin wAt (dBin wAt (dV 2) (dV 4)) (dC (.int 1))) (dV 7) (dBin wAt (dBin wAt (dV 2) (dV 4)) (dC (.int 2)))) (gdName 8)
def trY : DTS := dIfS (dAnd (dTst (dV 8)) (dOr (dTst (dBin wEq (dV 6) (dTup dNil))) (dTst (dBin wLe (dBin wAt (dV 6) (dUn wNeg (dC (.int 1)))) (dV 7))))) (dDrop (dBM "list" wAppend (dV 5) (dCons (dBin wAdd (dV 6) (dTup (dCons (dV 7) dNil))) dNil))) dNext
def trB : DTS := dFor (diVal (dV 3) wIterA) (gdName 6) (dFor trM (gdName 7) (dSeq trX trY))
def trC : DTS := dAsg (dV 5) (gdName 3)
def tr2 : DTS := dFor (diVal (dV 1) wIterA) (gdName 4) (dSeq trA (dSeq trB trC))
def tr3 : DTS := dRet (dV 3)
def r__law_tried : DTS := dSeq tr0 (dSeq tr1 (dSeq tr2 tr3))
abbrev N__law_tried : List Str := ["_law_spans_here", "_law_line", "_law_known", "_law_found", "_law_task", "_law_longer", "_law_row", "_law_moment", "_law_is_in", "_law_one"]
def Stp (sp : List Spn) (s : Spn) (r : List Nat) (m : Nat) : Prop := s.b ≤ m ∧ m ≤ s.e ∧ (r = [] ∨ r.reverse.headD 0 ≤ m)
abbrev tS (sp ls : List Spn) (K : Addr) (y3 y4 y5 y6 y7 y8 : Option D) : DSt := [some (spansD sp), some (lineD ls), some (.ref K), y3, y4, y5, y6, y7, y8, none]
theorem row_last {r : List Nat} (h : r ≠ []) {S : Sto} {Q : KD} (q : Q (.int (r.reverse.headD 0 : Nat)) S) : wAt (rowD r) (.int (-1)) S Q := by
  unfold rowD
  rw [wAt_tup, DL.atI_last (by simpa using h), List.getLast?_map]
  obtain ⟨a, b, e⟩ : ∃ a b, r = a ++ [b] := ⟨r.dropLast, r.getLast h, (List.dropLast_concat_getLast h).symm⟩
  subst e
  rw [List.getLast?_append]
  rw [List.reverse_append] at q
  exact q
section
variable {sp ls : List Spn} {K F L : Addr} {s : Spn} {r : List Nat} {m : Nat} {S : Sto} {Dn : DEnds} {y3 y5 y8 : Option D} {news : List (List Nat)}
theorem try_go (nd : (sp.map Spn.task).Nodup) (hs : s ∈ sp) (eK : S K = some (.dct (sp.map fun s => (s.task, s.D)))) (eL : S L = some (.lst (news.map rowD))) (hn : news.length ≤ 2000) (hr : r.length ≤ 10)
    (yes : Stp sp s r m → ∀ y8, Dn.nx (tS sp ls K y3 (some s.task) (some (.ref L)) (some (rowD r)) (some (.int (m : Nat))) y8) (put S L (.lst ((news ++ [r ++ [m]]).map rowD))))
    (no : ¬ Stp sp s r m → ∀ y8, Dn.nx (tS sp ls K y3 (some s.task) (some (.ref L)) (some (rowD r)) (some (.int (m : Nat))) y8) S) :
    dSeq trX trY Dn (tS sp ls K y3 (some s.task) (some (.ref L)) (some (rowD r)) (some (.int (m : Nat))) y8) S := by
  have sz := szk
  have at1 : ∀ {Q : KD}, Q (.int (s.b : Nat)) S → wAt s.D (.int 1) S Q := fun q => by
    show wAt (.tup [s.task, .int s.b, .int s.e]) (.int 1) S _
    rw [wAt_tup, atI1, onS_some]; exact q
  have at2 : ∀ {Q : KD}, Q (.int (s.e : Nat)) S → wAt s.D (.int 2) S Q := fun q => by
    show wAt (.tup [s.task, .int s.b, .int s.e]) (.int 2) S _
    rw [wAt_tup]; exact q
  refine dSeq_go ?_
  unfold trX
  rw [dAsg_eq, dChain_eq]
  simp only [dBin_eq, dC_eq]
  refine dV_at (by rfl) ?_
  refine dV_at (by rfl) ?_
  rw [wAt_dct eK (fitT (x := s)) (getT nd hs)]
  refine at1 ?_
  refine dV_at (by rfl) ?_
  rw [KB.wLe_int, isB_bl]
  have fin : ∀ b : Bool, (b = true ↔ s.b ≤ m ∧ m ≤ s.e) → trY Dn (tS sp ls K y3 (some s.task) (some (.ref L)) (some (rowD r)) (some (.int (m : Nat))) (some (.bl b))) S := fun b hb => by
    unfold trY
    refine ifS_go ?_
    rw [dAnd_eq]
    refine tst_go ?_
    refine dV_at (by rfl) ?_
    rw [isB_bl]
    cases b with
    | false =>
      rw [if_neg (by decide), if_neg (by decide), dNext_eq]
      exact no (fun z => by have := hb.mpr ⟨z.1, z.2.1⟩; cases this) _
    | true =>
      obtain ⟨b1, b2⟩ := hb.mp rfl
      rw [if_pos rfl, dOr_eq]
      refine tst_go ?_
      rw [dBin_eq]
      refine dV_at (by rfl) ?_
      rw [dTup_eq, dNil_eq]
      refine ⟨by show 0 ≤ sizeLine; omega, ?_⟩
      have rc : (rowD r).cl 20 = true := by
        show D.cls (r.map fun m : Nat => D.int (m : Int)) 19 = true
        exact D.cls_iff.mpr fun d hd => by obtain ⟨q, _, rfl⟩ := List.mem_map.mp hd; rfl
      rw [wEq_of (.cl rc) (.cl rfl), isB_bl]
      have add : Stp sp s r m → dDrop (dBM "list" wAppend (dV 5) (dCons (dBin wAdd (dV 6) (dTup (dCons (dV 7) dNil))) dNil)) Dn (tS sp ls K y3 (some s.task) (some (.ref L)) (some (rowD r)) (some (.int (m : Nat))) (some (.bl true))) S := fun st => by
        rw [dDrop_eq, dBM_eq]
        refine dV_at (by rfl) ?_
        refine ⟨tyD_lst eL, ?_⟩
        rw [dCons_eq, dBin_eq]
        refine dV_at (by rfl) ?_
        rw [dTup_eq, dCons_eq]
        refine dV_at (by rfl) ?_
        rw [dNil_eq]
        refine ⟨by show 1 ≤ sizeLine; omega, ?_⟩
        show wAdd (.tup (r.map fun m : Nat => D.int (m : Int))) (.tup [.int (m : Nat)]) S _
        rw [wAdd_tup]
        refine ⟨by rw [List.length_map]; show _ + 1 ≤ sizeLine; omega, ?_⟩
        rw [dNil_eq, wAppend_lst eL]
        refine ⟨by rw [List.length_map]; omega, ?_⟩
        have := yes st (some (.bl true))
        have e : rowD (r ++ [m]) = .tup ((r.map fun m : Nat => D.int (m : Int)) ++ [.int (m : Nat)]) := by unfold rowD; rw [List.map_append]; rfl
        rw [List.map_append, show ([r ++ [m]].map rowD) = [rowD (r ++ [m])] from rfl, e] at this
        exact this
      by_cases e : r = []
      · rw [if_pos (by subst e; decide), if_pos rfl]
        exact add ⟨b1, b2, .inl e⟩
      · have ne : rowD r ≠ .tup [] := fun z => by
          unfold rowD at z
          rw [D.tup.injEq, List.map_eq_nil_iff] at z
          exact e z
        rw [if_neg (by simpa using ne)]
        refine tst_go ?_
        rw [dBin_eq, dBin_eq]
        refine dV_at (by rfl) ?_
        rw [dUn_eq, dC_eq, wNeg_int]
        refine row_last e ?_
        refine dV_at (by rfl) ?_
        rw [KB.wLe_int, isB_bl]
        by_cases c : r.reverse.headD 0 ≤ m
        · rw [if_pos (decide_eq_true (by omega))]
          exact add ⟨b1, b2, .inr c⟩
        · rw [if_neg (fun z => by have := of_decide_eq_true z; omega), dNext_eq]
          exact no (fun z => z.2.2.elim e c) _
  by_cases c1 : s.b ≤ m
  · rw [if_pos (decide_eq_true (by omega))]
    refine dV_at (by rfl) ?_
    refine dV_at (by rfl) ?_
    rw [wAt_dct eK (fitT (x := s)) (getT nd hs)]
    refine at2 ?_
    rw [KB.wLe_int, gdName_eq]
    exact fin _ (by rw [decide_eq_true_eq]; exact ⟨fun h => ⟨c1, by omega⟩, fun h => by have := h.2; omega⟩)
  · rw [if_neg (fun z => by have := of_decide_eq_true z; omega), gdName_eq]
    exact fin false ⟨fun h => (by cases h), fun h => absurd h.1 c1⟩
end
end K23
namespace K23
open PySem PySem.Spec PyProof.Rows L2 DL KB KN
open K22 (lineD ahead scan lst moms lst_app moms_app momD momsD moms_len sp_moments_by fitT getT wDictT)
section
variable {sp ls : List Spn} {K F L : Addr} {s : Spn} {r : List Nat} {S0 S : Sto} {Dn : DEnds} {y3 y4 y5 y6 y7 y8 : Option D} {news rows : List (List Nat)}
theorem flat_b (sp : List Spn) : (sp.flatMap fun s => [D.int (s.b : Nat)]) = (sp.map fun s => (s.b : Int)).map D.int := by
  induction sp with
  | nil => rfl
  | cons a r ih => rw [List.flatMap_cons, ih]; rfl
theorem flat_k (sp : List Spn) : (sp.flatMap fun s => [D.tup [s.task, s.D]]) = sp.map fun s => D.tup [s.task, s.D] := by
  induction sp with
  | nil => rfl
  | cons a r ih => rw [List.flatMap_cons, ih]; rfl
theorem mom_go {R : List D → (Sto → Prop) → Sto → Prop} (hl : sp.length ≤ 4)
    (k : ∀ (ms : List Int) (p : Addr) S', ms.Pairwise (· < ·) → (∀ m, m ∈ ms ↔ ∃ q ∈ sp, (q.b : Int) = m) → S' p = some (.lst (ms.map D.int)) → S p = none → Grow S S' → R (ms.map D.int) (fun S'' => S'' p = some (.lst (ms.map D.int))) S') : trM (tS sp ls K y3 y4 y5 y6 y7 y8) S R := by
  have sz := szk
  unfold trM dSortedSet
  rw [diVal_eq, dLC_eq, diVal_eq]
  refine dV_at (by rfl) ?_
  show wIterA (.tup (sp.map Spn.D)) S _
  rw [wIter_tup]
  intro M hM
  show loopC _ _ _ _ _ _ (tS sp ls K y3 y4 y5 y6 y7 y8) _ _
  refine DL.lc_map (S := S) (D' := M) (stab := fun _ => True) Spn.D (fun s => [D.int (s.b : Nat)]) sp (fun o => trivial) ?_ (fun s hs acc k2 hacc hk2 => ?_) ?_
  · rw [flat_b, List.length_map, List.length_map]; omega
  · rw [gdName_eq]
    refine ⟨rfl, ?_⟩
    rw [dYes_eq, if_pos rfl, emLst_eq]
    simp only [dBin_eq, dC_eq]
    refine dV_at (by rfl) ?_
    show wAt (.tup [s.task, .int s.b, .int s.e]) (.int 1) _ _
    rw [wAt_tup, atI1, onS_some]
    rw [onL_put, put_put']
    simp only [List.length_singleton] at hacc
    exact ⟨by omega, hk2⟩
  rw [flat_b]
  have e : lstOf (put S M (.lst ((sp.map fun s => (s.b : Int)).map D.int))) (.ref M) = some ((sp.map fun s => (s.b : Int)).map D.int) := by simp [lstOf]
  rw [e, onS_some, intsD_map, onS_some]
  refine ⟨by rw [List.length_map]; omega, fun ms p hp hi hf => ?_⟩
  show wIterA (.ref p) _ R
  rw [wIter_lst put_same]
  have pM : p ≠ M := fun z => by subst z; rw [put_same] at hf; cases hf
  refine k ms p _ hp (fun m => (hi m).trans ⟨fun h => ?_, fun ⟨q, hq, e⟩ => List.mem_map.mpr ⟨q, hq, e⟩⟩) put_same ?_ ?_
  · obtain ⟨q, hq, e⟩ := List.mem_map.mp h; exact ⟨q, hq, e⟩
  · rw [put_ne pM] at hf; exact hf
  · exact (Grow.put hM).trans (Grow.put hf)
def New (sp : List Spn) (s : Spn) (done : List (List Nat)) (x : List Nat) : Prop := ∃ r ∈ done, ∃ m, (∃ q ∈ sp, q.b = m) ∧ Stp sp s r m ∧ x = r ++ [m]
theorem row_go {done : List (List Nat)} (nd : (sp.map Spn.task).Nodup) (hsp : sp.length ≤ 4) (hs : s ∈ sp) (hr : r.length ≤ 10) (hn : news.length ≤ 1900)
    (eF : S F = some (.lst (rows.map rowD))) (eK : S K = some (.dct (sp.map fun s => (s.task, s.D)))) (eL : S L = some (.lst (news.map rowD))) (f0 : S0 L = none) (G : Grow S0 S) (FL : F ≠ L) (KL : K ≠ L) (hx : ∀ x, x ∈ news ↔ New sp s done x)
    (k : ∀ (news' : List (List Nat)) S' y7 y8, S' F = some (.lst (rows.map rowD)) → S' K = some (.dct (sp.map fun s => (s.task, s.D))) → S' L = some (.lst (news'.map rowD)) → Grow S0 S' → (∀ x, x ∈ news' ↔ New sp s (done ++ [r]) x) → news'.length ≤ news.length + 4 →
      Dn.nx (tS sp ls K (some (.ref F)) (some s.task) (some (.ref L)) (some (rowD r)) y7 y8) S') :
    dFor trM (gdName 7) (dSeq trX trY) Dn (tS sp ls K (some (.ref F)) (some s.task) (some (.ref L)) (some (rowD r)) y7 y8) S := by
  rw [dFor_eq]
  refine mom_go hsp fun ms p S1 hp hi ep fp G1 => ?_
  have ml : ms.length ≤ 4 := by
    have := sub_len (ns := sp.map fun s => (s.b : Int)) hp fun m hm => by
      obtain ⟨q, hq, e⟩ := (hi m).mp hm
      exact List.mem_map.mpr ⟨q, hq, e⟩
    rw [List.length_map] at this; omega
  have pL : p ≠ L := fun z => by subst z; rw [eL] at fp; cases fp
  refine loop_map D.int (fun dm τ S' => ∃ (news' : List (List Nat)) (y7 y8 : Option D), τ = tS sp ls K (some (.ref F)) (some s.task) (some (.ref L)) (some (rowD r)) y7 y8 ∧ S' F = some (.lst (rows.map rowD)) ∧ S' K = some (.dct (sp.map fun s => (s.task, s.D))) ∧ S' L = some (.lst (news'.map rowD)) ∧ S' p = some (.lst (ms.map D.int)) ∧ Grow S0 S' ∧
    (∀ x, x ∈ news' ↔ New sp s done x ∨ ∃ m : Nat, (m : Int) ∈ dm ∧ Stp sp s r m ∧ x = r ++ [m]) ∧ news'.length ≤ news.length + dm.length) (fun _ _ _ i => ?_) (fun τ S' i => ?_) (fun dm m rest τ S' es i N hN => ?_) ⟨news, y7, y8, rfl, G1 _ _ eF, G1 _ _ eK, G1 _ _ eL, ep, G.trans G1, fun x => ⟨fun h => .inl ((hx x).mp h), fun h => h.elim (hx x).mpr fun ⟨m, hm, _⟩ => nomatch hm⟩, Nat.le_refl _⟩
  · obtain ⟨_, _, _, _, _, _, _, h, _⟩ := i; exact h
  · obtain ⟨news', y7, y8, rfl, a1, a2, a3, _, a5, a6, a7⟩ := i
    refine k news' S' y7 y8 a1 a2 a3 a5 (fun x => (a6 x).trans ⟨fun h => ?_, fun h => ?_⟩) (by omega)
    · rcases h with ⟨r', hr', h⟩ | ⟨m, hm, h1, h2⟩
      · exact ⟨r', List.mem_append_left _ hr', h⟩
      · obtain ⟨q, hq, e⟩ := (hi m).mp hm
        exact ⟨r, List.mem_append_right _ (List.mem_singleton.mpr rfl), m, ⟨q, hq, by omega⟩, h1, h2⟩
    · obtain ⟨r', hr', m, ⟨q, hq, e⟩, h1, h2⟩ := h
      rcases List.mem_append.mp hr' with h3 | h3
      · exact .inl ⟨r', h3, m, ⟨q, hq, e⟩, h1, h2⟩
      · have e3 := List.mem_singleton.mp h3
        subst e3
        exact .inr ⟨m, (hi m).mpr ⟨q, hq, by omega⟩, h1, h2⟩
  · obtain ⟨news', y7, y8, rfl, a1, a2, a3, a4, a5, a6, a7⟩ := i
    have hm : m ∈ ms := by rw [es]; simp
    obtain ⟨q, hq, e⟩ := (hi m).mp hm
    obtain ⟨n, rfl⟩ : ∃ n : Nat, m = n := ⟨q.b, e.symm⟩
    have dl : dm.length < ms.length := by rw [es]; simp
    rw [gdName_eq]
    show dSeq trX trY _ (tS sp ls K (some (.ref F)) (some s.task) (some (.ref L)) (some (rowD r)) (some (.int (n : Nat))) y8) S'
    refine try_go nd hs a2 a3 (by omega) hr (fun st y8 => ?_) (fun st y8 => ?_)
    · refine hN _ _ ⟨news' ++ [r ++ [n]], _, _, rfl, by rw [put_ne FL]; exact a1, by rw [put_ne KL]; exact a2, put_same, by rw [put_ne pL]; exact a4, fun a o e => ?_, fun x => ⟨fun h => ?_, fun h => ?_⟩, by rw [List.length_append, List.length_append]; show _ + 1 ≤ _ + (_ + 1); omega⟩
      · have : a ≠ L := fun z => by subst z; rw [f0] at e; cases e
        rw [put_ne this]; exact a5 _ _ e
      · rcases List.mem_append.mp h with h | h
        · rcases (a6 x).mp h with h | ⟨m, hm, h⟩
          · exact .inl h
          · exact .inr ⟨m, List.mem_append_left _ hm, h⟩
        · exact .inr ⟨n, List.mem_append_right _ (List.mem_singleton.mpr rfl), st, List.mem_singleton.mp h⟩
      · rcases h with h | ⟨m, hm, h1, h2⟩
        · exact List.mem_append_left _ ((a6 x).mpr (.inl h))
        · rcases List.mem_append.mp hm with hm | hm
          · exact List.mem_append_left _ ((a6 x).mpr (.inr ⟨m, hm, h1, h2⟩))
          · have : m = n := by have := List.mem_singleton.mp hm; omega
            subst this
            exact List.mem_append_right _ (List.mem_singleton.mpr h2)
    · refine hN _ _ ⟨news', _, _, rfl, a1, a2, a3, a4, a5, fun x => (a6 x).trans ⟨fun h => ?_, fun h => ?_⟩, by rw [List.length_append]; omega⟩
      · rcases h with h | ⟨m, hm, h⟩
        · exact .inl h
        · exact .inr ⟨m, List.mem_append_left _ hm, h⟩
      · rcases h with h | ⟨m, hm, h1, h2⟩
        · exact .inl h
        · rcases List.mem_append.mp hm with hm | hm
          · exact .inr ⟨m, hm, h1, h2⟩
          · have : m = n := by have := List.mem_singleton.mp hm; omega
            subst this
            exact absurd h1 st
end
theorem vc__law_tried {ds S Q E} (h : sp__law_tried ds S Q E) : r__law_tried (bodyEnds Q) (startD N__law_tried ds) S := by
  have sz := szk
  obtain ⟨sp, ls, rfl, nd, hsp, hls, hin, k⟩ := h
  show r__law_tried _ [some (spansD sp), some (lineD ls), none, none, none, none, none, none, none, none] S
  unfold r__law_tried
  refine dSeq_go ?_
  unfold tr0
  rw [dAsg_eq, dCB_eq, dCons_eq, dLC_eq, diVal_eq]
  refine dV_at (by rfl) ?_
  show wIterA (.tup (sp.map Spn.D)) S _
  rw [wIter_tup]
  intro M hM
  show loopC _ _ _ _ _ _ [some (spansD sp), some (lineD ls), none, none, none, none, none, none, none, none] _ _
  refine DL.lc_map (S := S) (D' := M) (stab := fun _ => True) Spn.D (fun s => [D.tup [s.task, s.D]]) sp (fun o => trivial) ?_ (fun s hs acc k2 hacc hk2 => ?_) ?_
  · rw [flat_k, List.length_map]; omega
  · rw [gdName_eq]
    refine ⟨rfl, ?_⟩
    rw [dYes_eq, if_pos rfl, emLst_eq, dTup_eq, dCons_eq]
    simp only [dBin_eq, dC_eq]
    refine dV_at (by rfl) ?_
    show wAt (.tup [s.task, .int s.b, .int s.e]) (.int 0) _ _
    rw [wAt_tup, atI0, onS_some, dCons_eq]
    refine dV_at (by rfl) ?_
    rw [dNil_eq]
    refine ⟨by show 2 ≤ sizeLine; omega, ?_⟩
    rw [onL_put, put_put']
    simp only [List.length_singleton] at hacc
    exact ⟨by omega, hk2⟩
  rw [flat_k, dNil_eq]
  refine wDictT (sp := sp) (v := Spn.D) (by simp [seqOf]) nd fun K hK => ?_
  have KM : M ≠ K := ne_of_free hK put_same
  have G1 : Grow S (put (put S M (.lst (sp.map fun s => D.tup [s.task, s.D]))) K (.dct (sp.map fun p => (p.task, p.D)))) := (Grow.put hM).trans (Grow.put hK)
  have eK1 : put (put S M (.lst (sp.map fun s => D.tup [s.task, s.D]))) K (.dct (sp.map fun p => (p.task, p.D))) K = some (.dct (sp.map fun p => (p.task, p.D))) := put_same
  generalize put (put S M (.lst (sp.map fun s => D.tup [s.task, s.D]))) K (.dct (sp.map fun p => (p.task, p.D))) = S1 at *
  simp only [gdName_eq]
  refine dSeq_go ?_
  show tr1 _ (tS sp ls K none none none none none none) S1
  unfold tr1
  rw [dAsg_eq, dLst_eq, dCons_eq, dTup_eq, dNil_eq]
  refine ⟨by show 0 ≤ sizeLine; omega, ?_⟩
  rw [dNil_eq]
  refine ⟨by show 1 ≤ sizeLine; omega, fun F hF => ?_⟩
  have G2 := G1.trans (Grow.put (o := .lst [D.tup []]) hF)
  have eK2 := (Grow.put (o := .lst [D.tup []]) hF) _ _ eK1
  have eF2 : put S1 F (.lst [D.tup []]) F = some (.lst (([[]] : List (List Nat)).map rowD)) := put_same
  generalize put S1 F (.lst [D.tup []]) = S2 at *
  simp only [gdName_eq]
  refine dSeq_go ?_
  show tr2 _ (tS sp ls K (some (.ref F)) none none none none none) S2
  unfold tr2
  rw [dFor_eq, diVal_eq]
  refine dV_at (by rfl) ?_
  show wIterA (.tup (ls.map Spn.task)) S2 _
  rw [wIter_tup]
  refine loop_map Spn.task (fun done τ S' => ∃ (F : Addr) (rows : List (List Nat)) (y4 y5 y6 y7 y8 : Option D), τ = tS sp ls K (some (.ref F)) y4 y5 y6 y7 y8 ∧ S' F = some (.lst (rows.map rowD)) ∧ S' K = some (.dct (sp.map fun s => (s.task, s.D))) ∧ Grow S S' ∧ RowsOk sp done rows) (fun _ _ _ _ => trivial) (fun τ S' i => ?_) (fun done s rest τ S' es i N hN => ?_) ⟨F, [[]], none, none, none, none, none, rfl, eF2, eK2, G2, ⟨fun r => by rw [good_nil, List.mem_singleton], Nat.le_refl _⟩⟩
  · obtain ⟨F, rows, y4, y5, y6, y7, y8, rfl, eF, _, G, ok⟩ := i
    show tr3 (bodyEnds Q) (tS sp ls K (some (.ref F)) y4 y5 y6 y7 y8) S'
    unfold tr3
    rw [dRet_eq]
    refine dV_at (by rfl) ?_
    exact k F rows S' eF G ok
  · obtain ⟨F, rows, y4, y5, y6, y7, y8, rfl, eF, eK, G, ok⟩ := i
    have hs : s ∈ sp := hin s (by rw [es]; simp)
    have dl : done.length < 4 := by
      have := congrArg List.length es
      rw [List.length_append, List.length_cons] at this; omega
    have rl : ∀ r ∈ rows, r.length ≤ 10 := fun r hr => by
      have := (good_ge done r ((ok.iff r).mp hr)).1; omega
    have rb : rows.length ≤ 64 := Nat.le_trans ok.len (Nat.pow_le_pow_right (n := 4) (by decide) (show done.length ≤ 3 by omega))
    simp only [gdName_eq]
    refine dSeq_go ?_
    show trA _ (tS sp ls K (some (.ref F)) (some s.task) y5 y6 y7 y8) S'
    unfold trA
    rw [dAsg_eq, dLst_eq, dNil_eq]
    refine ⟨by show 0 ≤ sizeLine; omega, fun L hL => ?_⟩
    have FL : F ≠ L := ne_of_free hL eF
    have KL : K ≠ L := ne_of_free hL eK
    have f0 : S L = none := G.free hL
    have G3 := G.trans (Grow.put (o := .lst []) hL)
    have eF3 := (Grow.put (o := .lst []) hL) _ _ eF
    have eK3 := (Grow.put (o := .lst []) hL) _ _ eK
    have eL3 : put S' L (.lst []) L = some (.lst (([] : List (List Nat)).map rowD)) := put_same
    generalize put S' L (.lst []) = S3 at *
    simp only [gdName_eq]
    refine dSeq_go ?_
    show trB _ (tS sp ls K (some (.ref F)) (some s.task) (some (.ref L)) y6 y7 y8) S3
    unfold trB
    rw [dFor_eq, diVal_eq]
    refine dV_at (by rfl) ?_
    rw [wIter_lst eF3]
    refine loop_map rowD (fun dr τ S4 => ∃ (news : List (List Nat)) (y6 y7 y8 : Option D), τ = tS sp ls K (some (.ref F)) (some s.task) (some (.ref L)) y6 y7 y8 ∧ S4 F = some (.lst (rows.map rowD)) ∧ S4 K = some (.dct (sp.map fun s => (s.task, s.D))) ∧ S4 L = some (.lst (news.map rowD)) ∧ Grow S S4 ∧ (∀ x, x ∈ news ↔ New sp s dr x) ∧ news.length ≤ 4 * dr.length) (fun _ _ _ i => ?_) (fun τ S4 i => ?_) (fun dr r rest2 τ S4 es2 i N2 hN2 => ?_) ⟨[], y6, y7, y8, rfl, eF3, eK3, eL3, G3, fun x => ⟨fun h => (nomatch h), fun ⟨_, h, _⟩ => (nomatch h)⟩, Nat.le_refl _⟩
    · obtain ⟨_, _, _, _, _, h, _⟩ := i; exact h
    · obtain ⟨news, y6, y7, y8, rfl, _, eK4, eL4, G4, hx, hlen⟩ := i
      show trC { nx := N, rt := (bodyEnds Q).rt, bk := tr3 (bodyEnds Q), ct := N } (tS sp ls K (some (.ref F)) (some s.task) (some (.ref L)) y6 y7 y8) S4
      unfold trC
      rw [dAsg_eq]
      refine dV_at (by rfl) ?_
      rw [gdName_eq]
      refine hN _ _ ⟨L, news, _, _, _, _, _, rfl, eL4, eK4, G4, ⟨fun x => (hx x).trans ⟨fun h => ?_, fun h => ?_⟩, ?_⟩⟩
      · obtain ⟨r, hr, m, hq, ⟨h1, h2, h3⟩, e⟩ := h
        exact good_snoc.mpr ⟨r, m, e, (ok.iff r).mp hr, hq, h1, h2, h3⟩
      · obtain ⟨r, m, e, hg, hq, h1, h2, h3⟩ := good_snoc.mp h
        exact ⟨r, (ok.iff r).mpr hg, m, hq, ⟨h1, h2, h3⟩, e⟩
      · rw [List.length_append, List.length_singleton, Nat.pow_succ]
        have := ok.len
        omega
    · obtain ⟨news, y6, y7, y8, rfl, eF4, eK4, eL4, G4, hx, hlen⟩ := i
      have hr : r ∈ rows := by rw [es2]; simp
      have dl2 : dr.length < rows.length := by rw [es2]; simp
      simp only [gdName_eq]
      show dFor trM (gdName 7) (dSeq trX trY) _ (tS sp ls K (some (.ref F)) (some s.task) (some (.ref L)) (some (rowD r)) y7 y8) S4
      refine row_go nd hsp hs (rl r hr) (by omega) eF4 eK4 eL4 f0 G4 FL KL hx fun news' S5 y7 y8 a1 a2 a3 a4 a5 a6 => hN2 _ _ ⟨news', _, _, _, rfl, a1, a2, a3, a4, a5, ?_⟩
      rw [List.length_append, List.length_singleton]; omega
end K23
namespace K23
open PySem PySem.Spec PyProof.Rows L2 DL KB KN
open K22 (lineD ahead scan lst moms lst_app moms_app momD momsD moms_len sp_moments_by fitT getT wDictT moms_Th sml_of Sml)
def lw0 : DTS := dAsg (dCall sp__law_source [] (dCons (dV 0) dNil)) (gdName 1)
def lw1 : DTS := dAsg (dCall sp__law_scene [] (dCons (dV 1) dNil)) (gdTup 3 (gdCons (gdName 4) (gdCons (gdName 5) (gdCons (gdName 6) gdNil))))
def lw2 : DTS := dAsg (dCall (pur sp__law_few) [] (dCons (dV 6) dNil)) (gdName 2)
def lwI : DTI := diVal (dCall sp__law_lines [] (dCons (dLC (diVal (dV 2) wIterA) (gdName 11) dYes [11] [11] [] (dBin wAt (dV 11) (dC (.int 0)))) dNil)) wIterA
def bA : DTS := dPar 7 8 (dCons (dCall (pur sp__law_said) [] (dCons (dV 2) (dCons (dV 3) dNil))) (dCons (dCall sp__law_tried [] (dCons (dV 2) (dCons (dV 3) dNil))) dNil))
def bB : DTS := dIfS (dOr (dTst (dBin wNe (dBin wIsN (dV 7) (dC .non)) (dBin wEq (dV 8) (dLst dNil)))) (dTst (dBin wNe (dBin wNe (dV 8) (dLst dNil)) (dCall (pur sp__law_fits) [] (dCons (dV 2) (dCons (dV 3) dNil)))))) (dRet (dC (.bl false))) dNext
def cA : DTS := dAsg (dLst dNil) (gdName 9)
def cX : DTS := dDrop (dBM "list" wAppend (dV 9) (dCons (dCB wMin (dCons (dLC (diVal (dV 8) wIterA) (gdName 11) dYes [11] [11] [] (dBin wAt (dV 11) (dV 10))) dNil)) dNil))
def cB : DTS := dFor (diRng1 (dCons (dCB wLen (dCons (dV 3) dNil)) dNil)) (gdName 10) cX
def cC : DTS := dIfS (dTst (dBin wNe (dCB wReprA (dCons (dV 7) dNil)) (dCB wReprA (dCons (dCB wTuple (dCons (dLstZip (dCons (dV 3) (dCons (dV 9) dNil))) dNil)) dNil)))) (dRet (dC (.bl false))) dNext
def bC : DTS := dIfS (dTst (dBin wNotN (dV 7) (dC .non))) (dSeq cA (dSeq cB cC)) dNext
def lw3 : DTS := dFor lwI (gdName 3) (dSeq bA (dSeq bB bC))
def lw4 : DTS := dRet (dC (.bl true))
def r_law : DTS := dSeq lw0 (dSeq lw1 (dSeq lw2 (dSeq lw3 lw4)))
abbrev N_law : List Str := ["_law_script", "_law_source_here", "_law_spans_here", "_law_line", "_law_tree_here", "_law_hands_here", "_law_whole", "_law_told", "_law_tried_here", "_law_least", "_law_k", "_law_row"]
def sp_law : DSp := fun ds S Q E => ∃ ns : List Int, ds = [.fz (ns.map D.int)] ∧ ∀ S', Q (.bl true) S'
theorem len_law : ∀ ds S Q E, sp_law ds S Q E → ds.length = (["_law_script"] : List Str).length := fun _ _ _ _ ⟨_, e, _⟩ => by rw [e]; rfl
theorem wNe_bls {a b : Bool} {S : Sto} {Q : KD} (q : Q (.bl (!decide (a = b))) S) : wNe (.bl a) (.bl b) S Q := by
  cases a <;> cases b <;> exact ⟨rfl, rfl, q⟩
theorem zip_moms : ∀ {ls : List Spn} {m : Nat}, zipT (ls.map Spn.task) (((moms m ls).map (·.2)).map fun n : Nat => D.int (n : Int)) = (moms m ls).map momD
  | [], _ => rfl
  | s :: r, m => by
    rw [moms]
    show _ :: zipT (r.map Spn.task) _ = _
    rw [zip_moms]; rfl
theorem flat_r (rows : List (List Nat)) (k : Nat) : (rows.flatMap fun r => [D.int (r.getD k 0 : Nat)]) = (rows.map fun r => ((r.getD k 0 : Nat) : Int)).map D.int := by
  induction rows with
  | nil => rfl
  | cons a r ih => rw [List.flatMap_cons, ih]; rfl
theorem flat_t (sp : List Spn) : (sp.flatMap fun s => [s.task]) = sp.map Spn.task := by
  induction sp with
  | nil => rfl
  | cons a r ih => rw [List.flatMap_cons, ih]; rfl
abbrev gS (ns : List Int) (f : Addr) (sp l : List Spn) (y4 y5 y6 y7 y8 y9 y10 : Option D) : DSt := [some (.fz (ns.map D.int)), some (.ref f), some (spansD sp), some (lineD l), y4, y5, y6, y7, y8, y9, y10, none]
section
variable {ns : List Int} {f F Z : Addr} {sp l : List Spn} {rows : List (List Nat)} {S S0 : Sto} {Dn : DEnds} {y4 y5 y6 y7 y8 y9 y10 : Option D} {k : Nat}
theorem rows_nil (ok : RowsOk sp l rows) (hin : ∀ s ∈ l, s ∈ sp) (be : ∀ s ∈ sp, s.b ≤ s.e) : (rows = []) ↔ fitB l = false := by
  constructor
  · intro h
    cases e : fitB l with
    | false => rfl
    | true =>
      have := (ok.iff _).mpr (gr_good be l hin e).1
      rw [h] at this; cases this
  · intro h
    cases rows with
    | nil => rfl
    | cons r rs =>
      have := (good_ge l r ((ok.iff r).mp (List.mem_cons_self ..))).2.1
      rw [h] at this; cases this
theorem row_cl (r : List Nat) (n : Nat) : (rowD r).cl (n + 2) = true := by
  show D.cls (r.map fun m : Nat => D.int (m : Int)) (n + 1) = true
  exact D.cls_iff.mpr fun d hd => by obtain ⟨q, _, rfl⟩ := List.mem_map.mp hd; rfl
theorem rows_len (ok : RowsOk sp l rows) (hl : l.length ≤ 4) : rows.length ≤ 256 := Nat.le_trans ok.len (Nat.pow_le_pow_right (n := 4) (by decide) hl)
theorem bB_go (nd : (sp.map Spn.task).Nodup) (hsp : sp.length ≤ 4) (hl : l.length ≤ 4) (hin : ∀ s ∈ l, s ∈ sp) (be : ∀ s ∈ sp, s.b ≤ s.e) (ok : RowsOk sp l rows) (eF : S F = some (.lst (rows.map rowD)))
    (k : ∀ S', Grow S S' → Dn.nx (gS ns f sp l y4 y5 y6 (some (ansS l)) (some (.ref F)) y9 y10) S') : bB Dn (gS ns f sp l y4 y5 y6 (some (ansS l)) (some (.ref F)) y9 y10) S := by
  have sz := szk
  have rn := rows_nil ok hin be
  have cl : ∀ d ∈ rows.map rowD, d.cl 19 = true := fun d hd => by
    obtain ⟨r, _, rfl⟩ := List.mem_map.mp hd; exact row_cl r 17
  have fe : decide (D.fz (rows.map rowD) = D.fz []) = !fitB l := by
    cases h : fitB l with
    | false => rw [rn.mpr h]; rfl
    | true =>
      refine decide_eq_false fun z => ?_
      rw [D.fz.injEq, List.map_eq_nil_iff] at z
      rw [rn.mp z] at h; cases h
  have ae : decide (ansS l = .non) = !fitB l := by
    unfold ansS
    cases fitB l with
    | false => rfl
    | true => rfl
  unfold bB
  refine ifS_go ?_
  rw [dOr_eq]
  refine tst_go ?_
  rw [dBin_eq, dBin_eq]
  refine dV_at (by rfl) ?_
  rw [dC_eq, wIsN_eq, dBin_eq]
  refine dV_at (by rfl) ?_
  rw [dLst_eq, dNil_eq]
  refine ⟨by show 0 ≤ sizeLine; omega, fun p hp => ?_⟩
  have G1 := Grow.put (S := S) (o := .lst []) hp
  rw [wEq_of (.lst (G1 _ _ eF) cl) (.lst put_same (by simp)), fe, ae]
  refine wNe_bls ?_
  rw [isB_bl, if_neg (by simp)]
  have eF1 := G1 _ _ eF
  generalize put S p (.lst []) = S1 at *
  refine tst_go ?_
  rw [dBin_eq, dBin_eq]
  refine dV_at (by rfl) ?_
  rw [dLst_eq, dNil_eq]
  refine ⟨by show 0 ≤ sizeLine; omega, fun p2 hp2 => ?_⟩
  have G2 := Grow.put (S := S1) (o := .lst []) hp2
  rw [wNe_of (.lst (G2 _ _ eF1) cl) (.lst put_same (by simp)), fe, dCall_eq, dCons_eq]
  refine dV_at (by rfl) ?_
  rw [dCons_eq]
  refine dV_at (by rfl) ?_
  rw [dNil_eq, List.append_nil]
  refine ⟨sp, l, rfl, nd, by omega, by omega, hin, fun _ => ?_⟩
  refine wNe_bls ?_
  rw [isB_bl, if_neg (by simp), dNext_eq]
  exact k _ (G1.trans G2)
theorem cB_go (hl : l.length ≤ 4) (hin : ∀ s ∈ l, s ∈ sp) (be : ∀ s ∈ sp, s.b ≤ s.e) (ok : RowsOk sp l rows) (fit : fitB l = true) (eF : S F = some (.lst (rows.map rowD))) (eZ : S Z = some (.lst [])) (FZ : F ≠ Z) (z0 : S0 Z = none) (G : Grow S0 S)
    (k : ∀ S' y10, S' Z = some (.lst ((gr l).map fun n : Nat => D.int (n : Int))) → Grow S0 S' → Dn.nx (gS ns f sp l y4 y5 y6 y7 (some (.ref F)) (some (.ref Z)) y10) S') : cB Dn (gS ns f sp l y4 y5 y6 y7 (some (.ref F)) (some (.ref Z)) y10) S := by
  have sz := szk
  have rl := rows_len ok hl
  have gl := gr_len (ls := l)
  unfold cB
  rw [dFor_eq, diRng1_eq, dCons_eq, dCB_eq, dCons_eq]
  refine dV_at (by rfl) ?_
  rw [dNil_eq]
  show wLen [.tup (l.map Spn.task)] S _
  rw [wLen_tup, List.length_map, dNil_eq]
  refine ⟨by omega, by omega, ?_⟩
  rw [show ((l.length : Int)).toNat = l.length by omega, rngD_map]
  refine loop_map (fun i : Nat => D.int (i : Int)) (fun done τ S' => ∃ y10, τ = gS ns f sp l y4 y5 y6 y7 (some (.ref F)) (some (.ref Z)) y10 ∧ S' F = some (.lst (rows.map rowD)) ∧ S' Z = some (.lst (((gr l).take done.length).map fun n : Nat => D.int (n : Int))) ∧ Grow S0 S') (fun _ _ _ _ => trivial) (fun τ S' i => ?_) (fun done x rest τ S' es i N hN => ?_) ⟨y10, rfl, eF, eZ, G⟩
  · obtain ⟨y10, rfl, _, eZ, G⟩ := i
    rw [List.length_range, ← gl, List.take_length] at eZ
    exact k S' y10 eZ G
  · obtain ⟨y10, rfl, eF, eZ, G⟩ := i
    have hx : x = done.length ∧ done.length < l.length := by
      have h1 : (List.range l.length)[done.length]? = some x := by rw [es, List.getElem?_append_right (Nat.le_refl _), Nat.sub_self]; rfl
      have h2 : done.length < l.length := by
        have := congrArg List.length es
        rw [List.length_range, List.length_append, List.length_cons] at this; omega
      rw [List.getElem?_range h2] at h1
      cases h1
      exact ⟨rfl, h2⟩
    obtain ⟨ex, hd⟩ := hx
    subst ex
    rw [gdName_eq]
    show cX _ (gS ns f sp l y4 y5 y6 y7 (some (.ref F)) (some (.ref Z)) (some (.int (done.length : Nat)))) S'
    unfold cX
    rw [dDrop_eq, dBM_eq]
    refine dV_at (by rfl) ?_
    refine ⟨tyD_lst eZ, ?_⟩
    rw [dCons_eq, dCB_eq, dCons_eq, dLC_eq, diVal_eq]
    refine dV_at (by rfl) ?_
    rw [wIter_lst eF]
    intro M hM
    have FM : F ≠ M := ne_of_free hM eF
    have ZM : Z ≠ M := ne_of_free hM eZ
    show loopC _ _ _ _ _ _ (gS ns f sp l y4 y5 y6 y7 (some (.ref F)) (some (.ref Z)) (some (.int (done.length : Nat)))) _ _
    refine DL.lc_map (S := S') (D' := M) (stab := fun S'' => S'' F = some (.lst (rows.map rowD))) rowD (fun r => [D.int (r.getD done.length 0 : Nat)]) rows (fun o => by rw [put_ne FM]; exact eF) ?_ (fun r hr acc k2 hacc hk2 => ?_) ?_
    · rw [flat_r, List.length_map, List.length_map]; omega
    · have hrl := (good_ge l r ((ok.iff r).mp hr)).1
      rw [gdName_eq]
      refine ⟨rfl, ?_⟩
      rw [dYes_eq, if_pos rfl, emLst_eq]
      simp only [dBin_eq]
      refine dV_at (by rfl) ?_
      refine dV_at (by rfl) ?_
      have lt : done.length < (r.map fun m : Nat => D.int (m : Int)).length := by rw [List.length_map, hrl]; exact hd
      show wAt (.tup (r.map fun m : Nat => D.int (m : Int))) (.int (done.length : Nat)) _ _
      rw [wAt_tup, atI_nat lt, List.getElem_map, onS_some]
      have e : r.getD done.length 0 = r[done.length]'(by rw [hrl]; exact hd) := by
        rw [List.getD_eq_getElem?_getD, List.getElem?_eq_getElem (by rw [hrl]; exact hd)]; rfl
      rw [onL_put, put_put']
      rw [e] at hk2
      simp only [List.length_singleton] at hacc
      exact ⟨by omega, hk2⟩
    rw [flat_r, dNil_eq]
    have e : lstOf (put S' M (.lst ((rows.map fun r => ((r.getD done.length 0 : Nat) : Int)).map D.int))) (.ref M) = some ((rows.map fun r => ((r.getD done.length 0 : Nat) : Int)).map D.int) := by simp [lstOf]
    have wm : ∀ {S : Sto} {Q : KD}, wMin [.ref M] S Q = DL.onS (lstOf S (.ref M)) fun ds => DL.onS (intsD ds) fun ns => ns ≠ [] ∧ Q (.int (minI ns)) S := rfl
    rw [wm, e, onS_some, intsD_map, onS_some]
    have gg := (gr_good be l hin fit).1
    have gin := (ok.iff _).mpr gg
    have gd : (gr l).getD done.length 0 = (gr l)[done.length]'(by rw [gl]; exact hd) := by
      rw [List.getD_eq_getElem?_getD, List.getElem?_eq_getElem (by rw [gl]; exact hd)]; rfl
    have mi : (((gr l).getD done.length 0 : Nat) : Int) = minI (rows.map fun r => ((r.getD done.length 0 : Nat) : Int)) := minI_uniq (List.mem_map.mpr ⟨gr l, gin, rfl⟩) fun y hy => by
      obtain ⟨r, hr, rfl⟩ := List.mem_map.mp hy
      have := (good_ge l r ((ok.iff r).mp hr)).2.2.2 done.length hd
      omega
    rw [← mi]
    refine ⟨fun z => ?_, ?_⟩
    · rw [List.map_eq_nil_iff] at z
      rw [z] at gin; cases gin
    rw [dNil_eq]
    have eZ2 : put S' M (.lst ((rows.map fun r => ((r.getD done.length 0 : Nat) : Int)).map D.int)) Z = some (.lst (((gr l).take done.length).map fun n : Nat => D.int (n : Int))) := by rw [put_ne ZM]; exact eZ
    rw [wAppend_lst eZ2]
    refine ⟨by rw [List.length_map, List.length_take]; omega, hN _ _ ⟨_, rfl, by rw [put_ne FZ, put_ne FM]; exact eF, ?_, fun a o e => ?_⟩⟩
    · rw [put_same, show (done ++ [done.length]).length = done.length + 1 by rw [List.length_append]; rfl, List.take_succ_eq_append_getElem (by rw [gl]; exact hd), List.map_append, ← gd]
      rfl
    · have aZ : a ≠ Z := fun z => by subst z; rw [z0] at e; cases e
      rw [put_ne aZ]
      exact (Grow.put hM) _ _ (G _ _ e)
theorem line_go (nd : (sp.map Spn.task).Nodup) (hsp : sp.length ≤ 4) (hl : l.length ≤ 4) (hin : ∀ s ∈ l, s ∈ sp) (be : ∀ s ∈ sp, s.b ≤ s.e) (sm : ∀ s ∈ sp, Sml s)
    (k : ∀ S' y7 y8 y9 y10, Grow S S' → Dn.nx (gS ns f sp l y4 y5 y6 y7 y8 y9 y10) S') : dSeq bA (dSeq bB bC) Dn (gS ns f sp l y4 y5 y6 y7 y8 y9 y10) S := by
  have sz := szk
  refine dSeq_go ?_
  unfold bA
  rw [dPar_eq, dCons_eq, dCall_eq, dCons_eq]
  refine dV_at (by rfl) ?_
  rw [dCons_eq]
  refine dV_at (by rfl) ?_
  rw [dNil_eq, List.append_nil]
  refine ⟨sp, l, rfl, nd, by omega, by omega, hin, fun _ => ?_⟩
  simp only [dCons_eq, dCall_eq]
  refine dV_at (by rfl) ?_
  refine dV_at (by rfl) ?_
  rw [dNil_eq, List.append_nil]
  refine ⟨sp, l, rfl, nd, hsp, hl, hin, fun F rows S1 eF G1 ok => ?_⟩
  simp only [dNil_eq]
  refine dSeq_go ?_
  show bB _ (gS ns f sp l y4 y5 y6 (some (ansS l)) (some (.ref F)) y9 y10) S1
  refine bB_go nd hsp hl hin be ok eF fun S2 G2 => ?_
  have eF2 := G2 _ _ eF
  have G12 := G1.trans G2
  show bC _ (gS ns f sp l y4 y5 y6 (some (ansS l)) (some (.ref F)) y9 y10) S2
  unfold bC
  refine ifS_go ?_
  refine tst_go ?_
  rw [dBin_eq]
  refine dV_at (by rfl) ?_
  rw [dC_eq, wNotN_eq, isB_bl]
  by_cases fit : fitB l = true
  · have ea : ansS l = momsD l := by unfold ansS; rw [if_pos fit]
    rw [ea, if_pos (by rfl)]
    refine dSeq_go ?_
    unfold cA
    rw [dAsg_eq, dLst_eq, dNil_eq]
    refine ⟨by show 0 ≤ sizeLine; omega, fun Z hZ => ?_⟩
    have FZ : F ≠ Z := ne_of_free hZ eF2
    have G3 := G12.trans (Grow.put (o := .lst []) hZ)
    have eF3 := (Grow.put (o := .lst []) hZ) _ _ eF2
    have eZ3 : put S2 Z (.lst []) Z = some (.lst []) := put_same
    have z0 : S Z = none := G12.free hZ
    generalize put S2 Z (.lst []) = S3 at *
    simp only [gdName_eq]
    refine dSeq_go ?_
    show cB _ (gS ns f sp l y4 y5 y6 (some (momsD l)) (some (.ref F)) (some (.ref Z)) y10) S3
    refine cB_go hl hin be ok fit eF3 eZ3 FZ z0 G3 fun S4 y10 eZ4 G4 => ?_
    show cC Dn (gS ns f sp l y4 y5 y6 (some (momsD l)) (some (.ref F)) (some (.ref Z)) y10) S4
    have th := moms_Th (ls := l) (fun s hs => sm s (hin s hs)) (by omega)
    unfold cC
    refine ifS_go ?_
    refine tst_go ?_
    rw [dBin_eq, dCB_eq, dCons_eq]
    refine dV_at (by rfl) ?_
    rw [dNil_eq, th.repr (by decide) (by decide) (by decide), dCB_eq, dCons_eq, dCB_eq, dCons_eq, dLstZip_eq, dCons_eq]
    refine dV_at (by rfl) ?_
    rw [dCons_eq]
    refine dV_at (by rfl) ?_
    rw [dNil_eq]
    show DL.onL S4 Z _
    rw [onL_eq eZ4]
    intro p hp
    rw [dNil_eq, wTuple_lst put_same, dNil_eq]
    have ez : zipT (l.map Spn.task) ((gr l).map fun n : Nat => D.int (n : Int)) = (moms 0 l).map momD := zip_moms
    rw [ez, show D.tup ((moms 0 l).map momD) = momsD l from rfl, th.repr (by decide) (by decide) (by decide), wNe_str, isB_bl, if_neg (by simp), dNext_eq]
    exact k _ _ _ _ _ (G4.trans (Grow.put hp))
  · have ea : ansS l = .non := by unfold ansS; rw [if_neg fit]
    rw [ea, if_neg (by decide), dNext_eq]
    exact k S2 _ _ _ _ G12
end
theorem vc_law {ds S Q E} (h : sp_law ds S Q E) : r_law (bodyEnds Q) (startD N_law ds) S := by
  have sz := szk
  obtain ⟨ns, rfl, k⟩ := h
  show r_law _ [some (.fz (ns.map D.int)), none, none, none, none, none, none, none, none, none, none, none] S
  unfold r_law
  refine dSeq_go ?_
  unfold lw0
  simp only [dAsg_eq, dCall_eq, dCons_eq, dNil_eq, List.append_nil]
  refine dV_at (by rfl) ?_
  refine ⟨ns, rfl, fun f S1 F1 _ _ => ?_⟩
  simp only [gdName_eq]
  refine dSeq_go ?_
  show lw1 _ [some (.fz (ns.map D.int)), some (.ref f), none, none, none, none, none, none, none, none, none, none] S1
  unfold lw1
  simp only [dAsg_eq, dCall_eq, dCons_eq, dNil_eq, List.append_nil]
  refine dV_at (by rfl) ?_
  refine ⟨f, 0, rfl, by decide, F1, fun rows made hs sp S2 _ H O F2 _ => ?_⟩
  refine ⟨rfl, rfl, ?_⟩
  refine dSeq_go ?_
  show lw2 _ [some (.fz (ns.map D.int)), some (.ref f), none, none, some (treeD rows made), some (handsD hs), some (spansD sp), none, none, none, none, none] S2
  unfold lw2
  simp only [dAsg_eq, dCall_eq, dCons_eq, dNil_eq, List.append_nil]
  refine dV_at (by rfl) ?_
  refine ⟨sp, rfl, fun _ => ?_⟩
  simp only [gdName_eq]
  have fsub : ∀ s ∈ sp.take 4, s ∈ sp := fun s h => List.mem_of_mem_take h
  have nd : ((sp.take 4).map Spn.task).Nodup := by rw [List.map_take]; exact (K22.SpOk.keys O).sublist (List.take_sublist _ _)
  have f4 : (sp.take 4).length ≤ 4 := by rw [List.length_take]; omega
  have be : ∀ s ∈ sp.take 4, s.b ≤ s.e := fun s h => (O.be s (fsub s h)).1
  have sm : ∀ s ∈ sp.take 4, Sml s := fun s h => sml_of H O s (fsub s h)
  generalize sp.take 4 = few at *
  refine dSeq_go ?_
  show lw3 _ [some (.fz (ns.map D.int)), some (.ref f), some (spansD few), none, some (treeD rows made), some (handsD hs), some (spansD sp), none, none, none, none, none] S2
  unfold lw3 lwI
  rw [dFor_eq, diVal_eq, dCall_eq, dCons_eq, dLC_eq, diVal_eq]
  refine dV_at (by rfl) ?_
  show wIterA (.tup (few.map Spn.D)) S2 _
  rw [wIter_tup]
  intro M hM
  show loopC _ _ _ _ _ _ [some (.fz (ns.map D.int)), some (.ref f), some (spansD few), none, some (treeD rows made), some (handsD hs), some (spansD sp), none, none, none, none, none] _ _
  refine DL.lc_map (S := S2) (D' := M) (stab := fun _ => True) Spn.D (fun s => [s.task]) few (fun o => trivial) ?_ (fun s hs acc k2 hacc hk2 => ?_) ?_
  · rw [flat_t, List.length_map]; omega
  · rw [gdName_eq]
    refine ⟨rfl, ?_⟩
    rw [dYes_eq, if_pos rfl, emLst_eq]
    simp only [dBin_eq, dC_eq]
    refine dV_at (by rfl) ?_
    show wAt (.tup [s.task, .int s.b, .int s.e]) (.int 0) _ _
    rw [wAt_tup, atI0, onS_some, onL_put, put_put']
    simp only [List.length_singleton] at hacc
    exact ⟨by omega, hk2⟩
  rw [flat_t, dNil_eq, List.append_nil]
  refine ⟨M, few, rfl, put_same, nd, f4, fun L lines S3 eL _ G3 _ perm => ?_⟩
  show wIterA (.ref L) S3 _
  rw [wIter_lst eL]
  refine loop_map lineD (fun done τ S' => S' L = some (.lst (lines.map lineD)) ∧ ∃ y3 y7 y8 y9 y10, τ = [some (.fz (ns.map D.int)), some (.ref f), some (spansD few), y3, some (treeD rows made), some (handsD hs), some (spansD sp), y7, y8, y9, y10, none]) (fun _ _ _ i => i.1) (fun τ S' i => ?_) (fun done l rest τ S' es i N hN => ?_) ⟨eL, none, none, none, none, none, rfl⟩
  · obtain ⟨_, y3, y7, y8, y9, y10, rfl⟩ := i
    show lw4 (bodyEnds Q) [some (.fz (ns.map D.int)), some (.ref f), some (spansD few), y3, some (treeD rows made), some (handsD hs), some (spansD sp), y7, y8, y9, y10, none] S'
    unfold lw4
    rw [dRet_eq, dC_eq]
    exact k S'
  · obtain ⟨eL', y3, y7, y8, y9, y10, rfl⟩ := i
    have pm := perm l (by rw [es]; simp)
    rw [gdName_eq]
    show dSeq bA (dSeq bB bC) _ (gS ns f few l (some (treeD rows made)) (some (handsD hs)) (some (spansD sp)) y7 y8 y9 y10) S'
    exact line_go nd f4 (by rw [pm.length_eq]; exact f4) (fun s h => pm.mem_iff.mp h) be sm fun S4 y7 y8 y9 y10 G4 => hN _ _ ⟨G4 _ _ eL', _, _, _, _, _, rfl⟩
end K23
open PySem KB KN
open K22 (sp_bounds_of r_bounds_of vc_bounds_of len_bounds_of N_bounds_of sp_is_ahead r_is_ahead vc_is_ahead len_is_ahead N_is_ahead sp_first_behind r_first_behind vc_first_behind len_first_behind N_first_behind sp_moments_by r_moments_by vc_moments_by len_moments_by N_moments_by)
namespace K23
abbrev N__law_fits : List Str := ["_law_spans_here", "_law_line", "_law_known", "_law_i", "_law_j", "_law_task", "_law_begin", "_law_end"]
end K23
namespace K23
open PySem PySem.Spec PyProof.Rows L2 DL
def topS (i : Nat) : Stmt := PySem.Challenge.pw_drawerways_k23_whole_moments_or_none.main.body.getD i (.Pass ⟨0, 0, 0, 0⟩)
abbrev s__law_source : Stmt := topS 10
theorem nd__law_source : N__law_source.Nodup := by decide +kernel
theorem sc__law_source : FnScope N__law_source ["_law_script"] (defScope s__law_source) := ⟨rfl, rfl, rfl, by decide +kernel, rfl, by decide +kernel, by decide +kernel⟩
abbrev s__law_pick : Stmt := topS 11
theorem nd__law_pick : N__law_pick.Nodup := by decide +kernel
theorem sc__law_pick : FnScope N__law_pick ["_law_source_here", "_law_many"] (defScope s__law_pick) := ⟨rfl, rfl, rfl, by decide +kernel, rfl, by decide +kernel, by decide +kernel⟩
abbrev s__law_tree : Stmt := topS 12
theorem nd__law_tree : N__law_tree.Nodup := by decide +kernel
theorem sc__law_tree : FnScope N__law_tree ["_law_source_here", "_law_top"] (defScope s__law_tree) := ⟨rfl, rfl, rfl, by decide +kernel, rfl, by decide +kernel, by decide +kernel⟩
abbrev s__law_ways : Stmt := topS 13
theorem nd__law_ways : N__law_ways.Nodup := by decide +kernel
theorem sc__law_ways : FnScope N__law_ways ["_law_tree_here"] (defScope s__law_ways) := ⟨rfl, rfl, rfl, by decide +kernel, rfl, by decide +kernel, by decide +kernel⟩
abbrev s__law_way : Stmt := topS 14
theorem nd__law_way : N__law_way.Nodup := by decide +kernel
theorem sc__law_way : FnScope N__law_way ["_law_source_here", "_law_ways_here", "_law_is_named"] (defScope s__law_way) := ⟨rfl, rfl, rfl, by decide +kernel, rfl, by decide +kernel, by decide +kernel⟩
abbrev s__law_deed : Stmt := topS 15
theorem nd__law_deed : N__law_deed.Nodup := by decide +kernel
theorem sc__law_deed : FnScope N__law_deed ["_law_source_here", "_law_ways_here"] (defScope s__law_deed) := ⟨rfl, rfl, rfl, by decide +kernel, rfl, by decide +kernel, by decide +kernel⟩
abbrev s__law_hands : Stmt := topS 16
theorem nd__law_hands : N__law_hands.Nodup := by decide +kernel
theorem sc__law_hands : FnScope N__law_hands ["_law_source_here", "_law_tree_here", "_law_hands_here", "_law_deeds"] (defScope s__law_hands) := ⟨rfl, rfl, rfl, by decide +kernel, rfl, by decide +kernel, by decide +kernel⟩
abbrev s__law_spans : Stmt := topS 17
theorem nd__law_spans : N__law_spans.Nodup := by decide +kernel
theorem sc__law_spans : FnScope N__law_spans ["_law_source_here", "_law_hands_here"] (defScope s__law_spans) := ⟨rfl, rfl, rfl, by decide +kernel, rfl, by decide +kernel, by decide +kernel⟩
abbrev s__law_scene : Stmt := topS 18
theorem nd__law_scene : N__law_scene.Nodup := by decide +kernel
theorem sc__law_scene : FnScope N__law_scene ["_law_source_here"] (defScope s__law_scene) := ⟨rfl, rfl, rfl, by decide +kernel, rfl, by decide +kernel, by decide +kernel⟩
abbrev s__law_few : Stmt := topS 21
theorem nd__law_few : N__law_few.Nodup := by decide +kernel
theorem sc__law_few : FnScope N__law_few ["_law_spans_here"] (defScope s__law_few) := ⟨rfl, rfl, rfl, by decide +kernel, rfl, by decide +kernel, by decide +kernel⟩
abbrev s__law_lines : Stmt := topS 19
theorem nd__law_lines : N__law_lines.Nodup := by decide +kernel
theorem sc__law_lines : FnScope N__law_lines ["_law_tasks"] (defScope s__law_lines) := ⟨rfl, rfl, rfl, by decide +kernel, rfl, by decide +kernel, by decide +kernel⟩
abbrev s_bounds_of : Stmt := topS 5
theorem nd_bounds_of : N_bounds_of.Nodup := by decide +kernel
theorem sc_bounds_of : FnScope N_bounds_of ["spans"] (defScope s_bounds_of) := ⟨rfl, rfl, rfl, by decide +kernel, rfl, by decide +kernel, by decide +kernel⟩
abbrev s_is_ahead : Stmt := topS 6
theorem nd_is_ahead : N_is_ahead.Nodup := by decide +kernel
theorem sc_is_ahead : FnScope N_is_ahead ["spans", "one", "other"] (defScope s_is_ahead) := ⟨rfl, rfl, rfl, by decide +kernel, rfl, by decide +kernel, by decide +kernel⟩
abbrev s_first_behind : Stmt := topS 7
theorem nd_first_behind : N_first_behind.Nodup := by decide +kernel
theorem sc_first_behind : FnScope N_first_behind ["spans", "line", "other"] (defScope s_first_behind) := ⟨rfl, rfl, rfl, by decide +kernel, rfl, by decide +kernel, by decide +kernel⟩
abbrev s_moments_by : Stmt := topS 8
theorem nd_moments_by : N_moments_by.Nodup := by decide +kernel
theorem sc_moments_by : FnScope N_moments_by ["spans", "line"] (defScope s_moments_by) := ⟨rfl, rfl, rfl, by decide +kernel, rfl, by decide +kernel, by decide +kernel⟩
abbrev s__law_said : Stmt := topS 23
theorem nd__law_said : N__law_said.Nodup := by decide +kernel
theorem sc__law_said : FnScope N__law_said ["_law_spans_here", "_law_line"] (defScope s__law_said) := ⟨rfl, rfl, rfl, by decide +kernel, rfl, by decide +kernel, by decide +kernel⟩
abbrev s__law_tried : Stmt := topS 22
theorem nd__law_tried : N__law_tried.Nodup := by decide +kernel
theorem sc__law_tried : FnScope N__law_tried ["_law_spans_here", "_law_line"] (defScope s__law_tried) := ⟨rfl, rfl, rfl, by decide +kernel, rfl, by decide +kernel, by decide +kernel⟩
abbrev s__law_fits : Stmt := topS 20
theorem nd__law_fits : N__law_fits.Nodup := by decide +kernel
theorem sc__law_fits : FnScope N__law_fits ["_law_spans_here", "_law_line"] (defScope s__law_fits) := ⟨rfl, rfl, rfl, by decide +kernel, rfl, by decide +kernel, by decide +kernel⟩
abbrev s_law : Stmt := topS 24
theorem nd_law : N_law.Nodup := by decide +kernel
theorem sc_law : FnScope N_law ["_law_script"] (defScope s_law) := ⟨rfl, rfl, rfl, by decide +kernel, rfl, by decide +kernel, by decide +kernel⟩
section
variable {P : Program} {w : World} {K : PySem.W.Frag} {mg : Str → Option Value} {base : Heap}
abbrev s_init : Stmt := methS (topS 3) 0
theorem sc_init : FnScope ["self", "paper"] ["self", "paper"] (defScope s_init) := ⟨rfl, rfl, rfl, by decide +kernel, rfl, by decide +kernel, by decide +kernel⟩
theorem ok_init {f cB : Addr} {fd : FuncData} {mc : Value} (F : Fun K "__init__" "NoOrder.__init__" s_init f fd) (mB : mg "PaperError" = some (.ref cB)) (bB : BaseI K cB mc) : FnOk P w K mg base CX0 1 f fd ["self", "paper"] (spInit K ["paper"]) :=
  F.ok sc_init (len_init rfl) fun cdv A outer s H vs Q E hr hsp => by
    refine ⟨_, pss_cons (ps_expr (pe_clsinit rfl mB bB (pa_cons (pv 0) (pa_cons pe_str pa_nil)))) (pss_one (ps_ost (pv 0) (pv 1))), ?_⟩
    obtain ⟨a, C, ws, rfl, hl, T, ea, hn, q⟩ := hsp
    match ws, hl, q with
    | [v1], _, q => exact init1_reads rfl rfl T ea hn q
theorem ok__law_source {f : Addr} {fd : FuncData} (F : Fun K "_law_source" "_law_source" s__law_source f fd) (hm : mg "_law_source" = some (.ref f))  (B_list : mg "list" = none) : CalD P w K mg base 1 "_law_source" sp__law_source [] :=
  .of F sc__law_source hm (F.binds fun _ _ _ _ _ _ us hl => match us, hl with | [_], _ => rfl) len__law_source fun cdv A outer s H ds So Q E hr hgd hsp => by
  have nd := nd__law_source; have hu0 := room_u hr
  exact ⟨r__law_source, dss_one (ds_ret (de_disp (dps_cons de_str (de_frz (de_callT (dcall_list) rfl B_list rfl (da_cons (de_cut (de_v 0) dpo_none (dpo_some de_int)) da_nil))) (dps_cons de_str de_int (dps_cons de_str de_int (dps_cons de_str de_int dps_nil)))) rfl rfl (by simp) (by decide))), vc__law_source hsp⟩
theorem ok__law_pick {f : Addr} {fd : FuncData} (F : Fun K "_law_pick" "_law_pick" s__law_pick f fd) (hm : mg "_law_pick" = some (.ref f))  (B_len : mg "len" = none) : CalD P w K mg base 1 "_law_pick" sp__law_pick [] :=
  .of F sc__law_pick hm (F.binds fun _ _ _ _ _ _ us hl => match us, hl with | [_, _], _ => rfl) len__law_pick fun cdv A outer s H ds So Q E hr hgd hsp => by
  have nd := nd__law_pick; have hu0 := room_u hr
  have hu64 : (A.deeper (envOfC "_law_pick" (defScope s__law_pick) s.heap.objs.size f cdv)).units + 64 < cLine := by omega
  have hu1 : (A.deeper (envOfC "_law_pick" (defScope s__law_pick) s.heap.objs.size f cdv)).units + 1 < cLine := by omega
  exact ⟨r__law_pick, dss_cons (ds_asg (de_op dop_add (de_ix (dix_at hu1) (de_v 0) de_str (fun _ _ => rfl)) de_int) (dg_sub (de_v 0) de_str (dset_any hu1))) (dss_cons (ds_if (dt_cmp dop_gt (de_ix (dix_at hu1) (de_v 0) de_str (fun _ _ => rfl)) de_int rfl) (dss_cons (ds_set (i := 5) nd rfl (by first | exact .inl rfl | exact .inr rfl) (de_op dop_mod (de_ix (dix_at hu1) (de_v 0) de_str (fun _ _ => rfl)) (de_v 1))) (dss_cons (ds_asg (de_op dop_div (de_ix (dix_at hu1) (de_v 0) de_str (fun _ _ => rfl)) (de_v 1)) (dg_sub (de_v 0) de_str (dset_any hu1))) (dss_one (ds_ret (de_v 5))))) dss_nil) (dss_cons (ds_set (i := 2) nd rfl (by first | exact .inl rfl | exact .inr rfl) (de_ix (dix_at hu1) (de_v 0) de_str (fun _ _ => rfl))) (dss_cons (ds_set (i := 3) nd rfl (by first | exact .inl rfl | exact .inr rfl) (de_if (dt_cmp (dop_ne hu64) (de_v 2) (de_lst da_nil) rfl) (de_ix (dix_at hu1) (de_v 2) (de_op dop_mod (de_ix (dix_at hu1) (de_v 0) de_str (fun _ _ => rfl)) (de_callB (dcall_len) rfl B_len rfl (da_cons (de_v 2) da_nil))) (fun _ _ => rfl)) de_int)) (dss_cons (ds_asg (de_op dop_add (de_ix (dix_at hu1) (de_v 0) de_str (fun _ _ => rfl)) de_int) (dg_sub (de_v 0) de_str (dset_any hu1))) (dss_cons (ds_if (DW.dt (dw_and (dt_cmp dop_ge (de_v 3) (de_op dop_pow de_int de_int) rfl) (dw_and1 (dt_cmp dop_le (de_ix (dix_at hu1) (de_v 0) de_str (fun _ _ => rfl)) (de_callB (dcall_len) rfl B_len rfl (da_cons (de_v 2) da_nil)) rfl)))) (dss_cons (ds_asg (de_op dop_div (de_v 3) (de_v 1)) (dg_sub (de_v 0) de_str (dset_any hu1))) (dss_one (ds_ret (de_op dop_mod (de_v 3) (de_v 1))))) dss_nil) (dss_cons (ds_set (i := 4) nd rfl (by first | exact .inl rfl | exact .inr rfl) (de_op dop_add (de_op dop_mod (de_v 3) de_int) (de_op dop_mul de_int (de_ix (dix_at hu1) (de_v 0) de_str (fun _ _ => rfl))))) (dss_cons (ds_set (i := 4) nd rfl (by first | exact .inl rfl | exact .inr rfl) (de_op dop_mod (de_op dop_add (de_op dop_add (de_op dop_mul (de_v 4) (de_v 4)) (de_op dop_mul de_int (de_ix (dix_at hu1) (de_v 0) de_str (fun _ _ => rfl)))) de_int) de_int)) (dss_cons (ds_set (i := 4) nd rfl (by first | exact .inl rfl | exact .inr rfl) (de_op dop_mod (de_op dop_add (de_op dop_add (de_op dop_mul (de_v 4) (de_v 4)) (de_op dop_mul de_int (de_ix (dix_at hu1) (de_v 0) de_str (fun _ _ => rfl)))) de_int) de_int)) (dss_one (ds_ret (de_op dop_mod (de_op dop_div (de_v 4) de_int) (de_v 1)))))))))))), vc__law_pick hsp⟩
theorem ok__law_tree {f : Addr} {fd : FuncData} (F : Fun K "_law_tree" "_law_tree" s__law_tree f fd) (hm : mg "_law_tree" = some (.ref f)) (C__law_pick : CalD P w K mg base 1 "_law_pick" sp__law_pick []) (B_range : mg "range" = none) (B_tuple : mg "tuple" = none) (B_sorted : mg "sorted" = none) (B_int : mg "int" = none) (B_len : mg "len" = none) : CalD P w K mg base 2 "_law_tree" sp__law_tree [] :=
  .of F sc__law_tree hm (F.binds fun _ _ _ _ _ _ us hl => match us, hl with | [_, _], _ => rfl) len__law_tree fun cdv A outer s H ds So Q E hr hgd hsp => by
  have nd := nd__law_tree; have hu0 := room_u hr
  have hu : (A.deeper (envOfC "_law_tree" (defScope s__law_tree) s.heap.objs.size f cdv)).units + 65 < cLine := by omega
  have hu64 : (A.deeper (envOfC "_law_tree" (defScope s__law_tree) s.heap.objs.size f cdv)).units + 64 < cLine := by omega
  have hu1 : (A.deeper (envOfC "_law_tree" (defScope s__law_tree) s.heap.objs.size f cdv)).units + 1 < cLine := by omega
  exact ⟨r__law_tree, dss_cons (ds_asg (de_tup (da_cons (de_disp (dps_cons de_int de_newD dps_nil) rfl rfl (by simp) (by decide)) (da_cons (de_disp (dps_cons de_int de_str dps_nil) rfl rfl (by simp) (by decide)) (da_cons de_int da_nil)))) (dg_tup rfl (n := 3) (dgs_cons (dg_name nd (i := 6) rfl (by first | exact .inl rfl | exact .inr rfl)) (dgs_cons (dg_name nd (i := 7) rfl (by first | exact .inl rfl | exact .inr rfl)) (dgs_cons (dg_name nd (i := 8) rfl (by first | exact .inl rfl | exact .inr rfl)) dgs_nil))))) (dss_cons (ds_for .never rfl (di_range1 rfl B_range (da_cons (de_cal C__law_pick (hr.mono (by decide)) hgd rfl (da_cons (de_v 0) (da_cons (de_op dop_add (de_v 1) de_int) da_nil))) da_nil)) (dg_name nd (i := 2) rfl (by first | exact .inl rfl | exact .inr rfl)) (dss_cons (ds_lc (i := 4) (own := [("_law_node", 11)]) (vs := [11]) rfl nd rfl rfl (sw_comp (.inl ⟨_, _, _, rfl⟩) rfl rfl rfl rfl) (di_any (de_callB (dcall_sortedD rfl hu) rfl B_sorted rfl (da_cons (de_v 6) da_nil))) (blkOk_by (show blkC N__law_tree (defScope s__law_tree) _ [("_law_node", 11)] = true by decide +kernel)) (fun s H C cl fp => ⟨dg_name nd (i := 11) rfl (by first | exact .inl rfl | exact .inr rfl), dts_one (dt_cmp (dop_eq hu64) (de_ix (dix_at hu1) (de_v 7) (de_v 11) (fun _ _ => rfl)) de_str rfl), DCl.nil, (de_v 11)⟩)) (dss_cons (ds_set (i := 9) nd rfl (by first | exact .inl rfl | exact .inr rfl) (de_ix (dix_at hu1) (de_v 6) (de_ix (dix_at hu1) (de_v 4) (de_cal C__law_pick (hr.mono (by decide)) hgd rfl (da_cons (de_v 0) (da_cons (de_callB (dcall_len) rfl B_len rfl (da_cons (de_v 4) da_nil)) da_nil))) (fun _ _ => rfl)) (fun _ _ => rfl))) (dss_cons (ds_set (i := 10) nd rfl (by first | exact .inl rfl | exact .inr rfl) (de_ix (dix_at hu1) (de_lst (da_cons de_str (da_cons de_str (da_cons de_str (da_cons de_str (da_cons de_str da_nil)))))) (de_cal C__law_pick (hr.mono (by decide)) hgd rfl (da_cons (de_v 0) (da_cons de_int da_nil))) (fun _ _ => rfl))) (dss_one (ds_if (dt_cmp (dop_notIn hu) (de_v 10) (de_v 9) rfl) (dss_cons (ds_set (i := 8) nd rfl (by first | exact .inl rfl | exact .inr rfl) (de_op dop_add (de_op dop_add (de_v 8) de_int) (de_callT (dcall_int) rfl B_int rfl (da_cons (de_cmp (dop_eq hu64) (de_cal C__law_pick (hr.mono (by decide)) hgd rfl (da_cons (de_v 0) (da_cons de_int da_nil))) de_int rfl) da_nil)))) (dss_cons (ds_asg (de_v 8) (dg_sub (de_v 9) (de_v 10) (dset_any hu1))) (dss_one (ds_asg (de_tup (da_cons de_newD (da_cons (de_ix (dix_at hu1) (de_lst (da_cons de_str (da_cons de_str (da_cons de_str da_nil)))) (de_cal C__law_pick (hr.mono (by decide)) hgd rfl (da_cons (de_v 0) (da_cons de_int da_nil))) (fun _ _ => rfl)) da_nil))) (dg_tup rfl (n := 2) (dgs_cons (dg_sub (de_v 6) (de_v 8) (dset_any hu1)) (dgs_cons (dg_sub (de_v 7) (de_v 8) (dset_any hu1)) dgs_nil))))))) dss_nil)))))) (dss_cons (ds_lc (i := 3) (own := [("_law_node", 11)]) (vs := [11]) rfl nd rfl rfl (sw_comp (.inl ⟨_, _, _, rfl⟩) rfl rfl rfl rfl) (di_any (de_callB (dcall_sortedD rfl hu) rfl B_sorted rfl (da_cons (de_v 6) da_nil))) (blkOk_by (show blkC N__law_tree (defScope s__law_tree) _ [("_law_node", 11)] = true by decide +kernel)) (fun s H C cl fp => ⟨dg_name nd (i := 11) rfl (by first | exact .inl rfl | exact .inr rfl), dts_one (dt_cmp (dop_eq hu64) (de_ix (dix_at hu1) (de_v 7) (de_v 11) (fun _ _ => rfl)) de_str rfl), DCl.nil, (de_v 11)⟩)) (dss_cons (ds_lc (i := 4) (own := [("_law_node", 11)]) (vs := [11]) rfl nd rfl rfl (sw_comp (.inl ⟨_, _, _, rfl⟩) rfl rfl rfl rfl) (di_any (de_callB (dcall_sortedD rfl hu) rfl B_sorted rfl (da_cons (de_v 6) da_nil))) (blkOk_by (show blkC N__law_tree (defScope s__law_tree) _ [("_law_node", 11)] = true by decide +kernel)) (fun s H C cl fp => ⟨dg_name nd (i := 11) rfl (by first | exact .inl rfl | exact .inr rfl), dts_one (dt_cmp (dop_eq hu64) (de_ix (dix_at hu1) (de_v 7) (de_v 11) (fun _ _ => rfl)) de_str rfl), DCl.nil, (de_v 11)⟩)) (dss_cons (ds_if (DW.dt (dw_and (dt_cmp (dop_ne hu64) (de_v 3) (de_lst da_nil) rfl) (dw_and1 (dt_cmp (dop_eq hu64) (de_cal C__law_pick (hr.mono (by decide)) hgd rfl (da_cons (de_v 0) (da_cons de_int da_nil))) de_int rfl)))) (dss_cons (ds_set (i := 9) nd rfl (by first | exact .inl rfl | exact .inr rfl) (de_ix (dix_at hu1) (de_v 6) (de_ix (dix_at hu1) (de_v 4) (de_cal C__law_pick (hr.mono (by decide)) hgd rfl (da_cons (de_v 0) (da_cons (de_callB (dcall_len) rfl B_len rfl (da_cons (de_v 4) da_nil)) da_nil))) (fun _ _ => rfl)) (fun _ _ => rfl))) (dss_one (ds_asg (de_ix (dix_at hu1) (de_v 3) (de_cal C__law_pick (hr.mono (by decide)) hgd rfl (da_cons (de_v 0) (da_cons (de_callB (dcall_len) rfl B_len rfl (da_cons (de_v 3) da_nil)) da_nil))) (fun _ _ => rfl)) (dg_sub (de_v 9) de_str (dset_any hu1))))) dss_nil) (dss_cons (ds_lc (i := 5) (own := [("_law_node", 11)]) (vs := [11]) rfl nd rfl rfl (sw_comp (.inl ⟨_, _, _, rfl⟩) rfl rfl rfl rfl) (di_any (de_callB (dcall_sortedD rfl hu) rfl B_sorted rfl (da_cons (de_v 6) da_nil))) (blkOk_by (show blkC N__law_tree (defScope s__law_tree) _ [("_law_node", 11)] = true by decide +kernel)) (fun s H C cl fp => ⟨dg_name nd (i := 11) rfl (by first | exact .inl rfl | exact .inr rfl), dts_nil, DCl.nil, (de_tup (da_cons (de_v 11) (da_cons (de_ix (dix_at hu1) (de_v 7) (de_v 11) (fun _ _ => rfl)) (da_cons (de_callT (dcall_tuple) rfl B_tuple rfl (da_cons (de_sortedItems rfl hu B_sorted rfl (de_ix (dix_at hu1) (de_v 6) (de_v 11) (fun _ _ => rfl))) da_nil)) da_nil))))⟩)) (dss_one (ds_ret (de_tup (da_cons (de_callT (dcall_tuple) rfl B_tuple rfl (da_cons (de_v 5) da_nil)) (da_cons (de_op dop_add (de_op dop_add (de_v 8) de_int) (de_cal C__law_pick (hr.mono (by decide)) hgd rfl (da_cons (de_v 0) (da_cons de_int da_nil)))) da_nil)))))))))), vc__law_tree hsp⟩
theorem ok__law_ways {f : Addr} {fd : FuncData} (F : Fun K "_law_ways" "_law_ways" s__law_ways f fd) (hm : mg "_law_ways" = some (.ref f))  (B_dict : mg "dict" = none) (B_len : mg "len" = none) : CalD P w K mg base 1 "_law_ways" sp__law_ways [] :=
  .of F sc__law_ways hm (F.binds fun _ _ _ _ _ _ us hl => match us, hl with | [_], _ => rfl) len__law_ways fun cdv A outer s H ds So Q E hr hgd hsp => by
  have nd := nd__law_ways; have hu0 := room_u hr
  have hu64 : (A.deeper (envOfC "_law_ways" (defScope s__law_ways) s.heap.objs.size f cdv)).units + 64 < cLine := by omega
  have hu1 : (A.deeper (envOfC "_law_ways" (defScope s__law_ways) s.heap.objs.size f cdv)).units + 1 < cLine := by omega
  have hu2 : (A.deeper (envOfC "_law_ways" (defScope s__law_ways) s.heap.objs.size f cdv)).units + 2 < cLine := by omega
  exact ⟨r__law_ways, dss_cons (ds_set (i := 1) nd rfl (by first | exact .inl rfl | exact .inr rfl) (de_callT (dcall_dict hu2 rfl) rfl B_dict rfl (da_cons (de_lc (own := [("_law_node", 6), ("_law_kind", 7), ("_law_row", 8)]) (vs := [6, 7, 8]) rfl nd (di_any (de_ix (dix_at hu1) (de_v 0) de_int (fun _ _ => rfl))) (blkOk_by (show blkC N__law_ways (defScope s__law_ways) _ [("_law_node", 6), ("_law_kind", 7), ("_law_row", 8)] = true by decide +kernel)) (fun s H C cl fp => ⟨dg_tup rfl (n := 3) (dgs_cons (dg_name nd (i := 6) rfl (by first | exact .inl rfl | exact .inr rfl)) (dgs_cons (dg_name nd (i := 7) rfl (by first | exact .inl rfl | exact .inr rfl)) (dgs_cons (dg_name nd (i := 8) rfl (by first | exact .inl rfl | exact .inr rfl)) dgs_nil))), dts_nil, DCl.nil, (de_tup (da_cons (de_v 6) (da_cons (de_v 8) da_nil)))⟩)) da_nil))) (dss_cons (ds_par (i := 2) (j := 3) rfl nd rfl rfl (by decide) rfl rfl (da_cons (de_lst (da_cons (de_tup da_nil) da_nil)) (da_cons (de_lst (da_cons (de_tup (da_cons (de_tup da_nil) (da_cons de_int da_nil))) da_nil)) da_nil)) rfl) (dss_cons (ds_while .never (dt_cmp (dop_ne hu64) (de_v 3) (de_lst da_nil) rfl) (dss_cons (ds_set (i := 4) nd rfl (by first | exact .inl rfl | exact .inr rfl) (de_lst da_nil)) (dss_cons (ds_for .never rfl (di_any (de_v 3)) (dg_tup rfl (n := 2) (dgs_cons (dg_name nd (i := 5) rfl (by first | exact .inl rfl | exact .inr rfl)) (dgs_cons (dg_name nd (i := 6) rfl (by first | exact .inl rfl | exact .inr rfl)) dgs_nil))) (dss_one (ds_expr (de_bm PySem.F.plainAttrs_list PySem.F.slot_list_extend PySem.F.type_list_extend dmt_extend (de_v 4) (da_cons (de_lc (own := [("_law_name", 9), ("_law_inner", 10)]) (vs := [9, 10]) rfl nd (di_any (de_ix (dix_at hu1) (de_v 1) (de_v 6) (fun _ _ => rfl))) (blkOk_by (show blkC N__law_ways (defScope s__law_ways) _ [("_law_name", 9), ("_law_inner", 10)] = true by decide +kernel)) (fun s H C cl fp => ⟨dg_tup rfl (n := 2) (dgs_cons (dg_name nd (i := 9) rfl (by first | exact .inl rfl | exact .inr rfl)) (dgs_cons (dg_name nd (i := 10) rfl (by first | exact .inl rfl | exact .inr rfl)) dgs_nil)), dts_one (dt_cmp dop_lt (de_callB (dcall_len) rfl B_len rfl (da_cons (de_v 5) da_nil)) de_int rfl), DCl.nil, (de_tup (da_cons (de_op dop_add (de_v 5) (de_tup (da_cons (de_v 9) da_nil))) (da_cons (de_v 10) da_nil)))⟩)) da_nil))))) (dss_cons (ds_expr (de_bm PySem.F.plainAttrs_list PySem.F.slot_list_extend PySem.F.type_list_extend dmt_extend (de_v 2) (da_cons (de_lc (own := [("_law_way_here", 5), ("_law_node", 6)]) (vs := [5, 6]) rfl nd (di_any (de_v 4)) (blkOk_by (show blkC N__law_ways (defScope s__law_ways) _ [("_law_way_here", 5), ("_law_node", 6)] = true by decide +kernel)) (fun s H C cl fp => ⟨dg_tup rfl (n := 2) (dgs_cons (dg_name nd (i := 5) rfl (by first | exact .inl rfl | exact .inr rfl)) (dgs_cons (dg_name nd (i := 6) rfl (by first | exact .inl rfl | exact .inr rfl)) dgs_nil)), dts_nil, DCl.nil, (de_v 5)⟩)) da_nil))) (dss_one (ds_set (i := 3) nd rfl (by first | exact .inl rfl | exact .inr rfl) (de_v 4))))))) (dss_one (ds_ret (de_v 2))))), vc__law_ways hsp⟩
theorem ok__law_way {f : Addr} {fd : FuncData} (F : Fun K "_law_way" "_law_way" s__law_way f fd) (hm : mg "_law_way" = some (.ref f)) (C__law_pick : CalD P w K mg base 1 "_law_pick" sp__law_pick []) (B_len : mg "len" = none) : CalD P w K mg base 2 "_law_way" sp__law_way [] :=
  .of F sc__law_way hm (F.binds fun _ _ _ _ _ _ us hl => match us, hl with | [_, _, _], _ => rfl) len__law_way fun cdv A outer s H ds So Q E hr hgd hsp => by
  have nd := nd__law_way; have hu0 := room_u hr
  have hu64 : (A.deeper (envOfC "_law_way" (defScope s__law_way) s.heap.objs.size f cdv)).units + 64 < cLine := by omega
  have hu1 : (A.deeper (envOfC "_law_way" (defScope s__law_way) s.heap.objs.size f cdv)).units + 1 < cLine := by omega
  exact ⟨r__law_way, dss_cons (ds_set (i := 3) nd rfl (by first | exact .inl rfl | exact .inr rfl) (de_ix (dix_at hu1) (de_v 1) (de_cal C__law_pick (hr.mono (by decide)) hgd rfl (da_cons (de_v 0) (da_cons (de_callB (dcall_len) rfl B_len rfl (da_cons (de_v 1) da_nil)) da_nil))) (fun _ _ => rfl))) (dss_cons (ds_if (DW.dt (dw_or (DW.dt (dw_and (dt_cmp (dop_eq hu64) (de_cal C__law_pick (hr.mono (by decide)) hgd rfl (da_cons (de_v 0) (da_cons de_int da_nil))) de_int rfl) (dw_and1 (dt_cmp dop_lt (de_callB (dcall_len) rfl B_len rfl (da_cons (de_v 3) da_nil)) de_int rfl)))) (dw_or1 (DW.dt (dw_and (dt_val (de_v 2)) (dw_and1 (dt_cmp (dop_eq hu64) (de_v 3) (de_tup da_nil) rfl))))))) (dss_one (ds_set (i := 3) nd rfl (by first | exact .inl rfl | exact .inr rfl) (de_op dop_add (de_v 3) (de_tup (da_cons (de_ix (dix_at hu1) (de_lst (da_cons de_str (da_cons de_str (da_cons de_str (da_cons de_str (da_cons de_str (da_cons de_str da_nil))))))) (de_cal C__law_pick (hr.mono (by decide)) hgd rfl (da_cons (de_v 0) (da_cons de_int da_nil))) (fun _ _ => rfl)) da_nil))))) dss_nil) (dss_one (ds_ret (de_v 3)))), vc__law_way hsp⟩
theorem ok__law_deed {f : Addr} {fd : FuncData} (F : Fun K "_law_deed" "_law_deed" s__law_deed f fd) (hm : mg "_law_deed" = some (.ref f)) (C__law_way : CalD P w K mg base 2 "_law_way" sp__law_way []) (C__law_pick : CalD P w K mg base 1 "_law_pick" sp__law_pick [])  : CalD P w K mg base 3 "_law_deed" sp__law_deed [] :=
  .of F sc__law_deed hm (F.binds fun _ _ _ _ _ _ us hl => match us, hl with | [_, _], _ => rfl) len__law_deed fun cdv A outer s H ds So Q E hr hgd hsp => by
  have nd := nd__law_deed; have hu0 := room_u hr
  have hu : (A.deeper (envOfC "_law_deed" (defScope s__law_deed) s.heap.objs.size f cdv)).units + 65 < cLine := by omega
  have hu64 : (A.deeper (envOfC "_law_deed" (defScope s__law_deed) s.heap.objs.size f cdv)).units + 64 < cLine := by omega
  have hu1 : (A.deeper (envOfC "_law_deed" (defScope s__law_deed) s.heap.objs.size f cdv)).units + 1 < cLine := by omega
  exact ⟨r__law_deed, dss_cons (ds_set (i := 2) nd rfl (by first | exact .inl rfl | exact .inr rfl) (de_ix (dix_at hu1) (de_lst (da_cons de_str (da_cons de_str (da_cons de_str (da_cons de_str (da_cons de_str (da_cons de_str (da_cons de_str (da_cons de_str (da_cons de_str (da_cons de_str da_nil))))))))))) (de_cal C__law_pick (hr.mono (by decide)) hgd rfl (da_cons (de_v 0) (da_cons de_int da_nil))) (fun _ _ => rfl))) (dss_cons (ds_set (i := 3) nd rfl (by first | exact .inl rfl | exact .inr rfl) (de_cal C__law_way (hr.mono (by decide)) hgd rfl (da_cons (de_v 0) (da_cons (de_v 1) (da_cons (de_cmp (dop_notIn hu) (de_v 2) (de_tup (da_cons de_str (da_cons de_str da_nil))) rfl) da_nil))))) (dss_cons (ds_if (dt_cmp (dop_in hu) (de_v 2) (de_tup (da_cons de_str (da_cons de_str (da_cons de_str da_nil)))) rfl) (dss_one (ds_ret (de_tup (da_cons (de_v 2) (da_cons (de_v 3) da_nil))))) dss_nil) (dss_cons (ds_if (dt_cmp (dop_eq hu64) (de_v 2) de_str rfl) (dss_one (ds_ret (de_tup (da_cons (de_v 2) (da_cons (de_v 3) (da_cons (de_ix (dix_at hu1) (de_lst (da_cons de_str (da_cons de_str da_nil))) (de_cal C__law_pick (hr.mono (by decide)) hgd rfl (da_cons (de_v 0) (da_cons de_int da_nil))) (fun _ _ => rfl)) da_nil)))))) dss_nil) (dss_one (ds_ret (de_tup (da_cons (de_v 2) (da_cons (de_v 3) (da_cons (de_cal C__law_way (hr.mono (by decide)) hgd rfl (da_cons (de_v 0) (da_cons (de_v 1) (da_cons de_bl da_nil)))) da_nil))))))))), vc__law_deed hsp⟩
theorem ok__law_hands {f : Addr} {fd : FuncData} (F : Fun K "_law_hands" "_law_hands" s__law_hands f fd) (hm : mg "_law_hands" = some (.ref f)) (C__law_ways : CalD P w K mg base 1 "_law_ways" sp__law_ways []) (C__law_pick : CalD P w K mg base 1 "_law_pick" sp__law_pick []) (C__law_deed : CalD P w K mg base 3 "_law_deed" sp__law_deed []) (B_range : mg "range" = none) (B_tuple : mg "tuple" = none) (B_len : mg "len" = none) : CalD P w K mg base 4 "_law_hands" sp__law_hands [] :=
  .of F sc__law_hands hm (F.binds fun _ _ _ _ _ _ us hl => match us, hl with | [_, _, _, _], _ => rfl) len__law_hands fun cdv A outer s H ds So Q E hr hgd hsp => by
  have nd := nd__law_hands; have hu0 := room_u hr
  have hu1 : (A.deeper (envOfC "_law_hands" (defScope s__law_hands) s.heap.objs.size f cdv)).units + 1 < cLine := by omega
  exact ⟨r__law_hands, dss_cons (ds_set (i := 4) nd rfl (by first | exact .inl rfl | exact .inr rfl) (de_cal C__law_ways (hr.mono (by decide)) hgd rfl (da_cons (de_v 1) da_nil))) (dss_cons (ds_lc (i := 5) (own := [("_law_hand", 8)]) (vs := [8]) rfl nd rfl rfl (sw_comp (.inl ⟨_, _, _, rfl⟩) rfl rfl rfl rfl) (di_range1 rfl B_range (da_cons (de_op dop_add de_int (de_cal C__law_pick (hr.mono (by decide)) hgd rfl (da_cons (de_v 0) (da_cons (de_v 2) da_nil)))) da_nil)) (blkOk_by (show blkC N__law_hands (defScope s__law_hands) _ [("_law_hand", 8)] = true by decide +kernel)) (fun s H C cl fp => ⟨dg_name nd (i := 8) rfl (by first | exact .inl rfl | exact .inr rfl), dts_nil, DCl.nil, (de_lst da_nil)⟩)) (dss_cons (ds_for .never rfl (di_range1 rfl B_range (da_cons (de_cal C__law_pick (hr.mono (by decide)) hgd rfl (da_cons (de_v 0) (da_cons (de_op dop_add (de_v 3) de_int) da_nil))) da_nil)) (dg_name nd (i := 6) rfl (by first | exact .inl rfl | exact .inr rfl)) (dss_cons (ds_set (i := 7) nd rfl (by first | exact .inl rfl | exact .inr rfl) (de_ix (dix_at hu1) (de_v 5) (de_cal C__law_pick (hr.mono (by decide)) hgd rfl (da_cons (de_v 0) (da_cons (de_callB (dcall_len) rfl B_len rfl (da_cons (de_v 5) da_nil)) da_nil))) (fun _ _ => rfl))) (dss_one (ds_if (dt_cmp dop_lt (de_callB (dcall_len) rfl B_len rfl (da_cons (de_v 7) da_nil)) de_int rfl) (dss_one (ds_expr (de_bm PySem.F.plainAttrs_list PySem.F.slot_list_append PySem.F.type_list_append dmt_append (de_v 7) (da_cons (de_cal C__law_deed (hr.mono (by decide)) hgd rfl (da_cons (de_v 0) (da_cons (de_v 4) da_nil))) da_nil)))) dss_nil)))) (dss_one (ds_ret (de_callT (dcall_tuple) rfl B_tuple rfl (da_cons (de_lc (own := [("_law_own", 7)]) (vs := [7]) rfl nd (di_any (de_v 5)) (blkOk_by (show blkC N__law_hands (defScope s__law_hands) _ [("_law_own", 7)] = true by decide +kernel)) (fun s H C cl fp => ⟨dg_name nd (i := 7) rfl (by first | exact .inl rfl | exact .inr rfl), dts_nil, DCl.nil, (de_callT (dcall_tuple) rfl B_tuple rfl (da_cons (de_v 7) da_nil))⟩)) da_nil)))))), vc__law_hands hsp⟩
theorem ok__law_spans {f : Addr} {fd : FuncData} (F : Fun K "_law_spans" "_law_spans" s__law_spans f fd) (hm : mg "_law_spans" = some (.ref f)) (C__law_pick : CalD P w K mg base 1 "_law_pick" sp__law_pick []) (B_enumerate : mg "enumerate" = none) (B_tuple : mg "tuple" = none) (B_range : mg "range" = none) (B_len : mg "len" = none) : CalD P w K mg base 2 "_law_spans" sp__law_spans [] :=
  .of F sc__law_spans hm (F.binds fun _ _ _ _ _ _ us hl => match us, hl with | [_, _], _ => rfl) len__law_spans fun cdv A outer s H ds So Q E hr hgd hsp => by
  have nd := nd__law_spans; have hu0 := room_u hr
  have hu1 : (A.deeper (envOfC "_law_spans" (defScope s__law_spans) s.heap.objs.size f cdv)).units + 1 < cLine := by omega
  exact ⟨r__law_spans, dss_cons (ds_set (i := 2) nd rfl (by first | exact .inl rfl | exact .inr rfl) (de_lst da_nil)) (dss_cons (ds_for .never rfl (di_enum rfl B_enumerate (da_cons (de_v 1) da_nil)) (dg_tup rfl (n := 2) (dgs_cons (dg_name nd (i := 3) rfl (by first | exact .inl rfl | exact .inr rfl)) (dgs_cons (dg_name nd (i := 4) rfl (by first | exact .inl rfl | exact .inr rfl)) dgs_nil))) (dss_cons (ds_set (i := 5) nd rfl (by first | exact .inl rfl | exact .inr rfl) (de_cal C__law_pick (hr.mono (by decide)) hgd rfl (da_cons (de_v 0) (da_cons de_int da_nil)))) (dss_cons (ds_set (i := 6) nd rfl (by first | exact .inl rfl | exact .inr rfl) (de_if (dt_cmp dop_gt (de_cal C__law_pick (hr.mono (by decide)) hgd rfl (da_cons (de_v 0) (da_cons de_int da_nil))) de_int rfl) (de_callB (dcall_len) rfl B_len rfl (da_cons (de_v 4) da_nil)) (de_cal C__law_pick (hr.mono (by decide)) hgd rfl (da_cons (de_v 0) (da_cons (de_op dop_add (de_callB (dcall_len) rfl B_len rfl (da_cons (de_v 4) da_nil)) de_int) da_nil))))) (dss_one (ds_for .never rfl (di_range1 rfl B_range (da_cons (de_v 6) da_nil)) (dg_name nd (i := 7) rfl (by first | exact .inl rfl | exact .inr rfl)) (dss_cons (ds_set (i := 8) nd rfl (by first | exact .inl rfl | exact .inr rfl) (de_op dop_add (de_v 5) (de_ix (dix_at hu1) (de_lst (da_cons de_int (da_cons de_int (da_cons de_int (da_cons de_int (da_cons de_int da_nil)))))) (de_cal C__law_pick (hr.mono (by decide)) hgd rfl (da_cons (de_v 0) (da_cons de_int da_nil))) (fun _ _ => rfl)))) (dss_cons (ds_expr (de_bm PySem.F.plainAttrs_list PySem.F.slot_list_append PySem.F.type_list_append dmt_append (de_v 2) (da_cons (de_tup (da_cons (de_tup (da_cons (de_v 3) (da_cons (de_v 7) da_nil))) (da_cons (de_v 5) (da_cons (de_v 8) da_nil)))) da_nil))) (dss_one (ds_set (i := 5) nd rfl (by first | exact .inl rfl | exact .inr rfl) (de_op dop_add (de_op dop_add (de_v 8) de_int) (de_cal C__law_pick (hr.mono (by decide)) hgd rfl (da_cons (de_v 0) (da_cons de_int da_nil))))))))))))) (dss_one (ds_ret (de_callT (dcall_tuple) rfl B_tuple rfl (da_cons (de_v 2) da_nil))))), vc__law_spans hsp⟩
theorem ok__law_scene {f : Addr} {fd : FuncData} (F : Fun K "_law_scene" "_law_scene" s__law_scene f fd) (hm : mg "_law_scene" = some (.ref f)) (C__law_tree : CalD P w K mg base 2 "_law_tree" sp__law_tree []) (C__law_hands : CalD P w K mg base 4 "_law_hands" sp__law_hands []) (C__law_pick : CalD P w K mg base 1 "_law_pick" sp__law_pick []) (C__law_spans : CalD P w K mg base 2 "_law_spans" sp__law_spans [])  : CalD P w K mg base 5 "_law_scene" sp__law_scene [] :=
  .of F sc__law_scene hm (F.binds fun _ _ _ _ _ _ us hl => match us, hl with | [_], _ => rfl) len__law_scene fun cdv A outer s H ds So Q E hr hgd hsp => by
  have nd := nd__law_scene; have hu0 := room_u hr
  have hu64 : (A.deeper (envOfC "_law_scene" (defScope s__law_scene) s.heap.objs.size f cdv)).units + 64 < cLine := by omega
  exact ⟨r__law_scene, dss_cons (ds_set (i := 1) nd rfl (by first | exact .inl rfl | exact .inr rfl) (de_cmp (dop_eq hu64) (de_cal C__law_pick (hr.mono (by decide)) hgd rfl (da_cons (de_v 0) (da_cons de_int da_nil))) de_int rfl)) (dss_cons (ds_set (i := 2) nd rfl (by first | exact .inl rfl | exact .inr rfl) (de_cal C__law_tree (hr.mono (by decide)) hgd rfl (da_cons (de_v 0) (da_cons (de_if (dt_val (de_v 1)) de_int de_int) da_nil)))) (dss_cons (ds_set (i := 3) nd rfl (by first | exact .inl rfl | exact .inr rfl) (de_cal C__law_hands (hr.mono (by decide)) hgd rfl (da_cons (de_v 0) (da_cons (de_v 2) (da_cons (de_if (dt_val (de_v 1)) de_int de_int) (da_cons (de_if (dt_val (de_v 1)) de_int de_int) da_nil)))))) (dss_one (ds_ret (de_tup (da_cons (de_v 2) (da_cons (de_v 3) (da_cons (de_cal C__law_spans (hr.mono (by decide)) hgd rfl (da_cons (de_v 0) (da_cons (de_v 3) da_nil))) da_nil)))))))), vc__law_scene hsp⟩
theorem ok__law_few {f : Addr} {fd : FuncData} (F : Fun K "_law_few" "_law_few" s__law_few f fd) (hm : mg "_law_few" = some (.ref f))   : CalD P w K mg base 1 "_law_few" sp__law_few [] :=
  .of F sc__law_few hm (F.binds fun _ _ _ _ _ _ us hl => match us, hl with | [_], _ => rfl) len__law_few fun cdv A outer s H ds So Q E hr hgd hsp => by
  have nd := nd__law_few; have hu0 := room_u hr
  exact ⟨r__law_few, dss_one (ds_ret (de_cut (de_v 0) dpo_none (dpo_some de_int))), vc__law_few hsp⟩
theorem ok__law_lines {f : Addr} {fd : FuncData} (F : Fun K "_law_lines" "_law_lines" s__law_lines f fd) (hm : mg "_law_lines" = some (.ref f))  (B_range : mg "range" = none) (B_len : mg "len" = none) : CalD P w K mg base 1 "_law_lines" sp__law_lines [] :=
  .of F sc__law_lines hm (F.binds fun _ _ _ _ _ _ us hl => match us, hl with | [_], _ => rfl) len__law_lines fun cdv A outer s H ds So Q E hr hgd hsp => by
  have nd := nd__law_lines; have hu0 := room_u hr
  have hu : (A.deeper (envOfC "_law_lines" (defScope s__law_lines) s.heap.objs.size f cdv)).units + 65 < cLine := by omega
  have hu64 : (A.deeper (envOfC "_law_lines" (defScope s__law_lines) s.heap.objs.size f cdv)).units + 64 < cLine := by omega
  have hu1 : (A.deeper (envOfC "_law_lines" (defScope s__law_lines) s.heap.objs.size f cdv)).units + 1 < cLine := by omega
  exact ⟨r__law_lines, dss_cons (ds_set (i := 1) nd rfl (by first | exact .inl rfl | exact .inr rfl) (de_lst (da_cons (de_tup da_nil) da_nil))) (dss_cons (ds_for .never rfl (di_range1 rfl B_range (da_cons (de_callB (dcall_len) rfl B_len rfl (da_cons (de_v 0) da_nil)) da_nil)) (dg_name nd (i := 2) rfl (by first | exact .inl rfl | exact .inr rfl)) (dss_cons (ds_set (i := 3) nd rfl (by first | exact .inl rfl | exact .inr rfl) (de_lst da_nil)) (dss_cons (ds_for .never rfl (di_any (de_v 1)) (dg_name nd (i := 4) rfl (by first | exact .inl rfl | exact .inr rfl)) (dss_cons (ds_lc (i := 5) (own := [("_law_task", 6)]) (vs := [6]) rfl nd rfl rfl (sw_comp (.inl ⟨_, _, _, rfl⟩) rfl rfl rfl rfl) (di_any (de_v 0)) (blkOk_by (show blkC N__law_lines (defScope s__law_lines) _ [("_law_task", 6)] = true by decide +kernel)) (fun s H C cl fp => ⟨dg_name nd (i := 6) rfl (by first | exact .inl rfl | exact .inr rfl), dts_one (dt_cmp (dop_notIn hu) (de_v 6) (de_v 4) rfl), DCl.nil, (de_v 6)⟩)) (dss_cons (ds_lc (i := 5) (own := [("_law_task", 6)]) (vs := [6]) rfl nd rfl rfl (sw_comp (.inl ⟨_, _, _, rfl⟩) rfl rfl rfl rfl) (di_any (de_v 5)) (blkOk_by (show blkC N__law_lines (defScope s__law_lines) _ [("_law_task", 6)] = true by decide +kernel)) (fun s H C cl fp => ⟨dg_name nd (i := 6) rfl (by first | exact .inl rfl | exact .inr rfl), dts_one (DW.dt (dw_or (dt_cmp (dop_eq hu64) (de_ix (dix_at hu1) (de_v 6) de_int (fun _ _ => rfl)) de_int rfl) (dw_or1 (dt_cmp (dop_in hu) (de_tup (da_cons (de_ix (dix_at hu1) (de_v 6) de_int (fun _ _ => rfl)) (da_cons (de_op dop_sub (de_ix (dix_at hu1) (de_v 6) de_int (fun _ _ => rfl)) de_int) da_nil))) (de_v 4) rfl)))), DCl.nil, (de_v 6)⟩)) (dss_one (ds_expr (de_bm PySem.F.plainAttrs_list PySem.F.slot_list_extend PySem.F.type_list_extend dmt_extend (de_v 3) (da_cons (de_lc (own := [("_law_task", 6)]) (vs := [6]) rfl nd (di_any (de_v 5)) (blkOk_by (show blkC N__law_lines (defScope s__law_lines) _ [("_law_task", 6)] = true by decide +kernel)) (fun s H C cl fp => ⟨dg_name nd (i := 6) rfl (by first | exact .inl rfl | exact .inr rfl), dts_nil, DCl.nil, (de_op dop_add (de_v 4) (de_tup (da_cons (de_v 6) da_nil)))⟩)) da_nil))))))) (dss_one (ds_set (i := 1) nd rfl (by first | exact .inl rfl | exact .inr rfl) (de_v 3)))))) (dss_one (ds_ret (de_v 1)))), vc__law_lines hsp⟩
theorem ok_bounds_of {f : Addr} {fd : FuncData} (F : Fun K "bounds_of" "bounds_of" s_bounds_of f fd) (hm : mg "bounds_of" = some (.ref f))   : CalD P w K mg base 1 "bounds_of" sp_bounds_of [] :=
  .of F sc_bounds_of hm (F.binds fun _ _ _ _ _ _ us hl => match us, hl with | [_], _ => rfl) len_bounds_of fun cdv A outer s H ds So Q E hr hgd hsp => by
  have nd := nd_bounds_of; have hu0 := room_u hr
  have hu1 : (A.deeper (envOfC "bounds_of" (defScope s_bounds_of) s.heap.objs.size f cdv)).units + 1 < cLine := by omega
  exact ⟨r_bounds_of, dss_one (ds_ret (de_dc (own := [("task", 1), ("begin", 2), ("end", 3)]) (vs := [1, 2, 3]) hu1 rfl nd (di_any (de_v 0)) (blkOk_by (show blkC N_bounds_of (defScope s_bounds_of) _ [("task", 1), ("begin", 2), ("end", 3)] = true by decide +kernel)) (fun s H C cl fp => ⟨dg_tup rfl (n := 3) (dgs_cons (dg_name nd (i := 1) rfl (by first | exact .inl rfl | exact .inr rfl)) (dgs_cons (dg_name nd (i := 2) rfl (by first | exact .inl rfl | exact .inr rfl)) (dgs_cons (dg_name nd (i := 3) rfl (by first | exact .inl rfl | exact .inr rfl)) dgs_nil))), dts_nil, DCl.nil, de_v 1, de_tup (da_cons (de_v 2) (da_cons (de_v 3) da_nil))⟩))), vc_bounds_of hsp⟩
theorem ok_is_ahead {f : Addr} {fd : FuncData} (F : Fun K "is_ahead" "is_ahead" s_is_ahead f fd) (hm : mg "is_ahead" = some (.ref f)) (C_bounds_of : CalD P w K mg base 1 "bounds_of" sp_bounds_of [])  : CalD P w K mg base 2 "is_ahead" sp_is_ahead [] :=
  .of F sc_is_ahead hm (F.binds fun _ _ _ _ _ _ us hl => match us, hl with | [_, _, _], _ => rfl) len_is_ahead fun cdv A outer s H ds So Q E hr hgd hsp => by
  have nd := nd_is_ahead; have hu0 := room_u hr
  have hu1 : (A.deeper (envOfC "is_ahead" (defScope s_is_ahead) s.heap.objs.size f cdv)).units + 1 < cLine := by omega
  exact ⟨r_is_ahead, dss_cons (ds_set (i := 3) nd rfl (by first | exact .inl rfl | exact .inr rfl) (de_cal C_bounds_of (hr.mono (by decide)) hgd rfl (da_cons (de_v 0) da_nil))) (dss_one (ds_ret (de_cmp dop_lt (de_ix (dix_at hu1) (de_ix (dix_at hu1) (de_v 3) (de_v 1) (fun _ _ => rfl)) de_int (fun _ _ => rfl)) (de_ix (dix_at hu1) (de_ix (dix_at hu1) (de_v 3) (de_v 2) (fun _ _ => rfl)) de_int (fun _ _ => rfl)) rfl))), vc_is_ahead hsp⟩
theorem ok_first_behind {f : Addr} {fd : FuncData} (F : Fun K "first_behind" "first_behind" s_first_behind f fd) (hm : mg "first_behind" = some (.ref f)) (C_is_ahead : CalD P w K mg base 2 "is_ahead" sp_is_ahead [])  : CalD P w K mg base 3 "first_behind" sp_first_behind [] :=
  .of F sc_first_behind hm (F.binds fun _ _ _ _ _ _ us hl => match us, hl with | [_, _, _], _ => rfl) len_first_behind fun cdv A outer s H ds So Q E hr hgd hsp => by
  have nd := nd_first_behind; have hu0 := room_u hr
  have hu64 : (A.deeper (envOfC "first_behind" (defScope s_first_behind) s.heap.objs.size f cdv)).units + 64 < cLine := by omega
  have hu1 : (A.deeper (envOfC "first_behind" (defScope s_first_behind) s.heap.objs.size f cdv)).units + 1 < cLine := by omega
  exact ⟨r_first_behind, dss_cons (ds_lc (i := 3) (own := [("one", 4)]) (vs := [4]) rfl nd rfl rfl (sw_comp (.inl ⟨_, _, _, rfl⟩) rfl rfl rfl rfl) (di_any (de_v 1)) (blkOk_by (show blkC N_first_behind (defScope s_first_behind) _ [("one", 4)] = true by decide +kernel)) (fun s H C cl fp => ⟨dg_name nd (i := 4) rfl (by first | exact .inl rfl | exact .inr rfl), dts_one (dt_val (de_cal C_is_ahead.pure (hr.mono (by decide)) hgd rfl (da_cons (de_v 0) (da_cons (de_v 2) (da_cons (de_v 4) da_nil))))), DCl.nil, (de_v 4)⟩)) (dss_one (ds_ret (de_if (dt_cmp (dop_ne hu64) (de_v 3) (de_lst da_nil) rfl) (de_ix (dix_at hu1) (de_v 3) de_int (fun _ _ => rfl)) de_non))), vc_first_behind hsp⟩
theorem ok_moments_by {f : Addr} {fd : FuncData} (F : Fun K "moments_by" "moments_by" s_moments_by f fd) (hm : mg "moments_by" = some (.ref f)) {c_NoOrder : Addr} (T_exc : ExcK P w K mg base "NoOrder" c_NoOrder ["paper"]) (C_bounds_of : CalD P w K mg base 1 "bounds_of" sp_bounds_of []) (C_first_behind : CalD P w K mg base 3 "first_behind" sp_first_behind []) (B_enumerate : mg "enumerate" = none) (B_tuple : mg "tuple" = none) (B_max : mg "max" = none) : CalD P w K mg base 4 "moments_by" (sp_moments_by c_NoOrder) [] :=
  .ofX F sc_moments_by hm (F.binds fun _ _ _ _ _ _ us hl => match us, hl with | [_, _], _ => rfl) len_moments_by fun cdv A outer s H ds So Q E hr hgd hsp => by
  have nd := nd_moments_by; have hu0 := room_u hr
  have hu1 : (A.deeper (envOfC "moments_by" (defScope s_moments_by) s.heap.objs.size f cdv)).units + 1 < cLine := by omega
  exact ⟨r_moments_by c_NoOrder E, dss_cons (ds_par3 (i := 2) (j := 3) (l := 4) rfl nd rfl rfl rfl (by decide) (by decide) (by decide) rfl rfl rfl (da_cons (de_cal C_bounds_of (hr.mono (by decide)) hgd rfl (da_cons (de_v 0) da_nil)) (da_cons (de_lst da_nil) (da_cons de_int da_nil))) rfl) (dss_cons (ds_for own_of rfl (di_enum rfl B_enumerate (da_cons (de_v 1) da_nil)) (dg_tup rfl (n := 2) (dgs_cons (dg_name nd (i := 5) rfl (by first | exact .inl rfl | exact .inr rfl)) (dgs_cons (dg_name nd (i := 6) rfl (by first | exact .inl rfl | exact .inr rfl)) dgs_nil))) (dss_cons (ds_set (i := 7) nd rfl (by first | exact .inl rfl | exact .inr rfl) (de_cal C_first_behind.pure (hr.mono (by decide)) hgd rfl (da_cons (de_v 0) (da_cons (de_cut (de_v 1) dpo_none (dpo_some (de_v 5))) (da_cons (de_v 6) da_nil))))) (dss_cons (ds_if (dt_cmp dop_notN (de_v 7) de_non rfl) (dss_one (ds_raise T_exc (by decide) rfl (hr.mono (by decide)) rfl tk_of (da_cons (de_tup (da_cons (de_v 7) (da_cons (de_v 6) da_nil))) da_nil))) dss_nil) (dss_cons (ds_set (i := 4) nd rfl (by first | exact .inl rfl | exact .inr rfl) (de_callB (dcall_maxI rfl) rfl B_max rfl (da_cons (de_v 4) (da_cons (de_ix (dix_at hu1) (de_ix (dix_at hu1) (de_v 2) (de_v 6) (fun _ _ => rfl)) de_int (fun _ _ => rfl)) da_nil)))) (dss_one (ds_expr (de_bm PySem.F.plainAttrs_list PySem.F.slot_list_append PySem.F.type_list_append dmt_append (de_v 3) (da_cons (de_tup (da_cons (de_v 6) (da_cons (de_v 4) da_nil))) da_nil)))))))) (dss_one (ds_ret (de_callT (dcall_tuple) rfl B_tuple rfl (da_cons (de_v 3) da_nil))))), vc_moments_by hsp⟩
theorem ok__law_said {f : Addr} {fd : FuncData} (F : Fun K "_law_said" "_law_said" s__law_said f fd) (hm : mg "_law_said" = some (.ref f)) {c_PaperError c_DrawerError : Addr} {c_NoOrder : Addr} (T_exc : ExcK P w K mg base "NoOrder" c_NoOrder ["paper"]) (M_NoOrder : mg "NoOrder" = some (.ref c_NoOrder)) (M_PaperError : mg "PaperError" = some (.ref c_PaperError)) (M_DrawerError : mg "DrawerError" = some (.ref c_DrawerError)) (hex : PySem.W.exmOne K (.ref c_NoOrder) (.ref c_NoOrder) = some true) (KO : KindsOk K c_NoOrder [(c_NoOrder, true), (c_PaperError, true), (c_DrawerError, true)]) (T_is : ExcIs K c_NoOrder) (XF : XfC K c_NoOrder) (C_moments_by : CalD P w K mg base 4 "moments_by" (sp_moments_by c_NoOrder) [])  : CalD P w K mg base 5 "_law_said" sp__law_said [] :=
  .ofF F sc__law_said hm (F.binds fun _ _ _ _ _ _ us hl => match us, hl with | [_, _], _ => rfl) len__law_said fun cdv A outer s H ds So Q E hr hgd hsp => by
  have nd := nd__law_said; have hu0 := room_u hr
  exact ⟨r__law_said c_NoOrder c_PaperError c_DrawerError, dsf_cons (DSm.g (ds_set (i := 2) nd rfl (by first | exact .inl rfl | exact .inr rfl) de_non)) (dsf_cons (ds_try0 rfl rfl ⟨rfl, by decide, .inl M_NoOrder⟩ hex (fun E pn xe tk po => DSs.f (dss_one (ds_set (i := 2) nd rfl (by first | exact .inl rfl | exact .inr rfl) (de_calX C_moments_by.pure (hr.mono (by decide)) hgd rfl tk (da_cons (de_v 0) (da_cons (de_v 1) da_nil)))))) (fun a oe pn => DSs.f (dss_one (ds_set (i := 2) nd rfl (by first | exact .inl rfl | exact .inr rfl) de_non)))) (DSs.f (dss_one (ds_ret (de_v 2))))), vc__law_said hsp⟩
theorem ok__law_tried {f : Addr} {fd : FuncData} (F : Fun K "_law_tried" "_law_tried" s__law_tried f fd) (hm : mg "_law_tried" = some (.ref f))  (B_dict : mg "dict" = none) (B_sorted : mg "sorted" = none) (B_set : mg "set" = none) : CalD P w K mg base 1 "_law_tried" sp__law_tried [] :=
  .of F sc__law_tried hm (F.binds fun _ _ _ _ _ _ us hl => match us, hl with | [_, _], _ => rfl) len__law_tried fun cdv A outer s H ds So Q E hr hgd hsp => by
  have nd := nd__law_tried; have hu0 := room_u hr
  have hu : (A.deeper (envOfC "_law_tried" (defScope s__law_tried) s.heap.objs.size f cdv)).units + 65 < cLine := by omega
  have hu64 : (A.deeper (envOfC "_law_tried" (defScope s__law_tried) s.heap.objs.size f cdv)).units + 64 < cLine := by omega
  have hu1 : (A.deeper (envOfC "_law_tried" (defScope s__law_tried) s.heap.objs.size f cdv)).units + 1 < cLine := by omega
  have hu2 : (A.deeper (envOfC "_law_tried" (defScope s__law_tried) s.heap.objs.size f cdv)).units + 2 < cLine := by omega
  exact ⟨r__law_tried, dss_cons (ds_set (i := 2) nd rfl (by first | exact .inl rfl | exact .inr rfl) (de_callT (dcall_dict hu2 rfl) rfl B_dict rfl (da_cons (de_lc (own := [("_law_row", 6)]) (vs := [6]) rfl nd (di_any (de_v 0)) (blkOk_by (show blkC N__law_tried (defScope s__law_tried) _ [("_law_row", 6)] = true by decide +kernel)) (fun s H C cl fp => ⟨dg_name nd (i := 6) rfl (by first | exact .inl rfl | exact .inr rfl), dts_nil, DCl.nil, (de_tup (da_cons (de_ix (dix_at hu1) (de_v 6) de_int (fun _ _ => rfl)) (da_cons (de_v 6) da_nil)))⟩)) da_nil))) (dss_cons (ds_set (i := 3) nd rfl (by first | exact .inl rfl | exact .inr rfl) (de_lst (da_cons (de_tup da_nil) da_nil))) (dss_cons (ds_for .never rfl (di_any (de_v 1)) (dg_name nd (i := 4) rfl (by first | exact .inl rfl | exact .inr rfl)) (dss_cons (ds_set (i := 5) nd rfl (by first | exact .inl rfl | exact .inr rfl) (de_lst da_nil)) (dss_cons (ds_for .never rfl (di_any (de_v 3)) (dg_name nd (i := 6) rfl (by first | exact .inl rfl | exact .inr rfl)) (dss_one (ds_for .never rfl (di_any (de_sortedSet rfl hu B_sorted B_set rfl rfl (de_lc (own := [("_law_one", 9)]) (vs := [9]) rfl nd (di_any (de_v 0)) (blkOk_by (show blkC N__law_tried (defScope s__law_tried) _ [("_law_one", 9)] = true by decide +kernel)) (fun s H C cl fp => ⟨dg_name nd (i := 9) rfl (by first | exact .inl rfl | exact .inr rfl), dts_nil, DCl.nil, (de_ix (dix_at hu1) (de_v 9) de_int (fun _ _ => rfl))⟩)))) (dg_name nd (i := 7) rfl (by first | exact .inl rfl | exact .inr rfl)) (dss_cons (ds_set (i := 8) nd rfl (by first | exact .inl rfl | exact .inr rfl) (de_chain dop_le dop_le (de_ix (dix_at hu1) (de_ix (dix_at hu1) (de_v 2) (de_v 4) (fun _ _ => rfl)) de_int (fun _ _ => rfl)) (de_v 7) (de_ix (dix_at hu1) (de_ix (dix_at hu1) (de_v 2) (de_v 4) (fun _ _ => rfl)) de_int (fun _ _ => rfl)) rfl)) (dss_one (ds_if (DW.dt (dw_and (dt_val (de_v 8)) (dw_and1 (DW.dt (dw_or (dt_cmp (dop_eq hu64) (de_v 6) (de_tup da_nil) rfl) (dw_or1 (dt_cmp dop_le (de_ix (dix_at hu1) (de_v 6) (de_un dun_neg de_int) (fun _ _ => rfl)) (de_v 7) rfl))))))) (dss_one (ds_expr (de_bm PySem.F.plainAttrs_list PySem.F.slot_list_append PySem.F.type_list_append dmt_append (de_v 5) (da_cons (de_op dop_add (de_v 6) (de_tup (da_cons (de_v 7) da_nil))) da_nil)))) dss_nil)))))) (dss_one (ds_set (i := 3) nd rfl (by first | exact .inl rfl | exact .inr rfl) (de_v 5)))))) (dss_one (ds_ret (de_v 3))))), vc__law_tried hsp⟩
theorem ok__law_fits {f : Addr} {fd : FuncData} (F : Fun K "_law_fits" "_law_fits" s__law_fits f fd) (hm : mg "_law_fits" = some (.ref f))  (B_dict : mg "dict" = none) (B_range : mg "range" = none) (B_len : mg "len" = none) : CalD P w K mg base 1 "_law_fits" sp__law_fits [] :=
  .of F sc__law_fits hm (F.binds fun _ _ _ _ _ _ us hl => match us, hl with | [_, _], _ => rfl) len__law_fits fun cdv A outer s H ds So Q E hr hgd hsp => by
  have nd := nd__law_fits; have hu0 := room_u hr
  have hu1 : (A.deeper (envOfC "_law_fits" (defScope s__law_fits) s.heap.objs.size f cdv)).units + 1 < cLine := by omega
  have hu2 : (A.deeper (envOfC "_law_fits" (defScope s__law_fits) s.heap.objs.size f cdv)).units + 2 < cLine := by omega
  exact ⟨r__law_fits, dss_cons (ds_set (i := 2) nd rfl (by first | exact .inl rfl | exact .inr rfl) (de_callT (dcall_dict hu2 rfl) rfl B_dict rfl (da_cons (de_lc (own := [("_law_task", 5), ("_law_begin", 6), ("_law_end", 7)]) (vs := [5, 6, 7]) rfl nd (di_any (de_v 0)) (blkOk_by (show blkC N__law_fits (defScope s__law_fits) _ [("_law_task", 5), ("_law_begin", 6), ("_law_end", 7)] = true by decide +kernel)) (fun s H C cl fp => ⟨dg_tup rfl (n := 3) (dgs_cons (dg_name nd (i := 5) rfl (by first | exact .inl rfl | exact .inr rfl)) (dgs_cons (dg_name nd (i := 6) rfl (by first | exact .inl rfl | exact .inr rfl)) (dgs_cons (dg_name nd (i := 7) rfl (by first | exact .inl rfl | exact .inr rfl)) dgs_nil))), dts_nil, DCl.nil, (de_tup (da_cons (de_v 5) (da_cons (de_tup (da_cons (de_v 6) (da_cons (de_v 7) da_nil))) da_nil)))⟩)) da_nil))) (dss_cons (ds_for .never rfl (di_range1 rfl B_range (da_cons (de_callB (dcall_len) rfl B_len rfl (da_cons (de_v 1) da_nil)) da_nil)) (dg_name nd (i := 3) rfl (by first | exact .inl rfl | exact .inr rfl)) (dss_one (ds_for .never rfl (di_range2 rfl B_range (da_cons (de_op dop_add (de_v 3) de_int) (da_cons (de_callB (dcall_len) rfl B_len rfl (da_cons (de_v 1) da_nil)) da_nil))) (dg_name nd (i := 4) rfl (by first | exact .inl rfl | exact .inr rfl)) (dss_one (ds_if (dt_cmp dop_lt (de_ix (dix_at hu1) (de_ix (dix_at hu1) (de_v 2) (de_ix (dix_at hu1) (de_v 1) (de_v 4) (fun _ _ => rfl)) (fun _ _ => rfl)) de_int (fun _ _ => rfl)) (de_ix (dix_at hu1) (de_ix (dix_at hu1) (de_v 2) (de_ix (dix_at hu1) (de_v 1) (de_v 3) (fun _ _ => rfl)) (fun _ _ => rfl)) de_int (fun _ _ => rfl)) rfl) (dss_one (ds_ret de_bl)) dss_nil))))) (dss_one (ds_ret de_bl))), vc__law_fits hsp⟩
theorem fn_law {f : Addr} {fd : FuncData} (F : Fun K "law" "law" s_law f fd) (C__law_source : CalD P w K mg base 1 "_law_source" sp__law_source []) (C__law_scene : CalD P w K mg base 5 "_law_scene" sp__law_scene []) (C__law_few : CalD P w K mg base 1 "_law_few" sp__law_few []) (C__law_lines : CalD P w K mg base 1 "_law_lines" sp__law_lines []) (C__law_said : CalD P w K mg base 5 "_law_said" sp__law_said []) (C__law_tried : CalD P w K mg base 1 "_law_tried" sp__law_tried []) (C__law_fits : CalD P w K mg base 1 "_law_fits" sp__law_fits []) (B_range : mg "range" = none) (B_len : mg "len" = none) (B_repr : mg "repr" = none) (B_min : mg "min" = none) (B_tuple : mg "tuple" = none) (B_list : mg "list" = none) (B_zip : mg "zip" = none) : FnD P w K mg base 6 f fd ["_law_script"] sp_law :=
  .of F sc_law len_law fun cdv A outer s H ds So Q E hr hgd hsp => by
  have nd := nd_law; have hu0 := room_u hr
  have hu : (A.deeper (envOfC "law" (defScope s_law) s.heap.objs.size f cdv)).units + 65 < cLine := by omega
  have hu64 : (A.deeper (envOfC "law" (defScope s_law) s.heap.objs.size f cdv)).units + 64 < cLine := by omega
  have hu1 : (A.deeper (envOfC "law" (defScope s_law) s.heap.objs.size f cdv)).units + 1 < cLine := by omega
  exact ⟨r_law, DSs.nox (dss_cons (ds_set (i := 1) nd rfl (by first | exact .inl rfl | exact .inr rfl) (de_cal C__law_source (hr.mono (by decide)) hgd rfl (da_cons (de_v 0) da_nil))) (dss_cons (ds_asg (de_cal C__law_scene (hr.mono (by decide)) hgd rfl (da_cons (de_v 1) da_nil)) (dg_tup rfl (n := 3) (dgs_cons (dg_name nd (i := 4) rfl (by first | exact .inl rfl | exact .inr rfl)) (dgs_cons (dg_name nd (i := 5) rfl (by first | exact .inl rfl | exact .inr rfl)) (dgs_cons (dg_name nd (i := 6) rfl (by first | exact .inl rfl | exact .inr rfl)) dgs_nil))))) (dss_cons (ds_set (i := 2) nd rfl (by first | exact .inl rfl | exact .inr rfl) (de_cal C__law_few.pure (hr.mono (by decide)) hgd rfl (da_cons (de_v 6) da_nil))) (dss_cons (ds_for .never rfl (di_any (de_cal C__law_lines (hr.mono (by decide)) hgd rfl (da_cons (de_lc (own := [("_law_row", 11)]) (vs := [11]) rfl nd (di_any (de_v 2)) (blkOk_by (show blkC N_law (defScope s_law) _ [("_law_row", 11)] = true by decide +kernel)) (fun s H C cl fp => ⟨dg_name nd (i := 11) rfl (by first | exact .inl rfl | exact .inr rfl), dts_nil, DCl.nil, (de_ix (dix_at hu1) (de_v 11) de_int (fun _ _ => rfl))⟩)) da_nil))) (dg_name nd (i := 3) rfl (by first | exact .inl rfl | exact .inr rfl)) (dss_cons (ds_par (i := 7) (j := 8) rfl nd rfl rfl (by decide) rfl rfl (da_cons (de_cal C__law_said.pure (hr.mono (by decide)) hgd rfl (da_cons (de_v 2) (da_cons (de_v 3) da_nil))) (da_cons (de_cal C__law_tried (hr.mono (by decide)) hgd rfl (da_cons (de_v 2) (da_cons (de_v 3) da_nil))) da_nil)) rfl) (dss_cons (ds_if (DW.dt (dw_or (dt_cmp (dop_ne hu64) (de_cmp dop_isN (de_v 7) de_non rfl) (de_cmp (dop_eq hu64) (de_v 8) (de_lst da_nil) rfl) rfl) (dw_or1 (dt_cmp (dop_ne hu64) (de_cmp (dop_ne hu64) (de_v 8) (de_lst da_nil) rfl) (de_cal C__law_fits.pure (hr.mono (by decide)) hgd rfl (da_cons (de_v 2) (da_cons (de_v 3) da_nil))) rfl)))) (dss_one (ds_ret de_bl)) dss_nil) (dss_one (ds_if (dt_cmp dop_notN (de_v 7) de_non rfl) (dss_cons (ds_set (i := 9) nd rfl (by first | exact .inl rfl | exact .inr rfl) (de_lst da_nil)) (dss_cons (ds_for .never rfl (di_range1 rfl B_range (da_cons (de_callB (dcall_len) rfl B_len rfl (da_cons (de_v 3) da_nil)) da_nil)) (dg_name nd (i := 10) rfl (by first | exact .inl rfl | exact .inr rfl)) (dss_one (ds_expr (de_bm PySem.F.plainAttrs_list PySem.F.slot_list_append PySem.F.type_list_append dmt_append (de_v 9) (da_cons (de_callB (dcall_min rfl) rfl B_min rfl (da_cons (de_lc (own := [("_law_row", 11)]) (vs := [11]) rfl nd (di_any (de_v 8)) (blkOk_by (show blkC N_law (defScope s_law) _ [("_law_row", 11)] = true by decide +kernel)) (fun s H C cl fp => ⟨dg_name nd (i := 11) rfl (by first | exact .inl rfl | exact .inr rfl), dts_nil, DCl.nil, (de_ix (dix_at hu1) (de_v 11) (de_v 10) (fun _ _ => rfl))⟩)) da_nil)) da_nil))))) (dss_one (ds_if (dt_cmp (dop_ne hu64) (de_callB (dcall_reprA hu hgd) rfl B_repr rfl (da_cons (de_v 7) da_nil)) (de_callB (dcall_reprA hu hgd) rfl B_repr rfl (da_cons (de_callT (dcall_tuple) rfl B_tuple rfl (da_cons (de_listZip rfl B_list rfl rfl B_zip (da_cons (de_v 3) (da_cons (de_v 9) da_nil))) da_nil)) da_nil)) rfl) (dss_one (ds_ret de_bl)) dss_nil)))) dss_nil))))) (dss_one (ds_ret de_bl)))))), vc_law hsp⟩
theorem all_mk {h : Heap} {fa : Addr} (X : K.In h) (G : h.Ns mainGlobals mg) (hfa : mg "law" = some (.ref fa))
    {f__law_source : Addr} {od__law_source an__law_source : Option Addr} {sl__law_source : Array (Option Value)} {oc__law_source kV__law_source dc__law_source pm__law_source cd__law_source ct__law_source : Value}
    {f__law_pick : Addr} {od__law_pick an__law_pick : Option Addr} {sl__law_pick : Array (Option Value)} {oc__law_pick kV__law_pick dc__law_pick pm__law_pick cd__law_pick ct__law_pick : Value}
    {f__law_tree : Addr} {od__law_tree an__law_tree : Option Addr} {sl__law_tree : Array (Option Value)} {oc__law_tree kV__law_tree dc__law_tree pm__law_tree cd__law_tree ct__law_tree : Value}
    {f__law_ways : Addr} {od__law_ways an__law_ways : Option Addr} {sl__law_ways : Array (Option Value)} {oc__law_ways kV__law_ways dc__law_ways pm__law_ways cd__law_ways ct__law_ways : Value}
    {f__law_way : Addr} {od__law_way an__law_way : Option Addr} {sl__law_way : Array (Option Value)} {oc__law_way kV__law_way dc__law_way pm__law_way cd__law_way ct__law_way : Value}
    {f__law_deed : Addr} {od__law_deed an__law_deed : Option Addr} {sl__law_deed : Array (Option Value)} {oc__law_deed kV__law_deed dc__law_deed pm__law_deed cd__law_deed ct__law_deed : Value}
    {f__law_hands : Addr} {od__law_hands an__law_hands : Option Addr} {sl__law_hands : Array (Option Value)} {oc__law_hands kV__law_hands dc__law_hands pm__law_hands cd__law_hands ct__law_hands : Value}
    {f__law_spans : Addr} {od__law_spans an__law_spans : Option Addr} {sl__law_spans : Array (Option Value)} {oc__law_spans kV__law_spans dc__law_spans pm__law_spans cd__law_spans ct__law_spans : Value}
    {f__law_scene : Addr} {od__law_scene an__law_scene : Option Addr} {sl__law_scene : Array (Option Value)} {oc__law_scene kV__law_scene dc__law_scene pm__law_scene cd__law_scene ct__law_scene : Value}
    {f__law_few : Addr} {od__law_few an__law_few : Option Addr} {sl__law_few : Array (Option Value)} {oc__law_few kV__law_few dc__law_few pm__law_few cd__law_few ct__law_few : Value}
    {f__law_lines : Addr} {od__law_lines an__law_lines : Option Addr} {sl__law_lines : Array (Option Value)} {oc__law_lines kV__law_lines dc__law_lines pm__law_lines cd__law_lines ct__law_lines : Value}
    {f_bounds_of : Addr} {od_bounds_of an_bounds_of : Option Addr} {sl_bounds_of : Array (Option Value)} {oc_bounds_of kV_bounds_of dc_bounds_of pm_bounds_of cd_bounds_of ct_bounds_of : Value}
    {f_is_ahead : Addr} {od_is_ahead an_is_ahead : Option Addr} {sl_is_ahead : Array (Option Value)} {oc_is_ahead kV_is_ahead dc_is_ahead pm_is_ahead cd_is_ahead ct_is_ahead : Value}
    {f_first_behind : Addr} {od_first_behind an_first_behind : Option Addr} {sl_first_behind : Array (Option Value)} {oc_first_behind kV_first_behind dc_first_behind pm_first_behind cd_first_behind ct_first_behind : Value}
    {f_moments_by : Addr} {od_moments_by an_moments_by : Option Addr} {sl_moments_by : Array (Option Value)} {oc_moments_by kV_moments_by dc_moments_by pm_moments_by cd_moments_by ct_moments_by : Value}
    {f__law_said : Addr} {od__law_said an__law_said : Option Addr} {sl__law_said : Array (Option Value)} {oc__law_said kV__law_said dc__law_said pm__law_said cd__law_said ct__law_said : Value}
    {f__law_tried : Addr} {od__law_tried an__law_tried : Option Addr} {sl__law_tried : Array (Option Value)} {oc__law_tried kV__law_tried dc__law_tried pm__law_tried cd__law_tried ct__law_tried : Value}
    {f__law_fits : Addr} {od__law_fits an__law_fits : Option Addr} {sl__law_fits : Array (Option Value)} {oc__law_fits kV__law_fits dc__law_fits pm__law_fits cd__law_fits ct__law_fits : Value}
    {f_law : Addr} {od_law an_law : Option Addr} {sl_law : Array (Option Value)} {oc_law kV_law dc_law pm_law cd_law ct_law : Value}
    {c_NoOrder c_PaperError c_DrawerError : Addr} {xnm xq : Str} {xN : Addr} {xbs xbm : List Value} {xsn : List Str} {xsub : List Value} {xab : Bool} {xcol : Option Bool} {xdd : Option Addr} {xm0 xm1 xm2 xm3 xm5 : Option Value} {f_init : Addr} {xod xan : Option Addr} {xsl : Array (Option Value)} {xoc xkV xdc xpm xcd xct mcB : Value}
    (a__law_source : PySem.W.nsIn K mainGlobals "_law_source" = some (some (.ref f__law_source))) (l__law_source : K.lookup f__law_source = some ⟨oc__law_source, od__law_source, .func (PySem.W.fnOf "_law_source" "_law_source" (defArgs s__law_source) (defBody s__law_source) (defScope s__law_source) .none kV__law_source dc__law_source pm__law_source an__law_source cd__law_source ct__law_source), sl__law_source⟩) (c__law_source : PySem.W.codeIn K cd__law_source "_law_source" = true) (k__law_source : PySem.W.keepIn K (.ref f__law_source) = true)
    (a__law_pick : PySem.W.nsIn K mainGlobals "_law_pick" = some (some (.ref f__law_pick))) (l__law_pick : K.lookup f__law_pick = some ⟨oc__law_pick, od__law_pick, .func (PySem.W.fnOf "_law_pick" "_law_pick" (defArgs s__law_pick) (defBody s__law_pick) (defScope s__law_pick) .none kV__law_pick dc__law_pick pm__law_pick an__law_pick cd__law_pick ct__law_pick), sl__law_pick⟩) (c__law_pick : PySem.W.codeIn K cd__law_pick "_law_pick" = true) (k__law_pick : PySem.W.keepIn K (.ref f__law_pick) = true)
    (a__law_tree : PySem.W.nsIn K mainGlobals "_law_tree" = some (some (.ref f__law_tree))) (l__law_tree : K.lookup f__law_tree = some ⟨oc__law_tree, od__law_tree, .func (PySem.W.fnOf "_law_tree" "_law_tree" (defArgs s__law_tree) (defBody s__law_tree) (defScope s__law_tree) .none kV__law_tree dc__law_tree pm__law_tree an__law_tree cd__law_tree ct__law_tree), sl__law_tree⟩) (c__law_tree : PySem.W.codeIn K cd__law_tree "_law_tree" = true) (k__law_tree : PySem.W.keepIn K (.ref f__law_tree) = true)
    (a__law_ways : PySem.W.nsIn K mainGlobals "_law_ways" = some (some (.ref f__law_ways))) (l__law_ways : K.lookup f__law_ways = some ⟨oc__law_ways, od__law_ways, .func (PySem.W.fnOf "_law_ways" "_law_ways" (defArgs s__law_ways) (defBody s__law_ways) (defScope s__law_ways) .none kV__law_ways dc__law_ways pm__law_ways an__law_ways cd__law_ways ct__law_ways), sl__law_ways⟩) (c__law_ways : PySem.W.codeIn K cd__law_ways "_law_ways" = true) (k__law_ways : PySem.W.keepIn K (.ref f__law_ways) = true)
    (a__law_way : PySem.W.nsIn K mainGlobals "_law_way" = some (some (.ref f__law_way))) (l__law_way : K.lookup f__law_way = some ⟨oc__law_way, od__law_way, .func (PySem.W.fnOf "_law_way" "_law_way" (defArgs s__law_way) (defBody s__law_way) (defScope s__law_way) .none kV__law_way dc__law_way pm__law_way an__law_way cd__law_way ct__law_way), sl__law_way⟩) (c__law_way : PySem.W.codeIn K cd__law_way "_law_way" = true) (k__law_way : PySem.W.keepIn K (.ref f__law_way) = true)
    (a__law_deed : PySem.W.nsIn K mainGlobals "_law_deed" = some (some (.ref f__law_deed))) (l__law_deed : K.lookup f__law_deed = some ⟨oc__law_deed, od__law_deed, .func (PySem.W.fnOf "_law_deed" "_law_deed" (defArgs s__law_deed) (defBody s__law_deed) (defScope s__law_deed) .none kV__law_deed dc__law_deed pm__law_deed an__law_deed cd__law_deed ct__law_deed), sl__law_deed⟩) (c__law_deed : PySem.W.codeIn K cd__law_deed "_law_deed" = true) (k__law_deed : PySem.W.keepIn K (.ref f__law_deed) = true)
    (a__law_hands : PySem.W.nsIn K mainGlobals "_law_hands" = some (some (.ref f__law_hands))) (l__law_hands : K.lookup f__law_hands = some ⟨oc__law_hands, od__law_hands, .func (PySem.W.fnOf "_law_hands" "_law_hands" (defArgs s__law_hands) (defBody s__law_hands) (defScope s__law_hands) .none kV__law_hands dc__law_hands pm__law_hands an__law_hands cd__law_hands ct__law_hands), sl__law_hands⟩) (c__law_hands : PySem.W.codeIn K cd__law_hands "_law_hands" = true) (k__law_hands : PySem.W.keepIn K (.ref f__law_hands) = true)
    (a__law_spans : PySem.W.nsIn K mainGlobals "_law_spans" = some (some (.ref f__law_spans))) (l__law_spans : K.lookup f__law_spans = some ⟨oc__law_spans, od__law_spans, .func (PySem.W.fnOf "_law_spans" "_law_spans" (defArgs s__law_spans) (defBody s__law_spans) (defScope s__law_spans) .none kV__law_spans dc__law_spans pm__law_spans an__law_spans cd__law_spans ct__law_spans), sl__law_spans⟩) (c__law_spans : PySem.W.codeIn K cd__law_spans "_law_spans" = true) (k__law_spans : PySem.W.keepIn K (.ref f__law_spans) = true)
    (a__law_scene : PySem.W.nsIn K mainGlobals "_law_scene" = some (some (.ref f__law_scene))) (l__law_scene : K.lookup f__law_scene = some ⟨oc__law_scene, od__law_scene, .func (PySem.W.fnOf "_law_scene" "_law_scene" (defArgs s__law_scene) (defBody s__law_scene) (defScope s__law_scene) .none kV__law_scene dc__law_scene pm__law_scene an__law_scene cd__law_scene ct__law_scene), sl__law_scene⟩) (c__law_scene : PySem.W.codeIn K cd__law_scene "_law_scene" = true) (k__law_scene : PySem.W.keepIn K (.ref f__law_scene) = true)
    (a__law_few : PySem.W.nsIn K mainGlobals "_law_few" = some (some (.ref f__law_few))) (l__law_few : K.lookup f__law_few = some ⟨oc__law_few, od__law_few, .func (PySem.W.fnOf "_law_few" "_law_few" (defArgs s__law_few) (defBody s__law_few) (defScope s__law_few) .none kV__law_few dc__law_few pm__law_few an__law_few cd__law_few ct__law_few), sl__law_few⟩) (c__law_few : PySem.W.codeIn K cd__law_few "_law_few" = true) (k__law_few : PySem.W.keepIn K (.ref f__law_few) = true)
    (a__law_lines : PySem.W.nsIn K mainGlobals "_law_lines" = some (some (.ref f__law_lines))) (l__law_lines : K.lookup f__law_lines = some ⟨oc__law_lines, od__law_lines, .func (PySem.W.fnOf "_law_lines" "_law_lines" (defArgs s__law_lines) (defBody s__law_lines) (defScope s__law_lines) .none kV__law_lines dc__law_lines pm__law_lines an__law_lines cd__law_lines ct__law_lines), sl__law_lines⟩) (c__law_lines : PySem.W.codeIn K cd__law_lines "_law_lines" = true) (k__law_lines : PySem.W.keepIn K (.ref f__law_lines) = true)
    (a_bounds_of : PySem.W.nsIn K mainGlobals "bounds_of" = some (some (.ref f_bounds_of))) (l_bounds_of : K.lookup f_bounds_of = some ⟨oc_bounds_of, od_bounds_of, .func (PySem.W.fnOf "bounds_of" "bounds_of" (defArgs s_bounds_of) (defBody s_bounds_of) (defScope s_bounds_of) .none kV_bounds_of dc_bounds_of pm_bounds_of an_bounds_of cd_bounds_of ct_bounds_of), sl_bounds_of⟩) (c_bounds_of : PySem.W.codeIn K cd_bounds_of "bounds_of" = true) (k_bounds_of : PySem.W.keepIn K (.ref f_bounds_of) = true)
    (a_is_ahead : PySem.W.nsIn K mainGlobals "is_ahead" = some (some (.ref f_is_ahead))) (l_is_ahead : K.lookup f_is_ahead = some ⟨oc_is_ahead, od_is_ahead, .func (PySem.W.fnOf "is_ahead" "is_ahead" (defArgs s_is_ahead) (defBody s_is_ahead) (defScope s_is_ahead) .none kV_is_ahead dc_is_ahead pm_is_ahead an_is_ahead cd_is_ahead ct_is_ahead), sl_is_ahead⟩) (c_is_ahead : PySem.W.codeIn K cd_is_ahead "is_ahead" = true) (k_is_ahead : PySem.W.keepIn K (.ref f_is_ahead) = true)
    (a_first_behind : PySem.W.nsIn K mainGlobals "first_behind" = some (some (.ref f_first_behind))) (l_first_behind : K.lookup f_first_behind = some ⟨oc_first_behind, od_first_behind, .func (PySem.W.fnOf "first_behind" "first_behind" (defArgs s_first_behind) (defBody s_first_behind) (defScope s_first_behind) .none kV_first_behind dc_first_behind pm_first_behind an_first_behind cd_first_behind ct_first_behind), sl_first_behind⟩) (c_first_behind : PySem.W.codeIn K cd_first_behind "first_behind" = true) (k_first_behind : PySem.W.keepIn K (.ref f_first_behind) = true)
    (a_moments_by : PySem.W.nsIn K mainGlobals "moments_by" = some (some (.ref f_moments_by))) (l_moments_by : K.lookup f_moments_by = some ⟨oc_moments_by, od_moments_by, .func (PySem.W.fnOf "moments_by" "moments_by" (defArgs s_moments_by) (defBody s_moments_by) (defScope s_moments_by) .none kV_moments_by dc_moments_by pm_moments_by an_moments_by cd_moments_by ct_moments_by), sl_moments_by⟩) (c_moments_by : PySem.W.codeIn K cd_moments_by "moments_by" = true) (k_moments_by : PySem.W.keepIn K (.ref f_moments_by) = true)
    (a__law_said : PySem.W.nsIn K mainGlobals "_law_said" = some (some (.ref f__law_said))) (l__law_said : K.lookup f__law_said = some ⟨oc__law_said, od__law_said, .func (PySem.W.fnOf "_law_said" "_law_said" (defArgs s__law_said) (defBody s__law_said) (defScope s__law_said) .none kV__law_said dc__law_said pm__law_said an__law_said cd__law_said ct__law_said), sl__law_said⟩) (c__law_said : PySem.W.codeIn K cd__law_said "_law_said" = true) (k__law_said : PySem.W.keepIn K (.ref f__law_said) = true)
    (a__law_tried : PySem.W.nsIn K mainGlobals "_law_tried" = some (some (.ref f__law_tried))) (l__law_tried : K.lookup f__law_tried = some ⟨oc__law_tried, od__law_tried, .func (PySem.W.fnOf "_law_tried" "_law_tried" (defArgs s__law_tried) (defBody s__law_tried) (defScope s__law_tried) .none kV__law_tried dc__law_tried pm__law_tried an__law_tried cd__law_tried ct__law_tried), sl__law_tried⟩) (c__law_tried : PySem.W.codeIn K cd__law_tried "_law_tried" = true) (k__law_tried : PySem.W.keepIn K (.ref f__law_tried) = true)
    (a__law_fits : PySem.W.nsIn K mainGlobals "_law_fits" = some (some (.ref f__law_fits))) (l__law_fits : K.lookup f__law_fits = some ⟨oc__law_fits, od__law_fits, .func (PySem.W.fnOf "_law_fits" "_law_fits" (defArgs s__law_fits) (defBody s__law_fits) (defScope s__law_fits) .none kV__law_fits dc__law_fits pm__law_fits an__law_fits cd__law_fits ct__law_fits), sl__law_fits⟩) (c__law_fits : PySem.W.codeIn K cd__law_fits "_law_fits" = true) (k__law_fits : PySem.W.keepIn K (.ref f__law_fits) = true)
    (a_law : PySem.W.nsIn K mainGlobals "law" = some (some (.ref f_law))) (l_law : K.lookup f_law = some ⟨oc_law, od_law, .func (PySem.W.fnOf "law" "law" (defArgs s_law) (defBody s_law) (defScope s_law) .none kV_law dc_law pm_law an_law cd_law ct_law), sl_law⟩) (c_law : PySem.W.codeIn K cd_law "law" = true) (k_law : PySem.W.keepIn K (.ref f_law) = true)
    (z_list : PySem.W.nsIn K mainGlobals "list" = some none)
    (z_len : PySem.W.nsIn K mainGlobals "len" = some none)
    (z_range : PySem.W.nsIn K mainGlobals "range" = some none)
    (z_tuple : PySem.W.nsIn K mainGlobals "tuple" = some none)
    (z_sorted : PySem.W.nsIn K mainGlobals "sorted" = some none)
    (z_int : PySem.W.nsIn K mainGlobals "int" = some none)
    (z_dict : PySem.W.nsIn K mainGlobals "dict" = some none)
    (z_enumerate : PySem.W.nsIn K mainGlobals "enumerate" = some none)
    (z_max : PySem.W.nsIn K mainGlobals "max" = some none)
    (z_set : PySem.W.nsIn K mainGlobals "set" = some none)
    (z_repr : PySem.W.nsIn K mainGlobals "repr" = some none)
    (z_min : PySem.W.nsIn K mainGlobals "min" = some none)
    (z_zip : PySem.W.nsIn K mainGlobals "zip" = some none)
    (ya_NoOrder : PySem.W.nsIn K mainGlobals "NoOrder" = some (some (.ref c_NoOrder)))
    (ya_PaperError : PySem.W.nsIn K mainGlobals "PaperError" = some (some (.ref c_PaperError)))
    (ya_DrawerError : PySem.W.nsIn K mainGlobals "DrawerError" = some (some (.ref c_DrawerError)))
    (xL : K.lookup c_NoOrder = some (excClassObj xnm xq c_NoOrder xN xbs xbm true xsn xsub xab xcol xdd xm0 xm1 xm2 xm3 xm5 "ValueError.__new__"))
    (xB : PySem.HandSPX.refsVE xbm = true)
    (xsa : PySem.W.findIn K (.ref c_NoOrder) "__setattr__" = some (some (.builtin "object.__setattr__")))
    (xga : PySem.W.findIn K (.ref c_NoOrder) "__getattribute__" = some (some (.builtin "BaseException.__getattribute__")))
    (xgg : PySem.W.findIn K (.ref c_NoOrder) "__getattr__" = some none)
    (xn_paper : PySem.W.findIn K (.ref c_NoOrder) "paper" = some none)
    (xi : PySem.W.findIn K (.ref c_NoOrder) "__init__" = some (some (.ref f_init)))
    (xt : PySem.W.typeIn K (.ref f_init) = some (.type "function"))
    (xl : K.lookup f_init = some ⟨xoc, xod, .func (PySem.W.fnOf "__init__" "NoOrder.__init__" (defArgs s_init) (defBody s_init) (defScope s_init) .none xkV xdc xpm xan xcd xct), xsl⟩)
    (xc : PySem.W.codeIn K xcd "NoOrder.__init__" = true)
    (xkf : PySem.W.keepIn K (.ref f_init) = true)
    (xk : PySem.W.keepIn K (.ref c_NoOrder) = true)
    (xe : PySem.W.subIn K (.ref c_NoOrder) (.type "BaseException") = some true)
    (xT : PySem.W.typeIn K (.ref c_NoOrder) = some (.type "type"))
    (xh : PySem.W.hasDictIn K c_NoOrder = true)
    (xcl : PySem.W.isClsIn K c_NoOrder = true)
    (xca : PySem.W.findIn K (.ref c_NoOrder) "__class__" = some (some (.builtin "object.__class__")))
    (xsp : PySem.W.specialIn K (.builtin "object.__class__") "__get__" = some (some (.builtin "getset_descriptor.__get__")))
    (xtk : PySem.W.takesIn K (.builtin "object.__class__") = some true)
    (xmo : PySem.W.mroIn K c_NoOrder (.type "object") = some true)
    (bga : PySem.W.specialIn K (.ref c_PaperError) "__getattribute__" = some (some (.builtin "type.__getattribute__")))
    (bty : PySem.W.typeIn K (.ref c_PaperError) = some mcB)
    (brd : PySem.W.readsIn K c_PaperError mcB = true)
    (bfi : PySem.W.findCls K (.ref c_PaperError) mcB "__init__" = some (.val (.builtin "ValueError.__init__")))
    (hex : PySem.W.exmOne K (.ref c_NoOrder) (.ref c_NoOrder) = some true)
    (ki_NoOrder : PySem.W.kitOne K (.ref c_NoOrder) (.ref c_NoOrder) = some true)
    (ki_PaperError : PySem.W.kitOne K (.ref c_NoOrder) (.ref c_PaperError) = some true)
    (ki_DrawerError : PySem.W.kitOne K (.ref c_NoOrder) (.ref c_DrawerError) = some true)
    : ∃ fd : FuncData, (∀ (s : Shared) (u : Value), BindsTo s fd ⟨[u], []⟩ [("_law_script", u)]) ∧ ∀ base : Heap, K.In base → base.Ns mainGlobals mg → FnD P w K mg base 6 fa fd ["_law_script"] sp_law := by
  have e := hfa.symm.trans (PySem.W.mg_of X G a_law)
  cases e
  refine ⟨PySem.W.fnOf "law" "law" (defArgs s_law) (defBody s_law) (defScope s_law) .none kV_law dc_law pm_law an_law cd_law ct_law, fun s v => .of_eq rfl, fun base _ _ => ?_⟩
  have B_list := PySem.W.mg_none_of X G z_list
  have B_len := PySem.W.mg_none_of X G z_len
  have B_range := PySem.W.mg_none_of X G z_range
  have B_tuple := PySem.W.mg_none_of X G z_tuple
  have B_sorted := PySem.W.mg_none_of X G z_sorted
  have B_int := PySem.W.mg_none_of X G z_int
  have B_dict := PySem.W.mg_none_of X G z_dict
  have B_enumerate := PySem.W.mg_none_of X G z_enumerate
  have B_max := PySem.W.mg_none_of X G z_max
  have B_set := PySem.W.mg_none_of X G z_set
  have B_repr := PySem.W.mg_none_of X G z_repr
  have B_min := PySem.W.mg_none_of X G z_min
  have B_zip := PySem.W.mg_none_of X G z_zip
  have M_NoOrder := PySem.W.mg_of X G ya_NoOrder
  have M_PaperError := PySem.W.mg_of X G ya_PaperError
  have M_DrawerError := PySem.W.mg_of X G ya_DrawerError
  have bB : BaseI K c_PaperError mcB := ⟨bga, bty, brd, bfi⟩
  have Fi := fun_mk (st := s_init) xl xc xkf
  have T_exc : ExcK P w K mg base "NoOrder" c_NoOrder ["paper"] := ⟨⟨⟨xnm, xq, xN, xbs, xbm, xsn, xsub, xab, xcol, xdd, xm0, xm1, xm2, xm3, xm5, xL, xB⟩, xsa, xe, xT, xk⟩, ⟨f_init, _, ["self", "paper"], xi, xt, ok_init Fi M_PaperError bB, Fi.binds (ps := ["self", "paper"]) fun _ _ _ _ _ _ us hl => match us, hl with | [_, _], _ => rfl⟩, M_NoOrder, fun n hn => by
    simp only [List.mem_cons, List.not_mem_nil, or_false] at hn
    rcases hn with rfl
    · exact xn_paper⟩
  have KO : KindsOk K c_NoOrder [(c_NoOrder, true), (c_PaperError, true), (c_DrawerError, true)] := fun p hp => by
    simp only [List.mem_cons, List.not_mem_nil, or_false] at hp
    rcases hp with rfl | rfl | rfl
    · exact ki_NoOrder
    · exact ki_PaperError
    · exact ki_DrawerError
  have T_is : ExcIs K c_NoOrder := ⟨xcl, xga, xgg, xe, xca, xsp, xtk, xmo⟩
  have XF : XfC K c_NoOrder := ⟨xga, xgg, xe, xh⟩
  have C__law_source := ok__law_source (P := P) (w := w) (base := base) (fun_mk (st := s__law_source) l__law_source c__law_source k__law_source) (PySem.W.mg_of X G a__law_source)  B_list
  have C__law_pick := ok__law_pick (P := P) (w := w) (base := base) (fun_mk (st := s__law_pick) l__law_pick c__law_pick k__law_pick) (PySem.W.mg_of X G a__law_pick)  B_len
  have C__law_tree := ok__law_tree (P := P) (w := w) (base := base) (fun_mk (st := s__law_tree) l__law_tree c__law_tree k__law_tree) (PySem.W.mg_of X G a__law_tree) C__law_pick B_range B_tuple B_sorted B_int B_len
  have C__law_ways := ok__law_ways (P := P) (w := w) (base := base) (fun_mk (st := s__law_ways) l__law_ways c__law_ways k__law_ways) (PySem.W.mg_of X G a__law_ways)  B_dict B_len
  have C__law_way := ok__law_way (P := P) (w := w) (base := base) (fun_mk (st := s__law_way) l__law_way c__law_way k__law_way) (PySem.W.mg_of X G a__law_way) C__law_pick B_len
  have C__law_deed := ok__law_deed (P := P) (w := w) (base := base) (fun_mk (st := s__law_deed) l__law_deed c__law_deed k__law_deed) (PySem.W.mg_of X G a__law_deed) C__law_way C__law_pick
  have C__law_hands := ok__law_hands (P := P) (w := w) (base := base) (fun_mk (st := s__law_hands) l__law_hands c__law_hands k__law_hands) (PySem.W.mg_of X G a__law_hands) C__law_ways C__law_pick C__law_deed B_range B_tuple B_len
  have C__law_spans := ok__law_spans (P := P) (w := w) (base := base) (fun_mk (st := s__law_spans) l__law_spans c__law_spans k__law_spans) (PySem.W.mg_of X G a__law_spans) C__law_pick B_enumerate B_tuple B_range B_len
  have C__law_scene := ok__law_scene (P := P) (w := w) (base := base) (fun_mk (st := s__law_scene) l__law_scene c__law_scene k__law_scene) (PySem.W.mg_of X G a__law_scene) C__law_tree C__law_hands C__law_pick C__law_spans
  have C__law_few := ok__law_few (P := P) (w := w) (base := base) (fun_mk (st := s__law_few) l__law_few c__law_few k__law_few) (PySem.W.mg_of X G a__law_few)
  have C__law_lines := ok__law_lines (P := P) (w := w) (base := base) (fun_mk (st := s__law_lines) l__law_lines c__law_lines k__law_lines) (PySem.W.mg_of X G a__law_lines)  B_range B_len
  have C_bounds_of := ok_bounds_of (P := P) (w := w) (base := base) (fun_mk (st := s_bounds_of) l_bounds_of c_bounds_of k_bounds_of) (PySem.W.mg_of X G a_bounds_of)
  have C_is_ahead := ok_is_ahead (P := P) (w := w) (base := base) (fun_mk (st := s_is_ahead) l_is_ahead c_is_ahead k_is_ahead) (PySem.W.mg_of X G a_is_ahead) C_bounds_of
  have C_first_behind := ok_first_behind (P := P) (w := w) (base := base) (fun_mk (st := s_first_behind) l_first_behind c_first_behind k_first_behind) (PySem.W.mg_of X G a_first_behind) C_is_ahead
  have C_moments_by := ok_moments_by (P := P) (w := w) (base := base) (fun_mk (st := s_moments_by) l_moments_by c_moments_by k_moments_by) (PySem.W.mg_of X G a_moments_by) T_exc C_bounds_of C_first_behind B_enumerate B_tuple B_max
  have C__law_said := ok__law_said (P := P) (w := w) (base := base) (fun_mk (st := s__law_said) l__law_said c__law_said k__law_said) (PySem.W.mg_of X G a__law_said) T_exc M_NoOrder M_PaperError M_DrawerError hex KO T_is XF C_moments_by
  have C__law_tried := ok__law_tried (P := P) (w := w) (base := base) (fun_mk (st := s__law_tried) l__law_tried c__law_tried k__law_tried) (PySem.W.mg_of X G a__law_tried)  B_dict B_sorted B_set
  have C__law_fits := ok__law_fits (P := P) (w := w) (base := base) (fun_mk (st := s__law_fits) l__law_fits c__law_fits k__law_fits) (PySem.W.mg_of X G a__law_fits)  B_dict B_range B_len
  exact fn_law (fun_mk (st := s_law) l_law c_law k_law) C__law_source C__law_scene C__law_few C__law_lines C__law_said C__law_tried C__law_fits B_range B_len B_repr B_min B_tuple B_list B_zip
end
end K23
open PySem PySem.W PyProof.Rows
set_option maxHeartbeats 0 in
theorem PySem.Challenge.cw_drawerways_k23_whole_moments_or_none_holds : PySem.Challenge.rw_drawerways_k23_whole_moments_or_none.Holds := by
  w_on; o_law; k_head; (case hw => w_witness2)
  k_fill
  refine DL.walk_law (l := PySem.Challenge.rw_drawerways_k23_whole_moments_or_none) (n := 63) (k := 6) (x := "_law_script") (sp := K23.sp_law) rfl (by decide) rfl ⟨rfl, by decide, by decide⟩ (fun w h Y => PySem.W.kIn_of Y) ?F (fun a hl => ⟨a, rfl, fun _ => rfl⟩)
  case F =>
    intro w mg fa h KX G hmg
    refine' K23.all_mk KX G hmg ?a__law_source ?l__law_source ?c__law_source ?k__law_source ?a__law_pick ?l__law_pick ?c__law_pick ?k__law_pick ?a__law_tree ?l__law_tree ?c__law_tree ?k__law_tree ?a__law_ways ?l__law_ways ?c__law_ways ?k__law_ways ?a__law_way ?l__law_way ?c__law_way ?k__law_way ?a__law_deed ?l__law_deed ?c__law_deed ?k__law_deed ?a__law_hands ?l__law_hands ?c__law_hands ?k__law_hands ?a__law_spans ?l__law_spans ?c__law_spans ?k__law_spans ?a__law_scene ?l__law_scene ?c__law_scene ?k__law_scene ?a__law_few ?l__law_few ?c__law_few ?k__law_few ?a__law_lines ?l__law_lines ?c__law_lines ?k__law_lines ?a_bounds_of ?l_bounds_of ?c_bounds_of ?k_bounds_of ?a_is_ahead ?l_is_ahead ?c_is_ahead ?k_is_ahead ?a_first_behind ?l_first_behind ?c_first_behind ?k_first_behind ?a_moments_by ?l_moments_by ?c_moments_by ?k_moments_by ?a__law_said ?l__law_said ?c__law_said ?k__law_said ?a__law_tried ?l__law_tried ?c__law_tried ?k__law_tried ?a__law_fits ?l__law_fits ?c__law_fits ?k__law_fits ?a_law ?l_law ?c_law ?k_law ?z_list ?z_len ?z_range ?z_tuple ?z_sorted ?z_int ?z_dict ?z_enumerate ?z_max ?z_set ?z_repr ?z_min ?z_zip ?ya_NoOrder ?ya_PaperError ?ya_DrawerError ?xL ?xB ?xsa ?xga ?xgg ?xn_paper ?xi ?xt ?xl ?xc ?xkf ?xk ?xe ?xT ?xh ?xcl ?xca ?xsp ?xtk ?xmo ?bga ?bty ?brd ?bfi ?hex ?ki_NoOrder ?ki_PaperError ?ki_DrawerError
    (case a__law_source => first | k_is | rfl)
    (case l__law_source => first | k_is | rfl)
    (case c__law_source => first | k_is | rfl)
    (case k__law_source => first | k_is | rfl)
    (case a__law_pick => first | k_is | rfl)
    (case l__law_pick => first | k_is | rfl)
    (case c__law_pick => first | k_is | rfl)
    (case k__law_pick => first | k_is | rfl)
    (case a__law_tree => first | k_is | rfl)
    (case l__law_tree => first | k_is | rfl)
    (case c__law_tree => first | k_is | rfl)
    (case k__law_tree => first | k_is | rfl)
    (case a__law_ways => first | k_is | rfl)
    (case l__law_ways => first | k_is | rfl)
    (case c__law_ways => first | k_is | rfl)
    (case k__law_ways => first | k_is | rfl)
    (case a__law_way => first | k_is | rfl)
    (case l__law_way => first | k_is | rfl)
    (case c__law_way => first | k_is | rfl)
    (case k__law_way => first | k_is | rfl)
    (case a__law_deed => first | k_is | rfl)
    (case l__law_deed => first | k_is | rfl)
    (case c__law_deed => first | k_is | rfl)
    (case k__law_deed => first | k_is | rfl)
    (case a__law_hands => first | k_is | rfl)
    (case l__law_hands => first | k_is | rfl)
    (case c__law_hands => first | k_is | rfl)
    (case k__law_hands => first | k_is | rfl)
    (case a__law_spans => first | k_is | rfl)
    (case l__law_spans => first | k_is | rfl)
    (case c__law_spans => first | k_is | rfl)
    (case k__law_spans => first | k_is | rfl)
    (case a__law_scene => first | k_is | rfl)
    (case l__law_scene => first | k_is | rfl)
    (case c__law_scene => first | k_is | rfl)
    (case k__law_scene => first | k_is | rfl)
    (case a__law_few => first | k_is | rfl)
    (case l__law_few => first | k_is | rfl)
    (case c__law_few => first | k_is | rfl)
    (case k__law_few => first | k_is | rfl)
    (case a__law_lines => first | k_is | rfl)
    (case l__law_lines => first | k_is | rfl)
    (case c__law_lines => first | k_is | rfl)
    (case k__law_lines => first | k_is | rfl)
    (case a_bounds_of => first | k_is | rfl)
    (case l_bounds_of => first | k_is | rfl)
    (case c_bounds_of => first | k_is | rfl)
    (case k_bounds_of => first | k_is | rfl)
    (case a_is_ahead => first | k_is | rfl)
    (case l_is_ahead => first | k_is | rfl)
    (case c_is_ahead => first | k_is | rfl)
    (case k_is_ahead => first | k_is | rfl)
    (case a_first_behind => first | k_is | rfl)
    (case l_first_behind => first | k_is | rfl)
    (case c_first_behind => first | k_is | rfl)
    (case k_first_behind => first | k_is | rfl)
    (case a_moments_by => first | k_is | rfl)
    (case l_moments_by => first | k_is | rfl)
    (case c_moments_by => first | k_is | rfl)
    (case k_moments_by => first | k_is | rfl)
    (case a__law_said => first | k_is | rfl)
    (case l__law_said => first | k_is | rfl)
    (case c__law_said => first | k_is | rfl)
    (case k__law_said => first | k_is | rfl)
    (case a__law_tried => first | k_is | rfl)
    (case l__law_tried => first | k_is | rfl)
    (case c__law_tried => first | k_is | rfl)
    (case k__law_tried => first | k_is | rfl)
    (case a__law_fits => first | k_is | rfl)
    (case l__law_fits => first | k_is | rfl)
    (case c__law_fits => first | k_is | rfl)
    (case k__law_fits => first | k_is | rfl)
    (case a_law => first | k_is | rfl)
    (case l_law => first | k_is | rfl)
    (case c_law => first | k_is | rfl)
    (case k_law => first | k_is | rfl)
    (case z_list => first | k_is | rfl)
    (case z_len => first | k_is | rfl)
    (case z_range => first | k_is | rfl)
    (case z_tuple => first | k_is | rfl)
    (case z_sorted => first | k_is | rfl)
    (case z_int => first | k_is | rfl)
    (case z_dict => first | k_is | rfl)
    (case z_enumerate => first | k_is | rfl)
    (case z_max => first | k_is | rfl)
    (case z_set => first | k_is | rfl)
    (case z_repr => first | k_is | rfl)
    (case z_min => first | k_is | rfl)
    (case z_zip => first | k_is | rfl)
    (case ya_NoOrder => first | k_is | rfl)
    (case ya_PaperError => first | k_is | rfl)
    (case ya_DrawerError => first | k_is | rfl)
    (case xL => first | k_is | rfl)
    (case xB => first | k_is | rfl)
    (case xsa => first | k_is | rfl)
    (case xga => first | k_is | rfl)
    (case xgg => first | k_is | rfl)
    (case xn_paper => first | k_is | rfl)
    (case xi => first | k_is | rfl)
    (case xt => first | k_is | rfl)
    (case xl => first | k_is | rfl)
    (case xc => first | k_is | rfl)
    (case xkf => first | k_is | rfl)
    (case xk => first | k_is | rfl)
    (case xe => first | k_is | rfl)
    (case xT => first | k_is | rfl)
    (case xh => first | k_is | rfl)
    (case xcl => first | k_is | rfl)
    (case xca => first | k_is | rfl)
    (case xsp => first | k_is | rfl)
    (case xtk => first | k_is | rfl)
    (case xmo => first | k_is | rfl)
    (case bga => first | k_is | rfl)
    (case bty => first | k_is | rfl)
    (case brd => first | k_is | rfl)
    (case bfi => first | k_is | rfl)
    (case hex => first | k_is | rfl)
    (case ki_NoOrder => first | k_is | rfl)
    (case ki_PaperError => first | k_is | rfl)
    (case ki_DrawerError => first | k_is | rfl)
