import PyProof.Rows.All
import Wide.All
import OpenK.AllK
import Wide.FinOn
import HandS.ForMost
import HandS.Exc
import HandS.Strs
import HandS.Lambda
import HandS.TupAny
import HandS.Deep
import HandS.IsInst
import HandS.RaiseMore
import HandS.SetFor
import HandS.More
import HandS.TupLen
import KE.SortData
import HandS.Iter
import KE.GoesNew
import KE.KDictCopyH
import KE.KTupTabMore
import KE.KDictPairs
import KE.KDictWalk
import HandS.Words
import HandS.Ends
import HandS.Style
import PyProof.Rows.ReprOcc
import PyProof.ReprRoads
import KE.DataMinMax
import HandS.TupLe
import PyProof.Rows.RowBridgeK
import HandS.Zip
import KE.KRevSl
import HandS.TupMul
import HandS.Text
import PyProof.Rows.IntBool
import PyProof.CallStr
import KE.GoesNewDict
import HandS.Conv
import KE.KUnpackStar
import HandS.DictTup
import KE.SortKeyHeap
import KE.KSortKey
import HandS.SortKw
import HandS.SetBool
import HandS.Defaults
import HandS.ExcInit
import HandS.ExcField
import HandS.ExcIs
import KE.KExcIs
import HandS.EndTab
import KE.DataFind
import HandS.TryOnly
import HandS.SetKeys
import HandS.CallLocal
import PyProof.DictMoreH
import HandS.Flow
import HandS.DictComp
import KE.KDictZip
import KE.GoesZip
import HandS.ListItems
import KE.DatumOrd
import PySem.Challenge.RW_drawerways_k04_ways_to_and_above
set_option Elab.async false
set_option linter.all false
set_option maxRecDepth 100000
namespace DL
open PySem PySem.Spec PyProof.Rows L2
structure KW where
  fr : PySem.W.Frag
  P : Program
  w : World
end DL
abbrev L2.Cx.KW (X : L2.Cx) : DL.KW := ⟨X.K, X.prog, X.w⟩
namespace DL
open PySem PySem.Spec PyProof.Rows L2
inductive D where
  | non | bl (b : Bool) | int (i : Int) | str (x : Str) | tup (ds : List D) | wt (ds : List D) | fz (ds : List D) | ref (a : Addr) | ty (n : String)
inductive AO where
  | lst (ds : List D)
  | dct (kvs : List (D × D))
  /-- a dict while a loop walks it: read only -/
  | fdc (o : Obj) (kvs : List (D × D))
  | set (ds : List D)
  /-- a table of code objects -/
  | tab (ps : Array Value)
  /-- a code object of the name q -/
  | cod (q : Str)
  /-- an exception's fields -/
  | exc (fs : List (Str × D))
abbrev Sto := Addr → Option AO
def put (S : Sto) (a : Addr) (o : AO) : Sto := fun b => if b = a then some o else S b
@[simp] theorem put_same {S : Sto} {a : Addr} {o : AO} : put S a o a = some o := by simp [put]
theorem put_ne {S : Sto} {a b : Addr} {o : AO} (h : b ≠ a) : put S a o b = S b := by simp [put, h]
theorem put_put {S : Sto} {a : Addr} {o u : AO} : put (put S a o) a u = put S a u := by
  funext b; unfold put; split <;> rfl
def Grow (S S' : Sto) : Prop := ∀ a o, S a = some o → S' a = some o
theorem Grow.refl (S : Sto) : Grow S S := fun _ _ h => h
theorem Grow.trans {S S1 S2 : Sto} (a : Grow S S1) (b : Grow S1 S2) : Grow S S2 := fun c o h => b c o (a c o h)
theorem Grow.put {S : Sto} {p : Addr} {o : AO} (h : S p = none) : Grow S (put S p o) := fun b u e => by
  rw [put_ne (fun z => by subst z; rw [h] at e; cases e)]; exact e
theorem Grow.then {S S1 : Sto} {p : Addr} {o : AO} (g : Grow S S1) (h : S1 p = none) : Grow S (DL.put S1 p o) := g.trans (.put h)
theorem Grow.free {S S1 : Sto} (g : Grow S S1) {p : Addr} (h : S1 p = none) : S p = none := by
  cases e : S p with
  | none => rfl
  | some o => rw [g p o e] at h; cases h
def TupAt (K : KW) (H : Hp) (a : Addr) (xs : List V) : Prop :=
  (∃ o : Obj, o.dict = none ∧ H a = some (.frz o (.tup xs))) ∨
    ∃ (o : Obj) (its : Array Value) (n : Nat), K.fr.lookup a = some o ∧ o.cls = .type "tuple" ∧ o.dict = none ∧ o.data = .seq its n ∧ its.size ≤ sizeLine ∧ Vals xs its.toList
section
variable (K : KW)
def FzAt (H : Hp) (a : Addr) (xs : List V) : Prop :=
  (∃ o, H a = some (.frz o (.lst xs))) ∨
    ∃ (o : Obj) (its : Array Value) (n : Nat), K.fr.lookup a = some o ∧ o.cls = .type "list" ∧ o.dict = none ∧ o.data = .seq its n ∧ its.size ≤ sizeLine ∧ Vals xs its.toList
mutual
inductive RelD (H : Hp) : V → D → Prop
  | non : RelD H .non .non
  | bl (b) : RelD H (.bl b) (.bl b)
  | int (i) : RelD H (.int i) (.int i)
  | str (x) : PyData.strOk x = true → RelD H (.str x) (.str x)
  | ty (n) : RelD H (.ty n) (.ty n)
  | ref (a) : RelD H (.ref a) (.ref a)
  | tup {a vs ds} : TupAt K H a vs → RelDs H vs ds → RelD H (.ref a) (.tup ds)
  | wt {a vs ds} : H a = some (.tup vs) → RelDs H vs ds → RelD H (.ref a) (.wt ds)
  | fz {a vs ds} : FzAt K H a vs → RelDs H vs ds → RelD H (.ref a) (.fz ds)
inductive RelDs (H : Hp) : List V → List D → Prop
  | nil : RelDs H [] []
  | cons {v d vs ds} : RelD H v d → RelDs H vs ds → RelDs H (v :: vs) (d :: ds)
end
end
def stays : HO → Bool
  | .tup _ => true
  | .frz _ (.lst _) => true
  | .frz _ (.tup _) => true
  | _ => false
def Ev (H H' : Hp) : Prop := ∀ a o, H a = some o → stays o = true → H' a = some o
theorem Ev.refl (H : Hp) : Ev H H := fun _ _ h _ => h
theorem Ev.trans {H H1 H2 : Hp} (a : Ev H H1) (b : Ev H1 H2) : Ev H H2 := fun c o h z => b c o (a c o h z) z
theorem Ev.new {H : Hp} {p : Addr} {o : HO} (h : H p = none) : Ev H (upd H p o) := fun b xs e _ => by
  rw [upd_ne (ne_of_none e h)]; exact e
theorem Ev.upd {H : Hp} {p : Addr} {u o : HO} (h : H p = some u) (hu : stays u = false) : Ev H (upd H p o) := fun b x e z => by
  have n : b ≠ p := fun q => by subst q; rw [e] at h; cases h; rw [hu] at z; cases z
  rw [upd_ne n]; exact e
section
variable {K : KW} {H H' : Hp}
theorem TupAt.ev {a : Addr} {xs : List V} (h : TupAt K H a xs) (e : Ev H H') : TupAt K H' a xs := h.elim (fun ⟨o, d, h⟩ => .inl ⟨o, d, e _ _ h rfl⟩) .inr
theorem FzAt.ev {a : Addr} {xs : List V} (h : FzAt K H a xs) (e : Ev H H') : FzAt K H' a xs := h.elim (fun ⟨o, h⟩ => .inl ⟨o, e _ _ h rfl⟩) .inr
theorem FzAt.sq {a : Addr} {xs : List V} (h : FzAt K H a xs) : SqL K.fr H a xs := h.elim (fun ⟨o, h⟩ => .inl (.inr ⟨o, h⟩)) .inr
theorem TupAt.sq {a : Addr} {xs : List V} (h : TupAt K H a xs) : SqT K.fr H a xs := h.elim (fun ⟨o, _, h⟩ => .inl (.inr ⟨o, h⟩)) fun ⟨o, its, n, h1, h2, _, h3⟩ => .inr ⟨o, its, n, h1, h2, h3⟩
mutual
theorem RelD.ev : ∀ {v : V} {d : D}, RelD K H v d → Ev H H' → RelD K H' v d
  | _, _, .non, _ => .non
  | _, _, .bl b, _ => .bl b
  | _, _, .int i, _ => .int i
  | _, _, .str x h, _ => .str x h
  | _, _, .ty n, _ => .ty n
  | _, _, .ref a, _ => .ref a
  | _, _, .tup t r, e => .tup (t.ev e) (RelDs.ev r e)
  | _, _, .wt t r, e => .wt (e _ _ t rfl) (RelDs.ev r e)
  | _, _, .fz t r, e => .fz (t.ev e) (RelDs.ev r e)
theorem RelDs.ev : ∀ {vs : List V} {ds : List D}, RelDs K H vs ds → Ev H H' → RelDs K H' vs ds
  | _, _, .nil, _ => .nil
  | _, _, .cons r t, e => .cons (RelD.ev r e) (RelDs.ev t e)
end
theorem RelDs.length : ∀ {vs : List V} {ds : List D}, RelDs K H vs ds → vs.length = ds.length
  | _, _, .nil => rfl
  | _, _, .cons _ t => by simp [RelDs.length t]
theorem RelDs.get : ∀ {vs : List V} {ds : List D} {i : Nat} {d : D}, RelDs K H vs ds → ds[i]? = some d → ∃ v, vs[i]? = some v ∧ RelD K H v d
  | _, _, _, _, .nil, e => by simp at e
  | _, _, 0, _, .cons r _, e => by simp at e; subst e; exact ⟨_, rfl, r⟩
  | _, _, i + 1, d, .cons _ t, e => by
    obtain ⟨u, h1, h2⟩ := RelDs.get (i := i) (d := d) t (by simpa using e)
    exact ⟨u, by simpa using h1, h2⟩
theorem RelDs.append : ∀ {vs ws : List V} {ds es : List D}, RelDs K H vs ds → RelDs K H ws es → RelDs K H (vs ++ ws) (ds ++ es)
  | _, _, _, _, .nil, s => s
  | _, _, _, _, .cons r t, s => .cons r (RelDs.append t s)
theorem RelDs.take : ∀ {vs : List V} {ds : List D} (n : Nat), RelDs K H vs ds → RelDs K H (vs.take n) (ds.take n)
  | _, _, 0, _ => .nil
  | _, _, _ + 1, .nil => .nil
  | _, _, n + 1, .cons r t => .cons r (RelDs.take n t)
theorem RelDs.drop : ∀ {vs : List V} {ds : List D} (n : Nat), RelDs K H vs ds → RelDs K H (vs.drop n) (ds.drop n)
  | _, _, 0, r => r
  | _, _, _ + 1, .nil => .nil
  | _, _, n + 1, .cons _ t => RelDs.drop n t
theorem RelDs.set {v : V} {d : D} (r : RelD K H v d) : ∀ {vs : List V} {ds : List D} (i : Nat), RelDs K H vs ds → RelDs K H (vs.set i v) (ds.set i d)
  | _, _, _, .nil => .nil
  | _, _, 0, .cons _ t => .cons r t
  | _, _, i + 1, .cons q t => .cons q (RelDs.set r i t)
theorem RelDs.ints : ∀ (ns : List Int), RelDs K H (ns.map V.int) (ns.map D.int)
  | [] => .nil
  | n :: r => .cons (.int n) (RelDs.ints r)
end
mutual
def D.beq : D → D → Bool
  | .non, .non => true
  | .bl a, .bl b => a == b
  | .int a, .int b => a == b
  | .str a, .str b => a == b
  | .tup a, .tup b => D.beqs a b
  | .wt a, .wt b => D.beqs a b
  | .fz a, .fz b => D.beqs a b
  | .ref a, .ref b => Nat.beq a b
  | .ty a, .ty b => a == b
  | _, _ => false
def D.beqs : List D → List D → Bool
  | [], [] => true
  | a :: r, b :: t => D.beq a b && D.beqs r t
  | _, _ => false
end
mutual
theorem D.eq_of_beq : ∀ {a b : D}, D.beq a b = true → a = b
  | .non, b, h => by cases b <;> first | rfl | cases h
  | .bl x, b, h => by cases b <;> first | (simp [D.beq] at h; rw [h]) | cases h
  | .int x, b, h => by cases b <;> first | (simp [D.beq] at h; rw [h]) | cases h
  | .str x, b, h => by cases b <;> first | (simp [D.beq] at h; rw [h]) | cases h
  | .tup x, b, h => by
    cases b with
    | tup y => exact congrArg D.tup (D.eqs_of_beq (by rw [D.beq] at h; exact h))
    | _ => simp [D.beq] at h
  | .wt x, b, h => by
    cases b with
    | wt y => exact congrArg D.wt (D.eqs_of_beq (by rw [D.beq] at h; exact h))
    | _ => simp [D.beq] at h
  | .fz x, b, h => by
    cases b with
    | fz y => exact congrArg D.fz (D.eqs_of_beq (by rw [D.beq] at h; exact h))
    | _ => simp [D.beq] at h
  | .ref x, b, h => by
    cases b with
    | ref y => exact congrArg D.ref (Nat.eq_of_beq_eq_true (by rw [D.beq] at h; exact h))
    | _ => simp [D.beq] at h
  | .ty x, b, h => by cases b <;> first | (simp [D.beq] at h; rw [h]) | cases h
theorem D.eqs_of_beq : ∀ {a b : List D}, D.beqs a b = true → a = b
  | [], b, h => by cases b <;> first | rfl | cases h
  | x :: r, b, h => by
    cases b with
    | nil => cases h
    | cons y t =>
      simp only [D.beqs, Bool.and_eq_true] at h
      rw [D.eq_of_beq h.1, D.eqs_of_beq h.2]
end
mutual
theorem D.beq_refl : ∀ a : D, D.beq a a = true
  | .non => rfl
  | .bl x => by simp [D.beq]
  | .int x => by simp [D.beq]
  | .str x => by simp [D.beq]
  | .tup x => by rw [D.beq]; exact D.beqs_refl x
  | .wt x => by rw [D.beq]; exact D.beqs_refl x
  | .fz x => by rw [D.beq]; exact D.beqs_refl x
  | .ref x => by rw [D.beq]; exact Nat.beq_refl x
  | .ty x => by simp [D.beq]
theorem D.beqs_refl : ∀ a : List D, D.beqs a a = true
  | [] => rfl
  | x :: r => by rw [D.beqs, D.beq_refl x, D.beqs_refl r]; rfl
end
instance : DecidableEq D := fun a b => if h : D.beq a b = true then .isTrue (D.eq_of_beq h) else .isFalse fun e => h (e ▸ D.beq_refl a)
def kD : Key → D
  | .inl i => .int i
  | .inr x => .str x
theorem kD_inj {a b : Key} (h : kD a = kD b) : a = b := by
  cases a <;> cases b <;> simp [kD] at h <;> simp [h]
def kTD (k : List Key) : D := .tup (k.map kD)
theorem kDs_inj : ∀ {a b : List Key}, a.map kD = b.map kD → a = b
  | [], [], _ => rfl
  | [], _ :: _, h => by simp at h
  | _ :: _, [], h => by simp at h
  | x :: r, y :: t, h => by
    simp only [List.map_cons, List.cons.injEq] at h
    rw [kD_inj h.1, kDs_inj h.2]
theorem kTD_inj {a b : List Key} (h : kTD a = kTD b) : a = b := kDs_inj (D.tup.inj h)
inductive RelKV {κ : Type} (f : κ → D) (K : KW) (H : Hp) : List (κ × V) → List (D × D) → Prop
  | nil : RelKV f K H [] []
  | cons {k v d r t} : (∀ x, f k = .str x → PyData.strOk x = true) → RelD K H v d → RelKV f K H r t → RelKV f K H ((k, v) :: r) ((f k, d) :: t)
def TDo (K : KW) (a : Addr) (xs : List (List Key × Addr × Value)) (h : Heap) : Prop :=
  (xs.length ≤ sizeLine ∧ (a == sysModules) = false) ∧ ∃ o es ep, h.get? a = some o ∧ o.ExactDict ∧ o.data = .dict es ep ∧ es.toList = xs.map (entryOfKey (tupleKind (mixKind K.P K.w))) ∧ (xs.map (·.1)).Nodup
def TDn (K : KW) (a : Addr) (xs : List (List Key × Addr × Value)) : HO := .ext (TDo K a xs)
def KeyT (K : KW) (H : Hp) (b : Addr) (k : List Key) : Prop := TupAt K H b (k.map kV) ∧ RelDs K H (k.map kV) (k.map kD)
theorem KeyT.ev {K : KW} {H H' : Hp} {b : Addr} {k : List Key} (h : KeyT K H b k) (e : Ev H H') : KeyT K H' b k := ⟨h.1.ev e, h.2.ev e⟩
inductive RelTV (K : KW) (H : Hp) : List (List Key × Addr × Value) → List (D × D) → Prop
  | nil : RelTV K H [] []
  | cons {k b u v d r t} : KeyT K H b k → RelV v u → RelD K H v d → RelTV K H r t → RelTV K H ((k, b, u) :: r) ((kTD k, d) :: t)
theorem RelTV.ev {K : KW} {H H' : Hp} : ∀ {xs : List (List Key × Addr × Value)} {kvs : List (D × D)}, RelTV K H xs kvs → Ev H H' → RelTV K H' xs kvs
  | _, _, .nil, _ => .nil
  | _, _, .cons t v r q, e => .cons (t.ev e) v (r.ev e) (q.ev e)
theorem RelTV.length {K : KW} {H : Hp} : ∀ {xs : List (List Key × Addr × Value)} {kvs : List (D × D)}, RelTV K H xs kvs → xs.length = kvs.length
  | _, _, .nil => rfl
  | _, _, .cons _ _ _ t => by simp [t.length]
inductive RelFs (K : KW) (H : Hp) : List (Str × V) → List (Str × D) → Prop
  | nil : RelFs K H [] []
  | cons {n v d r t} : RelD K H v d → RelFs K H r t → RelFs K H ((n, v) :: r) ((n, d) :: t)
theorem RelFs.ev {K : KW} {H H' : Hp} : ∀ {vs ds}, RelFs K H vs ds → Ev H H' → RelFs K H' vs ds
  | _, _, .nil, _ => .nil
  | _, _, .cons r t, e => .cons (r.ev e) (t.ev e)
section
variable (K : KW)
def OkO (H : Hp) (a : Addr) : AO → Prop
  | .lst ds => ∃ vs, H a = some (.lst vs) ∧ RelDs K H vs ds
  | .dct kvs => (∃ es : List (Key × V), H a = some (.dK es) ∧ RelKV kD K H es kvs) ∨ ∃ xs, H a = some (TDn K a xs) ∧ RelTV K H xs kvs
  | .fdc o kvs => (∃ es : List (Key × V), H a = some (.frz o (.dK es)) ∧ RelKV kD K H es kvs) ∨ ∃ xs, H a = some (.frz o (TDn K a xs)) ∧ RelTV K H xs kvs
  | .set ds => ∃ ns : List Int, ds = ns.map D.int ∧ ns.Nodup ∧ H a = some (SetO K.w a (fun k => decide (k ∈ ns)) ns.length)
  | .tab ps => H a = some (.tbl ps)
  | .cod q => H a = some (LamX.CodeO a q)
  | .exc fs => ∃ vs, H a = some (.xd vs) ∧ RelFs K H vs fs
def HR (H : Hp) (S : Sto) : Prop := ∀ a o, S a = some o → OkO K H a o
end
theorem RelKV.ev {κ : Type} {f : κ → D} {K : KW} {H H' : Hp} : ∀ {es : List (κ × V)} {kvs : List (D × D)}, RelKV f K H es kvs → Ev H H' → RelKV f K H' es kvs
  | _, _, .nil, _ => .nil
  | _, _, .cons h r t, e => .cons h (r.ev e) (t.ev e)
theorem RelKV.length {κ : Type} {f : κ → D} {K : KW} {H : Hp} : ∀ {es : List (κ × V)} {kvs : List (D × D)}, RelKV f K H es kvs → es.length = kvs.length
  | _, _, .nil => rfl
  | _, _, .cons _ _ t => by simp [t.length]
abbrev DSt := List (Option D)
def RelOD (K : KW) (H : Hp) : Option V → Option D → Prop
  | some v, some d => RelD K H v d
  | _, none => True
  | none, some _ => False
inductive StR (K : KW) (H : Hp) : L2.St → DSt → Prop
  | nil : StR K H [] []
  | cons {v d vs ds} : RelOD K H v d → StR K H vs ds → StR K H (v :: vs) (d :: ds)
section
variable {K : KW} {H H' : Hp}
theorem StR.ev : ∀ {σ : L2.St} {τ : DSt}, StR K H σ τ → Ev H H' → StR K H' σ τ
  | _, _, .nil, _ => .nil
  | v :: _, d :: _, .cons r t, e => .cons (by
      cases d with
      | none => cases v <;> trivial
      | some d => cases v with
        | none => exact r
        | some v => exact RelD.ev r e) (StR.ev t e)
theorem StR.length : ∀ {σ : L2.St} {τ : DSt}, StR K H σ τ → σ.length = τ.length
  | _, _, .nil => rfl
  | _, _, .cons _ t => by simp [StR.length t]
theorem StR.get : ∀ {σ : L2.St} {τ : DSt} {i : Nat} {d : D}, StR K H σ τ → τ[i]? = some (some d) → ∃ v, σ[i]? = some (some v) ∧ RelD K H v d
  | _, _, _, _, .nil, e => by simp at e
  | v :: _, _, 0, d, .cons r _, e => by
    simp at e; subst e
    cases v with
    | none => exact r.elim
    | some v => exact ⟨v, rfl, r⟩
  | _, _, i + 1, d, .cons _ t, e => by
    obtain ⟨u, h1, h2⟩ := StR.get (i := i) (d := d) t (by simpa using e)
    exact ⟨u, by simpa using h1, h2⟩
theorem StR.set {v : V} {d : D} (r : RelD K H v d) : ∀ {σ : L2.St} {τ : DSt} (i : Nat), StR K H σ τ → StR K H (σ.set i (some v)) (τ.set i (some d))
  | _, _, _, .nil => .nil
  | _, _, 0, .cons _ t => .cons r t
  | _, _, i + 1, .cons q t => .cons q (StR.set r i t)
theorem StR.setN : ∀ {σ : L2.St} {τ : DSt} (i : Nat), StR K H σ τ → StR K H (σ.set i none) (τ.set i none)
  | _, _, _, .nil => .nil
  | _, _, 0, .cons _ t => .cons (by trivial) t
  | _, _, i + 1, .cons q t => .cons q (StR.setN i t)
theorem StR.nones : ∀ n : Nat, StR K H (List.replicate n none) (List.replicate n none)
  | 0 => .nil
  | n + 1 => .cons trivial (StR.nones n)
theorem StR.somes : ∀ {vs : List V} {ds : List D}, RelDs K H vs ds → ∀ {σ : L2.St} {τ : DSt}, StR K H σ τ → StR K H (vs.map some ++ σ) (ds.map some ++ τ)
  | _, _, .nil, _, _, s => s
  | _, _, .cons r t, _, _, s => .cons r (StR.somes t s)
theorem OkO.ev {a : Addr} {o : AO} (h : OkO K H a o) (e : Ev H H') (k : ∀ u, H a = some u → H' a = some u) : OkO K H' a o := by
  cases o with
  | lst ds => obtain ⟨vs, h1, h2⟩ := h; exact ⟨vs, k _ h1, h2.ev e⟩
  | dct kvs =>
    rcases h with ⟨es, h1, h2⟩ | ⟨es, h1, h2⟩
    · exact .inl ⟨es, k _ h1, h2.ev e⟩
    · exact .inr ⟨es, k _ h1, h2.ev e⟩
  | fdc o kvs =>
    rcases h with ⟨es, h1, h2⟩ | ⟨es, h1, h2⟩
    · exact .inl ⟨es, k _ h1, h2.ev e⟩
    · exact .inr ⟨es, k _ h1, h2.ev e⟩
  | set ds => obtain ⟨ns, e1, nd, h1⟩ := h; exact ⟨ns, e1, nd, k _ h1⟩
  | tab ps => exact k _ h
  | cod q => exact k _ h
  | exc fs => obtain ⟨vs, h1, h2⟩ := h; exact ⟨vs, k _ h1, h2.ev e⟩
theorem HR.new {S : Sto} {p : Addr} {o : HO} (h : HR K H S) (n : H p = none) : HR K (upd H p o) S := fun a u e =>
  (h a u e).ev (.new n) fun x q => by rw [upd_ne (ne_of_none q n)]; exact q
end
end DL
namespace DL
open PySem PySem.Spec PyProof.Rows L2
abbrev KD := D → Sto → Prop
abbrev DTE := DSt → Sto → KD → Prop
abbrev DTT := DSt → Sto → (Bool → Sto → Prop) → Prop
abbrev DTA := DSt → Sto → (List D → Sto → Prop) → Prop
structure DEnds where
  nx : DSt → Sto → Prop
  rt : KD
  bk : DSt → Sto → Prop
  ct : DSt → Sto → Prop
abbrev DTS := DEnds → DSt → Sto → Prop
def Up (K : KW) (H : Hp) (Q : KD) : VK := fun v H' => Ev H H' ∧ ∃ d S', HR K H' S' ∧ RelD K H' v d ∧ Q d S'
def UpT (K : KW) (H : Hp) (Q : Bool → Sto → Prop) : Bool → Hp → Prop := fun b H' => Ev H H' ∧ ∃ S', HR K H' S' ∧ Q b S'
def UpA (K : KW) (H : Hp) (Q : List D → Sto → Prop) : List V → Hp → Prop := fun vs H' => Ev H H' ∧ ∃ ds S', HR K H' S' ∧ RelDs K H' vs ds ∧ Q ds S'
def UpS (K : KW) (H : Hp) (Q : DSt → Sto → Prop) : L2.St → Hp → Prop := fun σ H' => Ev H H' ∧ ∃ τ S', HR K H' S' ∧ StR K H' σ τ ∧ Q τ S'
def UpE (K : KW) (H : Hp) (Dn : DEnds) : Ends := ⟨UpS K H Dn.nx, Up K H Dn.rt, UpS K H Dn.bk, UpS K H Dn.ct⟩
section
variable {K : KW} {H H1 H' : Hp}
theorem Up.of {Q : KD} {v : V} {d : D} {S' : Sto} (e : Ev H H') (h : HR K H' S') (r : RelD K H' v d) (q : Q d S') : Up K H Q v H' := ⟨e, d, S', h, r, q⟩
theorem Up.back {Q : KD} {v : V} (e : Ev H H1) (u : Up K H1 Q v H') : Up K H Q v H' := ⟨e.trans u.1, u.2⟩
theorem UpT.back {Q : Bool → Sto → Prop} {v : Bool} (e : Ev H H1) (u : UpT K H1 Q v H') : UpT K H Q v H' := ⟨e.trans u.1, u.2⟩
theorem UpS.back {Q : DSt → Sto → Prop} {v : L2.St} (e : Ev H H1) (u : UpS K H1 Q v H') : UpS K H Q v H' := ⟨e.trans u.1, u.2⟩
theorem UpS.same {Q : DSt → Sto → Prop} {σ : L2.St} {τ : DSt} {S : Sto} (st : StR K H σ τ) (h : HR K H S) (q : Q τ S) : UpS K H Q σ H := ⟨.refl _, τ, S, h, st, q⟩
end
structure DE (X : Cx) (e : Expr) (t : DTE) : Prop where
  run : ∀ (pins : List (Addr × Obj)) (s : Shared) (σ : L2.St) (H : Hp) (τ : DSt) (S : Sto) (Q : KD), Inv X pins σ H s → StR X.KW H σ τ → HR X.KW H S → t τ S Q →
    wpAny (model X.prog X.w) X.A (eval e X.env) (EP X pins σ (Up X.KW H Q)) X.xe s
structure DT (X : Cx) (e : Expr) (t : DTT) : Prop where
  run : ∀ (pins : List (Addr × Obj)) (s : Shared) (σ : L2.St) (H : Hp) (τ : DSt) (S : Sto) (Q : Bool → Sto → Prop), Inv X pins σ H s → StR X.KW H σ τ → HR X.KW H S → t τ S Q →
    wpAny (model X.prog X.w) X.A (isTrue e X.env (eval e X.env)) (TP X pins σ (UpT X.KW H Q)) X.xe s
structure DW (X : Cx) (e : Expr) (t : DTT) : Prop where
  run : ∀ (whole : Sem Value) (pins : List (Addr × Obj)) (s : Shared) (σ : L2.St) (H : Hp) (τ : DSt) (S : Sto) (Q : Bool → Sto → Prop), Inv X pins σ H s → StR X.KW H σ τ → HR X.KW H S → t τ S Q →
    wpAny (model X.prog X.w) X.A (isTrue e X.env whole) (TP X pins σ (UpT X.KW H Q)) X.xe s
structure DAr (X : Cx) (es : List Expr) (t : DTA) : Prop where
  run : ∀ (pos : Pos) (pins : List (Addr × Obj)) (s : Shared) (σ : L2.St) (H : Hp) (τ : DSt) (S : Sto) (Q : List D → Sto → Prop), Inv X pins σ H s → StR X.KW H σ τ → HR X.KW H S → t τ S Q →
    wpAny (model X.prog X.w) X.A (spliced (backTo pos (starEach es X.env))) (AP X pins σ (UpA X.KW H Q)) X.xe s
structure DSm (X : Cx) (st : Stmt) (t : DTS) : Prop where
  run : ∀ (pins : List (Addr × Obj)) (s : Shared) (σ : L2.St) (H : Hp) (τ : DSt) (S : Sto) (Dn : DEnds), Inv X pins σ H s → StR X.KW H σ τ → HR X.KW H S → t Dn τ S →
    wpAny (model X.prog X.w) X.A (exec st X.env) (SP X pins (UpE X.KW H Dn)) X.xe s
structure DSs (X : Cx) (st : List Stmt) (t : DTS) : Prop where
  run : ∀ (pins : List (Addr × Obj)) (s : Shared) (σ : L2.St) (H : Hp) (τ : DSt) (S : Sto) (Dn : DEnds), Inv X pins σ H s → StR X.KW H σ τ → HR X.KW H S → t Dn τ S →
    wpAny (model X.prog X.w) X.A (execs st X.env) (SP X pins (UpE X.KW H Dn)) X.xe s
def loE (K : KW) (t : DTE) : TE := fun σ H R => ∃ τ S Q, StR K H σ τ ∧ HR K H S ∧ t τ S Q ∧ ∀ v H', Up K H Q v H' → R v H'
def loT (K : KW) (t : DTT) : TT := fun σ H R => ∃ τ S Q, StR K H σ τ ∧ HR K H S ∧ t τ S Q ∧ ∀ v H', UpT K H Q v H' → R v H'
def loA (K : KW) (t : DTA) : TA := fun σ H R => ∃ τ S Q, StR K H σ τ ∧ HR K H S ∧ t τ S Q ∧ ∀ v H', UpA K H Q v H' → R v H'
def loS (K : KW) (t : DTS) : TS := fun D σ H => ∃ τ S Dn, StR K H σ τ ∧ HR K H S ∧ t Dn τ S ∧ (∀ σ' H', UpS K H Dn.nx σ' H' → D.nx σ' H') ∧ (∀ v H', Up K H Dn.rt v H' → D.rt v H') ∧
  (∀ σ' H', UpS K H Dn.bk σ' H' → D.bk σ' H') ∧ ∀ σ' H', UpS K H Dn.ct σ' H' → D.ct σ' H'
section
variable {X : Cx}
theorem SP.imp {pins : List (Addr × Obj)} {D D' : Ends} {f : Flow} {s : Shared} (h : SP X pins D f s) (h1 : ∀ σ H, D.nx σ H → D'.nx σ H) (h2 : ∀ v H, D.rt v H → D'.rt v H) (h3 : ∀ σ H, D.bk σ H → D'.bk σ H) (h4 : ∀ σ H, D.ct σ H → D'.ct σ H) : SP X pins D' f s := by
  cases f with
  | next => obtain ⟨a, b, c, d⟩ := h; exact ⟨a, b, c, h1 _ _ d⟩
  | brk => obtain ⟨a, b, c, d⟩ := h; exact ⟨a, b, c, h3 _ _ d⟩
  | cont => obtain ⟨a, b, c, d⟩ := h; exact ⟨a, b, c, h4 _ _ d⟩
  | ret u => obtain ⟨a, b, c, d, e, g⟩ := h; exact ⟨a, b, c, d, e, h2 _ _ g⟩
theorem DE.lo {e : Expr} {t : DTE} (h : DE X e t) : PE X e (loE X.KW t) := ⟨fun pins s σ H R I ⟨τ, S, Q, st, hr, q, k⟩ => thn (h.run pins s σ H τ S Q I st hr q) fun u s' ⟨v, H', I', r, q'⟩ => ⟨v, H', I', r, k _ _ q'⟩⟩
theorem DT.lo {e : Expr} {t : DTT} (h : DT X e t) : PT X e (loT X.KW t) := ⟨fun pins s σ H R I ⟨τ, S, Q, st, hr, q, k⟩ => thn (h.run pins s σ H τ S Q I st hr q) fun u s' ⟨H', I', q'⟩ => ⟨H', I', k _ _ q'⟩⟩
theorem DAr.lo {e : List Expr} {t : DTA} (h : DAr X e t) : PA X e (loA X.KW t) := ⟨fun pos pins s σ H R I ⟨τ, S, Q, st, hr, q, k⟩ => thn (h.run pos pins s σ H τ S Q I st hr q) fun u s' ⟨v, H', I', r, q'⟩ => ⟨v, H', I', r, k _ _ q'⟩⟩
theorem DSm.lo {st : Stmt} {t : DTS} (h : DSm X st t) : PS X st (loS X.KW t) := ⟨fun pins s σ H D I ⟨τ, S, Dn, st, hr, q, k1, k2, k3, k4⟩ => thn (h.run pins s σ H τ S Dn I st hr q) fun f s' z => SP.imp z k1 k2 k3 k4⟩
theorem DSs.lo {st : List Stmt} {t : DTS} (h : DSs X st t) : PSs X st (loS X.KW t) := ⟨fun pins s σ H D I ⟨τ, S, Dn, st, hr, q, k1, k2, k3, k4⟩ => thn (h.run pins s σ H τ S Dn I st hr q) fun f s' z => SP.imp z k1 k2 k3 k4⟩
theorem loE.mk {K : KW} {t : DTE} {σ : L2.St} {H : Hp} {R : VK} {τ : DSt} {S : Sto} {Q : KD} (st : StR K H σ τ) (hr : HR K H S) (q : t τ S Q) (k : ∀ v H', Up K H Q v H' → R v H') : loE K t σ H R := ⟨τ, S, Q, st, hr, q, k⟩
theorem DE.up {e : Expr} {t : DTE} {u : TE} (h : PE X e u) (c : ∀ (σ : L2.St) (H : Hp) (τ : DSt) (S : Sto) (Q : KD), StR X.KW H σ τ → HR X.KW H S → t τ S Q → u σ H (Up X.KW H Q)) : DE X e t :=
  ⟨fun pins s σ H τ S Q I st hr q => h.run pins s σ H _ I (c σ H τ S Q st hr q)⟩
theorem DT.up {e : Expr} {t : DTT} {u : TT} (h : PT X e u) (c : ∀ (σ : L2.St) (H : Hp) (τ : DSt) (S : Sto) (Q : Bool → Sto → Prop), StR X.KW H σ τ → HR X.KW H S → t τ S Q → u σ H (UpT X.KW H Q)) : DT X e t :=
  ⟨fun pins s σ H τ S Q I st hr q => h.run pins s σ H _ I (c σ H τ S Q st hr q)⟩
theorem DW.up {e : Expr} {t : DTT} {u : TT} (h : PW X e u) (c : ∀ (σ : L2.St) (H : Hp) (τ : DSt) (S : Sto) (Q : Bool → Sto → Prop), StR X.KW H σ τ → HR X.KW H S → t τ S Q → u σ H (UpT X.KW H Q)) : DW X e t :=
  ⟨fun wh pins s σ H τ S Q I st hr q => h.run wh pins s σ H _ I (c σ H τ S Q st hr q)⟩
theorem DW.dt {e : Expr} {t : DTT} (h : DW X e t) : DT X e t := ⟨h.run _⟩
theorem DW.lo {e : Expr} {t : DTT} (h : DW X e t) : PW X e (loT X.KW t) := ⟨fun wh pins s σ H R I ⟨τ, S, Q, st, hr, q, k⟩ => thn (h.run wh pins s σ H τ S Q I st hr q) fun u s' ⟨H', I', q'⟩ => ⟨H', I', k _ _ q'⟩⟩
theorem DAr.up {e : List Expr} {t : DTA} {u : TA} (h : PA X e u) (c : ∀ (σ : L2.St) (H : Hp) (τ : DSt) (S : Sto) (Q : List D → Sto → Prop), StR X.KW H σ τ → HR X.KW H S → t τ S Q → u σ H (UpA X.KW H Q)) : DAr X e t :=
  ⟨fun pos pins s σ H τ S Q I st hr q => h.run pos pins s σ H _ I (c σ H τ S Q st hr q)⟩
theorem DSm.up {st : Stmt} {t : DTS} {u : TS} (h : PS X st u) (c : ∀ (σ : L2.St) (H : Hp) (τ : DSt) (S : Sto) (Dn : DEnds), StR X.KW H σ τ → HR X.KW H S → t Dn τ S → u (UpE X.KW H Dn) σ H) : DSm X st t :=
  ⟨fun pins s σ H τ S Dn I st hr q => h.run pins s σ H _ I (c σ H τ S Dn st hr q)⟩
theorem DSs.up {st : List Stmt} {t : DTS} {u : TS} (h : PSs X st u) (c : ∀ (σ : L2.St) (H : Hp) (τ : DSt) (S : Sto) (Dn : DEnds), StR X.KW H σ τ → HR X.KW H S → t Dn τ S → u (UpE X.KW H Dn) σ H) : DSs X st t :=
  ⟨fun pins s σ H τ S Dn I st hr q => h.run pins s σ H _ I (c σ H τ S Dn st hr q)⟩
def dC (d : D) : DTE := fun _ S Q => Q d S
def dV (i : Nat) : DTE := fun τ S Q => match τ[i]? with | some (some d) => Q d S | _ => False
theorem de_c {e : Expr} {v : V} {d : D} (h : PE X e (tC v)) (r : ∀ H, RelD X.KW H v d) : DE X e (dC d) := .up h fun _ H _ S _ _ hr q => .of (.refl _) hr (r H) q
variable {pos : Pos}
theorem de_int {i j} : DE X (.Constant (.int i) j pos) (dC (.int i)) := de_c pe_int fun _ => .int i
theorem de_bl {b j} : DE X (.Constant (.bool b) j pos) (dC (.bl b)) := de_c pe_bl fun _ => .bl b
theorem de_non {j} : DE X (.Constant .none j pos) (dC .non) := de_c pe_non fun _ => .non
theorem de_str {x j} (h : PyData.strOk x = true := by decide +kernel) : DE X (.Constant (.str x) j pos) (dC (.str x)) := de_c pe_str fun _ => .str x h
theorem de_v (i : Nat) {x : Str} (hN : X.N[i]? = some x := by rfl) (hv : Vis X.env.scope x := by first | exact Or.inl rfl | exact Or.inr (Or.inl rfl) | exact Or.inr (Or.inr rfl)) (hd : (x == ("__debug__" : Str)) = false := by decide)
    (hcd : (x == ("__classdict__" : Str)) = false := by decide) : DE X (.Name x pos) (dV i) := .up (pe_var (i := i) hN hv hd hcd) fun σ H τ S Q st hr q => by
  unfold dV at q
  cases e : τ[i]? with
  | none => rw [e] at q; exact q.elim
  | some o =>
    cases o with
    | none => rw [e] at q; exact q.elim
    | some d =>
      rw [e] at q
      obtain ⟨v, h1, h2⟩ := st.get e
      exact ⟨v, h1, .of (.refl _) hr h2 q⟩
def DOp (X : Cx) (f : Value → Value → Sem Value) (r : D → D → Sto → KD → Prop) : Prop :=
  ∃ rh : R2, OpR X f rh ∧ ∀ (x y : V) (dx dy : D) (H : Hp) (S : Sto) (Q : KD) (R : VK), HR X.KW H S → RelD X.KW H x dx → RelD X.KW H y dy → r dx dy S Q → (∀ v H', Up X.KW H Q v H' → R v H') → rh x y H R
def dBin (r : D → D → Sto → KD → Prop) (ta tb : DTE) : DTE := fun τ S Q => ta τ S fun x S1 => tb τ S1 fun y S2 => r x y S2 Q
variable {a b c : Expr} {ta tb tc : DTE} {r : D → D → Sto → KD → Prop}
theorem bin_lo {K : KW} {σ : L2.St} {H : Hp} {τ : DSt} {S : Sto} {R : V → V → Hp → Prop} {r' : D → D → Sto → Prop} (st : StR K H σ τ) (hr : HR K H S) (q : ta τ S fun x S1 => tb τ S1 fun y S2 => r' x y S2)
    (k : ∀ x y dx dy H2 S2, Ev H H2 → HR K H2 S2 → RelD K H2 x dx → RelD K H2 y dy → r' dx dy S2 → R x y H2) : loE K ta σ H fun x H1 => loE K tb σ H1 fun y H2 => R x y H2 :=
  .mk st hr q fun _ _ ⟨e1, _, _, hr1, r1, q1⟩ => .mk (st.ev e1) hr1 q1 fun _ _ ⟨e2, _, _, hr2, r2, q2⟩ => k _ _ _ _ _ _ (e1.trans e2) hr2 (r1.ev e2) r2 q2
theorem de_op {op : Operator} (ho : DOp X (binaryOp op) r) (ha : DE X a ta) (hb : DE X b tb) : DE X (.BinOp a op b pos) (dBin r ta tb) := by
  obtain ⟨rh, h1, h2⟩ := ho
  exact .up (pe_op h1 ha.lo hb.lo) fun σ H τ S Q st hr q => bin_lo st hr q fun x y dx dy H2 S2 e hr2 r1 r2 q2 => h2 x y dx dy H2 S2 Q _ hr2 r1 r2 q2 fun v H' u => u.back e
theorem de_cmp {op : CmpOp} (ho : DOp X (compareOp op) r) (ha : DE X a ta) (hb : DE X b tb) (hm : behindInMarks op b = false) : DE X (.Compare a [op] [b] pos) (dBin r ta tb) := by
  obtain ⟨rh, h1, h2⟩ := ho
  exact .up (pe_cmpR h1 ha.lo hb.lo hm) fun σ H τ S Q st hr q => bin_lo st hr q fun x y dx dy H2 S2 e hr2 r1 r2 q2 => h2 x y dx dy H2 S2 Q _ hr2 r1 r2 q2 fun v H' u => u.back e
def isB (Q : Bool → Sto → Prop) : KD := fun d S => match d with | .bl b => Q b S | _ => False
theorem isB.of {Q : Bool → Sto → Prop} {K : KW} {H H' : Hp} {v : V} (u : Up K H (isB Q) v H') : ∃ b, v = .bl b ∧ UpT K H Q b H' := by
  obtain ⟨e, d, S', hr, r, q⟩ := u
  cases d with
  | bl b => cases r; exact ⟨b, rfl, e, S', hr, q⟩
  | _ => exact q.elim
def dTst (t : DTE) : DTT := fun τ S Q => t τ S (isB Q)
theorem dt_cmp {op : CmpOp} (ho : DOp X (compareOp op) r) (ha : DE X a ta) (hb : DE X b tb) (hm : behindInMarks op b = false) : DT X (.Compare a [op] [b] pos) (dTst (dBin r ta tb)) := by
  obtain ⟨rh, h1, h2⟩ := ho
  exact .up (pt_cmpR h1 ha.lo hb.lo hm) fun σ H τ S Q st hr q => bin_lo st hr q fun x y dx dy H2 S2 e hr2 r1 r2 q2 => h2 x y dx dy H2 S2 _ _ hr2 r1 r2 q2 fun v H' u => by
    obtain ⟨k, e1, u1⟩ := isB.of u
    exact ⟨k, e1, u1.back e⟩
theorem dt_val {e : Expr} {t : DTE} (h : DE X e t) (he : ∀ whole, isTrue e X.env whole = (do let v ← whole; standAt e.pos; holding [v] (truthy v)) := by intro _; rfl) : DT X e (dTst t) :=
  .up (pt_val h.lo he) fun σ H τ S Q st hr q => .mk st hr q fun v H' u => isB.of u
def dAnd (t u : DTT) : DTT := fun τ S Q => t τ S fun c S1 => if c = true then u τ S1 Q else Q false S1
def dOr (t u : DTT) : DTT := fun τ S Q => t τ S fun c S1 => if c = true then Q true S1 else u τ S1 Q
def dNot (t : DTT) : DTT := fun τ S Q => t τ S fun c S1 => Q (!c) S1
variable {t u : DTT} {rest : List Expr}
theorem dw_and1 (ha : DT X a t) : DW X (.BoolOp .And [a] pos) t := .up (pw_and1 ha.lo) fun _ _ τ S Q st hr q => ⟨τ, S, Q, st, hr, q, fun _ _ z => z⟩
theorem dw_or1 (ha : DT X a t) : DW X (.BoolOp .Or [a] pos) t := .up (pw_or1 ha.lo) fun _ _ τ S Q st hr q => ⟨τ, S, Q, st, hr, q, fun _ _ z => z⟩
theorem dw_and (ha : DT X a t) (hb : DW X (.BoolOp .And (b :: rest) pos) u) : DW X (.BoolOp .And (a :: b :: rest) pos) (dAnd t u) := .up (pw_and ha.lo hb.lo) fun σ H τ S Q st hr q =>
  ⟨τ, S, _, st, hr, q, fun c H1 ⟨e, S1, hr1, q1⟩ => by
    cases c with
    | true => exact ⟨τ, S1, Q, st.ev e, hr1, q1, fun _ _ z => z.back e⟩
    | false => exact ⟨e, S1, hr1, q1⟩⟩
theorem dw_or (ha : DT X a t) (hb : DW X (.BoolOp .Or (b :: rest) pos) u) : DW X (.BoolOp .Or (a :: b :: rest) pos) (dOr t u) := .up (pw_or ha.lo hb.lo) fun σ H τ S Q st hr q =>
  ⟨τ, S, _, st, hr, q, fun c H1 ⟨e, S1, hr1, q1⟩ => by
    cases c with
    | false => exact ⟨τ, S1, Q, st.ev e, hr1, q1, fun _ _ z => z.back e⟩
    | true => exact ⟨e, S1, hr1, q1⟩⟩
theorem dt_not (ha : DT X a t) : DT X (.UnaryOp .Not a pos) (dNot t) := .up (pt_not ha.lo) fun σ H τ S Q st hr q => ⟨τ, S, _, st, hr, q, fun c H1 ⟨e, S1, hr1, q1⟩ => ⟨e, S1, hr1, q1⟩⟩
def dAndV (ta tb : DTE) : DTE := fun τ S Q => ta τ S (isB fun c S1 => if c = true then tb τ S1 Q else Q (.bl false) S1)
def dNotV (ta : DTE) : DTE := fun τ S Q => ta τ S (isB fun c S1 => Q (.bl (!c)) S1)
theorem de_one {op} (h : DE X a ta) : DE X (.BoolOp op [a] pos) ta := .up (pe_one h.lo) fun _ _ τ S Q st hr q => .mk st hr q fun _ _ z => z
theorem de_and (ha : DE X a ta) (hb : DE X (.BoolOp .And (b :: rest) pos) tb) : DE X (.BoolOp .And (a :: b :: rest) pos) (dAndV ta tb) := .up (pe_and ha.lo hb.lo) fun σ H τ S Q st hr q =>
  .mk st hr q fun v H' z => by
    obtain ⟨k, e1, e, S1, hr1, q1⟩ := isB.of z
    refine ⟨k, e1, ?_⟩
    cases k with
    | true => exact .mk (st.ev e) hr1 q1 fun _ _ z => z.back e
    | false => exact .of e hr1 (.bl false) q1
theorem de_not (ha : DE X a ta) : DE X (.UnaryOp .Not a pos) (dNotV ta) := .up (pe_not ha.lo) fun σ H τ S Q st hr q =>
  .mk st hr q fun v H' z => by
    obtain ⟨k, e1, e, S1, hr1, q1⟩ := isB.of z
    exact ⟨k, e1, .of e hr1 (.bl (!k)) q1⟩
def dIf (t : DTT) (ta tb : DTE) : DTE := fun τ S Q => t τ S fun c S1 => if c = true then ta τ S1 Q else tb τ S1 Q
theorem de_if (hc : DT X c t) (ha : DE X a ta) (hb : DE X b tb) : DE X (.IfExp c a b pos) (dIf t ta tb) := .up (pe_ifExp hc.lo ha.lo hb.lo) fun σ H τ S Q st hr q =>
  ⟨τ, S, _, st, hr, q, fun c H1 ⟨e, S1, hr1, q1⟩ => by
    cases c with
    | true => exact .mk (st.ev e) hr1 q1 fun _ _ z => z.back e
    | false => exact .mk (st.ev e) hr1 q1 fun _ _ z => z.back e⟩
def DUn (X : Cx) (f : Value → Sem Value) (r : D → Sto → KD → Prop) : Prop :=
  ∃ rh, UnR X f rh ∧ ∀ (x : V) (dx : D) (H : Hp) (S : Sto) (Q : KD) (R : VK), HR X.KW H S → RelD X.KW H x dx → r dx S Q → (∀ v H', Up X.KW H Q v H' → R v H') → rh x H R
def dUn (r : D → Sto → KD → Prop) (ta : DTE) : DTE := fun τ S Q => ta τ S fun x S1 => r x S1 Q
theorem de_un {op : UnaryOp} {r : D → Sto → KD → Prop} (ho : DUn X (unaryOp op) r) (ha : DE X a ta) : DE X (.UnaryOp op a pos) (dUn r ta) := by
  obtain ⟨rh, h1, h2⟩ := ho
  exact .up (pe_un h1 ha.lo) fun σ H τ S Q st hr q => .mk st hr q fun v H1 ⟨e, d, S1, hr1, r1, q1⟩ => h2 v d H1 S1 Q _ hr1 r1 q1 fun _ _ z => z.back e
def dNil : DTA := fun _ S Q => Q [] S
def dCons (ta : DTE) (t : DTA) : DTA := fun τ S Q => ta τ S fun x S1 => t τ S1 fun xs S2 => Q (x :: xs) S2
variable {es : List Expr} {tr : DTA}
theorem da_nil : DAr X [] dNil := .up pa_nil fun _ H _ S _ _ hr q => ⟨.refl _, [], S, hr, .nil, q⟩
theorem da_cons (ha : DE X a ta) (hb : DAr X es tr) (hs : starEach (a :: es) X.env = (false, eval a X.env) :: starEach es X.env := by rfl) : DAr X (a :: es) (dCons ta tr) :=
  .up (pa_cons ha.lo hb.lo hs) fun σ H τ S Q st hr q => .mk st hr q fun v H1 ⟨e, d, S1, hr1, r1, q1⟩ => ⟨τ, S1, _, st.ev e, hr1, q1, fun vs H2 ⟨e2, ds, S2, hr2, r2, q2⟩ => ⟨e.trans e2, d :: ds, S2, hr2, .cons (r1.ev e2) r2, q2⟩⟩
def DCall (X : Cx) (f : Value) (r : List D → Sto → KD → Prop) : Prop :=
  ∀ (pins : List (Addr × Obj)) (s : Shared) (σ : L2.St) (H : Hp) (xs : List V) (us : List Value) (ds : List D) (S : Sto) (Q : KD), Inv X pins σ H s → Vals xs us → HR X.KW H S → RelDs X.KW H xs ds → r ds S Q →
    wpAny (model X.prog X.w) X.A (call f us) (EP X pins σ (Up X.KW H Q)) X.xe s
def loC (K : KW) (r : List D → Sto → KD → Prop) : List V → Hp → VK → Prop := fun xs H R => ∃ ds S Q, HR K H S ∧ RelDs K H xs ds ∧ r ds S Q ∧ ∀ v H', Up K H Q v H' → R v H'
theorem DCall.lo {f : Value} {r : List D → Sto → KD → Prop} (h : DCall X f r) : CallR X f (loC X.KW r) := fun pins s σ H xs us R I v ⟨ds, S, Q, hr, rd, q, k⟩ => thn (h pins s σ H xs us ds S Q I v hr rd q) fun u s' ⟨z, H', I', r', q'⟩ => ⟨z, H', I', r', k _ _ q'⟩
def dCB (r : List D → Sto → KD → Prop) (t : DTA) : DTE := fun τ S Q => t τ S fun ds S1 => r ds S1 Q
theorem cb_lo {K : KW} {r : List D → Sto → KD → Prop} {σ : L2.St} {H : Hp} {τ : DSt} {S : Sto} {Q : KD} {t : DTA} (st : StR K H σ τ) (hr : HR K H S) (q : dCB r t τ S Q) : tCB (loC K r) (loA K t) σ H (Up K H Q) :=
  ⟨τ, S, _, st, hr, q, fun vs H1 ⟨e, ds, S1, hr1, r1, q1⟩ => ⟨ds, S1, Q, hr1, r1, q1, fun _ _ z => z.back e⟩⟩
theorem de_callB {x : Str} {p : Pos} {id : String} {r : List D → Sto → KD → Prop} (hc : DCall X (.builtin id) r) (hg : Gl X x) (hm : X.mg x = none) (hv : bootBuiltins x = some (.builtin id)) (ha : DAr X (a :: es) tr) (hn : x ≠ "__name__" := by decide) (hdb : (x == ("__debug__" : Str)) = false := by decide)
    (he : starEach (a :: es) X.env = (false, eval a X.env) :: starEach es X.env := by rfl) (hpl : (backTo pos (starEach es X.env)).any (·.1) = false := by rfl) : DE X (.Call (.Name x p) (a :: es) [] pos) (dCB r tr) :=
  .up (pe_callB hc.lo hg hm hv ha.lo hn hdb he hpl) fun _ _ _ _ _ st hr q => cb_lo st hr q
theorem de_callT {x : Str} {p : Pos} {T : String} {r : List D → Sto → KD → Prop} (hc : DCall X (.type T) r) (hg : Gl X x) (hm : X.mg x = none) (hv : bootBuiltins x = some (.type T)) (ha : DAr X (a :: es) tr) (hn : x ≠ "__name__" := by decide) (hdb : (x == ("__debug__" : Str)) = false := by decide)
    (he : starEach (a :: es) X.env = (false, eval a X.env) :: starEach es X.env := by rfl) (hpl : (backTo pos (starEach es X.env)).any (·.1) = false := by rfl) : DE X (.Call (.Name x p) (a :: es) [] pos) (dCB r tr) :=
  .up (pe_callTy hc.lo hg hm hv ha.lo hn hdb he hpl) fun _ _ _ _ _ st hr q => cb_lo st hr q
def dTup (t : DTA) : DTE := fun τ S Q => t τ S fun ds S1 => ds.length ≤ sizeLine ∧ Q (.tup ds) S1
def dLst (t : DTA) : DTE := fun τ S Q => t τ S fun ds S1 => ds.length ≤ sizeLine ∧ ∀ p, S1 p = none → Q (.ref p) (put S1 p (.lst ds))
theorem HR.free {K : KW} {H : Hp} {S : Sto} {p : Addr} (h : HR K H S) (n : H p = none) : S p = none := by
  cases e : S p with
  | none => rfl
  | some o =>
    have := h p o e
    cases o with
    | lst ds => obtain ⟨_, z, _⟩ := this; rw [n] at z; cases z
    | dct kvs => rcases this with ⟨_, z, _⟩ | ⟨_, z, _⟩ <;> (rw [n] at z; cases z)
    | fdc o kvs => rcases this with ⟨_, z, _⟩ | ⟨_, z, _⟩ <;> (rw [n] at z; cases z)
    | set ds => obtain ⟨_, _, _, z⟩ := this; rw [n] at z; cases z
    | tab ps => exact absurd (n.symm.trans this) (by simp)
    | cod q => exact absurd (n.symm.trans this) (by simp)
    | exc fs => obtain ⟨_, z, _⟩ := this; rw [n] at z; cases z
theorem HR.lst {K : KW} {H : Hp} {S : Sto} {p : Addr} {vs : List V} {ds : List D} (h : HR K H S) (n : H p = none) (r : RelDs K H vs ds) : HR K (upd H p (.lst vs)) (put S p (.lst ds)) := fun a o e => by
  by_cases z : a = p
  · subst z; rw [put_same] at e; cases e; exact ⟨vs, upd_same, r.ev (.new n)⟩
  · rw [put_ne z] at e; exact h.new n a o e
theorem HR.chg {K : KW} {H : Hp} {S : Sto} {p : Addr} {u o : HO} {b : AO} (h : HR K H S) (e : H p = some u) (hu : stays u = false) (k : OkO K (upd H p o) p b) : HR K (upd H p o) (put S p b) := fun a x q => by
  by_cases z : a = p
  · subst z; rw [put_same] at q; cases q; exact k
  · rw [put_ne z] at q; exact (h a x q).ev (.upd e hu) fun y w => by rw [upd_ne z]; exact w
def tupO (us : List Value) : Obj := { cls := .type "tuple", data := .seq us.toArray }
theorem Inv.laidT {X : Cx} {pins : List (Addr × Obj)} {s : Shared} {σ : L2.St} {H : Hp} {vs : List V} {us : List Value} (I : Inv X pins σ H s) (r : Vals vs us) (z : vs.length ≤ sizeLine) :
    Inv X pins σ (upd H s.heap.objs.size (.frz (tupO us) (.tup vs))) { s with heap := s.heap.push (tupO us) } :=
  I.laid (t' := s.toks) (fun b u e => Heap.get?_push_of_some _ e) (Nat.le_refl _) ⟨Heap.get?_push_size _ rfl, z, us, r, ⟨_, Heap.get?_push_size _ rfl, rfl, _, rfl⟩⟩
theorem relD_new {K : KW} {H : Hp} {p : Addr} {vs : List V} {ds : List D} {us : List Value} (n : H p = none) (r : RelDs K H vs ds) : RelD K (upd H p (.frz (tupO us) (.tup vs))) (.ref p) (.tup ds) :=
  .tup (.inl ⟨_, rfl, upd_same⟩) (r.ev (.new n))
theorem de_tup {k} (h : DAr X es tr) : DE X (.Tuple es k pos) (dTup tr) := ⟨fun pins s σ H τ S Q I st hr hq => by
  refine wpAny_Tuple_spliced (thn (h.run pos pins s σ H τ S _ I st hr hq) fun us s1 ⟨xs, H1, I1, r, e, ds, S1, hr1, rd, z, q⟩ => ⟨by rw [← r.length, rd.length]; exact z, ?_⟩)
  have hf : H1 s1.heap.objs.size = none := I1.hok.fresh (Nat.le_refl _)
  exact ⟨.ref s1.heap.objs.size, _, Inv.laidT I1 r (by rw [rd.length]; exact z), rfl, .of (e.trans (.new hf)) (hr1.new hf) (relD_new hf rd) q⟩⟩
theorem de_lst (h : DAr X es tr) : DE X (.List es pos) (dLst tr) := .up (pe_lst h.lo) fun σ H τ S Q st hr q => ⟨τ, S, _, st, hr, q, fun vs H1 ⟨e, ds, S1, hr1, r1, z, q1⟩ =>
  ⟨by rw [r1.length]; exact z, fun p n => .of (e.trans (.new n)) (hr1.lst n r1) (.ref p) (q1 p (hr1.free n))⟩⟩
end
end DL
namespace DL
open PySem PySem.Spec PyProof.Rows L2
section
variable {X : Cx} {pos : Pos}
theorem loS.e {K : KW} {t : DTS} {σ : L2.St} {H H0 : Hp} {τ : DSt} {S : Sto} {Dn : DEnds} (e : Ev H0 H) (st : StR K H σ τ) (hr : HR K H S) (q : t Dn τ S) : loS K t (UpE K H0 Dn) σ H :=
  ⟨τ, S, Dn, st, hr, q, fun _ _ z => z.back e, fun _ _ z => z.back e, fun _ _ z => z.back e, fun _ _ z => z.back e⟩
def dNext : DTS := fun Dn τ S => Dn.nx τ S
def dSeq (t u : DTS) : DTS := fun Dn τ S => t { Dn with nx := u Dn } τ S
variable {st : Stmt} {rest : List Stmt} {t u : DTS} {e : Expr} {te : DTE}
theorem dss_nil : DSs X [] dNext := .up pss_nil fun σ H τ S Dn st hr q => .same st hr q
theorem dss_cons (h1 : DSm X st t) (h2 : DSs X rest u) : DSs X (st :: rest) (dSeq t u) := .up (pss_cons h1.lo h2.lo) fun σ H τ S Dn sr hr q =>
  ⟨τ, S, { Dn with nx := u Dn }, sr, hr, q, fun σ' H' ⟨e, τ', S', hr', sr', q'⟩ => loS.e e sr' hr' q', fun _ _ z => z, fun _ _ z => z, fun _ _ z => z⟩
theorem dss_one (h1 : DSm X st t) : DSs X [st] t := .up (pss_one h1.lo) fun σ H τ S Dn sr hr q => loS.e (.refl _) sr hr q
def dDrop (te : DTE) : DTS := fun Dn τ S => te τ S fun _ S1 => Dn.nx τ S1
theorem ds_expr (he : DE X e te) (hs : swapsWith e none pos.line X.env = pure false := by rfl) : DSm X (.Expr e pos) (dDrop te) := .up (ps_expr he.lo hs) fun σ H τ S Dn st hr q =>
  .mk st hr q fun v H1 ⟨e, d, S1, hr1, r1, q1⟩ => ⟨e, τ, S1, hr1, st.ev e, q1⟩
def dRet (te : DTE) : DTS := fun Dn τ S => te τ S Dn.rt
theorem ds_ret (he : DE X e te) : DSm X (.Return (some e) pos) (dRet te) := .up (ps_ret he.lo) fun σ H τ S Dn st hr q => .mk st hr q fun v H1 z => z
def dIfS (c : DTT) (t u : DTS) : DTS := fun Dn τ S => c τ S fun b S1 => if b = true then t Dn τ S1 else u Dn τ S1
theorem ds_if {c : Expr} {a b : List Stmt} {tc : DTT} (hc : DT X c tc) (ha : DSs X a t) (hb : DSs X b u) : DSm X (.If c a b pos) (dIfS tc t u) := .up (ps_if hc.lo ha.lo hb.lo) fun σ H τ S Dn st hr q =>
  ⟨τ, S, _, st, hr, q, fun c H1 ⟨e, S1, hr1, q1⟩ => by
    cases c with
    | true => exact loS.e e (st.ev e) hr1 q1
    | false => exact loS.e e (st.ev e) hr1 q1⟩
def dNever : DTS := fun _ _ _ => False
abbrev DTG := D → DSt → Sto → (DSt → Sto → Prop) → Prop
abbrev DTGs := List D → DSt → Sto → (DSt → Sto → Prop) → Prop
def loG (K : KW) (g : DTG) : TG := fun v σ H R => ∃ d τ S Q, RelD K H v d ∧ StR K H σ τ ∧ HR K H S ∧ g d τ S Q ∧ ∀ σ' H', UpS K H Q σ' H' → R σ' H'
def loGs (K : KW) (g : DTGs) : TGs := fun vs σ H R => ∃ ds τ S Q, RelDs K H vs ds ∧ StR K H σ τ ∧ HR K H S ∧ g ds τ S Q ∧ ∀ σ' H', UpS K H Q σ' H' → R σ' H'
structure DG (X : Cx) (target : Expr) (g : DTG) : Prop where
  pg : PG X target (loG X.KW g)
structure DGs (X : Cx) (ts : List Expr) (g : DTGs) : Prop where
  pg : PGs X ts (loGs X.KW g)
theorem DG.up {tg : Expr} {g : DTG} {h : TG} (p : PG X tg h) (c : ∀ v σ H d τ S Q, RelD X.KW H v d → StR X.KW H σ τ → HR X.KW H S → g d τ S Q → h v σ H (UpS X.KW H Q)) : DG X tg g :=
  ⟨⟨fun pins s σ H v u R I r ⟨d, τ, S, Q, rd, st, hr, q, k⟩ => thn (p.run pins s σ H v u _ I r (c v σ H d τ S Q rd st hr q)) fun _ s' ⟨σ', H', I', z⟩ => ⟨σ', H', I', k _ _ z⟩⟩⟩
theorem DGs.up {tg : List Expr} {g : DTGs} {h : TGs} (p : PGs X tg h) (c : ∀ v σ H d τ S Q, RelDs X.KW H v d → StR X.KW H σ τ → HR X.KW H S → g d τ S Q → h v σ H (UpS X.KW H Q)) : DGs X tg g :=
  ⟨⟨fun pins s σ H v u R I r ⟨d, τ, S, Q, rd, st, hr, q, k⟩ => thn (p.run pins s σ H v u _ I r (c v σ H d τ S Q rd st hr q)) fun _ s' ⟨σ', H', I', z⟩ => ⟨σ', H', I', k _ _ z⟩⟩⟩
def gdName (i : Nat) : DTG := fun d τ S Q => Q (τ.set i (some d)) S
theorem dg_name {i : Nat} {x : Str} (hN : X.N.Nodup) (hi : X.N[i]? = some x) (hx : Loc X.env.scope x) (hf : X.fn x = true ∨ X.env.scope.names.lookup x = some .local := by first | exact .inl rfl | exact .inr rfl | assumption) : DG X (.Name x pos) (gdName i) :=
  .up (pg_name hN hi hx hf) fun v σ H d τ S Q rd st hr q => ⟨.refl _, _, S, hr, st.set rd i, q⟩
def gdNil : DTGs := fun ds τ S Q => ds = [] ∧ Q τ S
def gdCons (g : DTG) (h : DTGs) : DTGs := fun ds τ S Q => match ds with | d :: r => g d τ S fun τ' S' => h r τ' S' Q | [] => False
theorem dgs_nil : DGs X [] gdNil := .up pgs_nil fun v σ H d τ S Q rd st hr ⟨e, q⟩ => by
  subst e; cases rd; exact ⟨rfl, .same st hr q⟩
theorem dgs_cons {e : Expr} {es : List Expr} {g : DTG} {h : DTGs} (h1 : DG X e g) (h2 : DGs X es h) (hs : (assignEach (e :: es) X.env).map (·.2) = assign e X.env :: (assignEach es X.env).map (·.2) := by rfl) : DGs X (e :: es) (gdCons g h) :=
  .up (pgs_cons h1.pg h2.pg hs) fun v σ H ds τ S Q rd st hr q => by
    cases rd with
    | nil => exact q.elim
    | cons r t => exact ⟨_, _, rfl, _, τ, S, _, r, st, hr, q, fun σ' H' ⟨e, τ', S', hr', st', q'⟩ => ⟨_, τ', S', Q, t.ev e, st', hr', q', fun _ _ z => z.back e⟩⟩
def gdTup (n : Nat) (g : DTGs) : DTG := fun d τ S Q => match d with | .tup ds => ds.length = n ∧ g ds τ S Q | .wt ds => ds.length = n ∧ g ds τ S Q | _ => False
theorem dg_tup {es : List Expr} {k : Nat} {g : DTGs} {n : Nat} (hc : X.calm = true) (h : DGs X es g) (hn : (assignEach es X.env).length = n := by rfl) (hst : (assignEach es X.env).findIdx? (·.1) = none := by rfl) : DG X (.Tuple es k pos) (gdTup n g) :=
  .up (pg_tup hc h.pg hn hst) fun v σ H d τ S Q rd st hr q => by
    cases d with
    | tup ds =>
      cases rd with
      | tup t r => exact ⟨_, _, rfl, t.sq, by rw [r.length]; exact q.1, _, τ, S, Q, r, st, hr, q.2, fun _ _ z => z⟩
    | wt ds =>
      cases rd with
      | wt t r => exact ⟨_, _, rfl, .inl (.inl t), by rw [r.length]; exact q.1, _, τ, S, Q, r, st, hr, q.2, fun _ _ z => z⟩
    | _ => exact q.elim
def DSet (X : Cx) (t : D → D → D → Sto → (Sto → Prop) → Prop) : Prop :=
  ∀ (pins : List (Addr × Obj)) (s : Shared) (σ : L2.St) (H : Hp) (o i v : V) (od id vd : D) (ov iv u : Value) (S : Sto) (Q : Sto → Prop), Inv X pins σ H s → HR X.KW H S → RelV o ov → RelV i iv → RelV v u → RelD X.KW H o od → RelD X.KW H i id → RelD X.KW H v vd → t od id vd S Q →
    wpAny (model X.prog X.w) X.A (setItem ov iv u) (fun _ s' => ∃ H', Inv X pins σ H' s' ∧ Ev H H' ∧ ∃ S', HR X.KW H' S' ∧ Q S') X.xe s
def gdSub (to ti : DTE) (t : D → D → D → Sto → (Sto → Prop) → Prop) : DTG := fun v τ S Q => to τ S fun o S1 => ti τ S1 fun i S2 => t o i v S2 fun S3 => Q τ S3
theorem dg_sub {o i : Expr} {to ti : DTE} {t : D → D → D → Sto → (Sto → Prop) → Prop} (ho : DE X o to) (hi : DE X i ti) (hs : DSet X t)
    (ha : ∀ v, assign (.Subscript o i pos) X.env v = (do
      let ov ← holding [v] (eval o X.env)
      let iv ← holding [v, ov] (eval i X.env)
      standAt pos
      holding [v, ov, iv] (setItem ov iv v)
      release [v, ov, iv] []) := by intro _; rfl) : DG X (.Subscript o i pos) (gdSub to ti t) := by
  refine .up (pg_sub (t := fun o i v H R => ∃ od id vd S Q, HR X.KW H S ∧ RelD X.KW H o od ∧ RelD X.KW H i id ∧ RelD X.KW H v vd ∧ t od id vd S Q ∧ ∀ H' S', Ev H H' → HR X.KW H' S' → Q S' → R H') ho.lo hi.lo ?_ ha) fun v σ H d τ S Q rd st hr q =>
    .mk st hr q fun o1 H1 ⟨e1, od, S1, hr1, r1, q1⟩ => .mk (st.ev e1) hr1 q1 fun i1 H2 ⟨e2, id, S2, hr2, r2, q2⟩ =>
      ⟨od, id, d, S2, _, hr2, r1.ev e2, r2, rd.ev (e1.trans e2), q2, fun H' S' e3 hr' q3 => ⟨(e1.trans e2).trans e3, τ, S', hr', st.ev ((e1.trans e2).trans e3), q3⟩⟩
  intro pins s σ H o i v ov iv u R I r1 r2 r3 ⟨od, id, vd, S, Q, hr, d1, d2, d3, q, k⟩
  exact thn (hs pins s σ H o i v od id vd ov iv u S Q I hr r1 r2 r3 d1 d2 d3 q) fun _ s' ⟨H', I', e, S', hr', q'⟩ => ⟨H', I', k H' S' e hr' q'⟩
def dAsg (te : DTE) (g : DTG) : DTS := fun Dn τ S => te τ S fun x S1 => g x τ S1 Dn.nx
theorem ds_asg {tg : Expr} {g : DTG} (he : DE X e te) (hg : DG X tg g) (hs : swapsWithSole [tg] e pos.line X.env = pure false := by rfl) (hw : swappedStores [tg] e X.env = pure none := by rfl)
    (h1 : (assignEach [tg] X.env).map (·.2) = [assign tg X.env] := by rfl) : DSm X (.Assign [tg] e pos) (dAsg te g) := .up (ps_asg he.lo hg.pg hs hw h1) fun σ H τ S Dn st hr q =>
  .mk st hr q fun v H1 ⟨e, d, S1, hr1, r1, q1⟩ => ⟨d, τ, S1, _, r1, st.ev e, hr1, q1, fun _ _ z => z.back e⟩
theorem ds_set {i : Nat} {x : Str} {p' : Pos} (hN : X.N.Nodup) (hi : X.N[i]? = some x) (hx : Loc X.env.scope x) (he : DE X e te) (hs : swapsWith e (some (.Name x p')) pos.line X.env = pure false := by rfl) (hf : X.fn x = true ∨ X.env.scope.names.lookup x = some .local := by first | exact .inl rfl | exact .inr rfl | assumption) :
    DSm X (.Assign [.Name x p'] e pos) (dAsg te (gdName i)) := .up (ps_set hN hi hx he.lo hs hf) fun σ H τ S Dn st hr q =>
  .mk st hr q fun v H1 ⟨e, d, S1, hr1, r1, q1⟩ => ⟨e, _, S1, hr1, (st.ev e).set r1 i, q1⟩
def dPar (i j : Nat) (ta : DTA) : DTS := fun Dn τ S => ta τ S fun ds S1 => match ds with | [x, y] => Dn.nx ((τ.set i (some x)).set j (some y)) S1 | _ => False
theorem ds_par {i j : Nat} {x y : Str} {a b : Expr} {ta : DTA} {px py pt : Pos} {kt k2 pt2} (hc : X.calm = true) (hN : X.N.Nodup) (hi : X.N[i]? = some x) (hj : X.N[j]? = some y) (hij : i ≠ j)
    (hx : X.env.scope.names.lookup x = some .local) (hy : X.env.scope.names.lookup y = some .local) (ha : DAr X [a, b] ta)
    (hw : swappedStores [.Tuple [.Name x px, .Name y py] kt pt] (.Tuple [a, b] k2 pt2) X.env = pure (some [x, y]))
    (hs : swapsWithSole [.Tuple [.Name x px, .Name y py] kt pt] (.Tuple [a, b] k2 pt2) pos.line X.env = pure false := by rfl) :
    DSm X (.Assign [.Tuple [.Name x px, .Name y py] kt pt] (.Tuple [a, b] k2 pt2) pos) (dPar i j ta) := .up (ps_par hc hN hi hj hij hx hy ha.lo hw hs) fun σ H τ S Dn st hr q =>
  ⟨τ, S, _, st, hr, q, fun vs H1 ⟨e, ds, S1, hr1, r1, q1⟩ => by
    cases r1 with
    | nil => exact q1.elim
    | cons r t =>
      cases t with
      | nil => exact q1.elim
      | cons r' t' =>
        cases t' with
        | nil => exact ⟨_, _, rfl, e, _, S1, hr1, (((st.ev e).set r i).set r' j), q1⟩
        | cons _ _ => exact q1.elim⟩
def whF (c : DTT) (tb : DTS) (Dn : DEnds) : Nat → DSt → Sto → Prop
  | 0, _, _ => False
  | n + 1, τ, S => c τ S fun b S1 => if b = true then tb { Dn with nx := whF c tb Dn n, ct := whF c tb Dn n, bk := Dn.nx } τ S1 else Dn.nx τ S1
def dWhile (c : DTT) (tb : DTS) : DTS := fun Dn τ S => ∃ n, whF c tb Dn n τ S
theorem ds_while {c : Expr} {body : List Stmt} {tc : DTT} {tb : DTS} (hp : PassesOwn (model X.prog X.w) X.A X.env X.xe) (hc : DT X c tc) (hb : DSs X body tb) : DSm X (.While c body [] pos) (dWhile tc tb) :=
  .up (ps_while hp hc.lo hb.lo) fun σ H τ S Dn st hr ⟨n, q⟩ => by
    refine ⟨fun n σ' H' => UpS X.KW H (whF tc tb Dn n) σ' H', ⟨n, .same st hr q⟩, ?_⟩
    rintro m σ1 H1 ⟨e1, τ1, S1, hr1, st1, q1⟩
    cases m with
    | zero => exact q1.elim
    | succ m =>
      refine ⟨τ1, S1, _, st1, hr1, q1, fun b H2 ⟨e2, S2, hr2, q2⟩ => ?_⟩
      cases b with
      | false => exact ⟨e1.trans e2, τ1, S2, hr2, st1.ev e2, q2⟩
      | true => exact ⟨UpS X.KW H (whF tc tb Dn m), fun σ' H' z => ⟨m, Nat.lt_succ_self m, z⟩, loS.e (e1.trans e2) (st1.ev e2) hr2 q2⟩
abbrev DTI := DSt → Sto → (List D → (Sto → Prop) → Sto → Prop) → Prop
def ItD (K : KW) (H0 : Hp) (ds : List D) (stab : Sto → Prop) : It :=
  ⟨fun i H => Ev H0 H ∧ (∃ S, HR K H S ∧ stab S) ∧ i < ds.length, fun i H x H' => Ev H H' ∧ (∀ S, HR K H S → HR K H' S) ∧ ∃ d, ds[i]? = some d ∧ RelD K H' x d, fun i H => Ev H0 H ∧ (∃ S, HR K H S ∧ stab S) ∧ i = ds.length⟩
def loI (K : KW) (wi : DTI) : TI := fun σ H R => ∃ τ S Rd, StR K H σ τ ∧ HR K H S ∧ wi τ S Rd ∧ ∀ ds stab S1 H1, Ev H H1 → HR K H1 S1 → Rd ds stab S1 → R (ItD K H1 ds stab) H1
structure DI (X : Cx) (tg iter : Expr) (wi : DTI) : Prop where
  pi : PI X tg iter (loI X.KW wi)
theorem Turn.imp {P : Program} {w : World} {K : PySem.W.Frag} {tg : Expr} {J J' : It} {fp : List Addr} {it : Addr} {tn : Nat → Heap → Prop} (T : Turn P w K tg J fp it tn) (h1 : ∀ i H, J'.go i H → J.go i H) (h2 : ∀ i H x H', J'.go i H → J.yld i H x H' → J'.yld i H x H')
    (h3 : ∀ i H, J'.stop i H → J.stop i H) : Turn P w K tg J' fp it tn where
  mem := T.mem
  obj := T.obj
  keep := T.keep
  item := fun X a b c d i pins s σ H E I f st g => thn (T.item X a b c d i pins s σ H E I f st (h1 _ _ g)) fun r s1 ⟨u, hu, z⟩ => ⟨u, hu, thn z fun _ s2 ⟨x, H', I', r', y, q⟩ => ⟨x, H', I', r', h2 _ _ _ _ g y, q⟩⟩
  done := fun X a b c d i pins s σ H E I f st g => T.done X a b c d i pins s σ H E I f st (h3 _ _ g)
  self := T.self
theorem DI.up {tg iter : Expr} {wi : DTI} {w : TI} (p : PI X tg iter w)
    (c : ∀ σ H τ S Rd, StR X.KW H σ τ → HR X.KW H S → wi τ S Rd → w σ H fun J H1 => ∃ ds stab S1, Ev H H1 ∧ HR X.KW H1 S1 ∧ Rd ds stab S1 ∧ (∀ i H, (ItD X.KW H1 ds stab).go i H → J.go i H) ∧ (∀ i H x H', (ItD X.KW H1 ds stab).go i H → J.yld i H x H' → (ItD X.KW H1 ds stab).yld i H x H') ∧ ∀ i H, (ItD X.KW H1 ds stab).stop i H → J.stop i H) : DI X tg iter wi :=
  ⟨⟨fun pins s σ H R I ⟨τ, S, Rd, st, hr, q, k⟩ => thn (p.run pins s σ H _ I (c σ H τ S Rd st hr q)) fun v s1 h => thn h fun itv s2 ⟨it, fp, tn, J, H', e, I', T, t0, f, ds, stab, S1, ev, hr1, rd, h1, h2, h3⟩ =>
    ⟨it, fp, tn, ItD X.KW H' ds stab, H', e, I', Turn.imp T h1 h2 h3, t0, f, k ds stab S1 H' ev hr1 rd⟩⟩⟩
def loopF (g : DTG) (tb : DTS) (Dn : DEnds) (stab : Sto → Prop) : List D → DSt → Sto → Prop
  | [], τ, S => stab S ∧ Dn.nx τ S
  | d :: ds, τ, S => stab S ∧ g d τ S fun τ2 S2 => tb { Dn with nx := loopF g tb Dn stab ds, ct := loopF g tb Dn stab ds, bk := Dn.nx } τ2 S2
def dFor (wi : DTI) (g : DTG) (tb : DTS) : DTS := fun Dn τ S => wi τ S fun ds stab S1 => loopF g tb Dn stab ds τ S1
theorem ds_for {tg iter : Expr} {body : List Stmt} {wi : DTI} {g : DTG} {tb : DTS} (hp : PassesOwn (model X.prog X.w) X.A X.env X.xe) (hc : X.calm = true) (hi : DI X tg iter wi) (hg : DG X tg g) (hb : DSs X body tb)
    (hs : ∀ x, foldedSetIterable iter X.env x = pure x := by intro _; rfl) : DSm X (.For tg iter body [] pos) (dFor wi g tb) :=
  .up (ps_for hp hc hi.pi hg.pg hb.lo hs) fun σ H τ S Dn st hr q => by
    refine ⟨τ, S, _, st, hr, q, fun ds stab S1 H1 e1 hr1 q1 => ?_⟩
    refine ⟨fun i m σ' H' => m = ds.length - i ∧ i ≤ ds.length ∧ Ev H1 H' ∧ UpS X.KW H (loopF g tb Dn stab (ds.drop i)) σ' H', ⟨ds.length, by simp, Nat.zero_le _, .refl _, e1, τ, S1, hr1, st.ev e1, by simpa using q1⟩, ?_⟩
    rintro i m σ2 H2 ⟨em, hi, e12, e2, τ2, S2, hr2, st2, q2⟩
    by_cases hlt : i < ds.length
    · rw [List.drop_eq_getElem_cons hlt] at q2
      refine .inr ⟨⟨e12, ⟨S2, hr2, q2.1⟩, hlt⟩, fun σ' H' => Ev H1 H' ∧ UpS X.KW H (loopF g tb Dn stab (ds.drop (i + 1))) σ' H', fun σ' H' ⟨z1, z⟩ => ⟨m - 1, by omega, by omega, by omega, z1, z⟩, fun x H3 ⟨e3, k3, d, hd, r3⟩ => ?_⟩
      rw [List.getElem?_eq_getElem hlt] at hd
      cases hd
      refine ⟨_, τ2, S2, _, r3, st2.ev e3, k3 _ hr2, q2.2, fun σ4 H4 ⟨e4, τ4, S4, hr4, st4, q4⟩ => ?_⟩
      have e14 : Ev H1 H4 := (e12.trans e3).trans e4
      have e04 : Ev H H4 := (e2.trans e3).trans e4
      refine ⟨τ4, S4, _, st4, hr4, q4, fun _ _ z => ⟨e14.trans z.1, z.back e04⟩, fun _ _ z => z.back e04, fun _ _ z => z.back e04, fun _ _ z => ⟨e14.trans z.1, z.back e04⟩⟩
    · have ei : i = ds.length := by omega
      subst ei
      rw [List.drop_length] at q2
      exact .inl ⟨⟨e12, ⟨S2, hr2, q2.1⟩, rfl⟩, e2, τ2, S2, hr2, st2, q2.2⟩
end
end DL
namespace DL
open PySem PySem.Spec PyProof.Rows L2
abbrev KX := Value → List (Str × D) → Sto → Prop
def UpX (K : KW) (H : Hp) (E : KX) : XK := fun cls dx H' => Ev H H' ∧ ∃ fs S', HR K H' S' ∧ ((dx = none ∧ fs = []) ∨ ∃ d vs, dx = some d ∧ H' d = some (.xd vs) ∧ RelFs K H' vs fs) ∧ E cls fs S'
theorem UpX.back {K : KW} {H H1 H' : Hp} {E : KX} {c d} (e : Ev H H1) (u : UpX K H1 E c d H') : UpX K H E c d H' := ⟨e.trans u.1, u.2⟩
abbrev DSp := List D → Sto → KD → KX → Prop
abbrev noX : KX := fun _ _ _ => False
structure FnD (P : Program) (w : World) (K : PySem.W.Frag) (mg : Str → Option Value) (base : Heap) (k : Nat) (f : Addr) (fd : FuncData) (ps : List Str) (sp : DSp) : Prop where
  len : ∀ ds S Q E, sp ds S Q E → ds.length = ps.length
  run : ∀ (A : Around) (outer : List Env) (s : Shared) (H : Hp) (args : Args) (us : List Value) (vs : List V) (ds : List D) (S : Sto) (Q : KD) (E : KX), Room k A → A.guards = some [] →
    Env0 P w K mg base A outer s H → BindsTo s fd args (ps.zip us) → Vals vs us → RelDs ⟨K, P, w⟩ H vs ds → HR ⟨K, P, w⟩ H S → sp ds S Q E →
    codeAny (model P w) A (.call (.ref f) args) (CR (CX P w) outer P w H s (Up ⟨K, P, w⟩ H Q) (UpX ⟨K, P, w⟩ H E)) s
section
variable {P : Program} {w : World} {K : PySem.W.Frag} {mg : Str → Option Value} {base : Heap} {j k : Nat} {f : Addr} {fd : FuncData} {ps : List Str} {sp sp' : DSp}
theorem FnD.mono (F : FnD P w K mg base j f fd ps sp) (h : j ≤ k) : FnD P w K mg base k f fd ps sp := ⟨F.len, fun A outer s H args us vs ds S Q E hr => F.run A outer s H args us vs ds S Q E (hr.mono h)⟩
theorem FnD.imp (F : FnD P w K mg base k f fd ps sp) (h : ∀ ds S Q E, sp' ds S Q E → sp ds S Q E) : FnD P w K mg base k f fd ps sp' :=
  ⟨fun ds S Q E q => F.len ds S Q E (h _ _ _ _ q), fun A outer s H args us vs ds S Q E hr hg he hb hv hd hs q => F.run A outer s H args us vs ds S Q E hr hg he hb hv hd hs (h _ _ _ _ q)⟩
def startD (N : List Str) (ds : List D) : DSt := ds.map some ++ List.replicate (N.length - ds.length) none
theorem startD.rel {K : KW} {H : Hp} {N : List Str} {vs : List V} {ds : List D} (r : RelDs K H vs ds) : StR K H (L2.start N vs) (startD N ds) := by
  unfold L2.start startD
  rw [r.length]
  exact StR.somes r (StR.nones _)
def bodyEnds (Q : KD) : DEnds := ⟨fun _ S => Q .non S, Q, fun _ _ => False, fun _ _ => False⟩
theorem FnD.of {x qual : Str} {st : Stmt} {N : List Str} (F : Fun K x qual st f fd) (S : FnScope N ps (defScope st)) (len : ∀ ds S Q E, sp ds S Q E → ds.length = ps.length)
    (hbody : ∀ (cdv : Value) (A : Around) (outer : List Env) (s : Shared) (H : Hp) (ds : List D) (So : Sto) (Q : KD) (E : KX), Room k (A.deeper (envOfC qual (defScope st) s.heap.objs.size f cdv)) → (A.deeper (envOfC qual (defScope st) s.heap.objs.size f cdv)).guards = some [] → sp ds So Q E →
      ∃ t, DSs (cxOf (CX P w) P w K mg base N qual (defScope st) f cdv A outer s H (UpX ⟨K, P, w⟩ H E)) (defBody st) t ∧ t (bodyEnds Q) (startD N ds) So) : FnD P w K mg base (k + 1) f fd ps sp := by
  obtain ⟨oc, od, kV, doc, pm, an, cdv, ct, osl, rfl, lk, hcd⟩ := F.ex
  refine ⟨len, fun A outer s H args us vs ds So Q E hr hgd e0 hb rv rd hR hsp => ?_⟩
  have hl : vs.length = ps.length := by rw [rd.length]; exact len _ _ _ _ hsp
  have stays : ∀ b o, base.get? b = some o → s.heap.get? b = some o := fun b o e => (e0.bs b o e).1
  have inK : K.In s.heap := e0.mod.kin.keeps stays
  have lim : s.heap.NoLimit := e0.mod.nolimit.keeps stays
  have params : ∀ y ∈ ps.zip us, (defScope st).names.lookup y.1 = some .local ∨ ((defScope st).names.lookup y.1 = some .cell ∧ ((cellsFrom (s.heap.objs.size + 1) (defScope st).names []).lookup y.1).isSome = true) := by
    rintro ⟨n, v⟩ hy
    rcases S.par n (List.of_mem_zip hy).1 with q | q
    · exact .inl q
    · exact .inr ⟨q, PySem.W.cellsFrom_some _ _ _ (.inl q)⟩
  refine codeAny_call_function hr.depth (inK _ _ lk) rfl S.co S.gen rfl (PySem.W.codeRec_of inK hcd) (hb _ _ _ _ (wpAny_newFunctionEnv_cells S.kind params fun env he s1 entered => ?_))
  subst he
  refine ⟨lim.keeps entered.toInCall.keep, codeAny_func ?_⟩
  obtain ⟨t, ht, hq⟩ := hbody cdv A outer s H ds So Q E (hr.deeper _) (by
    first
      | exact hgd
      | simpa [Around.deeper, Code.guards, pushGuards, Code.isGuard] using hgd) hsp
  have I := inv_start (CX := CX P w) (N := N) (mg := mg) (E := UpX ⟨K, P, w⟩ H E) S hr.hd e0 hl rv entered
  refine wpAny_mono (ht.run [] s1 (L2.start N vs) H _ So _ I (startD.rel rd) hR hq) (fun fl s' z => ?_) fun _ _ z => z
  have fin : ∀ {σ' H' v u}, Inv (cxOf (CX P w) P w K mg base N qual (defScope st) f cdv A outer s H (UpX ⟨K, P, w⟩ H E)) [] σ' H' s' → RelV v u → Up ⟨K, P, w⟩ H Q v H' → CE outer P w H s (Up ⟨K, P, w⟩ H Q) u s' :=
    fun J r q => ⟨_, _, J.os, J.bare, J.base, J.hok, r, q⟩
  cases fl with
  | ret u => obtain ⟨v, σ', H', J, r, q⟩ := z; exact fin J r q
  | next => obtain ⟨σ', H', J, e, τ', S', hr', _, q⟩ := z; exact fin (v := .non) (u := .none) J rfl (.of e hr' .non q)
  | brk => obtain ⟨_, _, _, _, _, _, _, _, q⟩ := z; exact q.elim
  | cont => obtain ⟨_, _, _, _, _, _, _, _, q⟩ := z; exact q.elim
end
section
variable {X : Cx} {k : Nat} {f : Addr} {fd : FuncData} {ps : List Str} {sp : DSp} {x : Str} {p pos : Pos} {e : Expr} {es : List Expr} {tr : DTA}
theorem noPass {H : Hp} {E : Value → Shared → Prop} {s s' : Shared} {e : Value} {outer : List Env} (c : CX X.prog X.w outer H s (UpX X.KW H noX) e s') : E e s' := by
  obtain ⟨_, _, _, _, _, _, _, _, _, _, _, _, _, _, _, _, _, z⟩ := c
  exact z.elim
structure Dfl (P : Program) (w : World) (K : PySem.W.Frag) (dds : List D) (dfl : List Value) : Prop where
  ex : ∃ dvs, Vals dvs dfl ∧ ∀ H, RelDs ⟨K, P, w⟩ H dvs dds
theorem Dfl.nil {P : Program} {w : World} {K : PySem.W.Frag} : Dfl P w K [] [] := ⟨[], .nil, fun _ => .nil⟩
theorem runD {dds : List D} {dfl : List Value} {pins : List (Addr × Obj)} {σ : L2.St} {H : Hp} {s : Shared} {S : Sto} {Q : KD} {E : KX} {us : List Value} {vs : List V} {ds : List D} (F : FnD X.prog X.w X.K X.mg X.base k f fd ps sp) (hr : Room k X.A) (hgd : X.A.guards = some [])
    (hb : Binds X.K fd ps dfl) (hd : Dfl X.prog X.w X.K dds dfl) (I : Inv X pins σ H s) (r : Vals vs us) (rd : RelDs X.KW H vs ds) (hR : HR X.KW H S) (h : sp (ds ++ dds) S Q E) (hx : ∀ e s', CX X.prog X.w X.stack H s (UpX X.KW H E) e s' → X.xe e s') :
    wpAny (model X.prog X.w) X.A (call (.ref f) us) (EP X pins σ (Up X.KW H Q)) X.xe s := by
  obtain ⟨dvs, d1, d2⟩ := hd.ex
  have hl : (us ++ dfl).length = ps.length := by
    rw [List.length_append, ← r.length, ← d1.length, rd.length, (d2 H).length, ← List.length_append]
    exact F.len _ _ _ _ h
  refine wpAny_call (codeAny_mono (F.run X.A X.stack s H ⟨us, []⟩ (us ++ dfl) (vs ++ dvs) (ds ++ dds) S Q E hr hgd I.env0 (hb s us I.kIn hl) (r.append d1) (rd.append (d2 H)) hR h) fun res s' z => ?_)
  cases res with
  | error e => exact hx e s' z
  | ok fl =>
    cases fl with
    | ret u => exact I.after z
    | next => exact z.elim
    | brk => exact z.elim
    | cont => exact z.elim
def dCall (sp : DSp) (dds : List D) (t : DTA) : DTE := fun τ S Q => t τ S fun ds S1 => sp (ds ++ dds) S1 Q noX
theorem de_call {dds : List D} {dfl : List Value} (F : FnD X.prog X.w X.K X.mg X.base k f fd ps sp) (hr : Room k X.A) (hgd : X.A.guards = some []) (hg : Gl X x) (hm : X.mg x = some (.ref f)) (hk : PySem.W.keepIn X.K (.ref f) = true) (hb : Binds X.K fd ps dfl) (hd : Dfl X.prog X.w X.K dds dfl)
    (ha : DAr X (e :: es) tr) (hdb : (x == ("__debug__" : Str)) = false := by decide) (he : starEach (e :: es) X.env = (false, eval e X.env) :: starEach es X.env := by rfl) (hpl : (backTo pos (starEach es X.env)).any (·.1) = false := by rfl) :
    DE X (.Call (.Name x p) (e :: es) [] pos) (dCall sp dds tr) := by
  refine ⟨fun pins s σ H τ S Q I st hR q => wpAny_Call_Name_kw (ld_glob I hg hm ?_ hdb)⟩
  refine PySem.W.callWith_K (h₀ := X.base) I.ok.mod.kin hk (thn (ha.run pos pins s σ H τ S _ I st hR q) fun us s1 ⟨vs, H1, I1, r, ev, ds, S1, hR1, rd, q1⟩ => ⟨I1.kIn, ?_⟩) he hpl
  exact thn (runD F hr hgd hb hd I1 r rd hR1 q1 fun e s' c => noPass c) fun u s' ⟨v, H', I', r', z⟩ => ⟨v, H', I', r', z.back ev⟩
theorem DSs.nox {st : List Stmt} {t : DTS} (h : DSs X.nox st t) : DSs X st t := ⟨fun pins s σ H τ S Dn I sr hr q =>
  wpAny_mono (h.run pins s σ H τ S Dn (I.wish _) sr hr q) (fun _ _ z => SP.unwish z) fun _ _ z => z.elim⟩
end
end DL
namespace DL
open PySem PySem.Spec PyProof.Rows L2
mutual
def D.py : D → PyData
  | .non => .none | .bl b => .bool b | .int i => .int i | .str x => .str x
  | .tup ds => .tuple (D.pys ds) | .wt _ => .none | .fz ds => .list (D.pys ds) | .ref _ => .none | .ty _ => .none
def D.pys : List D → List PyData
  | [] => []
  | d :: r => D.py d :: D.pys r
end
mutual
def D.ok : D → Nat → Bool
  | .non, _ => true | .bl _, _ => true | .int _, _ => true | .str _, _ => true
  | .tup ds, n + 1 => D.oks ds n | .fz ds, n + 1 => D.oks ds n
  | _, _ => false
def D.oks : List D → Nat → Bool
  | [], _ => true
  | d :: r, n => D.ok d n && D.oks r n
end
def rd : Nat → Sto → D → D
  | 0, _, d => d
  | n + 1, S, .tup ds => .tup (ds.map (rd n S))
  | n + 1, S, .fz ds => .fz (ds.map (rd n S))
  | n + 1, S, .ref a => match S a with | some (.lst ds) => .fz (ds.map (rd n S)) | _ => .ref a
  | _ + 1, _, d => d
theorem pys_map : ∀ ds : List D, D.pys ds = ds.map D.py
  | [] => rfl
  | d :: r => by rw [D.pys, pys_map r]; rfl
theorem oks_all : ∀ (ds : List D) (n : Nat), D.oks ds n = ds.all fun d => D.ok d n
  | [], _ => rfl
  | d :: r, n => by rw [D.oks, oks_all r]; rfl
section
variable {K : KW} {H : Hp} {S : Sto}
mutual
theorem dp_of : ∀ {v : V} {d : D}, RelD K H v d → ∀ m, d.ok m = true → Dp K.fr H v d.py ∧ d.py.canLay0 = true ∧ d.py.depth ≤ m
  | _, _, .non, m, _ => ⟨by rw [D.py]; exact .non, by simp [D.py, PyData.canLay0], by simp [D.py, PyData.depth]⟩
  | _, _, .bl b, m, _ => ⟨by rw [D.py]; exact .bl b, by simp [D.py, PyData.canLay0], by simp [D.py, PyData.depth]⟩
  | _, _, .int b, m, _ => ⟨by rw [D.py]; exact .int b, by simp [D.py, PyData.canLay0], by simp [D.py, PyData.depth]⟩
  | _, _, .str b h, m, _ => ⟨by rw [D.py]; exact .str b, by simp [D.py, PyData.canLay0, h], by simp [D.py, PyData.depth]⟩
  | _, _, .ty _, _, h => by simp [D.ok] at h
  | _, _, .ref _, _, h => by simp [D.ok] at h
  | _, _, .wt _ _, _, h => by simp [D.ok] at h
  | _, _, .tup _ _, 0, h => by simp [D.ok] at h
  | _, _, .fz _ _, 0, h => by simp [D.ok] at h
  | _, .tup ds, .tup t r, m + 1, h => by
    obtain ⟨a, b, c⟩ := dps_of r m (by simpa [D.ok] using h)
    refine ⟨by rw [D.py]; exact .tup t.sq a, by rw [D.py, PyData.canLay0]; exact b, by rw [D.py, PyData.depth]; omega⟩
  | _, .fz ds, .fz t r, m + 1, h => by
    obtain ⟨a, b, c⟩ := dps_of r m (by simpa [D.ok] using h)
    refine ⟨by rw [D.py]; exact .lst t.sq a, by rw [D.py, PyData.canLay0]; exact b, by rw [D.py, PyData.depth]; omega⟩
theorem dps_of : ∀ {vs : List V} {ds : List D}, RelDs K H vs ds → ∀ m, D.oks ds m = true → DpAll K.fr H vs (D.pys ds) ∧ PyData.canLayAll0 (D.pys ds) = true ∧ PyData.depthAll (D.pys ds) ≤ m
  | _, _, .nil, m, _ => ⟨by rw [D.pys]; exact .nil, by simp [D.pys, PyData.canLayAll0], by simp [D.pys, PyData.depthAll]⟩
  | _, _, .cons r t, m, h => by
    rw [D.oks, Bool.and_eq_true] at h
    obtain ⟨a, b, c⟩ := dp_of r m h.1
    obtain ⟨a', b', c'⟩ := dps_of t m h.2
    refine ⟨by rw [D.pys]; exact .cons a a', by rw [D.pys, PyData.canLayAll0, b, b']; rfl, by rw [D.pys, PyData.depthAll]; omega⟩
end
theorem rd_dps {n : Nat} (ih : ∀ {v : V} {d : D}, RelD K H v d → ∀ m, (rd n S d).ok m = true → Dp K.fr H v (rd n S d).py ∧ (rd n S d).py.canLay0 = true ∧ (rd n S d).py.depth ≤ m) :
    ∀ {vs : List V} {ds : List D}, RelDs K H vs ds → ∀ m, D.oks (ds.map (rd n S)) m = true → DpAll K.fr H vs (D.pys (ds.map (rd n S))) ∧ PyData.canLayAll0 (D.pys (ds.map (rd n S))) = true ∧ PyData.depthAll (D.pys (ds.map (rd n S))) ≤ m
  | _, _, .nil, m, _ => ⟨by rw [List.map_nil, D.pys]; exact .nil, by simp [D.pys, PyData.canLayAll0], by simp [D.pys, PyData.depthAll]⟩
  | _, _, .cons r t, m, h => by
    rw [List.map_cons, D.oks, Bool.and_eq_true] at h
    obtain ⟨a, b, c⟩ := ih r m h.1
    obtain ⟨a', b', c'⟩ := rd_dps ih t m h.2
    refine ⟨by rw [List.map_cons, D.pys]; exact .cons a a', by rw [List.map_cons, D.pys, PyData.canLayAll0, b, b']; rfl, by rw [List.map_cons, D.pys, PyData.depthAll]; omega⟩
theorem rd_dp (hr : HR K H S) : ∀ (n : Nat) {v : V} {d : D}, RelD K H v d → ∀ m, (rd n S d).ok m = true → Dp K.fr H v (rd n S d).py ∧ (rd n S d).py.canLay0 = true ∧ (rd n S d).py.depth ≤ m
  | 0, _, _, r, m, h => dp_of r m h
  | n + 1, v, d, r, m, h => by
    cases r with
    | tup t r =>
      rw [rd] at h ⊢
      cases m with
      | zero => simp [D.ok] at h
      | succ m =>
        obtain ⟨a, b, c⟩ := rd_dps (rd_dp hr n) r m (by simpa [D.ok] using h)
        exact ⟨by rw [D.py]; exact .tup t.sq a, by rw [D.py, PyData.canLay0]; exact b, by rw [D.py, PyData.depth]; omega⟩
    | wt t r => rw [rd] at h <;> first | (simp [D.ok] at h; done) | (intro _; nofun) | nofun
    | fz t r =>
      rw [rd] at h ⊢
      cases m with
      | zero => simp [D.ok] at h
      | succ m =>
        obtain ⟨a, b, c⟩ := rd_dps (rd_dp hr n) r m (by simpa [D.ok] using h)
        exact ⟨by rw [D.py]; exact .lst t.sq a, by rw [D.py, PyData.canLay0]; exact b, by rw [D.py, PyData.depth]; omega⟩
    | ref p =>
      rw [rd] at h ⊢
      split at h
      · rename_i ds e
        obtain ⟨vs, h1, h2⟩ := hr p _ e
        cases m with
        | zero => simp [D.ok] at h
        | succ m =>
          obtain ⟨a, b, c⟩ := rd_dps (rd_dp hr n) h2 m (by simpa [D.ok] using h)
          exact ⟨by show Dp K.fr H _ (D.py (.fz _)); rw [D.py]; exact .lst (.inl (.inl h1)) a, by show (D.py (.fz _)).canLay0 = true; rw [D.py, PyData.canLay0]; exact b, by show (D.py (.fz _)).depth ≤ _; rw [D.py, PyData.depth]; omega⟩
      · simp [D.ok] at h
    | non => exact dp_of .non m (by simpa [rd] using h)
    | bl b => exact dp_of (.bl b) m (by simpa [rd] using h)
    | int i => exact dp_of (.int i) m (by simpa [rd] using h)
    | str x hx => exact dp_of (.str x hx) m (by simpa [rd] using h)
    | ty x => simp [rd, D.ok] at h
end
theorem shaped_of {d : PyData} {m : Nat} (h1 : d.canLay0 = true) (h2 : d.depth ≤ m) (hm : m ≤ 64) : SeqAt.shaped d = true := by
  unfold SeqAt.shaped
  rw [h1, Bool.true_and]
  exact decide_eq_true (Nat.le_trans h2 hm)
def D.eqv (a b : D) : Bool := PyData.eqv a.py b.py
abbrev DR := D → D → Sto → KD → Prop
def wEq : DR := fun x y S Q => (rd 6 S x).ok 40 = true ∧ (rd 6 S y).ok 40 = true ∧ Q (.bl ((rd 6 S x).eqv (rd 6 S y))) S
def wNe : DR := fun x y S Q => (rd 6 S x).ok 40 = true ∧ (rd 6 S y).ok 40 = true ∧ Q (.bl (!(rd 6 S x).eqv (rd 6 S y))) S
section
variable {X : Cx}
theorem dop_eq (hu : X.A.units + 64 < cLine) : DOp X (compareOp .Eq) wEq := ⟨_, op_eqD hu, fun x y dx dy H S Q R hr r1 r2 ⟨h1, h2, q⟩ k => by
  obtain ⟨a1, a2, a3⟩ := rd_dp hr 6 r1 40 h1
  obtain ⟨b1, b2, b3⟩ := rd_dp hr 6 r2 40 h2
  exact ⟨_, _, a1, b1, shaped_of a2 a3 (by decide), shaped_of b2 b3 (by decide), k _ _ (.of (.refl _) hr (.bl _) q)⟩⟩
theorem dop_ne (hu : X.A.units + 64 < cLine) : DOp X (compareOp .NotEq) wNe := ⟨_, op_neD hu, fun x y dx dy H S Q R hr r1 r2 ⟨h1, h2, q⟩ k => by
  obtain ⟨a1, a2, a3⟩ := rd_dp hr 6 r1 40 h1
  obtain ⟨b1, b2, b3⟩ := rd_dp hr 6 r2 40 h2
  exact ⟨_, _, a1, b1, shaped_of a2 a3 (by decide), shaped_of b2 b3 (by decide), k _ _ (.of (.refl _) hr (.bl _) q)⟩⟩
def wCmp (p : Int → Int → Bool) (t : List Nat → List Nat → Bool) : DR := fun x y S Q => match x, y with
  | .int i, .int j => Q (.bl (p i j)) S
  | .str a, .str b => Q (.bl (t a.cps.toList b.cps.toList)) S
  | _, _ => False
theorem dop_cmp {op : CmpOp} {p : Int → Int → Bool} {t : List Nat → List Nat → Bool} (h1 : OpR X (compareOp op) (rI0 fun i j => .bl (p i j))) (h2 : OpR X (compareOp op) (fun x y H Q => ∃ i j, x = .str i ∧ y = .str j ∧ Q (.bl (t i.cps.toList j.cps.toList)) H)) :
    DOp X (compareOp op) (wCmp p t) := ⟨_, h1.or h2, fun x y dx dy H S Q R hr r1 r2 q k => by
  cases r1 <;> cases r2 <;> first
    | exact .inl ⟨_, _, rfl, rfl, k _ _ (.of (.refl _) hr (.bl _) q)⟩
    | exact .inr ⟨_, _, rfl, rfl, k _ _ (.of (.refl _) hr (.bl _) q)⟩
    | exact q.elim⟩
abbrev wLt : DR := wCmp (fun i j => decide (i < j)) (fun a b => decide (a < b))
abbrev wGt : DR := wCmp (fun i j => decide (j < i)) (fun a b => decide (b < a))
abbrev wGe : DR := wCmp (fun i j => decide (j ≤ i)) (fun a b => !decide (a < b))
theorem dop_lt : DOp X (compareOp .Lt) wLt := dop_cmp op_lt op_lt_str
theorem dop_gt : DOp X (compareOp .Gt) wGt := dop_cmp op_gt op_gt_str
theorem dop_ge : DOp X (compareOp .GtE) wGe := dop_cmp op_ge op_ge_str
def wIsN : DR := fun x y S Q => y = .non ∧ Q (.bl (decide (x = .non))) S
theorem relD_non {K : KW} {H : Hp} {v : V} {d : D} (r : RelD K H v d) : decide (v = .non) = decide (d = .non) := by
  cases r <;> simp
theorem dop_isN : DOp X (compareOp .Is) wIsN := ⟨_, op_isN, fun x y dx dy H S Q R hr r1 r2 ⟨e, q⟩ k => by
  subst e; cases r2
  exact ⟨rfl, by rw [relD_non r1]; exact k _ _ (.of (.refl _) hr (.bl _) q)⟩⟩
theorem strOk_append {a b : Str} (h1 : PyData.strOk a = true) (h2 : PyData.strOk b = true) : PyData.strOk (a ++ b) = true := by
  unfold PyData.strOk at *
  show (Str.append a b).cps.all _ = true
  simp only [Str.append, Array.all_append, h1, h2, Bool.and_self]
def onL (S : Sto) (a : Addr) (k : List D → Prop) : Prop := match S a with | some (.lst ds) => k ds | _ => False
theorem onL.out {S : Sto} {a : Addr} {k : List D → Prop} (h : onL S a k) : ∃ ds, S a = some (.lst ds) ∧ k ds := by
  unfold onL at h
  split at h
  · exact ⟨_, by assumption, h⟩
  · exact h.elim
@[simp] theorem onL_eq {S : Sto} {a : Addr} {k : List D → Prop} {ds : List D} (h : S a = some (.lst ds)) : onL S a k = k ds := by unfold onL; rw [h]
def wAdd : DR := fun x y S Q => match x, y with
  | .int i, .int j => Q (.int (i + j)) S
  | .int i, .bl b => Q (.int (i + b2i b)) S
  | .str a, .str b => a.length + b.length ≤ sizeLine ∧ Q (.str (a ++ b)) S
  | .tup a, .tup b => a.length + b.length ≤ sizeLine ∧ Q (.tup (a ++ b)) S
  | .ref a, .ref b => onL S a fun xs => onL S b fun ys => xs.length + ys.length ≤ sizeLine ∧ ∀ p, S p = none → Q (.ref p) (put S p (.lst (xs ++ ys)))
  | _, _ => False
def rCatA (K : PySem.W.Frag) : R2 := fun x y H Q => ∃ a b xs ys, x = .ref a ∧ y = .ref b ∧ SqT K H a xs ∧ SqT K H b ys ∧ xs.length + ys.length ≤ sizeLine ∧ (xs = [] → Q (.ref b) H) ∧ (ys = [] → Q (.ref a) H) ∧ (∀ p us, H p = none → Q (.ref p) (upd H p (.frz (tupO us) (.tup (xs ++ ys)))))
theorem op_catA : OpR X (binaryOp .Add) (rCatA X.K) := by
  intro pins s σ H x y v u Q I rx ry ⟨a, b, xs, ys, ex, ey, ha, hb, hz, q0, q1, q2⟩
  subst ex; subst ey
  cases rx; cases ry
  obtain ⟨its, r1, t1, _⟩ := I.tuple ha
  obtain ⟨its2, r2, t2, _⟩ := I.tuple hb
  by_cases h : its = []
  · subst h
    cases r1
    exact cat_tup0 t1 t2 ⟨.ref b, H, I, rfl, q0 rfl⟩
  · refine HT.cat_tup t1 t2 h (fun e => ?_) (fun _ => ?_) (by rw [← r1.length, ← r2.length]; exact hz)
    · subst e; cases r2
      exact ⟨.ref a, H, I, rfl, q1 rfl⟩
    · exact ⟨.ref s.heap.objs.size, _, Inv.laidT I (r1.append r2) (by rw [List.length_append]; exact hz), rfl, q2 _ _ (I.hok.fresh (Nat.le_refl _))⟩
theorem dop_add : DOp X (binaryOp .Add) wAdd := ⟨_, ((op_add.or op_add_ib).or op_add_str).or (op_catA.or op_cat), fun x y dx dy H S Q R hr r1 r2 q k => by
  cases r1 with
  | int i =>
    cases r2 <;> first
      | exact .inl (.inl (.inl ⟨_, _, rfl, rfl, k _ _ (.of (.refl _) hr (.int _) q)⟩))
      | exact .inl (.inl (.inr ⟨_, _, rfl, rfl, k _ _ (.of (.refl _) hr (.int _) q)⟩))
      | exact q.elim
  | str a h =>
    cases r2 with
    | str b h' => exact .inl (.inr ⟨_, _, rfl, rfl, q.1, k _ _ (.of (.refl _) hr (.str _ (strOk_append h h')) q.2)⟩)
    | _ => exact q.elim
  | tup t r =>
    cases r2 with
    | tup t' r' =>
      refine .inr (.inl ⟨_, _, _, _, rfl, rfl, t.sq, t'.sq, by rw [r.length, r'.length]; exact q.1, fun e => ?_, fun e => ?_, fun p us n => ?_⟩)
      · subst e; cases r; exact k _ _ (.of (.refl _) hr (.tup t' r') q.2)
      · subst e; cases r'
        have q' := q.2
        rw [List.append_nil] at q'
        exact k _ _ (.of (.refl _) hr (.tup t r) q')
      · exact k _ _ (.of (.new n) (hr.new n) (relD_new n (r.append r')) q.2)
    | _ => exact q.elim
  | ref a =>
    cases r2 with
    | ref b =>
      obtain ⟨xs, e1, q⟩ := onL.out q
      obtain ⟨ys, e2, q⟩ := onL.out q
      obtain ⟨v1, h1, d1⟩ := hr a _ e1
      obtain ⟨v2, h2, d2⟩ := hr b _ e2
      exact .inr (.inr ⟨_, _, _, _, rfl, rfl, h1, h2, by rw [d1.length, d2.length]; exact q.1, fun p n => k _ _ (.of (.new n) (hr.lst n (d1.append d2)) (.ref p) (q.2 p (hr.free n)))⟩)
    | _ => exact q.elim
  | _ => exact q.elim⟩
def wI (C : Int → Int → Prop) (g : Int → Int → Int) : DR := fun x y S Q => match x, y with
  | .int i, .int j => C i j ∧ Q (.int (g i j)) S
  | _, _ => False
theorem dop_I {op : Operator} {C : Int → Int → Prop} {g : Int → Int → Int} (h : OpR X (binaryOp op) (rI C fun i j => .int (g i j))) : DOp X (binaryOp op) (wI C g) := ⟨_, h, fun x y dx dy H S Q R hr r1 r2 q k => by
  cases r1 <;> cases r2 <;> first
    | exact ⟨_, _, rfl, rfl, q.1, k _ _ (.of (.refl _) hr (.int _) q.2)⟩
    | exact q.elim⟩
abbrev wMul : DR := wI CMul fun i j => i * j
abbrev wMod : DR := wI (fun _ j => 0 < j) fun i j => i % j
abbrev wDiv : DR := wI CDiv fun i j => i / j
abbrev wPow : DR := wI CPow fun i j => i ^ j.toNat
theorem dop_mul : DOp X (binaryOp .Mult) wMul := dop_I op_mul
theorem dop_mod : DOp X (binaryOp .Mod) wMod := dop_I op_mod
theorem dop_div : DOp X (binaryOp .FloorDiv) wDiv := dop_I op_fdiv
theorem dop_pow : DOp X (binaryOp .Pow) wPow := dop_I op_pow
def wNeg : D → Sto → KD → Prop := fun x S Q => match x with | .int i => Q (.int (-i)) S | _ => False
theorem dun_neg : DUn X (unaryOp .USub) wNeg := ⟨_, un_neg, fun x dx H S Q R hr r q k => by
  cases r <;> first
    | exact ⟨_, rfl, k _ _ (.of (.refl _) hr (.int _) q)⟩
    | exact q.elim⟩
end
end DL
namespace DL
open PySem PySem.Spec PyProof.Rows L2
section
variable {X : Cx} {pos : Pos} {K : KW} {H : Hp} {S : Sto}
def D.items? : D → Option (List D)
  | .fz ds => some ds
  | .tup ds => some ds
  | _ => none
def onI (d : D) (k : List D → Prop) : Prop := match d.items? with | some ds => k ds | none => False
theorem onI.out {d : D} {k : List D → Prop} (h : onI d k) : ∃ ds, d.items? = some ds ∧ k ds := by
  unfold onI at h
  split at h
  · exact ⟨_, by assumption, h⟩
  · exact h.elim
def wInS (neg : Bool) : DR := fun x y S Q => match x, y with
  | .str a, .str b => Q (.bl (neg != (!(Builtin.Str.occurrences b a 0 b.length 1).isEmpty))) S
  | _, _ => (rd 6 S x).ok 40 = true ∧ (rd 6 S y).ok 40 = true ∧ onI (rd 6 S y) fun ds => Q (.bl (neg != (ds.any fun z => z.eqv (rd 6 S x)))) S
def rInP (K : PySem.W.Frag) (neg : Bool) : R2 := fun x y H Q => ∃ d ds, Dp K H x d ∧ (Dp K H y (.list ds) ∨ Dp K H y (.tuple ds)) ∧ SeqAt.shaped d = true ∧ PyData.canLayAll0 ds = true ∧ Q (.bl (neg != ds.any fun z => PyData.eqv z d)) H
theorem op_inP (hu : X.A.units + 65 < cLine) : OpR X (compareOp .In) (rInP X.K false) := by
  intro pins s σ H x y v u Q I rx ry ⟨d, ds, hx, hy, sd, sl, q⟩
  obtain ⟨bs, r1⟩ := Dp.reads I d x v hx rx
  have room : X.A.units + 1 + min (PyData.depthAll ds) d.depth < cLine := by
    have := SeqAt.depth_of_shaped sd
    omega
  have fin : EP X pins σ Q (.bool (ds.any fun z => PyData.eqv z d)) s := ⟨.bl _, H, I, rfl, by simpa using q⟩
  rcases hy with hy | hy
  · obtain ⟨as, r2⟩ := Dp.reads I _ y u hy ry
    exact SeqAt.in_list_reads r2 r1 sl (SeqAt.canLay_of_shaped sd) room fin
  · obtain ⟨as, r2⟩ := Dp.reads I _ y u hy ry
    exact SeqAt.in_tuple_reads r2 r1 sl (SeqAt.canLay_of_shaped sd) room fin
theorem op_notInP (hu : X.A.units + 65 < cLine) : OpR X (compareOp .NotIn) (rInP X.K true) := by
  intro pins s σ H x y v u Q I rx ry ⟨d, ds, hx, hy, sd, sl, q⟩
  obtain ⟨bs, r1⟩ := Dp.reads I d x v hx rx
  have room : X.A.units + 1 + min (PyData.depthAll ds) d.depth < cLine := by
    have := SeqAt.depth_of_shaped sd
    omega
  have fin : EP X pins σ Q (.bool (!ds.any fun z => PyData.eqv z d)) s := ⟨.bl _, H, I, rfl, by simpa using q⟩
  rcases hy with hy | hy
  · obtain ⟨as, r2⟩ := Dp.reads I _ y u hy ry
    exact SeqAt.notIn_list_reads r2 r1 sl (SeqAt.canLay_of_shaped sd) room fin
  · obtain ⟨as, r2⟩ := Dp.reads I _ y u hy ry
    exact SeqAt.notIn_tuple_reads r2 r1 sl (SeqAt.canLay_of_shaped sd) room fin
theorem inP_of {neg : Bool} {x y : V} {dx dy : D} {R : VK} {Q : KD} (hr : HR K H S) (r1 : RelD K H x dx) (r2 : RelD K H y dy) (h1 : (rd 6 S dx).ok 40 = true) (h2 : (rd 6 S dy).ok 40 = true)
    (q : onI (rd 6 S dy) fun ds => Q (.bl (neg != (ds.any fun z => z.eqv (rd 6 S dx)))) S) (k : ∀ v H', Up K H Q v H' → R v H') : rInP K.fr neg x y H R := by
  obtain ⟨ds, e, q⟩ := onI.out q
  obtain ⟨a1, a2, a3⟩ := rd_dp hr 6 r1 40 h1
  obtain ⟨b1, b2, b3⟩ := rd_dp hr 6 r2 40 h2
  have fin : R (.bl (neg != ((D.pys ds).any fun z => PyData.eqv z (rd 6 S dx).py))) H := by
    have : ((D.pys ds).any fun z => PyData.eqv z (rd 6 S dx).py) = ds.any fun z => z.eqv (rd 6 S dx) := by rw [pys_map, List.any_map]; rfl
    rw [this]
    exact k _ _ (.of (.refl _) hr (.bl _) q)
  cases hd : rd 6 S dy with
  | fz es =>
    rw [hd] at e b1 b2 b3
    cases e
    rw [D.py] at b1 b2
    rw [PyData.canLay0] at b2
    exact ⟨_, _, a1, .inl b1, shaped_of a2 a3 (by decide), b2, fin⟩
  | tup es =>
    rw [hd] at e b1 b2 b3
    cases e
    rw [D.py] at b1 b2
    rw [PyData.canLay0] at b2
    exact ⟨_, _, a1, .inr b1, shaped_of a2 a3 (by decide), b2, fin⟩
  | _ => rw [hd] at e; cases e
theorem dop_inS (hu : X.A.units + 65 < cLine) : DOp X (compareOp .In) (wInS false) := ⟨_, op_in_str.or (op_inP hu), fun x y dx dy H S Q R hr r1 r2 q k => by
  cases r1 <;> cases r2 <;> first
    | exact .inl ⟨_, _, rfl, rfl, k _ _ (.of (.refl _) hr (.bl _) (by simpa [wInS] using q))⟩
    | exact .inr (inP_of hr (by constructor <;> assumption) (by constructor <;> assumption) q.1 q.2.1 q.2.2 k)⟩
theorem dop_notInS (hu : X.A.units + 65 < cLine) : DOp X (compareOp .NotIn) (wInS true) := ⟨_, op_notin_str.or (op_notInP hu), fun x y dx dy H S Q R hr r1 r2 q k => by
  cases r1 <;> cases r2 <;> first
    | exact .inl ⟨_, _, rfl, rfl, k _ _ (.of (.refl _) hr (.bl _) (by simpa [wInS] using q))⟩
    | exact .inr (inP_of hr (by constructor <;> assumption) (by constructor <;> assumption) q.1 q.2.1 q.2.2 k)⟩
def DIx (X : Cx) (r : DR) : Prop :=
  ∃ rh : R2, IxR X rh ∧ ∀ (x y : V) (dx dy : D) (H : Hp) (S : Sto) (Q : KD) (R : VK), HR X.KW H S → RelD X.KW H x dx → RelD X.KW H y dy → r dx dy S Q → (∀ v H', Up X.KW H Q v H' → R v H') → rh x y H R
theorem de_ix {a b : Expr} {ta tb : DTE} {r : DR} (ho : DIx X r) (ha : DE X a ta) (hb : DE X b tb) (hs : PlainIx b) : DE X (.Subscript a b pos) (dBin r ta tb) := by
  obtain ⟨rh, h1, h2⟩ := ho
  exact .up (pe_ix h1 ha.lo hb.lo hs) fun σ H τ S Q st hr q => bin_lo st hr q fun x y dx dy H2 S2 e hr2 r1 r2 q2 => h2 x y dx dy H2 S2 Q _ hr2 r1 r2 q2 fun v H' u => u.back e
def onS {α : Type} (o : Option α) (k : α → Prop) : Prop := match o with | some x => k x | none => False
theorem onS.out {α : Type} {o : Option α} {k : α → Prop} (h : onS o k) : ∃ x, o = some x ∧ k x := by
  cases o with
  | none => exact h.elim
  | some x => exact ⟨x, rfl, h⟩
def wIx : DR := fun x y S Q => match x, y with
  | .tup ds, .int i => onS (atI ds i) fun d => Q d S
  | .fz ds, .int i => onS (atI ds i) fun d => Q d S
  | .ref a, .int i => onL S a fun ds => onS (atI ds i) fun d => Q d S
  | .str z, .int i => z.length ≤ sizeLine ∧ onS (atI z.cps.toList i) fun c => Q (.str ⟨#[c]⟩) S
  | _, _ => False
theorem RelDs.atI {vs : List V} {ds : List D} {i : Int} {d : D} (r : RelDs K H vs ds) (h : L2.atI ds i = some d) : ∃ v, L2.atI vs i = some v ∧ RelD K H v d := by
  unfold L2.atI at *
  rw [r.length]
  cases e : ixN ds.length i with
  | none => rw [e] at h; cases h
  | some j =>
    rw [e] at h
    obtain ⟨v, h1, h2⟩ := r.get (i := j) h
    exact ⟨v, h1, h2⟩
theorem strOk_one {z : Str} {i : Int} {c : Nat} (h : PyData.strOk z = true) (e : L2.atI z.cps.toList i = some c) : PyData.strOk ⟨#[c]⟩ = true := by
  unfold L2.atI at e
  cases q : ixN z.cps.toList.length i with
  | none => rw [q] at e; cases e
  | some j =>
    rw [q] at e
    have hm : c ∈ z.cps.toList := List.mem_of_getElem? e
    unfold PyData.strOk at *
    rw [← Array.all_toList] at h
    have := List.all_eq_true.mp h c hm
    simpa using this
theorem dix_seq : DIx X wIx := ⟨_, (ix_list.or ix_tup).or ix_str, fun x y dx dy H S Q R hr r1 r2 q k => by
  cases r1 <;> cases r2 <;> first
    | exact q.elim
    | (rename_i t r i
       obtain ⟨d, e, q⟩ := onS.out q
       obtain ⟨v, e1, r'⟩ := r.atI e
       exact .inl (.inr ⟨_, _, _, _, rfl, rfl, t.sq, e1, k _ _ (.of (.refl _) hr r' q)⟩))
    | (rename_i t r i
       obtain ⟨d, e, q⟩ := onS.out q
       obtain ⟨v, e1, r'⟩ := r.atI e
       exact .inl (.inl ⟨_, _, _, _, rfl, rfl, t.sq, e1, k _ _ (.of (.refl _) hr r' q)⟩))
    | (rename_i a i
       obtain ⟨ds, e0, q⟩ := onL.out q
       obtain ⟨d, e, q⟩ := onS.out q
       obtain ⟨vs, h1, r⟩ := hr a _ e0
       obtain ⟨v, e1, r'⟩ := r.atI e
       exact .inl (.inl ⟨_, _, _, _, rfl, rfl, SqL.of h1, e1, k _ _ (.of (.refl _) hr r' q)⟩))
    | (rename_i x hx i
       obtain ⟨z, q⟩ := q
       obtain ⟨c, e, q⟩ := onS.out q
       exact .inr ⟨_, _, _, rfl, rfl, z, e, k _ _ (.of (.refl _) hr (.str _ (strOk_one hx e)) q)⟩)⟩
abbrev DTO := DSt → Sto → (Option Int → Sto → Prop) → Prop
structure DPo (X : Cx) (e : Option Expr) (t : DTO) : Prop where
  po : PO X e (fun σ H R => ∃ τ S Q, StR X.KW H σ τ ∧ HR X.KW H S ∧ t τ S Q ∧ ∀ o H' S', Ev H H' → HR X.KW H' S' → Q o S' → R o H')
def dNoPart : DTO := fun _ S Q => Q none S
def isI (Q : Option Int → Sto → Prop) : KD := fun d S => match d with | .int i => Q (some i) S | _ => False
def dPart (t : DTE) : DTO := fun τ S Q => t τ S (isI Q)
theorem dpo_none : DPo X none dNoPart := ⟨⟨fun pins s σ H R I ⟨τ, S, Q, st, hr, q, k⟩ => po_none.run pins s σ H R I (k none H S (.refl _) hr q)⟩⟩
theorem dpo_some {e : Expr} {te : DTE} (h : DE X e te) : DPo X (some e) (dPart te) := ⟨⟨fun pins s σ H R I ⟨τ, S, Q, st, hr, q, k⟩ => (po_some h.lo).run pins s σ H R I (.mk st hr q fun v H' ⟨e, d, S', hr', r, q'⟩ => by
  cases r with
  | int i => exact ⟨i, rfl, k _ _ _ e hr' q'⟩
  | _ => exact q'.elim)⟩⟩
def cutD (ds : List D) (lo hi : Option Int) : List D := (ds.drop (HT.sIx ds.length 0 lo)).take (HT.sIx ds.length ds.length hi - HT.sIx ds.length 0 lo)
theorem RelDs.cut {vs : List V} {ds : List D} (r : RelDs K H vs ds) (lo hi : Option Int) : RelDs K H (cutV vs lo hi) (cutD ds lo hi) := by
  unfold cutV cutD
  rw [r.length]
  exact (r.drop _).take _
def wCut (x : D) (lo hi : Option Int) (S : Sto) (Q : KD) : Prop := match x with
  | .tup ds => Q (.tup (cutD ds lo hi)) S
  | .fz ds => ∀ p, S p = none → Q (.ref p) (put S p (.lst (cutD ds lo hi)))
  | .ref a => onL S a fun ds => ∀ p, S p = none → Q (.ref p) (put S p (.lst (cutD ds lo hi)))
  | .str z => z.length ≤ sizeLine ∧ Q (.str (cutS z lo hi)) S
  | _ => False
def dCut (te : DTE) (tl th : DTO) : DTE := fun τ S Q => te τ S fun x S1 => tl τ S1 fun l S2 => th τ S2 fun u S3 => wCut x l u S3 Q
theorem strOk_cut {z : Str} (h : PyData.strOk z = true) (lo hi : Option Int) : PyData.strOk (cutS z lo hi) = true := by
  unfold cutS PyData.strOk at *
  rw [← Array.all_toList] at h
  have h' := List.all_eq_true.mp h
  first
    | (rw [← Array.all_toList]
       refine List.all_eq_true.mpr fun c hc => h' c ?_
       simp at hc
       exact List.mem_of_mem_drop (List.mem_of_mem_take (by simpa using hc)))
    | skip
def rSlB (K : PySem.W.Frag) : V → Option Int → Option Int → Hp → VK → Prop := fun x lo hi H Q => ∃ a xs, x = .ref a ∧ SqT K H a xs ∧
  (HT.sIx xs.length 0 lo = 0 ∧ HT.sIx xs.length xs.length hi = xs.length → Q (.ref a) H) ∧ (∀ p us, H p = none → Q (.ref p) (upd H p (.frz (tupO us) (.tup (cutV xs lo hi)))))
theorem sl_tupB : SlR X (rSlB X.K) := by
  intro pins s σ H x v vl vu lo hi sl Q I rx hs pl pu h
  obtain ⟨a, xs, rfl, hx, q1, q2⟩ := h
  cases rx
  obtain ⟨its, r, ht, hz⟩ := I.tuple hx
  have hlen : its.toArray.size = xs.length := by rw [List.size_toArray]; exact r.length.symm
  refine ⟨"tuple", _, PyProof.Rows.slot_tuple_getitem.lookup, ht.typeIs, ?_⟩
  by_cases hw : HT.sIx xs.length 0 lo = 0 ∧ HT.sIx xs.length xs.length hi = xs.length
  · exact getItem_tuple_whole ht hs pl pu (by rw [hlen]; exact hw) ⟨.ref a, H, I, rfl, q1 hw⟩
  · refine HT.getItem_tuple_cut ht hs pl pu (by rw [hlen]; exact hw) ?_ (by rw [hlen]; exact hz)
    rw [hlen]
    exact ⟨.ref s.heap.objs.size, _, Inv.laidT I (vs := cutV xs lo hi) ((r.drop (HT.sIx xs.length 0 lo)).take (HT.sIx xs.length xs.length hi - HT.sIx xs.length 0 lo)) (Nat.le_trans (cutV_length xs lo hi) hz), rfl, q2 _ _ (I.hok.fresh (Nat.le_refl _))⟩
theorem de_cut {e : Expr} {lo hi : Option Expr} {te : DTE} {tl th : DTO} {p2 : Pos} (he : DE X e te) (hl : DPo X lo tl) (hh : DPo X hi th) : DE X (.Subscript e (.Slice lo hi none p2) pos) (dCut te tl th) :=
  .up (pe_slice ((sl_tupB.or sl_list).or sl_str) he.lo hl.po hh.po) fun σ H τ S Q st hr q => .mk st hr q fun x H1 ⟨e1, d, S1, hr1, r1, q1⟩ =>
    ⟨τ, S1, _, st.ev e1, hr1, q1, fun l H2 S2 e2 hr2 q2 => ⟨τ, S2, _, st.ev (e1.trans e2), hr2, q2, fun u H3 S3 e3 hr3 q3 => by
      have r3 := (r1.ev e2).ev e3
      have e03 := (e1.trans e2).trans e3
      cases r3 with
      | @tup a vs ds t r =>
        refine .inl (.inl ⟨_, _, rfl, t.sq, fun w => ?_, fun p us n => .of (e03.trans (.new n)) (hr3.new n) (relD_new n (r.cut l u)) q3⟩)
        have : cutD ds l u = ds := by
          unfold cutD
          rw [← r.length, w.1, w.2]
          simp [r.length]
        have q3' : Q (.tup (cutD ds l u)) S3 := q3
        rw [this] at q3'
        exact .of e03 hr3 (.tup t r) q3'
      | fz t r => exact .inl (.inr ⟨_, _, rfl, t.sq, fun p n => .of (e03.trans (.new n)) (hr3.lst n (r.cut l u)) (.ref p) (q3 p (hr3.free n))⟩)
      | ref a =>
        obtain ⟨ds, e0, q3⟩ := onL.out q3
        obtain ⟨vs, h1, r⟩ := hr3 a _ e0
        exact .inl (.inr ⟨_, _, rfl, SqL.of h1, fun p n => .of (e03.trans (.new n)) (hr3.lst n (r.cut l u)) (.ref p) (q3 p (hr3.free n))⟩)
      | str z hz => exact .inr ⟨_, rfl, q3.1, .of e03 hr3 (.str _ (strOk_cut hz l u)) q3.2⟩
      | _ => exact q3.elim⟩⟩
theorem RelDs.kVs : ∀ {vs : List V} {ks : List Key}, RelDs K H vs (ks.map kD) → vs = ks.map kV
  | _, [], .nil => rfl
  | _, .inl i :: ks, .cons r t => by cases r; rw [RelDs.kVs t]; rfl
  | _, .inr x :: ks, .cons r t => by cases r; rw [RelDs.kVs t]; rfl
section
variable {pins : List (Addr × Obj)} {σ : L2.St} {s : Shared} {a : Addr}
theorem keyT {ks : List Key} (I : Inv X pins σ H s) (t : KeyT X.KW H a ks) : (tupleKind (mixKind X.prog X.w)).is s.heap ks a := by
  obtain ⟨its, r, p, _⟩ := I.tuple t.1.sq
  obtain ⟨o, h1, h2, n, h3⟩ := p
  exact ⟨o, its.toArray, n, h1, h2, h3, by simpa using items_are r⟩
theorem tdn_keys (I : Inv X pins σ H s) : ∀ {xs : List (List Key × Addr × Value)} {kvs : List (D × D)}, RelTV X.KW H xs kvs → ∀ x ∈ xs, (tupleKind (mixKind X.prog X.w)).is s.heap x.1 x.2.1
  | _, _, .nil, x, hx => nomatch hx
  | _, _, .cons t _ _ q, x, hx => by
    rcases List.mem_cons.mp hx with rfl | hx
    · exact keyT I t
    · exact tdn_keys I q x hx
theorem tdn_rd {xs : List (List Key × Addr × Value)} {kvs : List (D × D)} (I : Inv X pins σ H s) (e : Rd H a (TDn X.KW a xs)) (r : RelTV X.KW H xs kvs) :
    xs.length ≤ sizeLine ∧ (a == sysModules) = false ∧ s.heap.DictOfH (tupleKind (mixKind X.prog X.w)) a xs := by
  obtain ⟨⟨⟨z, y⟩, o, es, ep, h1, h2, h3, h4, h5⟩, _⟩ := (show ObjOk X.prog X.w H s.heap a (TDn X.KW a xs) from rd_of I.hok e)
  exact ⟨z, y, o, es, ep, h1, h2, h3, h4, tdn_keys I r, h5⟩
end
theorem call_lenK : CallR X (.builtin "len") (fun xs H Q => ∃ a kvs, xs = [V.ref a] ∧ Rd H a (.dK kvs) ∧ Q (.int kvs.length) H) := by
  intro pins s σ H xs us Q I r h
  obtain ⟨a, kvs, rfl, ha, q⟩ := h
  obtain ⟨u, rfl, ru⟩ := vals1 r
  cases ru
  exact d_len I ha fun t s' I' => ⟨.int kvs.length, H, I', ⟨t, rfl⟩, q⟩
theorem call_lenTD : CallR X (.builtin "len") (fun xs H Q => ∃ a es kvs, xs = [V.ref a] ∧ Rd H a (TDn X.KW a es) ∧ RelTV X.KW H es kvs ∧ Q (.int ((es.length : Nat) : Int)) H) := by
  intro pins s σ H xs us Q I r h
  obtain ⟨a, es, kvs, rfl, ha, rk, q⟩ := h
  obtain ⟨u, rfl, ru⟩ := vals1 r
  cases ru
  obtain ⟨z, hd, dd⟩ := tdn_rd I ha rk
  exact call_len_dictH hd dd (by rw [sizeLine_eq] at z; omega) ⟨.int ((es.length : Nat) : Int), H, I.tok _, ⟨_, rfl⟩, q⟩
def DCall.of {f : Value} {r : List D → Sto → KD → Prop} {rh : List V → Hp → VK → Prop} (h : CallR X f rh) (c : ∀ xs H ds S (Q : KD) (R : VK), HR X.KW H S → RelDs X.KW H xs ds → r ds S Q → (∀ v H', Up X.KW H Q v H' → R v H') → rh xs H R) : DCall X f r :=
  fun pins s σ H xs us ds S Q I v hr rd q => h pins s σ H xs us _ I v (c xs H ds S Q _ hr rd q fun _ _ z => z)
def wLen : List D → Sto → KD → Prop := fun xs S Q => match xs with
  | [.tup ds] => Q (.int ds.length) S
  | [.fz ds] => Q (.int ds.length) S
  | [.str z] => z.length ≤ sizeLine ∧ Q (.int z.length) S
  | [.ref a] => match S a with | some (.lst ds) => Q (.int ds.length) S | some (.dct kvs) => Q (.int kvs.length) S | some (.fdc _ kvs) => Q (.int kvs.length) S | _ => False
  | _ => False
theorem dcall_len : DCall X (.builtin "len") wLen := .of ((call_len_seq.or call_len_str).or (call_lenK.or call_lenTD)) fun xs H ds S Q R hr rd q k => by
  cases rd with
  | nil => exact q.elim
  | cons r t =>
    cases t with
    | cons _ _ => cases r <;> exact q.elim
    | nil =>
      cases r with
      | tup t r => exact .inl (.inl ⟨_, _, rfl, .inr t.sq, by rw [r.length]; exact k _ _ (.of (.refl _) hr (.int _) q)⟩)
      | fz t r => exact .inl (.inl ⟨_, _, rfl, .inl t.sq, by rw [r.length]; exact k _ _ (.of (.refl _) hr (.int _) q)⟩)
      | str z h => exact .inl (.inr ⟨_, rfl, q.1, k _ _ (.of (.refl _) hr (.int _) q.2)⟩)
      | ref a =>
        simp only [wLen] at q
        split at q
        · rename_i ds e
          obtain ⟨vs, h1, r⟩ := hr a _ e
          exact .inl (.inl ⟨_, _, rfl, .inl (SqL.of h1), by rw [r.length]; exact k _ _ (.of (.refl _) hr (.int _) q)⟩)
        · rename_i kvs e
          rcases hr a _ e with ⟨es, h1, r⟩ | ⟨es, h1, r⟩
          · exact .inr (.inl ⟨_, _, rfl, .inl h1, by rw [r.length]; exact k _ _ (.of (.refl _) hr (.int _) q)⟩)
          · exact .inr (.inr ⟨_, _, _, rfl, .inl h1, r, by rw [r.length]; exact k _ _ (.of (.refl _) hr (.int _) q)⟩)
        · rename_i o kvs e
          rcases hr a _ e with ⟨es, h1, r⟩ | ⟨es, h1, r⟩
          · exact .inr (.inl ⟨_, _, rfl, .inr ⟨_, h1⟩, by rw [r.length]; exact k _ _ (.of (.refl _) hr (.int _) q)⟩)
          · exact .inr (.inr ⟨_, _, _, rfl, .inr ⟨_, h1⟩, r, by rw [r.length]; exact k _ _ (.of (.refl _) hr (.int _) q)⟩)
        · exact q.elim
      | _ => exact q.elim
def wTuple : List D → Sto → KD → Prop := fun xs S Q => match xs with
  | [.tup ds] => Q (.tup ds) S
  | [.fz ds] => Q (.tup ds) S
  | [.ref a] => onL S a fun ds => Q (.tup ds) S
  | _ => False
theorem call_tupleB : CallR X (.type "tuple") (fun xs H Q => ∃ p ys, xs = [.ref p] ∧ ((SqL X.K H p ys ∧ ∀ l us, H l = none → Q (.ref l) (upd H l (.frz (tupO us) (.tup ys)))) ∨ (SqT X.K H p ys ∧ Q (.ref p) H))) := by
  intro pins s σ H xs us Q I r h
  obtain ⟨p, ys, rfl, h⟩ := h
  obtain ⟨u, rfl, rx⟩ := vals1 r
  cases rx
  rcases h with ⟨hq, q⟩ | ⟨hq, q⟩
  · obtain ⟨its, r', pl, hz⟩ := I.list hq
    have hlen := r'.length
    refine call_tuple_list pl.isList (fun h' kp => ?_) (by simp only [List.size_toArray] <;> omega)
    have I1 : Inv X pins σ H { s with heap := h' } := I.kept (t' := s.toks) kp
    exact ⟨.ref h'.objs.size, _, Inv.laidT I1 r' hz, rfl, q _ _ (I1.hok.fresh (Nat.le_refl _))⟩
  · obtain ⟨its, r', pl, hz⟩ := I.tuple hq
    exact call_tuple_same pl ⟨.ref p, H, I, rfl, q⟩
theorem dcall_tuple : DCall X (.type "tuple") wTuple := .of call_tupleB fun xs H ds S Q R hr rd q k => by
  cases rd with
  | nil => exact q.elim
  | cons r t =>
    cases t with
    | cons _ _ => cases r <;> exact q.elim
    | nil =>
      cases r with
      | tup t r => exact ⟨_, _, rfl, .inr ⟨t.sq, k _ _ (.of (.refl _) hr (.tup t r) q)⟩⟩
      | fz t r => exact ⟨_, _, rfl, .inl ⟨t.sq, fun p us n => k _ _ (.of (.new n) (hr.new n) (relD_new n r) q)⟩⟩
      | ref a =>
        obtain ⟨ds, e, q⟩ := onL.out q
        obtain ⟨vs, h1, r⟩ := hr a _ e
        exact ⟨_, _, rfl, .inl ⟨SqL.of h1, fun p us n => k _ _ (.of (.new n) (hr.new n) (relD_new n r) q)⟩⟩
      | _ => exact q.elim
def wList : List D → Sto → KD → Prop := fun xs S Q => match xs with
  | [.tup ds] => ∀ p, S p = none → Q (.ref p) (put S p (.lst ds))
  | [.fz ds] => ∀ p, S p = none → Q (.ref p) (put S p (.lst ds))
  | [.ref a] => onL S a fun ds => ∀ p, S p = none → Q (.ref p) (put S p (.lst ds))
  | _ => False
theorem dcall_list : DCall X (.type "list") wList := .of call_list_of fun xs H ds S Q R hr rd q k => by
  cases rd with
  | nil => exact q.elim
  | cons r t =>
    cases t with
    | cons _ _ => cases r <;> exact q.elim
    | nil =>
      cases r with
      | tup t r => exact ⟨_, _, rfl, .inr t.sq, fun p n => k _ _ (.of (.new n) (hr.lst n r) (.ref p) (q p (hr.free n)))⟩
      | fz t r => exact ⟨_, _, rfl, .inl t.sq, fun p n => k _ _ (.of (.new n) (hr.lst n r) (.ref p) (q p (hr.free n)))⟩
      | ref a =>
        obtain ⟨ds, e, q⟩ := onL.out q
        obtain ⟨vs, h1, r⟩ := hr a _ e
        exact ⟨_, _, rfl, .inl (SqL.of h1), fun p n => k _ _ (.of (.new n) (hr.lst n r) (.ref p) (q p (hr.free n)))⟩
      | _ => exact q.elim
end
end DL
namespace DL
open PySem PySem.Spec PyProof.Rows L2
section
variable {X : Cx} {pos : Pos} {K : KW} {H : Hp} {S : Sto}
def DMt (X : Cx) (id : String) (r : D → List D → Sto → KD → Prop) : Prop :=
  ∃ rh, MtR X id rh ∧ ∀ (x : V) (xs : List V) (dx : D) (ds : List D) (H : Hp) (S : Sto) (Q : KD) (R : VK), HR X.KW H S → RelD X.KW H x dx → RelDs X.KW H xs ds → r dx ds S Q → (∀ v H', Up X.KW H Q v H' → R v H') → rh x xs H R
def tyD (T : String) (x : D) (S : Sto) : Prop := match x with
  | .str _ => T = "str"
  | .fz _ => T = "list"
  | .ref a => match S a with | some (.lst _) => T = "list" | _ => False
  | _ => False
theorem tyD.v {T : String} {x : V} {d : D} (hr : HR K H S) (r : RelD K H x d) (h : tyD T d S) : tyV K.fr T x H := by
  cases r with
  | str z _ => exact h
  | fz t _ => exact .inl ⟨h, _, t.sq⟩
  | ref a =>
    simp only [tyD] at h
    split at h
    · rename_i ds e
      obtain ⟨vs, h1, _⟩ := hr a _ e
      exact .inl ⟨h, _, SqL.of h1⟩
    · exact h.elim
  | _ => exact h.elim
def dBM (T : String) (r : D → List D → Sto → KD → Prop) (to : DTE) (t : DTA) : DTE := fun τ S Q => to τ S fun x S1 => tyD T x S1 ∧ t τ S1 fun ds S2 => r x ds S2 Q
def dBM0 (T : String) (r : D → List D → Sto → KD → Prop) (to : DTE) : DTE := fun τ S Q => to τ S fun x S1 => tyD T x S1 ∧ r x [] S1 Q
variable {o e : Expr} {es : List Expr} {to : DTE} {t : DTA} {name : Str} {apos cpos : Pos} {T id : String} {r : D → List D → Sto → KD → Prop}
theorem de_bm0 (pa : PlainAttrs T) (slot : Slot T name id) (hty : typeOf (.builtin id) = pure (.type "method_descriptor")) (hm : DMt X id r) (ho : DE X o to)
    (hbase : attributeBase o name X.env (eval o X.env) = eval o X.env := by rfl) (hline : (apos.endLine == cpos.line) = true := by rfl) : DE X (.Call (.Attribute o name apos) [] [] cpos) (dBM0 T r to) := by
  obtain ⟨rh, h1, h2⟩ := hm
  exact .up (pe_bm0 pa slot hty h1 ho.lo hbase hline) fun σ H τ S Q st hr q => .mk st hr q fun v H1 ⟨e1, d, S1, hr1, r1, ty, q1⟩ => ⟨ty.v hr1 r1, h2 v [] d [] H1 S1 Q _ hr1 r1 .nil q1 fun _ _ z => z.back e1⟩
theorem de_bm (pa : PlainAttrs T) (slot : Slot T name id) (hty : typeOf (.builtin id) = pure (.type "method_descriptor")) (hm : DMt X id r) (ho : DE X o to) (ha : DAr X (e :: es) t)
    (hbase : attributeBase o name X.env (eval o X.env) = eval o X.env := by rfl)
    (hfew : ((backTo cpos (starEach (e :: es) X.env)).all (fun x => !x.1) && (backToKw cpos (keywordEach [] X.env)).all (fun x => x.1.isSome)
      && decide ((e :: es).length + ([] : List Keyword).length + (if ([] : List Keyword).isEmpty then 0 else 1) < 30)) = true := by rfl)
    (hline : (apos.endLine == cpos.line) = true := by rfl) (hs : starEach (e :: es) X.env = (false, eval e X.env) :: starEach es X.env := by rfl) (hplain : (backTo cpos (starEach es X.env)).any (·.1) = false := by rfl) :
    DE X (.Call (.Attribute o name apos) (e :: es) [] cpos) (dBM T r to t) := by
  obtain ⟨rh, h1, h2⟩ := hm
  exact .up (pe_bm pa slot hty h1 ho.lo ha.lo hbase hfew hline hs hplain) fun σ H τ S Q st hr q => .mk st hr q fun v H1 ⟨e1, d, S1, hr1, r1, ty, q1⟩ => ⟨ty.v hr1 r1, τ, S1, _, st.ev e1, hr1, q1, fun vs H2 ⟨e2, ds, S2, hr2, r2, q2⟩ =>
    h2 v vs d ds H2 S2 Q _ hr2 (r1.ev e2) r2 q2 fun _ _ z => z.back (e1.trans e2)⟩
theorem relD_ref {v : V} {a : Addr} (r : RelD K H v (.ref a)) : v = .ref a := by cases r; rfl
theorem RelDs.one {vs : List V} {d : D} (r : RelDs K H vs [d]) : ∃ v, vs = [v] ∧ RelD K H v d := by
  cases r with
  | cons r t => cases t; exact ⟨_, rfl, r⟩
theorem RelDs.two {vs : List V} {d e : D} (r : RelDs K H vs [d, e]) : ∃ v w, vs = [v, w] ∧ RelD K H v d ∧ RelD K H w e := by
  cases r with
  | cons r t => cases t with
    | cons r' t => cases t; exact ⟨_, _, rfl, r, r'⟩
theorem up_lst {a : Addr} {vs ws : List V} {ds : List D} {Q : KD} {v : V} {d : D} (hr : HR K H S) (h1 : H a = some (.lst vs)) (r : RelDs K H ws ds) (rv : RelD K H v d) (q : Q d (put S a (.lst ds))) : Up K H Q v (upd H a (.lst ws)) :=
  have e : Ev H (upd H a (.lst ws)) := .upd h1 rfl
  .of e (hr.chg (b := .lst ds) h1 rfl ⟨ws, upd_same, r.ev e⟩) (rv.ev e) q
def wAppend : D → List D → Sto → KD → Prop := fun x xs S Q => match x, xs with
  | .ref a, [y] => onL S a fun ds => ds.length < sizeLine ∧ Q .non (put S a (.lst (ds ++ [y])))
  | _, _ => False
theorem dmt_append : DMt X "list.append" wAppend := ⟨_, mt_append, fun x xs dx ds H S Q R hr r1 r2 q k => by
  unfold wAppend at q
  split at q
  · obtain ⟨ds, e, z, q⟩ := onL.out q
    obtain ⟨vs, h1, r⟩ := hr _ _ e
    obtain ⟨y, rfl, ry⟩ := r2.one
    exact ⟨_, vs, y, relD_ref r1, rfl, h1, by rw [r.length]; exact z, k _ _ (up_lst hr h1 (r.append (.cons ry .nil)) .non q)⟩
  · exact q.elim⟩
theorem list_extend_tupW (l : Addr) (items : Array Value) (n : Nat) (b : Addr) (items2 : Array Value) (n2 : Nat) (dd2 : Option Addr) (sl2 : Array (Option Value))
    (hs0 : ¬(!items.isEmpty && Builtin.List.listTooLong (items.size + items2.size)) = true) (hs1 : items.size ≤ sizeLine) (hs2 : items.size + items2.size ≤ sizeLine) :
    Meets (Builtin.«list.extend» ⟨[.ref l, .ref b], []⟩) (fun _ R s => s.heap.get? l = some { cls := .type "list", data := .seq items n } ∧ s.heap.get? b = some { cls := .type "tuple", dict := dd2, data := .seq items2 n2, slots := sl2 } ∧
      R (.ok (.ret Value.none)) { s with heap := s.heap.update l (Obj.mapSeq fun x => x ++ items2), toks := s.toks }) :=
  .of_wp fun prog w A R s h => by
    obtain ⟨hp, g, d, tk, os⟩ := s
    obtain ⟨hl, hb, h⟩ := h
    have f1 := AutoSeq1.idx_int
    have f2 := AutoSeq1.sub_tuple_tuple
    have f3 := AutoSeq1.sub_list_list
    have f4 := AutoSeq1.sub_tuple_list
    have f5 := AutoSeq1.sub_list_tuple
    have hz' : (items ++ items2).size ≤ sizeLine + 1 := by rw [Array.size_append]; omega
    wp_walk using (wpAny_updateSeq hl rfl (hz := hs1) (_hz' := hz')), wpAny_loadPart' hl, wpAny_loadPart' hb
    exact ⟨_, rfl, h⟩
def rExtT (K : PySem.W.Frag) : V → List V → Hp → VK → Prop := fun x vs H Q => ∃ l b xs zs, x = .ref l ∧ vs = [.ref b] ∧ H l = some (.lst xs) ∧ SqT K H b zs ∧ xs.length + zs.length ≤ sizeLine ∧ Q .non (upd H l (.lst (xs ++ zs)))
theorem mt_extT : MtR X "list.extend" (rExtT X.K) := by
  intro pins s σ H x vs v us Q I rx rv ⟨l, b, xs, zs, ex, ev, hH, hB, hz, q⟩
  subst ex; subst ev
  cases rx
  obtain ⟨u, rfl, ru⟩ := rv.one
  cases ru
  obtain ⟨z, its, n, r, hl, e⟩ := I.lstM hH
  obtain ⟨its2, r2, ⟨⟨cls, dd, data, sl⟩, ho, hc, n2, hd⟩, z2⟩ := I.tuple hB
  simp only at hc hd
  subst hc hd
  have hl2 := r2.length
  have hsz : its.toArray.size + its2.toArray.size ≤ sizeLine := by rw [List.size_toArray, List.size_toArray]; omega
  have hlong : ¬ (!its.toArray.isEmpty && Builtin.List.listTooLong (its.toArray.size + its2.toArray.size)) = true := by
    rw [notLongL hsz, Bool.and_false]
    exact Bool.false_ne_true
  refine call_meets PySem.F.slot_list_extend ⟨_, e, rfl⟩ PySem.F.entry_list_extend (PySem.F.args_list_extend_2 _ _)
    (list_extend_tupW l its.toArray n b its2.toArray n2 dd sl hlong (by rw [List.size_toArray]; omega) hsz) ⟨e, ho, ?_⟩
  refine ⟨.non, _, I.lset (its' := its ++ its2) hH e (by simp) (r.append r2) ?_, rfl, q⟩
  rw [List.length_append]
  omega
def wExtend : D → List D → Sto → KD → Prop := fun x xs S Q => match x, xs with
  | .ref a, [.tup es] => onL S a fun ds => ds.length + es.length ≤ sizeLine ∧ Q .non (put S a (.lst (ds ++ es)))
  | .ref a, [.ref b] => onL S a fun ds => onL S b fun es => ds.length + es.length ≤ sizeLine ∧ Q .non (put S a (.lst (ds ++ es)))
  | _, _ => False
theorem dmt_extend : DMt X "list.extend" wExtend := ⟨_, MtR.or mt_extend mt_extT, fun x xs dx ds H S Q R hr r1 r2 q k => by
  unfold wExtend at q
  split at q
  · obtain ⟨ds, e, z, q⟩ := onL.out q
    obtain ⟨vs, h1, r⟩ := hr _ _ e
    obtain ⟨y, rfl, ry⟩ := r2.one
    cases ry with
    | tup t rt => exact .inr ⟨_, _, vs, _, relD_ref r1, rfl, h1, t.sq, by rw [r.length, rt.length]; exact z, k _ _ (up_lst hr h1 (r.append rt) .non q)⟩
  · obtain ⟨ds, e, q⟩ := onL.out q
    obtain ⟨es, e2, z, q⟩ := onL.out q
    obtain ⟨vs, h1, r⟩ := hr _ _ e
    obtain ⟨ws, h2, rt⟩ := hr _ _ e2
    obtain ⟨y, rfl, ry⟩ := r2.one
    cases ry
    exact .inl ⟨_, _, vs, _, relD_ref r1, rfl, h1, h2, by rw [r.length, rt.length]; exact z, k _ _ (up_lst hr h1 (r.append rt) .non q)⟩
  · exact q.elim⟩
def wPop : D → List D → Sto → KD → Prop := fun x xs S Q => match x, xs with
  | .ref a, [] => onL S a fun ds => onS ds[ds.length - 1]? fun d => Q d (put S a (.lst ds.dropLast))
  | .ref a, [.int i] => onL S a fun ds => -(2 ^ 63) ≤ i ∧ i < 2 ^ 63 ∧ onS (seqIndex? i ds.length) fun j => onS ds[j]? fun d => Q d (put S a (.lst (ds.eraseIdx j)))
  | _, _ => False
theorem RelDs.dropLast {vs : List V} {ds : List D} (r : RelDs K H vs ds) : RelDs K H vs.dropLast ds.dropLast := by
  rw [List.dropLast_eq_take, List.dropLast_eq_take, r.length]
  exact r.take _
theorem RelDs.eraseIdx : ∀ {vs : List V} {ds : List D} (n : Nat), RelDs K H vs ds → RelDs K H (vs.eraseIdx n) (ds.eraseIdx n)
  | _, _, _, .nil => .nil
  | _, _, 0, .cons _ t => t
  | _, _, n + 1, .cons r t => .cons r (RelDs.eraseIdx n t)
theorem dmt_pop : DMt X "list.pop" wPop := ⟨_, MtR.or mt_pop mt_popAt, fun x xs dx ds H S Q R hr r1 r2 q k => by
  unfold wPop at q
  split at q
  · obtain ⟨ds, e, q⟩ := onL.out q
    obtain ⟨d, ed, q⟩ := onS.out q
    obtain ⟨vs, h1, r⟩ := hr _ _ e
    cases r2
    obtain ⟨y, hy, ry⟩ := r.get ed
    exact .inl ⟨_, vs, y, relD_ref r1, rfl, h1, by rw [r.length]; exact hy, k _ _ (up_lst hr h1 r.dropLast ry q)⟩
  · obtain ⟨ds, e, b1, b2, q⟩ := onL.out q
    obtain ⟨j, ej, q⟩ := onS.out q
    obtain ⟨d, ed, q⟩ := onS.out q
    obtain ⟨vs, h1, r⟩ := hr _ _ e
    obtain ⟨y, hy, ry⟩ := r.get ed
    obtain ⟨i', rfl, ri⟩ := r2.one
    cases ri
    exact .inr ⟨_, vs, _, j, y, relD_ref r1, rfl, h1, b1, b2, by rw [r.length]; exact ej, hy, k _ _ (up_lst hr h1 (r.eraseIdx j) ry q)⟩
  · exact q.elim⟩
def tyOf : D → Sto → Option String
  | .non, _ => some "NoneType" | .bl _, _ => some "bool" | .int _, _ => some "int" | .str _, _ => some "str" | .tup _, _ => some "tuple" | .fz _, _ => some "list"
  | .ref a, S => match S a with | some (.lst _) => some "list" | _ => none
  | .ty _, _ => none | .wt _, _ => none
def wIsi : List D → Sto → KD → Prop := fun xs S Q => match xs with
  | [x, .ty T] => onS (tyOf x S) fun t => onS (kitB t T) fun b => Q (.bl b) S
  | _ => False
theorem FzAt.ty {a : Addr} {vs : List V} (h : FzAt K H a vs) : TyX K.fr H (.ref a) (.type "list") := by
  rcases h with ⟨o, h⟩ | ⟨o, its, n, h, c, _⟩
  · exact .base (.frz h)
  · exact .kList h c
theorem TupAt.ty {a : Addr} {vs : List V} (h : TupAt K H a vs) : TyX K.fr H (.ref a) (.type "tuple") := by
  rcases h with ⟨o, _, h⟩ | ⟨o, its, n, h, c, _⟩
  · exact .fTuple h
  · exact .kTuple h c
theorem tyOf.x {v : V} {d : D} {t : String} (hr : HR K H S) (r : RelD K H v d) (h : tyOf d S = some t) : TyX K.fr H v (.type t) := by
  cases r with
  | non => cases h; exact .base .non
  | bl b => cases h; exact .base (.bl b)
  | int i => cases h; exact .base (.int i)
  | str x _ => cases h; exact .base (.str x)
  | tup t _ => cases h; exact t.ty
  | fz t _ => cases h; exact t.ty
  | ty _ => cases h
  | wt _ _ => cases h
  | ref a =>
    simp only [tyOf] at h
    split at h
    · rename_i ds e
      cases h
      obtain ⟨vs, h1, _⟩ := hr a _ e
      exact .base (.lst h1)
    · cases h
theorem dcall_isi : DCall X (.builtin "isinstance") wIsi := .of call_isi fun xs H ds S Q R hr rd q k => by
  unfold wIsi at q
  split at q
  · obtain ⟨t, et, q⟩ := onS.out q
    obtain ⟨b, eb, q⟩ := onS.out q
    obtain ⟨x, c, rfl, rx, rc⟩ := rd.two
    cases rc
    exact ⟨x, _, _, _, b, rfl, .ty _, tyOf.x hr rx et, kit_ty eb, k _ _ (.of (.refl _) hr (.bl _) q)⟩
  · exact q.elim
theorem de_ty {x : Str} {n : String} (hg : Gl X x) (hm : X.mg x = none) (hv : bootBuiltins x = some (.type n)) (hn : x ≠ "__name__" := by decide) (hd : (x == ("__debug__" : Str)) = false := by decide) : DE X (.Name x pos) (dC (.ty n)) :=
  de_c (v := .ty n) (pe_bltn hg hm hv rfl hn hd) fun _ => .ty n
end
end DL
namespace DL
open PySem PySem.Spec PyProof.Rows L2
def emitOf (e : Expr) (acc : Value) (env : Env) : Sem Unit := match e with
  | .ListComp elt _ _ _ => do let _ ← call (.builtin "list.append") [acc, ← eval elt env]
  | .SetComp elt _ _ _ => do let v ← eval elt env; standAt elt.pos; let _ ← call (.builtin "set.add") [acc, v]
  | .DictComp k v _ _ _ => do
    let kv ← eval k env
    let vv ← holding [kv] (eval v env)
    match acc with
    | .ref d => do
      standAt { k.pos with endLine := v.pos.endLine, endCol := v.pos.endCol }
      holding [kv, vv] (dictSet d kv vv)
    | _ => unsupported "internal:dictcomp"
  | _ => unsupported "internal:not-a-comprehension"
def isLC : Expr → Bool
  | .ListComp .. => true | .SetComp .. => true | .DictComp .. => true | _ => false
abbrev testsIn (env : Env) (ifs : List Expr) : Sem Bool := forIn ifs true fun c r => if r = true then do let ok ← isTrue c env (eval c env); pure (ForInStep.yield ok) else pure (ForInStep.yield r)
theorem turn_last {e : Expr} {d : Nat} {it acc : Value} {env : Env} {tg iter : Expr} {ifs : List Expr} (h0 : isLC e = true) (h1 : (clausesOf e)[d]? = some ⟨tg, iter, ifs, 0⟩) (h2 : (clausesOf e)[d + 1]? = none) :
    compTurn e d it acc env = (do
      standAt iter.pos
      match ← pyNext it with
      | none => pure (.done .next)
      | some v =>
        letOwnedTupleGo tg it v
        assign tg env v
        let ok ← testsIn env ifs
        if ok then
          emitOf e acc env
          again (.compLoop e d it acc env)
        else again (.compLoop e d it acc env)) := by
  cases e <;> first
    | (cases h0; done)
    | (simp only [clausesOf] at h1 h2
       unfold compTurn
       simp only [h1, h2]
       rfl)
theorem turn_more {e : Expr} {d : Nat} {it acc : Value} {env : Env} {tg iter tg' iter' : Expr} {ifs ifs' : List Expr} (h0 : isLC e = true) (h1 : (clausesOf e)[d]? = some ⟨tg, iter, ifs, 0⟩) (h2 : (clausesOf e)[d + 1]? = some ⟨tg', iter', ifs', 0⟩) :
    compTurn e d it acc env = (do
      standAt iter.pos
      match ← pyNext it with
      | none => pure (.done .next)
      | some v =>
        letOwnedTupleGo tg it v
        assign tg env v
        let ok ← testsIn env ifs
        if ok then
          let x ← eval iter' env
          standAt iter'.pos
          let x ← foldedSetIterable iter' env x
          let _ ← runOwn (.compStart e (d + 1) (← holding [x] (pyIter x)) acc env) env
          again (.compLoop e d it acc env)
        else again (.compLoop e d it acc env)) := by
  cases e <;> first
    | (cases h0; done)
    | (simp only [clausesOf] at h1 h2
       unfold compTurn
       simp only [h1, h2]
       rfl)
def wipeD (τ : DSt) : List Nat → DSt
  | [] => τ
  | v :: vs => (wipeD τ vs).set v none
theorem StR.wipe {K : KW} {H : Hp} {σ : L2.St} {τ : DSt} (r : StR K H σ τ) : ∀ vs : List Nat, StR K H (L2.wipe σ vs) (wipeD τ vs)
  | [] => r
  | v :: vs => (StR.wipe r vs).setN v
abbrev DEmT := DSt → Sto → (Sto → Prop) → Prop
def loopC (g : DTG) (tt : DTT) (vs : List Nat) (inner : DEmT) (stab : Sto → Prop) : List D → DSt → Sto → (Sto → Prop) → Prop
  | [], _, S, k => stab S ∧ k S
  | d :: ds, τ, S, k => stab S ∧ g d τ S fun τ2 S2 => wipeD τ2 vs = τ ∧ tt τ2 S2 fun b S3 => if b = true then inner τ2 S3 fun S4 => loopC g tt vs inner stab ds τ S4 k else loopC g tt vs inner stab ds τ S3 k
abbrev ClT := DTI × DTG × DTT × List Nat
def compR : List ClT → DEmT → DEmT
  | [], em => em
  | (wi, g, tt, vs) :: rs, em => fun τ S k => wi τ S fun ds stab S1 => loopC g tt vs (compR rs em) stab ds τ S1 k
structure DTs (X : Cx) (ifs : List Expr) (t : DTT) : Prop where
  run : ∀ (pins : List (Addr × Obj)) (s : Shared) (σ : L2.St) (H : Hp) (τ : DSt) (S : Sto) (Q : Bool → Sto → Prop), Inv X pins σ H s → StR X.KW H σ τ → HR X.KW H S → t τ S Q →
    wpAny (model X.prog X.w) X.A (testsIn X.env ifs) (TP X pins σ (UpT X.KW H Q)) X.xe s
def dYes : DTT := fun _ S Q => Q true S
theorem dts_nil {X : Cx} : DTs X [] dYes := ⟨fun pins s σ H τ S Q I st hr q => wpAny_tests_nil ⟨H, I, .refl _, S, hr, q⟩⟩
theorem dts_one {X : Cx} {c : Expr} {t : DTT} (h : DT X c t) : DTs X [c] t := ⟨fun pins s σ H τ S Q I st hr q => wpAny_tests_one (h.run pins s σ H τ S Q I st hr q)⟩
inductive DCl (Y : Cx) : List Comprehension → List ClT → Prop
  | nil : DCl Y [] []
  | cons {tg iter ifs wi g tt vs gs rs} : DI Y tg iter wi → DG Y tg g → DTs Y ifs tt → (∀ env x, foldedSetIterable iter env x = pure x) → DCl Y gs rs → DCl Y (⟨tg, iter, ifs, 0⟩ :: gs) ((wi, g, tt, vs) :: rs)
structure DEm (Y : Cx) (emit : Sem Unit) (em : DEmT) : Prop where
  run : ∀ (pins : List (Addr × Obj)) (s : Shared) (σ : L2.St) (H : Hp) (τ : DSt) (S : Sto) (k : Sto → Prop), Inv Y pins σ H s → StR Y.KW H σ τ → HR Y.KW H S → em τ S k →
    wpAny (model Y.prog Y.w) Y.A emit (fun _ s' => ∃ H' S', Inv Y pins σ H' s' ∧ Ev H H' ∧ HR Y.KW H' S' ∧ k S') (fun _ _ => False) s
theorem thnN {α : Type} {t : Sem α} {Q Q' : α → Shared → Prop} {M : Model} {A : Around} {E : Value → Shared → Prop} {s : Shared} (h : wpAny M A t Q (fun _ _ => False) s) (hQ : ∀ a s, Q a s → Q' a s) : wpAny M A t Q' E s := wpAny_mono h hQ fun _ _ z => z.elim
theorem start_more {prog : Program} {w : World} {A : Around} {R : Result → Shared → Prop} {s : Shared} {e : Expr} {d : Nat} {g : Comprehension} {it acc : Value} {env : Env} (hlc : isLC e = true) (hg : (clausesOf e)[d]? = some g) (ha : g.is_async = 0)
    (h0 : codeAny (model prog w) A (.compLoop e d it acc env) R s)
    (h : wpAny (model prog w) A (pyIter it) (fun it' s' => codeAny (model prog w) A (.compLoop e d it' acc env) R s') (notedBy (model prog w) A env fun x s' => R (.error x) s') s) : codeAny (model prog w) A (.compStart e d it acc env) R s := by
  have hb : (g.is_async != 0) = false := by rw [ha]; rfl
  refine codeAny_of_tree ?_
  cases e
  case ListComp | SetComp | DictComp =>
    all_goals
      show wpAny _ A ((compStart _ d it acc env).onRaise (fun x => do noteFrame x env; standAt theWindowsPlace)) _ _ s
      refine wpAny_notedAt ?_
      unfold compStart
      rw [hg]
      simp only [Option.elim_some, hb, Bool.false_eq_true, if_false]
      refine wpAny_bind (wpAny_askSetting (wpAny_ite ?_))
      split
      · first
          | exact wpAny_bind (wpAny_pure (wpAny_pure (And.intro rfl h0)))
          | exact wpAny_pure (And.intro rfl h0)
      · first
          | exact wpAny_bind (wpAny_rule (wpAny_bind (wpAny_standAt (wpAny_bind (wpAny_mono h (fun it' s' h' => wpAny_pure (And.intro rfl h')) fun _ _ x => x)))))
          | (refine wpAny_bind (wpAny_rule ?_); show wpAny _ _ (standAt _ >>= _) _ _ s; exact wpAny_bind (wpAny_standAt (wpAny_bind (wpAny_mono h (fun it' s' h' => wpAny_pure (And.intro rfl h')) fun _ _ x => x))))
  all_goals cases hlc
theorem loop_turn {prog : Program} {w : World} {A : Around} {R : Result → Shared → Prop} {s : Shared} {e : Expr} {d : Nat} {it acc : Value} {env : Env} (hlc : isLC e = true) (I : Nat → Shared → Prop)
    (turn : ∀ n s, I n s → wpAny (model prog w) A (compTurn e d it acc env) (fun fin s' => match fin with | .done f => R (.ok f) s' | .again c' => c' = .compLoop e d it acc env ∧ ∃ m, m < n ∧ I m s') (notedBy (model prog w) A env fun x s' => R (.error x) s') s)
    (n : Nat) (h : I n s) : codeAny (model prog w) A (.compLoop e d it acc env) R s := by
  cases e
  case ListComp | SetComp | DictComp =>
    all_goals
      refine codeAny_loop rfl I (fun n s hI => ?_) n h
      show wpAny _ A ((compTurn _ d it acc env).onRaise (fun x => do noteFrame x env; theTreesLotGoes x)) _ _ s
      exact wpAny_noted (turn n s hI)
  all_goals cases hlc
theorem DG.runF {Y : Cx} {tg : Expr} {g : DTG} (h : DG Y tg g) (hxe : Y.xe = fun _ _ => False) {pins : List (Addr × Obj)} {s : Shared} {σ : L2.St} {H : Hp} {τ : DSt} {S : Sto} {v : V} {d : D} {u : Value} {Q : DSt → Sto → Prop} (I : Inv Y pins σ H s) (r : RelV v u) (rd : RelD Y.KW H v d) (st : StR Y.KW H σ τ) (hr : HR Y.KW H S) (q : g d τ S Q) :
    wpAny (model Y.prog Y.w) Y.A (assign tg Y.env u) (fun _ s' => ∃ σ' H', Inv Y pins σ' H' s' ∧ UpS Y.KW H Q σ' H') (fun _ _ => False) s := by
  have z := h.pg.run _ s σ H v u _ I r ⟨d, τ, S, Q, rd, st, hr, q, fun _ _ z => z⟩
  rw [hxe] at z
  exact thnN z fun _ s' ⟨σ', H', a, b⟩ => ⟨σ', H', a, b⟩
theorem DI.runF {Y : Cx} {tg iter : Expr} {wi : DTI} (h : DI Y tg iter wi) (hxe : Y.xe = fun _ _ => False) {pins : List (Addr × Obj)} {s : Shared} {σ : L2.St} {H : Hp} {τ : DSt} {S : Sto} {Rd : List D → (Sto → Prop) → Sto → Prop} (I : Inv Y pins σ H s) (st : StR Y.KW H σ τ) (hr : HR Y.KW H S) (q : wi τ S Rd) :
    wpAny (model Y.prog Y.w) Y.A (eval iter Y.env) (fun v s1 => wpAny (model Y.prog Y.w) Y.A (pyIter v) (fun itv s2 => ∃ (it : Addr) (fp : List Addr) (tn : Nat → Heap → Prop) (H' : Hp) (ds : List D) (stab : Sto → Prop) (S1 : Sto), itv = .ref it ∧ Inv Y pins σ H' s2 ∧ Ev H H' ∧ HR Y.KW H' S1 ∧
      Turn Y.prog Y.w Y.K tg (ItD Y.KW H' ds stab) fp it tn ∧ tn 0 s2.heap ∧ (∀ b ∈ fp, FpOk Y pins H' b) ∧ Rd ds stab S1) (fun _ _ => False) s1) (fun _ _ => False) s := by
  have z := h.pi.run pins s σ H (fun J H' => ∃ ds stab S1, J = ItD Y.KW H' ds stab ∧ Ev H H' ∧ HR Y.KW H' S1 ∧ Rd ds stab S1) I ⟨τ, S, Rd, st, hr, q, fun ds stab S1 H1 e hr' rd => ⟨ds, stab, S1, rfl, e, hr', rd⟩⟩
  rw [hxe] at z
  refine thnN z fun v s1 h1 => thnN h1 fun itv s2 hp => ?_
  obtain ⟨it, fp, tn, J, H', e, I', T, t0, f, ds, stab, S1, ej, ev, hr', rd⟩ := hp
  subst ej
  exact ⟨it, fp, tn, H', ds, stab, S1, e, I', ev, hr', T, t0, f, rd⟩
theorem DTs.runF {Y : Cx} {ifs : List Expr} {t : DTT} (h : DTs Y ifs t) (hxe : Y.xe = fun _ _ => False) {pins : List (Addr × Obj)} {s : Shared} {σ : L2.St} {H : Hp} {τ : DSt} {S : Sto} {Q : Bool → Sto → Prop} (I : Inv Y pins σ H s) (st : StR Y.KW H σ τ) (hr : HR Y.KW H S) (q : t τ S Q) :
    wpAny (model Y.prog Y.w) Y.A (testsIn Y.env ifs) (fun b s' => ∃ H', Inv Y pins σ H' s' ∧ UpT Y.KW H Q b H') (fun _ _ => False) s := by
  have z := h.run _ s σ H τ S Q I st hr q
  rw [hxe] at z
  exact z
structure DRest (Y : Cx) (rest : Sem Fin) (c : Code) (em : DEmT) : Prop where
  run : ∀ (pins : List (Addr × Obj)) (s : Shared) (σ : L2.St) (H : Hp) (τ : DSt) (S : Sto) (k : Sto → Prop), Inv Y pins σ H s → StR Y.KW H σ τ → HR Y.KW H S → em τ S k →
    wpAny (model Y.prog Y.w) Y.A rest (fun r s' => r = .again c ∧ ∃ σ' H' S', Inv Y pins σ' H' s' ∧ Ev H H' ∧ StR Y.KW H' σ' τ ∧ HR Y.KW H' S' ∧ k S') (fun _ _ => False) s
theorem clause_loop {Y : Cx} {e : Expr} {acc : Value} {em : DEmT} {d : Nat} {tg iter : Expr} {ifs : List Expr} {g : DTG} {tt : DTT} {vs : List Nat} {rest : Sem Fin} {it : Addr} (hlc : isLC e = true) (hc : Y.calm = true) (hxe : Y.xe = fun _ _ => False)
    (ht : compTurn e d (.ref it) acc Y.env = (do
      standAt iter.pos
      match ← pyNext (.ref it) with
      | none => pure (.done .next)
      | some v =>
        letOwnedTupleGo tg (.ref it) v
        assign tg Y.env v
        let ok ← testsIn Y.env ifs
        if ok then rest
        else again (.compLoop e d (.ref it) acc Y.env)))
    (hg : DG Y tg g) (hts : DTs Y ifs tt) (hrest : DRest Y rest (.compLoop e d (.ref it) acc Y.env) em) :
      ∀ (pins : List (Addr × Obj)) (s : Shared) (σ : L2.St) (H : Hp) (τ : DSt) (S : Sto) (k : Sto → Prop) (H0 : Hp) (fp : List Addr) (tn : Nat → Heap → Prop) (ds : List D) (stab : Sto → Prop),
        Inv Y pins σ H s → Ev H0 H → StR Y.KW H σ τ → HR Y.KW H S → Turn Y.prog Y.w Y.K tg (ItD Y.KW H0 ds stab) fp it tn → tn 0 s.heap → (∀ b ∈ fp, FpOk Y pins H b) → loopC g tt vs em stab ds τ S k →
        codeAny (model Y.prog Y.w) Y.A (.compLoop e d (.ref it) acc Y.env) (fun r s' => r = .ok .next ∧ ∃ σ' H' S', Inv Y pins σ' H' s' ∧ Ev H H' ∧ StR Y.KW H' σ' τ ∧ HR Y.KW H' S' ∧ k S') s := by
  intro pins s σ H τ S k H0 fp tn ds stab I e0 st hr T t0 f q
  refine loop_turn hlc (fun n s' => ∃ i σ' H' S', n = ds.length - i ∧ i ≤ ds.length ∧ Inv Y pins σ' H' s' ∧ Ev H H' ∧ StR Y.KW H' σ' τ ∧ HR Y.KW H' S' ∧ tn i s'.heap ∧ (∀ b ∈ fp, H' b = none) ∧ loopC g tt vs em stab (ds.drop i) τ S' k) ?_ ds.length
    ⟨0, σ, H, S, by simp, Nat.zero_le _, I, .refl _, st, hr, t0, fun b hb => (f b hb).1, by simpa using q⟩
  rintro n s5 ⟨i, σ5, H5, S5, en, hi, I5, e5, st5, hr5, t5, n5, q5⟩
  have stat : ∀ {H' : Hp}, (∀ b ∈ fp, H' b = none) → ∀ b ∈ fp, FpOk Y pins H' b := fun hn b hb => ⟨hn b hb, (f b hb).2⟩
  rw [ht]
  refine wpAny_bind (wpAny_standAt (wpAny_bind ?_))
  by_cases hlt : i < ds.length
  · rw [List.drop_eq_getElem_cons hlt] at q5
    have ti := T.item Y rfl rfl rfl hc i pins s5 σ5 H5 (fun _ _ => False) I5 (stat n5) t5 ⟨e0.trans e5, ⟨S5, hr5, q5.1⟩, hlt⟩
    refine thnN ti fun r s6 ⟨u, hr, h6⟩ => ?_
    subst hr
    refine wpAny_bind (thnN h6 fun _ s7 ⟨x, H7, I7, r7, y7, t7, n7⟩ => ?_)
    obtain ⟨e57, k57, dd, hdd, rd⟩ := y7
    rw [List.getElem?_eq_getElem hlt] at hdd
    cases hdd
    have I7' := I7.pinned (stat n7) (T.obj _ _ t7)
    have q7 := q5.2
    refine wpAny_bind (thnN (hg.runF hxe I7' r7 rd (st5.ev e57) (k57 _ hr5) q7) fun _ s8 ⟨σ8, H8, I8, e78, τ8, S8, hr8, st8, hw8, q8⟩ => ?_)
    refine wpAny_bind (thnN (hts.runF hxe I8 st8 hr8 q8) fun b s9 ⟨H9, I9, e89, S9, hr9, q9⟩ => ?_)
    -- the turn's end
    have e59 : Ev H5 H9 := (e57.trans e78).trans e89
    have fin : ∀ {s' : Shared} {σ' : L2.St} {H' : Hp} {S' : Sto}, Inv Y (pins ++ pinsAt fp s7.heap) σ' H' s' → Ev H9 H' → StR Y.KW H' σ' τ8 → HR Y.KW H' S' → loopC g tt vs em stab (ds.drop (i + 1)) τ S' k →
        ∃ m, m < n ∧ ∃ i σ' H' S', m = ds.length - i ∧ i ≤ ds.length ∧ Inv Y pins σ' H' s' ∧ Ev H H' ∧ StR Y.KW H' σ' τ ∧ HR Y.KW H' S' ∧ tn i s'.heap ∧ (∀ b ∈ fp, H' b = none) ∧ loopC g tt vs em stab (ds.drop i) τ S' k := fun {s' σ' H' S'} I' e' st' hr' q' => by
      have pin' : ∀ b ∈ fp, ∀ o, s7.heap.get? b = some o → s'.heap.get? b = some o ∧ H' b = none := fun b hb o e =>
        let z := I'.pin (b, o) (List.mem_append_right _ (List.mem_append_right _ (mem_pinsAt hb e)))
        ⟨z.1, z.2.1⟩
      refine ⟨ds.length - (i + 1), by omega, i + 1, L2.wipe σ' vs, H', S', rfl, hlt, (I'.unpinned).weak (wipe_length ..) fun j v e => (wipe_some e).1, (e5.trans e59).trans e', ?_, hr', T.keep _ _ _ t7 fun b hb o e => (pin' b hb o e).1, fun b hb => ?_, q'⟩
      · have z := StR.wipe st' vs
        rw [hw8] at z
        exact z
      · obtain ⟨o, e, _⟩ := T.obj _ _ t7 b hb
        exact (pin' b hb o e).2
    cases b with
    | false =>
      simp only [Bool.false_eq_true, if_false] at q9 ⊢
      exact wpAny_pure ⟨rfl, fin I9 (.refl _) (st8.ev e89) hr9 q9⟩
    | true =>
      simp only [if_true] at q9 ⊢
      refine thnN (hrest.run _ s9 σ8 H9 τ8 S9 _ I9 (st8.ev e89) hr9 q9) fun r s10 ⟨er, σ', H', S', I', e', st', hr', q'⟩ => ?_
      subst er
      exact ⟨rfl, fin I' e' st' hr' q'⟩
  · have ei : i = ds.length := by omega
    subst ei
    rw [List.drop_length] at q5
    have td := T.done Y rfl rfl rfl hc ds.length pins s5 σ5 H5 (fun _ _ => False) I5 (stat n5) t5 ⟨e0.trans e5, ⟨S5, hr5, q5.1⟩, rfl⟩
    refine thnN td fun r s6 ⟨hr, I6⟩ => ?_
    subst hr
    exact wpAny_pure ⟨rfl, σ5, H5, S5, I6, e5, st5, hr5, q5.2⟩
theorem drop_at {α : Type} {l : List α} {d : Nat} {a : α} {r : List α} (h : l.drop d = a :: r) : l[d]? = some a ∧ l.drop (d + 1) = r := by
  have h1 : (l.drop d)[0]? = some a := by rw [h]; rfl
  rw [List.getElem?_drop] at h1
  refine ⟨by simpa using h1, ?_⟩
  have h2 : (l.drop d).drop 1 = r := by rw [h]; rfl
  rw [List.drop_drop] at h2
  simpa [Nat.add_comm] using h2
theorem comp_loop {Y : Cx} {e : Expr} {acc : Value} {em : DEmT} (hlc : isLC e = true) (hc : Y.calm = true) (hxe : Y.xe = fun _ _ => False) (hem : DEm Y (emitOf e acc Y.env) em) :
    ∀ (gs : List Comprehension) (rs : List ClT) (tg iter : Expr) (ifs : List Expr) (g : DTG) (tt : DTT) (vs : List Nat) (d : Nat), (clausesOf e).drop d = ⟨tg, iter, ifs, 0⟩ :: gs → DG Y tg g → DTs Y ifs tt → DCl Y gs rs →
      ∀ (pins : List (Addr × Obj)) (s : Shared) (σ : L2.St) (H : Hp) (τ : DSt) (S : Sto) (k : Sto → Prop) (H0 : Hp) (it : Addr) (fp : List Addr) (tn : Nat → Heap → Prop) (ds : List D) (stab : Sto → Prop),
        Inv Y pins σ H s → Ev H0 H → StR Y.KW H σ τ → HR Y.KW H S → Turn Y.prog Y.w Y.K tg (ItD Y.KW H0 ds stab) fp it tn → tn 0 s.heap → (∀ b ∈ fp, FpOk Y pins H b) → loopC g tt vs (compR rs em) stab ds τ S k →
        codeAny (model Y.prog Y.w) Y.A (.compLoop e d (.ref it) acc Y.env) (fun r s' => r = .ok .next ∧ ∃ σ' H' S', Inv Y pins σ' H' s' ∧ Ev H H' ∧ StR Y.KW H' σ' τ ∧ HR Y.KW H' S' ∧ k S') s := by
  intro gs
  induction gs with
  | nil =>
    intro rs tg iter ifs g tt vs d hd hg hts hcl pins s σ H τ S k H0 it fp tn ds stab I e0 st hr T t0 f q
    cases hcl
    obtain ⟨h1, h2⟩ := drop_at hd
    have h3 : (clausesOf e)[d + 1]? = none := by
      have z : ((clausesOf e).drop (d + 1))[0]? = none := by rw [h2]; rfl
      rw [List.getElem?_drop] at z
      simpa using z
    refine clause_loop hlc hc hxe (rest := do emitOf e acc Y.env; again (.compLoop e d (.ref it) acc Y.env)) (em := em) (turn_last hlc h1 h3) hg hts ⟨fun pins s σ H τ S k I st hr q => ?_⟩ pins s σ H τ S k H0 fp tn ds stab I e0 st hr T t0 f q
    exact wpAny_bind (thnN (hem.run pins s σ H τ S k I st hr q) fun _ s' ⟨H', S', I', e', hr', q'⟩ => wpAny_pure ⟨rfl, σ, H', S', I', e', st.ev e', hr', q'⟩)
  | cons g2 gs ih =>
    intro rs tg iter ifs g tt vs d hd hg hts hcl pins s σ H τ S k H0 it fp tn ds stab I e0 st hr T t0 f q
    cases hcl with
    | @cons tg' iter' ifs' wi' g' tt' vs' _ rs' hi' hg' ht' hf' hcl' =>
    obtain ⟨h1, h2⟩ := drop_at hd
    obtain ⟨h3, _⟩ := drop_at h2
    refine clause_loop hlc hc hxe (em := compR ((wi', g', tt', vs') :: rs') em) (turn_more hlc h1 h3) hg hts ⟨fun pins s σ H τ S k I st hr q => ?_⟩ pins s σ H τ S k H0 fp tn ds stab I e0 st hr T t0 f q
    refine wpAny_bind (thnN (hi'.runF hxe I st hr (Rd := fun ds stab S1 => loopC g' tt' vs' (compR rs' em) stab ds τ S1 k) q) fun v s1 h1 => ?_)
    refine wpAny_bind (wpAny_standAt (wpAny_bind (wpAny_of_eq (hf' _ _) ?_)))
    refine wpAny_bind (wpAny_holding (thnN h1 fun itv s2 ⟨it2, fp2, tn2, H2, ds2, stab2, S2, ei, I2, ev2, hr2, T2, t2, f2, q2⟩ => ?_))
    subst ei
    have st2 := st.ev ev2
    have loop := ih rs' tg' iter' ifs' g' tt' vs' (d + 1) h2 hg' ht' hcl' pins s2 σ H2 τ S2 k H2 it2 fp2 tn2 ds2 stab2 I2 (.refl _) st2 hr2 T2 t2 f2 q2
    refine wpAny_bind (wpAny_runOwn (h := none) ?_ (by intro x; cases x))
    rw [Around.mark_none]
    have R2 : codeAny (model Y.prog Y.w) Y.A (.compLoop e (d + 1) (.ref it2) acc Y.env) (fun r s' => match r with | .ok f => wpAny (model Y.prog Y.w) Y.A (do let _ ← pure f; again (.compLoop e d (.ref it) acc Y.env)) (fun r s' => r = .again (.compLoop e d (.ref it) acc Y.env) ∧ ∃ σ' H' S', Inv Y pins σ' H' s' ∧ Ev H H' ∧ StR Y.KW H' σ' τ ∧ HR Y.KW H' S' ∧ k S') (fun _ _ => False) s' | .error e => cameBackBy (model Y.prog Y.w) Y.A Y.env (fun _ _ => False) e s') s2 := by
      refine codeAny_mono loop ?_
      rintro r s' ⟨rfl, σ', H', S', I', e', st', hr', q'⟩
      exact wpAny_bind (wpAny_pure (wpAny_pure ⟨rfl, σ', H', S', I', ev2.trans e', st', hr', q'⟩))
    exact start_more hlc h3 rfl R2 (T2.self _ 0 _ _ _ t2 R2)
end DL
namespace DL
open PySem PySem.Spec PyProof.Rows L2
structure CompB (Y : Cx) (e tg : Expr) (ifs : List Expr) (gs : List Comprehension) (g : DTG) (tt : DTT) (rs : List ClT) (em : Addr → DEmT) : Prop where
  tgt : DG Y tg g
  tst : DTs Y ifs tt
  cls : DCl Y gs rs
  emit : ∀ D, DEm Y (emitOf e (.ref D) Y.env) (em D)
abbrev BlkAll (X : Cx) (scope : Scope) (φ : Cx → Prop) : Prop := ∀ (s : Shared) (H : Hp) (C : Addr) (cl : List (Str × Addr)) (fp : List Addr), φ (X.blk s H scope (compEnvC scope cl C X.env) fp)
structure NewAcc (X : Cx) (newAcc : Sem Value) (ob : Obj) (o : Addr → HO) (ao : AO) : Prop where
  lay : ∀ (s : Shared) (E : Value → Shared → Prop) (Q : Value → Shared → Prop), Q (.ref s.heap.objs.size) { s with heap := s.heap.push ob } → wpAny (model X.prog X.w) X.A newAcc Q E s
  ok : ∀ (h : Heap) (H : Hp), sysModules < h.objs.size → ObjOk X.prog X.w (upd H h.objs.size (o h.objs.size)) (h.push ob) h.objs.size (o h.objs.size)
  rel : ∀ (H : Hp) (D : Addr), OkO X.KW (upd H D (o D)) D ao
  st : ∀ D, stays (o D) = false
theorem HR.newO {K : KW} {H : Hp} {S : Sto} {D : Addr} {o : HO} {ao : AO} (h : HR K H S) (n : H D = none) (r : OkO K (upd H D o) D ao) : HR K (upd H D o) (put S D ao) := fun a u e => by
  by_cases ha : a = D
  · subst ha; rw [put_same] at e; cases e; exact r
  · rw [put_ne ha] at e; exact (h.new n) a u e
def dComp (wi : DTI) (g : DTG) (tt : DTT) (vs all : List Nat) (rs : List ClT) (em : Addr → DEmT) (ao : AO) : DTE := fun τ S Q => wi τ S fun ds stab S1 => ∀ D, S1 D = none → loopC g tt vs (compR rs (em D)) stab ds (wipeD τ all) (put S1 D ao) (fun S2 => Q (.ref D) S2)
section
variable {X : Cx}
theorem comp_core {pins : List (Addr × Obj)} {s : Shared} {σ : L2.St} {H : Hp} {τ : DSt} {S : Sto} {Q : D → Sto → Prop} {e tg iter : Expr} {ifs : List Expr} {gs : List Comprehension} {scope : Scope} {own : List (Str × Nat)} {pos' : Pos} {wi : DTI} {g : DTG} {tt : DTT} {vs : List Nat} {rs : List ClT} {em : Addr → DEmT} {newAcc : Sem Value} {ob : Obj} {o : Addr → HO} {ao : AO}
    {use : Option (Value → Sem Unit)} {Qf : Value → Shared → Prop}
    (hlc : isLC e = true) (hcl : clausesOf e = ⟨tg, iter, ifs, 0⟩ :: gs) (hc : X.calm = true) (hN : X.N.Nodup) (I : Inv X pins σ H s) (st : StR X.KW H σ τ) (hr : HR X.KW H S) (hi : DI X tg iter wi) (ok : BlkOk X.N X.env.scope scope own)
    (hb : BlkAll X scope fun Y => CompB Y e tg ifs gs g tt rs em) (na : NewAcc X newAcc ob o ao) (hs : ∀ x, foldedSetIterable iter X.env x = pure x)
    (h : dComp wi g tt vs (own.map (·.2)) rs em ao τ S Q)
    (hRR : ∀ D C s' m H' S', Inv X pins σ H' s' → Ev H H' → HR X.KW H' S' → Q (.ref D) S' → s'.heap.Ns C m → FpOk X pins H' C → compPost (model X.prog X.w) X.A X.xe use Qf (.ref D) C (.ok .next) s') :
    wpAny (model X.prog X.w) X.A (comprehension e scope X.env pos' newAcc false (eval iter X.env) use) Qf X.xe s := by
  have hfree : ∀ y ∈ scope.names, y.2 = .free → ∃ c, X.env.cells.lookup y.1 = some c := fun y hy e => (ok.free y hy e).elim (fun k => I.ok.has _ (.inl k)) fun k => I.ok.has _ (.inr k)
  refine wpAny_comprehension_free (use := use) hcl hs (closure_ok hfree) ok.kind (fun y hy e => by rw [ok.uniq y hy, e]) ?_
  refine thn (hi.pi.run pins s σ H (fun J H' => ∃ ds stab S1, J = ItD X.KW H' ds stab ∧ Ev H H' ∧ HR X.KW H' S1 ∧ ∀ D, S1 D = none → loopC g tt vs (compR rs (em D)) stab ds (wipeD τ (own.map (·.2))) (put S1 D ao) (fun S2 => Q (.ref D) S2)) I
    ⟨τ, S, _, st, hr, h, fun ds stab S1 H1 e1 hr1 rd => ⟨ds, stab, S1, rfl, e1, hr1, rd⟩⟩) fun xv s1 hx => thn hx fun itv s2 h2 => ?_
  obtain ⟨it, fp, tn, J, H2, ei, I2, T, t2, f2, ds, stab, S2, ej, ev2, hr2, q⟩ := h2
  subst ei
  subst ej
  refine na.lay _ _ _ (newEnv_comp ?_)
  generalize hD : s2.heap.objs.size = D
  have hDn : H2 D = none := I2.hok.fresh (Nat.le_of_eq hD)
  have hSn : S2 D = none := hr2.free hDn
  have q := q D hSn
  -- the new thing
  generalize hs3 : ({ s2 with heap := s2.heap.push ob } : Shared) = s3
  have I3 : Inv X pins σ (upd H2 D (o D)) s3 := by
    rw [← hs3, ← hD]
    exact I2.laid (t' := s2.toks) (fun b _ e => Heap.get?_push_of_some _ e) (Nat.le_refl _) (na.ok _ _ I2.big)
  have h3 : s3.heap = s2.heap.push ob := by rw [← hs3]
  have hr3 : HR X.KW (upd H2 D (o D)) (put S2 D ao) := hr2.newO hDn (na.rel _ _)
  have ev3 : Ev H2 (upd H2 D (o D)) := .new hDn
  have f3 : ∀ b ∈ fp, FpOk X pins (upd H2 D (o D)) b ∧ b < s3.heap.objs.size := fun b hb => by
    obtain ⟨ob', eb, _⟩ := T.obj _ _ t2 b hb
    have hlt := Heap.lt_size eb
    refine ⟨⟨?_, (f2 b hb).2⟩, by rw [h3, Heap.size_push]; exact Nat.lt_succ_of_lt hlt⟩
    rw [upd_ne (by rw [← hD]; exact Nat.ne_of_lt hlt)]
    exact (f2 b hb).1
  have t3 : tn 0 s3.heap := T.keep _ _ _ t2 fun b _ _ e => by rw [h3]; exact Heap.get?_push_of_some _ e
  have I4 := block_start I3 ok hN f3
  have B := hb s3 (upd H2 D (o D)) s3.heap.objs.size (cellsFrom (s3.heap.objs.size + 1) scope.names (cloFrom X.env.cells scope.names [])) fp
  show codeAny _ _ (.compStart e 0 (.ref it) (.ref D) (compEnvC scope (cellsFrom (s3.heap.objs.size + 1) scope.names (cloFrom X.env.cells scope.names [])) s3.heap.objs.size X.env)) (compPost (model X.prog X.w) X.A X.xe use Qf (.ref D) s3.heap.objs.size) { s3 with heap := pushCells (s3.heap.push { cls := .type "dict", data := .dict #[] }) scope.names }
  generalize hce : compEnvC scope (cellsFrom (s3.heap.objs.size + 1) scope.names (cloFrom X.env.cells scope.names [])) s3.heap.objs.size X.env = ce at I4 B ⊢
  have cL : ce.locals = s3.heap.objs.size := by subst hce; rfl
  have nfp : ∀ b ∈ fp, (upd H2 D (o D)) b = none := fun b hb => (f3 b hb).1.1
  generalize hH3 : upd H2 D (o D) = H3 at I3 I4 B nfp f3 hr3 ev3
  generalize hs4 : ({ s3 with heap := pushCells (s3.heap.push { cls := .type "dict", data := .dict #[] }) scope.names } : Shared) = s4 at I4 ⊢
  have t4 : tn 0 s4.heap := T.keep _ _ _ t3 fun b _ _ e => by rw [← hs4]; exact pushCells_keeps _ _ _ _ (Heap.get?_push_of_some _ e)
  have f4 : ∀ b ∈ fp, FpOk (X.blk s3 H3 scope ce fp) [] H3 b := fun b hb => ⟨nfp b hb, (I4.ok.exf b hb).1, I4.ok.exfs b hb, .inl hb, fun x c e => (I4.ok.exf b hb).2 x c e, fun p hp => absurd (show p ∈ ([] : List (Addr × Obj)) ++ [] from hp) (by simp)⟩
  have st4 : StR X.KW H3 (L2.wipe σ (own.map (·.2))) (wipeD τ (own.map (·.2))) := StR.wipe (st.ev (ev2.trans ev3)) _
  have loop := comp_loop (Y := X.blk s3 H3 scope ce fp) (e := e) (acc := .ref D) (em := em D) hlc hc rfl (B.emit D) gs rs tg iter ifs g tt vs 0 (by rw [hcl]; rfl) B.tgt B.tst B.cls [] s4 _ H3 _ _ _ H2 it fp tn ds stab I4 ev3 st4 hr3 T t4 f4 q
  have loop' : codeAny (model X.prog X.w) X.A (.compLoop e 0 (.ref it) (.ref D) ce) (compPost (model X.prog X.w) X.A X.xe use Qf (.ref D) s3.heap.objs.size) s4 := by
    refine codeAny_mono loop ?_
    rintro r s6 ⟨rfl, σ6, H6, S6, I6, e6, st6, hr6, q6⟩
    have I7 : Inv X pins σ H6 s6 := I3.call' (ch := fp) I6.os I6.base I6.hok I6.bare fun b hb => ⟨(f3 b hb).1.2.2.2.1, (f3 b hb).1.2.1, (f3 b hb).1.2.2.2.2.1, (f3 b hb).1.2.2.2.2.2⟩
    have nC : H6 s3.heap.objs.size = none := by
      have z : H6 ce.locals = none := I6.free
      rw [cL] at z
      exact z
    obtain ⟨m, hn, _⟩ := I6.loc
    have hn : s6.heap.Ns ce.locals m := hn
    rw [cL] at hn
    exact hRR D s3.heap.objs.size s6 m H6 S6 I7 ((ev2.trans ev3).trans e6) hr6 q6 hn (I3.fpOk (Nat.le_refl _) nC)
  exact start_more hlc (by rw [hcl]; rfl) rfl loop' (T.self X.A 0 _ _ _ t4 loop')
theorem comp_val {e tg iter : Expr} {ifs : List Expr} {gs : List Comprehension} {scope : Scope} {own : List (Str × Nat)} {pos' : Pos} {wi : DTI} {g : DTG} {tt : DTT} {vs : List Nat} {rs : List ClT} {em : Addr → DEmT} {newAcc : Sem Value} {ob : Obj} {o : Addr → HO} {ao : AO}
    (he : eval e X.env = comprehension e scope X.env pos' newAcc false (eval iter X.env) none)
    (hlc : isLC e = true) (hcl : clausesOf e = ⟨tg, iter, ifs, 0⟩ :: gs) (hc : X.calm = true) (hN : X.N.Nodup) (hi : DI X tg iter wi) (ok : BlkOk X.N X.env.scope scope own)
    (hb : BlkAll X scope fun Y => CompB Y e tg ifs gs g tt rs em) (na : NewAcc X newAcc ob o ao) (hs : ∀ x, foldedSetIterable iter X.env x = pure x) : DE X e (dComp wi g tt vs (own.map (·.2)) rs em ao) := by
  refine ⟨fun pins s σ H τ S Q I st hr h => ?_⟩
  rw [he]
  refine comp_core hlc hcl hc hN I st hr hi ok hb na hs h fun D C s' m H' S' I' e' hr' q hn f => ⟨m, hn, fun h'' sb => ?_⟩
  obtain ⟨f0, f1, f2, f3, f4, f5⟩ := f
  exact ⟨.ref D, H', I'.turned (t' := s'.toks) (fun b _ hb e => (sb.2 b hb).trans e) f0 f1 f3 f4 f5, rfl, .of e' hr' (.ref D) q⟩
def emLst (te : DTE) (D : Addr) : DEmT := fun τ S k => te τ S fun y S1 => onL S1 D fun acc => acc.length < sizeLine ∧ k (put S1 D (.lst (acc ++ [y])))
theorem em_lst {Y : Cx} {elt : Expr} {gs : List Comprehension} {scope : Scope} {pos : Pos} {te : DTE} (hxe : Y.xe = fun _ _ => False) (he : DE Y elt te) (D : Addr) : DEm Y (emitOf (.ListComp elt gs scope pos) (.ref D) Y.env) (emLst te D) := by
  refine ⟨fun pins s σ H τ S k I st hr q => ?_⟩
  have z := he.run pins s σ H τ S _ I st hr q
  rw [hxe] at z
  show wpAny _ _ (do let v ← eval elt Y.env; let _ ← call (.builtin "list.append") [.ref D, v]) _ _ s
  refine wpAny_bind (thnN z fun u s1 ⟨v, H1, I1, r1, e1, d, S1, hr1, rd, q1⟩ => ?_)
  obtain ⟨acc, e, z, q1⟩ := onL.out q1
  obtain ⟨vs, h1, rv⟩ := hr1 _ _ e
  refine wpAny_bind (app_ok I1 h1 (by rw [rv.length]; exact z) r1 fun s2 I2 => wpAny_pure ⟨_, put S1 D (.lst (acc ++ [d])), I2, e1.trans (.upd h1 rfl), ?_, q1⟩)
  have e2 : Ev H1 (upd H1 D (.lst (vs ++ [v]))) := .upd h1 rfl
  exact hr1.chg h1 rfl ⟨_, upd_same, (rv.append (.cons rd .nil)).ev e2⟩
theorem na_lst : NewAcc X (newList []) { cls := .type "list", data := .seq ([] : List Value).toArray } (fun _ => .lst []) (.lst []) where
  lay := fun s E Q q => wpAny_newObj_type q (by show 0 ≤ sizeLine; decide)
  ok := fun h H _ => ⟨Nat.zero_le _, [], 0, .nil, Heap.get?_push_size _ rfl⟩
  rel := fun H D => ⟨[], upd_same, .nil⟩
  st := fun _ => rfl
def dLC (wi : DTI) (g : DTG) (tt : DTT) (vs all : List Nat) (rs : List ClT) (te : DTE) : DTE := dComp wi g tt vs all rs (emLst te) (.lst [])
theorem de_lc {elt tg iter : Expr} {ifs : List Expr} {gs : List Comprehension} {scope : Scope} {own : List (Str × Nat)} {pos : Pos} {wi : DTI} {g : DTG} {tt : DTT} {te : DTE} {vs : List Nat} {rs : List ClT}
    (hc : X.calm = true) (hN : X.N.Nodup) (hi : DI X tg iter wi) (ok : BlkOk X.N X.env.scope scope own)
    (hb : BlkAll X scope fun Y => DG Y tg g ∧ DTs Y ifs tt ∧ DCl Y gs rs ∧ DE Y elt te) (hs : ∀ x, foldedSetIterable iter X.env x = pure x := by intro _; rfl) :
    DE X (.ListComp elt (⟨tg, iter, ifs, 0⟩ :: gs) scope pos) (dLC wi g tt vs (own.map (·.2)) rs te) :=
  comp_val (pos' := firstIterPos (⟨tg, iter, ifs, 0⟩ :: gs) pos) rfl rfl rfl hc hN hi ok (fun s H C cl fp => let ⟨a, b, c, d⟩ := hb s H C cl fp; ⟨a, b, c, fun D => em_lst rfl d D⟩) na_lst hs
theorem comp_asg {i : Nat} {y : Str} {py spos : Pos} {e tg iter : Expr} {ifs : List Expr} {gs : List Comprehension} {scope : Scope} {own : List (Str × Nat)} {pos' : Pos} {wi : DTI} {g : DTG} {tt : DTT} {vs : List Nat} {rs : List ClT} {em : Addr → DEmT} {newAcc : Sem Value} {ob : Obj} {o : Addr → HO} {ao : AO}
    (hy : X.N[i]? = some y) (hyl : X.env.scope.names.lookup y = some .local)
    (he : exec (.Assign [.Name y py] e spos) X.env = (do
      standAt spos
      evalThenUse e X.env (assign (.Name y py) X.env)
      pure .next))
    (hev : evalThenUse e X.env (assign (.Name y py) X.env) = (do let _ ← comprehension e scope X.env pos' newAcc false (eval iter X.env) (some (assign (.Name y py) X.env))))
    (hlc : isLC e = true) (hcl : clausesOf e = ⟨tg, iter, ifs, 0⟩ :: gs) (hc : X.calm = true) (hN : X.N.Nodup) (hi : DI X tg iter wi) (ok : BlkOk X.N X.env.scope scope own)
    (hb : BlkAll X scope fun Y => CompB Y e tg ifs gs g tt rs em) (na : NewAcc X newAcc ob o ao) (hs : ∀ x, foldedSetIterable iter X.env x = pure x) : DSm X (.Assign [.Name y py] e spos) (dAsg (dComp wi g tt vs (own.map (·.2)) rs em ao) (gdName i)) := by
  refine ⟨fun pins s σ H τ S Dn I st hr h => ?_⟩
  rw [he]
  refine wpAny_bind (wpAny_standAt (wpAny_bind ?_))
  rw [hev]
  have h : dComp wi g tt vs (own.map (·.2)) rs em ao τ S (fun x S1 => gdName i x τ S1 Dn.nx) := h
  refine wpAny_bind (thn (comp_core (Qf := fun _ s' => SP X pins (UpE X.KW H Dn) .next s') hlc hcl hc hN I st hr hi ok hb na hs h fun L C s' m H' S' I' e' hr' q hn f => ?_) fun _ s' hq => wpAny_pure (wpAny_pure hq))
  show wpAny _ _ (assign (.Name y py) X.env (.ref L)) _ _ _
  refine wpAny_assign_Name (store_ok2 (v := V.ref L) I' hN hy (.inl hyl) rfl (fun s2 I2 ⟨a, sb, ha⟩ => ?_) (.inr hyl))
  obtain ⟨f0, f1, f2, f3, f4, f5⟩ := f
  have haC : C ≠ a := by
    rcases ha with z | z
    · rw [z]; exact f1
    · exact fun e => f4 y a z e.symm
  refine ⟨m, hn.sameBut sb haC, fun h3 sb3 => ?_⟩
  exact ⟨_, H', I2.turned (t' := s2.toks) (fun b _ hb e => (sb3.2 b hb).trans e) f0 f1 f3 f4 f5, e', _, S', hr', (st.ev e').set (.ref L) i, q⟩
theorem ds_lc {i : Nat} {y : Str} {py spos : Pos} {elt tg iter : Expr} {ifs : List Expr} {gs : List Comprehension} {scope : Scope} {own : List (Str × Nat)} {pos : Pos} {wi : DTI} {g : DTG} {tt : DTT} {te : DTE} {vs : List Nat} {rs : List ClT}
    (hc : X.calm = true) (hN : X.N.Nodup) (hy : X.N[i]? = some y) (hyl : X.env.scope.names.lookup y = some .local) (hsw : swapsWith (.ListComp elt (⟨tg, iter, ifs, 0⟩ :: gs) scope pos) (some (.Name y py)) spos.line X.env = pure true)
    (hi : DI X tg iter wi) (ok : BlkOk X.N X.env.scope scope own)
    (hb : BlkAll X scope fun Y => DG Y tg g ∧ DTs Y ifs tt ∧ DCl Y gs rs ∧ DE Y elt te) (hs : ∀ x, foldedSetIterable iter X.env x = pure x := by intro _; rfl) :
    DSm X (.Assign [.Name y py] (.ListComp elt (⟨tg, iter, ifs, 0⟩ :: gs) scope pos) spos) (dAsg (dLC wi g tt vs (own.map (·.2)) rs te) (gdName i)) :=
  comp_asg (pos' := firstIterPos (⟨tg, iter, ifs, 0⟩ :: gs) pos) hy hyl (exec_Assign_Name_used _ _ _ _ hsw) rfl rfl rfl hc hN hi ok (fun s H C cl fp => let ⟨a, b, c, d⟩ := hb s H C cl fp; ⟨a, b, c, fun D => em_lst rfl d D⟩) na_lst hs
end
end DL
namespace DL
open PySem PySem.Spec PyProof.Rows L2
section
variable {X : Cx} {tg : Expr} {pins : List (Addr × Obj)} {σ : L2.St} {H : Hp} {s : Shared} {E : Value → Shared → Prop} {K : KW}
def ItP (X : Cx) (pins : List (Addr × Obj)) (σ : L2.St) (tg : Expr) (H : Hp) (ds : List D) (stab : Sto → Prop) (itv : Value) (s2 : Shared) : Prop :=
  ∃ (it : Addr) (fp : List Addr) (tn : Nat → Heap → Prop), itv = .ref it ∧ Inv X pins σ H s2 ∧ Turn X.prog X.w X.K tg (ItD X.KW H ds stab) fp it tn ∧ tn 0 s2.heap ∧ ∀ b ∈ fp, FpOk X pins H b
theorem itP_one {tk : Nat} {ds : List D} {stab : Sto → Prop} {tn : Nat → Heap → Prop} (I : Inv X pins σ H s) (o : Obj) (T : Turn X.prog X.w X.K tg (ItD X.KW H ds stab) [s.heap.objs.size] s.heap.objs.size tn) (st : tn 0 (s.heap.push o)) :
    ItP X pins σ tg H ds stab (.ref s.heap.objs.size) { s with heap := s.heap.push o, toks := tk } := by
  refine ⟨s.heap.objs.size, [s.heap.objs.size], tn, rfl, I.kept fun b ob e => Heap.get?_push_of_some _ e, T, st, fun b hb => ?_⟩
  have e : b = s.heap.objs.size := by simpa using hb
  subst e
  exact I.fpOk (Nat.le_refl _) (I.hok.fresh (Nat.le_refl _))
theorem turnD_list {P : Program} {w : World} {a it : Addr} {ds : List D} {stab : Sto → Prop} (hs : ∀ H' S, Ev H H' → HR K H' S → stab S → ∃ vs, SqL K.fr H' a vs ∧ RelDs K H' vs ds) : Turn P w K.fr tg (ItD K H ds stab) [it] it (fun i h => h.IsListIter it a i) := by
  refine Turn.imp (turn_list a it) (fun i H' ⟨e, ⟨S, hr, z⟩, hi⟩ => ?_) (fun i H' x H2 ⟨e, ⟨S, hr, z⟩, hi⟩ ⟨e2, y⟩ => ?_) fun i H' ⟨e, ⟨S, hr, z⟩, hi⟩ => ?_
  · obtain ⟨vs, q, r⟩ := hs H' S e hr z
    obtain ⟨v, h1, _⟩ := r.get (List.getElem?_eq_getElem hi)
    exact ⟨vs, v, q, h1⟩
  · subst e2
    obtain ⟨vs, q, r⟩ := hs _ S e hr z
    obtain ⟨v, h1, h2⟩ := r.get (List.getElem?_eq_getElem hi)
    have := y vs q
    rw [this] at h1; cases h1
    exact ⟨.refl _, fun _ h => h, _, List.getElem?_eq_getElem hi, h2⟩
  · obtain ⟨vs, q, r⟩ := hs H' S e hr z
    exact ⟨vs, q, by rw [r.length]; omega⟩
theorem turnD_tup {P : Program} {w : World} {a it : Addr} {ds : List D} {stab : Sto → Prop} (hs : ∀ H', Ev H H' → ∃ vs, SqT K.fr H' a vs ∧ RelDs K H' vs ds) : Turn P w K.fr tg (ItD K H ds stab) [it] it (fun i h => h.IsTupleIter it a i) := by
  refine Turn.imp (turn_tuple a it) (fun i H' ⟨e, _, hi⟩ => ?_) (fun i H' x H2 ⟨e, _, hi⟩ ⟨e2, y⟩ => ?_) fun i H' ⟨e, _, hi⟩ => ?_
  · obtain ⟨vs, q, r⟩ := hs H' e
    obtain ⟨v, h1, _⟩ := r.get (List.getElem?_eq_getElem hi)
    exact ⟨vs, v, q, h1⟩
  · subst e2
    obtain ⟨vs, q, r⟩ := hs _ e
    obtain ⟨v, h1, h2⟩ := r.get (List.getElem?_eq_getElem hi)
    have := y vs q
    rw [this] at h1; cases h1
    exact ⟨.refl _, fun _ h => h, _, List.getElem?_eq_getElem hi, h2⟩
  · obtain ⟨vs, q, r⟩ := hs H' e
    exact ⟨vs, q, by rw [r.length]; omega⟩
theorem turnD_str {P : Program} {w : World} {it : Addr} {x : Str} {t : Tok} {ty : String} {stab : Sto → Prop} (hx : PyData.strOk x = true) (hty : ty = "str_ascii_iterator" ∨ ty = "str_iterator") :
    Turn P w K.fr tg (ItD K H (x.cps.toList.map fun c => D.str ⟨#[c]⟩) stab) [it] it (fun i h => h.IsStrIter it ty x t i) := by
  refine Turn.imp (turn_str it x t ty hty) (fun i H' ⟨e, _, hi⟩ => by show i < x.cps.size; simpa using hi) (fun i H' y H2 ⟨e, _, hi⟩ ⟨e2, c, hc, ey⟩ => ?_) fun i H' ⟨e, _, hi⟩ => by show x.cps.size ≤ i; simp at hi; exact Nat.le_of_eq hi.symm
  subst e2 ey
  refine ⟨.refl _, fun _ h => h, .str ⟨#[c]⟩, by simp [hc], .str _ ?_⟩
  have hm : c ∈ x.cps := Array.mem_of_getElem? hc
  unfold PyData.strOk at hx ⊢
  have := Array.all_eq_true_iff_forall_mem.mp hx c hm
  simpa using this
abbrev WIt := D → Sto → (List D → (Sto → Prop) → Sto → Prop) → Prop
def wIter : WIt := fun d S R => match d with
  | .tup ds => R ds (fun _ => True) S
  | .fz ds => R ds (fun _ => True) S
  | .str x => R (x.cps.toList.map fun c => D.str ⟨#[c]⟩) (fun _ => True) S
  | .ref a => onL S a fun ds => R ds (fun S' => S' a = some (.lst ds)) S
  | _ => False
theorem iter_seq {v : V} {u : Value} {d : D} {S : Sto} {R : List D → (Sto → Prop) → Sto → Prop} (I : Inv X pins σ H s) (rv : RelV v u) (rd : RelD X.KW H v d) (hr : HR X.KW H S) (w : wIter d S R) :
    wpAny (model X.prog X.w) X.A (pyIter u) (fun itv s2 => ∃ ds stab, ItP X pins σ tg H ds stab itv s2 ∧ R ds stab S) E s := by
  cases rd with
  | tup t r =>
    cases rv
    obtain ⟨its, rv, p, hz⟩ := I.tuple t.sq
    exact wpAny_pyIter_tuple (show s.heap.IsTuple _ its.toArray from p) ⟨_, _, itP_one (tk := s.toks) I _ (turnD_tup (K := X.KW) fun H' e => ⟨_, (t.ev e).sq, r.ev e⟩) ⟨_, Heap.get?_push_size _ rfl, rfl, rfl⟩, w⟩
  | fz t r =>
    cases rv
    obtain ⟨its, rv, p, hz⟩ := I.list t.sq
    exact wpAny_pyIter_list p.isList ⟨_, _, itP_one (tk := s.toks) I _ (turnD_list (K := X.KW) fun H' S' e _ _ => ⟨_, (t.ev e).sq, r.ev e⟩) ⟨_, Heap.get?_push_size _ rfl, rfl, rfl⟩, w⟩
  | ref a =>
    cases rv
    obtain ⟨ds, e, w⟩ := onL.out w
    obtain ⟨vs, h1, r⟩ := hr a _ e
    obtain ⟨its, rv, p, hz⟩ := I.list (SqL.of h1)
    exact wpAny_pyIter_list p.isList ⟨_, _, itP_one (tk := s.toks) I _ (turnD_list (K := X.KW) fun H' S' _ hr' (z : S' a = some (.lst ds)) => let ⟨vs', h', r'⟩ := hr' a _ z; ⟨vs', SqL.of h', r'⟩) ⟨_, Heap.get?_push_size _ rfl, rfl, rfl⟩, w⟩
  | str x hx =>
    obtain ⟨t, rfl⟩ := rv
    cases ha : x.cps.all (· < 128)
    · exact wpAny_pyIter_wide ha ⟨_, _, itP_one (tk := s.toks) I _ (turnD_str (K := X.KW) (t := t) hx (.inr rfl)) ⟨_, Heap.get?_push_size _ rfl, rfl, rfl⟩, w⟩
    · exact wpAny_pyIter_ascii ha ⟨_, _, itP_one (tk := s.toks) I _ (turnD_str (K := X.KW) (t := t) hx (.inl rfl)) ⟨_, Heap.get?_push_size _ rfl, rfl, rfl⟩, w⟩
  | _ => exact w.elim
def diVal (te : DTE) (w : WIt) : DTI := fun τ S R => te τ S fun d S1 => w d S1 R
theorem pie_of {H0 : Hp} {R : It → Hp → Prop} {ds : List D} {stab : Sto → Prop} {S1 : Sto} {Rd : List D → (Sto → Prop) → Sto → Prop} {itv : Value} {s2 : Shared} (e : Ev H0 H) (hr : HR X.KW H S1) (h : ItP X pins σ tg H ds stab itv s2) (rd : Rd ds stab S1)
    (k : ∀ ds stab S1 H1, Ev H0 H1 → HR X.KW H1 S1 → Rd ds stab S1 → R (ItD X.KW H1 ds stab) H1) : PIE X pins σ tg R itv s2 := by
  obtain ⟨it, fp, tn, e1, I, T, t0, f⟩ := h
  exact ⟨it, fp, tn, _, H, e1, I, T, t0, f, k _ _ _ _ e hr rd⟩
def rngD (lo : Int) : Nat → List D
  | 0 => []
  | n + 1 => .int lo :: rngD (lo + 1) n
theorem rngD_len (lo : Int) (n : Nat) : (rngD lo n).length = n := by induction n generalizing lo with
  | zero => rfl
  | succ n ih => simp [rngD, ih]
theorem rngD_get : ∀ (n : Nat) (lo : Int) (i : Nat), i < n → (rngD lo n)[i]? = some (.int (lo + i))
  | n + 1, lo, 0, _ => by simp [rngD]
  | n + 1, lo, i + 1, h => by
    have := rngD_get n (lo + 1) i (by omega)
    simp only [rngD, List.getElem?_cons_succ, this, Option.some.injEq, D.int.injEq]
    omega
def diRng1 (ta : DTA) : DTI := fun τ S R => ta τ S fun ds S1 => match ds with
  | [.int j] => j < 2 ^ 62 ∧ -(2 ^ 62) ≤ j ∧ R (rngD 0 j.toNat) (fun _ => True) S1
  | _ => False
theorem itr_ok {lo : Int} {n : Nat} {H1 : Hp} (H0 : Hp) : (∀ i H, (ItD K H1 (rngD lo n) (fun _ => True)).go i H → (Itr lo n).go i H) ∧ (∀ i H x H', (ItD K H1 (rngD lo n) (fun _ => True)).go i H → (Itr lo n).yld i H x H' → (ItD K H1 (rngD lo n) (fun _ => True)).yld i H x H') ∧
    ∀ i H, (ItD K H1 (rngD lo n) (fun _ => True)).stop i H → (Itr lo n).stop i H := by
  refine ⟨fun i H ⟨_, _, h⟩ => by rw [rngD_len] at h; exact h, fun i H x H' ⟨_, _, h⟩ ⟨e, y⟩ => ?_, fun i H ⟨_, _, h⟩ => by rw [rngD_len] at h; exact Nat.le_of_eq h.symm⟩
  subst e y
  rw [rngD_len] at h
  exact ⟨.refl _, fun _ h => h, _, rngD_get n lo i h, .int _⟩
theorem di_range1 {a : Expr} {ta : DTA} {p pos : Pos} (hg : Gl X "range") (hm : X.mg "range" = none) (ha : DAr X [a] ta) (hs : starEach [a] X.env = [(false, eval a X.env)] := by rfl) : DI X tg (.Call (.Name "range" p) [a] [] pos) (diRng1 ta) :=
  .up (pi_range1 hg hm ha.lo hs) fun σ H τ S Rd st hr q => ⟨τ, S, _, st, hr, q, fun vs H1 ⟨e1, ds, S1, hr1, rd, q1⟩ => by
    simp only at q1
    split at q1
    · obtain ⟨v, rfl, r⟩ := rd.one
      cases r
      exact ⟨_, rfl, q1.2.1, q1.1, _, _, S1, e1, hr1, q1.2.2, itr_ok H⟩
    · exact q1.elim⟩
end
end DL
namespace DL
open PySem PySem.Spec PyProof.Rows L2
set_option maxHeartbeats 1000000 in
theorem enum_new1 {v : Value} {o : Obj} {Hh : Heap → Prop} (B : Begins v o Hh) :
    Meets (Builtin.«enumerate.__new__» ⟨[.type "enumerate", v], []⟩) (fun _ R s => Hh s.heap ∧
      R (.ok (.ret (.ref (s.heap.push o).objs.size))) { s with heap := (s.heap.push o).push { cls := .type "enumerate", data := .fields #[.none, .bool false, .ref s.heap.objs.size, rawInt 0, .none, .none] } }) :=
  .of_wp fun prog w A R s h => by
    obtain ⟨hp, g, d, tk, os⟩ := s; obtain ⟨h1, h⟩ := h
    have hsub := sub_enumerate
    have q1 : ∀ {A' : Around} {E : Value → Shared → Prop} {Q : Value → Shared → Prop}, Q (.ref hp.objs.size) ⟨hp.push o, g, d, tk, os⟩ → wpAny (model prog w) A' (pyIter v) Q E ⟨hp, g, d, tk, os⟩ :=
      fun q => B.iter prog w _ _ ⟨hp, g, d, tk, os⟩ _ h1 q
    wp_walk using q1
    refine wpAny_stack_any fun st => wpAny_pure ?_
    split
    · rename_i c _ _ _ _ _
      cases (c == Value.type "enumerate")
      · wp_walk using q1
        exact ⟨_, rfl, h⟩
      · wp_walk using q1
        exact ⟨_, rfl, h⟩
    · wp_walk using q1
      exact ⟨_, rfl, h⟩
theorem enum_call1 {prog : Program} {w : World} {A : Around} {E : Value → Shared → Prop} {s : Shared} {v : Value} {o : Obj} {Hh : Heap → Prop} {Q : Value → Shared → Prop} (B : Begins v o Hh) (h1 : Hh s.heap)
    (h : ∀ h', IsEnum h' (s.heap.objs.size + 1) s.heap.objs.size 0 .none → h'.get? s.heap.objs.size = some o → h'.objs.size = s.heap.objs.size + 2 →
      (∀ b o, s.heap.get? b = some o → h'.get? b = some o) → Q (.ref (s.heap.objs.size + 1)) { s with heap := h' }) :
    wpAny (model prog w) A (call (.type "enumerate") [v]) Q E s := by
  refine callType_new F.called_enumerate (by decide) (F.typeCall_enumerate_1 _) (F.newCall_enumerate_1 _) (fun obj => F.args_object_init_2 obj _) F.entry_enumerate_new (enum_new1 B) ⟨h1, ?_⟩
  have hz : (s.heap.push o).objs.size = s.heap.objs.size + 1 := Heap.size_push ..
  show _ ∧ _
  rw [hz]
  have he : IsEnum ((s.heap.push o).push { cls := .type "enumerate", data := .fields #[.none, .bool false, .ref s.heap.objs.size, rawInt 0, .none, .none] }) (s.heap.objs.size + 1) s.heap.objs.size 0 .none := by
    have := Heap.get?_push_size (s.heap.push o) (o := { cls := .type "enumerate", data := .fields #[.none, .bool false, .ref s.heap.objs.size, rawInt 0, .none, .none] }) rfl
    rw [hz] at this; exact this
  exact ⟨⟨_, he, rfl⟩, h _ he (Heap.get?_push_of_some _ (Heap.get?_push_size _ B.free)) (by rw [Heap.size_push, hz]) fun b o x => Heap.get?_push_of_some _ (Heap.get?_push_of_some _ x)⟩
def enumD : Nat → List D → List D
  | _, [] => []
  | i, d :: ds => .wt [.int (i : Int), d] :: enumD (i + 1) ds
theorem enumD_len (ds : List D) : ∀ i : Nat, (enumD i ds).length = ds.length := by induction ds with
  | nil => intro i; rfl
  | cons d ds ih => intro i; simp [enumD, ih]
theorem enumD_get : ∀ (ds : List D) (i j : Nat) (d : D), ds[j]? = some d → (enumD i ds)[j]? = some (.wt [.int ((i + j : Nat) : Int), d])
  | d :: ds, i, 0, _, h => by simp at h; subst h; simp [enumD]
  | d :: ds, i, j + 1, x, h => by
    have := enumD_get ds (i + 1) j x (by simpa using h)
    simp only [enumD, List.getElem?_cons_succ, this]
    have : i + 1 + j = i + (j + 1) := by omega
    rw [this]
section
variable {X : Cx} {tg : Expr} {pins : List (Addr × Obj)} {σ : L2.St} {H : Hp} {s : Shared} {E : Value → Shared → Prop} {K : KW}
theorem enum_yld {S : Sto} {T : Addr} {i : Nat} {x : V} {d : D} {ds : List D} (hn : H T = none) (hd : ds[i]? = some d) (r : RelD K H x d) :
    Ev H (upd H T (.tup [.int (i : Nat), x])) ∧ (∀ S, HR K H S → HR K (upd H T (.tup [.int (i : Nat), x])) S) ∧ ∃ e, (enumD 0 ds)[i]? = some e ∧ RelD K (upd H T (.tup [.int (i : Nat), x])) (.ref T) e := by
  refine ⟨.new hn, fun S h => h.new hn, _, enumD_get ds 0 i d hd, .wt upd_same (.cons ?_ (.cons (r.ev (.new hn)) .nil))⟩
  rw [Nat.zero_add]
  exact .int _
theorem turnD_enumL {P : Program} {w : World} {elts : List Expr} {kk : Nat} {tpos : Pos} {a e it : Addr} {ds : List D} {stab : Sto → Prop} (hs : ∀ H' S, Ev H H' → HR K H' S → stab S → ∃ vs, SqL K.fr H' a vs ∧ RelDs K H' vs ds) :
    Turn P w K.fr (.Tuple elts kk tpos) (ItD K H (enumD 0 ds) stab) [e, it] e (fun i h => (∃ old, IsEnum h e it ((i : Nat) : Int) old) ∧ h.IsListIter it a i ∧ e ≠ it) := by
  refine Turn.imp (turn_enum a e it) (fun i H' ⟨ev, ⟨S, hr, z⟩, hi⟩ => ?_) (fun i H' x H2 ⟨ev, ⟨S, hr, z⟩, hi⟩ y => ?_) fun i H' ⟨ev, ⟨S, hr, z⟩, hi⟩ => ?_
  · obtain ⟨vs, q, r⟩ := hs H' S ev hr z
    rw [enumD_len] at hi
    obtain ⟨v, h1, _⟩ := r.get (List.getElem?_eq_getElem hi)
    exact ⟨vs, v, q, h1⟩
  · obtain ⟨T, v, e1, e2, e3, y⟩ := y
    subst e1 e3
    obtain ⟨vs, q, r⟩ := hs _ S ev hr z
    rw [enumD_len] at hi
    obtain ⟨v', h1, h2⟩ := r.get (List.getElem?_eq_getElem hi)
    rw [y vs q] at h1; cases h1
    exact enum_yld (S := S) e2 (List.getElem?_eq_getElem hi) h2
  · obtain ⟨vs, q, r⟩ := hs H' S ev hr z
    rw [enumD_len] at hi
    exact ⟨vs, q, by rw [r.length]; omega⟩
theorem turnD_enumT {P : Program} {w : World} {elts : List Expr} {kk : Nat} {tpos : Pos} {a e it : Addr} {ds : List D} {stab : Sto → Prop} (hs : ∀ H', Ev H H' → ∃ vs, SqT K.fr H' a vs ∧ RelDs K H' vs ds) :
    Turn P w K.fr (.Tuple elts kk tpos) (ItD K H (enumD 0 ds) stab) [e, it] e (fun i h => (∃ old, IsEnum h e it ((i : Nat) : Int) old) ∧ h.IsTupleIter it a i ∧ e ≠ it) where
  mem := by simp
  obj := fun i h st b hb => by
    obtain ⟨⟨old, he⟩, ⟨o, ho, hc, hd⟩, _⟩ := st
    rcases (by simpa using hb : b = e ∨ b = it) with rfl | rfl
    · exact ⟨_, he, fun v q => nomatch q⟩
    · exact ⟨o, ho, fun v q => by rw [hd] at q; cases q⟩
  keep := fun i h h' st k => let ⟨⟨old, he⟩, hi, hne⟩ := st; ⟨⟨old, k e (by simp) _ he⟩, hi.at fun o q => k it (by simp) o q, hne⟩
  item := by
    intro X hP hw hK hc i pins s σ H' E I hf st hg
    obtain ⟨Kf, KP, Kw⟩ := K
    change X.K = Kf at hK
    subst hP hw hK
    obtain ⟨⟨old, he⟩, hit, hne⟩ := st
    obtain ⟨ev, _, hi⟩ := hg
    rw [enumD_len] at hi
    obtain ⟨vs, hq, rr⟩ := hs H' ev
    obtain ⟨x, hx, rx⟩ := rr.get (List.getElem?_eq_getElem hi)
    obtain ⟨its, rv, p, hz⟩ := I.tuple hq
    obtain ⟨u, hu, ru⟩ := rv.get hx
    have hel : e < s.heap.objs.size := Heap.lt_size he
    have hil : it < s.heap.objs.size := by obtain ⟨_, q, _⟩ := hit; exact Heap.lt_size q
    have hta : s.heap.IsTuple a its.toArray := p
    have hae : a ≠ e := fun z => by
      subst z
      obtain ⟨o, h1, h2, _⟩ := hta
      have h1' := he
      rw [IsEnum] at h1'
      rw [h1] at h1'; cases h1'; exact absurd (Value.type.inj h2) (by decide)
    have hai : a ≠ it := fun z => by
      subst z
      obtain ⟨o, h1, h2, _⟩ := hta
      obtain ⟨o', h3, h4, _⟩ := hit
      rw [h1] at h3; cases h3; rw [h2] at h4; exact absurd (Value.type.inj h4) (by decide)
    have D := Draws.tuple (prog := X.prog) (w := X.w) (A := X.A.in1) (I.ok.hd hc) it a hai its.toArray
    have G := GoesN.enumFrom (elts := elts) (x1 := kk) (pos := tpos) 0 D e hne (by simp [hne, Ne.symm hae]) (by simp)
    have hsz : i < its.toArray.size := by
      have := rv.length
      have := rr.length
      simp; omega
    refine thn (G.goes i s _ E hsz ⟨⟨old, by simpa using he⟩, hit, hta⟩ fun v h' tk Y St' k _ => ?_) fun r s1 h => h
    obtain ⟨T, t, y, ev', hT0, hy, hT⟩ := Y
    subst ev'
    have hyu : y = u := by
      rw [show its.toArray[i]? = some u by simpa using hu] at hy
      cases hy; rfl
    subst hyu
    obtain ⟨⟨old', he'⟩, hit', _⟩ := St'
    have hT0' : H' T = none := I.hok.fresh hT0
    have new : ObjOk X.prog X.w (upd H' T (.tup [.int (i : Nat), x])) h' T (.tup [.int (i : Nat), x]) :=
      ⟨by show 2 ≤ sizeLine; decide, [.int (0 + (i : Int)) t, y], .cons ⟨t, by rw [Int.zero_add]⟩ (.cons ru .nil), hT⟩
    have I1 : Inv X pins σ (upd H' T (.tup [.int (i : Nat), x])) { s with heap := h', toks := tk } :=
      I.turnedNew (ch := [e, it]) (fun b ob hb q => k b ob hb q) hf hT0 new
    refine ⟨.ref T, _, I1, rfl, enum_yld (S := fun _ => none) hT0' (List.getElem?_eq_getElem hi) rx, ⟨⟨old', ?_⟩, hit', hne⟩, fun b hb => ?_⟩
    · have e1 : ((i + 1 : Nat) : Int) = 0 + ((i + 1 : Nat) : Int) := by omega
      rw [e1]; exact he'
    · have hb' : b < s.heap.objs.size := by
        rcases (by simpa using hb : b = e ∨ b = it) with rfl | rfl
        · exact hel
        · exact hil
      rw [upd_ne (Nat.ne_of_lt (Nat.lt_of_lt_of_le hb' hT0))]
      exact (hf b hb).1
  done := by
    intro X hP hw hK hc i pins s σ H' E I hf st hg
    obtain ⟨Kf, KP, Kw⟩ := K
    change X.K = Kf at hK
    subst hP hw hK
    obtain ⟨⟨old, he⟩, hit, hne⟩ := st
    obtain ⟨ev, _, hi⟩ := hg
    rw [enumD_len] at hi
    obtain ⟨vs, hq, rr⟩ := hs H' ev
    obtain ⟨its, rv, p, hz⟩ := I.tuple hq
    have hta : s.heap.IsTuple a its.toArray := p
    have hae : a ≠ e := fun z => by
      subst z
      obtain ⟨o, h1, h2, _⟩ := hta
      have h1' := he
      rw [IsEnum] at h1'
      rw [h1] at h1'; cases h1'; exact absurd (Value.type.inj h2) (by decide)
    have hai : a ≠ it := fun z => by
      subst z
      obtain ⟨o, h1, h2, _⟩ := hta
      obtain ⟨o', h3, h4, _⟩ := hit
      rw [h1] at h3; cases h3; rw [h2] at h4; exact absurd (Value.type.inj h4) (by decide)
    have D := Draws.tuple (prog := X.prog) (w := X.w) (A := X.A.in1) (I.ok.hd hc) it a hai its.toArray
    have G := GoesN.enumFrom (elts := elts) (x1 := kk) (pos := tpos) 0 D e hne (by simp [hne, Ne.symm hae]) (by simp)
    have hsz : its.toArray.size = i := by
      have := rv.length
      have := rr.length
      simp; omega
    rw [hsz] at G
    exact G.stops s _ E ⟨⟨old, by simpa using he⟩, hit, hta⟩ fun h' tk k _ => I.turnedL (ch := [e, it]) (fun b ob hb q => k b ob hb q) hf
  self := fun A i s Q E st h => let ⟨⟨_, he⟩, _⟩ := st; wpAny_pyIter_enum he h
def wEnum : WIt := fun d S R => match d with
  | .tup ds => R (enumD 0 ds) (fun _ => True) S
  | .fz ds => R (enumD 0 ds) (fun _ => True) S
  | .ref a => onL S a fun ds => R (enumD 0 ds) (fun S' => S' a = some (.lst ds)) S
  | _ => False
def diEnum (ta : DTA) : DTI := fun τ S R => ta τ S fun ds S1 => match ds with
  | [d] => wEnum d S1 R
  | _ => False
theorem itP_enum {ds : List D} {stab : Sto → Prop} {tn : Nat → Heap → Prop} {h' : Heap} (I : Inv X pins σ H s) (k : ∀ b o, s.heap.get? b = some o → h'.get? b = some o)
    (T : Turn X.prog X.w X.K tg (ItD X.KW H ds stab) [s.heap.objs.size + 1, s.heap.objs.size] (s.heap.objs.size + 1) tn) (st : tn 0 h') : ItP X pins σ tg H ds stab (.ref (s.heap.objs.size + 1)) { s with heap := h' } := by
  refine ⟨_, _, tn, rfl, I.kept (t' := s.toks) k, T, st, fun b hb => ?_⟩
  have hle : s.heap.objs.size ≤ b := by
    rcases (by simpa using hb : b = s.heap.objs.size + 1 ∨ b = s.heap.objs.size) with z | z
    · rw [z]; exact Nat.le_add_right _ _
    · rw [z]; exact Nat.le_refl _
  exact I.fpOk hle (I.hok.fresh hle)
theorem di_enum {e : Expr} {ta : DTA} {p pos tpos : Pos} {elts : List Expr} {kk : Nat} (hg : Gl X "enumerate") (hm : X.mg "enumerate" = none) (ha : DAr X [e] ta) (hs : starEach [e] X.env = [(false, eval e X.env)] := by rfl) :
    DI X (.Tuple elts kk tpos) (.Call (.Name "enumerate" p) [e] [] pos) (diEnum ta) := ⟨⟨fun pins s σ H R I ⟨τ, S, Rd, st, hr, q, k⟩ => by
  refine Call_ (ld_blt I hg hm boot_enumerate (PyProof.Rows.callWith_type1 (thn (ha.run pos pins s σ H τ S _ I st hr q) fun us s1 ⟨vs, H1, I1, rv, e1, ds, S1, hr1, rd, q1⟩ => ?_) hs rfl))
  simp only at q1
  split at q1
  · rename_i d
    obtain ⟨v, rfl, r⟩ := rd.one
    cases rv with
    | cons rv t =>
    cases t
    cases r with
    | tup t r =>
      cases rv
      obtain ⟨its, rv, p', hz⟩ := I1.tuple t.sq
      exact enum_call1 (begins_tuple _ its.toArray) p' fun h' he hit hsz hk => wpAny_pyIter_enum he (pie_of e1 hr1 (itP_enum I1 hk (turnD_enumT (K := X.KW) fun H' e => ⟨_, (t.ev e).sq, r.ev e⟩) ⟨⟨.none, he⟩, ⟨_, hit, rfl, rfl⟩, Nat.succ_ne_self _⟩) q1 k)
    | fz t r =>
      cases rv
      obtain ⟨its, rv, p', hz⟩ := I1.list t.sq
      exact call_enumerate_list p'.isList fun h' he hit hsz hk => wpAny_pyIter_enum he (pie_of e1 hr1 (itP_enum I1 hk (turnD_enumL (K := X.KW) fun H' S' e _ _ => ⟨_, (t.ev e).sq, r.ev e⟩) ⟨⟨.none, he⟩, hit, Nat.succ_ne_self _⟩) q1 k)
    | ref a =>
      cases rv
      obtain ⟨ds, e, q1⟩ := onL.out q1
      obtain ⟨vs, h1, r⟩ := hr1 a _ e
      obtain ⟨its, rv, p', hz⟩ := I1.list (SqL.of h1)
      exact call_enumerate_list p'.isList fun h' he hit hsz hk => wpAny_pyIter_enum he (pie_of e1 hr1 (itP_enum I1 hk (turnD_enumL (K := X.KW) fun H' S' _ hr' (z : S' a = some (.lst ds)) => let ⟨vs', h', r'⟩ := hr' a _ z; ⟨vs', SqL.of h', r'⟩) ⟨⟨.none, he⟩, hit, Nat.succ_ne_self _⟩) q1 k)
    | _ => exact q1.elim
  · exact q1.elim⟩⟩
end
end DL
namespace DL
open PySem PySem.Spec PyProof.Rows L2
def leafK : D → Option Key
  | .int i => some (.inl i)
  | .str x => some (.inr x)
  | _ => none
def leafKs : List D → Option (List Key)
  | [] => some []
  | d :: ds => match leafK d, leafKs ds with | some k, some ks => some (k :: ks) | _, _ => none
def leafT : D → Option (List Key)
  | .tup ds => leafKs ds
  | _ => none
theorem leafK_eq {d : D} {k : Key} (h : leafK d = some k) : d = kD k := by
  cases d <;> simp [leafK] at h <;> subst h <;> rfl
theorem leafKs_eq : ∀ {ds : List D} {ks : List Key}, leafKs ds = some ks → ds = ks.map kD
  | [], ks, h => by simp [leafKs] at h; subst h; rfl
  | d :: ds, ks, h => by
    simp only [leafKs] at h
    split at h
    · rename_i k ks' h1 h2
      cases h
      rw [leafK_eq h1, leafKs_eq h2]; rfl
    · cases h
theorem leafT_eq {d : D} {ks : List Key} (h : leafT d = some ks) : d = kTD ks := by
  cases d <;> simp [leafT] at h
  rw [leafKs_eq h]; rfl
theorem leafK_kD (k : Key) : leafK (kD k) = some k := by cases k <;> rfl
theorem leafKs_kD : ∀ ks : List Key, leafKs (ks.map kD) = some ks
  | [] => rfl
  | k :: r => by simp [leafKs, leafK_kD, leafKs_kD r]
theorem leafT_kTD (k : List Key) : leafT (kTD k) = some k := leafKs_kD k
theorem leafK_kTD (k : List Key) : leafK (kTD k) = none := rfl
def dGet (kvs : List (D × D)) (k : D) : Option D := (kvs.find? fun p => decide (p.1 = k)).map (·.2)
def dPut (kvs : List (D × D)) (k v : D) : List (D × D) := if (kvs.any fun p => decide (p.1 = k)) = true then kvs.map (fun p => if p.1 = k then (p.1, v) else p) else kvs ++ [(k, v)]
def keyFit (kvs : List (D × D)) (k : D) : Bool := match kvs with
  | [] => (leafK k).isSome || (leafT k).isSome || decide (k = .non)
  | (k0, _) :: _ => if (leafK k0).isSome then (leafK k).isSome || decide (k = .non) else (leafT k0).isSome && (leafT k).isSome
def keyFitW (kvs : List (D × D)) (k : D) : Bool := keyFit kvs k && decide (k ≠ .non)
def RelOk (K : KW) (H : Hp) : Option V → Option D → Prop
  | some v, some d => RelD K H v d
  | none, none => True
  | _, _ => False
section
variable {K : KW} {H H' : Hp}
theorem RelKV.val {κ : Type} [DecidableEq κ] {f : κ → D} (inj : ∀ a b, f a = f b → a = b) (k : κ) : ∀ {es : List (κ × V)} {kvs : List (D × D)}, RelKV f K H es kvs → RelOk K H (valV es k) (dGet kvs (f k))
  | _, _, .nil => trivial
  | _, _, .cons (k := k0) (v := v) (d := d) (r := r) (t := t) hk rd rt => by
    by_cases e : k0 = k
    · subst e
      rw [valV_pos rfl]
      have : dGet ((f k0, d) :: t) (f k0) = some d := by simp [dGet]
      rw [this]; exact rd
    · have ne : f k0 ≠ f k := fun z => e (inj _ _ z)
      rw [valV_neg (p := (k0, v)) e]
      have : dGet ((f k0, d) :: t) (f k) = dGet t (f k) := by simp [dGet, ne]
      rw [this]; exact RelKV.val inj k rt
theorem RelKV.anyK {κ : Type} [DecidableEq κ] {f : κ → D} (inj : ∀ a b, f a = f b → a = b) (k : κ) : ∀ {es : List (κ × V)} {kvs : List (D × D)}, RelKV f K H es kvs → (es.any fun p => decide (p.1 = k)) = kvs.any fun p => decide (p.1 = f k)
  | _, _, .nil => rfl
  | _, _, .cons (k := k0) (t := t) hk rd rt => by
    simp only [List.any_cons]
    rw [RelKV.anyK inj k rt]
    by_cases e : k0 = k
    · subst e; simp
    · have ne : f k0 ≠ f k := fun z => e (inj _ _ z)
      simp [e, ne]
theorem RelKV.repl {κ : Type} [DecidableEq κ] {f : κ → D} (inj : ∀ a b, f a = f b → a = b) (k : κ) {v : V} {d : D} (r : RelD K H v d) : ∀ {es : List (κ × V)} {kvs : List (D × D)}, RelKV f K H es kvs →
    RelKV f K H (es.map fun p => if p.1 = k then (p.1, v) else p) (kvs.map fun p => if p.1 = f k then (p.1, d) else p)
  | _, _, .nil => .nil
  | _, _, .cons (k := k0) (t := t) hk rd rt => by
    simp only [List.map_cons]
    by_cases e : k0 = k
    · subst e; simp only [if_true]; exact .cons hk r (RelKV.repl inj _ r rt)
    · have ne : f k0 ≠ f k := fun z => e (inj _ _ z)
      rw [if_neg e, if_neg ne]
      exact .cons hk rd (RelKV.repl inj k r rt)
theorem RelKV.snoc {κ : Type} {f : κ → D} (k : κ) (hk : ∀ x, f k = .str x → PyData.strOk x = true) {v : V} {d : D} (r : RelD K H v d) : ∀ {es : List (κ × V)} {kvs : List (D × D)}, RelKV f K H es kvs → RelKV f K H (es ++ [(k, v)]) (kvs ++ [(f k, d)])
  | _, _, .nil => .cons hk r .nil
  | _, _, .cons h rd rt => .cons h rd (RelKV.snoc k hk r rt)
theorem RelKV.put {κ : Type} [DecidableEq κ] {f : κ → D} (inj : ∀ a b, f a = f b → a = b) (k : κ) (hk : ∀ x, f k = .str x → PyData.strOk x = true) {v : V} {d : D} (r : RelD K H v d) {es : List (κ × V)} {kvs : List (D × D)} (h : RelKV f K H es kvs) : RelKV f K H (putK es k v) (dPut kvs (f k) d) := by
  unfold putK dPut
  rw [h.anyK inj k]
  split
  · exact h.repl inj k r
  · exact h.snoc k hk r
theorem RelD.kV {v : V} {k : Key} (r : RelD K H v (kD k)) : v = L2.kV k := by cases k <;> cases r <;> rfl
theorem RelD.kT {v : V} {k : List Key} (r : RelD K H v (kTD k)) : ∃ b, v = .ref b ∧ KeyT K H b k := by
  cases r with
  | tup t r =>
    have e := r.kVs
    subst e
    exact ⟨_, rfl, t, r⟩
theorem RelD.kOk {v : V} {k : Key} (r : RelD K H v (kD k)) : ∀ x, kD k = .str x → PyData.strOk x = true := fun x e => by
  rw [e] at r
  cases r; assumption
theorem put_id {S : Sto} {a : Addr} {o : AO} (h : S a = some o) : put S a o = S := by
  funext b; unfold put; split
  · rename_i e; subst e; exact h.symm
  · rfl
theorem RelTV.val (k : List Key) : ∀ {xs : List (List Key × Addr × Value)} {kvs : List (D × D)}, RelTV K H xs kvs → ∃ o : Option V, RelO o ((atKey xs k).map (·.2)) ∧ RelOk K H o (dGet kvs (kTD k))
  | _, _, .nil => ⟨none, trivial, trivial⟩
  | _, _, .cons (k := k0) (b := b) (u := u) (v := v) (d := d) (r := r) (t := t) tt rv rd rt => by
    by_cases e : k0 = k
    · subst e
      have h1 : atKey ((k0, b, u) :: r) k0 = some (b, u) := by simp [atKey]
      have h2 : dGet ((kTD k0, d) :: t) (kTD k0) = some d := by simp [dGet]
      rw [h1, h2]
      exact ⟨some v, rv, rd⟩
    · have ne : kTD k0 ≠ kTD k := fun z => e (kTD_inj z)
      have h1 : atKey ((k0, b, u) :: r) k = atKey r k := by simp [atKey, List.find?_cons, e]
      have h2 : dGet ((kTD k0, d) :: t) (kTD k) = dGet t (kTD k) := by simp [dGet, ne]
      rw [h1, h2]
      exact RelTV.val k rt
theorem RelTV.repl (k : List Key) {v : V} {u : Value} {d : D} (rv : RelV v u) (rd : RelD K H v d) : ∀ {xs : List (List Key × Addr × Value)} {kvs : List (D × D)}, RelTV K H xs kvs → RelTV K H (xs.map (putAt k u)) (kvs.map fun p => if p.1 = kTD k then (p.1, d) else p)
  | _, _, .nil => .nil
  | _, _, .cons (k := k0) (t := t) tt rv' rd' rt => by
    simp only [List.map_cons, putAt]
    by_cases e : k0 = k
    · subst e; simp only [if_true]; exact .cons tt rv rd (RelTV.repl _ rv rd rt)
    · have ne : kTD k0 ≠ kTD k := fun z => e (kTD_inj z)
      rw [if_neg e, if_neg ne]
      exact .cons tt rv' rd' (RelTV.repl k rv rd rt)
theorem RelTV.snoc (k : List Key) {b : Addr} {v : V} {u : Value} {d : D} (tb : KeyT K H b k) (rv : RelV v u) (rd : RelD K H v d) : ∀ {xs : List (List Key × Addr × Value)} {kvs : List (D × D)}, RelTV K H xs kvs → RelTV K H (xs ++ [(k, b, u)]) (kvs ++ [(kTD k, d)])
  | _, _, .nil => .cons tb rv rd .nil
  | _, _, .cons tt rv' rd' rt => .cons tt rv' rd' (RelTV.snoc k tb rv rd rt)
theorem dGet_any (k : D) : ∀ kvs : List (D × D), (kvs.any fun p => decide (p.1 = k)) = (dGet kvs k).isSome
  | [] => rfl
  | p :: r => by
    have ih := dGet_any k r
    unfold dGet at *
    by_cases e : p.1 = k
    · simp [e]
    · simp only [List.any_cons, e, decide_false, Bool.false_or, List.find?_cons]; exact ih
theorem RelOk.isSome {o : Option V} {p : Option D} (r : RelOk K H o p) : o.isSome = p.isSome := by cases o <;> cases p <;> first | rfl | exact r.elim
theorem RelTV.put (k : List Key) {b : Addr} {v : V} {u : Value} {d : D} (tb : KeyT K H b k) (rv : RelV v u) (rd : RelD K H v d) {xs : List (List Key × Addr × Value)} {kvs : List (D × D)} (h : RelTV K H xs kvs) : RelTV K H (storedH xs k b u) (dPut kvs (kTD k) d) := by
  obtain ⟨o, h1, h2⟩ := h.val k
  have e : (kvs.any fun p => decide (p.1 = kTD k)) = (atKey xs k).isSome := by
    rw [dGet_any, ← h2.isSome, h1.isSome_eq, Option.isSome_map]
  unfold storedH dPut
  rw [e]
  split
  · exact h.repl k rv rd
  · exact h.snoc k tb rv rd
def conv (K : KW) (H H' : Hp) (a : Addr) : Prop := H' = H ∨ (H a = some (.dK []) ∧ H' = upd H a (TDn K a [])) ∨ (H a = some (TDn K a []) ∧ H' = upd H a (.dK []))
theorem conv.ev {a : Addr} (c : conv K H H' a) : Ev H H' := by
  rcases c with rfl | ⟨h, rfl⟩ | ⟨h, rfl⟩
  · exact .refl _
  · exact .upd h rfl
  · exact .upd h rfl
theorem conv.hr {S : Sto} {a : Addr} (c : conv K H H' a) (hr : HR K H S) (e : S a = some (.dct [])) : HR K H' S := by
  rcases c with rfl | ⟨h, rfl⟩ | ⟨h, rfl⟩
  · exact hr
  · rw [← put_id e]
    exact hr.chg h rfl (.inr ⟨[], upd_same, .nil⟩)
  · rw [← put_id e]
    exact hr.chg h rfl (.inl ⟨[], upd_same, .nil⟩)
theorem Inv.conv {X : Cx} {pins : List (Addr × Obj)} {s : Shared} {σ : L2.St} {H H' : Hp} {a : Addr} (I : Inv X pins σ H s) (c : conv X.KW H H' a) : Inv X pins σ H' s := by
  rcases c with rfl | ⟨h, rfl⟩ | ⟨h, rfl⟩
  · exact I
  · obtain ⟨z, hd, vs, rel, o, es, ep, h1, h2, h3, h4, h5, h6⟩ := (show ObjOk X.prog X.w H s.heap a (.dK []) from I.hok a _ h)
    have ev : vs = [] := by have := rel.length; exact List.length_eq_zero_iff.mp this.symm
    subst ev
    have ee : es.toList = [] := by have := h5.length; exact List.length_eq_zero_iff.mp this
    refine I.write (t' := s.toks) (x := a) (e := a) (by rw [h]; trivial) (.inl rfl) (fun b u _ q => q) ⟨o, h1⟩ ⟨⟨⟨Nat.zero_le _, hd⟩, o, es, ep, h1, h2, h3, ee, List.nodup_nil⟩, ⟨o, h1⟩, fun h1 h2 ⟨z, o, es, ep, q, r⟩ k => ⟨z, o, es, ep, k _ q, r⟩⟩
  · obtain ⟨⟨⟨z, hd⟩, o, es, ep, h1, h2, h3, h4, h5⟩, _⟩ := (show ObjOk X.prog X.w H s.heap a (TDn X.KW a []) from I.hok a _ h)
    have ee : es.toList = [] := h4
    have ea : es = #[] := by simpa using ee
    subst ea
    exact I.write (t' := s.toks) (x := a) (e := a) (by rw [h]; trivial) (.inl rfl) (fun b u _ q => q) ⟨o, h1⟩ ⟨Nat.zero_le _, hd, [], .nil, o, #[], ep, h1, h2, h3, (by intro e he; simp at he), .nil, List.nodup_nil⟩
theorem keyFit.kD {es : List (Key × V)} {kvs : List (D × D)} {d : D} (r : RelKV DL.kD K H es kvs) (h : keyFit kvs d = true) (hn : kvs ≠ []) : (∃ k, d = DL.kD k) ∨ d = .non := by
  cases r with
  | nil => exact absurd rfl hn
  | @cons k v e r t hk rd rt =>
    simp only [keyFit, leafK_kD, Option.isSome_some, if_true, Bool.or_eq_true, decide_eq_true_eq] at h
    rcases h with h | h
    · obtain ⟨k', e⟩ := Option.isSome_iff_exists.mp h
      exact .inl ⟨k', leafK_eq e⟩
    · exact .inr h
theorem keyFit.kTD {es : List (List Key × Addr × Value)} {kvs : List (D × D)} {d : D} (r : RelTV K H es kvs) (h : keyFit kvs d = true) (hn : kvs ≠ []) : ∃ k, d = DL.kTD k := by
  cases r with
  | nil => exact absurd rfl hn
  | @cons k b u v d' r t tt rv rd rt =>
    simp only [keyFit, leafK_kTD, leafT_kTD, Option.isSome_none, Option.isSome_some, Bool.false_eq_true, if_false, Bool.true_and] at h
    obtain ⟨k', e⟩ := Option.isSome_iff_exists.mp h
    exact ⟨k', leafT_eq e⟩
theorem keyFit.nil {d : D} (h : keyFit [] d = true) : (∃ k, d = DL.kD k) ∨ (∃ k, d = DL.kTD k) ∨ d = .non := by
  simp only [keyFit, Bool.or_eq_true, decide_eq_true_eq] at h
  rcases h with (h | h) | h
  · obtain ⟨k', e⟩ := Option.isSome_iff_exists.mp h
    exact .inl ⟨k', leafK_eq e⟩
  · obtain ⟨k', e⟩ := Option.isSome_iff_exists.mp h
    exact .inr (.inl ⟨k', leafT_eq e⟩)
  · exact .inr (.inr h)
def DGy (K : KW) (H : Hp) (a : Addr) (y : V) (o : Option V) : Prop :=
  (∃ kvs k, Rd H a (.dK kvs) ∧ y = L2.kV k ∧ o = valV kvs k) ∨ (y = .non ∧ o = none ∧ ∃ kvs, Rd H a (.dK kvs)) ∨
    ∃ xs kvs k b, Rd H a (TDn K a xs) ∧ RelTV K H xs kvs ∧ y = .ref b ∧ KeyT K H b k ∧ RelO o ((atKey xs k).map (·.2))
def rdD (S : Sto) (a : Addr) (d : D) : Option (List (D × D)) := match S a with
  | some (.dct kvs) => if keyFit kvs d = true then some kvs else none
  | some (.fdc _ kvs) => if keyFit kvs d = true ∧ kvs ≠ [] then some kvs else none
  | _ => none
theorem dGet_non_kD : ∀ {es : List (Key × V)} {kvs : List (D × D)}, RelKV DL.kD K H es kvs → dGet kvs .non = none
  | _, _, .nil => rfl
  | _, _, .cons (k := k) (t := t) hk rd rt => by
    have ne : DL.kD k ≠ .non := by cases k <;> simp [DL.kD]
    have := dGet_non_kD rt
    unfold dGet at *
    simpa [List.find?_cons, ne] using this
theorem dget_rd {S : Sto} {a : Addr} {kvs : List (D × D)} {y : V} {d : D} (hn : kvs ≠ []) (fit : keyFit kvs d = true) (r : RelD K H y d)
    (h : (∃ es, Rd H a (.dK es) ∧ RelKV DL.kD K H es kvs) ∨ ∃ xs, Rd H a (TDn K a xs) ∧ RelTV K H xs kvs) : ∃ o, DGy K H a y o ∧ RelOk K H o (dGet kvs d) := by
  rcases h with ⟨ks, h1, rk⟩ | ⟨ks, h1, rk⟩
  · rcases keyFit.kD rk fit hn with ⟨k, rfl⟩ | rfl
    · have ey := r.kV
      subst ey
      exact ⟨_, .inl ⟨_, k, h1, rfl, rfl⟩, rk.val (fun a b => kD_inj) k⟩
    · cases r
      exact ⟨none, .inr (.inl ⟨rfl, rfl, _, h1⟩), by rw [dGet_non_kD rk]; trivial⟩
  · obtain ⟨k, rfl⟩ := keyFit.kTD rk fit hn
    obtain ⟨b, rfl, hb⟩ := r.kT
    obtain ⟨o, h2, h3⟩ := rk.val k
    exact ⟨o, .inr (.inr ⟨ks, kvs, k, b, h1, rk, rfl, hb, h2⟩), h3⟩
theorem dget_ok {S : Sto} {a : Addr} {kvs : List (D × D)} {y : V} {d : D} (hr : HR K H S) (e : rdD S a d = some kvs) (r : RelD K H y d) : ∃ o H', conv K H H' a ∧ HR K H' S ∧ DGy K H' a y o ∧ RelOk K H' o (dGet kvs d) := by
  unfold rdD at e
  split at e
  · rename_i kvs' es
    split at e
    · rename_i fit
      cases e
      by_cases hn : kvs = []
      · subst hn
        have go : ∀ H', conv K H H' a → DGy K H' a y none → ∃ o H', conv K H H' a ∧ HR K H' S ∧ DGy K H' a y o ∧ RelOk K H' o (dGet [] d) := fun H' c g => ⟨none, H', c, c.hr hr es, g, trivial⟩
        have tp : ∀ b ks, TupAt K H b ks → ∀ H', conv K H H' a → TupAt K H' b ks := fun b ks t H' c => t.ev c.ev
        rcases keyFit.nil fit with ⟨k, rfl⟩ | ⟨k, rfl⟩ | rfl
        · have ey := r.kV
          subst ey
          rcases hr a _ es with ⟨ks, h1, rk⟩ | ⟨ks, h1, rk⟩
          · cases rk
            exact go H (.inl rfl) (.inl ⟨[], k, .inl h1, rfl, rfl⟩)
          · cases rk
            exact go _ (.inr (.inr ⟨h1, rfl⟩)) (.inl ⟨[], k, .inl upd_same, rfl, rfl⟩)
        · obtain ⟨b, rfl, hb⟩ := r.kT
          rcases hr a _ es with ⟨ks, h1, rk⟩ | ⟨ks, h1, rk⟩
          · cases rk
            have c : conv K H (upd H a (TDn K a [])) a := .inr (.inl ⟨h1, rfl⟩)
            exact go _ c (.inr (.inr ⟨[], [], k, b, .inl upd_same, .nil, rfl, hb.ev c.ev, trivial⟩))
          · cases rk
            exact go H (.inl rfl) (.inr (.inr ⟨[], [], k, b, .inl h1, .nil, rfl, hb, trivial⟩))
        · cases r
          rcases hr a _ es with ⟨ks, h1, rk⟩ | ⟨ks, h1, rk⟩
          · exact go H (.inl rfl) (.inr (.inl ⟨rfl, rfl, _, .inl h1⟩))
          · cases rk
            exact go _ (.inr (.inr ⟨h1, rfl⟩)) (.inr (.inl ⟨rfl, rfl, _, .inl upd_same⟩))
      · obtain ⟨o, h1, h2⟩ := dget_rd (S := S) hn fit r ((hr a _ es).imp (fun ⟨ks, h, r⟩ => ⟨ks, .inl h, r⟩) fun ⟨ks, h, r⟩ => ⟨ks, .inl h, r⟩)
        exact ⟨o, H, .inl rfl, hr, h1, h2⟩
    · cases e
  · rename_i ob kvs' es
    split at e
    · rename_i fit
      obtain ⟨fit, hn⟩ := fit
      cases e
      obtain ⟨o, h1, h2⟩ := dget_rd (S := S) hn fit r ((hr a _ es).imp (fun ⟨ks, h, r⟩ => ⟨ks, .inr ⟨_, h⟩, r⟩) fun ⟨ks, h, r⟩ => ⟨ks, .inr ⟨_, h⟩, r⟩)
      exact ⟨o, H, .inl rfl, hr, h1, h2⟩
    · cases e
  · cases e
end
end DL
namespace DL
open PySem PySem.Spec PyProof.Rows L2
section
variable {X : Cx} {pins : List (Addr × Obj)} {σ : L2.St} {H : Hp} {s : Shared} {a : Addr} {y : V} {u : Value} {o : Option V} {E : Value → Shared → Prop}
theorem leafMap {kvs : List (Key × V)} (I : Inv X pins σ H s) (e : Rd H a (.dK kvs)) : (a == sysModules) = false ∧ ∃ f, s.heap.MapOf (leafKind X.prog X.w) a f ∧ f .none = none := by
  obtain ⟨z, hd, vs, rel, o, es, ep, h1, h2, h3, h4, h5, h6⟩ := dk_rd I.hok e
  refine ⟨hd, fun k => findBy (leafKind X.prog X.w).is es k, ⟨o, es, ep, h1, h2, h3, fun e he => ?_, fun k => rfl⟩, ?_⟩
  · obtain ⟨k, q1, q2⟩ := h4 e he
    cases k with
    | inl i =>
      obtain ⟨t, ek⟩ := Value.isInt_shape (show Value.isInt i e.key = true from q1)
      refine ⟨.num i, ?_, q2⟩
      rw [ek]; exact leaf_int i t
    | inr x =>
      obtain ⟨t, ek⟩ := Value.isStrOf_shape (show Value.isStrOf x e.key = true from q1)
      refine ⟨.text x, ?_, q2⟩
      rw [ek]; exact leaf_str x t
  · show findBy (leafKind X.prog X.w).is es .none = none
    have : es.find? (fun e => (leafKind X.prog X.w).is .none e.key) = none := by
      rw [Array.find?_eq_none]
      intro e he
      obtain ⟨k, q1, q2⟩ := h4 e he
      cases k with
      | inl i =>
        obtain ⟨t, ek⟩ := Value.isInt_shape (show Value.isInt i e.key = true from q1)
        rw [ek]; exact (fun z => nomatch z)
      | inr x =>
        obtain ⟨t, ek⟩ := Value.isStrOf_shape (show Value.isStrOf x e.key = true from q1)
        rw [ek]; exact (fun z => nomatch z)
    unfold findBy
    rw [this]; rfl
theorem dy_in (hu : X.A.units + 1 < cLine) (I : Inv X pins σ H s) (g : DGy X.KW H a y o) (ry : RelV y u) : wpAny (model X.prog X.w) X.A (compareOp .In u (.ref a)) (fun r s' => r = .bool o.isSome ∧ Inv X pins σ H s') E s := by
  rcases g with ⟨kvs, k, e, ey, l⟩ | ⟨ey, eo, kvs, e⟩ | ⟨xs, kvs, k, b, e, rk, ey, tb, l⟩
  · subst ey
    obtain ⟨z, hd, vs, rel, dd⟩ := dk_rd I.hok e
    refine wpAny_in_of (kV_is ry) hd dd.mapOf ⟨?_, I.tok _⟩
    rw [← (rel.val k).isSome_eq, ← l]
  · subst ey eo
    cases ry
    obtain ⟨hd, f, hm, hf⟩ := leafMap I e
    refine wpAny_in_of (knd := leafKind X.prog X.w) (k := .none) leaf_none hd hm ⟨?_, I.tok _⟩
    rw [hf]
    rfl
  · subst ey
    cases ry
    obtain ⟨z, hd, dd⟩ := tdn_rd I e rk
    refine wpAny_in_heap (tupleKind_room_in1 hu) (keyT I tb) hd dd ⟨?_, I.tok _⟩
    rw [l.isSome_eq, Option.isSome_map]
theorem dy_notIn (hu : X.A.units + 1 < cLine) (I : Inv X pins σ H s) (g : DGy X.KW H a y o) (ry : RelV y u) : wpAny (model X.prog X.w) X.A (compareOp .NotIn u (.ref a)) (fun r s' => r = .bool (!o.isSome) ∧ Inv X pins σ H s') E s := by
  rcases g with ⟨kvs, k, e, ey, l⟩ | ⟨ey, eo, kvs, e⟩ | ⟨xs, kvs, k, b, e, rk, ey, tb, l⟩
  · subst ey
    obtain ⟨z, hd, vs, rel, dd⟩ := dk_rd I.hok e
    refine wpAny_notIn_of (kV_is ry) hd dd.mapOf ⟨?_, I.tok _⟩
    rw [← (rel.val k).isSome_eq, ← l]
  · subst ey eo
    cases ry
    obtain ⟨hd, f, hm, hf⟩ := leafMap I e
    refine wpAny_notIn_of (knd := leafKind X.prog X.w) (k := .none) leaf_none hd hm ⟨?_, I.tok _⟩
    rw [hf]
    rfl
  · subst ey
    cases ry
    obtain ⟨z, hd, dd⟩ := tdn_rd I e rk
    refine wpAny_notIn_heap (tupleKind_room_in1 hu) (keyT I tb) hd dd ⟨?_, I.tok _⟩
    rw [l.isSome_eq, Option.isSome_map]
theorem dy_item {v : V} (hu : X.A.units + 1 < cLine) (I : Inv X pins σ H s) (g : DGy X.KW H a y (some v)) (ry : RelV y u) : wpAny (model X.prog X.w) X.A (getItem (.ref a) u) (fun r s' => RelV v r ∧ Inv X pins σ H s') E s := by
  rcases g with ⟨kvs, k, e, ey, l⟩ | ⟨ey, eo, kvs, e⟩ | ⟨xs, kvs, k, b, e, rk, ey, tb, l⟩
  · subst ey
    obtain ⟨z, hd, vs, rel, dd⟩ := dk_rd I.hok e
    obtain ⟨w', hw, rw'⟩ := RelO.some_of (v := v) (o := valueAt vs k) (by rw [l]; exact rel.val k)
    exact wpAny_getItem_of (kV_is ry) dd.mapOf hw ⟨rw', I.tok _⟩
  · cases eo
  · subst ey
    cases ry
    obtain ⟨z, hd, dd⟩ := tdn_rd I e rk
    obtain ⟨w', hw, rw'⟩ := RelO.some_of (v := v) l
    obtain ⟨p, hp, hp2⟩ := Option.map_eq_some_iff.mp hw
    refine wpAny_getItem_heap (tupleKind_room_in1 hu) (keyT I tb) dd hp ⟨?_, I.tok _⟩
    rw [hp2]; exact rw'
theorem dy_get1 (hu : X.A.units + 1 < cLine) (I : Inv X pins σ H s) (g : DGy X.KW H a y o) (ry : RelV y u) : wpAny (model X.prog X.w) X.A (call (.builtin "dict.get") [.ref a, u]) (fun r s' => RelV (o.getD .non) r ∧ Inv X pins σ H s') E s := by
  rcases g with ⟨kvs, k, e, ey, l⟩ | ⟨ey, eo, kvs, e⟩ | ⟨xs, kvs, k, b, e, rk, ey, tb, l⟩
  · subst ey
    obtain ⟨z, hd, vs, rel, dd⟩ := dk_rd I.hok e
    refine call_meetsIn PySem.F.slot_dict_get dd.typeIs PySem.F.entry_dict_get (PySem.F.args_dict_get_2 _ _) (meets_dict_get (mixKind X.prog X.w) a (kV_is ry) hd) ⟨_, dd.mapOf, ?_, I.tok _⟩
    rw [l]
    exact (rel.val k).getD rfl
  · subst ey eo
    cases ry
    obtain ⟨hd, f, hm, hf⟩ := leafMap I e
    refine call_meetsIn PySem.F.slot_dict_get hm.typeIs PySem.F.entry_dict_get (PySem.F.args_dict_get_2 _ _) (meets_dict_get (leafKind X.prog X.w) a (k := .none) leaf_none hd) ⟨_, hm, ?_, I.tok _⟩
    rw [hf]; rfl
  · subst ey
    cases ry
    obtain ⟨z, hd, dd⟩ := tdn_rd I e rk
    refine call_meetsIn PySem.F.slot_dict_get dd.typeIs PySem.F.entry_dict_get (PySem.F.args_dict_get_2 _ _) (meetsH_dict_get (tupleKind (mixKind X.prog X.w)) a b hd) ⟨tupleKind_room_in1 hu, k, xs, keyT I tb, dd, ?_, I.tok _⟩
    exact l.getD rfl
theorem dy_type (I : Inv X pins σ H s) (g : DGy X.KW H a y o) : s.TypeIs (.ref a) "dict" ∧ ∀ b, Value.ref a = .ref b → ∃ ob, s.heap.get? b = some ob ∧ ob.dict = none := by
  have fin : (∃ o es ep, s.heap.get? a = some o ∧ o.ExactDict ∧ o.data = Data.dict es ep) → s.TypeIs (.ref a) "dict" ∧ ∀ b, Value.ref a = .ref b → ∃ ob, s.heap.get? b = some ob ∧ ob.dict = none := fun ⟨ob, es, ep, h1, h2, _⟩ =>
    ⟨⟨ob, h1, h2.1⟩, fun b e => by cases e; exact ⟨ob, h1, h2.2.1⟩⟩
  rcases g with ⟨kvs, k, e, ey, l⟩ | ⟨ey, eo, kvs, e⟩ | ⟨xs, kvs, k, b, e, rk, ey, tb, l⟩
  · obtain ⟨z, hd, vs, rel, ob, es, ep, h1, h2, h3, _⟩ := dk_rd I.hok e
    exact fin ⟨ob, es, ep, h1, h2, h3⟩
  · obtain ⟨z, hd, vs, rel, ob, es, ep, h1, h2, h3, _⟩ := dk_rd I.hok e
    exact fin ⟨ob, es, ep, h1, h2, h3⟩
  · obtain ⟨z, hd, ob, es, ep, h1, h2, h3, _⟩ := tdn_rd I e rk
    exact fin ⟨ob, es, ep, h1, h2, h3⟩
end
def onD (S : Sto) (a : Addr) (d : D) (k : List (D × D) → Prop) : Prop := match rdD S a d with | some kvs => k kvs | none => False
theorem onD.out {S : Sto} {a : Addr} {d : D} {k : List (D × D) → Prop} (h : onD S a d k) : ∃ kvs, rdD S a d = some kvs ∧ k kvs := by
  unfold onD at h
  split at h
  · exact ⟨_, by assumption, h⟩
  · exact h.elim
def isLst (S : Sto) : D → Bool
  | .ref a => match S a with | some (.lst _) => true | _ => false
  | _ => true
def wIn (neg : Bool) : DR := fun x y S Q => match isLst S y, y with
  | false, .ref a => onD S a x fun kvs => Q (.bl (neg != (dGet kvs x).isSome)) S
  | _, _ => wInS neg x y S Q
section
variable {X : Cx} {pos : Pos}
def rDIn (K : KW) (neg : Bool) : R2 := fun x y H Q => ∃ a o H', y = .ref a ∧ conv K H H' a ∧ DGy K H' a x o ∧ Q (.bl (neg != o.isSome)) H'
theorem op_din (hu : X.A.units + 1 < cLine) : OpR X (compareOp .In) (rDIn X.KW false) := by
  intro pins s σ H x y v u Q I rx ry ⟨a, o, H', ey, c, g, q⟩
  subst ey
  cases ry
  exact wpAny_mono (dy_in hu (Inv.conv I c) g rx) (fun r s' ⟨e, I'⟩ => ⟨.bl _, H', I', e, by simpa using q⟩) fun _ _ z => z
theorem op_dnotin (hu : X.A.units + 1 < cLine) : OpR X (compareOp .NotIn) (rDIn X.KW true) := by
  intro pins s σ H x y v u Q I rx ry ⟨a, o, H', ey, c, g, q⟩
  subst ey
  cases ry
  exact wpAny_mono (dy_notIn hu (Inv.conv I c) g rx) (fun r s' ⟨e, I'⟩ => ⟨.bl _, H', I', e, by simpa using q⟩) fun _ _ z => z
theorem rDIn_of {neg : Bool} {x : V} {dx : D} {H : Hp} {S : Sto} {Q : KD} {R : VK} {a : Addr} (hr : HR X.KW H S) (r1 : RelD X.KW H x dx) (q : onD S a dx fun kvs => Q (.bl (neg != (dGet kvs dx).isSome)) S) (k : ∀ v H', Up X.KW H Q v H' → R v H') : rDIn X.KW neg x (.ref a) H R := by
  obtain ⟨kvs, e, q⟩ := onD.out q
  obtain ⟨o, H', c, hr', g, ro⟩ := dget_ok hr e r1
  exact ⟨a, o, H', rfl, c, g, k _ _ (.of c.ev hr' (.bl _) (by rw [ro.isSome]; exact q))⟩
theorem dop_in (hu : X.A.units + 65 < cLine) : DOp X (compareOp .In) (wIn false) := by
  obtain ⟨rh, h1, h2⟩ := dop_inS (X := X) hu
  refine ⟨_, h1.or (op_din (by omega)), fun x y dx dy H S Q R hr r1 r2 q k => ?_⟩
  unfold wIn at q
  split at q
  · cases r2
    exact .inr (rDIn_of hr r1 q k)
  · exact .inl (h2 x y dx _ H S Q R hr r1 r2 q k)
theorem dop_notIn (hu : X.A.units + 65 < cLine) : DOp X (compareOp .NotIn) (wIn true) := by
  obtain ⟨rh, h1, h2⟩ := dop_notInS (X := X) hu
  refine ⟨_, h1.or (op_dnotin (by omega)), fun x y dx dy H S Q R hr r1 r2 q k => ?_⟩
  unfold wIn at q
  split at q
  · cases r2
    exact .inr (rDIn_of hr r1 q k)
  · exact .inl (h2 x y dx _ H S Q R hr r1 r2 q k)
def wAt : DR := fun x y S Q => match isLst S x, x with
  | false, .ref a => onD S a y fun kvs => onS (dGet kvs y) fun d => Q d S
  | _, _ => wIx x y S Q
def rDIx (K : KW) : R2 := fun x y H Q => ∃ a v H', x = .ref a ∧ conv K H H' a ∧ DGy K H' a y (some v) ∧ Q v H'
theorem ix_dict (hu : X.A.units + 1 < cLine) : IxR X (rDIx X.KW) := by
  intro value slice pins s σ H x y v u Q I rx ry h hs
  obtain ⟨a, w, H', rfl, c, g, q⟩ := h
  cases rx
  have I' := Inv.conv I c
  exact tail_any (dy_type I' g).1 slot_dict_getitem.lookup (wpAny_mono (dy_item hu I' g ry) (fun r s' ⟨e, I2⟩ => ⟨w, H', I2, e, q⟩) fun _ _ z => z) hs
theorem dix_at (hu : X.A.units + 1 < cLine) : DIx X wAt := by
  obtain ⟨rh, h1, h2⟩ := dix_seq (X := X)
  refine ⟨_, h1.or (ix_dict hu), fun x y dx dy H S Q R hr r1 r2 q k => ?_⟩
  unfold wAt at q
  split at q
  · cases r1
    obtain ⟨kvs, e, q⟩ := onD.out q
    obtain ⟨d, ed, q⟩ := onS.out q
    obtain ⟨o, H', c, hr', g, ro⟩ := dget_ok hr e r2
    rw [ed] at ro
    cases o with
    | none => exact ro.elim
    | some v => exact .inr ⟨_, v, H', rfl, c, g, k _ _ (.of c.ev hr' ro q)⟩
  · exact .inl (h2 x y _ dy H S Q R hr r1 r2 q k)
end
end DL
namespace DL
open PySem PySem.Spec PyProof.Rows L2
section
variable {X : Cx} {o e f : Expr} {apos cpos : Pos} {to te tf : DTE}
def isRef (Q : Addr → Sto → Prop) : KD := fun d S => match d with | .ref a => Q a S | _ => False
def isDct (S : Sto) (a : Addr) : Prop := match S a with | some (.dct _) => True | some (.fdc _ _) => True | _ => False
theorem isDct_at {pins : List (Addr × Obj)} {σ : L2.St} {H : Hp} {s : Shared} {S : Sto} {a : Addr} (I : Inv X pins σ H s) (hr : HR X.KW H S) (h : isDct S a) : s.TypeIs (.ref a) "dict" ∧ ∀ b, Value.ref a = .ref b → ∃ ob, s.heap.get? b = some ob ∧ ob.dict = none := by
  have fin : (∃ o es ep, s.heap.get? a = some o ∧ o.ExactDict ∧ o.data = Data.dict es ep) → s.TypeIs (.ref a) "dict" ∧ ∀ b, Value.ref a = .ref b → ∃ ob, s.heap.get? b = some ob ∧ ob.dict = none := fun ⟨ob, es, ep, h1, h2, _⟩ =>
    ⟨⟨ob, h1, h2.1⟩, fun b e => by cases e; exact ⟨ob, h1, h2.2.1⟩⟩
  have go : ((∃ es, Rd H a (.dK es)) ∨ ∃ xs kvs, Rd H a (TDn X.KW a xs) ∧ RelTV X.KW H xs kvs) → _ := fun z => fin (by
    rcases z with ⟨es, e⟩ | ⟨xs, kvs, e, rk⟩
    · obtain ⟨z, hd, vs, rel, ob, es, ep, h1, h2, h3, _⟩ := dk_rd I.hok e
      exact ⟨ob, es, ep, h1, h2, h3⟩
    · obtain ⟨z, hd, ob, es, ep, h1, h2, h3, _⟩ := tdn_rd I e rk
      exact ⟨ob, es, ep, h1, h2, h3⟩)
  unfold isDct at h
  split at h
  · rename_i kvs e
    exact go ((hr a _ e).imp (fun ⟨es, q, _⟩ => ⟨es, .inl q⟩) fun ⟨xs, q, r⟩ => ⟨xs, kvs, .inl q, r⟩)
  · rename_i ob kvs e
    exact go ((hr a _ e).imp (fun ⟨es, q, _⟩ => ⟨es, .inr ⟨_, q⟩⟩) fun ⟨xs, q, r⟩ => ⟨xs, kvs, .inr ⟨_, q⟩, r⟩)
  · exact h.elim
def dGet1 (to te : DTE) : DTE := fun τ S Q => to τ S (isRef fun a S1 => isDct S1 a ∧ te τ S1 fun y S2 => onD S2 a y fun kvs => Q ((dGet kvs y).getD .non) S2)
theorem RelOk.getD {K : KW} {H : Hp} {o : Option V} {p : Option D} {v : V} {d : D} (r : RelOk K H o p) (rd : RelD K H v d) : RelD K H (o.getD v) (p.getD d) := by
  cases o <;> cases p <;> first | exact rd | exact r | exact r.elim
theorem de_get1 (hu : X.A.units + 1 < cLine) (ho : DE X o to) (he : DE X e te) (m : M1 X o "get" apos e cpos) : DE X (.Call (.Attribute o "get" apos) [e] [] cpos) (dGet1 to te) := by
  refine ⟨fun pins s σ H τ S Q I st hr h => ?_⟩
  refine wpAny_Call_method m.base m.few m.line PySem.F.plainAttrs_dict PySem.F.slot_dict_get PySem.F.type_dict_get (thn (ho.run pins s σ H τ S _ I st hr h) fun u s1 ⟨x, H1, I1, rx, e1, d, S1, hr1, rd, q1⟩ => ?_)
  cases rd with
  | ref a =>
    obtain rfl : u = Value.ref a := rx
    obtain ⟨t1, t2⟩ := isDct_at I1 hr1 q1.1
    refine ⟨t1, t2, ?_⟩
    rw [m.trees]
    refine Calls.callWith_builtin rfl (Calls.evalArgs_plain (Calls.spliced_cons (thn (he.run pins s1 σ H1 τ S1 _ I1 (st.ev e1) hr1 q1.2) fun iv s2 ⟨y, H2, I2, ry, e2, yd, S2, hr2, ryd, q2⟩ => Calls.spliced_nil ?_)))
    obtain ⟨kvs, ek, q2⟩ := onD.out q2
    obtain ⟨ov, H', c, hr', g, ro⟩ := dget_ok hr2 ek ryd
    exact wpAny_mono (dy_get1 hu (Inv.conv I2 c) g ry) (fun r s3 ⟨er, I3⟩ => ⟨_, H', I3, er, .of ((e1.trans e2).trans c.ev) hr' (ro.getD .non) q2⟩) fun _ _ z => z
  | _ => exact q1.elim
end
section
variable {X : Cx} {pins : List (Addr × Obj)} {σ : L2.St} {H : Hp} {s : Shared} {E : Value → Shared → Prop}
theorem length_storedH {κ : Type} [DecidableEq κ] (xs : List (κ × Addr × Value)) (k : κ) (b : Addr) (u : Value) : (storedH xs k b u).length ≤ xs.length + 1 := by
  unfold storedH
  split
  · simp
  · simp
theorem dput_ok {S : Sto} {a : Addr} {kvs : List (D × D)} {ky v : V} {kd vd : D} {ku vu : Value} {t : Sem Unit} (I : Inv X pins σ H s) (hr : HR X.KW H S) (es : S a = some (.dct kvs)) (fit : keyFitW kvs kd = true) (hz : kvs.length < sizeLine) (r1 : RelV ky ku) (r2 : RelV v vu) (d1 : RelD X.KW H ky kd) (d2 : RelD X.KW H v vd)
    (tK : ∀ (H : Hp) (s : Shared) (k : Key) (vs : List (Key × Value)) (Q : Unit → Shared → Prop), (mixKind X.prog X.w).is k ku = true → s.heap.DictOf (mixKind X.prog X.w) a vs → vs.length ≤ sizeLine → (∀ h', h'.DictOf (mixKind X.prog X.w) a (stored vs k vu) → Heap.SameBut a s.heap h' → ∀ tk, Q () { s with heap := h', toks := tk }) → wpAny (model X.prog X.w) X.A t Q E s)
    (tT : ∀ (H : Hp) (s : Shared) (k : List Key) (b : Addr) (xs : List (List Key × Addr × Value)) (Q : Unit → Shared → Prop), ku = .ref b → (tupleKind (mixKind X.prog X.w)).is s.heap k b → s.heap.DictOfH (tupleKind (mixKind X.prog X.w)) a xs → xs.length ≤ sizeLine → (∀ h', h'.DictOfH (tupleKind (mixKind X.prog X.w)) a (storedH xs k b vu) → Heap.SameBut a s.heap h' → ∀ tk, Q () { s with heap := h', toks := tk }) → wpAny (model X.prog X.w) X.A t Q E s) :
    wpAny (model X.prog X.w) X.A t (fun _ s' => ∃ H', Inv X pins σ H' s' ∧ Ev H H' ∧ HR X.KW H' (put S a (.dct (dPut kvs kd vd)))) E s := by
  unfold keyFitW at fit
  rw [Bool.and_eq_true, decide_eq_true_eq] at fit
  obtain ⟨fit, hnn⟩ := fit
  have doK : ∀ (H1 : Hp) (es1 : List (Key × V)) (k : Key), Inv X pins σ H1 s → Ev H H1 → HR X.KW H1 S → H1 a = some (.dK es1) → RelKV DL.kD X.KW H1 es1 kvs → kd = DL.kD k → wpAny (model X.prog X.w) X.A t (fun _ s' => ∃ H', Inv X pins σ H' s' ∧ Ev H H' ∧ HR X.KW H' (put S a (.dct (dPut kvs kd vd)))) E s := by
    intro H1 es1 k I1 ev hr1 e1 rk ek
    subst ek
    have hkk := d1.kOk
    have ey := d1.kV
    subst ey
    obtain ⟨z, hd, vs, rel, dd⟩ := dk_of I1.hok e1
    have hzv : vs.length ≤ sizeLine := by rw [← rel.length]; exact z
    have hl : (putK es1 k v).length ≤ sizeLine := by have := length_putK es1 k v; have := rk.length; omega
    refine tK H1 s k vs _ (kV_is r1) dd hzv fun h' dd' hs tk => ?_
    have he : ∃ q, h'.get? a = some q := let ⟨q, _, _, hq, _⟩ := dd'; ⟨q, hq⟩
    have e2 : Ev H1 (upd H1 a (.dK (putK es1 k v))) := .upd e1 rfl
    exact ⟨_, d_write I1 (by rw [e1]; exact True.intro) hs he (dk_new hl hd (rel.put k r2) dd'), ev.trans e2, hr1.chg e1 rfl (.inl ⟨_, upd_same, ((rk.put (fun a b => kD_inj) k hkk (d2.ev ev)).ev e2)⟩)⟩
  have doT : ∀ (H1 : Hp) (xs : List (List Key × Addr × Value)) (k : List Key), Inv X pins σ H1 s → Ev H H1 → HR X.KW H1 S → H1 a = some (TDn X.KW a xs) → RelTV X.KW H1 xs kvs → kd = DL.kTD k → wpAny (model X.prog X.w) X.A t (fun _ s' => ∃ H', Inv X pins σ H' s' ∧ Ev H H' ∧ HR X.KW H' (put S a (.dct (dPut kvs kd vd)))) E s := by
    intro H1 xs k I1 ev hr1 e1 rk ek
    subst ek
    obtain ⟨b, rfl, tb⟩ := (d1.ev ev).kT
    cases r1
    obtain ⟨z, hd, dd⟩ := tdn_rd I1 (.inl e1) rk
    refine tT H1 s k b xs _ rfl (keyT I1 tb) dd z fun h' dd' hs tk => ?_
    obtain ⟨q, es, ep, hq, h2, h3, h4, _, h5⟩ := dd'
    have e2 : Ev H1 (upd H1 a (TDn X.KW a (storedH xs k b vu))) := .upd e1 rfl
    refine ⟨_, d_write (ob := TDn X.KW a (storedH xs k b vu)) I1 (by rw [e1]; exact True.intro) hs ⟨q, hq⟩ ⟨⟨⟨?_, hd⟩, q, es, ep, hq, h2, h3, h4, h5⟩, ⟨q, hq⟩, fun h1 h2 ⟨z, o, es, ep, q, r⟩ k => ⟨z, o, es, ep, k _ q, r⟩⟩, ev.trans e2, hr1.chg e1 rfl (.inr ⟨_, upd_same, (rk.put k tb r2 (d2.ev ev)).ev e2⟩)⟩
    have := length_storedH xs k b vu
    have := rk.length
    omega
  by_cases hn : kvs = []
  · subst hn
    rcases keyFit.nil fit with ⟨k, rfl⟩ | ⟨k, rfl⟩ | rfl
    · rcases hr a _ es with ⟨ks, h1, rk⟩ | ⟨ks, h1, rk⟩
      · exact doK H ks k I (.refl _) hr h1 rk rfl
      · cases rk
        have c : conv X.KW H (upd H a (.dK [])) a := .inr (.inr ⟨h1, rfl⟩)
        exact doK _ [] k (Inv.conv I c) c.ev (c.hr hr es) upd_same .nil rfl
    · rcases hr a _ es with ⟨ks, h1, rk⟩ | ⟨ks, h1, rk⟩
      · cases rk
        have c : conv X.KW H (upd H a (TDn X.KW a [])) a := .inr (.inl ⟨h1, rfl⟩)
        exact doT _ [] k (Inv.conv I c) c.ev (c.hr hr es) upd_same .nil rfl
      · exact doT H ks k I (.refl _) hr h1 rk rfl
    · exact absurd rfl hnn
  · rcases hr a _ es with ⟨ks, h1, rk⟩ | ⟨ks, h1, rk⟩
    · rcases keyFit.kD rk fit hn with ⟨k, rfl⟩ | rfl
      · exact doK H ks k I (.refl _) hr h1 rk rfl
      · exact absurd rfl hnn
    · obtain ⟨k, rfl⟩ := keyFit.kTD rk fit hn
      exact doT H ks k I (.refl _) hr h1 rk rfl
end
def wSet : D → D → D → Sto → (Sto → Prop) → Prop := fun o i v S Q => match o with
  | .ref a => match S a with
    | some (.lst ds) => (match i with | .int k => (match ixN ds.length k with | some j => Q (put S a (.lst (ds.set j v))) | none => False) | _ => False)
    | some (.dct kvs) => keyFitW kvs i = true ∧ kvs.length < sizeLine ∧ Q (put S a (.dct (dPut kvs i v)))
    | _ => False
  | _ => False
theorem dset_any {X : Cx} (hu : X.A.units + 1 < cLine) : DSet X wSet := by
  intro pins s σ H o i v od id vd ov iv u S Q I hr ro ri rv d1 d2 d3 q
  unfold wSet at q
  split at q
  · rename_i a
    cases d1
    cases ro
    split at q
    · rename_i ds e
      split at q
      · rename_i k
        cases d2
        split at q
        · rename_i j ej
          obtain ⟨vs, h1, r⟩ := hr a _ e
          refine thn (set_list pins s σ H (V.ref a) (V.int k) v _ iv u (fun H' => H' = upd H a (.lst (vs.set j v))) I (show RelV (V.ref a) (Value.ref a) from rfl) ri rv ⟨a, vs, k, j, rfl, rfl, h1, by rw [r.length]; exact ej, rfl⟩) fun _ s' ⟨H', I', e'⟩ => ?_
          subst e'
          have ev : Ev H (upd H a (.lst (vs.set j v))) := .upd h1 rfl
          exact ⟨_, I', ev, _, hr.chg (b := .lst (ds.set j vd)) h1 rfl ⟨_, upd_same, (r.set d3 j).ev ev⟩, q⟩
        · exact q.elim
      · exact q.elim
    · rename_i kvs e
      refine thn (dput_ok I hr e q.1 q.2.1 ri rv d2 d3 (fun H s k vs Q hk dd hz h => wpAny_setItem_pairs (hsz := hz) hk dd fun h' dd' hs => h h' dd' hs _)
        (fun H s k b xs Q eb hk dd hz h => by subst eb; exact wpAny_setItem_heap (hsz := hz) (tupleKind_room_in1 hu) hk dd fun h' dd' hs => h h' dd' hs _)) fun _ s' ⟨H', I', ev, hr'⟩ => ⟨H', I', ev, _, hr', q.2.2⟩
    · exact q.elim
  · exact q.elim
end DL
namespace DL
open PySem PySem.Spec PyProof.Rows L2
def emDct (tk tv : DTE) (D : Addr) : DEmT := fun τ S k => tk τ S fun kd S1 => tv τ S1 fun vd S2 => match S2 D with
  | some (.dct kvs) => keyFitW kvs kd = true ∧ kvs.length < sizeLine ∧ k (put S2 D (.dct (dPut kvs kd vd)))
  | _ => False
theorem em_dct {Y : Cx} {kx vx : Expr} {gs : List Comprehension} {scope : Scope} {pos : Pos} {tk tv : DTE} (hu : Y.A.units + 1 < cLine) (hxe : Y.xe = fun _ _ => False) (hk : DE Y kx tk) (hv : DE Y vx tv) (D : Addr) : DEm Y (emitOf (.DictComp kx vx gs scope pos) (.ref D) Y.env) (emDct tk tv D) := by
  refine ⟨fun pins s σ H τ S k I st hr q => ?_⟩
  have z := hk.run pins s σ H τ S _ I st hr q
  rw [hxe] at z
  show wpAny _ _ (do
    let kv ← eval kx Y.env
    let vv ← holding [kv] (eval vx Y.env)
    standAt { kx.pos with endLine := vx.pos.endLine, endCol := vx.pos.endCol }
    holding [kv, vv] (dictSet D kv vv)) _ _ s
  refine wpAny_bind (thnN z fun ku s1 ⟨kv, H1, I1, r1, e1, kd, S1, hr1, d1, q1⟩ => ?_)
  have z := hv.run pins s1 σ H1 τ S1 _ I1 (st.ev e1) hr1 q1
  rw [hxe] at z
  refine wpAny_bind (wpAny_holding (thnN z fun vu s2 ⟨vv, H2, I2, r2, e2, vd, S2, hr2, d2, q2⟩ => wpAny_bind (wpAny_standAt (wpAny_holding ?_))))
  simp only at q2
  split at q2
  · rename_i kvs e
    refine thn (dput_ok I2 hr2 e q2.1 q2.2.1 r1 r2 (d1.ev e2) d2 (fun H s k vs Q hk dd hz h => wpAny_dictSet_pairs (hsz := hz) hk dd fun h' dd' hs => h h' dd' hs _)
      (fun H s k b xs Q eb hk dd hz h => by subst eb; exact wpAny_dictSet_heap (hsz := hz) (show _ < _ by omega) hk dd fun h' dd' hs => h h' dd' hs _)) fun _ s' ⟨H', I', ev, hr'⟩ => ⟨H', _, I', (e1.trans e2).trans ev, hr', q2.2.2⟩
  · exact q2.elim
theorem na_dct {X : Cx} : NewAcc X newDict { cls := .type "dict", data := .dict #[] } (fun _ => .dK []) (.dct []) where
  lay := fun s E Q q => wpAny_newObj_type q
  ok := fun h H hb => dk_empty h hb
  rel := fun H D => .inl ⟨[], upd_same, .nil⟩
  st := fun _ => rfl
section
variable {X : Cx}
def dDC (wi : DTI) (g : DTG) (tt : DTT) (vs all : List Nat) (rs : List ClT) (tk tv : DTE) : DTE := dComp wi g tt vs all rs (emDct tk tv) (.dct [])
theorem ds_dc {i : Nat} {y : Str} {py spos : Pos} {kx vx tg iter : Expr} {ifs : List Expr} {gs : List Comprehension} {scope : Scope} {own : List (Str × Nat)} {pos : Pos} {wi : DTI} {g : DTG} {tt : DTT} {tk tv : DTE} {vs : List Nat} {rs : List ClT}
    (hu : X.A.units + 1 < cLine) (hc : X.calm = true) (hN : X.N.Nodup) (hy : X.N[i]? = some y) (hyl : X.env.scope.names.lookup y = some .local) (hsw : swapsWith (.DictComp kx vx (⟨tg, iter, ifs, 0⟩ :: gs) scope pos) (some (.Name y py)) spos.line X.env = pure true)
    (hi : DI X tg iter wi) (ok : BlkOk X.N X.env.scope scope own)
    (hb : BlkAll X scope fun Y => DG Y tg g ∧ DTs Y ifs tt ∧ DCl Y gs rs ∧ DE Y kx tk ∧ DE Y vx tv) (hs : ∀ x, foldedSetIterable iter X.env x = pure x := by intro _; rfl) :
    DSm X (.Assign [.Name y py] (.DictComp kx vx (⟨tg, iter, ifs, 0⟩ :: gs) scope pos) spos) (dAsg (dDC wi g tt vs (own.map (·.2)) rs tk tv) (gdName i)) :=
  comp_asg (pos' := firstIterPos (⟨tg, iter, ifs, 0⟩ :: gs) pos) hy hyl (exec_Assign_Name_used _ _ _ _ hsw) rfl rfl rfl hc hN hi ok (fun s H C cl fp => let ⟨a, b, c, d, e⟩ := hb s H C cl fp; ⟨a, b, c, fun D => em_dct (Y := X.blk s H scope (compEnvC scope cl C X.env) fp) hu rfl d e D⟩) na_dct hs
def dNewD : DTE := fun _ S Q => ∀ p, S p = none → Q (.ref p) (put S p (.dct []))
theorem HR.dct0 {K : KW} {H : Hp} {S : Sto} {p : Addr} (hr : HR K H S) (n : H p = none) : HR K (upd H p (.dK [])) (put S p (.dct [])) := hr.newO n (.inl ⟨[], upd_same, .nil⟩)
theorem de_newD {pos : Pos} : DE X (.Dict [] [] pos) dNewD := .up pe_dnewK fun σ H τ S Q st hr q => fun p n => .of (.new n) (hr.dct0 n) (.ref p) (q p (hr.free n))
def dPairs : List (DTE × DTE) → DSt → Sto → (List (D × D) → Sto → Prop) → Prop
  | [], _, S, Q => Q [] S
  | (tk, tv) :: r, τ, S, Q => tk τ S fun x S1 => tv τ S1 fun y S2 => dPairs r τ S2 fun ps S3 => Q ((x, y) :: ps) S3
inductive RelPs (K : KW) (H : Hp) : List (V × V) → List (D × D) → Prop
  | nil : RelPs K H [] []
  | cons {k v kd vd r t} : RelD K H k kd → RelD K H v vd → RelPs K H r t → RelPs K H ((k, v) :: r) ((kd, vd) :: t)
structure DPs (X : Cx) (pos : Pos) (keys : List (Option Expr)) (values : List Expr) (trs : List (DTE × DTE)) : Prop where
  run : ∀ (pins : List (Addr × Obj)) (s : Shared) (σ : L2.St) (H : Hp) (τ : DSt) (S : Sto) (Q : List (D × D) → Sto → Prop), Inv X pins σ H s → StR X.KW H σ τ → HR X.KW H S → dPairs trs τ S Q →
    wpAny (model X.prog X.w) X.A (evalPairs (pairTrees keys values X.env pos)) (fun vs s' => ∃ ps H', Inv X pins σ H' s' ∧ VV ps vs ∧ Ev H H' ∧ ∃ ds S', HR X.KW H' S' ∧ RelPs X.KW H' ps ds ∧ Q ds S') X.xe s
theorem dps_nil {pos : Pos} : DPs X pos [] [] [] := ⟨fun pins s σ H τ S Q I st hr h => pairTrees_nil_walk ⟨[], H, I, .nil, .refl _, [], S, hr, .nil, h⟩⟩
theorem dps_cons {pos : Pos} {k v : Expr} {ks : List (Option Expr)} {vs : List Expr} {tk tv : DTE} {trs : List (DTE × DTE)} (hk : DE X k tk) (hv : DE X v tv) (h : DPs X pos ks vs trs) :
    DPs X pos (some k :: ks) (v :: vs) ((tk, tv) :: trs) := ⟨fun pins s σ H τ S Q I st hr q =>
  pairTrees_cons_walk (thn (hk.run pins s σ H τ S _ I st hr q) fun u s1 ⟨x, H1, I1, rx, e1, xd, S1, hr1, dx, q1⟩ => thn (hv.run pins s1 σ H1 τ S1 _ I1 (st.ev e1) hr1 q1) fun w2 s2 ⟨y, H2, I2, ry, e2, yd, S2, hr2, dy, q2⟩ =>
    thn (h.run pins s2 σ H2 τ S2 _ I2 (st.ev (e1.trans e2)) hr2 q2) fun ws s3 ⟨ps, H3, I3, rel, e3, ds, S3, hr3, dp, q3⟩ => ⟨(x, y) :: ps, H3, I3, .cons ⟨rx, ry⟩ rel, (e1.trans e2).trans e3, (xd, yd) :: ds, S3, hr3, .cons (dx.ev (e2.trans e3)) (dy.ev e3) dp, q3⟩)⟩
def kvMerge (kvs more : List (D × D)) : List (D × D) := more.foldl (fun acc kv => dPut acc kv.1 kv.2) kvs
def leafAll (ps : List (D × D)) : Bool := ps.all fun p => (leafK p.1).isSome
theorem relPs_K {K : KW} {H : Hp} : ∀ {ps : List (V × V)} {ds : List (D × D)}, RelPs K H ps ds → leafAll ds = true → ∃ es : List (Key × V), ps = es.map (fun kv => (L2.kV kv.1, kv.2)) ∧ RelKV kD K H es ds
  | _, _, .nil, _ => ⟨[], rfl, .nil⟩
  | _, _, .cons rk rv t, h => by
    simp only [leafAll, List.all_cons, Bool.and_eq_true] at h
    obtain ⟨k, ek⟩ := Option.isSome_iff_exists.mp h.1
    obtain ⟨es, e1, e2⟩ := relPs_K t h.2
    have := leafK_eq ek
    subst this
    have hkk := rk.kOk
    have e3 := rk.kV
    subst e3
    exact ⟨(k, _) :: es, by rw [List.map_cons, e1], .cons hkk rv e2⟩
theorem relKV_merge {K : KW} {H : Hp} : ∀ {more : List (Key × V)} {md : List (D × D)}, RelKV kD K H more md → ∀ {es : List (Key × V)} {ds : List (D × D)}, RelKV kD K H es ds → RelKV kD K H (mergeK es more) (kvMerge ds md)
  | _, _, .nil, _, _, h => h
  | _, _, .cons (k := k) hk r t, es, ds, h => by
    show RelKV kD K H (mergeK (putK es k _) _) (kvMerge (dPut ds (kD k) _) _)
    exact relKV_merge t (h.put (fun a b => kD_inj) k hk r)
def dDisp (trs : List (DTE × DTE)) : DTE := fun τ S Q => ∀ p, S p = none → dPairs trs τ (put S p (.dct [])) fun ps S1 => S1 p = some (.dct []) ∧ (leafAll ps = true ∧ ps.length ≤ 15) ∧ Q (.ref p) (put S1 p (.dct (kvMerge [] ps)))
theorem de_disp {pos : Pos} {keys : List (Option Expr)} {values : List Expr} {trs : List (DTE × DTE)} (h : DPs X pos keys values trs) (hall : keys.all (·.isSome) = true) (hl : keys.length = values.length) (h0 : keys ≠ [])
    (h15 : keys.length ≤ 15) : DE X (.Dict keys values pos) (dDisp trs) := ⟨fun pins s σ H τ S Q I st hr q => by
  have hn := I.hok.fresh (Nat.le_refl s.heap.objs.size)
  have I1 := I.laid (a := s.heap.objs.size) (o := .dK []) (h' := s.heap.push { cls := .type "dict", data := .dict #[] }) (t' := s.toks) (fun _ _ q => Heap.get?_push_of_some _ q) (Nat.le_refl _) (dk_empty s.heap I.big)
  have e0 : Ev H (upd H s.heap.objs.size (.dK [])) := .new hn
  refine wpAny_Dict_walk (knd := mixKind X.prog X.w) hall hl h0 h15 (thn (h.run pins _ σ _ τ _ _ I1 (st.ev e0) (hr.dct0 hn) (q _ (hr.free hn))) fun ws s2 ⟨ps, H2, I2, rel, e2, ds, S2, hr2, rp, q1, q2, q3⟩ => ?_)
  obtain ⟨es, ep, rk⟩ := relPs_K rp q2.1
  subst ep
  obtain ⟨rs, c, rk'⟩ := carries_of (P := X.prog) (w := X.w) rel
  obtain ⟨H3, c3, hr3, e3⟩ : ∃ H3, conv X.KW H2 H3 s.heap.objs.size ∧ HR X.KW H3 S2 ∧ H3 s.heap.objs.size = some (.dK []) := by
    rcases hr2 _ _ q1 with ⟨ks, h1, rk⟩ | ⟨ks, h1, rk⟩
    · cases rk; exact ⟨H2, .inl rfl, hr2, h1⟩
    · cases rk
      have c : conv X.KW H2 (upd H2 s.heap.objs.size (.dK [])) s.heap.objs.size := .inr (.inr ⟨h1, rfl⟩)
      exact ⟨_, c, c.hr hr2 q1, upd_same⟩
  have I3 := Inv.conv I2 c3
  obtain ⟨z, hd, vs0, r0, dd⟩ := dk_of I3.hok e3
  cases r0
  refine ⟨rs, c, dd, fun h' dd' hs => ?_⟩
  have hz : (mergeK [] es).length ≤ sizeLine := by
    have h1 := length_mergeK es []
    rw [List.length_nil] at h1
    have h2 : es.length ≤ 15 := by
      have := rk.length
      have := q2.2
      omega
    rw [sizeLine_eq]; omega
  have he : ∃ q, h'.get? s.heap.objs.size = some q := let ⟨q, _, _, hq, _⟩ := dd'; ⟨q, hq⟩
  have e4 : Ev H3 (upd H3 s.heap.objs.size (.dK (mergeK [] es))) := .upd e3 rfl
  refine ⟨.ref s.heap.objs.size, _, d_write I3 (by rw [e3]; exact True.intro) hs he (dk_new hz hd (rk'.merge .nil) dd'), rfl, .of (((e0.trans e2).trans c3.ev).trans e4) (hr3.chg (b := .dct (kvMerge [] ds)) e3 rfl (.inl ⟨_, upd_same, ?_⟩)) (.ref _) q3⟩
  exact (relKV_merge (rk.ev c3.ev) .nil).ev e4⟩
end
end DL
namespace DL
open PySem PySem.Spec PyProof.Rows L2
def seqOf (S : Sto) : D → Option (List D)
  | .tup ds => some ds
  | .fz ds => some ds
  | .ref a => match S a with | some (.lst ds) => some ds | _ => none
  | _ => none
def pairD : D → Option (D × D)
  | .tup [k, v] => some (k, v)
  | _ => none
def pairsD : List D → Option (List (D × D))
  | [] => some []
  | d :: ds => match pairD d, pairsD ds with | some p, some ps => some (p :: ps) | _, _ => none
def tupAll (ps : List (D × D)) : Bool := ps.all fun p => (leafT p.1).isSome
theorem pairD_eq {d : D} {p : D × D} (h : pairD d = some p) : d = .tup [p.1, p.2] := by
  unfold pairD at h
  split at h
  · cases h; rfl
  · cases h
section
variable {X : Cx} {pins : List (Addr × Obj)} {σ : L2.St} {H : Hp} {s : Shared} {S : Sto}
theorem tup_obj {a : Addr} {vs : List V} (I : Inv X pins σ H s) (t : TupAt X.KW H a vs) : ∃ its : List Value, Vals vs its ∧ PlainSeq "tuple" s.heap a its.toArray ∧ vs.length ≤ sizeLine := by
  rcases t with ⟨o, hd, h⟩ | ⟨o, its, n, h1, h2, h3, h4, h5, h6⟩
  · obtain ⟨e, z, its, r, o', h1, h2, n, h3⟩ := (show ObjOk X.prog X.w H s.heap a (.frz o (.tup vs)) from I.hok a _ h)
    rw [e] at h1; cases h1
    exact ⟨its, r, ⟨o, n, e, h2, hd, h3⟩, z⟩
  · exact ⟨its.toList, h6, ⟨o, n, I.kIn _ _ h1, h2, h3, h4⟩, by rw [h6.length]; simpa using h5⟩
theorem lst_obj {a : Addr} {vs : List V} (I : Inv X pins σ H s) (q : SqL X.K H a vs) : ∃ its : List Value, Vals vs its ∧ PlainSeq "list" s.heap a its.toArray ∧ vs.length ≤ sizeLine := by
  obtain ⟨its, rv, ⟨o, n, ho, hc, hd, hdat⟩, hz⟩ := I.list q
  exact ⟨its, rv, ⟨o, n, ho, hc, hd, hdat⟩, hz⟩
theorem seq_at {v : V} {u : Value} {d : D} {ds : List D} (I : Inv X pins σ H s) (hr : HR X.KW H S) (rv : RelV v u) (rd : RelD X.KW H v d) (h : seqOf S d = some ds) :
    ∃ a its vs, u = .ref a ∧ v = .ref a ∧ Vals vs its ∧ RelDs X.KW H vs ds ∧ vs.length ≤ sizeLine ∧ (PlainSeq "list" s.heap a its.toArray ∨ PlainSeq "tuple" s.heap a its.toArray) := by
  cases rd with
  | tup t r =>
    cases h; cases rv
    obtain ⟨its, a, b, c⟩ := tup_obj I t
    exact ⟨_, its, _, rfl, rfl, a, r, c, .inr b⟩
  | fz t r =>
    cases h; cases rv
    obtain ⟨its, a, b, c⟩ := lst_obj I t.sq
    exact ⟨_, its, _, rfl, rfl, a, r, c, .inl b⟩
  | ref a =>
    simp only [seqOf] at h
    split at h
    · rename_i ds' e
      cases h; cases rv
      obtain ⟨vs, h1, r⟩ := hr a _ e
      obtain ⟨its, x, b, c⟩ := lst_obj I (SqL.of h1)
      exact ⟨_, its, _, rfl, rfl, x, r, c, .inl b⟩
    · cases h
  | _ => cases h
theorem pairs_at (I : Inv X pins σ H s) : ∀ {vs : List V} {ds : List D} {its : List Value} {pd : List (D × D)}, Vals vs its → RelDs X.KW H vs ds → pairsD ds = some pd →
    ∃ (ps : List (Value × Value)) (kv : List (V × V)) (Ts : List Addr), its = Ts.map Value.ref ∧ Ts.length = ps.length ∧ VV kv ps ∧ RelPs X.KW H kv pd ∧ ∀ (j : Nat) (k v : Value), ps[j]? = some (k, v) → ∃ T, Ts[j]? = some T ∧ s.heap.IsTuple T #[k, v]
  | _, _, _, _, .nil, .nil, h => by cases h; exact ⟨[], [], [], rfl, rfl, .nil, .nil, fun j k v e => by simp at e⟩
  | _, _, _, _, .cons rv tv, .cons rd td, h => by
    simp only [pairsD] at h
    split at h
    · rename_i p ps' h1 h2
      cases h
      obtain ⟨ps, kv, Ts, e1, e2, e3, e4, e5⟩ := pairs_at I tv td h2
      have := pairD_eq h1
      subst this
      cases rd with
      | tup t r =>
        cases rv
        rename_i b vs'
        obtain ⟨its', r1, p1, _⟩ := I.tuple t.sq
        cases r with
        | cons ra r =>
        cases r with
        | cons rb r =>
        cases r
        cases r1 with
        | cons rka r1 =>
        cases r1 with
        | cons rkb r1 =>
        cases r1
        rename_i ka kb
        refine ⟨(ka, kb) :: ps, (_, _) :: kv, b :: Ts, by rw [List.map_cons, e1], by simp [e2], .cons ⟨rka, rkb⟩ e3, .cons ra rb e4, fun j k v e => ?_⟩
        cases j with
        | zero =>
          simp only [List.getElem?_cons_zero, Option.some.injEq, Prod.mk.injEq] at e
          obtain ⟨rfl, rfl⟩ := e
          exact ⟨b, rfl, p1⟩
        | succ j => simpa using e5 j k v (by simpa using e)
    · cases h
theorem pairItems_of {its : List Value} {ps : List (Value × Value)} {Ts : List Addr} (e1 : its = Ts.map Value.ref) (e2 : Ts.length = ps.length) (e5 : ∀ (j : Nat) (k v : Value), ps[j]? = some (k, v) → ∃ T, Ts[j]? = some T ∧ s.heap.IsTuple T #[k, v]) :
    PairItems s.heap its.toArray (fun j => Ts.getD j 0) ps := by
  refine ⟨by subst e1; simp [e2], fun j k v e => ?_⟩
  obtain ⟨T, h1, h2⟩ := e5 j k v e
  subst e1
  have : (fun j => Ts.getD j 0) j = T := by simp [List.getD, h1]
  rw [this]
  exact ⟨by simp [h1], .inl h2⟩
theorem dict_pairsK {E : Value → Shared → Prop} {a : Addr} {its : List Value} {vs : List V} {ds : List D} {pd : List (D × D)} {Q : Value → Shared → Prop} (hc : X.calm = true) (I : Inv X pins σ H s) (rv : Vals vs its) (rd : RelDs X.KW H vs ds) (hz : vs.length ≤ sizeLine)
    (hp : PlainSeq "list" s.heap a its.toArray ∨ PlainSeq "tuple" s.heap a its.toArray) (h : pairsD ds = some pd) (hl : leafAll pd = true)
    (k : ∀ p es s', H p = none → RelKV kD X.KW H es (kvMerge [] pd) → Inv X pins σ (upd H p (.dK es)) s' → Q (.ref p) s') : wpAny (model X.prog X.w) X.A (call (.type "dict") [.ref a]) Q E s := by
  obtain ⟨ps, kv, Ts, e1, e2, e3, e4, e5⟩ := pairs_at I rv rd h
  obtain ⟨es, ek, rk⟩ := relPs_K e4 hl
  subst ek
  obtain ⟨rs, c, rk'⟩ := carries_of (P := X.prog) (w := X.w) e3
  have pi := pairItems_of e1 e2 e5
  have hn : ps.length ≤ sizeLine := by
    have h1 := rv.length
    have h2 : its.length = ps.length := by rw [e1, List.length_map, e2]
    omega
  have have' : PairsHave (mixKind X.prog X.w) ps.length (PairRel ps) rs := by
    refine ⟨c.length, ?_⟩
    clear pi e5 e2 hn e3 rk' rk
    induction ps generalizing rs with
    | nil => intro i key v e; exact absurd (show ([] : List (Value × Value))[i]? = some (key, v) from e) (by simp)
    | cons p ps ih =>
      cases rs with
      | nil => exact c.elim
      | cons q rs =>
        obtain ⟨pk, pv⟩ := p
        obtain ⟨qk, qv⟩ := q
        obtain ⟨c1, c2, c3⟩ := c
        intro i key v e
        cases i with
        | zero =>
          have e : some (pk, pv) = some (key, v) := e
          cases e
          exact ⟨qk, by rw [c2]; rfl, c1⟩
        | succ i => exact ih rs c3 i key v e
  have fin : ∀ h' tk, h'.DictOf (mixKind X.prog X.w) s.heap.objs.size (merged [] rs) → (∀ b o, b ∉ ([] : List Addr) → s.heap.get? b = some o → h'.get? b = some o) → Q (.ref s.heap.objs.size) { s with heap := h', toks := tk } := by
    intro h' tk hd' hk
    have hm : (s.heap.objs.size == sysModules) = false := beq_eq_false_iff_ne.mpr (Nat.ne_of_gt I.big)
    have hlen : (mergeK [] es).length ≤ sizeLine := by
      refine Nat.le_trans (length_mergeK es []) ?_
      have : es.length = rs.length := rk'.length
      have := c.length
      simp only [List.length_nil, Nat.zero_add]
      omega
    exact k _ _ _ (I.hok.fresh (Nat.le_refl _)) (relKV_merge rk .nil) (I.laid (t' := tk) (fun b o e => hk b o (by simp) e) (Nat.le_refl _) (show ObjOk X.prog X.w _ _ _ (.dK (mergeK [] es)) from ⟨hlen, hm, merged [] rs, KV.merge rk' .nil, hd'⟩))
  rcases hp with hp | hp
  · exact PySem.call_dict_pairs (PairArg.list (prog := X.prog) (w := X.w) a its.toArray (fun j => Ts.getD j 0) ps) (I.ok.hd hc) ⟨hp, pi⟩ have' hn fin
  · exact PySem.call_dict_pairs (PairArg.tuple (prog := X.prog) (w := X.w) a its.toArray (fun j => Ts.getD j 0) ps) (I.ok.hd hc) ⟨hp, pi⟩ have' hn fin
theorem relPs_T {K : KW} : ∀ {ps : List (V × V)} {ds : List (D × D)} {vs : List (Value × Value)}, RelPs K H ps ds → VV ps vs → tupAll ds = true →
    ∃ xs : List (List Key × Addr × Value), RelTV K H xs ds ∧ xs.length = vs.length ∧ ∀ (i : Nat) (k v : Value), vs[i]? = some (k, v) → ∃ (kk : List Key) (b : Addr), xs[i]? = some (kk, b, v) ∧ k = Value.ref b
  | _, _, _, .nil, .nil, _ => ⟨[], .nil, rfl, fun i k v e => by simp at e⟩
  | _, _, _, .cons rk rv t, .cons rr tt, h => by
    simp only [tupAll, List.all_cons, Bool.and_eq_true] at h
    obtain ⟨k, ek⟩ := Option.isSome_iff_exists.mp h.1
    obtain ⟨xs, e1, e2, e3⟩ := relPs_T t tt h.2
    have := leafT_eq ek
    subst this
    obtain ⟨b, eb, tb⟩ := rk.kT
    subst eb
    obtain ⟨r1, r2⟩ := rr
    have r1 : _ = Value.ref b := r1
    refine ⟨(k, b, _) :: xs, .cons tb r2 rv e1, by simp [e2], fun i k' v e => ?_⟩
    cases i with
    | zero =>
      simp only [List.getElem?_cons_zero, Option.some.injEq] at e
      subst e
      exact ⟨k, b, rfl, r1⟩
    | succ i => simpa using e3 i k' v (by simpa using e)
theorem relTV_all {K : KW} : ∀ {xs : List (List Key × Addr × Value)} {ds : List (D × D)}, RelTV K H xs ds → ∀ {ys : List (List Key × Addr × Value)} {es : List (D × D)}, RelTV K H ys es → RelTV K H (storedAllH ys xs) (kvMerge es ds)
  | _, _, .nil, _, _, h => h
  | _, _, .cons (k := k) (b := b) (u := u) tb ru rd t, ys, es, h => by
    show RelTV K H (storedAllH (storedH ys k b u) _) (kvMerge (dPut es (kTD k) _) _)
    exact relTV_all t (h.put k tb ru rd)
theorem dict_pairsT {E : Value → Shared → Prop} {a : Addr} {its : List Value} {vs : List V} {ds : List D} {pd : List (D × D)} {Q : Value → Shared → Prop} (hu : X.A.units + 2 < cLine) (hc : X.calm = true) (I : Inv X pins σ H s) (rv : Vals vs its) (rd : RelDs X.KW H vs ds) (hz : vs.length ≤ sizeLine)
    (hp : PlainSeq "list" s.heap a its.toArray ∨ PlainSeq "tuple" s.heap a its.toArray) (h : pairsD ds = some pd) (hl : tupAll pd = true)
    (k : ∀ p xs s', H p = none → RelTV X.KW H xs (kvMerge [] pd) → Inv X pins σ (upd H p (TDn X.KW p xs)) s' → Q (.ref p) s') : wpAny (model X.prog X.w) X.A (call (.type "dict") [.ref a]) Q E s := by
  obtain ⟨ps, kv, Ts, e1, e2, e3, e4, e5⟩ := pairs_at I rv rd h
  obtain ⟨xs, rk, el, ex⟩ := relPs_T e4 e3 hl
  have pi := pairItems_of e1 e2 e5
  have hn : ps.length ≤ sizeLine := by
    have h1 := rv.length
    have h2 : its.length = ps.length := by rw [e1, List.length_map, e2]
    omega
  have have' : PairsHaveH (tupleKind (mixKind X.prog X.w)) ps.length (PairRel ps) xs := ⟨el, ex⟩
  have keys := tdn_keys I rk
  have stay : KeysStay (tupleKind (mixKind X.prog X.w)) s.heap s.heap.objs.size [] xs := by
    intro h' hk x hx
    obtain ⟨o, arr, n, g1, g2, g3, g4⟩ := keys x hx
    exact ⟨o, arr, n, hk _ _ (Nat.ne_of_lt (Heap.lt_size g1)) (by simp) g1, g2, g3, g4⟩
  have fin : ∀ h' tk, h'.DictOfH (tupleKind (mixKind X.prog X.w)) s.heap.objs.size (storedAllH [] xs) → (∀ b o, b ∉ ([] : List Addr) → s.heap.get? b = some o → h'.get? b = some o) → Q (.ref s.heap.objs.size) { s with heap := h', toks := tk } := by
    intro h' tk hd' hk
    have hm : (s.heap.objs.size == sysModules) = false := beq_eq_false_iff_ne.mpr (Nat.ne_of_gt I.big)
    have hlen := storedAllH_length xs []
    obtain ⟨o, es, ep, g1, g2, g3, g4, _, g5⟩ := hd'
    refine k _ _ _ (I.hok.fresh (Nat.le_refl _)) (relTV_all rk .nil) (I.laid (o := TDn X.KW s.heap.objs.size (storedAllH [] xs)) (t' := tk) (fun b o e => hk b o (by simp) e) (Nat.le_refl _) ⟨⟨⟨?_, hm⟩, o, es, ep, g1, g2, g3, g4, g5⟩, ⟨o, g1⟩, fun h1 h2 ⟨z, o, es, ep, q, r⟩ k => ⟨z, o, es, ep, k _ q, r⟩⟩)
    simp only [List.length_nil, Nat.zero_add] at hlen
    omega
  rcases hp with hp | hp
  · exact PySem.call_dict_pairsH (PairArg.list (prog := X.prog) (w := X.w) a its.toArray (fun j => Ts.getD j 0) ps) (I.ok.hd hc) (show _ < _ by show X.A.in1.units + 1 < cLine; simp [Around.in1]; omega) ⟨hp, pi⟩ have' stay hn fin
  · exact PySem.call_dict_pairsH (PairArg.tuple (prog := X.prog) (w := X.w) a its.toArray (fun j => Ts.getD j 0) ps) (I.ok.hd hc) (show _ < _ by show X.A.in1.units + 1 < cLine; simp [Around.in1]; omega) ⟨hp, pi⟩ have' stay hn fin
def wDict : List D → Sto → KD → Prop := fun xs S Q => match xs with
  | [] => ∀ p, S p = none → Q (.ref p) (put S p (.dct []))
  | [d] => match seqOf S d with
    | some ds => onS (pairsD ds) fun ps => (leafAll ps || tupAll ps) = true ∧ ∀ p, S p = none → Q (.ref p) (put S p (.dct (kvMerge [] ps)))
    | none => match d with
      | .ref a => match S a with
        | some (.dct kvs) => kvs ≠ [] ∧ leafAll kvs = true ∧ ∀ p, S p = none → Q (.ref p) (put S p (.dct kvs))
        | _ => False
      | _ => False
  | _ => False
theorem dcall_dict (hu : X.A.units + 2 < cLine) (hc : X.calm = true) : DCall X (.type "dict") wDict := by
  intro pins s σ H xs us ds S Q I rv hr rd q
  unfold wDict at q
  split at q
  · cases rd; cases rv
    have n := I.hok.fresh (Nat.le_refl s.heap.objs.size)
    exact FK.call_dict0 ⟨.ref s.heap.objs.size, _, I.laid (a := s.heap.objs.size) (o := .dK []) (t' := s.toks) (fun _ _ q => Heap.get?_push_of_some _ q) (Nat.le_refl _) (dk_empty s.heap I.big), rfl, .of (.new n) (hr.dct0 n) (.ref _) (q _ (hr.free n))⟩
  · rename_i d
    obtain ⟨v, rfl, r⟩ := rd.one
    cases rv with
    | cons rv t =>
    cases t
    split at q
    · rename_i ds e
      obtain ⟨pd, ep, q1, q2⟩ := onS.out q
      obtain ⟨a, its, vs, rfl, rfl, z1, z2, z3, z4⟩ := seq_at I hr rv r e
      by_cases hl : leafAll pd = true
      · exact dict_pairsK hc I z1 z2 z3 z4 ep hl fun p es s' n rk I' => ⟨.ref p, _, I', rfl, .of (.new n) (hr.newO (ao := .dct _) n (.inl ⟨es, upd_same, rk.ev (.new n)⟩)) (.ref p) (q2 p (hr.free n))⟩
      · have ht : tupAll pd = true := by simpa [hl] using q1
        exact dict_pairsT hu hc I z1 z2 z3 z4 ep ht fun p es s' n rk I' => ⟨.ref p, _, I', rfl, .of (.new n) (hr.newO (ao := .dct _) n (.inr ⟨es, upd_same, rk.ev (.new n)⟩)) (.ref p) (q2 p (hr.free n))⟩
    · split at q
      · rename_i a _
        cases r
        cases rv
        split at q
        · rename_i kvs e
          obtain ⟨q1, q2, q3⟩ := q
          rcases hr a _ e with ⟨es, h1, rk⟩ | ⟨es, h1, rk⟩
          · exact d_copyOf I (.inl h1) fun p s' n I' => ⟨.ref p, _, I', rfl, .of (.new n) (hr.newO (ao := .dct _) n (.inl ⟨es, upd_same, rk.ev (.new n)⟩)) (.ref p) (q3 p (hr.free n))⟩
          · cases rk with
            | nil => exact absurd rfl q1
            | cons _ _ _ _ => simp [leafAll, leafK_kTD] at q2
        · exact q.elim
      · exact q.elim
  · exact q.elim
end
end DL
namespace DL
open PySem PySem.Spec PyProof.Rows L2
def EntAt (K : KW) (H : Hp) (es : Array DictEntry) (kvs : List (D × D)) : Prop :=
  es.size = kvs.length ∧ ∀ (i : Nat) (en : DictEntry) (kd vd : D), es[i]? = some en → kvs[i]? = some (kd, vd) → (∃ k, RelV k en.key ∧ RelD K H k kd) ∧ ∃ v, RelV v en.val ∧ RelD K H v vd
section
variable {X : Cx} {pins : List (Addr × Obj)} {σ : L2.St} {H : Hp} {s : Shared}
theorem relKV_get {κ : Type} {f : κ → D} {K : KW} : ∀ {es : List (κ × V)} {kvs : List (D × D)}, RelKV f K H es kvs → ∀ {i : Nat} {kd vd : D}, kvs[i]? = some (kd, vd) → ∃ k v, es[i]? = some (k, v) ∧ kd = f k ∧ (∀ x, f k = .str x → PyData.strOk x = true) ∧ RelD K H v vd
  | _, _, .nil, i, kd, vd, e => by simp at e
  | _, _, .cons hk r t, 0, kd, vd, e => by
    simp only [List.getElem?_cons_zero, Option.some.injEq, Prod.mk.injEq] at e
    obtain ⟨rfl, rfl⟩ := e
    exact ⟨_, _, rfl, rfl, hk, r⟩
  | _, _, .cons hk r t, i + 1, kd, vd, e => by
    obtain ⟨k, v, h⟩ := relKV_get t (i := i) (by simpa using e)
    exact ⟨k, v, by simpa using h⟩
theorem relTV_get {K : KW} : ∀ {xs : List (List Key × Addr × Value)} {kvs : List (D × D)}, RelTV K H xs kvs → ∀ {i : Nat} {kd vd : D}, kvs[i]? = some (kd, vd) → ∃ k b u v, xs[i]? = some (k, b, u) ∧ kd = kTD k ∧ KeyT K H b k ∧ RelV v u ∧ RelD K H v vd
  | _, _, .nil, i, kd, vd, e => by simp at e
  | _, _, .cons tb ru r t, 0, kd, vd, e => by
    simp only [List.getElem?_cons_zero, Option.some.injEq, Prod.mk.injEq] at e
    obtain ⟨rfl, rfl⟩ := e
    exact ⟨_, _, _, _, rfl, rfl, tb, ru, r⟩
  | _, _, .cons tb ru r t, i + 1, kd, vd, e => by
    obtain ⟨k, b, u, v, h⟩ := relTV_get t (i := i) (by simpa using e)
    exact ⟨k, b, u, v, by simpa using h⟩
theorem fdc_at {S : Sto} {a : Addr} {o : Obj} {kvs : List (D × D)} (I : Inv X pins σ H s) (hr : HR X.KW H S) (e : S a = some (.fdc o kvs)) :
    (a == sysModules) = false ∧ s.heap.get? a = some o ∧ o.ExactDict ∧ ∃ es ep, o.data = .dict es ep ∧ EntAt X.KW H es kvs := by
  rcases hr a _ e with ⟨ks, h1, rk⟩ | ⟨xs, h1, rk⟩
  · obtain ⟨z, hd, vs, kv, o', es, ep, ho, hx, hdt, hk, hp, hn⟩ := dk_rd I.hok (.inr ⟨_, h1⟩)
    have hg : s.heap.get? a = some o := (show ObjOk X.prog X.w H s.heap a (.frz o (.dK ks)) from I.hok a _ h1).1
    rw [hg] at ho; cases ho
    have hsz : es.size = kvs.length := by
      have l1 := hp.length
      have l2 : ks.length = vs.length := Paired.length kv
      have l3 := rk.length
      rw [Array.length_toList] at l1
      omega
    refine ⟨hd, hg, hx, es, ep, hdt, hsz, fun i en kd vd e1 e2 => ?_⟩
    obtain ⟨k, v, q1, rfl, hs, q3⟩ := relKV_get rk e2
    obtain ⟨u, q4, q5⟩ := kv_get kv q1
    obtain ⟨q6, q7⟩ := hp.get? (e := en) (by simpa using e1) q4
    refine ⟨⟨L2.kV k, relV_key q6, ?_⟩, v, by rw [q7]; exact q5, q3⟩
    cases k with
    | inl i => exact .int i
    | inr x => exact .str x (hs x rfl)
  · obtain ⟨z, hd, o', es, ep, ho, hx, hdt, hes, _, _⟩ := tdn_rd I (.inr ⟨_, h1⟩) rk
    have hg : s.heap.get? a = some o := (show ObjOk X.prog X.w H s.heap a (.frz o (TDn X.KW a xs)) from I.hok a _ h1).1
    rw [hg] at ho; cases ho
    refine ⟨hd, hg, hx, es, ep, hdt, by rw [size_of_entries hes, rk.length], fun i en kd vd e1 e2 => ?_⟩
    obtain ⟨k, b, u, v, q1, rfl, q3, q4, q5⟩ := relTV_get rk e2
    have q := entry_at hes i
    rw [e1, q1] at q
    have q' := Option.some.inj q
    exact ⟨⟨.ref b, by rw [q']; rfl, .tup q3.1 q3.2⟩, v, by rw [q']; exact q4, q5⟩
def dLockS (i : Nat) (t : DTS) : DTS := fun Dn τ S => match τ[i]? with
  | some (some (.ref d)) => match S d with
    | some (.dct kvs) => ∀ od, t ⟨fun τ' S' => S' d = some (.fdc od kvs) ∧ Dn.nx τ' (put S' d (.dct kvs)), fun v S' => S' d = some (.fdc od kvs) ∧ Dn.rt v (put S' d (.dct kvs)), fun τ' S' => S' d = some (.fdc od kvs) ∧ Dn.bk τ' (put S' d (.dct kvs)), fun τ' S' => S' d = some (.fdc od kvs) ∧ Dn.ct τ' (put S' d (.dct kvs))⟩ τ (put S d (.fdc od kvs))
    | _ => t Dn τ S
  | _ => t Dn τ S
def dLockE (i : Nat) (t : DTE) : DTE := fun τ S Q => match τ[i]? with
  | some (some (.ref d)) => match S d with
    | some (.dct kvs) => ∀ od, t τ (put S d (.fdc od kvs)) fun v S' => S' d = some (.fdc od kvs) ∧ Q v (put S' d (.dct kvs))
    | _ => t τ S Q
  | _ => t τ S Q
theorem lock_hr {K : KW} {S : Sto} {d : Addr} {kvs : List (D × D)} (hr : HR K H S) (e : S d = some (.dct kvs)) : ∃ u, H d = some u ∧ Mut (some u) ∧ stays u = false ∧ ∀ od, Ev H (upd H d (.frz od u)) ∧ HR K (upd H d (.frz od u)) (put S d (.fdc od kvs)) := by
  rcases hr d _ e with ⟨es, h1, rk⟩ | ⟨xs, h1, rk⟩
  · exact ⟨_, h1, trivial, rfl, fun od => ⟨.upd h1 rfl, hr.chg (b := .fdc od kvs) h1 rfl (.inl ⟨es, upd_same, rk.ev (.upd h1 rfl)⟩)⟩⟩
  · exact ⟨_, h1, trivial, rfl, fun od => ⟨.upd h1 rfl, hr.chg (b := .fdc od kvs) h1 rfl (.inr ⟨xs, upd_same, rk.ev (.upd h1 rfl)⟩)⟩⟩
theorem unlock_hr {K : KW} {S : Sto} {d : Addr} {od : Obj} {kvs : List (D × D)} (hr : HR K H S) (e : S d = some (.fdc od kvs)) : ∃ u, H d = some (.frz od u) ∧ Ev H (upd H d u) ∧ HR K (upd H d u) (put S d (.dct kvs)) := by
  rcases hr d _ e with ⟨es, h1, rk⟩ | ⟨xs, h1, rk⟩
  · exact ⟨_, h1, .upd h1 rfl, hr.chg (b := .dct kvs) h1 rfl (.inl ⟨es, upd_same, rk.ev (.upd h1 rfl)⟩)⟩
  · exact ⟨_, h1, .upd h1 rfl, hr.chg (b := .dct kvs) h1 rfl (.inr ⟨xs, upd_same, rk.ev (.upd h1 rfl)⟩)⟩
theorem ds_lock (i : Nat) {st : Stmt} {t : DTS} (h : DSm X st t) : DSm X st (dLockS i t) := by
  refine ⟨fun pins s σ H τ S Dn I st hr hw => ?_⟩
  unfold dLockS at hw
  split at hw
  · rename_i d _
    split at hw
    · rename_i kvs e
      obtain ⟨u, hd, mu, _, k⟩ := lock_hr hr e
      obtain ⟨od, I1⟩ := I.lock hd mu
      obtain ⟨e1, hr1⟩ := k od
      refine thn (h.run pins s σ _ τ _ _ I1 (st.ev e1) hr1 (hw od)) fun f s1 q => ?_
      cases f with
      | next =>
        obtain ⟨σ', H', I2, ev, τ', S', hr', st', eS, q⟩ := q
        obtain ⟨u', hd', ev', hr2⟩ := unlock_hr hr' eS
        exact ⟨σ', _, I2.unlock hd' (I.nofrz hd mu), (e1.trans ev).trans ev', τ', _, hr2, st'.ev ev', q⟩
      | brk =>
        obtain ⟨σ', H', I2, ev, τ', S', hr', st', eS, q⟩ := q
        obtain ⟨u', hd', ev', hr2⟩ := unlock_hr hr' eS
        exact ⟨σ', _, I2.unlock hd' (I.nofrz hd mu), (e1.trans ev).trans ev', τ', _, hr2, st'.ev ev', q⟩
      | cont =>
        obtain ⟨σ', H', I2, ev, τ', S', hr', st', eS, q⟩ := q
        obtain ⟨u', hd', ev', hr2⟩ := unlock_hr hr' eS
        exact ⟨σ', _, I2.unlock hd' (I.nofrz hd mu), (e1.trans ev).trans ev', τ', _, hr2, st'.ev ev', q⟩
      | ret v =>
        obtain ⟨x, σ', H', I2, r, ev, dv, S', hr', rv, eS, q⟩ := q
        obtain ⟨u', hd', ev', hr2⟩ := unlock_hr hr' eS
        exact ⟨x, σ', _, I2.unlock hd' (I.nofrz hd mu), r, (e1.trans ev).trans ev', dv, _, hr2, rv.ev ev', q⟩
    · exact h.run pins s σ H τ S Dn I st hr hw
  · exact h.run pins s σ H τ S Dn I st hr hw
theorem de_lock (i : Nat) {e : Expr} {t : DTE} (h : DE X e t) : DE X e (dLockE i t) := by
  refine ⟨fun pins s σ H τ S Q I st hr hw => ?_⟩
  unfold dLockE at hw
  split at hw
  · rename_i d _
    split at hw
    · rename_i kvs e
      obtain ⟨u, hd, mu, _, k⟩ := lock_hr hr e
      obtain ⟨od, I1⟩ := I.lock hd mu
      obtain ⟨e1, hr1⟩ := k od
      refine thn (h.run pins s σ _ τ _ _ I1 (st.ev e1) hr1 (hw od)) fun v s1 ⟨x, H', I2, r, ev, dv, S', hr', rv, eS, q⟩ => ?_
      obtain ⟨u', hd', ev', hr2⟩ := unlock_hr hr' eS
      exact ⟨x, _, I2.unlock hd' (I.nofrz hd mu), r, (e1.trans ev).trans ev', dv, _, hr2, rv.ev ev', q⟩
    · exact h.run pins s σ H τ S Q I st hr hw
  · exact h.run pins s σ H τ S Q I st hr hw
theorem fdc_raw {S : Sto} {a : Addr} {o : Obj} {kvs : List (D × D)} {es : Array DictEntry} {ep : Nat} (hod : o.data = .dict es ep) (I : Inv X pins σ H s) (hr : HR X.KW H S) (e : S a = some (.fdc o kvs)) :
    s.heap.DictRaw a es ep ∧ EntAt X.KW H es kvs := by
  obtain ⟨_, hg, hx, es', ep', hdt, ea⟩ := fdc_at I hr e
  obtain ⟨rfl, rfl⟩ := dict_ep hod hdt
  exact ⟨⟨o, hg, hx, hdt⟩, ea⟩
theorem turnD_keys {P : Program} {w : World} {K : KW} {tg : Expr} {H0 : Hp} {kvs : List (D × D)} {d it : Addr} {o : Obj} {es : Array DictEntry} {ep : Nat} (hod : o.data = .dict es ep) (hsz : es.size = kvs.length) (hK : K.P = P ∧ K.w = w) :
    Turn P w K.fr tg (ItD K H0 (kvs.map (·.1)) fun S' => S' d = some (.fdc o kvs)) [it] it (fun i h => h.IsKeyIter it d i kvs.length ep) where
  mem := by simp
  obj := fun i h st b hb => by
    obtain rfl : b = it := by simpa using hb
    obtain ⟨oi, e, c, dd⟩ := st
    exact ⟨oi, e, fun v z => by rw [dd] at z; cases z⟩
  keep := fun i h h' st k => st.at fun oi e => k it (by simp) oi e
  item := by
    intro X hP hw hKK hc i pins s σ H E I hf st hg
    obtain ⟨Kf, KP, Kw⟩ := K
    change X.K = Kf at hKK
    obtain ⟨hP', hw'⟩ := hK
    change KP = P at hP'
    change Kw = w at hw'
    subst hP hw hKK hP' hw'
    obtain ⟨ev, ⟨S, hr, hs⟩, hi⟩ := hg
    rw [List.length_map] at hi
    obtain ⟨f0, f1, f2, f3, f4, f5⟩ := hf it (by simp)
    obtain ⟨raw, ea⟩ := fdc_raw hod I hr hs
    rw [← hsz] at st hi
    have hi2 : i < kvs.length := by rw [← hsz]; exact hi
    refine wpAny_pyNext_keys_item_raw st raw hi fun h' st' sb => ?_
    have I1 : Inv X pins σ H { s with heap := h' } := I.turned (t' := s.toks) (fun b ob hb e => (sb.2 b hb).trans e) f0 f1 f3 f4 f5
    obtain ⟨oi, e, c, dd⟩ := id st'
    obtain ⟨⟨k, rk, dk⟩, _⟩ := ea.2 i es[i] (kvs[i]).1 (kvs[i]).2 (Array.getElem?_eq_getElem hi) (List.getElem?_eq_getElem hi2)
    refine ⟨_, rfl, go_of (s := { s with heap := h' }) e c dd (by decide) ⟨k, H, I1, rk, ⟨.refl _, fun _ z => z, (kvs[i]).1, by simp [hi2], dk⟩, ?_, fun b hb => (hf b hb).1⟩⟩
    rw [← hsz]; exact st'
  done := by
    intro X hP hw hKK hc i pins s σ H E I hf st hg
    obtain ⟨Kf, KP, Kw⟩ := K
    change X.K = Kf at hKK
    obtain ⟨hP', hw'⟩ := hK
    change KP = P at hP'
    change Kw = w at hw'
    subst hP hw hKK hP' hw'
    obtain ⟨ev, ⟨S, hr, hs⟩, hi⟩ := hg
    rw [List.length_map] at hi
    obtain ⟨f0, f1, f2, f3, f4, f5⟩ := hf it (by simp)
    obtain ⟨raw, ea⟩ := fdc_raw hod I hr hs
    rw [← hsz] at st
    exact wpAny_pyNext_keys_end_raw (I.ok.hd hc) st raw (by omega) fun h' eb => ⟨rfl, I.turned (t' := s.toks) (fun b ob hb e => eb b ob hb e) f0 f1 f3 f4 f5⟩
  self := fun A i s Q E st h => by
    refine wpAny_pyIter_slot st.typeIs F.slot_dict_keyiterator_iter (wpAny_call_entry F.slot_dict_keyiterator_iter st.typeIs F.entry_dict_keyiterator_iter ?_ (F.args_dict_keyiterator_iter_1 _))
    show wpAny _ _ (ret (.ref it)) _ _ s
    exact wpAny_pure ⟨_, rfl, "dict_keyiterator", _, st.typeIs, F.slot_dict_keyiterator_next.lookup, h⟩
def fdcOf (S : Sto) : D → Option (Addr × Obj × List (D × D))
  | .ref a => match S a with | some (.fdc o kvs) => some (a, o, kvs) | _ => none
  | _ => none
def wIterA : WIt := fun d S R => match fdcOf S d with
  | some (a, o, kvs) => R (kvs.map (·.1)) (fun S' => S' a = some (.fdc o kvs)) S
  | none => wIter d S R
theorem fdcOf_eq {S : Sto} {d : D} {a : Addr} {o : Obj} {kvs : List (D × D)} (h : fdcOf S d = some (a, o, kvs)) : d = .ref a ∧ S a = some (.fdc o kvs) := by
  unfold fdcOf at h
  split at h
  · split at h
    · cases h; exact ⟨rfl, by assumption⟩
    · cases h
  · cases h
variable {tg : Expr}
theorem di_any {e : Expr} {te : DTE} (he : DE X e te) : DI X tg e (diVal te wIterA) := ⟨⟨fun pins s σ H R I ⟨τ, S, Rd, st, hr, q, k⟩ =>
  thn (he.run pins s σ H τ S _ I st hr q) fun u s1 ⟨v, H1, I1, rv, e1, d, S1, hr1, rd, q1⟩ => by
    unfold wIterA at q1
    simp only at q1
    split at q1
    · rename_i a o kvs ef
      obtain ⟨rfl, eS⟩ := fdcOf_eq ef
      cases rd; cases rv
      obtain ⟨hs, hg, hx, es, ep, hdt, ea⟩ := fdc_at I1 hr1 eS
      refine iter_keys hs hg hx hdt (pie_of e1 hr1 (itP_one (tk := s1.toks) I1 _ (turnD_keys (K := X.KW) hdt ea.1 ⟨rfl, rfl⟩) ⟨_, Heap.get?_push_size _ rfl, rfl, ?_⟩) q1 k)
      rw [ea.1] <;> rfl
    · exact wpAny_mono (iter_seq I1 rv rd hr1 q1) (fun itv s2 ⟨ds, stab, h, rr⟩ => pie_of e1 hr1 h rr k) fun _ _ z => z⟩⟩
end
end DL
namespace DL
open PySem PySem.Spec PyProof.Rows L2
theorem relDs_ints (K : KW) (H : Hp) (ns : List Int) : RelDs K H (ns.map V.int) (ns.map D.int) := .ints ns
structure Start (K : PySem.W.Frag) (s : Shared) (a : Addr) (ns : List Int) (H : Hp) : Prop where
  one : ∀ b, H b ≠ none → b = a ∧ ∃ o, H b = some (.frz o (.lst (ns.map V.int)))
  out : H a ≠ none → K.lookup a = none
theorem start_env {P : Program} {w : World} {K : PySem.W.Frag} {mg mb : Str → Option Value} {a : Addr} {s : Shared} {vs : List Value} {ns : List Int} {H : Hp} (KX : K.In s.heap) (hns : s.heap.Ns mainGlobals mg) (hb : s.heap.Ns builtinsNs mb) (hbb : ∀ x : Str, x ≠ "__name__" → mb x = bootBuiltins x)
    (hlim : s.heap.NoLimit) (hg : s.gens = #[]) (ha : s.heap.get? a = some { cls := .type "list", data := .seq vs.toArray }) (St : Start K s a ns H) (hok : HOk P w H s.heap) : Env0 P w K mg (hidT s.heap H) callerA [] s H ∧ K.In (hidT s.heap H) ∧ (hidT s.heap H).Ns mainGlobals mg := by
  have free : ∀ {b : Addr} {o : Obj}, s.heap.get? b = some o → (∀ xs n, o.data = .seq xs n → False) → H b = none := fun {b o} e d => by
    cases q : H b with
    | none => rfl
    | some u =>
      obtain ⟨rfl, _⟩ := St.one b (by rw [q]; simp)
      rw [ha] at e; cases e
      exact (d _ _ rfl).elim
  have ns_in : ∀ {b : Addr} {m : Str → Option Value}, s.heap.Ns b m → (hidT s.heap H).Ns b m := fun ⟨o, es, ep, e, d, r⟩ => ⟨o, es, ep, hidT_get e (free e fun xs n z => by rw [d] at z; cases z), d, r⟩
  have k_in : K.In (hidT s.heap H) := fun b o e => hidT_get (KX b o e) (by
    cases q : H b with
    | none => rfl
    | some u =>
      obtain ⟨rfl, _⟩ := St.one b (by rw [q]; simp)
      rw [St.out (by rw [q]; simp)] at e; cases e)
  obtain ⟨mc, l1, l2⟩ := hlim
  exact ⟨⟨rfl, ⟨k_in, ns_in hns, ⟨mb, ns_in hb, hbb⟩, mc, ns_in l1, l2⟩, fun b o e => of_hidT e, Nat.le_of_eq (hidT_size _ _), trivial, fun b hb => (nomatch hb), hok, .of_eq hg⟩, k_in, ns_in hns⟩
theorem call_ends {P : Program} {w : World} {K : PySem.W.Frag} {a : Addr} {s s' : Shared} {ns : List Int} {H : Hp} {r : Result} (St : Start K s a ns H) (hok : HOk P w H s.heap)
    (h : CR (CX P w) [] P w H s (Up ⟨K, P, w⟩ H fun d _ => d = .bl true) (UpX ⟨K, P, w⟩ H noX) r s') : r = .ok (.ret (.bool true)) ∧ OldK s.heap s'.heap ∧ s'.os = s.os ∧ AllBare s'.gens := by
  cases r with
  | error e =>
    obtain ⟨_, _, _, _, _, _, _, _, _, _, _, _, _, _, _, _, _, z⟩ := (show CX P w [] H s (UpX ⟨K, P, w⟩ H noX) e s' from h)
    exact z.elim
  | ok fl =>
    cases fl with
    | next => exact h.elim
    | brk => exact h.elim
    | cont => exact h.elim
    | ret u =>
      obtain ⟨v, H', os, bare, un, hok', rv, _, d, S', _, rd, q⟩ := h
      subst q
      cases rd
      cases rv
      refine ⟨rfl, OldK.of_keep fun b o e => ?_, os, bare⟩
      by_cases n : H b = none
      · exact un.keep b o e n (fun z => nomatch z) (fun z => nomatch z)
      · obtain ⟨_, ob, z⟩ := St.one b n
        have e1 := (show ObjOk P w H s.heap b (.frz ob (.lst (ns.map V.int))) from hok b _ z).1
        have e2 := (show ObjOk P w H' s'.heap b (.frz ob (.lst (ns.map V.int))) from hok' b _ (un.frzs b ob _ z)).1
        rw [e] at e1; cases e1
        exact e2
theorem entry {P : Program} {w : World} {K : PySem.W.Frag} {mg mb : Str → Option Value} {k : Nat} {fa a : Addr} {fd : FuncData} {x : Str} {sp : DSp} {s : Shared} {vs : List Value} {ns : List Int}
    (KX : K.In s.heap) (hns : s.heap.Ns mainGlobals mg) (hb : s.heap.Ns builtinsNs mb) (hbb : ∀ x : Str, x ≠ "__name__" → mb x = bootBuiltins x) (hlim : s.heap.NoLimit) (hg : s.gens = #[])
    (ha : s.heap.get? a = some { cls := .type "list", data := .seq vs.toArray }) (hi : IntsAre vs ns) (hl : ns.length ≤ sizeLine) (hr : Room k callerA)
    (F : ∀ base : Heap, K.In base → base.Ns mainGlobals mg → FnD P w K mg base k fa fd [x] sp) (hbind : ∀ (s : Shared) (u : Value), BindsTo s fd ⟨[u], []⟩ [(x, u)])
    (hsp : sp [.fz (ns.map D.int)] (fun _ => none) (fun d _ => d = .bl true) noX) :
    codeAny (model P w) callerA (.call (.ref fa) ⟨[.ref a], []⟩) (fun r s' => r = .ok (.ret (.bool true)) ∧ OldK s.heap s'.heap ∧ s'.os = s.os ∧ AllBare s'.gens) s := by
  have rv := vals_ints hi
  have go : ∀ H : Hp, Start K s a ns H → FzAt ⟨K, P, w⟩ H a (ns.map V.int) → HOk P w H s.heap → codeAny (model P w) callerA (.call (.ref fa) ⟨[.ref a], []⟩) (fun r s' => r = .ok (.ret (.bool true)) ∧ OldK s.heap s'.heap ∧ s'.os = s.os ∧ AllBare s'.gens) s := by
    intro H St hz hok
    obtain ⟨e0, b1, b2⟩ := start_env KX hns hb hbb hlim hg ha St hok
    exact codeAny_mono ((F _ b1 b2).run callerA [] s H ⟨[.ref a], []⟩ [.ref a] [.ref a] _ _ _ _ hr rfl e0 (hbind s (.ref a)) (.cons rfl .nil) (.cons (.fz hz (relDs_ints _ _ ns)) .nil) (fun b o e => absurd (show (none : Option AO) = some o from e) (by simp)) hsp) fun r s' h => call_ends St hok h
  cases hk : K.lookup a with
  | some o =>
    have e := KX a o hk
    rw [ha] at e
    cases e
    refine go (fun _ => none) ⟨fun b z => absurd rfl z, fun z => absurd rfl z⟩ (.inr ⟨_, vs.toArray, _, hk, rfl, rfl, rfl, ?_, by simpa using rv⟩) fun b u z => by cases z
    rw [List.size_toArray, hi.length]; exact hl
  | none =>
    refine go (upd (fun _ => none) a (.frz { cls := .type "list", data := .seq vs.toArray } (.lst (ns.map V.int)))) ⟨fun b z => ?_, fun _ => hk⟩ (.inl ⟨_, upd_same⟩) fun b u z => ?_
    · by_cases e : b = a
      · subst e; exact ⟨rfl, _, upd_same⟩
      · rw [upd_ne e] at z; exact absurd rfl z
    · by_cases e : b = a
      · subst e; rw [upd_same] at z; cases z
        exact ⟨ha, by rw [List.length_map]; exact hl, vs, _, rv, ha⟩
      · rw [upd_ne e] at z; cases z
theorem walk_law {l : PySem.W.OpenLaw} {n k : Nat} {q : Program} {loose : List Str} {XP : (Str → Option Value) → Heap → Prop} {YP : World → Heap → Prop} {d : DefRec} {K : Params → PySem.W.Frag} {sp : DSp} {x : Str}
    (hn : l.most = some n) (hn2 : n ≤ sizeLine) (hdf : d.params.defaults = []) (hr : Room k callerA)
    (hY : ∀ (w : World) (h : Heap), YP w h → (K w.params).In h)
    (F : ∀ (w : World) (mg : Str → Option Value) (fa : Addr) (h : Heap), (K w.params).In h → h.Ns mainGlobals mg → mg d.name = some (.ref fa) →
      ∃ fd : FuncData, (∀ (s : Shared) (u : Value), BindsTo s fd ⟨[u], []⟩ [(x, u)]) ∧
        ∀ base : Heap, (K w.params).In base → base.Ns mainGlobals mg → FnD l.prog w (K w.params) mg base k fa fd [x] sp)
    (hsp : ∀ ns : List Int, ns.length ≤ n → sp [.fz (ns.map D.int)] (fun _ => none) (fun d _ => d = .bl true) noX) :
    PySem.W.WalkO q loose XP YP l.row.toRowW d [] (fun f vs => PySem.call f vs) := by
  refine Att.attach_call hn hdf fun w s₀ s₁ mg mb fa o pm cd doc a vs ns G Y ho hd hcd hmg hobj hints hlen hg => ?_
  have KX := hY w _ Y
  obtain ⟨fd, hb, hF⟩ := F w mg fa _ KX G.T.g hmg
  exact entry KX G.T.g G.T.b G.T.builtins G.T.nolimit hg hobj hints (Nat.le_trans hlen hn2) hr hF hb (hsp ns hlen)
end DL
namespace DL
open PySem PySem.Spec PyProof.Rows L2
structure CalD (P : Program) (w : World) (K : PySem.W.Frag) (mg : Str → Option Value) (base : Heap) (k : Nat) (x : Str) (sp : DSp) (dds : List D) : Prop where
  ex : ∃ (f : Addr) (fd : FuncData) (ps : List Str) (dfl : List Value), FnD P w K mg base k f fd ps sp ∧ mg x = some (.ref f) ∧ PySem.W.keepIn K (.ref f) = true ∧ Binds K fd ps dfl ∧ Dfl P w K dds dfl
section
variable {P : Program} {w : World} {K : PySem.W.Frag} {mg : Str → Option Value} {base : Heap}
theorem CalD.of {x : Str} {st : Stmt} {f : Addr} {fd : FuncData} {N ps : List Str} {k : Nat} {sp : DSp} (F : Fun K x x st f fd) (S : FnScope N ps (defScope st)) (hm : mg x = some (.ref f)) (hb : Binds K fd ps []) (len : ∀ ds S Q E, sp ds S Q E → ds.length = ps.length)
    (hbody : ∀ (cdv : Value) (A : Around) (outer : List Env) (s : Shared) (H : Hp) (ds : List D) (So : Sto) (Q : KD) (E : KX), Room k (A.deeper (envOfC x (defScope st) s.heap.objs.size f cdv)) → (A.deeper (envOfC x (defScope st) s.heap.objs.size f cdv)).guards = some [] → sp ds So Q E →
      ∃ t, DSs (cxOf (CX P w) P w K mg base N x (defScope st) f cdv A outer s H (UpX ⟨K, P, w⟩ H E)).nox (defBody st) t ∧ t (bodyEnds Q) (startD N ds) So) : CalD P w K mg base (k + 1) x sp [] :=
  ⟨f, fd, ps, [], FnD.of F S len (fun cdv A outer s H ds So Q E hr hg hs => let ⟨t, a, b⟩ := hbody cdv A outer s H ds So Q E hr hg hs; ⟨t, a.nox, b⟩), hm, F.kp, hb, .nil⟩
theorem CalD.mono {x : Str} {j k : Nat} {sp : DSp} {dds : List D} (C : CalD P w K mg base j x sp dds) (h : j ≤ k) : CalD P w K mg base k x sp dds :=
  let ⟨f, fd, ps, dfl, a, b⟩ := C.ex; ⟨f, fd, ps, dfl, a.mono h, b⟩
end
theorem room_u {k : Nat} {A : Around} (r : Room k A) : A.units + 100 < cLine := by have := r.un; omega
section
variable {X : Cx} {x : Str} {k : Nat} {sp : DSp} {dds : List D} {p pos : Pos} {e : Expr} {es : List Expr} {tr : DTA}
theorem de_cal (C : CalD X.prog X.w X.K X.mg X.base k x sp dds) (hr : Room k X.A) (hgd : X.A.guards = some []) (hg : Gl X x) (ha : DAr X (e :: es) tr) (hdb : (x == ("__debug__" : Str)) = false := by decide)
    (he : starEach (e :: es) X.env = (false, eval e X.env) :: starEach es X.env := by rfl) (hpl : (backTo pos (starEach es X.env)).any (·.1) = false := by rfl) :
    DE X (.Call (.Name x p) (e :: es) [] pos) (dCall sp dds tr) := by
  obtain ⟨f, fd, ps, dfl, F, hm, hk, hb, hd⟩ := C.ex
  exact de_call F hr hgd hg hm hk hb hd ha hdb he hpl
end
theorem sw_comp {e : Expr} {scope : Scope} {py : Pos} {y : Str} {l : Nat} {env : Env} (he : (∃ a b p, e = .ListComp a b scope p) ∨ ∃ a c b p, e = .DictComp a c b scope p) (hk : env.scope.kind = .function) (hy : env.scope.names.lookup y = some .local) (hl : (py.line == e.pos.line) = true)
    (ha : (scope.names.any fun (n, k) => n == y && (k == .local || k == .cell)) = false) : swapsWith e (some (.Name y py)) l env = pure true := by
  have ky : env.kindOf y = some .local := hy
  have hb : env.blockKind = .function := by unfold Env.blockKind; rw [hk]; rfl
  rcases he with ⟨a, b, p, rfl⟩ | ⟨a, c, b, p, rfl⟩ <;>
    (unfold swapsWith
     simp only [hb, ky, ha, hl]
     rfl)
def dPar3 (i j l : Nat) (ta : DTA) : DTS := fun Dn τ S => ta τ S fun ds S1 => match ds with | [x, y, z] => Dn.nx (((τ.set i (some x)).set j (some y)).set l (some z)) S1 | _ => False
theorem ds_par3 {X : Cx} {i j l : Nat} {x y z : Str} {a b c : Expr} {ta : DTA} {px py pz pt pos : Pos} {kt k2 pt2} (hc : X.calm = true) (hN : X.N.Nodup) (hi : X.N[i]? = some x) (hj : X.N[j]? = some y) (hl : X.N[l]? = some z) (hij : i ≠ j) (hil : i ≠ l) (hjl : j ≠ l)
    (hx : X.env.scope.names.lookup x = some .local) (hy : X.env.scope.names.lookup y = some .local) (hz : X.env.scope.names.lookup z = some .local) (ha : DAr X [a, b, c] ta)
    (hw : swappedStores [.Tuple [.Name x px, .Name y py, .Name z pz] kt pt] (.Tuple [a, b, c] k2 pt2) X.env = pure (some [x, y, z]))
    (hs : swapsWithSole [.Tuple [.Name x px, .Name y py, .Name z pz] kt pt] (.Tuple [a, b, c] k2 pt2) pos.line X.env = pure false := by rfl) :
    DSm X (.Assign [.Tuple [.Name x px, .Name y py, .Name z pz] kt pt] (.Tuple [a, b, c] k2 pt2) pos) (dPar3 i j l ta) := .up (ps_par3 hc hN hi hj hl hij hil hjl hx hy hz ha.lo hw hs) fun σ H τ S Dn st hr q =>
  ⟨τ, S, _, st, hr, q, fun vs H1 ⟨e, ds, S1, hr1, r1, q1⟩ => by
    cases r1 with
    | nil => exact q1.elim
    | cons r t => cases t with
      | nil => exact q1.elim
      | cons r' t' => cases t' with
        | nil => exact q1.elim
        | cons r2 t2 => cases t2 with
          | nil => exact ⟨_, _, _, rfl, e, _, S1, hr1, ((((st.ev e).set r i).set r' j).set r2 l), q1⟩
          | cons _ _ => exact q1.elim⟩
end DL
namespace DL
open PySem PySem.Spec PyProof.Rows L2
def setNew (w : World) : Obj := { cls := .type "set", dict := none, data := .set #[] 0 (.fresh 0 0 (!w.params.followText "set-order")) }
def litNew (l : Addr) : Obj := { cls := .type "list_iterator", data := .fields #[.ref l, .int 0 0] }
section
variable {P : Program} {w : World} {A : Around} {E : Value → Shared → Prop} {s : Shared}
abbrev FilledBy (w : World) (s : Shared) (ns : List Int) (s₂ : Shared) : Prop := ∃ h' tk c, s₂ = { s with heap := h', toks := tk } ∧ SetR w h' s.heap.objs.size (fun j => decide (j ∈ ns)) c ∧ c ≤ ns.length ∧ ∀ b o, s.heap.get? b = some o → h'.get? b = some o
set_option maxRecDepth 100000 in
set_option maxHeartbeats 3200000 in
theorem set_init_list {l : Addr} {items : Array Value} (ns : List Int) (hh : A.handled = none) (hl : s.heap.IsList l items) (hit : IntsAre items.toList ns) (hb : ns.length + 1 < scanBound) :
    codeAny (model P w) A (.call (.builtin "set.__init__") ⟨[.ref s.heap.objs.size, .ref l], []⟩) (wants (fun r s₂ => r = .none ∧ FilledBy w s ns s₂) E) { s with heap := s.heap.push (setNew w) } := by
  have hisz : items.size = ns.length := by
    have q := IntsAre.length hit
    simpa using q
  have hS : (s.heap.push (setNew w)).get? s.heap.objs.size = some (setNew w) := Heap.get?_push_size _ rfl
  have hT : Shared.TypeIs { s with heap := s.heap.push (setNew w) } (.ref s.heap.objs.size) "set" := ⟨_, hS, rfl⟩
  have hz : (s.heap.push (setNew w)).objs.size = s.heap.objs.size + 1 := Heap.size_push ..
  refine codeAny_call_builtin F.called_set.init.plain F.entry_set_init (check_set_init_1 hT ?_)
  obtain ⟨⟨ocls, odict, odata, oslots⟩, hol, hcl, nl, hdl⟩ := hl
  simp only at hcl hdl
  subst hcl; subst hdl
  have hol' : (s.heap.push (setNew w)).get? l = some { cls := .type "list", dict := odict, data := .seq items nl, slots := oslots } := Heap.get?_push_of_some _ hol
  have hsls := F.sub_list_set
  have hslf := F.sub_list_frozenset
  have hne : (Value.type "list" == Value.type "dict") = false := by decide
  have hl1 : (s.heap.push (setNew w)).IsList l items := ⟨_, hol', rfl, nl, rfl⟩
  have hlS : l < s.heap.objs.size := Heap.lt_size hol
  have hneI : l ≠ (s.heap.push (setNew w)).objs.size := by rw [hz]; exact Nat.ne_of_lt (Nat.lt_succ_of_lt hlS)
  unfold Builtin.«set.__init__» noKeywords Builtin.Frozenset.updateFrom
  generalize hPI : pyIter = PI
  wp_walk
  subst hPI
  refine wpAny_pyIter_list hl1 (wpAny_bind (wpAny_runValue ?_))
  have hh3 : A.in1.in1.handled = none := by simp [hh]
  have hSf : s.heap.objs.size ∉ [(s.heap.push (setNew w)).objs.size, l] := by
    simp only [hz, List.mem_cons, List.not_mem_nil, or_false, not_or]
    exact ⟨Nat.ne_of_lt (Nat.lt_succ_self _), Nat.ne_of_gt hlS⟩
  have hval : ∀ (i : Nat) (v : Value), items[i]? = some v → ∃ k t, ns[i]? = some k ∧ v = .int k t := fun i v hv => by
    have hi : i < ns.length := by rw [← hisz]; exact (Array.getElem?_eq_some_iff.mp hv).1
    obtain ⟨t, e⟩ := PyProof.Rows.IntsAre.int_at hit i v (by simpa using hv)
    refine ⟨ns[i], t, List.getElem?_eq_getElem hi, ?_⟩
    rw [e, List.getD_eq_getElem?_getD, List.getElem?_eq_getElem hi] <;> rfl
  have hget : ((s.heap.push (setNew w)).push (litNew l)).get? s.heap.objs.size = some (setNew w) := Heap.get?_push_of_some _ hS
  refine set_update_ints ((Walks.list hh3 _ l hneI items).toS) s.heap.objs.size hSf ns hisz hb hval (items.size - 0) 0 { s with heap := (s.heap.push (setNew w)).push (litNew l) } (by omega) (Nat.zero_le _) ⟨⟨_, Heap.get?_push_size _ rfl, rfl, rfl⟩, hl1.push _⟩ ?hS0 ?hR
  case hS0 => exact ⟨0, Nat.le_refl 0, setR_new_at hget⟩
  case hR =>
  intro s' c' hm hc' hS'
  obtain ⟨h', g2, d', tk', os'⟩ := s'
  cases (show g2 = s.gens from hm.gens)
  cases (show d' = s.drawn from hm.drawn)
  cases (show os' = s.os from hm.os)
  show wpAny _ _ _ _ _ _
  refine wpAny_pure ?_
  show wpAny _ _ (ret Value.none) _ _ _
  rw [hisz] at hc'
  refine wpAny_pure ⟨rfl, h', tk', c', rfl, hS', hc', fun b o e => hm.heap b o ?_ (Heap.get?_push_of_some _ (Heap.get?_push_of_some _ e))⟩
  have hb0 : b < s.heap.objs.size := Heap.lt_size e
  simp only [List.mem_cons, List.not_mem_nil, or_false, not_or]
  refine ⟨Nat.ne_of_lt hb0, Nat.ne_of_lt ?_⟩
  show b < (s.heap.push (setNew w)).objs.size
  rw [hz]; exact Nat.lt_succ_of_lt hb0
set_option maxRecDepth 100000 in
set_option maxHeartbeats 3200000 in
theorem set_of_list {l : Addr} {items : Array Value} (ns : List Int) {Q : Value → Shared → Prop} (hh : A.handled = none) (hl : s.heap.IsList l items) (hit : IntsAre items.toList ns) (hb : ns.length + 1 < scanBound)
    (h : ∀ (h' : Heap) (tk c : Nat), SetR w h' s.heap.objs.size (fun j => decide (j ∈ ns)) c → c ≤ ns.length → (∀ b o, s.heap.get? b = some o → h'.get? b = some o) → Q (.ref s.heap.objs.size) { s with heap := h', toks := tk }) :
    wpAny (model P w) A (call (.type "set") [.ref l]) Q E s := by
  obtain ⟨c, tl, hmro⟩ := F.called_set.mro
  have hmade := F.called_set.made
  have hsub := F.called_set.sub
  refine wpAny_call (codeAny_of_tree ?_)
  show wpAny _ _ (callAny (.type "set") _) _ _ _
  refine wpAny_pure ⟨Code.quiet_builtin _ (by decide +kernel), codeAny_builtin F.entry_type_call ?_⟩
  rw [Around.under_plain (weight_type_call_type "set" [.ref l] []) rfl]
  have h1 := F.called_set.notType
  have h2 := F.called_set.canCreate
  have hct := F.typeCall_set_1 (.ref l)
  repeat (any_goals (first | assumption | wp_step))
  refine codeAny_mono (code_set_led1 (.ref l) (E := E) (Q₁ := fun obj s₁ => obj = .ref s.heap.objs.size ∧ s₁ = { s with heap := s.heap.push (setNew w) }) ⟨rfl, rfl⟩) fun r s₁ hr => ?_
  cases r with
  | error e => exact hr
  | ok fl =>
    cases fl with
    | ret obj =>
      obtain ⟨rfl, rfl⟩ := hr
      have hT : Shared.TypeIs { s with heap := s.heap.push (setNew w) } (.ref s.heap.objs.size) "set" := ⟨_, Heap.get?_push_size _ rfl, rfl⟩
      have hli := F.called_set.init.lookup
      have hbi := F.called_set.init.bind (.ref s.heap.objs.size)
      repeat (any_goals (first | assumption | wp_step))
      refine codeAny_mono (set_init_list ns (E := E) (by simp [hh]) hl hit hb) fun r₂ s₂ hr₂ => ?_
      cases r₂ with
      | error e => exact hr₂
      | ok fl₂ =>
        cases fl₂ with
        | ret r =>
          obtain ⟨rfl, h', tk, c', rfl, hS', hc', hk'⟩ := hr₂
          repeat (any_goals (first | assumption | wp_step))
          exact h _ _ _ hS' hc' hk'
        | _ => exact hr₂.elim
    | _ => exact hr.elim
end
end DL
namespace DL
open PySem PySem.Spec PyProof.Rows L2
abbrev enc6 (S : Sto) (d : D) : PyData := (rd 6 S d).py
def dLe (S : Sto) (a b : D) : Bool := PySem.W.dataLe false (enc6 S) a b
structure SortOk (S : Sto) (ds : List D) : Prop where
  ok : ∀ d ∈ ds, (rd 6 S d).ok 40 = true
  alk : PySem.W.AllAlike (ds.map (enc6 S))
  srt : PySem.W.Sortable (ds.map (enc6 S))
def lstOf (S : Sto) : D → Option (List D)
  | .fz ds => some ds
  | .ref a => match S a with | some (.lst ds) => some ds | _ => none
  | _ => none
section
variable {X : Cx} {pins : List (Addr × Obj)} {σ : L2.St} {H : Hp} {s : Shared} {S : Sto}
theorem lst_at {v : V} {u : Value} {d : D} {ds : List D} (I : Inv X pins σ H s) (hr : HR X.KW H S) (rv : RelV v u) (rd : RelD X.KW H v d) (h : lstOf S d = some ds) :
    ∃ a its vs, u = .ref a ∧ v = .ref a ∧ Vals vs its ∧ RelDs X.KW H vs ds ∧ vs.length ≤ sizeLine ∧ s.heap.IsList a its.toArray := by
  cases rd with
  | fz t r =>
    cases h; cases rv
    obtain ⟨its, a, b, c⟩ := I.list t.sq
    exact ⟨_, its, _, rfl, rfl, a, r, c, b.isList⟩
  | ref a =>
    simp only [lstOf] at h
    split at h
    · rename_i ds' e
      cases h; cases rv
      obtain ⟨vs, h1, r⟩ := hr a _ e
      obtain ⟨its, x, b, c⟩ := I.list (SqL.of h1)
      exact ⟨_, its, _, rfl, rfl, x, r, c, b.isList⟩
    · cases h
  | _ => cases h
theorem each_of : ∀ {vs : List V} {its : List Value} {ds : List D}, Vals vs its → RelDs X.KW H vs ds → PySem.W.EachIs (fun (u : Value) (b : V × D) => RelV b.1 u ∧ RelD X.KW H b.1 b.2) its (vs.zip ds)
  | _, _, _, .nil, .nil => .nil
  | _, _, _, .cons a t, .cons b r => .cons ⟨a, b⟩ (each_of t r)
theorem of_each : ∀ {its : List Value} {bs : List (V × D)}, PySem.W.EachIs (fun (u : Value) (b : V × D) => RelV b.1 u ∧ RelD X.KW H b.1 b.2) its bs → Vals (bs.map (·.1)) its ∧ RelDs X.KW H (bs.map (·.1)) (bs.map (·.2))
  | _, _, .nil => ⟨.nil, .nil⟩
  | _, _, .cons a t => ⟨.cons a.1 (of_each t).1, .cons a.2 (of_each t).2⟩
theorem zip_snd : ∀ {vs : List V} {ds : List D}, vs.length = ds.length → (vs.zip ds).map (·.2) = ds
  | [], [], _ => rfl
  | _ :: _, _ :: _, h => by simp [zip_snd (by simpa using h)]
theorem sorted_ok {E : Value → Shared → Prop} {a : Addr} {its : List Value} {vs : List V} {ds : List D} {Q : Value → Shared → Prop} (hu : X.A.units + 65 < cLine) (I : Inv X pins σ H s) (hr : HR X.KW H S) (rv : Vals vs its) (r : RelDs X.KW H vs ds) (hz : vs.length ≤ sizeLine) (hl : s.heap.IsList a its.toArray) (so : SortOk S ds)
    (k : ∀ p vs' s', H p = none → RelDs X.KW H vs' (ds.mergeSort (dLe S)) → Inv X pins σ (upd H p (.lst vs')) s' → Q (.ref p) s') : wpAny (model X.prog X.w) X.A (call (.builtin "sorted") [.ref a]) Q E s := by
  have el : vs.length = ds.length := r.length
  have e2 := zip_snd el
  have mem2 : ∀ b ∈ vs.zip ds, b.2 ∈ ds := fun b hb => by rw [← e2]; exact List.mem_map.mpr ⟨b, hb, rfl⟩
  have em : (vs.zip ds).map (fun b => enc6 S b.2) = ds.map (enc6 S) := by
    have := congrArg (List.map (enc6 S)) e2
    rw [List.map_map] at this
    exact this
  have E := each_of rv r
  have ER : PySem.W.EachIs (fun (u : Value) (b : V × D) => ∃ as, Reads s.heap u (enc6 S b.2) as) its (vs.zip ds) := by
    have all : ∀ b ∈ vs.zip ds, (rd 6 S b.2).ok 40 = true := fun b hb => so.ok _ (mem2 b hb)
    clear em mem2 e2 rv hl r el hz
    generalize vs.zip ds = bs at E all
    induction E with
    | nil => exact .nil
    | cons h t ih =>
      refine .cons ?_ (ih fun b hb => all b (List.mem_cons_of_mem _ hb))
      obtain ⟨dp, _, _⟩ := rd_dp hr 6 h.2 40 (all _ List.mem_cons_self)
      exact Dp.reads I _ _ _ dp h.1
  have hlen : (vs.zip ds).length = vs.length := by simp [el]
  refine PySem.W.sorted_data (bs := vs.zip ds) (enc := fun b => enc6 S b.2) hl E ER (by rw [em]; exact so.alk) (by rw [em]; exact so.srt) (by rw [hlen]; exact hz) (fun b hb => ?_) fun out ho eo => ?_
  · have q := so.ok _ (mem2 b hb)
    -- the depth
    have : (enc6 S b.2).depth ≤ 40 := by
      have hm := mem2 b hb
      obtain ⟨i, hi, e⟩ := List.getElem_of_mem hm
      obtain ⟨v, _, rdd⟩ := r.get (i := i) (d := b.2) (by rw [List.getElem?_eq_getElem hi, e])
      exact (rd_dp hr 6 rdd 40 q).2.2
    omega
  · obtain ⟨c, hc⟩ := PyProof.Rows.sortedAll_at s.heap its out.toArray
    obtain ⟨o1, o2⟩ := of_each eo
    have ms : ((vs.zip ds).mergeSort (PySem.W.dataLe false fun b => enc6 S b.2)).map (·.2) = ds.mergeSort (dLe S) := by
      have q := List.map_mergeSort (r := PySem.W.dataLe false fun b : V × D => enc6 S b.2) (s := dLe S) (f := fun b : V × D => b.2) (l := vs.zip ds) (fun a _ b _ => rfl)
      rw [e2] at q
      exact q
    rw [ms] at o2
    have n1 : H (s.heap.objs.size + 1) = none := I.hok.fresh (Nat.le_succ _)
    refine k _ _ _ n1 o2 (I.laid (t' := s.toks) (fun b o e => PyProof.Rows.sortedAll_old e) (Nat.le_succ _) ⟨?_, out, c, o1, hc⟩)
    rw [o1.length, ho, hlen]; exact hz
def wSorted : List D → Sto → KD → Prop := fun xs S Q => match xs with
  | [d] => onS (lstOf S d) fun ds => SortOk S ds ∧ ∀ p, S p = none → Q (.ref p) (put S p (.lst (ds.mergeSort (dLe S))))
  | _ => False
theorem dcall_sorted (hc : X.calm = true) (hu : X.A.units + 65 < cLine) : DCall X (.builtin "sorted") wSorted := by
  intro pins s σ H xs us ds S Q I rv hr rd q
  unfold wSorted at q
  split at q
  · rename_i d
    obtain ⟨v, rfl, r⟩ := rd.one
    cases rv with
    | cons rv t =>
    cases t
    obtain ⟨es, ee, so, q⟩ := onS.out q
    obtain ⟨a, its, vs, rfl, rfl, z1, z2, z3, z4⟩ := lst_at I hr rv r ee
    exact sorted_ok hu I hr z1 z2 z3 z4 so fun p vs' s' n r' I' => ⟨.ref p, _, I', rfl, .of (.new n) (hr.lst n r') (.ref p) (q p (hr.free n))⟩
  · exact q.elim
def intsD : List D → Option (List Int)
  | [] => some []
  | .int i :: r => (intsD r).map (i :: ·)
  | _ :: _ => none
theorem intsD_eq : ∀ {ds : List D} {ns : List Int}, intsD ds = some ns → ds = ns.map D.int
  | [], ns, h => by cases h; rfl
  | d :: r, ns, h => by
    cases d <;> simp only [intsD] at h <;> first | (cases h; done) | skip
    obtain ⟨ms, h1, h2⟩ := Option.map_eq_some_iff.mp h
    subst h2
    rw [intsD_eq h1]; rfl
theorem intsD_map (ns : List Int) : intsD (ns.map D.int) = some ns := by induction ns with
  | nil => rfl
  | cons n r ih => simp [intsD, ih]
theorem ints_vals : ∀ {vs : List V} {its : List Value} {ns : List Int}, Vals vs its → RelDs X.KW H vs (ns.map D.int) → IntsAre its ns
  | _, _, [], .nil, .nil => .nil
  | _, _, n :: r, .cons a t, .cons b q => by
    cases b
    obtain ⟨tk, rfl⟩ := a
    exact .cons n tk (ints_vals t q)
theorem lst_sq {v : V} {d : D} {ds : List D} (hr : HR X.KW H S) (rd : RelD X.KW H v d) (h : lstOf S d = some ds) : ∃ a vs, v = .ref a ∧ SqL X.K H a vs ∧ RelDs X.KW H vs ds := by
  cases rd with
  | fz t r => cases h; exact ⟨_, _, rfl, t.sq, r⟩
  | ref a =>
    simp only [lstOf] at h
    split at h
    · rename_i ds' e
      cases h
      obtain ⟨vs, h1, r⟩ := hr a _ e
      exact ⟨_, _, rfl, SqL.of h1, r⟩
    · cases h
  | _ => cases h
end
end DL
namespace DL
open PySem PySem.Spec PyProof.Rows L2
open Builtin.Str (reprChar)
theorem strOk_mem {x : Str} : PyData.strOk x = true ↔ ∀ c ∈ x.cps.toList, c < 0x110000 := by
  unfold PyData.strOk
  rw [← Array.all_toList, List.all_eq_true]
  exact ⟨fun h c hc => by simpa using h c hc, fun h c hc => by simpa using h c hc⟩
theorem strOk_app {x y : Str} (h1 : PyData.strOk x = true) (h2 : PyData.strOk y = true) : PyData.strOk (x ++ y) = true := strOk_append h1 h2
theorem strOk_textFrom : ∀ (ts : List Str) (k : Nat) (acc : Str), PyData.strOk acc = true → (∀ t ∈ ts, PyData.strOk t = true) → PyData.strOk (textFrom k acc ts) = true
  | [], _, _, h, _ => h
  | t :: ts, k, acc, h, ht => by
    refine strOk_textFrom ts (k + 1) _ (strOk_app (strOk_app h ?_) (ht t List.mem_cons_self)) fun u hu => ht u (List.mem_cons_of_mem _ hu)
    split <;> decide +kernel
theorem strOk_join {sep : Str} (hs : PyData.strOk sep = true) : ∀ ts : List Str, (∀ t ∈ ts, PyData.strOk t = true) → PyData.strOk (Str.join sep ts) = true
  | [], _ => (by decide +kernel : PyData.strOk (Str.ofString "") = true)
  | [x], h => h x List.mem_cons_self
  | x :: y :: r, h => by
    show PyData.strOk (x ++ sep ++ Str.join sep (y :: r)) = true
    exact strOk_app (strOk_app (h x List.mem_cons_self) hs) (strOk_join hs (y :: r) fun t ht => h t (List.mem_cons_of_mem _ ht))
theorem hexd_lt (c : Nat) : ∀ x ∈ (Nat.toDigits 16 c).map Char.toNat, x < 0x110000 := by
  intro x hx
  obtain ⟨ch, _, rfl⟩ := List.mem_map.mp hx
  have := ch.valid
  unfold UInt32.isValidChar Nat.isValidChar at this
  show ch.val.toNat < _
  omega
theorem reprChar_lt {q c : Nat} (hc : c < 0x110000) : ∀ x ∈ reprChar q c, x < 0x110000 := by
  intro x hx
  unfold reprChar at hx
  have hex : ∀ (w : Nat) (x : Nat), x ∈ (List.replicate (w - ((Nat.toDigits 16 c).map Char.toNat).length) 48 ++ (Nat.toDigits 16 c).map Char.toNat) → x < 0x110000 := fun w x h => by
    rcases List.mem_append.mp h with h | h
    · rw [List.eq_of_mem_replicate h]; decide
    · exact hexd_lt c x h
  have two : ∀ (a b : Nat), a < 0x110000 → b < 0x110000 → ∀ x ∈ [a, b], x < 0x110000 := fun a b ha hb x h => by
    rcases List.mem_cons.mp h with rfl | h
    · exact ha
    · rw [List.mem_singleton.mp h]; exact hb
  split at hx
  · exact two _ _ (by decide) hc x hx
  split at hx
  · exact two _ _ (by decide) (by decide) x hx
  split at hx
  · exact two _ _ (by decide) (by decide) x hx
  split at hx
  · exact two _ _ (by decide) (by decide) x hx
  split at hx
  · rw [List.mem_singleton.mp hx]; exact hc
  split at hx
  · rcases List.mem_append.mp hx with h | h
    · exact two _ _ (by decide) (by decide) x h
    · exact hex _ x h
  split at hx
  · rcases List.mem_append.mp hx with h | h
    · exact two _ _ (by decide) (by decide) x h
    · exact hex _ x h
  · rcases List.mem_append.mp hx with h | h
    · exact two _ _ (by decide) (by decide) x h
    · exact hex _ x h
theorem foldl_repr_lt (q : Nat) : ∀ (l : List Nat) (acc : Array Nat), (∀ c ∈ l, c < 0x110000) → (∀ c ∈ acc.toList, c < 0x110000) → ∀ c ∈ (l.foldl (fun out c => out ++ (reprChar q c).toArray) acc).toList, c < 0x110000
  | [], acc, _, h => h
  | c :: r, acc, hl, h => by
    refine foldl_repr_lt q r _ (fun x hx => hl x (List.mem_cons_of_mem _ hx)) fun x hx => ?_
    simp only [Array.toList_append, List.mem_append] at hx
    rcases hx with hx | hx
    · exact h x hx
    · exact reprChar_lt (hl c List.mem_cons_self) x hx
theorem reprQuote_lt (x : Str) : reprQuote x < 0x110000 := by
  unfold reprQuote
  split <;> decide
theorem strOk_repr {x : Str} (h : PyData.strOk x = true) : PyData.strOk (reprText x) = true := by
  rw [strOk_mem] at h ⊢
  intro c hc
  unfold reprText at hc
  simp only [Array.toList_push, List.mem_append, List.mem_singleton] at hc
  rcases hc with hc | rfl
  · have e : x.cps.foldl (fun out c => out ++ (reprChar (reprQuote x) c).toArray) #[reprQuote x] = x.cps.toList.foldl (fun out c => out ++ (reprChar (reprQuote x) c).toArray) #[reprQuote x] := by rw [← Array.foldl_toList]
    rw [e] at hc
    exact foldl_repr_lt _ _ _ h (fun c hc => by
      have hc' : c = reprQuote x := by simpa using hc
      rw [hc']; exact reprQuote_lt x) c hc
  · exact reprQuote_lt x
theorem strOk_intT (i : Int) : PyData.strOk (PyData.int i).shown = true := by
  rw [strOk_mem]
  intro c hc
  by_cases h : c ≠ 45 ∧ (c < 48 ∨ 57 < c)
  · exact absurd hc (PyProof.Rows.shown_int_free' h i)
  · omega
mutual
theorem strOk_shown : ∀ d : PyData, d.canLay0 = true → PyData.strOk d.shown = true
  | .none, _ => by decide +kernel
  | .bool b, _ => by cases b <;> decide +kernel
  | .int i, _ => strOk_intT i
  | .str x, h => by rw [PyData.shown]; exact strOk_repr (by simpa [PyData.canLay0] using h)
  | .list xs, h => by
    rw [PyData.shown]
    exact strOk_app (strOk_textFrom _ _ _ (by decide +kernel) (strOk_shownAll xs (by simpa [PyData.canLay0] using h))) (by decide +kernel)
  | .tuple xs, h => by
    rw [PyData.shown]
    unfold tupleText
    refine strOk_app (strOk_app (by decide +kernel) (strOk_join (by decide +kernel) _ (strOk_shownAll xs (by simpa [PyData.canLay0] using h)))) ?_
    split <;> decide +kernel
  | .dict _, h => by simp [PyData.canLay0] at h
theorem strOk_shownAll : ∀ xs : List PyData, PyData.canLayAll0 xs = true → ∀ t ∈ PyData.shownAll xs, PyData.strOk t = true
  | [], _, t, ht => by simp [PyData.shownAll] at ht
  | x :: xs, h, t, ht => by
    have h' : x.canLay0 = true ∧ PyData.canLayAll0 xs = true := by simpa [PyData.canLayAll0] using h
    rw [PyData.shownAll] at ht
    rcases List.mem_cons.mp ht with rfl | ht
    · exact strOk_shown x h'.1
    · exact strOk_shownAll xs h'.2 t ht
end
section
variable {X : Cx}
def wRepr : List D → Sto → KD → Prop := fun xs S Q => match xs with
  | [d] => (rd 6 S d).ok 40 = true ∧ (rd 6 S d).py.showable = true ∧ (rd 6 S d).py.shown.length ≤ sizeLine ∧ (∃ ds, seqOf S d = some ds) ∧ Q (.str (rd 6 S d).py.shown) S
  | _ => False
theorem dcall_repr (hu : X.A.units + 65 < cLine) (hgd : X.A.guards = some []) : DCall X (.builtin "repr") wRepr := by
  intro pins s σ H xs us ds S Q I rv hr rd q
  unfold wRepr at q
  split at q
  · rename_i d
    obtain ⟨q1, q2, q3, ⟨es, ee⟩, q4⟩ := q
    obtain ⟨v, rfl, r⟩ := rd.one
    cases rv with
    | cons rv t =>
    cases t
    obtain ⟨dp, cl, dep⟩ := rd_dp hr 6 r 40 q1
    obtain ⟨a, its, vs, rfl, rfl, _⟩ := seq_at I hr rv r ee
    obtain ⟨as, rr⟩ := Dp.reads I _ _ _ dp rv
    refine repr_of_reads' rr q2 (PyData.noDict_hsm (PyData.hasDict_of_canLay _ cl)) hgd (by omega) (fun b o e => e) (fun h' u tk k => ?_) q3
    exact ⟨.str _, H, I.kept (t' := tk) k, ⟨u, rfl⟩, .of (.refl _) hr (.str _ (strOk_shown _ cl)) q4⟩
  · exact q.elim
end
end DL
namespace DL
open PySem PySem.Spec PyProof.Rows L2
def dctOf (S : Sto) : D → Option (Addr × List (D × D))
  | .ref a => match S a with | some (.dct kvs) => some (a, kvs) | some (.fdc _ kvs) => some (a, kvs) | _ => none
  | _ => none
section
variable {X : Cx} {pins : List (Addr × Obj)} {σ : L2.St} {H : Hp} {s : Shared} {S : Sto}
theorem ent_K {a : Addr} {ks : List (Key × V)} {kvs : List (D × D)} (I : Inv X pins σ H s) (h1 : Rd H a (.dK ks)) (rk : RelKV kD X.KW H ks kvs) : (a == sysModules) = false ∧ kvs.length ≤ sizeLine ∧ ∃ es ep, s.heap.DictRaw a es ep ∧ EntAt X.KW H es kvs := by
  obtain ⟨z, hd, vs, kv, o, es, ep, ho, hx, hdt, hk, hp, hn⟩ := dk_rd I.hok h1
  have hsz : es.size = kvs.length := by
    have l1 := hp.length
    have l2 : ks.length = vs.length := Paired.length kv
    have l3 := rk.length
    rw [Array.length_toList] at l1
    omega
  refine ⟨hd, by rw [← rk.length]; exact z, es, ep, ⟨o, ho, hx, hdt⟩, hsz, fun i en kd vd e1 e2 => ?_⟩
  obtain ⟨k, v, q1, rfl, hs, q3⟩ := relKV_get rk e2
  obtain ⟨u, q4, q5⟩ := kv_get kv q1
  obtain ⟨q6, q7⟩ := hp.get? (e := en) (by simpa using e1) q4
  refine ⟨⟨L2.kV k, relV_key q6, ?_⟩, v, by rw [q7]; exact q5, q3⟩
  cases k with
  | inl i => exact .int i
  | inr x => exact .str x (hs x rfl)
theorem ent_T {a : Addr} {xs : List (List Key × Addr × Value)} {kvs : List (D × D)} (I : Inv X pins σ H s) (h1 : Rd H a (TDn X.KW a xs)) (rk : RelTV X.KW H xs kvs) : (a == sysModules) = false ∧ kvs.length ≤ sizeLine ∧ ∃ es ep, s.heap.DictRaw a es ep ∧ EntAt X.KW H es kvs := by
  obtain ⟨z, hd, o, es, ep, ho, hx, hdt, hes, _, _⟩ := tdn_rd I h1 rk
  refine ⟨hd, by rw [← rk.length]; exact z, es, ep, ⟨o, ho, hx, hdt⟩, by rw [size_of_entries hes, rk.length], fun i en kd vd e1 e2 => ?_⟩
  obtain ⟨k, b, u, v, q1, rfl, q3, q4, q5⟩ := relTV_get rk e2
  have q := entry_at hes i
  rw [e1, q1] at q
  have q' := Option.some.inj q
  exact ⟨⟨.ref b, by rw [q']; rfl, .tup q3.1 q3.2⟩, v, by rw [q']; exact q4, q5⟩
theorem ent_at {d : D} {a : Addr} {kvs : List (D × D)} (I : Inv X pins σ H s) (hr : HR X.KW H S) (e : dctOf S d = some (a, kvs)) : d = .ref a ∧ (a == sysModules) = false ∧ kvs.length ≤ sizeLine ∧ ∃ es ep, s.heap.DictRaw a es ep ∧ EntAt X.KW H es kvs := by
  unfold dctOf at e
  split at e
  · rename_i a'
    split at e
    · rename_i kvs' es
      cases e
      rcases hr a _ es with ⟨ks, h1, rk⟩ | ⟨xs, h1, rk⟩
      · exact ⟨rfl, ent_K I (.inl h1) rk⟩
      · exact ⟨rfl, ent_T I (.inl h1) rk⟩
    · rename_i o kvs' es
      cases e
      rcases hr a _ es with ⟨ks, h1, rk⟩ | ⟨xs, h1, rk⟩
      · exact ⟨rfl, ent_K I (.inr ⟨_, h1⟩) rk⟩
      · exact ⟨rfl, ent_T I (.inr ⟨_, h1⟩) rk⟩
    · cases e
  · cases e
theorem rel_items : ∀ (ds : List D) (vs : List Value), vs.length = ds.length → (∀ (i : Nat) (d : D) (u : Value), ds[i]? = some d → vs[i]? = some u → ∃ v, RelV v u ∧ RelD X.KW H v d) → ∃ ws, Vals ws vs ∧ RelDs X.KW H ws ds
  | [], [], _, _ => ⟨[], .nil, .nil⟩
  | d :: ds, u :: vs, hl, h => by
    obtain ⟨v, r1, r2⟩ := h 0 d u rfl rfl
    obtain ⟨ws, a, b⟩ := rel_items ds vs (by simpa using hl) fun i d' u' e1 e2 => h (i + 1) d' u' (by simpa using e1) (by simpa using e2)
    exact ⟨v :: ws, .cons r1 a, .cons r2 b⟩
end
end DL
namespace DL
open PySem PySem.Spec PyProof.Rows L2
section
variable {τ : DSt} {S : Sto} {Dn : DEnds} {Q : KD} {QT : Bool → Sto → Prop} {QA : List D → Sto → Prop} {t u v : DTE} {ts us : DTS} {c : DTT} {ta : DTA} {r r' : DR} {d x y : D} {i j : Nat}
@[simp] theorem dC_eq : dC d τ S Q = Q d S := rfl
@[simp] theorem dV_eq : dV i τ S Q = match τ[i]? with | some (some d) => Q d S | _ => False := rfl
@[simp] theorem dBin_eq : dBin r t u τ S Q = t τ S fun x S1 => u τ S1 fun y S2 => r x y S2 Q := rfl
@[simp] theorem isB_bl {b : Bool} : isB QT (.bl b) S = QT b S := rfl
@[simp] theorem isI_int {n : Int} {Qi : Option Int → Sto → Prop} : isI Qi (.int n) S = Qi (some n) S := rfl
@[simp] theorem isRef_ref {n : Addr} {Qi : Addr → Sto → Prop} : isRef Qi (.ref n) S = Qi n S := rfl
@[simp] theorem dTst_eq : dTst t τ S QT = t τ S (isB QT) := rfl
@[simp] theorem dAnd_eq {c1 c2 : DTT} : dAnd c1 c2 τ S QT = c1 τ S fun b S1 => if b = true then c2 τ S1 QT else QT false S1 := rfl
@[simp] theorem dOr_eq {c1 c2 : DTT} : dOr c1 c2 τ S QT = c1 τ S fun b S1 => if b = true then QT true S1 else c2 τ S1 QT := rfl
@[simp] theorem dNot_eq : dNot c τ S QT = c τ S fun b S1 => QT (!b) S1 := rfl
@[simp] theorem dAndV_eq : dAndV t u τ S Q = t τ S (isB fun c S1 => if c = true then u τ S1 Q else Q (.bl false) S1) := rfl
@[simp] theorem dNotV_eq : dNotV t τ S Q = t τ S (isB fun c S1 => Q (.bl (!c)) S1) := rfl
@[simp] theorem dIf_eq : dIf c t u τ S Q = c τ S fun b S1 => if b = true then t τ S1 Q else u τ S1 Q := rfl
@[simp] theorem dUn_eq {w : D → Sto → KD → Prop} : dUn w t τ S Q = t τ S fun x S1 => w x S1 Q := rfl
@[simp] theorem wNeg_int {n : Int} : wNeg (.int n) S Q = Q (.int (-n)) S := rfl
@[simp] theorem dNil_eq : dNil τ S QA = QA [] S := rfl
@[simp] theorem dCons_eq : dCons t ta τ S QA = t τ S fun x S1 => ta τ S1 fun xs S2 => QA (x :: xs) S2 := rfl
@[simp] theorem dCB_eq {w : List D → Sto → KD → Prop} : dCB w ta τ S Q = ta τ S fun ds S1 => w ds S1 Q := rfl
@[simp] theorem dTup_eq : dTup ta τ S Q = ta τ S fun ds S1 => ds.length ≤ sizeLine ∧ Q (.tup ds) S1 := rfl
@[simp] theorem dLst_eq : dLst ta τ S Q = ta τ S fun ds S1 => ds.length ≤ sizeLine ∧ ∀ p, S1 p = none → Q (.ref p) (put S1 p (.lst ds)) := rfl
@[simp] theorem dNext_eq : dNext Dn τ S = Dn.nx τ S := rfl
@[simp] theorem dSeq_eq : dSeq ts us Dn τ S = ts { Dn with nx := us Dn } τ S := rfl
@[simp] theorem dDrop_eq : dDrop t Dn τ S = t τ S fun _ S1 => Dn.nx τ S1 := rfl
@[simp] theorem dRet_eq : dRet t Dn τ S = t τ S Dn.rt := rfl
@[simp] theorem dIfS_eq : dIfS c ts us Dn τ S = c τ S fun b S1 => if b = true then ts Dn τ S1 else us Dn τ S1 := rfl
@[simp] theorem dNever_eq : dNever Dn τ S = False := rfl
variable {k : DSt → Sto → Prop}
@[simp] theorem gdName_eq : gdName i d τ S k = k (τ.set i (some d)) S := rfl
@[simp] theorem gdNil_eq {ds : List D} : gdNil ds τ S k = (ds = [] ∧ k τ S) := rfl
@[simp] theorem gdCons_eq {g : DTG} {h : DTGs} {ds : List D} : gdCons g h (d :: ds) τ S k = g d τ S fun τ' S' => h ds τ' S' k := rfl
@[simp] theorem gdTup_tup {g : DTGs} {n : Nat} {ds : List D} : gdTup n g (.tup ds) τ S k = (ds.length = n ∧ g ds τ S k) := rfl
@[simp] theorem gdTup_wt {g : DTGs} {n : Nat} {ds : List D} : gdTup n g (.wt ds) τ S k = (ds.length = n ∧ g ds τ S k) := rfl
@[simp] theorem gdSub_eq {w : D → D → D → Sto → (Sto → Prop) → Prop} : gdSub t u w d τ S k = t τ S fun o S1 => u τ S1 fun i S2 => w o i d S2 fun S3 => k τ S3 := rfl
@[simp] theorem dAsg_eq {g : DTG} : dAsg t g Dn τ S = t τ S fun x S1 => g x τ S1 Dn.nx := rfl
@[simp] theorem dPar_eq : dPar i j ta Dn τ S = ta τ S fun ds S1 => match ds with | [x, y] => Dn.nx ((τ.set i (some x)).set j (some y)) S1 | _ => False := rfl
@[simp] theorem dPar3_eq {l : Nat} : dPar3 i j l ta Dn τ S = ta τ S fun ds S1 => match ds with | [x, y, z] => Dn.nx (((τ.set i (some x)).set j (some y)).set l (some z)) S1 | _ => False := rfl
@[simp] theorem dCall_eq {sp : DSp} {dds : List D} : dCall sp dds ta τ S Q = ta τ S fun ds S1 => sp (ds ++ dds) S1 Q noX := rfl
@[simp] theorem bodyEnds_nx : (bodyEnds Q).nx τ S = Q .non S := rfl
@[simp] theorem bodyEnds_rt : (bodyEnds Q).rt = Q := rfl
@[simp] theorem dNoPart_eq {Qi : Option Int → Sto → Prop} : dNoPart τ S Qi = Qi none S := rfl
@[simp] theorem dPart_eq {Qi : Option Int → Sto → Prop} : dPart t τ S Qi = t τ S (isI Qi) := rfl
@[simp] theorem dCut_eq {tl th : DTO} : dCut t tl th τ S Q = t τ S fun x S1 => tl τ S1 fun l S2 => th τ S2 fun u S3 => wCut x l u S3 Q := rfl
@[simp] theorem dBM_eq {T : String} {w : D → List D → Sto → KD → Prop} : dBM T w t ta τ S Q = t τ S fun x S1 => tyD T x S1 ∧ ta τ S1 fun ds S2 => w x ds S2 Q := rfl
@[simp] theorem dBM0_eq {T : String} {w : D → List D → Sto → KD → Prop} : dBM0 T w t τ S Q = t τ S fun x S1 => tyD T x S1 ∧ w x [] S1 Q := rfl
@[simp] theorem dFor_eq {wi : DTI} {g : DTG} : dFor wi g ts Dn τ S = wi τ S fun ds stab S1 => loopF g ts Dn stab ds τ S1 := rfl
@[simp] theorem dWhile_eq : dWhile c ts Dn τ S = ∃ n, whF c ts Dn n τ S := rfl
@[simp] theorem diVal_eq {w : WIt} {R : List D → (Sto → Prop) → Sto → Prop} : diVal t w τ S R = t τ S fun d S1 => w d S1 R := rfl
@[simp] theorem diRng1_eq {R : List D → (Sto → Prop) → Sto → Prop} : diRng1 ta τ S R = ta τ S fun ds S1 => match ds with | [.int j] => j < 2 ^ 62 ∧ -(2 ^ 62) ≤ j ∧ R (rngD 0 j.toNat) (fun _ => True) S1 | _ => False := rfl
@[simp] theorem dLC_eq {wi : DTI} {g : DTG} {tt : DTT} {vs all : List Nat} {rs : List ClT} : dLC wi g tt vs all rs t τ S Q = wi τ S fun ds stab S1 => ∀ D, S1 D = none → loopC g tt vs (compR rs (emLst t D)) stab ds (wipeD τ all) (put S1 D (.lst [])) (fun S2 => Q (.ref D) S2) := rfl
@[simp] theorem dDC_eq {wi : DTI} {g : DTG} {tt : DTT} {vs all : List Nat} {rs : List ClT} : dDC wi g tt vs all rs t u τ S Q = wi τ S fun ds stab S1 => ∀ D, S1 D = none → loopC g tt vs (compR rs (emDct t u D)) stab ds (wipeD τ all) (put S1 D (.dct [])) (fun S2 => Q (.ref D) S2) := rfl
@[simp] theorem dGet1_eq : dGet1 t u τ S Q = t τ S (isRef fun a S1 => isDct S1 a ∧ u τ S1 fun y S2 => onD S2 a y fun kvs => Q ((dGet kvs y).getD .non) S2) := rfl
@[simp] theorem dYes_eq : dYes τ S QT = QT true S := rfl
@[simp] theorem wipeD_nil : wipeD τ [] = τ := rfl
@[simp] theorem wipeD_cons {n : Nat} {ns : List Nat} : wipeD τ (n :: ns) = (wipeD τ ns).set n none := rfl
-- values
variable {m n : Int} {a b : Addr} {ds es : List D}
@[simp] theorem wAdd_int : wAdd (.int m) (.int n) S Q = Q (.int (m + n)) S := rfl
@[simp] theorem wAdd_str {p q : Str} : wAdd (.str p) (.str q) S Q = (p.length + q.length ≤ sizeLine ∧ Q (.str (p ++ q)) S) := rfl
@[simp] theorem wAdd_tup : wAdd (.tup ds) (.tup es) S Q = (ds.length + es.length ≤ sizeLine ∧ Q (.tup (ds ++ es)) S) := rfl
@[simp] theorem wAdd_ref : wAdd (.ref a) (.ref b) S Q = onL S a fun xs => onL S b fun ys => xs.length + ys.length ≤ sizeLine ∧ ∀ p, S p = none → Q (.ref p) (put S p (.lst (xs ++ ys))) := rfl
@[simp] theorem wI_int {C : Int → Int → Prop} {g : Int → Int → Int} : wI C g (.int m) (.int n) S Q = (C m n ∧ Q (.int (g m n)) S) := rfl
@[simp] theorem wCmp_int {p : Int → Int → Bool} {t : List Nat → List Nat → Bool} : wCmp p t (.int m) (.int n) S Q = Q (.bl (p m n)) S := rfl
@[simp] theorem wIsN_eq : wIsN x .non S Q = Q (.bl (decide (x = .non))) S := by simp [wIsN]
@[simp] theorem wLen_tup : wLen [.tup ds] S Q = Q (.int ds.length) S := rfl
@[simp] theorem wLen_fz : wLen [.fz ds] S Q = Q (.int ds.length) S := rfl
@[simp] theorem wLen_lst (h : S a = some (.lst ds)) : wLen [.ref a] S Q = Q (.int ds.length) S := by simp [wLen, h]
@[simp] theorem wLen_dct {kvs : List (D × D)} (h : S a = some (.dct kvs)) : wLen [.ref a] S Q = Q (.int kvs.length) S := by simp [wLen, h]
@[simp] theorem wLen_fdc {o : Obj} {kvs : List (D × D)} (h : S a = some (.fdc o kvs)) : wLen [.ref a] S Q = Q (.int kvs.length) S := by simp [wLen, h]
@[simp] theorem onS_some {α : Type} {x : α} {k : α → Prop} : onS (some x) k = k x := rfl
@[simp] theorem wTuple_tup : wTuple [.tup ds] S Q = Q (.tup ds) S := rfl
@[simp] theorem wTuple_lst (h : S a = some (.lst ds)) : wTuple [.ref a] S Q = Q (.tup ds) S := by simp [wTuple, h]
@[simp] theorem wList_tup : wList [.tup ds] S Q = ∀ p, S p = none → Q (.ref p) (put S p (.lst ds)) := rfl
@[simp] theorem wList_fz : wList [.fz ds] S Q = ∀ p, S p = none → Q (.ref p) (put S p (.lst ds)) := rfl
@[simp] theorem wList_lst (h : S a = some (.lst ds)) : wList [.ref a] S Q = ∀ p, S p = none → Q (.ref p) (put S p (.lst ds)) := by simp [wList, h]
@[simp] theorem wAt_tup {i : Int} : wAt (.tup ds) (.int i) S Q = onS (atI ds i) fun d => Q d S := rfl
@[simp] theorem wAt_fz {i : Int} : wAt (.fz ds) (.int i) S Q = onS (atI ds i) fun d => Q d S := rfl
@[simp] theorem wAt_lst {i : Int} (h : S a = some (.lst ds)) : wAt (.ref a) (.int i) S Q = onS (atI ds i) fun d => Q d S := by simp [wAt, isLst, h, wIx]
theorem wAt_dct {kvs : List (D × D)} {v : D} (h : S a = some (.dct kvs)) (f : keyFit kvs y = true) (e : dGet kvs y = some v) : wAt (.ref a) y S Q = Q v S := by simp [wAt, isLst, h, onD, rdD, f, e]
theorem wAt_fdc {o : Obj} {kvs : List (D × D)} {v : D} (h : S a = some (.fdc o kvs)) (f : keyFit kvs y = true) (e : dGet kvs y = some v) : wAt (.ref a) y S Q = Q v S := by
  have hn : kvs ≠ [] := by intro z; subst z; cases e
  simp [wAt, isLst, h, onD, rdD, f, e, hn]
theorem wIn_dct {neg : Bool} {kvs : List (D × D)} (h : S a = some (.dct kvs)) (f : keyFit kvs x = true) : wIn neg x (.ref a) S Q = Q (.bl (neg != (dGet kvs x).isSome)) S := by simp [wIn, isLst, h, onD, rdD, f]
@[simp] theorem wSet_lst {i : Int} {v : D} {k : Sto → Prop} (h : S a = some (.lst ds)) : wSet (.ref a) (.int i) v S k = onS (ixN ds.length i) fun j => k (put S a (.lst (ds.set j v))) := by simp [wSet, h]; cases ixN ds.length i <;> rfl
@[simp] theorem wAppend_lst (h : S a = some (.lst ds)) : wAppend (.ref a) [y] S Q = (ds.length < sizeLine ∧ Q .non (put S a (.lst (ds ++ [y])))) := by simp [wAppend, h]
@[simp] theorem wExtend_tup (h : S a = some (.lst ds)) : wExtend (.ref a) [.tup es] S Q = (ds.length + es.length ≤ sizeLine ∧ Q .non (put S a (.lst (ds ++ es)))) := by simp [wExtend, h]
@[simp] theorem wExtend_lst (h : S a = some (.lst ds)) (h' : S b = some (.lst es)) : wExtend (.ref a) [.ref b] S Q = (ds.length + es.length ≤ sizeLine ∧ Q .non (put S a (.lst (ds ++ es)))) := by simp [wExtend, h, h']
@[simp] theorem tyD_lst (h : S a = some (.lst ds)) : tyD "list" (.ref a) S := by simp [tyD, h]
@[simp] theorem wIter_tup {R : List D → (Sto → Prop) → Sto → Prop} : wIterA (.tup ds) S R = R ds (fun _ => True) S := rfl
@[simp] theorem wIter_fz {R : List D → (Sto → Prop) → Sto → Prop} : wIterA (.fz ds) S R = R ds (fun _ => True) S := rfl
@[simp] theorem wIter_lst {R : List D → (Sto → Prop) → Sto → Prop} (h : S a = some (.lst ds)) : wIterA (.ref a) S R = R ds (fun S' => S' a = some (.lst ds)) S := by simp [wIterA, fdcOf, h, wIter]
@[simp] theorem wIter_fdc {R : List D → (Sto → Prop) → Sto → Prop} {o : Obj} {kvs : List (D × D)} (h : S a = some (.fdc o kvs)) : wIterA (.ref a) S R = R (kvs.map (·.1)) (fun S' => S' a = some (.fdc o kvs)) S := by simp [wIterA, fdcOf, h]
theorem ne_of_free {p : Addr} {o : AO} (h : S p = none) (h' : S a = some o) : a ≠ p := fun e => by subst e; rw [h] at h'; cases h'
@[simp] theorem put_put' {o o' : AO} : put (put S a o) a o' = put S a o' := put_put
theorem put_self {o : AO} (h : S a = some o) : put S a o = S := by
  funext b; unfold put; split
  · rename_i e; rw [e, h]
  · rfl
theorem put_swap {o o' : AO} (h : a ≠ b) : put (put S a o) b o' = put (put S b o') a o := by
  funext c; unfold put; split <;> split <;> first | rfl | (rename_i e1 e2; exact absurd (e2.symm.trans e1) h)
end
end DL
namespace DL
open PySem PySem.Spec PyProof.Rows L2
mutual
def D.cl : D → Nat → Bool
  | .non, _ => true | .int _, _ => true | .str _, _ => true
  | .tup ds, n + 1 => D.cls ds n | .fz ds, n + 1 => D.cls ds n
  | _, _ => false
def D.cls : List D → Nat → Bool
  | [], _ => true
  | d :: r, n => D.cl d n && D.cls r n
end
mutual
theorem D.ok_of_cl : ∀ (d : D) (n : Nat), d.cl n = true → d.ok n = true
  | .non, _, _ => rfl | .int _, _, _ => rfl | .str _, _, _ => rfl
  | .tup ds, n + 1, h => by rw [D.ok]; rw [D.cl] at h; exact D.oks_of_cls ds n h
  | .fz ds, n + 1, h => by rw [D.ok]; rw [D.cl] at h; exact D.oks_of_cls ds n h
  | .tup _, 0, h => by simp [D.cl] at h
  | .fz _, 0, h => by simp [D.cl] at h
  | .bl _, _, h => by simp [D.cl] at h
  | .wt _, _, h => by simp [D.cl] at h
  | .ref _, _, h => by simp [D.cl] at h
  | .ty _, _, h => by simp [D.cl] at h
theorem D.oks_of_cls : ∀ (ds : List D) (n : Nat), D.cls ds n = true → D.oks ds n = true
  | [], _, _ => rfl
  | d :: r, n, h => by
    rw [D.cls, Bool.and_eq_true] at h
    rw [D.oks, D.ok_of_cl d n h.1, D.oks_of_cls r n h.2]; rfl
end
mutual
theorem D.cl_up : ∀ (d : D) (n m : Nat), n ≤ m → d.cl n = true → d.cl m = true
  | .non, _, _, _, _ => by simp [D.cl]
  | .int _, _, _, _, _ => by simp [D.cl]
  | .str _, _, _, _, _ => by simp [D.cl]
  | .tup ds, n + 1, m, hm, h => by
    obtain ⟨m', rfl⟩ : ∃ m', m = m' + 1 := ⟨m - 1, by omega⟩
    rw [D.cl] at *; exact D.cls_up ds n m' (by omega) h
  | .fz ds, n + 1, m, hm, h => by
    obtain ⟨m', rfl⟩ : ∃ m', m = m' + 1 := ⟨m - 1, by omega⟩
    rw [D.cl] at *; exact D.cls_up ds n m' (by omega) h
  | .tup _, 0, _, _, h => by simp [D.cl] at h
  | .fz _, 0, _, _, h => by simp [D.cl] at h
  | .bl _, _, _, _, h => by simp [D.cl] at h
  | .wt _, _, _, _, h => by simp [D.cl] at h
  | .ref _, _, _, _, h => by simp [D.cl] at h
  | .ty _, _, _, _, h => by simp [D.cl] at h
theorem D.cls_up : ∀ (ds : List D) (n m : Nat), n ≤ m → D.cls ds n = true → D.cls ds m = true
  | [], _, _, _, _ => by simp [D.cls]
  | d :: r, n, m, hm, h => by
    rw [D.cls, Bool.and_eq_true] at *
    exact ⟨D.cl_up d n m hm h.1, D.cls_up r n m hm h.2⟩
end
mutual
theorem rd_ok : ∀ (d : D) (n k : Nat) (S : Sto), d.ok n = true → rd k S d = d
  | _, _, 0, _, _ => by simp [rd]
  | .non, _, _ + 1, _, _ => by simp [rd]
  | .bl _, _, _ + 1, _, _ => by simp [rd]
  | .int _, _, _ + 1, _, _ => by simp [rd]
  | .str _, _, _ + 1, _, _ => by simp [rd]
  | .tup ds, n + 1, k + 1, S, h => by rw [rd, rds_ok ds n k S (by rw [D.ok] at h; exact h)]
  | .fz ds, n + 1, k + 1, S, h => by rw [rd, rds_ok ds n k S (by rw [D.ok] at h; exact h)]
  | .tup _, 0, _ + 1, _, h => by simp [D.ok] at h
  | .fz _, 0, _ + 1, _, h => by simp [D.ok] at h
  | .wt _, _, _ + 1, _, h => by simp [D.ok] at h
  | .ref _, _, _ + 1, _, h => by simp [D.ok] at h
  | .ty _, _, _ + 1, _, h => by simp [D.ok] at h
theorem rds_ok : ∀ (ds : List D) (n k : Nat) (S : Sto), D.oks ds n = true → ds.map (rd k S) = ds
  | [], _, _, _, _ => rfl
  | d :: r, n, k, S, h => by
    rw [D.oks, Bool.and_eq_true] at h
    rw [List.map_cons, rd_ok d n k S h.1, rds_ok r n k S h.2]
end
theorem rd_cl {d : D} {n k : Nat} {S : Sto} (h : d.cl n = true) : rd k S d = d := rd_ok d n k S (D.ok_of_cl d n h)
mutual
theorem eqv_cl : ∀ (a b : D) (n m : Nat), a.cl n = true → b.cl m = true → PyData.eqv a.py b.py = decide (a = b)
  | .non, b, _, _, _, h => by cases b <;> simp [D.cl, D.py, PyData.eqv] at *
  | .int i, b, _, _, _, h => by
    cases b with
    | int j => simp only [D.py, PyData.eqv, D.int.injEq]; by_cases e : i = j <;> simp [e]
    | _ => simp [D.cl, D.py, PyData.eqv] at *
  | .str x, b, _, _, _, h => by
    cases b with
    | str y => simp only [D.py, PyData.eqv, D.str.injEq]; by_cases e : x = y <;> simp [e]
    | _ => simp [D.cl, D.py, PyData.eqv] at *
  | .tup ds, b, n + 1, m, h1, h => by
    rw [D.cl] at h1
    cases b with
    | tup es =>
      cases m with
      | zero => simp [D.cl] at h
      | succ m =>
        rw [D.cl] at h
        rw [D.py, D.py, PyData.eqv, eqvs_cl ds es n m h1 h]
        simp
    | _ => simp [D.cl, D.py, PyData.eqv] at *
  | .fz ds, b, n + 1, m, h1, h => by
    rw [D.cl] at h1
    cases b with
    | fz es =>
      cases m with
      | zero => simp [D.cl] at h
      | succ m =>
        rw [D.cl] at h
        rw [D.py, D.py, PyData.eqv, eqvs_cl ds es n m h1 h]
        simp
    | _ => simp [D.cl, D.py, PyData.eqv] at *
  | .tup _, _, 0, _, h, _ => by simp [D.cl] at h
  | .fz _, _, 0, _, h, _ => by simp [D.cl] at h
  | .bl _, _, _, _, h, _ => by simp [D.cl] at h
  | .wt _, _, _, _, h, _ => by simp [D.cl] at h
  | .ref _, _, _, _, h, _ => by simp [D.cl] at h
  | .ty _, _, _, _, h, _ => by simp [D.cl] at h
theorem eqvs_cl : ∀ (a b : List D) (n m : Nat), D.cls a n = true → D.cls b m = true → PyData.eqvAll (D.pys a) (D.pys b) = decide (a = b)
  | [], [], _, _, _, _ => by simp [D.pys, PyData.eqvAll]
  | [], _ :: _, _, _, _, _ => by simp [D.pys, PyData.eqvAll]
  | _ :: _, [], _, _, _, _ => by simp [D.pys, PyData.eqvAll]
  | a :: r, b :: t, n, m, h1, h2 => by
    rw [D.cls, Bool.and_eq_true] at h1 h2
    rw [D.pys, D.pys, PyData.eqvAll, eqv_cl a b n m h1.1 h2.1, eqvs_cl r t n m h1.2 h2.2]
    by_cases e : a = b <;> by_cases e' : r = t <;> simp [e, e']
end
theorem D.cls_iff {ds : List D} {n : Nat} : D.cls ds n = true ↔ ∀ d ∈ ds, d.cl n = true := by
  induction ds with
  | nil => simp [D.cls]
  | cons d r ih => rw [D.cls, Bool.and_eq_true, ih]; simp
def Reads (S : Sto) (x c : D) : Prop := rd 6 S x = c ∧ c.cl 20 = true
theorem Reads.cl {S : Sto} {x : D} (h : x.cl 20 = true) : Reads S x x := ⟨rd_cl h, h⟩
theorem Reads.lst {S : Sto} {a : Addr} {ds : List D} (e : S a = some (.lst ds)) (h : ∀ d ∈ ds, d.cl 19 = true) : Reads S (.ref a) (.fz ds) := by
  have hc : D.cls ds 19 = true := D.cls_iff.mpr h
  exact ⟨by rw [rd, e]; simp only; rw [rds_ok ds 19 5 S (D.oks_of_cls ds 19 hc)], by rw [D.cl]; exact hc⟩
section
variable {S : Sto} {Q : KD} {x y c e : D} {neg : Bool}
theorem wEq_of (h1 : Reads S x c) (h2 : Reads S y e) : wEq x y S Q = Q (.bl (decide (c = e))) S := by
  unfold wEq
  rw [h1.1, h2.1, D.eqv, eqv_cl c e 20 20 h1.2 h2.2]
  simp [D.ok_of_cl _ _ (D.cl_up _ 20 40 (by decide) h1.2), D.ok_of_cl _ _ (D.cl_up _ 20 40 (by decide) h2.2)]
theorem wNe_of (h1 : Reads S x c) (h2 : Reads S y e) : wNe x y S Q = Q (.bl (!decide (c = e))) S := by
  unfold wNe
  rw [h1.1, h2.1, D.eqv, eqv_cl c e 20 20 h1.2 h2.2]
  simp [D.ok_of_cl _ _ (D.cl_up _ 20 40 (by decide) h1.2), D.ok_of_cl _ _ (D.cl_up _ 20 40 (by decide) h2.2)]
end
theorem ints_cl {ns : List Int} {n : Nat} : ∀ d ∈ ns.map D.int, d.cl n = true := fun d hd => by
  obtain ⟨i, _, rfl⟩ := List.mem_map.mp hd
  simp [D.cl]
theorem int_inj {a b : Int} (h : D.int a = D.int b) : a = b := by cases h; rfl
@[simp] theorem ints_eq {a b : List Int} : a.map D.int = b.map D.int ↔ a = b := ⟨fun h => List.map_inj_right (fun _ _ => int_inj) |>.mp h, fun h => by rw [h]⟩
@[simp] theorem mem_ints {a : Int} {b : List Int} : D.int a ∈ b.map D.int ↔ a ∈ b := by simp
theorem atI_nat {α : Type} {xs : List α} {i : Nat} (h : i < xs.length) : atI xs (i : Int) = some xs[i] := by
  unfold atI ixN
  rw [if_pos (by omega), if_pos (by omega)]
  simp [h]
theorem atI_int {α : Type} {xs : List α} {i : Int} (h0 : 0 ≤ i) (h : i < xs.length) : atI xs i = some (xs[i.toNat]'(by omega)) := by
  unfold atI ixN
  rw [if_pos h0, if_pos h]
  have : i.toNat < xs.length := by omega
  simp [this]
theorem atI_last {α : Type} {xs : List α} (h : xs ≠ []) : atI xs (-1) = xs.getLast? := by
  have : 0 < xs.length := List.length_pos_iff.mpr h
  unfold atI ixN
  rw [if_neg (by decide), if_pos (by omega), List.getLast?_eq_getElem?]
  simp
  congr 1
  omega
@[simp] theorem atI0 {α : Type} {x : α} {r : List α} : atI (x :: r) 0 = some x := by
  have := atI_nat (xs := x :: r) (i := 0) (by simp)
  simpa using this
@[simp] theorem atI1 {α : Type} {x y : α} {r : List α} : atI (x :: y :: r) 1 = some y := by
  have := atI_nat (xs := x :: y :: r) (i := 1) (by simp)
  simpa using this
@[simp] theorem atI2 {α : Type} {x y z : α} {r : List α} : atI (x :: y :: z :: r) 2 = some z := by
  have := atI_nat (xs := x :: y :: z :: r) (i := 2) (by simp)
  simpa using this
@[simp] theorem atI3 {α : Type} {x y z u : α} {r : List α} : atI (x :: y :: z :: u :: r) 3 = some u := by
  have := atI_nat (xs := x :: y :: z :: u :: r) (i := 3) (by simp)
  simpa using this
theorem wPop_at {S : Sto} {a : Addr} {ds : List D} {i : Int} {Q : KD} (h : S a = some (.lst ds)) (h0 : 0 ≤ i) (h1 : i < ds.length) (h2 : ds.length < 2 ^ 62) :
    wPop (.ref a) [.int i] S Q = Q (ds[i.toNat]'(by omega)) (put S a (.lst (ds.eraseIdx i.toNat))) := by
  have e : seqIndex? i ds.length = some i.toNat := by
    unfold seqIndex?
    simp only [if_neg (show ¬ i < 0 by omega)]
    simp [h0, h1]
  have hi : i.toNat < ds.length := by omega
  have z1 : -(2 ^ 63) ≤ i := by omega
  have z2 : i < 2 ^ 63 := by omega
  simp only [wPop, onL_eq h, e, onS_some, List.getElem?_eq_getElem hi]
  exact propext ⟨fun z => z.2.2, fun z => ⟨z1, z2, z⟩⟩
theorem rngD_eq (n : Nat) : ∀ k : Int, rngD k n = (List.range n).map fun i : Nat => D.int (k + (i : Int)) := by
  induction n with
  | zero => intro k; rfl
  | succ n ih =>
    intro k
    rw [rngD, ih, List.range_succ_eq_map, List.map_cons, List.map_map]
    simp only [Function.comp_def, List.cons.injEq, List.map_inj_left]
    refine ⟨by simp, fun i _ => ?_⟩
    congr 1
    omega
theorem loop_map {β : Type} {g : DTG} {tb : DTS} {Dn : DEnds} {stab : Sto → Prop} (f : β → D) (I : List β → DSt → Sto → Prop) {xs : List β}
    (hst : ∀ done τ S, I done τ S → stab S) (hend : ∀ τ S, I xs τ S → Dn.nx τ S)
    (step : ∀ done x rest τ S, xs = done ++ x :: rest → I done τ S → ∀ N : DSt → Sto → Prop, (∀ τ' S', I (done ++ [x]) τ' S' → N τ' S') → g (f x) τ S fun τ2 S2 => tb { Dn with nx := N, ct := N, bk := Dn.nx } τ2 S2) :
    ∀ {τ : DSt} {S : Sto}, I [] τ S → loopF g tb Dn stab (xs.map f) τ S := by
  have main : ∀ (rest done : List β), xs = done ++ rest → ∀ τ S, I done τ S → loopF g tb Dn stab (rest.map f) τ S := by
    intro rest
    induction rest with
    | nil => intro done e τ S h; rw [List.append_nil] at e; subst e; exact ⟨hst _ _ _ h, hend _ _ h⟩
    | cons d rest ih =>
      intro done e τ S h
      exact ⟨hst _ _ _ h, step done d rest τ S e h _ fun τ' S' h' => ih (done ++ [d]) (by rw [e, List.append_assoc]; rfl) τ' S' h'⟩
  intro τ S h
  exact main xs [] rfl τ S h
theorem rngD_map (n : Nat) : rngD 0 n = (List.range n).map fun i : Nat => D.int (i : Int) := by rw [rngD_eq]; simp
theorem while_of {c : DTT} {tb : DTS} {Dn : DEnds} (I : Nat → DSt → Sto → Prop)
    (step : ∀ n τ S, I n τ S → ∀ N : DSt → Sto → Prop, (∀ m τ' S', m < n → I m τ' S' → N τ' S') → c τ S fun b S1 => if b = true then tb { Dn with nx := N, ct := N, bk := Dn.nx } τ S1 else Dn.nx τ S1) :
    ∀ {n : Nat} {τ : DSt} {S : Sto}, I n τ S → dWhile c tb Dn τ S := by
  have main : ∀ (k n : Nat) τ S, n < k → I n τ S → whF c tb Dn k τ S := by
    intro k
    induction k with
    | zero => intro n τ S h; omega
    | succ k ih => exact fun n τ S h hi => step n τ S hi _ fun m τ' S' hm hi' => ih m τ' S' (by omega) hi'
  intro n τ S h
  exact ⟨n + 1, main (n + 1) n τ S (Nat.lt_succ_self n) h⟩
theorem lc_map {β : Type} {g : DTG} {tt : DTT} {vs : List Nat} {te : DTE} {D' : Addr} {stab : Sto → Prop} {τ : DSt} {S : Sto} {k : Sto → Prop} (enc : β → D) (f : β → List D) (xs : List β)
    (hst : ∀ o, stab (put S D' o)) (hz : ((xs.flatMap f).length) ≤ sizeLine)
    (step : ∀ x ∈ xs, ∀ (acc : List D) (k : Sto → Prop), acc.length + (f x).length ≤ sizeLine → k (put S D' (.lst (acc ++ f x))) → g (enc x) τ (put S D' (.lst acc)) fun τ2 S2 => wipeD τ2 vs = τ ∧ tt τ2 S2 fun b S3 => if b = true then emLst te D' τ2 S3 k else k S3)
    (hk : k (put S D' (.lst (xs.flatMap f)))) : loopC g tt vs (compR [] (emLst te D')) stab (xs.map enc) τ (put S D' (.lst [])) k := by
  have main : ∀ (rest done : List β), xs = done ++ rest → loopC g tt vs (compR [] (emLst te D')) stab (rest.map enc) τ (put S D' (.lst (done.flatMap f))) k := by
    intro rest
    induction rest with
    | nil => intro done e; rw [List.append_nil] at e; subst e; exact ⟨hst _, hk⟩
    | cons d rest ih =>
      intro done e
      have hd : d ∈ xs := by rw [e]; simp
      have hlen : (done.flatMap f).length + (f d).length ≤ sizeLine := by
        rw [e] at hz
        simp only [List.flatMap_append, List.flatMap_cons, List.length_append] at hz
        omega
      have e2 : (done ++ [d]).flatMap f = done.flatMap f ++ f d := by simp
      have e3 := ih (done ++ [d]) (by rw [e, List.append_assoc]; rfl)
      rw [e2] at e3
      exact ⟨hst _, step d hd _ _ hlen e3⟩
  exact main xs [] rfl
theorem loopC_map {β : Type} {g : DTG} {tt : DTT} {vs : List Nat} {inner : DEmT} {stab : Sto → Prop} {τ : DSt} {k : Sto → Prop} (enc : β → D) (I : List β → Sto → Prop) {xs : List β}
    (hst : ∀ done S, I done S → stab S) (hend : ∀ S, I xs S → k S)
    (step : ∀ done x rest S, xs = done ++ x :: rest → I done S → ∀ N : Sto → Prop, (∀ S', I (done ++ [x]) S' → N S') → g (enc x) τ S fun τ2 S2 => wipeD τ2 vs = τ ∧ tt τ2 S2 fun b S3 => if b = true then inner τ2 S3 N else N S3) :
    ∀ {S : Sto}, I [] S → loopC g tt vs inner stab (xs.map enc) τ S k := by
  have main : ∀ (rest done : List β), xs = done ++ rest → ∀ S, I done S → loopC g tt vs inner stab (rest.map enc) τ S k := by
    intro rest
    induction rest with
    | nil => intro done e S h; rw [List.append_nil] at e; subst e; exact ⟨hst _ _ h, hend _ h⟩
    | cons d rest ih =>
      intro done e S h
      exact ⟨hst _ _ h, step done d rest S e h _ fun S' h' => ih (done ++ [d]) (by rw [e, List.append_assoc]; rfl) S' h'⟩
  intro S h
  exact main xs [] rfl S h
@[simp] theorem emDct_eq {tk tv : DTE} {D' : Addr} {τ : DSt} {S : Sto} {k : Sto → Prop} : emDct tk tv D' τ S k = tk τ S fun kd S1 => tv τ S1 fun vd S2 => match S2 D' with
  | some (.dct kvs) => keyFitW kvs kd = true ∧ kvs.length < sizeLine ∧ k (put S2 D' (.dct (dPut kvs kd vd)))
  | _ => False := rfl
@[simp] theorem compR_nil {em : DEmT} : compR [] em = em := rfl
@[simp] theorem compR_cons {wi : DTI} {g : DTG} {tt : DTT} {vs : List Nat} {rs : List ClT} {em : DEmT} {τ : DSt} {S : Sto} {k : Sto → Prop} : compR ((wi, g, tt, vs) :: rs) em τ S k = wi τ S fun ds stab S1 => loopC g tt vs (compR rs em) stab ds τ S1 k := rfl
theorem flatMap_le {α β : Type} (f : α → List β) (n : Nat) : ∀ xs : List α, (∀ x ∈ xs, (f x).length ≤ n) → (xs.flatMap f).length ≤ n * xs.length
  | [], _ => by simp
  | x :: xs, h => by
    have := flatMap_le f n xs fun z hz => h z (List.mem_cons_of_mem _ hz)
    have := h x (List.mem_cons_self ..)
    simp only [List.flatMap_cons, List.length_append, List.length_cons, Nat.mul_add]
    omega
@[simp] theorem emLst_eq {te : DTE} {D' : Addr} {τ : DSt} {S : Sto} {k : Sto → Prop} : emLst te D' τ S k = te τ S fun y S1 => onL S1 D' fun acc => acc.length < sizeLine ∧ k (put S1 D' (.lst (acc ++ [y]))) := rfl
end DL
namespace DL
open PySem PySem.Spec PyProof.Rows L2
def Keeps (t : Addr) (S S' : Sto) : Prop := ∀ a o, a ≠ t → S a = some o → S' a = some o
theorem Keeps.refl {t : Addr} {S : Sto} : Keeps t S S := fun _ _ _ h => h
theorem Keeps.trans {t : Addr} {S S1 S2 : Sto} (h : Keeps t S S1) (k : Keeps t S1 S2) : Keeps t S S2 := fun a o z e => k a o z (h a o z e)
theorem Keeps.new {t p : Addr} {S : Sto} {o : AO} (h : S p = none) : Keeps t S (put S p o) := fun a u z e => by
  rw [put_ne (fun y => by subst y; rw [h] at e; cases e)]; exact e
theorem Keeps.then {t p : Addr} {S S1 : Sto} {o : AO} (k : Keeps t S S1) (h : S p = none) : Keeps t S (put S1 p o) := fun a u z e => by
  rw [put_ne (fun y => by subst y; rw [h] at e; cases e)]; exact k a u z e
theorem Keeps.free {t p : Addr} {S S1 : Sto} (k : Keeps t S S1) (h : S1 p = none) (hpt : p ≠ t) : S p = none := by
  cases e : S p with
  | none => rfl
  | some o => rw [k p o hpt e] at h; cases h
theorem cutD_map {f : Int → D} {ns : List Int} {lo hi : Option Int} : ∃ ms : List Int, cutD (ns.map f) lo hi = ms.map f := ⟨(ns.drop (HT.sIx (ns.map f).length 0 lo)).take (HT.sIx (ns.map f).length (ns.map f).length hi - HT.sIx (ns.map f).length 0 lo), by
  unfold cutD
  rw [← List.map_drop, ← List.map_take]⟩
@[simp] theorem wCut_fz {ds : List D} {lo hi : Option Int} {S : Sto} {Q : KD} : wCut (.fz ds) lo hi S Q = ∀ p, S p = none → Q (.ref p) (put S p (.lst (cutD ds lo hi))) := rfl
@[simp] theorem wCut_tup {ds : List D} {lo hi : Option Int} {S : Sto} {Q : KD} : wCut (.tup ds) lo hi S Q = Q (.tup (cutD ds lo hi)) S := rfl
@[simp] theorem wCut_lst {a : Addr} {ds : List D} {lo hi : Option Int} {S : Sto} {Q : KD} (h : S a = some (.lst ds)) : wCut (.ref a) lo hi S Q = ∀ p, S p = none → Q (.ref p) (put S p (.lst (cutD ds lo hi))) := by simp [wCut, onL_eq h]
end DL
namespace DL
open PySem PySem.Spec PyProof.Rows L2
theorem lstOf_ref {S : Sto} {a : Addr} {ds : List D} (h : S a = some (.lst ds)) : lstOf S (.ref a) = some ds := by simp [lstOf, h]
theorem wSorted_of {β : Type} {S : Sto} {Q : KD} {d : D} (xs : List β) (g : β → D) (le : β → β → Bool) (h : lstOf S d = some (xs.map g)) (hc : ∀ x ∈ xs, (g x).cl 20 = true) (al : ∀ x ∈ xs, ∀ y ∈ xs, PySem.W.alike (g x).py (g y).py = true)
    (so : (∀ x ∈ xs, ∃ u r, (g x).py = .tuple (u :: r)) ∨ ∀ x ∈ xs, (g x).py ≠ .none ∧ ∀ ys, (g x).py ≠ .tuple ys) (hle : ∀ x y, PySem.W.dataLe false (fun b => (g b).py) x y = le x y)
    (q : ∀ p, S p = none → Q (.ref p) (put S p (.lst ((xs.mergeSort le).map g)))) : wSorted [d] S Q := by
  have er : ∀ x ∈ xs, rd 6 S (g x) = g x := fun x hx => rd_cl (hc x hx)
  have em : (xs.map g).map (enc6 S) = xs.map fun x => (g x).py := by
    rw [List.map_map]
    exact List.map_congr_left fun x hx => by show (rd 6 S (g x)).py = _; rw [er x hx]
  show onS (lstOf S d) _
  rw [h]
  refine ⟨⟨fun d hd => ?_, ?_, ?_⟩, fun p hp => ?_⟩
  · obtain ⟨x, hx, rfl⟩ := List.mem_map.mp hd
    rw [er x hx]
    exact D.ok_of_cl _ _ (D.cl_up _ 20 40 (by decide) (hc x hx))
  · rw [em]
    intro d hd d' hd'
    obtain ⟨x, hx, rfl⟩ := List.mem_map.mp hd
    obtain ⟨y, hy, rfl⟩ := List.mem_map.mp hd'
    exact al x hx y hy
  · rw [em]
    rcases so with so | so
    · refine .inl fun d hd => ?_
      obtain ⟨x, hx, rfl⟩ := List.mem_map.mp hd
      exact so x hx
    · refine .inr fun d hd => ?_
      obtain ⟨x, hx, rfl⟩ := List.mem_map.mp hd
      exact so x hx
  · have : (xs.map g).mergeSort (dLe S) = (xs.mergeSort le).map g := by
      rw [List.map_mergeSort]
      intro a ha b hb
      rw [← hle]
      show PySem.W.dataLe false _ a b = PySem.W.dataLe false (enc6 S) (g a) (g b)
      have e1 : enc6 S (g a) = (g a).py := by show (rd 6 S (g a)).py = _; rw [er a ha]
      have e2 : enc6 S (g b) = (g b).py := by show (rd 6 S (g b)).py = _; rw [er b hb]
      unfold PySem.W.dataLe PySem.W.sortLe
      simp only [e1, e2]
    rw [this]
    exact q p hp
section
variable {S : Sto} {Q : KD}
@[simp] theorem isi_int_int {n : Int} : wIsi [.int n, .ty "int"] S Q = Q (.bl true) S := (rfl)
@[simp] theorem isi_int_bool {n : Int} : wIsi [.int n, .ty "bool"] S Q = Q (.bl false) S := (rfl)
@[simp] theorem isi_int_tuple {n : Int} : wIsi [.int n, .ty "tuple"] S Q = Q (.bl false) S := (rfl)
@[simp] theorem isi_int_list {n : Int} : wIsi [.int n, .ty "list"] S Q = Q (.bl false) S := (rfl)
@[simp] theorem isi_int_str {n : Int} : wIsi [.int n, .ty "str"] S Q = Q (.bl false) S := (rfl)
@[simp] theorem isi_str_str {n : Str} : wIsi [.str n, .ty "str"] S Q = Q (.bl true) S := (rfl)
@[simp] theorem isi_str_int {n : Str} : wIsi [.str n, .ty "int"] S Q = Q (.bl false) S := (rfl)
@[simp] theorem isi_str_tuple {n : Str} : wIsi [.str n, .ty "tuple"] S Q = Q (.bl false) S := (rfl)
@[simp] theorem isi_str_list {n : Str} : wIsi [.str n, .ty "list"] S Q = Q (.bl false) S := (rfl)
@[simp] theorem isi_bl_bool {n : Bool} : wIsi [.bl n, .ty "bool"] S Q = Q (.bl true) S := (rfl)
@[simp] theorem isi_bl_int {n : Bool} : wIsi [.bl n, .ty "int"] S Q = Q (.bl true) S := (rfl)
@[simp] theorem isi_bl_tuple {n : Bool} : wIsi [.bl n, .ty "tuple"] S Q = Q (.bl false) S := (rfl)
@[simp] theorem isi_tup_tuple {n : List D} : wIsi [.tup n, .ty "tuple"] S Q = Q (.bl true) S := (rfl)
@[simp] theorem isi_tup_list {n : List D} : wIsi [.tup n, .ty "list"] S Q = Q (.bl false) S := (rfl)
@[simp] theorem isi_tup_int {n : List D} : wIsi [.tup n, .ty "int"] S Q = Q (.bl false) S := (rfl)
@[simp] theorem isi_tup_str {n : List D} : wIsi [.tup n, .ty "str"] S Q = Q (.bl false) S := (rfl)
@[simp] theorem isi_non_list : wIsi [.non, .ty "list"] S Q = Q (.bl false) S := (rfl)
@[simp] theorem isi_non_int : wIsi [.non, .ty "int"] S Q = Q (.bl false) S := (rfl)
@[simp] theorem isi_non_tuple : wIsi [.non, .ty "tuple"] S Q = Q (.bl false) S := (rfl)
@[simp] theorem isi_non_str : wIsi [.non, .ty "str"] S Q = Q (.bl false) S := (rfl)
@[simp] theorem isi_lst_list {a : Addr} {ds : List D} (h : S a = some (.lst ds)) : wIsi [.ref a, .ty "list"] S Q = Q (.bl true) S := by
  show onS (tyOf (.ref a) S) _ = _
  rw [tyOf, h]; rfl
@[simp] theorem isi_lst_tuple {a : Addr} {ds : List D} (h : S a = some (.lst ds)) : wIsi [.ref a, .ty "tuple"] S Q = Q (.bl false) S := by
  show onS (tyOf (.ref a) S) _ = _
  rw [tyOf, h]; rfl
end
end DL
namespace DL
open PySem PySem.Spec PyProof.Rows L2
theorem flatMap_one {α β : Type} (f : α → β) : ∀ xs : List α, (xs.flatMap fun x => [f x]) = xs.map f
  | [] => rfl
  | x :: r => by rw [List.flatMap_cons, flatMap_one f r]; rfl
theorem onD_dct {S : Sto} {a : Addr} {kvs : List (D × D)} {y : D} {k : List (D × D) → Prop} (h : S a = some (.dct kvs)) (f : keyFit kvs y = true) : onD S a y k = k kvs := by simp [onD, rdD, h, f]
@[simp] theorem isDct_fdc {S : Sto} {a : Addr} {o : Obj} {kvs : List (D × D)} (h : S a = some (.fdc o kvs)) : isDct S a := by simp [isDct, h]
@[simp] theorem isDct_dct {S : Sto} {a : Addr} {kvs : List (D × D)} (h : S a = some (.dct kvs)) : isDct S a := by simp [isDct, h]
theorem range_split {n i : Nat} {d r : List Nat} (h : List.range n = d ++ i :: r) : i = d.length ∧ d.length < n := by
  have hl := congrArg List.length h
  simp at hl
  have h1 : (List.range n)[d.length]? = some i := by rw [h]; simp
  rw [List.getElem?_range (by omega)] at h1
  exact ⟨(Option.some.inj h1).symm, by omega⟩
@[simp] theorem wNe_int {S : Sto} {Q : KD} {a b : Int} : wNe (.int a) (.int b) S Q = Q (.bl (!decide (a = b))) S := by
  rw [wNe_of (.cl rfl) (.cl rfl)]; simp
@[simp] theorem wEq_int {S : Sto} {Q : KD} {a b : Int} : wEq (.int a) (.int b) S Q = Q (.bl (decide (a = b))) S := by
  rw [wEq_of (.cl rfl) (.cl rfl)]; simp
@[simp] theorem wNe_str {S : Sto} {Q : KD} {a b : Str} : wNe (.str a) (.str b) S Q = Q (.bl (!decide (a = b))) S := by
  rw [wNe_of (.cl rfl) (.cl rfl)]; simp
@[simp] theorem wEq_str {S : Sto} {Q : KD} {a b : Str} : wEq (.str a) (.str b) S Q = Q (.bl (decide (a = b))) S := by
  rw [wEq_of (.cl rfl) (.cl rfl)]; simp
end DL
namespace DL
open PySem PySem.Spec PyProof.Rows L2
section
variable {X : Cx} {pos : Pos}
theorem de_const {x : Str} {v : V} {u : Value} {d : D} (hm : X.mg x = some u) (r : RelV v u) (rd : ∀ H, RelD X.KW H v d) (hg : Gl X x) (hd : (x == ("__debug__" : Str)) = false := by decide) : DE X (.Name x pos) (dC d) :=
  de_c (pe_glob hg hm r hd) rd
theorem de_constI {x : Str} {i : Int} {t : Addr} (hm : X.mg x = some (.int i t)) (hg : Gl X x) (hd : (x == ("__debug__" : Str)) = false := by decide) : DE X (.Name x pos) (dC (.int i)) :=
  de_const (v := .int i) hm ⟨_, rfl⟩ (fun _ => .int i) hg hd
end
structure CalK (P : Program) (w : World) (K : PySem.W.Frag) (mg : Str → Option Value) (base : Heap) (k : Nat) (x : Str) (sp : DSp) (ks : List Str) (gD : List D → List D → List D) : Prop where
  ex : ∃ (f : Addr) (fd : FuncData) (ps : List Str) (g : List Value → List Value → List Value) (gV : List V → List V → List V), FnD P w K mg base k f fd ps sp ∧ mg x = some (.ref f) ∧ PySem.W.keepIn K (.ref f) = true ∧ KBinds K fd ps ks g gV ∧
    ∀ H vs zs ds es, RelDs ⟨K, P, w⟩ H vs ds → RelDs ⟨K, P, w⟩ H zs es → RelDs ⟨K, P, w⟩ H (gV vs zs) (gD ds es)
def dCallK (sp : DSp) (gD : List D → List D → List D) (t tk : DTA) : DTE := fun τ S Q => t τ S fun ds S1 => tk τ S1 fun es S2 => sp (gD ds es) S2 Q noX
end DL
namespace DL
open PySem PySem.Spec PyProof.Rows L2
def strsD : List D → Option (List Str)
  | [] => some []
  | .str b :: r => (strsD r).map (b :: ·)
  | _ => none
theorem strsD_eq : ∀ {ds : List D} {ns : List Str}, strsD ds = some ns → ds = ns.map D.str
  | [], ns, h => by cases h; rfl
  | d :: r, ns, h => by
    cases d <;> simp only [strsD] at h <;> first | (cases h; done) | skip
    obtain ⟨ms, h1, h2⟩ := Option.map_eq_some_iff.mp h
    subst h2
    rw [strsD_eq h1]; rfl
theorem strsD_map (ns : List Str) : strsD (ns.map D.str) = some ns := by induction ns with
  | nil => rfl
  | cons n r ih => simp [strsD, ih]
section
variable {X : Cx}
def wFind : D → List D → Sto → KD → Prop := fun x xs S Q => match x, xs with
  | .str a, [.str b] => Q (.int (Txt.find a b)) S
  | _, _ => False
theorem dmt_find : DMt X "str.find" wFind := ⟨_, mt_find, fun x xs dx ds H S Q R hr r1 r2 q k => by
  unfold wFind at q
  split at q
  · obtain ⟨y, rfl, ry⟩ := r2.one
    cases r1; cases ry
    exact ⟨_, _, rfl, rfl, k _ _ (.of (.refl _) hr (.int _) q)⟩
  · exact q.elim⟩
end
end DL
namespace DL
open PySem PySem.Spec PyProof.Rows L2
def kwG {α : Type} (n m : Nat) (xs ys : List α) : List α := if xs.length = n ∧ ys.length = m then xs ++ ys else []
theorem kwG_rel {K : KW} {H : Hp} {n m : Nat} {vs zs : List V} {ds es : List D} (r : RelDs K H vs ds) (q : RelDs K H zs es) : RelDs K H (kwG n m vs zs) (kwG n m ds es) := by
  unfold kwG
  rw [r.length, q.length]
  split
  · exact r.append q
  · exact .nil
theorem kwG_vals {n m : Nat} {vs zs : List V} {us ws : List Value} (r : Vals vs us) (q : Vals zs ws) : Vals (kwG n m vs zs) (kwG n m us ws) := by
  unfold kwG
  rw [r.length, q.length]
  split
  · exact r.append q
  · exact .nil
section
variable {P : Program} {w : World} {K : PySem.W.Frag} {mg : Str → Option Value} {base : Heap}
theorem fun_kbinds {x qual : Str} {st : Stmt} {f : Addr} {fd : FuncData} {ps ks : List Str} {n : Nat} (hps : ps ≠ []) (F : Fun K x qual st f fd)
    (h : ∀ (kV doc pm : Value) (an : Option Addr) (cdv ct : Value) (us ws : List Value), us.length = n → ws.length = ks.length → bindArgs (PySem.W.fnOf x qual (defArgs st) (defBody st) (defScope st) .none kV doc pm an cdv ct) ⟨us, ks.zip ws⟩ = pure (ps.zip (us ++ ws))) : KBinds K fd ps ks (kwG n ks.length) (kwG n ks.length) := by
  obtain ⟨oc, od, kV, doc, pm, an, cdv, ct, osl, rfl, lk, hcd⟩ := F.ex
  refine ⟨fun s us ws X hl => ?_, fun r q => kwG_vals r q⟩
  by_cases hc : us.length = n ∧ ws.length = ks.length
  · have e : kwG n ks.length us ws = us ++ ws := by unfold kwG; rw [if_pos hc]
    rw [e]
    exact .of_eq (h kV doc pm an cdv ct us ws hc.1 hc.2)
  · have e : kwG n ks.length us ws = [] := by unfold kwG; rw [if_neg hc]
    rw [e] at hl
    exact absurd (List.length_eq_zero_iff.mp hl.symm) hps
theorem CalK.of {x : Str} {st : Stmt} {f : Addr} {fd : FuncData} {N ps ks : List Str} {n k : Nat} {sp : DSp} (F : Fun K x x st f fd) (S : FnScope N ps (defScope st)) (hm : mg x = some (.ref f)) (hb : KBinds K fd ps ks (kwG n ks.length) (kwG n ks.length)) (len : ∀ ds S Q E, sp ds S Q E → ds.length = ps.length)
    (hbody : ∀ (cdv : Value) (A : Around) (outer : List Env) (s : Shared) (H : Hp) (ds : List D) (So : Sto) (Q : KD) (E : KX), Room k (A.deeper (envOfC x (defScope st) s.heap.objs.size f cdv)) → (A.deeper (envOfC x (defScope st) s.heap.objs.size f cdv)).guards = some [] → sp ds So Q E →
      ∃ t, DSs (cxOf (CX P w) P w K mg base N x (defScope st) f cdv A outer s H (UpX ⟨K, P, w⟩ H E)).nox (defBody st) t ∧ t (bodyEnds Q) (startD N ds) So) : CalK P w K mg base (k + 1) x sp ks (kwG n ks.length) :=
  ⟨f, fd, ps, _, _, FnD.of F S len (fun cdv A outer s H ds So Q E hr hg hs => let ⟨t, a, b⟩ := hbody cdv A outer s H ds So Q E hr hg hs; ⟨t, a.nox, b⟩), hm, F.kp, hb, fun _ _ _ _ _ r q => kwG_rel r q⟩
end
@[simp] theorem dCallK_eq {sp : DSp} {gD : List D → List D → List D} {t tk : DTA} {τ : DSt} {S : Sto} {Q : KD} : dCallK sp gD t tk τ S Q = t τ S fun ds S1 => tk τ S1 fun es S2 => sp (gD ds es) S2 Q noX := rfl
end DL
namespace DL
open PySem PySem.Spec PyProof.Rows L2
def leP (p q : Int × Int) : Prop := p.1 < q.1 ∨ (p.1 = q.1 ∧ p.2 ≤ q.2)
instance (p q : Int × Int) : Decidable (leP p q) := by unfold leP; infer_instance
theorem leP.trans {p q r : Int × Int} (a : leP p q) (b : leP q r) : leP p r := by unfold leP at *; omega
end DL
namespace DL
open PySem PySem.Spec PyProof.Rows L2
def inF (S S1 : Sto) (a : Addr) : Prop := S1 a = none ∧ S a ≠ none
noncomputable instance {S S1 : Sto} {a : Addr} : Decidable (inF S S1 a) := Classical.propDecidable _
noncomputable def over (S S1 S' : Sto) : Sto := fun a => if inF S S1 a then S a else S' a
def Sub (S1 S : Sto) : Prop := ∀ a o, S1 a = some o → S a = some o
def frm (sp : DSp) : DSp := fun ds S Q E => ∃ S1, Sub S1 S ∧ sp ds S1 (fun d S' => (∀ a, inF S S1 a → S' a = none) → Q d (over S S1 S')) (fun c fs S' => (∀ a, inF S S1 a → S' a = none) → E c fs (over S S1 S'))
def frmG (sp : DSp) : DSp := fun ds S Q E => ∃ S1 Q0 E0, Sub S1 S ∧ sp ds S1 Q0 E0 ∧ (∀ d S', Q0 d S' → (∀ a, inF S S1 a → S' a = none) → ∃ S2, Sub S2 (over S S1 S') ∧ Q d S2) ∧ ∀ c fs S', E0 c fs S' → (∀ a, inF S S1 a → S' a = none) → ∃ S2, Sub S2 (over S S1 S') ∧ E c fs S2
theorem HR.less {K : KW} {H : Hp} {S S' : Sto} (h : HR K H S') (g : Sub S S') : HR K H S := fun a o e => h a o (g a o e)
section
variable {P : Program} {w : World} {K : PySem.W.Frag} {mg : Str → Option Value} {base : Heap} {S S1 S' : Sto} {H H1' : Hp} {h h2 : Heap}
noncomputable def hideF (S S1 : Sto) (H : Hp) : Hp := fun b => if inF S S1 b then none else H b
noncomputable def backF (S S1 : Sto) (H H1' : Hp) : Hp := fun b => if inF S S1 b then H b else H1' b
theorem hide_in {b : Addr} (z : inF S S1 b) : hideF S S1 H b = none := if_pos z
theorem hide_out {b : Addr} (z : ¬ inF S S1 b) : hideF S S1 H b = H b := if_neg z
theorem back_in {b : Addr} (z : inF S S1 b) : backF S S1 H H1' b = H b := if_pos z
theorem back_out {b : Addr} (z : ¬ inF S S1 b) : backF S S1 H H1' b = H1' b := if_neg z
def plainO : HO → Bool
  | .lst _ => true | .dK _ => true | .ext _ => true
  | .frz _ (.dK _) => true | .frz _ (.ext _) => true
  | .tbl _ => true | .xd _ => true
  | _ => false
theorem inF_obj (hR : HR ⟨K, P, w⟩ H S) {b : Addr} (z : inF S S1 b) : ∃ u, H b = some u ∧ plainO u = true := by
  cases e : S b with
  | none => exact absurd e z.2
  | some o =>
    have := hR b o e
    cases o with
    | lst ds => obtain ⟨vs, q, _⟩ := this; exact ⟨_, q, rfl⟩
    | dct kvs => rcases this with ⟨es, q, _⟩ | ⟨xs, q, _⟩ <;> exact ⟨_, q, rfl⟩
    | fdc o kvs => rcases this with ⟨es, q, _⟩ | ⟨xs, q, _⟩ <;> exact ⟨_, q, rfl⟩
    | set ds => obtain ⟨_, _, _, q⟩ := this; exact ⟨_, q, rfl⟩
    | tab ps => exact ⟨_, this, rfl⟩
    | cod q => exact ⟨_, this, rfl⟩
    | exc fs => obtain ⟨_, q, _⟩ := this; exact ⟨_, q, rfl⟩
theorem hide_keep (hR : HR ⟨K, P, w⟩ H S) {b : Addr} {u : HO} (e : H b = some u) (n : plainO u = false) : hideF S S1 H b = some u := by
  rw [hide_out fun z => by
    obtain ⟨u', e', n'⟩ := inF_obj hR z
    rw [e] at e'; cases e'; rw [n] at n'; cases n']
  exact e
theorem hide_none {b : Addr} (e : H b = none) : hideF S S1 H b = none := by
  unfold hideF; split
  · rfl
  · exact e
theorem stays_plain {u : HO} (h : stays u = true) : plainO u = false := by
  cases u with
  | frz o v => cases v <;> first | rfl | (simp [stays] at h; done)
  | _ => first | rfl | (simp [stays] at h; done)
theorem hide_ev (hR : HR ⟨K, P, w⟩ H S) : Ev H (hideF S S1 H) := fun b u e z => hide_keep hR e (stays_plain z)
theorem hide_hr (hR : HR ⟨K, P, w⟩ H S) (sub : Sub S1 S) : HR ⟨K, P, w⟩ (hideF S S1 H) S1 := fun a o e =>
  (hR a o (sub a o e)).ev (hide_ev hR) fun u hu => by rw [hide_out fun z => by rw [z.1] at e; cases e]; exact hu
theorem hide_ok (hR : HR ⟨K, P, w⟩ H S) (ok : HOk P w H h) : HOk P w (hideF S S1 H) h := fun a o e => by
  have n : ¬ inF S S1 a := fun z => by rw [hide_in z] at e; cases e
  rw [hide_out n] at e
  exact (ok a o e).stay (fun _ _ _ q => q) (fun b q => hide_keep hR q rfl) fun b xs q => hide_keep hR q rfl
theorem back_ev (hR : HR ⟨K, P, w⟩ H S) (e1 : Ev (hideF S S1 H) H1') : Ev H (backF S S1 H H1') := fun b u e z => by
  have n : ¬ inF S S1 b := fun q => by
    obtain ⟨u', e', n'⟩ := inF_obj hR q
    rw [e] at e'; cases e'; rw [stays_plain z] at n'; cases n'
  rw [back_out n]
  exact e1 b u (by rw [hide_out n]; exact e) z
theorem back_ev2 (fr : ∀ b, inF S S1 b → H1' b = none) : Ev H1' (backF S S1 H H1') := fun b u e z => by
  rw [back_out fun q => by rw [fr b q] at e; cases e]; exact e
theorem back_ok (hR : HR ⟨K, P, w⟩ H S) (ok : HOk P w H h) (ok2 : HOk P w H1' h2) (fr : ∀ b, inF S S1 b → H1' b = none) (kp : ∀ b o, inF S S1 b → h.get? b = some o → h2.get? b = some o) : HOk P w (backF S S1 H H1') h2 := fun a o e => by
  by_cases z : inF S S1 a
  · rw [back_in z] at e
    obtain ⟨u, e', n⟩ := inF_obj hR z
    rw [e] at e'; cases e'
    have x := ok a o e
    cases o with
    | lst xs => obtain ⟨y, its, n, r, e⟩ := x; exact ⟨y, its, n, r, kp _ _ z e⟩
    | dK kvs => obtain ⟨y1, y, vs, r, ob, es, ep, e, c⟩ := x; exact ⟨y1, y, vs, r, ob, es, ep, kp _ _ z e, c⟩
    | ext φ => obtain ⟨p, ⟨o, e⟩, st⟩ := x; exact ⟨st _ _ p fun o q => kp _ _ z q, ⟨o, kp _ _ z e⟩, st⟩
    | tbl ps => exact kp _ _ z x
    | xd vs => obtain ⟨mA, ⟨o, es, ep, e, r⟩, q⟩ := x; exact ⟨mA, ⟨o, es, ep, kp _ _ z e, r⟩, q⟩
    | frz ob u =>
      cases u with
      | dK kvs => obtain ⟨e0, y1, y, vs, r, ob, es, ep, e, c⟩ := x; exact ⟨kp _ _ z e0, y1, y, vs, r, ob, es, ep, kp _ _ z e, c⟩
      | ext φ => obtain ⟨e0, p, ⟨o, e⟩, st⟩ := x; exact ⟨kp _ _ z e0, st _ _ p fun o q => kp _ _ z q, ⟨o, kp _ _ z e⟩, st⟩
      | _ => simp [plainO] at n
    | _ => simp [plainO] at n
  · rw [back_out z] at e
    exact (ok2 a o e).stay (fun _ _ _ q => q) (fun b q => by rw [back_out fun y => by rw [fr b y] at q; cases q]; exact q) fun b xs q => by rw [back_out fun y => by rw [fr b y] at q; cases q]; exact q
theorem back_free (hR1 : HR ⟨K, P, w⟩ H1' S') (fr : ∀ b, inF S S1 b → H1' b = none) : ∀ a, inF S S1 a → S' a = none := fun a z => hR1.free (fr a z)
theorem back_hr (hR : HR ⟨K, P, w⟩ H S) (hR1 : HR ⟨K, P, w⟩ H1' S') (e1 : Ev (hideF S S1 H) H1') (fr : ∀ b, inF S S1 b → H1' b = none) : HR ⟨K, P, w⟩ (backF S S1 H H1') (over S S1 S') := fun a o e => by
  by_cases z : inF S S1 a
  · unfold over at e; rw [if_pos z] at e
    exact (hR a o e).ev (back_ev hR e1) fun u hu => by rw [back_in z]; exact hu
  · unfold over at e; rw [if_neg z] at e
    exact (hR1 a o e).ev (back_ev2 fr) fun u hu => by rw [back_out z]; exact hu
theorem FnD.frameG {k : Nat} {f : Addr} {fd : FuncData} {ps : List Str} {sp : DSp} (F : FnD P w K mg base k f fd ps sp) : FnD P w K mg base k f fd ps (frmG sp) := by
  refine ⟨fun ds S Q E ⟨S1, _, _, _, q, _⟩ => F.len _ _ _ _ q, fun A outer s H args us vs ds S Q E hr hg e0 hb hv hd hR ⟨S1, Q0, E0, sub, hsp, hQ, hE⟩ => ?_⟩
  have e01 : Env0 P w K mg base A outer s (hideF S S1 H) := ⟨e0.frames, e0.mod, fun b o e => ⟨(e0.bs b o e).1, hide_none (e0.bs b o e).2⟩, e0.bsz, e0.funs, fun b hb => hide_none (e0.frf b hb), hide_ok hR e0.hok, e0.bare⟩
  have nfr : ∀ b, inF S S1 b → b ∉ frs outer := fun b z hm => by
    obtain ⟨u, e, _⟩ := inF_obj hR z
    rw [e0.frf b hm] at e; cases e
  have got : ∀ b, inF S S1 b → ∃ o, s.heap.get? b = some o := fun b z => by
    obtain ⟨u, e, n⟩ := inF_obj hR z
    have x := e0.hok b u e
    cases u with
    | lst xs => obtain ⟨y, its, n, r, e⟩ := x; exact ⟨_, e⟩
    | dK kvs => obtain ⟨y1, y, vs, r, ob, es, ep, e, c⟩ := x; exact ⟨_, e⟩
    | ext φ => obtain ⟨p, ⟨o, e⟩, st⟩ := x; exact ⟨_, e⟩
    | tbl ps => exact ⟨_, x⟩
    | xd vs => obtain ⟨mA, ⟨o, es, ep, e, r⟩, q⟩ := x; exact ⟨_, e⟩
    | frz ob u => exact ⟨_, x.1⟩
    | _ => simp [plainO] at n
  refine codeAny_mono (F.run A outer s (hideF S S1 H) args us vs ds S1 _ _ hr hg e01 hb hv (hd.ev (hide_ev hR)) (hide_hr hR sub) hsp) fun r s' z => ?_
  cases r with
  | error e =>
    obtain ⟨a, B, H1', cls, d, rfl, fly, ok2, ub, na, os, bare, ev, fs, S', hR', hd', q⟩ := (show CX P w outer (hideF S S1 H) s _ e s' from z)
    have fr : ∀ b, inF S S1 b → H1' b = none := fun b z => by
      obtain ⟨o, e⟩ := got b z
      exact ub.free b o e (hide_in z)
    have kp : ∀ b o, inF S S1 b → s.heap.get? b = some o → B.get? b = some o := fun b o z e => ub.keep b o e (hide_in z) (nfr b z)
    have nb : ∀ b, (∀ u, plainO u = true → H b ≠ some u) → ¬ inF S S1 b := fun b h z => by
      obtain ⟨u, e, n⟩ := inF_obj hR z; exact h u n e
    obtain ⟨S2, sub2, q2⟩ := hE _ _ _ q (back_free hR' fr)
    refine (show CX P w outer H s _ _ s' from ⟨a, B, backF S S1 H H1', cls, d, rfl, fly, back_ok hR e0.hok ok2 fr kp, ⟨?_, ub.slot, ?_, ub.there, ?_, ?_, ?_⟩, ?_, os, bare, back_ev hR ev, fs, S2, (back_hr hR hR' ev fr).less sub2, ?_, q2⟩)
    · exact fun b o e n hm => ub.keep b o e (hide_none n) hm
    · intro b o e n
      rw [back_out (fun z => by obtain ⟨u, e', _⟩ := inF_obj hR z; rw [n] at e'; cases e')]
      exact ub.free b o e (hide_none n)
    · intro b xs e
      have n := nb b fun u hu e' => by rw [e] at e'; cases e'; cases hu
      rw [back_out n]
      exact ub.tups b xs (by rw [hide_out n]; exact e)
    · intro b o xs e
      by_cases n : inF S S1 b
      · rw [back_in n]; exact e
      · rw [back_out n]
        exact ub.frzs b o xs (by rw [hide_out n]; exact e)
    · intro b ps e
      by_cases n : inF S S1 b
      · exact ⟨#[], by rw [back_in n, Array.append_empty]; exact e⟩
      obtain ⟨more, e2⟩ := ub.tbls b ps (by rw [hide_out n]; exact e)
      exact ⟨more, by rw [back_out n]; exact e2⟩
    · by_cases n : inF S S1 a
      · exfalso
        obtain ⟨o, e⟩ := got a n
        have e2 := kp a o n e
        rw [fly.2.1] at e2; cases e2
      · rw [back_out n]; exact na
    · rcases hd' with h | ⟨dd, ws, h1, h2, h3⟩
      · exact .inl h
      · exact .inr ⟨dd, ws, h1, (by rw [back_out fun z => by rw [fr dd z] at h2; cases h2]; exact h2), h3.ev (back_ev2 fr)⟩
  | ok fl =>
    cases fl with
    | next => exact z.elim
    | brk => exact z.elim
    | cont => exact z.elim
    | ret u =>
      obtain ⟨v, H1', os, bare, un, ok2, rv, ev, d, S', hR', rd, q⟩ := (show CE outer P w (hideF S S1 H) s _ u s' from z)
      have fr : ∀ b, inF S S1 b → H1' b = none := fun b z => by
        obtain ⟨o, e⟩ := got b z
        exact un.free b o e (hide_in z) (fun q => nomatch q)
      have kp : ∀ b o, inF S S1 b → s.heap.get? b = some o → s'.heap.get? b = some o := fun b o z e => un.keep b o e (hide_in z) (nfr b z) (fun q => nomatch q)
      have nb : ∀ b, (∀ u, plainO u = true → H b ≠ some u) → ¬ inF S S1 b := fun b h z => by
        obtain ⟨u, e, n⟩ := inF_obj hR z; exact h u n e
      obtain ⟨S2, sub2, q2⟩ := hQ _ _ q (back_free hR' fr)
      refine (show CE outer P w H s _ u s' from ⟨v, backF S S1 H H1', os, bare, ⟨?_, ?_, ?_, un.there, ?_, ?_, ?_⟩, back_ok hR e0.hok ok2 fr kp, rv, back_ev hR ev, d, S2, (back_hr hR hR' ev fr).less sub2, rd.ev (back_ev2 fr), q2⟩)
      · exact fun b o e n h1 h2 => un.keep b o e (hide_none n) h1 h2
      · exact fun b o e n h1 h2 => un.slot b o e (hide_none n) h1 h2
      · intro b o e n h
        rw [back_out (fun z => by obtain ⟨u, e', _⟩ := inF_obj hR z; rw [n] at e'; cases e')]
        exact un.free b o e (hide_none n) h
      · intro b xs e
        have n := nb b fun u hu e' => by rw [e] at e'; cases e'; cases hu
        rw [back_out n]
        exact un.tups b xs (by rw [hide_out n]; exact e)
      · intro b o xs e
        by_cases n : inF S S1 b
        · rw [back_in n]; exact e
        · rw [back_out n]
          exact un.frzs b o xs (by rw [hide_out n]; exact e)
      · intro b ps e
        by_cases n : inF S S1 b
        · exact ⟨#[], by rw [back_in n, Array.append_empty]; exact e⟩
        obtain ⟨more, e2⟩ := un.tbls b ps (by rw [hide_out n]; exact e)
        exact ⟨more, by rw [back_out n]; exact e2⟩
theorem FnD.frame {k : Nat} {f : Addr} {fd : FuncData} {ps : List Str} {sp : DSp} (F : FnD P w K mg base k f fd ps sp) : FnD P w K mg base k f fd ps (frm sp) :=
  F.frameG.imp fun ds S Q E ⟨S1, sub, h⟩ => ⟨S1, _, _, sub, h, fun d S' q n => ⟨_, fun _ _ z => z, q n⟩, fun c fs S' q n => ⟨_, fun _ _ z => z, q n⟩⟩
def pur (sp : DSp) : DSp := fun ds S Q E => sp ds (fun _ => none) (fun d _ => Q d S) (fun c fs _ => E c fs S)
theorem over_all {a : Addr} {o : AO} (h : S a = some o) : over S (fun _ => none) S' a = some o := by
  unfold over; rw [if_pos ⟨rfl, by rw [h]; simp⟩, h]
theorem FnD.pure {k : Nat} {f : Addr} {fd : FuncData} {ps : List Str} {sp : DSp} (F : FnD P w K mg base k f fd ps sp) : FnD P w K mg base k f fd ps (pur sp) :=
  F.frameG.imp fun ds S Q E h => ⟨fun _ => none, _, _, (fun _ _ z => by cases z), h, fun d S' q _ => ⟨S, fun _ _ z => over_all z, q⟩, fun c fs S' q _ => ⟨S, fun _ _ z => over_all z, q⟩⟩
end
end DL
namespace DL
open PySem PySem.Spec PyProof.Rows L2
section
variable {P : Program} {w : World} {K : PySem.W.Frag} {mg : Str → Option Value} {base : Heap} {k : Nat} {x : Str} {sp : DSp} {dds : List D}
theorem CalD.frame (C : CalD P w K mg base k x sp dds) : CalD P w K mg base k x (frm sp) dds :=
  let ⟨f, fd, ps, dfl, a, b⟩ := C.ex; ⟨f, fd, ps, dfl, a.frame, b⟩
theorem CalK.frame {ks : List Str} {g : List D → List D → List D} (C : CalK P w K mg base k x sp ks g) : CalK P w K mg base k x (frm sp) ks g :=
  let ⟨f, fd, ps, g, gV, a, b⟩ := C.ex; ⟨f, fd, ps, g, gV, a.frame, b⟩
theorem CalD.pure (C : CalD P w K mg base k x sp dds) : CalD P w K mg base k x (pur sp) dds :=
  let ⟨f, fd, ps, dfl, a, b⟩ := C.ex; ⟨f, fd, ps, dfl, a.pure, b⟩
theorem CalK.pure {ks : List Str} {g : List D → List D → List D} (C : CalK P w K mg base k x sp ks g) : CalK P w K mg base k x (pur sp) ks g :=
  let ⟨f, fd, ps, g, gV, a, b⟩ := C.ex; ⟨f, fd, ps, g, gV, a.pure, b⟩
end
theorem CalD.no {P : Program} {w : World} {K : PySem.W.Frag} {mg : Str → Option Value} {base : Heap} {k : Nat} {x : Str} {st : Stmt} {f : Addr} {fd : FuncData} {ps : List Str} (F : Fun K x x st f fd) (hm : mg x = some (.ref f)) (hb : Binds K fd ps []) : CalD P w K mg base k x (fun _ _ _ _ => False) [] :=
  ⟨f, fd, ps, [], ⟨fun _ _ _ _ h => h.elim, fun _ _ _ _ _ _ _ _ _ _ _ _ _ _ _ _ _ _ h => h.elim⟩, hm, F.kp, hb, .nil⟩
abbrev nilS : Sto := fun _ => none
section
variable {S S1 S' : Sto} {a : Addr} {o : AO}
theorem over_nil (h : S a = some o) : over S nilS S' a = some o := by
  unfold over; rw [if_pos ⟨rfl, by rw [h]; simp⟩, h]
theorem over_grow : Grow S (over S nilS S') := fun _ _ h => over_nil h
def only (S : Sto) (as : List Addr) : Sto := fun a => if a ∈ as then S a else none
theorem frm_pure {sp : DSp} {ds : List D} {Q : KD} {E : KX} (h : sp ds nilS (fun d S' => (∀ a, inF S nilS a → S' a = none) → Q d (over S nilS S')) (fun c fs S' => (∀ a, inF S nilS a → S' a = none) → E c fs (over S nilS S'))) : frm sp ds S Q E :=
  ⟨nilS, (fun _ _ z => by cases z), h⟩
@[simp] theorem pur_eq {sp : DSp} {S : Sto} {ds : List D} {Q : KD} {E : KX} : pur sp ds S Q E = sp ds nilS (fun d _ => Q d S) (fun c fs _ => E c fs S) := rfl
end
end DL
namespace DL
open PySem PySem.Spec PyProof.Rows L2
def del (S : Sto) (a : Addr) : Sto := fun b => if b = a then none else S b
theorem del_put {S : Sto} {p : Addr} {o : AO} (h : S p = none) : del (put S p o) p = S := by
  funext b; unfold del put; split
  · rename_i e; rw [e, h]
  · rfl
theorem del_ne {S : Sto} {a b : Addr} (h : b ≠ a) : del S a b = S b := if_neg h
@[simp] theorem onL_put {S : Sto} {p : Addr} {ds : List D} {k : List D → Prop} : onL (put S p (.lst ds)) p k = k ds := by rw [onL_eq put_same]
def frzK (Q : KD) : KD := fun d S => match d with | .ref a => onL S a fun ds => Q (.fz ds) (del S a) | _ => False
@[simp] theorem frzK_ref {Q : KD} {a : Addr} {S : Sto} : frzK Q (.ref a) S = onL S a fun ds => Q (.fz ds) (del S a) := rfl
def dFrz (t : DTE) : DTE := fun τ S Q => t τ S (frzK Q)
@[simp] theorem dFrz_eq {t : DTE} {τ : DSt} {S : Sto} {Q : KD} : dFrz t τ S Q = t τ S (frzK Q) := rfl
section
variable {X : Cx} {pos : Pos} {e : Expr} {t : DTE}
theorem frz_hr {K : KW} {H : Hp} {S : Sto} {a : Addr} {vs : List V} {od : Obj} (hr : HR K H S) (h1 : H a = some (.lst vs)) : HR K (upd H a (.frz od (.lst vs))) (del S a) := fun b o e => by
  have n : b ≠ a := fun z => by subst z; unfold del at e; rw [if_pos rfl] at e; cases e
  rw [del_ne n] at e
  exact (hr b o e).ev (.upd h1 rfl) fun u hu => by rw [upd_ne n]; exact hu
theorem de_frz (h : DE X e t) : DE X e (dFrz t) := ⟨fun pins s σ H τ S Q I st hr q => thn (h.run pins s σ H τ S _ I st hr q) fun u s' ⟨v, H', I', rv, ev, d, S', hr', rd, q'⟩ => by
  cases d with
  | ref a =>
    obtain ⟨ds, e1, q2⟩ := onL.out (show onL S' a _ from q')
    obtain ⟨vs, h1, r⟩ := hr' a _ e1
    have := relD_ref rd; subst this
    obtain ⟨od, I2⟩ := I'.lock h1 trivial
    exact ⟨.ref a, _, I2, rv, ev.trans (.upd h1 rfl), .fz ds, del S' a, frz_hr hr' h1, .fz (.inl ⟨od, upd_same⟩) (r.ev (.upd h1 rfl)), q2⟩
  | _ => exact (show False from q').elim⟩
def dFLst (t : DTA) : DTE := fun τ S Q => t τ S fun ds S1 => ds.length ≤ sizeLine ∧ Q (.fz ds) S1
@[simp] theorem dFLst_eq {t : DTA} {τ : DSt} {S : Sto} {Q : KD} : dFLst t τ S Q = t τ S fun ds S1 => ds.length ≤ sizeLine ∧ Q (.fz ds) S1 := rfl
theorem upd_upd {H : Hp} {p : Addr} {o u : HO} : upd (upd H p o) p u = upd H p u := by
  funext b; by_cases h : b = p
  · subst h; rw [upd_same, upd_same]
  · rw [upd_ne h, upd_ne h, upd_ne h]
theorem de_flst {es : List Expr} {tr : DTA} (h : DAr X es tr) : DE X (.List es pos) (dFLst tr) := ⟨fun pins s σ H τ S Q I st hr q => by
  refine thn ((pe_lst h.lo).run pins s σ H (fun v H' => ∃ p vs ds S1 H1, v = .ref p ∧ H' = upd H1 p (.lst vs) ∧ H1 p = none ∧ Ev H H1 ∧ HR X.KW H1 S1 ∧ RelDs X.KW H1 vs ds ∧ Q (.fz ds) S1) I
    ⟨τ, S, _, st, hr, q, fun vs H1 ⟨e, ds, S1, hr1, r1, z, q1⟩ => ⟨by rw [r1.length]; exact z, fun p n => ⟨p, vs, ds, S1, H1, rfl, rfl, n, e, hr1, r1, q1⟩⟩⟩) fun u s' ⟨v, H', I', rv, p, vs, ds, S1, H1, ev, eH, n, e1, hr1, r1, q1⟩ => ?_
  subst ev; subst eH
  obtain ⟨od, I2⟩ := I'.lock (upd_same (H := H1) (a := p) (o := .lst vs)) trivial
  rw [upd_upd] at I2
  exact ⟨.ref p, _, I2, rv, e1.trans (.new n), .fz ds, S1, hr1.new n, .fz (.inl ⟨od, upd_same⟩) (r1.ev (.new n)), q1⟩⟩
end
end DL
namespace HT
open PySem PySem.Spec PyProof.Rows
section
variable {prog : Program} {w : World} {A : Around} {E : Value → Shared → Prop} {s : Shared}
theorem adjust_rev (n : Nat) : Builtin.Slice.sliceAdjust none none (-1) (n : Int) = ((n : Int) - 1, -1) := by
  have h1 : ((-1 : Int) < 0) := by omega
  unfold Builtin.Slice.sliceAdjust
  simp [h1]
theorem places_rev (n : Nat) : Builtin.Slice.slicePlaces ((n : Int) - 1) (-1) (-1) = n := by
  unfold Builtin.Slice.slicePlaces
  simp
  omega
theorem sliceApplied_rev {sl : Addr} {vk : Value} {n : Nat} {Q : Int × Int × Nat → Shared → Prop} (hs : ∃ o, s.heap.get? sl = some o ∧ o.cls = .type "slice" ∧ o.data = .fields #[.none, .none, vk]) (pk : IsPart vk (some (-1)))
    (h : Q ((n : Int) - 1, -1, n) s) : wpAny (model prog w) A (Builtin.Slice.sliceApplied (.ref sl) (pure (n : Int))) Q E s := by
  obtain ⟨os, hos, hcs, hds⟩ := id hs
  unfold Builtin.Slice.sliceApplied Builtin.Slice.sliceFields
  refine wpAny_bind (wpAny_bind (wpAny_field hos hds (x := .none) rfl (wpAny_bind (wpAny_field hos hds (x := .none) rfl (wpAny_bind (wpAny_field hos hds (x := vk) rfl (wpAny_pure ?_)))))))
  refine wpAny_bind (slicePart_ pk ?_)
  show wpAny _ _ (if ((-1 : Int) == 0) = true then _ else _) _ _ s
  rw [if_neg (by decide)]
  refine wpAny_bind (slicePart_none (wpAny_bind (slicePart_none (wpAny_bind (wpAny_pure ?_)))))
  show wpAny _ _ (match Builtin.Slice.sliceAdjust none none (-1) (n : Int) with | (lo, hi) => pure (lo, (-1 : Int), Builtin.Slice.slicePlaces lo hi (-1))) _ _ s
  rw [adjust_rev n]
  show wpAny _ _ (pure ((n : Int) - 1, (-1 : Int), Builtin.Slice.slicePlaces ((n : Int) - 1) (-1) (-1))) _ _ s
  rw [places_rev]
  exact wpAny_pure h
theorem pick_rev (xs : Array Value) : ((List.range xs.size).filterMap fun (m : Nat) => xs[((xs.size : Int) - 1 + (m : Int) * (-1)).toNat]?).toArray = xs.toList.reverse.toArray := by
  have e : (fun (m : Nat) => xs[((xs.size : Int) - 1 + (m : Int) * (-1)).toNat]?) = fun m => xs[xs.size - 1 - m]? := by
    funext m
    have : ((xs.size : Int) - 1 + (m : Int) * (-1)).toNat = xs.size - 1 - m := by omega
    rw [this]
  rw [e]
  have h1 := PySem.W.krv_range xs.size
  have h2 : ((List.range xs.size).filterMap fun m => xs[xs.size - 1 - m]?) = ((List.range xs.size).map fun k => xs.size - 1 - k).filterMap (xs[·]?) := by
    rw [List.filterMap_map]; rfl
  rw [h2, h1, List.filterMap_reverse, PySem.W.krv_all]
theorem getItem_tuple_rev {t sl : Addr} {items : Array Value} {vk : Value} {Q : Value → Shared → Prop} (ht : IsTup s.heap t items) (hs : ∃ o, s.heap.get? sl = some o ∧ o.cls = .type "slice" ∧ o.data = .fields #[.none, .none, vk]) (pk : IsPart vk (some (-1)))
    (h : Q (.ref s.heap.objs.size) { s with heap := s.heap.push { cls := .type "tuple", data := .seq items.toList.reverse.toArray } })
    (hsz : items.size ≤ sizeLine) : wpAny (model prog w) A (getItem (.ref t) (.ref sl)) Q E s := by
  have htake : sizeOk (.seq items.toList.reverse.toArray) := by
    show items.toList.reverse.toArray.size ≤ sizeLine
    rw [List.size_toArray, List.length_reverse, Array.length_toList]
    exact hsz
  obtain ⟨os, hos, hcs, hds⟩ := id hs
  have hTs : s.TypeIs (.ref sl) "slice" := ⟨os, hos, hcs⟩
  unfold getItem
  try with_reducible refine wpAny_holding ?_
  first | refine wpAny_bind (wpAny_pure ?_) | skip
  refine wpAny_bind (wpAny_sequenceKey ht.typeIs (by decide) ?_)
  refine wpAny_bind (wpAny_callSpecial?_slot (name := Str.ofString "__getitem__") ht.typeIs PyProof.Rows.slot_tuple_getitem
    (wpAny_call_entry PyProof.Rows.slot_tuple_getitem ht.typeIs entry_tuple_getitem ?_ (args_tuple_getitem _ _)))
  show wpAny _ _ (Builtin.Tuple.tupleItemsOf (.ref t) >>= _) _ _ s
  refine wpAny_bind (tupleItemsOf_ ht ?_)
  refine wpAny_bind (wpAny_typeOf hTs ?_)
  rw [if_pos (by decide)]
  refine wpAny_bind (sliceApplied_rev (n := items.size) hs pk ?_)
  have hno : ¬ ((((items.size : Int) - 1) == 0 && (-1 : Int) == 1 && items.size == items.size) = true) := by
    intro q
    rw [Bool.and_eq_true, Bool.and_eq_true] at q
    exact absurd q.1.2 (by decide)
  show wpAny _ _ (if (((items.size : Int) - 1) == 0 && (-1 : Int) == 1 && items.size == items.size) = true then _ else _) _ _ s
  rw [if_neg hno, pick_rev]
  first
    | exact wpAny_bind (m := Builtin.Tuple.tupleExact _) (wpAny_newObj_type (wpAny_pure ⟨_, rfl, wpAny_pure h⟩) htake)
    | exact wpAny_bind (m := Builtin.Tuple.tupleExact _) (wpAny_newObj_type (wpAny_bind (wpAny_pure (wpAny_pure ⟨_, rfl, wpAny_pure h⟩))) htake)
    | exact wpAny_bind (wpAny_bind (m := Builtin.Tuple.tupleExact _) (wpAny_newObj_type (wpAny_pure (wpAny_pure ⟨_, rfl, wpAny_pure h⟩)) htake))
    | exact wpAny_bind (wpAny_bind (m := Builtin.Tuple.tupleExact _) (wpAny_newObj_type (wpAny_pure ⟨_, rfl, wpAny_pure h⟩) htake))
end
end HT
namespace DL
open PySem PySem.Spec PyProof.Rows L2
def dRev (te : DTE) : DTE := fun τ S Q => te τ S fun d S1 => match d with | .tup ds => Q (.tup ds.reverse) S1 | _ => False
theorem RelDs.reverse {K : KW} {H : Hp} : ∀ {vs : List V} {ds : List D}, RelDs K H vs ds → RelDs K H vs.reverse ds.reverse
  | _, _, .nil => .nil
  | _, _, .cons r t => by rw [List.reverse_cons, List.reverse_cons]; exact (RelDs.reverse t).append (.cons r .nil)
theorem vals_reverse : ∀ {vs : List V} {us : List Value}, Vals vs us → Vals vs.reverse us.reverse
  | _, _, .nil => .nil
  | _, _, .cons r t => by rw [List.reverse_cons, List.reverse_cons]; exact (vals_reverse t).append (.cons r .nil)
section
variable {X : Cx} {pos : Pos}
theorem de_rev {e : Expr} {te : DTE} {p2 q1 q2 : Pos} {k : Nat} (he : DE X e te) : DE X (.Subscript e (.Slice none none (some (.UnaryOp .USub (.Constant (.int 1) k q1) q2)) p2) pos) (dRev te) := ⟨fun pins s σ H τ S Q I st hr q => by
  refine Subscript_ (thn (he.run pins s σ H τ S _ I st hr q) fun v s1 ⟨x, H1, I1, r1, e1, d, S1, hr1, rd, q1'⟩ => ?_)
  refine wpAny_Slice ?_
  rw [evalPart_none]
  refine wpAny_pure (wpAny_pure ?_)
  cases d with
  | tup ds =>
    cases rd with
    | @tup a vs _ t r =>
      cases r1
      refine thn ((po_some (de_un (X := X) (a := .Constant (.int 1) k q1) (pos := q2) dun_neg de_int).lo).run pins s1 σ H1 (fun o H' => o = some (-1) ∧ Ev H1 H' ∧ HR X.KW H' S1) I1
        ⟨τ, S1, fun d S' => d = .int (-1) ∧ S' = S1, st.ev e1, hr1, ⟨rfl, rfl⟩, fun v' H' ⟨ev, d', S', hr', rd', ed, eS⟩ => by
          subst ed; subst eS; cases rd'; exact ⟨_, rfl, rfl, ev, hr'⟩⟩) fun vk s3 ⟨o, H3, I3, pk, eo, ev3, hr3⟩ => ?_
      subst eo
      have I4 : Inv X pins σ H3 { s3 with heap := s3.heap.push { cls := .type "slice", data := .fields #[.none, .none, vk] } } := I3.kept (t' := s3.toks) fun b ob q => Heap.get?_push_of_some _ q
      obtain ⟨its, rv, ht, hz⟩ := I4.tuple (t.ev ev3).sq
      refine tail_any (ops := [.ref a, .ref s3.heap.objs.size]) ht.typeIs PyProof.Rows.slot_tuple_getitem.lookup ?_ (by with_unfolding_all rfl)
      refine HT.getItem_tuple_rev ht ⟨_, Heap.get?_push_size _ rfl, rfl, rfl⟩ pk ?_ (by rw [List.size_toArray, ← rv.length]; exact hz)
      have I5 := Inv.laidT I4 (vals_reverse rv) (by rw [List.length_reverse]; exact hz)
      have hf : H3 (s3.heap.push { cls := .type "slice", data := .fields #[.none, .none, vk] }).objs.size = none := I4.hok.fresh (Nat.le_refl _)
      exact ⟨.ref _, _, I5, rfl, .of ((e1.trans ev3).trans (.new hf)) (hr3.new hf) (relD_new hf (r.ev ev3).reverse) q1'⟩
  | _ => exact q1'.elim⟩
@[simp] theorem dRev_eq {te : DTE} {τ : DSt} {S : Sto} {Q : KD} : dRev te τ S Q = te τ S fun d S1 => match d with | .tup ds => Q (.tup ds.reverse) S1 | _ => False := rfl
end
end DL
namespace DL
open PySem PySem.Spec PyProof.Rows L2 SkE
section
variable {X : Cx} {K : KW} {H : Hp} {S : Sto}
theorem relDs_strs : ∀ {vs : List V} {xs : List Str}, RelDs K H vs (xs.map D.str) → vs = xs.map V.str ∧ ∀ x ∈ xs, PyData.strOk x = true
  | _, [], .nil => ⟨rfl, by simp⟩
  | _, x :: r, .cons a t => by
    cases a with
    | str _ h =>
      obtain ⟨e, z⟩ := relDs_strs t
      exact ⟨by rw [e]; rfl, fun y hy => by rcases List.mem_cons.mp hy with rfl | hy; exact h; exact z y hy⟩
def wJoin : D → List D → Sto → KD → Prop := fun x xs S Q => match x, xs with
  | .str a, [d] => onS (lstOf S d) fun ds => onS (strsD ds) fun ys => (ys.map (·.length)).sum + ys.length * a.length ≤ 16777216 ∧ Q (.str (Str.join a ys)) S
  | _, _ => False
theorem dmt_join : DMt X "str.join" wJoin := ⟨_, mt_join, fun x xs dx ds H S Q R hr r1 r2 q k => by
  unfold wJoin at q
  split at q
  · obtain ⟨y, rfl, ry⟩ := r2.one
    obtain ⟨es, ee, q⟩ := onS.out q
    obtain ⟨ys, ey, q1, q2⟩ := onS.out q
    have := strsD_eq ey
    subst this
    obtain ⟨a, vs, rfl, sq, rr⟩ := lst_sq hr ry ee
    obtain ⟨ev, oks⟩ := relDs_strs rr
    subst ev
    cases r1 with
    | str a h =>
      refine ⟨_, _, ys, rfl, rfl, .inl sq, q1, ?_⟩
      rw [TL.join_eq]
      exact k _ _ (.of (.refl _) hr (.str _ (strOk_join h _ oks)) q2)
  · exact q.elim⟩
end
end DL
namespace DL
open PySem PySem.Spec PyProof.Rows L2
section
variable {X : Cx}
abbrev DTR := DSt → Sto → (Int → Int → Sto → Prop) → Prop
def loR (K : KW) (t : DTR) : L2.St → Hp → (Int → Int → Hp → Prop) → Prop := fun σ H R => ∃ τ S Q, StR K H σ τ ∧ HR K H S ∧ t τ S Q ∧ ∀ a b H', Ev H H' → (∃ S', HR K H' S' ∧ Q a b S') → R a b H'
def DRg (X : Cx) (e : Expr) (t : DTR) : Prop := PRg X e (loR X.KW t)
theorem DRg.up {e : Expr} {t : DTR} {u : L2.St → Hp → (Int → Int → Hp → Prop) → Prop} (h : PRg X e u) (c : ∀ (σ : L2.St) (H : Hp) (τ : DSt) (S : Sto) (Q : Int → Int → Sto → Prop), StR X.KW H σ τ → HR X.KW H S → t τ S Q → u σ H fun a b H' => Ev H H' ∧ ∃ S', HR X.KW H' S' ∧ Q a b S') : DRg X e t :=
  fun pins s σ H R I ⟨τ, S, Q, st, hr, q, k⟩ => wpAny_mono (h pins s σ H _ I (c σ H τ S Q st hr q)) (fun x s' ⟨r, a, b, t, u, v, H', ex, h1, h2, h3, h4⟩ => ⟨r, a, b, t, u, v, H', ex, h1, h2, k a b H' h3 h4⟩) fun _ _ z => z
def rRg2 (ta tb : DTE) : DTR := fun τ S Q => ta τ S fun d S1 => tb τ S1 fun f S2 => match d, f with | .int i, .int j => Q i j S2 | _, _ => False
theorem dr_2 {a b : Expr} {ta tb : DTE} {p pos : Pos} (hm : X.mg "range" = none) (hg : Gl X "range") (ha : DE X a ta) (hb : DE X b tb) (na : starEach [a, b] X.env = (false, eval a X.env) :: starEach [b] X.env := by rfl)
    (nb : starEach [b] X.env = (false, eval b X.env) :: starEach [] X.env := by rfl) (hp : (backTo pos (starEach [b] X.env)).any (·.1) = false := by rfl) : DRg X (.Call (.Name "range" p) [a, b] [] pos) (rRg2 ta tb) :=
  .up (prg_2 hg hm ha.lo hb.lo na nb hp) fun σ H τ S Q st hr q => .mk st hr q fun v H1 ⟨e, d, S1, hr1, r1, q1⟩ => .mk (st.ev e) hr1 q1 fun v2 H2 ⟨e2, d2, S2, hr2, r2, q2⟩ => by
    simp only at q2
    split at q2
    · cases r1
      cases r2
      exact ⟨_, _, rfl, rfl, e.trans e2, S2, hr2, q2⟩
    · exact q2.elim
theorem relDs_rng {K : KW} {H : Hp} : ∀ (n : Nat) (a : Int), RelDs K H ((List.range n).map fun i : Nat => V.int (a + (i : Int))) (rngD a n) := by
  intro n
  induction n with
  | zero => intro a; exact .nil
  | succ n ih =>
    intro a
    rw [List.range_succ_eq_map, List.map_cons, List.map_map, rngD]
    refine .cons ?_ ?_
    · simpa using .int a
    · have := ih (a + 1)
      have e : ((fun i : Nat => V.int (a + (i : Int))) ∘ Nat.succ) = fun i : Nat => V.int (a + 1 + (i : Int)) := by
        funext i; simp; omega
      rw [e]; exact this
def dLstRg (te : DTR) : DTE := fun τ S Q => te τ S fun a b S1 => RgOk a b ∧ ∀ p, S1 p = none → Q (.ref p) (put S1 p (.lst (rngD a (b - a).toNat)))
theorem de_listRg {e : Expr} {te : DTR} {p pos : Pos} (hc : X.calm = true) (hm : X.mg "list" = none) (hg : Gl X "list") (he : DRg X e te) (na : starEach [e] X.env = (false, eval e X.env) :: starEach [] X.env := by rfl) : DE X (.Call (.Name "list" p) [e] [] pos) (dLstRg te) := by
  exact .up (pe_listRg hc hg hm he na) fun σ H τ S Q st hr q => ⟨τ, S, _, st, hr, q, fun a b H1 e ⟨S1, hr1, ok, q1⟩ => ⟨ok, fun p n => .of (e.trans (.new n)) (hr1.lst n (relDs_rng _ a)) (.ref p) (q1 p (hr1.free n))⟩⟩
end
end DL
namespace DL
open PySem PySem.Spec PyProof.Rows L2
def TabIs : List DictEntry → List (Str × Str) → Prop
  | e :: r, p :: s => (∃ t, e.key = .str p.1 t) ∧ (∃ t, e.val = .str p.2 t) ∧ TabIs r s
  | [], [] => True
  | _, _ => False
structure TabOk (K : PySem.W.Frag) (w : World) (d : Addr) (tbl : List (Str × Str)) : Prop where
  ex : ∃ es n, KDict K w d es n ∧ TabIs es.toList tbl
  ok : (tbl.all fun p => PyData.strOk p.2) = true
end DL
namespace DL
open PySem PySem.Spec PyProof.Rows L2
mutual
theorem reads_lt {h : Heap} : ∀ {v : Value} {d : PyData} {as : List Addr}, PySem.Reads h v d as → ∀ a ∈ as, a < h.objs.size
  | _, _, _, .none, _, m => nomatch m
  | _, _, _, .bool _, _, m => nomatch m
  | _, _, _, .int _ _, _, m => nomatch m
  | _, _, _, .str _ _, _, m => nomatch m
  | _, _, _, .list h1 _ _ r, a, m => by
    rcases List.mem_cons.mp m with e | m
    · rw [e]; exact Heap.lt_size h1
    · exact readsAll_lt r a m
  | _, _, _, .tuple _ _ _ r, a, m => readsAll_lt r a m
  | _, _, _, .dict h1 _ _ r s, a, m => by
    rcases List.mem_append.mp m with m | m
    · rcases List.mem_cons.mp m with e | m
      · rw [e]; exact Heap.lt_size h1
      · exact readsAll_lt r a m
    · exact readsAll_lt s a m
theorem readsAll_lt {h : Heap} : ∀ {v : List Value} {d : List PyData} {as : List Addr}, PySem.ReadsAll h v d as → ∀ a ∈ as, a < h.objs.size
  | _, _, _, .nil, _, m => nomatch m
  | _, _, _, .cons r s, a, m => by
    rcases List.mem_append.mp m with m | m
    · exact reads_lt r a m
    · exact readsAll_lt s a m
end
def itmsD (kvs : List (D × D)) : List D := kvs.map fun p => .tup [p.1, p.2]
@[simp] theorem itmsD_len (kvs : List (D × D)) : (itmsD kvs).length = kvs.length := by simp [itmsD]
section
variable {X : Cx} {pins : List (Addr × Obj)} {σ : L2.St} {H : Hp} {s : Shared}
theorem take_pairs {h' : Heap} {tk : Nat} (I0 : Inv X pins σ H s) : ∀ (as : List Addr) (kvs : List (D × D)) (H1 : Hp), Inv X pins σ H1 { s with heap := h', toks := tk } → Ev H H1 → as.Nodup → as.length = kvs.length →
    (∀ a ∈ as, s.heap.objs.size ≤ a ∧ H1 a = none) →
    (∀ (j : Nat) (a : Addr) (p : D × D), as[j]? = some a → kvs[j]? = some p → ∃ (kv vv : V) (ku vu : Value), RelV kv ku ∧ RelD X.KW H kv p.1 ∧ RelV vv vu ∧ RelD X.KW H vv p.2 ∧ h'.get? a = some (tupO [ku, vu])) →
    ∃ H2, Inv X pins σ H2 { s with heap := h', toks := tk } ∧ Ev H1 H2 ∧ (∀ S, HR X.KW H1 S → HR X.KW H2 S) ∧ RelDs X.KW H2 (as.map V.ref) (itmsD kvs)
  | [], [], H1, I1, _, _, _, _, _ => ⟨H1, I1, .refl _, fun _ h => h, .nil⟩
  | [], _ :: _, _, _, _, _, hl, _, _ => by simp at hl
  | _ :: _, [], _, _, _, _, hl, _, _ => by simp at hl
  | a :: as, p :: kvs, H1, I1, e01, hn, hl, hb, hp => by
    obtain ⟨b1, b2⟩ := hb a (List.mem_cons_self ..)
    obtain ⟨kv, vv, ku, vu, r1, d1, r2, d2, hg⟩ := hp 0 a p rfl rfl
    have ev : Ev H1 (upd H1 a (.frz (tupO [ku, vu]) (.tup [kv, vv]))) := .new b2
    have I2 : Inv X pins σ (upd H1 a (.frz (tupO [ku, vu]) (.tup [kv, vv]))) { s with heap := h', toks := tk } :=
      I1.take (h' := h') (t' := tk) (fun b ob _ e => e) (I0.fpOk b1 b2) ⟨hg, by show 2 ≤ sizeLine; decide, [ku, vu], .cons r1 (.cons r2 .nil), ⟨_, hg, rfl, _, rfl⟩⟩
    rw [List.nodup_cons] at hn
    obtain ⟨H2, I3, e2, k2, r⟩ := take_pairs I0 as kvs _ I2 (e01.trans ev) hn.2 (by simpa using hl) (fun c hc => by
      obtain ⟨c1, c2⟩ := hb c (List.mem_cons_of_mem _ hc)
      exact ⟨c1, by rw [upd_ne (fun z => hn.1 (by rw [← z]; exact hc))]; exact c2⟩) fun j c q h1 h2 => hp (j + 1) c q (by simpa using h1) (by simpa using h2)
    have rt : RelD X.KW (upd H1 a (.frz (tupO [ku, vu]) (.tup [kv, vv]))) (.ref a) (.tup [p.1, p.2]) := relD_new b2 (.cons (d1.ev e01) (.cons (d2.ev e01) .nil))
    exact ⟨H2, I3, ev.trans e2, fun S h => k2 S (h.new b2), .cons (rt.ev e2) r⟩
theorem vals_refs : ∀ as : List Addr, Vals (as.map V.ref) (as.map Value.ref)
  | [] => .nil
  | _ :: as => .cons rfl (vals_refs as)
def dSortedItems (td : DTE) : DTE := fun τ S Q => td τ S fun d S1 => match dctOf S1 d with
  | some (_, kvs) => SortOk S1 (itmsD kvs) ∧ ∀ p, S1 p = none → Q (.ref p) (put S1 p (.lst ((itmsD kvs).mergeSort (dLe S1))))
  | none => False
theorem de_sortedItems {e : Expr} {te : DTE} {p pos apos cpos : Pos} (hc : X.calm = true) (hu : X.A.units + 65 < cLine) (hm : X.mg "sorted" = none) (hg : Gl X "sorted") (he : DE X e te) (hbase : attributeBase e "items" X.env (eval e X.env) = eval e X.env := by rfl) (hline : (apos.endLine == cpos.line) = true := by rfl)
    (na : starEach [(.Call (.Attribute e "items" apos) [] [] cpos : Expr)] X.env = [(false, eval (.Call (.Attribute e "items" apos) [] [] cpos) X.env)] := by rfl) :
    DE X (.Call (.Name "sorted" p) [.Call (.Attribute e "items" apos) [] [] cpos] [] pos) (dSortedItems te) := ⟨fun pins s σ H τ S Q I st hr q => by
  refine Call_ (ld_blt I hg hm boot_sorted ?_)
  refine PyProof.Rows.callWith_builtin1 (PyProof.Rows.args_cons ?_ na) na rfl
  refine wpAny_Call_method (T := "dict") (id := "dict.items") hbase rfl hline F.plainAttrs_dict F.slot_dict_items F.type_dict_items (thn (he.run pins s σ H τ S _ I st hr q) fun u s1 ⟨v, H1, I1, rv, e1, d, S1, hr1, rd, q1⟩ => ?_)
  simp only at q1
  split at q1
  · rename_i a kvs ef
    obtain ⟨so, q1⟩ := q1
    obtain ⟨rfl, hs, hz, es, ep, raw, ea⟩ := ent_at I1 hr1 ef
    cases rd; cases rv
    obtain ⟨o, hg', hx, hdt⟩ := id raw
    refine ⟨raw.typeIs, fun b e => by cases e; exact ⟨o, hg', hx.2.1⟩, ?_⟩
    have I2 : Inv X pins σ H1 { s1 with heap := s1.heap.push { cls := .type "dict_items", data := .fields #[.ref a] } } := I1.kept (t' := s1.toks) fun b ob q => Heap.get?_push_of_some _ q
    refine method_meetsIn F.slot_dict_items F.entry_dict_items rfl (PySem.evalArgs_none ⟨rfl, raw.typeIs, F.args_dict_items_1 _, _, meets_dict_items_raw a hs, ⟨es, ep, raw⟩, ?_⟩)
    have raw2 : (s1.heap.push { cls := .type "dict_items", data := .fields #[.ref a] }).DictRaw a es ep := raw.at fun ob q => Heap.get?_push_of_some _ q
    refine PyProof.Rows.args_nil (_root_.DT.sortedI (es := es) (ep := ep) (I2.ok.hd hc) ⟨_, Heap.get?_push_size _ rfl, rfl, rfl⟩ raw2 (by rw [ea.1]; exact hz) fun h' tk as hk hlt hl hG => ?_)
    have I3 : Inv X pins σ H1 { s1 with heap := h', toks := tk } := I2.kept (t' := tk) hk
    have ll : as.length = kvs.length := hl.trans ea.1
    obtain ⟨H2, I4, e2, k2, rt⟩ := take_pairs (h' := h') (tk := tk) I2 as kvs H1 I3 (.refl _) (List.Pairwise.imp (fun h => Nat.ne_of_lt h) hG.rise) ll
      (fun b hb => ⟨Nat.le_of_lt (hG.above b hb), I2.hok.fresh (Nat.le_of_lt (hG.above b hb))⟩) (fun j b pq hj hp => by
        obtain ⟨en, h1, h2⟩ := hG.pairs j b hj
        obtain ⟨⟨kv, r1, d1⟩, vv, r2, d2⟩ := ea.2 j en pq.1 pq.2 h1 hp
        exact ⟨kv, vv, en.key, en.val, r1, d1, r2, d2, by rw [h2]; rfl⟩)
    have hr2 := k2 S1 hr1
    have lt2 : (as.map V.ref).length = (itmsD kvs).length := rt.length
    have z2 := zip_snd lt2
    have mem2 : ∀ b ∈ (as.map V.ref).zip (itmsD kvs), b.2 ∈ itmsD kvs := fun b hb => by rw [← z2]; exact List.mem_map.mpr ⟨b, hb, rfl⟩
    have em : ((as.map V.ref).zip (itmsD kvs)).map (fun b => enc6 S1 b.2) = (itmsD kvs).map (enc6 S1) := by
      have := congrArg (List.map (enc6 S1)) z2
      rw [List.map_map] at this
      exact this
    have hob : (h'.push { cls := .type "list", data := .seq (as.map Value.ref).toArray }).get? h'.objs.size = some (seqObj "list" (as.map Value.ref).toArray 0) := Heap.get?_push_size _ rfl
    have EE := each_of (vals_refs as) rt
    have ER : PySem.W.EachIs (fun (u : Value) (b : V × D) => ∃ as', PySem.Reads (h'.push { cls := .type "list", data := .seq (as.map Value.ref).toArray }) u (enc6 S1 b.2) as' ∧ h'.objs.size ∉ as') (as.map Value.ref) ((as.map V.ref).zip (itmsD kvs)) := by
      have all : ∀ b ∈ (as.map V.ref).zip (itmsD kvs), (rd 6 S1 b.2).ok 40 = true := fun b hb => so.ok _ (mem2 b hb)
      clear em mem2 z2 hob
      generalize (as.map V.ref).zip (itmsD kvs) = bs at EE all
      generalize hits : as.map Value.ref = its at EE ⊢
      generalize hpush : h'.push { cls := .type "list", data := .seq its.toArray } = hp
      have kp : ∀ b o, h'.get? b = some o → hp.get? b = some o := fun b o e => by rw [← hpush]; exact Heap.get?_push_of_some _ e
      clear hpush hits
      induction EE with
      | nil => exact .nil
      | cons h t ih =>
        refine .cons ?_ (ih fun b hb => all b (List.mem_cons_of_mem _ hb))
        obtain ⟨dp, _, _⟩ := rd_dp hr2 6 h.2 40 (all _ List.mem_cons_self)
        obtain ⟨as', r'⟩ := Dp.reads I4 _ _ _ dp h.1
        exact ⟨as', PyProof.Rows.Reads.keeps kp r', fun m => Nat.lt_irrefl _ (reads_lt r' _ m)⟩
    have hlen : ((as.map V.ref).zip (itmsD kvs)).length = kvs.length := by simp [ll]
    have ui : X.A.in1.units = X.A.units + 1 := rfl
    refine PySem.W.list_sort_data (s := { s1 with heap := h'.push { cls := .type "list", data := .seq (as.map Value.ref).toArray }, toks := tk }) (bs := (as.map V.ref).zip (itmsD kvs)) (enc := fun b => enc6 S1 b.2) hob EE ER (by rw [em]; exact so.alk) (by rw [em]; exact so.srt) (by rw [hlen]; exact hz) (fun b hb => ?_) fun out ho eo => ?_
    · have hm := mem2 b hb
      have q := so.ok _ hm
      have : (enc6 S1 b.2).depth ≤ 40 := by
        obtain ⟨i, hi, e⟩ := List.getElem_of_mem hm
        obtain ⟨v, _, rdd⟩ := rt.get (i := i) (d := b.2) (by rw [List.getElem?_eq_getElem hi, e])
        exact (rd_dp hr2 6 rdd 40 q).2.2
      omega
    · obtain ⟨c, hcc⟩ := PyProof.Rows.sortedHeap_at (vs := as.map Value.ref) (out := out.toArray) hob
      obtain ⟨o1, o2⟩ := of_each eo
      have ms : (((as.map V.ref).zip (itmsD kvs)).mergeSort (PySem.W.dataLe false fun b => enc6 S1 b.2)).map (·.2) = (itmsD kvs).mergeSort (dLe S1) := by
        have q := List.map_mergeSort (r := PySem.W.dataLe false fun b : V × D => enc6 S1 b.2) (s := dLe S1) (f := fun b : V × D => b.2) (l := (as.map V.ref).zip (itmsD kvs)) (fun a _ b _ => rfl)
        rw [z2] at q
        exact q
      rw [ms] at o2
      have n1 : H2 h'.objs.size = none := I4.hok.fresh (Nat.le_refl _)
      have I5 := I4.laid (t' := tk) (h' := sortedHeap (h'.push { cls := .type "list", data := .seq (as.map Value.ref).toArray }) h'.objs.size (as.map Value.ref) out.toArray)
        (fun b o e => (PyProof.Rows.sortedHeap_old (Nat.ne_of_lt (Heap.lt_size e)) (Heap.lt_size (Heap.get?_push_of_some _ e))).trans (Heap.get?_push_of_some _ e)) (Nat.le_refl _)
        (show ObjOk X.prog X.w _ _ h'.objs.size (.lst _) from ⟨by rw [o1.length, ho, hlen]; exact hz, out, c, o1, hcc⟩)
      exact ⟨.ref h'.objs.size, _, I5, rfl, .of (e1.trans (e2.trans (.new n1))) (hr2.lst n1 o2) (.ref _) (q1 _ (hr2.free n1))⟩
  · exact q1.elim⟩
end
end DL
namespace DL
open PySem PySem.Spec PyProof.Rows L2
mutual
def noL : PyData → Bool
  | .list _ => false
  | .dict _ => false
  | .tuple ds => noLs ds
  | _ => true
def noLs : List PyData → Bool
  | [] => true
  | d :: ds => noL d && noLs ds
end
def keyD : D → D
  | .tup (x :: _) => x
  | d => d
structure KSortOk (S : Sto) (ds : List D) : Prop where
  key : ∀ d ∈ ds, ∃ x xs, d = .tup (x :: xs)
  ok : ∀ d ∈ ds, (rd 6 S (keyD d)).ok 40 = true
  flat : ∀ d ∈ ds, noL (enc6 S (keyD d)) = true
  alk : PySem.W.AllAlike (ds.map fun d => enc6 S (keyD d))
  srt : PySem.W.Sortable (ds.map fun d => enc6 S (keyD d))
end DL
namespace DL
open PySem PySem.Spec PyProof.Rows L2
section
variable {X : Cx}
def wIntT : List D → Sto → KD → Prop := fun xs S Q => match xs with
  | [.int i] => Q (.int i) S
  | [.bl b] => Q (.int (if b then 1 else 0)) S
  | _ => False
end
end DL
namespace DL
open PySem PySem.Spec PyProof.Rows L2
section
variable {τ : DSt} {S : Sto} {Q : KD} {R : List D → (Sto → Prop) → Sto → Prop} {ta : DTA} {te tb : DTE} {tbl : List (Str × Str)} {n i : Nat} {g : DTGs} {d : D} {K : DSt → Sto → Prop}
@[simp] theorem dSortedItems_eq : dSortedItems te τ S Q = te τ S fun d S1 => match dctOf S1 d with
  | some (_, kvs) => SortOk S1 (itmsD kvs) ∧ ∀ p, S1 p = none → Q (.ref p) (put S1 p (.lst ((itmsD kvs).mergeSort (dLe S1))))
  | none => False := rfl
@[simp] theorem dLstRg2_eq : dLstRg (rRg2 te tb) τ S Q = te τ S fun d S1 => tb τ S1 fun f S2 => match d, f with
  | .int a, .int b => RgOk a b ∧ ∀ p, S2 p = none → Q (.ref p) (put S2 p (.lst (rngD a (b - a).toNat)))
  | _, _ => False := by
  unfold dLstRg rRg2
  rfl
@[simp] theorem wIntT_bl {b : Bool} : wIntT [.bl b] S Q = Q (.int (if b then 1 else 0)) S := rfl
@[simp] theorem wIntT_int {j : Int} : wIntT [.int j] S Q = Q (.int j) S := rfl
end
end DL
namespace DL
open PySem PySem.Spec PyProof.Rows L2
section
variable {X : Cx}
def wReprA : List D → Sto → KD → Prop := fun xs S Q => match xs with
  | [d] => (rd 6 S d).ok 40 = true ∧ (rd 6 S d).py.showable = true ∧ (rd 6 S d).py.shown.length ≤ sizeLine ∧ Q (.str (rd 6 S d).py.shown) S
  | _ => False
theorem dcall_reprA (hu : X.A.units + 65 < cLine) (hgd : X.A.guards = some []) : DCall X (.builtin "repr") wReprA := by
  intro pins s σ H xs us ds S Q I rv hr rd q
  unfold wReprA at q
  split at q
  · rename_i d
    obtain ⟨q1, q2, q3, q4⟩ := q
    have seqc : ∀ es, seqOf S d = some es → wpAny (model X.prog X.w) X.A (call (.builtin "repr") us) (EP X pins σ (Up X.KW H Q)) X.xe s := fun es ee =>
      dcall_repr hu hgd pins s σ H xs us [d] S Q I rv hr rd ⟨q1, q2, q3, ⟨es, ee⟩, q4⟩
    obtain ⟨v, rfl, r⟩ := rd.one
    obtain ⟨_, cl, _⟩ := rd_dp hr 6 r 40 q1
    have ok := strOk_shown _ cl
    cases rv with
    | cons rv t =>
    cases t
    cases r with
    | non =>
      cases rv
      exact P.repr_of_none ⟨.str _, H, I.kept (t' := s.toks + 1) (fun b o e => e), ⟨_, rfl⟩, .of (.refl _) hr (.str _ ok) q4⟩
    | bl b =>
      cases rv
      exact P.repr_of_bool ⟨.str _, H, I.kept (t' := s.toks + 1) (fun b o e => e), ⟨_, rfl⟩, .of (.refl _) hr (.str _ ok) q4⟩
    | int i =>
      obtain ⟨t, rfl⟩ := rv
      exact P.repr_of_int (by simpa [DL.rd, D.py, PyData.showable] using q2) ⟨.str _, H, I.kept (t' := s.toks + 1) (fun b o e => e), ⟨_, rfl⟩, .of (.refl _) hr (.str _ ok) q4⟩
    | str x hx =>
      obtain ⟨t, rfl⟩ := rv
      exact P.repr_of_str ⟨.str _, H, I.kept (t' := s.toks + 1) (fun b o e => e), ⟨_, rfl⟩, .of (.refl _) hr (.str _ ok) q4⟩ q3
    | ty n => simp [DL.rd, D.ok] at q1
    | ref a =>
      cases e : S a with
      | none => simp [DL.rd, e, D.ok] at q1
      | some o =>
        cases o with
        | lst ds => exact seqc ds (by simp [seqOf, e])
        | _ => simp [DL.rd, e, D.ok] at q1
    | tup _ _ => exact seqc _ rfl
    | wt _ _ => simp [DL.rd, D.ok] at q1
    | fz _ _ => exact seqc _ rfl
  · exact q.elim
end
theorem wReprA_ok {S : Sto} {Q : KD} {d : D} (ok : d.ok 40 = true) (h1 : d.py.showable = true) (h2 : d.py.shown.length ≤ sizeLine) : wReprA [d] S Q = Q (.str d.py.shown) S := by
  unfold wReprA
  simp only [rd_ok d 40 6 S ok, ok, h1, h2, true_and]
end DL
namespace DL
open PySem PySem.Spec PyProof.Rows L2
open Builtin.Str (reprChar)
theorem foldl_repr (q : Nat) : ∀ (l : List Nat) (acc : Array Nat), (l.foldl (fun out c => out ++ (reprChar q c).toArray) acc).toList = acc.toList ++ l.flatMap (reprChar q)
  | [], acc => by simp
  | c :: r, acc => by rw [List.foldl_cons, foldl_repr q r]; simp
theorem reprText_list (x : Str) : (reprText x).cps.toList = reprQuote x :: x.cps.toList.flatMap (reprChar (reprQuote x)) ++ [reprQuote x] := by
  unfold reprText
  simp only [Array.toList_push]
  rw [← Array.foldl_toList, foldl_repr]
  simp
theorem Str.of_list {x y : Str} (h : x.cps.toList = y.cps.toList) : x = y := by
  cases x; cases y
  congr 1
  exact Array.toList_inj.mp h
end DL
namespace DL
open PySem PySem.Spec PyProof.Rows L2
section
open PySem.W PySem.Calls
theorem sorted_src {prog : Program} {w : World} {A : Around} {E : Value → Shared → Prop} {s : Shared} {T : String} {r d : Addr} {n : Nat} {P : Nat → Value → Prop} {OK : Heap → Prop} {Q : Value → Shared → Prop} (K : KdlSrc prog w T r d n P OK) (hh : A.handled = none) (hok : OK s.heap) (hn : n ≤ sizeLine)
    (h : ∀ (h' : Heap) (tk : Nat) (vs : List Value), (∀ b o, s.heap.get? b = some o → h'.get? b = some o) → vs.length = n → (∀ (j : Nat) (v : Value), vs[j]? = some v → P j v) →
      wpAny (model prog w) A.in1 (call (.builtin "list.sort") [.ref h'.objs.size]) (fun _ s' => Q (.ref h'.objs.size) s') E { s with heap := h'.push { cls := .type "list", data := .seq vs.toArray }, toks := tk }) :
    wpAny (model prog w) A (call (.builtin "sorted") [.ref r]) Q E s := by
  refine call_function_entry kind_sorted plain_sorted entry_sorted (args_sorted1 _) ?_
  unfold Builtin.«sorted»
  refine wpAny_bind (m := checkCount "sorted" 1 1 _) (wpAny_pure ?_)
  refine wpAny_bind (kdu_collect (A := A.in1) K hh hok hn fun h' tk acc hk hacc => ?_)
  have hl : acc.toList.length = n := by rw [Array.length_toList]; exact hacc.1
  refine wpAny_bind (wpAny_newList ?_ (by rw [hl]; exact hn))
  have hg := h h' tk acc.toList hk hl (fun j v e => hacc.2 j v (by rw [← Array.getElem?_toList]; exact e))
  refine wpAny_bind (wpAny_holding (wpAny_mono hg (fun _ s' x => ?_) fun _ _ e => e))
  exact wpAny_pure ⟨_, rfl, x⟩
end
section
variable {X : Cx}
def wSortedD : List D → Sto → KD → Prop := fun xs S Q => match xs with
  | [d] => match dctOf S d with
    | some (_, kvs) => SortOk S (kvs.map (·.1)) ∧ ∀ p, S p = none → Q (.ref p) (put S p (.lst ((kvs.map (·.1)).mergeSort (dLe S))))
    | none => wSorted [d] S Q
  | _ => False
theorem dcall_sortedD (hc : X.calm = true) (hu : X.A.units + 65 < cLine) : DCall X (.builtin "sorted") wSortedD := by
  intro pins s σ H xs us ds S Q I rv hr rdx q
  unfold wSortedD at q
  split at q
  · rename_i d
    split at q
    · rename_i a kvs ef
      obtain ⟨so, q1⟩ := q
      obtain ⟨v, rfl, r⟩ := rdx.one
      obtain ⟨rfl, hs, hz, es, ep, raw, ea⟩ := ent_at I hr ef
      cases rv with
      | cons rv t =>
      cases t
      cases r; cases rv
      refine sorted_src (n := es.size) (KdlSrc.rawDict hs) (I.ok.hd hc) raw (by rw [ea.1]; exact hz) fun h' tk vs hk hl hv => ?_
      have I3 : Inv X pins σ H { s with heap := h', toks := tk } := I.kept (t' := tk) hk
      have hl2 : vs.length = (kvs.map (·.1)).length := by rw [hl, ea.1, List.length_map]
      obtain ⟨ws, w1, w2⟩ := rel_items (X := X) (H := H) (kvs.map (·.1)) vs hl2 fun i d u p1 p2 => by
        rw [List.getElem?_map] at p1
        cases p3 : kvs[i]? with
        | none => rw [p3] at p1; cases p1
        | some kv =>
          rw [p3] at p1; cases p1
          obtain ⟨hi, rfl⟩ := hv i u p2
          exact (ea.2 i es[i] kv.1 kv.2 (by rw [Array.getElem?_eq_getElem hi]) p3).1
      generalize kvs.map (·.1) = ks at *
      have lt2 : ws.length = ks.length := w2.length
      have z2 := zip_snd lt2
      have mem2 : ∀ b ∈ ws.zip ks, b.2 ∈ ks := fun b hb => by rw [← z2]; exact List.mem_map.mpr ⟨b, hb, rfl⟩
      have em : (ws.zip ks).map (fun b => enc6 S b.2) = ks.map (enc6 S) := by
        have := congrArg (List.map (enc6 S)) z2
        rw [List.map_map] at this
        exact this
      have hob : (h'.push { cls := .type "list", data := .seq vs.toArray }).get? h'.objs.size = some (seqObj "list" vs.toArray 0) := Heap.get?_push_size _ rfl
      have EE := each_of w1 w2
      have ER : PySem.W.EachIs (fun (u : Value) (b : V × D) => ∃ as', PySem.Reads (h'.push { cls := .type "list", data := .seq vs.toArray }) u (enc6 S b.2) as' ∧ h'.objs.size ∉ as') vs (ws.zip ks) := by
        have all : ∀ b ∈ ws.zip ks, (rd 6 S b.2).ok 40 = true := fun b hb => so.ok _ (mem2 b hb)
        clear em mem2 z2 hob
        generalize ws.zip ks = bs at EE all
        generalize hpush : h'.push { cls := .type "list", data := .seq vs.toArray } = hp
        have kp : ∀ b o, h'.get? b = some o → hp.get? b = some o := fun b o e => by rw [← hpush]; exact Heap.get?_push_of_some _ e
        clear hpush hl hl2 hv w1
        induction EE with
        | nil => exact .nil
        | cons h t ih =>
          refine .cons ?_ (ih fun b hb => all b (List.mem_cons_of_mem _ hb))
          obtain ⟨dp, _, _⟩ := rd_dp hr 6 h.2 40 (all _ List.mem_cons_self)
          obtain ⟨as', r'⟩ := Dp.reads I3 _ _ _ dp h.1
          exact ⟨as', PyProof.Rows.Reads.keeps kp r', fun m => Nat.lt_irrefl _ (reads_lt r' _ m)⟩
      have hlk : ks.length ≤ sizeLine := by rw [← hl2, hl, ea.1]; exact hz
      have hlen : (ws.zip ks).length = ks.length := by simp [lt2]
      have ui : X.A.in1.units = X.A.units + 1 := rfl
      refine PySem.W.list_sort_data (s := { s with heap := h'.push { cls := .type "list", data := .seq vs.toArray }, toks := tk }) (bs := ws.zip ks) (enc := fun b => enc6 S b.2) hob EE ER (by rw [em]; exact so.alk) (by rw [em]; exact so.srt) (by rw [hlen]; exact hlk) (fun b hb => ?_) fun out ho eo => ?_
      · have hm := mem2 b hb
        have q := so.ok _ hm
        have : (enc6 S b.2).depth ≤ 40 := by
          obtain ⟨i, hi, e⟩ := List.getElem_of_mem hm
          obtain ⟨v, _, rdd⟩ := w2.get (i := i) (d := b.2) (by rw [List.getElem?_eq_getElem hi, e])
          exact (rd_dp hr 6 rdd 40 q).2.2
        omega
      · obtain ⟨c, hcc⟩ := PyProof.Rows.sortedHeap_at (vs := vs) (out := out.toArray) hob
        obtain ⟨o1, o2⟩ := of_each eo
        have ms : ((ws.zip ks).mergeSort (PySem.W.dataLe false fun b => enc6 S b.2)).map (·.2) = ks.mergeSort (dLe S) := by
          have q := List.map_mergeSort (r := PySem.W.dataLe false fun b : V × D => enc6 S b.2) (s := dLe S) (f := fun b : V × D => b.2) (l := ws.zip ks) (fun a _ b _ => rfl)
          rw [z2] at q
          exact q
        rw [ms] at o2
        have n1 : H h'.objs.size = none := I3.hok.fresh (Nat.le_refl _)
        have I5 := I3.laid (t' := tk) (h' := sortedHeap (h'.push { cls := .type "list", data := .seq vs.toArray }) h'.objs.size vs out.toArray)
          (fun b o e => (PyProof.Rows.sortedHeap_old (Nat.ne_of_lt (Heap.lt_size e)) (Heap.lt_size (Heap.get?_push_of_some _ e))).trans (Heap.get?_push_of_some _ e)) (Nat.le_refl _)
          (show ObjOk X.prog X.w _ _ h'.objs.size (.lst _) from ⟨by rw [o1.length, ho, hlen]; exact hlk, out, c, o1, hcc⟩)
        exact ⟨.ref h'.objs.size, _, I5, rfl, .of (.new n1) (hr.lst n1 o2) (.ref _) (q1 _ (hr.free n1))⟩
    · exact dcall_sorted hc hu pins s σ H xs us _ S Q I rv hr rdx q
  · exact q.elim
end
end DL
namespace DL
open PySem PySem.Spec PyProof.Rows L2
@[simp] theorem keyFit_int {α : Type} {g : α → D} {f : α → Int} {xs : List α} {n : Int} : keyFit (xs.map fun p => (D.int (f p), g p)) (.int n) = true := by
  cases xs <;> rfl
@[simp] theorem keyFitW_int {α : Type} {g : α → D} {f : α → Int} {xs : List α} {n : Int} : keyFitW (xs.map fun p => (D.int (f p), g p)) (.int n) = true := by
  unfold keyFitW; rw [keyFit_int]; simp
@[simp] theorem keyFit_str {α : Type} {g : α → D} {f : α → Str} {xs : List α} {n : Str} : keyFit (xs.map fun p => (D.str (f p), g p)) (.str n) = true := by
  cases xs <;> rfl
@[simp] theorem keyFitW_str {α : Type} {g : α → D} {f : α → Str} {xs : List α} {n : Str} : keyFitW (xs.map fun p => (D.str (f p), g p)) (.str n) = true := by
  unfold keyFitW; rw [keyFit_str]; simp
theorem dGet_int {α : Type} {g : α → D} {f : α → Int} {xs : List α} {n : Int} : dGet (xs.map fun p => (D.int (f p), g p)) (.int n) = (xs.find? fun p => decide (f p = n)).map g := by
  unfold dGet
  rw [List.find?_map]
  simp only [Function.comp_def, D.int.injEq, Option.map_map]
theorem dGet_str {α : Type} {g : α → D} {f : α → Str} {xs : List α} {n : Str} : dGet (xs.map fun p => (D.str (f p), g p)) (.str n) = (xs.find? fun p => decide (f p = n)).map g := by
  unfold dGet
  rw [List.find?_map]
  simp only [Function.comp_def, D.str.injEq, Option.map_map]
theorem find_of_mem {α β : Type} [DecidableEq β] {f : α → β} : ∀ {xs : List α}, (xs.map f).Nodup → ∀ {x : α}, x ∈ xs → (xs.find? fun p => decide (f p = f x)) = some x
  | [], _, _, h => by cases h
  | y :: ys, nd, x, h => by
    rw [List.map_cons, List.nodup_cons] at nd
    rw [List.find?_cons]
    rcases List.mem_cons.mp h with rfl | h
    · simp
    · have : f y ≠ f x := fun e => nd.1 (by rw [e]; exact List.mem_map.mpr ⟨x, h, rfl⟩)
      simp only [this, decide_false]
      exact find_of_mem nd.2 h
theorem find_none {α β : Type} [DecidableEq β] {f : α → β} {xs : List α} {b : β} : (xs.find? fun p => decide (f p = b)) = none ↔ b ∉ xs.map f := by
  rw [List.find?_eq_none]
  simp only [decide_eq_true_eq, List.mem_map, not_exists, not_and]
theorem dPut_int_new {α : Type} {g : α → D} {f : α → Int} {xs : List α} {y : α} (h : f y ∉ xs.map f) : dPut (xs.map fun p => (D.int (f p), g p)) (.int (f y)) (g y) = (xs ++ [y]).map fun p => (D.int (f p), g p) := by
  unfold dPut
  rw [if_neg]
  · simp
  · simp only [List.any_map, List.any_eq_true, Function.comp_def, D.int.injEq, decide_eq_true_eq, not_exists, not_and]
    exact fun x hx e => h (by rw [← e]; exact List.mem_map.mpr ⟨x, hx, rfl⟩)
theorem dPut_str_new {α : Type} {g : α → D} {f : α → Str} {xs : List α} {y : α} (h : f y ∉ xs.map f) : dPut (xs.map fun p => (D.str (f p), g p)) (.str (f y)) (g y) = (xs ++ [y]).map fun p => (D.str (f p), g p) := by
  unfold dPut
  rw [if_neg]
  · simp
  · simp only [List.any_map, List.any_eq_true, Function.comp_def, D.str.injEq, decide_eq_true_eq, not_exists, not_and]
    exact fun x hx e => h (by rw [← e]; exact List.mem_map.mpr ⟨x, hx, rfl⟩)
theorem SortOk.mk' {β : Type} {S : Sto} (xs : List β) (g : β → D) (hc : ∀ x ∈ xs, (g x).cl 20 = true) (al : ∀ x ∈ xs, ∀ y ∈ xs, PySem.W.alike (g x).py (g y).py = true)
    (so : (∀ x ∈ xs, ∃ u r, (g x).py = .tuple (u :: r)) ∨ ∀ x ∈ xs, (g x).py ≠ .none ∧ ∀ ys, (g x).py ≠ .tuple ys) : SortOk S (xs.map g) := by
  have er : ∀ x ∈ xs, rd 6 S (g x) = g x := fun x hx => rd_cl (hc x hx)
  have em : (xs.map g).map (enc6 S) = xs.map fun x => (g x).py := by
    rw [List.map_map]
    exact List.map_congr_left fun x hx => by show (rd 6 S (g x)).py = _; rw [er x hx]
  refine ⟨fun d hd => ?_, ?_, ?_⟩
  · obtain ⟨x, hx, rfl⟩ := List.mem_map.mp hd
    rw [er x hx]
    exact D.ok_of_cl _ _ (D.cl_up _ 20 40 (by decide) (hc x hx))
  · rw [em]
    intro d hd d' hd'
    obtain ⟨x, hx, rfl⟩ := List.mem_map.mp hd
    obtain ⟨y, hy, rfl⟩ := List.mem_map.mp hd'
    exact al x hx y hy
  · rw [em]
    rcases so with so | so
    · refine .inl fun d hd => ?_
      obtain ⟨x, hx, rfl⟩ := List.mem_map.mp hd
      exact so x hx
    · refine .inr fun d hd => ?_
      obtain ⟨x, hx, rfl⟩ := List.mem_map.mp hd
      exact so x hx
theorem SortOk.ints {S : Sto} (xs : List Int) : SortOk S (xs.map D.int) :=
  .mk' xs D.int (fun _ _ => by simp [D.cl]) (fun _ _ _ _ => by simp [D.py, PySem.W.alike]) (.inr fun _ _ => by simp [D.py])
def pairSI (p : Str × Int) : D := .tup [.str p.1, .int p.2]
theorem SortOk.pairsSI {S : Sto} (xs : List (Str × Int)) : SortOk S (xs.map pairSI) :=
  .mk' xs pairSI (fun _ _ => by simp [pairSI, D.cl, D.cls]) (fun _ _ _ _ => by simp [pairSI, D.py, D.pys, PySem.W.alike, PySem.W.alikeAll]) (.inl fun _ _ => by simp [pairSI, D.py, D.pys])
theorem mergeSort_map {β : Type} (g : β → D) (le : D → D → Bool) (xs : List β) : (xs.map g).mergeSort le = (xs.mergeSort fun a b => le (g a) (g b)).map g := by
  rw [List.map_mergeSort]
  intro a _ b _
  rfl
theorem dV_at {i : Nat} {τ : DSt} {S : Sto} {Q : KD} {d : D} (h : τ[i]? = some (some d)) (q : Q d S) : dV i τ S Q := by unfold dV; rw [h]; exact q
end DL
namespace DL
open PySem PySem.Spec PyProof.Rows L2
section
variable {P : Program} {w : World} {K : PySem.W.Frag} {mg : Str → Option Value} {base : Heap}
theorem CalD.ofD {x : Str} {st : Stmt} {f : Addr} {fd : FuncData} {N ps : List Str} {k : Nat} {sp : DSp} {dds : List D} (F : Fun K x x st f fd) (S : FnScope N ps (defScope st)) (hm : mg x = some (.ref f)) (hb : ∃ dfl, Binds K fd ps dfl ∧ Dfl P w K dds dfl) (len : ∀ ds S Q E, sp ds S Q E → ds.length = ps.length)
    (hbody : ∀ (cdv : Value) (A : Around) (outer : List Env) (s : Shared) (H : Hp) (ds : List D) (So : Sto) (Q : KD) (E : KX), Room k (A.deeper (envOfC x (defScope st) s.heap.objs.size f cdv)) → (A.deeper (envOfC x (defScope st) s.heap.objs.size f cdv)).guards = some [] → sp ds So Q E →
      ∃ t, DSs (cxOf (CX P w) P w K mg base N x (defScope st) f cdv A outer s H (UpX ⟨K, P, w⟩ H E)).nox (defBody st) t ∧ t (bodyEnds Q) (startD N ds) So) : CalD P w K mg base (k + 1) x sp dds :=
  let ⟨dfl, b, d⟩ := hb
  ⟨f, fd, ps, dfl, FnD.of F S len (fun cdv A outer s H ds So Q E hr hg hs => let ⟨t, a, b⟩ := hbody cdv A outer s H ds So Q E hr hg hs; ⟨t, a.nox, b⟩), hm, F.kp, b, d⟩
end
end DL
namespace DL
open PySem PySem.Spec PyProof.Rows L2
theorem ev_base {X : Cx} {pins : List (Addr × Obj)} {σ : L2.St} {H : Hp} {s : Shared} (I : Inv X pins σ H s) : Ev X.H_0 H := fun a o e z => by
  cases o with
  | tup xs => exact I.base.tups a xs e
  | frz o u => exact I.base.frzs a o u e
  | _ => simp [stays] at z
abbrev TkD (X : Cx) (E : KX) : Prop := Takes X fun cls d _ H => UpX X.KW X.H_0 E cls d H
def dCallX (sp : DSp) (dds : List D) (E : KX) (t : DTA) : DTE := fun τ S Q => t τ S fun ds S1 => sp (ds ++ dds) S1 Q E
@[simp] theorem dCallX_eq {sp : DSp} {dds : List D} {E : KX} {ta : DTA} {τ : DSt} {S : Sto} {Q : KD} : dCallX sp dds E ta τ S Q = ta τ S fun ds S1 => sp (ds ++ dds) S1 Q E := rfl
section
variable {X : Cx} {x : Str} {k : Nat} {sp : DSp} {dds : List D} {p pos : Pos} {e : Expr} {es : List Expr} {tr : DTA} {E : KX}
theorem de_calX (C : CalD X.prog X.w X.K X.mg X.base k x sp dds) (hr : Room k X.A) (hgd : X.A.guards = some []) (hg : Gl X x) (tk : TkD X E) (ha : DAr X (e :: es) tr) (hdb : (x == ("__debug__" : Str)) = false := by decide)
    (he : starEach (e :: es) X.env = (false, eval e X.env) :: starEach es X.env := by rfl) (hpl : (backTo pos (starEach es X.env)).any (·.1) = false := by rfl) :
    DE X (.Call (.Name x p) (e :: es) [] pos) (dCallX sp dds E tr) := by
  obtain ⟨f, fd, ps, dfl, F, hm, hk, hb, hd⟩ := C.ex
  refine ⟨fun pins s σ H τ S Q I st hR q => wpAny_Call_Name_kw (ld_glob I hg hm ?_ hdb)⟩
  refine PySem.W.callWith_K (h₀ := X.base) I.ok.mod.kin hk (thn (ha.run pos pins s σ H τ S _ I st hR q) fun us s1 ⟨vs, H1, I1, r, ev, ds, S1, hR1, rd, q1⟩ => ⟨I1.kIn, ?_⟩) he hpl
  exact thn (runD F hr hgd hb hd I1 r rd hR1 q1 fun e s' c => tk e s' (XE.of_call I1 (fun cls d H' h => UpX.back (ev_base I1) h) c)) fun u s' ⟨v, H', I', r', z⟩ => ⟨v, H', I', r', z.back ev⟩
end
section
variable {P : Program} {w : World} {K : PySem.W.Frag} {mg : Str → Option Value} {base : Heap}
theorem CalD.ofX {x : Str} {st : Stmt} {f : Addr} {fd : FuncData} {N ps : List Str} {k : Nat} {sp : DSp} (F : Fun K x x st f fd) (S : FnScope N ps (defScope st)) (hm : mg x = some (.ref f)) (hb : Binds K fd ps []) (len : ∀ ds S Q E, sp ds S Q E → ds.length = ps.length)
    (hbody : ∀ (cdv : Value) (A : Around) (outer : List Env) (s : Shared) (H : Hp) (ds : List D) (So : Sto) (Q : KD) (E : KX), Room k (A.deeper (envOfC x (defScope st) s.heap.objs.size f cdv)) → (A.deeper (envOfC x (defScope st) s.heap.objs.size f cdv)).guards = some [] → sp ds So Q E →
      ∃ t, DSs (cxOf (CX P w) P w K mg base N x (defScope st) f cdv A outer s H (UpX ⟨K, P, w⟩ H E)) (defBody st) t ∧ t (bodyEnds Q) (startD N ds) So) : CalD P w K mg base (k + 1) x sp [] :=
  ⟨f, fd, ps, [], FnD.of F S len hbody, hm, F.kp, hb, .nil⟩
theorem tk_of {N : List Str} {qual : Str} {sc : Scope} {f : Addr} {cdv : Value} {A : Around} {outer : List Env} {s : Shared} {H : Hp} {E : KX} : TkD (cxOf (CX P w) P w K mg base N qual sc f cdv A outer s H (UpX ⟨K, P, w⟩ H E)) E := takes_of rfl rfl rfl rfl
theorem own_of {N : List Str} {qual : Str} {sc : Scope} {f : Addr} {cdv : Value} {A : Around} {outer : List Env} {s : Shared} {H : Hp} {E : KX} : PassesOwn (model P w) (cxOf (CX P w) P w K mg base N qual sc f cdv A outer s H (UpX ⟨K, P, w⟩ H E)).A (cxOf (CX P w) P w K mg base N qual sc f cdv A outer s H (UpX ⟨K, P, w⟩ H E)).env (cxOf (CX P w) P w K mg base N qual sc f cdv A outer s H (UpX ⟨K, P, w⟩ H E)).xe := passes_of rfl
end
structure BaseI (K : PySem.W.Frag) (cB : Addr) (mc : Value) : Prop where
  ga : PySem.W.specialIn K (.ref cB) "__getattribute__" = some (some (.builtin "type.__getattribute__"))
  ty : PySem.W.typeIn K (.ref cB) = some mc
  rd : PySem.W.readsIn K cB mc = true
  fi : PySem.W.findCls K (.ref cB) mc "__init__" = some (.val (.builtin "ValueError.__init__"))
theorem pe_clsinit {X : Cx} {e : Expr} {es : List Expr} {ta : TA} {B : Str} {cB : Addr} {mc : Value} {p1 p2 pos : Pos} {pl : Sem Bool} (hg : Gl X B) (hm : X.mg B = some (.ref cB)) (F : BaseI X.K cB mc) (ha : PA X (e :: es) ta)
    (hc : eval (.Call (.Attribute (.Name B p1) "__init__" p2) (e :: es) [] pos) X.env = (do
      let ov ← eval (.Name B p1) X.env
      standAt p2.atName
      let (f, first) ← holding [ov] (getMethod ov "__init__" pl)
      callWith pos f first (backTo pos (starEach (e :: es) X.env)) (backToKw pos (keywordEach [] X.env))) := by rfl)
    (hdb : (B == ("__debug__" : Str)) = false := by decide) (he : starEach (e :: es) X.env = (false, eval e X.env) :: starEach es X.env := by rfl) (hpl : (backTo pos (starEach es X.env)).any (·.1) = false := by rfl) :
    PE X (.Call (.Attribute (.Name B p1) "__init__" p2) (e :: es) [] pos) (tVeI X.K ta) := by
  refine ⟨fun pins s σ H Q I h => ?_⟩
  refine PySem.W.methodCall_KW (ld_glob I hg hm ?_ hdb) hc
  obtain ⟨m, fr⟩ := I.fr
  refine PySem.W.method_of_cls fr I.ok.mod.kin F.ga (PySem.W.cls_val fr I.ok.mod.kin F.ty F.rd F.fi (by decide +kernel) ?_)
  show wpAny _ _ (callWith pos (Value.builtin "ValueError.__init__") [] (backTo pos (starEach (e :: es) X.env)) []) _ _ _
  refine PyProof.Rows.callWith_method1 (thn (ha.run pos pins _ σ H _ (I.tok _) h) fun us s1 ⟨vs, H1, I1, r1, a, C, ws, ev, hl, T, ea, q⟩ => ?_) he hpl
  subst ev
  cases r1 with
  | @cons _ u0 _ ur ra rw' =>
    obtain rfl : u0 = Value.ref a := ra
    have hlen : ur.length ≤ sizeLine := by
      rw [← Paired.length rw', sizeLine_eq]
      omega
    exact oinit_ok T I1 ea hlen fun s' J => ⟨.non, H1, J, rfl, q⟩
end DL
namespace DL
open PySem PySem.Spec PyProof.Rows L2
def clsB : Stmt → List Stmt
  | .ClassDef (body := b) .. => b
  | _ => []
def methS (st : Stmt) (i : Nat) : Stmt := (clsB st).getD i (.Pass ⟨0, 0, 0, 0⟩)
def spInit (K : PySem.W.Frag) (names : List Str) : Sp := fun vs H Q _ => ∃ (a C : Addr) (ws : List V), vs = .ref a :: ws ∧ ws.length = names.length ∧ OexC K C ∧ H a = some (exo a C none) ∧ (∀ n ∈ names, PySem.W.findIn K (.ref C) n = some none) ∧
  ∀ d, H d = none → d ≠ a → Q .non (upd (upd H a (exo a C (some d))) d (exd d (names.zip ws).reverse))
theorem len_init {K : PySem.W.Frag} {names ps : List Str} (h : ps.length = names.length + 1) : ∀ vs H Q E, spInit K names vs H Q E → vs.length = ps.length := fun _ _ _ _ ⟨a, _, ws, e, l, _⟩ => by rw [e, h, List.length_cons, l]
theorem upd_swap {H : Hp} {a b : Addr} {o u : HO} (h : a ≠ b) : upd (upd H a o) b u = upd (upd H b u) a o := by
  funext x
  unfold upd
  by_cases h1 : x = b
  · subst h1; rw [if_pos rfl, if_neg (fun z => h z.symm), if_pos rfl]
  · rw [if_neg h1]
    by_cases h2 : x = a
    · rw [if_pos h2, if_pos h2]
    · rw [if_neg h2, if_neg h2, if_neg h1]
theorem init1_reads {K : PySem.W.Frag} {n1 : Str} {v1 m : V} {H : Hp} {Q : VK} {a C : Addr} {σ : L2.St} (h0 : σ[0]? = some (some (.ref a))) (h1 : σ[1]? = some (some v1)) (T : OexC K C) (ea : H a = some (exo a C none)) (hn : ∀ n ∈ [n1], PySem.W.findIn K (.ref C) n = some none)
    (q : ∀ d, H d = none → d ≠ a → Q .non (upd (upd H a (exo a C (some d))) d (exd d ([n1].zip [v1]).reverse))) :
    tSeq (tDrop (tVeI K (tCons (tVar 0) (tCons (tC m) tNil)))) (tOst K n1 (tVar 0) (tVar 1)) { nx := fun _ H' => Q .non H', rt := Q } σ H := by
  refine ⟨.ref a, h0, a, C, [m], rfl, by show 1 ≤ 1000; decide, T, ea, ?_⟩
  refine ⟨v1, h1, .ref a, h0, a, C, rfl, T, hn n1 (by simp), .inl ⟨ea, fun dx nd ne => ?_⟩⟩
  have := q dx nd ne
  rw [upd_swap (Ne.symm ne)] at this
  exact this
def dRaise (C : Addr) (names : List Str) (E : KX) (ta : DTA) : DTS := fun _ τ S => ta τ S fun ds S1 => ds.length = names.length ∧ E (.ref C) (names.zip ds).reverse S1
@[simp] theorem dRaise_eq {C : Addr} {names : List Str} {E : KX} {ta : DTA} {Dn : DEnds} {τ : DSt} {S : Sto} : dRaise C names E ta Dn τ S = ta τ S fun ds S1 => ds.length = names.length ∧ E (.ref C) (names.zip ds).reverse S1 := rfl
structure ExcK (P : Program) (w : World) (K : PySem.W.Frag) (mg : Str → Option Value) (base : Heap) (x : Str) (C : Addr) (names : List Str) : Prop where
  T : OexC K C
  ini : ∃ (fI : Addr) (fd : FuncData) (ps : List Str), PySem.W.findIn K (.ref C) "__init__" = some (some (.ref fI)) ∧ PySem.W.typeIn K (.ref fI) = some (.type "function") ∧ FnOk P w K mg base CX0 1 fI fd ps (spInit K names) ∧ Binds K fd ps []
  mC : mg x = some (.ref C)
  no : ∀ n ∈ names, PySem.W.findIn K (.ref C) n = some none
theorem RelFs.zip {K : KW} {H : Hp} : ∀ {ns : List Str} {vs : List V} {ds : List D}, RelDs K H vs ds → RelFs K H (ns.zip vs) (ns.zip ds)
  | [], _, _, _ => .nil
  | _ :: _, _, _, .nil => .nil
  | _ :: _, _, _, .cons r t => .cons r (RelFs.zip t)
theorem RelFs.append {K : KW} {H : Hp} : ∀ {vs ds vs' ds'}, RelFs K H vs ds → RelFs K H vs' ds' → RelFs K H (vs ++ vs') (ds ++ ds')
  | _, _, _, _, .nil, q => q
  | _, _, _, _, .cons r t, q => .cons r (RelFs.append t q)
theorem RelFs.rev {K : KW} {H : Hp} : ∀ {vs ds}, RelFs K H vs ds → RelFs K H vs.reverse ds.reverse
  | _, _, .nil => .nil
  | _, _, .cons r t => by
    rw [List.reverse_cons, List.reverse_cons]
    exact (RelFs.rev t).append (.cons r .nil)
section
variable {X : Cx} {x : Str} {p pos pos' : Pos} {e : Expr} {es : List Expr} {tr : DTA} {E : KX} {C : Addr} {names : List Str}
theorem ds_raise (T : ExcK X.prog X.w X.K X.mg X.base x C names) (hl : names.length ≤ 9) (hc : X.calm = true) (hr : Room 2 X.A) (hg : Gl X x) (tk : TkD X E) (ha : DAr X (e :: es) tr) (hdb : (x == ("__debug__" : Str)) = false := by decide)
    (he : starEach (e :: es) X.env = (false, eval e X.env) :: starEach es X.env := by rfl) (hpl : (backTo pos (starEach es X.env)).any (·.1) = false := by rfl) :
    DSm X (.Raise (some (.Call (.Name x p) (e :: es) [] pos)) none pos') (dRaise C names E tr) := by
  obtain ⟨fI, fd, ps, h1, h2, F, hb⟩ := T.ini
  have P := pmk_oex (ds := []) (dvs := []) (pos := pos) (p := p) T.T h1 h2 F hr hb .nil (fun _ _ _ _ _ _ _ z => z.elim) hg T.mC ha.lo hdb he hpl
  refine ⟨fun pins s σ H τ S Dn I st hR q => (ps_raise (pos := pos') hc tk P).run pins s σ H _ I ?_⟩
  refine ⟨τ, S, _, st, hR, q, fun vs H1 ⟨ev, ds, S1, hR1, rd, ql, qE⟩ => ?_⟩
  have l1 := rd.length
  refine ⟨by omega, fun a na => ⟨a, C, vs, by rw [List.append_nil], by omega, T.T, upd_same, T.no, fun d nd ne => ?_⟩⟩
  have nd1 : H1 d = none := by rwa [upd_ne ne] at nd
  refine ⟨rfl, d, (names.zip vs).reverse, ?_, upd_same, nd1, ?_⟩
  · rw [upd_ne (Ne.symm ne), upd_same]
  · have eH : upd (L2.del (upd (upd (upd H1 a (exo a C none)) a (exo a C (some d))) d (exd d (names.zip vs).reverse)) a) d (.xd (names.zip vs).reverse) = upd H1 d (.xd (names.zip vs).reverse) := by
      funext b
      by_cases hb : b = d
      · rw [hb, upd_same, upd_same]
      · rw [upd_ne hb, upd_ne hb]
        by_cases hba : b = a
        · rw [hba, L2.del_same, na]
        · rw [L2.del_ne hba, upd_ne hb, upd_ne hba, upd_ne hba]
    rw [eH]
    have ev1 : Ev H1 (upd H1 d (.xd (names.zip vs).reverse)) := .new nd1
    exact ⟨((ev_base I).trans ev).trans ev1, _, S1, hR1.new nd1, .inr ⟨d, _, rfl, upd_same, ((RelFs.zip rd).rev).ev ev1⟩, qE⟩
end
end DL
namespace DL
open PySem PySem.Spec PyProof.Rows L2
def UfS (K : KW) (Q : DSt → Sto → Prop) : L2.St → Hp → Prop := fun σ H' => ∃ τ S', HR K H' S' ∧ StR K H' σ τ ∧ Q τ S'
def UfV (K : KW) (Q : KD) : VK := fun v H' => ∃ d S', HR K H' S' ∧ RelD K H' v d ∧ Q d S'
def UfE (K : KW) (Dn : DEnds) : Ends := ⟨UfS K Dn.nx, UfV K Dn.rt, UfS K Dn.bk, UfS K Dn.ct⟩
structure DSf (X : Cx) (st : List Stmt) (t : DTS) : Prop where
  run : ∀ (pins : List (Addr × Obj)) (s : Shared) (σ : L2.St) (H : Hp) (τ : DSt) (S : Sto) (Dn : DEnds), Inv X pins σ H s → StR X.KW H σ τ → HR X.KW H S → t Dn τ S →
    wpAny (model X.prog X.w) X.A (execs st X.env) (SP X pins (UfE X.KW Dn)) X.xe s
theorem SP.forget {X : Cx} {pins : List (Addr × Obj)} {H : Hp} {Dn : DEnds} {f : Flow} {s : Shared} (h : SP X pins (UpE X.KW H Dn) f s) : SP X pins (UfE X.KW Dn) f s :=
  SP.imp h (fun _ _ z => z.2) (fun _ _ z => z.2) (fun _ _ z => z.2) fun _ _ z => z.2
theorem DSs.f {X : Cx} {st : List Stmt} {t : DTS} (h : DSs X st t) : DSf X st t := ⟨fun pins s σ H τ S Dn I sr hr q => wpAny_mono (h.run pins s σ H τ S Dn I sr hr q) (fun _ _ z => SP.forget z) fun _ _ z => z⟩
def lfS (K : KW) (t : DTS) : TS := fun D σ H => ∃ τ S Dn, StR K H σ τ ∧ HR K H S ∧ t Dn τ S ∧ (∀ σ' H', UfS K Dn.nx σ' H' → D.nx σ' H') ∧ (∀ v H', UfV K Dn.rt v H' → D.rt v H') ∧
  (∀ σ' H', UfS K Dn.bk σ' H' → D.bk σ' H') ∧ ∀ σ' H', UfS K Dn.ct σ' H' → D.ct σ' H'
theorem DSf.lo {X : Cx} {st : List Stmt} {t : DTS} (h : DSf X st t) : PSs X st (lfS X.KW t) :=
  ⟨fun pins s σ H D I ⟨τ, S, Dn, sr, hr, q, k1, k2, k3, k4⟩ => wpAny_mono (h.run pins s σ H τ S Dn I sr hr q) (fun _ _ z => SP.imp z k1 k2 k3 k4) fun _ _ z => z⟩
theorem DSf.up {X : Cx} {st : List Stmt} {t : DTS} {u : TS} (h : PSs X st u) (c : ∀ (σ : L2.St) (H : Hp) (τ : DSt) (S : Sto) (Dn : DEnds), StR X.KW H σ τ → HR X.KW H S → t Dn τ S → u (UfE X.KW Dn) σ H) : DSf X st t :=
  ⟨fun pins s σ H τ S Dn I st hr q => h.run pins s σ H _ I (c σ H τ S Dn st hr q)⟩
structure DSg (X : Cx) (st : Stmt) (t : DTS) : Prop where
  run : ∀ (pins : List (Addr × Obj)) (s : Shared) (σ : L2.St) (H : Hp) (τ : DSt) (S : Sto) (Dn : DEnds), Inv X pins σ H s → StR X.KW H σ τ → HR X.KW H S → t Dn τ S →
    wpAny (model X.prog X.w) X.A (exec st X.env) (SP X pins (UfE X.KW Dn)) X.xe s
theorem DSg.lo {X : Cx} {st : Stmt} {t : DTS} (h : DSg X st t) : PS X st (lfS X.KW t) :=
  ⟨fun pins s σ H D I ⟨τ, S, Dn, sr, hr, q, k1, k2, k3, k4⟩ => wpAny_mono (h.run pins s σ H τ S Dn I sr hr q) (fun _ _ z => SP.imp z k1 k2 k3 k4) fun _ _ z => z⟩
theorem DSg.up {X : Cx} {st : Stmt} {t : DTS} {u : TS} (h : PS X st u) (c : ∀ (σ : L2.St) (H : Hp) (τ : DSt) (S : Sto) (Dn : DEnds), StR X.KW H σ τ → HR X.KW H S → t Dn τ S → u (UfE X.KW Dn) σ H) : DSg X st t :=
  ⟨fun pins s σ H τ S Dn I st hr q => h.run pins s σ H _ I (c σ H τ S Dn st hr q)⟩
theorem dsf_cons {X : Cx} {s : Stmt} {r : List Stmt} {t u : DTS} (h1 : DSg X s t) (h2 : DSf X r u) : DSf X (s :: r) (dSeq t u) :=
  .up (pss_cons h1.lo h2.lo) fun σ H τ S Dn sr hr q => ⟨τ, S, _, sr, hr, q, fun σ' H' ⟨τ', S', hr', sr', q'⟩ => ⟨τ', S', Dn, sr', hr', q', fun _ _ z => z, fun _ _ z => z, fun _ _ z => z, fun _ _ z => z⟩, fun _ _ z => z, fun _ _ z => z, fun _ _ z => z⟩
def dTry1 (C : Addr) (n i : Nat) (tb : KX → DTS) (ts : Addr → Addr → DTS) : DTS := fun Dn τ S => tb (fun cls fs S1 => cls = .ref C ∧ fs ≠ [] ∧ ∀ (τ1 : DSt) (a dd : Addr), τ1.length = n → S1 a = none → (S1 dd = none ∨ ∃ g, S1 dd = some (.exc g)) →
  ts a dd { nx := fun τ' S' => Dn.nx (τ'.set i none) S', rt := Dn.rt, bk := fun τ' S' => Dn.bk (τ'.set i none) S', ct := fun τ' S' => Dn.ct (τ'.set i none) S' } (τ1.set i (some (.ref a))) (put S1 dd (.exc fs))) Dn τ S
theorem UfS.setN {K : KW} {Q : DSt → Sto → Prop} {i : Nat} {σ : L2.St} {H : Hp} (h : UfS K (fun τ S => Q (τ.set i none) S) σ H) : UfS K Q (σ.set i none) H := by
  obtain ⟨τ, S, hr, sr, q⟩ := h
  exact ⟨_, S, hr, sr.setN i, q⟩
theorem len_nones {K : KW} {H : Hp} (σ : L2.St) : StR K H σ (List.replicate σ.length none) := by
  induction σ with
  | nil => exact .nil
  | cons v r ih =>
    rw [List.length_cons, List.replicate_succ]
    exact .cons (by cases v <;> exact True.intro) ih
theorem HR.exc {K : KW} {H : Hp} {S : Sto} {dd : Addr} {vs : List (Str × V)} {fs : List (Str × D)} (h : HR K H S) (e : H dd = some (.xd vs)) (r : RelFs K H vs fs) : HR K H (put S dd (.exc fs)) := fun a o q => by
  by_cases z : a = dd
  · subst z; rw [put_same] at q; cases q; exact ⟨vs, e, r⟩
  · rw [put_ne z] at q; exact h a o q
theorem at_xd {K : KW} {H : Hp} {S : Sto} {dd : Addr} {vs : List (Str × V)} (h : HR K H S) (e : H dd = some (.xd vs)) : S dd = none ∨ ∃ g, S dd = some (.exc g) := by
  cases q : S dd with
  | none => exact .inl rfl
  | some o =>
    have := h dd o q
    cases o with
    | exc g => exact .inr ⟨g, rfl⟩
    | lst ds => obtain ⟨_, z, _⟩ := this; rw [e] at z; cases z
    | dct kvs => rcases this with ⟨_, z, _⟩ | ⟨_, z, _⟩ <;> exact absurd (e.symm.trans z) (by simp [TDn])
    | fdc o kvs => rcases this with ⟨_, z, _⟩ | ⟨_, z, _⟩ <;> (rw [e] at z; cases z)
    | set ds => obtain ⟨_, _, _, z⟩ := this; exact absurd (e.symm.trans z) (by simp [SetO])
    | tab ps => exact absurd (e.symm.trans this) (by simp)
    | cod q => exact absurd (e.symm.trans this) (by simp [LamX.CodeO])
section
variable {X : Cx} {x n : Str} {c : Value} {C : Addr} {i : Nat} {body suite : List Stmt} {b₀ : Stmt} {np pos pos' : Pos} {tb : KX → DTS} {ts : Addr → Addr → DTS}
theorem ds_try1 (hs : X.stack = X.env :: X.outer) (hf : X.env.frame = some X.env.locals) (hN : X.N.Nodup) (hi : X.N[i]? = some n) (hln : X.env.kindOf n = some .local) (hc : Names X x c) (hex : PySem.W.exmOne X.K (.ref C) c = some true)
    (hb : ∀ (E : KX) (pn : List (Addr × Obj)) (xe : Value → Shared → Prop), TkD (X.tr pn xe) E → PassesOwn (model X.prog X.w) X.A X.env xe → DSf (X.tr pn xe) body (tb E))
    (hsu : ∀ (a dd : Addr) (oe : Obj) (pn : List (Addr × Obj)), Zc (.ref C) (some dd) oe → (∃ vs, oe.data = .fields vs) → DSf (X.suite a ((a, oe) :: pn)) (b₀ :: suite) (ts a dd)) :
    DSg X (.Try body [.ExceptHandler (some (.Name x np)) (some n) (b₀ :: suite) pos'] [] [] pos) (dTry1 C X.N.length i tb ts) := by
  have P := ps_try_as (X := X) (np := np) (pos := pos) (pos' := pos') (body := body) (suite := suite) (b₀ := b₀) (c := c) (i := i)
    (tb := fun W D σ H => ∃ E : KX, (∀ cls d σ' H', σ'.length = X.N.length → UpX X.KW X.H_0 E cls d H' → W cls d σ' H') ∧ lfS X.KW (tb E) D σ H)
    (ts := fun a cls d D σ H => ∃ dd, cls = .ref C ∧ d = some dd ∧ lfS X.KW (ts a dd) D σ H) (Wout := fun _ _ _ _ => False) hs hf hN hi hln hc LamX.takes0
    (fun W pn xe tk po => ⟨fun pins s σ H D I ⟨E, hW, q⟩ => by
      have tkE : TkD (X.tr pn xe) E := fun u s' ⟨a, B, sI, pins', σ', H', cls, d, e, I', nb, up, sky, na, os, ag, w⟩ => tk u s' ⟨a, B, sI, pins', σ', H', cls, d, e, I', nb, up, sky, na, os, ag, hW _ _ _ _ I'.len w⟩
      exact (hb E pn xe tkE po).lo.run pins s σ H D I q⟩)
    (fun a oe cls d pn hz hfl => ⟨fun pins s σ H D I ⟨dd, ec, ed, q⟩ => by
      subst ec ed
      exact (hsu a dd oe pn hz hfl).lo.run pins s σ H D I q⟩)
  refine .up P fun σ H τ S Dn sr hr q => ⟨_, fun cls d σ' H' hl u => ?_, τ, S, Dn, sr, hr, q, fun _ _ z => z, fun _ _ z => z, fun _ _ z => z, fun _ _ z => z⟩
  obtain ⟨_, fs, S1, hr1, hd, ec, hfs, k⟩ := u
  subst ec
  rcases hd with ⟨_, e⟩ | ⟨dd, vs, ed, exd, rf⟩
  · exact absurd e hfs
  · refine ⟨true, hex, fun _ a na => ⟨dd, rfl, ed, ?_⟩, fun z => Bool.noConfusion z⟩
    have sr1 : StR X.KW H' σ' (List.replicate X.N.length none) := hl ▸ len_nones σ'
    exact ⟨_, _, _, StR.set (.ref a) i sr1, hr1.exc exd rf, k _ a dd (by rw [List.length_replicate]) (hr1.free na) (at_xd hr1 exd), fun _ _ z => UfS.setN z, fun _ _ z => z, fun _ _ z => UfS.setN z, fun _ _ z => UfS.setN z⟩
end
end DL
namespace DL
open PySem PySem.Spec PyProof.Rows L2
theorem de_own {X : Cx} {x : Str} {C : Addr} {pos : Pos} (hg : Gl X x) (hm : X.mg x = some (.ref C)) (hd : (x == ("__debug__" : Str)) = false := by decide) : DE X (.Name x pos) (dC (.ref C)) :=
  de_c (v := .ref C) (pe_glob hg hm rfl hd) fun _ => .ref C
structure ExcIs (K : PySem.W.Frag) (C : Addr) : Prop where
  cl : (PySem.W.clsIn K C).isSome = true
  ga : PySem.W.findIn K (.ref C) "__getattribute__" = some (some (.builtin "BaseException.__getattribute__"))
  gt : PySem.W.findIn K (.ref C) "__getattr__" = some none
  sb : PySem.W.subIn K (.ref C) (.type "BaseException") = some true
  ca : PySem.W.findIn K (.ref C) "__class__" = some (some (.builtin "object.__class__"))
  sn : PySem.W.specialIn K (.builtin "object.__class__") "__get__" = some (some (.builtin "getset_descriptor.__get__"))
  tk : PySem.W.takesIn K (.builtin "object.__class__") = some true
  mo : PySem.W.mroIn K C (.type "object") = some true
def KindsOk (K : PySem.W.Frag) (C : Addr) (ks : List (Addr × Bool)) : Prop := ∀ p ∈ ks, PySem.W.kitOne K (.ref C) (.ref p.1) = some p.2
def wIsE (a dd : Addr) (ks : List (Addr × Bool)) : List D → Sto → KD → Prop := fun xs S Q => match xs with
  | [.ref a', .ref c] => a' = a ∧ (∃ g, S dd = some (.exc g)) ∧ ∃ b, (c, b) ∈ ks ∧ Q (.bl b) S
  | [.ref a', .tup ds] => a' = a ∧ (∃ g, S dd = some (.exc g)) ∧ (∀ d ∈ ds, ∃ c, d = .ref c ∧ (c, false) ∈ ks) ∧ Q (.bl false) S
  | _ => False
theorem tup_plain {X : Cx} {pins : List (Addr × Obj)} {σ : L2.St} {H : Hp} {s : Shared} {t : Addr} {vs : List V} (I : Inv X pins σ H s) (h : TupAt X.KW H t vs) : ∃ (dd : Option Addr) (its : List Value) (n : Nat) (sl : Array (Option Value)), s.heap.get? t = some ⟨.type "tuple", dd, .seq its.toArray n, sl⟩ ∧ Vals vs its := by
  rcases h with ⟨o, hd, e⟩ | ⟨o, its, n, lk, hc, hd, ho, _, r⟩
  · obtain ⟨e1, _, us, r, o', e2, hc, n, ho⟩ := I.hok t _ e
    rw [e1] at e2
    cases e2
    obtain ⟨oc, od, oda, osl⟩ := o
    dsimp only at hc hd ho
    subst hc hd ho
    exact ⟨none, us, n, osl, e1, r⟩
  · obtain ⟨oc, od, oda, osl⟩ := o
    dsimp only at hc hd ho
    subst hc hd ho
    exact ⟨none, its.toList, n, osl, by simpa using I.kIn _ _ lk, r⟩
theorem any_false {K : PySem.W.Frag} {C : Addr} {ks : List (Addr × Bool)} (hk : KindsOk K C ks) {KW' : KW} {H : Hp} : ∀ {vs : List V} {ds : List D} {its : List Value}, RelDs KW' H vs ds → Vals vs its → (∀ d ∈ ds, ∃ c, d = .ref c ∧ (c, false) ∈ ks) → PySem.W.kitAny K (.ref C) its = some false
  | _, _, _, .nil, .nil, _ => rfl
  | _, _, _, .cons r t, .cons rv tv, h => by
    obtain ⟨c, e, hm⟩ := h _ (List.mem_cons_self ..)
    subst e
    cases r
    cases rv
    have h1 := hk _ hm
    show (match PySem.W.kitOne K (.ref C) (.ref c) with | some true => some true | some false => _ | none => none) = _
    rw [h1]
    exact any_false hk t tv fun d hd => h d (List.mem_cons_of_mem _ hd)
section
variable {X : Cx} {a C dd : Addr} {oe : Obj} {pn : List (Addr × Obj)} {ks : List (Addr × Bool)}
theorem inst_of {X : Cx} {pins : List (Addr × Obj)} {σ : L2.St} {H : Hp} {s : Shared} (I : Inv (X.suite a ((a, oe) :: pn)) pins σ H s) (hz : Zc (.ref C) (some dd) oe) (hf : ∃ vs, oe.data = .fields vs) {vs : List (Str × V)} (ea : H dd = some (.xd vs)) :
    ∃ od, PySem.W.InstAt s.heap a oe C (some od) := by
  obtain ⟨ha, _⟩ := I.pin (a, oe) (List.mem_append_left _ List.mem_cons_self)
  obtain ⟨us, hd⟩ := hf
  obtain ⟨mA, hns, hr⟩ := (show ObjOk X.prog X.w H s.heap dd (.xd vs) from I.hok dd _ ea)
  obtain ⟨od, ho, hl⟩ := lookIn_ns hns
  exact ⟨od, ha, hz.1, by unfold PySem.W.notCls; rw [hd] <;> rfl, by rw [hz.2]; exact ho⟩
theorem dcall_isE (T : ExcIs X.K C) (hk : KindsOk X.K C ks) (hz : Zc (.ref C) (some dd) oe) (hf : ∃ vs, oe.data = .fields vs) : DCall (X.suite a ((a, oe) :: pn)) (.builtin "isinstance") (wIsE a dd ks) := by
  intro pins s σ H xs us ds S Q I rv hr rd q
  unfold wIsE at q
  split at q
  · obtain ⟨rfl, ⟨g, eg⟩, b, hb, q⟩ := q
    obtain ⟨vs, ex, _⟩ := hr _ _ eg
    obtain ⟨od, J⟩ := inst_of I hz hf ex
    obtain ⟨x, c, rfl, rx, rc⟩ := rd.two
    cases rx; cases rc
    cases rv with
    | cons r1 t => cases t with
      | cons r2 t => cases t; cases r1; cases r2; exact PySem.W.kia_one (PySem.W.kitx_exc T.cl T.ga T.gt T.sb T.ca T.sn T.tk T.mo) I.kIn J (hk _ hb) (fun z => nomatch z) fun tk => ⟨.bl b, H, I.kept (t' := tk) fun _ _ z => z, rfl, .of (.refl _) hr (.bl _) q⟩
  · obtain ⟨rfl, ⟨g, eg⟩, hds, q⟩ := q
    obtain ⟨vs, ex, _⟩ := hr _ _ eg
    obtain ⟨od, J⟩ := inst_of I hz hf ex
    obtain ⟨x, c, rfl, rx, rc⟩ := rd.two
    cases rx
    cases rc with
    | tup tt r =>
      cases rv with
      | cons r1 t => cases t with
        | cons r2 t =>
          cases t; cases r1; cases r2
          obtain ⟨d2, its, n, sl, htp, rv2⟩ := tup_plain I tt
          exact PySem.W.kia_tup (PySem.W.kitx_exc T.cl T.ga T.gt T.sb T.ca T.sn T.tk T.mo) I.kIn J htp (any_false hk r rv2 hds) (fun z => nomatch z) fun tk => ⟨.bl false, H, I.kept (t' := tk) fun _ _ z => z, rfl, .of (.refl _) hr (.bl _) q⟩
  · exact q.elim
def dXf (a dd : Addr) (n : Str) (te : DTE) : DTE := fun τ S Q => te τ S fun x S1 => x = .ref a ∧ ∃ fs v, S1 dd = some (.exc fs) ∧ fs.lookup n = some v ∧ Q v S1
@[simp] theorem dXf_eq {n : Str} {te : DTE} {τ : DSt} {S : Sto} {Q : KD} : dXf a dd n te τ S Q = te τ S fun x S1 => x = .ref a ∧ ∃ fs v, S1 dd = some (.exc fs) ∧ fs.lookup n = some v ∧ Q v S1 := rfl
theorem RelFs.look {K : KW} {H : Hp} {n : Str} {d : D} : ∀ {vs : List (Str × V)} {fs : List (Str × D)}, RelFs K H vs fs → fs.lookup n = some d → ∃ v, vs.lookup n = some v ∧ RelD K H v d
  | _, _, .nil, h => by cases h
  | (m, v) :: vs, (_, d') :: fs, .cons r t, h => by
    rw [List.lookup_cons] at h ⊢
    cases e : (n == m) with
    | true => rw [e] at h; cases h; exact ⟨v, rfl, r⟩
    | false => rw [e] at h; exact t.look h
theorem de_xf {e : Expr} {n : Str} {te : DTE} {pos : Pos} (T : XfC X.K C) (hno : PySem.W.findIn X.K (.ref C) n = some none) (hz : Zc (.ref C) (some dd) oe) (hf : ∃ vs, oe.data = .fields vs) (he : DE (X.suite a ((a, oe) :: pn)) e te)
    (hb : attributeBase e n X.env (eval e X.env) = eval e X.env := by rfl) : DE (X.suite a ((a, oe) :: pn)) (.Attribute e n pos) (dXf a dd n te) :=
  .up (pe_xf T hno hz hf he.lo hb) fun σ H τ S Q st hr q => .mk st hr q fun v H1 ⟨e1, d, S1, hr1, r1, ed, fs, w, es, el, q1⟩ => by
    subst ed
    cases r1
    obtain ⟨vs, ex, rf⟩ := hr1 _ _ es
    obtain ⟨v', h1, h2⟩ := rf.look el
    exact ⟨rfl, rfl, dd, vs, v', rfl, ex, h1, .of e1 hr1 h2 q1⟩
end
end DL
namespace DL
open PySem PySem.Spec PyProof.Rows L2
section
variable {P : Program} {w : World} {K : PySem.W.Frag} {mg : Str → Option Value} {base : Heap} {k : Nat} {f : Addr} {fd : FuncData} {ps : List Str} {sp : DSp}
theorem FnD.ofF {x qual : Str} {st : Stmt} {N : List Str} (F : Fun K x qual st f fd) (S : FnScope N ps (defScope st)) (len : ∀ ds S Q E, sp ds S Q E → ds.length = ps.length)
    (hbody : ∀ (cdv : Value) (A : Around) (outer : List Env) (s : Shared) (H : Hp) (ds : List D) (So : Sto) (Q : KD) (E : KX), Room k (A.deeper (envOfC qual (defScope st) s.heap.objs.size f cdv)) → (A.deeper (envOfC qual (defScope st) s.heap.objs.size f cdv)).guards = some [] → sp ds So Q E →
      ∃ t, DSf (cxOf (CX P w) P w K mg base N qual (defScope st) f cdv A outer s H (UpX ⟨K, P, w⟩ H E)) (defBody st) t ∧ t (bodyEnds Q) (startD N ds) So) : FnD P w K mg base (k + 1) f fd ps sp := by
  obtain ⟨oc, od, kV, doc, pm, an, cdv, ct, osl, rfl, lk, hcd⟩ := F.ex
  refine ⟨len, fun A outer s H args us vs ds So Q E hr hgd e0 hb rv rd hR hsp => ?_⟩
  have hl : vs.length = ps.length := by rw [rd.length]; exact len _ _ _ _ hsp
  have stays : ∀ b o, base.get? b = some o → s.heap.get? b = some o := fun b o e => (e0.bs b o e).1
  have inK : K.In s.heap := e0.mod.kin.keeps stays
  have lim : s.heap.NoLimit := e0.mod.nolimit.keeps stays
  have params : ∀ y ∈ ps.zip us, (defScope st).names.lookup y.1 = some .local ∨ ((defScope st).names.lookup y.1 = some .cell ∧ ((cellsFrom (s.heap.objs.size + 1) (defScope st).names []).lookup y.1).isSome = true) := by
    rintro ⟨n, v⟩ hy
    rcases S.par n (List.of_mem_zip hy).1 with q | q
    · exact .inl q
    · exact .inr ⟨q, PySem.W.cellsFrom_some _ _ _ (.inl q)⟩
  refine codeAny_call_function hr.depth (inK _ _ lk) rfl S.co S.gen rfl (PySem.W.codeRec_of inK hcd) (hb _ _ _ _ (wpAny_newFunctionEnv_cells S.kind params fun env he s1 entered => ?_))
  subst he
  refine ⟨lim.keeps entered.toInCall.keep, codeAny_func ?_⟩
  obtain ⟨t, ht, hq⟩ := hbody cdv A outer s H ds So Q E (hr.deeper _) (by
    first
      | exact hgd
      | simpa [Around.deeper, Code.guards, pushGuards, Code.isGuard] using hgd) hsp
  have I := inv_start (CX := CX P w) (N := N) (mg := mg) (E := UpX ⟨K, P, w⟩ H E) S hr.hd e0 hl rv entered
  refine wpAny_mono (ht.run [] s1 (L2.start N vs) H _ So _ I (startD.rel rd) hR hq) (fun fl s' z => ?_) fun _ _ z => z
  have fin : ∀ {σ' H' v u}, Inv (cxOf (CX P w) P w K mg base N qual (defScope st) f cdv A outer s H (UpX ⟨K, P, w⟩ H E)) [] σ' H' s' → RelV v u → UfV ⟨K, P, w⟩ Q v H' → CE outer P w H s (Up ⟨K, P, w⟩ H Q) u s' :=
    fun J r q => ⟨_, _, J.os, J.bare, J.base, J.hok, r, ev_base J, q⟩
  cases fl with
  | ret u => obtain ⟨v, σ', H', J, r, q⟩ := z; exact fin J r q
  | next =>
    obtain ⟨σ', H', J, τ', S', h1, h2, h3⟩ := z
    exact fin J (v := .non) (u := .none) rfl ⟨.non, S', h1, .non, h3⟩
  | brk => obtain ⟨σ', H', J, τ', S', h1, h2, h3⟩ := z; exact h3.elim
  | cont => obtain ⟨σ', H', J, τ', S', h1, h2, h3⟩ := z; exact h3.elim
theorem CalD.ofF {x : Str} {st : Stmt} {N : List Str} (F : Fun K x x st f fd) (S : FnScope N ps (defScope st)) (hm : mg x = some (.ref f)) (hb : Binds K fd ps []) (len : ∀ ds S Q E, sp ds S Q E → ds.length = ps.length)
    (hbody : ∀ (cdv : Value) (A : Around) (outer : List Env) (s : Shared) (H : Hp) (ds : List D) (So : Sto) (Q : KD) (E : KX), Room k (A.deeper (envOfC x (defScope st) s.heap.objs.size f cdv)) → (A.deeper (envOfC x (defScope st) s.heap.objs.size f cdv)).guards = some [] → sp ds So Q E →
      ∃ t, DSf (cxOf (CX P w) P w K mg base N x (defScope st) f cdv A outer s H (UpX ⟨K, P, w⟩ H E)) (defBody st) t ∧ t (bodyEnds Q) (startD N ds) So) : CalD P w K mg base (k + 1) x sp [] :=
  ⟨f, fd, ps, [], FnD.ofF F S len hbody, hm, F.kp, hb, .nil⟩
end
end DL
namespace DL
open PySem PySem.Spec PyProof.Rows L2
def dSetd (to te tf : DTE) : DTE := fun τ S Q => to τ S (isRef fun a S1 => isDct S1 a ∧ te τ S1 fun y S2 => tf τ S2 fun z S3 => ∃ kvs v, S3 a = some (.dct kvs) ∧ kvs.length < sizeLine ∧ (∃ k : Key, y = DL.kD k) ∧ dGet kvs y = some v ∧ Q v S3)
theorem dGet_kD_T {K : KW} {H : Hp} {k : Key} : ∀ {es : List (List Key × Addr × Value)} {kvs : List (D × D)}, RelTV K H es kvs → dGet kvs (DL.kD k) = none
  | _, _, .nil => rfl
  | _, _, .cons (k := k') ta rv rd rt => by
    have ne : DL.kTD k' ≠ DL.kD k := by cases k <;> simp [DL.kD, DL.kTD]
    have := dGet_kD_T (k := k) rt
    unfold dGet at *
    simpa [List.find?_cons, ne] using this
section
variable {X : Cx} {o e f : Expr} {apos cpos : Pos} {to te tf : DTE}
theorem de_setd (ho : DE X o to) (he : DE X e te) (hf : DE X f tf) (m : M2 X o "setdefault" apos e f cpos) : DE X (.Call (.Attribute o "setdefault" apos) [e, f] [] cpos) (dSetd to te tf) := by
  refine ⟨fun pins s σ H τ S Q I st hr h => ?_⟩
  refine wpAny_Call_method m.base m.few m.line PySem.F.plainAttrs_dict PySem.F.slot_dict_setdefault PySem.F.type_dict_setdefault (thn (ho.run pins s σ H τ S _ I st hr h) fun u s1 ⟨x, H1, I1, rx, e1, d, S1, hr1, rd, q1⟩ => ?_)
  cases rd with
  | ref a =>
    obtain rfl : u = Value.ref a := rx
    obtain ⟨t1, t2⟩ := isDct_at I1 hr1 q1.1
    refine ⟨t1, t2, ?_⟩
    rw [m.trees]
    refine Calls.callWith_builtin rfl (Calls.evalArgs_plain (Calls.spliced_cons (thn (he.run pins s1 σ H1 τ S1 _ I1 (st.ev e1) hr1 q1.2) fun iv s2 ⟨y, H2, I2, ry, e2, yd, S2, hr2, ryd, q2⟩ =>
      Calls.spliced_cons (thn (hf.run pins s2 σ H2 τ S2 _ I2 (st.ev (e1.trans e2)) hr2 q2) fun fv s3 ⟨z, H3, I3, rz, e3, zd, S3, hr3, rzd, q3⟩ => Calls.spliced_nil ?_))))
    obtain ⟨kvs, v, es, hl, ⟨k, rfl⟩, g, q3⟩ := q3
    rcases hr3 a _ es with ⟨ks, h1, rk⟩ | ⟨ks, h1, rk⟩
    · have ey := (ryd.ev e3).kV
      subst ey
      have r := rk.val (fun a b => kD_inj) k
      rw [g] at r
      cases ev : valV ks k with
      | none => rw [ev] at r; exact r.elim
      | some v0 =>
        rw [ev] at r
        exact d_setd I3 h1 ry rz (by rw [rk.length]; exact hl) (fun v' hv w' s4 I4 rw' => by
          rw [ev] at hv; cases hv
          exact ⟨v0, H3, I4, rw', .of ((e1.trans e2).trans e3) hr3 r q3⟩) (fun hn => by rw [ev] at hn; cases hn)
    · rw [dGet_kD_T rk] at g; cases g
  | _ => exact q1.elim
end
end DL
namespace DL
open PySem PySem.Spec PyProof.Rows L2
section
variable {X : Cx} {d : Addr} {tbl : List (Str × Addr)}
structure HeldD (P : Program) (w : World) (K : PySem.W.Frag) (mg : Str → Option Value) (base : Heap) (k : Nat) (f : Addr) (sp : DSp) : Prop where
  ex : ∃ (fd : FuncData) (ps : List Str) (n : Str), FnD P w K mg base k f fd ps sp ∧ PySem.W.keepIn K (.ref f) = true ∧ Binds K fd ps []
theorem HeldD.mono {P : Program} {w : World} {K : PySem.W.Frag} {mg : Str → Option Value} {base : Heap} {j k : Nat} {sp : DSp} {f : Addr} (h : HeldD P w K mg base j f sp) (hl : j ≤ k) : HeldD P w K mg base k f sp := by
  obtain ⟨fd, ps, n, F, hk, hb⟩ := h.ex
  exact ⟨fd, ps, n, F.mono hl, hk, hb⟩
end
end DL
namespace DL
open PySem PySem.Spec PyProof.Rows L2
section
variable {P : Program} {w : World} {K : PySem.W.Frag} {mg : Str → Option Value} {base : Heap}
theorem kwd_of {x qual : Str} {params : Arguments} {body : List Stmt} {scope : Scope} {D : Addr} {doc pm : Value} {an : Option Addr} {cdv ct : Value} {n : Nat} {ps : List Str} {l : List (Str × Value)} {dds : List DL.D}
    (hl : ∀ q ∈ l, PySem.W.nsIn K D q.1 = some (some q.2)) (hd : Dfl P w K dds (l.map (·.2))) (hn : n + l.length = ps.length)
    (h : ∀ us : List Value, us.length = n → KwChain D l (bindArgs (PySem.W.fnOf x qual params body scope .none (.ref D) doc pm an cdv ct) ⟨us, []⟩) (ps.zip (us ++ l.map (·.2)))) :
    ∃ dfl, Binds K (PySem.W.fnOf x qual params body scope .none (.ref D) doc pm an cdv ct) ps dfl ∧ Dfl P w K dds dfl := by
  refine ⟨l.map (·.2), fun s us X hlen => ?_, hd⟩
  rw [List.length_append, List.length_map] at hlen
  exact BindsTo.of_looks fun M => KwChain.looks X hl (h us (by omega))
theorem dfl_int {i : Int} {t : Tok} {dds : List D} {dfl : List Value} (h : Dfl P w K dds dfl) : Dfl P w K (.int i :: dds) (.int i t :: dfl) := by
  obtain ⟨vs, a, b⟩ := h
  exact ⟨.int i :: vs, .cons ⟨t, rfl⟩ a, fun H => .cons (.int i) (b H)⟩
end
end DL
namespace DL
open PySem PySem.Spec PyProof.Rows L2
def kwRev {α : Type} (xs ys : List α) : List α := match xs, ys with | [], [a, b] => [b, a] | _, _ => []
end DL
namespace DL
open PySem PySem.Spec PyProof.Rows L2
theorem wPop_end {S : Sto} {a : Addr} {ds : List D} {x : D} {Q : KD} (h : S a = some (.lst (ds ++ [x]))) (q : Q x (put S a (.lst ds))) : wPop (.ref a) [] S Q := by
  show onL S a _
  rw [onL_eq h]
  have e1 : (ds ++ [x])[(ds ++ [x]).length - 1]? = some x := by simp
  have e2 : (ds ++ [x]).dropLast = ds := by simp
  rw [e1, onS_some, e2]
  exact q
end DL
namespace PySem
open Sem (wp)
structure Srcs (prog : Program) (w : World) (A : Around) (it : Addr) (fp wr : List Addr) (n : Nat) (Y : Nat → Heap → Value → Heap → Prop) (St : Nat → Heap → Prop) : Prop where
  live : ∀ i h, St i h → ∃ o, h.get? it = some o
  mem : it ∈ wr
  sub : ∀ b ∈ wr, b ∈ fp
  frame : ∀ i h h', St i h → (∀ b ∈ fp, ∀ o, h.get? b = some o → h'.get? b = some o) → (∀ b o, b ∉ fp → h.get? b = some o → ∃ o', h'.get? b = some o') → St i h'
  keep : ∀ i h₀ x h h', Y i h₀ x h → (∀ b o, h₀.get? b = none → h.get? b = some o → h'.get? b = some o) → Y i h₀ x h'
  item : ∀ i (s : Shared) (Q : Value → Shared → Prop) (E : Value → Shared → Prop), i < n → St i s.heap →
    (∀ x h' tk, Y i s.heap x h' → St (i + 1) h' → (∀ b o, b ∉ wr → s.heap.get? b = some o → h'.get? b = some o) → s.heap.objs.size ≤ h'.objs.size → Q x { s with heap := h', toks := tk }) → wpAny (model prog w) A (Builtin.SmallTypes.nextOf (.ref it)) Q E s
  done : ∀ (s : Shared) (Q : Value → Shared → Prop) (E : Value → Shared → Prop), St n s.heap →
    (∀ h' tk e, (∀ b o, b ∉ wr → s.heap.get? b = some o → h'.get? b = some o) → (∃ o, h'.get? e = some o ∧ o.cls = .type "StopIteration") → E (.ref e) { s with heap := h', toks := tk }) → wpAny (model prog w) A (Builtin.SmallTypes.nextOf (.ref it)) Q E s
end PySem
namespace DL
open PySem PySem.Spec PyProof.Rows L2
section
variable {P : Program} {w : World} {K : PySem.W.Frag} {mg : Str → Option Value} {base : Heap}
theorem CalK.ofX {x : Str} {st : Stmt} {f : Addr} {fd : FuncData} {N ps ks : List Str} {n k : Nat} {sp : DSp} (F : Fun K x x st f fd) (S : FnScope N ps (defScope st)) (hm : mg x = some (.ref f)) (hb : KBinds K fd ps ks (kwG n ks.length) (kwG n ks.length)) (len : ∀ ds S Q E, sp ds S Q E → ds.length = ps.length)
    (hbody : ∀ (cdv : Value) (A : Around) (outer : List Env) (s : Shared) (H : Hp) (ds : List D) (So : Sto) (Q : KD) (E : KX), Room k (A.deeper (envOfC x (defScope st) s.heap.objs.size f cdv)) → (A.deeper (envOfC x (defScope st) s.heap.objs.size f cdv)).guards = some [] → sp ds So Q E →
      ∃ t, DSs (cxOf (CX P w) P w K mg base N x (defScope st) f cdv A outer s H (UpX ⟨K, P, w⟩ H E)) (defBody st) t ∧ t (bodyEnds Q) (startD N ds) So) : CalK P w K mg base (k + 1) x sp ks (kwG n ks.length) :=
  ⟨f, fd, ps, _, _, FnD.of F S len hbody, hm, F.kp, hb, fun _ _ _ _ _ r q => kwG_rel r q⟩
end
end DL
namespace KB
open PySem PySem.Spec PyProof.Rows L2 DL
def fdD (c a b n : D) : List (D × D) := [(.str "cells", c), (.str "at", a), (.str "rest", b), (.str "count", n)]
def Feed (S : Sto) (f : Addr) (m : Nat) : Prop := ∃ (xs : List Int) (a b n : Int), S f = some (.dct (fdD (.fz (xs.map D.int)) (.int a) (.int b) (.int n))) ∧ 0 ≤ n ∧ n ≤ (m : Int)
section
variable {S S' : Sto} {f p : Addr} {o : AO} {m : Nat}
theorem Feed.nt (T : Feed S f m) (h : S p = none) : p ≠ f := fun e => by subst e; obtain ⟨xs, a, b, n, h1, _⟩ := T; rw [h1] at h; cases h
theorem Feed.put (T : Feed S f m) (h : p ≠ f) : Feed (DL.put S p o) f m := by
  obtain ⟨xs, a, b, n, h1, h2⟩ := T
  exact ⟨xs, a, b, n, by rw [put_ne (Ne.symm h)]; exact h1, h2⟩
theorem Feed.new (T : Feed S f m) (h : S p = none) : Feed (DL.put S p o) f m := T.put (T.nt h)
theorem Feed.up {m' : Nat} (T : Feed S f m) (k : m ≤ m') : Feed S f m' := by
  obtain ⟨xs, a, b, n, h1, h2, h3⟩ := T
  exact ⟨xs, a, b, n, h1, h2, by omega⟩
theorem Feed.freeT {S1 : Sto} (T : Feed S1 f m) (k : Keeps f S S1) (h : S1 p = none) : S p = none := k.free h (T.nt h)
theorem Feed.ne_lst {ds : List D} (T : Feed S f m) (h : S p = some (.lst ds)) : p ≠ f := fun z => by subst z; obtain ⟨_, _, _, _, e, _⟩ := T; rw [e] at h; cases h
end
def sp__law_pick : DSp := fun ds S Q E => ∃ f many m, ds = [.ref f, .int many] ∧ 0 < many ∧ many < 10000000 ∧ m < 1000000000 ∧ Feed S f m ∧ ∀ r S', 0 ≤ r → r < many → Feed S' f (m + 1) → Keeps f S S' → Q (.int r) S'
@[simp] theorem dDisp_eq {trs : List (DTE × DTE)} {τ : DSt} {S : Sto} {Q : KD} : dDisp trs τ S Q = ∀ p, S p = none → dPairs trs τ (put S p (.dct [])) fun ps S1 => S1 p = some (.dct []) ∧ (leafAll ps = true ∧ ps.length ≤ 15) ∧ Q (.ref p) (put S1 p (.dct (kvMerge [] ps))) := rfl
@[simp] theorem dPairs_nil {τ : DSt} {S : Sto} {Q : List (D × D) → Sto → Prop} : dPairs [] τ S Q = Q [] S := rfl
@[simp] theorem dPairs_cons {tk tv : DTE} {r : List (DTE × DTE)} {τ : DSt} {S : Sto} {Q : List (D × D) → Sto → Prop} : dPairs ((tk, tv) :: r) τ S Q = tk τ S fun x S1 => tv τ S1 fun y S2 => dPairs r τ S2 fun ps S3 => Q ((x, y) :: ps) S3 := rfl
end KB
namespace KB
open PySem PySem.Spec PyProof.Rows L2 DL
abbrev Nd := Int × Str × List (Str × Int)
def rowD (r : Nd) : D := .tup [.int r.1, .str r.2.1, .tup (r.2.2.map pairSI)]
def NM : List Str := ["a", "ab", "b", "c", "x", "z"]
def isK (x : Str) : Prop := x = "drawer" ∨ x = "sheet"
def srtE (es : List (Str × Int)) : List (Str × Int) := es.mergeSort fun a b => PySem.W.dataLe false D.py (pairSI a) (pairSI b)
structure TreeG (rows : List Nd) (made : Int) : Prop where
  len : rows.length ≤ 14
  asc : (rows.map (·.1)).Pairwise (· < ·)
  top : ∃ es r, rows = ((0 : Int), ("drawer" : Str), es) :: r
  lt : ∀ r ∈ rows, r.1 < made
  made : made ≤ 100
  kd : ∀ r ∈ rows, isK r.2.1
  sh : ∀ r ∈ rows, r.2.1 = ("sheet" : Str) → r.2.2 = []
  nd : ∀ r ∈ rows, (r.2.2.map (·.1)).Nodup
  nm : ∀ r ∈ rows, ∀ e ∈ r.2.2, e.1 ∈ NM
  tg : ∀ r ∈ rows, ∀ e ∈ r.2.2, e.2 ∈ rows.map (·.1) ∧ 0 < e.2
  one : ∃ ex : List Int, (rows.flatMap fun r => r.2.2.map (·.2)).Perm ((rows.map (·.1)).tail ++ ex) ∧ ∀ s ∈ ex, ∃ r ∈ rows, r.1 = s ∧ r.2.1 = ("sheet" : Str)
  up : ∀ r ∈ rows, ∀ e ∈ r.2.2, r.1 < e.2 ∨ ∃ q ∈ rows, q.1 = e.2 ∧ q.2.1 = ("sheet" : Str)
  se : ∀ r ∈ rows, ∃ es, r.2.2 = srtE es
structure Gn where
  id : Int
  kind : Str
  es : List (Str × Int)
  ad : Addr
def eN (p : Str × Int) : D × D := (.str p.1, .int p.2)
structure GW (gs : List Gn) (last : Int) : Prop where
  asc : (gs.map (·.id)).Pairwise (· < ·)
  top : ∃ es a r, gs = ⟨0, "drawer", es, a⟩ :: r
  le : ∀ g ∈ gs, 0 ≤ g.id ∧ g.id ≤ last
  kd : ∀ g ∈ gs, isK g.kind
  sh : ∀ g ∈ gs, g.kind = ("sheet" : Str) → g.es = []
  nd : ∀ g ∈ gs, (g.es.map (·.1)).Nodup
  nm : ∀ g ∈ gs, ∀ e ∈ g.es, e.1 ∈ NM ∧ e.1 ≠ ("z" : Str)
  up : ∀ g ∈ gs, ∀ e ∈ g.es, g.id < e.2
  pm : (gs.flatMap fun g => g.es.map (·.2)).Perm (gs.map (·.id)).tail
theorem GW.nodup {gs : List Gn} {last : Int} (h : GW gs last) : (gs.map (·.id)).Nodup := h.asc.imp fun h e => by omega
def withE (gs : List Gn) (a : Addr) (es : List (Str × Int)) : List Gn := gs.map fun g => if g.ad = a then { g with es := es } else g
theorem withE_id {gs : List Gn} {a : Addr} {es : List (Str × Int)} : (withE gs a es).map (·.id) = gs.map (·.id) := by
  unfold withE; rw [List.map_map]; refine List.map_congr_left fun g _ => ?_
  show (if g.ad = a then { g with es := es } else g).id = g.id
  split <;> rfl
theorem withE_ad {gs : List Gn} {a : Addr} {es : List (Str × Int)} : (withE gs a es).map (·.ad) = gs.map (·.ad) := by
  unfold withE; rw [List.map_map]; refine List.map_congr_left fun g _ => ?_
  show (if g.ad = a then { g with es := es } else g).ad = g.ad
  split <;> rfl
theorem withE_mem {gs : List Gn} {a : Addr} {es : List (Str × Int)} {g : Gn} (h : g ∈ withE gs a es) : ∃ q ∈ gs, (q.ad = a ∧ g = { q with es := es }) ∨ (q.ad ≠ a ∧ g = q) := by
  obtain ⟨q, hq, rfl⟩ := List.mem_map.mp h
  refine ⟨q, hq, ?_⟩
  by_cases e : q.ad = a
  · rw [if_pos e]; exact .inl ⟨e, rfl⟩
  · rw [if_neg e]; exact .inr ⟨e, rfl⟩
theorem withE_flat {x : Str} {v : Int} : ∀ {gs : List Gn} {g : Gn}, (gs.map (·.ad)).Nodup → g ∈ gs → ((withE gs g.ad (g.es ++ [(x, v)])).flatMap fun g => g.es.map (·.2)).Perm ((gs.flatMap fun g => g.es.map (·.2)) ++ [v])
  | q :: gs, g, nd, hg => by
    rw [List.map_cons, List.nodup_cons] at nd
    unfold withE
    rw [List.map_cons, List.flatMap_cons, List.flatMap_cons]
    by_cases e : q.ad = g.ad
    · have : q = g := by
        rcases List.mem_cons.mp hg with h | h
        · exact h.symm
        · exact absurd (List.mem_map_of_mem (f := (·.ad)) h) (by rw [← e]; exact nd.1)
      subst this
      rw [if_pos rfl]
      have e2 : (gs.map fun g => if g.ad = q.ad then { g with es := q.es ++ [(x, v)] } else g) = gs := by
        refine (List.map_congr_left fun g hg => ?_).trans (List.map_id gs)
        rw [if_neg fun z => nd.1 (by rw [← z]; exact List.mem_map_of_mem (f := (·.ad)) hg)]; rfl
      rw [e2]
      show (List.map (·.2) (q.es ++ [(x, v)]) ++ _).Perm _
      rw [List.map_append, List.append_assoc, List.append_assoc]
      exact List.Perm.append_left _ List.perm_append_comm
    · rw [if_neg e, List.append_assoc]
      refine List.Perm.append_left _ ?_
      exact withE_flat nd.2 ((List.mem_cons.mp hg).resolve_left fun z => e (by rw [z]))
theorem GW.add {gs : List Gn} {last m : Int} {g : Gn} {x k : Str} {p : Addr} (h : GW gs last) (nda : (gs.map (·.ad)).Nodup) (hg : g ∈ gs) (hd : g.kind = ("drawer" : Str)) (hx : x ∈ NM) (hz : x ≠ ("z" : Str)) (hn : x ∉ g.es.map (·.1)) (hm : last < m) (hk : isK k) :
    GW (withE gs g.ad (g.es ++ [(x, m)]) ++ [⟨m, k, [], p⟩]) m := by
  have same : ∀ q ∈ gs, q.ad = g.ad → q = g := fun q hq e => by
    have a1 := find_of_mem nda hq
    have a2 := find_of_mem nda hg
    rw [e, a2] at a1
    exact (Option.some.inj a1).symm
  have hlast : ∀ q ∈ gs, q.id < m := fun q hq => by have := (h.le q hq).2; omega
  have m0 : 0 ≤ m := by have := (h.le g hg); omega
  have mem : ∀ q ∈ withE gs g.ad (g.es ++ [(x, m)]) ++ [⟨m, k, [], p⟩], (q = { g with es := g.es ++ [(x, m)] }) ∨ (q ∈ gs) ∨ q = ⟨m, k, [], p⟩ := fun q hq => by
    rcases List.mem_append.mp hq with hq | hq
    · obtain ⟨q', hq', ⟨e, rfl⟩ | ⟨_, rfl⟩⟩ := withE_mem hq
      · rw [same q' hq' e]; exact .inl rfl
      · exact .inr (.inl hq')
    · exact .inr (.inr (List.mem_singleton.mp hq))
  refine ⟨?_, ?_, fun q hq => ?_, fun q hq => ?_, fun q hq => ?_, fun q hq => ?_, fun q hq => ?_, fun q hq => ?_, ?_⟩
  · rw [List.map_append, withE_id, List.pairwise_append]
    refine ⟨h.asc, by simp, fun a ha b hb => ?_⟩
    obtain ⟨q, hq, rfl⟩ := List.mem_map.mp ha
    rw [List.map_singleton, List.mem_singleton] at hb
    rw [hb]; exact hlast q hq
  · obtain ⟨es, a, r, rfl⟩ := h.top
    unfold withE
    rw [List.map_cons]
    by_cases e : a = g.ad
    · rw [if_pos e]; exact ⟨_, _, _, rfl⟩
    · rw [if_neg e]; exact ⟨_, _, _, rfl⟩
  · rcases mem q hq with rfl | hq | rfl
    · have := h.le g hg; exact ⟨this.1, by show g.id ≤ m; omega⟩
    · have := h.le q hq; omega
    · exact ⟨m0, Int.le_refl _⟩
  · rcases mem q hq with rfl | hq | rfl
    · exact h.kd g hg
    · exact h.kd q hq
    · exact hk
  · rcases mem q hq with rfl | hq | rfl
    · intro z
      have : g.kind = ("sheet" : Str) := z
      rw [hd] at this
      exact absurd this (by decide +kernel)
    · exact h.sh q hq
    · exact fun _ => rfl
  · rcases mem q hq with rfl | hq | rfl
    · show ((g.es ++ [(x, m)]).map (·.1)).Nodup
      rw [List.map_append, List.nodup_append]
      refine ⟨h.nd g hg, by simp, fun a ha b hb e => ?_⟩
      rw [List.map_singleton, List.mem_singleton] at hb
      rw [e, hb] at ha; exact hn ha
    · exact h.nd q hq
    · exact .nil
  · rcases mem q hq with rfl | hq | rfl
    · intro e he
      rcases List.mem_append.mp he with he | he
      · exact h.nm g hg e he
      · rw [List.mem_singleton.mp he]; exact ⟨hx, hz⟩
    · exact h.nm q hq
    · exact fun e he => by cases he
  · rcases mem q hq with rfl | hq | rfl
    · intro e he
      rcases List.mem_append.mp he with he | he
      · exact h.up g hg e he
      · rw [List.mem_singleton.mp he]; exact hlast g hg
    · exact h.up q hq
    · exact fun e he => by cases he
  · rw [List.flatMap_append, List.map_append, withE_id]
    have hne : gs.map (·.id) ≠ [] := by intro z; rw [List.map_eq_nil_iff] at z; rw [z] at hg; cases hg
    rw [List.tail_append_of_ne_nil hne]
    have e1 : ([(⟨m, k, [], p⟩ : Gn)].flatMap fun g => g.es.map (·.2)) = [] := rfl
    rw [e1, List.append_nil]
    exact (withE_flat nda hg).trans (h.pm.append_right _)
structure TI (S0 : Sto) (f E K : Addr) (gs : List Gn) (m : Nat) (S : Sto) : Prop where
  gE : S E = some (.dct (gs.map fun g => (D.int g.id, D.ref g.ad)))
  gK : S K = some (.dct (gs.map fun g => (D.int g.id, D.str g.kind)))
  inn : ∀ g ∈ gs, (g.ad ≠ E ∧ g.ad ≠ K ∧ g.ad ≠ f ∧ S0 g.ad = none) ∧ S g.ad = some (.dct (g.es.map eN))
  nda : (gs.map (·.ad)).Nodup
  ne : E ≠ K ∧ E ≠ f ∧ K ≠ f
  n0 : S0 E = none ∧ S0 K = none
  F : Feed S f m
  ks : Keeps f S0 S
section
variable {S0 S S' : Sto} {f E K p : Addr} {gs : List Gn} {m m' : Nat} {o : AO}
theorem TI.keep (T : TI S0 f E K gs m S) (F : Feed S' f m') (k : Keeps f S S') : TI S0 f E K gs m' S' :=
  ⟨k _ _ T.ne.2.1 T.gE, k _ _ T.ne.2.2 T.gK, fun g hg => ⟨(T.inn g hg).1, k _ _ (T.inn g hg).1.2.2.1 (T.inn g hg).2⟩, T.nda, T.ne, T.n0, F, T.ks.trans k⟩
theorem TI.new (T : TI S0 f E K gs m S) (h : S p = none) : TI S0 f E K gs m (put S p o) := T.keep (T.F.new h) (Keeps.new h)
theorem TI.free (T : TI S0 f E K gs m S) (h : S p = none) : S0 p = none := T.F.freeT T.ks h
theorem TI.entry (T : TI S0 f E K gs m S) {g : Gn} (hg : g ∈ gs) (es : List (Str × Int)) : TI S0 f E K (withE gs g.ad es) m (put S g.ad (.dct (es.map eN))) := by
  obtain ⟨⟨a, b, c, d⟩, e⟩ := T.inn g hg
  refine ⟨?_, ?_, fun q hq => ?_, by rw [withE_ad]; exact T.nda, T.ne, T.n0, T.F.put c, T.ks.then d⟩
  · rw [put_ne (Ne.symm a), T.gE]
    unfold withE; rw [List.map_map]
    congr 2
    refine List.map_congr_left fun q _ => ?_
    show _ = (D.int (if q.ad = g.ad then { q with es := es } else q).id, D.ref (if q.ad = g.ad then { q with es := es } else q).ad)
    split <;> rfl
  · rw [put_ne (Ne.symm b), T.gK]
    unfold withE; rw [List.map_map]
    congr 2
    refine List.map_congr_left fun q _ => ?_
    show _ = (D.int (if q.ad = g.ad then { q with es := es } else q).id, D.str (if q.ad = g.ad then { q with es := es } else q).kind)
    split <;> rfl
  · obtain ⟨q', hq', ⟨e1, rfl⟩ | ⟨e1, rfl⟩⟩ := withE_mem hq
    · exact ⟨(T.inn q' hq').1, by show put S g.ad _ q'.ad = _; rw [e1, put_same]⟩
    · exact ⟨(T.inn q hq').1, by rw [put_ne e1]; exact (T.inn q hq').2⟩
theorem TI.node (T : TI S0 f E K gs m S) {n : Int} {w : Str} {p : Addr} (hp : S p = some (.dct [])) (hE : p ≠ E) (hK : p ≠ K) (hf : p ≠ f) (h0 : S0 p = none) (hn : p ∉ gs.map (·.ad)) :
    TI S0 f E K (gs ++ [⟨n, w, [], p⟩]) m (put (put S E (.dct ((gs ++ [(⟨n, w, [], p⟩ : Gn)]).map fun g : Gn => (D.int g.id, D.ref g.ad)))) K (.dct ((gs ++ [(⟨n, w, [], p⟩ : Gn)]).map fun g : Gn => (D.int g.id, D.str g.kind)))) := by
  obtain ⟨n1, n2, n3⟩ := T.ne
  obtain ⟨z1, z2⟩ := T.n0
  refine ⟨by rw [put_ne n1, put_same], put_same, fun q hq => ?_, ?_, T.ne, T.n0, (T.F.put n2).put n3, (T.ks.then z1).then z2⟩
  · rcases List.mem_append.mp hq with hq | hq
    · obtain ⟨⟨a, b, c, d⟩, e⟩ := T.inn q hq
      exact ⟨⟨a, b, c, d⟩, by rw [put_ne b, put_ne a]; exact e⟩
    · rw [List.mem_singleton.mp hq]
      exact ⟨⟨hE, hK, hf, h0⟩, by show put _ _ _ p = _; rw [put_ne hK, put_ne hE]; exact hp⟩
  · rw [List.map_append, List.nodup_append]
    refine ⟨T.nda, by simp, fun a ha b hb e => ?_⟩
    rw [List.map_singleton, List.mem_singleton] at hb
    rw [e, hb] at ha; exact hn ha
end
theorem getE {gs : List Gn} (nd : (gs.map (·.id)).Nodup) {g : Gn} (h : g ∈ gs) : dGet (gs.map fun g => (D.int g.id, D.ref g.ad)) (.int g.id) = some (.ref g.ad) := by
  rw [dGet_int (f := fun g : Gn => g.id) (g := fun g : Gn => D.ref g.ad), find_of_mem nd h]; rfl
theorem getK {gs : List Gn} (nd : (gs.map (·.id)).Nodup) {g : Gn} (h : g ∈ gs) : dGet (gs.map fun g => (D.int g.id, D.str g.kind)) (.int g.id) = some (.str g.kind) := by
  rw [dGet_int (f := fun g : Gn => g.id) (g := fun g : Gn => D.str g.kind), find_of_mem nd h]; rfl
theorem fitN {kk : List (Str × Int)} {n : Str} : keyFit (kk.map eN) (.str n) = true := by cases kk <;> rfl
theorem fitWN {kk : List (Str × Int)} {n : Str} : keyFitW (kk.map eN) (.str n) = true := by unfold keyFitW; rw [fitN]; simp
theorem isN {kk : List (Str × Int)} {n : Str} : (dGet (kk.map eN) (.str n)).isSome = decide (n ∈ kk.map (·.1)) := by
  have e : dGet (kk.map eN) (.str n) = (kk.find? fun q => decide (q.1 = n)).map fun q => D.int q.2 := dGet_str
  rw [e, Option.isSome_map]
  by_cases h : n ∈ kk.map (·.1)
  · rw [decide_eq_true h]
    cases z : kk.find? fun q => decide (q.1 = n) with
    | none => exact absurd h (find_none.mp z)
    | some _ => rfl
  · rw [decide_eq_false h, find_none.mpr h]; rfl
theorem putN {kk : List (Str × Int)} {y : Str × Int} (h : y.1 ∉ kk.map (·.1)) : dPut (kk.map eN) (.str y.1) (.int y.2) = (kk ++ [y]).map eN := dPut_str_new (g := fun p : Str × Int => D.int p.2) h
theorem wSet_dct {S : Sto} {a : Addr} {kvs : List (D × D)} {i v : D} {k : Sto → Prop} (h : S a = some (.dct kvs)) (f : keyFitW kvs i = true) (hl : kvs.length < sizeLine) (q : k (put S a (.dct (dPut kvs i v)))) : wSet (.ref a) i v S k := by
  simp only [wSet, h]
  exact ⟨f, hl, q⟩
theorem dLe_int {S : Sto} {a b : Int} : dLe S (.int a) (.int b) = decide (a ≤ b) := by
  have h := PySem.W.dataLe_int (fun b : Int => b)
  have h2 := congrFun (congrFun h a) b
  rw [← h2]; rfl
theorem sorted_asc {S : Sto} {ns : List Int} (h : ns.Pairwise (· < ·)) : (ns.map D.int).mergeSort (dLe S) = ns.map D.int := by
  refine List.mergeSort_of_pairwise ?_
  rw [List.pairwise_map]
  exact h.imp fun h => by rw [dLe_int]; exact decide_eq_true (Int.le_of_lt h)
theorem wSortedD_asc {S : Sto} {E : Addr} {gs : List Gn} {g : Gn → D} {Q : KD} (e : S E = some (.dct (gs.map fun q => (D.int q.id, g q)))) (asc : (gs.map (·.id)).Pairwise (· < ·)) (k : ∀ p, S p = none → Q (.ref p) (put S p (.lst ((gs.map (·.id)).map D.int)))) : wSortedD [.ref E] S Q := by
  have ed : dctOf S (.ref E) = some (E, gs.map fun q => (D.int q.id, g q)) := by simp [dctOf, e]
  have em : (gs.map fun q => (D.int q.id, g q)).map (·.1) = (gs.map (·.id)).map D.int := by rw [List.map_map, List.map_map]; rfl
  unfold wSortedD
  simp only [ed]
  rw [em, sorted_asc asc]
  exact ⟨SortOk.ints _, k⟩
theorem onS_mem {k : D → Prop} {xs : List D} {r : Int} (h0 : 0 ≤ r) (h1 : r < xs.length) (q : ∀ x ∈ xs, k x) : onS (atI xs r) k := by
  rw [atI_int h0 h1]; exact q _ (List.getElem_mem _)
theorem wAt_mem {S : Sto} {Q : KD} {G : Addr} {xs : List D} {r : Int} (h : S G = some (.lst xs)) (h0 : 0 ≤ r) (h1 : r < xs.length) (q : ∀ x ∈ xs, Q x S) : wAt (.ref G) (.int r) S Q := by
  rw [wAt_lst h]; exact onS_mem h0 h1 q
theorem pk_of {n : Int} {τ : DSt} {S : Sto} {f : Addr} {m : Nat} {Q : KD} (h0 : τ[0]? = some (some (.ref f))) (F : Feed S f m) (hm : m < 1000000000) (n0 : 0 < n) (n1 : n < 1000000) (k : ∀ r S', 0 ≤ r → r < n → Feed S' f (m + 1) → Keeps f S S' → Q (.int r) S') :
    dCall sp__law_pick [] (dCons (dV 0) (dCons (dC (.int n)) dNil)) τ S Q := by
  simp only [dCall_eq, dCons_eq, dC_eq, dNil_eq, List.append_nil]
  refine dV_at h0 ?_
  exact ⟨f, n, m, rfl, n0, by omega, hm, F, k⟩
def rdPick (i : Nat) : DTE := dBin wAt (dV i) (dCall sp__law_pick [] (dCons (dV 0) (dCons (dCB wLen (dCons (dV i) dNil)) dNil)))
theorem rdPick_of {i : Nat} {τ : DSt} {S : Sto} {f L : Addr} {m : Nat} {xs : List D} {Q : KD} (h0 : τ[0]? = some (some (.ref f))) (hi : τ[i]? = some (some (.ref L))) (F : Feed S f m) (hm : m < 1000000000) (g : S L = some (.lst xs)) (h : xs ≠ []) (hl : xs.length < 1000000)
    (k : ∀ x ∈ xs, ∀ S', Feed S' f (m + 1) → Keeps f S S' → Q x S') : rdPick i τ S Q := by
  have hp := List.length_pos_iff.mpr h
  unfold rdPick
  simp only [dBin_eq, dCall_eq, dCons_eq, dNil_eq, dCB_eq, List.append_nil]
  refine dV_at hi ?_
  refine dV_at h0 ?_
  refine dV_at hi ?_
  rw [wLen_lst g]
  exact ⟨f, _, m, rfl, by omega, by omega, hm, F, fun r S1 r0 r1 F1 K1 => wAt_mem (K1 _ _ (F.ne_lst g) g) r0 (by omega) fun x hx => k x hx S1 F1 K1⟩
theorem fixed_of {ta : DTA} {n : Int} {τ : DSt} {S : Sto} {f : Addr} {m : Nat} {xs : List D} {Q : KD} (hta : ∀ (τ : DSt) (S : Sto) (Q : List D → Sto → Prop), Q xs S → ta τ S Q) (h0 : τ[0]? = some (some (.ref f))) (F : Feed S f m) (hm : m < 1000000000) (hl : (xs.length : Int) = n) (hp : 0 < n) (hs : n ≤ 1000)
    (k : ∀ x ∈ xs, ∀ S', Feed S' f (m + 1) → Keeps f S S' → Q x S') : dBin wAt (dLst ta) (dCall sp__law_pick [] (dCons (dV 0) (dCons (dC (.int n)) dNil))) τ S Q := by
  have sz : 1001 < sizeLine := by rw [sizeLine_eq]; decide
  simp only [dBin_eq, dLst_eq]
  refine hta _ _ _ ⟨by omega, fun p hp2 => ?_⟩
  refine pk_of h0 (F.new hp2) hm hp (by omega) fun r S1 r0 r1 F1 K1 => ?_
  exact wAt_mem (K1 _ _ (F.nt hp2) put_same) r0 (by omega) fun x hx => k x hx S1 F1 ((Keeps.new hp2).trans K1)
def tn0 : DTS := dAsg (dBin wAdd (dBin wAdd (dV 8) (dC (.int 1))) (dCB wIntT (dCons (dBin wEq (dCall sp__law_pick [] (dCons (dV 0) (dCons (dC (.int 4)) dNil))) (dC (.int 0))) dNil))) (gdName 8)
def tn1 : DTS := dAsg (dV 8) (gdSub (dV 9) (dV 10) wSet)
def tn2 : DTS := dAsg (dTup (dCons dNewD (dCons (dBin wAt (dLst (dCons (dC (.str "drawer")) (dCons (dC (.str "sheet")) (dCons (dC (.str "drawer")) dNil)))) (dCall sp__law_pick [] (dCons (dV 0) (dCons (dC (.int 3)) dNil)))) dNil))) (gdTup 2 (gdCons (gdSub (dV 6) (dV 8) wSet) (gdCons (gdSub (dV 7) (dV 8) wSet) gdNil)))
def tbI : DTS := dIfS (dTst (dBin (wIn true) (dV 10) (dV 9))) (dSeq tn0 (dSeq tn1 tn2)) dNext
def tb0 : DTS := dAsg (dLC (diVal (dCB wSortedD (dCons (dV 6) dNil)) wIterA) (gdName 11) (dTst (dBin wEq (dBin wAt (dV 7) (dV 11)) (dC (.str "drawer")))) [11] [11] [] (dV 11)) (gdName 4)
def tb1 : DTS := dAsg (dBin wAt (dV 6) (dBin wAt (dV 4) (dCall sp__law_pick [] (dCons (dV 0) (dCons (dCB wLen (dCons (dV 4) dNil)) dNil))))) (gdName 9)
def tb2 : DTS := dAsg (dBin wAt (dLst (dCons (dC (.str "a")) (dCons (dC (.str "ab")) (dCons (dC (.str "b")) (dCons (dC (.str "c")) (dCons (dC (.str "x")) dNil)))))) (dCall sp__law_pick [] (dCons (dV 0) (dCons (dC (.int 5)) dNil)))) (gdName 10)
def tr0 : DTS := dAsg (dTup (dCons (dDisp ((dC (.int 0), dNewD) :: [])) (dCons (dDisp ((dC (.int 0), dC (.str "drawer")) :: [])) (dCons (dC (.int 0)) dNil)))) (gdTup 3 (gdCons (gdName 6) (gdCons (gdName 7) (gdCons (gdName 8) gdNil))))
def tr1 : DTS := dFor (diRng1 (dCons (dCall sp__law_pick [] (dCons (dV 0) (dCons (dBin wAdd (dV 1) (dC (.int 1))) dNil))) dNil)) (gdName 2) (dSeq tb0 (dSeq tb1 (dSeq tb2 tbI)))
def tr2 : DTS := dAsg (dLC (diVal (dCB wSortedD (dCons (dV 6) dNil)) wIterA) (gdName 11) (dTst (dBin wEq (dBin wAt (dV 7) (dV 11)) (dC (.str "sheet")))) [11] [11] [] (dV 11)) (gdName 3)
def tr3 : DTS := dAsg (dLC (diVal (dCB wSortedD (dCons (dV 6) dNil)) wIterA) (gdName 11) (dTst (dBin wEq (dBin wAt (dV 7) (dV 11)) (dC (.str "drawer")))) [11] [11] [] (dV 11)) (gdName 4)
def tr4 : DTS := dIfS (dAnd (dTst (dBin wNe (dV 3) (dLst dNil))) (dTst (dBin wEq (dCall sp__law_pick [] (dCons (dV 0) (dCons (dC (.int 2)) dNil))) (dC (.int 0))))) (dSeq (dAsg (dBin wAt (dV 6) (dBin wAt (dV 4) (dCall sp__law_pick [] (dCons (dV 0) (dCons (dCB wLen (dCons (dV 4) dNil)) dNil))))) (gdName 9)) (dAsg (dBin wAt (dV 3) (dCall sp__law_pick [] (dCons (dV 0) (dCons (dCB wLen (dCons (dV 3) dNil)) dNil)))) (gdSub (dV 9) (dC (.str "z")) wSet))) dNext
def tr5 : DTS := dAsg (dLC (diVal (dCB wSortedD (dCons (dV 6) dNil)) wIterA) (gdName 11) dYes [11] [11] [] (dTup (dCons (dV 11) (dCons (dBin wAt (dV 7) (dV 11)) (dCons (dCB wTuple (dCons (dSortedItems (dBin wAt (dV 6) (dV 11))) dNil)) dNil))))) (gdName 5)
def tr6 : DTS := dRet (dTup (dCons (dCB wTuple (dCons (dV 5) dNil)) (dCons (dBin wAdd (dBin wAdd (dV 8) (dC (.int 1))) (dCall sp__law_pick [] (dCons (dV 0) (dCons (dC (.int 2)) dNil)))) dNil)))
def r__law_tree : DTS := dSeq tr0 (dSeq tr1 (dSeq tr2 (dSeq tr3 (dSeq tr4 (dSeq tr5 tr6)))))
abbrev N__law_tree : List Str := ["_law_source_here", "_law_top", "_law_k", "_law_sheets", "_law_drawers", "_law_found", "_law_rows", "_law_kinds", "_law_last", "_law_own", "_law_name", "_law_node"]
end KB
namespace KB
open PySem PySem.Spec PyProof.Rows L2 DL
def treeD (rows : List Nd) (made : Int) : D := .tup [.tup (rows.map rowD), .int made]
def sp__law_tree : DSp := fun ds S Q E => ∃ f top m, ds = [.ref f, .int top] ∧ 0 ≤ top ∧ top ≤ 13 ∧ m < 900000000 ∧ Feed S f m ∧ ∀ rows made S', TreeG rows made → Feed S' f (m + 100) → Keeps f S S' → Q (treeD rows made) S'
def kin (w : Str) (gs : List Gn) : List Int := (gs.filter fun g => decide (g.kind = w)).map (·.id)
theorem kin_len (w : Str) (gs : List Gn) : (kin w gs).length ≤ gs.length := by
  unfold kin; rw [List.length_map]; exact List.length_filter_le _ _
theorem kin_mem {w : Str} {gs : List Gn} {n : Int} (h : n ∈ kin w gs) : ∃ g ∈ gs, g.id = n ∧ g.kind = w := by
  obtain ⟨g, hg, rfl⟩ := List.mem_map.mp h
  obtain ⟨h1, h2⟩ := List.mem_filter.mp hg
  exact ⟨g, h1, rfl, of_decide_eq_true h2⟩
theorem kin_flat (w : Str) (gs : List Gn) : (gs.flatMap fun g => if g.kind = w then [D.int g.id] else []) = (kin w gs).map D.int := by
  unfold kin
  induction gs with
  | nil => rfl
  | cons p r ih =>
    rw [List.flatMap_cons, ih, List.filter_cons]
    by_cases h : p.kind = w
    · rw [if_pos h, if_pos (decide_eq_true h)]; rfl
    · rw [if_neg h, if_neg (by simpa using h)]; rfl
section
variable {S0 S : Sto} {f E K : Addr} {gs : List Gn} {m : Nat} {last : Int} {Dn : DEnds} {Q : KD} {x1 x2 x3 x4 x5 x6 x7 x8 x9 x10 x11 : Option D}
theorem tr0_of (F : Feed S f m) (k : ∀ E K a S', TI S f E K [⟨0, "drawer", [], a⟩] m S' → Dn.nx [some (.ref f), x1, x2, x3, x4, x5, some (.ref E), some (.ref K), some (.int 0), x9, x10, x11] S') : tr0 Dn [some (.ref f), x1, x2, x3, x4, x5, x6, x7, x8, x9, x10, x11] S := by
  have sz : 1001 < sizeLine := by rw [sizeLine_eq]; decide
  unfold tr0
  simp only [dAsg_eq, dTup_eq, dCons_eq, dDisp_eq, dPairs_cons, dPairs_nil, dC_eq, dNil_eq]
  intro E hE
  show ∀ a, _ → _
  intro a ha
  have aE : a ≠ E := fun z => by rw [z, put_same] at ha; cases ha
  refine ⟨by rw [put_ne (Ne.symm aE), put_same], ⟨rfl, by simp⟩, fun K hK => ?_⟩
  have e1 : kvMerge [] [(D.int 0, D.ref a)] = [(⟨0, "drawer", [], a⟩ : Gn)].map fun g : Gn => (D.int g.id, D.ref g.ad) := by simp [kvMerge, dPut]
  rw [e1] at hK ⊢
  refine ⟨put_same, ⟨rfl, by simp⟩, by show 3 ≤ sizeLine; omega, ?_⟩
  have e2 : kvMerge [] [(D.int 0, D.str "drawer")] = [(⟨0, "drawer", [], a⟩ : Gn)].map fun g : Gn => (D.int g.id, D.str g.kind) := by simp [kvMerge, dPut]
  rw [e2]
  refine ⟨rfl, rfl, ?_⟩
  have KE : K ≠ E := fun z => by rw [z, put_same] at hK; cases hK
  have Ka : K ≠ a := fun z => by rw [z, put_ne aE, put_same] at hK; cases hK
  have ha0 : S a = none := by rw [put_ne aE] at ha; exact ha
  have hK0 : S K = none := by rw [put_ne KE, put_ne Ka, put_ne KE] at hK; exact hK
  have fE := F.nt hE
  have fa := F.nt ha0
  have fK := F.nt hK0
  refine k E K a _ ⟨?_, put_same, fun g hg => ?_, by simp, ⟨Ne.symm KE, fE, fK⟩, ⟨hE, hK0⟩, ((((F.put fE).put fa).put fE).put fK).put fK, (((((Keeps.refl).then hE).then ha0).then hE).then hK0).then hK0⟩
  · rw [put_ne (Ne.symm KE), put_ne (Ne.symm KE), put_same]
  · rw [List.mem_singleton.mp hg]
    refine ⟨⟨aE, Ne.symm Ka, fa, ha0⟩, ?_⟩
    show put _ _ _ a = _
    rw [put_ne (Ne.symm Ka), put_ne (Ne.symm Ka), put_ne aE, put_same]; rfl
def rdKin (w : Str) : DTE := dLC (diVal (dCB wSortedD (dCons (dV 6) dNil)) wIterA) (gdName 11) (dTst (dBin wEq (dBin wAt (dV 7) (dV 11)) (dC (.str w)))) [11] [11] [] (dV 11)
theorem kin_of {w : Str} (T : TI S0 f E K gs m S) (asc : (gs.map (·.id)).Pairwise (· < ·)) (hl : gs.length ≤ 1000) (k : ∀ L S', TI S0 f E K gs m S' → S' L = some (.lst ((kin w gs).map D.int)) → (∀ a ds, S a = some (.lst ds) → S' a = some (.lst ds)) → Q (.ref L) S') : rdKin w [some (.ref f), x1, x2, x3, x4, x5, some (.ref E), some (.ref K), some (.int last), x9, x10, x11] S Q := by
  have sz : 1001 < sizeLine := by rw [sizeLine_eq]; decide
  have nd : (gs.map (·.id)).Nodup := asc.imp fun h e => by omega
  unfold rdKin
  simp only [dLC_eq, diVal_eq, dCB_eq, dCons_eq, dNil_eq]
  refine dV_at (by rfl) ?_
  refine wSortedD_asc (g := fun g => D.ref g.ad) T.gE asc fun p hp => ?_
  have T1 := T.new (o := .lst ((gs.map (·.id)).map D.int)) hp
  have e1 : put S p (.lst ((gs.map (·.id)).map D.int)) p = some (.lst ((gs.map (·.id)).map D.int)) := put_same
  have st1 : ∀ a ds, S a = some (.lst ds) → put S p (.lst ((gs.map (·.id)).map D.int)) a = some (.lst ds) := fun a ds h => by rw [put_ne (ne_of_free hp h)]; exact h
  generalize put S p (.lst ((gs.map (·.id)).map D.int)) = S1 at *
  rw [wIter_lst e1]
  intro L hL
  have pL : p ≠ L := ne_of_free hL e1
  have em : (gs.map (·.id)).map D.int = gs.map fun g : Gn => D.int g.id := by rw [List.map_map]; rfl
  rw [em] at e1 ⊢
  refine lc_map (fun g : Gn => D.int g.id) (fun g => if g.kind = w then [D.int g.id] else []) gs (fun o => by rw [put_ne pL]; exact e1) ?_ (fun g hg acc k2 hacc hk => ?_) ?_
  · have := flatMap_le (fun g : Gn => if g.kind = w then [D.int g.id] else []) 1 gs fun x _ => by split <;> simp
    omega
  · refine ⟨rfl, ?_⟩
    simp only [dTst_eq, dBin_eq, dC_eq]
    refine dV_at (by rfl) ?_
    refine dV_at (by rfl) ?_
    have T2 := T1.new (o := .lst acc) hL
    rw [wAt_dct T2.gK (keyFit_int (f := fun g : Gn => g.id) (g := fun g : Gn => D.str g.kind)) (getK nd hg), wEq_str, isB_bl]
    by_cases h : g.kind = w
    · rw [decide_eq_true h, if_pos rfl, emLst_eq]
      rw [if_pos h] at hacc hk
      refine dV_at (by rfl) ?_
      rw [onL_put, put_put']
      simp only [List.length_singleton] at hacc
      exact ⟨by omega, hk⟩
    · rw [decide_eq_false h, if_neg (by decide)]
      rw [if_neg h, List.append_nil] at hk
      exact hk
  · rw [kin_flat]
    exact k L _ (T1.new hL) put_same fun a ds h => by rw [put_ne (ne_of_free hL (st1 a ds h))]; exact st1 a ds h
theorem tb0_eq : tb0 = dAsg (rdKin "drawer") (gdName 4) := rfl
theorem tr2_eq : tr2 = dAsg (rdKin "sheet") (gdName 3) := rfl
theorem tr3_eq : tr3 = dAsg (rdKin "drawer") (gdName 4) := rfl
theorem tb1_eq : tb1 = dAsg (dBin wAt (dV 6) (rdPick 4)) (gdName 9) := rfl
theorem kin_top {gs : List Gn} {last : Int} (W : GW gs last) : kin "drawer" gs ≠ [] := by
  obtain ⟨es, a, r, rfl⟩ := W.top
  intro z
  have : (0 : Int) ∈ kin "drawer" (⟨0, "drawer", es, a⟩ :: r) := List.mem_map.mpr ⟨_, List.mem_filter.mpr ⟨List.mem_cons_self .., by simp⟩, rfl⟩
  rw [z] at this; cases this
theorem own_of {L : Addr} {w : Str} (T : TI S0 f E K gs m S) (nd : (gs.map (·.id)).Nodup) (hm : m < 999999000) (hl : gs.length ≤ 1000) (eL : S L = some (.lst ((kin w gs).map D.int))) (hne : kin w gs ≠ [])
    (k : ∀ g S', g ∈ gs → g.kind = w → TI S0 f E K gs (m + 1) S' → (∀ a ds, S a = some (.lst ds) → S' a = some (.lst ds)) → Q (.ref g.ad) S') : dBin wAt (dV 6) (rdPick 4) [some (.ref f), x1, x2, x3, some (.ref L), x5, some (.ref E), some (.ref K), some (.int last), x9, x10, x11] S Q := by
  rw [dBin_eq]
  refine dV_at (by rfl) ?_
  have lk := kin_len w gs
  refine rdPick_of (L := L) (by rfl) (by rfl) T.F (by omega) eL (by simpa using hne) (by rw [List.length_map]; omega) fun x hx S1 F1 K1 => ?_
  obtain ⟨n, hn, rfl⟩ := List.mem_map.mp hx
  obtain ⟨g, hg, rfl, hk⟩ := kin_mem hn
  have T1 := T.keep F1 K1
  rw [wAt_dct T1.gE (keyFit_int (f := fun g : Gn => g.id) (g := fun g : Gn => D.ref g.ad)) (getE nd hg)]
  exact k g S1 hg hk T1 fun a ds h => K1 _ _ (T.F.ne_lst h) h
theorem tbI_of {g : Gn} {x : Str} (T : TI S0 f E K gs m S) (W : GW gs last) (hm : m < 999999000) (hl : gs.length ≤ 1000) (hg : g ∈ gs) (hd : g.kind = ("drawer" : Str)) (hx : x ∈ NM) (hz : x ≠ ("z" : Str))
    (k : ∀ gs' last' S', TI S0 f E K gs' (m + 2) S' → GW gs' last' → last' ≤ last + 2 → gs'.length ≤ gs.length + 1 → Dn.nx [some (.ref f), x1, x2, x3, x4, x5, some (.ref E), some (.ref K), some (.int last'), some (.ref g.ad), some (.str x), x11] S') : tbI Dn [some (.ref f), x1, x2, x3, x4, x5, some (.ref E), some (.ref K), some (.int last), some (.ref g.ad), some (.str x), x11] S := by
  have sz : 1001 < sizeLine := by rw [sizeLine_eq]; decide
  have eg := (T.inn g hg).2
  have lg : g.es.length ≤ 1000 := by
    have h1 : (gs.flatMap fun g => g.es.map (·.2)).length ≤ gs.length := by rw [W.pm.length_eq, List.length_tail, List.length_map]; omega
    have h2 : ∀ l : List Gn, g ∈ l → g.es.length ≤ (l.flatMap fun g => g.es.map (·.2)).length := fun l => by
      induction l with
      | nil => intro z; cases z
      | cons y r ih =>
        intro z
        rw [List.flatMap_cons, List.length_append]
        rcases List.mem_cons.mp z with rfl | z
        · rw [List.length_map]; omega
        · have := ih z; omega
    have := h2 gs hg
    omega
  unfold tbI
  simp only [dIfS_eq, dTst_eq, dBin_eq, dNext_eq]
  refine dV_at (by rfl) ?_
  refine dV_at (by rfl) ?_
  rw [wIn_dct eg fitN, isN, isB_bl]
  by_cases hn : x ∈ g.es.map (·.1)
  · rw [decide_eq_true hn, if_neg (by decide)]
    exact k gs last S (T.keep (T.F.up (by omega)) .refl) W (by omega) (by omega)
  rw [decide_eq_false hn, if_pos (by rfl)]
  unfold tn0
  simp only [dSeq_eq, dAsg_eq, dBin_eq, dCB_eq, dCons_eq, dNil_eq, dC_eq, gdName_eq]
  refine dV_at (by rfl) ?_
  rw [wAdd_int]
  refine pk_of (by rfl) T.F (by omega) (by decide) (by decide) fun r S1 r0 r1 F1 K1 => ?_
  rw [wEq_int, wIntT_bl, wAdd_int]
  obtain ⟨mm, hmm⟩ : ∃ mm : Int, last + 1 + (if decide (r = 0) = true then 1 else 0) = mm := ⟨_, rfl⟩
  have hm1 : last < mm ∧ mm ≤ last + 2 := by rw [← hmm]; split <;> omega
  rw [hmm]
  have T1 := T.keep F1 K1
  show tn1 _ [some (.ref f), x1, x2, x3, x4, x5, some (.ref E), some (.ref K), some (.int mm), some (.ref g.ad), some (.str x), x11] S1
  unfold tn1
  simp only [dAsg_eq, gdSub_eq]
  refine dV_at (by rfl) ?_
  refine dV_at (by rfl) ?_
  refine dV_at (by rfl) ?_
  refine wSet_dct (T1.inn g hg).2 fitWN (by rw [List.length_map]; omega) ?_
  rw [putN (y := (x, mm)) hn]
  have T2 := T1.entry hg (g.es ++ [(x, mm)])
  generalize put S1 g.ad (.dct ((g.es ++ [(x, mm)]).map eN)) = S2 at T2 ⊢
  show tn2 _ [some (.ref f), x1, x2, x3, x4, x5, some (.ref E), some (.ref K), some (.int mm), some (.ref g.ad), some (.str x), x11] S2
  unfold tn2
  simp only [dAsg_eq, dTup_eq, dCons_eq, dNil_eq]
  show ∀ p, _ → _
  intro p hp
  have T3 := T2.new (o := .dct []) hp
  have ep : put S2 p (.dct []) p = some (.dct []) := put_same
  have pf := T2.F.nt hp
  have p0 := T2.free hp
  have pE : p ≠ E := fun z => by rw [z, T2.gE] at hp; cases hp
  have pK : p ≠ K := fun z => by rw [z, T2.gK] at hp; cases hp
  have pa : p ∉ (withE gs g.ad (g.es ++ [(x, mm)])).map (·.ad) := fun z => by
    obtain ⟨q, hq, e⟩ := List.mem_map.mp z
    have := (T2.inn q hq).2
    rw [e, hp] at this; cases this
  generalize put S2 p (.dct []) = S3 at *
  refine fixed_of (m := m + 1) (xs := [.str "drawer", .str "sheet", .str "drawer"]) (fun _ _ _ q => q) (by rfl) T3.F (by omega) (by rfl) (by decide) (by decide) fun y hy S4 F4 K4 => ?_
  obtain ⟨kd, rfl, hkd⟩ : ∃ kd : Str, y = .str kd ∧ isK kd := by
    simp only [List.mem_cons, List.not_mem_nil, or_false] at hy
    rcases hy with rfl | rfl | rfl
    · exact ⟨_, rfl, .inl rfl⟩
    · exact ⟨_, rfl, .inr rfl⟩
    · exact ⟨_, rfl, .inl rfl⟩
  have T4 := T3.keep F4 K4
  have ep4 := K4 _ _ pf ep
  have nid : mm ∉ (withE gs g.ad (g.es ++ [(x, mm)])).map (·.id) := by
    rw [withE_id]
    intro z
    obtain ⟨q, hq, e⟩ := List.mem_map.mp z
    have := (W.le q hq).2
    omega
  have lw : (withE gs g.ad (g.es ++ [(x, mm)])).length = gs.length := by have := congrArg List.length (withE_id (gs := gs) (a := g.ad) (es := g.es ++ [(x, mm)])); simpa using this
  refine ⟨by show 2 ≤ sizeLine; omega, rfl, ?_⟩
  simp only [gdCons_eq, gdSub_eq]
  refine dV_at (by rfl) ?_
  refine dV_at (by rfl) ?_
  refine wSet_dct T4.gE (keyFitW_int (f := fun g : Gn => g.id) (g := fun g : Gn => D.ref g.ad)) (by rw [List.length_map]; omega) ?_
  have e1 := dPut_int_new (f := fun g : Gn => g.id) (g := fun g : Gn => D.ref g.ad) (xs := withE gs g.ad (g.es ++ [(x, mm)])) (y := ⟨mm, kd, [], p⟩) nid
  have e2 := dPut_int_new (f := fun g : Gn => g.id) (g := fun g : Gn => D.str g.kind) (xs := withE gs g.ad (g.es ++ [(x, mm)])) (y := ⟨mm, kd, [], p⟩) nid
  simp only at e1 e2
  rw [e1]
  refine dV_at (by rfl) ?_
  refine dV_at (by rfl) ?_
  refine wSet_dct (by rw [put_ne (Ne.symm T4.ne.1)]; exact T4.gK) (keyFitW_int (f := fun g : Gn => g.id) (g := fun g : Gn => D.str g.kind)) (by rw [List.length_map]; omega) ?_
  rw [e2]
  refine ⟨rfl, ?_⟩
  exact k _ mm _ (T4.node ep4 pE pK pf p0 pa) (W.add T.nda hg hd hx hz hn hm1.1 hkd) hm1.2 (by rw [List.length_append, lw]; exact Nat.le_refl _)
theorem tr1_of {top : Int} (T : TI S0 f E K gs m S) (W : GW gs 0) (t0 : 0 ≤ top) (t1 : top ≤ 13) (hm : m < 900001000) (hl : gs.length ≤ 1)
    (k : ∀ gs' last' m' y2 y4 y9 y10 S', TI S0 f E K gs' m' S' → m' ≤ m + 80 → GW gs' last' → last' ≤ 30 → gs'.length ≤ 14 → Dn.nx [some (.ref f), some (.int top), y2, x3, y4, x5, some (.ref E), some (.ref K), some (.int last'), y9, y10, x11] S') : tr1 Dn [some (.ref f), some (.int top), x2, x3, x4, x5, some (.ref E), some (.ref K), some (.int 0), x9, x10, x11] S := by
  unfold tr1
  generalize hB : dSeq tb0 (dSeq tb1 (dSeq tb2 tbI)) = B
  simp only [dFor_eq, diRng1_eq, dCons_eq, dNil_eq, dCall_eq, dBin_eq, dC_eq, List.append_nil]
  refine dV_at (by rfl) ?_
  refine dV_at (by rfl) ?_
  rw [wAdd_int]
  refine ⟨f, _, m, rfl, by omega, by omega, by omega, T.F, fun r S1 r0 r1 F1 K1 => ?_⟩
  show r < 2 ^ 62 ∧ -(2 ^ 62) ≤ r ∧ _
  refine ⟨by omega, by omega, ?_⟩
  rw [rngD_map]
  refine loop_map (fun i : Nat => D.int (i : Int)) (fun done τ S' => ∃ gs' last' y2 y4 y9 y10, TI S0 f E K gs' (m + 1 + 4 * done.length) S' ∧ GW gs' last' ∧ last' ≤ 2 * done.length ∧ gs'.length ≤ 1 + done.length ∧ τ = [some (.ref f), some (.int top), y2, x3, y4, x5, some (.ref E), some (.ref K), some (.int last'), y9, y10, x11])
    (fun _ _ _ _ => trivial) (fun τ S' h => ?_) (fun done i rest τ S' es h N hN => ?_) ⟨gs, 0, _, _, _, _, T.keep F1 K1, W, (by decide), hl, rfl⟩
  · obtain ⟨gs', last', y2, y4, y9, y10, T', W', l1, l2, rfl⟩ := h
    rw [List.length_range] at T' l1 l2
    exact k _ _ _ _ _ _ _ _ T' (by omega) W' (by omega) (by omega)
  · obtain ⟨gs', last', y2, y4, y9, y10, T', W', l1, l2, rfl⟩ := h
    have ld : done.length < 13 := by
      have := congrArg List.length es
      rw [List.length_range, List.length_append, List.length_cons] at this
      omega
    show B _ [some (.ref f), some (.int top), some (.int i), x3, y4, x5, some (.ref E), some (.ref K), some (.int last'), y9, y10, x11] S'
    rw [← hB]
    simp only [dSeq_eq]
    rw [tb0_eq, dAsg_eq]
    refine kin_of T' W'.asc (by omega) fun L S2 T2 eL _ => ?_
    show tb1 _ [some (.ref f), some (.int top), some (.int i), x3, some (.ref L), x5, some (.ref E), some (.ref K), some (.int last'), y9, y10, x11] S2
    rw [tb1_eq, dAsg_eq]
    refine own_of (L := L) T2 W'.nodup (by omega) (by omega) eL (kin_top W') fun g S3 hg hd T3 _ => ?_
    show tb2 _ [some (.ref f), some (.int top), some (.int i), x3, some (.ref L), x5, some (.ref E), some (.ref K), some (.int last'), some (.ref g.ad), y10, x11] S3
    unfold tb2
    rw [dAsg_eq]
    refine fixed_of (m := m + 1 + 4 * done.length + 1) (xs := [.str "a", .str "ab", .str "b", .str "c", .str "x"]) (fun _ _ _ q => q) (by rfl) T3.F (by omega) (by rfl) (by decide) (by decide) fun y hy S4 F4 K4 => ?_
    obtain ⟨x, rfl, hx, hz⟩ : ∃ x : Str, y = .str x ∧ x ∈ NM ∧ x ≠ ("z" : Str) := by
      simp only [List.mem_cons, List.not_mem_nil, or_false] at hy
      rcases hy with rfl | rfl | rfl | rfl | rfl
      all_goals exact ⟨_, rfl, by simp [NM], by decide +kernel⟩
    show tbI _ [some (.ref f), some (.int top), some (.int i), x3, some (.ref L), x5, some (.ref E), some (.ref K), some (.int last'), some (.ref g.ad), some (.str x), x11] S4
    refine tbI_of (T3.keep F4 K4) W' (by omega) (by omega) hg hd hx hz fun gs2 last2 S5 T5 W5 h5 l5 => hN _ _ ⟨gs2, last2, _, _, _, _, ?_, W5, by rw [List.length_append]; show last2 ≤ 2 * ((done.length + 1 : Nat) : Int); omega, by rw [List.length_append]; show _ ≤ 1 + (_ + 1); omega, rfl⟩
    rw [List.length_append, show m + 1 + 4 * (done.length + [i].length) = m + 1 + 4 * done.length + 1 + 1 + 2 from rfl]
    exact T5
end
end KB
namespace KB
open PySem PySem.Spec PyProof.Rows L2 DL
structure GF (gs : List Gn) (last : Int) : Prop where
  asc : (gs.map (·.id)).Pairwise (· < ·)
  top : ∃ es a r, gs = ⟨0, "drawer", es, a⟩ :: r
  le : ∀ g ∈ gs, 0 ≤ g.id ∧ g.id ≤ last
  kd : ∀ g ∈ gs, isK g.kind
  sh : ∀ g ∈ gs, g.kind = ("sheet" : Str) → g.es = []
  nd : ∀ g ∈ gs, (g.es.map (·.1)).Nodup
  nm : ∀ g ∈ gs, ∀ e ∈ g.es, e.1 ∈ NM
  tg : ∀ g ∈ gs, ∀ e ∈ g.es, e.2 ∈ gs.map (·.id) ∧ 0 < e.2
  one : ∃ ex : List Int, (gs.flatMap fun g => g.es.map (·.2)).Perm ((gs.map (·.id)).tail ++ ex) ∧ ∀ s ∈ ex, ∃ q ∈ gs, q.id = s ∧ q.kind = ("sheet" : Str)
  up : ∀ g ∈ gs, ∀ e ∈ g.es, g.id < e.2 ∨ ∃ q ∈ gs, q.id = e.2 ∧ q.kind = ("sheet" : Str)
theorem GW.tg {gs : List Gn} {last : Int} (h : GW gs last) {g : Gn} (hg : g ∈ gs) {e : Str × Int} (he : e ∈ g.es) : e.2 ∈ gs.map (·.id) ∧ 0 < e.2 := by
  have h1 : e.2 ∈ gs.flatMap fun g => g.es.map (·.2) := List.mem_flatMap.mpr ⟨g, hg, List.mem_map_of_mem (f := (·.2)) he⟩
  have := h.up g hg e he
  have := (h.le g hg).1
  exact ⟨List.mem_of_mem_tail (h.pm.mem_iff.mp h1), by omega⟩
theorem GW.fin {gs : List Gn} {last : Int} (h : GW gs last) : GF gs last :=
  ⟨h.asc, h.top, h.le, h.kd, h.sh, h.nd, fun g hg e he => (h.nm g hg e he).1, fun g hg e he => h.tg hg he, ⟨[], by rw [List.append_nil]; exact h.pm, by simp⟩, fun g hg e he => .inl (h.up g hg e he)⟩
theorem withE_there {gs : List Gn} {a : Addr} {es : List (Str × Int)} {q : Gn} (h : q ∈ gs) : ∃ q' ∈ withE gs a es, q'.id = q.id ∧ q'.kind = q.kind := by
  refine ⟨_, List.mem_map_of_mem h, ?_⟩
  split <;> exact ⟨rfl, rfl⟩
theorem GW.finz {gs : List Gn} {last : Int} (h : GW gs last) (nda : (gs.map (·.ad)).Nodup) {g : Gn} (hg : g ∈ gs) (hd : g.kind = ("drawer" : Str)) {s : Int} (hs : s ∈ kin "sheet" gs) : GF (withE gs g.ad (g.es ++ [(Str.ofString "z", s)])) last := by
  obtain ⟨q0, hq0, rfl, ks⟩ := kin_mem hs
  have same : ∀ q ∈ gs, q.ad = g.ad → q = g := fun q hq e => by
    have a1 := find_of_mem nda hq
    have a2 := find_of_mem nda hg
    rw [e, a2] at a1
    exact (Option.some.inj a1).symm
  have mem : ∀ q ∈ withE gs g.ad (g.es ++ [(Str.ofString "z", q0.id)]), (q = { g with es := g.es ++ [(Str.ofString "z", q0.id)] }) ∨ (q ∈ gs) := fun q hq => by
    obtain ⟨q', hq', ⟨e, rfl⟩ | ⟨_, rfl⟩⟩ := withE_mem hq
    · rw [same q' hq' e]; exact .inl rfl
    · exact .inr hq'
  have she : ∃ q ∈ withE gs g.ad (g.es ++ [(Str.ofString "z", q0.id)]), q.id = q0.id ∧ q.kind = ("sheet" : Str) := by
    obtain ⟨q', h1, h2, h3⟩ := withE_there (a := g.ad) (es := g.es ++ [(Str.ofString "z", q0.id)]) hq0
    exact ⟨q', h1, h2, h3.trans ks⟩
  have pos : 0 < q0.id := by
    obtain ⟨es, a, r, e⟩ := h.top
    have h1 := (h.le q0 hq0).1
    by_cases hz : q0.id = 0
    · exfalso
      have hm : (⟨0, "drawer", es, a⟩ : Gn) ∈ gs := by rw [e]; exact List.mem_cons_self ..
      have a1 := find_of_mem h.nodup hq0
      have a2 := find_of_mem h.nodup hm
      rw [hz] at a1
      rw [a1] at a2
      have := Option.some.inj a2
      rw [this] at ks
      exact absurd (show Str.ofString "drawer" = Str.ofString "sheet" from ks) (by decide +kernel)
    · omega
  refine ⟨by rw [withE_id]; exact h.asc, ?_, fun q hq => ?_, fun q hq => ?_, fun q hq => ?_, fun q hq => ?_, fun q hq => ?_, fun q hq => ?_, ?_, fun q hq => ?_⟩
  · obtain ⟨es, a, r, rfl⟩ := h.top
    unfold withE
    rw [List.map_cons]
    by_cases e : a = g.ad
    · rw [if_pos e]; exact ⟨_, _, _, rfl⟩
    · rw [if_neg e]; exact ⟨_, _, _, rfl⟩
  · rcases mem q hq with rfl | hq
    · exact h.le g hg
    · exact h.le q hq
  · rcases mem q hq with rfl | hq
    · exact h.kd g hg
    · exact h.kd q hq
  · rcases mem q hq with rfl | hq
    · intro z
      have : g.kind = ("sheet" : Str) := z
      rw [hd] at this
      exact absurd this (by decide +kernel)
    · exact h.sh q hq
  · rcases mem q hq with rfl | hq
    · show ((g.es ++ [(Str.ofString "z", q0.id)]).map (·.1)).Nodup
      rw [List.map_append, List.nodup_append]
      refine ⟨h.nd g hg, by simp, fun a ha b hb e => ?_⟩
      rw [List.map_singleton, List.mem_singleton] at hb
      obtain ⟨x, hx, rfl⟩ := List.mem_map.mp ha
      exact (h.nm g hg x hx).2 (e.trans hb)
    · exact h.nd q hq
  · rcases mem q hq with rfl | hq
    · intro e he
      rcases List.mem_append.mp he with he | he
      · exact (h.nm g hg e he).1
      · rw [List.mem_singleton.mp he]; simp [NM]
    · exact fun e he => (h.nm q hq e he).1
  · rw [withE_id]
    rcases mem q hq with rfl | hq
    · intro e he
      rcases List.mem_append.mp he with he | he
      · exact h.tg hg he
      · rw [List.mem_singleton.mp he]; exact ⟨List.mem_map_of_mem (f := (·.id)) hq0, pos⟩
    · exact fun e he => h.tg hq he
  · refine ⟨[q0.id], ?_, fun s hs => by rw [List.mem_singleton.mp hs]; exact she⟩
    rw [withE_id]
    exact (withE_flat nda hg).trans (h.pm.append_right _)
  · rcases mem q hq with rfl | hq
    · intro e he
      rcases List.mem_append.mp he with he | he
      · exact .inl (h.up g hg e he)
      · rw [List.mem_singleton.mp he]; exact .inr she
    · exact fun e he => .inl (h.up q hq e he)
theorem srtE_perm (es : List (Str × Int)) : (srtE es).Perm es := List.mergeSort_perm _ _
def Gn.row (g : Gn) : Nd := (g.id, g.kind, srtE g.es)
theorem flat_perm {f1 f2 : Gn → List Int} (h : ∀ g, (f1 g).Perm (f2 g)) : ∀ gs : List Gn, (gs.flatMap f1).Perm (gs.flatMap f2)
  | [] => .refl _
  | g :: gs => by rw [List.flatMap_cons, List.flatMap_cons]; exact (h g).append (flat_perm h gs)
theorem GF.tree {gs : List Gn} {last made : Int} (h : GF gs last) (hl : gs.length ≤ 14) (h1 : last < made) (h2 : made ≤ 100) : TreeG (gs.map Gn.row) made := by
  have ids : (gs.map Gn.row).map (·.1) = gs.map (·.id) := by rw [List.map_map]; rfl
  have mem : ∀ r ∈ gs.map Gn.row, ∃ g ∈ gs, r = g.row := fun r hr => by obtain ⟨g, hg, rfl⟩ := List.mem_map.mp hr; exact ⟨g, hg, rfl⟩
  refine ⟨by rw [List.length_map]; exact hl, by rw [ids]; exact h.asc, ?_, fun r hr => ?_, h2, fun r hr => ?_, fun r hr => ?_, fun r hr => ?_, fun r hr e he => ?_, fun r hr e he => ?_, ?_, fun r hr e he => ?_, fun r hr => ?_⟩
  · obtain ⟨es, a, r, rfl⟩ := h.top
    exact ⟨srtE es, r.map Gn.row, rfl⟩
  · obtain ⟨g, hg, rfl⟩ := mem r hr; have := (h.le g hg).2; show g.id < made; omega
  · obtain ⟨g, hg, rfl⟩ := mem r hr; exact h.kd g hg
  · obtain ⟨g, hg, rfl⟩ := mem r hr
    intro z
    have := h.sh g hg z
    show srtE g.es = []
    rw [this]; exact List.mergeSort_nil ..
  · obtain ⟨g, hg, rfl⟩ := mem r hr; exact ((srtE_perm g.es).map _).nodup_iff.mpr (h.nd g hg)
  · obtain ⟨g, hg, rfl⟩ := mem r hr; exact h.nm g hg e ((srtE_perm g.es).mem_iff.mp he)
  · obtain ⟨g, hg, rfl⟩ := mem r hr; rw [ids]; exact h.tg g hg e ((srtE_perm g.es).mem_iff.mp he)
  · obtain ⟨ex, e1, e2⟩ := h.one
    refine ⟨ex, ?_, fun s hs => ?_⟩
    · rw [ids, List.flatMap_map]
      exact (flat_perm (fun g => ((srtE_perm g.es).map _)) gs).trans e1
    · obtain ⟨q, hq, a, b⟩ := e2 s hs
      exact ⟨q.row, List.mem_map_of_mem hq, a, b⟩
  · obtain ⟨g, hg, rfl⟩ := mem r hr
    rcases h.up g hg e ((srtE_perm g.es).mem_iff.mp he) with a | ⟨q, hq, a, b⟩
    · exact .inl a
    · exact .inr ⟨q.row, List.mem_map_of_mem hq, a, b⟩
  · obtain ⟨g, hg, rfl⟩ := mem r hr
    exact ⟨g.es, rfl⟩
theorem dLe_cl {S : Sto} {a b : D} (ha : a.cl 20 = true) (hb : b.cl 20 = true) : dLe S a b = PySem.W.dataLe false D.py a b := by
  have e1 : enc6 S a = a.py := by show (rd 6 S a).py = _; rw [rd_cl ha]
  have e2 : enc6 S b = b.py := by show (rd 6 S b).py = _; rw [rd_cl hb]
  show PySem.W.dataLe false (enc6 S) a b = _
  unfold PySem.W.dataLe PySem.W.sortLe
  simp only [e1, e2]
theorem srt_of {S : Sto} (es : List (Str × Int)) : (es.map pairSI).mergeSort (dLe S) = (srtE es).map pairSI := by
  rw [mergeSort_map]
  unfold srtE
  have : (fun a b : Str × Int => dLe S (pairSI a) (pairSI b)) = fun a b => PySem.W.dataLe false D.py (pairSI a) (pairSI b) := by
    funext a b
    exact dLe_cl (by simp [pairSI, D.cl, D.cls]) (by simp [pairSI, D.cl, D.cls])
  rw [this]
section
variable {S0 S : Sto} {f E K : Addr} {gs : List Gn} {m : Nat} {last : Int} {Dn : DEnds} {Q : KD} {x1 x2 x3 x4 x5 x6 x7 x8 x9 x10 x11 : Option D}
theorem tr4_of {M L : Addr} (T : TI S0 f E K gs m S) (W : GW gs last) (hm : m < 999990000) (hl : gs.length ≤ 14) (eM : S M = some (.lst ((kin "sheet" gs).map D.int))) (eL : S L = some (.lst ((kin "drawer" gs).map D.int)))
    (k : ∀ gs' y9 S', TI S0 f E K gs' (m + 3) S' → GF gs' last → gs'.length ≤ 14 → Dn.nx [some (.ref f), x1, x2, some (.ref M), some (.ref L), x5, some (.ref E), some (.ref K), some (.int last), y9, x10, x11] S') : tr4 Dn [some (.ref f), x1, x2, some (.ref M), some (.ref L), x5, some (.ref E), some (.ref K), some (.int last), x9, x10, x11] S := by
  have sz : 1001 < sizeLine := by rw [sizeLine_eq]; decide
  have lk := kin_len "sheet" gs
  unfold tr4
  simp only [dIfS_eq, dAnd_eq, dTst_eq, dBin_eq, dLst_eq, dNil_eq, dC_eq, dNext_eq]
  refine dV_at (by rfl) ?_
  refine ⟨by show 0 ≤ sizeLine; omega, fun z hz => ?_⟩
  have Mz : M ≠ z := ne_of_free hz eM
  have Lz : L ≠ z := ne_of_free hz eL
  have T1 := T.new (o := .lst []) hz
  have eM1 : put S z (.lst []) M = some (.lst ((kin "sheet" gs).map D.int)) := by rw [put_ne Mz]; exact eM
  have eL1 : put S z (.lst []) L = some (.lst ((kin "drawer" gs).map D.int)) := by rw [put_ne Lz]; exact eL
  rw [wNe_of (.lst eM1 ints_cl) (.lst put_same (by simp)), isB_bl]
  generalize put S z (.lst []) = S1 at *
  by_cases h1 : kin "sheet" gs = []
  · rw [h1]
    show if (!decide (D.fz [] = D.fz [])) = true then _ else _
    rw [decide_eq_true rfl, if_neg (by decide), if_neg (by decide)]
    exact k gs _ S1 (T1.keep (T1.F.up (by omega)) .refl) W.fin hl
  · rw [decide_eq_false (by simpa using h1), if_pos (by rfl)]
    refine pk_of (by rfl) T1.F (by omega) (by decide) (by decide) fun r S2 r0 r1 F2 K2 => ?_
    have T2 := T1.keep F2 K2
    have eM2 := K2 _ _ (T1.F.ne_lst eM1) eM1
    have eL2 := K2 _ _ (T1.F.ne_lst eL1) eL1
    rw [wEq_int, isB_bl]
    by_cases hr : r = 0
    · rw [decide_eq_true hr, if_pos rfl]
      rw [dSeq_eq, dAsg_eq]
      refine own_of (L := L) T2 W.nodup (by omega) (by omega) eL2 (kin_top W) fun g S3 hg hd T3 st3 => ?_
      show dAsg (rdPick 3) (gdSub (dV 9) (dC (.str "z")) wSet) _ [some (.ref f), x1, x2, some (.ref M), some (.ref L), x5, some (.ref E), some (.ref K), some (.int last), some (.ref g.ad), x10, x11] S3
      rw [dAsg_eq]
      refine rdPick_of (L := M) (by rfl) (by rfl) T3.F (by omega) (st3 _ _ eM2) (by simpa using h1) (by rw [List.length_map]; omega) fun x hx S4 F4 K4 => ?_
      obtain ⟨s, hs, rfl⟩ := List.mem_map.mp hx
      have T4 := T3.keep F4 K4
      simp only [gdSub_eq, dC_eq]
      refine dV_at (by rfl) ?_
      have nz : Str.ofString "z" ∉ g.es.map (·.1) := fun z => by
        obtain ⟨e, he, e1⟩ := List.mem_map.mp z
        exact (W.nm g hg e he).2 e1
      have lg : g.es.length ≤ 100 := by
        have n1 := W.nd g hg
        have n2 : ∀ x ∈ g.es.map (·.1), x ∈ NM := fun x hx => by
          obtain ⟨e, he, rfl⟩ := List.mem_map.mp hx
          exact (W.nm g hg e he).1
        have := n1.length_le_of_subset n2
        rw [List.length_map] at this
        have : NM.length = 6 := rfl
        omega
      refine wSet_dct (T4.inn g hg).2 fitWN (by rw [List.length_map]; omega) ?_
      rw [putN (y := (Str.ofString "z", s)) nz]
      exact k _ _ _ (T4.entry hg _) (W.finz T.nda hg hd hs) (by unfold withE; rw [List.length_map]; exact hl)
    · rw [decide_eq_false hr, if_neg (by decide)]
      exact k gs _ S2 (T2.keep (T2.F.up (by omega)) .refl) W.fin hl
theorem tr5_of (T : TI S0 f E K gs m S) (asc : (gs.map (·.id)).Pairwise (· < ·)) (hl : gs.length ≤ 14) (he : ∀ g ∈ gs, g.es.length ≤ 100) (k : ∀ L S', TI S0 f E K gs m S' → S' L = some (.lst ((gs.map Gn.row).map rowD)) → Dn.nx [some (.ref f), x1, x2, x3, x4, some (.ref L), some (.ref E), some (.ref K), some (.int last), x9, x10, x11] S') : tr5 Dn [some (.ref f), x1, x2, x3, x4, x5, some (.ref E), some (.ref K), some (.int last), x9, x10, x11] S := by
  have sz : 1001 < sizeLine := by rw [sizeLine_eq]; decide
  have nd : (gs.map (·.id)).Nodup := asc.imp fun h e => by omega
  unfold tr5
  simp only [dAsg_eq, dLC_eq, diVal_eq, dCB_eq, dCons_eq, dNil_eq, gdName_eq]
  refine dV_at (by rfl) ?_
  refine wSortedD_asc (g := fun g => D.ref g.ad) T.gE asc fun p hp => ?_
  have T1 := T.new (o := .lst ((gs.map (·.id)).map D.int)) hp
  have e1 : put S p (.lst ((gs.map (·.id)).map D.int)) p = some (.lst ((gs.map (·.id)).map D.int)) := put_same
  generalize put S p (.lst ((gs.map (·.id)).map D.int)) = S1 at *
  rw [wIter_lst e1]
  intro L hL
  have pL : p ≠ L := ne_of_free hL e1
  have em : (gs.map (·.id)).map D.int = gs.map fun g : Gn => D.int g.id := by rw [List.map_map]; rfl
  rw [em] at e1 ⊢
  have LE : L ≠ E := fun z => by rw [z, T1.gE] at hL; cases hL
  have LK : L ≠ K := fun z => by rw [z, T1.gK] at hL; cases hL
  have Lf := T1.F.nt hL
  have L0 := T1.free hL
  have Lin : ∀ g ∈ gs, g.ad ≠ L := fun g hg z => by have := (T1.inn g hg).2; rw [z, hL] at this; cases this
  refine loopC_map (fun g : Gn => D.int g.id) (fun done S' => TI S0 f E K gs m S' ∧ S' p = some (.lst (gs.map fun g : Gn => D.int g.id)) ∧ S' L = some (.lst ((done.map Gn.row).map rowD))) (fun _ _ h => h.2.1) (fun S' h => ?_) (fun done g rest S' es h N hN => ?_) ⟨T1.new hL, by rw [put_ne pL]; exact e1, put_same⟩
  · exact k L S' h.1 h.2.2
  · obtain ⟨T2, e2, eL⟩ := h
    have hg : g ∈ gs := by rw [es]; simp
    have ld : done.length < 14 := by
      have := congrArg List.length es
      rw [List.length_append, List.length_cons] at this
      omega
    refine ⟨rfl, ?_⟩
    rw [dYes_eq, if_pos rfl, compR_nil, emLst_eq]
    simp only [dTup_eq, dCons_eq, dNil_eq, dBin_eq, dCB_eq, dSortedItems_eq]
    refine dV_at (by rfl) ?_
    refine dV_at (by rfl) ?_
    refine dV_at (by rfl) ?_
    rw [wAt_dct T2.gK (keyFit_int (f := fun g : Gn => g.id) (g := fun g : Gn => D.str g.kind)) (getK nd hg)]
    refine dV_at (by rfl) ?_
    refine dV_at (by rfl) ?_
    rw [wAt_dct T2.gE (keyFit_int (f := fun g : Gn => g.id) (g := fun g : Gn => D.ref g.ad)) (getE nd hg)]
    have eg := (T2.inn g hg).2
    have ed : dctOf S' (.ref g.ad) = some (g.ad, g.es.map eN) := by simp [dctOf, eg]
    rw [ed]
    simp only
    have ei : itmsD (g.es.map eN) = g.es.map pairSI := by unfold itmsD; rw [List.map_map]; rfl
    rw [ei, srt_of]
    refine ⟨SortOk.pairsSI _, fun v hv => ?_⟩
    rw [wTuple_lst put_same]
    have Lv : L ≠ v := ne_of_free hv eL
    have pv : p ≠ v := ne_of_free hv e2
    have T3 := T2.new (o := .lst ((srtE g.es).map pairSI)) hv
    have eL3 : put S' v (.lst ((srtE g.es).map pairSI)) L = some (.lst ((done.map Gn.row).map rowD)) := by rw [put_ne Lv]; exact eL
    have e23 : put S' v (.lst ((srtE g.es).map pairSI)) p = some (.lst (gs.map fun g : Gn => D.int g.id)) := by rw [put_ne pv]; exact e2
    generalize put S' v (.lst ((srtE g.es).map pairSI)) = S3 at *
    show 3 ≤ sizeLine ∧ onL S3 L _
    rw [onL_eq eL3]
    refine ⟨by omega, by rw [List.length_map, List.length_map]; omega, hN _ ⟨?_, by rw [put_ne pL]; exact e23, by rw [put_same, List.map_append, List.map_append]; rfl⟩⟩
    exact ⟨by rw [put_ne (Ne.symm LE)]; exact T3.gE, by rw [put_ne (Ne.symm LK)]; exact T3.gK, fun q hq => ⟨(T3.inn q hq).1, by rw [put_ne (Lin q hq)]; exact (T3.inn q hq).2⟩, T3.nda, T3.ne, T3.n0, T3.F.put Lf, T3.ks.then L0⟩
end
theorem vc__law_tree {ds S Q E} (h : sp__law_tree ds S Q E) : r__law_tree (bodyEnds Q) (startD N__law_tree ds) S := by
  have sz : 1001 < sizeLine := by rw [sizeLine_eq]; decide
  obtain ⟨f, top, m, rfl, t0, t1, hm, F, k⟩ := h
  show r__law_tree _ [some (.ref f), some (.int top), none, none, none, none, none, none, none, none, none, none] S
  unfold r__law_tree
  simp only [dSeq_eq]
  refine tr0_of F fun E K a S1 T1 => ?_
  have one : ∀ g ∈ [(⟨0, "drawer", [], a⟩ : Gn)], g = ⟨0, "drawer", [], a⟩ := fun g hg => List.mem_singleton.mp hg
  have W1 : GW [⟨0, "drawer", [], a⟩] 0 := ⟨by simp, ⟨_, _, _, rfl⟩, fun g hg => by rw [one g hg]; exact ⟨Int.le_refl _, Int.le_refl _⟩, fun g hg => by rw [one g hg]; exact .inl rfl, fun g hg => by rw [one g hg]; exact fun _ => rfl, fun g hg => by rw [one g hg]; exact .nil, fun g hg => by rw [one g hg]; exact (fun e he => (nomatch he)), fun g hg => by rw [one g hg]; exact (fun e he => (nomatch he)), .refl _⟩
  refine tr1_of T1 W1 t0 t1 (by omega) (by simp) fun gs last m2 y2 y4 y9 y10 S2 T2 hm2 W2 l2 n2 => ?_
  show tr2 _ [some (.ref f), some (.int top), y2, none, y4, none, some (.ref E), some (.ref K), some (.int last), y9, y10, none] S2
  rw [tr2_eq, dAsg_eq]
  refine kin_of T2 W2.asc (by omega) fun M S3 T3 eM _ => ?_
  show tr3 _ [some (.ref f), some (.int top), y2, some (.ref M), y4, none, some (.ref E), some (.ref K), some (.int last), y9, y10, none] S3
  rw [tr3_eq, dAsg_eq]
  refine kin_of T3 W2.asc (by omega) fun L S4 T4 eL st => ?_
  show tr4 _ [some (.ref f), some (.int top), y2, some (.ref M), some (.ref L), none, some (.ref E), some (.ref K), some (.int last), y9, y10, none] S4
  refine tr4_of T4 W2 (by omega) n2 (st _ _ eM) eL fun gs' z9 S5 T5 G5 n5 => ?_
  have l100 : ∀ g ∈ gs', g.es.length ≤ 100 := fun g hg => by
    have n2 : ∀ x ∈ g.es.map (·.1), x ∈ NM := fun x hx => by
      obtain ⟨e, he, rfl⟩ := List.mem_map.mp hx
      exact G5.nm g hg e he
    have := (G5.nd g hg).length_le_of_subset n2
    rw [List.length_map] at this
    have : NM.length = 6 := rfl
    omega
  refine tr5_of T5 G5.asc n5 l100 fun R S6 T6 eR => ?_
  show tr6 _ [some (.ref f), some (.int top), y2, some (.ref M), some (.ref L), some (.ref R), some (.ref E), some (.ref K), some (.int last), z9, y10, none] S6
  unfold tr6
  simp only [dRet_eq, dTup_eq, dCons_eq, dNil_eq, dCB_eq, dBin_eq, dC_eq]
  refine dV_at (by rfl) ?_
  rw [wTuple_lst eR]
  refine dV_at (by rfl) ?_
  rw [wAdd_int]
  refine pk_of (by rfl) T6.F (by omega) (by decide) (by decide) fun r S7 r0 r1 F7 K7 => ?_
  rw [wAdd_int]
  exact ⟨by show 2 ≤ sizeLine; omega, k _ _ _ (G5.tree n5 (by omega) (by omega)) (F7.up (by omega)) (T6.ks.trans K7)⟩
end KB
namespace KB
open PySem PySem.Spec PyProof.Rows L2 DL
def wayD (w : List Str) : D := .tup (w.map D.str)
def wayOk (w : List Str) : Prop := w.length ≤ 4 ∧ ∀ x ∈ w, x ∈ NM
theorem kvMerge_int {α : Type} {f : α → Int} {g : α → D} {xs : List α} (nd : (xs.map f).Nodup) : kvMerge [] (xs.map fun p => (D.int (f p), g p)) = xs.map fun p => (D.int (f p), g p) := by
  have main : ∀ (r d : List α), ((d ++ r).map f).Nodup → kvMerge (d.map fun p => (D.int (f p), g p)) (r.map fun p => (D.int (f p), g p)) = (d ++ r).map fun p => (D.int (f p), g p) := by
    intro r
    induction r with
    | nil => intro d _; rw [List.append_nil]; rfl
    | cons p r ih =>
      intro d h
      have hx : f p ∉ d.map f := by
        rw [List.map_append, List.nodup_append] at h
        exact fun z => h.2.2 _ z _ (List.mem_cons_self ..) rfl
      have e := dPut_int_new (f := f) (g := g) (xs := d) (y := p) hx
      have z := ih (d ++ [p]) (by rw [List.append_assoc]; exact h)
      unfold kvMerge at *
      rw [List.map_cons, List.foldl_cons]
      simp only at e ⊢
      rw [e, z, List.append_assoc]
      rfl
  exact main xs [] nd
theorem pairsD_map {α : Type} {k v : α → D} : ∀ xs : List α, pairsD (xs.map fun p => D.tup [k p, v p]) = some (xs.map fun p => (k p, v p))
  | [] => rfl
  | x :: r => by rw [List.map_cons, pairsD, pairsD_map r]; rfl
theorem leafAll_int {α : Type} {f : α → Int} {g : α → D} (xs : List α) : leafAll (xs.map fun p => (D.int (f p), g p)) = true := by
  unfold leafAll
  rw [List.all_map, List.all_eq_true]
  intro x _; rfl
theorem wDict_of {α : Type} {f : α → Int} {g : α → D} {xs : List α} {S : Sto} {d : D} {Q : KD} (h : seqOf S d = some (xs.map fun p => D.tup [.int (f p), g p])) (nd : (xs.map f).Nodup) (q : ∀ p, S p = none → Q (.ref p) (put S p (.dct (xs.map fun p => (D.int (f p), g p))))) : wDict [d] S Q := by
  unfold wDict
  simp only [h, pairsD_map, onS_some, leafAll_int, kvMerge_int nd]
  exact ⟨rfl, q⟩
def entO (rows : List Nd) (n : Int) : List (Str × Int) := match rows.find? fun r => decide (r.1 = n) with | some r => r.2.2 | none => []
end KB
namespace KB
open PySem PySem.Spec PyProof.Rows L2 DL
structure WL (S : Sto) (f L : Addr) (ws : List (List Str)) : Prop where
  e : S L = some (.lst (ws.map wayD))
  ne : ws ≠ []
  len : ws.length ≤ 3000
  ok : ∀ w ∈ ws, wayOk w
  Lf : L ≠ f
inductive Dd where
  | one (x : Str) (w : List Str)
  | mk (w : List Str) (k : Str)
  | two (x : Str) (w v : List Str)
def Dd.D : Dd → D
  | .one x w => .tup [.str x, wayD w]
  | .mk w k => .tup [.str "make", wayD w, .str k]
  | .two x w v => .tup [.str x, wayD w, wayD v]
def Dd.ok : Dd → Prop
  | .one x w => x ∈ (["look", "list", "drop"] : List Str) ∧ wayOk w ∧ (x = ("drop" : Str) → w ≠ [])
  | .mk w k => wayOk w ∧ w ≠ [] ∧ isK k
  | .two x w v => x ∈ (["link", "move", "swap"] : List Str) ∧ wayOk w ∧ w ≠ [] ∧ wayOk v ∧ v ≠ []
end KB
namespace KB
open PySem PySem.Spec PyProof.Rows L2 DL
structure HandsOk (hs : List (List Dd)) : Prop where
  pos : 0 < hs.length
  len : hs.length ≤ 4
  three : ∀ h ∈ hs, h.length ≤ 3
  ok : ∀ h ∈ hs, ∀ d ∈ h, Dd.ok d
structure HI (S0 : Sto) (f L R : Addr) (ws : List (List Str)) (hs : List (Addr × List Dd)) (m : Nat) (S : Sto) : Prop where
  W : WL S f L ws
  eR : S R = some (.lst (hs.map fun h => D.ref h.1))
  each : ∀ h ∈ hs, S h.1 = some (.lst (h.2.map Dd.D)) ∧ h.1 ≠ f ∧ h.1 ≠ R ∧ h.1 ≠ L ∧ S0 h.1 = none
  ok : ∀ h ∈ hs, h.2.length ≤ 3 ∧ ∀ d ∈ h.2, Dd.ok d
  nd : (hs.map (·.1)).Nodup
  ne : R ≠ f ∧ R ≠ L
  R0 : S0 R = none
  F : Feed S f m
  ks : Keeps f S0 S
end KB
namespace KB
open PySem PySem.Spec PyProof.Rows L2 DL
theorem diEnum_eq {ta : DTA} {τ : DSt} {S : Sto} {R : List D → (Sto → Prop) → Sto → Prop} : diEnum ta τ S R = ta τ S fun ds S1 => match ds with | [d] => wEnum d S1 R | _ => False := rfl
theorem wEnum_tup {ds : List D} {S : Sto} {R : List D → (Sto → Prop) → Sto → Prop} : wEnum (.tup ds) S R = R (enumD 0 ds) (fun _ => True) S := rfl
theorem enumD_range : ∀ (k : Nat) (ds : List D), enumD k ds = (List.range ds.length).map fun i => D.wt [.int ((k + i : Nat) : Int), ds.getD i .non]
  | _, [] => rfl
  | k, d :: r => by
    rw [enumD, enumD_range (k + 1) r, List.length_cons, List.range_succ_eq_map, List.map_cons, List.map_map]
    congr 1
    refine List.map_congr_left fun i _ => ?_
    show D.wt [.int ((k + 1 + i : Nat) : Int), r.getD i .non] = D.wt [.int ((k + (i + 1) : Nat) : Int), r.getD i .non]
    rw [show k + 1 + i = k + (i + 1) by omega]
end KB
namespace KD
open PySem PySem.Spec PyProof.Rows L2 DL KB
def rowO (rows : List Nd) (n : Int) : Option Nd := rows.find? fun r => decide (r.1 = n)
def kindO (rows : List Nd) (n : Int) : Str := match rowO rows n with | some r => r.2.1 | none => ""
theorem entO_eq {rows : List Nd} {n : Int} {r : Nd} (h : rowO rows n = some r) : entO rows n = r.2.2 := by
  unfold entO
  unfold rowO at h
  rw [h]
theorem kindO_eq {rows : List Nd} {n : Int} {r : Nd} (h : rowO rows n = some r) : kindO rows n = r.2.1 := by unfold kindO; rw [h]
def isPl : D → Bool | .wt _ => false | .ref _ => false | .ty _ => false | _ => true
def numB : D → Bool | .int i => decide (0 ≤ i) | _ => false
def sp_is_number : DSp := fun ds S Q E => ∃ d : D, ds = [d] ∧ isPl d = true ∧ ∀ S', Q (.bl (numB d)) S'
theorem len_is_number : ∀ ds S Q E, sp_is_number ds S Q E → ds.length = (["thing"] : List Str).length := fun _ _ _ _ ⟨_, e, _⟩ => by rw [e]; rfl
def r_is_number : DTS := dRet (dAndV (dCB wIsi (dCons (dV 0) (dCons (dC (.ty "int")) dNil))) (dAndV (dNotV (dCB wIsi (dCons (dV 0) (dCons (dC (.ty "bool")) dNil)))) (dBin wGe (dV 0) (dC (.int 0)))))
abbrev N_is_number : List Str := ["thing"]
theorem isi_fz_int {n : List D} {S : Sto} {Q : KD} : wIsi [.fz n, .ty "int"] S Q = Q (.bl false) S := (rfl)
theorem vc_is_number {ds S Q E} (h : sp_is_number ds S Q E) : r_is_number (bodyEnds Q) (startD N_is_number ds) S := by
  obtain ⟨d, rfl, hd, k⟩ := h
  show r_is_number _ [some d] S
  unfold r_is_number
  cases d with
  | int n =>
    have k' := k S
    rw [numB] at k'
    by_cases hn : 0 ≤ n
    · rw [decide_eq_true hn] at k'
      simp [hn, k']
    · rw [decide_eq_false hn] at k'
      simp [hn, k']
  | bl b => simp; exact k S
  | non => simp; exact k S
  | str x => simp; exact k S
  | tup ds => simp; exact k S
  | fz ds => simp [isi_fz_int]; exact k S
  | wt ds => cases hd
  | ref a => cases hd
  | ty n => cases hd
def sp_row_of : DSp := fun ds S Q E => ∃ rows made n r, ds = [treeD rows made, .int n] ∧ rowO rows n = some r ∧ 0 ≤ n ∧ ∀ S', Q (rowD r) S'
theorem len_row_of : ∀ ds S Q E, sp_row_of ds S Q E → ds.length = (["tree", "node"] : List Str).length := fun _ _ _ _ ⟨_, _, _, _, e, _⟩ => by rw [e]; rfl
def r_row_of : DTS := dSeq (dFor (diVal (dBin wAt (dV 0) (dC (.int 0))) wIterA) (gdName 2) (dIfS (dAnd (dTst (dBin wEq (dBin wAt (dV 2) (dC (.int 0))) (dV 1))) (dTst (dCall (pur sp_is_number) [] (dCons (dV 1) dNil)))) (dRet (dV 2)) dNext)) dNever
abbrev N_row_of : List Str := ["tree", "node", "row"]
theorem vc_row_of {ds S Q E} (h : sp_row_of ds S Q E) : r_row_of (bodyEnds Q) (startD N_row_of ds) S := by
  obtain ⟨rows, made, n, r, rfl, hr, hn, k⟩ := h
  show r_row_of _ [some (treeD rows made), some (.int n), none] S
  unfold r_row_of
  simp only [dSeq_eq, dFor_eq, diVal_eq, dBin_eq, dC_eq]
  refine dV_at (by rfl) ?_
  unfold treeD
  rw [wAt_tup, atI0, onS_some, wIter_tup]
  refine loop_map rowD (fun done τ S' => (∀ q ∈ done, q.1 ≠ n) ∧ ∃ y, τ = [some (.tup [.tup (rows.map rowD), .int made]), some (.int n), y]) (fun _ _ _ _ => trivial) (fun τ S' h => ?_) (fun done q rest τ S' es h N hN => ?_) ⟨by simp, _, rfl⟩
  · obtain ⟨h, _⟩ := h
    have := List.mem_of_find?_eq_some hr
    have e := List.find?_some hr
    exact absurd (of_decide_eq_true e) (h r this)
  · obtain ⟨hd, y, rfl⟩ := h
    show dIfS _ _ _ _ [some (.tup [.tup (rows.map rowD), .int made]), some (.int n), some (rowD q)] S'
    simp only [dIfS_eq, dAnd_eq, dTst_eq, dBin_eq, dC_eq, dCall_eq, dCons_eq, dNil_eq, List.append_nil]
    refine dV_at (by rfl) ?_
    unfold rowD
    rw [wAt_tup, atI0, onS_some]
    refine dV_at (by rfl) ?_
    rw [wEq_int, isB_bl]
    by_cases h : q.1 = n
    · rw [if_pos (by simpa using h)]
      refine dV_at (by rfl) ?_
      refine ⟨.int n, rfl, rfl, fun _ => ?_⟩
      show isB _ (.bl (decide (0 ≤ n))) _
      rw [isB_bl, if_pos (decide_eq_true hn), dRet_eq]
      refine dV_at (by rfl) ?_
      have e : q = r := by
        have h2 : rowO rows n = some q := by
          unfold rowO
          rw [es, List.find?_append, List.find?_eq_none.mpr (fun x hx => by simpa using hd x hx), List.find?_cons, decide_eq_true h]; rfl
        rw [h2] at hr
        exact Option.some.inj hr
      rw [e]
      exact k _
    · rw [if_neg (by simpa using h), if_neg (by decide)]
      exact hN _ _ ⟨fun x hx => by
        rcases List.mem_append.mp hx with hx | hx
        · exact hd x hx
        · rw [List.mem_singleton.mp hx]; exact h, _, rfl⟩
def sp_kind_of : DSp := fun ds S Q E => ∃ rows made n r, ds = [treeD rows made, .int n] ∧ rowO rows n = some r ∧ 0 ≤ n ∧ ∀ S', Q (.str r.2.1) S'
theorem len_kind_of : ∀ ds S Q E, sp_kind_of ds S Q E → ds.length = (["tree", "node"] : List Str).length := fun _ _ _ _ ⟨_, _, _, _, e, _⟩ => by rw [e]; rfl
def r_kind_of : DTS := dRet (dBin wAt (dCall (pur sp_row_of) [] (dCons (dV 0) (dCons (dV 1) dNil))) (dC (.int 1)))
abbrev N_kind_of : List Str := ["tree", "node"]
theorem vc_kind_of {ds S Q E} (h : sp_kind_of ds S Q E) : r_kind_of (bodyEnds Q) (startD N_kind_of ds) S := by
  obtain ⟨rows, made, n, r, rfl, hr, hn, k⟩ := h
  show r_kind_of _ [some (treeD rows made), some (.int n)] S
  unfold r_kind_of
  simp only [dRet_eq, dBin_eq, dC_eq, dCall_eq, dCons_eq, dNil_eq, List.append_nil]
  refine dV_at (by rfl) ?_
  refine dV_at (by rfl) ?_
  refine ⟨rows, made, n, r, rfl, hr, hn, fun _ => ?_⟩
  show wAt (rowD r) _ _ _
  unfold rowD
  rw [wAt_tup, atI1, onS_some]
  exact k _
def sp_entries_of : DSp := fun ds S Q E => ∃ rows made n r, ds = [treeD rows made, .int n] ∧ rowO rows n = some r ∧ 0 ≤ n ∧ r.2.1 ≠ ("sheet" : Str) ∧ ∀ S', Q (.tup (r.2.2.map pairSI)) S'
theorem len_entries_of : ∀ ds S Q E, sp_entries_of ds S Q E → ds.length = (["tree", "node"] : List Str).length := fun _ _ _ _ ⟨_, _, _, _, e, _⟩ => by rw [e]; rfl
def r_entries_of : DTS := dSeq (dAsg (dCall (pur sp_row_of) [] (dCons (dV 0) (dCons (dV 1) dNil))) (gdName 2)) (dSeq (dIfS (dTst (dBin wEq (dBin wAt (dV 2) (dC (.int 1))) (dC (.str "sheet")))) dNever dNext) (dRet (dBin wAt (dV 2) (dC (.int 2)))))
abbrev N_entries_of : List Str := ["tree", "node", "row"]
theorem vc_entries_of {ds S Q E} (h : sp_entries_of ds S Q E) : r_entries_of (bodyEnds Q) (startD N_entries_of ds) S := by
  obtain ⟨rows, made, n, r, rfl, hr, hn, hs, k⟩ := h
  show r_entries_of _ [some (treeD rows made), some (.int n), none] S
  unfold r_entries_of
  simp only [dSeq_eq, dAsg_eq, dCall_eq, dCons_eq, dNil_eq, List.append_nil]
  refine dV_at (by rfl) ?_
  refine dV_at (by rfl) ?_
  refine ⟨rows, made, n, r, rfl, hr, hn, fun _ => ?_⟩
  show dIfS _ _ _ _ [some (treeD rows made), some (.int n), some (rowD r)] S
  simp only [dIfS_eq, dTst_eq, dBin_eq, dC_eq]
  refine dV_at (by rfl) ?_
  unfold rowD
  rw [wAt_tup, atI1, onS_some, wEq_str, isB_bl, if_neg (by simpa using hs)]
  show dRet (dBin wAt (dV 2) (dC (.int 2))) (bodyEnds Q) [some (treeD rows made), some (.int n), some (.tup [.int r.1, .str r.2.1, .tup (r.2.2.map pairSI)])] S
  simp only [dRet_eq, dBin_eq, dC_eq]
  refine dV_at (by rfl) ?_
  rw [wAt_tup, atI2, onS_some]
  exact k _
end KD
namespace KD
open PySem PySem.Spec PyProof.Rows L2 DL KB
inductive Reach (rows : List Nd) : Int → Prop
  | top : Reach rows 0
  | step {r : Nd} {e : Str × Int} : r ∈ rows → e ∈ r.2.2 → Reach rows r.1 → Reach rows e.2
def tgs (rows : List Nd) : List Int := rows.flatMap fun r => r.2.2.map (·.2)
def ltr (x : Str) : Bool := (x.cps.toList.all fun c => decide (97 ≤ c) && decide (c ≤ 122)) && decide (x.length ≤ 8)
structure TreeV (rows : List Nd) (made : Int) : Prop where
  asc : (rows.map (·.1)).Pairwise (· < ·)
  top : ∃ es r, rows = ((0 : Int), ("drawer" : Str), es) :: r
  lt : ∀ r ∈ rows, r.1 < made
  kd : ∀ r ∈ rows, isK r.2.1
  sh : ∀ r ∈ rows, r.2.1 = ("sheet" : Str) → r.2.2 = []
  nd : ∀ r ∈ rows, (r.2.2.map (·.1)).Nodup
  few : ∀ r ∈ rows, r.2.2.length ≤ 12
  nm : ∀ r ∈ rows, ∀ e ∈ r.2.2, ltr e.1 = true
  tg : ∀ r ∈ rows, ∀ e ∈ r.2.2, e.2 ∈ rows.map (·.1) ∧ 0 < e.2
  hd : ∀ r ∈ rows, r.1 ≠ 0 → r.1 ∈ tgs rows
  one : ∀ r ∈ rows, r.2.1 = ("drawer" : Str) → (tgs rows).count r.1 ≤ 1
  up : ∀ r ∈ rows, r.2.1 = ("drawer" : Str) → Reach rows r.1
theorem drawer_ne_sheet : ("drawer" : Str) ≠ ("sheet" : Str) := by decide
theorem TreeV.nodup {rows : List Nd} {made : Int} (V : TreeV rows made) : (rows.map (·.1)).Nodup := V.asc.imp fun h e => by omega
theorem rowO_mem {rows : List Nd} {n : Int} {r : Nd} (h : rowO rows n = some r) : r ∈ rows ∧ r.1 = n := ⟨List.mem_of_find?_eq_some h, of_decide_eq_true (List.find?_some (p := fun r : Nd => decide (r.1 = n)) h)⟩
theorem TreeV.row {rows : List Nd} {made : Int} (V : TreeV rows made) {r : Nd} (h : r ∈ rows) : rowO rows r.1 = some r := find_of_mem (f := fun r : Nd => r.1) V.nodup h
theorem TreeV.at_ {rows : List Nd} {made : Int} (V : TreeV rows made) {n : Int} (h : n ∈ rows.map (·.1)) : ∃ r, rowO rows n = some r ∧ r ∈ rows ∧ r.1 = n := by
  obtain ⟨r, hr, rfl⟩ := List.mem_map.mp h
  exact ⟨r, V.row hr, hr, rfl⟩
theorem TreeV.pos {rows : List Nd} {made : Int} (V : TreeV rows made) {n : Int} (h : n ∈ rows.map (·.1)) : 0 ≤ n := by
  obtain ⟨es, r, e⟩ := V.top
  have a := V.asc
  rw [e] at a h
  rw [List.map_cons] at a h
  rcases List.mem_cons.mp h with h | h
  · rw [h]; exact Int.le_refl 0
  · exact Int.le_of_lt ((List.pairwise_cons.mp a).1 n h)
theorem TreeV.zero {rows : List Nd} {made : Int} (V : TreeV rows made) : (0 : Int) ∈ rows.map (·.1) := by
  obtain ⟨es, r, rfl⟩ := V.top
  exact List.mem_cons_self ..
theorem TreeV.ent {rows : List Nd} {made : Int} (V : TreeV rows made) {r : Nd} (hr : r ∈ rows) : r.2.2.length ≤ 12 := V.few r hr
theorem names_few {NS : List Str} {es : List (Str × Int)} (nd : (es.map (·.1)).Nodup) (h : ∀ e ∈ es, e.1 ∈ NS) : es.length ≤ NS.length := by
  have n2 : ∀ x ∈ es.map (·.1), x ∈ NS := fun x hx => by
    obtain ⟨e, he, rfl⟩ := List.mem_map.mp hx
    exact h e he
  have := nd.length_le_of_subset n2
  rw [List.length_map] at this
  exact this
def lk (x : Str) (es : List (Str × Int)) : Option Int := (es.find? fun e => decide (e.1 = x)).map (·.2)
theorem lk_mem {x : Str} {es : List (Str × Int)} {n : Int} (h : lk x es = some n) : (x, n) ∈ es := by
  unfold lk at h
  cases e : es.find? fun e => decide (e.1 = x) with
  | none => rw [e] at h; cases h
  | some p =>
    rw [e] at h
    cases h
    have h1 := List.mem_of_find?_eq_some e
    have h2 := of_decide_eq_true (List.find?_some (p := fun e : Str × Int => decide (e.1 = x)) e)
    rw [← h2]
    exact h1
theorem kvMerge_str {α : Type} {f : α → Str} {g : α → D} {xs : List α} (nd : (xs.map f).Nodup) : kvMerge [] (xs.map fun p => (D.str (f p), g p)) = xs.map fun p => (D.str (f p), g p) := by
  have main : ∀ (r d : List α), ((d ++ r).map f).Nodup → kvMerge (d.map fun p => (D.str (f p), g p)) (r.map fun p => (D.str (f p), g p)) = (d ++ r).map fun p => (D.str (f p), g p) := by
    intro r
    induction r with
    | nil => intro d _; rw [List.append_nil]; rfl
    | cons p r ih =>
      intro d h
      have hx : f p ∉ d.map f := by
        rw [List.map_append, List.nodup_append] at h
        exact fun z => h.2.2 _ z _ (List.mem_cons_self ..) rfl
      have e := dPut_str_new (f := f) (g := g) (xs := d) (y := p) hx
      have z := ih (d ++ [p]) (by rw [List.append_assoc]; exact h)
      unfold kvMerge at *
      rw [List.map_cons, List.foldl_cons]
      simp only at e ⊢
      rw [e, z, List.append_assoc]
      rfl
  exact main xs [] nd
theorem leafAll_str {α : Type} {f : α → Str} {g : α → D} (xs : List α) : leafAll (xs.map fun p => (D.str (f p), g p)) = true := by
  unfold leafAll
  rw [List.all_map, List.all_eq_true]
  intro x _; rfl
theorem wDict_row {es : List (Str × Int)} {S : Sto} {Q : KD} (nd : (es.map (·.1)).Nodup) (q : ∀ p, S p = none → Q (.ref p) (put S p (.dct (es.map eN)))) : wDict [.tup (es.map pairSI)] S Q := by
  have h : seqOf S (.tup (es.map pairSI)) = some (es.map fun p => D.tup [.str p.1, .int p.2]) := rfl
  unfold wDict
  have e1 := pairsD_map (k := fun p : Str × Int => D.str p.1) (v := fun p => D.int p.2) es
  have e2 := leafAll_str (f := fun p : Str × Int => p.1) (g := fun p => D.int p.2) es
  have e3 := kvMerge_str (f := fun p : Str × Int => p.1) (g := fun p => D.int p.2) nd
  simp only [h, e1, onS_some, e2, e3]
  exact ⟨rfl, q⟩
theorem eN_get (x : Str) (es : List (Str × Int)) : dGet (es.map eN) (.str x) = (lk x es).map D.int := by
  have := dGet_str (f := fun p : Str × Int => p.1) (g := fun p => D.int p.2) (xs := es) (n := x)
  unfold eN lk
  rw [this, Option.map_map]; rfl
def optN : Option Int → D | none => .non | some n => .int n
theorem get_of {t te : DTE} {τ : DSt} {S : Sto} {Q : KD} {es : List (Str × Int)} {x : Str} (nd : (es.map (·.1)).Nodup) (h1 : ∀ (Q1 : KD), (∀ p S', S p = none → S' = put S p (.dct (es.map eN)) → Q1 (.ref p) S') → t τ S Q1) (h2 : ∀ S1 (Q1 : KD), Q1 (.str x) S1 → te τ S1 Q1)
    (k : ∀ S', Q (optN (lk x es)) S') : dGet1 t te τ S Q := by
  rw [dGet1_eq]
  refine h1 _ fun p S' hp e => ?_
  subst e
  rw [isRef_ref]
  refine ⟨isDct_dct put_same, h2 _ _ ?_⟩
  have hf : keyFit (es.map eN) (.str x) = true := keyFit_str (f := fun p : Str × Int => p.1) (g := fun p : Str × Int => D.int p.2) (xs := es) (n := x)
  rw [onD_dct put_same hf]
  show Q ((dGet (es.map eN) (.str x)).getD .non) _
  rw [eN_get]
  have := k (put S p (.dct (es.map eN)))
  cases h : lk x es with
  | none => rw [h] at this; exact this
  | some n => rw [h] at this; exact this
end KD
namespace KD
open PySem PySem.Spec PyProof.Rows L2 DL KB
inductive Ms where
  | ok
  | sh (k : Nat)
  | no (k : Nat)
deriving DecidableEq
def Ms.D : Ms → D
  | .ok => .non
  | .sh k => .tup [.str "sheet", .int k]
  | .no k => .tup [.str "none", .int k]
def thr (rows : List Nd) : List Int → Int → Nat → List Str → (List Int × Int) × Ms
  | p, h, _, [] => ((p, h), .ok)
  | p, h, k, x :: r => if kindO rows h = "sheet" then ((p, h), .sh k) else match lk x (entO rows h) with
    | none => ((p, h), .no k)
    | some n => thr rows (p ++ [h]) n (k + 1) r
def nodesD (q : List Int × Int) : D := .tup ((q.1 ++ [q.2]).map D.int)
theorem thr_in {rows : List Nd} {made : Int} (V : TreeV rows made) : ∀ (w : List Str) {p : List Int} {h : Int} {k : Nat}, h ∈ rows.map (·.1) → (thr rows p h k w).1.2 ∈ rows.map (·.1)
  | [], _, _, _, hh => hh
  | x :: r, p, h, k, hh => by
    rw [thr]
    split
    · exact hh
    · split
      · exact hh
      · rename_i n e
        obtain ⟨q, hq, hm, _⟩ := V.at_ hh
        rw [entO_eq hq] at e
        exact thr_in V r (V.tg q hm _ (lk_mem e)).1
def thru (rows : List Nd) (w : List Str) : (List Int × Int) × Ms := thr rows [] 0 0 w
def sp_way_through : DSp := fun ds S Q E => ∃ rows made w, ds = [treeD rows made, wayD w, .int 0] ∧ TreeV rows made ∧ w.length ≤ 1000 ∧ ∀ S', Q (.tup [nodesD (thru rows w).1, (thru rows w).2.D]) S'
theorem len_way_through : ∀ ds S Q E, sp_way_through ds S Q E → ds.length = (["tree", "way", "top"] : List Str).length := fun _ _ _ _ ⟨_, _, _, e, _⟩ => by rw [e]; rfl
def wtA : DTS := dIfS (dTst (dBin wEq (dCall (pur sp_kind_of) [] (dCons (dV 0) (dCons (dBin wAt (dV 3) (dUn wNeg (dC (.int 1)))) dNil))) (dC (.str "sheet")))) (dRet (dTup (dCons (dV 3) (dCons (dTup (dCons (dC (.str "sheet")) (dCons (dV 4) dNil))) dNil)))) dNext
def wtB : DTS := dAsg (dGet1 (dCB wDict (dCons (dCall (pur sp_entries_of) [] (dCons (dV 0) (dCons (dBin wAt (dV 3) (dUn wNeg (dC (.int 1)))) dNil))) dNil)) (dV 5)) (gdName 6)
def wtC : DTS := dIfS (dTst (dBin wIsN (dV 6) (dC .non))) (dRet (dTup (dCons (dV 3) (dCons (dTup (dCons (dC (.str "none")) (dCons (dV 4) dNil))) dNil)))) dNext
def wtD : DTS := dAsg (dBin wAdd (dV 3) (dTup (dCons (dV 6) dNil))) (gdName 3)
def wt1 : DTS := dFor (diEnum (dCons (dV 1) dNil)) (gdTup 2 (gdCons (gdName 4) (gdCons (gdName 5) gdNil))) (dSeq wtA (dSeq wtB (dSeq wtC wtD)))
def r_way_through : DTS := dSeq (dAsg (dTup (dCons (dV 2) dNil)) (gdName 3)) (dSeq wt1 (dRet (dTup (dCons (dV 3) (dCons (dC .non) dNil)))))
abbrev N_way_through : List Str := ["tree", "way", "top", "found", "place", "name", "node"]
theorem last_at {p : List Int} {h : Int} {S : Sto} {Q : KD} (q : Q (.int h) S) : wAt (.tup ((p ++ [h]).map D.int)) (.int (-1)) S Q := by
  rw [wAt_tup, atI_last (by simp), List.map_append, List.getLast?_append]
  exact q
theorem vc_way_through {ds S Q E} (h : sp_way_through ds S Q E) : r_way_through (bodyEnds Q) (startD N_way_through ds) S := by
  have sz : 1001 < sizeLine := by rw [sizeLine_eq]; decide
  obtain ⟨rows, made, w, rfl, V, hw, k⟩ := h
  show r_way_through _ [some (treeD rows made), some (wayD w), some (.int 0), none, none, none, none] S
  unfold r_way_through
  simp only [dSeq_eq, dAsg_eq, dTup_eq, dCons_eq, dNil_eq, gdName_eq]
  refine dV_at (by rfl) ?_
  refine ⟨by show 1 ≤ sizeLine; omega, ?_⟩
  show wt1 _ [some (treeD rows made), some (wayD w), some (.int 0), some (nodesD ([], 0)), none, none, none] S
  unfold wt1
  generalize hB : dSeq wtA (dSeq wtB (dSeq wtC wtD)) = B
  simp only [dFor_eq, diEnum_eq, dCons_eq, dNil_eq]
  refine dV_at (by rfl) ?_
  unfold wayD
  rw [wEnum_tup, enumD_range, List.length_map]
  refine loop_map (fun i : Nat => D.wt [.int ((0 + i : Nat) : Int), (w.map D.str).getD i .non]) (fun done τ S' => ∃ (wd wr : List Str) (p : List Int) (h : Int) (y4 y5 y6 : Option D), w = wd ++ wr ∧ wd.length = done.length ∧ p.length = wd.length ∧ thru rows w = thr rows p h wd.length wr ∧ h ∈ rows.map (·.1) ∧ τ = [some (treeD rows made), some (wayD w), some (.int 0), some (nodesD (p, h)), y4, y5, y6])
    (fun _ _ _ _ => trivial) (fun τ S' h => ?_) (fun done x rest τ S' es h N hN => ?_) ⟨[], w, [], 0, _, _, _, rfl, rfl, rfl, rfl, V.zero, rfl⟩
  · obtain ⟨wd, wr, p, h, y4, y5, y6, e, hwd, hp, ht, hh, rfl⟩ := h
    rw [List.length_range] at hwd
    have hwr : wr = [] := by
      have := congrArg List.length e
      rw [List.length_append] at this
      exact List.length_eq_zero_iff.mp (by omega)
    subst hwr
    rw [thr] at ht
    have kS := k S'
    rw [ht] at kS
    show dRet (dTup (dCons (dV 3) (dCons (dC .non) dNil))) (bodyEnds Q) [some (treeD rows made), some (wayD w), some (.int 0), some (nodesD (p, h)), y4, y5, y6] S'
    simp only [dRet_eq, dTup_eq, dCons_eq, dNil_eq, dC_eq]
    refine dV_at (by rfl) ?_
    exact ⟨by show 2 ≤ sizeLine; omega, kS⟩
  · obtain ⟨wd, wr, p, h, y4, y5, y6, e, hwd, hp, ht, hh, rfl⟩ := h
    obtain ⟨rfl, hd⟩ := range_split es
    obtain ⟨x, wr', rfl⟩ : ∃ s l, wr = s :: l := by
      cases wr with
      | nil =>
        have := congrArg List.length e
        rw [List.length_append] at this
        simp at this
        omega
      | cons s l => exact ⟨s, l, rfl⟩
    have hx : (w.map D.str).getD done.length .non = .str x := by
      rw [e, ← hwd]
      simp [List.getD_eq_getElem?_getD]
    obtain ⟨r, hr, hm, hri⟩ := V.at_ hh
    have hpos := V.pos hh
    have kS := k
    rw [ht, thr, kindO_eq hr, entO_eq hr] at kS
    refine ⟨rfl, rfl, ?_⟩
    show B _ [some (treeD rows made), some (wayD w), some (.int 0), some (nodesD (p, h)), some (.int ((0 + done.length : Nat) : Int)), some ((w.map D.str).getD done.length .non), y6] S'
    rw [hx, Nat.zero_add, ← hwd, ← hB]
    simp only [dSeq_eq]
    show wtA _ _ _
    unfold wtA
    simp only [dIfS_eq, dTst_eq, dBin_eq, dC_eq, dUn_eq, dCall_eq, dCons_eq, dNil_eq, List.append_nil, wNeg_int]
    refine dV_at (by rfl) ?_
    refine dV_at (by rfl) ?_
    refine last_at ?_
    refine ⟨rows, made, h, r, rfl, hr, hpos, fun _ => ?_⟩
    show wEq (.str r.2.1) (.str "sheet") _ _
    rw [wEq_str, isB_bl]
    by_cases hs : r.2.1 = ("sheet" : Str)
    · rw [if_pos (by simpa using hs)]
      rw [if_pos hs] at kS
      simp only [dRet_eq, dTup_eq, dCons_eq, dNil_eq, dC_eq]
      refine dV_at (by rfl) ?_
      refine dV_at (by rfl) ?_
      exact ⟨by show 2 ≤ sizeLine; omega, by show 2 ≤ sizeLine; omega, kS _⟩
    · rw [if_neg (by simpa using hs)]
      rw [if_neg hs] at kS
      show wtB _ [some (treeD rows made), some (wayD w), some (.int 0), some (nodesD (p, h)), some (.int (wd.length : Int)), some (.str x), y6] S'
      unfold wtB
      simp only [dAsg_eq]
      refine get_of (es := r.2.2) (x := x) (V.nd r hm) (fun Q1 h1 => ?_) (fun S1 Q1 h1 => ?_) fun S2 => ?_
      · simp only [dCB_eq, dBin_eq, dC_eq, dUn_eq, dCall_eq, dCons_eq, dNil_eq, List.append_nil, wNeg_int]
        refine dV_at (by rfl) ?_
        refine dV_at (by rfl) ?_
        refine last_at ?_
        refine ⟨rows, made, h, r, rfl, hr, hpos, hs, fun _ => ?_⟩
        exact wDict_row (V.nd r hm) fun p hp => h1 p _ hp rfl
      · exact dV_at (by rfl) h1
      · show wtC _ [some (treeD rows made), some (wayD w), some (.int 0), some (nodesD (p, h)), some (.int (wd.length : Int)), some (.str x), some (optN (lk x r.2.2))] S2
        unfold wtC
        simp only [dIfS_eq, dTst_eq, dBin_eq, dC_eq]
        refine dV_at (by rfl) ?_
        rw [wIsN_eq, isB_bl]
        cases el : lk x r.2.2 with
        | none =>
          rw [el] at kS
          rw [if_pos (by rfl)]
          simp only [dRet_eq, dTup_eq, dCons_eq, dNil_eq, dC_eq]
          refine dV_at (by rfl) ?_
          refine dV_at (by rfl) ?_
          exact ⟨by show 2 ≤ sizeLine; omega, by show 2 ≤ sizeLine; omega, kS _⟩
        | some n =>
          rw [if_neg (by simp [optN])]
          show wtD _ [some (treeD rows made), some (wayD w), some (.int 0), some (nodesD (p, h)), some (.int (wd.length : Int)), some (.str x), some (.int n)] S2
          unfold wtD
          simp only [dAsg_eq, dBin_eq, dTup_eq, dCons_eq, dNil_eq, gdName_eq]
          refine dV_at (by rfl) ?_
          refine dV_at (by rfl) ?_
          refine ⟨by show 1 ≤ sizeLine; omega, ?_⟩
          have wl : wd.length < 1000 := by
            have := congrArg List.length e
            rw [List.length_append, List.length_cons] at this
            omega
          show wAdd (.tup ((p ++ [h]).map D.int)) (.tup [.int n]) _ _
          rw [wAdd_tup]
          refine ⟨by simp; omega, ?_⟩
          refine hN _ _ ⟨wd ++ [x], wr', p ++ [h], n, some (.int (wd.length : Int)), some (.str x), some (.int n), by rw [e, List.append_assoc]; rfl, by rw [List.length_append, List.length_append, hwd]; rfl, by rw [List.length_append, List.length_append, hp]; rfl, ?_, (V.tg r hm _ (lk_mem el)).1, ?_⟩
          · rw [ht, thr, kindO_eq hr, entO_eq hr, if_neg hs, el, List.length_append]; rfl
          · have e2 : ((p ++ [h]).map D.int ++ [D.int n]) = ((p ++ [h]) ++ [n]).map D.int := by rw [List.map_append (l₂ := [n])]; rfl
            rw [e2]; rfl
end KD
namespace KD
open PySem PySem.Spec PyProof.Rows L2 DL KB
theorem cut_last {α : Type} {f : α → D} {w : List α} : DL.cutD (w.map f) none (some (-1)) = w.dropLast.map f := by
  unfold DL.cutD
  have e1 : HT.sIx (w.map f).length 0 none = 0 := rfl
  have e2 : HT.sIx (w.map f).length (w.map f).length (some (-1)) = w.length - 1 := by
    show (if (-1 : Int) < 0 then ((-1 : Int) + ((w.map f).length : Int)).toNat else min (-1 : Int).toNat (w.map f).length) = _
    rw [if_pos (by decide), List.length_map]
    omega
  rw [e1, e2, List.drop_zero, Nat.sub_zero, ← List.map_take, List.dropLast_eq_take]
def lastN (w : List Str) : Str := w.getLast?.getD ""
def drw (rows : List Nd) (w : List Str) : Int × Ms := ((thru rows w.dropLast).1.2, if (thru rows w.dropLast).2 = .ok ∧ kindO rows (thru rows w.dropLast).1.2 = "sheet" then .sh (w.length - 1) else (thru rows w.dropLast).2)
theorem drw_in {rows : List Nd} {made : Int} (V : TreeV rows made) (w : List Str) : (drw rows w).1 ∈ rows.map (·.1) := thr_in V _ V.zero
theorem drw_ok {rows : List Nd} {made : Int} (V : TreeV rows made) {w : List Str} (h : (drw rows w).2 = .ok) : kindO rows (drw rows w).1 ≠ ("sheet" : Str) := by
  unfold drw at *
  simp only at *
  split at h
  · cases h
  · rename_i z
    exact fun e => z ⟨h, e⟩
def full (r : Nd) : Bool := decide (r.2.1 = ("drawer" : Str)) && !decide (r.2.2 = [])
end KD
namespace KD
open PySem PySem.Spec PyProof.Rows L2 DL KB
def lookD (rows : List Nd) (w : List Str) : D := if (thru rows w).2 = .ok then .tup [.str "found", .str (kindO rows (thru rows w).1.2), .int (thru rows w).1.2] else (thru rows w).2.D
def listD (rows : List Nd) (w : List Str) : D := if (thru rows w).2 = .ok then (if kindO rows (thru rows w).1.2 = "sheet" then (Ms.sh w.length).D else .tup [.str "names", .tup ((entO rows (thru rows w).1.2).map fun e => .str e.1)]) else (thru rows w).2.D
end KD
namespace KD
open PySem PySem.Spec PyProof.Rows L2 DL KB
structure DI (p : Addr) (bs : List (Int × Addr)) (f : Int → List Int) (S : Sto) : Prop where
  gp : S p = some (.dct (bs.map fun b => (D.int b.1, D.ref b.2)))
  gi : ∀ b ∈ bs, b.2 ≠ p ∧ S b.2 = some (.lst ((f b.1).map D.int))
  nda : (bs.map (·.2)).Nodup
section
variable {p q : Addr} {bs : List (Int × Addr)} {f g : Int → List Int} {S : Sto} {o : AO}
theorem DI.new (d : DI p bs f S) (h : S q = none) : DI p bs f (put S q o) :=
  ⟨by rw [put_ne (ne_of_free h d.gp)]; exact d.gp, fun b hb => ⟨(d.gi b hb).1, by rw [put_ne (ne_of_free h (d.gi b hb).2)]; exact (d.gi b hb).2⟩, d.nda⟩
theorem DI.add (d : DI p bs f S) {n : Int} (hq : S q = some (.lst [])) (hn : f n = []) (hqp : q ≠ p) (hqb : q ∉ bs.map (·.2)) : DI p (bs ++ [(n, q)]) f (put S p (.dct ((bs ++ [(n, q)]).map fun b => (D.int b.1, D.ref b.2)))) := by
  refine ⟨put_same, fun b hb => ?_, ?_⟩
  · rcases List.mem_append.mp hb with hb | hb
    · exact ⟨(d.gi b hb).1, by rw [put_ne (d.gi b hb).1]; exact (d.gi b hb).2⟩
    · rw [List.mem_singleton.mp hb]
      exact ⟨hqp, by rw [put_ne hqp, hn]; exact hq⟩
  · rw [List.map_append, List.nodup_append]
    refine ⟨d.nda, by simp, fun a ha b hb e => ?_⟩
    rw [List.mem_singleton.mp hb] at e
    have e' : a = q := e
    exact hqb (by rw [← e']; exact ha)
theorem DI.app (d : DI p bs f S) (nd : (bs.map (·.1)).Nodup) {b : Int × Addr} (hb : b ∈ bs) {x : Int} (hg : ∀ n, g n = if n = b.1 then f n ++ [x] else f n) : DI p bs g (put S b.2 (.lst ((f b.1 ++ [x]).map D.int))) := by
  refine ⟨by rw [put_ne (Ne.symm (d.gi b hb).1)]; exact d.gp, fun c hc => ⟨(d.gi c hc).1, ?_⟩, d.nda⟩
  by_cases e : c.2 = b.2
  · have : c = b := by
      have h1 := find_of_mem (f := fun b : Int × Addr => b.2) d.nda hc
      have h2 := find_of_mem (f := fun b : Int × Addr => b.2) d.nda hb
      rw [show c.2 = b.2 from e] at h1
      rw [h1] at h2
      exact Option.some.inj h2
    subst this
    rw [put_same, hg, if_pos rfl]
  · have e1 : c.1 ≠ b.1 := fun z => by
      have h1 := find_of_mem (f := fun b : Int × Addr => b.1) nd hc
      have h2 := find_of_mem (f := fun b : Int × Addr => b.1) nd hb
      rw [show c.1 = b.1 from z] at h1
      rw [h1] at h2
      exact e (by rw [Option.some.inj h2])
    rw [put_ne e, hg, if_neg e1]
    exact (d.gi c hc).2
theorem DI.get (d : DI p bs f S) (nd : (bs.map (·.1)).Nodup) {b : Int × Addr} (hb : b ∈ bs) : dGet (bs.map fun b => (D.int b.1, D.ref b.2)) (.int b.1) = some (.ref b.2) := by
  have e := dGet_int (f := fun b : Int × Addr => b.1) (g := fun b : Int × Addr => D.ref b.2) (xs := bs) (n := b.1)
  rw [e, find_of_mem (f := fun b : Int × Addr => b.1) nd hb]; rfl
end
def holdE (d : Int) (es : List (Str × Int)) (n : Int) : List Int := (es.filter fun e => decide (e.2 = n)).map fun _ => d
def hold (rows : List Nd) (n : Int) : List Int := rows.flatMap fun r => holdE r.1 r.2.2 n
def sp_holders : DSp := fun ds S Q E => ∃ (rows : List Nd) (made : Int), ds = [.tup (rows.map rowD)] ∧ TreeV rows made ∧ rows.length ≤ 1000 ∧ ∀ p bs S', DI p bs (hold rows) S' → bs.map (·.1) = rows.map (·.1) → Q (.ref p) S'
theorem len_holders : ∀ ds S Q E, sp_holders ds S Q E → ds.length = (["rows"] : List Str).length := fun _ _ _ _ ⟨_, _, e, _⟩ => by rw [e]; rfl
def ho0 : DTS := dAsg (dDC (diVal (dV 0) wIterA) (gdTup 3 (gdCons (gdName 6) (gdCons (gdName 3) (gdCons (gdName 4) gdNil)))) dYes [6, 3, 4] [6, 3, 4] [] (dV 6) (dLst dNil)) (gdName 1)
def hoA : DTS := dDrop (dBM "list" wAppend (dSetd (dV 1) (dV 6) (dLst dNil)) (dCons (dV 2) dNil))
def hoB : DTS := dFor (diVal (dV 4) wIterA) (gdTup 2 (gdCons (gdName 5) (gdCons (gdName 6) gdNil))) hoA
def ho1 : DTS := dFor (diVal (dV 0) wIterA) (gdTup 3 (gdCons (gdName 2) (gdCons (gdName 3) (gdCons (gdName 4) gdNil)))) hoB
def ho2 : DTS := dRet (dV 1)
def r_holders : DTS := dSeq ho0 (dSeq ho1 ho2)
abbrev N_holders : List Str := ["rows", "found", "drawer", "kind", "entries", "name", "node"]
theorem hoA_of {Dn : DEnds} {S : Sto} {p : Addr} {bs : List (Int × Addr)} {f g : Int → List Int} {x0 x3 x4 x5 : Option D} {d n : Int} (I : DI p bs f S) (nd : (bs.map (·.1)).Nodup) (hl : bs.length ≤ 1000) (hn : n ∈ bs.map (·.1)) (hf : (f n).length ≤ 100000) (hg : ∀ m, g m = if m = n then f m ++ [d] else f m)
    (k : ∀ S', DI p bs g S' → Dn.nx [x0, some (.ref p), some (.int d), x3, x4, x5, some (.int n)] S') : hoA Dn [x0, some (.ref p), some (.int d), x3, x4, x5, some (.int n)] S := by
  have sz : 100001 < sizeLine := by rw [sizeLine_eq]; decide
  obtain ⟨b, hb, rfl⟩ := List.mem_map.mp hn
  unfold hoA
  simp only [dDrop_eq, dBM_eq, dCons_eq, dNil_eq]
  unfold dSetd
  refine dV_at (by rfl) ?_
  rw [isRef_ref]
  refine ⟨isDct_dct I.gp, ?_⟩
  refine dV_at (by rfl) ?_
  rw [dLst_eq, dNil_eq]
  refine ⟨by show 0 ≤ sizeLine; omega, fun q hq => ?_⟩
  have I1 := I.new (o := .lst []) hq
  generalize put S q (.lst []) = S1 at *
  refine ⟨_, .ref b.2, I1.gp, by rw [List.length_map]; omega, ⟨.inl b.1, rfl⟩, I1.get nd hb, ?_⟩
  have e1 := (I1.gi b hb).2
  refine ⟨tyD_lst e1, ?_⟩
  refine dV_at (by rfl) ?_
  rw [wAppend_lst e1]
  refine ⟨by rw [List.length_map]; omega, ?_⟩
  have I2 := I1.app nd hb (x := d) hg
  rw [List.map_append] at I2
  exact k _ I2
theorem hoB_of {Dn : DEnds} {S : Sto} {p : Addr} {bs : List (Int × Addr)} {f : Int → List Int} {x0 x3 x5 x6 : Option D} {d : Int} {es : List (Str × Int)} (I : DI p bs f S) (nd : (bs.map (·.1)).Nodup) (hl : bs.length ≤ 1000) (hn : ∀ e ∈ es, e.2 ∈ bs.map (·.1)) (he : es.length ≤ 12) (hf : ∀ n, (f n).length ≤ 90000)
    (k : ∀ y5 y6 S', DI p bs (fun n => f n ++ holdE d es n) S' → Dn.nx [x0, some (.ref p), some (.int d), x3, some (.tup (es.map pairSI)), y5, y6] S') : hoB Dn [x0, some (.ref p), some (.int d), x3, some (.tup (es.map pairSI)), x5, x6] S := by
  unfold hoB
  simp only [dFor_eq, diVal_eq]
  refine dV_at (by rfl) ?_
  rw [wIter_tup]
  refine loop_map pairSI (fun done τ S' => DI p bs (fun n => f n ++ holdE d done n) S' ∧ ∃ y5 y6, τ = [x0, some (.ref p), some (.int d), x3, some (.tup (es.map pairSI)), y5, y6]) (fun _ _ _ _ => trivial) (fun τ S' h => ?_) (fun done e rest τ S' es' h N hN => ?_) ⟨by
      have : (fun n => f n ++ holdE d [] n) = f := by funext n; simp [holdE]
      rw [this]; exact I, _, _, rfl⟩
  · obtain ⟨I1, y5, y6, rfl⟩ := h
    exact k _ _ _ I1
  · obtain ⟨I1, y5, y6, rfl⟩ := h
    have hd : done.length < 12 := by
      have := congrArg List.length es'
      rw [List.length_append, List.length_cons] at this
      omega
    refine ⟨rfl, rfl, ?_⟩
    show hoA _ [x0, some (.ref p), some (.int d), x3, some (.tup (es.map pairSI)), some (.str e.1), some (.int e.2)] S'
    refine hoA_of I1 nd hl (hn e (by rw [es']; simp)) (g := fun n => f n ++ holdE d (done ++ [e]) n) ?_ (fun m => ?_) fun S2 I2 => hN _ _ ⟨I2, _, _, rfl⟩
    · have h1 := hf e.2
      have h2 : (holdE d done e.2).length ≤ done.length := by
        unfold holdE
        rw [List.length_map]
        exact List.length_filter_le _ _
      rw [List.length_append]
      omega
    · show f m ++ holdE d (done ++ [e]) m = _
      unfold holdE
      rw [List.filter_append, List.map_append]
      by_cases h : m = e.2
      · rw [if_pos h, List.filter_cons, if_pos (by simpa using h.symm), List.append_assoc]; rfl
      · rw [if_neg h, List.filter_cons, if_neg (by simpa using fun z => h z.symm)]; simp
theorem holdE_len (d : Int) (es : List (Str × Int)) (n : Int) : (holdE d es n).length ≤ es.length := by
  unfold holdE
  rw [List.length_map]
  exact List.length_filter_le _ _
theorem hold_len {rows : List Nd} (h : ∀ r ∈ rows, r.2.2.length ≤ 12) (n : Int) : (hold rows n).length ≤ 12 * rows.length := by
  induction rows with
  | nil => exact Nat.le_refl _
  | cons r l ih =>
    have h1 := ih fun q hq => h q (List.mem_cons_of_mem _ hq)
    have h2 := holdE_len r.1 r.2.2 n
    have h3 := h r (List.mem_cons_self ..)
    show (holdE r.1 r.2.2 n ++ hold l n).length ≤ _
    rw [List.length_append, List.length_cons]
    omega
theorem ho1_of {Dn : DEnds} {S : Sto} {p : Addr} {bs : List (Int × Addr)} {x2 x3 x4 x5 x6 : Option D} {rows : List Nd} {made : Int} (V : TreeV rows made) (I : DI p bs (fun _ => []) S) (ids : bs.map (·.1) = rows.map (·.1)) (hl : rows.length ≤ 1000)
    (k : ∀ y2 y3 y4 y5 y6 S', DI p bs (hold rows) S' → Dn.nx [some (.tup (rows.map rowD)), some (.ref p), y2, y3, y4, y5, y6] S') : ho1 Dn [some (.tup (rows.map rowD)), some (.ref p), x2, x3, x4, x5, x6] S := by
  have nd : (bs.map (·.1)).Nodup := by rw [ids]; exact V.nodup
  have lb : bs.length ≤ 1000 := by
    have := congrArg List.length ids
    rw [List.length_map, List.length_map] at this
    omega
  unfold ho1
  simp only [dFor_eq, diVal_eq]
  refine dV_at (by rfl) ?_
  rw [wIter_tup]
  refine loop_map rowD (fun done τ S' => DI p bs (hold done) S' ∧ ∃ y2 y3 y4 y5 y6, τ = [some (.tup (rows.map rowD)), some (.ref p), y2, y3, y4, y5, y6]) (fun _ _ _ _ => trivial) (fun τ S' h => ?_) (fun done r rest τ S' es h N hN => ?_) ⟨I, _, _, _, _, _, rfl⟩
  · obtain ⟨I1, y2, y3, y4, y5, y6, rfl⟩ := h
    exact k _ _ _ _ _ _ I1
  · obtain ⟨I1, y2, y3, y4, y5, y6, rfl⟩ := h
    have hr : r ∈ rows := by rw [es]; simp
    have ld : done.length < 1000 := by
      have := congrArg List.length es
      rw [List.length_append, List.length_cons] at this
      omega
    refine ⟨rfl, rfl, ?_⟩
    show hoB _ [some (.tup (rows.map rowD)), some (.ref p), some (.int r.1), some (.str r.2.1), some (.tup (r.2.2.map pairSI)), y5, y6] S'
    refine hoB_of I1 nd lb (fun e he => by rw [ids]; exact (V.tg r hr e he).1) (V.ent hr) (fun n => ?_) fun y5 y6 S2 I2 => hN _ _ ⟨?_, _, _, _, _, _, rfl⟩
    · have := hold_len (rows := done) (fun q hq => V.ent (by rw [es]; exact List.mem_append_left _ hq)) n
      omega
    · have e : hold (done ++ [r]) = fun n => hold done n ++ holdE r.1 r.2.2 n := by
        funext n
        unfold hold
        rw [List.flatMap_append]; simp
      rw [e]; exact I2
theorem vc_holders {ds S Q E} (h : sp_holders ds S Q E) : r_holders (bodyEnds Q) (startD N_holders ds) S := by
  have sz : 1001 < sizeLine := by rw [sizeLine_eq]; decide
  obtain ⟨rows, made, rfl, V, hl, k⟩ := h
  show r_holders _ [some (.tup (rows.map rowD)), none, none, none, none, none, none] S
  unfold r_holders
  simp only [dSeq_eq]
  unfold ho0
  simp only [dAsg_eq, dDC_eq, diVal_eq]
  refine dV_at (by rfl) ?_
  rw [wIter_tup]
  intro p hp
  refine loopC_map rowD (fun done S' => ∃ bs, DI p bs (fun _ => []) S' ∧ bs.map (·.1) = done.map (·.1)) (fun _ _ _ => trivial) (fun S' h => ?_) (fun done r rest S' es h N hN => ?_) ⟨[], ⟨put_same, by simp, by simp⟩, rfl⟩
  · obtain ⟨bs, I, ids⟩ := h
    show ho1 _ [some (.tup (rows.map rowD)), some (.ref p), none, none, none, none, none] S'
    refine ho1_of V I ids hl fun y2 y3 y4 y5 y6 S2 I2 => ?_
    show ho2 (bodyEnds Q) [some (.tup (rows.map rowD)), some (.ref p), y2, y3, y4, y5, y6] S2
    unfold ho2
    rw [dRet_eq]
    refine dV_at (by rfl) ?_
    exact k p bs S2 I2 ids
  · obtain ⟨bs, I, ids⟩ := h
    have lb : bs.length < 1000 := by
      have h1 := congrArg List.length ids
      have h2 := congrArg List.length es
      rw [List.length_map, List.length_map] at h1
      rw [List.length_append, List.length_cons] at h2
      omega
    have hx : r.1 ∉ bs.map (·.1) := by
      have nd := V.nodup
      rw [es, List.map_append, List.nodup_append] at nd
      rw [ids]
      exact fun z => nd.2.2 _ z _ (List.mem_cons_self ..) rfl
    refine ⟨rfl, rfl, rfl, ?_⟩
    rw [dYes_eq, if_pos rfl, compR_nil, emDct_eq]
    refine dV_at (by rfl) ?_
    rw [dLst_eq, dNil_eq]
    refine ⟨by show 0 ≤ sizeLine; omega, fun q hq => ?_⟩
    have I1 := I.new (o := .lst []) hq
    have qp : q ≠ p := Ne.symm (ne_of_free hq I.gp)
    have qb : q ∉ bs.map (·.2) := fun z => by
      obtain ⟨b, hb, rfl⟩ := List.mem_map.mp z
      rw [(I.gi b hb).2] at hq; cases hq
    have e1 : put S' q (.lst []) q = some (.lst []) := put_same
    generalize put S' q (.lst []) = S1 at *
    rw [I1.gp]
    have fit : keyFitW (bs.map fun b => (D.int b.1, D.ref b.2)) (.int r.1) = true := keyFitW_int (f := fun b : Int × Addr => b.1) (g := fun b : Int × Addr => D.ref b.2) (xs := bs) (n := r.1)
    have e2 := dPut_int_new (f := fun b : Int × Addr => b.1) (g := fun b : Int × Addr => D.ref b.2) (xs := bs) (y := (r.1, q)) hx
    refine ⟨fit, by rw [List.length_map]; omega, hN _ ⟨bs ++ [(r.1, q)], ?_, by rw [List.map_append, List.map_append, ids]; rfl⟩⟩
    have I2 := I1.add (n := r.1) e1 rfl qp qb
    rw [← e2] at I2
    exact I2
end KD
namespace KD
open PySem PySem.Spec PyProof.Rows L2 DL KB
inductive Climb (rows : List Nd) : Int → List Int → Prop
  | top : Climb rows 0 []
  | step {x p : Int} {t l : List Int} : x ≠ 0 → hold rows x = p :: t → Climb rows p l → Climb rows x (p :: l)
theorem Climb.uniq {rows : List Nd} : ∀ {x : Int} {l m : List Int}, Climb rows x l → Climb rows x m → l = m := by
  intro x l m h
  induction h generalizing m with
  | top =>
    intro h2
    cases h2 with
    | top => rfl
    | step hx _ _ => exact absurd rfl hx
  | step hx hp _ ih =>
    intro h2
    cases h2 with
    | top => exact absurd rfl hx
    | step _ hp' h' =>
      rw [hp] at hp'
      cases hp'
      rw [ih h']
theorem Climb.sub {rows : List Nd} {x : Int} {l : List Int} (h : Climb rows x l) : ∀ y ∈ l, ∃ m, Climb rows y m ∧ m.length < l.length := by
  induction h with
  | top => intro y hy; cases hy
  | step hx hp c ih =>
    rename_i x' p' t' l'
    intro y hy
    rcases List.mem_cons.mp hy with rfl | hy
    · exact ⟨_, c, Nat.lt_succ_self _⟩
    · obtain ⟨m, a, b⟩ := ih y hy
      exact ⟨m, a, Nat.lt_succ_of_lt b⟩
theorem Climb.nodup {rows : List Nd} {x : Int} {l : List Int} (h : Climb rows x l) : l.Nodup := by
  induction h with
  | top => exact List.nodup_nil
  | step hx hp c ih =>
    refine List.nodup_cons.mpr ⟨fun z => ?_, ih⟩
    obtain ⟨m, a, b⟩ := c.sub _ z
    rw [c.uniq a] at b
    exact Nat.lt_irrefl _ b
theorem hold_mem {rows : List Nd} {x p : Int} : p ∈ hold rows x ↔ ∃ r ∈ rows, r.1 = p ∧ ∃ e ∈ r.2.2, e.2 = x := by
  unfold hold holdE
  constructor
  · intro h
    obtain ⟨r, hr, h⟩ := List.mem_flatMap.mp h
    obtain ⟨e, he, rfl⟩ := List.mem_map.mp h
    obtain ⟨h1, h2⟩ := List.mem_filter.mp he
    exact ⟨r, hr, rfl, e, h1, of_decide_eq_true h2⟩
  · rintro ⟨r, hr, rfl, e, he, h⟩
    exact List.mem_flatMap.mpr ⟨r, hr, List.mem_map.mpr ⟨e, List.mem_filter.mpr ⟨he, decide_eq_true h⟩, rfl⟩⟩
theorem Climb.ids {rows : List Nd} {x : Int} {l : List Int} (h : Climb rows x l) : ∀ y ∈ l, y ∈ rows.map (·.1) := by
  induction h with
  | top => intro y hy; cases hy
  | step hx hp c ih =>
    intro y hy
    rcases List.mem_cons.mp hy with rfl | hy
    · obtain ⟨r, hr, e, _⟩ := hold_mem.mp (by rw [hp]; exact List.mem_cons_self .. : y ∈ hold rows _)
      rw [← e]; exact List.mem_map_of_mem hr
    · exact ih y hy
theorem Climb.len {rows : List Nd} {x : Int} {l : List Int} (h : Climb rows x l) : l.length ≤ rows.length := by
  have := h.nodup.length_le_of_subset h.ids
  rw [List.length_map] at this
  exact this
theorem hold_count (rows : List Nd) (n : Int) : (hold rows n).length = (tgs rows).count n := by
  induction rows with
  | nil => rfl
  | cons r l ih =>
    show (holdE r.1 r.2.2 n ++ hold l n).length = (r.2.2.map (·.2) ++ tgs l).count n
    rw [List.length_append, List.count_append, ih]
    congr 1
    unfold holdE
    rw [List.length_map, List.count_eq_countP, List.countP_map, List.countP_eq_length_filter]
    congr 2
theorem TreeV.drawer {rows : List Nd} {made : Int} (V : TreeV rows made) {r : Nd} (hr : r ∈ rows) {e : Str × Int} (he : e ∈ r.2.2) : r.2.1 = ("drawer" : Str) := by
  rcases V.kd r hr with h | h
  · exact h
  · rw [V.sh r hr h] at he; cases he
theorem TreeV.climb {rows : List Nd} {made : Int} (V : TreeV rows made) {n : Int} (h : Reach rows n) : ∀ q ∈ rows, q.1 = n → q.2.1 = ("drawer" : Str) → ∃ l, Climb rows n l := by
  induction h with
  | top => exact fun _ _ _ _ => ⟨[], .top⟩
  | @step r e hr he _ ih =>
    intro q hq e1 hk
    have hrk := V.drawer hr he
    obtain ⟨l, c⟩ := ih r hr rfl hrk
    have hpos := (V.tg r hr e he).2
    have h1 := V.one q hq hk
    rw [e1, ← hold_count] at h1
    have h2 : r.1 ∈ hold rows e.2 := hold_mem.mpr ⟨r, hr, rfl, e, he, rfl⟩
    cases hh : hold rows e.2 with
    | nil => rw [hh] at h2; cases h2
    | cons p t =>
      rw [hh] at h1 h2
      have ht : t = [] := by
        cases t with
        | nil => rfl
        | cons _ _ => simp at h1
      subst ht
      have : r.1 = p := by simpa using h2
      exact ⟨p :: l, .step (by omega) hh (this ▸ c)⟩
def climbF (rows : List Nd) : Nat → Int → List Int
  | 0, _ => []
  | k + 1, x => if x = 0 then [] else match hold rows x with | [] => [] | p :: _ => p :: climbF rows k p
theorem Climb.eqF {rows : List Nd} {x : Int} {l : List Int} (h : Climb rows x l) : ∀ k, l.length ≤ k → climbF rows k x = l := by
  induction h with
  | top => intro k _; cases k <;> simp [climbF]
  | step hx hp c ih =>
    rename_i x' p' t' l'
    intro k hk
    cases k with
    | zero => simp at hk
    | succ k =>
      rw [climbF, if_neg hx, hp]
      show p' :: climbF rows k p' = _
      rw [ih k (by simpa using hk)]
def abv (rows : List Nd) (n : Int) : List Int := climbF rows rows.length n
theorem TreeV.abv {rows : List Nd} {made : Int} (V : TreeV rows made) {q : Nd} (hq : q ∈ rows) (hk : q.2.1 = ("drawer" : Str)) : Climb rows q.1 (abv rows q.1) := by
  obtain ⟨l, c⟩ := V.climb (V.up q hq hk) q hq rfl hk
  unfold KD.abv
  rw [c.eqF _ c.len]
  exact c
def sp_above : DSp := fun ds S Q E => ∃ rows made n r, ds = [treeD rows made, .int n] ∧ TreeV rows made ∧ rows.length ≤ 1000 ∧ rowO rows n = some r ∧ r.2.1 = ("drawer" : Str) ∧ ∀ S', Q (.tup ((abv rows n).map D.int)) S'
theorem len_above : ∀ ds S Q E, sp_above ds S Q E → ds.length = (["tree", "node"] : List Str).length := fun _ _ _ _ ⟨_, _, _, _, e, _⟩ => by rw [e]; rfl
def ab0 : DTS := dIfS (dTst (dBin wEq (dCall (pur sp_kind_of) [] (dCons (dV 0) (dCons (dV 1) dNil))) (dC (.str "sheet")))) dNever dNext
def ab1 : DTS := dPar 3 4 (dCons (dCall sp_holders [] (dCons (dBin wAt (dV 0) (dC (.int 0))) dNil)) (dCons (dTup dNil) dNil))
def ab2 : DTS := dAsg (dV 1) (gdName 2)
def abB : DTS := dSeq (dAsg (dBin wAt (dBin wAt (dV 3) (dV 2)) (dC (.int 0))) (gdName 2)) (dAsg (dBin wAdd (dV 4) (dTup (dCons (dV 2) dNil))) (gdName 4))
def ab3 : DTS := dWhile (dTst (dBin wNe (dV 2) (dC (.int 0)))) abB
def r_above : DTS := dSeq ab0 (dSeq ab1 (dSeq ab2 (dSeq ab3 (dRet (dV 4)))))
abbrev N_above : List Str := ["tree", "node", "here", "held", "found"]
theorem ab3_of {Dn : DEnds} {S : Sto} {p : Addr} {bs : List (Int × Addr)} {rows : List Nd} {made x : Int} {x0 x1 : Option D} {l : List Int} (V : TreeV rows made) (I : DI p bs (hold rows) S) (ids : bs.map (·.1) = rows.map (·.1)) (hl : rows.length ≤ 1000) (c : Climb rows x l) (hx : x ∈ rows.map (·.1))
    (k : ∀ y, Dn.nx [x0, x1, y, some (.ref p), some (.tup (l.map D.int))] S) : ab3 Dn [x0, x1, some (.int x), some (.ref p), some (.tup [])] S := by
  have sz : 2001 < sizeLine := by rw [sizeLine_eq]; decide
  have nd : (bs.map (·.1)).Nodup := by rw [ids]; exact V.nodup
  have ll := c.len
  unfold ab3
  refine while_of (fun n τ S' => S' = S ∧ ∃ (y : Int) (acc rest : List Int), Climb rows y rest ∧ rest.length = n ∧ acc ++ rest = l ∧ y ∈ rows.map (·.1) ∧ τ = [x0, x1, some (.int y), some (.ref p), some (.tup (acc.map D.int))]) (fun n τ S' h N hN => ?_) ⟨rfl, x, [], l, c, rfl, rfl, hx, rfl⟩
  obtain ⟨rfl, y, acc, rest, cy, hn, ha, hy, rfl⟩ := h
  simp only [dTst_eq, dBin_eq, dC_eq]
  refine dV_at (by rfl) ?_
  rw [wNe_int, isB_bl]
  cases cy with
  | top =>
    rw [if_neg (by decide)]
    rw [List.append_nil] at ha
    subst ha
    exact k _
  | step h0 hp c' =>
    rename_i q t rest'
    rw [if_pos (by simpa using h0)]
    obtain ⟨b, hb, e⟩ := List.mem_map.mp (show y ∈ bs.map (·.1) by rw [ids]; exact hy)
    have hb1 : b.1 = y := e
    unfold abB
    simp only [dSeq_eq, dAsg_eq, dBin_eq, dC_eq, gdName_eq]
    refine dV_at (by rfl) ?_
    refine dV_at (by rfl) ?_
    have g1 := I.get nd hb
    rw [hb1] at g1
    have fit : keyFit (bs.map fun b => (D.int b.1, D.ref b.2)) (.int y) = true := keyFit_int (f := fun b : Int × Addr => b.1) (g := fun b : Int × Addr => D.ref b.2) (xs := bs) (n := y)
    have e2 := (I.gi b hb).2
    rw [hb1, hp] at e2
    rw [wAt_dct I.gp fit g1, wAt_lst e2]
    show onS (atI (D.int q :: t.map D.int) 0) _
    rw [atI0, onS_some]
    refine dV_at (by rfl) ?_
    simp only [dTup_eq, dCons_eq, dNil_eq]
    refine dV_at (by rfl) ?_
    refine ⟨by show 1 ≤ sizeLine; omega, ?_⟩
    rw [wAdd_tup]
    have la : acc.length ≤ l.length := by rw [← ha, List.length_append]; exact Nat.le_add_right _ _
    refine ⟨by rw [List.length_map]; show _ + 1 ≤ _; omega, ?_⟩
    have e3 : acc.map D.int ++ [D.int q] = (acc ++ [q]).map D.int := by rw [List.map_append]; rfl
    rw [e3]
    refine hN rest'.length _ _ (by rw [← hn]; exact Nat.lt_succ_self _) ⟨rfl, q, acc ++ [q], rest', c', rfl, by rw [List.append_assoc]; exact ha, ?_, rfl⟩
    obtain ⟨r, hr, er, _⟩ := hold_mem.mp (by rw [hp]; exact List.mem_cons_self .. : q ∈ hold rows y)
    rw [← er]; exact List.mem_map_of_mem hr
theorem vc_above {ds S Q E} (h : sp_above ds S Q E) : r_above (bodyEnds Q) (startD N_above ds) S := by
  obtain ⟨rows, made, n, r, rfl, V, hl, hr, hk, k⟩ := h
  obtain ⟨hm, rfl⟩ := rowO_mem hr
  have hin : r.1 ∈ rows.map (·.1) := List.mem_map_of_mem hm
  have hpos := V.pos hin
  have c := V.abv hm hk
  show r_above _ [some (treeD rows made), some (.int r.1), none, none, none] S
  unfold r_above
  simp only [dSeq_eq]
  unfold ab0
  simp only [dIfS_eq, dTst_eq, dBin_eq, dC_eq, dCall_eq, dCons_eq, dNil_eq, List.append_nil]
  refine dV_at (by rfl) ?_
  refine dV_at (by rfl) ?_
  refine ⟨rows, made, r.1, r, rfl, hr, hpos, fun _ => ?_⟩
  show wEq (.str r.2.1) (.str "sheet") _ _
  rw [wEq_str, isB_bl, if_neg (by rw [hk]; simpa using drawer_ne_sheet)]
  show ab1 _ [some (treeD rows made), some (.int r.1), none, none, none] S
  unfold ab1
  simp only [dPar_eq, dCall_eq, dCons_eq, dNil_eq, dBin_eq, dC_eq, dTup_eq, List.append_nil]
  refine dV_at (by rfl) ?_
  unfold treeD
  rw [wAt_tup, atI0, onS_some]
  refine ⟨rows, made, rfl, V, hl, fun p bs S2 I ids => ?_⟩
  refine ⟨by show 0 ≤ sizeLine; exact Nat.zero_le _, ?_⟩
  show ab2 _ [some (.tup [.tup (rows.map rowD), .int made]), some (.int r.1), none, some (.ref p), some (.tup [])] S2
  unfold ab2
  simp only [dAsg_eq, gdName_eq]
  refine dV_at (by rfl) ?_
  refine ab3_of V I ids hl c hin fun y => ?_
  show dRet (dV 4) (bodyEnds Q) [some (.tup [.tup (rows.map rowD), .int made]), some (.int r.1), y, some (.ref p), some (.tup ((abv rows r.1).map D.int))] S2
  rw [dRet_eq]
  refine dV_at (by rfl) ?_
  exact k _
def inside (rows : List Nd) (n d : Int) : Bool := decide (n = d) || decide (n ∈ abv rows d)
end KD
namespace KD
open PySem PySem.Spec PyProof.Rows L2 DL KB
def putO (es : List (Str × Option Int)) (x : Str) (v : Option Int) : List (Str × Option Int) := if (es.any fun p => decide (p.1 = x)) = true then es.map (fun p => if p.1 = x then (p.1, v) else p) else es ++ [(x, v)]
theorem putO_names (es : List (Str × Option Int)) (x : Str) (v : Option Int) : (putO es x v).map (·.1) = if x ∈ es.map (·.1) then es.map (·.1) else es.map (·.1) ++ [x] := by
  unfold putO
  by_cases h : x ∈ es.map (·.1)
  · rw [if_pos h]
    have : (es.any fun p => decide (p.1 = x)) = true := by
      obtain ⟨p, hp, e⟩ := List.mem_map.mp h
      exact List.any_eq_true.mpr ⟨p, hp, decide_eq_true e⟩
    rw [if_pos this, List.map_map]
    refine List.map_congr_left fun p _ => ?_
    simp only [Function.comp_def]
    split <;> rfl
  · rw [if_neg h]
    have : ¬ (es.any fun p => decide (p.1 = x)) = true := fun z => by
      obtain ⟨p, hp, e⟩ := List.any_eq_true.mp z
      exact h (List.mem_map.mpr ⟨p, hp, of_decide_eq_true e⟩)
    rw [if_neg this, List.map_append]; rfl
theorem putO_nodup {es : List (Str × Option Int)} {x : Str} {v : Option Int} (h : (es.map (·.1)).Nodup) : ((putO es x v).map (·.1)).Nodup := by
  rw [putO_names]
  split
  · exact h
  · rename_i hx
    rw [List.nodup_append]
    refine ⟨h, by simp, fun a ha b hb e => ?_⟩
    rw [List.mem_singleton.mp hb] at e
    exact hx (e ▸ ha)
theorem putO_len (es : List (Str × Option Int)) (x : Str) (v : Option Int) : (putO es x v).length ≤ es.length + 1 := by
  unfold putO
  split
  · rw [List.length_map]; exact Nat.le_succ _
  · rw [List.length_append]; exact Nat.le_refl _
abbrev Chg := Int × Str × Option Int
def opn (es : List (Str × Int)) : List (Str × Option Int) := es.map fun e => (e.1, some e.2)
def fst0 (rows : List Nd) (n : Int) : List (Str × Option Int) := opn (entO rows n)
def chgF (f : Int → List (Str × Option Int)) (c : Chg) : Int → List (Str × Option Int) := fun n => if n = c.1 then putO (f n) c.2.1 c.2.2 else f n
def chs (rows : List Nd) (cs : List Chg) : Int → List (Str × Option Int) := cs.foldl chgF (fst0 rows)
def kp (es : List (Str × Option Int)) : List (Str × Int) := es.filterMap fun e => e.2.map fun t => (e.1, t)
def named (rows : List Nd) (cs : List Chg) : List Int := rows.flatMap fun r => (kp (chs rows cs r.1)).map (·.2)
def rowL (rows : List Nd) (cs : List Chg) (r : Nd) : Nd := (r.1, r.2.1, srtE (kp (chs rows cs r.1)))
def stays (rows : List Nd) (cs : List Chg) (r : Nd) : Bool := decide (r.1 = 0) || decide (r.1 ∈ named rows cs)
def lay (rows : List Nd) (cs : List Chg) : List Nd := (rows.map (rowL rows cs)).filter (stays rows cs)
end KD
namespace KD
open PySem PySem.Spec PyProof.Rows L2 DL KB
theorem kp_names (es : List (Str × Option Int)) : ((kp es).map (·.1)).Sublist (es.map (·.1)) := by
  induction es with
  | nil => exact .slnil
  | cons e r ih =>
    unfold kp at *
    rw [List.filterMap_cons]
    cases h : e.2 with
    | none => exact ih.cons _
    | some t => exact ih.cons₂ _
end KD
namespace KD
open PySem PySem.Spec PyProof.Rows L2 DL KB
theorem chs_ok {rows : List Nd} : ∀ (cs : List Chg) (f : Int → List (Str × Option Int)), (∀ n, ((f n).map (·.1)).Nodup) → ∀ n, (((cs.foldl chgF f) n).map (·.1)).Nodup ∧ ((cs.foldl chgF f) n).length ≤ (f n).length + cs.length
  | [], f, h, n => ⟨h n, Nat.le_refl _⟩
  | c :: r, f, h, n => by
    have h2 : ∀ n, ((chgF f c n).map (·.1)).Nodup := fun n => by
      unfold chgF
      split
      · exact putO_nodup (h n)
      · exact h n
    obtain ⟨a, b⟩ := chs_ok (rows := rows) r (chgF f c) h2 n
    refine ⟨a, Nat.le_trans b ?_⟩
    have : (chgF f c n).length ≤ (f n).length + 1 := by
      unfold chgF
      split
      · exact putO_len _ _ _
      · exact Nat.le_succ _
    rw [List.length_cons]
    omega
theorem lay_asc {rows : List Nd} {cs : List Chg} (h : (rows.map (·.1)).Pairwise (· < ·)) : ((lay rows cs).map (·.1)).Pairwise (· < ·) := by
  unfold lay
  have e : ((rows.map (rowL rows cs)).map (·.1)) = rows.map (·.1) := by rw [List.map_map]; rfl
  rw [← e] at h
  exact h.sublist ((List.filter_sublist).map _)
end KD
namespace KD
open PySem PySem.Spec PyProof.Rows L2 DL KB
def Ms.Dw (m : Ms) (i : Nat) : DL.D := match m with
  | .ok => .non
  | .sh k => .tup [.str "sheet", .int k, .int i]
  | .no k => .tup [.str "none", .int k, .int i]
def ent (rows : List Nd) (w : List Str) : Option Int := lk (lastN w) (entO rows (drw rows w).1)
def both (rows : List Nd) (w v : List Str) : List Int × List (Option Int) × D :=
  if (drw rows w).2 ≠ .ok then ([], [], (drw rows w).2.Dw 0) else if (drw rows v).2 ≠ .ok then ([], [], (drw rows v).2.Dw 1) else
    ([(drw rows w).1, (drw rows v).1], [ent rows w, ent rows v], if ent rows w = none then .tup [.str "none", .int (w.length - 1 : Nat), .int 0] else .non)
end KD
namespace KD
open PySem PySem.Spec PyProof.Rows L2 DL KB
abbrev TreeT := List Nd × Int
def tD (t : TreeT) : D := treeD t.1 t.2
def fullN (rows : List Nd) (n : Int) : Bool := match rowO rows n with | some r => full r | none => false
def dropF (t : TreeT) (w : List Str) : TreeT × D :=
  if (drw t.1 w).2 ≠ .ok then (t, (drw t.1 w).2.D) else match ent t.1 w with
  | none => (t, .tup [.str "none", .int (w.length - 1 : Nat)])
  | some n => if fullN t.1 n = true then (t, .tup [.str "full"]) else ((lay t.1 [((drw t.1 w).1, lastN w, none)], t.2), .tup [.str "dropped", .int n])
theorem ent_in {rows : List Nd} {made : Int} (V : TreeV rows made) {w : List Str} {n : Int} (h : ent rows w = some n) : n ∈ rows.map (·.1) ∧ 0 < n := by
  unfold ent at h
  obtain ⟨r, a, b, c⟩ := V.at_ (drw_in V w)
  rw [entO_eq a] at h
  exact V.tg r b _ (lk_mem h)
end KD
namespace KD
open PySem PySem.Spec PyProof.Rows L2 DL KB
def makeF (t : TreeT) (w : List Str) (kd : Str) : TreeT × D :=
  if (drw t.1 w).2 ≠ .ok then (t, (drw t.1 w).2.D) else if ent t.1 w ≠ none then (t, .tup [.str "there"]) else
    ((lay (t.1 ++ [(t.2, kd, [])]) [((drw t.1 w).1, lastN w, some t.2)], t.2 + 1), .tup [.str "made", .int t.2])
def bar (rows : List Nd) (g n : Int) (old : Option Int) : Option Str :=
  if old = some n then some "same" else if kindO rows n = "drawer" ∧ inside rows n g = true then some "inside" else match old with
  | none => none
  | some o => if kindO rows o ≠ kindO rows n then some "kind" else if fullN rows o = true then some "full" else none
end KD
namespace KD
open PySem PySem.Spec PyProof.Rows L2 DL KB
theorem both_ok {rows : List Nd} {w v : List Str} (h : (both rows w v).2.2 = .non) : (drw rows w).2 = .ok ∧ (drw rows v).2 = .ok ∧ ∃ a, ent rows w = some a ∧ both rows w v = ([(drw rows w).1, (drw rows v).1], [some a, ent rows v], .non) := by
  unfold both at h ⊢
  by_cases h1 : (drw rows w).2 ≠ .ok
  · rw [if_pos h1] at h
    cases hm : (drw rows w).2 with
    | ok => exact absurd hm h1
    | sh k => rw [hm] at h; cases h
    | no k => rw [hm] at h; cases h
  · rw [if_neg h1] at h ⊢
    by_cases h2 : (drw rows v).2 ≠ .ok
    · rw [if_pos h2] at h
      cases hm : (drw rows v).2 with
      | ok => exact absurd hm h2
      | sh k => rw [hm] at h; cases h
      | no k => rw [hm] at h; cases h
    · rw [if_neg h2] at h ⊢
      cases he : ent rows w with
      | none => rw [he] at h; cases h
      | some a => exact ⟨Classical.not_not.mp h1, Classical.not_not.mp h2, a, rfl, rfl⟩
def linkF (t : TreeT) (w v : List Str) : TreeT × D :=
  if (both t.1 w v).2.2 ≠ .non then (t, (both t.1 w v).2.2) else match ent t.1 w with
  | none => (t, .non)
  | some a => if kindO t.1 a = "drawer" then (t, .tup [.str "kind"]) else if ent t.1 v ≠ none then (t, .tup [.str "there"]) else
    ((lay t.1 [((drw t.1 v).1, lastN v, some a)], t.2), .tup [.str "linked", .int a])
end KD
namespace KD
open PySem PySem.Spec PyProof.Rows L2 DL KB
def moveF (t : TreeT) (w v : List Str) : TreeT × D :=
  if (both t.1 w v).2.2 ≠ .non then (t, (both t.1 w v).2.2) else match ent t.1 w with
  | none => (t, .non)
  | some a => match bar t.1 (drw t.1 v).1 a (ent t.1 v) with
    | some s => (t, .tup [.str s])
    | none => ((lay t.1 [((drw t.1 w).1, lastN w, none), ((drw t.1 v).1, lastN v, some a)], t.2), .tup [.str "moved", .int a])
end KD
namespace KD
open PySem PySem.Spec PyProof.Rows L2 DL KB
def swapF (t : TreeT) (w v : List Str) : TreeT × D :=
  if (both t.1 w v).2.2 ≠ .non then (t, (both t.1 w v).2.2) else match ent t.1 w, ent t.1 v with
  | some a, some b => if a = b then (t, .tup [.str "same"]) else if inside t.1 a (drw t.1 v).1 = true ∨ inside t.1 b (drw t.1 w).1 = true then (t, .tup [.str "inside"]) else
    ((lay t.1 [((drw t.1 w).1, lastN w, some b), ((drw t.1 v).1, lastN v, some a)], t.2), .tup [.str "swapped", .int a, .int b])
  | _, _ => (t, .tup [.str "none", .int (v.length - 1 : Nat), .int 1])
end KD
namespace KD
open PySem PySem.Spec PyProof.Rows L2 DL KB
def doF (t : TreeT) : Dd → TreeT × D
  | .one x w => if x = ("look" : Str) then (t, lookD t.1 w) else if x = ("list" : Str) then (t, listD t.1 w) else dropF t w
  | .mk w k => makeF t w k
  | .two x w v => if x = ("link" : Str) then linkF t w v else if x = ("move" : Str) then moveF t w v else swapF t w v
def Dd.sh : Dd → Prop
  | .one x w => x ∈ (["look", "list", "drop"] : List Str) ∧ w.length ≤ 6 ∧ (x = ("drop" : Str) → w ≠ [])
  | .mk w k => w.length ≤ 6 ∧ w ≠ [] ∧ isK k
  | .two x w v => x ∈ (["link", "move", "swap"] : List Str) ∧ w.length ≤ 6 ∧ w ≠ [] ∧ v.length ≤ 6 ∧ v ≠ []
def sp_done : DSp := fun ds S Q E => ∃ t d, ds = [tD t, Dd.D d] ∧ TreeV t.1 t.2 ∧ t.1.length ≤ 900 ∧ Dd.sh d ∧ ∀ S', Q (.tup [tD (doF t d).1, (doF t d).2]) S'
end KD
namespace KD
open PySem PySem.Spec PyProof.Rows L2 DL KB
theorem lay_mem {rows : List Nd} {cs : List Chg} {q : Nd} : q ∈ lay rows cs ↔ ∃ r ∈ rows, q = rowL rows cs r ∧ stays rows cs q = true := by
  unfold lay
  rw [List.mem_filter, List.mem_map]
  constructor
  · rintro ⟨⟨r, hr, rfl⟩, h⟩; exact ⟨r, hr, rfl, h⟩
  · rintro ⟨r, hr, rfl, h⟩; exact ⟨⟨r, hr, rfl⟩, h⟩
theorem rowL_es {rows : List Nd} {cs : List Chg} {r : Nd} {e : Str × Int} : e ∈ (rowL rows cs r).2.2 ↔ e ∈ kp (chs rows cs r.1) := (srtE_perm _).mem_iff
theorem kp_mem {es : List (Str × Option Int)} {x : Str} {t : Int} : (x, t) ∈ kp es ↔ (x, some t) ∈ es := by
  unfold kp
  rw [List.mem_filterMap]
  constructor
  · rintro ⟨⟨y, o⟩, h, e⟩
    cases o with
    | none => cases e
    | some u => simp only [Option.map_some, Option.some.injEq, Prod.mk.injEq] at e; obtain ⟨rfl, rfl⟩ := e; exact h
  · intro h; exact ⟨_, h, rfl⟩
theorem lay_len {rows : List Nd} {cs : List Chg} : (lay rows cs).length ≤ rows.length := by
  unfold lay
  refine Nat.le_trans (List.length_filter_le _ _) ?_
  rw [List.length_map]; exact Nat.le_refl _
theorem doF_len (t : TreeT) (d : Dd) : (doF t d).1.1.length ≤ t.1.length + 1 := by
  have l1 : ∀ cs, (lay t.1 cs).length ≤ t.1.length + 1 := fun cs => Nat.le_trans lay_len (Nat.le_succ _)
  have l0 : t.1.length ≤ t.1.length + 1 := Nat.le_succ _
  cases d with
  | one x w =>
    rw [doF]
    split
    · exact l0
    · split
      · exact l0
      · unfold dropF
        split
        · exact l0
        · split
          · exact l0
          · split
            · exact l0
            · exact l1 _
  | mk w k =>
    rw [doF]
    unfold makeF
    split
    · exact l0
    · split
      · exact l0
      · refine Nat.le_trans lay_len ?_
        rw [List.length_append]; exact Nat.le_refl _
  | two x w v =>
    rw [doF]
    split
    · unfold linkF
      split
      · exact l0
      · split
        · exact l0
        · split
          · exact l0
          · split
            · exact l0
            · exact l1 _
    · split
      · unfold moveF
        split
        · exact l0
        · split
          · exact l0
          · split
            · exact l0
            · exact l1 _
      · unfold swapF
        split
        · exact l0
        · split
          · split
            · exact l0
            · split
              · exact l0
              · exact l1 _
          · exact l0
theorem doF_made (t : TreeT) (d : Dd) : ((doF t d).1.2 = t.2) ∨ ((doF t d).1.2 = t.2 + 1 ∧ (doF t d).2 = .tup [.str "made", .int t.2]) := by
  cases d with
  | one x w =>
    rw [doF]
    split
    · exact .inl rfl
    · split
      · exact .inl rfl
      · unfold dropF
        split
        · exact .inl rfl
        · split
          · exact .inl rfl
          · split <;> exact .inl rfl
  | mk w k =>
    rw [doF]
    unfold makeF
    split
    · exact .inl rfl
    · split
      · exact .inl rfl
      · exact .inr ⟨rfl, rfl⟩
  | two x w v =>
    rw [doF]
    split
    · unfold linkF
      split
      · exact .inl rfl
      · split
        · exact .inl rfl
        · split
          · exact .inl rfl
          · split <;> exact .inl rfl
    · split
      · unfold moveF
        split
        · exact .inl rfl
        · split
          · exact .inl rfl
          · split <;> exact .inl rfl
      · unfold swapF
        split
        · exact .inl rfl
        · split
          · split
            · exact .inl rfl
            · split <;> exact .inl rfl
          · exact .inl rfl
end KD
namespace KD
open PySem PySem.Spec PyProof.Rows L2 DL KB
structure LT (NS : List Str) (rows : List Nd) (made : Int) (cs : List Chg) : Prop where
  asc : (rows.map (·.1)).Pairwise (· < ·)
  top : ∃ es r, rows = ((0 : Int), ("drawer" : Str), es) :: r
  lt : ∀ r ∈ rows, r.1 < made
  kd : ∀ r ∈ rows, isK r.2.1
  sh : ∀ r ∈ rows, r.2.1 = ("sheet" : Str) → chs rows cs r.1 = []
  nd : ∀ r ∈ rows, ((chs rows cs r.1).map (·.1)).Nodup
  nm : ∀ r ∈ rows, ∀ e ∈ chs rows cs r.1, e.1 ∈ NS
  tg : ∀ r ∈ rows, ∀ e ∈ kp (chs rows cs r.1), e.2 ∈ rows.map (·.1) ∧ 0 < e.2
theorem LT.easy {NS : List Str} {rows : List Nd} {made : Int} {cs : List Chg} (h : LT NS rows made cs) : ((lay rows cs).map (·.1)).Pairwise (· < ·) ∧ (∀ q ∈ lay rows cs, q.1 < made) ∧ (∀ q ∈ lay rows cs, isK q.2.1) ∧ (∀ q ∈ lay rows cs, q.2.1 = ("sheet" : Str) → q.2.2 = []) ∧ (∀ q ∈ lay rows cs, (q.2.2.map (·.1)).Nodup) ∧ (∀ q ∈ lay rows cs, ∀ e ∈ q.2.2, e.1 ∈ NS) := by
  refine ⟨lay_asc h.asc, fun q hq => ?_, fun q hq => ?_, fun q hq hs => ?_, fun q hq => ?_, fun q hq e he => ?_⟩ <;> obtain ⟨r, hr, rfl, _⟩ := lay_mem.mp hq
  · exact h.lt r hr
  · exact h.kd r hr
  · have e : chs rows cs r.1 = [] := h.sh r hr hs
    show srtE (kp (chs rows cs r.1)) = []
    rw [e]; exact List.mergeSort_nil ..
  · exact ((srtE_perm _).map _).nodup_iff.mpr ((h.nd r hr).sublist (kp_names _))
  · have := (rowL_es.mp he)
    have h2 : e.1 ∈ (kp (chs rows cs r.1)).map (·.1) := List.mem_map_of_mem this
    obtain ⟨p, hp, e2⟩ := List.mem_map.mp ((kp_names _).subset h2)
    rw [← e2]; exact h.nm r hr p hp
theorem named_mem {rows : List Nd} {cs : List Chg} {n : Int} : n ∈ named rows cs ↔ ∃ r ∈ rows, ∃ e ∈ kp (chs rows cs r.1), e.2 = n := by
  unfold named
  constructor
  · intro h
    obtain ⟨r, hr, h⟩ := List.mem_flatMap.mp h
    obtain ⟨e, he, rfl⟩ := List.mem_map.mp h
    exact ⟨r, hr, e, he, rfl⟩
  · rintro ⟨r, hr, e, he, rfl⟩
    exact List.mem_flatMap.mpr ⟨r, hr, List.mem_map_of_mem he⟩
theorem LT.tgt {NS : List Str} {rows : List Nd} {made : Int} {cs : List Chg} (h : LT NS rows made cs) : ∀ q ∈ lay rows cs, ∀ e ∈ q.2.2, e.2 ∈ (lay rows cs).map (·.1) ∧ 0 < e.2 := fun q hq e he => by
  obtain ⟨r, hr, rfl, _⟩ := lay_mem.mp hq
  have he' := rowL_es.mp he
  obtain ⟨h1, h2⟩ := h.tg r hr e he'
  refine ⟨?_, h2⟩
  obtain ⟨r2, hr2, e2⟩ := List.mem_map.mp h1
  refine List.mem_map.mpr ⟨rowL rows cs r2, lay_mem.mpr ⟨r2, hr2, rfl, ?_⟩, e2⟩
  unfold stays
  have : (rowL rows cs r2).1 ∈ named rows cs := named_mem.mpr ⟨r, hr, e, he', e2.symm⟩
  rw [decide_eq_true this, Bool.or_true]
theorem lay_hd {rows : List Nd} {cs : List Chg} (em : ∀ r ∈ rows, stays rows cs (rowL rows cs r) = false → kp (chs rows cs r.1) = []) : ∀ q ∈ lay rows cs, q.1 ≠ 0 → q.1 ∈ tgs (lay rows cs) := fun q hq h0 => by
  obtain ⟨r, hr, rfl, hs⟩ := lay_mem.mp hq
  unfold stays at hs
  rw [decide_eq_false h0, Bool.false_or] at hs
  obtain ⟨r2, hr2, e, he, e2⟩ := named_mem.mp (of_decide_eq_true hs)
  have st : stays rows cs (rowL rows cs r2) = true := by
    cases z : stays rows cs (rowL rows cs r2) with
    | true => rfl
    | false => rw [em r2 hr2 z] at he; cases he
  rw [← e2]
  exact List.mem_flatMap.mpr ⟨rowL rows cs r2, lay_mem.mpr ⟨r2, hr2, rfl, st⟩, List.mem_map_of_mem (f := fun e : Str × Int => e.2) (rowL_es.mpr he)⟩
end KD
namespace KD
open PySem PySem.Spec PyProof.Rows L2 DL KB
def Ed (rows : List Nd) (d : Int) (x : Str) (n : Int) : Prop := ∃ r ∈ rows, r.1 = d ∧ (x, n) ∈ r.2.2
def Nw (rows : List Nd) (cs : List Chg) (d : Int) (x : Str) (n : Int) : Prop := d ∈ rows.map (·.1) ∧ (x, some n) ∈ chs rows cs d
theorem named_iff {rows : List Nd} {cs : List Chg} {n : Int} : n ∈ named rows cs ↔ ∃ d x, Nw rows cs d x n := by
  rw [named_mem]
  constructor
  · rintro ⟨r, hr, ⟨x, m⟩, he, rfl⟩
    exact ⟨r.1, x, List.mem_map_of_mem hr, kp_mem.mp he⟩
  · rintro ⟨d, x, hd, he⟩
    obtain ⟨r, hr, rfl⟩ := List.mem_map.mp hd
    exact ⟨r, hr, (x, n), kp_mem.mpr he, rfl⟩
theorem Ed_lay {rows : List Nd} {cs : List Chg} (em : ∀ r ∈ rows, stays rows cs (rowL rows cs r) = false → kp (chs rows cs r.1) = []) {d : Int} {x : Str} {n : Int} : Ed (lay rows cs) d x n ↔ Nw rows cs d x n := by
  constructor
  · rintro ⟨q, hq, rfl, he⟩
    obtain ⟨r, hr, rfl, _⟩ := lay_mem.mp hq
    have hm : r.1 ∈ rows.map (·.1) := List.mem_map_of_mem hr
    exact ⟨hm, kp_mem.mp (rowL_es.mp he)⟩
  · rintro ⟨hd, he⟩
    obtain ⟨r, hr, rfl⟩ := List.mem_map.mp hd
    have he := kp_mem.mpr he
    cases z : stays rows cs (rowL rows cs r) with
    | false => rw [em r hr z] at he; cases he
    | true => exact ⟨rowL rows cs r, lay_mem.mpr ⟨r, hr, rfl, z⟩, rfl, rowL_es.mpr he⟩
theorem mem_putO {es : List (Str × Option Int)} {x0 x : Str} {v : Option Int} {n : Int} : (x, some n) ∈ putO es x0 v ↔ if x = x0 then v = some n else (x, some n) ∈ es := by
  unfold putO
  by_cases h : (es.any fun p => decide (p.1 = x0)) = true
  · rw [if_pos h, List.mem_map]
    by_cases hx : x = x0
    · subst hx
      rw [if_pos rfl]
      constructor
      · rintro ⟨p, hp, e⟩
        by_cases hz : p.1 = x
        · rw [if_pos hz] at e; exact (Prod.mk.inj e).2
        · rw [if_neg hz] at e; rw [e] at hz; exact absurd rfl hz
      · rintro rfl
        obtain ⟨p, hp, e⟩ := List.any_eq_true.mp h
        have e := of_decide_eq_true e
        exact ⟨p, hp, by rw [if_pos e, e]⟩
    · rw [if_neg hx]
      constructor
      · rintro ⟨p, hp, e⟩
        by_cases hz : p.1 = x0
        · rw [if_pos hz] at e; exact absurd ((Prod.mk.inj e).1.symm.trans hz) hx
        · rw [if_neg hz] at e; rw [← e]; exact hp
      · intro hp; exact ⟨_, hp, by rw [if_neg hx]⟩
  · rw [if_neg h, List.mem_append, List.mem_singleton]
    have h0 : ∀ y, (x0, y) ∉ es := fun y hy => h (List.any_eq_true.mpr ⟨_, hy, decide_eq_true rfl⟩)
    by_cases hx : x = x0
    · subst hx
      rw [if_pos rfl]
      constructor
      · rintro (a | a)
        · exact absurd a (h0 _)
        · exact (Prod.mk.inj a).2.symm
      · rintro rfl; exact Or.inr rfl
    · rw [if_neg hx]
      exact ⟨fun a => a.resolve_right fun b => hx (Prod.mk.inj b).1, Or.inl⟩
theorem mem_chgF {f : Int → List (Str × Option Int)} {c : Chg} {d : Int} {x : Str} {n : Int} : (x, some n) ∈ chgF f c d ↔ if d = c.1 ∧ x = c.2.1 then c.2.2 = some n else (x, some n) ∈ f d := by
  unfold chgF
  by_cases hd : d = c.1
  · rw [if_pos hd, mem_putO]
    by_cases hx : x = c.2.1
    · rw [if_pos hx, if_pos ⟨hd, hx⟩]
    · rw [if_neg hx, if_neg fun h => hx h.2]
  · rw [if_neg hd, if_neg fun h => hd h.1]
theorem mem_opn {es : List (Str × Int)} {x : Str} {n : Int} : (x, some n) ∈ opn es ↔ (x, n) ∈ es := by
  unfold opn
  rw [List.mem_map]
  constructor
  · rintro ⟨⟨a, b⟩, h, e⟩
    simp only [Prod.mk.injEq, Option.some.injEq] at e
    obtain ⟨rfl, rfl⟩ := e
    exact h
  · intro h; exact ⟨_, h, rfl⟩
theorem entO_none {rows : List Nd} {d : Int} (h : rowO rows d = none) : entO rows d = [] := by
  unfold entO; unfold rowO at h; rw [h]
theorem ent_Ed {rows : List Nd} (nd : (rows.map (·.1)).Nodup) {d : Int} {x : Str} {n : Int} : (x, n) ∈ entO rows d ↔ Ed rows d x n := by
  constructor
  · intro h
    cases e : rowO rows d with
    | none => rw [entO_none e] at h; cases h
    | some r =>
      rw [entO_eq e] at h
      exact ⟨r, (rowO_mem e).1, (rowO_mem e).2, h⟩
  · rintro ⟨r, hr, rfl, h⟩
    have : rowO rows r.1 = some r := find_of_mem (f := fun r : Nd => r.1) nd hr
    rw [entO_eq this]
    exact h
theorem fst0_Ed {rows : List Nd} (nd : (rows.map (·.1)).Nodup) {d : Int} {x : Str} {n : Int} : (x, some n) ∈ fst0 rows d ↔ Ed rows d x n := by
  unfold fst0; rw [mem_opn]; exact ent_Ed nd
theorem Nw1 {rows : List Nd} (nd : (rows.map (·.1)).Nodup) {c : Chg} {d : Int} {x : Str} {n : Int} : Nw rows [c] d x n ↔ d ∈ rows.map (·.1) ∧ if d = c.1 ∧ x = c.2.1 then c.2.2 = some n else Ed rows d x n := by
  unfold Nw chs
  rw [List.foldl_cons, List.foldl_nil, mem_chgF, fst0_Ed nd]
theorem Nw2 {rows : List Nd} (nd : (rows.map (·.1)).Nodup) {c c' : Chg} {d : Int} {x : Str} {n : Int} : Nw rows [c, c'] d x n ↔ d ∈ rows.map (·.1) ∧ if d = c'.1 ∧ x = c'.2.1 then c'.2.2 = some n else if d = c.1 ∧ x = c.2.1 then c.2.2 = some n else Ed rows d x n := by
  unfold Nw chs
  rw [List.foldl_cons, List.foldl_cons, List.foldl_nil, mem_chgF, mem_chgF, fst0_Ed nd]
theorem Ed.id {rows : List Nd} {d : Int} {x : Str} {n : Int} (h : Ed rows d x n) : d ∈ rows.map (·.1) := by
  obtain ⟨r, hr, rfl, _⟩ := h; exact List.mem_map_of_mem hr
theorem Reach.ed {rows : List Nd} {d : Int} {x : Str} {n : Int} (h : Ed rows d x n) (r : Reach rows d) : Reach rows n := by
  obtain ⟨q, hq, rfl, he⟩ := h; exact .step (e := (x, n)) hq he r
def eds (rows : List Nd) : List (Int × Str × Int) := rows.flatMap fun r => r.2.2.map fun e => (r.1, e.1, e.2)
theorem mem_eds {rows : List Nd} {d : Int} {x : Str} {n : Int} : (d, x, n) ∈ eds rows ↔ Ed rows d x n := by
  unfold eds
  constructor
  · intro h
    obtain ⟨r, hr, h⟩ := List.mem_flatMap.mp h
    obtain ⟨e, he, h⟩ := List.mem_map.mp h
    cases h
    exact ⟨r, hr, rfl, he⟩
  · rintro ⟨r, hr, rfl, he⟩
    exact List.mem_flatMap.mpr ⟨r, hr, List.mem_map.mpr ⟨(x, n), he, rfl⟩⟩
theorem tgs_eds (rows : List Nd) : tgs rows = (eds rows).map (·.2.2) := by
  unfold tgs eds
  induction rows with
  | nil => rfl
  | cons r rows ih =>
    rw [List.flatMap_cons, List.flatMap_cons, List.map_append, ih, List.map_map]
    rfl
theorem nodup_of_map {α β : Type} {f : α → β} : ∀ {l : List α}, (l.map f).Nodup → l.Nodup
  | [], _ => List.nodup_nil
  | a :: l, h => by
    rw [List.map_cons, List.nodup_cons] at h
    exact List.nodup_cons.mpr ⟨fun z => h.1 (List.mem_map_of_mem z), nodup_of_map h.2⟩
theorem nodup_map_inj {α β : Type} {f : α → β} : ∀ {l : List α}, l.Nodup → (∀ a ∈ l, ∀ b ∈ l, f a = f b → a = b) → (l.map f).Nodup
  | [], _, _ => List.nodup_nil
  | a :: l, h, i => by
    rw [List.nodup_cons] at h
    rw [List.map_cons, List.nodup_cons]
    refine ⟨fun z => ?_, nodup_map_inj h.2 fun a ha b hb => i a (List.mem_cons_of_mem _ ha) b (List.mem_cons_of_mem _ hb)⟩
    obtain ⟨b, hb, e⟩ := List.mem_map.mp z
    have := i a (List.mem_cons_self ..) b (List.mem_cons_of_mem _ hb) e.symm
    exact h.1 (this ▸ hb)
theorem eds_nodup : ∀ {rows : List Nd}, (rows.map (·.1)).Nodup → (∀ r ∈ rows, (r.2.2.map (·.1)).Nodup) → (eds rows).Nodup
  | [], _, _ => List.nodup_nil
  | r :: rows, h, hn => by
    rw [List.map_cons, List.nodup_cons] at h
    have ih := eds_nodup h.2 fun q hq => hn q (List.mem_cons_of_mem _ hq)
    show ((r.2.2.map fun e => (r.1, e.1, e.2)) ++ eds rows).Nodup
    refine List.nodup_append.mpr ⟨?_, ih, ?_⟩
    · refine nodup_map_inj (nodup_of_map (hn r (List.mem_cons_self ..))) fun a _ b _ e => ?_
      simp only [Prod.mk.injEq] at e
      exact Prod.ext e.2.1 e.2.2
    · rintro ⟨d, x, n⟩ ha ⟨d', x', n'⟩ hb e
      cases e
      obtain ⟨e0, _, e1⟩ := List.mem_map.mp ha
      cases e1
      exact h.1 (mem_eds.mp hb).id
theorem count_le_one {α : Type} {f : α → Int} {n : Int} : ∀ {l : List α}, l.Nodup → (∀ a ∈ l, ∀ b ∈ l, f a = n → f b = n → a = b) → (l.map f).count n ≤ 1
  | [], _, _ => Nat.zero_le _
  | a :: l, h, i => by
    rw [List.nodup_cons] at h
    have ih := count_le_one h.2 fun a ha b hb => i a (List.mem_cons_of_mem _ ha) b (List.mem_cons_of_mem _ hb)
    rw [List.map_cons, List.count_cons]
    by_cases e : f a = n
    · have : (l.map f).count n = 0 := List.count_eq_zero.mpr fun z => by
        obtain ⟨b, hb, e2⟩ := List.mem_map.mp z
        exact h.1 (i a (List.mem_cons_self ..) b (List.mem_cons_of_mem _ hb) e e2 ▸ hb)
      rw [this]
      split <;> omega
    · rw [if_neg (by simpa using e)]; omega
theorem count_uniq {α : Type} {f : α → Int} {n : Int} : ∀ {l : List α}, (l.map f).count n ≤ 1 → ∀ a ∈ l, ∀ b ∈ l, f a = n → f b = n → a = b
  | [], _, a, ha, _, _ => by cases ha
  | c :: l, h, a, ha, b, hb => by
    intro ea eb
    rw [List.map_cons, List.count_cons] at h
    have z : ∀ y ∈ l, f y = n → f c ≠ n := fun y hy ey ec => by
      rw [if_pos (by simpa using ec)] at h
      have : 0 < (l.map f).count n := List.count_pos_iff.mpr (by rw [← ey]; exact List.mem_map_of_mem hy)
      omega
    rcases List.mem_cons.mp ha with rfl | ha' <;> rcases List.mem_cons.mp hb with rfl | hb'
    · rfl
    · exact absurd ea (z b hb' eb)
    · exact absurd eb (z a ha' ea)
    · exact count_uniq (Nat.le_trans (Nat.le_add_right _ _) h) a ha' b hb' ea eb
theorem TreeV.uniq {rows : List Nd} {made : Int} (V : TreeV rows made) {r : Nd} (hr : r ∈ rows) (hk : r.2.1 = ("drawer" : Str)) {d d' : Int} {x x' : Str} (h : Ed rows d x r.1) (h' : Ed rows d' x' r.1) : d = d' ∧ x = x' := by
  have o := V.one r hr hk
  rw [tgs_eds] at o
  have := count_uniq (f := fun e : Int × Str × Int => e.2.2) o _ (mem_eds.mpr h) _ (mem_eds.mpr h') rfl rfl
  simp only [Prod.mk.injEq] at this
  exact ⟨this.1, this.2.1⟩
theorem TreeV.fun_ {rows : List Nd} {made : Int} (V : TreeV rows made) {d n m : Int} {x : Str} (h : Ed rows d x n) (h' : Ed rows d x m) : n = m := by
  obtain ⟨r, hr, rfl, he⟩ := h
  obtain ⟨q, hq, e, hf⟩ := h'
  have a := V.row hr
  have b := V.row hq
  rw [e, a] at b
  cases b
  have nd := V.nd r hr
  have i : ∀ {l : List (Str × Int)}, (l.map (·.1)).Nodup → (x, n) ∈ l → (x, m) ∈ l → n = m := by
    intro l
    induction l with
    | nil => intro _ h; cases h
    | cons p l ih =>
      intro nd h1 h2
      rw [List.map_cons, List.nodup_cons] at nd
      rcases List.mem_cons.mp h1 with e1 | h1 <;> rcases List.mem_cons.mp h2 with e2 | h2
      · rw [← e1] at e2; exact (Prod.mk.inj e2).2.symm
      · exact absurd (List.mem_map_of_mem (f := fun p : Str × Int => p.1) h2) (by rw [← e1] at nd; exact nd.1)
      · exact absurd (List.mem_map_of_mem (f := fun p : Str × Int => p.1) h1) (by rw [← e2] at nd; exact nd.1)
      · exact ih nd.2 h1 h2
  exact i nd he hf
end KD
namespace KD
open PySem PySem.Spec PyProof.Rows L2 DL KB
structure NsOk (NS : List Str) : Prop where
  len : NS.length ≤ 12
  ok : ∀ x ∈ NS, ltr x = true
structure TreeN (NS : List Str) (rows : List Nd) (made : Int) : Prop where
  v : TreeV rows made
  ns : NsOk NS
  nm : ∀ r ∈ rows, ∀ e ∈ r.2.2, e.1 ∈ NS
structure TreeU (NS : List Str) (rows : List Nd) (made : Int) : Prop where
  asc : (rows.map (·.1)).Pairwise (· < ·)
  top : ∃ es r, rows = ((0 : Int), ("drawer" : Str), es) :: r
  lt : ∀ r ∈ rows, r.1 < made
  kd : ∀ r ∈ rows, isK r.2.1
  sh : ∀ r ∈ rows, r.2.1 = ("sheet" : Str) → r.2.2 = []
  nd : ∀ r ∈ rows, (r.2.2.map (·.1)).Nodup
  nm : ∀ r ∈ rows, ∀ e ∈ r.2.2, e.1 ∈ NS
theorem TreeU.nodup {NS : List Str} {rows : List Nd} {made : Int} (V : TreeU NS rows made) : (rows.map (·.1)).Nodup := V.asc.imp fun h e => by omega
theorem TreeU.row {NS : List Str} {rows : List Nd} {made : Int} (V : TreeU NS rows made) {r : Nd} (h : r ∈ rows) : rowO rows r.1 = some r := find_of_mem (f := fun r : Nd => r.1) V.nodup h
theorem TreeN.u {NS : List Str} {rows : List Nd} {made : Int} (W : TreeN NS rows made) : TreeU NS rows made := ⟨W.v.asc, W.v.top, W.v.lt, W.v.kd, W.v.sh, W.v.nd, W.nm⟩
theorem chs_other {n : Int} : ∀ (cs : List Chg) (f : Int → List (Str × Option Int)), (∀ c ∈ cs, c.1 ≠ n) → (cs.foldl chgF f) n = f n
  | [], _, _ => rfl
  | c :: cs, f, h => by
    rw [List.foldl_cons, chs_other cs _ fun c hc => h c (List.mem_cons_of_mem _ hc)]
    unfold chgF
    rw [if_neg fun e => h c (List.mem_cons_self ..) e.symm]
theorem chs_nm {NS : List Str} : ∀ (cs : List Chg) (f : Int → List (Str × Option Int)) {n : Int}, (∀ c ∈ cs, c.2.1 ∈ NS) → (∀ x ∈ (f n).map (·.1), x ∈ NS) → ∀ x ∈ ((cs.foldl chgF f) n).map (·.1), x ∈ NS
  | [], _, _, _, h => h
  | c :: cs, f, n, hc, h => by
    rw [List.foldl_cons]
    refine chs_nm cs _ (fun c hc' => hc c (List.mem_cons_of_mem _ hc')) ?_
    unfold chgF
    split
    · rw [putO_names]
      split
      · exact h
      · intro x hx
        rcases List.mem_append.mp hx with hx | hx
        · exact h x hx
        · rw [List.mem_singleton] at hx; rw [hx]; exact hc c (List.mem_cons_self ..)
    · exact h
theorem opn_names (es : List (Str × Int)) : (opn es).map (·.1) = es.map (·.1) := by
  unfold opn; rw [List.map_map]; rfl
theorem TreeU.lt_ {NS : List Str} {rows : List Nd} {made : Int} {cs : List Chg} (U : TreeU NS rows made) (cd : ∀ c ∈ cs, ∃ r ∈ rows, r.1 = c.1 ∧ r.2.1 = ("drawer" : Str)) (cn : ∀ c ∈ cs, c.2.1 ∈ NS) (ct : ∀ d x n, Nw rows cs d x n → n ∈ rows.map (·.1) ∧ 0 < n) : LT NS rows made cs := by
  have f0 : ∀ r ∈ rows, fst0 rows r.1 = opn r.2.2 := fun r hr => by unfold fst0; rw [entO_eq (U.row hr)]
  refine ⟨U.asc, U.top, U.lt, U.kd, fun r hr hs => ?_, fun r hr => ?_, fun r hr e he => ?_, fun r hr e he => ?_⟩
  · unfold chs
    rw [chs_other cs _ fun c hc e => ?_, f0 r hr, U.sh r hr hs]
    · rfl
    · obtain ⟨q, hq, e1, e2⟩ := cd c hc
      have a := U.row hq
      have b := U.row hr
      rw [e1, e, b] at a
      cases a
      rw [e2] at hs
      exact drawer_ne_sheet hs
  · refine (chs_ok (rows := rows) cs (fst0 rows) (fun n => ?_) r.1).1
    unfold fst0
    rw [opn_names]
    cases e : rowO rows n with
    | none => rw [entO_none e]; exact List.nodup_nil
    | some q => rw [entO_eq e]; exact U.nd q (rowO_mem e).1
  · refine chs_nm cs (fst0 rows) cn (fun x hx => ?_) e.1 (List.mem_map_of_mem he)
    rw [f0 r hr, opn_names] at hx
    obtain ⟨p, hp, rfl⟩ := List.mem_map.mp hx
    exact U.nm r hr p hp
  · exact ct r.1 e.1 e.2 ⟨List.mem_map_of_mem hr, kp_mem.mp he⟩
theorem TreeU.lay {NS : List Str} (ns : NsOk NS) {rows : List Nd} {made : Int} {cs : List Chg} (U : TreeU NS rows made) (cd : ∀ c ∈ cs, ∃ r ∈ rows, r.1 = c.1 ∧ r.2.1 = ("drawer" : Str)) (cn : ∀ c ∈ cs, c.2.1 ∈ NS) (ct : ∀ d x n, Nw rows cs d x n → n ∈ rows.map (·.1) ∧ 0 < n)
    (em : ∀ r ∈ rows, r.1 ≠ 0 → (∀ d x, ¬ Nw rows cs d x r.1) → ∀ x n, ¬ Nw rows cs r.1 x n)
    (one : ∀ r ∈ rows, r.2.1 = ("drawer" : Str) → ∀ d x d' x', Nw rows cs d x r.1 → Nw rows cs d' x' r.1 → d = d' ∧ x = x')
    (up : ∀ rs, (∀ d x n, Ed rs d x n ↔ Nw rows cs d x n) → ∀ r ∈ rows, r.2.1 = ("drawer" : Str) → r.1 = 0 ∨ (∃ d x, Nw rows cs d x r.1) → Reach rs r.1) : TreeN NS (lay rows cs) made := by
  have L := U.lt_ cd cn ct
  have em' : ∀ r ∈ rows, stays rows cs (rowL rows cs r) = false → kp (chs rows cs r.1) = [] := fun r hr h => by
    unfold stays at h
    rw [Bool.or_eq_false_iff] at h
    have h1 : r.1 ≠ 0 := of_decide_eq_false h.1
    have h2 : r.1 ∉ named rows cs := of_decide_eq_false h.2
    refine List.eq_nil_iff_forall_not_mem.mpr fun e he => ?_
    exact em r hr h1 (fun d x hn => h2 (named_iff.mpr ⟨d, x, hn⟩)) e.1 e.2 ⟨List.mem_map_of_mem hr, kp_mem.mp he⟩
  obtain ⟨asc, lt, kd, sh, nd, nm⟩ := L.easy
  have E : ∀ d x n, Ed (KD.lay rows cs) d x n ↔ Nw rows cs d x n := fun d x n => Ed_lay em'
  refine ⟨⟨asc, ?_, lt, kd, sh, nd, fun q hq => Nat.le_trans (names_few (nd q hq) (nm q hq)) ns.len, fun q hq e he => ns.ok _ (nm q hq e he), L.tgt, lay_hd em', fun q hq hk => ?_, fun q hq hk => ?_⟩, ns, nm⟩
  · obtain ⟨es, r, e⟩ := U.top
    refine ⟨(rowL rows cs (0, "drawer", es)).2.2, (r.map (rowL rows cs)).filter (stays rows cs), ?_⟩
    have : KD.lay rows cs = ((((0 : Int), ("drawer" : Str), es) :: r).map (rowL rows cs)).filter (stays rows cs) := by
      conv => lhs; unfold KD.lay; rw [e]
      rw [← e]
    rw [this, List.map_cons, List.filter_cons]
    have s : stays rows cs (rowL rows cs (0, "drawer", es)) = true := by unfold stays rowL; simp
    rw [if_pos s]; rfl
  · obtain ⟨r, hr, rfl, _⟩ := lay_mem.mp hq
    rw [tgs_eds]
    refine count_le_one (eds_nodup (asc.imp fun h e => by omega) nd) ?_
    rintro ⟨d, x, n⟩ ha ⟨d', x', n'⟩ hb e1 e2
    have e1 : n = r.1 := e1
    have e2 : n' = r.1 := e2
    subst e1 e2
    obtain ⟨e3, e4⟩ := one r hr hk d x d' x' ((E ..).mp (mem_eds.mp ha)) ((E ..).mp (mem_eds.mp hb))
    rw [e3, e4]
  · obtain ⟨r, hr, rfl, hs⟩ := lay_mem.mp hq
    refine up _ E r hr hk ?_
    unfold stays at hs
    rw [Bool.or_eq_true] at hs
    rcases hs with h | h
    · exact Or.inl (of_decide_eq_true h)
    · exact Or.inr (named_iff.mp (of_decide_eq_true h))
theorem reach_gen {rows rs : List Nd} {X L : Int → Prop} (surv : ∀ d x m, Ed rows d x m → ¬ X m → Ed rs d x m) (xr : ∀ m, X m → ¬ L m → Reach rs m) (ln : ∀ d x m, Ed rows d x m → ¬ L d) {m : Int} (h : Reach rows m) : ¬ L m → Reach rs m := by
  induction h with
  | top => intro _; exact .top
  | @step r e hr he _ ih =>
    intro hl
    have ed : Ed rows r.1 e.1 e.2 := ⟨r, hr, rfl, he⟩
    by_cases hx : X e.2
    · exact xr _ hx hl
    · exact (ih (ln _ _ _ ed)).ed (surv _ _ _ ed hx)
theorem hold_Ed {rows : List Nd} {x p : Int} : p ∈ hold rows x ↔ ∃ s, Ed rows p s x := by
  rw [hold_mem]
  constructor
  · rintro ⟨r, hr, e, ⟨s, n⟩, he, rfl⟩; exact ⟨s, r, hr, e, he⟩
  · rintro ⟨s, r, hr, e, he⟩; exact ⟨r, hr, e, _, he, rfl⟩
theorem climb_gen {rows rs : List Nd} {X : Int → Prop} (surv : ∀ d x m, Ed rows d x m → ¬ X m → Ed rs d x m) {d : Int} {l : List Int} (c : Climb rows d l) : (∀ y ∈ d :: l, ¬ X y) → Reach rs d := by
  induction c with
  | top => intro _; exact .top
  | @step x p t l hx hp c ih =>
    intro h
    obtain ⟨s, ed⟩ := hold_Ed.mp (by rw [hp]; exact List.mem_cons_self .. : p ∈ hold rows x)
    exact (ih fun y hy => h y (List.mem_cons_of_mem _ hy)).ed (surv _ _ _ ed (h x (List.mem_cons_self ..)))
theorem Climb.not_mem {rows : List Nd} {x : Int} {l : List Int} (h : Climb rows x l) : x ∉ l := fun z => by
  obtain ⟨m, a, b⟩ := h.sub _ z
  rw [h.uniq a] at b
  exact Nat.lt_irrefl _ b
theorem Climb.ed {rows : List Nd} {x : Int} {l : List Int} (h : Climb rows x l) : ∀ y ∈ l, ∃ s n, Ed rows y s n := by
  induction h with
  | top => intro y hy; cases hy
  | @step x p t l hx hp c ih =>
    intro y hy
    rcases List.mem_cons.mp hy with rfl | hy
    · obtain ⟨s, ed⟩ := hold_Ed.mp (by rw [hp]; exact List.mem_cons_self .. : y ∈ hold rows x)
      exact ⟨s, x, ed⟩
    · exact ih y hy
theorem TreeV.noEd {rows : List Nd} {made : Int} (V : TreeV rows made) {r : Nd} (hr : r ∈ rows) (hs : r.2.1 = ("sheet" : Str)) : ∀ x n, ¬ Ed rows r.1 x n := by
  rintro x n ⟨q, hq, e, he⟩
  have a := V.row hq
  rw [e, V.row hr] at a
  cases a
  rw [V.sh r hr hs] at he
  cases he
theorem TreeV.drw_ {rows : List Nd} {made : Int} (V : TreeV rows made) {d n : Int} {x : Str} (h : Ed rows d x n) : ∃ r ∈ rows, r.1 = d ∧ r.2.1 = ("drawer" : Str) := by
  obtain ⟨r, hr, e, he⟩ := h
  exact ⟨r, hr, e, V.drawer hr he⟩
theorem TreeV.tg_ {rows : List Nd} {made : Int} (V : TreeV rows made) {d n : Int} {x : Str} (h : Ed rows d x n) : n ∈ rows.map (·.1) ∧ 0 < n := by
  obtain ⟨r, hr, e, he⟩ := h
  exact V.tg r hr _ he
theorem TreeV.below {rows : List Nd} {made : Int} (V : TreeV rows made) {d n : Int} {x : Str} (h : Ed rows d x n) : n ∉ d :: KD.abv rows d := by
  obtain ⟨r, hr, rfl, hk⟩ := V.drw_ h
  have c := V.abv hr hk
  obtain ⟨hn, hp⟩ := V.tg_ h
  obtain ⟨q, hq, e⟩ := List.mem_map.mp hn
  have e : q.1 = n := e
  subst e
  rcases V.kd q hq with k | k
  · have c2 := V.abv hq k
    have key : KD.abv rows q.1 = r.1 :: KD.abv rows r.1 := by
      have hm : r.1 ∈ hold rows q.1 := hold_Ed.mpr ⟨x, h⟩
      have h1 := V.one q hq k
      rw [← hold_count] at h1
      cases hh : hold rows q.1 with
      | nil => rw [hh] at hm; cases hm
      | cons p t =>
        rw [hh] at h1 hm
        have ht : t = [] := by
          cases t with
          | nil => rfl
          | cons _ _ => simp at h1
        subst ht
        have e : r.1 = p := by simpa using hm
        exact c2.uniq (.step (by omega) (by rw [hh, ← e]) c)
    rw [← key]
    exact c2.not_mem
  · intro hm
    rcases List.mem_cons.mp hm with e | hm
    · obtain ⟨s, hs⟩ : ∃ s, Ed rows q.1 s q.1 := ⟨x, by rw [← e] at h; exact h⟩
      exact V.noEd hq k s q.1 hs
    · obtain ⟨s, m, ed⟩ := c.ed _ hm
      exact V.noEd hq k s m ed
end KD
namespace KD
open PySem PySem.Spec PyProof.Rows L2 DL KB
theorem up_gen {rows rs : List Nd} {made : Int} (V : TreeV rows made) {X L : Int → Prop} (surv : ∀ d x m, Ed rows d x m → ¬ X m → Ed rs d x m) (xr : ∀ m, X m → ¬ L m → Reach rs m) (ln : ∀ d x m, Ed rows d x m → ¬ L d)
    (lnN : ∀ d x m, Ed rs d x m → ¬ L d ∧ ∃ q ∈ rows, q.1 = d ∧ q.2.1 = ("drawer" : Str)) : ∀ r ∈ rows, r.2.1 = ("drawer" : Str) → r.1 = 0 ∨ (∃ d x, Ed rs d x r.1) → Reach rs r.1 := fun r hr hk h => by
  by_cases hl : L r.1
  · rcases h with h | ⟨d, x, ed⟩
    · rw [h]; exact .top
    · obtain ⟨h1, q, hq, rfl, hk2⟩ := lnN _ _ _ ed
      exact (reach_gen surv xr ln (V.up q hq hk2) h1).ed ed
  · exact reach_gen surv xr ln (V.up r hr hk) hl
theorem lk_some {rows : List Nd} {made : Int} (V : TreeV rows made) {d n : Int} {x : Str} (h : lk x (entO rows d) = some n) : Ed rows d x n := (ent_Ed V.nodup).mp (lk_mem h)
theorem lk_none {rows : List Nd} {made : Int} (V : TreeV rows made) {d : Int} {x : Str} (h : lk x (entO rows d) = none) : ∀ n, ¬ Ed rows d x n := fun n ed => by
  have hm := (ent_Ed V.nodup).mpr ed
  unfold lk at h
  rw [Option.map_eq_none_iff, List.find?_eq_none] at h
  exact h _ hm (decide_eq_true rfl)
theorem lk_Ed {rows : List Nd} {made : Int} (V : TreeV rows made) {d n : Int} {x : Str} (ed : Ed rows d x n) : lk x (entO rows d) = some n := by
  cases h : lk x (entO rows d) with
  | none => exact absurd ed (lk_none V h n)
  | some m => rw [V.fun_ ed (lk_some V h)]
theorem TreeV.dr {rows : List Nd} {made : Int} (V : TreeV rows made) {w : List Str} (h : (drw rows w).2 = .ok) : ∃ r ∈ rows, r.1 = (drw rows w).1 ∧ r.2.1 = ("drawer" : Str) := by
  obtain ⟨r, e, hr, e1⟩ := V.at_ (drw_in V w)
  refine ⟨r, hr, e1, ?_⟩
  have := drw_ok V h
  unfold kindO at this
  rw [e] at this
  exact (V.kd r hr).resolve_right this
theorem fullN_no {rows : List Nd} {made : Int} (V : TreeV rows made) {n : Int} (h : fullN rows n ≠ true) : ∀ x m, ¬ Ed rows n x m := fun x m ed => by
  obtain ⟨r, hr, rfl, he⟩ := ed
  unfold fullN at h
  rw [V.row hr] at h
  apply h
  show (decide (r.2.1 = ("drawer" : Str)) && !decide (r.2.2 = [])) = true
  have : r.2.2 ≠ [] := fun z => by rw [z] at he; cases he
  rw [decide_eq_true (V.drawer hr he), decide_eq_false this]; rfl
theorem TreeV.hd_ {rows : List Nd} {made : Int} (V : TreeV rows made) {r : Nd} (hr : r ∈ rows) (h0 : r.1 ≠ 0) : ∃ d x, Ed rows d x r.1 := by
  have := V.hd r hr h0
  unfold tgs at this
  obtain ⟨q, hq, h⟩ := List.mem_flatMap.mp this
  obtain ⟨e, he, e2⟩ := List.mem_map.mp h
  exact ⟨q.1, e.1, q, hq, rfl, by rw [← e2]; exact he⟩
theorem lay_drop {NS : List Str} {rows : List Nd} {made : Int} (W : TreeN NS rows made) {d0 n : Int} {x0 : Str} (ed0 : Ed rows d0 x0 n) (hx : x0 ∈ NS) (hf : ∀ x m, ¬ Ed rows n x m) : TreeN NS (lay rows [(d0, x0, none)]) made := by
  have V := W.v
  have N : ∀ d x m, Nw rows [(d0, x0, none)] d x m ↔ Ed rows d x m ∧ ¬ (d = d0 ∧ x = x0) := fun d x m => by
    rw [Nw1 V.nodup]
    constructor
    · rintro ⟨hd, h⟩
      by_cases c : d = d0 ∧ x = x0
      · rw [if_pos c] at h; cases h
      · rw [if_neg c] at h; exact ⟨h, c⟩
    · rintro ⟨h, c⟩
      exact ⟨h.id, by rw [if_neg c]; exact h⟩
  refine W.u.lay W.ns (fun c hc => ?_) (fun c hc => ?_) (fun d x m h => V.tg_ ((N ..).mp h).1) (fun r hr h0 hno x m h => ?_) (fun r hr hk d x d' x' h h' => V.uniq hr hk ((N ..).mp h).1 ((N ..).mp h').1) (fun rs E => ?_)
  · rw [List.mem_singleton] at hc; rw [hc]; exact V.drw_ ed0
  · rw [List.mem_singleton] at hc; rw [hc]; exact hx
  · obtain ⟨d, y, ed⟩ := V.hd_ hr h0
    by_cases c : d = d0 ∧ y = x0
    · rw [c.1, c.2] at ed
      rw [V.fun_ ed ed0] at h
      exact hf _ _ ((N ..).mp h).1
    · exact hno d y ((N ..).mpr ⟨ed, c⟩)
  · have E' : ∀ d x m, Ed rs d x m ↔ Ed rows d x m ∧ ¬ (d = d0 ∧ x = x0) := fun d x m => (E ..).trans (N ..)
    have := up_gen V (rs := rs) (X := fun m => m = n) (L := fun m => m = n) (fun d x m ed hm => (E' ..).mpr ⟨ed, fun c => hm (by rw [c.1, c.2] at ed; exact V.fun_ ed ed0)⟩) (fun m h1 h2 => absurd h1 h2) (fun d x m ed h => hf x m (by rw [← h]; exact ed))
      (fun d x m ed => ⟨fun h => hf x m (by rw [← h]; exact ((E' ..).mp ed).1), V.drw_ ((E' ..).mp ed).1⟩)
    exact fun r hr hk h => this r hr hk (h.imp id fun ⟨d, x, z⟩ => ⟨d, x, (E ..).mpr z⟩)
theorem lay_link {NS : List Str} {rows : List Nd} {made : Int} (W : TreeN NS rows made) {d1 n : Int} {x1 : Str} (hd : ∃ r ∈ rows, r.1 = d1 ∧ r.2.1 = ("drawer" : Str)) (hx : x1 ∈ NS) (h1 : ∀ m, ¬ Ed rows d1 x1 m) (hn : n ∈ rows.map (·.1)) (hp : 0 < n) (hs : kindO rows n ≠ ("drawer" : Str)) : TreeN NS (lay rows [(d1, x1, some n)]) made := by
  have V := W.v
  have hd1 : d1 ∈ rows.map (·.1) := by obtain ⟨r, hr, rfl, _⟩ := hd; exact List.mem_map_of_mem hr
  have N : ∀ d x m, Nw rows [(d1, x1, some n)] d x m ↔ Ed rows d x m ∨ (d = d1 ∧ x = x1 ∧ m = n) := fun d x m => by
    rw [Nw1 V.nodup]
    constructor
    · rintro ⟨_, h⟩
      by_cases c : d = d1 ∧ x = x1
      · rw [if_pos c] at h; exact Or.inr ⟨c.1, c.2, (Option.some.inj h).symm⟩
      · rw [if_neg c] at h; exact Or.inl h
    · rintro (h | ⟨rfl, rfl, rfl⟩)
      · refine ⟨h.id, ?_⟩
        rw [if_neg fun c : d = d1 ∧ x = x1 => h1 m (by rw [← c.1, ← c.2]; exact h)]; exact h
      · exact ⟨hd1, by rw [if_pos ⟨rfl, rfl⟩]⟩
  have nk : ∀ r ∈ rows, r.2.1 = ("drawer" : Str) → r.1 ≠ n := fun r hr hk e => by
    apply hs
    unfold kindO
    rw [← e, V.row hr]; exact hk
  refine W.u.lay W.ns (fun c hc => ?_) (fun c hc => ?_) (fun d x m h => ?_) (fun r hr h0 hno x m h => ?_) (fun r hr hk d x d' x' h h' => ?_) (fun rs E => ?_)
  · rw [List.mem_singleton] at hc; rw [hc]; exact hd
  · rw [List.mem_singleton] at hc; rw [hc]; exact hx
  · rcases (N ..).mp h with h | ⟨_, _, rfl⟩
    · exact V.tg_ h
    · exact ⟨hn, hp⟩
  · obtain ⟨d, y, ed⟩ := V.hd_ hr h0
    exact hno d y ((N ..).mpr (Or.inl ed))
  · rcases (N ..).mp h with h | ⟨_, _, e⟩
    · rcases (N ..).mp h' with h' | ⟨_, _, e⟩
      · exact V.uniq hr hk h h'
      · exact absurd e (nk r hr hk)
    · exact absurd e (nk r hr hk)
  · have := up_gen V (rs := rs) (X := fun _ => False) (L := fun _ => False) (fun d x m ed _ => (E ..).mpr ((N ..).mpr (Or.inl ed))) (fun m h1 h2 => h1.elim) (fun d x m ed h => h)
      (fun d x m ed => ⟨id, by
        rcases (N ..).mp ((E ..).mp ed) with h | ⟨rfl, _, _⟩
        · exact V.drw_ h
        · exact hd⟩)
    exact fun r hr hk h => this r hr hk (h.imp id fun ⟨d, x, z⟩ => ⟨d, x, (E ..).mpr z⟩)
theorem lay_make {NS : List Str} {rows : List Nd} {made : Int} (W : TreeN NS rows made) {d1 : Int} {x1 kd : Str} (hd : ∃ r ∈ rows, r.1 = d1 ∧ r.2.1 = ("drawer" : Str)) (hx : x1 ∈ NS) (h1 : ∀ m, ¬ Ed rows d1 x1 m) (hk : isK kd) : TreeN NS (lay (rows ++ [(made, kd, [])]) [(d1, x1, some made)]) (made + 1) := by
  have V := W.v
  have U : TreeU NS (rows ++ [(made, kd, [])]) (made + 1) := by
    refine ⟨?_, ?_, fun r hr => ?_, fun r hr => ?_, fun r hr hs => ?_, fun r hr => ?_, fun r hr e he => ?_⟩
    · rw [List.map_append, List.pairwise_append]
      refine ⟨V.asc, List.pairwise_singleton .., fun a ha b hb => ?_⟩
      obtain ⟨r, hr, rfl⟩ := List.mem_map.mp ha
      simp only [List.map_cons, List.map_nil, List.mem_singleton] at hb
      rw [hb]; exact V.lt r hr
    · obtain ⟨es, r, e⟩ := V.top
      exact ⟨es, r ++ [(made, kd, [])], by rw [e]; rfl⟩
    all_goals rcases List.mem_append.mp hr with hr | hr
    · have := V.lt r hr; omega
    · rw [List.mem_singleton] at hr; rw [hr]; show made < made + 1; omega
    · exact V.kd r hr
    · rw [List.mem_singleton] at hr; rw [hr]; exact hk
    · exact V.sh r hr hs
    · rw [List.mem_singleton] at hr; rw [hr]
    · exact V.nd r hr
    · rw [List.mem_singleton] at hr; rw [hr]; exact List.nodup_nil
    · exact W.nm r hr e he
    · rw [List.mem_singleton] at hr; rw [hr] at he; cases he
  have Ee : ∀ d x m, Ed (rows ++ [(made, kd, [])]) d x m ↔ Ed rows d x m := fun d x m => by
    constructor
    · rintro ⟨r, hr, e, he⟩
      rcases List.mem_append.mp hr with hr | hr
      · exact ⟨r, hr, e, he⟩
      · rw [List.mem_singleton] at hr; rw [hr] at he; cases he
    · rintro ⟨r, hr, e, he⟩; exact ⟨r, List.mem_append_left _ hr, e, he⟩
  have idl : ∀ d, d ∈ rows.map (·.1) → d ∈ (rows ++ [((made, kd, []) : Nd)]).map (·.1) := fun d h => by rw [List.map_append]; exact List.mem_append_left _ h
  have hd1 : d1 ∈ rows.map (·.1) := by obtain ⟨r, hr, rfl, _⟩ := hd; exact List.mem_map_of_mem hr
  have N : ∀ d x m, Nw (rows ++ [(made, kd, [])]) [(d1, x1, some made)] d x m ↔ Ed rows d x m ∨ (d = d1 ∧ x = x1 ∧ m = made) := fun d x m => by
    rw [Nw1 U.nodup]
    constructor
    · rintro ⟨_, h⟩
      by_cases c : d = d1 ∧ x = x1
      · rw [if_pos c] at h; exact Or.inr ⟨c.1, c.2, (Option.some.inj h).symm⟩
      · rw [if_neg c] at h; exact Or.inl ((Ee ..).mp h)
    · rintro (h | ⟨rfl, rfl, rfl⟩)
      · refine ⟨idl _ h.id, ?_⟩
        rw [if_neg fun c : d = d1 ∧ x = x1 => h1 m (by rw [← c.1, ← c.2]; exact h)]; exact (Ee ..).mpr h
      · exact ⟨idl _ hd1, by rw [if_pos ⟨rfl, rfl⟩]⟩
  have mp : 0 < made := by
    obtain ⟨es, r, e⟩ := V.top
    exact V.lt _ (by rw [e]; exact List.mem_cons_self ..)
  have nt : ∀ d x, ¬ Ed rows d x made := fun d x h => by
    obtain ⟨hm, _⟩ := V.tg_ h
    obtain ⟨r, hr, e⟩ := List.mem_map.mp hm
    have := V.lt r hr
    omega
  refine U.lay W.ns (fun c hc => ?_) (fun c hc => ?_) (fun d x m h => ?_) (fun r hr h0 hno x m h => ?_) (fun r hr hk d x d' x' h h' => ?_) (fun rs E => ?_)
  · rw [List.mem_singleton] at hc; rw [hc]
    obtain ⟨r, hr, z⟩ := hd
    exact ⟨r, List.mem_append_left _ hr, z⟩
  · rw [List.mem_singleton] at hc; rw [hc]; exact hx
  · rcases (N ..).mp h with h | ⟨_, _, rfl⟩
    · exact ⟨idl _ (V.tg_ h).1, (V.tg_ h).2⟩
    · exact ⟨by rw [List.map_append]; exact List.mem_append_right _ (List.mem_singleton.mpr rfl), mp⟩
  · rcases List.mem_append.mp hr with hr | hr
    · obtain ⟨d, y, ed⟩ := V.hd_ hr h0
      exact hno d y ((N ..).mpr (Or.inl ed))
    · rw [List.mem_singleton] at hr
      exact hno d1 x1 ((N ..).mpr (Or.inr ⟨rfl, rfl, by rw [hr]⟩))
  · rcases List.mem_append.mp hr with hr | hr
    · have ne : r.1 ≠ made := by have := V.lt r hr; omega
      rcases (N ..).mp h with h | ⟨_, _, e⟩
      · rcases (N ..).mp h' with h' | ⟨_, _, e⟩
        · exact V.uniq hr hk h h'
        · exact absurd e ne
      · exact absurd e ne
    · rw [List.mem_singleton] at hr
      rw [hr] at h h'
      rcases (N ..).mp h with h | ⟨e1, e2, _⟩
      · exact absurd h (nt _ _)
      · rcases (N ..).mp h' with h' | ⟨e3, e4, _⟩
        · exact absurd h' (nt _ _)
        · exact ⟨e1.trans e3.symm, e2.trans e4.symm⟩
  · have rg : ∀ m, Reach rows m → Reach rs m := fun m h => reach_gen (X := fun _ => False) (L := fun _ => False) (fun d x m ed _ => (E ..).mpr ((N ..).mpr (Or.inl ed))) (fun m h1 h2 => h1.elim) (fun d x m ed h => h) h id
    intro r hr hk h
    rcases List.mem_append.mp hr with hr | hr
    · exact rg _ (V.up r hr hk)
    · rw [List.mem_singleton] at hr
      rw [hr]
      obtain ⟨q, hq, e, hk2⟩ := hd
      have := rg _ (V.up q hq hk2)
      rw [e] at this
      exact this.ed ((E ..).mpr ((N ..).mpr (Or.inr ⟨rfl, rfl, rfl⟩)))
end KD
namespace KD
open PySem PySem.Spec PyProof.Rows L2 DL KB
theorem lay_move {NS : List Str} {rows : List Nd} {made : Int} (W : TreeN NS rows made) {d0 d1 n : Int} {x0 x1 : Str} {old : Option Int} (ed0 : Ed rows d0 x0 n) (hx0 : x0 ∈ NS) (hd : ∃ r ∈ rows, r.1 = d1 ∧ r.2.1 = ("drawer" : Str)) (hx : x1 ∈ NS) (ho : ∀ m, Ed rows d1 x1 m ↔ old = some m)
    (hs : old ≠ some n) (hi : n ∉ d1 :: abv rows d1) (hf : ∀ o, old = some o → ∀ x m, ¬ Ed rows o x m) : TreeN NS (lay rows [(d0, x0, none), (d1, x1, some n)]) made := by
  have V := W.v
  have hd1 : d1 ∈ rows.map (·.1) := by obtain ⟨r, hr, rfl, _⟩ := hd; exact List.mem_map_of_mem hr
  have ne : ¬ (d0 = d1 ∧ x0 = x1) := fun c => hs ((ho n).mp (by rw [← c.1, ← c.2]; exact ed0))
  have N : ∀ d x m, Nw rows [(d0, x0, none), (d1, x1, some n)] d x m ↔ (Ed rows d x m ∧ ¬ (d = d0 ∧ x = x0) ∧ ¬ (d = d1 ∧ x = x1)) ∨ (d = d1 ∧ x = x1 ∧ m = n) := fun d x m => by
    rw [Nw2 V.nodup]
    constructor
    · rintro ⟨_, h⟩
      by_cases c : d = d1 ∧ x = x1
      · rw [if_pos c] at h; exact Or.inr ⟨c.1, c.2, (Option.some.inj h).symm⟩
      · rw [if_neg c] at h
        by_cases c2 : d = d0 ∧ x = x0
        · rw [if_pos c2] at h; cases h
        · rw [if_neg c2] at h; exact Or.inl ⟨h, c2, c⟩
    · rintro (⟨h, c2, c⟩ | ⟨rfl, rfl, rfl⟩)
      · exact ⟨h.id, by rw [if_neg c, if_neg c2]; exact h⟩
      · exact ⟨hd1, by rw [if_pos ⟨rfl, rfl⟩]⟩
  have new : Nw rows [(d0, x0, none), (d1, x1, some n)] d1 x1 n := (N ..).mpr (Or.inr ⟨rfl, rfl, rfl⟩)
  refine W.u.lay W.ns (fun c hc => ?_) (fun c hc => ?_) (fun d x m h => ?_) (fun r hr h0 hno x m h => ?_) (fun r hr hk d x d' x' h h' => ?_) (fun rs E => ?_)
  · simp only [List.mem_cons, List.not_mem_nil, or_false] at hc
    rcases hc with rfl | rfl
    · exact V.drw_ ed0
    · exact hd
  · simp only [List.mem_cons, List.not_mem_nil, or_false] at hc
    rcases hc with rfl | rfl
    · exact hx0
    · exact hx
  · rcases (N ..).mp h with ⟨h, _⟩ | ⟨_, _, rfl⟩
    · exact V.tg_ h
    · exact V.tg_ ed0
  · obtain ⟨d, y, ed⟩ := V.hd_ hr h0
    by_cases c : d = d1 ∧ y = x1
    · rw [c.1, c.2] at ed
      have e := (ho _).mp ed
      rcases (N ..).mp h with ⟨h, _⟩ | ⟨h, _⟩
      · exact hf _ e _ _ h
      · exact hf _ e _ _ (by rw [h]; exact ed)
    · by_cases c2 : d = d0 ∧ y = x0
      · rw [c2.1, c2.2] at ed
        exact hno d1 x1 (by rw [V.fun_ ed ed0]; exact new)
      · exact hno d y ((N ..).mpr (Or.inl ⟨ed, c2, c⟩))
  · have k : ∀ d x, r.1 = n → Ed rows d x r.1 → d = d0 ∧ x = x0 := fun d x e ed => V.uniq hr hk ed (by rw [e]; exact ed0)
    rcases (N ..).mp h with ⟨h, a, _⟩ | ⟨a, b, e⟩ <;> rcases (N ..).mp h' with ⟨h', a', _⟩ | ⟨a', b', e'⟩
    · exact V.uniq hr hk h h'
    · exact absurd (k _ _ e' h) a
    · exact absurd (k _ _ e h') a'
    · exact ⟨a.trans a'.symm, b.trans b'.symm⟩
  · have surv : ∀ d x m, Ed rows d x m → ¬ (m = n ∨ old = some m) → Ed rs d x m := fun d x m ed h => by
      refine (E ..).mpr ((N ..).mpr (Or.inl ⟨ed, fun c => h (Or.inl ?_), fun c => h (Or.inr ?_)⟩))
      · rw [c.1, c.2] at ed; exact V.fun_ ed ed0
      · rw [c.1, c.2] at ed; exact (ho m).mp ed
    have r1 : Reach rs d1 := by
      obtain ⟨q, hq, rfl, hk⟩ := hd
      refine climb_gen surv (V.abv hq hk) fun y hy h => ?_
      rcases h with rfl | h
      · exact hi hy
      · exact V.below ((ho y).mpr h) hy
    have rn : Reach rs n := r1.ed ((E ..).mpr new)
    have := up_gen V (rs := rs) (X := fun m => m = n ∨ old = some m) (L := fun m => old = some m) surv (fun m h1 h2 => by rw [h1.resolve_right h2]; exact rn) (fun d x m ed h => hf d h x m ed)
      (fun d x m ed => by
        rcases (N ..).mp ((E ..).mp ed) with ⟨h, _⟩ | ⟨rfl, _, _⟩
        · exact ⟨fun z => hf d z x m h, V.drw_ h⟩
        · refine ⟨fun z => ?_, hd⟩
          exact hf _ z _ _ ((ho d).mpr z))
    exact fun r hr hk h => this r hr hk (h.imp id fun ⟨d, x, z⟩ => ⟨d, x, (E ..).mpr z⟩)
theorem lay_swap {NS : List Str} {rows : List Nd} {made : Int} (W : TreeN NS rows made) {d0 d1 a b : Int} {x0 x1 : Str} (ea : Ed rows d0 x0 a) (eb : Ed rows d1 x1 b) (hx0 : x0 ∈ NS) (hx1 : x1 ∈ NS) (hab : a ≠ b)
    (ha : a ∉ d1 :: abv rows d1) (hb : b ∉ d0 :: abv rows d0) : TreeN NS (lay rows [(d0, x0, some b), (d1, x1, some a)]) made := by
  have V := W.v
  have ne : ¬ (d0 = d1 ∧ x0 = x1) := fun c => hab (V.fun_ ea (by rw [c.1, c.2]; exact eb))
  have N : ∀ d x m, Nw rows [(d0, x0, some b), (d1, x1, some a)] d x m ↔ (Ed rows d x m ∧ ¬ (d = d0 ∧ x = x0) ∧ ¬ (d = d1 ∧ x = x1)) ∨ (d = d1 ∧ x = x1 ∧ m = a) ∨ (d = d0 ∧ x = x0 ∧ m = b) := fun d x m => by
    rw [Nw2 V.nodup]
    constructor
    · rintro ⟨_, h⟩
      by_cases c : d = d1 ∧ x = x1
      · rw [if_pos c] at h; exact Or.inr (Or.inl ⟨c.1, c.2, (Option.some.inj h).symm⟩)
      · rw [if_neg c] at h
        by_cases c2 : d = d0 ∧ x = x0
        · rw [if_pos c2] at h; exact Or.inr (Or.inr ⟨c2.1, c2.2, (Option.some.inj h).symm⟩)
        · rw [if_neg c2] at h; exact Or.inl ⟨h, c2, c⟩
    · rintro (⟨h, c2, c⟩ | ⟨rfl, rfl, rfl⟩ | ⟨rfl, rfl, rfl⟩)
      · exact ⟨h.id, by rw [if_neg c, if_neg c2]; exact h⟩
      · exact ⟨eb.id, by rw [if_pos ⟨rfl, rfl⟩]⟩
      · exact ⟨ea.id, by rw [if_neg ne, if_pos ⟨rfl, rfl⟩]⟩
  have newa : Nw rows [(d0, x0, some b), (d1, x1, some a)] d1 x1 a := (N ..).mpr (Or.inr (Or.inl ⟨rfl, rfl, rfl⟩))
  have newb : Nw rows [(d0, x0, some b), (d1, x1, some a)] d0 x0 b := (N ..).mpr (Or.inr (Or.inr ⟨rfl, rfl, rfl⟩))
  refine W.u.lay W.ns (fun c hc => ?_) (fun c hc => ?_) (fun d x m h => ?_) (fun r hr h0 hno x m h => ?_) (fun r hr hk d x d' x' h h' => ?_) (fun rs E => ?_)
  · simp only [List.mem_cons, List.not_mem_nil, or_false] at hc
    rcases hc with rfl | rfl
    · exact V.drw_ ea
    · exact V.drw_ eb
  · simp only [List.mem_cons, List.not_mem_nil, or_false] at hc
    rcases hc with rfl | rfl
    · exact hx0
    · exact hx1
  · rcases (N ..).mp h with ⟨h, _⟩ | ⟨_, _, rfl⟩ | ⟨_, _, rfl⟩
    · exact V.tg_ h
    · exact V.tg_ ea
    · exact V.tg_ eb
  · obtain ⟨d, y, ed⟩ := V.hd_ hr h0
    by_cases c : d = d1 ∧ y = x1
    · rw [c.1, c.2] at ed
      exact hno d0 x0 (by rw [V.fun_ ed eb]; exact newb)
    · by_cases c2 : d = d0 ∧ y = x0
      · rw [c2.1, c2.2] at ed
        exact hno d1 x1 (by rw [V.fun_ ed ea]; exact newa)
      · exact hno d y ((N ..).mpr (Or.inl ⟨ed, c2, c⟩))
  · have ka : ∀ d x, r.1 = a → Ed rows d x r.1 → d = d0 ∧ x = x0 := fun d x e ed => V.uniq hr hk ed (by rw [e]; exact ea)
    have kb : ∀ d x, r.1 = b → Ed rows d x r.1 → d = d1 ∧ x = x1 := fun d x e ed => V.uniq hr hk ed (by rw [e]; exact eb)
    rcases (N ..).mp h with ⟨h, p, q⟩ | ⟨p, q, e⟩ | ⟨p, q, e⟩ <;> rcases (N ..).mp h' with ⟨h', p', q'⟩ | ⟨p', q', e'⟩ | ⟨p', q', e'⟩
    · exact V.uniq hr hk h h'
    · exact absurd (ka _ _ e' h) p
    · exact absurd (kb _ _ e' h) q
    · exact absurd (ka _ _ e h') p'
    · exact ⟨p.trans p'.symm, q.trans q'.symm⟩
    · exact absurd (e.symm.trans e') hab
    · exact absurd (kb _ _ e h') q'
    · exact absurd (e'.symm.trans e) hab
    · exact ⟨p.trans p'.symm, q.trans q'.symm⟩
  · have surv : ∀ d x m, Ed rows d x m → ¬ (m = a ∨ m = b) → Ed rs d x m := fun d x m ed h => by
      refine (E ..).mpr ((N ..).mpr (Or.inl ⟨ed, fun c => h (Or.inl ?_), fun c => h (Or.inr ?_)⟩))
      · rw [c.1, c.2] at ed; exact V.fun_ ed ea
      · rw [c.1, c.2] at ed; exact V.fun_ ed eb
    have ra : Reach rs a := by
      obtain ⟨q, hq, e, hk⟩ := V.drw_ eb
      subst e
      refine Reach.ed ((E ..).mpr newa) (climb_gen surv (V.abv hq hk) fun y hy h => ?_)
      rcases h with rfl | rfl
      · exact ha hy
      · exact V.below eb hy
    have rb : Reach rs b := by
      obtain ⟨q, hq, e, hk⟩ := V.drw_ ea
      subst e
      refine Reach.ed ((E ..).mpr newb) (climb_gen surv (V.abv hq hk) fun y hy h => ?_)
      rcases h with rfl | rfl
      · exact V.below ea hy
      · exact hb hy
    have := up_gen V (rs := rs) (X := fun m => m = a ∨ m = b) (L := fun m => False) surv (fun m h1 _ => by
        rcases h1 with rfl | rfl
        · exact ra
        · exact rb) (fun d x m ed h => h)
      (fun d x m ed => ⟨id, by
        rcases (N ..).mp ((E ..).mp ed) with ⟨h, _⟩ | ⟨rfl, _, _⟩ | ⟨rfl, _, _⟩
        · exact V.drw_ h
        · exact V.drw_ eb
        · exact V.drw_ ea⟩)
    exact fun r hr hk h => this r hr hk (h.imp id fun ⟨d, x, z⟩ => ⟨d, x, (E ..).mpr z⟩)
theorem inside_no {rows : List Nd} {n d : Int} (h : inside rows n d ≠ true) : n ∉ d :: abv rows d := fun z => by
  apply h
  unfold inside
  rcases List.mem_cons.mp z with z | z
  · rw [decide_eq_true z]; rfl
  · rw [decide_eq_true z, Bool.or_true]
theorem kind_row {rows : List Nd} {made : Int} (V : TreeV rows made) {r : Nd} (hr : r ∈ rows) : kindO rows r.1 = r.2.1 := by
  unfold kindO; rw [V.row hr]
theorem sheet_no {rows : List Nd} {made : Int} (V : TreeV rows made) {n d : Int} (hn : n ∈ rows.map (·.1)) (hk : kindO rows n ≠ ("drawer" : Str)) (hd : ∃ r ∈ rows, r.1 = d ∧ r.2.1 = ("drawer" : Str)) : n ∉ d :: abv rows d := fun z => by
  obtain ⟨q, hq, e⟩ := List.mem_map.mp hn
  have e : q.1 = n := e
  subst e
  rw [kind_row V hq] at hk
  obtain ⟨r, hr, rfl, k⟩ := hd
  rcases List.mem_cons.mp z with z | z
  · have a := V.row hq
    rw [z, V.row hr] at a
    cases a; exact hk k
  · obtain ⟨s, m, ed⟩ := (V.abv hr k).ed _ z
    exact V.noEd hq ((V.kd q hq).resolve_left hk) s m ed
theorem last_NM {NS : List Str} {w : List Str} (h : w ≠ []) (hw : ∀ x ∈ w, x ∈ NS) : lastN w ∈ NS := by
  unfold lastN
  rw [List.getLast?_eq_getLast h]
  exact hw _ (List.getLast_mem h)
def waysO : Dd → List (List Str)
  | .one _ w => [w]
  | .mk w _ => [w]
  | .two _ w v => [w, v]
def DdN (NS : List Str) (d : Dd) : Prop := Dd.sh d ∧ ∀ w ∈ waysO d, ∀ x ∈ w, x ∈ NS
theorem doF_tree {NS : List Str} {t : TreeT} (W : TreeN NS t.1 t.2) {d : Dd} (ok : DdN NS d) : TreeN NS (doF t d).1.1 (doF t d).1.2 := by
  have V := W.v
  obtain ⟨ok, hns⟩ := ok
  cases d with
  | one x w =>
    obtain ⟨hx, hw, hd⟩ := ok
    rw [doF]
    split
    · exact W
    · split
      · exact W
      · rename_i h1 h2
        have hx : x = ("drop" : Str) := by
          simp only [List.mem_cons, List.not_mem_nil, or_false] at hx
          rcases hx with h | h | h
          · exact absurd h h1
          · exact absurd h h2
          · exact h
        unfold dropF
        split
        · exact W
        · split
          · exact W
          · rename_i n e
            split
            · exact W
            · rename_i hf
              exact lay_drop W (lk_some V e) (last_NM (hd hx) (hns w (List.mem_cons_self ..))) (fullN_no V hf)
  | mk w k =>
    obtain ⟨hw, hn, hk⟩ := ok
    rw [doF]
    unfold makeF
    split
    · exact W
    · rename_i h1
      split
      · exact W
      · rename_i h2
        exact lay_make W (V.dr (Decidable.not_not.mp h1)) (last_NM hn (hns w (List.mem_cons_self ..))) (lk_none V (Decidable.not_not.mp h2)) hk
  | two x w v =>
    obtain ⟨hx, hw, hwn, hv, hvn⟩ := ok
    rw [doF]
    split
    · unfold linkF
      split
      · exact W
      · rename_i h1
        obtain ⟨o1, o2, a, ea, _⟩ := both_ok (Decidable.not_not.mp h1)
        split
        · exact W
        · rename_i n e
          split
          · exact W
          · rename_i hk
            split
            · exact W
            · rename_i h2
              have t := V.tg_ (lk_some V e)
              exact lay_link W (V.dr o2) (last_NM hvn (hns v (List.mem_cons_of_mem _ (List.mem_cons_self ..)))) (lk_none V (Decidable.not_not.mp h2)) t.1 t.2 hk
    · split
      · unfold moveF
        split
        · exact W
        · rename_i h1
          obtain ⟨o1, o2, a, ea, _⟩ := both_ok (Decidable.not_not.mp h1)
          split
          · exact W
          · rename_i n e
            split
            · exact W
            · rename_i hb
              unfold bar at hb
              split at hb
              · cases hb
              · rename_i hs
                split at hb
                · cases hb
                · rename_i hi
                  have en := lk_some V e
                  refine lay_move W en (last_NM hwn (hns w (List.mem_cons_self ..))) (V.dr o2) (last_NM hvn (hns v (List.mem_cons_of_mem _ (List.mem_cons_self ..)))) (old := ent t.1 v) (fun m => ⟨fun ed => lk_Ed V ed, fun ed => lk_some V ed⟩) hs ?_ fun o ho => ?_
                  · by_cases k : kindO t.1 n = ("drawer" : Str)
                    · exact inside_no fun z => hi ⟨k, z⟩
                    · exact sheet_no V (V.tg_ en).1 k (V.dr o2)
                  · rw [ho] at hb
                    simp only at hb
                    split at hb
                    · cases hb
                    · split at hb
                      · cases hb
                      · rename_i hf
                        exact fullN_no V hf
      · unfold swapF
        split
        · exact W
        · split
          · rename_i a b ea eb
            split
            · exact W
            · rename_i hab
              split
              · exact W
              · rename_i hi
                exact lay_swap W (lk_some V ea) (lk_some V eb) (last_NM hwn (hns w (List.mem_cons_self ..))) (last_NM hvn (hns v (List.mem_cons_of_mem _ (List.mem_cons_self ..)))) hab (inside_no fun z => hi (Or.inl z)) (inside_no fun z => hi (Or.inr z))
          · exact W
end KD
namespace KD
open PySem PySem.Spec PyProof.Rows L2 DL KB
def doAll : TreeT → List Dd → TreeT × List D
  | t, [] => (t, [])
  | t, d :: r => ((doAll (doF t d).1 r).1, (doF t d).2 :: (doAll (doF t d).1 r).2)
theorem doAll_snoc : ∀ (l : List Dd) (t : TreeT) (d : Dd), doAll t (l ++ [d]) = ((doF (doAll t l).1 d).1, (doAll t l).2 ++ [(doF (doAll t l).1 d).2])
  | [], _, _ => rfl
  | x :: l, t, d => by
    show doAll t (x :: (l ++ [d])) = _
    rw [doAll, doAll_snoc l]
    rfl
theorem doAll_keep {NS : List Str} : ∀ (l : List Dd) {t : TreeT}, TreeN NS t.1 t.2 → (∀ d ∈ l, DdN NS d) → TreeN NS (doAll t l).1.1 (doAll t l).1.2 ∧ (doAll t l).1.1.length ≤ t.1.length + l.length ∧ (doAll t l).2.length = l.length
  | [], t, V, _ => ⟨V, Nat.le_refl _, rfl⟩
  | x :: l, t, V, h => by
    obtain ⟨a, b, c⟩ := doAll_keep l (doF_tree V (h x (List.mem_cons_self ..))) fun d hd => h d (List.mem_cons_of_mem _ hd)
    have := doF_len t x
    refine ⟨a, ?_, ?_⟩
    · show (doAll (doF t x).1 l).1.1.length ≤ _
      rw [List.length_cons]; omega
    · show ((doF t x).2 :: (doAll (doF t x).1 l).2).length = _
      rw [List.length_cons, c]; rfl
def deedsD (l : List Dd) : D := .tup (l.map Dd.D)
def sp_done_all : DSp := fun ds S Q E => ∃ NS t l, ds = [tD t, deedsD l] ∧ TreeN NS t.1 t.2 ∧ t.1.length + l.length ≤ 900 ∧ (∀ d ∈ l, DdN NS d) ∧ ∀ S', Q (.tup [tD (doAll t l).1, .tup (doAll t l).2]) S'
end KD
namespace KR
open PySem PySem.Spec PyProof.Rows L2 DL
mutual
theorem D_ok_up : ∀ {d : D} {n m : Nat}, d.ok n = true → n ≤ m → d.ok m = true
  | .non, _, _, _, _ => by simp [D.ok] | .bl _, _, _, _, _ => by simp [D.ok] | .int _, _, _, _, _ => by simp [D.ok] | .str _, _, _, _, _ => by simp [D.ok]
  | .tup ds, n + 1, m, h, hm => by
    obtain ⟨m', rfl⟩ : ∃ m', m = m' + 1 := ⟨m - 1, by omega⟩
    rw [D.ok] at *; exact oks_upm h (by omega)
  | .fz ds, n + 1, m, h, hm => by
    obtain ⟨m', rfl⟩ : ∃ m', m = m' + 1 := ⟨m - 1, by omega⟩
    rw [D.ok] at *; exact oks_upm h (by omega)
  | .tup _, 0, _, h, _ => by simp [D.ok] at h
  | .fz _, 0, _, h, _ => by simp [D.ok] at h
  | .ref _, n, _, h, _ => by cases n <;> simp [D.ok] at h
  | .wt _, n, _, h, _ => by cases n <;> simp [D.ok] at h
  | .ty _, n, _, h, _ => by cases n <;> simp [D.ok] at h
theorem oks_upm : ∀ {ds : List D} {n m : Nat}, D.oks ds n = true → n ≤ m → D.oks ds m = true
  | [], _, _, _, _ => rfl
  | d :: r, n, m, h, hm => by
    rw [D.oks, Bool.and_eq_true] at *
    exact ⟨D_ok_up h.1 hm, oks_upm h.2 hm⟩
end
mutual
def big (c : Nat) : D → Bool
  | .int i => decide (i.natAbs ≤ 10 ^ 203 + c)
  | .str x => x.cps.toList.all fun k => decide (k < 16 ^ 8)
  | .tup ds => bigs c ds | .fz ds => bigs c ds
  | _ => true
def bigs (c : Nat) : List D → Bool
  | [] => true
  | d :: r => big c d && bigs c r
end
theorem bigs_iff {c : Nat} {ds : List D} : bigs c ds = true ↔ ∀ d ∈ ds, big c d = true := by
  induction ds with
  | nil => simp [bigs]
  | cons d r ih => rw [bigs, Bool.and_eq_true, ih]; simp
mutual
theorem big_up {c c' : Nat} (h : c ≤ c') : ∀ {d : D}, big c d = true → big c' d = true
  | .int i, z => by rw [big] at *; have := of_decide_eq_true z; exact decide_eq_true (by omega)
  | .str x, z => by rw [big] at *; exact z
  | .tup ds, z => by rw [big] at *; exact bigs_up h z
  | .fz ds, z => by rw [big] at *; exact bigs_up h z
  | .non, _ => by simp [big] | .bl _, _ => by simp [big] | .wt _, _ => by simp [big] | .ref _, _ => by simp [big] | .ty _, _ => by simp [big]
theorem bigs_up {c c' : Nat} (h : c ≤ c') : ∀ {ds : List D}, bigs c ds = true → bigs c' ds = true
  | [], _ => rfl
  | d :: r, z => by rw [bigs, Bool.and_eq_true] at *; exact ⟨big_up h z.1, bigs_up h z.2⟩
end
def bA (ds : List D) : Nat := PyData.bulkAll (D.pys ds)
@[simp] theorem bA_nil : bA [] = 0 := rfl
@[simp] theorem bA_cons {d : D} {r : List D} : bA (d :: r) = d.py.bulk + 1 + bA r := by simp [bA, D.pys, PyData.bulkAll]
@[simp] theorem bA_app {a b : List D} : bA (a ++ b) = bA a + bA b := by
  induction a with
  | nil => simp
  | cons x r ih => simp only [List.cons_append, bA_cons, ih]; omega
@[simp] theorem bulk_tup {ds : List D} : (D.tup ds).py.bulk = bA ds := by simp [D.py, PyData.bulk, bA]
@[simp] theorem bulk_fz {ds : List D} : (D.fz ds).py.bulk = bA ds := by simp [D.py, PyData.bulk, bA]
structure Th (n m c : Nat) (d : D) : Prop where
  ok : d.ok n = true
  bg : big c d = true
  bk : d.py.bulk ≤ m
theorem Th.up {n m c n' m' c' : Nat} {d : D} (h : Th n m c d) (hn : n ≤ n') (hm : m ≤ m') (hc : c ≤ c') : Th n' m' c' d := ⟨D_ok_up h.ok hn, big_up hc h.bg, Nat.le_trans h.bk hm⟩
theorem Th.tup {n m c : Nat} {es : List D} (h1 : ∀ e ∈ es, e.ok n = true) (h2 : ∀ e ∈ es, big c e = true) (h3 : bA es ≤ m) : Th (n + 1) m c (.tup es) :=
  ⟨by rw [D.ok, oks_all, List.all_eq_true]; exact h1, by rw [big, bigs_iff]; exact h2, by rw [bulk_tup]; exact h3⟩
theorem Th.fz {n m c : Nat} {es : List D} (h1 : ∀ e ∈ es, e.ok n = true) (h2 : ∀ e ∈ es, big c e = true) (h3 : bA es ≤ m) : Th (n + 1) m c (.fz es) :=
  ⟨by rw [D.ok, oks_all, List.all_eq_true]; exact h1, by rw [big, bigs_iff]; exact h2, by rw [bulk_fz]; exact h3⟩
theorem Th.int {n m c : Nat} {i : Int} (h : i.natAbs ≤ 10 ^ 203 + c) : Th n m c (.int i) := ⟨by simp [D.ok], by rw [big]; exact decide_eq_true h, by simp [D.py, PyData.bulk]⟩
theorem Th.non {n m c : Nat} : Th n m c .non := ⟨by simp [D.ok], by simp [big], by simp [D.py, PyData.bulk]⟩
theorem Th.bl {n m c : Nat} {b : Bool} : Th n m c (.bl b) := ⟨by simp [D.ok], by simp [big], by simp [D.py, PyData.bulk]⟩
theorem Th.str {n m c : Nat} {x : Str} (h : x.cps.toList.all (fun k => decide (k < 16 ^ 8)) = true) (hl : x.length ≤ m) : Th n m c (.str x) := ⟨by simp [D.ok], by rw [big]; exact h, by simp only [D.py, PyData.bulk]; exact hl⟩
theorem repr_len {i : Int} (h : i.natAbs ≤ 10 ^ 203 + 100) : (Str.ofString (toString i)).length ≤ 206 := by
  have h2 : i.natAbs < 10 ^ 204 := by
    have e1 : (10 : Nat) ^ 204 = 10 * 10 ^ 203 := by rw [Nat.pow_succ, Nat.mul_comm]
    have e2 : 100 ≤ (10 : Nat) ^ 203 := Nat.le_trans (by decide : 100 ≤ 10 ^ 2) (Nat.pow_le_pow_right (by decide) (by decide))
    generalize (10 : Nat) ^ 204 = u at *
    generalize (10 : Nat) ^ 203 = v at *
    omega
  have e := int_text_length_le10 (k := 204) (by decide) h2
  rw [PySem.ofString_length]
  exact Nat.le_trans e (by decide)
theorem log_ok {i : Int} (h : i.natAbs ≤ 10 ^ 203 + 100) : i.natAbs.log2 < 1920 := by
  by_cases e : i.natAbs = 0
  · rw [e]; decide
  · refine (Nat.log2_lt e).mpr (Nat.lt_of_le_of_lt h ?_)
    decide +kernel
mutual
theorem big_py : ∀ d : D, big 100 d = true → d.py.showable = true ∧ d.py.leavesShort 210 = true
  | .non, _ => by simp [D.py, PyData.showable, PyData.leavesShort]
  | .bl _, _ => by simp [D.py, PyData.showable, PyData.leavesShort]
  | .int i, h => by
    have h' : i.natAbs ≤ 10 ^ 203 + 100 := by rw [big] at h; exact of_decide_eq_true h
    rw [D.py]
    exact ⟨by rw [PyData.showable]; exact decide_eq_true (log_ok h'), by rw [PyData.leavesShort]; exact decide_eq_true (Nat.le_trans (repr_len h') (by decide))⟩
  | .str x, h => by
    rw [D.py, PyData.showable, PyData.leavesShort]
    exact ⟨rfl, by rw [big] at h; exact h⟩
  | .tup ds, h => by rw [D.py, PyData.showable, PyData.leavesShort]; exact bigs_py ds (by rw [big] at h; exact h)
  | .fz ds, h => by rw [D.py, PyData.showable, PyData.leavesShort]; exact bigs_py ds (by rw [big] at h; exact h)
  | .wt _, _ => by simp [D.py, PyData.showable, PyData.leavesShort]
  | .ref _, _ => by simp [D.py, PyData.showable, PyData.leavesShort]
  | .ty _, _ => by simp [D.py, PyData.showable, PyData.leavesShort]
theorem bigs_py : ∀ ds : List D, bigs 100 ds = true → PyData.showableAll (D.pys ds) = true ∧ PyData.leavesShortAll 210 (D.pys ds) = true
  | [], _ => by simp [D.pys, PyData.showableAll, PyData.leavesShortAll]
  | d :: r, h => by
    rw [bigs, Bool.and_eq_true] at h
    obtain ⟨a, b⟩ := big_py d h.1
    obtain ⟨c, e⟩ := bigs_py r h.2
    rw [D.pys, PyData.showableAll, PyData.leavesShortAll, a, b, c, e]
    exact ⟨rfl, rfl⟩
end
theorem wReprA_big {S : Sto} {Q : KD} {d : D} (ok : d.ok 40 = true) (hb : big 100 d = true) (hk : d.py.bulk ≤ 79000) : wReprA [d] S Q = Q (.str d.py.shown) S := by
  obtain ⟨a, b⟩ := big_py d hb
  refine wReprA_ok ok a ?_
  have := PyData.shown_le_bulk 210 (by decide) d.py b
  rw [sizeLine_eq]
  omega
theorem Th.repr {n m c : Nat} {d : D} (h : Th n m c d) (hn : n ≤ 40) (hm : m ≤ 79000) (hc : c ≤ 100) {S : Sto} {Q : KD} : wReprA [d] S Q = Q (.str d.py.shown) S :=
  wReprA_big (D_ok_up h.ok hn) (big_up hc h.bg) (Nat.le_trans h.bk hm)
theorem Th.nat {n m c : Nat} {i : Nat} (h : i ≤ 2000) : Th n m c (.int i) := Th.int (Nat.le_trans (by omega : (i : Int).natAbs ≤ 2000) (Nat.le_trans (by decide +kernel : 2000 ≤ 10 ^ 203) (Nat.le_add_right _ _)))
theorem bA_le {k : Nat} : ∀ {es : List D}, (∀ e ∈ es, e.py.bulk ≤ k) → bA es ≤ (k + 1) * es.length
  | [], _ => by simp
  | x :: r, h => by
    have h1 := h x (List.mem_cons_self ..)
    have h2 := bA_le (k := k) (es := r) fun e he => h e (List.mem_cons_of_mem _ he)
    rw [bA_cons, List.length_cons, Nat.mul_succ]
    omega
theorem Th.tups {n m c k : Nat} {es : List D} (h : ∀ e ∈ es, Th n m c e) (hl : es.length ≤ k) : Th (n + 1) ((m + 1) * k) c (.tup es) :=
  Th.tup (fun e he => (h e he).ok) (fun e he => (h e he).bg) (Nat.le_trans (bA_le fun e he => (h e he).bk) (Nat.mul_le_mul_left _ hl))
end KR
namespace KR
open PySem PySem.Spec PyProof.Rows L2 DL
open Builtin.Str (reprChar)
mutual
def pl : D → Bool
  | .non => true | .bl _ => true
  | .int i => decide (0 ≤ i)
  | .str x => x.cps.toList.all fun c => decide (97 ≤ c) && decide (c ≤ 122)
  | .tup ds => pls ds
  | _ => false
def pls : List D → Bool
  | [] => true
  | d :: r => pl d && pls r
end
theorem pls_iff {ds : List D} : pls ds = true ↔ ∀ d ∈ ds, pl d = true := by
  induction ds with
  | nil => simp [pls]
  | cons d r ih => rw [pls, Bool.and_eq_true, ih]; simp
def Lc (d : D) : List Nat := d.py.shown.cps.toList
theorem Lc_non : Lc .non = [78, 111, 110, 101] := by decide +kernel
theorem Lc_t : Lc (.bl true) = [84, 114, 117, 101] := by decide +kernel
theorem Lc_f : Lc (.bl false) = [70, 97, 108, 115, 101] := by decide +kernel
theorem Lc_int {i : Int} (h : 0 ≤ i) : Lc (.int i) = TL.numL i.toNat := by
  have e : i = ((i.toNat : Nat) : Int) := by omega
  have : Lc (.int i) = TL.tl (Str.ofString (toString i)) := rfl
  rw [this, e]
  simp only [Int.toNat_natCast]
  exact TL.tl_num _
theorem letter_print : ∀ c, c < 123 → 97 ≤ c → Unicode.isPrintable c = true := by decide +kernel
theorem reprChar_letter {c : Nat} (h1 : 97 ≤ c) (h2 : c ≤ 122) : reprChar 39 c = [c] := by
  unfold reprChar
  have e1 : (c == 39 || c == 92) = false := by simp; omega
  have e2 : (c == 10) = false := by simp; omega
  have e3 : (c == 13) = false := by simp; omega
  have e4 : (c == 9) = false := by simp; omega
  simp only [e1, e2, e3, e4, letter_print c (by omega) h1]
  rfl
theorem flat_letters : ∀ {l : List Nat}, (∀ c ∈ l, 97 ≤ c ∧ c ≤ 122) → l.flatMap (reprChar 39) = l
  | [], _ => rfl
  | c :: r, h => by
    have hc := h c (List.mem_cons_self ..)
    rw [List.flatMap_cons, reprChar_letter hc.1 hc.2, flat_letters fun x hx => h x (List.mem_cons_of_mem _ hx)]; rfl
theorem letters_of {x : Str} (h : pl (.str x) = true) : ∀ c ∈ x.cps.toList, 97 ≤ c ∧ c ≤ 122 := fun c hc => by
  rw [pl, List.all_eq_true] at h
  have := h c hc
  rw [Bool.and_eq_true] at this
  exact ⟨of_decide_eq_true this.1, of_decide_eq_true this.2⟩
theorem Lc_str {x : Str} (h : pl (.str x) = true) : Lc (.str x) = 39 :: x.cps.toList ++ [39] := by
  have hl := letters_of h
  have e : Lc (.str x) = (reprText x).cps.toList := rfl
  have q : reprQuote x = 39 := by
    unfold reprQuote
    have : x.cps.contains 39 = false := by
      cases z : x.cps.contains 39 with
      | false => rfl
      | true =>
        have := hl 39 (Array.mem_toList_iff.mpr (by simpa using z))
        omega
    rw [this]; rfl
  rw [e, reprText_list, q, flat_letters hl]
def tT : List D → List Nat
  | [] => [41]
  | d :: r => 44 :: 32 :: (Lc d ++ tT r)
theorem tl_app (a b : Str) : (a ++ b).cps.toList = a.cps.toList ++ b.cps.toList := by
  show (Str.append a b).cps.toList = _
  simp only [Str.append, Array.toList_append]
theorem join_tT : ∀ (d : D) (r : List D), (Str.join ", " (PyData.shownAll (D.pys (d :: r)))).cps.toList ++ [41] = Lc d ++ tT r
  | d, [] => by
    show (Str.join ", " [d.py.shown]).cps.toList ++ [41] = _
    rfl
  | d, e :: r => by
    have ih := join_tT e r
    show (d.py.shown ++ ", " ++ Str.join ", " (PyData.shownAll (D.pys (e :: r)))).cps.toList ++ [41] = _
    rw [tl_app, tl_app, List.append_assoc, List.append_assoc, ih]
    rfl
theorem Lc_tup0 : Lc (.tup []) = [40, 41] := by decide +kernel
theorem Lc_tup (ds : List D) : Lc (.tup ds) = (tupleText (PyData.shownAll (D.pys ds))).cps.toList := by
  show (D.tup ds).py.shown.cps.toList = _
  rw [D.py, PyData.shown]
theorem Lc_tup1 (d : D) : Lc (.tup [d]) = 40 :: (Lc d ++ [44, 41]) := by
  rw [Lc_tup]
  show (tupleText [d.py.shown]).cps.toList = _
  unfold tupleText
  rw [tl_app, tl_app]
  rfl
theorem Lc_tup2 (d e : D) (r : List D) : Lc (.tup (d :: e :: r)) = 40 :: (Lc d ++ tT (e :: r)) := by
  rw [Lc_tup, ← join_tT d (e :: r)]
  unfold tupleText
  have : ((PyData.shownAll (D.pys (d :: e :: r))).length == 1) = false := by
    show ((d.py.shown :: e.py.shown :: PyData.shownAll (D.pys r)).length == 1) = false
    simp
  rw [this, tl_app, tl_app]
  rfl
def cls (c : Nat) : Nat := if c = 78 then 0 else if c = 84 then 1 else if c = 70 then 2 else if c = 39 then 4 else if c = 40 then 5 else if 48 ≤ c ∧ c ≤ 57 then 3 else 7
def kd : D → Nat
  | .non => 0 | .bl true => 1 | .bl false => 2 | .int _ => 3 | .str _ => 4 | .tup _ => 5 | _ => 6
theorem Lc_head {d : D} (h : pl d = true) : ∃ c t, Lc d = c :: t ∧ cls c = kd d := by
  cases d with
  | non => exact ⟨_, _, Lc_non, rfl⟩
  | bl b => cases b with
    | true => exact ⟨_, _, Lc_t, rfl⟩
    | false => exact ⟨_, _, Lc_f, rfl⟩
  | int i =>
    have hi : 0 ≤ i := by rw [pl] at h; exact of_decide_eq_true h
    rw [Lc_int hi]
    cases e : TL.numL i.toNat with
    | nil => exact absurd e (TL.numL_ne _)
    | cons c t =>
      refine ⟨c, t, rfl, ?_⟩
      have hm : c ∈ TL.numL i.toNat := by rw [e]; exact List.mem_cons_self ..
      have h1 : ¬ (c < 48 ∨ 57 < c) := fun z => TL.numL_free (s := c) (n := i.toNat) z hm
      show cls c = 3
      unfold cls
      rw [if_neg (by omega), if_neg (by omega), if_neg (by omega), if_neg (by omega), if_neg (by omega), if_pos (by omega)]
  | str x => exact ⟨39, _, Lc_str h, rfl⟩
  | tup ds =>
    match ds with
    | [] => exact ⟨40, _, Lc_tup0, rfl⟩
    | [d] => exact ⟨40, _, Lc_tup1 d, rfl⟩
    | d :: e :: r => exact ⟨40, _, Lc_tup2 d e r, rfl⟩
  | wt _ => simp [pl] at h
  | fz _ => simp [pl] at h
  | ref _ => simp [pl] at h
  | ty _ => simp [pl] at h
theorem span_eq {P : Nat → Prop} : ∀ {a b r r' : List Nat}, (∀ x ∈ a, P x) → (∀ x ∈ b, P x) → (∀ x t, r = x :: t → ¬ P x) → (∀ x t, r' = x :: t → ¬ P x) → a ++ r = b ++ r' → a = b ∧ r = r'
  | [], [], _, _, _, _, _, _, e => ⟨rfl, e⟩
  | [], y :: b, r, r', _, hb, hr, _, e => absurd (hb y (List.mem_cons_self ..)) (hr y _ e)
  | x :: a, [], r, r', ha, _, _, hr', e => absurd (ha x (List.mem_cons_self ..)) (hr' x _ e.symm)
  | x :: a, y :: b, r, r', ha, hb, hr, hr', e => by
    obtain ⟨e1, e2⟩ := List.cons.inj e
    obtain ⟨h1, h2⟩ := span_eq (fun z hz => ha z (List.mem_cons_of_mem _ hz)) (fun z hz => hb z (List.mem_cons_of_mem _ hz)) hr hr' e2
    exact ⟨by rw [e1, h1], h2⟩
def Tl (r : List Nat) : Prop := ∀ x t, r = x :: t → x = 41 ∨ x = 44
theorem Tl_tT (ds : List D) (r : List Nat) : Tl (tT ds ++ r) := fun x t e => by
  cases ds with
  | nil => exact Or.inl (List.cons.inj e).1.symm
  | cons d ds => exact Or.inr (List.cons.inj e).1.symm
theorem Tl_c (r : List Nat) : Tl ([44, 41] ++ r) := fun x t e => Or.inr (List.cons.inj e).1.symm
theorem not41 {d : D} (h : pl d = true) {r s : List Nat} : Lc d ++ r ≠ 41 :: s := fun e => by
  obtain ⟨c, t, e1, e2⟩ := Lc_head h
  rw [e1] at e
  have := (List.cons.inj e).1
  rw [this] at e2
  have hk : cls 41 = 7 := by decide
  rw [hk] at e2
  cases d with
  | bl b => cases b <;> simp [kd] at e2
  | _ => simp [kd] at e2
mutual
theorem inj : ∀ (d d' : D) {r r' : List Nat}, pl d = true → pl d' = true → Tl r → Tl r' → Lc d ++ r = Lc d' ++ r' → d = d' ∧ r = r'
  | d, d', r, r', h, h', hr, hr', e => by
    have hk : kd d = kd d' := by
      obtain ⟨c, t, e1, e2⟩ := Lc_head h
      obtain ⟨c', t', e1', e2'⟩ := Lc_head h'
      rw [e1, e1'] at e
      rw [← e2, ← e2', (List.cons.inj e).1]
    match d, d', h, h', e, hk with
    | .non, .non, _, _, e, _ => exact ⟨rfl, List.append_cancel_left e⟩
    | .bl true, .bl true, _, _, e, _ => exact ⟨rfl, List.append_cancel_left e⟩
    | .bl false, .bl false, _, _, e, _ => exact ⟨rfl, List.append_cancel_left e⟩
    | .int i, .int j, h, h', e, _ =>
      rw [pl] at h h'
      have hi := of_decide_eq_true h
      have hj := of_decide_eq_true h'
      rw [Lc_int hi, Lc_int hj] at e
      have dg : ∀ n, ∀ x ∈ TL.numL n, 48 ≤ x ∧ x ≤ 57 := fun n x hx => by
        have : ¬ (x < 48 ∨ 57 < x) := fun z => TL.numL_free z hx
        omega
      have nt : ∀ {q : List Nat}, Tl q → ∀ x t, q = x :: t → ¬ (48 ≤ x ∧ x ≤ 57) := fun hq x t ex => by
        rcases hq x t ex with z | z <;> omega
      obtain ⟨h1, h2⟩ := span_eq (P := fun x => 48 ≤ x ∧ x ≤ 57) (dg _) (dg _) (nt hr) (nt hr') e
      have := TL.numL_inj h1
      exact ⟨by rw [show i = j by omega], h2⟩
    | .str x, .str y, h, h', e, _ =>
      rw [Lc_str h, Lc_str h'] at e
      simp only [List.cons_append, List.append_assoc, List.nil_append] at e
      have e := (List.cons.inj e).2
      have nt : ∀ {q : List Nat}, ∀ x t, (39 :: q) = x :: t → ¬ (97 ≤ x ∧ x ≤ 122) := fun x t ex => by
        have := (List.cons.inj ex).1
        omega
      obtain ⟨h1, h2⟩ := span_eq (P := fun x => 97 ≤ x ∧ x ≤ 122) (letters_of h) (letters_of h') nt nt e
      exact ⟨by rw [Str.of_list h1], (List.cons.inj h2).2⟩
    | .tup [], .tup [], _, _, e, _ => exact ⟨rfl, List.append_cancel_left e⟩
    | .tup [], .tup [y], _, h', e, _ =>
      rw [pl, pls, Bool.and_eq_true] at h'
      rw [Lc_tup0, Lc_tup1] at e
      simp only [List.cons_append, List.append_assoc, List.nil_append] at e
      exact absurd (List.cons.inj e).2.symm (not41 h'.1)
    | .tup [], .tup (y :: z :: t), _, h', e, _ =>
      rw [pl, pls, Bool.and_eq_true] at h'
      rw [Lc_tup0, Lc_tup2] at e
      simp only [List.cons_append, List.append_assoc, List.nil_append] at e
      exact absurd (List.cons.inj e).2.symm (not41 h'.1)
    | .tup [x], .tup [], h, _, e, _ =>
      rw [pl, pls, Bool.and_eq_true] at h
      rw [Lc_tup0, Lc_tup1] at e
      simp only [List.cons_append, List.append_assoc, List.nil_append] at e
      exact absurd (List.cons.inj e).2 (not41 h.1)
    | .tup (x :: w :: s), .tup [], h, _, e, _ =>
      rw [pl, pls, Bool.and_eq_true] at h
      rw [Lc_tup0, Lc_tup2] at e
      simp only [List.cons_append, List.append_assoc, List.nil_append] at e
      exact absurd (List.cons.inj e).2 (not41 h.1)
    | .tup [x], .tup [y], h, h', e, _ =>
      rw [pl, pls, Bool.and_eq_true] at h h'
      rw [Lc_tup1, Lc_tup1] at e
      simp only [List.cons_append, List.append_assoc, List.nil_append] at e
      obtain ⟨h1, h2⟩ := inj x y h.1 h'.1 (Tl_c r) (Tl_c r') (List.cons.inj e).2
      exact ⟨by rw [h1], List.append_cancel_left h2⟩
    | .tup [x], .tup (y :: z :: t), h, h', e, _ =>
      rw [pl, pls, Bool.and_eq_true] at h h'
      rw [Lc_tup1, Lc_tup2] at e
      simp only [List.cons_append, List.append_assoc, List.nil_append] at e
      obtain ⟨h1, h2⟩ := inj x y h.1 h'.1 (Tl_c r) (Tl_tT (z :: t) r') (List.cons.inj e).2
      simp [tT] at h2
    | .tup (x :: w :: s), .tup [y], h, h', e, _ =>
      rw [pl, pls, Bool.and_eq_true] at h h'
      rw [Lc_tup1, Lc_tup2] at e
      simp only [List.cons_append, List.append_assoc, List.nil_append] at e
      obtain ⟨h1, h2⟩ := inj x y h.1 h'.1 (Tl_tT (w :: s) r) (Tl_c r') (List.cons.inj e).2
      simp [tT] at h2
    | .tup (x :: w :: s), .tup (y :: z :: t), h, h', e, _ =>
      rw [pl, pls, Bool.and_eq_true] at h h'
      rw [Lc_tup2, Lc_tup2] at e
      simp only [List.cons_append, List.append_assoc] at e
      obtain ⟨h1, h2⟩ := inj x y h.1 h'.1 (Tl_tT (w :: s) r) (Tl_tT (z :: t) r') (List.cons.inj e).2
      obtain ⟨h3, h4⟩ := injs (w :: s) (z :: t) h.2 h'.2 h2
      exact ⟨by rw [h1, h3], h4⟩
theorem injs : ∀ (ds ds' : List D) {r r' : List Nat}, pls ds = true → pls ds' = true → tT ds ++ r = tT ds' ++ r' → ds = ds' ∧ r = r'
  | [], [], r, r', _, _, e => ⟨rfl, List.append_cancel_left e⟩
  | [], y :: t, r, r', _, _, e => by
    have := (List.cons.inj e).1
    omega
  | x :: s, [], r, r', _, _, e => by
    have := (List.cons.inj e).1
    omega
  | x :: s, y :: t, r, r', h, h', e => by
    rw [pls, Bool.and_eq_true] at h h'
    rw [tT, tT] at e
    simp only [List.cons_append, List.append_assoc] at e
    obtain ⟨h1, h2⟩ := inj x y h.1 h'.1 (Tl_tT s r) (Tl_tT t r') (List.cons.inj (List.cons.inj e).2).2
    obtain ⟨h3, h4⟩ := injs s t h.2 h'.2 h2
    exact ⟨by rw [h1, h3], h4⟩
end
theorem shown_eq {d d' : D} (h : pl d = true) (h' : pl d' = true) : d.py.shown = d'.py.shown ↔ d = d' := by
  constructor
  · intro e
    have nil : Tl [] := fun x t ex => by cases ex
    exact (inj d d' h h' nil nil (by rw [List.append_nil, List.append_nil]; show Lc d = Lc d'; unfold Lc; rw [e])).1
  · rintro rfl; rfl
end KR
namespace KR
open PySem PySem.Spec PyProof.Rows L2 DL
structure Sd (n m : Nat) (d : D) : Prop where
  th : Th n m 0 d
  p : pl d = true
  c : d.cl n = true
theorem Sd.up {n m n' m' : Nat} {d : D} (h : Sd n m d) (hn : n ≤ n') (hm : m ≤ m') : Sd n' m' d := ⟨h.th.up hn hm (Nat.le_refl _), h.p, D.cl_up _ _ _ hn h.c⟩
theorem Sd.int {n m : Nat} {i : Int} (h0 : 0 ≤ i) (h : i ≤ 2000) : Sd n m (.int i) := by
  obtain ⟨k, rfl⟩ : ∃ k : Nat, i = k := ⟨i.toNat, by omega⟩
  refine ⟨Th.nat (by omega), ?_, ?_⟩
  · rw [pl]; exact decide_eq_true h0
  · rw [D.cl]
theorem Sd.non {n m : Nat} : Sd n m .non := ⟨Th.non, rfl, by rw [D.cl]⟩
def ltr (x : Str) : Bool := (x.cps.toList.all fun c => decide (97 ≤ c) && decide (c ≤ 122)) && decide (x.length ≤ 8)
theorem Sd.str {n m : Nat} {x : Str} (h : ltr x = true) (hm : 8 ≤ m) : Sd n m (.str x) := by
  unfold ltr at h
  rw [Bool.and_eq_true] at h
  have hl := of_decide_eq_true h.2
  refine ⟨Th.str ?_ (by omega), h.1, by rw [D.cl]⟩
  rw [List.all_eq_true] at *
  intro k hk
  have := h.1 k hk
  rw [Bool.and_eq_true] at this
  have := of_decide_eq_true this.2
  exact decide_eq_true (by have : 122 < 16 ^ 8 := by decide
                           omega)
theorem Sd.tups {n m k : Nat} {es : List D} (h : ∀ e ∈ es, Sd n m e) (hl : es.length ≤ k) : Sd (n + 1) ((m + 1) * k) (.tup es) :=
  ⟨Th.tups (fun e he => (h e he).th) hl, by rw [pl, pls_iff]; exact fun e he => (h e he).p, by rw [D.cl, D.cls_iff]; exact fun e he => (h e he).c⟩
theorem Sd.repr {n m : Nat} {d : D} (h : Sd n m d) (hn : n ≤ 40) (hm : m ≤ 79000) {S : Sto} {Q : KD} : wReprA [d] S Q = Q (.str d.py.shown) S := h.th.repr hn hm (by decide)
theorem Sd.ok {n m : Nat} {d : D} (h : Sd n m d) : d.ok n = true := h.th.ok
theorem Sd.one {n m : Nat} {d : D} (h : Sd n m d) : Sd (n + 1) (m + 1) (.tup [d]) := (Sd.tups (k := 1) (fun e he => by rw [List.mem_singleton.mp he]; exact h) (by simp)).up (Nat.le_refl _) (by omega)
theorem Sd.parts {n m : Nat} {es : List D} (h : ∀ e ∈ es, ∃ k, Sd n k e) (hm : bA es ≤ m) : Sd (n + 1) m (.tup es) := by
  refine ⟨Th.tup (fun e he => ?_) (fun e he => ?_) hm, ?_, ?_⟩
  · obtain ⟨k, z⟩ := h e he; exact z.th.ok
  · obtain ⟨k, z⟩ := h e he; exact z.th.bg
  · rw [pl, pls_iff]; intro e he; obtain ⟨k, z⟩ := h e he; exact z.p
  · rw [D.cl, D.cls_iff]; intro e he; obtain ⟨k, z⟩ := h e he; exact z.c
theorem Sd.two {n a b : Nat} {d e : D} (h : Sd n a d) (h' : Sd n b e) : Sd (n + 1) (a + b + 2) (.tup [d, e]) := Sd.parts (fun x hx => by
  simp only [List.mem_cons, List.not_mem_nil, or_false] at hx
  rcases hx with rfl | rfl
  · exact ⟨_, h⟩
  · exact ⟨_, h'⟩) (by
  have := h.th.bk; have := h'.th.bk
  simp only [bA_cons, bA_nil]; omega)
theorem Sd.three {n a b c : Nat} {d e f : D} (h : Sd n a d) (h' : Sd n b e) (h2 : Sd n c f) : Sd (n + 1) (a + b + c + 3) (.tup [d, e, f]) := Sd.parts (fun x hx => by
  simp only [List.mem_cons, List.not_mem_nil, or_false] at hx
  rcases hx with rfl | rfl | rfl
  · exact ⟨_, h⟩
  · exact ⟨_, h'⟩
  · exact ⟨_, h2⟩) (by
  have := h.th.bk; have := h'.th.bk; have := h2.th.bk
  simp only [bA_cons, bA_nil]; omega)
end KR
namespace KD
open PySem PySem.Spec PyProof.Rows L2 DL KB
open KR (Sd)
theorem isK_ltr {x : Str} (h : isK x) : KR.ltr x = true := by
  rcases h with rfl | rfl <;> decide +kernel
theorem ent_Sd {rows : List Nd} {made : Int} (V : TreeV rows made) (hm : made ≤ 2000) {r : Nd} (hr : r ∈ rows) {p : Str × Int} (hp : p ∈ r.2.2) : 0 ≤ p.2 ∧ p.2 ≤ 2000 := by
  have ht := V.tg r hr p hp
  obtain ⟨q, hq, e⟩ := List.mem_map.mp ht.1
  have e : q.1 = p.2 := e
  have := V.lt q hq
  omega
theorem id_Sd {rows : List Nd} {made : Int} (V : TreeV rows made) (hm : made ≤ 2000) {n : Int} (h : n ∈ rows.map (·.1)) : 0 ≤ n ∧ n ≤ 2000 := by
  have h0 := V.pos h
  obtain ⟨q, hq, e⟩ := List.mem_map.mp h
  have e : q.1 = n := e
  have := V.lt q hq
  omega
theorem row_Sd {rows : List Nd} {made : Int} (V : TreeV rows made) (hm : made ≤ 2000) {r : Nd} (hr : r ∈ rows) : Sd 4 239 (rowD r) := by
  obtain ⟨h0, h1⟩ := id_Sd V hm (List.mem_map_of_mem (f := fun r : Nd => r.1) hr)
  have he : Sd 3 228 (.tup (r.2.2.map pairSI)) := by
    refine (Sd.tups (n := 2) (m := 18) (k := 12) (fun e he => ?_) (by rw [List.length_map]; exact V.ent hr)).up (by decide) (by decide)
    obtain ⟨p, hp, rfl⟩ := List.mem_map.mp he
    obtain ⟨a, b⟩ := ent_Sd V hm hr hp
    exact (Sd.two (n := 1) (a := 8) (b := 0) (Sd.str (V.nm r hr p hp) (by decide)) (Sd.int a b)).up (by decide) (by decide)
  exact (Sd.three (n := 3) (a := 0) (b := 8) (c := 228) (Sd.int h0 h1) (Sd.str (isK_ltr (V.kd r hr)) (by decide)) he).up (by decide) (by decide)
theorem tree_Sd {rows : List Nd} {made : Int} (V : TreeV rows made) (hm : made ≤ 2000) (hl : rows.length ≤ 60) : Sd 6 14402 (treeD rows made) := by
  have h0 : 0 ≤ made := by
    obtain ⟨es, r, e⟩ := V.top
    have := V.lt (0, "drawer", es) (by rw [e]; exact List.mem_cons_self ..)
    simp only at this
    omega
  refine (Sd.two (n := 5) (a := 14400) (b := 0) ?_ (Sd.int h0 hm)).up (by decide) (by decide)
  refine (Sd.tups (n := 4) (m := 239) (k := 60) (fun e he => ?_) (by rw [List.length_map]; exact hl)).up (by decide) (by decide)
  obtain ⟨r, hr, rfl⟩ := List.mem_map.mp he
  exact row_Sd V hm hr
theorem thr_ms (rows : List Nd) : ∀ (w : List Str) (p : List Int) (h : Int) (k : Nat), ((thr rows p h k w).2 = .ok) ∨ ∃ j, j ≤ k + w.length ∧ ((thr rows p h k w).2 = .sh j ∨ (thr rows p h k w).2 = .no j)
  | [], _, _, _ => Or.inl rfl
  | x :: r, p, h, k => by
    rw [thr]
    split
    · exact Or.inr ⟨k, by omega, Or.inl rfl⟩
    · split
      · exact Or.inr ⟨k, by omega, Or.inr rfl⟩
      · rename_i n e
        rcases thr_ms rows r (p ++ [h]) n (k + 1) with h | ⟨j, hj, h⟩
        · exact Or.inl h
        · exact Or.inr ⟨j, by rw [List.length_cons]; omega, h⟩
def Msk (m : Ms) : Prop := m = .ok ∨ ∃ j, j ≤ 10 ∧ (m = .sh j ∨ m = .no j)
theorem thru_ms {rows : List Nd} {w : List Str} (h : w.length ≤ 10) : Msk (thru rows w).2 := by
  rcases thr_ms rows w [] 0 0 with a | ⟨j, hj, a⟩
  · exact Or.inl a
  · exact Or.inr ⟨j, by omega, a⟩
theorem drw_ms {rows : List Nd} {w : List Str} (h : w.length ≤ 10) : Msk (drw rows w).2 := by
  unfold drw
  split
  · exact Or.inr ⟨_, by omega, Or.inl rfl⟩
  · exact thru_ms (by rw [List.length_dropLast]; omega)
theorem Msk.sd {m : Ms} (h : Msk m) : Sd 3 200 m.D := by
  rcases h with rfl | ⟨j, hj, rfl | rfl⟩
  · exact Sd.non
  · exact (Sd.two (n := 1) (a := 8) (b := 8) (Sd.str (by decide +kernel) (by decide)) (Sd.int (by omega) (by omega))).up (by decide) (by decide)
  · exact (Sd.two (n := 1) (a := 8) (b := 8) (Sd.str (by decide +kernel) (by decide)) (Sd.int (by omega) (by omega))).up (by decide) (by decide)
theorem Msk.sdw {m : Ms} (h : Msk m) {i : Nat} (hi : i ≤ 1) : Sd 3 200 (m.Dw i) := by
  rcases h with rfl | ⟨j, hj, rfl | rfl⟩
  · exact Sd.non
  · exact (Sd.three (n := 1) (a := 8) (b := 8) (c := 8) (Sd.str (by decide +kernel) (by decide)) (Sd.int (by omega) (by omega)) (Sd.int (by omega) (by omega))).up (by decide) (by decide)
  · exact (Sd.three (n := 1) (a := 8) (b := 8) (c := 8) (Sd.str (by decide +kernel) (by decide)) (Sd.int (by omega) (by omega)) (Sd.int (by omega) (by omega))).up (by decide) (by decide)
theorem w1_sd {x : Str} (h : KR.ltr x = true) : Sd 3 200 (.tup [.str x]) := (Sd.one (n := 1) (m := 8) (Sd.str h (by decide))).up (by decide) (by decide)
theorem w2_sd {x : Str} (h : KR.ltr x = true) {i : Int} (h0 : 0 ≤ i) (h1 : i ≤ 2000) : Sd 3 200 (.tup [.str x, .int i]) := (Sd.two (n := 1) (a := 8) (b := 8) (Sd.str h (by decide)) (Sd.int h0 h1)).up (by decide) (by decide)
theorem w3_sd {x : Str} (h : KR.ltr x = true) {i j : Int} (h0 : 0 ≤ i) (h1 : i ≤ 2000) (h2 : 0 ≤ j) (h3 : j ≤ 2000) : Sd 3 200 (.tup [.str x, .int i, .int j]) := (Sd.three (n := 1) (a := 8) (b := 8) (c := 8) (Sd.str h (by decide)) (Sd.int h0 h1) (Sd.int h2 h3)).up (by decide) (by decide)
theorem both_sd {rows : List Nd} {w v : List Str} (hw : w.length ≤ 10) (hv : v.length ≤ 10) : Sd 3 200 (both rows w v).2.2 := by
  unfold both
  split
  · exact (drw_ms hw).sdw (by decide)
  · split
    · exact (drw_ms hv).sdw (by decide)
    · show Sd 3 200 (if _ then _ else _)
      split
      · exact w3_sd (by decide +kernel) (by omega) (by omega) (by omega) (by omega)
      · exact Sd.non
theorem bar_ltr {rows : List Nd} {g n : Int} {old : Option Int} {s : Str} (h : bar rows g n old = some s) : KR.ltr s = true := by
  unfold bar at h
  split at h
  · cases h; decide +kernel
  · split at h
    · cases h; decide +kernel
    · split at h
      · cases h
      · split at h
        · cases h; decide +kernel
        · split at h
          · cases h; decide +kernel
          · cases h
theorem doF_sd {t : TreeT} (V : TreeV t.1 t.2) (hm : t.2 ≤ 2000) {d : Dd} (ok : Dd.sh d) : Sd 3 200 (doF t d).2 := by
  have ei : ∀ {w : List Str} {n : Int}, ent t.1 w = some n → 0 ≤ n ∧ n ≤ 2000 := fun e => id_Sd V hm (ent_in V e).1
  have m0 : 0 ≤ t.2 := by
    obtain ⟨es, r, e⟩ := V.top
    have := V.lt (0, "drawer", es) (by rw [e]; exact List.mem_cons_self ..)
    simp only at this
    omega
  cases d with
  | one x w =>
    obtain ⟨hx, hw, hd⟩ := ok
    have hw4 := hw
    rw [doF]
    split
    · show Sd 3 200 (lookD t.1 w)
      unfold lookD
      split
      · have hi := thr_in V w (p := []) (k := 0) V.zero
        obtain ⟨r, hr, hrm, e1⟩ := V.at_ hi
        have hk : kindO t.1 (thru t.1 w).1.2 = r.2.1 := by
          unfold kindO thru
          rw [hr]
        obtain ⟨a, b⟩ := id_Sd V hm hi
        rw [hk]
        exact (Sd.three (n := 1) (a := 8) (b := 8) (c := 8) (Sd.str (by decide +kernel) (by decide)) (Sd.str (isK_ltr (V.kd r hrm)) (by decide)) (Sd.int a b)).up (by decide) (by decide)
      · exact (thru_ms (by omega)).sd
    · split
      · show Sd 3 200 (listD t.1 w)
        unfold listD
        split
        · split
          · exact w2_sd (by decide +kernel) (by omega) (by omega)
          · refine (Sd.two (n := 2) (a := 54) (b := 108) (Sd.str (by decide +kernel) (by decide)) ?_).up (by decide) (by decide)
            cases e : rowO t.1 (thru t.1 w).1.2 with
            | none => rw [entO_none e]; exact (Sd.tups (n := 1) (m := 8) (k := 0) (by simp) (by simp)).up (by decide) (by decide)
            | some r =>
              rw [entO_eq e]
              refine (Sd.tups (n := 1) (m := 8) (k := 12) (fun q hq => ?_) (by rw [List.length_map]; exact V.ent (rowO_mem e).1)).up (by decide) (by decide)
              obtain ⟨p, hp, rfl⟩ := List.mem_map.mp hq
              exact Sd.str (V.nm r (rowO_mem e).1 p hp) (by decide)
        · exact (thru_ms (by omega)).sd
      · unfold dropF
        split
        · exact (drw_ms (by omega)).sd
        · split
          · exact w2_sd (by decide +kernel) (by omega) (by omega)
          · rename_i n e
            split
            · exact w1_sd (by decide +kernel)
            · exact w2_sd (by decide +kernel) (ei e).1 (ei e).2
  | mk w k =>
    obtain ⟨hw, hn, hk⟩ := ok
    have hw4 := hw
    rw [doF]
    unfold makeF
    split
    · exact (drw_ms (by omega)).sd
    · split
      · exact w1_sd (by decide +kernel)
      · exact w2_sd (by decide +kernel) m0 hm
  | two x w v =>
    obtain ⟨hx, hw, hwn, hv, hvn⟩ := ok
    have hw4 := hw
    have hv4 := hv
    rw [doF]
    split
    · unfold linkF
      split
      · exact both_sd (by omega) (by omega)
      · split
        · exact Sd.non
        · rename_i n e
          split
          · exact w1_sd (by decide +kernel)
          · split
            · exact w1_sd (by decide +kernel)
            · exact w2_sd (by decide +kernel) (ei e).1 (ei e).2
    · split
      · unfold moveF
        split
        · exact both_sd (by omega) (by omega)
        · split
          · exact Sd.non
          · rename_i n e
            split
            · rename_i s hb
              exact w1_sd (bar_ltr hb)
            · exact w2_sd (by decide +kernel) (ei e).1 (ei e).2
      · unfold swapF
        split
        · exact both_sd (by omega) (by omega)
        · split
          · rename_i a b ea eb
            split
            · exact w1_sd (by decide +kernel)
            · split
              · exact w1_sd (by decide +kernel)
              · exact w3_sd (by decide +kernel) (ei ea).1 (ei ea).2 (ei eb).1 (ei eb).2
          · exact w3_sd (by decide +kernel) (by omega) (by omega) (by omega) (by omega)
end KD
namespace KD
open PySem PySem.Spec PyProof.Rows L2 DL KB
open KR (Sd)
def Wd (t : TreeT) (q : TreeT × D) : Prop := ∃ x r, q.2 = .tup (.str x :: r) ∧ (x = ("made" : Str) → r = [.int t.2] ∧ q.1.2 = t.2 + 1)
theorem Wd.of {t : TreeT} {u : TreeT} {x : Str} {r : List D} (h : x ≠ ("made" : Str)) : Wd t (u, .tup (.str x :: r)) := ⟨x, r, rfl, fun z => absurd z h⟩
theorem doF_look {t : TreeT} {x : Str} {w : List Str} (h : x = ("look" : Str) ∨ x = ("list" : Str)) : (doF t (.one x w)).1 = t := by
  rw [doF]
  rcases h with rfl | rfl
  · rw [if_pos rfl]
  · rw [if_neg (by decide), if_pos rfl]
def allD (q : TreeT × List D) : D := .tup [tD q.1, .tup q.2]
end KD
namespace KD
open PySem PySem.Spec PyProof.Rows L2 DL KB
open KR (Sd)
structure TV (NS : List Str) (t : TreeT) (n m : Nat) : Prop where
  v : TreeN NS t.1 t.2
  len : t.1.length ≤ n
  made : t.2 ≤ (m : Int)
theorem TV.step {NS : List Str} {t : TreeT} {n m : Nat} (h : TV NS t n m) {d : Dd} (ok : DdN NS d) : TV NS (doF t d).1 (n + 1) (m + 1) := by
  refine ⟨doF_tree h.v ok, ?_, ?_⟩
  · have := doF_len t d; have := h.len; omega
  · have := h.made
    rcases doF_made t d with e | ⟨e, _⟩ <;> rw [e] <;> omega
theorem TV.up {NS : List Str} {t : TreeT} {n m n' m' : Nat} (h : TV NS t n m) (hn : n ≤ n') (hm : m ≤ m') : TV NS t n' m' := ⟨h.v, Nat.le_trans h.len hn, by have := h.made; omega⟩
theorem TV.sd {NS : List Str} {t : TreeT} {n m : Nat} (h : TV NS t n m) (hn : n ≤ 60) (hm : m ≤ 2000) : Sd 6 14402 (tD t) := tree_Sd h.v.v (by have := h.made; omega) (Nat.le_trans h.len hn)
theorem TV.told {NS : List Str} {t : TreeT} {n m : Nat} (h : TV NS t n m) (hm : m ≤ 2000) {d : Dd} (ok : Dd.sh d) : Sd 3 200 (doF t d).2 := doF_sd h.v.v (by have := h.made; omega) ok
theorem TV.all {NS : List Str} {t : TreeT} {n m : Nat} (h : TV NS t n m) : ∀ {l : List Dd}, (∀ d ∈ l, DdN NS d) → TV NS (doAll t l).1 (n + l.length) (m + l.length) := by
  intro l
  induction l generalizing t n m with
  | nil => intro _; exact h
  | cons d l ih =>
    intro ok
    have := ih (h.step (ok d (List.mem_cons_self ..))) fun d hd => ok d (List.mem_cons_of_mem _ hd)
    rw [doAll]
    exact this.up (by rw [List.length_cons]; omega) (by rw [List.length_cons]; omega)
theorem TV.tolds {NS : List Str} {t : TreeT} {n m : Nat} (h : TV NS t n m) : ∀ {l : List Dd}, m + l.length ≤ 2000 → (∀ d ∈ l, DdN NS d) → ∀ e ∈ (doAll t l).2, Sd 3 200 e := by
  intro l
  induction l generalizing t n m with
  | nil => intro _ _ e he; cases he
  | cons d l ih =>
    intro hl ok e he
    rw [List.length_cons] at hl
    rw [doAll] at he
    rcases List.mem_cons.mp he with rfl | he
    · exact h.told (by omega) (ok d (List.mem_cons_self ..)).1
    · exact ih (h.step (ok d (List.mem_cons_self ..))) (by omega) (fun d hd => ok d (List.mem_cons_of_mem _ hd)) e he
end KD
namespace KF
open PySem PySem.Spec PyProof.Rows L2 DL
def fdD (c a b n : D) : List (D × D) := [(.str "cells", c), (.str "at", a), (.str "left", b), (.str "count", n)]
section
variable {c a b n v : D} {S : Sto} {Q : KD} {f : Addr}
theorem kne : (D.str "cells" ≠ D.str "at" ∧ D.str "cells" ≠ D.str "left" ∧ D.str "cells" ≠ D.str "count") ∧ (D.str "at" ≠ D.str "left" ∧ D.str "at" ≠ D.str "count") ∧ D.str "left" ≠ D.str "count" := by decide +kernel
theorem fit (x : Str) : keyFit (fdD c a b n) (.str x) = true := rfl
theorem fitW (x : Str) : keyFitW (fdD c a b n) (.str x) = true := by unfold keyFitW; rw [fit]; simp
theorem get_c : dGet (fdD c a b n) (.str "cells") = some c := by simp [dGet, fdD]
theorem get_a : dGet (fdD c a b n) (.str "at") = some a := by simp [dGet, fdD, List.find?_cons, kne.1.1]
theorem get_b : dGet (fdD c a b n) (.str "left") = some b := by simp [dGet, fdD, List.find?_cons, kne.1.2.1, kne.2.1.1]
theorem get_n : dGet (fdD c a b n) (.str "count") = some n := by simp [dGet, fdD, List.find?_cons, kne.1.2.2, kne.2.1.2, kne.2.2]
theorem put_a : dPut (fdD c a b n) (.str "at") v = fdD c v b n := by simp [dPut, fdD, kne.1.1, kne.2.1.1.symm, kne.2.1.2.symm]
theorem put_b : dPut (fdD c a b n) (.str "left") v = fdD c a v n := by simp [dPut, fdD, kne.1.2.1, kne.2.1.1, kne.2.2.symm]
theorem put_n : dPut (fdD c a b n) (.str "count") v = fdD c a b v := by simp [dPut, fdD, kne.1.2.2, kne.2.1.2, kne.2.2]
theorem at_c (h : S f = some (.dct (fdD c a b n))) : wAt (.ref f) (.str "cells") S Q = Q c S := wAt_dct h (fit _) get_c
theorem at_a (h : S f = some (.dct (fdD c a b n))) : wAt (.ref f) (.str "at") S Q = Q a S := wAt_dct h (fit _) get_a
theorem at_b (h : S f = some (.dct (fdD c a b n))) : wAt (.ref f) (.str "left") S Q = Q b S := wAt_dct h (fit _) get_b
theorem at_n (h : S f = some (.dct (fdD c a b n))) : wAt (.ref f) (.str "count") S Q = Q n S := wAt_dct h (fit _) get_n
variable {k : Sto → Prop}
theorem sz : (fdD c a b n).length < sizeLine := by show 4 < sizeLine; decide
theorem set_a (h : S f = some (.dct (fdD c a b n))) : wSet (.ref f) (.str "at") v S k = k (put S f (.dct (fdD c v b n))) := by simp [wSet, h, fitW, put_a, sz]
theorem set_b (h : S f = some (.dct (fdD c a b n))) : wSet (.ref f) (.str "left") v S k = k (put S f (.dct (fdD c a v n))) := by simp [wSet, h, fitW, put_b, sz]
theorem set_n (h : S f = some (.dct (fdD c a b n))) : wSet (.ref f) (.str "count") v S k = k (put S f (.dct (fdD c a b v))) := by simp [wSet, h, fitW, put_n, sz]
end
def Feed (S : Sto) (f : Addr) : Prop := ∃ (xs : List Int) (a b n : Int), S f = some (.dct (fdD (.fz (xs.map D.int)) (.int a) (.int b) (.int n)))
section
variable {S S' : Sto} {f p : Addr} {o : AO}
theorem Feed.nt (T : Feed S f) (h : S p = none) : p ≠ f := fun e => by subst e; obtain ⟨xs, a, b, n, h1⟩ := T; rw [h1] at h; cases h
theorem Feed.put (T : Feed S f) (h : p ≠ f) : Feed (DL.put S p o) f := by
  obtain ⟨xs, a, b, n, h1⟩ := T
  exact ⟨xs, a, b, n, by rw [put_ne (Ne.symm h)]; exact h1⟩
theorem Feed.new (T : Feed S f) (h : S p = none) : Feed (DL.put S p o) f := T.put (T.nt h)
end
def sp__law_draw : DSp := fun ds S Q E => ∃ f many, ds = [.ref f, .int many] ∧ 0 < many ∧ many < 10000000 ∧ Feed S f ∧ ∀ r S', 0 ≤ r → r < many → Feed S' f → Keeps f S S' → Q (.int r) S'
theorem len__law_draw : ∀ ds S Q E, sp__law_draw ds S Q E → ds.length = (["_law_feed_here", "_law_many"] : List Str).length := fun _ _ _ _ ⟨_, _, e, _⟩ => by rw [e]; rfl
def sp__law_feed : DSp := fun ds S Q E => ∃ ns : List Int, ds = [.fz (ns.map D.int)] ∧ ∀ f S', Feed S' f → S f = none → Grow S S' → Q (.ref f) S'
theorem len__law_feed : ∀ ds S Q E, sp__law_feed ds S Q E → ds.length = (["_law_script"] : List Str).length := fun _ _ _ _ ⟨_, e, _⟩ => by rw [e]; rfl
def r__law_feed : DTS := dRet (dDisp ((dC (.str "cells"), dFrz (dCB wList (dCons (dCut (dV 0) dNoPart (dPart (dC (.int 63)))) dNil))) :: (dC (.str "at"), dC (.int 0)) :: (dC (.str "left"), dC (.int 0)) :: (dC (.str "count"), dC (.int 0)) :: []))
abbrev N__law_feed : List Str := ["_law_script"]
def r__law_draw : DTS := dSeq (dAsg (dBin wAdd (dBin wAt (dV 0) (dC (.str "count"))) (dC (.int 1))) (gdSub (dV 0) (dC (.str "count")) wSet)) (dSeq (dIfS (dTst (dBin wGt (dBin wAt (dV 0) (dC (.str "left"))) (dC (.int 0)))) (dSeq (dAsg (dBin wMod (dBin wAt (dV 0) (dC (.str "left"))) (dV 1)) (gdName 5)) (dSeq (dAsg (dBin wDiv (dBin wAt (dV 0) (dC (.str "left"))) (dV 1)) (gdSub (dV 0) (dC (.str "left")) wSet)) (dRet (dV 5)))) dNext) (dSeq (dAsg (dBin wAt (dV 0) (dC (.str "at"))) (gdName 2)) (dSeq (dAsg (dBin wAdd (dV 2) (dC (.int 1))) (gdSub (dV 0) (dC (.str "at")) wSet)) (dSeq (dAsg (dIf (dTst (dBin wNe (dBin wAt (dV 0) (dC (.str "cells"))) (dLst dNil))) (dBin wAt (dBin wAt (dV 0) (dC (.str "cells"))) (dBin wMod (dV 2) (dCB wLen (dCons (dBin wAt (dV 0) (dC (.str "cells"))) dNil)))) (dC (.int 13))) (gdName 3)) (dSeq (dIfS (dAnd (dTst (dBin wGe (dV 3) (dBin wPow (dC (.int 10)) (dC (.int 18))))) (dTst (dBin wLt (dV 2) (dCB wLen (dCons (dBin wAt (dV 0) (dC (.str "cells"))) dNil))))) (dSeq (dAsg (dBin wDiv (dV 3) (dV 1)) (gdSub (dV 0) (dC (.str "left")) wSet)) (dRet (dBin wMod (dV 3) (dV 1)))) dNext) (dSeq (dAsg (dBin wMod (dBin wAdd (dBin wAdd (dBin wMod (dV 3) (dC (.int 1000000097))) (dBin wMul (dC (.int 60013)) (dBin wAt (dV 0) (dC (.str "count"))))) (dC (.int 47))) (dC (.int 2147483579))) (gdName 4)) (dSeq (dAsg (dBin wMod (dBin wAdd (dBin wAdd (dBin wMul (dV 4) (dV 4)) (dBin wMul (dC (.int 7368787)) (dBin wAt (dV 0) (dC (.str "count"))))) (dC (.int 17))) (dC (.int 2147483549))) (gdName 4)) (dRet (dBin wMod (dBin wDiv (dBin wMod (dBin wAdd (dBin wMul (dV 4) (dV 4)) (dBin wMul (dC (.int 29)) (dV 4))) (dC (.int 2147483543))) (dC (.int 16))) (dV 1))))))))))
abbrev N__law_draw : List Str := ["_law_feed_here", "_law_many", "_law_at", "_law_cell", "_law_mixed", "_law_figure"]
@[simp] theorem dDisp_eq {trs : List (DTE × DTE)} {τ : DSt} {S : Sto} {Q : KD} : dDisp trs τ S Q = ∀ p, S p = none → dPairs trs τ (put S p (.dct [])) fun ps S1 => S1 p = some (.dct []) ∧ (leafAll ps = true ∧ ps.length ≤ 15) ∧ Q (.ref p) (put S1 p (.dct (kvMerge [] ps))) := rfl
@[simp] theorem dPairs_nil {τ : DSt} {S : Sto} {Q : List (D × D) → Sto → Prop} : dPairs [] τ S Q = Q [] S := rfl
@[simp] theorem dPairs_cons {tk tv : DTE} {r : List (DTE × DTE)} {τ : DSt} {S : Sto} {Q : List (D × D) → Sto → Prop} : dPairs ((tk, tv) :: r) τ S Q = tk τ S fun x S1 => tv τ S1 fun y S2 => dPairs r τ S2 fun ps S3 => Q ((x, y) :: ps) S3 := rfl
theorem merge_fd (c a b n : D) : kvMerge [] [(.str "cells", c), (.str "at", a), (.str "left", b), (.str "count", n)] = fdD c a b n := by
  simp [kvMerge, dPut, fdD, kne.1.1, kne.1.2.1, kne.1.2.2, kne.2.1.1, kne.2.1.2, kne.2.2]
theorem vc__law_feed {ds S Q E} (h : sp__law_feed ds S Q E) : r__law_feed (bodyEnds Q) (startD N__law_feed ds) S := by
  obtain ⟨ns, rfl, k⟩ := h
  obtain ⟨ms, e⟩ := cutD_map (f := D.int) (ns := ns) (lo := none) (hi := some 63)
  unfold r__law_feed
  simp [startD, e]
  intro p hp q hq r hr
  have hpq : p ≠ q := ne_of_free hq put_same
  have hpr : p ≠ r := fun z => by subst z; rw [put_ne hpq, put_same] at hr; cases hr
  rw [del_put hr, put_ne hpq, put_same, merge_fd]
  refine ⟨rfl, rfl, k p _ ⟨ms, 0, 0, 0, put_same⟩ hp fun a o z => ?_⟩
  have h1 : a ≠ p := ne_of_free hp z
  have h2 : a ≠ q := ne_of_free hq (by rw [put_ne h1]; exact z)
  rw [put_ne h1, put_ne h2, put_ne h1]; exact z
theorem vc__law_draw {ds S Q E} (h : sp__law_draw ds S Q E) : r__law_draw (bodyEnds Q) (startD N__law_draw ds) S := by
  obtain ⟨f, many, rfl, h0, h1, ⟨xs, a, b, n, hf⟩, k⟩ := h
  have fin : ∀ (r a b n : Int) S', S' f = some (.dct (fdD (.fz (xs.map D.int)) (.int a) (.int b) (.int n))) → (∀ u o, u ≠ f → S u = some o → S' u = some o) → Q (.int (r % many)) S' := fun r a b n S' e hk =>
    k _ _ (Int.emod_nonneg _ (by omega)) (Int.emod_lt_of_pos _ h0) ⟨xs, _, _, _, e⟩ fun u o z h => hk u o z h
  unfold r__law_draw
  simp [startD, at_n hf, set_n hf]
  have g1 : put S f (.dct (fdD (.fz (xs.map D.int)) (.int a) (.int b) (.int (n + 1)))) f = some (.dct (fdD (.fz (xs.map D.int)) (.int a) (.int b) (.int (n + 1)))) := put_same
  simp [at_b g1]
  split
  · rw [set_b g1, put_put]
    exact ⟨h0, ⟨h0, by omega⟩, fin b _ _ _ _ put_same (fun _ _ z h => by rw [put_ne z]; exact h)⟩
  · rw [at_a g1, wAdd_int, set_a g1, put_put]
    have g2 : put S f (.dct (fdD (.fz (xs.map D.int)) (.int (a + 1)) (.int b) (.int (n + 1)))) f = some (.dct (fdD (.fz (xs.map D.int)) (.int (a + 1)) (.int b) (.int (n + 1)))) := put_same
    rw [at_c g2]
    intro p hp
    have hfp : f ≠ p := ne_of_free hp g2
    have g3 : put (put S f (.dct (fdD (.fz (xs.map D.int)) (.int (a + 1)) (.int b) (.int (n + 1))))) p (.lst []) f = some (.dct (fdD (.fz (xs.map D.int)) (.int (a + 1)) (.int b) (.int (n + 1)))) := by rw [put_ne hfp]; exact g2
    have kp : ∀ u o, u ≠ f → S u = some o → put (put S f (.dct (fdD (.fz (xs.map D.int)) (.int (a + 1)) (.int b) (.int (n + 1))))) p (.lst []) u = some o := fun u o z h => by
      have h2 : put S f (.dct (fdD (.fz (xs.map D.int)) (.int (a + 1)) (.int b) (.int (n + 1)))) u = some o := by rw [put_ne z]; exact h
      rw [put_ne (ne_of_free hp h2)]; exact h2
    rw [wNe_of (.cl (by rw [D.cl]; exact D.cls_iff.mpr ints_cl)) (.lst put_same (by simp))]
    generalize put (put S f (.dct (fdD (.fz (xs.map D.int)) (.int (a + 1)) (.int b) (.int (n + 1))))) p (.lst []) = S2 at *
    have bd : ∀ i j : Int, 0 < j → j < 2 ^ 40 → -(2 ^ 64) < i % j ∧ i % j < 2 ^ 64 := fun i j h1 h2 => by
      have := Int.emod_nonneg i (b := j) (by omega); have := Int.emod_lt_of_pos i h1; omega
    have cm : ∀ i j k : Int, 0 < j → j < 2 ^ 40 → CMul (i % j) k := fun i j k h1 h2 => .inl (bd i j h1 h2)
    have cl : ∀ i j : Int, -(2 ^ 64) < i ∧ i < 2 ^ 64 → CMul i j := fun i j h => .inl h
    have cp : CPow 10 18 := ⟨by decide, by decide, by decide⟩
    have e0 := at_c (Q := Q) g3
    have last : ∀ cell : Int, Q (.int (cell % many)) S2 := fun cell => fin cell _ _ _ S2 g3 kp
    by_cases hx : xs = []
    · subst hx
      simp [at_c g3, at_n g3, cp]
      refine ⟨?_, ?_, ?_, ?_, ?_, ?_, h0, last _⟩ <;> first | exact cm _ _ _ (by decide) (by decide) | exact cl _ _ (by decide) | exact ⟨by decide, by decide⟩
    · have hx0 : (0 : Int) < xs.length := by have := List.length_pos_iff.mpr hx; omega
      have m0 := Int.emod_nonneg a (b := (xs.length : Int)) (by omega)
      have m1 := Int.emod_lt_of_pos a hx0
      have e3 : atI (xs.map D.int) (a % (xs.length : Int)) = some (D.int (xs[(a % (xs.length : Int)).toNat]'(by omega))) := by
        rw [atI_int m0 (by simpa using m1)]; simp
      simp [at_c g3, at_n g3, hx, hx0, e3, cp]
      refine ⟨List.length_pos_iff.mpr hx, ?_⟩
      split
      · split
        · rw [set_b g3]
          exact ⟨⟨h0, by omega⟩, h0, fin _ _ _ _ _ put_same fun u o z h => by rw [put_ne z]; exact kp u o z h⟩
        · refine ⟨?_, ?_, ?_, ?_, ?_, ?_, h0, last _⟩ <;> first | exact cm _ _ _ (by decide) (by decide) | exact cl _ _ (by decide) | exact ⟨by decide, by decide⟩
      · refine ⟨?_, ?_, ?_, ?_, ?_, ?_, h0, last _⟩ <;> first | exact cm _ _ _ (by decide) (by decide) | exact cl _ _ (by decide) | exact ⟨by decide, by decide⟩
end KF
namespace KT
open PySem PySem.Spec PyProof.Rows L2 DL KF
theorem _root_.KF.Feed.freeT {f p : Addr} {S S1 : Sto} (T : Feed S1 f) (k : Keeps f S S1) (h : S1 p = none) : S p = none := k.free h (T.nt h)
def sgn (c : Nat) : D := .str ⟨#[c]⟩
@[simp] theorem wIter_str {x : Str} {S : Sto} {R : List D → (Sto → Prop) → Sto → Prop} : wIterA (.str x) S R = R (x.cps.toList.map sgn) (fun _ => True) S := rfl
def okS (x : Str) : Bool := x.cps.toList.all fun c => decide (97 ≤ c) && decide (c ≤ 122)
theorem ltr_of {x : Str} (h : okS x = true) (hl : x.length ≤ 8) : KD.ltr x = true := by
  unfold KD.ltr
  rw [Bool.and_eq_true]
  exact ⟨h, decide_eq_true hl⟩
theorem len_app (a b : Str) : (a ++ b).length = a.length + b.length := by
  show (Str.append a b).cps.size = _
  simp [Str.append, Str.length]
theorem okS_app {a b : Str} (ha : okS a = true) (hb : okS b = true) : okS (a ++ b) = true := by
  unfold okS at *
  rw [List.all_eq_true] at *
  intro c hc
  have : c ∈ (Str.append a b).cps.toList := hc
  simp only [Str.append, Array.toList_append, List.mem_append] at this
  rcases this with h | h
  · exact ha c h
  · exact hb c h
theorem join_ok {e : Str} (he : e.length = 0) (ho : okS e = true) : ∀ ys : List Str, (∀ y ∈ ys, y.length = 1 ∧ okS y = true) → (Str.join e ys).length ≤ ys.length ∧ okS (Str.join e ys) = true
  | [], _ => ⟨by show (Str.ofString "").length ≤ 0; decide, by show okS (Str.ofString "") = true; decide +kernel⟩
  | [x], h => by
    have := h x (List.mem_cons_self ..)
    exact ⟨by show x.length ≤ 1; omega, this.2⟩
  | x :: y :: r, h => by
    have h1 := h x (List.mem_cons_self ..)
    obtain ⟨h2, h3⟩ := join_ok he ho (y :: r) fun z hz => h z (List.mem_cons_of_mem _ hz)
    have e1 : Str.join e (x :: y :: r) = x ++ e ++ Str.join e (y :: r) := rfl
    rw [e1]
    refine ⟨?_, okS_app (okS_app h1.2 ho) h3⟩
    rw [len_app, len_app, he]
    simp only [List.length_cons] at h2 ⊢
    omega
theorem wAt_text {z : Str} {i : Int} {S : Sto} {Q : KD} (hz : okS z = true) (hl : z.length ≤ 1000) (h0 : 0 ≤ i) (h1 : i < z.length) (q : ∀ y : Str, y.length = 1 → okS y = true → Q (.str y) S) : wAt (.str z) (.int i) S Q := by
  have e : wAt (.str z) (.int i) S Q = (z.length ≤ sizeLine ∧ onS (atI z.cps.toList i) fun c => Q (.str ⟨#[c]⟩) S) := rfl
  rw [e]
  have hl2 : i < z.cps.toList.length := by simpa [Str.length] using h1
  refine ⟨by rw [sizeLine_eq]; omega, ?_⟩
  rw [atI_int h0 hl2]
  refine q _ rfl ?_
  unfold okS at hz
  rw [List.all_eq_true] at hz
  show ([z.cps.toList[i.toNat]] : List Nat).all _ = true
  simp only [List.all_cons, List.all_nil, Bool.and_true]
  exact hz _ (List.getElem_mem _)
theorem wJoin_of {S : Sto} {Q : KD} {L : Addr} {e : Str} {ys : List Str} (h : S L = some (.lst (ys.map D.str))) (he : e.length = 0) (ho : okS e = true) (hy : ∀ y ∈ ys, y.length = 1 ∧ okS y = true) (hl : ys.length ≤ 1000) (q : ∀ x : Str, x.length ≤ ys.length → okS x = true → Q (.str x) S) : wJoin (.str e) [.ref L] S Q := by
  show onS (lstOf S (.ref L)) _
  rw [lstOf_ref h]
  show onS (strsD _) _
  rw [strsD_map]
  obtain ⟨h1, h2⟩ := join_ok he ho ys hy
  refine ⟨?_, q _ h1 h2⟩
  have : (ys.map (·.length)).sum ≤ ys.length := by
    clear h h1 h2 q hl
    induction ys with
    | nil => simp
    | cons y r ih =>
      have := ih fun z hz => hy z (List.mem_cons_of_mem _ hz)
      have := (hy y (List.mem_cons_self ..)).1
      simp only [List.map_cons, List.sum_cons, List.length_cons]; omega
  rw [he]
  omega
def sp__law_names : DSp := fun ds S Q E => ∃ f, ds = [.ref f] ∧ Feed S f ∧ ∀ (L : Addr) (ns : List Str) S', S' L = some (.lst (ns.map D.str)) → S L = none → 2 ≤ ns.length → ns.length ≤ 8 → (∀ n ∈ ns, KD.ltr n = true) → Feed S' f → Keeps f S S' → Q (.ref L) S'
theorem len__law_names : ∀ ds S Q E, sp__law_names ds S Q E → ds.length = (["_law_feed_here"] : List Str).length := fun _ _ _ _ ⟨_, e, _⟩ => by rw [e]; rfl
def r__law_names : DTS := dSeq (dAsg (dTup (dCons (dC (.str "abcdefghijklmnopqrstuvwxyz")) (dCons (dCall sp__law_draw [] (dCons (dV 0) (dCons (dC (.int 26)) dNil))) (dCons (dLst dNil) dNil)))) (gdTup 3 (gdCons (gdName 3) (gdCons (gdName 4) (gdCons (gdName 5) gdNil))))) (dSeq (dAsg (dLst (dCons (dC (.str "a")) (dCons (dC (.str "b")) (dCons (dC (.str "ab")) (dCons (dC (.str "abc")) (dCons (dC (.str "z")) (dCons (dC (.str "abcdefgh")) (dCons (dC (.str "ba")) (dCons (dC (.str "bb")) dNil))))))))) (gdName 1)) (dSeq (dFor (diRng1 (dCons (dBin wAdd (dC (.int 2)) (dCall sp__law_draw [] (dCons (dV 0) (dCons (dC (.int 7)) dNil)))) dNil)) (gdName 2) (dSeq (dAsg (dBM "list" wPop (dV 1) (dCons (dCall sp__law_draw [] (dCons (dV 0) (dCons (dCB wLen (dCons (dV 1) dNil)) dNil))) dNil)) (gdName 6)) (dDrop (dBM "list" wAppend (dV 5) (dCons (dBM "str" wJoin (dC (.str "")) (dCons (dLC (diVal (dV 6) wIterA) (gdName 7) dYes [7] [7] [] (dBin wAt (dV 3) (dBin wMod (dBin wAdd (dBM "str" wFind (dV 3) (dCons (dV 7) dNil)) (dV 4)) (dC (.int 26))))) dNil)) dNil))))) (dRet (dV 5))))
abbrev N__law_names : List Str := ["_law_feed_here", "_law_rest", "_law_k", "_law_letters", "_law_step_now", "_law_found", "_law_word", "_law_sign"]
def restL : List Str := ["a", "b", "ab", "abc", "z", "abcdefgh", "ba", "bb"]
theorem wFind_to {a b : Str} {S : Sto} {Q : KD} (q : ∀ i : Int, Q (.int i) S) : wFind (.str a) [.str b] S Q := q _
theorem restL_ok : ∀ x ∈ restL, x.length ≤ 8 := by decide +kernel
theorem vc__law_names {ds S Q E} (h : sp__law_names ds S Q E) : r__law_names (bodyEnds Q) (startD N__law_names ds) S := by
  obtain ⟨f, rfl, F, k⟩ := h
  unfold r__law_names
  have az : (Str.ofString "abcdefghijklmnopqrstuvwxyz").length = 26 ∧ okS (Str.ofString "abcdefghijklmnopqrstuvwxyz") = true := by decide +kernel
  generalize Str.ofString "abcdefghijklmnopqrstuvwxyz" = azs at *
  have em : (Str.ofString "").length = 0 ∧ okS (Str.ofString "") = true := by decide +kernel
  generalize Str.ofString "" = ems at *
  simp [startD]
  refine ⟨f, 26, rfl, by omega, by omega, F, fun st S1 s0 s1 F1 K1 => ?_⟩
  simp
  intro L hL
  have F2 : Feed (put S1 L (.lst [])) f := F1.new hL
  have K2 : Keeps f S (put S1 L (.lst [])) := K1.then (F1.freeT K1 hL)
  have hL0 : S L = none := F1.freeT K1 hL
  have Lf := F1.nt hL
  refine ⟨by rw [sizeLine_eq]; decide, by rw [sizeLine_eq]; decide, fun R hR => ?_⟩
  have hr : [D.str (Str.ofString "a"), D.str (Str.ofString "b"), D.str (Str.ofString "ab"), D.str (Str.ofString "abc"), D.str (Str.ofString "z"), D.str (Str.ofString "abcdefgh"), D.str (Str.ofString "ba"), D.str (Str.ofString "bb")] = restL.map D.str := rfl
  rw [hr]
  have Rf := F2.nt hR
  have hR0 : S R = none := F2.freeT K2 hR
  have RL : R ≠ L := fun z => by rw [z, put_same] at hR; cases hR
  have F3 : Feed (put (put S1 L (.lst [])) R (.lst (restL.map D.str))) f := F2.new hR
  have K3 : Keeps f S (put (put S1 L (.lst [])) R (.lst (restL.map D.str))) := K2.then hR0
  have gR : (put (put S1 L (.lst [])) R (.lst (restL.map D.str))) R = some (.lst (restL.map D.str)) := put_same
  have gL : (put (put S1 L (.lst [])) R (.lst (restL.map D.str))) L = some (.lst (([] : List Str).map D.str)) := by rw [put_ne (Ne.symm RL)]; exact put_same
  generalize put (put S1 L (.lst [])) R (.lst (restL.map D.str)) = S3 at *
  refine ⟨f, 7, rfl, by omega, by omega, F3, fun c S4 c0 c1 F4 K4 => ?_⟩
  simp
  refine ⟨by omega, by omega, ?_⟩
  rw [rngD_map]
  refine loop_map (fun i : Nat => D.int (i : Int)) (fun done τ S' => ∃ (ws ns : List Str) (x2 x6 x7 : Option D), S' R = some (.lst (ws.map D.str)) ∧ S' L = some (.lst (ns.map D.str)) ∧ Feed S' f ∧ Keeps f S S' ∧ ws.length + done.length = 8 ∧ ns.length = done.length ∧ (∀ w ∈ ws, w.length ≤ 8) ∧ (∀ n ∈ ns, n.length ≤ 8 ∧ okS n = true) ∧ τ = [some (D.ref f), some (D.ref R), x2, some (D.str azs), some (D.int st), some (D.ref L), x6, x7])
    (fun _ _ _ _ => trivial) (fun τ S' h => ?_) (fun done i rest τ S' es h N hN => ?_) ⟨restL, [], none, none, none, K4 _ _ Rf gR, K4 _ _ Lf gL, F4, K3.trans K4, rfl, rfl, restL_ok, by simp, rfl⟩
  · obtain ⟨ws, ns, x2, x6, x7, e1, e2, F5, K5, l1, l2, h1, h2, rfl⟩ := h
    rw [List.length_range] at l1 l2
    simp
    exact k L ns S' e2 hL0 (by omega) (by omega) (fun n hn => ltr_of (h2 n hn).2 (h2 n hn).1) F5 K5
  · obtain ⟨ws, ns, x2, x6, x7, e1, e2, F5, K5, l1, l2, h1, h2, rfl⟩ := h
    have hd : done.length < 8 := by
      have := congrArg List.length es
      simp at this; omega
    simp [e1]
    refine ⟨f, _, rfl, by omega, by omega, F5, fun b S6 b0 b1 F6 K6 => ?_⟩
    have g1 := K6 _ _ Rf e1
    have g2 := K6 _ _ Lf e2
    have hb : b.toNat < ws.length := by omega
    show wPop (.ref R) [.int b] S6 _
    rw [wPop_at g1 b0 (by simpa using b1) (by simp; omega)]
    have ew : (ws.map D.str)[b.toNat]'(by simpa using hb) = D.str ws[b.toNat] := by simp
    rw [ew]
    have hw := h1 _ (List.getElem_mem hb)
    generalize ws[b.toNat] = w at *
    have ee : (ws.map D.str).eraseIdx b.toNat = (ws.eraseIdx b.toNat).map D.str := by first | exact (_root_.DT.map_erase D.str ws b.toNat).symm | simp [List.map_eraseIdx]
    rw [ee]
    have l3 : (ws.eraseIdx b.toNat).length + 1 = ws.length := by rw [List.length_eraseIdx]; simp [hb]; omega
    have h3 : ∀ v ∈ ws.eraseIdx b.toNat, v.length ≤ 8 := fun v hv => h1 v (List.mem_of_mem_eraseIdx hv)
    have gL7 : (put S6 R (.lst ((ws.eraseIdx b.toNat).map D.str))) L = some (.lst (ns.map D.str)) := by rw [put_ne (Ne.symm RL)]; exact g2
    have gR7 : (put S6 R (.lst ((ws.eraseIdx b.toNat).map D.str))) R = some (.lst ((ws.eraseIdx b.toNat).map D.str)) := put_same
    have F7 : Feed (put S6 R (.lst ((ws.eraseIdx b.toNat).map D.str))) f := F6.put Rf
    have K7 : Keeps f S (put S6 R (.lst ((ws.eraseIdx b.toNat).map D.str))) := (K5.trans K6).then hR0
    generalize put S6 R (.lst ((ws.eraseIdx b.toNat).map D.str)) = S7 at *
    generalize ws.eraseIdx b.toNat = ws' at *
    refine ⟨by simp [tyD, gL7], rfl, ?_⟩
    simp only [wIter_str]
    intro J hJ
    have JL : J ≠ L := fun z => by rw [z, gL7] at hJ; cases hJ
    have JR : J ≠ R := fun z => by rw [z, gR7] at hJ; cases hJ
    refine loopC_map sgn (fun done S' => ∃ ys : List Str, S' = put S7 J (.lst (ys.map D.str)) ∧ ys.length = done.length ∧ ∀ y ∈ ys, y.length = 1 ∧ okS y = true) (fun _ _ _ => trivial) (fun S' h => ?_) (fun done c rest S' es h N' hN' => ?_) ⟨[], rfl, rfl, by simp⟩
    · obtain ⟨ys, rfl, hl, hy⟩ := h
      have el : w.length = w.cps.toList.length := by simp [Str.length]
      refine wJoin_of put_same em.1 em.2 hy (by omega) fun x xl xo => ?_
      simp [wAppend]
      rw [onL_eq (by rw [put_ne (Ne.symm JL)]; exact gL7)]
      refine ⟨by rw [List.length_map, sizeLine_eq]; omega, hN _ _ ⟨ws', ns ++ [x], _, _, _, ?_, ?_, (F7.new hJ).put Lf, (K7.then (F7.freeT K7 hJ)).then hL0, ?_, ?_, h3, fun n hn => ?_, rfl⟩⟩
      · rw [put_ne RL, put_ne (Ne.symm JR)]; exact gR7
      · rw [put_same]; simp
      · simp; omega
      · simp; omega
      · rcases List.mem_append.mp hn with hn | hn
        · exact h2 n hn
        · rw [List.mem_singleton.mp hn]; exact ⟨by omega, xo⟩
    · obtain ⟨ys, rfl, hl, hy⟩ := h
      simp [sgn]
      refine ⟨rfl, ?_⟩
      refine wFind_to fun fv => ?_
      simp
      have m0 : 0 ≤ (fv + st) % 26 := Int.emod_nonneg _ (by decide)
      have m1 : (fv + st) % 26 < 26 := Int.emod_lt_of_pos _ (by decide)
      try rw [Int.fmod_eq_emod_of_nonneg _ (by decide)]
      refine wAt_text az.2 (by omega) m0 (by omega) fun y yl yo => ?_
      rw [onL_eq put_same]
      have h9 : w.length = w.cps.toList.length := by simp [Str.length]
      have h10 := congrArg List.length es
      simp only [List.length_append, List.length_cons] at h10
      refine ⟨by rw [List.length_map, sizeLine_eq]; omega, hN' _ ⟨ys ++ [y], by simp, by simp [hl], fun z hz => ?_⟩⟩
      rcases List.mem_append.mp hz with hz | hz
      · exact hy z hz
      · rw [List.mem_singleton.mp hz]; exact ⟨yl, yo⟩
end KT
namespace KT
open PySem PySem.Spec PyProof.Rows L2 DL
open KB (Nd isK rowD treeD wayD entO)
open KD
structure PG (NS : List Str) (R : List Nd) : Prop where
  nodup : (R.map (·.1)).Nodup
  top : ∃ r ∈ R, r.1 = 0 ∧ r.2.1 = ("drawer" : Str)
  pos : ∀ r ∈ R, 0 ≤ r.1
  kd : ∀ r ∈ R, isK r.2.1
  sh : ∀ r ∈ R, r.2.1 = ("sheet" : Str) → r.2.2 = []
  nd : ∀ r ∈ R, (r.2.2.map (·.1)).Nodup
  nm : ∀ r ∈ R, ∀ e ∈ r.2.2, e.1 ∈ NS
  tg : ∀ d x n, Ed R d x n → n ∈ R.map (·.1) ∧ 0 < n
  hd : ∀ r ∈ R, r.1 ≠ 0 → ∃ d x, Ed R d x r.1
  one : ∀ r ∈ R, r.2.1 = ("drawer" : Str) → ∀ d x d' x', Ed R d x r.1 → Ed R d' x' r.1 → d = d' ∧ x = x'
  up : ∀ r ∈ R, r.2.1 = ("drawer" : Str) → Reach R r.1
theorem reach_mono {R R' : List Nd} (h : ∀ d x n, Ed R d x n → Ed R' d x n) {n : Int} (r : Reach R n) : Reach R' n :=
  reach_gen (X := fun _ => False) (L := fun _ => False) (fun d x m ed _ => h d x m ed) (fun m h1 h2 => h1.elim) (fun d x m ed z => z) r id
theorem PG.row {NS : List Str} {R : List Nd} (P : PG NS R) {r q : Nd} (hr : r ∈ R) (hq : q ∈ R) (e : r.1 = q.1) : r = q := by
  have h1 := find_of_mem (f := fun r : Nd => r.1) P.nodup hr
  have h2 := find_of_mem (f := fun r : Nd => r.1) P.nodup hq
  rw [e, h2] at h1
  exact (Option.some.inj h1).symm
theorem PG.zero (NS : List Str) : PG NS [(0, "drawer", [])] := by
  have ne : ∀ d x n, ¬ Ed [((0, "drawer", []) : Nd)] d x n := by
    rintro d x n ⟨r, hr, _, he⟩
    rw [List.mem_singleton] at hr; rw [hr] at he; cases he
  refine ⟨by simp, ⟨_, List.mem_singleton.mpr rfl, rfl, rfl⟩, fun r hr => ?_, fun r hr => ?_, fun r hr hs => ?_, fun r hr => ?_, fun r hr e he => ?_, fun d x n h => (ne _ _ _ h).elim, fun r hr h0 => ?_, fun r hr _ d x d' x' h => (ne _ _ _ h).elim, fun r hr _ => ?_⟩ <;> rw [List.mem_singleton] at hr
  · rw [hr]; exact Int.le_refl 0
  · rw [hr]; exact .inl rfl
  · rw [hr]
  · rw [hr]; exact List.nodup_nil
  · rw [hr] at he; cases he
  · rw [hr] at h0; exact absurd rfl h0
  · rw [hr]; exact .top
theorem PG.link {NS : List Str} {R R' : List Nd} {d n : Int} {x : Str} (P : PG NS R) (hi : R'.map (·.1) = R.map (·.1)) (hk : ∀ r ∈ R', ∃ q ∈ R, q.1 = r.1 ∧ q.2.1 = r.2.1)
    (hE : ∀ d' x' n', Ed R' d' x' n' ↔ Ed R d' x' n' ∨ (d' = d ∧ x' = x ∧ n' = n)) (hd : ∃ q ∈ R, q.1 = d ∧ q.2.1 = ("drawer" : Str)) (hn : ∃ q ∈ R, q.1 = n ∧ q.2.1 = ("sheet" : Str)) (hp : 0 < n) (hnd : ∀ r ∈ R', (r.2.2.map (·.1)).Nodup) (hx : x ∈ NS) : PG NS R' := by
  have nodup' : (R'.map (·.1)).Nodup := by rw [hi]; exact P.nodup
  have of' : ∀ r ∈ R', ∀ e ∈ r.2.2, Ed R r.1 e.1 e.2 ∨ (r.1 = d ∧ e.1 = x ∧ e.2 = n) := fun r hr e he => (hE ..).mp ⟨r, hr, rfl, he⟩
  have dr : ∀ r ∈ R', ∀ e ∈ r.2.2, r.2.1 = ("drawer" : Str) := fun r hr e he => by
    obtain ⟨q, hq, e1, e2⟩ := hk r hr
    rcases of' r hr e he with ⟨p, hp, ep, he'⟩ | ⟨z, _, _⟩
    · have : p = q := P.row hp hq (by rw [ep, e1])
      subst this
      rw [← e2]
      rcases P.kd p hp with h | h
      · exact h
      · rw [P.sh p hp h] at he'; cases he'
    · obtain ⟨p, hp, ep, h⟩ := hd
      have : p = q := P.row hp hq (by rw [ep, e1, z])
      rw [← e2, ← this]; exact h
  have notn : ∀ r ∈ R', r.2.1 = ("drawer" : Str) → r.1 ≠ n := fun r hr hd' z => by
    obtain ⟨q, hq, e1, e2⟩ := hk r hr
    obtain ⟨p, hp, ep, h⟩ := hn
    have : p = q := P.row hp hq (by rw [ep, e1, z])
    rw [this, e2, hd'] at h
    exact drawer_ne_sheet h
  refine ⟨nodup', ?_, fun r hr => ?_, fun r hr => ?_, fun r hr hs => ?_, hnd, fun r hr e he => ?_, fun d' x' n' h => ?_, fun r hr h0 => ?_, fun r hr hd' d1 x1 d2 x2 h1 h2 => ?_, fun r hr hd' => ?_⟩
  · obtain ⟨r, hr, e1, e2⟩ := P.top
    have : r.1 ∈ R'.map (·.1) := by rw [hi]; exact List.mem_map_of_mem hr
    obtain ⟨r', hr', e3⟩ := List.mem_map.mp this
    have e3 : r'.1 = r.1 := e3
    obtain ⟨q, hq, e4, e5⟩ := hk r' hr'
    have : q = r := P.row hq hr (by rw [e4, e3])
    exact ⟨r', hr', by rw [e3, e1], by rw [← e5, this, e2]⟩
  · obtain ⟨q, hq, e1, _⟩ := hk r hr
    rw [← e1]; exact P.pos q hq
  · obtain ⟨q, hq, _, e2⟩ := hk r hr
    rw [← e2]; exact P.kd q hq
  · refine List.eq_nil_iff_forall_not_mem.mpr fun e he => ?_
    have := dr r hr e he
    rw [this] at hs
    exact drawer_ne_sheet hs
  · rcases of' r hr e he with ⟨p, hp, _, he'⟩ | ⟨_, z, _⟩
    · exact P.nm p hp _ he'
    · rw [z]; exact hx
  · rw [hi]
    rcases (hE ..).mp h with h | ⟨_, _, rfl⟩
    · exact P.tg _ _ _ h
    · obtain ⟨q, hq, e, _⟩ := hn
      exact ⟨by rw [← e]; exact List.mem_map_of_mem hq, hp⟩
  · obtain ⟨q, hq, e1, _⟩ := hk r hr
    obtain ⟨d', x', h⟩ := P.hd q hq (by rw [e1]; exact h0)
    exact ⟨d', x', (hE ..).mpr (.inl (by rw [← e1]; exact h))⟩
  · obtain ⟨q, hq, e1, e2⟩ := hk r hr
    have nn := notn r hr hd'
    rcases (hE ..).mp h1 with h1 | ⟨_, _, z⟩
    · rcases (hE ..).mp h2 with h2 | ⟨_, _, z⟩
      · exact P.one q hq (by rw [e2]; exact hd') _ _ _ _ (by rw [e1]; exact h1) (by rw [e1]; exact h2)
      · exact absurd z nn
    · exact absurd z nn
  · obtain ⟨q, hq, e1, e2⟩ := hk r hr
    have := P.up q hq (by rw [e2]; exact hd')
    rw [e1] at this
    exact reach_mono (fun d' x' n' h => (hE ..).mpr (.inl h)) this
theorem PG.make {NS : List Str} {R R' : List Nd} {d n : Int} {x w : Str} (P : PG NS R) (hi : R'.map (·.1) = R.map (·.1) ++ [n]) (hk : ∀ r ∈ R', (∃ q ∈ R, q.1 = r.1 ∧ q.2.1 = r.2.1) ∨ r = (n, w, []))
    (hE : ∀ d' x' n', Ed R' d' x' n' ↔ Ed R d' x' n' ∨ (d' = d ∧ x' = x ∧ n' = n)) (hd : ∃ q ∈ R, q.1 = d ∧ q.2.1 = ("drawer" : Str)) (hn : n ∉ R.map (·.1)) (hw : isK w) (hp : 0 < n) (hnd : ∀ r ∈ R', (r.2.2.map (·.1)).Nodup) (hx : x ∈ NS) : PG NS R' := by
  have nodup' : (R'.map (·.1)).Nodup := by
    rw [hi, List.nodup_append]
    refine ⟨P.nodup, by simp, fun a ha b hb => ?_⟩
    rw [List.mem_singleton] at hb
    rintro rfl; exact hn (hb ▸ ha)
  have of' : ∀ r ∈ R', ∀ e ∈ r.2.2, Ed R r.1 e.1 e.2 ∨ (r.1 = d ∧ e.1 = x ∧ e.2 = n) := fun r hr e he => (hE ..).mp ⟨r, hr, rfl, he⟩
  have no : ∀ d' x', ¬ Ed R d' x' n := fun d' x' h => hn (P.tg _ _ _ h).1
  have dr : ∀ r ∈ R', ∀ e ∈ r.2.2, r.2.1 = ("drawer" : Str) := fun r hr e he => by
    rcases hk r hr with ⟨q, hq, e1, e2⟩ | z
    · rcases of' r hr e he with ⟨p, hp, ep, he'⟩ | ⟨z, _, _⟩
      · have : p = q := P.row hp hq (by rw [ep, e1])
        subst this
        rw [← e2]
        rcases P.kd p hp with h | h
        · exact h
        · rw [P.sh p hp h] at he'; cases he'
      · obtain ⟨p, hp, ep, h⟩ := hd
        have : p = q := P.row hp hq (by rw [ep, e1, z])
        rw [← e2, ← this]; exact h
    · rw [z] at he; cases he
  have newE : Ed R' d x n := (hE ..).mpr (.inr ⟨rfl, rfl, rfl⟩)
  have old : ∀ r ∈ R', (∃ q ∈ R, q.1 = r.1 ∧ q.2.1 = r.2.1) → r.1 ≠ n := fun r hr ⟨q, hq, e1, _⟩ z => hn (by rw [← z, ← e1]; exact List.mem_map_of_mem hq)
  refine ⟨nodup', ?_, fun r hr => ?_, fun r hr => ?_, fun r hr hs => ?_, hnd, fun r hr e he => ?_, fun d' x' n' h => ?_, fun r hr h0 => ?_, fun r hr hd' d1 x1 d2 x2 h1 h2 => ?_, fun r hr hd' => ?_⟩
  · obtain ⟨r, hr, e1, e2⟩ := P.top
    have : r.1 ∈ R'.map (·.1) := by rw [hi]; exact List.mem_append_left _ (List.mem_map_of_mem hr)
    obtain ⟨r', hr', e3⟩ := List.mem_map.mp this
    have e3 : r'.1 = r.1 := e3
    rcases hk r' hr' with ⟨q, hq, e4, e5⟩ | z
    · have : q = r := P.row hq hr (by rw [e4, e3])
      exact ⟨r', hr', by rw [e3, e1], by rw [← e5, this, e2]⟩
    · rw [z] at e3
      have e3 : n = r.1 := e3
      rw [e1] at e3; omega
  · rcases hk r hr with ⟨q, hq, e1, _⟩ | z
    · rw [← e1]; exact P.pos q hq
    · rw [z]; show 0 ≤ n; omega
  · rcases hk r hr with ⟨q, hq, _, e2⟩ | z
    · rw [← e2]; exact P.kd q hq
    · rw [z]; exact hw
  · refine List.eq_nil_iff_forall_not_mem.mpr fun e he => ?_
    have := dr r hr e he
    rw [this] at hs
    exact drawer_ne_sheet hs
  · rcases of' r hr e he with ⟨p, hp, _, he'⟩ | ⟨_, z, _⟩
    · exact P.nm p hp _ he'
    · rw [z]; exact hx
  · rw [hi]
    rcases (hE ..).mp h with h | ⟨_, _, rfl⟩
    · exact ⟨List.mem_append_left _ (P.tg _ _ _ h).1, (P.tg _ _ _ h).2⟩
    · exact ⟨List.mem_append_right _ (List.mem_singleton.mpr rfl), hp⟩
  · rcases hk r hr with ⟨q, hq, e1, _⟩ | z
    · obtain ⟨d', x', h⟩ := P.hd q hq (by rw [e1]; exact h0)
      exact ⟨d', x', (hE ..).mpr (.inl (by rw [← e1]; exact h))⟩
    · rw [z]; exact ⟨d, x, newE⟩
  · rcases hk r hr with h | z
    · have nn := old r hr h
      obtain ⟨q, hq, e1, e2⟩ := h
      rcases (hE ..).mp h1 with h1 | ⟨_, _, z⟩
      · rcases (hE ..).mp h2 with h2 | ⟨_, _, z⟩
        · exact P.one q hq (by rw [e2]; exact hd') _ _ _ _ (by rw [e1]; exact h1) (by rw [e1]; exact h2)
        · exact absurd z nn
      · exact absurd z nn
    · rw [z] at h1 h2
      rcases (hE ..).mp h1 with h1 | ⟨a, b, _⟩
      · exact absurd h1 (no _ _)
      · rcases (hE ..).mp h2 with h2 | ⟨a', b', _⟩
        · exact absurd h2 (no _ _)
        · exact ⟨a.trans a'.symm, b.trans b'.symm⟩
  · have mono : ∀ m, Reach R m → Reach R' m := fun m h => reach_mono (fun d' x' n' h => (hE ..).mpr (.inl h)) h
    rcases hk r hr with ⟨q, hq, e1, e2⟩ | z
    · have := P.up q hq (by rw [e2]; exact hd')
      rw [e1] at this
      exact mono _ this
    · rw [z]
      obtain ⟨q, hq, e1, e2⟩ := hd
      have := mono _ (P.up q hq e2)
      rw [e1] at this
      exact this.ed newE
theorem PG.tree {NS : List Str} {R rows : List Nd} {made : Int} (P : PG NS R) (ns : NsOk NS) (asc : (rows.map (·.1)).Pairwise (· < ·)) (hr : ∀ r ∈ rows, ∃ q ∈ R, q.1 = r.1 ∧ q.2.1 = r.2.1 ∧ q.2.2.Perm r.2.2) (hi : ∀ n ∈ R.map (·.1), n ∈ rows.map (·.1)) (lt : ∀ r ∈ rows, r.1 < made) : TreeN NS rows made := by
  have E : ∀ d x n, Ed rows d x n ↔ Ed R d x n := fun d x n => by
    constructor
    · rintro ⟨r, h, rfl, he⟩
      obtain ⟨q, hq, e1, _, pm⟩ := hr r h
      exact ⟨q, hq, e1, pm.mem_iff.mpr he⟩
    · rintro ⟨q, hq, rfl, he⟩
      obtain ⟨r, h, e⟩ := List.mem_map.mp (hi q.1 (List.mem_map_of_mem hq))
      have e : r.1 = q.1 := e
      obtain ⟨q', hq', e1, _, pm⟩ := hr r h
      have : q' = q := P.row hq' hq (by rw [e1, e])
      subst this
      exact ⟨r, h, e, pm.mem_iff.mp he⟩
  have nodup : (rows.map (·.1)).Nodup := asc.imp fun h e => by omega
  have nd : ∀ r ∈ rows, (r.2.2.map (·.1)).Nodup := fun r h => by
    obtain ⟨q, hq, _, _, pm⟩ := hr r h
    exact ((pm.map _).nodup_iff).mp (P.nd q hq)
  have nm : ∀ r ∈ rows, ∀ e ∈ r.2.2, e.1 ∈ NS := fun r h e he => by
    obtain ⟨q, hq, _, _, pm⟩ := hr r h
    exact P.nm q hq e (pm.mem_iff.mpr he)
  refine ⟨⟨asc, ?_, lt, fun r h => ?_, fun r h hs => ?_, nd, fun r h => Nat.le_trans (names_few (nd r h) (nm r h)) ns.len, fun r h e he => ns.ok _ (nm r h e he), fun r h e he => ?_, fun r h h0 => ?_, fun r h hk => ?_, fun r h hk => ?_⟩, ns, nm⟩
  · obtain ⟨q, hq, e1, e2⟩ := P.top
    have h0 := hi q.1 (List.mem_map_of_mem hq)
    cases rows with
    | nil => cases h0
    | cons a t =>
      have ha : a.1 = 0 := by
        obtain ⟨qa, hqa, ea, _⟩ := hr a (List.mem_cons_self ..)
        have p := P.pos qa hqa
        rw [e1, List.map_cons] at h0
        rcases List.mem_cons.mp h0 with z | z
        · exact z.symm
        · have h9 : a.1 < 0 := (List.pairwise_cons.mp asc).1 0 z
          omega
      obtain ⟨qa, hqa, ea, eb, _⟩ := hr a (List.mem_cons_self ..)
      have : qa = q := P.row hqa hq (by rw [ea, ha, e1])
      rw [this, e2] at eb
      obtain ⟨a1, a2, a3⟩ := a
      simp only at ha eb
      rw [ha, ← eb]
      exact ⟨a3, t, rfl⟩
  · obtain ⟨q, hq, _, e2, _⟩ := hr r h
    rw [← e2]; exact P.kd q hq
  · obtain ⟨q, hq, _, e2, pm⟩ := hr r h
    rw [P.sh q hq (by rw [e2]; exact hs)] at pm
    exact List.nil_perm.mp pm
  · obtain ⟨a, b⟩ := P.tg _ _ _ ((E r.1 e.1 e.2).mp ⟨r, h, rfl, he⟩)
    exact ⟨hi _ a, b⟩
  · obtain ⟨q, hq, e1, _⟩ := hr r h
    obtain ⟨d, x, ed⟩ := P.hd q hq (by rw [e1]; exact h0)
    obtain ⟨p, hp, _, he⟩ := (E ..).mpr ed
    rw [← e1]
    exact List.mem_flatMap.mpr ⟨p, hp, List.mem_map.mpr ⟨_, he, rfl⟩⟩
  · obtain ⟨q, hq, e1, e2, _⟩ := hr r h
    rw [tgs_eds]
    refine count_le_one (eds_nodup nodup nd) ?_
    rintro ⟨d, x, n⟩ ha ⟨d', x', n'⟩ hb z1 z2
    have z1 : n = r.1 := z1
    have z2 : n' = r.1 := z2
    subst z1 z2
    obtain ⟨e3, e4⟩ := P.one q hq (by rw [e2]; exact hk) d x d' x' (by rw [e1]; exact (E ..).mp (mem_eds.mp ha)) (by rw [e1]; exact (E ..).mp (mem_eds.mp hb))
    rw [e3, e4]
  · obtain ⟨q, hq, e1, e2, _⟩ := hr r h
    have := P.up q hq (by rw [e2]; exact hk)
    rw [e1] at this
    exact reach_mono (fun d x n h => (E ..).mpr h) this
end KT
namespace KT
open PySem PySem.Spec PyProof.Rows L2 DL KF
open KB (Nd isK rowD treeD wayD entO)
open KD
def eK (p : Int × Str) : D × D := (.int p.1, .str p.2)
def eE (p : Int × Addr) : D × D := (.int p.1, .ref p.2)
def eN (p : Str × Int) : D × D := (.str p.1, .int p.2)
theorem fitK {kk : List (Int × Str)} {n : Int} : keyFit (kk.map eK) (.int n) = true := by cases kk <;> rfl
theorem fitE {kk : List (Int × Addr)} {n : Int} : keyFit (kk.map eE) (.int n) = true := by cases kk <;> rfl
theorem fitN {kk : List (Str × Int)} {n : Str} : keyFit (kk.map eN) (.str n) = true := by cases kk <;> rfl
theorem fitWK {kk : List (Int × Str)} {n : Int} : keyFitW (kk.map eK) (.int n) = true := by unfold keyFitW; rw [fitK]; simp
theorem fitWE {kk : List (Int × Addr)} {n : Int} : keyFitW (kk.map eE) (.int n) = true := by unfold keyFitW; rw [fitE]; simp
theorem fitWN {kk : List (Str × Int)} {n : Str} : keyFitW (kk.map eN) (.str n) = true := by unfold keyFitW; rw [fitN]; simp
theorem getK {kk : List (Int × Str)} (nd : (kk.map (·.1)).Nodup) {p : Int × Str} (h : p ∈ kk) : dGet (kk.map eK) (.int p.1) = some (.str p.2) := by
  have e : dGet (kk.map eK) (.int p.1) = (kk.find? fun q => decide (q.1 = p.1)).map fun q => D.str q.2 := dGet_int
  rw [e, find_of_mem nd h]; rfl
theorem getE {ke : List (Int × Addr)} (nd : (ke.map (·.1)).Nodup) {p : Int × Addr} (h : p ∈ ke) : dGet (ke.map eE) (.int p.1) = some (.ref p.2) := by
  have e : dGet (ke.map eE) (.int p.1) = (ke.find? fun q => decide (q.1 = p.1)).map fun q => D.ref q.2 := dGet_int
  rw [e, find_of_mem nd h]; rfl
theorem isKd {kk : List (Int × Str)} {n : Int} : (dGet (kk.map eK) (.int n)).isSome = decide (n ∈ kk.map (·.1)) := by
  have e : dGet (kk.map eK) (.int n) = (kk.find? fun q => decide (q.1 = n)).map fun q => D.str q.2 := dGet_int
  rw [e, Option.isSome_map]
  by_cases h : n ∈ kk.map (·.1)
  · rw [decide_eq_true h]
    cases z : kk.find? fun q => decide (q.1 = n) with
    | none => exact absurd h (find_none.mp z)
    | some _ => rfl
  · rw [decide_eq_false h, find_none.mpr h]; rfl
theorem isNd {kk : List (Str × Int)} {n : Str} : (dGet (kk.map eN) (.str n)).isSome = decide (n ∈ kk.map (·.1)) := by
  have e : dGet (kk.map eN) (.str n) = (kk.find? fun q => decide (q.1 = n)).map fun q => D.int q.2 := dGet_str
  rw [e, Option.isSome_map]
  by_cases h : n ∈ kk.map (·.1)
  · rw [decide_eq_true h]
    cases z : kk.find? fun q => decide (q.1 = n) with
    | none => exact absurd h (find_none.mp z)
    | some _ => rfl
  · rw [decide_eq_false h, find_none.mpr h]; rfl
theorem putK {kk : List (Int × Str)} {y : Int × Str} (h : y.1 ∉ kk.map (·.1)) : dPut (kk.map eK) (.int y.1) (.str y.2) = (kk ++ [y]).map eK := dPut_int_new (g := fun p : Int × Str => D.str p.2) h
theorem putE {kk : List (Int × Addr)} {y : Int × Addr} (h : y.1 ∉ kk.map (·.1)) : dPut (kk.map eE) (.int y.1) (.ref y.2) = (kk ++ [y]).map eE := dPut_int_new (g := fun p : Int × Addr => D.ref p.2) h
theorem putN {kk : List (Str × Int)} {y : Str × Int} (h : y.1 ∉ kk.map (·.1)) : dPut (kk.map eN) (.str y.1) (.int y.2) = (kk ++ [y]).map eN := dPut_str_new (g := fun p : Str × Int => D.int p.2) h
def upd (g : Int → List (Str × Int)) (d : Int) (es : List (Str × Int)) : Int → List (Str × Int) := fun n => if n = d then es else g n
theorem upd_same {g : Int → List (Str × Int)} {d : Int} {es : List (Str × Int)} : upd g d es d = es := if_pos rfl
theorem upd_ne {g : Int → List (Str × Int)} {d n : Int} {es : List (Str × Int)} (h : n ≠ d) : upd g d es n = g n := if_neg h
structure TJ (S0 : Sto) (f E K P : Addr) (pool : List Int) (ke : List (Int × Addr)) (kk : List (Int × Str)) (g : Int → List (Str × Int)) (S : Sto) : Prop where
  gE : S E = some (.dct (ke.map eE))
  gK : S K = some (.dct (kk.map eK))
  gP : S P = some (.lst (pool.map D.int))
  same : ke.map (·.1) = kk.map (·.1)
  nd : (kk.map (·.1)).Nodup
  nda : (ke.map (·.2)).Nodup
  inn : ∀ p ∈ ke, p.2 ≠ E ∧ p.2 ≠ K ∧ p.2 ≠ P ∧ p.2 ≠ f ∧ S0 p.2 = none ∧ S p.2 = some (.dct ((g p.1).map eN))
  ne : E ≠ K ∧ E ≠ P ∧ K ≠ P ∧ E ≠ f ∧ K ≠ f ∧ P ≠ f
  n0 : S0 E = none ∧ S0 K = none ∧ S0 P = none
  F : Feed S f
  ks : Keeps f S0 S
section
variable {S0 S S' : Sto} {f E K P p : Addr} {pool : List Int} {ke : List (Int × Addr)} {kk : List (Int × Str)} {g : Int → List (Str × Int)} {o : AO}
theorem TJ.keep (T : TJ S0 f E K P pool ke kk g S) (F : Feed S' f) (k : Keeps f S S') : TJ S0 f E K P pool ke kk g S' where
  gE := k _ _ T.ne.2.2.2.1 T.gE
  gK := k _ _ T.ne.2.2.2.2.1 T.gK
  gP := k _ _ T.ne.2.2.2.2.2 T.gP
  same := T.same
  nd := T.nd
  nda := T.nda
  inn := fun q hq => by
    obtain ⟨a, b, c, d, e, h1⟩ := T.inn q hq
    exact ⟨a, b, c, d, e, k _ _ d h1⟩
  ne := T.ne
  n0 := T.n0
  F := F
  ks := T.ks.trans k
theorem TJ.new (T : TJ S0 f E K P pool ke kk g S) (h : S p = none) : TJ S0 f E K P pool ke kk g (put S p o) := T.keep (T.F.new h) (Keeps.new h)
theorem TJ.free (T : TJ S0 f E K P pool ke kk g S) (h : S p = none) : S0 p = none := T.F.freeT T.ks h
theorem TJ.ndE (T : TJ S0 f E K P pool ke kk g S) : (ke.map (·.1)).Nodup := by rw [T.same]; exact T.nd
theorem TJ.sameA (T : TJ S0 f E K P pool ke kk g S) {p q : Int × Addr} (hp : p ∈ ke) (hq : q ∈ ke) (e : p.2 = q.2) : p = q := by
  have : ∀ {l : List (Int × Addr)}, (l.map (·.2)).Nodup → p ∈ l → q ∈ l → p = q := by
    intro l
    induction l with
    | nil => intro _ h; cases h
    | cons a l ih =>
      intro nd h1 h2
      rw [List.map_cons, List.nodup_cons] at nd
      rcases List.mem_cons.mp h1 with e1 | h1 <;> rcases List.mem_cons.mp h2 with e2 | h2
      · rw [e1, e2]
      · exact absurd (by rw [← e1, e]; exact List.mem_map_of_mem h2) nd.1
      · exact absurd (by rw [← e2, ← e]; exact List.mem_map_of_mem h1) nd.1
      · exact ih nd.2 h1 h2
  exact this T.nda hp hq
theorem TJ.sameI (T : TJ S0 f E K P pool ke kk g S) {p q : Int × Addr} (hp : p ∈ ke) (hq : q ∈ ke) (e : p.1 = q.1) : p = q := by
  have h1 := find_of_mem (f := fun r : Int × Addr => r.1) T.ndE hp
  have h2 := find_of_mem (f := fun r : Int × Addr => r.1) T.ndE hq
  rw [e, h2] at h1
  exact (Option.some.inj h1).symm
theorem TJ.entry (T : TJ S0 f E K P pool ke kk g S) {q : Int × Addr} (hq : q ∈ ke) (es : List (Str × Int)) : TJ S0 f E K P pool ke kk (upd g q.1 es) (put S q.2 (.dct (es.map eN))) := by
  obtain ⟨a, b, c, d, e, _⟩ := T.inn q hq
  exact {
    gE := by rw [put_ne (Ne.symm a)]; exact T.gE
    gK := by rw [put_ne (Ne.symm b)]; exact T.gK
    gP := by rw [put_ne (Ne.symm c)]; exact T.gP
    same := T.same, nd := T.nd, nda := T.nda, ne := T.ne, n0 := T.n0
    inn := fun r hr => by
      obtain ⟨a', b', c', d', e', h1⟩ := T.inn r hr
      refine ⟨a', b', c', d', e', ?_⟩
      by_cases z : r.2 = q.2
      · rw [T.sameA hr hq z, put_same, upd_same]
      · rw [put_ne z, upd_ne fun z1 => z (by rw [T.sameI hr hq z1])]; exact h1
    F := T.F.put d
    ks := T.ks.then e }
theorem TJ.node (T : TJ S0 f E K P pool ke kk g S) {m : Int} {w : Str} (hm : m ∉ kk.map (·.1)) (hp : S p = none) :
    TJ S0 f E K P pool (ke ++ [(m, p)]) (kk ++ [(m, w)]) (upd g m []) (put (put (put S K (.dct ((kk ++ [(m, w)]).map eK))) p (.dct [])) E (.dct ((ke ++ [(m, p)]).map eE))) := by
  obtain ⟨n1, n2, n3, n4, n5, n6⟩ := T.ne
  obtain ⟨z1, z2, z3⟩ := T.n0
  have pE : p ≠ E := fun z => by rw [z, T.gE] at hp; cases hp
  have pK : p ≠ K := fun z => by rw [z, T.gK] at hp; cases hp
  have pP : p ≠ P := fun z => by rw [z, T.gP] at hp; cases hp
  have pf : p ≠ f := T.F.nt hp
  have rp : ∀ r ∈ ke, r.2 ≠ p := fun r hr z => by
    obtain ⟨_, _, _, _, _, h1⟩ := T.inn r hr
    rw [z, hp] at h1; cases h1
  exact {
    gE := put_same
    gK := by rw [put_ne (Ne.symm n1), put_ne (Ne.symm pK), put_same]
    gP := by rw [put_ne (Ne.symm n2), put_ne (Ne.symm pP), put_ne (Ne.symm n3)]; exact T.gP
    same := by rw [List.map_append, List.map_append, T.same]; rfl
    nd := by
      rw [List.map_append, List.nodup_append]
      refine ⟨T.nd, by simp, fun a ha b hb => ?_⟩
      rw [List.map_singleton, List.mem_singleton] at hb
      intro z; rw [hb] at z; rw [z] at ha; exact hm ha
    nda := by
      rw [List.map_append, List.nodup_append]
      refine ⟨T.nda, by simp, fun a ha b hb => ?_⟩
      rw [List.map_singleton, List.mem_singleton] at hb
      obtain ⟨r, hr, rfl⟩ := List.mem_map.mp ha
      rw [hb]; exact rp r hr
    inn := fun r hr => by
      rcases List.mem_append.mp hr with hr | hr
      · obtain ⟨a', b', c', d', e', h1⟩ := T.inn r hr
        have hrm : r.1 ≠ m := fun z => hm (by rw [← T.same, ← z]; exact List.mem_map_of_mem hr)
        exact ⟨a', b', c', d', e', by rw [put_ne a', put_ne (rp r hr), put_ne b', upd_ne hrm]; exact h1⟩
      · rw [List.mem_singleton.mp hr]
        exact ⟨pE, pK, pP, pf, T.free hp, by show put _ _ _ p = _; rw [put_ne pE, put_same, upd_same]; rfl⟩
    ne := T.ne, n0 := T.n0
    F := ((T.F.put n5).put pf).put n4
    ks := ((T.ks.then z2).then (T.free hp)).then z1 }
end
section
variable {S S' : Sto} {f E K P p : Addr}
theorem put4 {a b : Addr} {o1 o2 o3 : AO} (h : a ≠ b) (e : S a = some o1) : put (put (put S a o2) b o3) a o1 = put S b o3 := by
  rw [put_swap h, put_put', put_swap (Ne.symm h), put_self e]
end
def kinded (w : Str) (kk : List (Int × Str)) : List Int := (kk.filter fun p => decide (p.2 = w)).map (·.1)
theorem kinded_len (w : Str) (kk : List (Int × Str)) : (kinded w kk).length ≤ kk.length := by
  unfold kinded; rw [List.length_map]; exact List.length_filter_le _ _
theorem kinded_mem {w : Str} {kk : List (Int × Str)} {n : Int} (h : n ∈ kinded w kk) : (n, w) ∈ kk := by
  unfold kinded at h
  obtain ⟨p, hp, rfl⟩ := List.mem_map.mp h
  obtain ⟨h1, h2⟩ := List.mem_filter.mp hp
  rw [← of_decide_eq_true h2]; exact h1
theorem kinded_flat (w : Str) (kk : List (Int × Str)) : (kk.flatMap fun p => if p.2 = w then [D.int p.1] else []) = (kinded w kk).map D.int := by
  unfold kinded
  induction kk with
  | nil => rfl
  | cons p r ih =>
    rw [List.flatMap_cons, ih, List.filter_cons]
    by_cases h : p.2 = w <;> simp [h]
def rdKinded (w : Str) : DTE := dLC (diVal (dV 9) wIterA) (gdName 6) (dTst (dBin wEq (dBin wAt (dV 9) (dV 6)) (dC (.str w)))) [6] [6] [] (dV 6)
theorem kinded_walk {w : Str} {S : Sto} {K : Addr} {od : Obj} {kk : List (Int × Str)} {τ : DSt} {Q : KD} (h9 : τ[9]? = some (some (.ref K))) (h6 : 6 < τ.length) (g : S K = some (.fdc od (kk.map eK))) (nd : (kk.map (·.1)).Nodup) (hl : kk.length ≤ 1000)
    (q : ∀ L, S L = none → Q (.ref L) (put S L (.lst ((kinded w kk).map D.int)))) : rdKinded w τ S Q := by
  unfold rdKinded
  simp only [dLC_eq, diVal_eq, dV_eq, h9]
  rw [wIter_fdc g]
  intro L hL
  have LK : K ≠ L := ne_of_free hL g
  have e1 : (kk.map eK).map (·.1) = kk.map fun p => D.int p.1 := by rw [List.map_map]; rfl
  rw [e1]
  have w1 : wipeD τ [6] = τ.set 6 none := by simp
  rw [w1]
  have h9' : ∀ v, ((τ.set 6 none).set 6 v)[9]? = some (some (.ref K)) := fun v => by
    rw [List.getElem?_set_ne (by decide), List.getElem?_set_ne (by decide)]; exact h9
  have h6' : ∀ v : Option D, ((τ.set 6 none).set 6 v)[6]? = some v := fun v => by
    rw [List.set_set, List.getElem?_set_self h6]
  refine lc_map (fun p : Int × Str => D.int p.1) (fun p => if p.2 = w then [D.int p.1] else []) kk (fun o => by rw [put_ne LK]; exact g) ?_ (fun p hp acc k hacc hk => ?_) ?_
  · have := flatMap_le (fun p : Int × Str => if p.2 = w then [D.int p.1] else []) 1 kk fun x _ => by split <;> simp
    rw [sizeLine_eq]; omega
  · have gK : (put S L (.lst acc)) K = some (.fdc od (kk.map eK)) := by rw [put_ne LK]; exact g
    show _ ∧ _
    refine ⟨by simp, ?_⟩
    simp only [dTst_eq, dBin_eq, dV_eq, h9', h6', dC_eq]
    rw [wAt_fdc gK fitK (getK nd hp), wEq_str]
    by_cases h : p.2 = w
    · simp only [h, if_true, List.length_singleton, isB_bl, decide_true, emLst_eq, dV_eq, h6'] at hk hacc ⊢
      rw [onL_eq put_same]
      exact ⟨by omega, by rw [put_put']; exact hk⟩
    · simp only [h, if_false, List.append_nil, isB_bl, decide_false] at hk ⊢
      exact hk
  · rw [kinded_flat]; exact q L hL
theorem kinded_set {w : Str} {S : Sto} {K : Addr} {kk : List (Int × Str)} {τ : DSt} {Dn : DEnds} (h9 : τ[9]? = some (some (.ref K))) (h6 : 10 < τ.length) (g : S K = some (.dct (kk.map eK))) (nd : (kk.map (·.1)).Nodup) (hl : kk.length ≤ 1000)
    (q : ∀ L, S L = none → Dn.nx (τ.set 10 (some (.ref L))) (put S L (.lst ((kinded w kk).map D.int)))) : dLockS 9 (dAsg (rdKinded w) (gdName 10)) Dn τ S := by
  unfold dLockS
  simp only [h9, g]
  intro od
  show rdKinded w τ _ _
  refine kinded_walk h9 (by omega) put_same nd hl fun L hL => ?_
  have LK : L ≠ K := fun z => by rw [z, put_same] at hL; cases hL
  refine ⟨by rw [put_ne (Ne.symm LK)]; exact put_same, ?_⟩
  rw [put4 (Ne.symm LK) g]
  exact q L (by rw [put_ne LK] at hL; exact hL)
theorem kinded_val {w : Str} {S : Sto} {K : Addr} {kk : List (Int × Str)} {τ : DSt} {Q : KD} (h9 : τ[9]? = some (some (.ref K))) (h6 : 10 < τ.length) (g : S K = some (.dct (kk.map eK))) (nd : (kk.map (·.1)).Nodup) (hl : kk.length ≤ 1000)
    (q : ∀ L, S L = none → Q (.ref L) (put S L (.lst ((kinded w kk).map D.int)))) : dLockE 9 (rdKinded w) τ S Q := by
  unfold dLockE
  simp only [h9, g]
  intro od
  refine kinded_walk h9 (by omega) put_same nd hl fun L hL => ?_
  have LK : L ≠ K := fun z => by rw [z, put_same] at hL; cases hL
  refine ⟨by rw [put_ne (Ne.symm LK)]; exact put_same, ?_⟩
  rw [put4 (Ne.symm LK) g]
  exact q L (by rw [put_ne LK] at hL; exact hL)
def rws (kk : List (Int × Str)) (g : Int → List (Str × Int)) : List Nd := kk.map fun p => (p.1, p.2, g p.1)
theorem rws_ids (kk : List (Int × Str)) (g : Int → List (Str × Int)) : (rws kk g).map (·.1) = kk.map (·.1) := by unfold rws; rw [List.map_map]; rfl
theorem rws_mem {kk : List (Int × Str)} {g : Int → List (Str × Int)} {r : Nd} : r ∈ rws kk g ↔ ∃ p ∈ kk, r = (p.1, p.2, g p.1) := by
  unfold rws; rw [List.mem_map]
  exact ⟨fun ⟨p, a, b⟩ => ⟨p, a, b.symm⟩, fun ⟨p, a, b⟩ => ⟨p, a, b.symm⟩⟩
theorem rws_Ed {kk : List (Int × Str)} {g : Int → List (Str × Int)} {d n : Int} {x : Str} : Ed (rws kk g) d x n ↔ d ∈ kk.map (·.1) ∧ (x, n) ∈ g d := by
  constructor
  · rintro ⟨r, hr, rfl, he⟩
    obtain ⟨p, hp, rfl⟩ := rws_mem.mp hr
    exact ⟨List.mem_map_of_mem (f := fun p : Int × Str => p.1) hp, he⟩
  · rintro ⟨hd, he⟩
    obtain ⟨p, hp, rfl⟩ := List.mem_map.mp hd
    exact ⟨_, rws_mem.mpr ⟨p, hp, rfl⟩, rfl, he⟩
theorem PG.make' {NS : List Str} {kk : List (Int × Str)} {g : Int → List (Str × Int)} {d m : Int} {x w : Str} (P : PG NS (rws kk g)) (hd : (d, ("drawer" : Str)) ∈ kk) (hx : x ∈ NS) (hxn : x ∉ (g d).map (·.1)) (hm : m ∉ kk.map (·.1)) (hw : isK w) (hp : 0 < m) :
    PG NS (rws (kk ++ [(m, w)]) (upd (upd g m []) d (g d ++ [(x, m)]))) := by
  have hdi : d ∈ kk.map (·.1) := List.mem_map_of_mem (f := fun p : Int × Str => p.1) hd
  have hdm : d ≠ m := fun z => hm (z ▸ hdi)
  have gm : upd (upd g m []) d (g d ++ [(x, m)]) m = [] := by rw [upd_ne hdm.symm, upd_same]
  have go : ∀ n, n ≠ d → n ≠ m → upd (upd g m []) d (g d ++ [(x, m)]) n = g n := fun n h1 h2 => by rw [upd_ne h1, upd_ne h2]
  refine P.make (d := d) (n := m) (x := x) (w := w) ?_ (fun r hr => ?_) (fun d' x' n' => ?_) ⟨_, rws_mem.mpr ⟨_, hd, rfl⟩, rfl, rfl⟩ (by rw [rws_ids]; exact hm) hw hp (fun r hr => ?_) hx
  · rw [rws_ids, rws_ids, List.map_append]; rfl
  · obtain ⟨p, h, rfl⟩ := rws_mem.mp hr
    rcases List.mem_append.mp h with h | h
    · exact .inl ⟨_, rws_mem.mpr ⟨p, h, rfl⟩, rfl, rfl⟩
    · rw [List.mem_singleton.mp h]
      exact .inr (by show (m, w, upd (upd g m []) d (g d ++ [(x, m)]) m) = _; rw [gm])
  · rw [rws_Ed, rws_Ed]
    by_cases h1 : d' = d
    · subst h1
      rw [upd_same, List.mem_append, List.mem_singleton, List.map_append]
      constructor
      · rintro ⟨_, h | h⟩
        · exact .inl ⟨hdi, h⟩
        · cases h; exact .inr ⟨rfl, rfl, rfl⟩
      · rintro (⟨_, h⟩ | ⟨_, rfl, rfl⟩)
        · exact ⟨List.mem_append_left _ hdi, .inl h⟩
        · exact ⟨List.mem_append_left _ hdi, .inr rfl⟩
    · by_cases h2 : d' = m
      · subst h2
        rw [gm]
        constructor
        · rintro ⟨_, h⟩; cases h
        · rintro (⟨h, _⟩ | ⟨h, _, _⟩)
          · exact absurd h hm
          · exact absurd h h1
      · rw [go d' h1 h2, List.map_append]
        constructor
        · rintro ⟨h, h'⟩
          rcases List.mem_append.mp h with h | h
          · exact .inl ⟨h, h'⟩
          · have : d' = m := by simpa using h
            exact absurd this h2
        · rintro (⟨h, h'⟩ | ⟨h, _, _⟩)
          · exact ⟨List.mem_append_left _ h, h'⟩
          · exact absurd h h1
  · obtain ⟨p, h, rfl⟩ := rws_mem.mp hr
    show ((upd (upd g m []) d (g d ++ [(x, m)]) p.1).map (·.1)).Nodup
    by_cases h1 : p.1 = d
    · rw [h1, upd_same, List.map_append, List.nodup_append]
      refine ⟨P.nd (d, "drawer", g d) (rws_mem.mpr ⟨_, hd, rfl⟩), by simp, fun a ha b hb => ?_⟩
      have hb : b = x := by simpa using hb
      rintro rfl; exact hxn (hb ▸ ha)
    · by_cases h2 : p.1 = m
      · rw [h2, gm]; exact List.nodup_nil
      · rw [go _ h1 h2]
        rcases List.mem_append.mp h with h | h
        · exact P.nd (p.1, p.2, g p.1) (rws_mem.mpr ⟨p, h, rfl⟩)
        · rw [List.mem_singleton.mp h] at h2; exact absurd rfl h2
theorem PG.link' {NS : List Str} {kk : List (Int × Str)} {g : Int → List (Str × Int)} {d n : Int} {x : Str} (P : PG NS (rws kk g)) (hd : (d, ("drawer" : Str)) ∈ kk) (hx : x ∈ NS) (hxn : x ∉ (g d).map (·.1)) (hn : (n, ("sheet" : Str)) ∈ kk) :
    PG NS (rws kk (upd g d (g d ++ [(x, n)]))) := by
  have hdi : d ∈ kk.map (·.1) := List.mem_map_of_mem (f := fun p : Int × Str => p.1) hd
  have hp : 0 < n := by
    have h0 := P.pos (n, "sheet", g n) (rws_mem.mpr ⟨_, hn, rfl⟩)
    have h0 : 0 ≤ n := h0
    by_cases z : n = 0
    · obtain ⟨r, hr, e1, e2⟩ := P.top
      have := P.row hr (rws_mem.mpr ⟨_, hn, rfl⟩ : ((n, "sheet", g n) : Nd) ∈ rws kk g) (by rw [e1, z])
      rw [this] at e2
      exact absurd e2.symm drawer_ne_sheet
    · omega
  refine P.link (d := d) (n := n) (x := x) ?_ (fun r hr => ?_) (fun d' x' n' => ?_) ⟨_, rws_mem.mpr ⟨_, hd, rfl⟩, rfl, rfl⟩ ⟨_, rws_mem.mpr ⟨_, hn, rfl⟩, rfl, rfl⟩ hp (fun r hr => ?_) hx
  · rw [rws_ids, rws_ids]
  · obtain ⟨p, h, rfl⟩ := rws_mem.mp hr
    exact ⟨_, rws_mem.mpr ⟨p, h, rfl⟩, rfl, rfl⟩
  · rw [rws_Ed, rws_Ed]
    by_cases h1 : d' = d
    · subst h1
      rw [upd_same, List.mem_append, List.mem_singleton]
      constructor
      · rintro ⟨_, h | h⟩
        · exact .inl ⟨hdi, h⟩
        · cases h; exact .inr ⟨rfl, rfl, rfl⟩
      · rintro (⟨_, h⟩ | ⟨_, rfl, rfl⟩)
        · exact ⟨hdi, .inl h⟩
        · exact ⟨hdi, .inr rfl⟩
    · rw [upd_ne h1]
      constructor
      · rintro ⟨h, h'⟩; exact .inl ⟨h, h'⟩
      · rintro (⟨h, h'⟩ | ⟨h, _, _⟩)
        · exact ⟨h, h'⟩
        · exact absurd h h1
  · obtain ⟨p, h, rfl⟩ := rws_mem.mp hr
    show ((upd g d (g d ++ [(x, n)]) p.1).map (·.1)).Nodup
    by_cases h1 : p.1 = d
    · rw [h1, upd_same, List.map_append, List.nodup_append]
      refine ⟨P.nd (d, "drawer", g d) (rws_mem.mpr ⟨_, hd, rfl⟩), by simp, fun a ha b hb => ?_⟩
      have hb : b = x := by simpa using hb
      rintro rfl; exact hxn (hb ▸ ha)
    · rw [upd_ne h1]
      exact P.nd (p.1, p.2, g p.1) (rws_mem.mpr ⟨p, h, rfl⟩)
end KT
namespace KT
open PySem PySem.Spec PyProof.Rows L2 DL KF
open KB (Nd isK rowD treeD wayD entO onS_mem)
open KD
theorem wAt_mem {S : Sto} {Q : KD} {G : Addr} {xs : List D} {r : Int} (h : S G = some (.lst xs)) (h0 : 0 ≤ r) (h1 : r < xs.length) (q : ∀ x ∈ xs, Q x S) : wAt (.ref G) (.int r) S Q := by
  rw [wAt_lst h]; exact onS_mem h0 h1 q
def rdPick (i : Nat) : DTE := dBin wAt (dV i) (dCall sp__law_draw [] (dCons (dV 0) (dCons (dCB wLen (dCons (dV i) dNil)) dNil)))
theorem rdPick_of {i : Nat} {τ : DSt} {S : Sto} {f L : Addr} {xs : List D} {Q : KD} (h0 : τ[0]? = some (some (.ref f))) (hi : τ[i]? = some (some (.ref L))) (F : Feed S f) (g : S L = some (.lst xs)) (h : 0 < xs.length) (hl : xs.length < 1000000)
    (k : ∀ x ∈ xs, ∀ S', Feed S' f → Keeps f S S' → Q x S') : rdPick i τ S Q := by
  unfold rdPick
  have Lf : L ≠ f := fun z => by obtain ⟨_, _, _, _, e⟩ := F; rw [← z, g] at e; cases e
  simp only [dBin_eq, dV_eq, hi, dCall_eq, h0, dCons_eq, dNil_eq, dCB_eq, wLen_lst g, List.append_nil]
  exact ⟨f, _, rfl, by omega, by omega, F, fun r S1 r0 r1 F1 K1 => wAt_mem (K1 _ _ Lf g) r0 (by omega) fun x hx => k x hx S1 F1 K1⟩
theorem rdDraw_of {m : Int} {τ : DSt} {S : Sto} {f : Addr} {Q : KD} (h0 : τ[0]? = some (some (.ref f))) (F : Feed S f) (hm : 0 < m) (hl : m < 1000000) (k : ∀ r S', 0 ≤ r → r < m → Feed S' f → Keeps f S S' → Q (.int r) S') :
    dCall sp__law_draw [] (dCons (dV 0) (dCons (dC (.int m)) dNil)) τ S Q := by
  simp only [dCall_eq, dCons_eq, dV_eq, h0, dC_eq, dNil_eq, List.append_nil]
  exact ⟨f, m, rfl, hm, by omega, F, k⟩
theorem wAt_last {S : Sto} {Q : KD} {G : Addr} {xs : List D} (h : S G = some (.lst xs)) (hne : xs ≠ []) (q : ∀ x ∈ xs, Q x S) : wAt (.ref G) (.int (-1)) S Q := by
  rw [wAt_lst h, atI_last hne]
  cases e : xs.getLast? with
  | none => exact absurd (List.getLast?_eq_none_iff.mp e) hne
  | some x => exact q x (List.mem_of_getLast? e)
theorem wSet_dct {S : Sto} {a : Addr} {kvs : List (D × D)} {i v : D} {k : Sto → Prop} (h : S a = some (.dct kvs)) (f : keyFitW kvs i = true) (hl : kvs.length < sizeLine) (q : k (put S a (.dct (dPut kvs i v)))) : wSet (.ref a) i v S k := by
  simp only [wSet, h]
  exact ⟨f, hl, q⟩
def r__law_tree : DTS := dSeq (dAsg (dTup (dCons (dDisp ((dC (.int 0), dNewD) :: [])) (dCons (dDisp ((dC (.int 0), dC (.str "drawer")) :: [])) dNil))) (gdTup 2 (gdCons (gdName 8) (gdCons (gdName 9) gdNil)))) (dSeq (dAsg (dLstRg (rRg2 (dC (.int 1)) (dBin wAdd (dBin wAdd (dV 2) (dC (.int 2))) (dCall sp__law_draw [] (dCons (dV 0) (dCons (dC (.int 3)) dNil)))))) (gdName 3)) (dSeq (dAsg (dCall sp__law_draw [] (dCons (dV 0) (dCons (dC (.int 2)) dNil))) (gdName 4)) (dSeq (dFor (diRng1 (dCons (dV 2) dNil)) (gdName 5) (dSeq (dLockS 9 (dAsg (dLC (diVal (dV 9) wIterA) (gdName 6) (dTst (dBin wEq (dBin wAt (dV 9) (dV 6)) (dC (.str "drawer")))) [6] [6] [] (dV 6)) (gdName 10))) (dSeq (dAsg (dBin wAt (dV 10) (dUn wNeg (dC (.int 1)))) (gdName 11)) (dSeq (dIfS (dOr (dTst (dBin wEq (dV 4) (dC (.int 0)))) (dTst (dBin wEq (dCall sp__law_draw [] (dCons (dV 0) (dCons (dC (.int 2)) dNil))) (dC (.int 1))))) (dAsg (dBin wAt (dV 10) (dCall sp__law_draw [] (dCons (dV 0) (dCons (dCB wLen (dCons (dV 10) dNil)) dNil)))) (gdName 11)) dNext) (dSeq (dAsg (dBin wAt (dV 1) (dCall sp__law_draw [] (dCons (dV 0) (dCons (dCB wLen (dCons (dV 1) dNil)) dNil)))) (gdName 12)) (dSeq (dAsg (dBin wAt (dV 3) (dCall sp__law_draw [] (dCons (dV 0) (dCons (dCB wLen (dCons (dV 3) dNil)) dNil)))) (gdName 6)) (dIfS (dAnd (dTst (dBin (wIn true) (dV 12) (dBin wAt (dV 8) (dV 11)))) (dTst (dBin (wIn true) (dV 6) (dV 9)))) (dSeq (dAsg (dBin wAt (dLst (dCons (dC (.str "drawer")) (dCons (dC (.str "drawer")) (dCons (dC (.str "sheet")) dNil)))) (dCall sp__law_draw [] (dCons (dV 0) (dCons (dC (.int 3)) dNil)))) (gdSub (dV 9) (dV 6) wSet)) (dAsg (dTup (dCons dNewD (dCons (dV 6) dNil))) (gdTup 2 (gdCons (gdSub (dV 8) (dV 6) wSet) (gdCons (gdSub (dBin wAt (dV 8) (dV 11)) (dV 12) wSet) gdNil))))) dNext))))))) (dSeq (dFor (diVal (dLockE 9 (dLC (diVal (dV 9) wIterA) (gdName 6) (dTst (dBin wEq (dBin wAt (dV 9) (dV 6)) (dC (.str "sheet")))) [6] [6] [] (dV 6))) wIterA) (gdName 6) (dSeq (dLockS 9 (dAsg (dLC (diVal (dV 9) wIterA) (gdName 6) (dTst (dBin wEq (dBin wAt (dV 9) (dV 6)) (dC (.str "drawer")))) [6] [6] [] (dV 6)) (gdName 10))) (dSeq (dAsg (dBin wAt (dV 10) (dCall sp__law_draw [] (dCons (dV 0) (dCons (dCB wLen (dCons (dV 10) dNil)) dNil)))) (gdName 11)) (dSeq (dAsg (dBin wAt (dV 1) (dCall sp__law_draw [] (dCons (dV 0) (dCons (dCB wLen (dCons (dV 1) dNil)) dNil)))) (gdName 12)) (dIfS (dAnd (dTst (dBin (wIn true) (dV 12) (dBin wAt (dV 8) (dV 11)))) (dTst (dBin wEq (dCall sp__law_draw [] (dCons (dV 0) (dCons (dC (.int 2)) dNil))) (dC (.int 0))))) (dAsg (dV 6) (gdSub (dBin wAt (dV 8) (dV 11)) (dV 12) wSet)) dNext))))) (dSeq (dAsg (dLst dNil) (gdName 7)) (dSeq (dFor (diVal (dCB wSortedD (dCons (dV 9) dNil)) wIterA) (gdName 6) (dDrop (dBM "list" wAppend (dV 7) (dCons (dTup (dCons (dV 6) (dCons (dBin wAt (dV 9) (dV 6)) (dCons (dCB wTuple (dCons (dSortedItems (dBin wAt (dV 8) (dV 6))) dNil)) dNil)))) dNil)))) (dRet (dTup (dCons (dCB wTuple (dCons (dV 7) dNil)) (dCons (dBin wAdd (dBin wAdd (dBin wAt (dBin wAt (dV 7) (dUn wNeg (dC (.int 1)))) (dC (.int 0))) (dC (.int 1))) (dCall sp__law_draw [] (dCons (dV 0) (dCons (dC (.int 3)) dNil)))) dNil))))))))))
abbrev N__law_tree : List Str := ["_law_feed_here", "_law_names_here", "_law_many", "_law_pool", "_law_deep", "_law_k", "_law_node", "_law_rows_here", "_law_entries", "_law_kinds", "_law_drawers", "_law_drawer_here", "_law_name"]
def tIns1 : DTS := dIfS (dAnd (dTst (dBin (wIn true) (dV 12) (dBin wAt (dV 8) (dV 11)))) (dTst (dBin (wIn true) (dV 6) (dV 9)))) (dSeq (dAsg (dBin wAt (dLst (dCons (dC (.str "drawer")) (dCons (dC (.str "drawer")) (dCons (dC (.str "sheet")) dNil)))) (dCall sp__law_draw [] (dCons (dV 0) (dCons (dC (.int 3)) dNil)))) (gdSub (dV 9) (dV 6) wSet)) (dAsg (dTup (dCons dNewD (dCons (dV 6) dNil))) (gdTup 2 (gdCons (gdSub (dV 8) (dV 6) wSet) (gdCons (gdSub (dBin wAt (dV 8) (dV 11)) (dV 12) wSet) gdNil))))) dNext
def tRest1 : DTS := dSeq (dAsg (rdPick 1) (gdName 12)) (dSeq (dAsg (rdPick 3) (gdName 6)) tIns1)
def tBody1 : DTS := dSeq (dLockS 9 (dAsg (rdKinded "drawer") (gdName 10))) (dSeq (dAsg (dBin wAt (dV 10) (dUn wNeg (dC (.int 1)))) (gdName 11)) (dSeq (dIfS (dOr (dTst (dBin wEq (dV 4) (dC (.int 0)))) (dTst (dBin wEq (dCall sp__law_draw [] (dCons (dV 0) (dCons (dC (.int 2)) dNil))) (dC (.int 1))))) (dAsg (rdPick 10) (gdName 11)) dNext) tRest1))
def tIns2 : DTS := dIfS (dAnd (dTst (dBin (wIn true) (dV 12) (dBin wAt (dV 8) (dV 11)))) (dTst (dBin wEq (dCall sp__law_draw [] (dCons (dV 0) (dCons (dC (.int 2)) dNil))) (dC (.int 0))))) (dAsg (dV 6) (gdSub (dBin wAt (dV 8) (dV 11)) (dV 12) wSet)) dNext
def tBody2 : DTS := dSeq (dLockS 9 (dAsg (rdKinded "drawer") (gdName 10))) (dSeq (dAsg (rdPick 10) (gdName 11)) (dSeq (dAsg (rdPick 1) (gdName 12)) tIns2))
def tBody3 : DTS := dDrop (dBM "list" wAppend (dV 7) (dCons (dTup (dCons (dV 6) (dCons (dBin wAt (dV 9) (dV 6)) (dCons (dCB wTuple (dCons (dSortedItems (dBin wAt (dV 8) (dV 6))) dNil)) dNil)))) dNil))
def tA : DTS := dAsg (dTup (dCons (dDisp ((dC (.int 0), dNewD) :: [])) (dCons (dDisp ((dC (.int 0), dC (.str "drawer")) :: [])) dNil))) (gdTup 2 (gdCons (gdName 8) (gdCons (gdName 9) gdNil)))
def tB : DTS := dAsg (dLstRg (rRg2 (dC (.int 1)) (dBin wAdd (dBin wAdd (dV 2) (dC (.int 2))) (dCall sp__law_draw [] (dCons (dV 0) (dCons (dC (.int 3)) dNil)))))) (gdName 3)
def tC : DTS := dAsg (dCall sp__law_draw [] (dCons (dV 0) (dCons (dC (.int 2)) dNil))) (gdName 4)
def tF1 : DTS := dFor (diRng1 (dCons (dV 2) dNil)) (gdName 5) tBody1
def tF2 : DTS := dFor (diVal (dLockE 9 (rdKinded "sheet")) wIterA) (gdName 6) tBody2
def tF3 : DTS := dFor (diVal (dCB wSortedD (dCons (dV 9) dNil)) wIterA) (gdName 6) tBody3
def tD : DTS := dAsg (dLst dNil) (gdName 7)
def tR : DTS := dRet (dTup (dCons (dCB wTuple (dCons (dV 7) dNil)) (dCons (dBin wAdd (dBin wAdd (dBin wAt (dBin wAt (dV 7) (dUn wNeg (dC (.int 1)))) (dC (.int 0))) (dC (.int 1))) (dCall sp__law_draw [] (dCons (dV 0) (dCons (dC (.int 3)) dNil)))) dNil)))
theorem r_tree_eq : r__law_tree = dSeq tA (dSeq tB (dSeq tC (dSeq tF1 (dSeq tF2 (dSeq tD (dSeq tF3 tR)))))) := rfl
structure Nms (S0 : Sto) (f L : Addr) (ns : List Str) : Prop where
  g : S0 L = some (.lst (ns.map D.str))
  lf : L ≠ f
  l2 : 2 ≤ ns.length
  l8 : ns.length ≤ 8
  ok : ∀ n ∈ ns, ltr n = true
theorem Nms.nsok {S0 : Sto} {f L : Addr} {ns : List Str} (W : Nms S0 f L ns) : NsOk ns := ⟨by have := W.l8; omega, W.ok⟩
theorem PG.few {NS : List Str} {kk : List (Int × Str)} {g : Int → List (Str × Int)} (P : PG NS (rws kk g)) (hl : NS.length ≤ 8) {n : Int} (h : n ∈ kk.map (·.1)) : (g n).length ≤ 8 := by
  obtain ⟨p, hp, rfl⟩ := List.mem_map.mp h
  have hm : ((p.1, p.2, g p.1) : Nd) ∈ rws kk g := rws_mem.mpr ⟨p, hp, rfl⟩
  exact Nat.le_trans (names_few (P.nd _ hm) (P.nm _ hm)) hl
section
variable {S0 S : Sto} {f L E K P : Addr} {pool : List Int} {ke : List (Int × Addr)} {kk : List (Int × Str)} {g : Int → List (Str × Int)} {ns : List Str} {deep many : Option D} {x5 x6 x10 x11 x12 : Option D} {Dn : DEnds}
theorem ins1 (T : TJ S0 f E K P pool ke kk g S) (G : PG ns (rws kk g)) (hns : ns.length ≤ 8) (hkk : kk.length ≤ 1000) {d node : Int} {nm : Str} (hd : d ∈ kinded "drawer" kk) (hn : nm ∈ ns) (hp0 : 0 < node) (hlt : node ≤ 100)
    (k : ∀ ke' kk' g' S', TJ S0 f E K P pool ke' kk' g' S' → PG ns (rws kk' g') → kk'.length ≤ kk.length + 1 → (∀ p ∈ kk', p ∈ kk ∨ p.1 ≤ 100) → Dn.nx [some (.ref f), some (.ref L), many, some (.ref P), deep, x5, some (.int node), none, some (.ref E), some (.ref K), x10, some (.int d), some (.str nm)] S') :
    tIns1 Dn [some (.ref f), some (.ref L), many, some (.ref P), deep, x5, some (.int node), none, some (.ref E), some (.ref K), x10, some (.int d), some (.str nm)] S := by
  have sz : 1001 < sizeLine := by rw [sizeLine_eq]; decide
  have lke : ke.length = kk.length := by have := congrArg List.length T.same; simpa using this
  have hdk : d ∈ kk.map (·.1) := List.mem_map.mpr ⟨_, kinded_mem hd, rfl⟩
  have lg := G.few hns hdk
  have hdd := kinded_mem hd
  obtain ⟨q, hq, rfl⟩ : ∃ q ∈ ke, q.1 = d := by
    rw [← T.same] at hdk
    exact List.mem_map.mp hdk
  obtain ⟨i1, i2, i3, i4, i5, g1⟩ := T.inn q hq
  unfold tIns1
  simp only [dIfS_eq, dAnd_eq, dTst_eq, dBin_eq]
  refine dV_at (by rfl) ?_; refine dV_at (by rfl) ?_; refine dV_at (by rfl) ?_
  rw [wAt_dct T.gE fitE (getE T.ndE hq), wIn_dct g1 fitN, isNd]
  by_cases hnm : nm ∈ (g q.1).map (·.1)
  · simp only [hnm, decide_true, isB_bl]
    exact k ke kk g S T G (by omega) fun p hp => .inl hp
  · simp only [hnm, decide_false, isB_bl]
    rw [if_pos (show (true != false) = true from rfl)]
    refine dV_at (by rfl) ?_; refine dV_at (by rfl) ?_
    rw [wIn_dct T.gK fitK, isKd]
    by_cases hno : node ∈ kk.map (·.1)
    · simp only [hno, decide_true, isB_bl]
      exact k ke kk g S T G (by omega) fun p hp => .inl hp
    · simp only [hno, decide_false, isB_bl]
      rw [if_pos (show (true != false) = true from rfl)]
      show (3 ≤ sizeLine ∧ _)
      refine ⟨by omega, fun p hp => ?_⟩
      refine ⟨f, 3, rfl, by omega, by omega, T.F.new hp, fun r S1 r0 r1 F1 K1 => ?_⟩
      have T1 := (T.new (o := .lst [.str "drawer", .str "drawer", .str "sheet"]) hp).keep F1 K1
      refine wAt_mem (K1 _ _ (T.F.nt hp) put_same) r0 (by simpa using r1) fun x hx => ?_
      obtain ⟨w, rfl, hw⟩ : ∃ w : Str, x = .str w ∧ isK w := by
        simp only [List.mem_cons, List.not_mem_nil, or_false] at hx
        rcases hx with rfl | rfl | rfl
        · exact ⟨_, rfl, .inl rfl⟩
        · exact ⟨_, rfl, .inl rfl⟩
        · exact ⟨_, rfl, .inr rfl⟩
      show wSet (.ref K) (.int node) (.str w) S1 _
      refine wSet_dct T1.gK fitWK (by rw [List.length_map]; omega) ?_
      rw [putK (y := (node, w)) hno]
      show ∀ p2, _ → _
      intro p2 hp2
      have hp2' : S1 p2 = none := by
        have : p2 ≠ K := fun z => by rw [z, put_same] at hp2; cases hp2
        rw [put_ne this] at hp2; exact hp2
      have T2 := T1.node (w := w) hno hp2'
      show 2 ≤ sizeLine ∧ _ ∧ _
      refine ⟨by omega, rfl, ?_⟩
      have pE : p2 ≠ E := fun z => by rw [z, T1.gE] at hp2'; cases hp2'
      have gE1 : (put (put S1 K (.dct ((kk ++ [(node, w)]).map eK))) p2 (.dct [])) E = some (.dct (ke.map eE)) := by
        rw [put_ne (Ne.symm pE), put_ne T1.ne.1]; exact T1.gE
      show wSet (.ref E) (.int node) (.ref p2) _ _
      refine wSet_dct gE1 fitWE (by rw [List.length_map]; omega) ?_
      rw [putE (y := (node, p2)) (by rw [T1.same]; exact hno)]
      generalize put (put (put S1 K (.dct ((kk ++ [(node, w)]).map eK))) p2 (.dct [])) E (.dct ((ke ++ [(node, p2)]).map eE)) = S2 at T2
      simp only [gdCons_eq, gdSub_eq, dBin_eq]
      refine dV_at (by rfl) ?_; refine dV_at (by rfl) ?_
      have hq2 : q ∈ ke ++ [(node, p2)] := List.mem_append_left _ hq
      obtain ⟨_, _, _, _, _, g2⟩ := T2.inn q hq2
      have hqn : q.1 ≠ node := fun z => hno (by rw [← z, ← T.same]; exact List.mem_map_of_mem hq)
      rw [upd_ne hqn] at g2
      rw [wAt_dct T2.gE fitE (getE T2.ndE hq2)]
      refine dV_at (by rfl) ?_; refine wSet_dct g2 fitWN (by rw [List.length_map]; omega) ?_
      rw [putN (y := (nm, node)) hnm]
      show [] = [] ∧ _
      exact ⟨rfl, k _ _ _ _ (T2.entry hq2 (g q.1 ++ [(nm, node)])) (G.make' hdd hn hnm hno hw hp0) (by simp) fun p hp => by
        rcases List.mem_append.mp hp with hp | hp
        · exact .inl hp
        · rw [List.mem_singleton.mp hp]; exact .inr hlt⟩
theorem mem_str {ns : List Str} {x : D} (h : x ∈ ns.map D.str) : ∃ n ∈ ns, x = .str n := by
  obtain ⟨n, h1, rfl⟩ := List.mem_map.mp h; exact ⟨n, h1, rfl⟩
theorem mem_int {ns : List Int} {x : D} (h : x ∈ ns.map D.int) : ∃ n ∈ ns, x = .int n := by
  obtain ⟨n, h1, rfl⟩ := List.mem_map.mp h; exact ⟨n, h1, rfl⟩
theorem kinded_top (G : PG ns (rws kk g)) : kinded "drawer" kk ≠ [] := by
  intro z
  have : (0 : Int) ∈ kinded "drawer" kk := by
    unfold kinded
    obtain ⟨r, hr, e1, e2⟩ := G.top
    obtain ⟨p, hp, rfl⟩ := rws_mem.mp hr
    exact List.mem_map.mpr ⟨p, List.mem_filter.mpr ⟨hp, decide_eq_true e2⟩, e1⟩
  rw [z] at this; cases this
theorem body1 (T : TJ S0 f E K P pool ke kk g S) (G : PG ns (rws kk g)) (W : Nms S0 f L ns) (hpl : ∀ n ∈ pool, 0 < n ∧ n ≤ 100) (hp : pool ≠ []) (lp : pool.length ≤ 1000) (hkk : kk.length ≤ 1000) {dp : Int}
    (k : ∀ ke' kk' g' x6 x10 x11 x12 S', TJ S0 f E K P pool ke' kk' g' S' → PG ns (rws kk' g') → kk'.length ≤ kk.length + 1 → (∀ p ∈ kk', p ∈ kk ∨ p.1 ≤ 100) → Dn.nx [some (.ref f), some (.ref L), many, some (.ref P), some (.int dp), x5, x6, none, some (.ref E), some (.ref K), x10, x11, x12] S') :
    tBody1 Dn [some (.ref f), some (.ref L), many, some (.ref P), some (.int dp), x5, x6, none, some (.ref E), some (.ref K), x10, x11, x12] S := by
  unfold tBody1
  simp only [dSeq_eq]
  refine kinded_set (by rfl) (by show 10 < 13; decide) T.gK T.nd hkk fun GA hG => ?_
  have T1 := T.new (o := .lst ((kinded "drawer" kk).map D.int)) hG
  have g1 : put S GA (.lst ((kinded "drawer" kk).map D.int)) GA = some (.lst ((kinded "drawer" kk).map D.int)) := put_same
  have Gf := T.F.nt hG
  generalize put S GA (.lst ((kinded "drawer" kk).map D.int)) = S1 at *
  have hne := kinded_top G
  have rest : ∀ d, d ∈ kinded "drawer" kk → ∀ S2, Feed S2 f → Keeps f S1 S2 → tRest1 Dn [some (.ref f), some (.ref L), many, some (.ref P), some (.int dp), x5, x6, none, some (.ref E), some (.ref K), some (.ref GA), some (.int d), x12] S2 := fun d hd S2 F2 K2 => by
    have T2 := T1.keep F2 K2
    unfold tRest1
    simp only [dSeq_eq, dAsg_eq]
    refine rdPick_of (L := L) (by rfl) (by rfl) F2 (T2.ks _ _ W.lf W.g) (by rw [List.length_map]; have := W.l2; omega) (by rw [List.length_map]; have := W.l8; omega) fun x hx S3 F3 K3 => ?_
    obtain ⟨nm, hnm, rfl⟩ := mem_str hx
    have T3 := T2.keep F3 K3
    simp only [dSeq_eq, dAsg_eq, dBin_eq, dUn_eq, dC_eq, wNeg_int, gdName_eq, dIfS_eq, dOr_eq, dAnd_eq, dTst_eq]
    refine rdPick_of (L := P) (by rfl) (by rfl) F3 T3.gP (by rw [List.length_map]; exact List.length_pos_iff.mpr hp) (by rw [List.length_map]; omega) fun y hy S4 F4 K4 => ?_
    obtain ⟨nd, hnd, rfl⟩ := mem_int hy
    exact ins1 (T3.keep F4 K4) G W.l8 hkk hd hnm (hpl _ hnd).1 (hpl _ hnd).2 fun ke' kk' g' S' T' G' l' z' => k ke' kk' g' _ _ _ _ S' T' G' l' z'
  simp only [dSeq_eq, dAsg_eq, dBin_eq, dUn_eq, dC_eq, wNeg_int, gdName_eq, dIfS_eq, dOr_eq, dAnd_eq, dTst_eq]
  refine dV_at (by rfl) ?_
  refine wAt_last g1 (by simpa using hne) fun x hx => ?_
  obtain ⟨d, hd, rfl⟩ := mem_int hx
  refine dV_at (by rfl) ?_
  rw [wEq_int]
  have pick : ∀ S2, Feed S2 f → Keeps f S1 S2 → rdPick 10 [some (.ref f), some (.ref L), many, some (.ref P), some (.int dp), x5, x6, none, some (.ref E), some (.ref K), some (.ref GA), some (.int d), x12] S2 fun y S3 => tRest1 Dn ([some (.ref f), some (.ref L), many, some (.ref P), some (.int dp), x5, x6, none, some (.ref E), some (.ref K), some (.ref GA), some (.int d), x12].set 11 (some y)) S3 := fun S2 F2 K2 => by
    refine rdPick_of (L := GA) (by rfl) (by rfl) F2 (K2 _ _ Gf g1) (by rw [List.length_map]; exact List.length_pos_iff.mpr hne) (by rw [List.length_map]; have := kinded_len "drawer" kk; omega) fun y hy S3 F3 K3 => ?_
    obtain ⟨d', hd', rfl⟩ := mem_int hy
    exact rest d' hd' S3 F3 (K2.trans K3)
  by_cases hz : dp = 0
  · simp only [hz, decide_true, isB_bl, if_true]
    rw [hz] at pick
    exact pick S1 T1.F .refl
  · simp only [hz, decide_false, isB_bl]
    rw [if_neg (by decide)]
    refine rdDraw_of (by rfl) T1.F (by decide) (by decide) fun r S2 r0 r1 F2 K2 => ?_
    rw [wEq_int]
    by_cases hr : r = 1
    · simp only [hr, decide_true, isB_bl, if_true]
      exact pick S2 F2 K2
    · simp only [hr, decide_false, isB_bl]
      exact rest d hd S2 F2 K2
theorem ins2 (T : TJ S0 f E K P pool ke kk g S) (G : PG ns (rws kk g)) (hns : ns.length ≤ 8) {d node : Int} {nm : Str} {x10 : Option D} (hd : d ∈ kinded "drawer" kk) (hn : nm ∈ ns) (hs : (node, ("sheet" : Str)) ∈ kk)
    (k : ∀ g' S', TJ S0 f E K P pool ke kk g' S' → PG ns (rws kk g') → (∀ b l, S b = some (.lst l) → S' b = some (.lst l)) → Dn.nx [some (.ref f), some (.ref L), many, some (.ref P), deep, x5, some (.int node), none, some (.ref E), some (.ref K), x10, some (.int d), some (.str nm)] S') :
    tIns2 Dn [some (.ref f), some (.ref L), many, some (.ref P), deep, x5, some (.int node), none, some (.ref E), some (.ref K), x10, some (.int d), some (.str nm)] S := by
  have sz : 1001 < sizeLine := by rw [sizeLine_eq]; decide
  have hdk : d ∈ kk.map (·.1) := List.mem_map.mpr ⟨_, kinded_mem hd, rfl⟩
  have lg := G.few hns hdk
  have hdd := kinded_mem hd
  obtain ⟨q, hq, rfl⟩ : ∃ q ∈ ke, q.1 = d := by
    rw [← T.same] at hdk
    exact List.mem_map.mp hdk
  obtain ⟨i1, i2, i3, i4, i5, g1⟩ := T.inn q hq
  have lstf : ∀ S1, Feed S1 f → Keeps f S S1 → ∀ b l, S b = some (.lst l) → S1 b = some (.lst l) := fun S1 F1 K1 b l hb =>
    K1 b _ (fun z => by obtain ⟨_, _, _, _, e⟩ := T.F; rw [← z, hb] at e; cases e) hb
  unfold tIns2
  simp only [dIfS_eq, dAnd_eq, dTst_eq, dBin_eq]
  refine dV_at (by rfl) ?_; refine dV_at (by rfl) ?_; refine dV_at (by rfl) ?_
  rw [wAt_dct T.gE fitE (getE T.ndE hq), wIn_dct g1 fitN, isNd]
  by_cases hnm : nm ∈ (g q.1).map (·.1)
  · simp only [hnm, decide_true, isB_bl]
    exact k g S T G fun _ _ h => h
  · simp only [hnm, decide_false, isB_bl]
    rw [if_pos (show (true != false) = true from rfl)]
    refine rdDraw_of (by rfl) T.F (by decide) (by decide) fun r S1 r0 r1 F1 K1 => ?_
    have T1 := T.keep F1 K1
    simp only [dC_eq]
    rw [wEq_int]
    by_cases hr : r = 0
    · simp only [hr, decide_true, isB_bl, if_true, dAsg_eq, gdSub_eq, dBin_eq]
      refine dV_at (by rfl) ?_; refine dV_at (by rfl) ?_; refine dV_at (by rfl) ?_
      rw [wAt_dct T1.gE fitE (getE T1.ndE hq)]
      refine dV_at (by rfl) ?_
      have g2 := K1 _ _ i4 g1
      refine wSet_dct g2 fitWN (by rw [List.length_map]; omega) ?_
      rw [putN (y := (nm, node)) hnm]
      refine k _ _ (T1.entry hq (g q.1 ++ [(nm, node)])) (G.link' hdd hn hnm hs) fun b l hb => ?_
      have : b ≠ q.2 := fun z => by rw [z, g1] at hb; cases hb
      rw [put_ne this]
      exact lstf S1 F1 K1 b l hb
    · simp only [hr, decide_false, isB_bl]
      exact k g S1 T1 G (lstf S1 F1 K1)
theorem body2 (T : TJ S0 f E K P pool ke kk g S) (G : PG ns (rws kk g)) (W : Nms S0 f L ns) (hkk : kk.length ≤ 1000) {node : Int} (hs : (node, ("sheet" : Str)) ∈ kk)
    (k : ∀ g' x10 x11 x12 S', TJ S0 f E K P pool ke kk g' S' → PG ns (rws kk g') → (∀ b l, S b = some (.lst l) → S' b = some (.lst l)) → Dn.nx [some (.ref f), some (.ref L), many, some (.ref P), deep, x5, some (.int node), none, some (.ref E), some (.ref K), x10, x11, x12] S') :
    tBody2 Dn [some (.ref f), some (.ref L), many, some (.ref P), deep, x5, some (.int node), none, some (.ref E), some (.ref K), x10, x11, x12] S := by
  unfold tBody2
  simp only [dSeq_eq]
  refine kinded_set (by rfl) (by show 10 < 13; decide) T.gK T.nd hkk fun GA hG => ?_
  have T1 := T.new (o := .lst ((kinded "drawer" kk).map D.int)) hG
  have g1 : put S GA (.lst ((kinded "drawer" kk).map D.int)) GA = some (.lst ((kinded "drawer" kk).map D.int)) := put_same
  have Gf := T.F.nt hG
  have st1 : ∀ b l, S b = some (.lst l) → put S GA (.lst ((kinded "drawer" kk).map D.int)) b = some (.lst l) := fun b l hb => by rw [put_ne (ne_of_free hG hb)]; exact hb
  generalize put S GA (.lst ((kinded "drawer" kk).map D.int)) = S1 at *
  have hne := kinded_top G
  have lstf : ∀ S2, Feed S1 f → Keeps f S1 S2 → ∀ b l, S1 b = some (.lst l) → S2 b = some (.lst l) := fun S2 F1 K1 b l hb =>
    K1 b _ (fun z => by obtain ⟨_, _, _, _, e⟩ := F1; rw [← z, hb] at e; cases e) hb
  simp only [dSeq_eq, dAsg_eq, dBin_eq, dUn_eq, dC_eq, wNeg_int, gdName_eq, dIfS_eq, dOr_eq, dAnd_eq, dTst_eq]
  refine rdPick_of (L := GA) (by rfl) (by rfl) T1.F g1 (by rw [List.length_map]; exact List.length_pos_iff.mpr hne) (by rw [List.length_map]; have := kinded_len "drawer" kk; omega) fun y hy S2 F2 K2 => ?_
  obtain ⟨d, hd, rfl⟩ := mem_int hy
  have T2 := T1.keep F2 K2
  refine rdPick_of (L := L) (by rfl) (by rfl) F2 (T2.ks _ _ W.lf W.g) (by rw [List.length_map]; have := W.l2; omega) (by rw [List.length_map]; have := W.l8; omega) fun x hx S3 F3 K3 => ?_
  obtain ⟨nm, hnm, rfl⟩ := mem_str hx
  exact ins2 (T2.keep F3 K3) G W.l8 hd hnm hs fun g' S' T' G' st => k g' _ _ _ S' T' G' fun b l hb => st b l (lstf S3 T1.F (K2.trans K3) b l (st1 b l hb))
theorem itms_eN (es : List (Str × Int)) : itmsD (es.map eN) = es.map pairSI := by
  unfold itmsD; rw [List.map_map]; rfl
theorem srtE_dLe {S : Sto} (es : List (Str × Int)) : (es.mergeSort fun a b => dLe S (pairSI a) (pairSI b)) = KB.srtE es := by
  unfold KB.srtE
  have : (fun a b : Str × Int => dLe S (pairSI a) (pairSI b)) = fun a b => PySem.W.dataLe false D.py (pairSI a) (pairSI b) := by
    funext a b
    exact KB.dLe_cl (by simp [pairSI, D.cl, D.cls]) (by simp [pairSI, D.cl, D.cls])
  rw [this]
theorem body3 (T : TJ S0 f E K P pool ke kk g S) {R : Addr} {rows : List Nd} (gR : S R = some (.lst (rows.map rowD))) (lr : rows.length ≤ 1000) (R0 : S0 R = none) (RP : P ≠ R) {n : Int} (hn : n ∈ kk.map (·.1))
    (k : ∀ r S', r.1 = n → (∃ q ∈ kk, q.1 = r.1 ∧ q.2 = r.2.1) → ((g n).Perm r.2.2 ∧ ∃ es, r.2.2 = KB.srtE es) → TJ S0 f E K P pool ke kk g S' → S' R = some (.lst ((rows ++ [r]).map rowD)) → (∀ b l, b ≠ R → S b = some (.lst l) → S' b = some (.lst l)) → Dn.nx [some (.ref f), some (.ref L), many, some (.ref P), deep, x5, some (.int n), some (.ref R), some (.ref E), some (.ref K), x10, x11, x12] S') :
    tBody3 Dn [some (.ref f), some (.ref L), many, some (.ref P), deep, x5, some (.int n), some (.ref R), some (.ref E), some (.ref K), x10, x11, x12] S := by
  have sz : 1001 < sizeLine := by rw [sizeLine_eq]; decide
  obtain ⟨q, hq, rfl⟩ : ∃ q ∈ kk, q.1 = n := List.mem_map.mp hn
  obtain ⟨a, ha, ea⟩ : ∃ a ∈ ke, a.1 = q.1 := by rw [← T.same] at hn; exact List.mem_map.mp hn
  obtain ⟨i1, i2, i3, i4, i5, g1⟩ := T.inn a ha
  rw [ea] at g1
  generalize hes : g q.1 = es at *
  unfold tBody3
  simp only [dDrop_eq, dBM_eq, dCons_eq, dTup_eq, dNil_eq, dCB_eq, dBin_eq, dSortedItems_eq]
  refine dV_at (by rfl) ?_
  refine ⟨by simp [tyD, gR], ?_⟩
  refine dV_at (by rfl) ?_; refine dV_at (by rfl) ?_; refine dV_at (by rfl) ?_
  rw [wAt_dct T.gK fitK (getK T.nd hq)]
  refine dV_at (by rfl) ?_; refine dV_at (by rfl) ?_
  rw [wAt_dct T.gE fitE (by rw [← ea]; exact getE T.ndE ha)]
  have ed : dctOf S (.ref a.2) = some (a.2, es.map eN) := by simp [dctOf, g1]
  rw [ed]
  simp only
  rw [itms_eN]
  refine ⟨SortOk.pairsSI es, fun p hp => ?_⟩
  rw [mergeSort_map, wTuple_lst put_same]
  refine ⟨by show 3 ≤ sizeLine; omega, ?_⟩
  have Rp : R ≠ p := ne_of_free hp gR
  have T1 := T.new (o := .lst ((es.mergeSort fun a b => dLe S (pairSI a) (pairSI b)).map pairSI)) hp
  have g2 : put S p (.lst ((es.mergeSort fun a b => dLe S (pairSI a) (pairSI b)).map pairSI)) R = some (.lst (rows.map rowD)) := by rw [put_ne Rp]; exact gR
  rw [wAppend_lst g2]
  refine ⟨by rw [List.length_map]; omega, ?_⟩
  have hperm := List.mergeSort_perm es fun a b => dLe S (pairSI a) (pairSI b)
  have RE : R ≠ E := fun z => by rw [z, T.gE] at gR; cases gR
  have RK : R ≠ K := fun z => by rw [z, T.gK] at gR; cases gR
  have Rf : R ≠ f := fun z => by obtain ⟨_, _, _, _, e⟩ := T.F; rw [← z, gR] at e; cases e
  have inR : ∀ b ∈ ke, b.2 ≠ R := fun b hb z => by
    obtain ⟨_, _, _, _, _, h2⟩ := T.inn b hb
    rw [z, gR] at h2; cases h2
  refine k (q.1, q.2, es.mergeSort fun a b => dLe S (pairSI a) (pairSI b)) _ rfl ⟨q, hq, rfl, rfl⟩ ⟨hperm.symm, es, srtE_dLe es⟩ ?_ ?_ ?_
  · exact {
      gE := by rw [put_ne (Ne.symm RE)]; exact T1.gE
      gK := by rw [put_ne (Ne.symm RK)]; exact T1.gK
      gP := by rw [put_ne RP]; exact T1.gP
      same := T.same, nd := T.nd, nda := T.nda, ne := T.ne, n0 := T.n0
      inn := fun r hr => by
        obtain ⟨a', b', c', d', e', h1⟩ := T1.inn r hr
        exact ⟨a', b', c', d', e', by rw [put_ne (inR r hr)]; exact h1⟩
      F := T1.F.put Rf
      ks := T1.ks.then R0 }
  · rw [put_same, List.map_append]; rfl
  · intro b l hb hl
    rw [put_ne hb, put_ne (ne_of_free hp hl)]; exact hl
end
end KT
namespace KT
open PySem PySem.Spec PyProof.Rows L2 DL KF
open KB (Nd isK rowD treeD wayD entO dLe_int)
open KD
theorem ints_asc {S : Sto} {ns : List Int} (nd : ns.Nodup) : (ns.mergeSort fun a b => dLe S (.int a) (.int b)).Pairwise (· < ·) := by
  have e : (fun a b : Int => dLe S (.int a) (.int b)) = fun a b => decide (a ≤ b) := by funext a b; exact dLe_int
  rw [e]
  have h1 := List.pairwise_mergeSort (le := fun a b : Int => decide (a ≤ b)) (fun a b c h1 h2 => by simp at *; omega) (fun a b => by simp; omega) ns
  have h2 : (ns.mergeSort fun a b : Int => decide (a ≤ b)).Nodup := (List.mergeSort_perm _ _).nodup_iff.mpr nd
  refine (List.Pairwise.and h1 h2).imp fun {a b} h => ?_
  have := of_decide_eq_true h.1
  have := h.2
  omega
def sp__law_tree : DSp := fun ds S Q E => ∃ f L ns m, ds = [.ref f, .ref L, .int m] ∧ 0 ≤ m ∧ m ≤ 14 ∧ Feed S f ∧ Nms S f L ns ∧ ∀ rows made S', TreeN ns rows made → rows.length ≤ 20 → made ≤ 200 → (∀ r ∈ rows, ∃ es, r.2.2 = KB.srtE es) → Feed S' f → Keeps f S S' → Q (treeD rows made) S'
theorem len__law_tree : ∀ ds S Q E, sp__law_tree ds S Q E → ds.length = (["_law_feed_here", "_law_names_here", "_law_many"] : List Str).length := fun _ _ _ _ ⟨_, _, _, _, e, _⟩ => by rw [e]; rfl
section
variable {S0 S : Sto} {f L E K P : Addr} {pool : List Int} {ke : List (Int × Addr)} {kk : List (Int × Str)} {g : Int → List (Str × Int)} {ns : List Str} {deep many : Option D} {x5 x6 x7 x10 x11 x12 : Option D} {Dn : DEnds} {Q : KD}
theorem tA_of (F : Feed S f) {x3 x4 : Option D} {m : D} (k : ∀ E K a, (∀ P S', Keeps f (put (put (put (put (put S E (.dct [])) a (.dct [])) E (.dct ([((0 : Int), a)].map eE))) K (.dct [])) K (.dct ([((0 : Int), Str.ofString "drawer")].map eK))) S' → Feed S' f → S' P = none → ∀ pool, TJ S f E K P pool [(0, a)] [(0, "drawer")] (fun _ => []) (put S' P (.lst (pool.map D.int)))) → Feed (put (put (put (put (put S E (.dct [])) a (.dct [])) E (.dct ([((0 : Int), a)].map eE))) K (.dct [])) K (.dct ([((0 : Int), Str.ofString "drawer")].map eK))) f → Dn.nx [some (.ref f), some (.ref L), some m, x3, x4, x5, x6, x7, some (.ref E), some (.ref K), x10, x11, x12] (put (put (put (put (put S E (.dct [])) a (.dct [])) E (.dct ([((0 : Int), a)].map eE))) K (.dct [])) K (.dct ([((0 : Int), Str.ofString "drawer")].map eK)))) :
    tA Dn [some (.ref f), some (.ref L), some m, x3, x4, x5, x6, x7, none, none, x10, x11, x12] S := by
  have sz : 1001 < sizeLine := by rw [sizeLine_eq]; decide
  unfold tA
  simp only [dAsg_eq, dTup_eq, dCons_eq, dDisp_eq, dPairs_cons, dPairs_nil, dC_eq, dNil_eq]
  intro E hE
  show ∀ a, _ → _
  intro a ha
  have aE : a ≠ E := fun z => by rw [z, put_same] at ha; cases ha
  refine ⟨by rw [put_ne (Ne.symm aE), put_same], ⟨rfl, by simp⟩, fun K hK => ?_⟩
  have e1 : kvMerge [] [(D.int 0, D.ref a)] = [((0 : Int), a)].map eE := by simp [kvMerge, dPut, eE]
  rw [e1] at hK ⊢
  refine ⟨put_same, ⟨rfl, by simp⟩, by show 2 ≤ sizeLine; omega, ?_⟩
  have e2 : kvMerge [] [(D.int 0, D.str "drawer")] = [((0 : Int), Str.ofString "drawer")].map eK := by simp [kvMerge, dPut, eK]
  rw [e2]
  refine ⟨rfl, rfl, ?_⟩
  have KE : K ≠ E := fun z => by rw [z, put_same] at hK; cases hK
  have Ka : K ≠ a := fun z => by rw [z, put_ne aE, put_same] at hK; cases hK
  have ha0 : S a = none := by rw [put_ne aE] at ha; exact ha
  have hK0 : S K = none := by rw [put_ne KE, put_ne Ka, put_ne KE] at hK; exact hK
  have fE := F.nt hE
  have fa := F.nt ha0
  have fK := F.nt hK0
  have F1 : Feed (put (put (put (put (put S E (.dct [])) a (.dct [])) E (.dct ([((0 : Int), a)].map eE))) K (.dct [])) K (.dct ([((0 : Int), Str.ofString "drawer")].map eK))) f := ((((F.put fE).put fa).put fE).put fK).put fK
  have k1 : Keeps f S (put (put (put (put (put S E (.dct [])) a (.dct [])) E (.dct ([((0 : Int), a)].map eE))) K (.dct [])) K (.dct ([((0 : Int), Str.ofString "drawer")].map eK))) := (((((Keeps.refl).then hE).then ha0).then hE).then hK0).then hK0
  refine k E K a (fun P S' kS FS hP pool => ?_) F1
  have gE : S' E = some (.dct ([((0 : Int), a)].map eE)) := kS _ _ fE (by rw [put_ne (Ne.symm KE), put_ne (Ne.symm KE), put_same])
  have gK : S' K = some (.dct ([((0 : Int), Str.ofString "drawer")].map eK)) := kS _ _ fK put_same
  have ga : S' a = some (.dct []) := kS _ _ fa (by rw [put_ne (Ne.symm Ka), put_ne (Ne.symm Ka), put_ne aE, put_same])
  have PE : P ≠ E := fun z => by rw [z, gE] at hP; cases hP
  have PK : P ≠ K := fun z => by rw [z, gK] at hP; cases hP
  have Pa : P ≠ a := fun z => by rw [z, ga] at hP; cases hP
  have fP := FS.nt hP
  have hP0 : S P = none := FS.freeT (k1.trans kS) hP
  exact {
    gE := by rw [put_ne (Ne.symm PE)]; exact gE
    gK := by rw [put_ne (Ne.symm PK)]; exact gK
    gP := put_same
    same := rfl
    nd := by simp
    nda := by simp
    inn := fun p hp => by
      rw [List.mem_singleton.mp hp]
      exact ⟨aE, Ne.symm Ka, Ne.symm Pa, fa, ha0, by show put S' P _ a = _; rw [put_ne (Ne.symm Pa)]; exact ga⟩
    ne := ⟨Ne.symm KE, Ne.symm PE, Ne.symm PK, fE, fK, fP⟩
    n0 := ⟨hE, hK0, hP0⟩
    F := FS.put fP
    ks := (k1.trans kS).then hP0 }
theorem tF1_of (W : Nms S0 f L ns) {m dp : Int} (m0 : 0 ≤ m) (m1 : m ≤ 14) (T : TJ S0 f E K P pool ke kk g S) (G : PG ns (rws kk g)) (hpl : ∀ n ∈ pool, 0 < n ∧ n ≤ 100) (hp : pool ≠ []) (lp : pool.length ≤ 1000) (hkk : kk.length ≤ 1) (h1 : ∀ p ∈ kk, p.1 ≤ 100)
    (k : ∀ ke' kk' g' x5 x6 x10 x11 x12 S', kk'.length ≤ 20 → TJ S0 f E K P pool ke' kk' g' S' → PG ns (rws kk' g') → (∀ p ∈ kk', p.1 ≤ 100) → Dn.nx [some (.ref f), some (.ref L), some (.int m), some (.ref P), some (.int dp), x5, x6, none, some (.ref E), some (.ref K), x10, x11, x12] S') :
    tF1 Dn [some (.ref f), some (.ref L), some (.int m), some (.ref P), some (.int dp), x5, x6, none, some (.ref E), some (.ref K), x10, x11, x12] S := by
  unfold tF1
  generalize hB : tBody1 = B
  simp only [dFor_eq, diRng1_eq, dCons_eq, dNil_eq]
  refine dV_at (by rfl) ?_
  refine ⟨by omega, by omega, ?_⟩
  rw [rngD_map]
  refine loop_map (fun i : Nat => D.int (i : Int)) (fun done τ S' => ∃ ke kk g x5 x6 x10 x11 x12, TJ S0 f E K P pool ke kk g S' ∧ PG ns (rws kk g) ∧ (∀ p ∈ kk, p.1 ≤ 100) ∧ kk.length ≤ done.length + 1 ∧ τ = [some (.ref f), some (.ref L), some (.int m), some (.ref P), some (.int dp), x5, x6, none, some (.ref E), some (.ref K), x10, x11, x12])
    (fun _ _ _ _ => trivial) (fun τ S' h => ?_) (fun done i rest τ S' es h N hN => ?_) ⟨_, _, _, _, _, _, _, _, T, G, h1, hkk, rfl⟩
  · obtain ⟨ke, kk, g, x5, x6, x10, x11, x12, T', G', h', l', rfl⟩ := h
    rw [List.length_range] at l'
    exact k _ _ _ _ _ _ _ _ _ (by omega) T' G' h'
  · obtain ⟨ke, kk, g, x5, x6, x10, x11, x12, T', G', h', l', rfl⟩ := h
    have hd : done.length < 15 := by
      have := congrArg List.length es
      simp at this; omega
    rw [← hB]
    refine body1 T' G' W hpl hp lp (by omega) fun ke' kk' g' x6 x10 x11 x12 S2 T2 G2 l2 h2 => hN _ _ ⟨ke', kk', g', _, x6, x10, x11, x12, T2, G2, fun p hp => ?_, by rw [List.length_append, List.length_singleton]; omega, rfl⟩
    rcases h2 p hp with z | z
    · exact h' p z
    · exact z
theorem tF2_of (W : Nms S0 f L ns) (T : TJ S0 f E K P pool ke kk g S) (G : PG ns (rws kk g)) (hkk : kk.length ≤ 20)
    (k : ∀ g' x6 x10 x11 x12 S', TJ S0 f E K P pool ke kk g' S' → PG ns (rws kk g') → Dn.nx [some (.ref f), some (.ref L), many, some (.ref P), deep, x5, x6, none, some (.ref E), some (.ref K), x10, x11, x12] S') :
    tF2 Dn [some (.ref f), some (.ref L), many, some (.ref P), deep, x5, x6, none, some (.ref E), some (.ref K), x10, x11, x12] S := by
  unfold tF2
  generalize hB : tBody2 = B
  simp only [dFor_eq, diVal_eq]
  refine kinded_val (by rfl) (by show 10 < 13; decide) T.gK T.nd (by omega) fun GA hG => ?_
  rw [wIter_lst put_same]
  refine loop_map D.int (fun done τ S' => ∃ g x6 x10 x11 x12, TJ S0 f E K P pool ke kk g S' ∧ PG ns (rws kk g) ∧ S' GA = some (.lst ((kinded "sheet" kk).map D.int)) ∧ τ = [some (.ref f), some (.ref L), many, some (.ref P), deep, x5, x6, none, some (.ref E), some (.ref K), x10, x11, x12])
    (fun _ _ _ ⟨_, _, _, _, _, _, _, h, _⟩ => h) (fun τ S' h => ?_) (fun done i rest τ S' es h N hN => ?_) ⟨_, _, _, _, _, T.new hG, G, put_same, rfl⟩
  · obtain ⟨g', x6, x10, x11, x12, T', G', _, rfl⟩ := h
    exact k _ _ _ _ _ _ T' G'
  · obtain ⟨g', x6, x10, x11, x12, T', G', gA, rfl⟩ := h
    have hi : (i, ("sheet" : Str)) ∈ kk := kinded_mem (by rw [es]; simp)
    rw [← hB]
    exact body2 T' G' W (by omega) hi fun g2 x10 x11 x12 S2 T2 G2 st => hN _ _ ⟨g2, _, x10, x11, x12, T2, G2, st _ _ gA, rfl⟩
theorem tF3_of (T : TJ S0 f E K P pool ke kk g S) (hkk : kk.length ≤ 20) {R : Addr} (gR : S R = some (.lst [])) (R0 : S0 R = none) (RP : P ≠ R)
    (k : ∀ (rows : List Nd) x6 S', (rows.map (·.1)).Pairwise (· < ·) → (∀ n ∈ kk.map (·.1), n ∈ rows.map (·.1)) → rows.length = kk.length → (∀ r ∈ rows, (∃ q ∈ kk, q.1 = r.1 ∧ q.2 = r.2.1) ∧ (g r.1).Perm r.2.2 ∧ ∃ es, r.2.2 = KB.srtE es) → TJ S0 f E K P pool ke kk g S' → S' R = some (.lst (rows.map rowD)) → Dn.nx [some (.ref f), some (.ref L), many, some (.ref P), deep, x5, x6, some (.ref R), some (.ref E), some (.ref K), x10, x11, x12] S') :
    tF3 Dn [some (.ref f), some (.ref L), many, some (.ref P), deep, x5, x6, some (.ref R), some (.ref E), some (.ref K), x10, x11, x12] S := by
  unfold tF3
  generalize hB : tBody3 = B
  simp only [dFor_eq, diVal_eq, dCB_eq, dCons_eq, dNil_eq]
  refine dV_at (by rfl) ?_
  have ed : dctOf S (.ref K) = some (K, kk.map eK) := by simp [dctOf, T.gK]
  have em : (kk.map eK).map (·.1) = (kk.map (·.1)).map D.int := by rw [List.map_map, List.map_map]; rfl
  unfold wSortedD
  simp only [ed]
  rw [em, mergeSort_map]
  refine ⟨SortOk.ints _, fun GA hG => ?_⟩
  have hasc := ints_asc (S := S) T.nd
  generalize hks : (kk.map (·.1)).mergeSort (fun a b => dLe S (.int a) (.int b)) = ks at *
  have hperm : ks.Perm (kk.map (·.1)) := by rw [← hks]; exact List.mergeSort_perm _ _
  have hl : ks.length = kk.length := by rw [hperm.length_eq, List.length_map]
  rw [wIter_lst put_same]
  have RG : R ≠ GA := ne_of_free hG gR
  refine loop_map D.int (fun done τ S' => ∃ (x6 : Option D) (rows : List Nd), TJ S0 f E K P pool ke kk g S' ∧ S' GA = some (.lst (ks.map D.int)) ∧ S' R = some (.lst (rows.map rowD)) ∧ rows.map (·.1) = done ∧ (∀ r ∈ rows, (∃ q ∈ kk, q.1 = r.1 ∧ q.2 = r.2.1) ∧ (g r.1).Perm r.2.2 ∧ ∃ es, r.2.2 = KB.srtE es) ∧ τ = [some (.ref f), some (.ref L), many, some (.ref P), deep, x5, x6, some (.ref R), some (.ref E), some (.ref K), x10, x11, x12])
    (fun _ _ _ ⟨_, _, _, h, _⟩ => h) (fun τ S' h => ?_) (fun done i rest τ S' es h N hN => ?_) ⟨_, [], T.new hG, put_same, by rw [put_ne RG]; exact gR, rfl, by simp, rfl⟩
  · obtain ⟨x6, rows, T', _, g', l', h', rfl⟩ := h
    refine k rows _ _ (by rw [l']; exact hasc) (fun n hn => by rw [l']; exact hperm.mem_iff.mpr hn) ?_ h' T' g'
    have := congrArg List.length l'
    rw [List.length_map] at this
    omega
  · obtain ⟨x6, rows, T', gG, g', l', h', rfl⟩ := h
    have hlr : rows.length = done.length := by have := congrArg List.length l'; simpa using this
    have hd : done.length < 21 := by
      have := congrArg List.length es
      simp at this; omega
    rw [← hB]
    have hi : i ∈ kk.map (·.1) := hperm.mem_iff.mp (by rw [es]; simp)
    exact body3 T' g' (by omega) R0 RP hi fun r S2 hr1 hr2 hr3 T2 g2 st => hN _ _ ⟨_, rows ++ [r], T2, st _ _ (Ne.symm RG) gG, g2, by rw [List.map_append, l', List.map_singleton, hr1], fun y hy => by
      rcases List.mem_append.mp hy with hy | hy
      · exact h' y hy
      · rw [List.mem_singleton.mp hy]; exact ⟨hr2, by rw [hr1]; exact hr3⟩, rfl⟩
end
theorem vc__law_tree {ds S Q E} (h : sp__law_tree ds S Q E) : r__law_tree (bodyEnds Q) (startD N__law_tree ds) S := by
  obtain ⟨f, L, ns, m, rfl, m0, m1, F, W, k⟩ := h
  have sz : 1001 < sizeLine := by rw [sizeLine_eq]; decide
  rw [r_tree_eq]
  show dSeq _ _ _ [some (.ref f), some (.ref L), some (.int m), none, none, none, none, none, none, none, none, none, none] S
  generalize hF1 : dSeq tF1 (dSeq tF2 (dSeq tD (dSeq tF3 tR))) = X1
  refine tA_of F fun E K a hTI F1 => ?_
  have hS1 : ∀ {X : Sto → Prop}, (∀ S1, (∀ P S', Keeps f S1 S' → Feed S' f → S' P = none → ∀ pool, TJ S f E K P pool [(0, a)] [(0, "drawer")] (fun _ => []) (put S' P (.lst (pool.map D.int)))) → Feed S1 f → X S1) → X (put (put (put (put (put S E (.dct [])) a (.dct [])) E (.dct ([((0 : Int), a)].map eE))) K (.dct [])) K (.dct ([((0 : Int), Str.ofString "drawer")].map eK))) := fun h => h _ hTI F1
  refine hS1 fun S1 hTI F1 => ?_
  show dSeq tB (dSeq tC X1) _ [some (.ref f), some (.ref L), some (.int m), none, none, none, none, none, some (.ref E), some (.ref K), none, none, none] S1
  unfold tB tC
  simp only [dSeq_eq, dAsg_eq, dLstRg2_eq, dC_eq, dBin_eq]
  refine dV_at (by rfl) ?_
  rw [wAdd_int]
  refine rdDraw_of (by rfl) F1 (by decide) (by decide) fun r S2 r0 r1 F2 K2 => ?_
  rw [wAdd_int]
  refine ⟨.of_le (by omega) (by omega) (by omega) (by omega), fun P hP => ?_⟩
  rw [rngD_eq]
  have ep : (List.range (m + 2 + r - 1).toNat).map (fun i : Nat => D.int (1 + (i : Int))) = ((List.range (m + 2 + r - 1).toNat).map fun i : Nat => 1 + (i : Int)).map D.int := by rw [List.map_map]; rfl
  rw [ep]
  have T := hTI P S2 K2 F2 hP ((List.range (m + 2 + r - 1).toNat).map fun i : Nat => 1 + (i : Int))
  have hne : ((List.range (m + 2 + r - 1).toNat).map fun i : Nat => 1 + (i : Int)) ≠ [] := by
    intro z
    have := congrArg List.length z
    simp at this; omega
  have hlp : ((List.range (m + 2 + r - 1).toNat).map fun i : Nat => 1 + (i : Int)).length ≤ 1000 := by simp; omega
  have hpl : ∀ n ∈ ((List.range (m + 2 + r - 1).toNat).map fun i : Nat => 1 + (i : Int)), 0 < n ∧ n ≤ 100 := fun n hn => by
    obtain ⟨i, hi, rfl⟩ := List.mem_map.mp hn
    rw [List.mem_range] at hi
    omega
  generalize ((List.range (m + 2 + r - 1).toNat).map fun i : Nat => 1 + (i : Int)) = pool at *
  generalize put S2 P (.lst (pool.map D.int)) = S3 at T ⊢
  simp only [gdName_eq, dSeq_eq, dAsg_eq]
  refine rdDraw_of (by rfl) T.F (by decide) (by decide) fun dp S4 d0 d1 F4 K4 => ?_
  have T4 := T.keep F4 K4
  show X1 _ [some (.ref f), some (.ref L), some (.int m), some (.ref P), some (.int dp), none, none, none, some (.ref E), some (.ref K), none, none, none] S4
  rw [← hF1]
  have G0 : PG ns (rws [(0, "drawer")] fun _ => []) := PG.zero ns
  refine tF1_of W m0 m1 T4 G0 hpl hne hlp (by simp) (fun p hp => by rw [List.mem_singleton.mp hp]; decide) fun ke kk g x5 x6 x10 x11 x12 S5 hkk T5 G5 h100 => ?_
  refine tF2_of W T5 G5 hkk fun g6 x6 x10 x11 x12 S6 T6 G6 => ?_
  unfold tD
  simp only [dSeq_eq, dAsg_eq, dLst_eq, dNil_eq]
  refine ⟨by show 0 ≤ sizeLine; omega, fun R hR => ?_⟩
  have T7 := T6.new (o := .lst []) hR
  have RP : P ≠ R := ne_of_free hR T6.gP
  show tF3 _ [some (.ref f), some (.ref L), some (.int m), some (.ref P), some (.int dp), x5, x6, some (.ref R), some (.ref E), some (.ref K), x10, x11, x12] _
  refine tF3_of T7 hkk put_same (T6.free hR) RP fun rows x6 S8 hasc hall hl hr T8 g8 => ?_
  unfold tR
  simp only [dRet_eq, dTup_eq, dCons_eq, dNil_eq, dCB_eq, dBin_eq, dUn_eq, dC_eq, wNeg_int]
  refine dV_at (by rfl) ?_
  rw [wTuple_lst g8]
  refine dV_at (by rfl) ?_
  have hk1 : 0 < kk.length := by
    obtain ⟨r, hr, _⟩ := G6.top
    obtain ⟨p, hp, _⟩ := rws_mem.mp hr
    exact List.length_pos_iff.mpr (List.ne_nil_of_mem hp)
  rw [wAt_lst g8, DL.atI_last (by intro z; rw [List.map_eq_nil_iff] at z; rw [z] at hl; have hl : 0 = kk.length := hl; omega), List.getLast?_map]
  cases elast : rows.getLast? with
  | none => rw [List.getLast?_eq_none_iff] at elast; rw [elast] at hl; simp at hl; omega
  | some rw1 =>
  have hrw : rw1 ∈ rows := List.mem_of_getLast? elast
  have hmax : ∀ r ∈ rows, r.1 ≤ rw1.1 := fun r hr1 => by
    obtain ⟨ini, rfl⟩ : ∃ ini, rows = ini ++ [rw1] := by
      have hne : rows ≠ [] := fun z => by rw [z] at hrw; cases hrw
      refine ⟨rows.dropLast, ?_⟩
      have := List.dropLast_concat_getLast hne
      rw [List.getLast?_eq_getLast hne] at elast
      rw [Option.some.inj elast] at this
      exact this.symm
    rcases List.mem_append.mp hr1 with h | h
    · rw [List.map_append, List.pairwise_append] at hasc
      have := hasc.2.2 r.1 (List.mem_map_of_mem h) rw1.1 (by simp)
      omega
    · rw [List.mem_singleton.mp h]; exact Int.le_refl _
  show onS (some (rowD rw1)) _
  rw [onS_some]
  show wAt (.tup [.int rw1.1, .str rw1.2.1, .tup (rw1.2.2.map pairSI)]) (.int 0) S8 _
  rw [wAt_tup, atI0, onS_some]
  rw [wAdd_int]
  refine rdDraw_of (by rfl) T8.F (by decide) (by decide) fun r9 S9 r90 r91 F9 K9 => ?_
  rw [wAdd_int]
  have l100 : rw1.1 ≤ 100 := by
    obtain ⟨⟨q, hq, e1, _⟩, _⟩ := hr rw1 hrw
    rw [← e1]; exact h100 q hq
  refine ⟨by show 2 ≤ sizeLine; omega, k rows _ _ (G6.tree W.nsok hasc (fun r hr1 => ?_) (fun n hn => hall n (by rw [rws_ids] at hn; exact hn)) (fun r hr1 => by have := hmax r hr1; omega)) (by omega) (by omega) (fun r hr1 => (hr r hr1).2.2) F9 (T8.ks.trans K9)⟩
  obtain ⟨⟨q, hq, e1, e2⟩, pm, _⟩ := hr r hr1
  exact ⟨(q.1, q.2, g6 q.1), rws_mem.mpr ⟨q, hq, rfl⟩, e1, e2, by rw [e1]; exact pm⟩
end KT
namespace KT
open PySem PySem.Spec PyProof.Rows L2 DL
open KB (Nd isK rowD treeD wayD entO srtE srtE_perm)
open KD
def nlt (x y : Str) : Prop := x.cps.toList < y.cps.toList
theorem nlt_irrefl (x : Str) : ¬ nlt x x := List.lt_irrefl _
theorem nlt_trans {x y z : Str} (h : nlt x y) (k : nlt y z) : nlt x z := List.lt_trans h k
theorem nlt_of {x y : Str} (h : ¬ nlt y x) (ne : x ≠ y) : nlt x y := by
  unfold nlt at *
  have h1 : x.cps.toList ≤ y.cps.toList := List.not_lt.mp h
  by_cases h2 : x.cps.toList < y.cps.toList
  · exact h2
  · exact absurd (Str.of_list (List.le_antisymm h1 (List.not_lt.mp h2))) ne
def SrtN (es : List (Str × Int)) : Prop := es.Pairwise fun a b => nlt a.1 b.1
def SortT (rows : List Nd) : Prop := ∀ r ∈ rows, SrtN r.2.2
theorem same_of {α : Type} {R : α → α → Prop} (irr : ∀ a, ¬ R a a) (tr : ∀ a b c, R a b → R b c → R a c) : ∀ {l m : List α}, l.Pairwise R → m.Pairwise R → (∀ x, x ∈ l ↔ x ∈ m) → l = m
  | [], [], _, _, _ => rfl
  | [], y :: m, _, _, h => absurd ((h y).mpr (List.mem_cons_self ..)) (by simp)
  | x :: l, [], _, _, h => absurd ((h x).mp (List.mem_cons_self ..)) (by simp)
  | x :: l, y :: m, hl, hm, h => by
    rw [List.pairwise_cons] at hl hm
    have e : x = y := by
      rcases List.mem_cons.mp ((h x).mp (List.mem_cons_self ..)) with e | h1
      · exact e
      · rcases List.mem_cons.mp ((h y).mpr (List.mem_cons_self ..)) with e | h2
        · exact e.symm
        · exact absurd (tr _ _ _ (hm.1 x h1) (hl.1 y h2)) (irr _)
    subst e
    have : l = m := same_of irr tr hl.2 hm.2 fun z => by
      constructor
      · intro hz
        rcases List.mem_cons.mp ((h z).mp (List.mem_cons_of_mem _ hz)) with e | h1
        · rw [e] at hz; exact absurd (hl.1 _ hz) (irr _)
        · exact h1
      · intro hz
        rcases List.mem_cons.mp ((h z).mpr (List.mem_cons_of_mem _ hz)) with e | h1
        · rw [e] at hz; exact absurd (hm.1 _ hz) (irr _)
        · exact h1
    rw [this]
theorem SrtN.same {l m : List (Str × Int)} (hl : SrtN l) (hm : SrtN m) (h : ∀ x, x ∈ l ↔ x ∈ m) : l = m :=
  same_of (R := fun a b : Str × Int => nlt a.1 b.1) (fun a => nlt_irrefl _) (fun _ _ _ => nlt_trans) hl hm h
theorem le_strs {x y : Str} {a b : PyData} (hab : PySem.W.alike b a = true) (ne : x ≠ y) (h : PySem.W.dataLe false (fun p : PyData × PyData => .tuple [p.1, p.2]) (.str x, a) (.str y, b) = true) : nlt x y := by
  rw [PySem.W.dataLe_eq] at h
  have h : (!PySem.W.dataLt (.tuple [.str y, b]) (.tuple [.str x, a])) = true := h
  rw [PySem.W.dataLt_pair (by simp [PySem.W.alike]) hab] at h
  have e : PyData.eqv (.str y) (.str x) = false := by simp [PyData.eqv]; exact fun z => ne z.symm
  rw [e] at h
  simp only [Bool.false_eq_true, if_false] at h
  rw [PySem.W.dataLt_str] at h
  refine nlt_of (fun z => ?_) ne
  unfold nlt at z
  rw [decide_eq_true z] at h
  cases h
theorem le_keys {d : Int} {x y : Str} (ne : x ≠ y) (h : PySem.W.dataLe false (fun p : PyData × PyData => .tuple [p.1, p.2]) (.int d, .str x) (.int d, .str y) = true) : nlt x y := by
  rw [PySem.W.dataLe_eq] at h
  have h : (!PySem.W.dataLt (.tuple [.int d, .str y]) (.tuple [.int d, .str x])) = true := h
  rw [PySem.W.dataLt_pair (by simp [PySem.W.alike]) (by simp [PySem.W.alike])] at h
  have e : PyData.eqv (.int d) (.int d) = true := by simp [PyData.eqv]
  have e2 : PyData.eqv (.str y) (.str x) = false := by simp [PyData.eqv]; exact fun z => ne z.symm
  rw [e, e2] at h
  simp only [if_true, Bool.false_eq_true, if_false] at h
  rw [PySem.W.dataLt_str] at h
  refine nlt_of (fun z => ?_) ne
  unfold nlt at z
  rw [decide_eq_true z] at h
  cases h
theorem srt_pairs {β : Type} {k : β → D} (l : List β) : (l.mergeSort fun a b => PySem.W.dataLe false D.py (k a) (k b)).Pairwise fun a b => PySem.W.dataLe false D.py (k a) (k b) = true := by
  have T := PySem.W.sortLe_total (PyProof.Rows.listOrd PyProof.Rows.itemOrd) false (fun b : β => PySem.W.keyToks (k b).py)
  exact List.pairwise_mergeSort (fun a b c h1 h2 => T.trans a b c h1 h2) (fun a b => by
    rcases T.total a b with h | h
    · exact Bool.or_eq_true_iff.mpr (.inl h)
    · exact Bool.or_eq_true_iff.mpr (.inr h)) l
theorem srtE_srt {es : List (Str × Int)} (nd : (es.map (·.1)).Nodup) : SrtN (srtE es) := by
  have h1 := srt_pairs (k := pairSI) es
  have h2 : ((srtE es).map (·.1)).Nodup := ((srtE_perm es).map _).nodup_iff.mpr nd
  unfold SrtN
  have h3 : (srtE es).Pairwise fun a b => a.1 ≠ b.1 := List.pairwise_map.mp h2
  refine (List.Pairwise.and h1 h3).imp fun {a b} h => le_strs (x := a.1) (y := b.1) (a := .int a.2) (b := .int b.2) (by simp [PySem.W.alike]) h.2 ?_
  exact h.1
theorem lay_sort {rows : List Nd} {cs : List Chg} (nd : ∀ r ∈ rows, ((chs rows cs r.1).map (·.1)).Nodup) : SortT (lay rows cs) := fun q hq => by
  obtain ⟨r, hr, rfl, _⟩ := lay_mem.mp hq
  exact srtE_srt ((nd r hr).sublist (kp_names _))
abbrev Eg := Int × Str × Int
def keyD (e : Eg) : D := .tup [.int e.1, .str e.2.1]
def srtK (es : List Eg) : List Eg := es.mergeSort fun a b => PySem.W.dataLe false D.py (keyD a) (keyD b)
theorem srtK_perm (es : List Eg) : (srtK es).Perm es := List.mergeSort_perm _ _
def srtI (ns : List Int) : List Int := ns.mergeSort fun a b => decide (a ≤ b)
theorem srtI_perm (ns : List Int) : (srtI ns).Perm ns := List.mergeSort_perm _ _
theorem srtI_asc {ns : List Int} (nd : ns.Nodup) : (srtI ns).Pairwise (· < ·) := by
  have h1 := List.pairwise_mergeSort (le := fun a b : Int => decide (a ≤ b)) (fun a b c h1 h2 => by simp at *; omega) (fun a b => by simp; omega) ns
  have h2 : (srtI ns).Nodup := (srtI_perm ns).nodup_iff.mpr nd
  refine (List.Pairwise.and h1 h2).imp fun {a b} h => ?_
  have := of_decide_eq_true h.1
  have := h.2
  omega
def kindQ (kk : List (Int × Str)) (n : Int) : Str := ((kk.find? fun p => decide (p.1 = n)).map (·.2)).getD ""
def rowQ (es : List Eg) (n : Int) : List (Str × Int) := ((srtK es).filter fun e => decide (e.1 = n)).map fun e => (e.2.1, e.2.2)
def stQ (es : List Eg) (n : Int) : Bool := decide (n = 0) || decide (n ∈ es.map (·.2.2))
def rowsQ (kk : List (Int × Str)) (es : List Eg) : List Nd := ((srtI (kk.map (·.1))).filter (stQ es)).map fun n => (n, kindQ kk n, rowQ es n)
theorem rowQ_mem {es : List Eg} {n m : Int} {x : Str} : (x, m) ∈ rowQ es n ↔ (n, x, m) ∈ es := by
  unfold rowQ
  rw [List.mem_map]
  constructor
  · rintro ⟨⟨d, y, z⟩, h, e⟩
    obtain ⟨h1, h2⟩ := List.mem_filter.mp h
    cases e
    have h2 : d = n := of_decide_eq_true h2
    rw [← h2]
    exact (srtK_perm es).mem_iff.mp h1
  · intro h
    exact ⟨(n, x, m), List.mem_filter.mpr ⟨(srtK_perm es).mem_iff.mpr h, decide_eq_true rfl⟩, rfl⟩
theorem rowQ_srt {es : List Eg} (nd : (es.map fun e => (e.1, e.2.1)).Nodup) (n : Int) : SrtN (rowQ es n) := by
  have h1 := srt_pairs (k := keyD) es
  have h2 : ((srtK es).map fun e => (e.1, e.2.1)).Nodup := ((srtK_perm es).map _).nodup_iff.mpr nd
  have h3 : (srtK es).Pairwise fun a b => (a.1, a.2.1) ≠ (b.1, b.2.1) := List.pairwise_map.mp h2
  unfold SrtN rowQ
  rw [List.pairwise_map]
  have h4 := (List.Pairwise.and h1 h3).filter fun e : Eg => decide (e.1 = n)
  refine List.Pairwise.imp_of_mem ?_ h4
  intro a b ha hb h
  have ea : a.1 = n := of_decide_eq_true (List.mem_filter.mp ha).2
  have eb : b.1 = n := of_decide_eq_true (List.mem_filter.mp hb).2
  obtain ⟨a1, a2, a3⟩ := a
  obtain ⟨b1, b2, b3⟩ := b
  simp only at ea eb
  subst ea eb
  refine le_keys (d := b1) (fun z => h.2 ?_) h.1
  show (b1, a2) = (b1, b2)
  rw [show a2 = b2 from z]
theorem kindQ_mem {kk : List (Int × Str)} (nd : (kk.map (·.1)).Nodup) {p : Int × Str} (h : p ∈ kk) : kindQ kk p.1 = p.2 := by
  unfold kindQ
  rw [find_of_mem (f := fun p : Int × Str => p.1) nd h]; rfl
theorem rowsQ_same {kk : List (Int × Str)} {es : List Eg} {rows : List Nd} (ndk : (kk.map (·.1)).Nodup) (nde : (es.map fun e => (e.1, e.2.1)).Nodup) (asc : (rows.map (·.1)).Pairwise (· < ·)) (st : SortT rows)
    (hk : ∀ r ∈ rows, (r.1, r.2.1) ∈ kk) (hi : ∀ n, n ∈ rows.map (·.1) ↔ n ∈ kk.map (·.1) ∧ (n = 0 ∨ n ∈ es.map (·.2.2))) (he : ∀ r ∈ rows, ∀ x m, (x, m) ∈ r.2.2 ↔ (r.1, x, m) ∈ es) : rowsQ kk es = rows := by
  have a1 : ((rowsQ kk es).map (·.1)).Pairwise (· < ·) := by
    unfold rowsQ
    rw [List.map_map]
    have : ((fun r : Nd => r.1) ∘ fun n => ((n, kindQ kk n, rowQ es n) : Nd)) = id := rfl
    rw [this, List.map_id]
    exact (srtI_asc ndk).filter _
  refine same_of (R := fun a b : Nd => a.1 < b.1) (fun a h => Int.lt_irrefl _ h) (fun a b c h k => Int.lt_trans h k) (List.pairwise_map.mp a1) (List.pairwise_map.mp asc) fun q => ?_
  have key : ∀ r ∈ rows, ((r.1, kindQ kk r.1, rowQ es r.1) : Nd) = r := fun r hr => by
    have e1 := kindQ_mem ndk (hk r hr)
    have e2 : rowQ es r.1 = r.2.2 := (rowQ_srt nde r.1).same (st r hr) fun ⟨x, m⟩ => by rw [rowQ_mem, he r hr]
    rw [show kindQ kk r.1 = r.2.1 from e1, e2]
  constructor
  · intro hq
    unfold rowsQ at hq
    obtain ⟨n, hn, rfl⟩ := List.mem_map.mp hq
    obtain ⟨h1, h2⟩ := List.mem_filter.mp hn
    unfold stQ at h2
    rw [Bool.or_eq_true, decide_eq_true_eq, decide_eq_true_eq] at h2
    obtain ⟨r, hr, e⟩ := List.mem_map.mp ((hi n).mpr ⟨(srtI_perm _).mem_iff.mp h1, h2⟩)
    have e : r.1 = n := e
    subst e
    rw [key r hr]; exact hr
  · intro hq
    unfold rowsQ
    obtain ⟨h1, h2⟩ := (hi q.1).mp (List.mem_map_of_mem hq)
    refine List.mem_map.mpr ⟨q.1, List.mem_filter.mpr ⟨(srtI_perm _).mem_iff.mpr h1, ?_⟩, key q hq⟩
    unfold stQ
    rw [Bool.or_eq_true, decide_eq_true_eq, decide_eq_true_eq]
    exact h2
def kinds (rows : List Nd) : List (Int × Str) := rows.map fun r => (r.1, r.2.1)
theorem kinds_ids (rows : List Nd) : (kinds rows).map (·.1) = rows.map (·.1) := by unfold kinds; rw [List.map_map]; rfl
theorem eds_keys {rows : List Nd} (nd : (rows.map (·.1)).Nodup) (hn : ∀ r ∈ rows, (r.2.2.map (·.1)).Nodup) : ((eds rows).map fun e => (e.1, e.2.1)).Nodup := by
  induction rows with
  | nil => exact List.nodup_nil
  | cons r rows ih =>
    rw [List.map_cons, List.nodup_cons] at nd
    have h := ih nd.2 fun q hq => hn q (List.mem_cons_of_mem _ hq)
    have e : eds (r :: rows) = (r.2.2.map fun e => (r.1, e.1, e.2)) ++ eds rows := rfl
    rw [e, List.map_append, List.map_map]
    refine List.nodup_append.mpr ⟨?_, h, ?_⟩
    · have : ((fun e : Eg => (e.1, e.2.1)) ∘ fun e : Str × Int => (r.1, e.1, e.2)) = fun e => (r.1, e.1) := rfl
      rw [this]
      have h2 := hn r (List.mem_cons_self ..)
      refine nodup_map_inj (nodup_of_map h2) fun a ha b hb z => ?_
      have z := (Prod.mk.inj z).2
      have i1 := find_of_mem (f := fun p : Str × Int => p.1) h2 ha
      have i2 := find_of_mem (f := fun p : Str × Int => p.1) h2 hb
      rw [z, i2] at i1
      exact (Option.some.inj i1).symm
    · intro a ha b hb z
      obtain ⟨e1, _, rfl⟩ := List.mem_map.mp ha
      obtain ⟨⟨d, x, n⟩, he2, rfl⟩ := List.mem_map.mp hb
      have z := (Prod.mk.inj z).1
      have := (mem_eds.mp he2).id
      exact nd.1 (by rw [show r.1 = d from z]; exact this)
theorem rowsQ_id {rows : List Nd} {made : Int} (V : TreeV rows made) (st : SortT rows) : rowsQ (kinds rows) (eds rows) = rows := by
  refine rowsQ_same (by rw [kinds_ids]; exact V.nodup) (eds_keys V.nodup V.nd) V.asc st (fun r hr => List.mem_map.mpr ⟨r, hr, rfl⟩) (fun n => ?_) fun r hr x m => ?_
  · rw [kinds_ids]
    constructor
    · intro h
      refine ⟨h, ?_⟩
      by_cases z : n = 0
      · exact .inl z
      · obtain ⟨r, hr, rfl⟩ := List.mem_map.mp h
        obtain ⟨d, x, ed⟩ := V.hd_ hr z
        exact .inr (List.mem_map.mpr ⟨(d, x, r.1), mem_eds.mpr ed, rfl⟩)
    · exact fun h => h.1
  · rw [mem_eds]
    constructor
    · exact fun h => ⟨r, hr, rfl, h⟩
    · rintro ⟨q, hq, e, h⟩
      have := V.row hq
      rw [e, V.row hr] at this
      cases this; exact h
theorem rowsQ_lay {rows : List Nd} {cs : List Chg} {kk : List (Int × Str)} {es : List Eg} (asc : (rows.map (·.1)).Pairwise (· < ·)) (nd : ∀ r ∈ rows, ((chs rows cs r.1).map (·.1)).Nodup) (ndk : (kk.map (·.1)).Nodup) (nde : (es.map fun e => (e.1, e.2.1)).Nodup)
    (hk : ∀ r ∈ rows, (r.1, r.2.1) ∈ kk) (hk2 : ∀ n ∈ kk.map (·.1), n ∈ rows.map (·.1)) (he : ∀ d x n, (d, x, n) ∈ es ↔ Nw rows cs d x n) : rowsQ kk es = lay rows cs := by
  refine rowsQ_same ndk nde (lay_asc asc) (lay_sort nd) (fun q hq => ?_) (fun n => ?_) fun q hq x m => ?_
  · obtain ⟨r, hr, rfl, _⟩ := lay_mem.mp hq
    exact hk r hr
  · have tg : n ∈ es.map (·.2.2) ↔ n ∈ named rows cs := by
      rw [named_iff]
      constructor
      · intro h
        obtain ⟨⟨d, x, m⟩, h1, h2⟩ := List.mem_map.mp h
        have h2 : m = n := h2
        subst h2
        exact ⟨d, x, (he ..).mp h1⟩
      · rintro ⟨d, x, h⟩
        exact List.mem_map.mpr ⟨(d, x, n), (he ..).mpr h, rfl⟩
    constructor
    · intro h
      obtain ⟨q, hq, rfl⟩ := List.mem_map.mp h
      obtain ⟨r, hr, rfl, hs⟩ := lay_mem.mp hq
      unfold KD.stays at hs
      rw [Bool.or_eq_true, decide_eq_true_eq, decide_eq_true_eq] at hs
      exact ⟨List.mem_map_of_mem (f := fun p : Int × Str => p.1) (hk r hr), hs.imp id tg.mpr⟩
    · rintro ⟨h1, h2⟩
      obtain ⟨r, hr, e⟩ := List.mem_map.mp (hk2 n h1)
      have e : r.1 = n := e
      refine List.mem_map.mpr ⟨rowL rows cs r, lay_mem.mpr ⟨r, hr, rfl, ?_⟩, e⟩
      unfold KD.stays
      rw [Bool.or_eq_true, decide_eq_true_eq, decide_eq_true_eq]
      show r.1 = 0 ∨ r.1 ∈ named rows cs
      rw [e]
      exact h2.imp id tg.mp
  · obtain ⟨r, hr, rfl, _⟩ := lay_mem.mp hq
    rw [he]
    show (x, m) ∈ (rowL rows cs r).2.2 ↔ Nw rows cs r.1 x m
    rw [rowL_es, kp_mem]
    exact ⟨fun h => ⟨List.mem_map_of_mem hr, h⟩, fun h => h.2⟩
end KT
namespace KT
open PySem PySem.Spec PyProof.Rows L2 DL
open KB (Nd isK rowD treeD wayD entO srtE srtE_perm wDict_of wEnum_tup enumD_range)
open KD
theorem _root_.DL.Grow.own {S S' : Sto} {p : Addr} {o : AO} (g : Grow S S') (h : S p = none) : Grow S (put S' p o) := fun a u e => by
  have : a ≠ p := fun z => by rw [z, h] at e; cases e
  rw [put_ne this]; exact g a u e
def lkE (es : List Eg) (d : Int) (x : Str) : Option Int := (es.find? fun e => decide (e.1 = d ∧ e.2.1 = x)).map (·.2.2)
theorem lkE_iff {es : List Eg} (nde : (es.map fun e => (e.1, e.2.1)).Nodup) {d n : Int} {x : Str} : lkE es d x = some n ↔ (d, x, n) ∈ es := by
  unfold lkE
  constructor
  · intro h
    cases e : es.find? fun e => decide (e.1 = d ∧ e.2.1 = x) with
    | none => rw [e] at h; cases h
    | some p =>
      rw [e] at h
      have h1 := List.mem_of_find?_eq_some e
      have h2 := of_decide_eq_true (List.find?_some (p := fun e : Eg => decide (e.1 = d ∧ e.2.1 = x)) e)
      have h3 : p.2.2 = n := Option.some.inj h
      obtain ⟨p1, p2, p3⟩ := p
      simp only at h2 h3
      rw [← h2.1, ← h2.2, ← h3]; exact h1
  · intro h
    have := find_of_mem (f := fun e : Eg => (e.1, e.2.1)) nde h
    have e : (fun e : Eg => decide (e.1 = d ∧ e.2.1 = x)) = fun e : Eg => decide ((e.1, e.2.1) = (d, x)) := by
      funext e; exact decide_eq_decide.mpr (by simp)
    rw [e, this]; rfl
theorem lkE_none {es : List Eg} {d : Int} {x : Str} : lkE es d x = none ↔ ∀ n, (d, x, n) ∉ es := by
  unfold lkE
  rw [Option.map_eq_none_iff, List.find?_eq_none]
  constructor
  · intro h n hm
    exact h _ hm (decide_eq_true ⟨rfl, rfl⟩)
  · intro h e he hd
    have hd := of_decide_eq_true hd
    obtain ⟨p1, p2, p3⟩ := e
    simp only at hd
    exact h p3 (by rw [← hd.1, ← hd.2]; exact he)
theorem lkE_eds {rows : List Nd} {made : Int} (V : TreeV rows made) (d : Int) (x : Str) : lkE (eds rows) d x = lk x (entO rows d) := by
  cases h : lk x (entO rows d) with
  | some n => exact (lkE_iff (eds_keys V.nodup V.nd)).mpr (mem_eds.mpr (lk_some V h))
  | none => exact lkE_none.mpr fun n hn => lk_none V h n (mem_eds.mp hn)
def setE (es : List Eg) (d : Int) (x : Str) (n : Int) : List Eg := if lkE es d x = none then es ++ [(d, x, n)] else es.map fun e => if e.1 = d ∧ e.2.1 = x then (e.1, e.2.1, n) else e
theorem setE_keys {es : List Eg} {d n : Int} {x : Str} (nde : (es.map fun e => (e.1, e.2.1)).Nodup) : ((setE es d x n).map fun e => (e.1, e.2.1)).Nodup := by
  unfold setE
  by_cases h : lkE es d x = none
  · rw [if_pos h, List.map_append, List.nodup_append]
    refine ⟨nde, by simp, fun a ha b hb z => ?_⟩
    obtain ⟨⟨p1, p2, p3⟩, he, rfl⟩ := List.mem_map.mp ha
    simp only [List.map_cons, List.map_nil, List.mem_singleton] at hb
    rw [hb] at z
    simp only [Prod.mk.injEq] at z
    exact lkE_none.mp h p3 (by rw [← z.1, ← z.2]; exact he)
  · rw [if_neg h, List.map_map]
    have : ((fun e : Eg => (e.1, e.2.1)) ∘ fun e : Eg => if e.1 = d ∧ e.2.1 = x then (e.1, e.2.1, n) else e) = fun e => (e.1, e.2.1) := by
      funext e
      simp only [Function.comp_def]
      split <;> rfl
    rw [this]; exact nde
theorem setE_mem {es : List Eg} {d n : Int} {x : Str} {d' m : Int} {x' : Str} : (d', x', m) ∈ setE es d x n ↔ if d' = d ∧ x' = x then m = n else (d', x', m) ∈ es := by
  unfold setE
  by_cases h : lkE es d x = none
  · rw [if_pos h, List.mem_append, List.mem_singleton]
    by_cases z : d' = d ∧ x' = x
    · rw [if_pos z]
      constructor
      · rintro (w | w)
        · exact absurd (by rw [← z.1, ← z.2]; exact w) (lkE_none.mp h m)
        · exact (Prod.mk.inj (Prod.mk.inj w).2).2
      · rintro rfl; exact .inr (by rw [z.1, z.2])
    · rw [if_neg z]
      exact ⟨fun w => w.resolve_right fun w => z ⟨(Prod.mk.inj w).1, (Prod.mk.inj (Prod.mk.inj w).2).1⟩, .inl⟩
  · rw [if_neg h, List.mem_map]
    by_cases z : d' = d ∧ x' = x
    · rw [if_pos z]
      constructor
      · rintro ⟨e, he, w⟩
        by_cases y : e.1 = d ∧ e.2.1 = x
        · rw [if_pos y] at w; exact (Prod.mk.inj (Prod.mk.inj w).2).2.symm
        · rw [if_neg y] at w; rw [w] at y; exact absurd z y
      · rintro rfl
        cases e : lkE es d x with
        | none => exact absurd e h
        | some k =>
          unfold lkE at e
          cases ef : es.find? fun e => decide (e.1 = d ∧ e.2.1 = x) with
          | none => rw [ef] at e; cases e
          | some p =>
            have h1 := List.mem_of_find?_eq_some ef
            have h2 := of_decide_eq_true (List.find?_some (p := fun e : Eg => decide (e.1 = d ∧ e.2.1 = x)) ef)
            exact ⟨p, h1, by rw [if_pos h2, h2.1, h2.2, z.1, z.2]⟩
    · rw [if_neg z]
      constructor
      · rintro ⟨e, he, w⟩
        by_cases y : e.1 = d ∧ e.2.1 = x
        · rw [if_pos y] at w
          obtain ⟨w1, w2⟩ := Prod.mk.inj w
          exact absurd ⟨w1.symm.trans y.1, (Prod.mk.inj w2).1.symm.trans y.2⟩ z
        · rw [if_neg y] at w; rw [← w]; exact he
      · intro w; exact ⟨_, w, by rw [if_neg z]⟩
def dropE (es : List Eg) (d : Int) (x : Str) : List Eg := es.filter fun e => !decide (e.1 = d ∧ e.2.1 = x)
theorem dropE_keys {es : List Eg} {d : Int} {x : Str} (nde : (es.map fun e => (e.1, e.2.1)).Nodup) : ((dropE es d x).map fun e => (e.1, e.2.1)).Nodup := nde.sublist (List.filter_sublist.map _)
theorem dropE_mem {es : List Eg} {d : Int} {x : Str} {d' m : Int} {x' : Str} : (d', x', m) ∈ dropE es d x ↔ (d', x', m) ∈ es ∧ ¬ (d' = d ∧ x' = x) := by
  unfold dropE
  rw [List.mem_filter]
  simp only [Bool.not_eq_true', decide_eq_false_iff_not]
end KT
namespace KT
open PySem PySem.Spec PyProof.Rows L2 DL
open KB (Nd isK rowD treeD wayD entO srtE srtE_perm Dd Dd.D)
open KD
def oneQ (rows : List Nd) (made : Int) : Dd → (List (Int × Str) × List Eg) × D
  | .mk w k => if (drw rows w).2 ≠ .ok then ((kinds rows, eds rows), (drw rows w).2.D) else if ent rows w ≠ none then ((kinds rows, eds rows), .tup [.str "there"]) else
    ((kinds rows ++ [(made, k)], eds rows ++ [((drw rows w).1, lastN w, made)]), .tup [.str "made", .int made])
  | .one _ w => if (drw rows w).2 ≠ .ok then ((kinds rows, eds rows), (drw rows w).2.D) else match ent rows w with
    | none => ((kinds rows, eds rows), .tup [.str "none", .int (w.length - 1 : Nat)])
    | some n => if fullN rows n = true then ((kinds rows, eds rows), .tup [.str "full"]) else ((kinds rows, dropE (eds rows) (drw rows w).1 (lastN w)), .tup [.str "dropped", .int n])
  | .two _ _ _ => ((kinds rows, eds rows), .non)
def oneOk : Dd → Prop
  | .mk w k => w ≠ [] ∧ w.length ≤ 6 ∧ isK k
  | .one x w => x = ("drop" : Str) ∧ w ≠ [] ∧ w.length ≤ 6
  | .two _ _ _ => False
def But (K E : Addr) (S S' : Sto) : Prop := ∀ a o, a ≠ K → a ≠ E → S a = some o → S' a = some o
theorem But.of {K E : Addr} {S S' : Sto} (g : Grow S S') : But K E S S' := fun a o _ _ h => g a o h
theorem But.trans {K E : Addr} {S S1 S2 : Sto} (g : But K E S S1) (h : But K E S1 S2) : But K E S S2 := fun a o h1 h2 h3 => h a o h1 h2 (g a o h1 h2 h3)
end KT
namespace KT
open PySem PySem.Spec PyProof.Rows L2 DL
open KB (Nd isK rowD treeD wayD entO srtE srtE_perm Dd Dd.D)
open KD
def barsQ (rows : List Nd) (x : Str) (w v : List Str) (a : Int) : Option Str :=
  if x = ("link" : Str) then (if kindO rows a = ("drawer" : Str) then some "kind" else if ent rows v ≠ none then some "there" else none)
  else if ent rows v = some a then some "same"
  else if inside rows a (drw rows v).1 = true ∨ (x = ("swap" : Str) ∧ ∃ b, ent rows v = some b ∧ inside rows b (drw rows w).1 = true) then some "inside"
  else if x = ("swap" : Str) then none
  else match ent rows v with
  | none => none
  | some o => if kindO rows a ≠ kindO rows o then some "kind" else if fullN rows o = true then some "full" else none
end KT
namespace KT
open PySem PySem.Spec PyProof.Rows L2 DL
open KB (Nd isK rowD treeD wayD entO srtE srtE_perm Dd Dd.D wEnum_tup enumD_range diEnum_eq)
open KD
def twoR (rows : List Nd) (x : Str) (w v : List Str) (a : Int) : List Eg × D := match barsQ rows x w v a with
  | some s => (eds rows, .tup [.str s])
  | none => if x = ("link" : Str) then (setE (eds rows) (drw rows v).1 (lastN v) a, .tup [.str "linked", .int a])
    else if x = ("swap" : Str) then (setE (setE (eds rows) (drw rows v).1 (lastN v) a) (drw rows w).1 (lastN w) ((ent rows v).getD 0), .tup [.str "swapped", .int a, .int ((ent rows v).getD 0)])
    else (dropE (setE (eds rows) (drw rows v).1 (lastN v) a) (drw rows w).1 (lastN w), .tup [.str "moved", .int a])
def twoQ (rows : List Nd) (x : Str) (w v : List Str) : List Eg × D :=
  if (drw rows w).2 ≠ .ok then (eds rows, (drw rows w).2.Dw 0) else if (drw rows v).2 ≠ .ok then (eds rows, (drw rows v).2.Dw 1) else match ent rows w with
  | none => (eds rows, .tup [.str "none", .int (w.length - 1 : Nat), .int 0])
  | some a => if x = ("swap" : Str) ∧ ent rows v = none then (eds rows, .tup [.str "none", .int (v.length - 1 : Nat), .int 1]) else twoR rows x w v a
theorem dSeq_go {a b : DTS} {Dn : DEnds} {τ S} (h : a {Dn with nx := b Dn} τ S) : dSeq a b Dn τ S := h
end KT
namespace KT
open PySem PySem.Spec PyProof.Rows L2 DL
open KB (Nd isK rowD treeD wayD entO srtE srtE_perm Dd Dd.D)
open KD
structure Gq (q : (List (Int × Str) × List Eg) × D) (u : TreeT × D) : Prop where
  nk : (q.1.1.map (·.1)).Nodup
  ne : (q.1.2.map fun e => (e.1, e.2.1)).Nodup
  lk : q.1.1.length ≤ 200
  le : q.1.2.length ≤ 3000
  rq : rowsQ q.1.1 q.1.2 = u.1.1
  td : q.2 = u.2
  st : SortT u.1.1
theorem chs_nd {rows : List Nd} {cs : List Chg} (hn : ∀ r ∈ rows, (r.2.2.map (·.1)).Nodup) : ∀ r ∈ rows, ((chs rows cs r.1).map (·.1)).Nodup := fun r hr => by
  refine (chs_ok (rows := rows) cs (fst0 rows) (fun n => ?_) r.1).1
  unfold fst0
  rw [opn_names]
  cases e : rowO rows n with
  | none => rw [entO_none e]; exact List.nodup_nil
  | some q => rw [entO_eq e]; exact hn q (rowO_mem e).1
section
variable {rows : List Nd} {made : Int}
theorem eds_le (V : TreeV rows made) : (eds rows).length ≤ 12 * rows.length := by
  have := flatMap_le (fun r : Nd => r.2.2.map fun e => (r.1, e.1, e.2)) 12 rows fun r hr => by rw [List.length_map]; exact V.few r hr
  unfold eds
  omega
theorem setE_len {es : List Eg} {d n : Int} {x : Str} : (setE es d x n).length ≤ es.length + 1 := by
  unfold setE
  split
  · rw [List.length_append]; exact Nat.le_refl _
  · rw [List.length_map]; exact Nat.le_succ _
theorem dropE_len {es : List Eg} {d : Int} {x : Str} : (dropE es d x).length ≤ es.length := List.length_filter_le ..
theorem kinds_len : (kinds rows).length = rows.length := by unfold kinds; rw [List.length_map]
theorem Gq.same (V : TreeV rows made) (st : SortT rows) (hl : rows.length ≤ 100) {x : D} : Gq ((kinds rows, eds rows), x) ((rows, made), x) where
  nk := by show ((kinds rows).map (·.1)).Nodup; rw [kinds_ids]; exact V.nodup
  ne := eds_keys V.nodup V.nd
  lk := by show (kinds rows).length ≤ 200; rw [kinds_len]; omega
  le := by have := eds_le V; show (eds rows).length ≤ 3000; omega
  rq := rowsQ_id V st
  td := rfl
  st := st
theorem Gq.laid (V : TreeV rows made) (hl : rows.length ≤ 100) {cs : List Chg} {es : List Eg} {x : D} (ne : (es.map fun e => (e.1, e.2.1)).Nodup) (le : es.length ≤ 3000) (he : ∀ d x n, (d, x, n) ∈ es ↔ Nw rows cs d x n) : Gq ((kinds rows, es), x) ((lay rows cs, made), x) where
  nk := by show ((kinds rows).map (·.1)).Nodup; rw [kinds_ids]; exact V.nodup
  ne := ne
  lk := by show (kinds rows).length ≤ 200; rw [kinds_len]; omega
  le := le
  rq := rowsQ_lay V.asc (chs_nd V.nd) (by rw [kinds_ids]; exact V.nodup) ne (fun r hr => List.mem_map.mpr ⟨r, hr, rfl⟩) (fun n hn => by rw [kinds_ids] at hn; exact hn) he
  td := rfl
  st := lay_sort (chs_nd V.nd)
theorem Gq.mk1 (V : TreeV rows made) (hl : rows.length ≤ 100) {d : Int} {x k : Str} (hd : ∃ r ∈ rows, r.1 = d ∧ r.2.1 = ("drawer" : Str)) (h : lkE (eds rows) d x = none) {y : D} :
    Gq ((kinds rows ++ [(made, k)], eds rows ++ [(d, x, made)]), y) ((lay (rows ++ [(made, k, [])]) [(d, x, some made)], made + 1), y) := by
  have asc : ((rows ++ [((made, k, []) : Nd)]).map (·.1)).Pairwise (· < ·) := by
    rw [List.map_append, List.pairwise_append]
    refine ⟨V.asc, List.pairwise_singleton .., fun a ha b hb => ?_⟩
    obtain ⟨r, hr, rfl⟩ := List.mem_map.mp ha
    simp only [List.map_cons, List.map_nil, List.mem_singleton] at hb
    rw [hb]; exact V.lt r hr
  have nd : ((rows ++ [((made, k, []) : Nd)]).map (·.1)).Nodup := asc.imp fun h e => by omega
  have hn : ∀ r ∈ rows ++ [((made, k, []) : Nd)], (r.2.2.map (·.1)).Nodup := fun r hr => by
    rcases List.mem_append.mp hr with hr | hr
    · exact V.nd r hr
    · rw [List.mem_singleton] at hr; rw [hr]; exact List.nodup_nil
  have Ee : ∀ d x m, Ed (rows ++ [((made, k, []) : Nd)]) d x m ↔ Ed rows d x m := fun d x m => by
    constructor
    · rintro ⟨r, hr, e, he⟩
      rcases List.mem_append.mp hr with hr | hr
      · exact ⟨r, hr, e, he⟩
      · rw [List.mem_singleton] at hr; rw [hr] at he; cases he
    · rintro ⟨r, hr, e, he⟩
      exact ⟨r, List.mem_append_left _ hr, e, he⟩
  have ee : eds rows ++ [(d, x, made)] = setE (eds rows) d x made := by unfold setE; rw [if_pos h]
  have ki : (kinds rows ++ [(made, k)]).map (·.1) = (rows ++ [((made, k, []) : Nd)]).map (·.1) := by rw [List.map_append, List.map_append, kinds_ids]; rfl
  have ne : ((eds rows ++ [(d, x, made)]).map fun e => (e.1, e.2.1)).Nodup := by rw [ee]; exact setE_keys (eds_keys V.nodup V.nd)
  refine ⟨?_, ne, ?_, ?_, ?_, rfl, lay_sort (chs_nd hn)⟩
  · show ((kinds rows ++ [(made, k)]).map (·.1)).Nodup
    rw [ki]; exact nd
  · show (kinds rows ++ [(made, k)]).length ≤ 200
    rw [List.length_append, kinds_len]; show rows.length + 1 ≤ 200; omega
  · show (eds rows ++ [(d, x, made)]).length ≤ 3000
    have := eds_le V
    rw [List.length_append]; show (eds rows).length + 1 ≤ 3000; omega
  · refine rowsQ_lay asc (chs_nd hn) (by rw [ki]; exact nd) ne (fun r hr => ?_) (fun n hn => by rw [ki] at hn; exact hn) fun d' x' n => ?_
    · rcases List.mem_append.mp hr with hr | hr
      · exact List.mem_append_left _ (List.mem_map.mpr ⟨r, hr, rfl⟩)
      · rw [List.mem_singleton] at hr; rw [hr]; exact List.mem_append_right _ (List.mem_singleton.mpr rfl)
    · show (d', x', n) ∈ eds rows ++ [(d, x, made)] ↔ _
      rw [ee, setE_mem, Nw1 nd, Ee, mem_eds]
      by_cases c : d' = d ∧ x' = x
      · rw [if_pos c, if_pos c]
        constructor
        · intro e
          obtain ⟨r, hr, e1, _⟩ := hd
          exact ⟨by rw [c.1, ← e1]; exact List.mem_map_of_mem (List.mem_append_left _ hr), by rw [e]⟩
        · exact fun z => (Option.some.inj z.2).symm
      · rw [if_neg c, if_neg c]
        refine ⟨fun z => ⟨?_, z⟩, fun z => z.2⟩
        rw [List.map_append]
        exact List.mem_append_left _ z.id
theorem Gq.set1 (V : TreeV rows made) (hl : rows.length ≤ 100) {d n : Int} {x : Str} (hd : d ∈ rows.map (·.1)) {y : D} : Gq ((kinds rows, setE (eds rows) d x n), y) ((lay rows [(d, x, some n)], made), y) := by
  have := eds_le V
  have l1 := setE_len (es := eds rows) (d := d) (n := n) (x := x)
  refine Gq.laid V hl (setE_keys (eds_keys V.nodup V.nd)) (by omega) fun d' x' m => ?_
  rw [setE_mem, Nw1 V.nodup, mem_eds]
  by_cases c : d' = d ∧ x' = x
  · rw [if_pos c, if_pos c]
    exact ⟨fun e => ⟨by rw [c.1]; exact hd, by rw [e]⟩, fun z => (Option.some.inj z.2).symm⟩
  · rw [if_neg c, if_neg c]
    exact ⟨fun z => ⟨z.id, z⟩, fun z => z.2⟩
theorem Gq.drop1 (V : TreeV rows made) (hl : rows.length ≤ 100) {d : Int} {x : Str} {y : D} : Gq ((kinds rows, dropE (eds rows) d x), y) ((lay rows [(d, x, none)], made), y) := by
  have := eds_le V
  have l1 := dropE_len (es := eds rows) (d := d) (x := x)
  refine Gq.laid V hl (dropE_keys (eds_keys V.nodup V.nd)) (by omega) fun d' x' m => ?_
  rw [dropE_mem, Nw1 V.nodup, mem_eds]
  by_cases c : d' = d ∧ x' = x
  · rw [if_pos c]
    exact ⟨fun z => absurd c z.2, fun z => by cases z.2⟩
  · rw [if_neg c]
    exact ⟨fun z => ⟨z.1.id, z.1⟩, fun z => ⟨z.2, c⟩⟩
theorem Gq.move (V : TreeV rows made) (hl : rows.length ≤ 100) {d0 d1 a : Int} {x0 x1 : Str} (hd : d1 ∈ rows.map (·.1)) (ne : ¬ (d0 = d1 ∧ x0 = x1)) {y : D} : Gq ((kinds rows, dropE (setE (eds rows) d1 x1 a) d0 x0), y) ((lay rows [(d0, x0, none), (d1, x1, some a)], made), y) := by
  have := eds_le V
  have l1 := setE_len (es := eds rows) (d := d1) (n := a) (x := x1)
  have l2 := dropE_len (es := setE (eds rows) d1 x1 a) (d := d0) (x := x0)
  refine Gq.laid V hl (dropE_keys (setE_keys (eds_keys V.nodup V.nd))) (by omega) fun d' x' m => ?_
  rw [dropE_mem, setE_mem, Nw2 V.nodup, mem_eds]
  by_cases c : d' = d1 ∧ x' = x1
  · rw [if_pos c, if_pos c]
    refine ⟨fun z => ⟨by rw [c.1]; exact hd, by rw [z.1]⟩, fun z => ⟨(Option.some.inj z.2).symm, fun k => ne ⟨k.1.symm.trans c.1, k.2.symm.trans c.2⟩⟩⟩
  · rw [if_neg c, if_neg c]
    by_cases c2 : d' = d0 ∧ x' = x0
    · rw [if_pos c2]
      exact ⟨fun z => absurd c2 z.2, fun z => by cases z.2⟩
    · rw [if_neg c2]
      exact ⟨fun z => ⟨z.1.id, z.1⟩, fun z => ⟨z.2, c2⟩⟩
theorem Gq.swap (V : TreeV rows made) (hl : rows.length ≤ 100) {d0 d1 a b : Int} {x0 x1 : Str} (hd0 : d0 ∈ rows.map (·.1)) (hd : d1 ∈ rows.map (·.1)) (ne : ¬ (d0 = d1 ∧ x0 = x1)) {y : D} : Gq ((kinds rows, setE (setE (eds rows) d1 x1 a) d0 x0 b), y) ((lay rows [(d0, x0, some b), (d1, x1, some a)], made), y) := by
  have := eds_le V
  have l1 := setE_len (es := eds rows) (d := d1) (n := a) (x := x1)
  have l2 := setE_len (es := setE (eds rows) d1 x1 a) (d := d0) (n := b) (x := x0)
  refine Gq.laid V hl (setE_keys (setE_keys (eds_keys V.nodup V.nd))) (by omega) fun d' x' m => ?_
  rw [setE_mem, setE_mem, Nw2 V.nodup, mem_eds]
  by_cases c : d' = d1 ∧ x' = x1
  · have c2 : ¬ (d' = d0 ∧ x' = x0) := fun k => ne ⟨k.1.symm.trans c.1, k.2.symm.trans c.2⟩
    rw [if_pos c, if_neg c2, if_pos c]
    exact ⟨fun z => ⟨by rw [c.1]; exact hd, by rw [z]⟩, fun z => (Option.some.inj z.2).symm⟩
  · rw [if_neg c, if_neg c]
    by_cases c2 : d' = d0 ∧ x' = x0
    · rw [if_pos c2, if_pos c2]
      exact ⟨fun z => ⟨by rw [c2.1]; exact hd0, by rw [z]⟩, fun z => (Option.some.inj z.2).symm⟩
    · rw [if_neg c2, if_neg c2]
      exact ⟨fun z => ⟨z.id, z⟩, fun z => z.2⟩
theorem one_done (V : TreeV rows made) (st : SortT rows) (hl : rows.length ≤ 100) {d : Dd} (ok : oneOk d) : Gq (oneQ rows made d) (doF (rows, made) d) := by
  cases d with
  | two x w v => exact ok.elim
  | mk w k =>
    rw [doF]
    unfold oneQ makeF
    simp only
    by_cases h1 : (drw rows w).2 ≠ .ok
    · rw [if_pos h1, if_pos h1]; exact Gq.same V st hl
    · rw [if_neg h1, if_neg h1]
      by_cases h2 : ent rows w ≠ none
      · rw [if_pos h2, if_pos h2]; exact Gq.same V st hl
      · rw [if_neg h2, if_neg h2]
        exact Gq.mk1 V hl (V.dr (Decidable.not_not.mp h1)) (by rw [lkE_eds V]; exact Decidable.not_not.mp h2)
  | one x w =>
    obtain ⟨rfl, hw, lw⟩ := ok
    rw [doF, if_neg (by decide), if_neg (by decide)]
    unfold oneQ dropF
    simp only
    by_cases h1 : (drw rows w).2 ≠ .ok
    · rw [if_pos h1, if_pos h1]; exact Gq.same V st hl
    · rw [if_neg h1, if_neg h1]
      cases ent rows w with
      | none => exact Gq.same V st hl
      | some n =>
        simp only
        by_cases h2 : fullN rows n = true
        · rw [if_pos h2, if_pos h2]; exact Gq.same V st hl
        · rw [if_neg h2, if_neg h2]; exact Gq.drop1 V hl
theorem ent_ne {w v : List Str} {a : Int} (ea : ent rows w = some a) (h : ent rows v ≠ some a) : ¬ ((drw rows w).1 = (drw rows v).1 ∧ lastN w = lastN v) := fun c => h (by
  unfold ent at ea ⊢
  rw [← c.1, ← c.2]; exact ea)
theorem bars_link {w v : List Str} {a : Int} : barsQ rows "link" w v a = (if kindO rows a = ("drawer" : Str) then some "kind" else if ent rows v ≠ none then some "there" else none : Option Str) := if_pos rfl
theorem bars_move {w v : List Str} {a : Int} : barsQ rows "move" w v a = (if ent rows v = some a then some "same" else if inside rows a (drw rows v).1 = true then some "inside" else match ent rows v with
  | none => none
  | some o => if kindO rows a ≠ kindO rows o then some "kind" else if fullN rows o = true then some "full" else none : Option Str) := by
  have e : (inside rows a (drw rows v).1 = true ∨ (("move" : Str) = ("swap" : Str) ∧ ∃ b, ent rows v = some b ∧ inside rows b (drw rows w).1 = true)) ↔ inside rows a (drw rows v).1 = true := ⟨fun z => z.resolve_right fun z => absurd z.1 (by decide), Or.inl⟩
  unfold barsQ
  rw [if_neg (by decide), if_neg (show ¬ ("move" : Str) = ("swap" : Str) by decide)]
  simp only [e]
  all_goals rfl
theorem bars_swap {w v : List Str} {a b : Int} (ev : ent rows v = some b) : barsQ rows "swap" w v a = (if a = b then some "same" else if inside rows a (drw rows v).1 = true ∨ inside rows b (drw rows w).1 = true then some "inside" else none : Option Str) := by
  unfold barsQ
  rw [if_neg (by decide), ev]
  have e1 : (some b = some a) ↔ a = b := ⟨fun z => (Option.some.inj z).symm, fun z => by rw [z]⟩
  have e2 : (inside rows a (drw rows v).1 = true ∨ (("swap" : Str) = ("swap" : Str) ∧ ∃ c, some b = some c ∧ inside rows c (drw rows w).1 = true)) ↔ (inside rows a (drw rows v).1 = true ∨ inside rows b (drw rows w).1 = true) := by
    constructor
    · rintro (z | ⟨_, c, ec, z⟩)
      · exact Or.inl z
      · rw [← Option.some.inj ec] at z; exact Or.inr z
    · rintro (z | z)
      · exact Or.inl z
      · exact Or.inr ⟨rfl, b, rfl, z⟩
  rw [if_pos (show ("swap" : Str) = "swap" from rfl)]
  by_cases h1 : a = b
  · rw [if_pos h1, if_pos (e1.mpr h1)]
  · rw [if_neg h1, if_neg (fun z => h1 (e1.mp z))]
    by_cases h2 : inside rows a (drw rows v).1 = true ∨ inside rows b (drw rows w).1 = true
    · rw [if_pos h2, if_pos (e2.mpr h2)]
    · rw [if_neg h2, if_neg (fun z => h2 (e2.mp z))]
theorem twoR_some {x : Str} {w v : List Str} {a : Int} {s : Str} (h : barsQ rows x w v a = some s) : twoR rows x w v a = (eds rows, .tup [.str s]) := by unfold twoR; rw [h]
theorem twoR_link {w v : List Str} {a : Int} (h : barsQ rows "link" w v a = none) : twoR rows "link" w v a = (setE (eds rows) (drw rows v).1 (lastN v) a, .tup [.str "linked", .int a]) := by unfold twoR; rw [h]; exact if_pos rfl
theorem twoR_move {w v : List Str} {a : Int} (h : barsQ rows "move" w v a = none) : twoR rows "move" w v a = (dropE (setE (eds rows) (drw rows v).1 (lastN v) a) (drw rows w).1 (lastN w), .tup [.str "moved", .int a]) := by
  unfold twoR; rw [h]
  show (if _ then _ else if _ then _ else _) = _
  rw [if_neg (by decide), if_neg (by decide)]
theorem twoR_swap {w v : List Str} {a b : Int} (h : barsQ rows "swap" w v a = none) (ev : ent rows v = some b) : twoR rows "swap" w v a = (setE (setE (eds rows) (drw rows v).1 (lastN v) a) (drw rows w).1 (lastN w) b, .tup [.str "swapped", .int a, .int b]) := by
  unfold twoR; rw [h]
  show (if _ then _ else if _ then _ else _) = _
  rw [if_neg (by decide), if_pos rfl, ev]; rfl
theorem linkF_eq {w v : List Str} {a : Int} (n2 : (both rows w v).2.2 = .non) (ea : ent rows w = some a) : linkF (rows, made) w v = if kindO rows a = "drawer" then ((rows, made), .tup [.str "kind"]) else if ent rows v ≠ none then ((rows, made), .tup [.str "there"]) else
    ((lay rows [((drw rows v).1, lastN v, some a)], made), .tup [.str "linked", .int a]) := by
  unfold linkF
  simp only
  rw [if_neg (fun z : (both rows w v).2.2 ≠ .non => z n2), ea]
theorem moveF_eq {w v : List Str} {a : Int} (n2 : (both rows w v).2.2 = .non) (ea : ent rows w = some a) : moveF (rows, made) w v = match bar rows (drw rows v).1 a (ent rows v) with
    | some s => ((rows, made), .tup [.str s])
    | none => ((lay rows [((drw rows w).1, lastN w, none), ((drw rows v).1, lastN v, some a)], made), .tup [.str "moved", .int a]) := by
  unfold moveF
  simp only
  rw [if_neg (fun z : (both rows w v).2.2 ≠ .non => z n2), ea]
  all_goals rfl
theorem swapF_eq {w v : List Str} {a b : Int} (n2 : (both rows w v).2.2 = .non) (ea : ent rows w = some a) (ev : ent rows v = some b) : swapF (rows, made) w v = if a = b then ((rows, made), .tup [.str "same"]) else if inside rows a (drw rows v).1 = true ∨ inside rows b (drw rows w).1 = true then ((rows, made), .tup [.str "inside"]) else
    ((lay rows [((drw rows w).1, lastN w, some b), ((drw rows v).1, lastN v, some a)], made), .tup [.str "swapped", .int a, .int b]) := by
  unfold swapF
  simp only
  rw [if_neg (fun z : (both rows w v).2.2 ≠ .non => z n2), ea, ev]
theorem swapF_no {w v : List Str} {a : Int} (n2 : (both rows w v).2.2 = .non) (ea : ent rows w = some a) (ev : ent rows v = none) : swapF (rows, made) w v = ((rows, made), .tup [.str "none", .int (v.length - 1 : Nat), .int 1]) := by
  unfold swapF
  simp only
  rw [if_neg (fun z : (both rows w v).2.2 ≠ .non => z n2), ea, ev]
theorem bars_bar (V : TreeV rows made) {w v : List Str} {a : Int} (ha : a ∈ rows.map (·.1)) (h2 : (drw rows v).2 = .ok) : barsQ rows "move" w v a = bar rows (drw rows v).1 a (ent rows v) := by
  rw [bars_move]
  unfold bar
  by_cases k1 : ent rows v = some a
  · rw [if_pos k1, if_pos k1]
  · rw [if_neg k1, if_neg k1]
    by_cases k2 : inside rows a (drw rows v).1 = true
    · have kd : kindO rows a = ("drawer" : Str) := Classical.byContradiction fun z => by
        have := sheet_no V ha z (V.dr h2)
        unfold inside at k2
        rw [Bool.or_eq_true, decide_eq_true_eq, decide_eq_true_eq] at k2
        exact this (List.mem_cons.mpr k2)
      rw [if_pos k2, if_pos ⟨kd, k2⟩]
    · rw [if_neg k2, if_neg (fun z => k2 z.2)]
      cases ent rows v with
      | none => rfl
      | some o =>
        show (if kindO rows a ≠ kindO rows o then _ else _) = (if kindO rows o ≠ kindO rows a then _ else _)
        by_cases k3 : kindO rows a ≠ kindO rows o
        · rw [if_pos k3, if_pos (show kindO rows o ≠ kindO rows a from fun z => k3 z.symm)]
        · rw [if_neg k3, if_neg (show ¬ (kindO rows o ≠ kindO rows a) from fun z => k3 fun y => z y.symm)]
theorem two_done (V : TreeV rows made) (st : SortT rows) (hl : rows.length ≤ 100) {x : Str} {w v : List Str} (hx : x ∈ (["link", "move", "swap"] : List Str)) :
    Gq ((kinds rows, (twoQ rows x w v).1), (twoQ rows x w v).2) (doF (rows, made) (.two x w v)) := by
  have di : (drw rows w).1 ∈ rows.map (·.1) := drw_in V w
  have dj : (drw rows v).1 ∈ rows.map (·.1) := drw_in V v
  have dd : doF (rows, made) (.two x w v) = if (both rows w v).2.2 ≠ .non then ((rows, made), (both rows w v).2.2) else doF (rows, made) (.two x w v) := by
    split
    · rename_i h
      rw [doF]
      unfold linkF moveF swapF
      simp only [if_pos h]
      split
      · rfl
      · split <;> rfl
    · rfl
  rw [dd]
  unfold twoQ
  by_cases h1 : (drw rows w).2 ≠ .ok
  · have e : (both rows w v).2.2 = (drw rows w).2.Dw 0 := by unfold both; rw [if_pos h1]
    rw [if_pos h1, e, if_pos (by cases hm : (drw rows w).2 with | ok => exact absurd hm h1 | sh k => exact fun z => by cases z | no k => exact fun z => by cases z)]
    exact Gq.same V st hl
  · rw [if_neg h1]
    by_cases h2 : (drw rows v).2 ≠ .ok
    · have e : (both rows w v).2.2 = (drw rows v).2.Dw 1 := by unfold both; rw [if_neg h1, if_pos h2]
      rw [if_pos h2, e, if_pos (by cases hm : (drw rows v).2 with | ok => exact absurd hm h2 | sh k => exact fun z => by cases z | no k => exact fun z => by cases z)]
      exact Gq.same V st hl
    · rw [if_neg h2]
      have e : (both rows w v).2.2 = if ent rows w = none then .tup [.str "none", .int (w.length - 1 : Nat), .int 0] else .non := by unfold both; rw [if_neg h1, if_neg h2]
      cases ea : ent rows w with
      | none =>
        rw [e, if_pos ea, if_pos (fun z => by cases z)]
        exact Gq.same V st hl
      | some a =>
        have e2 : (both rows w v).2.2 = .non := by rw [e, if_neg (by rw [ea]; simp)]
        have n2 : ¬ ((both rows w v).2.2 ≠ .non) := fun z => z e2
        rw [if_neg n2]
        simp only
        have ha := ent_in V ea
        have drv := V.dr (Decidable.not_not.mp h2)
        simp only [List.mem_cons, List.not_mem_nil, or_false] at hx
        have nsw : ∀ {y : Str}, y ≠ "swap" → ∀ {α : Type} {p q : α}, (if y = ("swap" : Str) ∧ ent rows v = none then p else q) = q := fun h => if_neg fun z => h z.1
        rcases hx with rfl | rfl | rfl
        · -- link
          rw [nsw (by decide), show doF (rows, made) (.two "link" w v) = linkF (rows, made) w v by rw [doF, if_pos rfl], linkF_eq e2 ea]
          have eb := bars_link (rows := rows) (w := w) (v := v) (a := a)
          by_cases k1 : kindO rows a = ("drawer" : Str)
          · rw [if_pos k1] at eb ⊢; rw [twoR_some eb]; exact Gq.same V st hl
          · rw [if_neg k1] at eb ⊢
            by_cases k2 : ent rows v ≠ none
            · rw [if_pos k2] at eb ⊢; rw [twoR_some eb]; exact Gq.same V st hl
            · rw [if_neg k2] at eb ⊢; rw [twoR_link eb]; exact Gq.set1 V hl dj
        · -- move
          rw [nsw (by decide), show doF (rows, made) (.two "move" w v) = moveF (rows, made) w v by rw [doF, if_neg (by decide), if_pos rfl], moveF_eq e2 ea]
          have eb := bars_bar V (w := w) ha.1 (Decidable.not_not.mp h2)
          cases hb : bar rows (drw rows v).1 a (ent rows v) with
          | some s => rw [hb] at eb; rw [twoR_some eb]; exact Gq.same V st hl
          | none =>
            rw [hb] at eb; rw [twoR_move eb]
            refine Gq.move V hl dj (ent_ne ea fun z => ?_)
            unfold bar at hb
            rw [if_pos z] at hb; cases hb
        · -- swap
          rw [show doF (rows, made) (.two "swap" w v) = swapF (rows, made) w v by rw [doF, if_neg (by decide), if_neg (by decide)]]
          cases ev : ent rows v with
          | none =>
            rw [if_pos ⟨rfl, rfl⟩, swapF_no e2 ea ev]
            exact Gq.same V st hl
          | some b =>
            rw [if_neg (fun z => by cases z.2), swapF_eq e2 ea ev]
            have eb := bars_swap (rows := rows) (w := w) (a := a) ev
            by_cases k1 : a = b
            · rw [if_pos k1] at eb ⊢; rw [twoR_some eb]; exact Gq.same V st hl
            · rw [if_neg k1] at eb ⊢
              by_cases k2 : inside rows a (drw rows v).1 = true ∨ inside rows b (drw rows w).1 = true
              · rw [if_pos k2] at eb ⊢; rw [twoR_some eb]; exact Gq.same V st hl
              · rw [if_neg k2] at eb ⊢; rw [twoR_swap eb ev]
                exact Gq.swap V hl di dj (ent_ne ea (by rw [ev]; exact fun z => k1 (Option.some.inj z).symm))
end
end KT
namespace KT
open PySem PySem.Spec PyProof.Rows L2 DL
open KB (Nd isK rowD treeD wayD entO srtE srtE_perm Dd Dd.D)
open KD
def sp__law_done : DSp := fun ds S Q E => ∃ (t : TreeT) (d : Dd), ds = [KD.tD t, Dd.D d] ∧ TreeV t.1 t.2 ∧ SortT t.1 ∧ t.1.length ≤ 100 ∧ Dd.sh d ∧ ∀ S', Grow S S' → Q (.tup [KD.tD (doF t d).1, (doF t d).2]) S'
end KT
namespace KT
open PySem PySem.Spec PyProof.Rows L2 DL
open KB (Nd isK rowD treeD wayD entO srtE srtE_perm Dd Dd.D)
open KD hiding tD
open KR (Sd Th bA bA_cons bA_nil)
theorem doF_sort {t : TreeT} (V : TreeV t.1 t.2) (st : SortT t.1) (hl : t.1.length ≤ 100) {d : Dd} (ok : Dd.sh d) : SortT (doF t d).1.1 := by
  obtain ⟨rows, made⟩ := t
  cases d with
  | mk w k => exact (one_done V st hl (d := .mk w k) ⟨ok.2.1, ok.1, ok.2.2⟩).st
  | two x w v => exact (two_done V st hl ok.1).st
  | one x w =>
    by_cases h : x = ("look" : Str) ∨ x = ("list" : Str)
    · rw [doF_look h]; exact st
    · have hx : x = ("drop" : Str) := by
        have q := ok.1
        simp only [List.mem_cons, List.not_mem_nil, or_false] at q
        rcases q with q | q | q
        · exact absurd (Or.inl q) h
        · exact absurd (Or.inr q) h
        · exact q
      exact (one_done V st hl (d := .one x w) ⟨hx, ok.2.2 hx, ok.2.1⟩).st
theorem doAll_sort {NS : List Str} : ∀ (l : List Dd) {t : TreeT}, TreeN NS t.1 t.2 → SortT t.1 → t.1.length + l.length ≤ 100 → (∀ d ∈ l, DdN NS d) → SortT (doAll t l).1.1
  | [], t, V, st, _, _ => st
  | x :: l, t, V, st, hl, h => by
    have hx := h x (List.mem_cons_self ..)
    have := doF_len t x
    rw [List.length_cons] at hl
    exact doAll_sort l (doF_tree V hx) (doF_sort V.v st (by omega) hx.1) (by omega) fun d hd => h d (List.mem_cons_of_mem _ hd)
theorem all_sd {NS : List Str} {t : TreeT} (V : TV NS t 20 200) {l : List Dd} (hl : l.length ≤ 40) (ok : ∀ d ∈ l, DdN NS d) : Sd 7 30000 (allD (doAll t l)) := by
  have a := (V.all ok).sd (by omega) (by omega)
  have b := V.tolds (l := l) (by omega) ok
  have c := (doAll_keep l V.v ok).2.2
  exact (Sd.two (b := 8040) a ((Sd.tups (k := 40) b (by omega)).up (by decide) (by decide))).up (by decide) (by decide)
theorem doF_sd2 {NS : List Str} {t : TreeT} (V : TV NS t 20 200) {d : Dd} (ok : DdN NS d) : Sd 7 14700 (.tup [KD.tD (doF t d).1, (doF t d).2]) :=
  (Sd.two (b := 200) ((V.step ok).sd (by decide) (by decide)) ((V.told (by decide) ok.1).up (by decide) (by decide))).up (by decide) (by decide)
theorem pair_th {u : D} (h : Sd 7 14700 u) : Th 8 40000 0 (.fz [u, u]) := by
  refine Th.fz (fun e he => ?_) (fun e he => ?_) ?_
  · simp only [List.mem_cons, List.not_mem_nil, or_false, or_self] at he; rw [he]; exact h.th.ok
  · simp only [List.mem_cons, List.not_mem_nil, or_false, or_self] at he; rw [he]; exact h.th.bg
  · have := h.th.bk
    rw [bA_cons, bA_cons, bA_nil]; omega
def sp__law_right : DSp := fun ds S Q E => ∃ (NS : List Str) (t : TreeT) (l : List Dd), ds = [KD.tD t, deedsD l] ∧ TV NS t 20 200 ∧ SortT t.1 ∧ l.length ≤ 40 ∧ (∀ d ∈ l, DdN NS d) ∧ ∀ S', Grow S S' → Q (.bl true) S'
theorem len__law_right : ∀ ds S Q E, sp__law_right ds S Q E → ds.length = (["_law_grove", "_law_deeds"] : List Str).length := fun _ _ _ _ ⟨_, _, _, e, _⟩ => by rw [e]; rfl
def rt0 : DTS := dPar 3 4 (dCons (dV 0) (dCons (dLst dNil) dNil))
def rtA : DTS := dAsg (dCall sp__law_done [] (dCons (dV 0) (dCons (dV 2) dNil))) (gdName 5)
def rtB : DTS := dIfS (dTst (dBin wNe (dCB wReprA (dCons (dFLst (dCons (dCall (pur sp_done) [] (dCons (dV 0) (dCons (dV 2) dNil))) (dCons (dCallK (pur sp_done) kwRev dNil (dCons (dV 2) (dCons (dV 0) dNil))) dNil))) dNil)) (dCB wReprA (dCons (dFLst (dCons (dV 5) (dCons (dV 5) dNil))) dNil)))) (dRet (dC (.bl false))) dNext
def rtC : DTS := dAsg (dCall sp__law_done [] (dCons (dV 3) (dCons (dV 2) dNil))) (gdTup 2 (gdCons (gdName 3) (gdCons (gdName 6) gdNil)))
def rtD : DTS := dDrop (dBM "list" wAppend (dV 4) (dCons (dV 6) dNil))
def rt1 : DTS := dFor (diVal (dV 1) wIterA) (gdName 2) (dSeq rtA (dSeq rtB (dSeq rtC rtD)))
def rt2 : DTS := dRet (dBin wEq (dCB wReprA (dCons (dCall (pur sp_done_all) [] (dCons (dV 0) (dCons (dV 1) dNil))) dNil)) (dCB wReprA (dCons (dTup (dCons (dV 3) (dCons (dCB wTuple (dCons (dV 4) dNil)) dNil))) dNil)))
def r__law_right : DTS := dSeq rt0 (dSeq rt1 rt2)
abbrev N__law_right : List Str := ["_law_grove", "_law_deeds", "_law_act", "_law_after", "_law_told", "_law_due", "_law_words"]
theorem rtB_of {NS : List Str} {t : TreeT} {d : Dd} {S : Sto} {x1 x3 x4 x6 : Option D} {Dn : DEnds} (V : TV NS t 20 200) (ok : DdN NS d)
    (k : Dn.nx [some (KD.tD t), x1, some (Dd.D d), x3, x4, some (.tup [KD.tD (doF t d).1, (doF t d).2]), x6] S) : rtB Dn [some (KD.tD t), x1, some (Dd.D d), x3, x4, some (.tup [KD.tD (doF t d).1, (doF t d).2]), x6] S := by
  have sz : 1001 < sizeLine := by rw [sizeLine_eq]; decide
  have u := pair_th (doF_sd2 V ok)
  have hl := V.len
  unfold rtB
  simp only [dIfS_eq, dTst_eq, dBin_eq, dCB_eq, dFLst_eq, dCall_eq, dCallK_eq, dCons_eq, dNil_eq, List.append_nil]
  refine dV_at (by rfl) ?_
  refine dV_at (by rfl) ?_
  refine ⟨t, d, rfl, V.v.v, by omega, ok.1, fun _ => ?_⟩
  refine dV_at (by rfl) ?_
  refine dV_at (by rfl) ?_
  refine ⟨t, d, rfl, V.v.v, by omega, ok.1, fun _ => ?_⟩
  refine ⟨by show 2 ≤ sizeLine; omega, ?_⟩
  show wReprA [.fz [.tup [KD.tD (doF t d).1, (doF t d).2], .tup [KD.tD (doF t d).1, (doF t d).2]]] S _
  rw [u.repr (by decide) (by decide) (by decide)]
  refine dV_at (by rfl) ?_
  refine dV_at (by rfl) ?_
  refine ⟨by show 2 ≤ sizeLine; omega, ?_⟩
  rw [u.repr (by decide) (by decide) (by decide), wNe_str, isB_bl, if_neg (by simp)]
  exact k
theorem vc__law_right {ds S Q E} (h : sp__law_right ds S Q E) : r__law_right (bodyEnds Q) (startD N__law_right ds) S := by
  have sz : 1001 < sizeLine := by rw [sizeLine_eq]; decide
  obtain ⟨NS, t, l, rfl, V, st, hl, ok, k⟩ := h
  have hlen := V.len
  show r__law_right _ [some (KD.tD t), some (deedsD l), none, none, none, none, none] S
  unfold r__law_right
  simp only [dSeq_eq]
  unfold rt0
  simp only [dPar_eq, dCons_eq, dNil_eq, dLst_eq]
  refine dV_at (by rfl) ?_
  refine ⟨by show 0 ≤ sizeLine; omega, fun G G0 => ?_⟩
  show rt1 _ [some (KD.tD t), some (deedsD l), none, some (KD.tD t), some (.ref G), none, none] (put S G (.lst []))
  have g1 : Grow S (put S G (.lst [])) := Grow.put G0
  have e1 : put S G (.lst []) G = some (.lst []) := put_same
  generalize put S G (.lst []) = S1 at *
  unfold rt1
  generalize hB : dSeq rtA (dSeq rtB (dSeq rtC rtD)) = B
  simp only [dFor_eq, diVal_eq]
  refine dV_at (by rfl) ?_
  unfold deedsD
  rw [wIter_tup]
  refine loop_map Dd.D (fun done τ S' => Grow S S' ∧ S' G = some (.lst (doAll t done).2) ∧ ∃ x2 x5 x6, τ = [some (KD.tD t), some (deedsD l), x2, some (KD.tD (doAll t done).1), some (.ref G), x5, x6]) (fun _ _ _ _ => trivial) (fun τ S' h => ?_) (fun done d rest τ S' es h N hN => ?_) ⟨g1, e1, _, _, _, rfl⟩
  · obtain ⟨gr, eG, x2, x5, x6, rfl⟩ := h
    show rt2 (bodyEnds Q) [some (KD.tD t), some (deedsD l), x2, some (KD.tD (doAll t l).1), some (.ref G), x5, x6] S'
    have a := all_sd V hl ok
    unfold rt2
    simp only [dRet_eq, dBin_eq, dCB_eq, dCall_eq, dTup_eq, dCons_eq, dNil_eq, List.append_nil]
    refine dV_at (by rfl) ?_
    refine dV_at (by rfl) ?_
    refine ⟨NS, t, l, rfl, V.v, by omega, ok, fun _ => ?_⟩
    show wReprA [allD (doAll t l)] S' _
    rw [a.repr (by decide) (by decide)]
    refine dV_at (by rfl) ?_
    refine dV_at (by rfl) ?_
    rw [wTuple_lst eG]
    refine ⟨by show 2 ≤ sizeLine; omega, ?_⟩
    show wReprA [allD (doAll t l)] S' _
    rw [a.repr (by decide) (by decide), wEq_str, decide_eq_true rfl]
    exact k S' gr
  · obtain ⟨gr, eG, x2, x5, x6, rfl⟩ := h
    have hd : DdN NS d := ok d (by rw [es]; simp)
    have hdn : ∀ q ∈ done, DdN NS q := fun q hq => ok q (by rw [es]; simp [hq])
    have ld : done.length < l.length := by rw [es]; simp
    obtain ⟨V2, l2, l3⟩ := doAll_keep done V.v hdn
    have st2 := doAll_sort done V.v st (by omega) hdn
    show B _ [some (KD.tD t), some (deedsD l), some (Dd.D d), some (KD.tD (doAll t done).1), some (.ref G), x5, x6] S'
    rw [← hB]
    simp only [dSeq_eq]
    unfold rtA
    simp only [dAsg_eq, dCall_eq, dCons_eq, dNil_eq, gdName_eq, List.append_nil]
    refine dV_at (by rfl) ?_
    refine dV_at (by rfl) ?_
    refine ⟨t, d, rfl, V.v.v, st, by omega, hd.1, fun S2 g2 => ?_⟩
    show rtB _ [some (KD.tD t), some (deedsD l), some (Dd.D d), some (KD.tD (doAll t done).1), some (.ref G), some (.tup [KD.tD (doF t d).1, (doF t d).2]), x6] S2
    refine rtB_of V hd ?_
    show rtC _ [some (KD.tD t), some (deedsD l), some (Dd.D d), some (KD.tD (doAll t done).1), some (.ref G), some (.tup [KD.tD (doF t d).1, (doF t d).2]), x6] S2
    unfold rtC
    simp only [dAsg_eq, dCall_eq, dCons_eq, dNil_eq, List.append_nil]
    refine dV_at (by rfl) ?_
    refine dV_at (by rfl) ?_
    refine ⟨_, d, rfl, V2.v, st2, by omega, hd.1, fun S3 g3 => ⟨rfl, rfl, ?_⟩⟩
    show rtD _ [some (KD.tD t), some (deedsD l), some (Dd.D d), some (KD.tD (doF (doAll t done).1 d).1), some (.ref G), some (.tup [KD.tD (doF t d).1, (doF t d).2]), some (doF (doAll t done).1 d).2] S3
    have g23 := g2.trans g3
    have eG3 := g23 _ _ eG
    unfold rtD
    simp only [dDrop_eq, dBM_eq, dCons_eq, dNil_eq]
    refine dV_at (by rfl) ?_
    refine ⟨tyD_lst eG3, ?_⟩
    refine dV_at (by rfl) ?_
    rw [wAppend_lst eG3]
    refine ⟨by rw [l3]; omega, ?_⟩
    refine hN _ _ ⟨?_, ?_, some (Dd.D d), some (.tup [KD.tD (doF t d).1, (doF t d).2]), some (doF (doAll t done).1 d).2, ?_⟩
    · exact (gr.trans g23).own G0
    · rw [put_same, doAll_snoc]
    · rw [doAll_snoc]
end KT
namespace KT
open PySem PySem.Spec PyProof.Rows L2 DL KF
open KB (Nd isK rowD treeD wayD entO srtE srtE_perm Dd Dd.D)
open KD hiding tD
open KR (Sd Th bA bA_cons bA_nil)
structure IV (S : Sto) (f L D : Addr) (ns : List Str) (l : List Dd) : Prop where
  F : Feed S f
  W : Nms S f L ns
  g : S D = some (.lst (l.map Dd.D))
  nf : D ≠ f
  nl : D ≠ L
  ok : ∀ d ∈ l, DdN ns d
theorem Nms.keep {S S' : Sto} {f L : Addr} {ns : List Str} (W : Nms S f L ns) (k : Keeps f S S') : Nms S' f L ns := ⟨k _ _ W.lf W.g, W.lf, W.l2, W.l8, W.ok⟩
end KT
namespace K03
open PySem PySem.Spec PyProof.Rows L2 DL KF KT
open KB (Nd isK rowD treeD wayD entO srtE srtE_perm)
open KD hiding tD sp_row_of len_row_of r_row_of N_row_of vc_row_of sp_kind_of len_kind_of r_kind_of N_kind_of vc_kind_of sp_entries_of len_entries_of r_entries_of N_entries_of vc_entries_of sp_way_through len_way_through r_way_through N_way_through vc_way_through wtA wtB wt1
def odd : List D := [.bl true, .non, .str "0", .str "a", .tup [.int 0], .fz [.int 0], .tup []]
def Ask (d : D) : Prop := (∃ n, d = .int n) ∨ d ∈ odd
def rowP (rows : List Nd) : D → Option Nd
  | .int n => rowO rows n
  | _ => none
theorem Ask.pl {d : D} (h : Ask d) : isPl d = true := by
  rcases h with ⟨n, rfl⟩ | h
  · rfl
  · simp only [odd, List.mem_cons, List.not_mem_nil, or_false] at h
    rcases h with rfl | rfl | rfl | rfl | rfl | rfl | rfl <;> rfl
theorem eq_ask {d : D} {k : Int} {S : Sto} {Q : KD} (h : Ask d) (q : ∀ b : Bool, (b = true → d = .int k ∨ d = .bl true) → (b = false → d ≠ .int k) → Q (.bl b) S) : wEq (.int k) d S Q := by
  rcases h with ⟨n, rfl⟩ | h
  · rw [wEq_int]
    refine q _ (fun z => ?_) (fun z => ?_)
    · rw [of_decide_eq_true z]; exact Or.inl rfl
    · intro e; cases e; simp at z
  · simp only [odd, List.mem_cons, List.not_mem_nil, or_false] at h
    rcases h with rfl | rfl | rfl | rfl | rfl | rfl | rfl
    · exact ⟨rfl, rfl, q _ (fun _ => Or.inr rfl) fun _ z => nomatch z⟩
    all_goals exact ⟨rfl, rfl, q false (fun z => nomatch z) fun _ z => nomatch z⟩
def sp_row_of (c : Addr) : DSp := fun ds S Q E => ∃ rows made d, ds = [treeD rows made, d] ∧ TreeV rows made ∧ Ask d ∧ (∀ r, rowP rows d = some r → ∀ S', Q (rowD r) S') ∧ (rowP rows d = none → ∀ S', E (.ref c) [("word", .str "node")] S')
theorem len_row_of {c : Addr} : ∀ ds S Q E, sp_row_of c ds S Q E → ds.length = (["tree", "node"] : List Str).length := fun _ _ _ _ ⟨_, _, _, e, _⟩ => by rw [e]; rfl
section
variable (c_NoStep : Addr) (E : KX)
def roB : DTS := dIfS (dAnd (dTst (dBin wEq (dBin wAt (dV 2) (dC (.int 0))) (dV 1))) (dTst (dCall (pur sp_is_number) [] (dCons (dV 1) dNil)))) (dRet (dV 2)) dNext
def ro0 : DTS := dFor (diVal (dBin wAt (dV 0) (dC (.int 0))) wIterA) (gdName 2) roB
def ro1 : DTS := dRaise c_NoStep ["word"] E (dCons (dC (.str "node")) dNil)
def r_row_of : DTS := dSeq ro0 (ro1 c_NoStep E)
end
abbrev N_row_of : List Str := ["tree", "node", "row"]
theorem vc_row_of {c : Addr} {ds S Q E} (h : sp_row_of c ds S Q E) : r_row_of c E (bodyEnds Q) (startD N_row_of ds) S := by
  obtain ⟨rows, made, d, rfl, V, hA, k1, k2⟩ := h
  show r_row_of _ _ _ [some (treeD rows made), some d, none] S
  unfold r_row_of
  simp only [dSeq_eq]
  unfold ro0
  simp only [dFor_eq, diVal_eq, dBin_eq, dC_eq]
  refine dV_at (by rfl) ?_
  unfold treeD
  rw [wAt_tup, atI0, onS_some, wIter_tup]
  refine loop_map rowD (fun done τ S' => (∀ q ∈ done, d ≠ .int q.1) ∧ ∃ y, τ = [some (.tup [.tup (rows.map rowD), .int made]), some d, y]) (fun _ _ _ _ => trivial) (fun τ S' h => ?_) (fun done q rest τ S' es h N hN => ?_) ⟨by simp, _, rfl⟩
  · obtain ⟨h, y, rfl⟩ := h
    unfold ro1
    simp only [dRaise_eq, dCons_eq, dNil_eq, dC_eq]
    refine ⟨rfl, k2 ?_ S'⟩
    cases d with
    | int n =>
      exact List.find?_eq_none.mpr fun q hq => by
        have := h q hq
        simp only [decide_eq_true_eq]
        intro e; exact this (by rw [e])
    | _ => rfl
  · obtain ⟨hd, y, rfl⟩ := h
    show roB _ [some (.tup [.tup (rows.map rowD), .int made]), some d, some (rowD q)] S'
    unfold roB
    simp only [dIfS_eq, dAnd_eq, dTst_eq, dBin_eq, dC_eq, dCall_eq, dCons_eq, dNil_eq, List.append_nil]
    refine dV_at (by rfl) ?_
    unfold rowD
    rw [wAt_tup, atI0, onS_some]
    refine dV_at (by rfl) ?_
    refine eq_ask hA fun b hb1 hb2 => ?_
    rw [isB_bl]
    have hq : q ∈ rows := by rw [es]; simp
    cases b with
    | true =>
      rw [if_pos rfl]
      refine dV_at (by rfl) ?_
      refine ⟨d, rfl, hA.pl, fun _ => ?_⟩
      show isB _ (.bl (numB d)) _
      rw [isB_bl]
      rcases hb1 rfl with rfl | rfl
      · have hp : 0 ≤ q.1 := V.pos (List.mem_map.mpr ⟨q, hq, rfl⟩)
        rw [numB, if_pos (decide_eq_true hp), dRet_eq]
        refine dV_at (by rfl) ?_
        exact k1 q (V.row hq) _
      · rw [show numB (.bl true) = false from rfl, if_neg (by decide)]
        refine hN _ _ ⟨fun x hx => ?_, _, rfl⟩
        rcases List.mem_append.mp hx with hx | hx
        · exact hd x hx
        · intro z; cases z
    | false =>
      rw [if_neg (by decide), if_neg (by decide)]
      refine hN _ _ ⟨fun x hx => ?_, _, rfl⟩
      rcases List.mem_append.mp hx with hx | hx
      · exact hd x hx
      · rw [List.mem_singleton.mp hx]; exact hb2 rfl
def sp_kind_of (c : Addr) : DSp := fun ds S Q E => ∃ rows made d, ds = [treeD rows made, d] ∧ TreeV rows made ∧ Ask d ∧ (∀ r, rowP rows d = some r → ∀ S', Q (.str r.2.1) S') ∧ (rowP rows d = none → ∀ S', E (.ref c) [("word", .str "node")] S')
theorem len_kind_of {c : Addr} : ∀ ds S Q E, sp_kind_of c ds S Q E → ds.length = (["tree", "node"] : List Str).length := fun _ _ _ _ ⟨_, _, _, e, _⟩ => by rw [e]; rfl
def r_kind_of (c_NoStep : Addr) (E : KX) : DTS := dRet (dBin wAt (dCallX (sp_row_of c_NoStep) [] E (dCons (dV 0) (dCons (dV 1) dNil))) (dC (.int 1)))
abbrev N_kind_of : List Str := ["tree", "node"]
theorem vc_kind_of {c : Addr} {ds S Q E} (h : sp_kind_of c ds S Q E) : r_kind_of c E (bodyEnds Q) (startD N_kind_of ds) S := by
  obtain ⟨rows, made, d, rfl, V, hA, k1, k2⟩ := h
  show r_kind_of _ _ _ [some (treeD rows made), some d] S
  unfold r_kind_of
  simp only [dRet_eq, dBin_eq, dC_eq, dCallX_eq, dCons_eq, dNil_eq, List.append_nil]
  refine dV_at (by rfl) ?_
  refine dV_at (by rfl) ?_
  refine ⟨rows, made, d, rfl, V, hA, fun r hr S' => ?_, k2⟩
  show wAt (rowD r) _ _ _
  unfold rowD
  rw [wAt_tup, atI1, onS_some]
  exact k1 r hr _
def sp_entries_of (c : Addr) : DSp := fun ds S Q E => ∃ rows made d, ds = [treeD rows made, d] ∧ TreeV rows made ∧ Ask d ∧ (∀ r, rowP rows d = some r → r.2.1 ≠ ("sheet" : Str) → ∀ S', Q (.tup (r.2.2.map pairSI)) S') ∧ (∀ r, rowP rows d = some r → r.2.1 = ("sheet" : Str) → ∀ S', E (.ref c) [("word", .str "sheet")] S') ∧ (rowP rows d = none → ∀ S', E (.ref c) [("word", .str "node")] S')
theorem len_entries_of {c : Addr} : ∀ ds S Q E, sp_entries_of c ds S Q E → ds.length = (["tree", "node"] : List Str).length := fun _ _ _ _ ⟨_, _, _, e, _⟩ => by rw [e]; rfl
def r_entries_of (c_NoStep : Addr) (E : KX) : DTS := dSeq (dAsg (dCallX (sp_row_of c_NoStep) [] E (dCons (dV 0) (dCons (dV 1) dNil))) (gdName 2)) (dSeq (dIfS (dTst (dBin wEq (dBin wAt (dV 2) (dC (.int 1))) (dC (.str "sheet")))) (dRaise c_NoStep ["word"] E (dCons (dC (.str "sheet")) dNil)) dNext) (dRet (dBin wAt (dV 2) (dC (.int 2)))))
abbrev N_entries_of : List Str := ["tree", "node", "row"]
theorem vc_entries_of {c : Addr} {ds S Q E} (h : sp_entries_of c ds S Q E) : r_entries_of c E (bodyEnds Q) (startD N_entries_of ds) S := by
  obtain ⟨rows, made, d, rfl, V, hA, k1, k3, k2⟩ := h
  show r_entries_of _ _ _ [some (treeD rows made), some d, none] S
  unfold r_entries_of
  simp only [dSeq_eq, dAsg_eq, dCallX_eq, dCons_eq, dNil_eq, List.append_nil]
  refine dV_at (by rfl) ?_
  refine dV_at (by rfl) ?_
  refine ⟨rows, made, d, rfl, V, hA, fun r hr S' => ?_, k2⟩
  show dIfS _ _ _ _ [some (treeD rows made), some d, some (rowD r)] S'
  simp only [dIfS_eq, dTst_eq, dBin_eq, dC_eq]
  refine dV_at (by rfl) ?_
  unfold rowD
  rw [wAt_tup, atI1, onS_some, wEq_str, isB_bl]
  by_cases hs : r.2.1 = ("sheet" : Str)
  · rw [if_pos (by simpa using hs)]
    simp only [dRaise_eq, dCons_eq, dNil_eq, dC_eq]
    exact ⟨rfl, k3 r hr hs S'⟩
  · rw [if_neg (by simpa using hs)]
    show dRet (dBin wAt (dV 2) (dC (.int 2))) (bodyEnds Q) [some (treeD rows made), some d, some (.tup [.int r.1, .str r.2.1, .tup (r.2.2.map pairSI)])] S'
    simp only [dRet_eq, dBin_eq, dC_eq]
    refine dV_at (by rfl) ?_
    rw [wAt_tup, atI2, onS_some]
    exact k1 r hr hs _
end K03
namespace K03
open PySem PySem.Spec PyProof.Rows L2 DL KF KT
open KB (Nd isK rowD treeD wayD entO srtE srtE_perm)
open KD hiding tD sp_row_of len_row_of r_row_of N_row_of vc_row_of sp_kind_of len_kind_of r_kind_of N_kind_of vc_kind_of sp_entries_of len_entries_of r_entries_of N_entries_of vc_entries_of sp_way_through len_way_through r_way_through N_way_through vc_way_through wtA wtB wt1
def noD (w : Str) : D := .tup [.str "no", .str w]
end K03
namespace K03
open PySem PySem.Spec PyProof.Rows L2 DL KF KT
open KB (Nd isK rowD treeD wayD entO srtE srtE_perm pairsD_map)
open KD hiding tD sp_row_of len_row_of r_row_of N_row_of vc_row_of sp_kind_of len_kind_of r_kind_of N_kind_of vc_kind_of sp_entries_of len_entries_of r_entries_of N_entries_of vc_entries_of sp_way_through len_way_through r_way_through N_way_through vc_way_through wtA wtB wt1
open KR (Sd Th bA bA_cons bA_nil Lc)
def kx (r : Nd) : Str := (D.int r.1).py.shown
theorem shown_nn {i j : Int} (hi : 0 ≤ i) (hj : 0 ≤ j) : (D.int i).py.shown = (D.int j).py.shown ↔ i = j := by
  rw [KR.shown_eq (by rw [KR.pl]; exact decide_eq_true hi) (by rw [KR.pl]; exact decide_eq_true hj)]
  exact ⟨fun h => D.int.inj h, fun h => by rw [h]⟩
theorem head_ne {d : D} {c : Nat} {t : List Nat} {k : Int} (hk : 0 ≤ k) (e : Lc d = c :: t) (hc : KR.cls c ≠ 3) : d.py.shown ≠ (D.int k).py.shown := by
  intro z
  obtain ⟨c', t', e', hc'⟩ := KR.Lc_head (d := .int k) (by rw [KR.pl]; exact decide_eq_true hk)
  have : Lc d = Lc (.int k) := congrArg (fun x : Str => x.cps.toList) z
  rw [e, e'] at this
  have h2 := (List.cons.inj this).1
  rw [h2] at hc
  exact hc hc'
def AskR (d : D) : Prop := (∃ n, d = .int n ∧ (0 ≤ n ∨ n = -1) ∧ n.natAbs ≤ 10 ^ 203) ∨ d ∈ odd
theorem AskR.ask {d : D} (h : AskR d) : Ask d := by
  rcases h with ⟨n, rfl, _⟩ | h
  · exact Or.inl ⟨n, rfl⟩
  · exact Or.inr h
theorem AskR.th {d : D} (h : AskR d) : Th 8 50 0 d := by
  rcases h with ⟨n, rfl, _, h⟩ | h
  · exact Th.int (by omega)
  · simp only [odd, List.mem_cons, List.not_mem_nil, or_false] at h
    have t0 : Th 2 8 0 (.int 0) := Th.int (by simp)
    rcases h with rfl | rfl | rfl | rfl | rfl | rfl | rfl
    · exact Th.bl
    · exact Th.non
    · exact Th.str (by decide +kernel) (by decide +kernel)
    · exact Th.str (by decide +kernel) (by decide +kernel)
    · exact (Th.tups (n := 2) (m := 8) (k := 1) (fun e he => by rw [List.mem_singleton.mp he]; exact t0) (by simp)).up (by decide) (by decide) (by decide)
    · exact (Th.fz (n := 2) (m := 9) (fun e he => by rw [List.mem_singleton.mp he]; exact t0.ok) (fun e he => by rw [List.mem_singleton.mp he]; exact t0.bg) (by have := t0.bk; rw [bA_cons, bA_nil]; omega)).up (by decide) (by decide) (by decide)
    · exact (Th.tups (n := 2) (m := 8) (c := 0) (k := 0) (fun e he => (List.not_mem_nil he).elim) (by simp)).up (by decide) (by decide) (by decide)
theorem shown_row {d : D} (h : AskR d) {k : Int} (hk : 0 ≤ k) : (D.int k).py.shown = d.py.shown ↔ d = .int k := by
  refine ⟨fun z => ?_, fun z => by rw [z]⟩
  have z := z.symm
  rcases h with ⟨n, rfl, h | rfl, _⟩ | h
  · rw [(shown_nn h hk).mp z]
  · exact absurd z (head_ne hk (c := 45) (t := [49]) (by decide +kernel) (by decide))
  · simp only [odd, List.mem_cons, List.not_mem_nil, or_false] at h
    rcases h with rfl | rfl | rfl | rfl | rfl | rfl | rfl
    · exact absurd z (head_ne hk KR.Lc_t (by decide))
    · exact absurd z (head_ne hk KR.Lc_non (by decide))
    · exact absurd z (head_ne hk (c := 39) (t := [48, 39]) (by decide +kernel) (by decide))
    · exact absurd z (head_ne hk (c := 39) (t := [97, 39]) (by decide +kernel) (by decide))
    · exact absurd z (head_ne hk (c := 40) (t := [48, 44, 41]) (by decide +kernel) (by decide))
    · exact absurd z (head_ne hk (c := 91) (t := [48, 93]) (by decide +kernel) (by decide))
    · exact absurd z (head_ne hk KR.Lc_tup0 (by decide))
theorem kx_nodup {rows : List Nd} {made : Int} (V : TreeV rows made) : (rows.map kx).Nodup := by
  have a := V.asc
  rw [List.pairwise_map] at a
  unfold List.Nodup
  rw [List.pairwise_map]
  refine (List.Pairwise.imp_of_mem (fun {x y} hx hy hxy e => ?_) a)
  have := (shown_nn (V.pos (List.mem_map.mpr ⟨x, hx, rfl⟩)) (V.pos (List.mem_map.mpr ⟨y, hy, rfl⟩))).mp e
  omega
def eX (r : Nd) : D × D := (.str (kx r), rowD r)
theorem getX {rows : List Nd} {made : Int} (V : TreeV rows made) {d : D} (h : AskR d) : dGet (rows.map eX) (.str d.py.shown) = (rowP rows d).map rowD := by
  have e1 : dGet (rows.map eX) (.str d.py.shown) = (rows.find? fun r => decide (kx r = d.py.shown)).map rowD := dGet_str (f := kx) (g := rowD)
  rw [e1]
  have e2 : (rows.find? fun r => decide (kx r = d.py.shown)) = rowP rows d := by
    have hp : ∀ r ∈ rows, decide (kx r = d.py.shown) = decide (d = .int r.1) := fun r hr => decide_eq_decide.mpr (shown_row h (V.pos (List.mem_map.mpr ⟨r, hr, rfl⟩)))
    have e3 : (rows.find? fun r => decide (kx r = d.py.shown)) = rows.find? fun r => decide (d = .int r.1) := by
      clear e1 V
      induction rows with
      | nil => rfl
      | cons a r ih =>
        rw [List.find?_cons, List.find?_cons, hp a (List.mem_cons_self ..), ih fun q hq => hp q (List.mem_cons_of_mem _ hq)]
    rw [e3]
    cases d with
    | int n =>
      show _ = rowO rows n
      unfold rowO
      congr 1
      funext r
      refine decide_eq_decide.mpr ⟨fun z => (D.int.inj z).symm, fun z => by rw [z]⟩
    | _ => exact List.find?_eq_none.mpr fun r _ => by simp
  rw [e2]
theorem wDict_strs {α : Type} {f : α → Str} {g : α → D} {xs : List α} {S : Sto} {d : D} {Q : KD} (h : seqOf S d = some (xs.map fun p => D.tup [.str (f p), g p])) (nd : (xs.map f).Nodup) (q : ∀ p, S p = none → Q (.ref p) (put S p (.dct (xs.map fun p => (D.str (f p), g p))))) : wDict [d] S Q := by
  have e1 := pairsD_map (k := fun p : α => D.str (f p)) (v := g) xs
  have e2 := leafAll_str (f := f) (g := g) xs
  have e3 := kvMerge_str (f := f) (g := g) nd
  unfold wDict
  simp only [h, e1, onS_some, e2, e3]
  exact ⟨rfl, q⟩
theorem repr_ref {S : Sto} {Q : KD} {G : Addr} {es : List D} {n m c : Nat} (h : S G = some (.lst es)) (t : Th n m c (.fz es)) (hn : n ≤ 40) (hm : m ≤ 79000) (hc : c ≤ 100) : wReprA [.ref G] S Q = Q (.str (D.fz es).py.shown) S := by
  have e : rd 6 S (.ref G) = rd 6 S (.fz es) := by simp [rd, h]
  rw [← t.repr (S := S) (Q := Q) hn hm hc]
  unfold wReprA
  simp only [e]
end K03
namespace K03
open PySem PySem.Spec PyProof.Rows L2 DL KF KT
open KB (Nd isK rowD treeD wayD entO srtE srtE_perm wDict_of wEnum_tup enumD_range diEnum_eq)
open KD hiding tD sp_row_of len_row_of r_row_of N_row_of vc_row_of sp_kind_of len_kind_of r_kind_of N_kind_of vc_kind_of sp_entries_of len_entries_of r_entries_of N_entries_of vc_entries_of sp_way_through len_way_through r_way_through N_way_through vc_way_through wtA wtB wt1
def sp_way_through : DSp := fun ds S Q E => ∃ rows made w t, ds = [treeD rows made, wayD w, .int t] ∧ TreeV rows made ∧ t ∈ rows.map (·.1) ∧ w.length ≤ 1000 ∧ ∀ S', Q (.tup [nodesD (thr rows [] t 0 w).1, (thr rows [] t 0 w).2.D]) S'
theorem len_way_through : ∀ ds S Q E, sp_way_through ds S Q E → ds.length = (["tree", "way", "top"] : List Str).length := fun _ _ _ _ ⟨_, _, _, _, e, _⟩ => by rw [e]; rfl
def wtA (c_NoStep : Addr) : DTS := dIfS (dTst (dBin wEq (dCall (pur (sp_kind_of c_NoStep)) [] (dCons (dV 0) (dCons (dBin wAt (dV 3) (dUn wNeg (dC (.int 1)))) dNil))) (dC (.str "sheet")))) (dRet (dTup (dCons (dV 3) (dCons (dTup (dCons (dC (.str "sheet")) (dCons (dV 4) dNil))) dNil)))) dNext
def wtB (c_NoStep : Addr) : DTS := dAsg (dGet1 (dCB wDict (dCons (dCall (pur (sp_entries_of c_NoStep)) [] (dCons (dV 0) (dCons (dBin wAt (dV 3) (dUn wNeg (dC (.int 1)))) dNil))) dNil)) (dV 5)) (gdName 6)
def wt1 (c_NoStep : Addr) : DTS := dFor (diEnum (dCons (dV 1) dNil)) (gdTup 2 (gdCons (gdName 4) (gdCons (gdName 5) gdNil))) (dSeq (wtA c_NoStep) (dSeq (wtB c_NoStep) (dSeq wtC wtD)))
def r_way_through (c_NoStep : Addr) : DTS := dSeq (dAsg (dTup (dCons (dV 2) dNil)) (gdName 3)) (dSeq (wt1 c_NoStep) (dRet (dTup (dCons (dV 3) (dCons (dC .non) dNil)))))
abbrev N_way_through : List Str := ["tree", "way", "top", "found", "place", "name", "node"]
theorem vc_way_through {c : Addr} {ds S Q E} (h : sp_way_through ds S Q E) : r_way_through c (bodyEnds Q) (startD N_way_through ds) S := by
  have sz : 1001 < sizeLine := by rw [sizeLine_eq]; decide
  obtain ⟨rows, made, w, t, rfl, V, ht0, hw, k⟩ := h
  show r_way_through _ _ [some (treeD rows made), some (wayD w), some (.int t), none, none, none, none] S
  unfold r_way_through
  simp only [dSeq_eq, dAsg_eq, dTup_eq, dCons_eq, dNil_eq, gdName_eq]
  refine dV_at (by rfl) ?_
  refine ⟨by show 1 ≤ sizeLine; omega, ?_⟩
  show wt1 c _ [some (treeD rows made), some (wayD w), some (.int t), some (nodesD ([], t)), none, none, none] S
  unfold wt1
  generalize hB : dSeq (wtA c) (dSeq (wtB c) (dSeq wtC wtD)) = B
  simp only [dFor_eq, diEnum_eq, dCons_eq, dNil_eq]
  refine dV_at (by rfl) ?_
  unfold wayD
  rw [wEnum_tup, enumD_range, List.length_map]
  refine loop_map (fun i : Nat => D.wt [.int ((0 + i : Nat) : Int), (w.map D.str).getD i .non]) (fun done τ S' => ∃ (wd wr : List Str) (p : List Int) (h : Int) (y4 y5 y6 : Option D), w = wd ++ wr ∧ wd.length = done.length ∧ p.length = wd.length ∧ thr rows [] t 0 w = thr rows p h wd.length wr ∧ h ∈ rows.map (·.1) ∧ τ = [some (treeD rows made), some (wayD w), some (.int t), some (nodesD (p, h)), y4, y5, y6])
    (fun _ _ _ _ => trivial) (fun τ S' h => ?_) (fun done x rest τ S' es h N hN => ?_) ⟨[], w, [], t, _, _, _, rfl, rfl, rfl, rfl, ht0, rfl⟩
  · obtain ⟨wd, wr, p, h, y4, y5, y6, e, hwd, hp, ht, hh, rfl⟩ := h
    rw [List.length_range] at hwd
    have hwr : wr = [] := by
      have := congrArg List.length e
      rw [List.length_append] at this
      exact List.length_eq_zero_iff.mp (by omega)
    subst hwr
    rw [thr] at ht
    have kS := k S'
    rw [ht] at kS
    show dRet (dTup (dCons (dV 3) (dCons (dC .non) dNil))) (bodyEnds Q) [some (treeD rows made), some (wayD w), some (.int t), some (nodesD (p, h)), y4, y5, y6] S'
    simp only [dRet_eq, dTup_eq, dCons_eq, dNil_eq, dC_eq]
    refine dV_at (by rfl) ?_
    exact ⟨by show 2 ≤ sizeLine; omega, kS⟩
  · obtain ⟨wd, wr, p, h, y4, y5, y6, e, hwd, hp, ht, hh, rfl⟩ := h
    obtain ⟨rfl, hd⟩ := range_split es
    obtain ⟨x, wr', rfl⟩ : ∃ s l, wr = s :: l := by
      cases wr with
      | nil =>
        have := congrArg List.length e
        rw [List.length_append] at this
        simp at this
        omega
      | cons s l => exact ⟨s, l, rfl⟩
    have hx : (w.map D.str).getD done.length .non = .str x := by
      rw [e, ← hwd]
      simp [List.getD_eq_getElem?_getD]
    obtain ⟨r, hr, hm, hri⟩ := V.at_ hh
    have hpos := V.pos hh
    have kS := k
    rw [ht, thr, kindO_eq hr, entO_eq hr] at kS
    refine ⟨rfl, rfl, ?_⟩
    show B _ [some (treeD rows made), some (wayD w), some (.int t), some (nodesD (p, h)), some (.int ((0 + done.length : Nat) : Int)), some ((w.map D.str).getD done.length .non), y6] S'
    rw [hx, Nat.zero_add, ← hwd, ← hB]
    simp only [dSeq_eq]
    show wtA c _ _ _
    unfold wtA
    simp only [dIfS_eq, dTst_eq, dBin_eq, dC_eq, dUn_eq, dCall_eq, dCons_eq, dNil_eq, List.append_nil, wNeg_int]
    refine dV_at (by rfl) ?_
    refine dV_at (by rfl) ?_
    refine last_at ?_
    refine ⟨rows, made, .int h, rfl, V, Or.inl ⟨_, rfl⟩, fun r' hr' _ => ?_, fun z => by rw [show rowP rows (.int h) = some r from hr] at z; cases z⟩
    obtain rfl : r = r' := Option.some.inj (hr.symm.trans hr')
    show wEq (.str r.2.1) (.str "sheet") _ _
    rw [wEq_str, isB_bl]
    by_cases hs : r.2.1 = ("sheet" : Str)
    · rw [if_pos (by simpa using hs)]
      rw [if_pos hs] at kS
      simp only [dRet_eq, dTup_eq, dCons_eq, dNil_eq, dC_eq]
      refine dV_at (by rfl) ?_
      refine dV_at (by rfl) ?_
      exact ⟨by show 2 ≤ sizeLine; omega, by show 2 ≤ sizeLine; omega, kS _⟩
    · rw [if_neg (by simpa using hs)]
      rw [if_neg hs] at kS
      show wtB c _ [some (treeD rows made), some (wayD w), some (.int t), some (nodesD (p, h)), some (.int (wd.length : Int)), some (.str x), y6] S'
      unfold wtB
      simp only [dAsg_eq]
      refine get_of (es := r.2.2) (x := x) (V.nd r hm) (fun Q1 h1 => ?_) (fun S1 Q1 h1 => ?_) fun S2 => ?_
      · simp only [dCB_eq, dBin_eq, dC_eq, dUn_eq, dCall_eq, dCons_eq, dNil_eq, List.append_nil, wNeg_int]
        refine dV_at (by rfl) ?_
        refine dV_at (by rfl) ?_
        refine last_at ?_
        refine ⟨rows, made, .int h, rfl, V, Or.inl ⟨_, rfl⟩, fun r' hr' _ _ => ?_, fun r' hr' z => absurd ((congrArg (fun q : Nd => q.2.1) (Option.some.inj (hr.symm.trans hr'))).trans z) hs, fun z => by rw [show rowP rows (.int h) = some r from hr] at z; cases z⟩
        obtain rfl : r = r' := Option.some.inj (hr.symm.trans hr')
        exact wDict_row (V.nd r hm) fun p hp => h1 p _ hp rfl
      · exact dV_at (by rfl) h1
      · show wtC _ [some (treeD rows made), some (wayD w), some (.int t), some (nodesD (p, h)), some (.int (wd.length : Int)), some (.str x), some (optN (lk x r.2.2))] S2
        unfold wtC
        simp only [dIfS_eq, dTst_eq, dBin_eq, dC_eq]
        refine dV_at (by rfl) ?_
        rw [wIsN_eq, isB_bl]
        cases el : lk x r.2.2 with
        | none =>
          rw [el] at kS
          rw [if_pos (by rfl)]
          simp only [dRet_eq, dTup_eq, dCons_eq, dNil_eq, dC_eq]
          refine dV_at (by rfl) ?_
          refine dV_at (by rfl) ?_
          exact ⟨by show 2 ≤ sizeLine; omega, by show 2 ≤ sizeLine; omega, kS _⟩
        | some n =>
          rw [if_neg (by simp [optN])]
          show wtD _ [some (treeD rows made), some (wayD w), some (.int t), some (nodesD (p, h)), some (.int (wd.length : Int)), some (.str x), some (.int n)] S2
          unfold wtD
          simp only [dAsg_eq, dBin_eq, dTup_eq, dCons_eq, dNil_eq, gdName_eq]
          refine dV_at (by rfl) ?_
          refine dV_at (by rfl) ?_
          refine ⟨by show 1 ≤ sizeLine; omega, ?_⟩
          have wl : wd.length < 1000 := by
            have := congrArg List.length e
            rw [List.length_append, List.length_cons] at this
            omega
          show wAdd (.tup ((p ++ [h]).map D.int)) (.tup [.int n]) _ _
          rw [wAdd_tup]
          refine ⟨by simp; omega, ?_⟩
          refine hN _ _ ⟨wd ++ [x], wr', p ++ [h], n, some (.int (wd.length : Int)), some (.str x), some (.int n), by rw [e, List.append_assoc]; rfl, by rw [List.length_append, List.length_append, hwd]; rfl, by rw [List.length_append, List.length_append, hp]; rfl, ?_, (V.tg r hm _ (lk_mem el)).1, ?_⟩
          · rw [ht, thr, kindO_eq hr, entO_eq hr, if_neg hs, el, List.length_append]; rfl
          · have e2 : ((p ++ [h]).map D.int ++ [D.int n]) = ((p ++ [h]) ++ [n]).map D.int := by rw [List.map_append (l₂ := [n])]; rfl
            rw [e2]; rfl
end K03
namespace K03
open PySem PySem.Spec PyProof.Rows L2 DL KF
open KB (Nd isK rowD treeD wayD entO srtE srtE_perm)
open KD hiding tD sp_row_of len_row_of r_row_of N_row_of vc_row_of sp_kind_of len_kind_of r_kind_of N_kind_of vc_kind_of sp_entries_of len_entries_of r_entries_of N_entries_of vc_entries_of sp_way_through len_way_through r_way_through N_way_through vc_way_through wtA wtB wt1
open _root_.KT
open KR (Sd Th bA bA_cons bA_nil Lc)
structure IQ (S : Sto) (f L P : Addr) (ns : List Str) (ids : List Int) : Prop where
  F : Feed S f
  W : Nms S f L ns
  g : S P = some (.lst (ids.map D.int))
  nf : P ≠ f
def sp_law : DSp := fun ds S Q E => ∃ ns : List Int, ds = [.fz (ns.map D.int)] ∧ ∀ S', Q (.bl true) S'
end K03
namespace K04
open PySem PySem.Spec PyProof.Rows L2 DL KF
open KB (Nd isK rowD treeD wayD entO srtE srtE_perm)
open KD hiding tD sp_row_of len_row_of r_row_of N_row_of vc_row_of sp_kind_of len_kind_of r_kind_of N_kind_of vc_kind_of sp_entries_of len_entries_of r_entries_of N_entries_of vc_entries_of sp_way_through len_way_through r_way_through N_way_through vc_way_through wtA wtB wt1 sp_above len_above r_above N_above vc_above
inductive WT (rows : List Nd) : List Str → List Int → Int → Prop
  | top : WT rows [] [] 0
  | step {w : List Str} {p : List Int} {n m : Int} {x : Str} : WT rows w p n → lk x (entO rows n) = some m → WT rows (w ++ [x]) (p ++ [n]) m
section
variable {rows : List Nd} {made : Int}
theorem WT.node (V : TreeV rows made) {w : List Str} {p : List Int} {n : Int} (h : WT rows w p n) : n ∈ rows.map (·.1) := by
  cases h with
  | top => exact V.zero
  | step _ he => exact (V.tg_ (lk_some V he)).1
theorem WT.len {w : List Str} {p : List Int} {n : Int} (h : WT rows w p n) : p.length = w.length := by
  induction h with
  | top => rfl
  | step _ _ ih => rw [List.length_append, List.length_append, ih]; rfl
theorem WT.nodes (V : TreeV rows made) {w : List Str} {p : List Int} {n : Int} (h : WT rows w p n) : ∀ k ∈ p, k ∈ rows.map (·.1) := by
  induction h with
  | top => exact fun k hk => (List.not_mem_nil hk).elim
  | step h0 he ih =>
    intro k hk
    rcases List.mem_append.mp hk with hk | hk
    · exact ih k hk
    · rw [List.mem_singleton.mp hk]; exact h0.node V
theorem ed_drawer (V : TreeV rows made) {n m : Int} {x : Str} (h : lk x (entO rows n) = some m) : kindO rows n = ("drawer" : Str) := by
  cases hr : rowO rows n with
  | none =>
    unfold KB.entO at h
    unfold rowO at hr
    rw [hr] at h
    cases h
  | some r =>
    rw [entO_eq hr] at h
    rw [kindO_eq hr]
    exact V.drawer (rowO_mem hr).1 (lk_mem h)
theorem one_holder (V : TreeV rows made) {n n2 m : Int} {x x2 : Str} (h : lk x (entO rows n) = some m) (h2 : lk x2 (entO rows n2) = some m) (hk : kindO rows m = ("drawer" : Str)) : n = n2 ∧ x = x2 := by
  have hm := (V.tg_ (lk_some V h)).1
  obtain ⟨q, hq, hqm, hqi⟩ := V.at_ hm
  have hqk : q.2.1 = ("drawer" : Str) := by rw [← kindO_eq hq]; exact hk
  have one := V.one q hqm hqk
  rw [hqi, tgs_eds] at one
  have eq := count_uniq one _ (mem_eds.mpr (lk_some V h)) _ (mem_eds.mpr (lk_some V h2)) rfl rfl
  exact ⟨congrArg (fun e : Int × Str × Int => e.1) eq, congrArg (fun e : Int × Str × Int => e.2.1) eq⟩
theorem WT.uniq (V : TreeV rows made) {w : List Str} {p : List Int} {n : Int} (h : WT rows w p n) : ∀ {w' : List Str} {p' : List Int}, WT rows w' p' n → kindO rows n = ("drawer" : Str) → w = w' ∧ p = p' := by
  induction h with
  | top =>
    intro w' p' h' _
    generalize e0 : (0 : Int) = z at h'
    cases h' with
    | top => exact ⟨rfl, rfl⟩
    | step _ he =>
      have := (V.tg_ (lk_some V he)).2
      omega
  | @step w p n m x h0 he ih =>
    intro w' p' h' hk
    have hm := (V.tg_ (lk_some V he)).2
    generalize em : m = z at h'
    cases h' with
    | top => omega
    | @step w2 p2 n2 _ x2 h2 he2 =>
      subst em
      obtain ⟨e3, e2⟩ := one_holder V he he2 hk
      subst e3 e2
      obtain ⟨a, b⟩ := ih h2 (ed_drawer V he)
      rw [a, b]
      exact ⟨rfl, rfl⟩
theorem WT.same {w : List Str} {p : List Int} {n : Int} (h : WT rows w p n) : ∀ {p' : List Int} {n' : Int}, WT rows w p' n' → p = p' ∧ n = n' := by
  induction h with
  | top =>
    intro p' n' h'
    generalize e0 : ([] : List Str) = z at h'
    cases h' with
    | top => exact ⟨rfl, rfl⟩
    | step _ _ => exact absurd e0.symm (by simp)
  | @step w p n m x h0 he ih =>
    intro p' n' h'
    generalize e0 : w ++ [x] = z at h'
    cases h' with
    | top => exact absurd e0 (by simp)
    | @step w2 p2 n2 _ x2 h2 he2 =>
      obtain ⟨e1, e2⟩ := List.append_inj' e0 rfl
      subst e1
      have e2 : x = x2 := by simpa using e2
      subst e2
      obtain ⟨a, b⟩ := ih h2
      subst a b
      rw [he] at he2
      exact ⟨rfl, Option.some.inj he2⟩
theorem thr_snoc {x : Str} : ∀ (w : List Str) {p : List Int} {h : Int} {k : Nat} {q : List Int} {n m : Int}, thr rows p h k w = ((q, n), .ok) → kindO rows n ≠ ("sheet" : Str) → lk x (entO rows n) = some m → thr rows p h k (w ++ [x]) = ((q ++ [n], m), .ok)
  | [], p, h, k, q, n, m, e, hk, he => by
    rw [thr] at e
    cases e
    rw [List.nil_append, thr, if_neg hk, he]
    rfl
  | y :: w, p, h, k, q, n, m, e, hk, he => by
    rw [thr] at e
    rw [List.cons_append, thr]
    split at e
    · cases e
    · rename_i c
      rw [if_neg c]
      split at e
      · cases e
      · rename_i t et
        exact thr_snoc w e hk he
theorem WT.thru (V : TreeV rows made) {w : List Str} {p : List Int} {n : Int} (h : WT rows w p n) : thr rows [] 0 0 w = ((p, n), .ok) := by
  induction h with
  | top => rfl
  | step h0 he ih => exact thr_snoc _ ih (by rw [ed_drawer V he]; exact drawer_ne_sheet) he
theorem WT.few (V : TreeV rows made) {l : List (List Str)} (nd : l.Nodup) (h : ∀ w ∈ l, ∃ p n, WT rows w p n) : l.length ≤ 1 + (eds rows).length := by
  have key : ∀ w ∈ l, w ≠ [] → ∃ e ∈ eds rows, ∃ v p, w = v ++ [e.2.1] ∧ WT rows v p e.1 ∧ kindO rows e.1 = ("drawer" : Str) := fun w hw hne => by
    obtain ⟨p, n, hw2⟩ := h w hw
    cases hw2 with
    | top => exact absurd rfl hne
    | @step v q m _ x h0 he => exact ⟨(m, x, n), mem_eds.mpr (lk_some V he), v, q, rfl, h0, ed_drawer V he⟩
  classical
  let g : List Str → Int × Str × Int := fun w => if c : w ∈ l ∧ w ≠ [] then (key w c.1 c.2).choose else (0, "", 0)
  have gs : ∀ w ∈ l, w ≠ [] → g w ∈ eds rows ∧ ∃ v p, w = v ++ [(g w).2.1] ∧ WT rows v p (g w).1 ∧ kindO rows (g w).1 = ("drawer" : Str) := fun w hw hne => by
    have e : g w = (key w hw hne).choose := dif_pos ⟨hw, hne⟩
    rw [e]
    exact (key w hw hne).choose_spec
  have l2 : (l.filter fun w => decide (w ≠ [])).length ≤ (eds rows).length := by
    have nd2 : (l.filter fun w => decide (w ≠ [])).Nodup := nd.filter _
    have mem2 : ∀ w ∈ l.filter (fun w => decide (w ≠ [])), w ∈ l ∧ w ≠ [] := fun w hw => by
      obtain ⟨a, b⟩ := List.mem_filter.mp hw
      exact ⟨a, of_decide_eq_true b⟩
    have nd3 : ((l.filter fun w => decide (w ≠ [])).map g).Nodup := nodup_map_inj nd2 fun a ha b hb e => by
      obtain ⟨_, v, p, e1, w1, k1⟩ := gs a (mem2 a ha).1 (mem2 a ha).2
      obtain ⟨_, v2, p2, e2, w2, _⟩ := gs b (mem2 b hb).1 (mem2 b hb).2
      rw [← e] at e2 w2
      rw [e1, e2, (w1.uniq V w2 k1).1]
    have := nd3.length_le_of_subset fun e he => by
      obtain ⟨w, hw, rfl⟩ := List.mem_map.mp he
      exact (gs w (mem2 w hw).1 (mem2 w hw).2).1
    rw [List.length_map] at this
    exact this
  have l1 : l.length ≤ 1 + (l.filter fun w => decide (w ≠ [])).length := by
    clear l2 gs g key h
    induction l with
    | nil => exact Nat.zero_le _
    | cons w l ih =>
      rw [List.nodup_cons] at nd
      have ih := ih nd.2
      rw [List.filter_cons]
      by_cases c : w = []
      · subst c
        have : l.filter (fun w => decide (w ≠ [])) = l := List.filter_eq_self.mpr fun v hv => decide_eq_true fun z => nd.1 (z ▸ hv)
        rw [if_neg (by simp), this, List.length_cons]
        omega
      · rw [if_pos (by simpa using c), List.length_cons, List.length_cons]
        omega
  omega
end
end K04
namespace K04
open PySem PySem.Spec PyProof.Rows L2 DL KF
open KB (Nd isK rowD treeD wayD entO srtE srtE_perm wDict_of)
open KD hiding tD sp_row_of len_row_of r_row_of N_row_of vc_row_of sp_kind_of len_kind_of r_kind_of N_kind_of vc_kind_of sp_entries_of len_entries_of r_entries_of N_entries_of vc_entries_of sp_way_through len_way_through r_way_through N_way_through vc_way_through wtA wtB wt1 sp_above len_above r_above N_above vc_above
abbrev WN := List Str × List Int × Int
def wnD (q : WN) : D := .tup [wayD q.1, nodesD (q.2.1, q.2.2)]
structure AW (rows : List Nd) (ws : List WN) : Prop where
  wt : ∀ q ∈ ws, WT rows q.1 q.2.1 q.2.2
  nd : (ws.map (·.1)).Nodup
  all : ∀ w p n, WT rows w p n → (w, p, n) ∈ ws
structure LI (rows : List Nd) (F R : List WN) : Prop where
  wt : ∀ q ∈ F ++ R, WT rows q.1 q.2.1 q.2.2
  nd : ((F ++ R).map (·.1)).Nodup
  root : ([], [], 0) ∈ F ++ R
  cl : ∀ q ∈ F, ∀ x m, lk x (entO rows q.2.2) = some m → (q.1 ++ [x], q.2.1 ++ [q.2.2], m) ∈ F ++ R
  pr : ∀ q ∈ F ++ R, ∀ w x, q.1 = w ++ [x] → w ∈ F.map (·.1)
def kids (rows : List Nd) (q : WN) : List WN := (entO rows q.2.2).map fun e => (q.1 ++ [e.1], q.2.1 ++ [q.2.2], e.2)
section
variable {rows : List Nd} {made : Int}
theorem LI.start : LI rows [] [([], [], 0)] where
  wt := fun q hq => by
    rw [List.mem_singleton.mp hq]; exact .top
  nd := by simp
  root := by simp
  cl := fun q hq => (List.not_mem_nil hq).elim
  pr := fun q hq w x e => by
    rw [List.mem_singleton.mp hq] at e
    exact absurd e (by simp)
theorem LI.done {F : List WN} (I : LI rows F []) : AW rows F where
  wt := fun q hq => I.wt q (List.mem_append_left _ hq)
  nd := by have := I.nd; rw [List.append_nil] at this; exact this
  all := fun w p n h => by
    have cl := I.cl
    have root := I.root
    rw [List.append_nil] at root
    simp only [List.append_nil] at cl
    induction h with
    | top => exact root
    | step _ he ih => exact cl _ ih _ _ he
theorem ent_lk (V : TreeV rows made) {n : Int} {e : Str × Int} (h : e ∈ entO rows n) : lk e.1 (entO rows n) = some e.2 := by
  cases hr : rowO rows n with
  | none =>
    unfold KB.entO at h
    unfold rowO at hr
    rw [hr] at h
    cases h
  | some r =>
    rw [entO_eq hr] at h ⊢
    have nd := V.nd r (rowO_mem hr).1
    unfold lk
    have : r.2.2.find? (fun q => decide (q.1 = e.1)) = some e := find_of_mem (f := fun q : Str × Int => q.1) nd h
    rw [this]
    rfl
theorem ent_nd (V : TreeV rows made) (n : Int) : ((entO rows n).map (·.1)).Nodup := by
  cases hr : rowO rows n with
  | none =>
    have : entO rows n = [] := by
      unfold KB.entO
      unfold rowO at hr
      rw [hr]
    rw [this]; exact List.nodup_nil
  | some r =>
    rw [entO_eq hr]
    exact V.nd r (rowO_mem hr).1
theorem LI.next (V : TreeV rows made) {F R : List WN} {q : WN} (I : LI rows F (R ++ [q])) : LI rows (F ++ [q]) (R ++ kids rows q) := by
  have hq : WT rows q.1 q.2.1 q.2.2 := I.wt q (by simp)
  have kid : ∀ c ∈ kids rows q, ∃ x m, lk x (entO rows q.2.2) = some m ∧ c = (q.1 ++ [x], q.2.1 ++ [q.2.2], m) := fun c hc => by
    obtain ⟨e, he, rfl⟩ := List.mem_map.mp hc
    exact ⟨e.1, e.2, ent_lk V he, rfl⟩
  have old : ∀ c, c ∈ F ++ (R ++ [q]) → c ∈ (F ++ [q]) ++ (R ++ kids rows q) := fun c hc => by
    simp only [List.mem_append, List.mem_singleton] at hc ⊢
    rcases hc with h | h | h
    · exact Or.inl (Or.inl h)
    · exact Or.inr (Or.inl h)
    · exact Or.inl (Or.inr h)
  have back : ∀ c, c ∈ (F ++ [q]) ++ (R ++ kids rows q) → c ∈ F ++ (R ++ [q]) ∨ c ∈ kids rows q := fun c hc => by
    simp only [List.mem_append, List.mem_singleton] at hc ⊢
    rcases hc with (h | h) | h | h
    · exact Or.inl (Or.inl h)
    · exact Or.inl (Or.inr (Or.inr h))
    · exact Or.inl (Or.inr (Or.inl h))
    · exact Or.inr h
  have nd := I.nd
  have qF : q.1 ∉ F.map (·.1) := fun z => by
    rw [List.map_append, List.nodup_append] at nd
    exact nd.2.2 _ z _ (List.mem_map.mpr ⟨q, by simp, rfl⟩) rfl
  exact {
    wt := fun c hc => by
      rcases back c hc with h | h
      · exact I.wt c h
      · obtain ⟨x, m, e, rfl⟩ := kid c h
        exact .step hq e
    nd := by
      have p1 : ((F ++ [q]) ++ (R ++ kids rows q)).Perm ((F ++ (R ++ [q])) ++ kids rows q) := by
        have : (F ++ [q] ++ R).Perm (F ++ (R ++ [q])) := by
          rw [List.append_assoc]
          exact List.Perm.append_left F List.perm_append_comm
        rw [← List.append_assoc]
        exact this.append_right _
      refine ((p1.map _).nodup_iff).mpr ?_
      rw [List.map_append, List.nodup_append]
      refine ⟨nd, ?_, fun a ha b hb e => ?_⟩
      · unfold kids
        rw [List.map_map]
        have := nodup_map_inj (f := fun y : Str => q.1 ++ [y]) (ent_nd V q.2.2) fun a _ b _ e => by
          have := List.append_cancel_left e
          simpa using this
        rw [List.map_map] at this
        exact this
      · subst e
        obtain ⟨c, hc, rfl⟩ := List.mem_map.mp hb
        obtain ⟨x, m, e, rfl⟩ := kid c hc
        obtain ⟨d, hd, e2⟩ := List.mem_map.mp ha
        exact qF (I.pr d hd q.1 x e2)
    root := old _ I.root
    cl := fun c hc x m e => by
      rcases List.mem_append.mp hc with h | h
      · exact old _ (I.cl c h x m e)
      · rw [List.mem_singleton.mp h] at e ⊢
        refine List.mem_append_right _ (List.mem_append_right _ ?_)
        exact List.mem_map.mpr ⟨(x, m), lk_mem e, rfl⟩
    pr := fun c hc w x e => by
      rw [List.map_append]
      rcases back c hc with h | h
      · exact List.mem_append_left _ (I.pr c h w x e)
      · obtain ⟨y, m, _, rfl⟩ := kid c h
        obtain ⟨e1, _⟩ := List.append_inj' e rfl
        rw [← e1]
        exact List.mem_append_right _ (by simp) }
theorem LI.small (V : TreeV rows made) {F R : List WN} (I : LI rows F R) (hl : rows.length ≤ 100) : (F ++ R).length ≤ 1201 := by
  have := WT.few V I.nd fun w hw => by
    obtain ⟨q, hq, rfl⟩ := List.mem_map.mp hw
    exact ⟨_, _, I.wt q hq⟩
  rw [List.length_map] at this
  have e : (eds rows).length ≤ 12 * rows.length := by
    have el : ∀ l : List Nd, (∀ r ∈ l, r.2.2.length ≤ 12) → (eds l).length ≤ 12 * l.length := by
      intro l
      induction l with
      | nil => intro _; exact Nat.le_refl _
      | cons r l ih =>
        intro h
        have h1 := ih fun q hq => h q (List.mem_cons_of_mem _ hq)
        have h2 := h r (List.mem_cons_self ..)
        show ((r.2.2.map fun e => (r.1, e.1, e.2)) ++ eds l).length ≤ _
        rw [List.length_append, List.length_map, List.length_cons]; omega
    exact el rows V.few
  omega
theorem wn_clean (q : WN) : (wnD q).cl 19 = true := by
  unfold wnD wayD nodesD
  simp only [D.cl, D.cls, Bool.and_true]
  have a : D.cls (q.1.map D.str) 17 = true := D.cls_iff.mpr fun d hd => by obtain ⟨_, _, rfl⟩ := List.mem_map.mp hd; rfl
  have b : D.cls ((q.2.1 ++ [q.2.2]).map D.int) 17 = true := D.cls_iff.mpr fun d hd => by obtain ⟨_, _, rfl⟩ := List.mem_map.mp hd; rfl
  rw [a, b]
  rfl
theorem WT.take {w : List Str} {p : List Int} {n : Int} (h : WT rows w p n) : ∀ i, i ≤ w.length → ∃ p n, WT rows (w.take i) p n := by
  induction h with
  | top => exact fun i _ => ⟨_, _, by rw [List.take_nil]; exact .top⟩
  | @step w p n m x h0 he ih =>
    intro i hi
    rw [List.length_append, List.length_singleton] at hi
    by_cases c : i ≤ w.length
    · rw [List.take_append_of_le_length c]
      exact ih i c
    · have : i = (w ++ [x]).length := by rw [List.length_append, List.length_singleton]; omega
      rw [this, List.take_length]
      exact ⟨_, _, .step h0 he⟩
theorem eds_few (V : TreeV rows made) (hl : rows.length ≤ 100) : (eds rows).length ≤ 1200 := by
  have el : ∀ l : List Nd, (∀ r ∈ l, r.2.2.length ≤ 12) → (eds l).length ≤ 12 * l.length := by
    intro l
    induction l with
    | nil => intro _; exact Nat.le_refl _
    | cons r l ih =>
      intro h
      have h1 := ih fun q hq => h q (List.mem_cons_of_mem _ hq)
      have h2 := h r (List.mem_cons_self ..)
      show ((r.2.2.map fun e => (r.1, e.1, e.2)) ++ eds l).length ≤ _
      rw [List.length_append, List.length_map, List.length_cons]; omega
  have := el rows V.few
  omega
theorem WT.long (V : TreeV rows made) (hl : rows.length ≤ 100) {w : List Str} {p : List Int} {n : Int} (h : WT rows w p n) : w.length ≤ 1200 := by
  have nd : ((List.range (w.length + 1)).map fun i => w.take i).Nodup := nodup_map_inj List.nodup_range fun a ha b hb e => by
    rw [List.mem_range] at ha hb
    have := congrArg List.length e
    rw [List.length_take, List.length_take] at this
    omega
  have := WT.few V nd fun v hv => by
    obtain ⟨i, hi, rfl⟩ := List.mem_map.mp hv
    rw [List.mem_range] at hi
    exact h.take i (by omega)
  rw [List.length_map, List.length_range] at this
  have := eds_few V hl
  omega
end
end K04
namespace K04
open PySem PySem.Spec PyProof.Rows L2 DL KF
open KB (Nd isK rowD treeD wayD entO srtE srtE_perm wDict_of)
open KD hiding tD sp_row_of len_row_of r_row_of N_row_of vc_row_of sp_kind_of len_kind_of r_kind_of N_kind_of vc_kind_of sp_entries_of len_entries_of r_entries_of N_entries_of vc_entries_of sp_way_through len_way_through r_way_through N_way_through vc_way_through wtA wtB wt1 sp_above len_above r_above N_above vc_above
open _root_.KT (Nms dSeq_go)
def sp__law_all_ways : DSp := fun ds S Q E => ∃ rows made, ds = [treeD rows made] ∧ TreeV rows made ∧ rows.length ≤ 100 ∧ ∀ F ws S', S' F = some (.lst (ws.map wnD)) → AW rows ws → ws.length ≤ 1201 → S F = none → Grow S S' → Q (.ref F) S'
theorem len__law_all_ways : ∀ ds S Q E, sp__law_all_ways ds S Q E → ds.length = (["_law_tree_here"] : List Str).length := fun _ _ _ _ ⟨_, _, e, _⟩ => by rw [e]; rfl
def aw0 : DTS := dPar3 1 2 3 (dCons (dCB wDict (dCons (dLC (diVal (dBin wAt (dV 0) (dC (.int 0))) wIterA) (gdName 6) dYes [6] [6] [] (dTup (dCons (dBin wAt (dV 6) (dC (.int 0))) (dCons (dBin wAt (dV 6) (dC (.int 2))) dNil)))) dNil)) (dCons (dLst dNil) (dCons (dLst (dCons (dTup (dCons (dTup dNil) (dCons (dTup (dCons (dC (.int 0)) dNil)) dNil))) dNil)) dNil)))
def awP : DTS := dAsg (dBM0 "list" wPop (dV 3)) (gdTup 2 (gdCons (gdName 4) (gdCons (gdName 5) gdNil)))
def awA : DTS := dDrop (dBM "list" wAppend (dV 2) (dCons (dTup (dCons (dV 4) (dCons (dV 5) dNil))) dNil))
def awX : DTS := dDrop (dBM "list" wExtend (dV 3) (dCons (dLC (diVal (dBin wAt (dV 1) (dBin wAt (dV 5) (dUn wNeg (dC (.int 1))))) wIterA) (gdTup 2 (gdCons (gdName 7) (gdCons (gdName 8) gdNil))) dYes [7, 8] [7, 8] [] (dTup (dCons (dBin wAdd (dV 4) (dTup (dCons (dV 7) dNil))) (dCons (dBin wAdd (dV 5) (dTup (dCons (dV 8) dNil))) dNil)))) dNil))
def aw1 : DTS := dWhile (dTst (dBin wNe (dV 3) (dLst dNil))) (dSeq awP (dSeq awA awX))
def aw2 : DTS := dRet (dV 2)
def r__law_all_ways : DTS := dSeq aw0 (dSeq aw1 aw2)
abbrev N__law_all_ways : List Str := ["_law_tree_here", "_law_rows", "_law_found", "_law_rest", "_law_way", "_law_nodes", "_law_row", "_law_name", "_law_to"]
def eR (r : Nd) : D × D := (.int r.1, .tup (r.2.2.map pairSI))
section
variable {S S0 : Sto} {rows : List Nd} {made : Int} {Dn : DEnds} {x0 x4 x5 x6 x7 x8 : Option D} {K F R : Addr}
theorem getR (V : TreeV rows made) {n : Int} (h : n ∈ rows.map (·.1)) : dGet (rows.map eR) (.int n) = some (.tup ((entO rows n).map pairSI)) := by
  obtain ⟨r, hr, hm, hi⟩ := V.at_ h
  have e1 : dGet (rows.map eR) (.int n) = (rows.find? fun q => decide (q.1 = n)).map fun q => D.tup (q.2.2.map pairSI) := dGet_int (f := fun q : Nd => q.1) (g := fun q : Nd => D.tup (q.2.2.map pairSI))
  rw [e1, show (rows.find? fun q => decide (q.1 = n)) = some r from hr, entO_eq hr]
  rfl
theorem fitR {n : Int} : keyFit (rows.map eR) (.int n) = true := keyFit_int (f := fun q : Nd => q.1) (g := fun q : Nd => D.tup (q.2.2.map pairSI))
theorem awX_of {q : WN} {Rs : List WN} (V : TreeV rows made) (gK : S K = some (.dct (rows.map eR))) (gR : S R = some (.lst (Rs.map wnD))) (hq : q.2.2 ∈ rows.map (·.1)) (hl : q.1.length ≤ 2000) (hl2 : q.2.1.length ≤ 2000) (hr : (Rs ++ kids rows q).length ≤ 2000)
    (k : ∀ S', S' R = some (.lst ((Rs ++ kids rows q).map wnD)) → (∀ a o, a ≠ R → S a = some o → S' a = some o) → Dn.nx [x0, some (.ref K), some (.ref F), some (.ref R), some (wayD q.1), some (nodesD (q.2.1, q.2.2)), x6, x7, x8] S') :
    awX Dn [x0, some (.ref K), some (.ref F), some (.ref R), some (wayD q.1), some (nodesD (q.2.1, q.2.2)), x6, x7, x8] S := by
  have sz : 100001 < sizeLine := by rw [sizeLine_eq]; decide
  unfold awX
  simp only [dDrop_eq, dBM_eq, dCons_eq, dNil_eq, dLC_eq, diVal_eq, dBin_eq, dUn_eq, dC_eq, wNeg_int]
  refine dV_at (by rfl) ?_
  refine ⟨tyD_lst gR, ?_⟩
  refine dV_at (by rfl) ?_
  refine dV_at (by rfl) ?_
  refine last_at ?_
  rw [wAt_dct gK fitR (getR V hq), wIter_tup]
  intro G hG
  have RG : R ≠ G := ne_of_free hG gR
  have w1 : wipeD [x0, some (.ref K), some (.ref F), some (.ref R), some (wayD q.1), some (nodesD (q.2.1, q.2.2)), x6, x7, x8] [7, 8] = [x0, some (.ref K), some (.ref F), some (.ref R), some (wayD q.1), some (nodesD (q.2.1, q.2.2)), x6, none, none] := rfl
  show loopC _ _ _ _ _ _ (wipeD [x0, some (.ref K), some (.ref F), some (.ref R), some (wayD q.1), some (nodesD (q.2.1, q.2.2)), x6, x7, x8] [7, 8]) _ _
  rw [w1]
  have kl : (entO rows q.2.2).length ≤ 2000 := by
    rw [List.length_append] at hr
    unfold kids at hr
    rw [List.length_map] at hr
    omega
  refine lc_map pairSI (fun e : Str × Int => [wnD (q.1 ++ [e.1], q.2.1 ++ [q.2.2], e.2)]) (entO rows q.2.2) (fun _ => trivial) ?_ (fun e he acc k2 hacc hk => ?_) ?_
  · have := flatMap_le (fun e : Str × Int => [wnD (q.1 ++ [e.1], q.2.1 ++ [q.2.2], e.2)]) 1 (entO rows q.2.2) fun x _ => by simp
    omega
  · refine ⟨rfl, rfl, ?_⟩
    show _ ∧ _
    refine ⟨rfl, ?_⟩
    rw [dYes_eq, if_pos rfl]
    show emLst _ G [x0, some (.ref K), some (.ref F), some (.ref R), some (wayD q.1), some (nodesD (q.2.1, q.2.2)), x6, some (.str e.1), some (.int e.2)] (put S G (.lst acc)) k2
    rw [emLst_eq]
    simp only [dTup_eq, dCons_eq, dNil_eq, dBin_eq]
    refine dV_at (by rfl) ?_
    refine dV_at (by rfl) ?_
    refine ⟨by show 1 ≤ sizeLine; omega, ?_⟩
    show wAdd (.tup (q.1.map D.str)) (.tup [.str e.1]) _ _
    rw [wAdd_tup]
    refine ⟨by rw [List.length_map]; show q.1.length + 1 ≤ sizeLine; omega, ?_⟩
    refine dV_at (by rfl) ?_
    refine dV_at (by rfl) ?_
    refine ⟨by show 1 ≤ sizeLine; omega, ?_⟩
    show wAdd (.tup ((q.2.1 ++ [q.2.2]).map D.int)) (.tup [.int e.2]) _ _
    rw [wAdd_tup]
    refine ⟨by rw [List.length_map, List.length_append]; show q.2.1.length + 1 + 1 ≤ sizeLine; omega, ?_⟩
    refine ⟨by show 2 ≤ sizeLine; omega, ?_⟩
    rw [onL_eq put_same]
    simp only [List.length_singleton] at hacc
    refine ⟨by omega, ?_⟩
    rw [put_put']
    have e1 : D.tup [.tup (q.1.map D.str ++ [.str e.1]), .tup ((q.2.1 ++ [q.2.2]).map D.int ++ [.int e.2])] = wnD (q.1 ++ [e.1], q.2.1 ++ [q.2.2], e.2) := by
      unfold wnD wayD nodesD
      rw [List.map_append (f := D.str), List.map_append (l₂ := [e.2])]
      rfl
    rw [e1]
    exact hk
  · have e1 : ((entO rows q.2.2).flatMap fun e : Str × Int => [wnD (q.1 ++ [e.1], q.2.1 ++ [q.2.2], e.2)]) = (kids rows q).map wnD := by
      unfold kids
      rw [List.map_map, flatMap_one]
      rfl
    rw [e1]
    have gR' : put S G (.lst ((kids rows q).map wnD)) R = some (.lst (Rs.map wnD)) := by rw [put_ne RG]; exact gR
    show wExtend (.ref R) [.ref G] _ _
    rw [wExtend_lst gR' put_same]
    refine ⟨by rw [List.length_map, List.length_map, ← List.length_append]; omega, ?_⟩
    refine k _ (by rw [put_same, List.map_append]) fun a o ha e => ?_
    rw [put_ne ha, put_ne (ne_of_free hG e)]
    exact e
theorem aw1_of {Q : KD} {E : Addr → Prop} (V : TreeV rows made) (hl : rows.length ≤ 100) (gK : S K = some (.dct (rows.map eR))) (gF : S F = some (.lst [])) (gR : S R = some (.lst [wnD ([], [], 0)])) (FR : F ≠ R) (KF' : K ≠ F) (KR' : K ≠ R)
    (k : ∀ ws x4 x5 x6 x7 x8 S', S' F = some (.lst (ws.map wnD)) → AW rows ws → ws.length ≤ 1201 → (∀ a o, a ≠ R → a ≠ F → S a = some o → S' a = some o) → Dn.nx [x0, some (.ref K), some (.ref F), some (.ref R), x4, x5, x6, x7, x8] S') :
    aw1 Dn [x0, some (.ref K), some (.ref F), some (.ref R), none, none, x6, none, none] S := by
  have sz : 100001 < sizeLine := by rw [sizeLine_eq]; decide
  unfold aw1
  refine while_of (fun n τ S' => ∃ (Fs Rs : List WN) (y4 y5 y6 y7 y8 : Option D), n = 1201 - Fs.length ∧ LI rows Fs Rs ∧ S' K = some (.dct (rows.map eR)) ∧ S' F = some (.lst (Fs.map wnD)) ∧ S' R = some (.lst (Rs.map wnD)) ∧ (∀ a o, a ≠ R → a ≠ F → S a = some o → S' a = some o) ∧ τ = [x0, some (.ref K), some (.ref F), some (.ref R), y4, y5, y6, y7, y8]) (fun n τ S' h N hN => ?_) (n := 1201)
    ⟨[], [([], [], 0)], none, none, x6, none, none, rfl, .start, gK, gF, gR, fun _ _ _ _ e => e, rfl⟩
  obtain ⟨Fs, Rs, y4, y5, y6, y7, y8, en, I, gK', gF', gR', kp, rfl⟩ := h
  have sm := I.small V hl
  rw [List.length_append] at sm
  simp only [dTst_eq, dBin_eq, dLst_eq, dNil_eq]
  refine dV_at (by rfl) ?_
  refine ⟨by show 0 ≤ sizeLine; omega, fun P hP => ?_⟩
  have clean : ∀ d ∈ Rs.map wnD, d.cl 19 = true := fun d hd => by
    obtain ⟨q, _, rfl⟩ := List.mem_map.mp hd
    exact wn_clean q
  have gR2 : put S' P (.lst []) R = some (.lst (Rs.map wnD)) := by rw [put_ne (ne_of_free hP gR')]; exact gR'
  rw [wNe_of (.lst gR2 clean) (.lst (put_same (o := .lst [])) (fun d hd => by cases hd)), isB_bl]
  have kp2 : ∀ a o, a ≠ R → a ≠ F → S a = some o → put S' P (.lst []) a = some o := fun a o h1 h2 e => by
    have := kp a o h1 h2 e
    rw [put_ne (ne_of_free hP this)]; exact this
  have gK2 : put S' P (.lst []) K = some (.dct (rows.map eR)) := by rw [put_ne (ne_of_free hP gK')]; exact gK'
  have gF2 : put S' P (.lst []) F = some (.lst (Fs.map wnD)) := by rw [put_ne (ne_of_free hP gF')]; exact gF'
  generalize put S' P (.lst []) = S2 at *
  rcases List.eq_nil_or_concat Rs with rfl | ⟨R0, q, rfl⟩
  · rw [if_neg (by simp)]
    exact k Fs _ _ _ _ _ S2 gF2 I.done (by omega) kp2
  · rw [if_pos (by simp)]
    rw [List.concat_eq_append] at I gR2 sm clean
    have hq : WT rows q.1 q.2.1 q.2.2 := I.wt q (by simp)
    have I2 := I.next V
    have sm2 := I2.small V hl
    rw [List.length_append, List.length_append, List.length_singleton] at sm2
    rw [List.map_append, List.map_singleton] at gR2
    refine dSeq_go ?_
    unfold awP
    simp only [dAsg_eq, dBM0_eq]
    refine dV_at (by rfl) ?_
    refine ⟨tyD_lst gR2, wPop_end gR2 ?_⟩
    refine ⟨rfl, rfl, ?_⟩
    show dSeq awA awX _ [x0, some (.ref K), some (.ref F), some (.ref R), some (wayD q.1), some (nodesD (q.2.1, q.2.2)), y6, y7, y8] (put S2 R (.lst (R0.map wnD)))
    have gF3 : put S2 R (.lst (R0.map wnD)) F = some (.lst (Fs.map wnD)) := by rw [put_ne FR]; exact gF2
    refine dSeq_go ?_
    unfold awA
    simp only [dDrop_eq, dBM_eq, dCons_eq, dNil_eq, dTup_eq]
    refine dV_at (by rfl) ?_
    refine ⟨tyD_lst gF3, ?_⟩
    refine dV_at (by rfl) ?_
    refine dV_at (by rfl) ?_
    refine ⟨by show 2 ≤ sizeLine; omega, ?_⟩
    rw [wAppend_lst gF3]
    refine ⟨by rw [List.length_map]; omega, ?_⟩
    show awX _ [x0, some (.ref K), some (.ref F), some (.ref R), some (wayD q.1), some (nodesD (q.2.1, q.2.2)), y6, y7, y8] (put (put S2 R (.lst (R0.map wnD))) F (.lst (Fs.map wnD ++ [wnD q])))
    have wl : q.1.length ≤ 1200 := hq.long V hl
    have pl : q.2.1.length ≤ 1200 := by rw [hq.len]; exact wl
    refine awX_of V (by rw [put_ne KF', put_ne KR']; exact gK2) (by rw [put_ne (Ne.symm FR)]; exact put_same) (hq.node V) (by omega) (by omega) (by rw [List.length_append]; rw [List.length_append] at sm2; omega) fun S3 gR3 kp3 => ?_
    refine hN (1201 - (Fs ++ [q]).length) _ _ ?_ ⟨Fs ++ [q], R0 ++ kids rows q, _, _, _, _, _, rfl, I2, ?_, ?_, gR3, fun a o h1 h2 e => ?_, rfl⟩
    · rw [List.length_append, List.length_singleton, en]
      rw [List.length_append] at sm2
      omega
    · exact kp3 _ _ KR' (by rw [put_ne KF', put_ne KR']; exact gK2)
    · refine kp3 _ _ FR ?_
      rw [put_same, List.map_append]
      rfl
    · refine kp3 _ _ h1 ?_
      rw [put_ne h2, put_ne h1]
      exact kp2 a o h1 h2 e
end
theorem vc__law_all_ways {ds S Q E} (h : sp__law_all_ways ds S Q E) : r__law_all_ways (bodyEnds Q) (startD N__law_all_ways ds) S := by
  have sz : 100001 < sizeLine := by rw [sizeLine_eq]; decide
  obtain ⟨rows, made, rfl, V, hl, k⟩ := h
  show r__law_all_ways _ [some (treeD rows made), none, none, none, none, none, none, none, none] S
  unfold r__law_all_ways
  refine dSeq_go ?_
  unfold aw0
  simp only [dPar3_eq, dCB_eq, dCons_eq, dNil_eq, dLC_eq, diVal_eq, dBin_eq, dC_eq]
  refine dV_at (by rfl) ?_
  unfold treeD
  rw [wAt_tup, atI0, onS_some, wIter_tup]
  intro G hG
  have w1 : wipeD [some (.tup [.tup (rows.map rowD), .int made]), none, none, none, none, none, none, none, none] [6] = [some (.tup [.tup (rows.map rowD), .int made]), none, none, none, none, none, none, none, none] := rfl
  show loopC _ _ _ _ _ _ (wipeD [some (.tup [.tup (rows.map rowD), .int made]), none, none, none, none, none, none, none, none] [6]) _ _
  rw [w1]
  refine lc_map rowD (fun r : Nd => [D.tup [.int r.1, .tup (r.2.2.map pairSI)]]) rows (fun _ => trivial) ?_ (fun r hr acc k2 hacc hk => ?_) ?_
  · have := flatMap_le (fun r : Nd => [D.tup [.int r.1, .tup (r.2.2.map pairSI)]]) 1 rows fun x _ => by simp
    omega
  · show _ ∧ _
    refine ⟨by simp, ?_⟩
    rw [dYes_eq, if_pos rfl, emLst_eq]
    simp only [dTup_eq, dCons_eq, dNil_eq, dBin_eq, dC_eq]
    refine dV_at (by rfl) ?_
    show wAt (.tup [.int r.1, .str r.2.1, .tup (r.2.2.map pairSI)]) (.int 0) _ _
    rw [wAt_tup, atI0, onS_some]
    refine dV_at (by rfl) ?_
    show wAt (.tup [.int r.1, .str r.2.1, .tup (r.2.2.map pairSI)]) (.int 2) _ _
    rw [wAt_tup, atI2, onS_some]
    refine ⟨by show 2 ≤ sizeLine; omega, ?_⟩
    rw [onL_eq put_same]
    simp only [List.length_singleton] at hacc
    exact ⟨by omega, by rw [put_put']; exact hk⟩
  · have e1 : (rows.flatMap fun r : Nd => [D.tup [.int r.1, .tup (r.2.2.map pairSI)]]) = rows.map fun r : Nd => D.tup [.int r.1, .tup (r.2.2.map pairSI)] := flatMap_one _ _
    rw [e1]
    refine wDict_of (f := fun r : Nd => r.1) (g := fun r : Nd => D.tup (r.2.2.map pairSI)) (xs := rows) (by simp [seqOf, put_same]) V.nodup fun K hK => ?_
    have gK : put (put S G (.lst (rows.map fun r : Nd => D.tup [.int r.1, .tup (r.2.2.map pairSI)]))) K (.dct (rows.map eR)) K = some (.dct (rows.map eR)) := put_same
    have gr : Grow S (put (put S G (.lst (rows.map fun r : Nd => D.tup [.int r.1, .tup (r.2.2.map pairSI)]))) K (.dct (rows.map eR))) := (Grow.put hG).then hK
    show dLst dNil _ (put (put S G (.lst (rows.map fun r : Nd => D.tup [.int r.1, .tup (r.2.2.map pairSI)]))) K (.dct (rows.map eR))) _
    generalize put (put S G (.lst (rows.map fun r : Nd => D.tup [.int r.1, .tup (r.2.2.map pairSI)]))) K (.dct (rows.map eR)) = S1 at *
    rw [dLst_eq, dNil_eq]
    refine ⟨by show 0 ≤ sizeLine; omega, fun F hF => ?_⟩
    simp only [dLst_eq, dTup_eq, dCons_eq, dNil_eq, dC_eq]
    refine ⟨by show 0 ≤ sizeLine; omega, by show 1 ≤ sizeLine; omega, by show 2 ≤ sizeLine; omega, by show 1 ≤ sizeLine; omega, fun R hR => ?_⟩
    have gF : put S1 F (.lst []) F = some (.lst []) := put_same
    have FR : F ≠ R := ne_of_free hR gF
    have KF' : K ≠ F := ne_of_free hF gK
    have KR' : K ≠ R := ne_of_free hR (by rw [put_ne KF']; exact gK)
    have F0 : S F = none := gr.free hF
    have R0 : S R = none := gr.free (by rw [put_ne (Ne.symm FR)] at hR; exact hR)
    show aw1 _ [some (treeD rows made), some (.ref K), some (.ref F), some (.ref R), none, none, none, none, none] (put (put S1 F (.lst [])) R (.lst [wnD ([], [], 0)]))
    refine aw1_of (Q := Q) (E := fun _ => True) V hl (by rw [put_ne KR', put_ne KF']; exact gK) (by rw [put_ne FR]; exact gF) put_same FR KF' KR' fun ws x4 x5 x6 x7 x8 S2 gF2 A hws kp => ?_
    show aw2 (bodyEnds Q) [some (treeD rows made), some (.ref K), some (.ref F), some (.ref R), x4, x5, x6, x7, x8] S2
    unfold aw2
    rw [dRet_eq]
    refine dV_at (by rfl) ?_
    refine k F ws S2 gF2 A hws F0 fun a o e => ?_
    have n1 : a ≠ F := fun z => by rw [z, F0] at e; cases e
    have n2 : a ≠ R := fun z => by rw [z, R0] at e; cases e
    refine kp a o n2 n1 ?_
    rw [put_ne n2, put_ne n1]
    exact gr a o e
end K04
namespace K04
open PySem PySem.Spec PyProof.Rows L2 DL KF
open KB (Nd isK rowD treeD wayD entO srtE srtE_perm)
open KD hiding tD sp_row_of len_row_of r_row_of N_row_of vc_row_of sp_kind_of len_kind_of r_kind_of N_kind_of vc_kind_of sp_entries_of len_entries_of r_entries_of N_entries_of vc_entries_of sp_way_through len_way_through r_way_through N_way_through vc_way_through wtA wtB wt1 sp_above len_above r_above N_above vc_above
open K03 (Ask rowP sp_kind_of sp_entries_of)
open _root_.KT (dSeq_go)
def sp_above (c : Addr) : DSp := fun ds S Q E => ∃ rows made d, ds = [treeD rows made, d] ∧ TreeV rows made ∧ rows.length ≤ 1000 ∧ Ask d ∧ (∀ r, rowP rows d = some r → r.2.1 = ("drawer" : Str) → ∀ S', Q (.tup ((abv rows r.1).map D.int)) S') ∧
  (∀ r, rowP rows d = some r → r.2.1 = ("sheet" : Str) → ∀ S', E (.ref c) [("word", .str "sheet")] S') ∧ (rowP rows d = none → ∀ S', E (.ref c) [("word", .str "node")] S')
theorem len_above {c : Addr} : ∀ ds S Q E, sp_above c ds S Q E → ds.length = (["tree", "node"] : List Str).length := fun _ _ _ _ ⟨_, _, _, e, _⟩ => by rw [e]; rfl
def abR (c_NoStep : Addr) (E : KX) : DTS := dIfS (dTst (dBin wEq (dCallX (sp_kind_of c_NoStep) [] E (dCons (dV 0) (dCons (dV 1) dNil))) (dC (.str "sheet")))) (dRaise c_NoStep ["word"] E (dCons (dC (.str "sheet")) dNil)) dNext
def r_above (c_NoStep : Addr) (E : KX) : DTS := dSeq (abR c_NoStep E) (dSeq ab1 (dSeq ab2 (dSeq ab3 (dRet (dV 4)))))
abbrev N_above : List Str := ["tree", "node", "here", "held", "found"]
theorem vc_above {c : Addr} {ds S Q E} (h : sp_above c ds S Q E) : r_above c E (bodyEnds Q) (startD N_above ds) S := by
  obtain ⟨rows, made, d, rfl, V, hl, hA, k, k1, k2⟩ := h
  show r_above _ _ _ [some (treeD rows made), some d, none, none, none] S
  unfold r_above
  refine dSeq_go ?_
  unfold abR
  simp only [dIfS_eq, dTst_eq, dBin_eq, dC_eq, dCallX_eq, dCons_eq, dNil_eq, List.append_nil]
  refine dV_at (by rfl) ?_
  refine dV_at (by rfl) ?_
  refine ⟨rows, made, d, rfl, V, hA, fun r hr S1 => ?_, k2⟩
  show wEq (.str r.2.1) (.str "sheet") _ _
  rw [wEq_str, isB_bl]
  by_cases hs : r.2.1 = ("sheet" : Str)
  · rw [if_pos (by simpa using hs)]
    simp only [dRaise_eq, dCons_eq, dNil_eq, dC_eq]
    exact ⟨rfl, k1 r hr hs S1⟩
  · rw [if_neg (by simpa using hs)]
    obtain ⟨n, rfl⟩ : ∃ n, d = .int n := by
      cases d with
      | int n => exact ⟨n, rfl⟩
      | _ => cases hr
    obtain ⟨hm, hri⟩ := rowO_mem (rows := rows) (n := n) hr
    subst hri
    have hk : r.2.1 = ("drawer" : Str) := by
      rcases V.kd r hm with h | h
      · exact h
      · exact absurd h hs
    have hin : r.1 ∈ rows.map (·.1) := List.mem_map_of_mem hm
    have cl := V.abv hm hk
    show dSeq ab1 (dSeq ab2 (dSeq ab3 (dRet (dV 4)))) (bodyEnds Q) [some (treeD rows made), some (.int r.1), none, none, none] S1
    refine dSeq_go ?_
    unfold ab1
    simp only [dPar_eq, dCall_eq, dCons_eq, dNil_eq, dBin_eq, dC_eq, dTup_eq, List.append_nil]
    refine dV_at (by rfl) ?_
    unfold treeD
    rw [wAt_tup, atI0, onS_some]
    refine ⟨rows, made, rfl, V, hl, fun p bs S2 I ids => ?_⟩
    refine ⟨by show 0 ≤ sizeLine; exact Nat.zero_le _, ?_⟩
    show dSeq ab2 _ (bodyEnds Q) [some (.tup [.tup (rows.map rowD), .int made]), some (.int r.1), none, some (.ref p), some (.tup [])] S2
    refine dSeq_go ?_
    unfold ab2
    simp only [dAsg_eq, gdName_eq]
    refine dV_at (by rfl) ?_
    show dSeq ab3 _ (bodyEnds Q) [some (.tup [.tup (rows.map rowD), .int made]), some (.int r.1), some (.int r.1), some (.ref p), some (.tup [])] S2
    refine dSeq_go ?_
    refine ab3_of V I ids hl cl hin fun y => ?_
    show dRet (dV 4) (bodyEnds Q) [some (.tup [.tup (rows.map rowD), .int made]), some (.int r.1), y, some (.ref p), some (.tup ((abv rows r.1).map D.int))] S2
    rw [dRet_eq]
    refine dV_at (by rfl) ?_
    exact k r hr hk _
section
variable {rows : List Nd} {made : Int}
theorem WT.climb (V : TreeV rows made) {w : List Str} {p : List Int} {n : Int} (h : WT rows w p n) : kindO rows n = ("drawer" : Str) → Climb rows n p.reverse := by
  induction h with
  | top => exact fun _ => .top
  | @step w p n m x h0 he ih =>
    intro hk
    have hm := V.tg_ (lk_some V he)
    obtain ⟨q, hq, hqm, hqi⟩ := V.at_ hm.1
    have one := V.one q hqm (by rw [← kindO_eq hq]; exact hk)
    rw [hqi, ← hold_count] at one
    obtain ⟨r, hr, er, hee⟩ := lk_some V he
    have h2 : n ∈ hold rows m := hold_mem.mpr ⟨r, hr, er, _, hee, rfl⟩
    rw [List.reverse_append, List.reverse_singleton]
    cases hh : hold rows m with
    | nil => rw [hh] at h2; cases h2
    | cons a t =>
      rw [hh] at one h2
      have ht : t = [] := by
        cases t with
        | nil => rfl
        | cons _ _ => simp at one
      subst ht
      have : n = a := by simpa using h2
      rw [← this] at hh
      show Climb rows m (n :: p.reverse)
      exact .step (by have := hm.2; omega) hh (ih (ed_drawer V he))
theorem WT.abv (V : TreeV rows made) {w : List Str} {p : List Int} {n : Int} (h : WT rows w p n) (hk : kindO rows n = ("drawer" : Str)) : abv rows n = p.reverse := by
  obtain ⟨q, hq, hqm, hqi⟩ := V.at_ (h.node V)
  have := V.abv hqm (by rw [← kindO_eq hq]; exact hk)
  rw [hqi] at this
  exact this.uniq (h.climb V hk)
theorem WT.short (V : TreeV rows made) {w : List Str} {p : List Int} {n : Int} (h : WT rows w p n) : w.length ≤ rows.length := by
  cases h with
  | top => exact Nat.zero_le _
  | @step v q m _ x h0 he =>
    have c := h0.climb V (ed_drawer V he)
    have nd : (q ++ [m]).Nodup := by
      have h1 := c.nodup
      rw [List.nodup_append]
      refine ⟨(List.reverse_perm q).nodup_iff.mp h1, by simp, fun a ha b hb e => ?_⟩
      rw [List.mem_singleton.mp hb] at e
      subst e
      obtain ⟨l, c2, lt⟩ := c.sub a (List.mem_reverse.mpr ha)
      have := c.uniq c2
      rw [← this] at lt
      omega
    have := nd.length_le_of_subset (l₂ := rows.map (·.1)) fun k hk => by
      rcases List.mem_append.mp hk with hk | hk
      · exact h0.nodes V k hk
      · rw [List.mem_singleton.mp hk]; exact h0.node V
    rw [List.length_map, List.length_append, List.length_singleton, h0.len] at this
    rw [List.length_append, List.length_singleton]
    exact this
end
end K04
namespace K04
open PySem PySem.Spec PyProof.Rows L2 DL KF
open KB (Nd isK rowD treeD wayD entO srtE srtE_perm)
open KD hiding tD sp_row_of len_row_of r_row_of N_row_of vc_row_of sp_kind_of len_kind_of r_kind_of N_kind_of vc_kind_of sp_entries_of len_entries_of r_entries_of N_entries_of vc_entries_of sp_way_through len_way_through r_way_through N_way_through vc_way_through wtA wtB wt1 sp_above len_above r_above N_above vc_above
open _root_.KT (nlt nlt_irrefl nlt_trans nlt_of same_of)
open PySem.W (listLt Tup)
def wlt (v w : List Str) : Prop := listLt v w = true
theorem lt_str (x y : Str) : PySem.W.DatumOrd.lt x y = true ↔ nlt x y := by
  show decide (x.cps.toList < y.cps.toList) = true ↔ _
  exact decide_eq_true_iff
theorem wlt_irrefl : ∀ v : List Str, ¬ wlt v v
  | [] => by unfold wlt; simp [listLt]
  | x :: v => by
    unfold wlt
    rw [listLt, if_pos rfl]
    exact wlt_irrefl v
theorem wlt_cons {x y : Str} {v w : List Str} : wlt (x :: v) (y :: w) ↔ nlt x y ∨ (x = y ∧ wlt v w) := by
  unfold wlt
  rw [listLt]
  by_cases h : x = y
  · subst h
    rw [if_pos rfl]
    exact ⟨fun z => Or.inr ⟨rfl, z⟩, fun z => z.elim (fun z => absurd z (nlt_irrefl x)) fun z => z.2⟩
  · rw [if_neg h, lt_str]
    exact ⟨Or.inl, fun z => z.elim id fun z => absurd z.1 h⟩
theorem wlt_trans : ∀ u v w : List Str, wlt u v → wlt v w → wlt u w
  | [], v, w, h, k => by
    cases w with
    | nil => cases v <;> (unfold wlt at k; simp [listLt] at k)
    | cons z w => unfold wlt; rw [listLt]
  | x :: u, v, w, h, k => by
    cases v with
    | nil => unfold wlt at h; simp [listLt] at h
    | cons y v =>
      cases w with
      | nil => unfold wlt at k; simp [listLt] at k
      | cons z w =>
        rw [wlt_cons] at h k ⊢
        rcases h with h | ⟨e, h⟩
        · rcases k with k | ⟨e2, k⟩
          · exact Or.inl (nlt_trans h k)
          · subst e2; exact Or.inl h
        · subst e
          rcases k with k | ⟨e2, k⟩
          · exact Or.inl k
          · exact Or.inr ⟨e2, wlt_trans u v w h k⟩
theorem wlt_tri : ∀ v w : List Str, ¬ wlt v w → ¬ wlt w v → v = w
  | [], [], _, _ => rfl
  | [], y :: w, h, _ => absurd (by unfold wlt; rw [listLt]) h
  | x :: v, [], _, k => absurd (by unfold wlt; rw [listLt]) k
  | x :: v, y :: w, h, k => by
    rw [wlt_cons] at h k
    by_cases e : x = y
    · subst e
      rw [wlt_tri v w (fun z => h (Or.inr ⟨rfl, z⟩)) fun z => k (Or.inr ⟨rfl, z⟩)]
    · exact absurd (Or.inl (nlt_of (fun z => k (Or.inl z)) e)) h
def RiseW (ws : List (List Str)) : Prop := ws.Pairwise wlt
theorem RiseW.same {l m : List (List Str)} (hl : RiseW l) (hm : RiseW m) (h : ∀ x, x ∈ l ↔ x ∈ m) : l = m := same_of wlt_irrefl wlt_trans hl hm h
def leW (a b : List Str) : Bool := !listLt b a
theorem way_py (w : List Str) : (wayD w).py = PySem.W.Datum.toD (⟨w⟩ : Tup Str) := by
  show PyData.tuple (D.pys (w.map D.str)) = PyData.tuple (w.map PySem.W.Datum.toD)
  congr 1
  induction w with
  | nil => rfl
  | cons x w ih =>
    rw [List.map_cons, List.map_cons, D.pys, ih]
    rfl
theorem ints_py (l : List Int) : (D.tup (l.map D.int)).py = PySem.W.Datum.toD (⟨l⟩ : Tup Int) := by
  show PyData.tuple (D.pys (l.map D.int)) = PyData.tuple (l.map PySem.W.Datum.toD)
  congr 1
  induction l with
  | nil => rfl
  | cons x w ih =>
    rw [List.map_cons, List.map_cons, D.pys, ih]
    rfl
theorem le_way (a b : List Str) : PySem.W.dataLe false (fun w => (wayD w).py) a b = leW a b := by
  rw [PySem.W.dataLe_eq]
  show (!PySem.W.dataLt (wayD b).py (wayD a).py) = _
  rw [way_py, way_py, PySem.W.DatumOrd.lt_eq]
  rfl
theorem leW_total (a b : List Str) : leW a b = true ∨ leW b a = true := by
  unfold leW
  cases h1 : listLt b a with
  | false => exact Or.inl rfl
  | true =>
    cases h2 : listLt a b with
    | false => exact Or.inr rfl
    | true => exact absurd (wlt_trans a b a h2 h1) (wlt_irrefl a)
theorem leW_trans {a b c : List Str} (h : leW a b = true) (k : leW b c = true) : leW a c = true := by
  unfold leW at *
  cases h3 : listLt c a with
  | false => rfl
  | true =>
    simp only [Bool.not_eq_true'] at h k
    by_cases e : a = b
    · subst e; rw [h3] at k; cases k
    · have ab : wlt a b := by
        by_cases z : wlt a b
        · exact z
        · exact absurd (wlt_tri a b z (fun y => by unfold wlt at y; rw [h] at y; cases y)) e
      have cb : wlt c b := wlt_trans c a b h3 ab
      unfold wlt at cb
      rw [k] at cb
      cases cb
def srtW (ws : List (List Str)) : List (List Str) := ws.mergeSort leW
theorem srtW_perm (ws : List (List Str)) : (srtW ws).Perm ws := List.mergeSort_perm ws leW
theorem srtW_rise {ws : List (List Str)} (nd : ws.Nodup) : RiseW (srtW ws) := by
  have h1 : (srtW ws).Pairwise fun a b => leW a b = true := List.pairwise_mergeSort (le := leW) (fun a b c h k => leW_trans (a := a) (b := b) (c := c) h k) (fun a b => by
    rcases leW_total a b with h | h
    · exact Bool.or_eq_true_iff.mpr (.inl h)
    · exact Bool.or_eq_true_iff.mpr (.inr h)) ws
  have h2 : (srtW ws).Pairwise fun a b => a ≠ b := (srtW_perm ws).nodup_iff.mpr nd
  refine (List.Pairwise.and h1 h2).imp fun {a b} h => ?_
  by_cases z : wlt a b
  · exact z
  · refine absurd (wlt_tri a b z fun y => ?_) h.2
    have := h.1
    unfold leW at this
    unfold wlt at y
    rw [y] at this
    cases this
theorem sorted_ways {S : Sto} {Q : KD} {a : Addr} (ws : List (List Str)) (h : S a = some (.lst (ws.map wayD))) (ne : ∀ w ∈ ws, w ≠ []) (q : ∀ p, S p = none → Q (.ref p) (put S p (.lst ((srtW ws).map wayD)))) : wSortedD [.ref a] S Q := by
  have e : wSortedD [.ref a] S Q = wSorted [.ref a] S Q := by
    unfold wSortedD
    simp [dctOf, h]
  rw [e]
  refine wSorted_of ws wayD leW (lstOf_ref h) (fun w _ => ?_) (fun x _ y _ => ?_) (.inl fun w hw => ?_) le_way q
  · unfold wayD
    simp only [D.cl]
    exact D.cls_iff.mpr fun d hd => by obtain ⟨_, _, rfl⟩ := List.mem_map.mp hd; rfl
  · rw [way_py, way_py]
    exact PySem.W.DatumOrd.alike _ _
  · cases w with
    | nil => exact absurd rfl (ne [] hw)
    | cons x w => exact ⟨.str x, D.pys (w.map D.str), rfl⟩
def wnP (q : WN) : Tup Str × Tup Int := (⟨q.1⟩, ⟨q.2.1 ++ [q.2.2]⟩)
theorem wn_py (q : WN) : (wnD q).py = PySem.W.Datum.toD (wnP q) := by
  show PyData.tuple [(wayD q.1).py, (nodesD (q.2.1, q.2.2)).py] = PyData.tuple [_, _]
  rw [way_py]
  unfold nodesD
  rw [ints_py]
  rfl
def leN (a b : WN) : Bool := !(PySem.W.DatumOrd.lt (wnP b) (wnP a))
theorem le_wn (a b : WN) : PySem.W.dataLe false (fun q => (wnD q).py) a b = leN a b := by
  rw [PySem.W.dataLe_eq]
  show (!PySem.W.dataLt (wnD b).py (wnD a).py) = _
  rw [wn_py, wn_py, PySem.W.DatumOrd.lt_eq]
  rfl
theorem leN_way {a b : WN} (ne : a.1 ≠ b.1) (h : leN a b = true) : wlt a.1 b.1 := by
  unfold leN at h
  have e : PySem.W.DatumOrd.lt (wnP b) (wnP a) = listLt b.1 a.1 := by
    show (if (wnP b).1 = (wnP a).1 then _ else PySem.W.DatumOrd.lt (wnP b).1 (wnP a).1) = _
    rw [if_neg (fun z => ne (by have := congrArg Tup.items z; exact this.symm))]
    rfl
  rw [e] at h
  by_cases z : wlt a.1 b.1
  · exact z
  · refine absurd (wlt_tri _ _ z fun y => ?_) ne
    unfold wlt at y
    rw [y] at h
    cases h
def srtN (ws : List WN) : List WN := ws.mergeSort leN
theorem srtN_perm (ws : List WN) : (srtN ws).Perm ws := List.mergeSort_perm ws leN
theorem srtN_rise {ws : List WN} (nd : (ws.map (·.1)).Nodup) : RiseW ((srtN ws).map (·.1)) := by
  have T := PySem.W.sortLe_total (PyProof.Rows.listOrd PyProof.Rows.itemOrd) false (fun q : WN => PySem.W.keyToks (wnD q).py)
  have h1 : (srtN ws).Pairwise fun a b => leN a b = true := by
    have e : leN = fun a b : WN => PySem.W.dataLe false (fun q => (wnD q).py) a b := by
      funext a b; exact (le_wn a b).symm
    unfold srtN
    rw [e]
    exact List.pairwise_mergeSort (fun a b c h1 h2 => T.trans a b c h1 h2) (fun a b => by
      rcases T.total a b with h | h
      · exact Bool.or_eq_true_iff.mpr (.inl h)
      · exact Bool.or_eq_true_iff.mpr (.inr h)) ws
  have h2 : (srtN ws).Pairwise fun a b => a.1 ≠ b.1 := List.pairwise_map.mp (((srtN_perm ws).map (fun q : WN => q.1)).nodup_iff.mpr nd)
  unfold RiseW
  rw [List.pairwise_map]
  exact (List.Pairwise.and h1 h2).imp fun {a b} h => leN_way h.2 h.1
theorem sorted_wns {S : Sto} {Q : KD} {a : Addr} (ws : List WN) (h : S a = some (.lst (ws.map wnD))) (q : ∀ p, S p = none → Q (.ref p) (put S p (.lst ((srtN ws).map wnD)))) : wSortedD [.ref a] S Q := by
  have e : wSortedD [.ref a] S Q = wSorted [.ref a] S Q := by
    unfold wSortedD
    simp [dctOf, h]
  rw [e]
  refine wSorted_of ws wnD leN (lstOf_ref h) (fun q _ => D.cl_up _ 19 20 (by decide) (wn_clean q)) (fun x _ y _ => ?_) (.inl fun q hq => ⟨_, _, rfl⟩) le_wn q
  rw [wn_py, wn_py]
  exact PySem.W.DatumOrd.alike _ _
end K04
namespace DL
open PySem PySem.Spec PyProof.Rows L2
theorem setR_few {w : World} {h : Heap} {a : Addr} {ns m : List Int} {n : Nat} (R : SetR w h a (fun j => decide (j ∈ ns)) n) (hm : ∀ k ∈ ns, k ∈ m) : n ≤ m.length := by
  obtain ⟨o, es, ep, t, ho, hex, hd, g, nd, hmem, hb, hf, hn, hr, hl⟩ := R
  have sub : ∀ k ∈ es.toList.map keyOf, k ∈ m := fun k hk => hm k (of_decide_eq_true ((hmem k).mpr hk))
  have := nd.length_le_of_subset sub
  rw [List.length_map, Array.length_toList] at this
  omega
def dSortedSetF (te : DTE) : DTE := fun τ S Q => te τ S fun d S1 => onS (lstOf S1 d) fun ds => onS (intsD ds) fun ns => ns.length < 4000 ∧ (∃ m : List Int, m.length < 63 ∧ ∀ k ∈ ns, k ∈ m) ∧ ∀ (ms : List Int) (p : Addr), ms.Pairwise (· < ·) → (∀ k, k ∈ ms ↔ k ∈ ns) → S1 p = none → Q (.ref p) (put S1 p (.lst (ms.map D.int)))
theorem dSortedSetF_of {t : DTE} {τ : DSt} {S : Sto} {Q : KD} : dSortedSetF t τ S Q = t τ S fun d S1 => onS (lstOf S1 d) fun ds => onS (intsD ds) fun ns => ns.length < 4000 ∧ (∃ m : List Int, m.length < 63 ∧ ∀ k ∈ ns, k ∈ m) ∧ ∀ (ms : List Int) (p : Addr), ms.Pairwise (· < ·) → (∀ k, k ∈ ms ↔ k ∈ ns) → S1 p = none → Q (.ref p) (put S1 p (.lst (ms.map D.int))) := rfl
section
variable {X : Cx}
theorem de_sortedSetF {e : Expr} {te : DTE} {p1 p2 q1 q2 : Pos} (hc : X.calm = true) (hu : X.A.units + 65 < cLine) (hm1 : X.mg "sorted" = none) (hm2 : X.mg "set" = none) (hg1 : Gl X "sorted") (hg2 : Gl X "set") (he : DE X e te)
    (na : starEach [e] X.env = (false, eval e X.env) :: starEach [] X.env := by rfl) :
    DE X (.Call (.Name "sorted" p1) [.Call (.Name "set" p2) [e] [] q2] [] q1) (dSortedSetF te) := ⟨fun pins s σ H τ S Q I st hr q => by
  refine Call_ (ld_blt I hg1 hm1 boot_sorted ?_)
  refine PyProof.Rows.callWith_builtin1 (PyProof.Rows.args_cons ?_ rfl) rfl rfl
  refine Call_ (ld_blt I hg2 hm2 boot_set ?_)
  refine PyProof.Rows.callWith_type1 (PyProof.Rows.args_cons (thn (he.run pins s σ H τ S _ I st hr q) fun v s1 ⟨x, H1, I1, r1, e1, d, S1, hr1, rd, q1⟩ => PyProof.Rows.args_nil ?_) na) na rfl
  obtain ⟨ds, ed, q1⟩ := onS.out q1
  obtain ⟨ns, en, h63, ⟨m, hm63, hmm⟩, q9⟩ := onS.out q1
  have := intsD_eq en
  subst this
  obtain ⟨a, its, vs, rfl, rfl, z1, z2, z3, z4⟩ := lst_at I1 hr1 r1 rd ed
  refine set_of_list ns (I1.ok.hd hc) z4 (by simpa using ints_vals z1 z2) (by show _ < 4096; omega) fun h' tk c hR hcn hk => ?_
  have few := setR_few hR hmm
  have I2 : Inv X pins σ H1 { s1 with heap := h', toks := tk } := I1.kept hk
  refine PyProof.Rows.args_nil (sorted_set hR (I2.ok.hd hc) (by omega) fun s' p out c' ms k g o hp hg hi hs hm hl => ?_)
  have hlen : (ms.map V.int).length ≤ sizeLine := by rw [List.length_map, hl, sizeLine_eq]; omega
  have hn : H1 p = none := I2.hok.fresh hp
  have J : Inv X pins σ (upd H1 p (.lst (ms.map V.int))) { ({ s1 with heap := h', toks := tk } : Shared) with heap := s'.heap, gens := s'.gens, drawn := s'.drawn, toks := s'.toks } :=
    I2.call (ch := []) (Un.laid k hp hn) (I2.hok.laid k hp ⟨hlen, out.toList, c', vals_of_ints hi, hg⟩) (by rw [g]; exact I2.bare) (fun _ z => nomatch z)
  have e : s' = { ({ s1 with heap := h', toks := tk } : Shared) with heap := s'.heap, gens := s'.gens, drawn := s'.drawn, toks := s'.toks } := by
    cases s'
    cases o
    rfl
  rw [e]
  exact ⟨.ref p, _, J, rfl, .of (e1.trans (.new hn)) (hr1.lst hn (.ints ms)) (.ref p) (q9 ms p hs (fun k => by rw [hm k, decide_eq_true_eq]) (hr1.free hn))⟩⟩
end
end DL
namespace K04
open PySem PySem.Spec PyProof.Rows L2 DL KF
open KB (Nd isK rowD treeD wayD entO srtE srtE_perm)
open KD hiding tD sp_row_of len_row_of r_row_of N_row_of vc_row_of sp_kind_of len_kind_of r_kind_of N_kind_of vc_kind_of sp_entries_of len_entries_of r_entries_of N_entries_of vc_entries_of sp_way_through len_way_through r_way_through N_way_through vc_way_through wtA wtB wt1 sp_above len_above r_above N_above vc_above
open K03 (Ask rowP sp_kind_of sp_entries_of)
open _root_.KT (dSeq_go)
structure WsTo (rows : List Nd) (n : Int) (ws : List (List Str)) : Prop where
  rise : RiseW ws
  mem : ∀ w, w ∈ ws ↔ ∃ p, WT rows w p n
theorem RiseW.nodup {ws : List (List Str)} (h : RiseW ws) : ws.Nodup := h.imp fun {a b} z e => by
  rw [e] at z; exact wlt_irrefl _ z
def spR_ways_to (c : Addr) (k : Nat) : DSp := fun ds S Q E => ∃ rows made d, ds = [treeD rows made, d] ∧ TreeV rows made ∧ rows.length ≤ 50 ∧ Ask d ∧ (∀ n, d = .int n → ∀ w p, WT rows w p n → w.length ≤ k) ∧
  (∀ n r, d = .int n → rowO rows n = some r → ∀ ws, WsTo rows n ws → ∀ S', Q (.tup (ws.map wayD)) S') ∧ (rowP rows d = none → ∀ S', E (.ref c) [("word", .str "node")] S')
def prv_ways_to (c : Addr) : Nat → DSp
  | 0 => fun _ _ _ _ => False
  | k + 1 => spR_ways_to c k
abbrev sp_ways_to (c : Addr) : DSp := spR_ways_to c 24
theorem lenR_ways_to {c : Addr} (k : Nat) : ∀ ds S Q E, spR_ways_to c k ds S Q E → ds.length = (["tree", "node"] : List Str).length := fun _ _ _ _ ⟨_, _, _, e, _⟩ => by rw [e]; rfl
def wy0 (c_NoStep : Addr) (E : KX) : DTS := dDrop (dCallX (pur (sp_kind_of c_NoStep)) [] E (dCons (dV 0) (dCons (dV 1) dNil)))
def wy1 : DTS := dIfS (dTst (dBin wEq (dV 1) (dC (.int 0)))) (dRet (dTup (dCons (dTup dNil) dNil))) dNext
def wy2 : DTS := dAsg (dLst dNil) (gdName 2)
def wyA (c_NoStep : Addr) (E : KX) : DTS := dAsg (dLC (diVal (dCallX (pur (sp_entries_of c_NoStep)) [] E (dCons (dV 0) (dCons (dV 3) dNil))) wIterA) (gdTup 2 (gdCons (gdName 5) (gdCons (gdName 6) gdNil))) (dTst (dBin wEq (dV 6) (dV 1))) [5, 6] [5, 6] [] (dV 5)) (gdName 4)
def wyB (spp : DSp) : DTS := dDrop (dBM "list" wExtend (dV 2) (dCons (dLC (diVal (dCall (pur spp) [] (dCons (dV 0) (dCons (dV 3) dNil))) wIterA) (gdName 7) dYes [7] [7, 5] ((diVal (dV 4) wIterA, gdName 5, dYes, [5]) :: []) (dBin wAdd (dV 7) (dTup (dCons (dV 5) dNil)))) dNil))
def wy3 (c_NoStep : Addr) (E : KX) (spp : DSp) : DTS := dFor (diVal (dSortedSetF (dBin wAt (dCall (frm sp_holders) [] (dCons (dBin wAt (dV 0) (dC (.int 0))) dNil)) (dV 1))) wIterA) (gdName 3) (dSeq (wyA c_NoStep E) (wyB spp))
def wy4 : DTS := dRet (dCB wTuple (dCons (dCB wSortedD (dCons (dV 2) dNil)) dNil))
def r_ways_to (c_NoStep : Addr) (E : KX) (spp : DSp) : DTS := dSeq (wy0 c_NoStep E) (dSeq wy1 (dSeq wy2 (dSeq (wy3 c_NoStep E spp) wy4)))
abbrev N_ways_to : List Str := ["tree", "node", "found", "drawer", "names", "name", "other", "way"]
section
variable {S : Sto} {rows : List Nd} {made : Int} {Dn : DEnds} {E : KX} {c : Addr} {x3 x4 x5 x6 x7 : Option D} {G F : Addr} {k : Nat}
def nmsOf (rows : List Nd) (d n : Int) : List Str := ((entO rows d).filter fun e => decide (e.2 = n)).map (·.1)
theorem nms_mem (V : TreeV rows made) {d n : Int} {x : Str} : x ∈ nmsOf rows d n ↔ lk x (entO rows d) = some n := by
  unfold nmsOf
  constructor
  · intro h
    obtain ⟨e, he, rfl⟩ := List.mem_map.mp h
    obtain ⟨h1, h2⟩ := List.mem_filter.mp he
    rw [ent_lk V h1, of_decide_eq_true h2]
  · intro h
    exact List.mem_map.mpr ⟨(x, n), List.mem_filter.mpr ⟨lk_mem h, decide_eq_true rfl⟩, rfl⟩
theorem nms_nodup (V : TreeV rows made) (d n : Int) : (nmsOf rows d n).Nodup := ((ent_nd V d).sublist ((List.filter_sublist).map _))
theorem wyA_of (V : TreeV rows made) {n d : Int} (hd : d ∈ rows.map (·.1)) (hk : kindO rows d = ("drawer" : Str)) {F0 : D}
    (kk : ∀ N S', S N = none → S' = put S N (.lst ((nmsOf rows d n).map D.str)) → Dn.nx [some (treeD rows made), some (.int n), some F0, some (.int d), some (.ref N), x5, x6, x7] S') :
    wyA c E Dn [some (treeD rows made), some (.int n), some F0, some (.int d), x4, x5, x6, x7] S := by
  have sz : 100001 < sizeLine := by rw [sizeLine_eq]; decide
  obtain ⟨r, hr, hm, hi⟩ := V.at_ hd
  have hs : r.2.1 ≠ ("sheet" : Str) := by rw [← kindO_eq hr, hk]; exact drawer_ne_sheet
  unfold wyA
  rw [dAsg_eq, dLC_eq, diVal_eq, dCallX_eq, dCons_eq]
  refine dV_at (by rfl) ?_
  rw [dCons_eq]
  refine dV_at (by rfl) ?_
  rw [dNil_eq]
  have er : rowP rows (.int d) = some r := hr
  refine ⟨rows, made, .int d, rfl, V, Or.inl ⟨_, rfl⟩, fun r' hr' _ _ => ?_, fun r' hr' z => ?_, fun z => by rw [er] at z; cases z⟩
  · obtain rfl : r = r' := Option.some.inj (er.symm.trans hr')
    rw [wIter_tup]
    intro N hN
    show loopC _ _ _ _ _ _ [some (treeD rows made), some (.int n), some F0, some (.int d), x4, none, none, x7] _ _
    refine lc_map pairSI (fun e : Str × Int => if e.2 = n then [D.str e.1] else []) r.2.2 (fun _ => trivial) ?_ (fun e he acc k2 hacc hk2 => ?_) ?_
    · have := flatMap_le (fun e : Str × Int => if e.2 = n then [D.str e.1] else []) 1 r.2.2 fun x _ => by split <;> simp
      have := V.few r hm
      omega
    · refine ⟨rfl, rfl, ?_⟩
      show _ ∧ _
      refine ⟨rfl, ?_⟩
      show dTst _ [some (treeD rows made), some (.int n), some F0, some (.int d), x4, some (.str e.1), some (.int e.2), x7] _ _
      rw [dTst_eq, dBin_eq]
      refine dV_at (by rfl) ?_
      refine dV_at (by rfl) ?_
      rw [wEq_int, isB_bl]
      by_cases h : e.2 = n
      · rw [if_pos (decide_eq_true h)]
        rw [if_pos h] at hk2 hacc
        rw [emLst_eq]
        refine dV_at (by rfl) ?_
        rw [onL_eq put_same]
        rw [List.length_singleton] at hacc
        exact ⟨by omega, by rw [put_put']; exact hk2⟩
      · rw [if_neg (by simpa using h)]
        rw [if_neg h, List.append_nil] at hk2
        exact hk2
    · have e1 : (r.2.2.flatMap fun e : Str × Int => if e.2 = n then [D.str e.1] else []) = (nmsOf rows d n).map D.str := by
        unfold nmsOf
        rw [entO_eq hr]
        generalize r.2.2 = l
        induction l with
        | nil => rfl
        | cons e l ih =>
          rw [List.flatMap_cons, ih, List.filter_cons]
          by_cases h : e.2 = n
          · rw [if_pos h, if_pos (decide_eq_true h)]; rfl
          · rw [if_neg h, if_neg (by simpa using h)]; rfl
      rw [e1]
      exact kk N _ hN rfl
  · obtain rfl : r = r' := Option.some.inj (er.symm.trans hr')
    exact absurd z hs
def longer (wd : List (List Str)) (xs : List Str) : List (List Str) := wd.flatMap fun v => xs.map fun x => v ++ [x]
theorem wyB_of {n d : Int} {k : Nat} {N : Addr} {xs : List Str} {Fs wd : List (List Str)} (V : TreeV rows made) (hl : rows.length ≤ 50) (hd : d ∈ rows.map (·.1)) (dep : ∀ w p, WT rows w p d → w.length ≤ k) (W : WsTo rows d wd) (gF : S F = some (.lst (Fs.map wayD))) (gN : S N = some (.lst (xs.map D.str)))
    (hb : (Fs ++ longer wd xs).length ≤ 5000)
    (kk : ∀ S', S' F = some (.lst ((Fs ++ longer wd xs).map wayD)) → (∀ a o, a ≠ F → S a = some o → S' a = some o) → Dn.nx [some (treeD rows made), some (.int n), some (.ref F), some (.int d), some (.ref N), x5, x6, x7] S') :
    wyB (spR_ways_to c k) Dn [some (treeD rows made), some (.int n), some (.ref F), some (.int d), some (.ref N), x5, x6, x7] S := by
  have sz : 100001 < sizeLine := by rw [sizeLine_eq]; decide
  obtain ⟨r, hr, hm, hi⟩ := V.at_ hd
  unfold wyB
  rw [dDrop_eq, dBM_eq]
  refine dV_at (by rfl) ?_
  refine ⟨tyD_lst gF, ?_⟩
  rw [dCons_eq, dLC_eq, diVal_eq, dCall_eq, dCons_eq]
  refine dV_at (by rfl) ?_
  rw [dCons_eq]
  refine dV_at (by rfl) ?_
  rw [dNil_eq]
  refine ⟨rows, made, .int d, rfl, V, hl, Or.inl ⟨_, rfl⟩, fun m e => (by cases e; exact dep), fun m r' e hr' ws W' _ => ?_, fun z => by rw [show rowP rows (.int d) = some r from hr] at z; cases z⟩
  cases e
  obtain rfl : ws = wd := W'.rise.same W.rise fun w => (W'.mem w).trans (W.mem w).symm
  rw [wIter_tup]
  intro G hG
  have FG : F ≠ G := ne_of_free hG gF
  have NG : N ≠ G := ne_of_free hG gN
  have lb : (longer ws xs).length ≤ 5000 := by rw [List.length_append] at hb; omega
  show loopC _ _ _ _ _ _ [some (treeD rows made), some (.int n), some (.ref F), some (.int d), some (.ref N), none, x6, none] _ _
  refine loopC_map wayD (fun done S' => S' = put S G (.lst ((longer done xs).map wayD))) (fun _ _ _ => trivial) (fun S' h => ?_) (fun done v rest S' es h M hM => ?_) (by show put S G (.lst []) = _; rfl)
  · subst h
    have gF' : put S G (.lst ((longer ws xs).map wayD)) F = some (.lst (Fs.map wayD)) := by rw [put_ne FG]; exact gF
    rw [dNil_eq]
    show wExtend (.ref F) [.ref G] _ _
    rw [wExtend_lst gF' put_same]
    refine ⟨by rw [List.length_map, List.length_map, ← List.length_append]; omega, ?_⟩
    refine kk _ (by rw [put_same, List.map_append]) fun a o ha e => ?_
    rw [put_ne ha, put_ne (ne_of_free hG e)]
    exact e
  · subst h
    refine ⟨rfl, ?_⟩
    rw [dYes_eq, if_pos rfl]
    show diVal (dV 4) wIterA [some (treeD rows made), some (.int n), some (.ref F), some (.int d), some (.ref N), none, x6, some (wayD v)] (put S G (.lst ((longer done xs).map wayD))) _
    rw [diVal_eq]
    refine dV_at (by rfl) ?_
    have gN' : ∀ o, put S G o N = some (.lst (xs.map D.str)) := fun o => by rw [put_ne NG]; exact gN
    rw [wIter_lst (gN' _)]
    have lv : v.length ≤ 1200 := by
      obtain ⟨p, h⟩ := (W.mem v).mp (by rw [es]; simp)
      exact h.long V (by omega)
    have lall : ∀ pre suf : List Str, xs = pre ++ suf → (longer done xs ++ pre.map fun x => v ++ [x]).length ≤ 5000 := fun pre suf e => by
      have : longer ws xs = longer done xs ++ ((xs.map fun x => v ++ [x]) ++ longer rest xs) := by
        unfold longer
        rw [es, List.flatMap_append, List.flatMap_cons]
      rw [this, List.length_append, List.length_append, List.length_map] at lb
      rw [List.length_append, List.length_map]
      have := congrArg List.length e
      rw [List.length_append] at this
      omega
    refine loopC_map D.str (fun pre S' => S' = put S G (.lst ((longer done xs ++ pre.map fun x => v ++ [x]).map wayD))) (fun _ S' h => by rw [h]; exact gN' _) (fun S' h => ?_) (fun pre x suf S' es2 h M2 hM2 => ?_) (by rw [List.map_nil, List.append_nil])
    · refine hM S' ?_
      rw [h]
      unfold longer
      rw [List.flatMap_append]
      simp
    · subst h
      refine ⟨rfl, ?_⟩
      rw [dYes_eq, if_pos rfl]
      show emLst _ G [some (treeD rows made), some (.int n), some (.ref F), some (.int d), some (.ref N), some (.str x), x6, some (wayD v)] _ _
      rw [emLst_eq, dBin_eq]
      refine dV_at (by rfl) ?_
      rw [dTup_eq, dCons_eq]
      refine dV_at (by rfl) ?_
      rw [dNil_eq]
      refine ⟨by show 1 ≤ sizeLine; omega, ?_⟩
      show wAdd (.tup (v.map D.str)) (.tup [.str x]) _ _
      rw [wAdd_tup]
      refine ⟨by rw [List.length_map]; show v.length + 1 ≤ sizeLine; omega, ?_⟩
      rw [onL_eq put_same]
      have l1 := lall (pre ++ [x]) suf (by rw [es2]; simp)
      rw [List.length_append, List.length_map, List.length_append, List.length_singleton] at l1
      refine ⟨by rw [List.length_map, List.length_append, List.length_map]; omega, hM2 _ ?_⟩
      have ew : D.tup (v.map D.str ++ [.str x]) = wayD (v ++ [x]) := by
        unfold wayD
        rw [List.map_append]
        rfl
      rw [put_put', ew]
      congr 2
      simp
end
end K04
namespace K04
open PySem PySem.Spec PyProof.Rows L2 DL KF
open KB (Nd isK rowD treeD wayD entO srtE srtE_perm)
open KD hiding tD sp_row_of len_row_of r_row_of N_row_of vc_row_of sp_kind_of len_kind_of r_kind_of N_kind_of vc_kind_of sp_entries_of len_entries_of r_entries_of N_entries_of vc_entries_of sp_way_through len_way_through r_way_through N_way_through vc_way_through wtA wtB wt1 sp_above len_above r_above N_above vc_above
open K03 (Ask rowP sp_kind_of sp_entries_of)
open _root_.KT (dSeq_go)
section
variable {rows : List Nd} {made : Int}
theorem WT.of_reach (V : TreeV rows made) {n : Int} (h : Reach rows n) : ∃ w p, WT rows w p n := by
  induction h with
  | top => exact ⟨_, _, .top⟩
  | @step r e hr he _ ih =>
    obtain ⟨w, p, h⟩ := ih
    refine ⟨_, _, .step h (ent_lk V ?_)⟩
    rw [entO_eq (V.row hr)]
    exact he
theorem ws_drawer (V : TreeV rows made) {d : Int} (hd : d ∈ rows.map (·.1)) (hk : kindO rows d = ("drawer" : Str)) : ∃ v p, WT rows v p d ∧ WsTo rows d [v] := by
  obtain ⟨q, hq, hqm, hqi⟩ := V.at_ hd
  have rch := V.up q hqm (by rw [← kindO_eq hq]; exact hk)
  rw [hqi] at rch
  obtain ⟨v, p, h⟩ := WT.of_reach V rch
  refine ⟨v, p, h, ⟨List.pairwise_singleton _ _, fun w => ?_⟩⟩
  rw [List.mem_singleton]
  constructor
  · rintro rfl; exact ⟨p, h⟩
  · rintro ⟨p', h'⟩; exact (h'.uniq V h hk).1
theorem ws_top (V : TreeV rows made) : WsTo rows 0 [[]] := by
  refine ⟨List.pairwise_singleton _ _, fun w => ?_⟩
  rw [List.mem_singleton]
  constructor
  · rintro rfl; exact ⟨_, .top⟩
  · rintro ⟨p, h⟩
    generalize e0 : (0 : Int) = z at h
    cases h with
    | top => rfl
    | step _ he =>
      have := (V.tg_ (lk_some V he)).2
      omega
structure FW (rows : List Nd) (n : Int) (ds : List Int) (Fs : List (List Str)) : Prop where
  nd : Fs.Nodup
  mem : ∀ w, w ∈ Fs ↔ ∃ d ∈ ds, ∃ v x p, w = v ++ [x] ∧ WT rows v p d ∧ lk x (entO rows d) = some n
theorem FW.next (V : TreeV rows made) {n d : Int} {ds : List Int} {Fs : List (List Str)} {v : List Str} {p : List Int} (I : FW rows n ds Fs) (hd : d ∉ ds) (h : WT rows v p d) (W : WsTo rows d [v]) : FW rows n (ds ++ [d]) (Fs ++ longer [v] (nmsOf rows d n)) := by
  have el : longer [v] (nmsOf rows d n) = (nmsOf rows d n).map fun x => v ++ [x] := by
    unfold longer
    rw [List.flatMap_cons, List.flatMap_nil, List.append_nil]
  rw [el]
  refine ⟨?_, fun w => ?_⟩
  · rw [List.nodup_append]
    refine ⟨I.nd, nodup_map_inj (nms_nodup V d n) fun a _ b _ e => by simpa using List.append_cancel_left e, fun a ha b hb e => ?_⟩
    subst e
    obtain ⟨x, hx, rfl⟩ := List.mem_map.mp hb
    obtain ⟨d', hd', v', x', p', e, h', _⟩ := (I.mem _).mp ha
    obtain ⟨e1, _⟩ := List.append_inj' e rfl
    subst e1
    rw [(h.same h').2] at hd
    exact hd hd'
  · rw [List.mem_append, I.mem w]
    constructor
    · rintro (⟨d', hd', z⟩ | hw)
      · exact ⟨d', List.mem_append_left _ hd', z⟩
      · obtain ⟨x, hx, rfl⟩ := List.mem_map.mp hw
        exact ⟨d, by simp, v, x, p, rfl, h, (nms_mem V).mp hx⟩
    · rintro ⟨d', hd', v', x, p', rfl, h', he⟩
      rcases List.mem_append.mp hd' with z | z
      · exact Or.inl ⟨d', z, v', x, p', rfl, h', he⟩
      · rw [List.mem_singleton.mp z] at h' he
        have : v' = v := by
          have := (W.mem v').mpr ⟨p', h'⟩
          exact List.mem_singleton.mp this
        rw [this]
        exact Or.inr (List.mem_map.mpr ⟨x, (nms_mem V).mpr he, rfl⟩)
theorem FW.done (V : TreeV rows made) {n : Int} {ds : List Int} {Fs : List (List Str)} (I : FW rows n ds Fs) (hn : n ≠ 0) (all : ∀ d, d ∈ ds ↔ d ∈ hold rows n) : WsTo rows n (srtW Fs) := by
  refine ⟨srtW_rise I.nd, fun w => ?_⟩
  rw [(srtW_perm Fs).mem_iff, I.mem]
  constructor
  · rintro ⟨d, _, v, x, p, rfl, h, he⟩
    exact ⟨_, .step h he⟩
  · rintro ⟨p, h⟩
    cases h with
    | top => exact absurd rfl hn
    | @step v q m _ x h0 he =>
      refine ⟨m, (all m).mpr ?_, v, x, q, rfl, h0, he⟩
      obtain ⟨r, hr, er, hee⟩ := lk_some V he
      exact hold_mem.mpr ⟨r, hr, er, _, hee, rfl⟩
theorem FW.few (V : TreeV rows made) (hl : rows.length ≤ 50) {n : Int} {ds : List Int} {Fs : List (List Str)} (I : FW rows n ds Fs) : Fs.length ≤ 1201 := by
  have := WT.few V I.nd fun w hw => by
    obtain ⟨d, _, v, x, p, rfl, h, he⟩ := (I.mem w).mp hw
    exact ⟨_, _, .step h he⟩
  have := eds_few V (by omega)
  omega
theorem over_growsN {S S' : Sto} (z : ∀ a, inF S nilS a → S' a = none) : Grow S' (over S nilS S') := fun b o e => by
  unfold over
  by_cases c : inF S nilS b
  · rw [z b c] at e; cases e
  · rw [if_neg c]; exact e
end
theorem vcR_ways_to {c : Addr} (k : Nat) {ds S Q E} (h : spR_ways_to c k ds S Q E) : r_ways_to c E (prv_ways_to c k) (bodyEnds Q) (startD N_ways_to ds) S := by
  have sz : 100001 < sizeLine := by rw [sizeLine_eq]; decide
  obtain ⟨rows, made, d, rfl, V, hl, hA, dep, q, qe⟩ := h
  show r_ways_to _ _ _ _ [some (treeD rows made), some d, none, none, none, none, none, none] S
  unfold r_ways_to
  refine dSeq_go ?_
  unfold wy0
  rw [dDrop_eq, dCallX_eq, dCons_eq]
  refine dV_at (by rfl) ?_
  rw [dCons_eq]
  refine dV_at (by rfl) ?_
  rw [dNil_eq]
  refine ⟨rows, made, d, rfl, V, hA, fun r hr _ => ?_, fun e _ => qe e S⟩
  obtain ⟨n, rfl⟩ : ∃ n, d = .int n := by
    cases d with
    | int n => exact ⟨n, rfl⟩
    | _ => cases hr
  have hr : rowO rows n = some r := hr
  obtain ⟨hm, hri⟩ := rowO_mem hr
  have hin : n ∈ rows.map (·.1) := by rw [← hri]; exact List.mem_map_of_mem hm
  have q := q n r rfl hr
  have dep := dep n rfl
  show dSeq wy1 _ (bodyEnds Q) [some (treeD rows made), some (.int n), none, none, none, none, none, none] S
  refine dSeq_go ?_
  unfold wy1
  simp only [dIfS_eq, dTst_eq, dBin_eq, dC_eq]
  refine dV_at (by rfl) ?_
  rw [wEq_int, isB_bl]
  by_cases h0 : n = 0
  · rw [if_pos (decide_eq_true h0)]
    simp only [dRet_eq, dTup_eq, dCons_eq, dNil_eq]
    subst h0
    exact ⟨by show 0 ≤ sizeLine; omega, by show 1 ≤ sizeLine; omega, q [[]] (ws_top V) S⟩
  · rw [if_neg (by simpa using h0)]
    show dSeq wy2 _ (bodyEnds Q) [some (treeD rows made), some (.int n), none, none, none, none, none, none] S
    refine dSeq_go ?_
    unfold wy2
    rw [dAsg_eq, dLst_eq, dNil_eq]
    refine ⟨by show 0 ≤ sizeLine; omega, fun F hF => ?_⟩
    have gF : put S F (.lst []) F = some (.lst []) := put_same
    show dSeq (wy3 c E (prv_ways_to c k)) wy4 (bodyEnds Q) [some (treeD rows made), some (.int n), some (.ref F), none, none, none, none, none] (put S F (.lst []))
    generalize put S F (.lst []) = S1 at *
    refine dSeq_go ?_
    unfold wy3
    generalize hB : dSeq (wyA c E) (wyB (prv_ways_to c k)) = B
    rw [dFor_eq, diVal_eq, dSortedSetF_of, dBin_eq, dCall_eq, dCons_eq, dBin_eq]
    refine dV_at (by rfl) ?_
    rw [dC_eq]
    unfold treeD
    rw [wAt_tup, atI0, onS_some, dNil_eq]
    refine frm_pure ⟨rows, made, rfl, V, by omega, fun p bs S2 I ids z => ?_⟩
    have g2 := over_growsN z
    have g1 : Grow S1 (over S1 nilS S2) := over_grow
    generalize over S1 nilS S2 = S3 at *
    obtain ⟨b, hb, hb1⟩ := List.mem_map.mp (show n ∈ bs.map (·.1) by rw [ids]; exact hin)
    have hb1 : b.1 = n := hb1
    have nd : (bs.map (·.1)).Nodup := by rw [ids]; exact V.nodup
    have gt := I.get nd hb
    rw [hb1] at gt
    have gb := (I.gi b hb).2
    rw [hb1] at gb
    have fit : keyFit (bs.map fun b => (D.int b.1, D.ref b.2)) (.int n) = true := keyFit_int (f := fun b : Int × Addr => b.1) (g := fun b : Int × Addr => D.ref b.2) (xs := bs) (n := n)
    refine dV_at (by rfl) ?_
    rw [wAt_dct (g2 _ _ I.gp) fit gt, lstOf_ref (g2 _ _ gb), onS_some, intsD_map, onS_some]
    have hcount : (hold rows n).length ≤ 1200 := by
      rw [hold_count, tgs_eds]
      have h1 := List.count_le_length (a := n) (l := (eds rows).map (·.2.2))
      rw [List.length_map] at h1
      have := eds_few V (by omega)
      omega
    refine ⟨by omega, ⟨rows.map (·.1), by rw [List.length_map]; omega, fun x hx => ?_⟩, fun ms P asc mem hP => ?_⟩
    · obtain ⟨r', hr', e, _⟩ := hold_mem.mp hx
      rw [← e]; exact List.mem_map_of_mem hr'
    have gP : put S3 P (.lst (ms.map D.int)) P = some (.lst (ms.map D.int)) := put_same
    have gF3 : put S3 P (.lst (ms.map D.int)) F = some (.lst []) := by rw [put_ne (ne_of_free hP (g1 _ _ gF))]; exact g1 _ _ gF
    generalize put S3 P (.lst (ms.map D.int)) = S4 at *
    have PF : P ≠ F := fun z => by
      subst z
      rw [gP] at gF3
      have : ms = [] := by
        have := AO.lst.inj (Option.some.inj gF3)
        exact List.map_eq_nil_iff.mp this
      have h1 : P = P := rfl
      rw [g1 _ _ gF] at hP
      cases hP
    rw [wIter_lst gP]
    refine loop_map D.int (fun done τ S' => ∃ Fs y3 y4 y5 y6 y7, FW rows n done Fs ∧ S' F = some (.lst (Fs.map wayD)) ∧ S' P = some (.lst (ms.map D.int)) ∧ τ = [some (treeD rows made), some (.int n), some (.ref F), y3, y4, y5, y6, y7]) (fun _ _ _ h => by obtain ⟨_, _, _, _, _, _, _, _, h, _⟩ := h; exact h) (fun τ S' h => ?_) (fun done x rest τ S' es h N hN => ?_)
      ⟨[], _, _, _, _, _, ⟨List.nodup_nil, fun w => by simp⟩, gF3, gP, rfl⟩
    · obtain ⟨Fs, y3, y4, y5, y6, y7, I', gF', _, rfl⟩ := h
      have W := I'.done V h0 mem
      show wy4 (bodyEnds Q) [some (treeD rows made), some (.int n), some (.ref F), y3, y4, y5, y6, y7] S'
      unfold wy4
      rw [dRet_eq, dCB_eq, dCons_eq, dCB_eq, dCons_eq]
      refine dV_at (by rfl) ?_
      rw [dNil_eq]
      refine sorted_ways Fs gF' (fun w hw => ?_) fun p' hp' => ?_
      · obtain ⟨_, _, v, x, _, rfl, _⟩ := (I'.mem w).mp hw
        simp
      · rw [dNil_eq, wTuple_lst put_same]
        exact q _ W _
    · obtain ⟨Fs, y3, y4, y5, y6, y7, I', gF', gP', rfl⟩ := h
      have hx : x ∈ hold rows n := (mem x).mp (by rw [es]; simp)
      obtain ⟨r', hr', er', e', he', hee⟩ := hold_mem.mp hx
      have hxi : x ∈ rows.map (·.1) := by rw [← er']; exact List.mem_map_of_mem hr'
      have hxk : kindO rows x = ("drawer" : Str) := by
        rw [← er', kindO_eq (V.row hr')]
        exact V.drawer hr' he'
      have hle : lk e'.1 (entO rows x) = some n := by
        rw [← hee]
        refine ent_lk V ?_
        rw [← er', entO_eq (V.row hr')]
        exact he'
      obtain ⟨v, p', hv, W⟩ := ws_drawer V hxi hxk
      have hnd : x ∉ done := fun z => by
        rw [es, List.pairwise_append] at asc
        have := asc.2.2 x z x (by simp)
        omega
      have I2 := I'.next V hnd hv W
      have f2 := I2.few V hl
      have k1 : 1 ≤ k := by
        have := dep _ _ (.step hv hle)
        rw [List.length_append, List.length_singleton] at this
        omega
      obtain ⟨j, rfl⟩ : ∃ j, k = j + 1 := ⟨k - 1, by omega⟩
      show B _ [some (treeD rows made), some (.int n), some (.ref F), some (.int x), y4, y5, y6, y7] S'
      rw [← hB]
      refine dSeq_go ?_
      refine wyA_of V hxi hxk fun N' S5 hN' e5 => ?_
      subst e5
      have NF : F ≠ N' := ne_of_free hN' gF'
      have NP : P ≠ N' := ne_of_free hN' gP'
      refine wyB_of V hl hxi (fun w p h => ?_) W (by rw [put_ne NF]; exact gF') put_same (by omega) fun S6 gF6 kp => ?_
      · have := dep _ _ (.step h hle)
        rw [List.length_append, List.length_singleton] at this
        omega
      · exact hN _ _ ⟨_, _, _, _, _, _, I2, gF6, kp _ _ PF (by rw [put_ne NP]; exact gP'), rfl⟩
end K04
namespace K04
open PySem PySem.Spec PyProof.Rows L2 DL KF
open KB (Nd isK rowD treeD wayD entO srtE srtE_perm)
open KD hiding tD sp_row_of len_row_of r_row_of N_row_of vc_row_of sp_kind_of len_kind_of r_kind_of N_kind_of vc_kind_of sp_entries_of len_entries_of r_entries_of N_entries_of vc_entries_of sp_way_through len_way_through r_way_through N_way_through vc_way_through wtA wtB wt1 sp_above len_above r_above N_above vc_above
open K03 (Ask rowP noD)
open _root_.KT (dSeq_go)
def tell (b : Bool) (rows : List Nd) (d T : D) : Prop := match rowP rows d with
  | none => T = noD "node"
  | some r => if b then ∃ ws, WsTo rows r.1 ws ∧ T = .tup [.str "told", .tup (ws.map wayD)] else if r.2.1 = ("sheet" : Str) then T = noD "sheet" else T = .tup [.str "told", .tup ((abv rows r.1).map D.int)]
def sp__law_told : DSp := fun ds S Q E => ∃ (b : Bool) (rows : List Nd) (made : Int) (d : D), ds = [.int (if b then 0 else 1), treeD rows made, d] ∧ TreeV rows made ∧ rows.length ≤ 24 ∧ Ask d ∧ ∀ T, tell b rows d T → ∀ S', Q T S'
theorem len__law_told : ∀ ds S Q E, sp__law_told ds S Q E → ds.length = (["_law_ask", "_law_tree_here", "_law_thing"] : List Str).length := fun _ _ _ _ ⟨_, _, _, _, e, _⟩ => by rw [e]; rfl
section
variable (c_NoStep : Addr)
def tdB (E : KX) : DTS := dRet (dTup (dCons (dC (.str "told")) (dCons (dIf (dTst (dBin wEq (dV 0) (dC (.int 0)))) (dCallX (pur (sp_ways_to c_NoStep)) [] E (dCons (dV 1) (dCons (dV 2) dNil))) (dCallX (pur (sp_above c_NoStep)) [] E (dCons (dV 1) (dCons (dV 2) dNil)))) dNil)))
def tdS (a dd : Addr) : DTS := dIfS (dTst (dCB (wIsE a dd [(c_NoStep, true)]) (dCons (dV 3) (dCons (dC (.ref c_NoStep)) dNil)))) (dRet (dTup (dCons (dC (.str "no")) (dCons (dXf a dd "word" (dV 3)) dNil)))) dNext
def r__law_told : DTS := dSeq (dTry1 c_NoStep 4 3 (fun E => tdB c_NoStep E) (fun a dd => tdS c_NoStep a dd)) (dRet (dTup (dCons (dC (.str "other")) dNil)))
end
abbrev N__law_told : List Str := ["_law_ask", "_law_tree_here", "_law_thing", "e"]
theorem tdS_of {c_NoStep a dd : Addr} {x0 x1 x2 : Option D} {S : Sto} {Dn : DEnds} {w : Str} (hS : S dd = some (.exc [("word", .str w)])) (k : Dn.rt (noD w) S) :
    tdS c_NoStep a dd Dn [x0, x1, x2, some (.ref a)] S := by
  have sz : 1001 < sizeLine := by rw [sizeLine_eq]; decide
  unfold tdS
  simp only [dIfS_eq, dTst_eq, dCB_eq, dCons_eq, dNil_eq, dC_eq]
  refine dV_at (by rfl) ?_
  refine ⟨rfl, ⟨_, hS⟩, true, by simp, ?_⟩
  rw [isB_bl, if_pos rfl]
  simp only [dRet_eq, dTup_eq, dCons_eq, dNil_eq, dC_eq, dXf_eq]
  refine dV_at (by rfl) ?_
  refine ⟨rfl, _, .str w, hS, by rfl, ?_⟩
  exact ⟨by show 2 ≤ sizeLine; omega, k⟩
theorem vc__law_told {c_NoStep : Addr} {ds S Q E} (h : sp__law_told ds S Q E) : r__law_told c_NoStep (bodyEnds Q) (startD N__law_told ds) S := by
  have sz : 1001 < sizeLine := by rw [sizeLine_eq]; decide
  obtain ⟨b, rows, made, d, rfl, V, hl, hA, k⟩ := h
  show r__law_told _ _ [some (.int (if b then 0 else 1)), some (treeD rows made), some d, none] S
  unfold r__law_told
  simp only [dSeq_eq]
  unfold dTry1 tdB
  simp only [dRet_eq, dTup_eq, dCons_eq, dNil_eq, dC_eq, dIf_eq, dTst_eq, dBin_eq, dCallX_eq, List.append_nil]
  refine dV_at (by rfl) ?_
  have exc : ∀ (w : Str), tell b rows d (noD w) → (fun (cls : Value) (fs : List (Str × D)) (S1 : Sto) => cls = .ref c_NoStep ∧ fs ≠ [] ∧ ∀ (τ1 : DSt) (a dd : Addr), τ1.length = 4 → S1 a = none → (S1 dd = none ∨ ∃ g, S1 dd = some (.exc g)) →
      tdS c_NoStep a dd { nx := fun τ' S' => (dRet (dTup (dCons (dC (.str "other")) dNil))) (bodyEnds Q) (τ'.set 3 none) S', rt := (bodyEnds Q).rt, bk := fun τ' S' => (bodyEnds Q).bk (τ'.set 3 none) S', ct := fun τ' S' => (bodyEnds Q).ct (τ'.set 3 none) S' } (τ1.set 3 (some (.ref a))) (put S1 dd (.exc fs))) (.ref c_NoStep) [("word", .str w)] S := fun w e => by
    refine ⟨rfl, by simp, fun τ1 x dd hlen hx hdd => ?_⟩
    match τ1, hlen with
    | [y0, y1, y2, y3], _ =>
      show tdS _ x dd _ [y0, y1, y2, some (.ref x)] _
      refine tdS_of put_same ?_
      exact k _ e _
  cases b with
  | true =>
    rw [if_pos rfl, wEq_int, isB_bl, if_pos (by decide)]
    refine dV_at (by rfl) ?_
    refine dV_at (by rfl) ?_
    refine ⟨rows, made, d, rfl, V, by omega, hA, fun n e w p h => Nat.le_trans (h.short V) hl, fun n r e hr ws W _ => ?_, fun hr _ => ?_⟩
    · subst e
      refine ⟨by show 2 ≤ sizeLine; omega, k _ ?_ _⟩
      unfold tell
      rw [show rowP rows (.int n) = some r from hr]
      have e1 : r.1 = n := (rowO_mem hr).2
      exact ⟨ws, by rw [e1]; exact W, rfl⟩
    · refine exc "node" ?_
      unfold tell
      rw [hr]
  | false =>
    rw [if_neg (by decide), wEq_int, isB_bl, if_neg (by decide)]
    refine dV_at (by rfl) ?_
    refine dV_at (by rfl) ?_
    refine ⟨rows, made, d, rfl, V, by omega, hA, fun r hr hk _ => ?_, fun r hr hs _ => ?_, fun hr _ => ?_⟩
    · refine ⟨by show 2 ≤ sizeLine; omega, k _ ?_ _⟩
      unfold tell
      rw [hr]
      show (if r.2.1 = ("sheet" : Str) then _ else _)
      rw [if_neg (by rw [hk]; exact drawer_ne_sheet)]
    · refine exc "sheet" ?_
      unfold tell
      rw [hr]
      show (if r.2.1 = ("sheet" : Str) then _ else _)
      rw [if_pos hs]
    · refine exc "node" ?_
      unfold tell
      rw [hr]
end K04
namespace K04
open PySem PySem.Spec PyProof.Rows L2 DL KF
open KB (Nd isK rowD treeD wayD entO srtE srtE_perm)
open KD hiding tD sp_row_of len_row_of r_row_of N_row_of vc_row_of sp_kind_of len_kind_of r_kind_of N_kind_of vc_kind_of sp_entries_of len_entries_of r_entries_of N_entries_of vc_entries_of sp_way_through len_way_through r_way_through N_way_through vc_way_through wtA wtB wt1 sp_above len_above r_above N_above vc_above
open K03 (Ask AskR rowP noD kx shown_row kx_nodup wDict_strs repr_ref odd sp_way_through)
open _root_.KT (dSeq_go)
open KR (Sd Th bA bA_cons bA_nil)
section
variable {rows : List Nd} {made : Int}
theorem WT.names (V : TreeV rows made) {w : List Str} {p : List Int} {n : Int} (h : WT rows w p n) : ∀ x ∈ w, ltr x = true := by
  induction h with
  | top => exact fun x hx => (List.not_mem_nil hx).elim
  | @step w p n m x h0 he ih =>
    intro y hy
    rcases List.mem_append.mp hy with hy | hy
    · exact ih y hy
    · rw [List.mem_singleton.mp hy]
      obtain ⟨r, hr, _, hee⟩ := lk_some V he
      exact V.nm r hr _ hee
theorem way_th (V : TreeV rows made) (hl : rows.length ≤ 20) {w : List Str} {p : List Int} {n : Int} (h : WT rows w p n) : Sd 2 180 (wayD w) := by
  unfold wayD
  refine (Sd.tups (n := 1) (m := 8) (k := 20) (fun e he => ?_) (by rw [List.length_map]; exact Nat.le_trans (h.short V) hl)).up (by decide) (by decide)
  obtain ⟨x, hx, rfl⟩ := List.mem_map.mp he
  exact Sd.str (h.names V x hx) (by decide)
theorem eds_few20 (V : TreeV rows made) (hl : rows.length ≤ 20) : (eds rows).length ≤ 240 := by
  have el : ∀ l : List Nd, (∀ r ∈ l, r.2.2.length ≤ 12) → (eds l).length ≤ 12 * l.length := by
    intro l
    induction l with
    | nil => intro _; exact Nat.le_refl _
    | cons r l ih =>
      intro h
      have h1 := ih fun q hq => h q (List.mem_cons_of_mem _ hq)
      have h2 := h r (List.mem_cons_self ..)
      show ((r.2.2.map fun e => (r.1, e.1, e.2)) ++ eds l).length ≤ _
      rw [List.length_append, List.length_map, List.length_cons]; omega
  have := el rows V.few
  omega
theorem no_sd {w : Str} (h : KR.ltr w = true) : Sd 4 50000 (noD w) := (Sd.two (n := 1) (a := 8) (b := 8) (Sd.str (by decide +kernel) (by decide)) (Sd.str h (by decide))).up (by decide) (by decide)
theorem tell_sd (V : TreeV rows made) (hl : rows.length ≤ 20) (hm : made ≤ 2000) {b : Bool} {d T : D} (h : tell b rows d T) : Sd 4 50000 T := by
  unfold tell at h
  cases hr : rowP rows d with
  | none => rw [hr] at h; rw [h]; exact no_sd (by decide +kernel)
  | some r =>
    rw [hr] at h
    obtain ⟨n, rfl⟩ : ∃ n, d = .int n := by
      cases d with
      | int n => exact ⟨n, rfl⟩
      | _ => cases hr
    have hrm := (rowO_mem (rows := rows) (n := n) hr).1
    cases b with
    | true =>
      obtain ⟨ws, W, rfl⟩ := h
      have few := WT.few V W.rise.nodup fun w hw => by
        obtain ⟨p, h⟩ := (W.mem w).mp hw
        exact ⟨p, _, h⟩
      have e20 := eds_few20 V hl
      have s : Sd 3 43621 (.tup (ws.map wayD)) := (Sd.tups (n := 2) (m := 180) (k := 241) (fun e he => by
        obtain ⟨w, hw, rfl⟩ := List.mem_map.mp he
        obtain ⟨p, h⟩ := (W.mem w).mp hw
        exact way_th V hl h) (by rw [List.length_map]; omega)).up (by decide) (by decide)
      exact (Sd.two (n := 3) (a := 8) (b := 43621) ((show Sd 1 8 (.str "told") from Sd.str (by decide +kernel) (by decide)).up (by decide) (Nat.le_refl _)) s).up (by decide) (by decide)
    | false =>
      have h : (if r.2.1 = ("sheet" : Str) then T = noD "sheet" else T = .tup [.str "told", .tup ((abv rows r.1).map D.int)]) := h
      by_cases hs : r.2.1 = ("sheet" : Str)
      · rw [if_pos hs] at h; rw [h]; exact no_sd (by decide +kernel)
      · rw [if_neg hs] at h
        rw [h]
        have hk : r.2.1 = ("drawer" : Str) := by
          rcases V.kd r hrm with h | h
          · exact h
          · exact absurd h hs
        have c := V.abv hrm hk
        have s : Sd 3 20 (.tup ((abv rows r.1).map D.int)) := (Sd.tups (n := 1) (m := 0) (k := 20) (fun e he => by
          obtain ⟨x, hx, rfl⟩ := List.mem_map.mp he
          obtain ⟨a, b⟩ := id_Sd V hm (c.ids x hx)
          exact Sd.int a b) (by rw [List.length_map]; exact Nat.le_trans c.len hl)).up (by decide) (by decide)
        exact (Sd.two (n := 3) (a := 8) (b := 20) ((show Sd 1 8 (.str "told") from Sd.str (by decide +kernel) (by decide)).up (by decide) (Nat.le_refl _)) s).up (by decide) (by decide)
theorem above_small (V : TreeV rows made) (hl : rows.length ≤ 20) (hm : made ≤ 2000) {d T : D} (h : tell false rows d T) : Sd 4 100 T := by
  unfold tell at h
  have no1 : ∀ {w : Str}, KR.ltr w = true → Sd 4 100 (noD w) := fun h => (Sd.two (n := 1) (a := 8) (b := 8) (Sd.str (by decide +kernel) (by decide)) (Sd.str h (by decide))).up (by decide) (by decide)
  cases hr : rowP rows d with
  | none => rw [hr] at h; rw [h]; exact no1 (by decide +kernel)
  | some r =>
    rw [hr] at h
    obtain ⟨n, rfl⟩ : ∃ n, d = .int n := by
      cases d with
      | int n => exact ⟨n, rfl⟩
      | _ => cases hr
    have hrm := (rowO_mem (rows := rows) (n := n) hr).1
    have h : (if r.2.1 = ("sheet" : Str) then T = noD "sheet" else T = .tup [.str "told", .tup ((abv rows r.1).map D.int)]) := h
    by_cases hs : r.2.1 = ("sheet" : Str)
    · rw [if_pos hs] at h; rw [h]; exact no1 (by decide +kernel)
    · rw [if_neg hs] at h
      rw [h]
      have hk : r.2.1 = ("drawer" : Str) := by
        rcases V.kd r hrm with h | h
        · exact h
        · exact absurd h hs
      have c := V.abv hrm hk
      have s : Sd 3 20 (.tup ((abv rows r.1).map D.int)) := (Sd.tups (n := 1) (m := 0) (k := 20) (fun e he => by
        obtain ⟨x, hx, rfl⟩ := List.mem_map.mp he
        obtain ⟨a, b⟩ := id_Sd V hm (c.ids x hx)
        exact Sd.int a b) (by rw [List.length_map]; exact Nat.le_trans c.len hl)).up (by decide) (by decide)
      exact (Sd.two (n := 3) (a := 8) (b := 20) ((show Sd 1 8 (.str "told") from Sd.str (by decide +kernel) (by decide)).up (by decide) (Nat.le_refl _)) s).up (by decide) (by decide)
theorem pair_th (V : TreeV rows made) (hl : rows.length ≤ 20) (hm : made ≤ 2000) {d T U : D} (h : tell true rows d T) (k : tell false rows d U) : Th 8 60000 0 (.fz [T, U]) := by
  have a := (tell_sd V hl hm h).th
  have b := (above_small V hl hm k).th
  refine (Th.fz (n := 4) (m := 60000) (fun e he => ?_) (fun e he => ?_) ?_).up (by decide) (Nat.le_refl _) (Nat.le_refl _)
  · simp only [List.mem_cons, List.not_mem_nil, or_false] at he
    rcases he with rfl | rfl
    · exact a.ok
    · exact b.ok
  · simp only [List.mem_cons, List.not_mem_nil, or_false] at he
    rcases he with rfl | rfl
    · exact a.bg
    · exact b.bg
  · have := a.bk; have := b.bk
    rw [bA_cons, bA_cons, bA_nil]; omega
theorem AW.to {ws : List WN} (A : AW rows ws) (n : Int) : WsTo rows n ((srtN (ws.filter fun q => decide (q.2.2 = n))).map (·.1)) := by
  have sub : ((ws.filter fun q => decide (q.2.2 = n)).map (·.1)).Nodup := A.nd.sublist ((List.filter_sublist).map _)
  refine ⟨srtN_rise sub, fun w => ?_⟩
  rw [List.mem_map]
  constructor
  · rintro ⟨q, hq, rfl⟩
    have hq := (srtN_perm _).mem_iff.mp hq
    obtain ⟨h1, h2⟩ := List.mem_filter.mp hq
    have := A.wt q h1
    rw [of_decide_eq_true h2] at this
    exact ⟨_, this⟩
  · rintro ⟨p, h⟩
    exact ⟨(w, p, n), (srtN_perm _).mem_iff.mpr (List.mem_filter.mpr ⟨A.all w p n h, decide_eq_true rfl⟩), rfl⟩
end
end K04
namespace K04
open PySem PySem.Spec PyProof.Rows L2 DL KF
open KB (Nd isK rowD treeD wayD entO srtE srtE_perm)
open KD hiding tD sp_row_of len_row_of r_row_of N_row_of vc_row_of sp_kind_of len_kind_of r_kind_of N_kind_of vc_kind_of sp_entries_of len_entries_of r_entries_of N_entries_of vc_entries_of sp_way_through len_way_through r_way_through N_way_through vc_way_through wtA wtB wt1 sp_above len_above r_above N_above vc_above
open K03 (Ask AskR rowP noD kx shown_row kx_nodup wDict_strs repr_ref odd sp_way_through)
open _root_.KT (dSeq_go)
open KR (Sd Th bA bA_cons bA_nil)
def rtA : DTS := dPar 2 3 (dCons (dCB wDict (dCons (dLC (diVal (dBin wAt (dV 0) (dC (.int 0))) wIterA) (gdName 6) dYes [6] [6] [] (dTup (dCons (dCB wReprA (dCons (dBin wAt (dV 6) (dC (.int 0))) dNil)) (dCons (dBin wAt (dV 6) (dC (.int 1))) dNil)))) dNil)) (dCons (dCall sp__law_all_ways [] (dCons (dV 0) dNil)) dNil))
def rtD : DTS := dAsg (dLst (dCons (dTup (dCons (dC (.str "no")) (dCons (dC (.str "node")) dNil))) (dCons (dTup (dCons (dC (.str "no")) (dCons (dC (.str "node")) dNil))) dNil))) (gdName 4)
def rtS : DTS := dAsg (dCB wSortedD (dCons (dLC (diVal (dV 3) wIterA) (gdName 6) (dTst (dBin wEq (dBin wAt (dBin wAt (dV 6) (dC (.int 1))) (dUn wNeg (dC (.int 1)))) (dV 1))) [6] [6] [] (dV 6)) dNil)) (gdName 5)
def rtE : DTS := dAsg (dLst (dCons (dTup (dCons (dC (.str "told")) (dCons (dCB wTuple (dCons (dLC (diVal (dV 5) wIterA) (gdTup 2 (gdCons (gdName 7) (gdCons (gdName 8) gdNil))) dYes [7, 8] [7, 8] [] (dV 7)) dNil)) dNil))) (dCons (dTup (dCons (dC (.str "no")) (dCons (dC (.str "sheet")) dNil))) dNil))) (gdName 4)
def rtF : DTS := dIfS (dTst (dBin wEq (dBin wAt (dV 2) (dCB wReprA (dCons (dV 1) dNil))) (dC (.str "drawer")))) (dAsg (dTup (dCons (dC (.str "told")) (dCons (dRev (dCut (dBin wAt (dBin wAt (dV 5) (dC (.int 0))) (dC (.int 1))) dNoPart (dPart (dUn wNeg (dC (.int 1)))))) dNil))) (gdSub (dV 4) (dC (.int 1)) wSet)) dNext
def rtB : DTS := dIfS (dTst (dBin (wIn false) (dCB wReprA (dCons (dV 1) dNil)) (dV 2))) (dSeq rtS (dSeq rtE rtF)) dNext
def rtC : DTS := dIfS (dTst (dBin wNe (dCB wReprA (dCons (dFLst (dCons (dCall (pur sp__law_told) [] (dCons (dC (.int 0)) (dCons (dV 0) (dCons (dV 1) dNil)))) (dCons (dCall (pur sp__law_told) [] (dCons (dC (.int 1)) (dCons (dV 0) (dCons (dV 1) dNil)))) dNil))) dNil)) (dCB wReprA (dCons (dV 4) dNil)))) (dRet (dC (.bl false))) dNext
def rtL : DTS := dFor (diVal (dBin wAdd (dLC (diVal (dBin wAt (dV 0) (dC (.int 0))) wIterA) (gdName 6) dYes [6] [6] [] (dBin wAt (dV 6) (dC (.int 0)))) (dLst (dCons (dBin wAt (dV 0) (dC (.int 1))) (dCons (dUn wNeg (dC (.int 1))) (dCons (dC (.bl true)) (dCons (dC .non) (dCons (dC (.str "0")) (dCons (dTup (dCons (dC (.int 0)) dNil)) (dCons (dFLst (dCons (dC (.int 0)) dNil)) dNil))))))))) wIterA) (gdName 1) (dSeq rtD (dSeq rtB rtC))
def rtZ : DTS := dRet (dBin wEq (dLC (diVal (dV 3) wIterA) (gdName 6) (dTst (dBin wNe (dCall (pur sp_way_through) [.int 0] (dCons (dV 0) (dCons (dBin wAt (dV 6) (dC (.int 0))) dNil))) (dTup (dCons (dBin wAt (dV 6) (dC (.int 1))) (dCons (dC .non) dNil))))) [6] [6] [] (dV 6)) (dLst dNil))
def r__law_right : DTS := dSeq rtA (dSeq rtL rtZ)
abbrev N__law_right : List Str := ["_law_tree_here", "_law_thing", "_law_kinds", "_law_ways", "_law_due", "_law_own", "_law_row", "_law_way", "_law_nodes"]
def eKi (r : Nd) : D × D := (.str (kx r), .str r.2.1)
section
variable {S : Sto} {rows : List Nd} {made : Int} {Dn : DEnds} {x1 x4 x5 x6 x7 x8 : Option D} {K F : Addr} {ws : List WN}
theorem fitKi {x : Str} : keyFit (rows.map eKi) (.str x) = true := keyFit_str (f := kx) (g := fun r : Nd => D.str r.2.1)
theorem getKi (V : TreeV rows made) {d : D} (h : AskR d) : dGet (rows.map eKi) (.str d.py.shown) = (rowP rows d).map fun r => D.str r.2.1 := by
  have e1 : dGet (rows.map eKi) (.str d.py.shown) = (rows.find? fun r => decide (kx r = d.py.shown)).map fun r => D.str r.2.1 := dGet_str (f := kx) (g := fun r : Nd => D.str r.2.1)
  have e2 : dGet (rows.map K03.eX) (.str d.py.shown) = (rows.find? fun r => decide (kx r = d.py.shown)).map rowD := dGet_str (f := kx) (g := rowD)
  have e3 := K03.getX V h
  rw [e2] at e3
  rw [e1]
  cases h1 : (rows.find? fun r => decide (kx r = d.py.shown)) with
  | none =>
    rw [h1] at e3
    cases h2 : rowP rows d with
    | none => rfl
    | some r => rw [h2] at e3; cases e3
  | some r =>
    rw [h1] at e3
    cases h2 : rowP rows d with
    | none => rw [h2] at e3; cases e3
    | some r2 =>
      rw [h2] at e3
      have : rowD r = rowD r2 := Option.some.inj e3
      unfold rowD at this
      have e : r.2.1 = r2.2.1 := by
        have := D.tup.inj this
        simp only [List.cons.injEq, D.str.injEq] at this
        exact this.2.1
      show some (D.str r.2.1) = some (D.str r2.2.1)
      rw [e]
theorem rtC_of {y2 y3 y5 y6 y7 y8 : Option D} {d T U : D} {L : Addr} (V : TreeV rows made) (hl : rows.length ≤ 20) (hm : made ≤ 2000) (hd : AskR d) (t1 : tell true rows d T) (t2 : tell false rows d U) (gL : S L = some (.lst [T, U]))
    (k : Dn.nx [some (treeD rows made), some d, y2, y3, some (.ref L), y5, y6, y7, y8] S) : rtC Dn [some (treeD rows made), some d, y2, y3, some (.ref L), y5, y6, y7, y8] S := by
  have sz : 100001 < sizeLine := by rw [sizeLine_eq]; decide
  have uniq : ∀ b T', tell b rows d T' → T' = (if b then T else U) := fun b T' h => by
    unfold tell at h t1 t2
    cases hr : rowP rows d with
    | none =>
      rw [hr] at h t1 t2
      cases b
      · exact h.trans t2.symm
      · exact h.trans t1.symm
    | some r =>
      rw [hr] at h t1 t2
      cases b with
      | true =>
        obtain ⟨w1, W1, rfl⟩ := h
        obtain ⟨w2, W2, rfl⟩ := t1
        rw [W1.rise.same W2.rise fun w => (W1.mem w).trans (W2.mem w).symm]
        rfl
      | false =>
        have h : (if r.2.1 = ("sheet" : Str) then T' = noD "sheet" else T' = .tup [.str "told", .tup ((abv rows r.1).map D.int)]) := h
        have t2 : (if r.2.1 = ("sheet" : Str) then U = noD "sheet" else U = .tup [.str "told", .tup ((abv rows r.1).map D.int)]) := t2
        by_cases hs : r.2.1 = ("sheet" : Str)
        · rw [if_pos hs] at h t2; exact h.trans t2.symm
        · rw [if_neg hs] at h t2; exact h.trans t2.symm
  have th := pair_th V hl hm t1 t2
  unfold rtC
  simp only [dIfS_eq, dTst_eq, dBin_eq, dCB_eq, dFLst_eq, dCall_eq, dCons_eq, dNil_eq, dC_eq, List.append_nil]
  refine dV_at (by rfl) ?_
  refine dV_at (by rfl) ?_
  refine ⟨true, rows, made, d, rfl, V, by omega, hd.ask, fun T' hT _ => ?_⟩
  obtain rfl : T' = T := uniq true T' hT
  refine dV_at (by rfl) ?_
  refine dV_at (by rfl) ?_
  refine ⟨false, rows, made, d, rfl, V, by omega, hd.ask, fun U' hU _ => ?_⟩
  obtain rfl : U' = U := uniq false U' hU
  refine ⟨by show 2 ≤ sizeLine; omega, ?_⟩
  show wReprA [.fz [_, _]] S _
  rw [th.repr (by decide) (by decide) (by decide)]
  refine dV_at (by rfl) ?_
  rw [repr_ref gL th (by decide) (by decide) (by decide), wNe_str, isB_bl, if_neg (by simp)]
  exact k
theorem rtS_of {n : Int} {y4 : Option D} (gF : S F = some (.lst (ws.map wnD))) (hw : ws.length ≤ 1201)
    (k : ∀ P x6 S', Grow S S' → S' P = some (.lst ((srtN (ws.filter fun q => decide (q.2.2 = n))).map wnD)) → Dn.nx [some (treeD rows made), some (.int n), some (.ref K), some (.ref F), y4, some (.ref P), x6, x7, x8] S') :
    rtS Dn [some (treeD rows made), some (.int n), some (.ref K), some (.ref F), y4, x5, x6, x7, x8] S := by
  have sz : 100001 < sizeLine := by rw [sizeLine_eq]; decide
  unfold rtS
  rw [dAsg_eq, dCB_eq, dCons_eq, dLC_eq, diVal_eq]
  refine dV_at (by rfl) ?_
  rw [wIter_lst gF]
  intro G hG
  have FG : F ≠ G := ne_of_free hG gF
  show loopC _ _ _ _ _ _ [some (treeD rows made), some (.int n), some (.ref K), some (.ref F), y4, x5, none, x7, x8] _ _
  refine lc_map wnD (fun q : WN => if q.2.2 = n then [wnD q] else []) ws (fun o => by rw [put_ne FG]; exact gF) ?_ (fun q hq acc k2 hacc hk2 => ?_) ?_
  · have := flatMap_le (fun q : WN => if q.2.2 = n then [wnD q] else []) 1 ws fun x _ => by split <;> simp
    omega
  · rw [gdName_eq]
    refine ⟨rfl, ?_⟩
    show dTst _ [some (treeD rows made), some (.int n), some (.ref K), some (.ref F), y4, x5, some (wnD q), x7, x8] _ _
    simp only [dTst_eq, dBin_eq, dC_eq, dUn_eq, wNeg_int]
    refine dV_at (by rfl) ?_
    show wAt (.tup [wayD q.1, nodesD (q.2.1, q.2.2)]) (.int 1) _ _
    rw [wAt_tup, atI1, onS_some]
    refine last_at ?_
    refine dV_at (by rfl) ?_
    rw [wEq_int, isB_bl]
    by_cases h : q.2.2 = n
    · rw [if_pos (decide_eq_true h)]
      rw [if_pos h] at hk2 hacc
      rw [emLst_eq]
      refine dV_at (by rfl) ?_
      rw [onL_eq put_same]
      rw [List.length_singleton] at hacc
      exact ⟨by omega, by rw [put_put']; exact hk2⟩
    · rw [if_neg (by simpa using h)]
      rw [if_neg h, List.append_nil] at hk2
      exact hk2
  · have e1 : (ws.flatMap fun q : WN => if q.2.2 = n then [wnD q] else []) = (ws.filter fun q => decide (q.2.2 = n)).map wnD := by
      clear gF hw k
      induction ws with
      | nil => rfl
      | cons q l ih =>
        rw [List.flatMap_cons, ih, List.filter_cons]
        by_cases h : q.2.2 = n
        · rw [if_pos h, if_pos (decide_eq_true h)]; rfl
        · rw [if_neg h, if_neg (by simpa using h)]; rfl
    rw [e1, dNil_eq]
    refine sorted_wns _ put_same fun P hP => ?_
    exact k P x6 _ ((Grow.put hG).then hP) put_same
theorem rtE_of {n : Int} {y4 : Option D} {P : Addr} {l : List WN} (gP : S P = some (.lst (l.map wnD))) (hl : l.length ≤ 1201)
    (k : ∀ L S', Grow S S' → S L = none → S' L = some (.lst [.tup [.str "told", .tup ((l.map (·.1)).map wayD)], noD "sheet"]) → Dn.nx [some (treeD rows made), some (.int n), some (.ref K), some (.ref F), some (.ref L), some (.ref P), x6, x7, x8] S') :
    rtE Dn [some (treeD rows made), some (.int n), some (.ref K), some (.ref F), y4, some (.ref P), x6, x7, x8] S := by
  have sz : 100001 < sizeLine := by rw [sizeLine_eq]; decide
  unfold rtE
  rw [dAsg_eq, dLst_eq, dCons_eq, dTup_eq, dCons_eq, dC_eq, dCons_eq, dCB_eq, dCons_eq, dLC_eq, diVal_eq]
  refine dV_at (by rfl) ?_
  rw [wIter_lst gP]
  intro G hG
  have PG : P ≠ G := ne_of_free hG gP
  show loopC _ _ _ _ _ _ [some (treeD rows made), some (.int n), some (.ref K), some (.ref F), y4, some (.ref P), x6, none, none] _ _
  refine lc_map wnD (fun q : WN => [wayD q.1]) l (fun o => by rw [put_ne PG]; exact gP) ?_ (fun q hq acc k2 hacc hk2 => ?_) ?_
  · have := flatMap_le (fun q : WN => [wayD q.1]) 1 l fun x _ => by simp
    omega
  · refine ⟨rfl, rfl, ?_⟩
    show _ ∧ _
    refine ⟨rfl, ?_⟩
    rw [dYes_eq, if_pos rfl]
    show emLst _ G [some (treeD rows made), some (.int n), some (.ref K), some (.ref F), y4, some (.ref P), x6, some (wayD q.1), some (nodesD (q.2.1, q.2.2))] _ _
    rw [emLst_eq]
    refine dV_at (by rfl) ?_
    rw [onL_eq put_same]
    rw [List.length_singleton] at hacc
    exact ⟨by omega, by rw [put_put']; exact hk2⟩
  · have e1 : (l.flatMap fun q : WN => [wayD q.1]) = (l.map (·.1)).map wayD := by
      rw [flatMap_one, List.map_map]; rfl
    rw [e1, dNil_eq, wTuple_lst put_same, dNil_eq]
    refine ⟨by show 2 ≤ sizeLine; omega, ?_⟩
    simp only [dCons_eq, dTup_eq, dC_eq, dNil_eq]
    refine ⟨by show 2 ≤ sizeLine; omega, by show 2 ≤ sizeLine; omega, fun L hL => ?_⟩
    have LG : L ≠ G := fun z => by rw [z, put_same] at hL; cases hL
    refine k L _ ((Grow.put hG).then hL) ?_ put_same
    rw [put_ne LG] at hL
    exact hL
end
end K04
namespace K04
open PySem PySem.Spec PyProof.Rows L2 DL KF
open KB (Nd isK rowD treeD wayD entO srtE srtE_perm)
open KD hiding tD sp_row_of len_row_of r_row_of N_row_of vc_row_of sp_kind_of len_kind_of r_kind_of N_kind_of vc_kind_of sp_entries_of len_entries_of r_entries_of N_entries_of vc_entries_of sp_way_through len_way_through r_way_through N_way_through vc_way_through wtA wtB wt1 sp_above len_above r_above N_above vc_above
open K03 (Ask AskR rowP noD kx shown_row kx_nodup wDict_strs repr_ref odd sp_way_through)
open _root_.KT (dSeq_go)
open KR (Sd Th bA bA_cons bA_nil)
section
variable {S : Sto} {rows : List Nd} {made : Int} {Dn : DEnds} {x1 x4 x5 x6 x7 x8 : Option D} {K F : Addr} {ws : List WN}
theorem body_go {d : D} {y4 y5 y6 y7 y8 : Option D} (V : TreeV rows made) (hl : rows.length ≤ 20) (hm : made ≤ 2000) (hd : AskR d) (gK : S K = some (.dct (rows.map eKi))) (gF : S F = some (.lst (ws.map wnD))) (A : AW rows ws) (hw : ws.length ≤ 1201)
    (k : ∀ y4 y5 y6 S', Grow S S' → Dn.nx [some (treeD rows made), some d, some (.ref K), some (.ref F), y4, y5, y6, y7, y8] S') :
    dSeq rtD (dSeq rtB rtC) Dn [some (treeD rows made), some d, some (.ref K), some (.ref F), y4, y5, y6, y7, y8] S := by
  have sz : 100001 < sizeLine := by rw [sizeLine_eq]; decide
  have rep : ∀ {S' : Sto} {Q : KD}, wReprA [d] S' Q = Q (.str d.py.shown) S' := fun {S' Q} => hd.th.repr (by decide) (by decide) (by decide)
  refine dSeq_go ?_
  unfold rtD
  simp only [dAsg_eq, dLst_eq, dTup_eq, dCons_eq, dNil_eq, dC_eq]
  refine ⟨by show 2 ≤ sizeLine; omega, by show 2 ≤ sizeLine; omega, by show 2 ≤ sizeLine; omega, fun L0 hL0 => ?_⟩
  show dSeq rtB rtC _ [some (treeD rows made), some d, some (.ref K), some (.ref F), some (.ref L0), y5, y6, y7, y8] (put S L0 (.lst [noD "node", noD "node"]))
  have g0 := Grow.put (o := .lst [noD "node", noD "node"]) hL0
  have gL0 : put S L0 (.lst [noD "node", noD "node"]) L0 = some (.lst [noD "node", noD "node"]) := put_same
  generalize put S L0 (.lst [noD "node", noD "node"]) = S1 at *
  have gK1 := g0 _ _ gK
  have gF1 := g0 _ _ gF
  refine dSeq_go ?_
  unfold rtB
  simp only [dIfS_eq, dTst_eq, dBin_eq, dCB_eq, dCons_eq, dNil_eq]
  refine dV_at (by rfl) ?_
  rw [rep]
  refine dV_at (by rfl) ?_
  rw [wIn_dct gK1 fitKi, getKi V hd, isB_bl]
  cases e : rowP rows d with
  | none =>
    rw [if_neg (by simp)]
    show rtC _ [some (treeD rows made), some d, some (.ref K), some (.ref F), some (.ref L0), y5, y6, y7, y8] S1
    refine rtC_of V hl hm hd (T := noD "node") (U := noD "node") ?_ ?_ gL0 (k _ _ _ _ g0)
    · unfold tell; rw [e]
    · unfold tell; rw [e]
  | some r =>
    rw [if_pos (by rfl)]
    obtain ⟨n, rfl⟩ : ∃ n, d = .int n := by
      cases d with
      | int n => exact ⟨n, rfl⟩
      | _ => cases e
    have hr : rowO rows n = some r := e
    obtain ⟨hrm, hri⟩ := rowO_mem hr
    refine dSeq_go ?_
    refine rtS_of gF1 hw fun P x6 S2 g2 gP => ?_
    have W := A.to (rows := rows) n
    have lfew : (srtN (ws.filter fun q => decide (q.2.2 = n))).length ≤ 1201 := by
      rw [(srtN_perm _).length_eq]
      exact Nat.le_trans (List.length_filter_le _ _) hw
    have mem : ∀ q ∈ srtN (ws.filter fun q => decide (q.2.2 = n)), WT rows q.1 q.2.1 n := fun q hq => by
      obtain ⟨h1, h2⟩ := List.mem_filter.mp ((srtN_perm _).mem_iff.mp hq)
      have := A.wt q h1
      rw [of_decide_eq_true h2] at this
      exact this
    generalize srtN (ws.filter fun q => decide (q.2.2 = n)) = l at *
    refine dSeq_go ?_
    refine rtE_of gP lfew fun L S3 g3 hL gL => ?_
    have gK3 := g3 _ _ (g2 _ _ gK1)
    have gP3 := g3 _ _ gP
    have tT : tell true rows (.int n) (.tup [.str "told", .tup ((l.map (·.1)).map wayD)]) := by
      unfold tell
      rw [show rowP rows (.int n) = some r from hr]
      exact ⟨_, by rw [hri]; exact W, rfl⟩
    show rtF _ [some (treeD rows made), some (.int n), some (.ref K), some (.ref F), some (.ref L), some (.ref P), x6, y7, y8] S3
    unfold rtF
    simp only [dIfS_eq, dTst_eq, dBin_eq, dCB_eq, dCons_eq, dNil_eq, dC_eq]
    refine dV_at (by rfl) ?_
    refine dV_at (by rfl) ?_
    rw [rep, wAt_dct gK3 fitKi (v := .str r.2.1) (by rw [getKi V hd, e]; rfl), wEq_str, isB_bl]
    by_cases hk : r.2.1 = ("drawer" : Str)
    · rw [if_pos (by simpa using hk)]
      have kn : kindO rows n = ("drawer" : Str) := by rw [kindO_eq hr]; exact hk
      obtain ⟨v, p, hv, Wv⟩ := ws_drawer V (by rw [← hri]; exact List.mem_map_of_mem hrm) kn
      have el : l.map (·.1) = [v] := W.rise.same Wv.rise fun w => (W.mem w).trans (Wv.mem w).symm
      obtain ⟨q, rfl⟩ : ∃ q, l = [q] := by
        cases l with
        | nil => cases el
        | cons q l => cases l with
          | nil => exact ⟨q, rfl⟩
          | cons _ _ => simp at el
      have hq := mem q (by simp)
      simp only [dAsg_eq, dTup_eq, dCons_eq, dNil_eq, dC_eq, dBin_eq, dCut_eq, dNoPart_eq, dPart_eq, dUn_eq, wNeg_int, gdSub_eq]
      unfold dRev
      simp only [dCut_eq, dBin_eq, dC_eq, dNoPart_eq, dPart_eq, dUn_eq, wNeg_int]
      refine dV_at (by rfl) ?_
      rw [wAt_lst gP3]
      show onS (atI [wnD q] 0) _
      rw [atI0, onS_some]
      show wAt (.tup [wayD q.1, nodesD (q.2.1, q.2.2)]) (.int 1) _ _
      rw [wAt_tup, atI1, onS_some, isI_int]
      show wCut (nodesD (q.2.1, q.2.2)) none (some (-1)) _ _
      unfold nodesD
      rw [wCut_tup, cut_last, List.dropLast_concat]
      refine ⟨by show 2 ≤ sizeLine; omega, ?_⟩
      refine dV_at (by rfl) ?_
      rw [wSet_lst gL]
      show rtC _ [some (treeD rows made), some (.int n), some (.ref K), some (.ref F), some (.ref L), some (.ref P), x6, y7, y8] (put S3 L (.lst [.tup [.str "told", .tup (([q].map (·.1)).map wayD)], .tup [.str "told", .tup (q.2.1.map D.int).reverse]]))
      refine rtC_of V hl hm hd tT (U := .tup [.str "told", .tup (q.2.1.map D.int).reverse]) ?_ put_same (k _ _ _ _ (((g0.trans g2).trans g3).own ?_))
      · unfold tell
        rw [show rowP rows (.int n) = some r from hr]
        show (if r.2.1 = ("sheet" : Str) then _ else _)
        rw [if_neg (by rw [hk]; exact drawer_ne_sheet), hri, hq.abv V kn, List.map_reverse]
      · exact (g0.trans g2).free hL
    · rw [if_neg (by simpa using hk)]
      show rtC _ [some (treeD rows made), some (.int n), some (.ref K), some (.ref F), some (.ref L), some (.ref P), x6, y7, y8] S3
      refine rtC_of V hl hm hd tT (U := noD "sheet") ?_ gL (k _ _ _ _ ((g0.trans g2).trans g3))
      unfold tell
      rw [show rowP rows (.int n) = some r from hr]
      show (if r.2.1 = ("sheet" : Str) then _ else _)
      rw [if_pos (by
        rcases V.kd r hrm with h | h
        · exact absurd h hk
        · exact h)]
end
end K04
namespace K04
open PySem PySem.Spec PyProof.Rows L2 DL KF
open KB (Nd isK rowD treeD wayD entO srtE srtE_perm)
open KD hiding tD sp_row_of len_row_of r_row_of N_row_of vc_row_of sp_kind_of len_kind_of r_kind_of N_kind_of vc_kind_of sp_entries_of len_entries_of r_entries_of N_entries_of vc_entries_of sp_way_through len_way_through r_way_through N_way_through vc_way_through wtA wtB wt1 sp_above len_above r_above N_above vc_above
open K03 (Ask AskR rowP noD kx shown_row kx_nodup wDict_strs repr_ref odd sp_way_through)
open _root_.KT (dSeq_go)
open KR (Sd Th bA bA_cons bA_nil)
def tailR (made : Int) : List D := [.int made, .int (-1), .bl true, .non, .str "0", .tup [.int 0], .fz [.int 0]]
theorem things_askR {rows : List Nd} {made : Int} (V : TreeV rows made) (hm : made ≤ 2000) : ∀ d ∈ (rows.map fun r => D.int r.1) ++ tailR made, AskR d := fun d hd => by
  have big : (2009 : Nat) ≤ 10 ^ 203 := by decide +kernel
  have m0 : 0 ≤ made := by
    obtain ⟨es, r, e⟩ := V.top
    have := V.lt (0, "drawer", es) (by rw [e]; exact List.mem_cons_self ..)
    simp only at this
    omega
  rcases List.mem_append.mp hd with hd | hd
  · obtain ⟨r, hr, rfl⟩ := List.mem_map.mp hd
    obtain ⟨a, b⟩ := id_Sd V hm (List.mem_map_of_mem (f := fun r : Nd => r.1) hr)
    exact Or.inl ⟨_, rfl, Or.inl a, Nat.le_trans (by omega) big⟩
  · simp only [tailR, List.mem_cons, List.not_mem_nil, or_false] at hd
    rcases hd with rfl | rfl | rfl | rfl | rfl | rfl | rfl
    · exact Or.inl ⟨_, rfl, Or.inl m0, Nat.le_trans (by omega) big⟩
    · exact Or.inl ⟨_, rfl, Or.inr rfl, Nat.le_trans (by decide) big⟩
    · exact Or.inr (by simp [odd])
    · exact Or.inr (by simp [odd])
    · exact Or.inr (by simp [odd])
    · exact Or.inr (by simp [odd])
    · exact Or.inr (by simp [odd])
section
variable {S : Sto} {rows : List Nd} {made : Int} {Dn : DEnds} {x1 x4 x5 x6 x7 x8 : Option D} {K F : Addr} {ws : List WN}
theorem rtL_of {y1 y4 y5 : Option D} (V : TreeV rows made) (hl : rows.length ≤ 20) (hm : made ≤ 2000) (gK : S K = some (.dct (rows.map eKi))) (gF : S F = some (.lst (ws.map wnD))) (A : AW rows ws) (hw : ws.length ≤ 1201)
    (k : ∀ y1 y4 y5 y6 S', Grow S S' → Dn.nx [some (treeD rows made), y1, some (.ref K), some (.ref F), y4, y5, y6, none, none] S') :
    rtL Dn [some (treeD rows made), y1, some (.ref K), some (.ref F), y4, y5, none, none, none] S := by
  have sz : 100001 < sizeLine := by rw [sizeLine_eq]; decide
  unfold rtL
  generalize hC : dSeq rtD (dSeq rtB rtC) = C
  rw [dFor_eq, diVal_eq, dBin_eq, dLC_eq, diVal_eq, dBin_eq]
  refine dV_at (by rfl) ?_
  rw [dC_eq]
  unfold treeD
  rw [wAt_tup, atI0, onS_some, wIter_tup]
  intro G hG
  show loopC _ _ _ _ _ _ [some (.tup [.tup (rows.map rowD), .int made]), y1, some (.ref K), some (.ref F), y4, y5, none, none, none] _ _
  refine lc_map rowD (fun r : Nd => [D.int r.1]) rows (fun _ => trivial) ?_ (fun r hr acc k2 hacc hk => ?_) ?_
  · have := flatMap_le (fun r : Nd => [D.int r.1]) 1 rows fun x _ => by simp
    omega
  · show _ ∧ _
    refine ⟨by simp, ?_⟩
    rw [dYes_eq, if_pos rfl, emLst_eq]
    simp only [dBin_eq, dC_eq]
    refine dV_at (by rfl) ?_
    show wAt (.tup [.int r.1, .str r.2.1, .tup (r.2.2.map pairSI)]) (.int 0) _ _
    rw [wAt_tup, atI0, onS_some]
    rw [onL_eq put_same]
    simp only [List.length_singleton] at hacc
    exact ⟨by omega, by rw [put_put']; exact hk⟩
  · have e1 : (rows.flatMap fun r : Nd => [D.int r.1]) = rows.map fun r : Nd => D.int r.1 := flatMap_one _ _
    rw [e1]
    simp only [dLst_eq, dCons_eq, dNil_eq, dBin_eq, dC_eq, dUn_eq, dTup_eq, dFLst_eq, wNeg_int]
    refine dV_at (by rfl) ?_
    rw [wAt_tup, atI1, onS_some]
    refine ⟨by show 1 ≤ sizeLine; omega, by show 1 ≤ sizeLine; omega, by show 7 ≤ sizeLine; omega, fun p hp => ?_⟩
    have gp : G ≠ p := ne_of_free hp put_same
    generalize hT : ([D.int made, D.int (-1), D.bl true, D.non, D.str "0", D.tup [D.int 0], D.fz [D.int 0]] : List D) = TT
    have eT : TT = tailR made := by rw [← hT]; rfl
    rw [wAdd_ref, onL_eq (ds := rows.map fun r : Nd => D.int r.1) (by rw [put_ne gp]; exact put_same), onL_eq put_same]
    refine ⟨by rw [List.length_map, eT]; show rows.length + 7 ≤ sizeLine; omega, fun T hT2 => ?_⟩
    have g1 := ((Grow.put (o := .lst (rows.map fun r : Nd => D.int r.1)) hG).then (o := .lst TT) hp).then (o := .lst ((rows.map fun r : Nd => D.int r.1) ++ TT)) hT2
    have gT : put (put (put S G (.lst (rows.map fun r : Nd => D.int r.1))) p (.lst TT)) T (.lst ((rows.map fun r : Nd => D.int r.1) ++ TT)) T = some (.lst ((rows.map fun r : Nd => D.int r.1) ++ TT)) := put_same
    generalize put (put (put S G (.lst (rows.map fun r : Nd => D.int r.1))) p (.lst TT)) T (.lst ((rows.map fun r : Nd => D.int r.1) ++ TT)) = S1 at *
    have ask := things_askR V hm
    rw [← eT] at ask
    rw [wIter_lst gT]
    generalize (rows.map fun r : Nd => D.int r.1) ++ TT = XS at *
    have id : XS = XS.map fun d => d := by simp
    rw [id]
    refine loop_map (fun d => d) (fun done τ S' => Grow S1 S' ∧ ∃ y1 y4 y5 y6, τ = [some (treeD rows made), y1, some (.ref K), some (.ref F), y4, y5, y6, none, none]) (fun _ _ S' h => by rw [← id]; exact h.1 _ _ gT) (fun τ S' h => ?_) (fun done d rest τ S' es h N hN => ?_) ⟨Grow.refl _, _, _, _, _, rfl⟩
    · obtain ⟨g, y1, y4, y5, y6, rfl⟩ := h
      exact k _ _ _ _ S' (g1.trans g)
    · obtain ⟨g, y1, y4, y5, y6, rfl⟩ := h
      show C _ [some (treeD rows made), some d, some (.ref K), some (.ref F), y4, y5, y6, none, none] S'
      rw [← hC]
      exact body_go V hl hm (ask d (by rw [es]; simp)) (g _ _ (g1 _ _ gK)) (g _ _ (g1 _ _ gF)) A hw fun y4 y5 y6 S3 g3 => hN _ _ ⟨g.trans g3, _, _, _, _, rfl⟩
theorem rtZ_of {Q : KD} {y1 y2 y4 y5 y6 : Option D} (V : TreeV rows made) (hl : rows.length ≤ 20) (gF : S F = some (.lst (ws.map wnD))) (A : AW rows ws) (k : ∀ S', Grow S S' → Q (.bl true) S') :
    rtZ (bodyEnds Q) [some (treeD rows made), y1, y2, some (.ref F), y4, y5, y6, none, none] S := by
  have sz : 100001 < sizeLine := by rw [sizeLine_eq]; decide
  unfold rtZ
  rw [dRet_eq, dBin_eq, dLC_eq, diVal_eq]
  refine dV_at (by rfl) ?_
  rw [wIter_lst gF]
  intro G hG
  have FG : F ≠ G := ne_of_free hG gF
  show loopC _ _ _ _ _ _ [some (treeD rows made), y1, y2, some (.ref F), y4, y5, none, none, none] _ _
  refine loopC_map wnD (fun _ S' => S' = put S G (.lst [])) (fun _ S' h => by rw [h, put_ne FG, gF]) (fun S' h' => ?_) (fun done q rest S' es h' N hN => ?_) rfl
  · subst h'
    rw [dLst_eq, dNil_eq]
    refine ⟨by show 0 ≤ sizeLine; omega, fun p hp => ?_⟩
    have eG : put (put S G (.lst [])) p (.lst []) G = some (.lst []) := by rw [put_ne (ne_of_free hp put_same)]; exact put_same
    rw [wEq_of (.lst eG (fun d hd => by cases hd)) (.lst (put_same (o := .lst [])) (fun d hd => by cases hd)), decide_eq_true rfl]
    exact k _ ((Grow.put hG).then hp)
  · subst h'
    have hq := A.wt q (by rw [es]; simp)
    refine ⟨rfl, ?_⟩
    show dTst _ [some (treeD rows made), y1, y2, some (.ref F), y4, y5, some (wnD q), none, none] _ _
    simp only [dTst_eq, dBin_eq, dCall_eq, dTup_eq, dCons_eq, dNil_eq, dC_eq]
    refine dV_at (by rfl) ?_
    refine dV_at (by rfl) ?_
    show wAt (.tup [wayD q.1, nodesD (q.2.1, q.2.2)]) (.int 0) _ _
    rw [wAt_tup, atI0, onS_some]
    refine ⟨rows, made, q.1, 0, rfl, V, V.zero, by have := hq.short V; omega, fun _ => ?_⟩
    rw [hq.thru V]
    refine dV_at (by rfl) ?_
    show wAt (.tup [wayD q.1, nodesD (q.2.1, q.2.2)]) (.int 1) _ _
    rw [wAt_tup, atI1, onS_some]
    refine ⟨by show 2 ≤ sizeLine; omega, ?_⟩
    have cl : (D.tup [nodesD (q.2.1, q.2.2), .non]).cl 20 = true := by
      unfold nodesD
      simp only [D.cl, D.cls, Bool.and_true]
      exact D.cls_iff.mpr fun d hd => by obtain ⟨_, _, rfl⟩ := List.mem_map.mp hd; rfl
    show wNe (.tup [nodesD (q.2.1, q.2.2), .non]) (.tup [nodesD (q.2.1, q.2.2), .non]) _ _
    rw [wNe_of (.cl cl) (.cl cl), isB_bl, if_neg (by simp)]
    exact hN _ rfl
end
def sp__law_right : DSp := fun ds S Q E => ∃ rows made, ds = [treeD rows made] ∧ TreeV rows made ∧ rows.length ≤ 20 ∧ made ≤ 2000 ∧ ∀ S', Grow S S' → Q (.bl true) S'
theorem len__law_right : ∀ ds S Q E, sp__law_right ds S Q E → ds.length = (["_law_tree_here"] : List Str).length := fun _ _ _ _ ⟨_, _, e, _⟩ => by rw [e]; rfl
theorem vc__law_right {ds S Q E} (h : sp__law_right ds S Q E) : r__law_right (bodyEnds Q) (startD N__law_right ds) S := by
  have sz : 100001 < sizeLine := by rw [sizeLine_eq]; decide
  obtain ⟨rows, made, rfl, V, hl, hm, k⟩ := h
  show r__law_right _ [some (treeD rows made), none, none, none, none, none, none, none, none] S
  unfold r__law_right
  refine dSeq_go ?_
  unfold rtA
  rw [dPar_eq, dCons_eq, dCB_eq, dCons_eq, dLC_eq, diVal_eq, dBin_eq]
  refine dV_at (by rfl) ?_
  rw [dC_eq]
  unfold treeD
  rw [wAt_tup, atI0, onS_some, wIter_tup]
  intro G hG
  show loopC _ _ _ _ _ _ [some (.tup [.tup (rows.map rowD), .int made]), none, none, none, none, none, none, none, none] _ _
  refine lc_map rowD (fun r : Nd => [D.tup [.str (kx r), .str r.2.1]]) rows (fun _ => trivial) ?_ (fun r hr acc k2 hacc hk => ?_) ?_
  · have := flatMap_le (fun r : Nd => [D.tup [.str (kx r), .str r.2.1]]) 1 rows fun x _ => by simp
    omega
  · show _ ∧ _
    refine ⟨by simp, ?_⟩
    rw [dYes_eq, if_pos rfl, emLst_eq]
    simp only [dTup_eq, dCons_eq, dNil_eq, dCB_eq, dBin_eq, dC_eq]
    refine dV_at (by rfl) ?_
    show wAt (.tup [.int r.1, .str r.2.1, .tup (r.2.2.map pairSI)]) (.int 0) _ _
    rw [wAt_tup, atI0, onS_some]
    obtain ⟨h0, h1⟩ := id_Sd V hm (List.mem_map_of_mem (f := fun r : Nd => r.1) hr)
    have t : Th 1 8 0 (.int r.1) := Th.int (Nat.le_trans (by omega : r.1.natAbs ≤ 2000) (Nat.le_trans (by decide +kernel : 2000 ≤ 10 ^ 203) (Nat.le_add_right _ _)))
    show wReprA [.int r.1] _ _
    rw [t.repr (by decide) (by decide) (by decide)]
    refine dV_at (by rfl) ?_
    show wAt (.tup [.int r.1, .str r.2.1, .tup (r.2.2.map pairSI)]) (.int 1) _ _
    rw [wAt_tup, atI1, onS_some]
    refine ⟨by show 2 ≤ sizeLine; omega, ?_⟩
    rw [onL_eq put_same]
    simp only [List.length_singleton] at hacc
    exact ⟨by omega, by rw [put_put']; exact hk⟩
  · have e1 : (rows.flatMap fun r : Nd => [D.tup [.str (kx r), .str r.2.1]]) = rows.map fun r : Nd => D.tup [.str (kx r), .str r.2.1] := flatMap_one _ _
    rw [e1, dNil_eq]
    refine wDict_strs (f := kx) (g := fun r : Nd => D.str r.2.1) (xs := rows) (by simp [seqOf, put_same]) (kx_nodup V) fun K hK => ?_
    have gK : put (put S G (.lst (rows.map fun r : Nd => D.tup [.str (kx r), .str r.2.1]))) K (.dct (rows.map eKi)) K = some (.dct (rows.map eKi)) := put_same
    have g1 : Grow S (put (put S G (.lst (rows.map fun r : Nd => D.tup [.str (kx r), .str r.2.1]))) K (.dct (rows.map eKi))) := (Grow.put hG).then hK
    show dCons (dCall sp__law_all_ways [] (dCons (dV 0) dNil)) dNil _ (put (put S G (.lst (rows.map fun r : Nd => D.tup [.str (kx r), .str r.2.1]))) K (.dct (rows.map eKi))) _
    generalize put (put S G (.lst (rows.map fun r : Nd => D.tup [.str (kx r), .str r.2.1]))) K (.dct (rows.map eKi)) = S1 at *
    rw [dCons_eq, dCall_eq, dCons_eq]
    refine dV_at (by rfl) ?_
    rw [dNil_eq]
    refine ⟨rows, made, rfl, V, by omega, fun F ws S2 gF A hw _ g2 => ?_⟩
    show dSeq rtL rtZ (bodyEnds Q) [some (treeD rows made), none, some (.ref K), some (.ref F), none, none, none, none, none] S2
    refine dSeq_go ?_
    refine rtL_of V hl hm (g2 _ _ gK) gF A hw fun y1 y4 y5 y6 S3 g3 => ?_
    exact rtZ_of V hl (g3 _ _ gF) A fun S4 g4 => k S4 (((g1.trans g2).trans g3).trans g4)
end K04
namespace K04
open PySem PySem.Spec PyProof.Rows L2 DL KF
open KB (Nd isK rowD treeD wayD entO srtE srtE_perm)
open KD hiding tD sp_row_of len_row_of r_row_of N_row_of vc_row_of sp_kind_of len_kind_of r_kind_of N_kind_of vc_kind_of sp_entries_of len_entries_of r_entries_of N_entries_of vc_entries_of sp_way_through len_way_through r_way_through N_way_through vc_way_through wtA wtB wt1 sp_above len_above r_above N_above vc_above
open K03 (Ask AskR rowP noD kx shown_row kx_nodup wDict_strs repr_ref odd sp_way_through)
open _root_.KT (dSeq_go Nms sp__law_names sp__law_tree Nms.keep)
open KR (Sd Th bA bA_cons bA_nil)
abbrev rw1 : List Nd := [(0, "drawer", [("a", 1), ("b", 5), ("c", 2)]), (1, "drawer", [("x", 2), ("y", 2)]), (2, "sheet", []), (5, "drawer", [("z", 2)])]
theorem tree1 : TreeV rw1 9 where
  asc := by decide
  top := ⟨_, _, rfl⟩
  lt := by decide
  kd := fun r hr => by
    simp only [rw1, List.mem_cons, List.not_mem_nil, or_false] at hr
    rcases hr with rfl | rfl | rfl | rfl
    · exact Or.inl rfl
    · exact Or.inl rfl
    · exact Or.inr rfl
    · exact Or.inl rfl
  sh := fun r hr => by
    simp only [rw1, List.mem_cons, List.not_mem_nil, or_false] at hr
    rcases hr with rfl | rfl | rfl | rfl
    · exact fun z => absurd z drawer_ne_sheet
    · exact fun z => absurd z drawer_ne_sheet
    · exact fun _ => rfl
    · exact fun z => absurd z drawer_ne_sheet
  nd := by decide +kernel
  few := by decide
  nm := by decide +kernel
  tg := by decide +kernel
  hd := by decide +kernel
  one := fun r hr _ => by
    simp only [rw1, List.mem_cons, List.not_mem_nil, or_false] at hr
    rcases hr with rfl | rfl | rfl | rfl
    · decide +kernel
    · decide +kernel
    · rename_i h; exact absurd h.symm drawer_ne_sheet
    · decide +kernel
  up := fun r hr hk => by
    simp only [rw1, List.mem_cons, List.not_mem_nil, or_false] at hr
    rcases hr with rfl | rfl | rfl | rfl
    · exact .top
    · exact .step (r := (0, "drawer", [("a", 1), ("b", 5), ("c", 2)])) (e := ("a", 1)) (by simp) (by simp) .top
    · exact absurd hk.symm drawer_ne_sheet
    · exact .step (r := (0, "drawer", [("a", 1), ("b", 5), ("c", 2)])) (e := ("b", 5)) (by simp) (by simp) .top
def chn (i : Nat) : Nd := ((i : Int), "drawer", [(if i % 2 = 0 then "a" else "b", (i : Int) + 1)])
def rw2 : List Nd := (List.range 13).map chn ++ [((13 : Int), ("drawer" : Str), ([] : List (Str × Int)))]
theorem reach2 : ∀ i : Nat, i ≤ 13 → Reach rw2 (i : Int)
  | 0, _ => .top
  | i + 1, h => by
    have := reach2 i (by omega)
    exact .step (r := chn i) (e := (if i % 2 = 0 then "a" else "b", (i : Int) + 1)) (List.mem_append_left _ (List.mem_map.mpr ⟨i, List.mem_range.mpr (by omega), rfl⟩)) (List.mem_singleton.mpr rfl) this
theorem tree2 : TreeV rw2 14 where
  asc := by decide +kernel
  top := ⟨[("a", 1)], rw2.tail, by decide +kernel⟩
  lt := by decide +kernel
  kd := fun r hr => Or.inl (by
    have : ∀ r ∈ rw2, r.2.1 = ("drawer" : Str) := by decide +kernel
    exact this r hr)
  sh := fun r hr z => by
    have : ∀ r ∈ rw2, r.2.1 = ("drawer" : Str) := by decide +kernel
    rw [this r hr] at z
    exact absurd z drawer_ne_sheet
  nd := by decide +kernel
  few := by decide +kernel
  nm := by decide +kernel
  tg := by decide +kernel
  hd := by decide +kernel
  one := fun r hr _ => by
    have : ∀ r ∈ rw2, (tgs rw2).count r.1 ≤ 1 := by decide +kernel
    exact this r hr
  up := fun r hr _ => by
    have : ∀ r ∈ rw2, 0 ≤ r.1 ∧ r.1 ≤ 13 := by decide +kernel
    obtain ⟨a, b⟩ := this r hr
    have := reach2 r.1.toNat (by omega)
    rwa [show ((r.1.toNat : Nat) : Int) = r.1 by omega] at this
end K04
namespace K04
open PySem PySem.Spec PyProof.Rows L2 DL KF
open KB (Nd isK rowD treeD wayD entO srtE srtE_perm)
open KD hiding tD sp_row_of len_row_of r_row_of N_row_of vc_row_of sp_kind_of len_kind_of r_kind_of N_kind_of vc_kind_of sp_entries_of len_entries_of r_entries_of N_entries_of vc_entries_of sp_way_through len_way_through r_way_through N_way_through vc_way_through wtA wtB wt1 sp_above len_above r_above N_above vc_above
open K03 (Ask AskR rowP noD kx shown_row kx_nodup wDict_strs repr_ref odd sp_way_through)
open _root_.KT (dSeq_go Nms sp__law_names sp__law_tree Nms.keep)
open KR (Sd Th bA bA_cons bA_nil)
def lw0 : DTS := dAsg (dCall sp__law_feed [] (dCons (dV 0) dNil)) (gdName 1)
def lw1 : DTS := dAsg (dTup (dCons (dC (.int 0)) (dCons (dC (.str "drawer")) (dCons (dTup (dCons (dTup (dCons (dC (.str "a")) (dCons (dC (.int 1)) dNil))) (dCons (dTup (dCons (dC (.str "b")) (dCons (dC (.int 5)) dNil))) (dCons (dTup (dCons (dC (.str "c")) (dCons (dC (.int 2)) dNil))) dNil)))) dNil)))) (gdName 2)
def lw2 : DTS := dAsg (dLst (dCons (dTup (dCons (dTup (dCons (dV 2) (dCons (dTup (dCons (dC (.int 1)) (dCons (dC (.str "drawer")) (dCons (dTup (dCons (dTup (dCons (dC (.str "x")) (dCons (dC (.int 2)) dNil))) (dCons (dTup (dCons (dC (.str "y")) (dCons (dC (.int 2)) dNil))) dNil))) dNil)))) (dCons (dTup (dCons (dC (.int 2)) (dCons (dC (.str "sheet")) (dCons (dTup dNil) dNil)))) (dCons (dTup (dCons (dC (.int 5)) (dCons (dC (.str "drawer")) (dCons (dTup (dCons (dTup (dCons (dC (.str "z")) (dCons (dC (.int 2)) dNil))) dNil)) dNil)))) dNil))))) (dCons (dC (.int 9)) dNil))) dNil)) (gdName 3)
def lw3 : DTS := dAsg (dLC (diRng1 (dCons (dC (.int 13)) dNil)) (gdName 5) dYes [5] [5] [] (dTup (dCons (dV 5) (dCons (dC (.str "drawer")) (dCons (dTup (dCons (dTup (dCons (dBin wAt (dC (.str "ab")) (dBin wMod (dV 5) (dC (.int 2)))) (dCons (dBin wAdd (dV 5) (dC (.int 1))) dNil))) dNil)) dNil))))) (gdName 4)
def lw4 : DTS := dDrop (dBM "list" wAppend (dV 3) (dCons (dTup (dCons (dBin wAdd (dCB wTuple (dCons (dV 4) dNil)) (dTup (dCons (dTup (dCons (dC (.int 13)) (dCons (dC (.str "drawer")) (dCons (dTup dNil) dNil)))) dNil))) (dCons (dC (.int 14)) dNil))) dNil))
def lw5 : DTS := dFor (diRng1 (dCons (dC (.int 3)) dNil)) (gdName 5) (dDrop (dBM "list" wAppend (dV 3) (dCons (dCall sp__law_tree [] (dCons (dV 1) (dCons (dCall sp__law_names [] (dCons (dV 1) dNil)) (dCons (dCall sp__law_draw [] (dCons (dV 1) (dCons (dC (.int 14)) dNil))) dNil)))) dNil)))
def lw6 : DTS := dAsg (dCB wReprA (dCons (dV 3) dNil)) (gdName 6)
def lw7 : DTS := dRet (dAndV (dBin wEq (dLC (diVal (dV 3) wIterA) (gdName 7) (dNot (dTst (dCall sp__law_right [] (dCons (dV 7) dNil)))) [7] [7] [] (dV 7)) (dLst dNil)) (dBin wEq (dCB wReprA (dCons (dV 3) dNil)) (dV 6)))
def r_law : DTS := dSeq lw0 (dSeq lw1 (dSeq lw2 (dSeq lw3 (dSeq lw4 (dSeq lw5 (dSeq lw6 lw7))))))
abbrev N_law : List Str := ["_law_script", "_law_feed_here", "_law_top", "_law_some", "_law_rows", "_law_k", "_law_before", "_law_tree_here"]
def trD (t : List Nd × Int) : D := treeD t.1 t.2
structure GT (t : List Nd × Int) : Prop where
  V : TreeV t.1 t.2
  len : t.1.length ≤ 20
  md : t.2 ≤ 200
theorem GT.sd {t : List Nd × Int} (h : GT t) : Sd 6 14402 (trD t) := tree_Sd h.V (by have := h.md; omega) (by have := h.len; omega)
theorem list_th {l : List (List Nd × Int)} (h : ∀ t ∈ l, GT t) (hl : l.length ≤ 5) : Th 8 75000 0 (.fz (l.map trD)) := by
  have he : ∀ e ∈ l.map trD, Th 6 14402 0 e := fun e he => by
    obtain ⟨t, ht, rfl⟩ := List.mem_map.mp he
    exact (h t ht).sd.th
  have b : bA (l.map trD) ≤ 14403 * (l.map trD).length := KR.bA_le fun e h1 => (he e h1).bk
  rw [List.length_map] at b
  exact (Th.fz (n := 6) (m := 75000) (fun e h1 => (he e h1).ok) (fun e h1 => (he e h1).bg) (by omega)).up (by decide) (Nat.le_refl _) (Nat.le_refl _)
theorem wModN {i j : Int} {S : Sto} {Q : KD} : wMod (.int i) (.int j) S Q = (0 < j ∧ Q (.int (i % j)) S) := (rfl)
theorem at_ab {i : Nat} {S : Sto} {Q : KD} (q : Q (.str (if i % 2 = 0 then "a" else "b")) S) : wAt (.str "ab") (.int ((i : Int) % 2)) S Q := by
  have sz : 100001 < sizeLine := by rw [sizeLine_eq]; decide
  have e : ∀ k : Int, wAt (.str "ab") (.int k) S Q = (("ab" : Str).length ≤ sizeLine ∧ onS (atI ("ab" : Str).cps.toList k) fun c => Q (.str ⟨#[c]⟩) S) := fun _ => rfl
  rw [e]
  refine ⟨by show 2 ≤ sizeLine; omega, ?_⟩
  by_cases h : i % 2 = 0
  · rw [if_pos h] at q
    rw [show (i : Int) % 2 = 0 by omega]
    exact q
  · rw [if_neg h] at q
    rw [show (i : Int) % 2 = 1 by omega]
    exact q
def sp_law : DSp := fun ds S Q E => ∃ ns : List Int, ds = [.fz (ns.map D.int)] ∧ ∀ S', Q (.bl true) S'
theorem len_law : ∀ ds S Q E, sp_law ds S Q E → ds.length = (["_law_script"] : List Str).length := fun _ _ _ _ ⟨_, e, _⟩ => by rw [e]; rfl
section
variable {S : Sto} {f A : Addr} {l : List (List Nd × Int)} {Dn : DEnds} {x0 x2 x4 x5 x6 : Option D}
theorem lw3_of {x3 : Option D} (k : ∀ G S', S G = none → S' = put S G (.lst (((List.range 13).map chn).map rowD)) → Dn.nx [x0, some (.ref f), x2, x3, some (.ref G), x5, x6, none] S') : lw3 Dn [x0, some (.ref f), x2, x3, x4, x5, x6, none] S := by
  have sz : 100001 < sizeLine := by rw [sizeLine_eq]; decide
  unfold lw3
  rw [dAsg_eq, dLC_eq, diRng1_eq, dCons_eq, dC_eq, dNil_eq]
  refine ⟨by omega, by omega, ?_⟩
  rw [rngD_map]
  intro G hG
  show loopC _ _ _ _ _ _ [x0, some (.ref f), x2, x3, x4, none, x6, none] _ _
  refine lc_map (fun i : Nat => D.int (i : Int)) (fun i : Nat => [rowD (chn i)]) (List.range (13 : Int).toNat) (fun _ => trivial) ?_ (fun i hi acc k2 hacc hk2 => ?_) ?_
  · have := flatMap_le (fun i : Nat => [rowD (chn i)]) 1 (List.range (13 : Int).toNat) fun x _ => by simp
    rw [List.length_range] at this
    have e : (13 : Int).toNat = 13 := rfl
    omega
  · show _ ∧ _
    refine ⟨rfl, ?_⟩
    rw [dYes_eq, if_pos rfl]
    show emLst _ G [x0, some (.ref f), x2, x3, x4, some (.int (i : Int)), x6, none] _ _
    rw [emLst_eq]
    simp only [dTup_eq, dCons_eq, dNil_eq, dBin_eq, dC_eq]
    refine dV_at (by rfl) ?_
    refine dV_at (by rfl) ?_
    rw [wModN]
    refine ⟨by decide, at_ab ?_⟩
    refine dV_at (by rfl) ?_
    rw [wAdd_int]
    refine ⟨by show 2 ≤ sizeLine; omega, by show 1 ≤ sizeLine; omega, by show 3 ≤ sizeLine; omega, ?_⟩
    rw [onL_eq put_same]
    simp only [List.length_singleton] at hacc
    exact ⟨by omega, by rw [put_put']; exact hk2⟩
  · rw [flatMap_one, show (13 : Int).toNat = 13 from rfl]
    exact k G _ hG (by rw [List.map_map]; rfl)
theorem lw5_of (F : Feed S f) (gA : S A = some (.lst (l.map trD))) (fA : A ≠ f) (hl : l.length = 2) (ok : ∀ t ∈ l, GT t)
    (k : ∀ (l' : List (List Nd × Int)) x5 S', l'.length = 5 → (∀ t ∈ l', GT t) → S' A = some (.lst (l'.map trD)) → Dn.nx [x0, some (.ref f), x2, some (.ref A), x4, x5, x6, none] S') : lw5 Dn [x0, some (.ref f), x2, some (.ref A), x4, x5, x6, none] S := by
  have sz : 100001 < sizeLine := by rw [sizeLine_eq]; decide
  unfold lw5
  rw [dFor_eq, diRng1_eq, dCons_eq, dC_eq, dNil_eq]
  refine ⟨by omega, by omega, ?_⟩
  rw [rngD_map]
  refine loop_map (fun i : Nat => D.int (i : Int)) (fun done τ S' => ∃ l x5, Feed S' f ∧ S' A = some (.lst (l.map trD)) ∧ l.length = 2 + done.length ∧ (∀ t ∈ l, GT t) ∧ τ = [x0, some (.ref f), x2, some (.ref A), x4, x5, x6, none])
    (fun _ _ _ _ => trivial) (fun τ S' h => ?_) (fun done i rest τ S' es h N hN => ?_) ⟨l, x5, F, gA, hl, ok, rfl⟩
  · obtain ⟨l, y5, _, gA', hl', ok', rfl⟩ := h
    exact k l _ S' (by rw [hl', List.length_range]; rfl) ok' gA'
  · obtain ⟨l, y5, F', gA', hl', ok', rfl⟩ := h
    have hd : done.length < 3 := by
      have := congrArg List.length es
      simp at this; omega
    show dDrop _ _ [x0, some (.ref f), x2, some (.ref A), x4, some (.int (i : Int)), x6, none] S'
    simp only [dDrop_eq, dBM_eq, dCall_eq, dCons_eq, dNil_eq, dC_eq, List.append_nil]
    refine dV_at (by rfl) ?_
    refine ⟨tyD_lst gA', ?_⟩
    refine dV_at (by rfl) ?_
    refine dV_at (by rfl) ?_
    refine ⟨f, rfl, F', fun L ns S1 gL L0 l2 l8 okn F1 K1 => ?_⟩
    have W : Nms S1 f L ns := ⟨gL, F'.nt L0, l2, l8, okn⟩
    have LA : A ≠ L := fun z => by rw [z, L0] at gA'; cases gA'
    refine dV_at (by rfl) ?_
    refine ⟨f, 14, rfl, by decide, by decide, F1, fun r S2 r0 r1 F2 K2 => ?_⟩
    refine ⟨f, L, ns, r, rfl, r0, by omega, F2, W.keep K2, fun rows made S3 T hr hm _ F3 K3 => ?_⟩
    have gA3 := K3 _ _ fA (K2 _ _ fA (K1 _ _ fA gA'))
    show wAppend (.ref A) [trD (rows, made)] S3 _
    rw [wAppend_lst gA3]
    refine ⟨by rw [List.length_map, hl']; omega, hN _ _ ⟨l ++ [(rows, made)], _, F3.put fA, by rw [put_same, List.map_append]; rfl, by rw [List.length_append, List.length_append, hl']; rfl, fun t ht => ?_, rfl⟩⟩
    rcases List.mem_append.mp ht with ht | ht
    · exact ok' t ht
    · rw [List.mem_singleton.mp ht]
      exact ⟨T.v, hr, hm⟩
theorem lw7_of {Q : KD} (gA : S A = some (.lst (l.map trD))) (hl : l.length = 5) (ok : ∀ t ∈ l, GT t) (k : ∀ S', Q (.bl true) S') : lw7 (bodyEnds Q) [x0, some (.ref f), x2, some (.ref A), x4, x5, some (.str (D.fz (l.map trD)).py.shown), none] S := by
  have sz : 100001 < sizeLine := by rw [sizeLine_eq]; decide
  have th := list_th ok (by omega)
  unfold lw7
  rw [dRet_eq, dAndV_eq, dBin_eq, dLC_eq, diVal_eq]
  refine dV_at (by rfl) ?_
  rw [wIter_lst gA]
  intro G hG
  have AG : A ≠ G := ne_of_free hG gA
  show loopC _ _ _ _ _ _ [x0, some (.ref f), x2, some (.ref A), x4, x5, some (.str (D.fz (l.map trD)).py.shown), none] _ _
  refine loopC_map trD (fun _ S' => S' A = some (.lst (l.map trD)) ∧ S' G = some (.lst [])) (fun _ S' h => h.1) (fun S' h' => ?_) (fun done t rest S' es h' N hN => ?_) ⟨by rw [put_ne AG]; exact gA, put_same⟩
  · obtain ⟨gA', gG'⟩ := h'
    rw [dLst_eq, dNil_eq]
    refine ⟨by show 0 ≤ sizeLine; omega, fun p hp => ?_⟩
    have eG : put S' p (.lst []) G = some (.lst []) := by rw [put_ne (ne_of_free hp gG')]; exact gG'
    have eA : put S' p (.lst []) A = some (.lst (l.map trD)) := by rw [put_ne (ne_of_free hp gA')]; exact gA'
    rw [wEq_of (.lst eG (fun d hd => by cases hd)) (.lst (put_same (o := .lst [])) (fun d hd => by cases hd)), decide_eq_true rfl, isB_bl, if_pos rfl]
    simp only [dBin_eq, dCB_eq, dCons_eq, dNil_eq]
    refine dV_at (by rfl) ?_
    rw [repr_ref eA th (by decide) (by decide) (by decide)]
    refine dV_at (by rfl) ?_
    rw [wEq_str, decide_eq_true rfl]
    exact k _
  · obtain ⟨gA', gG'⟩ := h'
    have ht := ok t (by rw [es]; simp)
    refine ⟨rfl, ?_⟩
    show dNot _ [x0, some (.ref f), x2, some (.ref A), x4, x5, some (.str (D.fz (l.map trD)).py.shown), some (trD t)] S' _
    simp only [dNot_eq, dTst_eq, dCall_eq, dCons_eq, dNil_eq, List.append_nil]
    refine dV_at (by rfl) ?_
    refine ⟨t.1, t.2, rfl, ht.V, ht.len, by have := ht.md; omega, fun S2 g2 => ?_⟩
    rw [isB_bl]
    exact hN _ ⟨g2 _ _ gA', g2 _ _ gG'⟩
end
theorem vc_law {ds S Q E} (h : sp_law ds S Q E) : r_law (bodyEnds Q) (startD N_law ds) S := by
  have sz : 100001 < sizeLine := by rw [sizeLine_eq]; decide
  obtain ⟨ns, rfl, k⟩ := h
  show r_law _ [some (.fz (ns.map D.int)), none, none, none, none, none, none, none] S
  unfold r_law
  refine dSeq_go ?_
  unfold lw0
  simp only [dAsg_eq, dCall_eq, dCons_eq, dNil_eq, gdName_eq, List.append_nil]
  refine dV_at (by rfl) ?_
  refine ⟨ns, rfl, fun f S1 F1 f0 g1 => ?_⟩
  show dSeq lw1 _ (bodyEnds Q) [some (.fz (ns.map D.int)), some (.ref f), none, none, none, none, none, none] S1
  generalize (.fz (ns.map D.int) : D) = X0
  refine dSeq_go ?_
  unfold lw1
  simp only [dAsg_eq, dTup_eq, dCons_eq, dNil_eq, dC_eq, gdName_eq]
  refine ⟨by show 2 ≤ sizeLine; omega, by show 2 ≤ sizeLine; omega, by show 2 ≤ sizeLine; omega, by show 3 ≤ sizeLine; omega, by show 3 ≤ sizeLine; omega, ?_⟩
  show dSeq lw2 _ (bodyEnds Q) [some X0, some (.ref f), some (rowD (0, "drawer", [("a", 1), ("b", 5), ("c", 2)])), none, none, none, none, none] S1
  refine dSeq_go ?_
  unfold lw2
  simp only [dAsg_eq, dLst_eq, dTup_eq, dCons_eq, dNil_eq, dC_eq]
  refine dV_at (by rfl) ?_
  refine ⟨by show 2 ≤ sizeLine; omega, by show 2 ≤ sizeLine; omega, by show 2 ≤ sizeLine; omega, by show 3 ≤ sizeLine; omega, by show 0 ≤ sizeLine; omega, by show 3 ≤ sizeLine; omega, by show 2 ≤ sizeLine; omega, by show 1 ≤ sizeLine; omega, by show 3 ≤ sizeLine; omega, by show 4 ≤ sizeLine; omega, by show 2 ≤ sizeLine; omega, by show 1 ≤ sizeLine; omega, fun A hA => ?_⟩
  have F2 := F1.new (o := .lst [trD (rw1, 9)]) hA
  have fA := F1.nt hA
  have gA : put S1 A (.lst [trD (rw1, 9)]) A = some (.lst [trD (rw1, 9)]) := put_same
  show dSeq lw3 _ (bodyEnds Q) [some X0, some (.ref f), some (rowD (0, "drawer", [("a", 1), ("b", 5), ("c", 2)])), some (.ref A), none, none, none, none] (put S1 A (.lst [trD (rw1, 9)]))
  generalize put S1 A (.lst [trD (rw1, 9)]) = S2 at *
  generalize rowD (0, "drawer", [("a", 1), ("b", 5), ("c", 2)]) = X2
  refine dSeq_go ?_
  refine lw3_of fun G S3 hG e3 => ?_
  subst e3
  have gG : put S2 G (.lst (((List.range 13).map chn).map rowD)) G = some (.lst (((List.range 13).map chn).map rowD)) := put_same
  have F3 := F2.new (o := .lst (((List.range 13).map chn).map rowD)) hG
  have gA3 : put S2 G (.lst (((List.range 13).map chn).map rowD)) A = some (.lst [trD (rw1, 9)]) := by rw [put_ne (ne_of_free hG gA)]; exact gA
  generalize put S2 G (.lst (((List.range 13).map chn).map rowD)) = S3 at *
  refine dSeq_go ?_
  show lw4 _ [some X0, some (.ref f), some X2, some (.ref A), some (.ref G), none, none, none] S3
  unfold lw4
  simp only [dDrop_eq, dBM_eq, dTup_eq, dCons_eq, dNil_eq, dC_eq, dBin_eq, dCB_eq]
  refine dV_at (by rfl) ?_
  refine ⟨tyD_lst gA3, ?_⟩
  refine dV_at (by rfl) ?_
  rw [wTuple_lst gG]
  refine ⟨by show 0 ≤ sizeLine; omega, by show 3 ≤ sizeLine; omega, by show 1 ≤ sizeLine; omega, ?_⟩
  rw [wAdd_tup]
  refine ⟨by rw [List.length_map, List.length_map, List.length_range]; show 13 + 1 ≤ sizeLine; omega, by show 2 ≤ sizeLine; omega, ?_⟩
  have e2 : D.tup [.tup (((List.range 13).map chn).map rowD ++ [.tup [.int 13, .str "drawer", .tup []]]), .int 14] = trD (rw2, 14) := by
    show _ = D.tup [.tup (((List.range 13).map chn ++ [_]).map rowD), .int 14]
    rw [List.map_append (l₂ := [_])]
    rfl
  rw [e2, wAppend_lst gA3]
  refine ⟨by show 1 < sizeLine; omega, ?_⟩
  show dSeq lw5 _ (bodyEnds Q) [some X0, some (.ref f), some X2, some (.ref A), some (.ref G), none, none, none] (put S3 A (.lst ([(rw1, 9), (rw2, 14)].map trD)))
  have len2 : rw2.length ≤ 20 := by decide +kernel
  refine dSeq_go ?_
  refine lw5_of (F3.put fA) put_same fA rfl (fun t ht => ?_) fun l' x5 S5 hl' ok' gA5 => ?_
  · simp only [List.mem_cons, List.not_mem_nil, or_false] at ht
    rcases ht with rfl | rfl
    · exact ⟨tree1, by decide, by decide⟩
    · exact ⟨tree2, len2, by decide⟩
  · refine dSeq_go ?_
    show lw6 _ [some X0, some (.ref f), some X2, some (.ref A), some (.ref G), x5, none, none] S5
    unfold lw6
    rw [dAsg_eq, dCB_eq, dCons_eq]
    refine dV_at (by rfl) ?_
    rw [dNil_eq, repr_ref gA5 (list_th ok' (by omega)) (by decide) (by decide) (by decide), gdName_eq]
    exact lw7_of gA5 hl' ok' k
end K04
open KT KF KD
namespace K04
open PySem PySem.Spec PyProof.Rows L2 DL
abbrev sp_row_of (c : Addr) : DSp := K03.sp_row_of c
abbrev r_row_of := K03.r_row_of
abbrev N_row_of : List Str := K03.N_row_of
theorem len_row_of {c : Addr} : ∀ ds S Q E, sp_row_of c ds S Q E → ds.length = (["tree", "node"] : List Str).length := K03.len_row_of
theorem vc_row_of {c : Addr} {ds S Q E} (h : sp_row_of c ds S Q E) : r_row_of c E (bodyEnds Q) (startD N_row_of ds) S := K03.vc_row_of h
abbrev sp_kind_of (c : Addr) : DSp := K03.sp_kind_of c
abbrev r_kind_of := K03.r_kind_of
abbrev N_kind_of : List Str := K03.N_kind_of
theorem len_kind_of {c : Addr} : ∀ ds S Q E, sp_kind_of c ds S Q E → ds.length = (["tree", "node"] : List Str).length := K03.len_kind_of
theorem vc_kind_of {c : Addr} {ds S Q E} (h : sp_kind_of c ds S Q E) : r_kind_of c E (bodyEnds Q) (startD N_kind_of ds) S := K03.vc_kind_of h
abbrev sp_entries_of (c : Addr) : DSp := K03.sp_entries_of c
abbrev r_entries_of := K03.r_entries_of
abbrev N_entries_of : List Str := K03.N_entries_of
theorem len_entries_of {c : Addr} : ∀ ds S Q E, sp_entries_of c ds S Q E → ds.length = (["tree", "node"] : List Str).length := K03.len_entries_of
theorem vc_entries_of {c : Addr} {ds S Q E} (h : sp_entries_of c ds S Q E) : r_entries_of c E (bodyEnds Q) (startD N_entries_of ds) S := K03.vc_entries_of h
abbrev sp_way_through : DSp := K03.sp_way_through
abbrev r_way_through := K03.r_way_through
abbrev N_way_through : List Str := K03.N_way_through
theorem len_way_through : ∀ ds S Q E, sp_way_through ds S Q E → ds.length = (["tree", "way", "top"] : List Str).length := K03.len_way_through
theorem vc_way_through {c : Addr} {ds S Q E} (h : sp_way_through ds S Q E) : r_way_through c (bodyEnds Q) (startD N_way_through ds) S := K03.vc_way_through h
abbrev N__law_tree : List Str := ["_law_feed_here", "_law_names_here", "_law_many", "_law_pool", "_law_deep", "_law_k", "_law_node", "_law_rows", "_law_entries", "_law_kinds", "_law_drawers", "_law_drawer", "_law_name"]
theorem vc__law_tree {ds S Q E} (h : KT.sp__law_tree ds S Q E) : KT.r__law_tree (bodyEnds Q) (startD N__law_tree ds) S := KT.vc__law_tree h
end K04
namespace K04
open PySem PySem.Spec PyProof.Rows L2 DL
def topS (i : Nat) : Stmt := PySem.Challenge.pw_drawerways_k04_ways_to_and_above.main.body.getD i (.Pass ⟨0, 0, 0, 0⟩)
abbrev s__law_feed : Stmt := topS 17
theorem nd__law_feed : N__law_feed.Nodup := by decide +kernel
theorem sc__law_feed : FnScope N__law_feed ["_law_script"] (defScope s__law_feed) := ⟨rfl, rfl, rfl, by decide +kernel, rfl, by decide +kernel, by decide +kernel⟩
abbrev s__law_draw : Stmt := topS 18
theorem nd__law_draw : N__law_draw.Nodup := by decide +kernel
theorem sc__law_draw : FnScope N__law_draw ["_law_feed_here", "_law_many"] (defScope s__law_draw) := ⟨rfl, rfl, rfl, by decide +kernel, rfl, by decide +kernel, by decide +kernel⟩
abbrev s__law_tree : Stmt := topS 20
theorem nd__law_tree : N__law_tree.Nodup := by decide +kernel
theorem sc__law_tree : FnScope N__law_tree ["_law_feed_here", "_law_names_here", "_law_many"] (defScope s__law_tree) := ⟨rfl, rfl, rfl, by decide +kernel, rfl, by decide +kernel, by decide +kernel⟩
abbrev s__law_names : Stmt := topS 19
theorem nd__law_names : N__law_names.Nodup := by decide +kernel
theorem sc__law_names : FnScope N__law_names ["_law_feed_here"] (defScope s__law_names) := ⟨rfl, rfl, rfl, by decide +kernel, rfl, by decide +kernel, by decide +kernel⟩
abbrev s__law_all_ways : Stmt := topS 21
theorem nd__law_all_ways : N__law_all_ways.Nodup := by decide +kernel
theorem sc__law_all_ways : FnScope N__law_all_ways ["_law_tree_here"] (defScope s__law_all_ways) := ⟨rfl, rfl, rfl, by decide +kernel, rfl, by decide +kernel, by decide +kernel⟩
abbrev s_is_number : Stmt := topS 5
theorem nd_is_number : N_is_number.Nodup := by decide +kernel
theorem sc_is_number : FnScope N_is_number ["thing"] (defScope s_is_number) := ⟨rfl, rfl, rfl, by decide +kernel, rfl, by decide +kernel, by decide +kernel⟩
abbrev s_row_of : Stmt := topS 9
theorem nd_row_of : N_row_of.Nodup := by decide +kernel
theorem sc_row_of : FnScope N_row_of ["tree", "node"] (defScope s_row_of) := ⟨rfl, rfl, rfl, by decide +kernel, rfl, by decide +kernel, by decide +kernel⟩
abbrev s_kind_of : Stmt := topS 10
theorem nd_kind_of : N_kind_of.Nodup := by decide +kernel
theorem sc_kind_of : FnScope N_kind_of ["tree", "node"] (defScope s_kind_of) := ⟨rfl, rfl, rfl, by decide +kernel, rfl, by decide +kernel, by decide +kernel⟩
abbrev s_holders : Stmt := topS 8
theorem nd_holders : N_holders.Nodup := by decide +kernel
theorem sc_holders : FnScope N_holders ["rows"] (defScope s_holders) := ⟨rfl, rfl, rfl, by decide +kernel, rfl, by decide +kernel, by decide +kernel⟩
abbrev s_entries_of : Stmt := topS 11
theorem nd_entries_of : N_entries_of.Nodup := by decide +kernel
theorem sc_entries_of : FnScope N_entries_of ["tree", "node"] (defScope s_entries_of) := ⟨rfl, rfl, rfl, by decide +kernel, rfl, by decide +kernel, by decide +kernel⟩
abbrev s_ways_to : Stmt := topS 14
theorem nd_ways_to : N_ways_to.Nodup := by decide +kernel
theorem sc_ways_to : FnScope N_ways_to ["tree", "node"] (defScope s_ways_to) := ⟨rfl, rfl, rfl, by decide +kernel, rfl, by decide +kernel, by decide +kernel⟩
abbrev s_above : Stmt := topS 15
theorem nd_above : N_above.Nodup := by decide +kernel
theorem sc_above : FnScope N_above ["tree", "node"] (defScope s_above) := ⟨rfl, rfl, rfl, by decide +kernel, rfl, by decide +kernel, by decide +kernel⟩
abbrev s__law_told : Stmt := topS 22
theorem nd__law_told : N__law_told.Nodup := by decide +kernel
theorem sc__law_told : FnScope N__law_told ["_law_ask", "_law_tree_here", "_law_thing"] (defScope s__law_told) := ⟨rfl, rfl, rfl, by decide +kernel, rfl, by decide +kernel, by decide +kernel⟩
abbrev s_way_through : Stmt := topS 13
theorem nd_way_through : N_way_through.Nodup := by decide +kernel
theorem sc_way_through : FnScope N_way_through ["tree", "way", "top"] (defScope s_way_through) := ⟨rfl, rfl, rfl, by decide +kernel, rfl, by decide +kernel, by decide +kernel⟩
abbrev s__law_right : Stmt := topS 23
theorem nd__law_right : N__law_right.Nodup := by decide +kernel
theorem sc__law_right : FnScope N__law_right ["_law_tree_here"] (defScope s__law_right) := ⟨rfl, rfl, rfl, by decide +kernel, rfl, by decide +kernel, by decide +kernel⟩
abbrev s_law : Stmt := topS 24
theorem nd_law : N_law.Nodup := by decide +kernel
theorem sc_law : FnScope N_law ["_law_script"] (defScope s_law) := ⟨rfl, rfl, rfl, by decide +kernel, rfl, by decide +kernel, by decide +kernel⟩
section
variable {P : Program} {w : World} {K : PySem.W.Frag} {mg : Str → Option Value} {base : Heap}
abbrev s_init : Stmt := methS (topS 3) 0
theorem sc_init : FnScope ["self", "word"] ["self", "word"] (defScope s_init) := ⟨rfl, rfl, rfl, by decide +kernel, rfl, by decide +kernel, by decide +kernel⟩
theorem ok_init {f cB : Addr} {fd : FuncData} {mc : Value} (F : Fun K "__init__" "NoStep.__init__" s_init f fd) (mB : mg "RunError" = some (.ref cB)) (bB : BaseI K cB mc) : FnOk P w K mg base CX0 1 f fd ["self", "word"] (spInit K ["word"]) :=
  F.ok sc_init (len_init rfl) fun cdv A outer s H vs Q E hr hsp => by
    refine ⟨_, pss_cons (ps_expr (pe_clsinit rfl mB bB (pa_cons (pv 0) (pa_cons pe_str pa_nil)))) (pss_one (ps_ost (pv 0) (pv 1))), ?_⟩
    obtain ⟨a, C, ws, rfl, hl, T, ea, hn, q⟩ := hsp
    match ws, hl, q with
    | [v1], _, q => exact init1_reads rfl rfl T ea hn q
theorem ok__law_feed {f : Addr} {fd : FuncData} (F : Fun K "_law_feed" "_law_feed" s__law_feed f fd) (hm : mg "_law_feed" = some (.ref f))  (B_list : mg "list" = none) : CalD P w K mg base 1 "_law_feed" sp__law_feed [] :=
  .of F sc__law_feed hm (F.binds fun _ _ _ _ _ _ us hl => match us, hl with | [_], _ => rfl) len__law_feed fun cdv A outer s H ds So Q E hr hgd hsp => by
  have nd := nd__law_feed; have hu0 := room_u hr
  exact ⟨r__law_feed, dss_one (ds_ret (de_disp (dps_cons de_str (de_frz (de_callT (dcall_list) rfl B_list rfl (da_cons (de_cut (de_v 0) dpo_none (dpo_some de_int)) da_nil))) (dps_cons de_str de_int (dps_cons de_str de_int (dps_cons de_str de_int dps_nil)))) rfl rfl (by simp) (by decide))), vc__law_feed hsp⟩
theorem ok__law_draw {f : Addr} {fd : FuncData} (F : Fun K "_law_draw" "_law_draw" s__law_draw f fd) (hm : mg "_law_draw" = some (.ref f))  (B_len : mg "len" = none) : CalD P w K mg base 1 "_law_draw" sp__law_draw [] :=
  .of F sc__law_draw hm (F.binds fun _ _ _ _ _ _ us hl => match us, hl with | [_, _], _ => rfl) len__law_draw fun cdv A outer s H ds So Q E hr hgd hsp => by
  have nd := nd__law_draw; have hu0 := room_u hr
  have hu64 : (A.deeper (envOfC "_law_draw" (defScope s__law_draw) s.heap.objs.size f cdv)).units + 64 < cLine := by omega
  have hu1 : (A.deeper (envOfC "_law_draw" (defScope s__law_draw) s.heap.objs.size f cdv)).units + 1 < cLine := by omega
  exact ⟨r__law_draw, dss_cons (ds_asg (de_op dop_add (de_ix (dix_at hu1) (de_v 0) de_str (fun _ _ => rfl)) de_int) (dg_sub (de_v 0) de_str (dset_any hu1))) (dss_cons (ds_if (dt_cmp dop_gt (de_ix (dix_at hu1) (de_v 0) de_str (fun _ _ => rfl)) de_int rfl) (dss_cons (ds_set (i := 5) nd rfl (by first | exact .inl rfl | exact .inr rfl) (de_op dop_mod (de_ix (dix_at hu1) (de_v 0) de_str (fun _ _ => rfl)) (de_v 1))) (dss_cons (ds_asg (de_op dop_div (de_ix (dix_at hu1) (de_v 0) de_str (fun _ _ => rfl)) (de_v 1)) (dg_sub (de_v 0) de_str (dset_any hu1))) (dss_one (ds_ret (de_v 5))))) dss_nil) (dss_cons (ds_set (i := 2) nd rfl (by first | exact .inl rfl | exact .inr rfl) (de_ix (dix_at hu1) (de_v 0) de_str (fun _ _ => rfl))) (dss_cons (ds_asg (de_op dop_add (de_v 2) de_int) (dg_sub (de_v 0) de_str (dset_any hu1))) (dss_cons (ds_set (i := 3) nd rfl (by first | exact .inl rfl | exact .inr rfl) (de_if (dt_cmp (dop_ne hu64) (de_ix (dix_at hu1) (de_v 0) de_str (fun _ _ => rfl)) (de_lst da_nil) rfl) (de_ix (dix_at hu1) (de_ix (dix_at hu1) (de_v 0) de_str (fun _ _ => rfl)) (de_op dop_mod (de_v 2) (de_callB (dcall_len) rfl B_len rfl (da_cons (de_ix (dix_at hu1) (de_v 0) de_str (fun _ _ => rfl)) da_nil))) (fun _ _ => rfl)) de_int)) (dss_cons (ds_if (DW.dt (dw_and (dt_cmp dop_ge (de_v 3) (de_op dop_pow de_int de_int) rfl) (dw_and1 (dt_cmp dop_lt (de_v 2) (de_callB (dcall_len) rfl B_len rfl (da_cons (de_ix (dix_at hu1) (de_v 0) de_str (fun _ _ => rfl)) da_nil)) rfl)))) (dss_cons (ds_asg (de_op dop_div (de_v 3) (de_v 1)) (dg_sub (de_v 0) de_str (dset_any hu1))) (dss_one (ds_ret (de_op dop_mod (de_v 3) (de_v 1))))) dss_nil) (dss_cons (ds_set (i := 4) nd rfl (by first | exact .inl rfl | exact .inr rfl) (de_op dop_mod (de_op dop_add (de_op dop_add (de_op dop_mod (de_v 3) de_int) (de_op dop_mul de_int (de_ix (dix_at hu1) (de_v 0) de_str (fun _ _ => rfl)))) de_int) de_int)) (dss_cons (ds_set (i := 4) nd rfl (by first | exact .inl rfl | exact .inr rfl) (de_op dop_mod (de_op dop_add (de_op dop_add (de_op dop_mul (de_v 4) (de_v 4)) (de_op dop_mul de_int (de_ix (dix_at hu1) (de_v 0) de_str (fun _ _ => rfl)))) de_int) de_int)) (dss_one (ds_ret (de_op dop_mod (de_op dop_div (de_op dop_mod (de_op dop_add (de_op dop_mul (de_v 4) (de_v 4)) (de_op dop_mul de_int (de_v 4))) de_int) de_int) (de_v 1))))))))))), vc__law_draw hsp⟩
theorem ok__law_tree {f : Addr} {fd : FuncData} (F : Fun K "_law_tree" "_law_tree" s__law_tree f fd) (hm : mg "_law_tree" = some (.ref f)) (C__law_draw : CalD P w K mg base 1 "_law_draw" sp__law_draw []) (B_list : mg "list" = none) (B_range : mg "range" = none) (B_sorted : mg "sorted" = none) (B_tuple : mg "tuple" = none) (B_len : mg "len" = none) : CalD P w K mg base 2 "_law_tree" sp__law_tree [] :=
  .of F sc__law_tree hm (F.binds fun _ _ _ _ _ _ us hl => match us, hl with | [_, _, _], _ => rfl) len__law_tree fun cdv A outer s H ds So Q E hr hgd hsp => by
  have nd := nd__law_tree; have hu0 := room_u hr
  have hu : (A.deeper (envOfC "_law_tree" (defScope s__law_tree) s.heap.objs.size f cdv)).units + 65 < cLine := by omega
  have hu64 : (A.deeper (envOfC "_law_tree" (defScope s__law_tree) s.heap.objs.size f cdv)).units + 64 < cLine := by omega
  have hu1 : (A.deeper (envOfC "_law_tree" (defScope s__law_tree) s.heap.objs.size f cdv)).units + 1 < cLine := by omega
  exact ⟨r__law_tree, dss_cons (ds_asg (de_tup (da_cons (de_disp (dps_cons de_int de_newD dps_nil) rfl rfl (by simp) (by decide)) (da_cons (de_disp (dps_cons de_int de_str dps_nil) rfl rfl (by simp) (by decide)) da_nil))) (dg_tup rfl (n := 2) (dgs_cons (dg_name nd (i := 8) rfl (by first | exact .inl rfl | exact .inr rfl)) (dgs_cons (dg_name nd (i := 9) rfl (by first | exact .inl rfl | exact .inr rfl)) dgs_nil)))) (dss_cons (ds_set (i := 3) nd rfl (by first | exact .inl rfl | exact .inr rfl) (de_listRg rfl B_list rfl (dr_2 B_range rfl de_int (de_op dop_add (de_op dop_add (de_v 2) de_int) (de_cal C__law_draw (hr.mono (by decide)) hgd rfl (da_cons (de_v 0) (da_cons de_int da_nil))))))) (dss_cons (ds_set (i := 4) nd rfl (by first | exact .inl rfl | exact .inr rfl) (de_cal C__law_draw (hr.mono (by decide)) hgd rfl (da_cons (de_v 0) (da_cons de_int da_nil)))) (dss_cons (ds_for .never rfl (di_range1 rfl B_range (da_cons (de_v 2) da_nil)) (dg_name nd (i := 5) rfl (by first | exact .inl rfl | exact .inr rfl)) (dss_cons (ds_lock 9 (ds_lc (i := 10) (own := [("_law_node", 6)]) (vs := [6]) rfl nd rfl rfl (sw_comp (.inl ⟨_, _, _, rfl⟩) rfl rfl rfl rfl) (di_any (de_v 9)) (blkOk_by (show blkC N__law_tree (defScope s__law_tree) _ [("_law_node", 6)] = true by decide +kernel)) (fun s H C cl fp => ⟨dg_name nd (i := 6) rfl (by first | exact .inl rfl | exact .inr rfl), dts_one (dt_cmp (dop_eq hu64) (de_ix (dix_at hu1) (de_v 9) (de_v 6) (fun _ _ => rfl)) de_str rfl), DCl.nil, (de_v 6)⟩))) (dss_cons (ds_set (i := 11) nd rfl (by first | exact .inl rfl | exact .inr rfl) (de_ix (dix_at hu1) (de_v 10) (de_un dun_neg de_int) (fun _ _ => rfl))) (dss_cons (ds_if (DW.dt (dw_or (dt_cmp (dop_eq hu64) (de_v 4) de_int rfl) (dw_or1 (dt_cmp (dop_eq hu64) (de_cal C__law_draw (hr.mono (by decide)) hgd rfl (da_cons (de_v 0) (da_cons de_int da_nil))) de_int rfl)))) (dss_one (ds_set (i := 11) nd rfl (by first | exact .inl rfl | exact .inr rfl) (de_ix (dix_at hu1) (de_v 10) (de_cal C__law_draw (hr.mono (by decide)) hgd rfl (da_cons (de_v 0) (da_cons (de_callB (dcall_len) rfl B_len rfl (da_cons (de_v 10) da_nil)) da_nil))) (fun _ _ => rfl)))) dss_nil) (dss_cons (ds_set (i := 12) nd rfl (by first | exact .inl rfl | exact .inr rfl) (de_ix (dix_at hu1) (de_v 1) (de_cal C__law_draw (hr.mono (by decide)) hgd rfl (da_cons (de_v 0) (da_cons (de_callB (dcall_len) rfl B_len rfl (da_cons (de_v 1) da_nil)) da_nil))) (fun _ _ => rfl))) (dss_cons (ds_set (i := 6) nd rfl (by first | exact .inl rfl | exact .inr rfl) (de_ix (dix_at hu1) (de_v 3) (de_cal C__law_draw (hr.mono (by decide)) hgd rfl (da_cons (de_v 0) (da_cons (de_callB (dcall_len) rfl B_len rfl (da_cons (de_v 3) da_nil)) da_nil))) (fun _ _ => rfl))) (dss_one (ds_if (DW.dt (dw_and (dt_cmp (dop_notIn hu) (de_v 12) (de_ix (dix_at hu1) (de_v 8) (de_v 11) (fun _ _ => rfl)) rfl) (dw_and1 (dt_cmp (dop_notIn hu) (de_v 6) (de_v 9) rfl)))) (dss_cons (ds_asg (de_ix (dix_at hu1) (de_lst (da_cons de_str (da_cons de_str (da_cons de_str da_nil)))) (de_cal C__law_draw (hr.mono (by decide)) hgd rfl (da_cons (de_v 0) (da_cons de_int da_nil))) (fun _ _ => rfl)) (dg_sub (de_v 9) (de_v 6) (dset_any hu1))) (dss_one (ds_asg (de_tup (da_cons de_newD (da_cons (de_v 6) da_nil))) (dg_tup rfl (n := 2) (dgs_cons (dg_sub (de_v 8) (de_v 6) (dset_any hu1)) (dgs_cons (dg_sub (de_ix (dix_at hu1) (de_v 8) (de_v 11) (fun _ _ => rfl)) (de_v 12) (dset_any hu1)) dgs_nil)))))) dss_nil)))))))) (dss_cons (ds_for .never rfl (di_any (de_lock 9 (de_lc (own := [("_law_node", 6)]) (vs := [6]) rfl nd (di_any (de_v 9)) (blkOk_by (show blkC N__law_tree (defScope s__law_tree) _ [("_law_node", 6)] = true by decide +kernel)) (fun s H C cl fp => ⟨dg_name nd (i := 6) rfl (by first | exact .inl rfl | exact .inr rfl), dts_one (dt_cmp (dop_eq hu64) (de_ix (dix_at hu1) (de_v 9) (de_v 6) (fun _ _ => rfl)) de_str rfl), DCl.nil, (de_v 6)⟩)))) (dg_name nd (i := 6) rfl (by first | exact .inl rfl | exact .inr rfl)) (dss_cons (ds_lock 9 (ds_lc (i := 10) (own := [("_law_node", 6)]) (vs := [6]) rfl nd rfl rfl (sw_comp (.inl ⟨_, _, _, rfl⟩) rfl rfl rfl rfl) (di_any (de_v 9)) (blkOk_by (show blkC N__law_tree (defScope s__law_tree) _ [("_law_node", 6)] = true by decide +kernel)) (fun s H C cl fp => ⟨dg_name nd (i := 6) rfl (by first | exact .inl rfl | exact .inr rfl), dts_one (dt_cmp (dop_eq hu64) (de_ix (dix_at hu1) (de_v 9) (de_v 6) (fun _ _ => rfl)) de_str rfl), DCl.nil, (de_v 6)⟩))) (dss_cons (ds_set (i := 11) nd rfl (by first | exact .inl rfl | exact .inr rfl) (de_ix (dix_at hu1) (de_v 10) (de_cal C__law_draw (hr.mono (by decide)) hgd rfl (da_cons (de_v 0) (da_cons (de_callB (dcall_len) rfl B_len rfl (da_cons (de_v 10) da_nil)) da_nil))) (fun _ _ => rfl))) (dss_cons (ds_set (i := 12) nd rfl (by first | exact .inl rfl | exact .inr rfl) (de_ix (dix_at hu1) (de_v 1) (de_cal C__law_draw (hr.mono (by decide)) hgd rfl (da_cons (de_v 0) (da_cons (de_callB (dcall_len) rfl B_len rfl (da_cons (de_v 1) da_nil)) da_nil))) (fun _ _ => rfl))) (dss_one (ds_if (DW.dt (dw_and (dt_cmp (dop_notIn hu) (de_v 12) (de_ix (dix_at hu1) (de_v 8) (de_v 11) (fun _ _ => rfl)) rfl) (dw_and1 (dt_cmp (dop_eq hu64) (de_cal C__law_draw (hr.mono (by decide)) hgd rfl (da_cons (de_v 0) (da_cons de_int da_nil))) de_int rfl)))) (dss_one (ds_asg (de_v 6) (dg_sub (de_ix (dix_at hu1) (de_v 8) (de_v 11) (fun _ _ => rfl)) (de_v 12) (dset_any hu1)))) dss_nil)))))) (dss_cons (ds_set (i := 7) nd rfl (by first | exact .inl rfl | exact .inr rfl) (de_lst da_nil)) (dss_cons (ds_for .never rfl (di_any (de_callB (dcall_sortedD rfl hu) rfl B_sorted rfl (da_cons (de_v 9) da_nil))) (dg_name nd (i := 6) rfl (by first | exact .inl rfl | exact .inr rfl)) (dss_one (ds_expr (de_bm PySem.F.plainAttrs_list PySem.F.slot_list_append PySem.F.type_list_append dmt_append (de_v 7) (da_cons (de_tup (da_cons (de_v 6) (da_cons (de_ix (dix_at hu1) (de_v 9) (de_v 6) (fun _ _ => rfl)) (da_cons (de_callT (dcall_tuple) rfl B_tuple rfl (da_cons (de_sortedItems rfl hu B_sorted rfl (de_ix (dix_at hu1) (de_v 8) (de_v 6) (fun _ _ => rfl))) da_nil)) da_nil)))) da_nil))))) (dss_one (ds_ret (de_tup (da_cons (de_callT (dcall_tuple) rfl B_tuple rfl (da_cons (de_v 7) da_nil)) (da_cons (de_op dop_add (de_op dop_add (de_ix (dix_at hu1) (de_ix (dix_at hu1) (de_v 7) (de_un dun_neg de_int) (fun _ _ => rfl)) de_int (fun _ _ => rfl)) de_int) (de_cal C__law_draw (hr.mono (by decide)) hgd rfl (da_cons (de_v 0) (da_cons de_int da_nil)))) da_nil))))))))))), vc__law_tree hsp⟩
theorem ok__law_names {f : Addr} {fd : FuncData} (F : Fun K "_law_names" "_law_names" s__law_names f fd) (hm : mg "_law_names" = some (.ref f)) (C__law_draw : CalD P w K mg base 1 "_law_draw" sp__law_draw []) (B_range : mg "range" = none) (B_len : mg "len" = none) : CalD P w K mg base 2 "_law_names" sp__law_names [] :=
  .of F sc__law_names hm (F.binds fun _ _ _ _ _ _ us hl => match us, hl with | [_], _ => rfl) len__law_names fun cdv A outer s H ds So Q E hr hgd hsp => by
  have nd := nd__law_names; have hu0 := room_u hr
  have hu1 : (A.deeper (envOfC "_law_names" (defScope s__law_names) s.heap.objs.size f cdv)).units + 1 < cLine := by omega
  exact ⟨r__law_names, dss_cons (ds_asg (de_tup (da_cons de_str (da_cons (de_cal C__law_draw (hr.mono (by decide)) hgd rfl (da_cons (de_v 0) (da_cons de_int da_nil))) (da_cons (de_lst da_nil) da_nil)))) (dg_tup rfl (n := 3) (dgs_cons (dg_name nd (i := 3) rfl (by first | exact .inl rfl | exact .inr rfl)) (dgs_cons (dg_name nd (i := 4) rfl (by first | exact .inl rfl | exact .inr rfl)) (dgs_cons (dg_name nd (i := 5) rfl (by first | exact .inl rfl | exact .inr rfl)) dgs_nil))))) (dss_cons (ds_set (i := 1) nd rfl (by first | exact .inl rfl | exact .inr rfl) (de_lst (da_cons de_str (da_cons de_str (da_cons de_str (da_cons de_str (da_cons de_str (da_cons de_str (da_cons de_str (da_cons de_str da_nil)))))))))) (dss_cons (ds_for .never rfl (di_range1 rfl B_range (da_cons (de_op dop_add de_int (de_cal C__law_draw (hr.mono (by decide)) hgd rfl (da_cons (de_v 0) (da_cons de_int da_nil)))) da_nil)) (dg_name nd (i := 2) rfl (by first | exact .inl rfl | exact .inr rfl)) (dss_cons (ds_set (i := 6) nd rfl (by first | exact .inl rfl | exact .inr rfl) (de_bm PySem.F.plainAttrs_list PySem.F.slot_list_pop PySem.F.type_list_pop dmt_pop (de_v 1) (da_cons (de_cal C__law_draw (hr.mono (by decide)) hgd rfl (da_cons (de_v 0) (da_cons (de_callB (dcall_len) rfl B_len rfl (da_cons (de_v 1) da_nil)) da_nil))) da_nil))) (dss_one (ds_expr (de_bm PySem.F.plainAttrs_list PySem.F.slot_list_append PySem.F.type_list_append dmt_append (de_v 5) (da_cons (de_bm PySem.F.plainAttrs_str PySem.F.slot_str_join PySem.F.type_str_join dmt_join de_str (da_cons (de_lc (own := [("_law_sign", 7)]) (vs := [7]) rfl nd (di_any (de_v 6)) (blkOk_by (show blkC N__law_names (defScope s__law_names) _ [("_law_sign", 7)] = true by decide +kernel)) (fun s H C cl fp => ⟨dg_name nd (i := 7) rfl (by first | exact .inl rfl | exact .inr rfl), dts_nil, DCl.nil, (de_ix (dix_at hu1) (de_v 3) (de_op dop_mod (de_op dop_add (de_bm PySem.F.plainAttrs_str PySem.F.slot_str_find PySem.F.type_str_find dmt_find (de_v 3) (da_cons (de_v 7) da_nil)) (de_v 4)) de_int) (fun _ _ => rfl))⟩)) da_nil)) da_nil)))))) (dss_one (ds_ret (de_v 5))))), vc__law_names hsp⟩
theorem ok__law_all_ways {f : Addr} {fd : FuncData} (F : Fun K "_law_all_ways" "_law_all_ways" s__law_all_ways f fd) (hm : mg "_law_all_ways" = some (.ref f))  (B_dict : mg "dict" = none) : CalD P w K mg base 1 "_law_all_ways" sp__law_all_ways [] :=
  .of F sc__law_all_ways hm (F.binds fun _ _ _ _ _ _ us hl => match us, hl with | [_], _ => rfl) len__law_all_ways fun cdv A outer s H ds So Q E hr hgd hsp => by
  have nd := nd__law_all_ways; have hu0 := room_u hr
  have hu64 : (A.deeper (envOfC "_law_all_ways" (defScope s__law_all_ways) s.heap.objs.size f cdv)).units + 64 < cLine := by omega
  have hu1 : (A.deeper (envOfC "_law_all_ways" (defScope s__law_all_ways) s.heap.objs.size f cdv)).units + 1 < cLine := by omega
  have hu2 : (A.deeper (envOfC "_law_all_ways" (defScope s__law_all_ways) s.heap.objs.size f cdv)).units + 2 < cLine := by omega
  exact ⟨r__law_all_ways, dss_cons (ds_par3 (i := 1) (j := 2) (l := 3) rfl nd rfl rfl rfl (by decide) (by decide) (by decide) rfl rfl rfl (da_cons (de_callT (dcall_dict hu2 rfl) rfl B_dict rfl (da_cons (de_lc (own := [("_law_row", 6)]) (vs := [6]) rfl nd (di_any (de_ix (dix_at hu1) (de_v 0) de_int (fun _ _ => rfl))) (blkOk_by (show blkC N__law_all_ways (defScope s__law_all_ways) _ [("_law_row", 6)] = true by decide +kernel)) (fun s H C cl fp => ⟨dg_name nd (i := 6) rfl (by first | exact .inl rfl | exact .inr rfl), dts_nil, DCl.nil, (de_tup (da_cons (de_ix (dix_at hu1) (de_v 6) de_int (fun _ _ => rfl)) (da_cons (de_ix (dix_at hu1) (de_v 6) de_int (fun _ _ => rfl)) da_nil)))⟩)) da_nil)) (da_cons (de_lst da_nil) (da_cons (de_lst (da_cons (de_tup (da_cons (de_tup da_nil) (da_cons (de_tup (da_cons de_int da_nil)) da_nil))) da_nil)) da_nil))) rfl) (dss_cons (ds_while .never (dt_cmp (dop_ne hu64) (de_v 3) (de_lst da_nil) rfl) (dss_cons (ds_asg (de_bm0 PySem.F.plainAttrs_list PySem.F.slot_list_pop PySem.F.type_list_pop dmt_pop (de_v 3)) (dg_tup rfl (n := 2) (dgs_cons (dg_name nd (i := 4) rfl (by first | exact .inl rfl | exact .inr rfl)) (dgs_cons (dg_name nd (i := 5) rfl (by first | exact .inl rfl | exact .inr rfl)) dgs_nil)))) (dss_cons (ds_expr (de_bm PySem.F.plainAttrs_list PySem.F.slot_list_append PySem.F.type_list_append dmt_append (de_v 2) (da_cons (de_tup (da_cons (de_v 4) (da_cons (de_v 5) da_nil))) da_nil))) (dss_one (ds_expr (de_bm PySem.F.plainAttrs_list PySem.F.slot_list_extend PySem.F.type_list_extend dmt_extend (de_v 3) (da_cons (de_lc (own := [("_law_name", 7), ("_law_to", 8)]) (vs := [7, 8]) rfl nd (di_any (de_ix (dix_at hu1) (de_v 1) (de_ix (dix_at hu1) (de_v 5) (de_un dun_neg de_int) (fun _ _ => rfl)) (fun _ _ => rfl))) (blkOk_by (show blkC N__law_all_ways (defScope s__law_all_ways) _ [("_law_name", 7), ("_law_to", 8)] = true by decide +kernel)) (fun s H C cl fp => ⟨dg_tup rfl (n := 2) (dgs_cons (dg_name nd (i := 7) rfl (by first | exact .inl rfl | exact .inr rfl)) (dgs_cons (dg_name nd (i := 8) rfl (by first | exact .inl rfl | exact .inr rfl)) dgs_nil)), dts_nil, DCl.nil, (de_tup (da_cons (de_op dop_add (de_v 4) (de_tup (da_cons (de_v 7) da_nil))) (da_cons (de_op dop_add (de_v 5) (de_tup (da_cons (de_v 8) da_nil))) da_nil)))⟩)) da_nil))))))) (dss_one (ds_ret (de_v 2)))), vc__law_all_ways hsp⟩
theorem ok_is_number {f : Addr} {fd : FuncData} (F : Fun K "is_number" "is_number" s_is_number f fd) (hm : mg "is_number" = some (.ref f))  (B_isinstance : mg "isinstance" = none) (B_int : mg "int" = none) (B_bool : mg "bool" = none) : CalD P w K mg base 1 "is_number" sp_is_number [] :=
  .of F sc_is_number hm (F.binds fun _ _ _ _ _ _ us hl => match us, hl with | [_], _ => rfl) len_is_number fun cdv A outer s H ds So Q E hr hgd hsp => by
  have nd := nd_is_number; have hu0 := room_u hr
  exact ⟨r_is_number, dss_one (ds_ret (de_and (de_callB (dcall_isi) rfl B_isinstance rfl (da_cons (de_v 0) (da_cons (de_ty rfl B_int rfl) da_nil))) (de_and (de_not (de_callB (dcall_isi) rfl B_isinstance rfl (da_cons (de_v 0) (da_cons (de_ty rfl B_bool rfl) da_nil)))) (de_one (de_cmp dop_ge (de_v 0) de_int rfl))))), vc_is_number hsp⟩
theorem ok_row_of {f : Addr} {fd : FuncData} (F : Fun K "row_of" "row_of" s_row_of f fd) (hm : mg "row_of" = some (.ref f)) {c_NoStep : Addr} (T_exc : ExcK P w K mg base "NoStep" c_NoStep ["word"]) (C_is_number : CalD P w K mg base 1 "is_number" sp_is_number [])  : CalD P w K mg base 3 "row_of" (sp_row_of c_NoStep) [] :=
  .ofX F sc_row_of hm (F.binds fun _ _ _ _ _ _ us hl => match us, hl with | [_, _], _ => rfl) len_row_of fun cdv A outer s H ds So Q E hr hgd hsp => by
  have nd := nd_row_of; have hu0 := room_u hr
  have hu64 : (A.deeper (envOfC "row_of" (defScope s_row_of) s.heap.objs.size f cdv)).units + 64 < cLine := by omega
  have hu1 : (A.deeper (envOfC "row_of" (defScope s_row_of) s.heap.objs.size f cdv)).units + 1 < cLine := by omega
  exact ⟨r_row_of c_NoStep E, dss_cons (ds_for own_of rfl (di_any (de_ix (dix_at hu1) (de_v 0) de_int (fun _ _ => rfl))) (dg_name nd (i := 2) rfl (by first | exact .inl rfl | exact .inr rfl)) (dss_one (ds_if (DW.dt (dw_and (dt_cmp (dop_eq hu64) (de_ix (dix_at hu1) (de_v 2) de_int (fun _ _ => rfl)) (de_v 1) rfl) (dw_and1 (dt_val (de_cal C_is_number.pure (hr.mono (by decide)) hgd rfl (da_cons (de_v 1) da_nil)))))) (dss_one (ds_ret (de_v 2))) dss_nil))) (dss_one (ds_raise T_exc (by decide) rfl (hr.mono (by decide)) rfl tk_of (da_cons de_str da_nil))), vc_row_of hsp⟩
theorem ok_kind_of {f : Addr} {fd : FuncData} (F : Fun K "kind_of" "kind_of" s_kind_of f fd) (hm : mg "kind_of" = some (.ref f)) {c_NoStep : Addr} (T_exc : ExcK P w K mg base "NoStep" c_NoStep ["word"]) (C_row_of : CalD P w K mg base 3 "row_of" (sp_row_of c_NoStep) [])  : CalD P w K mg base 4 "kind_of" (sp_kind_of c_NoStep) [] :=
  .ofX F sc_kind_of hm (F.binds fun _ _ _ _ _ _ us hl => match us, hl with | [_, _], _ => rfl) len_kind_of fun cdv A outer s H ds So Q E hr hgd hsp => by
  have nd := nd_kind_of; have hu0 := room_u hr
  have hu1 : (A.deeper (envOfC "kind_of" (defScope s_kind_of) s.heap.objs.size f cdv)).units + 1 < cLine := by omega
  exact ⟨r_kind_of c_NoStep E, dss_one (ds_ret (de_ix (dix_at hu1) (de_calX C_row_of (hr.mono (by decide)) hgd rfl tk_of (da_cons (de_v 0) (da_cons (de_v 1) da_nil))) de_int (fun _ _ => rfl))), vc_kind_of hsp⟩
theorem ok_holders {f : Addr} {fd : FuncData} (F : Fun K "holders" "holders" s_holders f fd) (hm : mg "holders" = some (.ref f))   : CalD P w K mg base 1 "holders" sp_holders [] :=
  .of F sc_holders hm (F.binds fun _ _ _ _ _ _ us hl => match us, hl with | [_], _ => rfl) len_holders fun cdv A outer s H ds So Q E hr hgd hsp => by
  have nd := nd_holders; have hu0 := room_u hr
  have hu1 : (A.deeper (envOfC "holders" (defScope s_holders) s.heap.objs.size f cdv)).units + 1 < cLine := by omega
  exact ⟨r_holders, dss_cons (ds_dc (i := 1) (own := [("node", 6), ("kind", 3), ("entries", 4)]) (vs := [6, 3, 4]) hu1 rfl nd rfl rfl (sw_comp (.inr ⟨_, _, _, _, rfl⟩) rfl rfl rfl rfl) (di_any (de_v 0)) (blkOk_by (show blkC N_holders (defScope s_holders) _ [("node", 6), ("kind", 3), ("entries", 4)] = true by decide +kernel)) (fun s H C cl fp => ⟨dg_tup rfl (n := 3) (dgs_cons (dg_name nd (i := 6) rfl (by first | exact .inl rfl | exact .inr rfl)) (dgs_cons (dg_name nd (i := 3) rfl (by first | exact .inl rfl | exact .inr rfl)) (dgs_cons (dg_name nd (i := 4) rfl (by first | exact .inl rfl | exact .inr rfl)) dgs_nil))), dts_nil, DCl.nil, de_v 6, de_lst da_nil⟩)) (dss_cons (ds_for .never rfl (di_any (de_v 0)) (dg_tup rfl (n := 3) (dgs_cons (dg_name nd (i := 2) rfl (by first | exact .inl rfl | exact .inr rfl)) (dgs_cons (dg_name nd (i := 3) rfl (by first | exact .inl rfl | exact .inr rfl)) (dgs_cons (dg_name nd (i := 4) rfl (by first | exact .inl rfl | exact .inr rfl)) dgs_nil)))) (dss_one (ds_for .never rfl (di_any (de_v 4)) (dg_tup rfl (n := 2) (dgs_cons (dg_name nd (i := 5) rfl (by first | exact .inl rfl | exact .inr rfl)) (dgs_cons (dg_name nd (i := 6) rfl (by first | exact .inl rfl | exact .inr rfl)) dgs_nil))) (dss_one (ds_expr (de_bm PySem.F.plainAttrs_list PySem.F.slot_list_append PySem.F.type_list_append dmt_append (de_setd (de_v 1) (de_v 6) (de_lst da_nil) ⟨rfl, rfl, rfl, rfl⟩) (da_cons (de_v 2) da_nil))))))) (dss_one (ds_ret (de_v 1)))), vc_holders hsp⟩
theorem ok_entries_of {f : Addr} {fd : FuncData} (F : Fun K "entries_of" "entries_of" s_entries_of f fd) (hm : mg "entries_of" = some (.ref f)) {c_NoStep : Addr} (T_exc : ExcK P w K mg base "NoStep" c_NoStep ["word"]) (C_row_of : CalD P w K mg base 3 "row_of" (sp_row_of c_NoStep) [])  : CalD P w K mg base 4 "entries_of" (sp_entries_of c_NoStep) [] :=
  .ofX F sc_entries_of hm (F.binds fun _ _ _ _ _ _ us hl => match us, hl with | [_, _], _ => rfl) len_entries_of fun cdv A outer s H ds So Q E hr hgd hsp => by
  have nd := nd_entries_of; have hu0 := room_u hr
  have hu64 : (A.deeper (envOfC "entries_of" (defScope s_entries_of) s.heap.objs.size f cdv)).units + 64 < cLine := by omega
  have hu1 : (A.deeper (envOfC "entries_of" (defScope s_entries_of) s.heap.objs.size f cdv)).units + 1 < cLine := by omega
  exact ⟨r_entries_of c_NoStep E, dss_cons (ds_set (i := 2) nd rfl (by first | exact .inl rfl | exact .inr rfl) (de_calX C_row_of (hr.mono (by decide)) hgd rfl tk_of (da_cons (de_v 0) (da_cons (de_v 1) da_nil)))) (dss_cons (ds_if (dt_cmp (dop_eq hu64) (de_ix (dix_at hu1) (de_v 2) de_int (fun _ _ => rfl)) de_str rfl) (dss_one (ds_raise T_exc (by decide) rfl (hr.mono (by decide)) rfl tk_of (da_cons de_str da_nil))) dss_nil) (dss_one (ds_ret (de_ix (dix_at hu1) (de_v 2) de_int (fun _ _ => rfl))))), vc_entries_of hsp⟩
theorem st_ways_to {f : Addr} {fd : FuncData} (F : Fun K "ways_to" "ways_to" s_ways_to f fd) (hm : mg "ways_to" = some (.ref f)) {c_NoStep : Addr} (T_exc : ExcK P w K mg base "NoStep" c_NoStep ["word"]) (C_kind_of : CalD P w K mg base 4 "kind_of" (sp_kind_of c_NoStep) []) (C_holders : CalD P w K mg base 1 "holders" sp_holders []) (C_entries_of : CalD P w K mg base 4 "entries_of" (sp_entries_of c_NoStep) []) (B_sorted : mg "sorted" = none) (B_tuple : mg "tuple" = none) (B_set : mg "set" = none) {t_TOP : Tok} (M_TOP : mg "TOP" = some (.int 0 t_TOP)) (n : Nat) (C_self : CalD P w K mg base (5 + n) "ways_to" (prv_ways_to c_NoStep n) []) : CalD P w K mg base (5 + n + 1) "ways_to" (spR_ways_to c_NoStep n) [] :=
  .ofX F sc_ways_to hm (F.binds fun _ _ _ _ _ _ us hl => match us, hl with | [_, _], _ => rfl) (lenR_ways_to n) fun cdv A outer s H ds So Q E hr hgd hsp => by
  have nd := nd_ways_to; have hu0 := room_u hr
  have hu : (A.deeper (envOfC "ways_to" (defScope s_ways_to) s.heap.objs.size f cdv)).units + 65 < cLine := by omega
  have hu64 : (A.deeper (envOfC "ways_to" (defScope s_ways_to) s.heap.objs.size f cdv)).units + 64 < cLine := by omega
  have hu1 : (A.deeper (envOfC "ways_to" (defScope s_ways_to) s.heap.objs.size f cdv)).units + 1 < cLine := by omega
  have hu2 : (A.deeper (envOfC "ways_to" (defScope s_ways_to) s.heap.objs.size f cdv)).units + 2 < cLine := by omega
  exact ⟨r_ways_to c_NoStep E (prv_ways_to c_NoStep n), dss_cons (ds_expr (de_calX C_kind_of.pure (hr.mono (by omega)) hgd rfl tk_of (da_cons (de_v 0) (da_cons (de_v 1) da_nil)))) (dss_cons (ds_if (dt_cmp (dop_eq hu64) (de_v 1) (de_constI M_TOP rfl) rfl) (dss_one (ds_ret (de_tup (da_cons (de_tup da_nil) da_nil)))) dss_nil) (dss_cons (ds_set (i := 2) nd rfl (by first | exact .inl rfl | exact .inr rfl) (de_lst da_nil)) (dss_cons (ds_for own_of rfl (di_any (de_sortedSetF rfl hu B_sorted B_set rfl rfl (de_ix (dix_at hu1) (de_cal C_holders.frame (hr.mono (by omega)) hgd rfl (da_cons (de_ix (dix_at hu1) (de_v 0) de_int (fun _ _ => rfl)) da_nil)) (de_v 1) (fun _ _ => rfl)))) (dg_name nd (i := 3) rfl (by first | exact .inl rfl | exact .inr rfl)) (dss_cons (ds_set (i := 4) nd rfl (by first | exact .inl rfl | exact .inr rfl) (de_lc (own := [("name", 5), ("other", 6)]) (vs := [5, 6]) rfl nd (di_any (de_calX C_entries_of.pure (hr.mono (by omega)) hgd rfl tk_of (da_cons (de_v 0) (da_cons (de_v 3) da_nil)))) (blkOk_by (show blkC N_ways_to (defScope s_ways_to) _ [("name", 5), ("other", 6)] = true by decide +kernel)) (fun s H C cl fp => ⟨dg_tup rfl (n := 2) (dgs_cons (dg_name nd (i := 5) rfl (by first | exact .inl rfl | exact .inr rfl)) (dgs_cons (dg_name nd (i := 6) rfl (by first | exact .inl rfl | exact .inr rfl)) dgs_nil)), dts_one (dt_cmp (dop_eq hu64) (de_v 6) (de_v 1) rfl), DCl.nil, (de_v 5)⟩))) (dss_one (ds_expr (de_bm PySem.F.plainAttrs_list PySem.F.slot_list_extend PySem.F.type_list_extend dmt_extend (de_v 2) (da_cons (de_lc (own := [("way", 7), ("name", 5)]) (vs := [7]) rfl nd (di_any (de_cal C_self.pure (hr.mono (by omega)) hgd rfl (da_cons (de_v 0) (da_cons (de_v 3) da_nil)))) (blkOk_by (show blkC N_ways_to (defScope s_ways_to) _ [("way", 7), ("name", 5)] = true by decide +kernel)) (fun s H C cl fp => ⟨dg_name nd (i := 7) rfl (by first | exact .inl rfl | exact .inr rfl), dts_nil, DCl.cons (di_any (de_v 4)) (dg_name nd (i := 5) rfl (by first | exact .inl rfl | exact .inr rfl)) dts_nil (fun _ _ => rfl) (DCl.nil), (de_op dop_add (de_v 7) (de_tup (da_cons (de_v 5) da_nil)))⟩)) da_nil)))))) (dss_one (ds_ret (de_callT (dcall_tuple) rfl B_tuple rfl (da_cons (de_callB (dcall_sortedD rfl hu) rfl B_sorted rfl (da_cons (de_v 2) da_nil)) da_nil))))))), vcR_ways_to n hsp⟩
theorem ok_ways_to {f : Addr} {fd : FuncData} (F : Fun K "ways_to" "ways_to" s_ways_to f fd) (hm : mg "ways_to" = some (.ref f)) {c_NoStep : Addr} (T_exc : ExcK P w K mg base "NoStep" c_NoStep ["word"]) (C_kind_of : CalD P w K mg base 4 "kind_of" (sp_kind_of c_NoStep) []) (C_holders : CalD P w K mg base 1 "holders" sp_holders []) (C_entries_of : CalD P w K mg base 4 "entries_of" (sp_entries_of c_NoStep) []) (B_sorted : mg "sorted" = none) (B_tuple : mg "tuple" = none) (B_set : mg "set" = none) {t_TOP : Tok} (M_TOP : mg "TOP" = some (.int 0 t_TOP)) : CalD P w K mg base 30 "ways_to" (sp_ways_to c_NoStep) [] := by
  have main : ∀ n : Nat, CalD P w K mg base (5 + n + 1) "ways_to" (spR_ways_to c_NoStep n) [] := by
    intro n; induction n with
    | zero => exact st_ways_to F hm T_exc C_kind_of C_holders C_entries_of B_sorted B_tuple B_set M_TOP 0 (.no (ps := ["tree", "node"]) F hm (F.binds fun _ _ _ _ _ _ us hl => match us, hl with | [_, _], _ => rfl))
    | succ n ih => exact st_ways_to F hm T_exc C_kind_of C_holders C_entries_of B_sorted B_tuple B_set M_TOP (n + 1) ih
  exact main 24
theorem ok_above {f : Addr} {fd : FuncData} (F : Fun K "above" "above" s_above f fd) (hm : mg "above" = some (.ref f)) {c_NoStep : Addr} (T_exc : ExcK P w K mg base "NoStep" c_NoStep ["word"]) (C_kind_of : CalD P w K mg base 4 "kind_of" (sp_kind_of c_NoStep) []) (C_holders : CalD P w K mg base 1 "holders" sp_holders [])  {t_TOP : Tok} (M_TOP : mg "TOP" = some (.int 0 t_TOP)) : CalD P w K mg base 5 "above" (sp_above c_NoStep) [] :=
  .ofX F sc_above hm (F.binds fun _ _ _ _ _ _ us hl => match us, hl with | [_, _], _ => rfl) len_above fun cdv A outer s H ds So Q E hr hgd hsp => by
  have nd := nd_above; have hu0 := room_u hr
  have hu64 : (A.deeper (envOfC "above" (defScope s_above) s.heap.objs.size f cdv)).units + 64 < cLine := by omega
  have hu1 : (A.deeper (envOfC "above" (defScope s_above) s.heap.objs.size f cdv)).units + 1 < cLine := by omega
  exact ⟨r_above c_NoStep E, dss_cons (ds_if (dt_cmp (dop_eq hu64) (de_calX C_kind_of (hr.mono (by decide)) hgd rfl tk_of (da_cons (de_v 0) (da_cons (de_v 1) da_nil))) de_str rfl) (dss_one (ds_raise T_exc (by decide) rfl (hr.mono (by decide)) rfl tk_of (da_cons de_str da_nil))) dss_nil) (dss_cons (ds_par (i := 3) (j := 4) rfl nd rfl rfl (by decide) rfl rfl (da_cons (de_cal C_holders (hr.mono (by decide)) hgd rfl (da_cons (de_ix (dix_at hu1) (de_v 0) de_int (fun _ _ => rfl)) da_nil)) (da_cons (de_tup da_nil) da_nil)) rfl) (dss_cons (ds_set (i := 2) nd rfl (by first | exact .inl rfl | exact .inr rfl) (de_v 1)) (dss_cons (ds_while own_of (dt_cmp (dop_ne hu64) (de_v 2) (de_constI M_TOP rfl) rfl) (dss_cons (ds_set (i := 2) nd rfl (by first | exact .inl rfl | exact .inr rfl) (de_ix (dix_at hu1) (de_ix (dix_at hu1) (de_v 3) (de_v 2) (fun _ _ => rfl)) de_int (fun _ _ => rfl))) (dss_one (ds_set (i := 4) nd rfl (by first | exact .inl rfl | exact .inr rfl) (de_op dop_add (de_v 4) (de_tup (da_cons (de_v 2) da_nil))))))) (dss_one (ds_ret (de_v 4)))))), vc_above hsp⟩
theorem ok__law_told {f : Addr} {fd : FuncData} (F : Fun K "_law_told" "_law_told" s__law_told f fd) (hm : mg "_law_told" = some (.ref f)) {c_RunError : Addr} {c_NoStep : Addr} (T_exc : ExcK P w K mg base "NoStep" c_NoStep ["word"]) (M_NoStep : mg "NoStep" = some (.ref c_NoStep)) (M_RunError : mg "RunError" = some (.ref c_RunError)) (hex : PySem.W.exmOne K (.ref c_NoStep) (.ref c_RunError) = some true) (KO : KindsOk K c_NoStep [(c_NoStep, true)]) (T_is : ExcIs K c_NoStep) (XF : XfC K c_NoStep) (C_ways_to : CalD P w K mg base 30 "ways_to" (sp_ways_to c_NoStep) []) (C_above : CalD P w K mg base 5 "above" (sp_above c_NoStep) []) (B_isinstance : mg "isinstance" = none) : CalD P w K mg base 31 "_law_told" sp__law_told [] :=
  .ofF F sc__law_told hm (F.binds fun _ _ _ _ _ _ us hl => match us, hl with | [_, _, _], _ => rfl) len__law_told fun cdv A outer s H ds So Q E hr hgd hsp => by
  have nd := nd__law_told; have hu0 := room_u hr
  have hu64 : (A.deeper (envOfC "_law_told" (defScope s__law_told) s.heap.objs.size f cdv)).units + 64 < cLine := by omega
  exact ⟨r__law_told c_NoStep, dsf_cons (ds_try1 (i := 3) rfl rfl nd rfl rfl ⟨rfl, by decide, .inl M_RunError⟩ hex (fun E pn xe tk po => DSs.f (dss_one (ds_ret (de_tup (da_cons de_str (da_cons (de_if (dt_cmp (dop_eq hu64) (de_v 0) de_int rfl) (de_calX C_ways_to.pure (hr.mono (by decide)) hgd rfl tk (da_cons (de_v 1) (da_cons (de_v 2) da_nil))) (de_calX C_above.pure (hr.mono (by decide)) hgd rfl tk (da_cons (de_v 1) (da_cons (de_v 2) da_nil)))) da_nil)))))) (fun a dd oe pn hz hf => DSs.f (dss_one (ds_if (dt_val (de_callB (dcall_isE T_is KO hz hf) rfl B_isinstance rfl (da_cons (de_v 3) (da_cons (de_own rfl M_NoStep) da_nil)))) (dss_one (ds_ret (de_tup (da_cons de_str (da_cons (de_xf XF (T_exc.no _ (by simp)) hz hf (de_v 3)) da_nil))))) dss_nil)))) (DSs.f (dss_one (ds_ret (de_tup (da_cons de_str da_nil))))), vc__law_told hsp⟩
theorem ok_way_through {f : Addr} {fd : FuncData} (F : Fun K "way_through" "way_through" s_way_through f fd) (hm : mg "way_through" = some (.ref f)) {c_NoStep : Addr} (C_kind_of : CalD P w K mg base 4 "kind_of" (sp_kind_of c_NoStep) []) (C_entries_of : CalD P w K mg base 4 "entries_of" (sp_entries_of c_NoStep) []) (B_enumerate : mg "enumerate" = none) (B_dict : mg "dict" = none) {t_TOP : Tok} (M_TOP : mg "TOP" = some (.int 0 t_TOP)) : CalK P w K mg base 5 "way_through" sp_way_through ["top"] (kwG 2 1) :=
  .of F sc_way_through hm (fun_kbinds (ks := ["top"]) (n := 2) (by simp) F fun _ _ _ _ _ _ us ws hu hw => match us, ws, hu, hw with | [_, _], [_], _, _ => rfl) len_way_through fun cdv A outer s H ds So Q E hr hgd hsp => by
  have nd := nd_way_through; have hu0 := room_u hr
  have hu64 : (A.deeper (envOfC "way_through" (defScope s_way_through) s.heap.objs.size f cdv)).units + 64 < cLine := by omega
  have hu1 : (A.deeper (envOfC "way_through" (defScope s_way_through) s.heap.objs.size f cdv)).units + 1 < cLine := by omega
  have hu2 : (A.deeper (envOfC "way_through" (defScope s_way_through) s.heap.objs.size f cdv)).units + 2 < cLine := by omega
  exact ⟨r_way_through c_NoStep, dss_cons (ds_set (i := 3) nd rfl (by first | exact .inl rfl | exact .inr rfl) (de_tup (da_cons (de_v 2) da_nil))) (dss_cons (ds_for .never rfl (di_enum rfl B_enumerate (da_cons (de_v 1) da_nil)) (dg_tup rfl (n := 2) (dgs_cons (dg_name nd (i := 4) rfl (by first | exact .inl rfl | exact .inr rfl)) (dgs_cons (dg_name nd (i := 5) rfl (by first | exact .inl rfl | exact .inr rfl)) dgs_nil))) (dss_cons (ds_if (dt_cmp (dop_eq hu64) (de_cal C_kind_of.pure (hr.mono (by decide)) hgd rfl (da_cons (de_v 0) (da_cons (de_ix (dix_at hu1) (de_v 3) (de_un dun_neg de_int) (fun _ _ => rfl)) da_nil))) de_str rfl) (dss_one (ds_ret (de_tup (da_cons (de_v 3) (da_cons (de_tup (da_cons de_str (da_cons (de_v 4) da_nil))) da_nil))))) dss_nil) (dss_cons (ds_set (i := 6) nd rfl (by first | exact .inl rfl | exact .inr rfl) (de_get1 hu1 (de_callT (dcall_dict hu2 rfl) rfl B_dict rfl (da_cons (de_cal C_entries_of.pure (hr.mono (by decide)) hgd rfl (da_cons (de_v 0) (da_cons (de_ix (dix_at hu1) (de_v 3) (de_un dun_neg de_int) (fun _ _ => rfl)) da_nil))) da_nil)) (de_v 5) ⟨rfl, rfl, rfl, rfl⟩)) (dss_cons (ds_if (dt_cmp dop_isN (de_v 6) de_non rfl) (dss_one (ds_ret (de_tup (da_cons (de_v 3) (da_cons (de_tup (da_cons de_str (da_cons (de_v 4) da_nil))) da_nil))))) dss_nil) (dss_one (ds_set (i := 3) nd rfl (by first | exact .inl rfl | exact .inr rfl) (de_op dop_add (de_v 3) (de_tup (da_cons (de_v 6) da_nil))))))))) (dss_one (ds_ret (de_tup (da_cons (de_v 3) (da_cons de_non da_nil)))))), vc_way_through hsp⟩
theorem okd_way_through {f : Addr} {fd : FuncData} (F : Fun K "way_through" "way_through" s_way_through f fd) (hm : mg "way_through" = some (.ref f)) (hb : ∃ dfl, Binds K fd ["tree", "way", "top"] dfl ∧ Dfl P w K [.int 0] dfl) {c_NoStep : Addr} (C_kind_of : CalD P w K mg base 4 "kind_of" (sp_kind_of c_NoStep) []) (C_entries_of : CalD P w K mg base 4 "entries_of" (sp_entries_of c_NoStep) []) (B_enumerate : mg "enumerate" = none) (B_dict : mg "dict" = none) {t_TOP : Tok} (M_TOP : mg "TOP" = some (.int 0 t_TOP)) : CalD P w K mg base 5 "way_through" sp_way_through [.int 0] :=
  .ofD F sc_way_through hm hb len_way_through fun cdv A outer s H ds So Q E hr hgd hsp => by
  have nd := nd_way_through; have hu0 := room_u hr
  have hu64 : (A.deeper (envOfC "way_through" (defScope s_way_through) s.heap.objs.size f cdv)).units + 64 < cLine := by omega
  have hu1 : (A.deeper (envOfC "way_through" (defScope s_way_through) s.heap.objs.size f cdv)).units + 1 < cLine := by omega
  have hu2 : (A.deeper (envOfC "way_through" (defScope s_way_through) s.heap.objs.size f cdv)).units + 2 < cLine := by omega
  exact ⟨r_way_through c_NoStep, dss_cons (ds_set (i := 3) nd rfl (by first | exact .inl rfl | exact .inr rfl) (de_tup (da_cons (de_v 2) da_nil))) (dss_cons (ds_for .never rfl (di_enum rfl B_enumerate (da_cons (de_v 1) da_nil)) (dg_tup rfl (n := 2) (dgs_cons (dg_name nd (i := 4) rfl (by first | exact .inl rfl | exact .inr rfl)) (dgs_cons (dg_name nd (i := 5) rfl (by first | exact .inl rfl | exact .inr rfl)) dgs_nil))) (dss_cons (ds_if (dt_cmp (dop_eq hu64) (de_cal C_kind_of.pure (hr.mono (by decide)) hgd rfl (da_cons (de_v 0) (da_cons (de_ix (dix_at hu1) (de_v 3) (de_un dun_neg de_int) (fun _ _ => rfl)) da_nil))) de_str rfl) (dss_one (ds_ret (de_tup (da_cons (de_v 3) (da_cons (de_tup (da_cons de_str (da_cons (de_v 4) da_nil))) da_nil))))) dss_nil) (dss_cons (ds_set (i := 6) nd rfl (by first | exact .inl rfl | exact .inr rfl) (de_get1 hu1 (de_callT (dcall_dict hu2 rfl) rfl B_dict rfl (da_cons (de_cal C_entries_of.pure (hr.mono (by decide)) hgd rfl (da_cons (de_v 0) (da_cons (de_ix (dix_at hu1) (de_v 3) (de_un dun_neg de_int) (fun _ _ => rfl)) da_nil))) da_nil)) (de_v 5) ⟨rfl, rfl, rfl, rfl⟩)) (dss_cons (ds_if (dt_cmp dop_isN (de_v 6) de_non rfl) (dss_one (ds_ret (de_tup (da_cons (de_v 3) (da_cons (de_tup (da_cons de_str (da_cons (de_v 4) da_nil))) da_nil))))) dss_nil) (dss_one (ds_set (i := 3) nd rfl (by first | exact .inl rfl | exact .inr rfl) (de_op dop_add (de_v 3) (de_tup (da_cons (de_v 6) da_nil))))))))) (dss_one (ds_ret (de_tup (da_cons (de_v 3) (da_cons de_non da_nil)))))), vc_way_through hsp⟩
theorem ok__law_right {f : Addr} {fd : FuncData} (F : Fun K "_law_right" "_law_right" s__law_right f fd) (hm : mg "_law_right" = some (.ref f)) (C__law_all_ways : CalD P w K mg base 1 "_law_all_ways" sp__law_all_ways []) (C__law_told : CalD P w K mg base 31 "_law_told" sp__law_told []) (C_way_through : CalK P w K mg base 5 "way_through" sp_way_through ["top"] (kwG 2 1)) (CD_way_through : CalD P w K mg base 5 "way_through" sp_way_through [.int 0]) (B_dict : mg "dict" = none) (B_repr : mg "repr" = none) (B_sorted : mg "sorted" = none) (B_tuple : mg "tuple" = none) : CalD P w K mg base 32 "_law_right" sp__law_right [] :=
  .of F sc__law_right hm (F.binds fun _ _ _ _ _ _ us hl => match us, hl with | [_], _ => rfl) len__law_right fun cdv A outer s H ds So Q E hr hgd hsp => by
  have nd := nd__law_right; have hu0 := room_u hr
  have hu : (A.deeper (envOfC "_law_right" (defScope s__law_right) s.heap.objs.size f cdv)).units + 65 < cLine := by omega
  have hu64 : (A.deeper (envOfC "_law_right" (defScope s__law_right) s.heap.objs.size f cdv)).units + 64 < cLine := by omega
  have hu1 : (A.deeper (envOfC "_law_right" (defScope s__law_right) s.heap.objs.size f cdv)).units + 1 < cLine := by omega
  have hu2 : (A.deeper (envOfC "_law_right" (defScope s__law_right) s.heap.objs.size f cdv)).units + 2 < cLine := by omega
  exact ⟨r__law_right, dss_cons (ds_par (i := 2) (j := 3) rfl nd rfl rfl (by decide) rfl rfl (da_cons (de_callT (dcall_dict hu2 rfl) rfl B_dict rfl (da_cons (de_lc (own := [("_law_row", 6)]) (vs := [6]) rfl nd (di_any (de_ix (dix_at hu1) (de_v 0) de_int (fun _ _ => rfl))) (blkOk_by (show blkC N__law_right (defScope s__law_right) _ [("_law_row", 6)] = true by decide +kernel)) (fun s H C cl fp => ⟨dg_name nd (i := 6) rfl (by first | exact .inl rfl | exact .inr rfl), dts_nil, DCl.nil, (de_tup (da_cons (de_callB (dcall_reprA hu hgd) rfl B_repr rfl (da_cons (de_ix (dix_at hu1) (de_v 6) de_int (fun _ _ => rfl)) da_nil)) (da_cons (de_ix (dix_at hu1) (de_v 6) de_int (fun _ _ => rfl)) da_nil)))⟩)) da_nil)) (da_cons (de_cal C__law_all_ways (hr.mono (by decide)) hgd rfl (da_cons (de_v 0) da_nil)) da_nil)) rfl) (dss_cons (ds_for .never rfl (di_any (de_op dop_add (de_lc (own := [("_law_row", 6)]) (vs := [6]) rfl nd (di_any (de_ix (dix_at hu1) (de_v 0) de_int (fun _ _ => rfl))) (blkOk_by (show blkC N__law_right (defScope s__law_right) _ [("_law_row", 6)] = true by decide +kernel)) (fun s H C cl fp => ⟨dg_name nd (i := 6) rfl (by first | exact .inl rfl | exact .inr rfl), dts_nil, DCl.nil, (de_ix (dix_at hu1) (de_v 6) de_int (fun _ _ => rfl))⟩)) (de_lst (da_cons (de_ix (dix_at hu1) (de_v 0) de_int (fun _ _ => rfl)) (da_cons (de_un dun_neg de_int) (da_cons de_bl (da_cons de_non (da_cons de_str (da_cons (de_tup (da_cons de_int da_nil)) (da_cons (de_flst (da_cons de_int da_nil)) da_nil)))))))))) (dg_name nd (i := 1) rfl (by first | exact .inl rfl | exact .inr rfl)) (dss_cons (ds_set (i := 4) nd rfl (by first | exact .inl rfl | exact .inr rfl) (de_lst (da_cons (de_tup (da_cons de_str (da_cons de_str da_nil))) (da_cons (de_tup (da_cons de_str (da_cons de_str da_nil))) da_nil)))) (dss_cons (ds_if (dt_cmp (dop_in hu) (de_callB (dcall_reprA hu hgd) rfl B_repr rfl (da_cons (de_v 1) da_nil)) (de_v 2) rfl) (dss_cons (ds_set (i := 5) nd rfl (by first | exact .inl rfl | exact .inr rfl) (de_callB (dcall_sortedD rfl hu) rfl B_sorted rfl (da_cons (de_lc (own := [("_law_row", 6)]) (vs := [6]) rfl nd (di_any (de_v 3)) (blkOk_by (show blkC N__law_right (defScope s__law_right) _ [("_law_row", 6)] = true by decide +kernel)) (fun s H C cl fp => ⟨dg_name nd (i := 6) rfl (by first | exact .inl rfl | exact .inr rfl), dts_one (dt_cmp (dop_eq hu64) (de_ix (dix_at hu1) (de_ix (dix_at hu1) (de_v 6) de_int (fun _ _ => rfl)) (de_un dun_neg de_int) (fun _ _ => rfl)) (de_v 1) rfl), DCl.nil, (de_v 6)⟩)) da_nil))) (dss_cons (ds_set (i := 4) nd rfl (by first | exact .inl rfl | exact .inr rfl) (de_lst (da_cons (de_tup (da_cons de_str (da_cons (de_callT (dcall_tuple) rfl B_tuple rfl (da_cons (de_lc (own := [("_law_way", 7), ("_law_nodes", 8)]) (vs := [7, 8]) rfl nd (di_any (de_v 5)) (blkOk_by (show blkC N__law_right (defScope s__law_right) _ [("_law_way", 7), ("_law_nodes", 8)] = true by decide +kernel)) (fun s H C cl fp => ⟨dg_tup rfl (n := 2) (dgs_cons (dg_name nd (i := 7) rfl (by first | exact .inl rfl | exact .inr rfl)) (dgs_cons (dg_name nd (i := 8) rfl (by first | exact .inl rfl | exact .inr rfl)) dgs_nil)), dts_nil, DCl.nil, (de_v 7)⟩)) da_nil)) da_nil))) (da_cons (de_tup (da_cons de_str (da_cons de_str da_nil))) da_nil)))) (dss_one (ds_if (dt_cmp (dop_eq hu64) (de_ix (dix_at hu1) (de_v 2) (de_callB (dcall_reprA hu hgd) rfl B_repr rfl (da_cons (de_v 1) da_nil)) (fun _ _ => rfl)) de_str rfl) (dss_one (ds_asg (de_tup (da_cons de_str (da_cons (de_rev (de_cut (de_ix (dix_at hu1) (de_ix (dix_at hu1) (de_v 5) de_int (fun _ _ => rfl)) de_int (fun _ _ => rfl)) dpo_none (dpo_some (de_un dun_neg de_int)))) da_nil))) (dg_sub (de_v 4) de_int (dset_any hu1)))) dss_nil)))) dss_nil) (dss_one (ds_if (dt_cmp (dop_ne hu64) (de_callB (dcall_reprA hu hgd) rfl B_repr rfl (da_cons (de_flst (da_cons (de_cal C__law_told.pure (hr.mono (by decide)) hgd rfl (da_cons de_int (da_cons (de_v 0) (da_cons (de_v 1) da_nil)))) (da_cons (de_cal C__law_told.pure (hr.mono (by decide)) hgd rfl (da_cons de_int (da_cons (de_v 0) (da_cons (de_v 1) da_nil)))) da_nil))) da_nil)) (de_callB (dcall_reprA hu hgd) rfl B_repr rfl (da_cons (de_v 4) da_nil)) rfl) (dss_one (ds_ret de_bl)) dss_nil))))) (dss_one (ds_ret (de_cmp (dop_eq hu64) (de_lc (own := [("_law_row", 6)]) (vs := [6]) rfl nd (di_any (de_v 3)) (blkOk_by (show blkC N__law_right (defScope s__law_right) _ [("_law_row", 6)] = true by decide +kernel)) (fun s H C cl fp => ⟨dg_name nd (i := 6) rfl (by first | exact .inl rfl | exact .inr rfl), dts_one (dt_cmp (dop_ne hu64) (de_cal CD_way_through.pure (hr.mono (by decide)) hgd rfl (da_cons (de_v 0) (da_cons (de_ix (dix_at hu1) (de_v 6) de_int (fun _ _ => rfl)) da_nil))) (de_tup (da_cons (de_ix (dix_at hu1) (de_v 6) de_int (fun _ _ => rfl)) (da_cons de_non da_nil))) rfl), DCl.nil, (de_v 6)⟩)) (de_lst da_nil) rfl)))), vc__law_right hsp⟩
theorem fn_law {f : Addr} {fd : FuncData} (F : Fun K "law" "law" s_law f fd) (C__law_feed : CalD P w K mg base 1 "_law_feed" sp__law_feed []) (C__law_tree : CalD P w K mg base 2 "_law_tree" sp__law_tree []) (C__law_names : CalD P w K mg base 2 "_law_names" sp__law_names []) (C__law_draw : CalD P w K mg base 1 "_law_draw" sp__law_draw []) (C__law_right : CalD P w K mg base 32 "_law_right" sp__law_right []) (B_range : mg "range" = none) (B_repr : mg "repr" = none) (B_tuple : mg "tuple" = none) : FnD P w K mg base 33 f fd ["_law_script"] sp_law :=
  .of F sc_law len_law fun cdv A outer s H ds So Q E hr hgd hsp => by
  have nd := nd_law; have hu0 := room_u hr
  have hu : (A.deeper (envOfC "law" (defScope s_law) s.heap.objs.size f cdv)).units + 65 < cLine := by omega
  have hu64 : (A.deeper (envOfC "law" (defScope s_law) s.heap.objs.size f cdv)).units + 64 < cLine := by omega
  have hu1 : (A.deeper (envOfC "law" (defScope s_law) s.heap.objs.size f cdv)).units + 1 < cLine := by omega
  exact ⟨r_law, DSs.nox (dss_cons (ds_set (i := 1) nd rfl (by first | exact .inl rfl | exact .inr rfl) (de_cal C__law_feed (hr.mono (by decide)) hgd rfl (da_cons (de_v 0) da_nil))) (dss_cons (ds_set (i := 2) nd rfl (by first | exact .inl rfl | exact .inr rfl) (de_tup (da_cons de_int (da_cons de_str (da_cons (de_tup (da_cons (de_tup (da_cons de_str (da_cons de_int da_nil))) (da_cons (de_tup (da_cons de_str (da_cons de_int da_nil))) (da_cons (de_tup (da_cons de_str (da_cons de_int da_nil))) da_nil)))) da_nil))))) (dss_cons (ds_set (i := 3) nd rfl (by first | exact .inl rfl | exact .inr rfl) (de_lst (da_cons (de_tup (da_cons (de_tup (da_cons (de_v 2) (da_cons (de_tup (da_cons de_int (da_cons de_str (da_cons (de_tup (da_cons (de_tup (da_cons de_str (da_cons de_int da_nil))) (da_cons (de_tup (da_cons de_str (da_cons de_int da_nil))) da_nil))) da_nil)))) (da_cons (de_tup (da_cons de_int (da_cons de_str (da_cons (de_tup da_nil) da_nil)))) (da_cons (de_tup (da_cons de_int (da_cons de_str (da_cons (de_tup (da_cons (de_tup (da_cons de_str (da_cons de_int da_nil))) da_nil)) da_nil)))) da_nil))))) (da_cons de_int da_nil))) da_nil))) (dss_cons (ds_lc (i := 4) (own := [("_law_k", 5)]) (vs := [5]) rfl nd rfl rfl (sw_comp (.inl ⟨_, _, _, rfl⟩) rfl rfl rfl rfl) (di_range1 rfl B_range (da_cons de_int da_nil)) (blkOk_by (show blkC N_law (defScope s_law) _ [("_law_k", 5)] = true by decide +kernel)) (fun s H C cl fp => ⟨dg_name nd (i := 5) rfl (by first | exact .inl rfl | exact .inr rfl), dts_nil, DCl.nil, (de_tup (da_cons (de_v 5) (da_cons de_str (da_cons (de_tup (da_cons (de_tup (da_cons (de_ix (dix_at hu1) de_str (de_op dop_mod (de_v 5) de_int) (fun _ _ => rfl)) (da_cons (de_op dop_add (de_v 5) de_int) da_nil))) da_nil)) da_nil))))⟩)) (dss_cons (ds_expr (de_bm PySem.F.plainAttrs_list PySem.F.slot_list_append PySem.F.type_list_append dmt_append (de_v 3) (da_cons (de_tup (da_cons (de_op dop_add (de_callT (dcall_tuple) rfl B_tuple rfl (da_cons (de_v 4) da_nil)) (de_tup (da_cons (de_tup (da_cons de_int (da_cons de_str (da_cons (de_tup da_nil) da_nil)))) da_nil))) (da_cons de_int da_nil))) da_nil))) (dss_cons (ds_for .never rfl (di_range1 rfl B_range (da_cons de_int da_nil)) (dg_name nd (i := 5) rfl (by first | exact .inl rfl | exact .inr rfl)) (dss_one (ds_expr (de_bm PySem.F.plainAttrs_list PySem.F.slot_list_append PySem.F.type_list_append dmt_append (de_v 3) (da_cons (de_cal C__law_tree (hr.mono (by decide)) hgd rfl (da_cons (de_v 1) (da_cons (de_cal C__law_names (hr.mono (by decide)) hgd rfl (da_cons (de_v 1) da_nil)) (da_cons (de_cal C__law_draw (hr.mono (by decide)) hgd rfl (da_cons (de_v 1) (da_cons de_int da_nil))) da_nil)))) da_nil))))) (dss_cons (ds_set (i := 6) nd rfl (by first | exact .inl rfl | exact .inr rfl) (de_callB (dcall_reprA hu hgd) rfl B_repr rfl (da_cons (de_v 3) da_nil))) (dss_one (ds_ret (de_and (de_cmp (dop_eq hu64) (de_lc (own := [("_law_tree_here", 7)]) (vs := [7]) rfl nd (di_any (de_v 3)) (blkOk_by (show blkC N_law (defScope s_law) _ [("_law_tree_here", 7)] = true by decide +kernel)) (fun s H C cl fp => ⟨dg_name nd (i := 7) rfl (by first | exact .inl rfl | exact .inr rfl), dts_one (dt_not (dt_val (de_cal C__law_right (hr.mono (by decide)) hgd rfl (da_cons (de_v 7) da_nil)))), DCl.nil, (de_v 7)⟩)) (de_lst da_nil) rfl) (de_one (de_cmp (dop_eq hu64) (de_callB (dcall_reprA hu hgd) rfl B_repr rfl (da_cons (de_v 3) da_nil)) (de_v 6) rfl)))))))))))), vc_law hsp⟩
theorem all_mk {h : Heap} {fa : Addr} (X : K.In h) (G : h.Ns mainGlobals mg) (hfa : mg "law" = some (.ref fa))
    {f__law_feed : Addr} {od__law_feed an__law_feed : Option Addr} {sl__law_feed : Array (Option Value)} {oc__law_feed kV__law_feed dc__law_feed pm__law_feed cd__law_feed ct__law_feed : Value}
    {f__law_draw : Addr} {od__law_draw an__law_draw : Option Addr} {sl__law_draw : Array (Option Value)} {oc__law_draw kV__law_draw dc__law_draw pm__law_draw cd__law_draw ct__law_draw : Value}
    {f__law_tree : Addr} {od__law_tree an__law_tree : Option Addr} {sl__law_tree : Array (Option Value)} {oc__law_tree kV__law_tree dc__law_tree pm__law_tree cd__law_tree ct__law_tree : Value}
    {f__law_names : Addr} {od__law_names an__law_names : Option Addr} {sl__law_names : Array (Option Value)} {oc__law_names kV__law_names dc__law_names pm__law_names cd__law_names ct__law_names : Value}
    {f__law_all_ways : Addr} {od__law_all_ways an__law_all_ways : Option Addr} {sl__law_all_ways : Array (Option Value)} {oc__law_all_ways kV__law_all_ways dc__law_all_ways pm__law_all_ways cd__law_all_ways ct__law_all_ways : Value}
    {f_is_number : Addr} {od_is_number an_is_number : Option Addr} {sl_is_number : Array (Option Value)} {oc_is_number kV_is_number dc_is_number pm_is_number cd_is_number ct_is_number : Value}
    {f_row_of : Addr} {od_row_of an_row_of : Option Addr} {sl_row_of : Array (Option Value)} {oc_row_of kV_row_of dc_row_of pm_row_of cd_row_of ct_row_of : Value}
    {f_kind_of : Addr} {od_kind_of an_kind_of : Option Addr} {sl_kind_of : Array (Option Value)} {oc_kind_of kV_kind_of dc_kind_of pm_kind_of cd_kind_of ct_kind_of : Value}
    {f_holders : Addr} {od_holders an_holders : Option Addr} {sl_holders : Array (Option Value)} {oc_holders kV_holders dc_holders pm_holders cd_holders ct_holders : Value}
    {f_entries_of : Addr} {od_entries_of an_entries_of : Option Addr} {sl_entries_of : Array (Option Value)} {oc_entries_of kV_entries_of dc_entries_of pm_entries_of cd_entries_of ct_entries_of : Value}
    {f_ways_to : Addr} {od_ways_to an_ways_to : Option Addr} {sl_ways_to : Array (Option Value)} {oc_ways_to kV_ways_to dc_ways_to pm_ways_to cd_ways_to ct_ways_to : Value}
    {f_above : Addr} {od_above an_above : Option Addr} {sl_above : Array (Option Value)} {oc_above kV_above dc_above pm_above cd_above ct_above : Value}
    {f__law_told : Addr} {od__law_told an__law_told : Option Addr} {sl__law_told : Array (Option Value)} {oc__law_told kV__law_told dc__law_told pm__law_told cd__law_told ct__law_told : Value}
    {f_way_through : Addr} {od_way_through an_way_through : Option Addr} {sl_way_through : Array (Option Value)} {oc_way_through  dc_way_through pm_way_through cd_way_through ct_way_through : Value}
    {dk_way_through : Addr} {dt_way_through_top : Tok}
    {f__law_right : Addr} {od__law_right an__law_right : Option Addr} {sl__law_right : Array (Option Value)} {oc__law_right kV__law_right dc__law_right pm__law_right cd__law_right ct__law_right : Value}
    {f_law : Addr} {od_law an_law : Option Addr} {sl_law : Array (Option Value)} {oc_law kV_law dc_law pm_law cd_law ct_law : Value}
    {t_TOP : Tok}
    {c_NoStep c_RunError : Addr} {xnm xq : Str} {xN : Addr} {xbs xbm : List Value} {xsn : List Str} {xsub : List Value} {xab : Bool} {xcol : Option Bool} {xdd : Option Addr} {xm0 xm1 xm2 xm3 xm5 : Option Value} {f_init : Addr} {xod xan : Option Addr} {xsl : Array (Option Value)} {xoc xkV xdc xpm xcd xct mcB : Value}
    (a__law_feed : PySem.W.nsIn K mainGlobals "_law_feed" = some (some (.ref f__law_feed))) (l__law_feed : K.lookup f__law_feed = some ⟨oc__law_feed, od__law_feed, .func (PySem.W.fnOf "_law_feed" "_law_feed" (defArgs s__law_feed) (defBody s__law_feed) (defScope s__law_feed) .none kV__law_feed dc__law_feed pm__law_feed an__law_feed cd__law_feed ct__law_feed), sl__law_feed⟩) (c__law_feed : PySem.W.codeIn K cd__law_feed "_law_feed" = true) (k__law_feed : PySem.W.keepIn K (.ref f__law_feed) = true)
    (a__law_draw : PySem.W.nsIn K mainGlobals "_law_draw" = some (some (.ref f__law_draw))) (l__law_draw : K.lookup f__law_draw = some ⟨oc__law_draw, od__law_draw, .func (PySem.W.fnOf "_law_draw" "_law_draw" (defArgs s__law_draw) (defBody s__law_draw) (defScope s__law_draw) .none kV__law_draw dc__law_draw pm__law_draw an__law_draw cd__law_draw ct__law_draw), sl__law_draw⟩) (c__law_draw : PySem.W.codeIn K cd__law_draw "_law_draw" = true) (k__law_draw : PySem.W.keepIn K (.ref f__law_draw) = true)
    (a__law_tree : PySem.W.nsIn K mainGlobals "_law_tree" = some (some (.ref f__law_tree))) (l__law_tree : K.lookup f__law_tree = some ⟨oc__law_tree, od__law_tree, .func (PySem.W.fnOf "_law_tree" "_law_tree" (defArgs s__law_tree) (defBody s__law_tree) (defScope s__law_tree) .none kV__law_tree dc__law_tree pm__law_tree an__law_tree cd__law_tree ct__law_tree), sl__law_tree⟩) (c__law_tree : PySem.W.codeIn K cd__law_tree "_law_tree" = true) (k__law_tree : PySem.W.keepIn K (.ref f__law_tree) = true)
    (a__law_names : PySem.W.nsIn K mainGlobals "_law_names" = some (some (.ref f__law_names))) (l__law_names : K.lookup f__law_names = some ⟨oc__law_names, od__law_names, .func (PySem.W.fnOf "_law_names" "_law_names" (defArgs s__law_names) (defBody s__law_names) (defScope s__law_names) .none kV__law_names dc__law_names pm__law_names an__law_names cd__law_names ct__law_names), sl__law_names⟩) (c__law_names : PySem.W.codeIn K cd__law_names "_law_names" = true) (k__law_names : PySem.W.keepIn K (.ref f__law_names) = true)
    (a__law_all_ways : PySem.W.nsIn K mainGlobals "_law_all_ways" = some (some (.ref f__law_all_ways))) (l__law_all_ways : K.lookup f__law_all_ways = some ⟨oc__law_all_ways, od__law_all_ways, .func (PySem.W.fnOf "_law_all_ways" "_law_all_ways" (defArgs s__law_all_ways) (defBody s__law_all_ways) (defScope s__law_all_ways) .none kV__law_all_ways dc__law_all_ways pm__law_all_ways an__law_all_ways cd__law_all_ways ct__law_all_ways), sl__law_all_ways⟩) (c__law_all_ways : PySem.W.codeIn K cd__law_all_ways "_law_all_ways" = true) (k__law_all_ways : PySem.W.keepIn K (.ref f__law_all_ways) = true)
    (a_is_number : PySem.W.nsIn K mainGlobals "is_number" = some (some (.ref f_is_number))) (l_is_number : K.lookup f_is_number = some ⟨oc_is_number, od_is_number, .func (PySem.W.fnOf "is_number" "is_number" (defArgs s_is_number) (defBody s_is_number) (defScope s_is_number) .none kV_is_number dc_is_number pm_is_number an_is_number cd_is_number ct_is_number), sl_is_number⟩) (c_is_number : PySem.W.codeIn K cd_is_number "is_number" = true) (k_is_number : PySem.W.keepIn K (.ref f_is_number) = true)
    (a_row_of : PySem.W.nsIn K mainGlobals "row_of" = some (some (.ref f_row_of))) (l_row_of : K.lookup f_row_of = some ⟨oc_row_of, od_row_of, .func (PySem.W.fnOf "row_of" "row_of" (defArgs s_row_of) (defBody s_row_of) (defScope s_row_of) .none kV_row_of dc_row_of pm_row_of an_row_of cd_row_of ct_row_of), sl_row_of⟩) (c_row_of : PySem.W.codeIn K cd_row_of "row_of" = true) (k_row_of : PySem.W.keepIn K (.ref f_row_of) = true)
    (a_kind_of : PySem.W.nsIn K mainGlobals "kind_of" = some (some (.ref f_kind_of))) (l_kind_of : K.lookup f_kind_of = some ⟨oc_kind_of, od_kind_of, .func (PySem.W.fnOf "kind_of" "kind_of" (defArgs s_kind_of) (defBody s_kind_of) (defScope s_kind_of) .none kV_kind_of dc_kind_of pm_kind_of an_kind_of cd_kind_of ct_kind_of), sl_kind_of⟩) (c_kind_of : PySem.W.codeIn K cd_kind_of "kind_of" = true) (k_kind_of : PySem.W.keepIn K (.ref f_kind_of) = true)
    (a_holders : PySem.W.nsIn K mainGlobals "holders" = some (some (.ref f_holders))) (l_holders : K.lookup f_holders = some ⟨oc_holders, od_holders, .func (PySem.W.fnOf "holders" "holders" (defArgs s_holders) (defBody s_holders) (defScope s_holders) .none kV_holders dc_holders pm_holders an_holders cd_holders ct_holders), sl_holders⟩) (c_holders : PySem.W.codeIn K cd_holders "holders" = true) (k_holders : PySem.W.keepIn K (.ref f_holders) = true)
    (a_entries_of : PySem.W.nsIn K mainGlobals "entries_of" = some (some (.ref f_entries_of))) (l_entries_of : K.lookup f_entries_of = some ⟨oc_entries_of, od_entries_of, .func (PySem.W.fnOf "entries_of" "entries_of" (defArgs s_entries_of) (defBody s_entries_of) (defScope s_entries_of) .none kV_entries_of dc_entries_of pm_entries_of an_entries_of cd_entries_of ct_entries_of), sl_entries_of⟩) (c_entries_of : PySem.W.codeIn K cd_entries_of "entries_of" = true) (k_entries_of : PySem.W.keepIn K (.ref f_entries_of) = true)
    (a_ways_to : PySem.W.nsIn K mainGlobals "ways_to" = some (some (.ref f_ways_to))) (l_ways_to : K.lookup f_ways_to = some ⟨oc_ways_to, od_ways_to, .func (PySem.W.fnOf "ways_to" "ways_to" (defArgs s_ways_to) (defBody s_ways_to) (defScope s_ways_to) .none kV_ways_to dc_ways_to pm_ways_to an_ways_to cd_ways_to ct_ways_to), sl_ways_to⟩) (c_ways_to : PySem.W.codeIn K cd_ways_to "ways_to" = true) (k_ways_to : PySem.W.keepIn K (.ref f_ways_to) = true)
    (a_above : PySem.W.nsIn K mainGlobals "above" = some (some (.ref f_above))) (l_above : K.lookup f_above = some ⟨oc_above, od_above, .func (PySem.W.fnOf "above" "above" (defArgs s_above) (defBody s_above) (defScope s_above) .none kV_above dc_above pm_above an_above cd_above ct_above), sl_above⟩) (c_above : PySem.W.codeIn K cd_above "above" = true) (k_above : PySem.W.keepIn K (.ref f_above) = true)
    (a__law_told : PySem.W.nsIn K mainGlobals "_law_told" = some (some (.ref f__law_told))) (l__law_told : K.lookup f__law_told = some ⟨oc__law_told, od__law_told, .func (PySem.W.fnOf "_law_told" "_law_told" (defArgs s__law_told) (defBody s__law_told) (defScope s__law_told) .none kV__law_told dc__law_told pm__law_told an__law_told cd__law_told ct__law_told), sl__law_told⟩) (c__law_told : PySem.W.codeIn K cd__law_told "_law_told" = true) (k__law_told : PySem.W.keepIn K (.ref f__law_told) = true)
    (a_way_through : PySem.W.nsIn K mainGlobals "way_through" = some (some (.ref f_way_through))) (l_way_through : K.lookup f_way_through = some ⟨oc_way_through, od_way_through, .func (PySem.W.fnOf "way_through" "way_through" (defArgs s_way_through) (defBody s_way_through) (defScope s_way_through) .none (.ref dk_way_through) dc_way_through pm_way_through an_way_through cd_way_through ct_way_through), sl_way_through⟩) (c_way_through : PySem.W.codeIn K cd_way_through "way_through" = true) (k_way_through : PySem.W.keepIn K (.ref f_way_through) = true)
    (da_way_through_top : PySem.W.nsIn K dk_way_through "top" = some (some (.int 0 dt_way_through_top)))
    (a__law_right : PySem.W.nsIn K mainGlobals "_law_right" = some (some (.ref f__law_right))) (l__law_right : K.lookup f__law_right = some ⟨oc__law_right, od__law_right, .func (PySem.W.fnOf "_law_right" "_law_right" (defArgs s__law_right) (defBody s__law_right) (defScope s__law_right) .none kV__law_right dc__law_right pm__law_right an__law_right cd__law_right ct__law_right), sl__law_right⟩) (c__law_right : PySem.W.codeIn K cd__law_right "_law_right" = true) (k__law_right : PySem.W.keepIn K (.ref f__law_right) = true)
    (a_law : PySem.W.nsIn K mainGlobals "law" = some (some (.ref f_law))) (l_law : K.lookup f_law = some ⟨oc_law, od_law, .func (PySem.W.fnOf "law" "law" (defArgs s_law) (defBody s_law) (defScope s_law) .none kV_law dc_law pm_law an_law cd_law ct_law), sl_law⟩) (c_law : PySem.W.codeIn K cd_law "law" = true) (k_law : PySem.W.keepIn K (.ref f_law) = true)
    (y_TOP : PySem.W.nsIn K mainGlobals "TOP" = some (some (.int 0 t_TOP)))
    (z_list : PySem.W.nsIn K mainGlobals "list" = some none)
    (z_len : PySem.W.nsIn K mainGlobals "len" = some none)
    (z_range : PySem.W.nsIn K mainGlobals "range" = some none)
    (z_sorted : PySem.W.nsIn K mainGlobals "sorted" = some none)
    (z_tuple : PySem.W.nsIn K mainGlobals "tuple" = some none)
    (z_dict : PySem.W.nsIn K mainGlobals "dict" = some none)
    (z_isinstance : PySem.W.nsIn K mainGlobals "isinstance" = some none)
    (z_int : PySem.W.nsIn K mainGlobals "int" = some none)
    (z_bool : PySem.W.nsIn K mainGlobals "bool" = some none)
    (z_set : PySem.W.nsIn K mainGlobals "set" = some none)
    (z_enumerate : PySem.W.nsIn K mainGlobals "enumerate" = some none)
    (z_repr : PySem.W.nsIn K mainGlobals "repr" = some none)
    (ya_NoStep : PySem.W.nsIn K mainGlobals "NoStep" = some (some (.ref c_NoStep)))
    (ya_RunError : PySem.W.nsIn K mainGlobals "RunError" = some (some (.ref c_RunError)))
    (xL : K.lookup c_NoStep = some (excClassObj xnm xq c_NoStep xN xbs xbm true xsn xsub xab xcol xdd xm0 xm1 xm2 xm3 xm5 "ValueError.__new__"))
    (xB : PySem.HandSPX.refsVE xbm = true)
    (xsa : PySem.W.findIn K (.ref c_NoStep) "__setattr__" = some (some (.builtin "object.__setattr__")))
    (xga : PySem.W.findIn K (.ref c_NoStep) "__getattribute__" = some (some (.builtin "BaseException.__getattribute__")))
    (xgg : PySem.W.findIn K (.ref c_NoStep) "__getattr__" = some none)
    (xn_word : PySem.W.findIn K (.ref c_NoStep) "word" = some none)
    (xi : PySem.W.findIn K (.ref c_NoStep) "__init__" = some (some (.ref f_init)))
    (xt : PySem.W.typeIn K (.ref f_init) = some (.type "function"))
    (xl : K.lookup f_init = some ⟨xoc, xod, .func (PySem.W.fnOf "__init__" "NoStep.__init__" (defArgs s_init) (defBody s_init) (defScope s_init) .none xkV xdc xpm xan xcd xct), xsl⟩)
    (xc : PySem.W.codeIn K xcd "NoStep.__init__" = true)
    (xkf : PySem.W.keepIn K (.ref f_init) = true)
    (xk : PySem.W.keepIn K (.ref c_NoStep) = true)
    (xe : PySem.W.subIn K (.ref c_NoStep) (.type "BaseException") = some true)
    (xT : PySem.W.typeIn K (.ref c_NoStep) = some (.type "type"))
    (xh : PySem.W.hasDictIn K c_NoStep = true)
    (xcl : PySem.W.isClsIn K c_NoStep = true)
    (xca : PySem.W.findIn K (.ref c_NoStep) "__class__" = some (some (.builtin "object.__class__")))
    (xsp : PySem.W.specialIn K (.builtin "object.__class__") "__get__" = some (some (.builtin "getset_descriptor.__get__")))
    (xtk : PySem.W.takesIn K (.builtin "object.__class__") = some true)
    (xmo : PySem.W.mroIn K c_NoStep (.type "object") = some true)
    (bga : PySem.W.specialIn K (.ref c_RunError) "__getattribute__" = some (some (.builtin "type.__getattribute__")))
    (bty : PySem.W.typeIn K (.ref c_RunError) = some mcB)
    (brd : PySem.W.readsIn K c_RunError mcB = true)
    (bfi : PySem.W.findCls K (.ref c_RunError) mcB "__init__" = some (.val (.builtin "ValueError.__init__")))
    (hex : PySem.W.exmOne K (.ref c_NoStep) (.ref c_RunError) = some true)
    (ki_NoStep : PySem.W.kitOne K (.ref c_NoStep) (.ref c_NoStep) = some true)
    : ∃ fd : FuncData, (∀ (s : Shared) (u : Value), BindsTo s fd ⟨[u], []⟩ [("_law_script", u)]) ∧ ∀ base : Heap, K.In base → base.Ns mainGlobals mg → FnD P w K mg base 33 fa fd ["_law_script"] sp_law := by
  have e := hfa.symm.trans (PySem.W.mg_of X G a_law)
  cases e
  refine ⟨PySem.W.fnOf "law" "law" (defArgs s_law) (defBody s_law) (defScope s_law) .none kV_law dc_law pm_law an_law cd_law ct_law, fun s v => .of_eq rfl, fun base _ _ => ?_⟩
  have B_list := PySem.W.mg_none_of X G z_list
  have B_len := PySem.W.mg_none_of X G z_len
  have B_range := PySem.W.mg_none_of X G z_range
  have B_sorted := PySem.W.mg_none_of X G z_sorted
  have B_tuple := PySem.W.mg_none_of X G z_tuple
  have B_dict := PySem.W.mg_none_of X G z_dict
  have B_isinstance := PySem.W.mg_none_of X G z_isinstance
  have B_int := PySem.W.mg_none_of X G z_int
  have B_bool := PySem.W.mg_none_of X G z_bool
  have B_set := PySem.W.mg_none_of X G z_set
  have B_enumerate := PySem.W.mg_none_of X G z_enumerate
  have B_repr := PySem.W.mg_none_of X G z_repr
  have M_TOP := PySem.W.mg_of X G y_TOP
  have M_NoStep := PySem.W.mg_of X G ya_NoStep
  have M_RunError := PySem.W.mg_of X G ya_RunError
  have bB : BaseI K c_RunError mcB := ⟨bga, bty, brd, bfi⟩
  have Fi := fun_mk (st := s_init) xl xc xkf
  have T_exc : ExcK P w K mg base "NoStep" c_NoStep ["word"] := ⟨⟨⟨xnm, xq, xN, xbs, xbm, xsn, xsub, xab, xcol, xdd, xm0, xm1, xm2, xm3, xm5, xL, xB⟩, xsa, xe, xT, xk⟩, ⟨f_init, _, ["self", "word"], xi, xt, ok_init Fi M_RunError bB, Fi.binds (ps := ["self", "word"]) fun _ _ _ _ _ _ us hl => match us, hl with | [_, _], _ => rfl⟩, M_NoStep, fun n hn => by
    simp only [List.mem_cons, List.not_mem_nil, or_false] at hn
    rcases hn with rfl
    · exact xn_word⟩
  have KO : KindsOk K c_NoStep [(c_NoStep, true)] := fun p hp => by
    simp only [List.mem_cons, List.not_mem_nil, or_false] at hp
    rcases hp with rfl
    · exact ki_NoStep
  have T_is : ExcIs K c_NoStep := ⟨xcl, xga, xgg, xe, xca, xsp, xtk, xmo⟩
  have XF : XfC K c_NoStep := ⟨xga, xgg, xe, xh⟩
  have C__law_feed := ok__law_feed (P := P) (w := w) (base := base) (fun_mk (st := s__law_feed) l__law_feed c__law_feed k__law_feed) (PySem.W.mg_of X G a__law_feed)  B_list
  have C__law_draw := ok__law_draw (P := P) (w := w) (base := base) (fun_mk (st := s__law_draw) l__law_draw c__law_draw k__law_draw) (PySem.W.mg_of X G a__law_draw)  B_len
  have C__law_tree := ok__law_tree (P := P) (w := w) (base := base) (fun_mk (st := s__law_tree) l__law_tree c__law_tree k__law_tree) (PySem.W.mg_of X G a__law_tree) C__law_draw B_list B_range B_sorted B_tuple B_len
  have C__law_names := ok__law_names (P := P) (w := w) (base := base) (fun_mk (st := s__law_names) l__law_names c__law_names k__law_names) (PySem.W.mg_of X G a__law_names) C__law_draw B_range B_len
  have C__law_all_ways := ok__law_all_ways (P := P) (w := w) (base := base) (fun_mk (st := s__law_all_ways) l__law_all_ways c__law_all_ways k__law_all_ways) (PySem.W.mg_of X G a__law_all_ways)  B_dict
  have C_is_number := ok_is_number (P := P) (w := w) (base := base) (fun_mk (st := s_is_number) l_is_number c_is_number k_is_number) (PySem.W.mg_of X G a_is_number)  B_isinstance B_int B_bool
  have C_row_of := ok_row_of (P := P) (w := w) (base := base) (fun_mk (st := s_row_of) l_row_of c_row_of k_row_of) (PySem.W.mg_of X G a_row_of) T_exc C_is_number
  have C_kind_of := ok_kind_of (P := P) (w := w) (base := base) (fun_mk (st := s_kind_of) l_kind_of c_kind_of k_kind_of) (PySem.W.mg_of X G a_kind_of) T_exc C_row_of
  have C_holders := ok_holders (P := P) (w := w) (base := base) (fun_mk (st := s_holders) l_holders c_holders k_holders) (PySem.W.mg_of X G a_holders)
  have C_entries_of := ok_entries_of (P := P) (w := w) (base := base) (fun_mk (st := s_entries_of) l_entries_of c_entries_of k_entries_of) (PySem.W.mg_of X G a_entries_of) T_exc C_row_of
  have C_ways_to := ok_ways_to (P := P) (w := w) (base := base) (fun_mk (st := s_ways_to) l_ways_to c_ways_to k_ways_to) (PySem.W.mg_of X G a_ways_to) T_exc C_kind_of C_holders C_entries_of B_sorted B_tuple B_set M_TOP
  have C_above := ok_above (P := P) (w := w) (base := base) (fun_mk (st := s_above) l_above c_above k_above) (PySem.W.mg_of X G a_above) T_exc C_kind_of C_holders  M_TOP
  have C__law_told := ok__law_told (P := P) (w := w) (base := base) (fun_mk (st := s__law_told) l__law_told c__law_told k__law_told) (PySem.W.mg_of X G a__law_told) T_exc M_NoStep M_RunError hex KO T_is XF C_ways_to C_above B_isinstance
  have CD_way_through := okd_way_through (P := P) (w := w) (base := base) (fun_mk (st := s_way_through) l_way_through c_way_through k_way_through) (PySem.W.mg_of X G a_way_through) (kwd_of (n := 2) (l := [("top", .int 0 dt_way_through_top)]) (List.forall_mem_cons.mpr ⟨da_way_through_top, (fun _ h => nomatch h)⟩) (dfl_int Dfl.nil) rfl fun us hu => match us, hu with | [_, _], _ => ⟨_, _, _, _, _, _, rfl, rfl, rfl⟩) C_kind_of C_entries_of B_enumerate B_dict M_TOP
  have C_way_through := ok_way_through (P := P) (w := w) (base := base) (fun_mk (st := s_way_through) l_way_through c_way_through k_way_through) (PySem.W.mg_of X G a_way_through) C_kind_of C_entries_of B_enumerate B_dict M_TOP
  have C__law_right := ok__law_right (P := P) (w := w) (base := base) (fun_mk (st := s__law_right) l__law_right c__law_right k__law_right) (PySem.W.mg_of X G a__law_right) C__law_all_ways C__law_told C_way_through CD_way_through B_dict B_repr B_sorted B_tuple
  exact fn_law (fun_mk (st := s_law) l_law c_law k_law) C__law_feed C__law_tree C__law_names C__law_draw C__law_right B_range B_repr B_tuple
end
end K04
open PySem PySem.W PyProof.Rows
set_option maxHeartbeats 0 in
theorem PySem.Challenge.cw_drawerways_k04_ways_to_and_above_holds : PySem.Challenge.rw_drawerways_k04_ways_to_and_above.Holds := by
  w_on; o_law; k_head; (case hw => w_witness2)
  k_fill
  refine DL.walk_law (l := PySem.Challenge.rw_drawerways_k04_ways_to_and_above) (n := 63) (k := 33) (x := "_law_script") (sp := K04.sp_law) rfl (by decide) rfl ⟨rfl, by decide, by decide⟩ (fun w h Y => PySem.W.kIn_of Y) ?F (fun a hl => ⟨a, rfl, fun _ => rfl⟩)
  case F =>
    intro w mg fa h KX G hmg
    refine' K04.all_mk KX G hmg ?a__law_feed ?l__law_feed ?c__law_feed ?k__law_feed ?a__law_draw ?l__law_draw ?c__law_draw ?k__law_draw ?a__law_tree ?l__law_tree ?c__law_tree ?k__law_tree ?a__law_names ?l__law_names ?c__law_names ?k__law_names ?a__law_all_ways ?l__law_all_ways ?c__law_all_ways ?k__law_all_ways ?a_is_number ?l_is_number ?c_is_number ?k_is_number ?a_row_of ?l_row_of ?c_row_of ?k_row_of ?a_kind_of ?l_kind_of ?c_kind_of ?k_kind_of ?a_holders ?l_holders ?c_holders ?k_holders ?a_entries_of ?l_entries_of ?c_entries_of ?k_entries_of ?a_ways_to ?l_ways_to ?c_ways_to ?k_ways_to ?a_above ?l_above ?c_above ?k_above ?a__law_told ?l__law_told ?c__law_told ?k__law_told ?a_way_through ?l_way_through ?c_way_through ?k_way_through ?da_way_through_top ?a__law_right ?l__law_right ?c__law_right ?k__law_right ?a_law ?l_law ?c_law ?k_law ?y_TOP ?z_list ?z_len ?z_range ?z_sorted ?z_tuple ?z_dict ?z_isinstance ?z_int ?z_bool ?z_set ?z_enumerate ?z_repr ?ya_NoStep ?ya_RunError ?xL ?xB ?xsa ?xga ?xgg ?xn_word ?xi ?xt ?xl ?xc ?xkf ?xk ?xe ?xT ?xh ?xcl ?xca ?xsp ?xtk ?xmo ?bga ?bty ?brd ?bfi ?hex ?ki_NoStep
    (case a__law_feed => first | k_is | rfl)
    (case l__law_feed => first | k_is | rfl)
    (case c__law_feed => first | k_is | rfl)
    (case k__law_feed => first | k_is | rfl)
    (case a__law_draw => first | k_is | rfl)
    (case l__law_draw => first | k_is | rfl)
    (case c__law_draw => first | k_is | rfl)
    (case k__law_draw => first | k_is | rfl)
    (case a__law_tree => first | k_is | rfl)
    (case l__law_tree => first | k_is | rfl)
    (case c__law_tree => first | k_is | rfl)
    (case k__law_tree => first | k_is | rfl)
    (case a__law_names => first | k_is | rfl)
    (case l__law_names => first | k_is | rfl)
    (case c__law_names => first | k_is | rfl)
    (case k__law_names => first | k_is | rfl)
    (case a__law_all_ways => first | k_is | rfl)
    (case l__law_all_ways => first | k_is | rfl)
    (case c__law_all_ways => first | k_is | rfl)
    (case k__law_all_ways => first | k_is | rfl)
    (case a_is_number => first | k_is | rfl)
    (case l_is_number => first | k_is | rfl)
    (case c_is_number => first | k_is | rfl)
    (case k_is_number => first | k_is | rfl)
    (case a_row_of => first | k_is | rfl)
    (case l_row_of => first | k_is | rfl)
    (case c_row_of => first | k_is | rfl)
    (case k_row_of => first | k_is | rfl)
    (case a_kind_of => first | k_is | rfl)
    (case l_kind_of => first | k_is | rfl)
    (case c_kind_of => first | k_is | rfl)
    (case k_kind_of => first | k_is | rfl)
    (case a_holders => first | k_is | rfl)
    (case l_holders => first | k_is | rfl)
    (case c_holders => first | k_is | rfl)
    (case k_holders => first | k_is | rfl)
    (case a_entries_of => first | k_is | rfl)
    (case l_entries_of => first | k_is | rfl)
    (case c_entries_of => first | k_is | rfl)
    (case k_entries_of => first | k_is | rfl)
    (case a_ways_to => first | k_is | rfl)
    (case l_ways_to => first | k_is | rfl)
    (case c_ways_to => first | k_is | rfl)
    (case k_ways_to => first | k_is | rfl)
    (case a_above => first | k_is | rfl)
    (case l_above => first | k_is | rfl)
    (case c_above => first | k_is | rfl)
    (case k_above => first | k_is | rfl)
    (case a__law_told => first | k_is | rfl)
    (case l__law_told => first | k_is | rfl)
    (case c__law_told => first | k_is | rfl)
    (case k__law_told => first | k_is | rfl)
    (case a_way_through => first | k_is | rfl)
    (case l_way_through => first | k_is | rfl)
    (case c_way_through => first | k_is | rfl)
    (case k_way_through => first | k_is | rfl)
    (case da_way_through_top => first | k_is | rfl)
    (case a__law_right => first | k_is | rfl)
    (case l__law_right => first | k_is | rfl)
    (case c__law_right => first | k_is | rfl)
    (case k__law_right => first | k_is | rfl)
    (case a_law => first | k_is | rfl)
    (case l_law => first | k_is | rfl)
    (case c_law => first | k_is | rfl)
    (case k_law => first | k_is | rfl)
    (case y_TOP => first | k_is | rfl)
    (case z_list => first | k_is | rfl)
    (case z_len => first | k_is | rfl)
    (case z_range => first | k_is | rfl)
    (case z_sorted => first | k_is | rfl)
    (case z_tuple => first | k_is | rfl)
    (case z_dict => first | k_is | rfl)
    (case z_isinstance => first | k_is | rfl)
    (case z_int => first | k_is | rfl)
    (case z_bool => first | k_is | rfl)
    (case z_set => first | k_is | rfl)
    (case z_enumerate => first | k_is | rfl)
    (case z_repr => first | k_is | rfl)
    (case ya_NoStep => first | k_is | rfl)
    (case ya_RunError => first | k_is | rfl)
    (case xL => first | k_is | rfl)
    (case xB => first | k_is | rfl)
    (case xsa => first | k_is | rfl)
    (case xga => first | k_is | rfl)
    (case xgg => first | k_is | rfl)
    (case xn_word => first | k_is | rfl)
    (case xi => first | k_is | rfl)
    (case xt => first | k_is | rfl)
    (case xl => first | k_is | rfl)
    (case xc => first | k_is | rfl)
    (case xkf => first | k_is | rfl)
    (case xk => first | k_is | rfl)
    (case xe => first | k_is | rfl)
    (case xT => first | k_is | rfl)
    (case xh => first | k_is | rfl)
    (case xcl => first | k_is | rfl)
    (case xca => first | k_is | rfl)
    (case xsp => first | k_is | rfl)
    (case xtk => first | k_is | rfl)
    (case xmo => first | k_is | rfl)
    (case bga => first | k_is | rfl)
    (case bty => first | k_is | rfl)
    (case brd => first | k_is | rfl)
    (case bfi => first | k_is | rfl)
    (case hex => first | k_is | rfl)
    (case ki_NoStep => first | k_is | rfl)
