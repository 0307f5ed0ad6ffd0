import PyProof.Rows.All
import Wide.All
import OpenK.AllK
import Wide.FinOn
import HandS.ForMost
import HandS.Star
import HandS.Zip
import HandS.Conv
import HandS.IsInst
import HandS.Deep
import HandS.Defaults
import HandS.HeadHook2
import KE.KDictKeyed
import HandS.TupAny
import HandS.Style
import KE.GoesMore
import HandS.HeadHook3
import KE.KStateDown
import HandS.Ends
import HandS.More
import HandS.Words
import HandS.WordsExc
import HandS.Head0
import HandS.Head1
import HandS.Head2
import HandS.HeadEnd
import PySem.Challenge.RW_boxedmiddles_k15_products_of_knots
set_option Elab.async false
set_option linter.all false
set_option maxRecDepth 100000
set_option maxHeartbeats 4000000
/-! Python data as Lean data; what a frame's names hold; what owns what. -/
namespace B
open PySem PySem.Spec PyProof.Rows L2

/-- data: immutable (lists and dicts in it are never written again) -/
inductive D where
  | non | bl (b : Bool) | int (i : Int) | str (x : Str) | tup (xs : List D) | lst (xs : List D)
  | dk (kvs : List (Key × D)) | dn (kvs : List (NestedKey × D)) | obj (C : Str) (fs : List (Str × D))
  deriving Inhabited
/-- what a name holds: data, or an object of its own -/
inductive L where
  | dat (d : D) | lst (ds : List D) | dk (kvs : List (Key × D)) | dn (kvs : List (NestedKey × D)) | ins (C : Str) (fs : List (Str × D))
  deriving Inhabited
def L.view : L → D
  | .dat d => d
  | .lst ds => .lst ds
  | .dk kvs => .dk kvs
  | .dn kvs => .dn kvs
  | .ins C fs => .obj C fs

def Ex (H H' : Hp) : Prop := ∀ a o, H a = some o → H' a = some o
theorem Ex.refl (H : Hp) : Ex H H := fun _ _ h => h
theorem Ex.trans {H H1 H2 : Hp} (a : Ex H H1) (b : Ex H1 H2) : Ex H H2 := fun x o h => b x o (a x o h)
theorem Ex.new {H : Hp} {p : Addr} {o : HO} (h : H p = none) : Ex H (upd H p o) := fun a u e => by
  rw [upd_ne (ne_of_none e h)]; exact e
theorem Ex.free {H H' : Hp} (e : Ex H H') {a : Addr} (h : H' a = none) : H a = none := by
  cases q : H a with
  | none => rfl
  | some o => rw [e a o q] at h; cases h
theorem Ex.rd {H H' : Hp} {a : Addr} {u : HO} (e : Ex H H') (h : Rd H a u) : Rd H' a u := by
  rcases h with h | ⟨o, h⟩
  · exact .inl (e a _ h)
  · exact .inr ⟨o, e a _ h⟩
theorem Ex.sqL {K : PySem.W.Frag} {H H' : Hp} {a : Addr} {xs : List V} (e : Ex H H') (h : SqL K H a xs) : SqL K H' a xs := h.imp e.rd id
theorem Ex.sqT {K : PySem.W.Frag} {H H' : Hp} {a : Addr} {xs : List V} (e : Ex H H') (h : SqT K H a xs) : SqT K H' a xs := h.imp e.rd id

/-- an object whose one form is known -/
def isO (a : Addr) (o : Obj) : HO := .ext fun h => h.get? a = some o

/-! ### keys: nested tuples -/
mutual
inductive NKey (K : PySem.W.Frag) (F : Hp) : V → NestedKey → Prop
  | non : NKey K F .non .none
  | bl (b : Bool) : NKey K F (.bl b) (.num (if b = true then 1 else 0))
  | int (i : Int) : NKey K F (.int i) (.num i)
  | str (x : Str) : NKey K F (.str x) (.text x)
  | tup {a : Addr} {xs : List V} {ks : List NestedKey} : SqT K F a xs → NKeys K F xs ks → NKey K F (.ref a) (.tup ks)
inductive NKeys (K : PySem.W.Frag) (F : Hp) : List V → List NestedKey → Prop
  | nil : NKeys K F [] []
  | cons {v : V} {vs : List V} {k : NestedKey} {ks : List NestedKey} : NKey K F v k → NKeys K F vs ks → NKeys K F (v :: vs) (k :: ks)
end
mutual
theorem NKey.mono {K : PySem.W.Frag} {F F' : Hp} (e : Ex F F') : ∀ (k : NestedKey) (v : V), NKey K F v k → NKey K F' v k
  | .none, _, h => by cases h; exact .non
  | .num _, _, h => by
    cases h with
    | bl b => exact .bl b
    | int => exact .int _
  | .text x, _, h => by cases h; exact .str x
  | .tup ks, _, h => by
    cases h with
    | tup h1 h2 => exact .tup (e.sqT h1) (NKeys.mono e ks _ h2)
theorem NKeys.mono {K : PySem.W.Frag} {F F' : Hp} (e : Ex F F') : ∀ (ks : List NestedKey) (vs : List V), NKeys K F vs ks → NKeys K F' vs ks
  | [], _, h => by cases h; exact .nil
  | k :: ks, _, h => by
    cases h with
    | cons h1 h2 => exact .cons (NKey.mono e k _ h1) (NKeys.mono e ks _ h2)
end
section
variable {X : Cx} {pins : List (Addr × Obj)} {σ : L2.St} {H : Hp} {s : Shared}
mutual
theorem NKey.nested (I : Inv X pins σ H s) : ∀ (k : NestedKey) (v : V) (u : Value), NKey X.K H v k → RelV v u → NestedIs s.heap k u
  | .none, _, _, h, r => by
    cases h; cases r; exact .none
  | .num _, _, _, h, r => by
    cases h with
    | bl b => cases r; exact .bool rfl
    | int => obtain ⟨t, rfl⟩ := r; exact .int _ _
  | .text x, _, _, h, r => by
    cases h; obtain ⟨t, rfl⟩ := r; exact .text _ _
  | .tup ks, _, _, h, r => by
    cases h with
    | tup h1 h2 =>
      cases r
      obtain ⟨its, rv, ⟨o, ho, hc, n, hd⟩, _⟩ := I.tuple h1
      exact .tup ho hc hd (NKeys.nested I ks _ _ h2 (by simpa using rv))
theorem NKeys.nested (I : Inv X pins σ H s) : ∀ (ks : List NestedKey) (vs : List V) (us : List Value), NKeys X.K H vs ks → Vals vs us → NestedAll s.heap ks us
  | [], _, _, h, r => by
    cases h; cases r; exact .nil
  | k :: ks, _, _, h, r => by
    cases h with
    | cons h1 h2 =>
      cases r with
      | cons r1 r2 => exact .cons (NKey.nested I k _ _ h1 r1) (NKeys.nested I ks _ _ h2 r2)
end
end

/-! ### a dict with nested keys: its object is known, its keys are in F -/
def DnAt (P : Program) (w : World) (K : PySem.W.Frag) (F H : Hp) (a : Addr) (kvs : List (NestedKey × V)) : Prop :=
  ∃ (o : Obj) (es : Array DictEntry) (ep : Nat) (xs : List (NestedKey × Addr × Value)),
    H a = some (isO a o) ∧ o.ExactDict ∧ o.data = .dict es ep ∧ es.toList = xs.map (entryOfKey (nestedKind P w)) ∧ (xs.map (·.1)).Nodup ∧ (a == sysModules) = false ∧ kvs.length ≤ sizeLine ∧
    Paired (fun (p : NestedKey × V) (q : NestedKey × Addr × Value) => p.1 = q.1 ∧ NKey K F (.ref q.2.1) p.1 ∧ p.1.depth ≤ 8 ∧ RelV p.2 q.2.2) kvs xs
theorem DnAt.mono {P : Program} {w : World} {K : PySem.W.Frag} {F F' H H' : Hp} {a : Addr} {kvs : List (NestedKey × V)} (e : Ex F F') (ha : H' a = H a) (h : DnAt P w K F H a kvs) : DnAt P w K F' H' a kvs := by
  obtain ⟨o, es, ep, xs, h1, h2, h3, h4, h5, h6, h7, h8⟩ := h
  exact ⟨o, es, ep, xs, by rw [ha]; exact h1, h2, h3, h4, h5, h6, h7, Paired.mapP h8 fun p q z => ⟨z.1, NKey.mono e _ _ z.2.1, z.2.2⟩⟩

/-- a table of the module: a written dict with int and text keys -/
def KTab (P : Program) (w : World) (K : PySem.W.Frag) (a : Addr) (ws : List (Key × V)) : Prop :=
  ∃ (es : Array DictEntry) (n : Nat) (us : List (Key × Value)), K.lookup a = some ⟨.type "dict", none, .dict es n, #[]⟩ ∧ KeysOf (mixKind P w) es ∧ Pairs (mixKind P w) es.toList us ∧ (us.map (·.1)).Nodup ∧ KV ws us ∧ (a == sysModules) = false ∧ ws.length ≤ sizeLine
def DkAt (P : Program) (w : World) (K : PySem.W.Frag) (F : Hp) (a : Addr) (ws : List (Key × V)) : Prop := F a = some (.dK ws) ∨ KTab P w K a ws
theorem DkAt.mono {P : Program} {w : World} {K : PySem.W.Frag} {F F' : Hp} {a : Addr} {ws : List (Key × V)} (e : Ex F F') (h : DkAt P w K F a ws) : DkAt P w K F' a ws := h.imp (e _ _) id
theorem DkAt.dict {X : Cx} {pins : List (Addr × Obj)} {σ : L2.St} {H : Hp} {s : Shared} {a : Addr} {ws : List (Key × V)} (I : Inv X pins σ H s) (h : DkAt X.prog X.w X.K H a ws) :
    ws.length ≤ sizeLine ∧ (a == sysModules) = false ∧ ∃ vs, KV ws vs ∧ s.heap.DictOf (mixKind X.prog X.w) a vs := by
  rcases h with h | ⟨es, n, us, h1, h2, h3, h4, h5, h6, h7⟩
  · exact dk_rd I.hok (.inl h)
  · exact ⟨h7, h6, us, h5, _, es, n, I.kIn a _ h1, ⟨rfl, rfl, rfl⟩, rfl, h2, h3, h4⟩

/-! ### data in a heap -/
mutual
inductive Dat (P : Program) (w : World) (K : PySem.W.Frag) (F : Hp) : V → D → Prop
  | non : Dat P w K F .non .non
  | bl (b : Bool) : Dat P w K F (.bl b) (.bl b)
  | int (i : Int) : Dat P w K F (.int i) (.int i)
  | str (x : Str) : Dat P w K F (.str x) (.str x)
  | tup {a : Addr} {xs : List V} {ds : List D} : SqT K F a xs → DatL P w K F xs ds → Dat P w K F (.ref a) (.tup ds)
  | lst {a : Addr} {xs : List V} {ds : List D} : SqL K F a xs → DatL P w K F xs ds → Dat P w K F (.ref a) (.lst ds)
  | dk {a : Addr} {ws : List (Key × V)} {kvs : List (Key × D)} : DkAt P w K F a ws → ws.map (·.1) = kvs.map (·.1) → DatL P w K F (ws.map (·.2)) (kvs.map (·.2)) → Dat P w K F (.ref a) (.dk kvs)
  | dn {a : Addr} {ws : List (NestedKey × V)} {kvs : List (NestedKey × D)} : DnAt P w K F F a ws → ws.map (·.1) = kvs.map (·.1) → DatL P w K F (ws.map (·.2)) (kvs.map (·.2)) → Dat P w K F (.ref a) (.dn kvs)
  | obj {a dx : Addr} {C : Str} {ws : List (Str × V)} {fs : List (Str × D)} : F a = some (.ins (He.ga K C) dx ws) → ws.map (·.1) = fs.map (·.1) → DatL P w K F (ws.map (·.2)) (fs.map (·.2)) → Dat P w K F (.ref a) (.obj C fs)
inductive DatL (P : Program) (w : World) (K : PySem.W.Frag) (F : Hp) : List V → List D → Prop
  | nil : DatL P w K F [] []
  | cons {v : V} {vs : List V} {d : D} {ds : List D} : Dat P w K F v d → DatL P w K F vs ds → DatL P w K F (v :: vs) (d :: ds)
end
section
variable {P : Program} {w : World} {K : PySem.W.Frag} {F F' : Hp}
theorem Dat.mono (e : Ex F F') {v : V} {d : D} (h : Dat P w K F v d) : Dat P w K F' v d := by
  refine Dat.rec (motive_1 := fun v d _ => Dat P w K F' v d) (motive_2 := fun vs ds _ => DatL P w K F' vs ds) ?_ ?_ ?_ ?_ ?_ ?_ ?_ ?_ ?_ ?_ ?_ h
  · exact .non
  · exact fun b => .bl b
  · exact fun i => .int i
  · exact fun x => .str x
  · exact fun h1 _ h2 => .tup (e.sqT h1) h2
  · exact fun h1 _ h2 => .lst (e.sqL h1) h2
  · exact fun h1 h2 _ h3 => .dk (h1.mono e) h2 h3
  · intro a ws kvs h1 h2 _ h3
    refine .dn (h1.mono e ?_) h2 h3
    obtain ⟨o, _, _, _, q, _⟩ := h1
    rw [q, e _ _ q]
  · exact fun h1 h2 _ h3 => .obj (e _ _ h1) h2 h3
  · exact .nil
  · exact fun _ _ h1 h2 => .cons h1 h2
theorem DatL.mono (e : Ex F F') : ∀ {vs : List V} {ds : List D}, DatL P w K F vs ds → DatL P w K F' vs ds
  | _, _, .nil => .nil
  | _, _, .cons h t => .cons (h.mono e) (DatL.mono e t)
theorem DatL.length : ∀ {vs : List V} {ds : List D}, DatL P w K F vs ds → vs.length = ds.length
  | _, _, .nil => rfl
  | _, _, .cons _ t => congrArg Nat.succ (DatL.length t)
theorem DatL.get : ∀ {vs : List V} {ds : List D}, DatL P w K F vs ds → ∀ {i : Nat} {d : D}, ds[i]? = some d → ∃ v, vs[i]? = some v ∧ Dat P w K F v d
  | _, _, .nil, i, d, e => by simp at e
  | _, _, .cons h t, 0, d, e => by simp at e; subst e; exact ⟨_, rfl, h⟩
  | _, _, .cons h t, i + 1, d, e => by
    obtain ⟨v, h1, h2⟩ := DatL.get t (i := i) (d := d) (by simpa using e)
    exact ⟨v, by simpa using h1, h2⟩
theorem DatL.get' : ∀ {vs : List V} {ds : List D}, DatL P w K F vs ds → ∀ {i : Nat} {v : V}, vs[i]? = some v → ∃ d, ds[i]? = some d ∧ Dat P w K F v d
  | _, _, .nil, i, v, e => by simp at e
  | _, _, .cons h t, 0, v, e => by simp at e; subst e; exact ⟨_, rfl, h⟩
  | _, _, .cons h t, i + 1, v, e => by
    obtain ⟨d, h1, h2⟩ := DatL.get' t (i := i) (v := v) (by simpa using e)
    exact ⟨d, by simpa using h1, h2⟩
theorem DatL.append : ∀ {vs us : List V} {ds es : List D}, DatL P w K F vs ds → DatL P w K F us es → DatL P w K F (vs ++ us) (ds ++ es)
  | _, _, _, _, .nil, h => h
  | _, _, _, _, .cons h t, h' => .cons h (DatL.append t h')
theorem DatL.take : ∀ {vs : List V} {ds : List D} (n : Nat), DatL P w K F vs ds → DatL P w K F (vs.take n) (ds.take n)
  | _, _, 0, _ => .nil
  | _, _, _ + 1, .nil => .nil
  | _, _, n + 1, .cons h t => .cons h (DatL.take n t)
theorem DatL.drop : ∀ {vs : List V} {ds : List D} (n : Nat), DatL P w K F vs ds → DatL P w K F (vs.drop n) (ds.drop n)
  | _, _, 0, h => h
  | _, _, _ + 1, .nil => .nil
  | _, _, n + 1, .cons h t => DatL.drop n t
theorem DatL.rev : ∀ {vs : List V} {ds : List D}, DatL P w K F vs ds → DatL P w K F vs.reverse ds.reverse
  | _, _, .nil => .nil
  | _, _, .cons h t => by
    rw [List.reverse_cons, List.reverse_cons]
    exact (DatL.rev t).append (.cons h .nil)
theorem DatL.dropLast {vs : List V} {ds : List D} (h : DatL P w K F vs ds) : DatL P w K F vs.dropLast ds.dropLast := by
  rw [List.dropLast_eq_take, List.dropLast_eq_take, h.length]
  exact h.take _
theorem DatL.set : ∀ {vs : List V} {ds : List D} (i : Nat) {v : V} {d : D}, DatL P w K F vs ds → Dat P w K F v d → DatL P w K F (vs.set i v) (ds.set i d)
  | _, _, _, _, _, .nil, _ => .nil
  | _, _, 0, _, _, .cons _ t, q => .cons q t
  | _, _, i + 1, _, _, .cons h t, q => .cons h (DatL.set i t q)
theorem DatL.ints {F : Hp} : ∀ ns : List Int, DatL P w K F (ns.map V.int) (ns.map D.int)
  | [] => .nil
  | n :: ns => .cons (.int n) (DatL.ints ns)
end

/-! ### what a name holds, and where it lies -/
section
variable (P : Program) (w : World) (K : PySem.W.Frag) (F H : Hp)
def HasL (v : V) : L → List Addr → Prop
  | .dat d, as => as = [] ∧ Dat P w K F v d
  | .lst ds, as => ∃ a xs, v = .ref a ∧ as = [a] ∧ H a = some (.lst xs) ∧ DatL P w K F xs ds
  | .dk kvs, as => ∃ a ws, v = .ref a ∧ as = [a] ∧ H a = some (.dK ws) ∧ ws.map (·.1) = kvs.map (·.1) ∧ DatL P w K F (ws.map (·.2)) (kvs.map (·.2))
  | .dn kvs, as => ∃ a ws, v = .ref a ∧ as = [a] ∧ DnAt P w K F H a ws ∧ ws.map (·.1) = kvs.map (·.1) ∧ DatL P w K F (ws.map (·.2)) (kvs.map (·.2))
  | .ins C fs, as => ∃ a dx ws, v = .ref a ∧ as = [a, dx] ∧ H a = some (.ins (He.ga K C) dx ws) ∧ H dx = some (.own a) ∧ ws.map (·.1) = fs.map (·.1) ∧ DatL P w K F (ws.map (·.2)) (fs.map (·.2))
/-- seen: data, or an object that some name owns -/
inductive View : V → D → Prop
  | dat {v d} : Dat P w K F v d → View v d
  | lst {a xs ds} : H a = some (.lst xs) → DatL P w K F xs ds → View (.ref a) (.lst ds)
  | dk {a ws kvs} : H a = some (.dK ws) → ws.map (·.1) = kvs.map (·.1) → DatL P w K F (ws.map (·.2)) (kvs.map (·.2)) → View (.ref a) (.dk kvs)
  | dn {a ws kvs} : DnAt P w K F H a ws → ws.map (·.1) = kvs.map (·.1) → DatL P w K F (ws.map (·.2)) (kvs.map (·.2)) → View (.ref a) (.dn kvs)
  | obj {a dx C ws fs} : H a = some (.ins (He.ga K C) dx ws) → ws.map (·.1) = fs.map (·.1) → DatL P w K F (ws.map (·.2)) (fs.map (·.2)) → View (.ref a) (.obj C fs)
/-- F: data; G: what others hold; g: the names; ow: where a name's own objects lie -/
structure Rel (G : Hp) (g : List (Option L)) (σ : L2.St) (ow : Nat → List Addr) : Prop where
  ex : Ex F H
  exG : Ex G H
  fg : ∀ a, F a ≠ none → G a = none
  get : ∀ i l, g[i]? = some (some l) → ∃ v, σ[i]? = some (some v) ∧ HasL P w K F H v l (ow i)
  off : ∀ i, (∀ l, g[i]? ≠ some (some l)) → ow i = []
  sep : ∀ i j a, a ∈ ow i → a ∈ ow j → i = j
  out : ∀ i a, a ∈ ow i → F a = none ∧ G a = none
  len : g.length = σ.length
/-- the places ad are nobody else's -/
def Apart (G : Hp) (ow : Nat → List Addr) (ad : List Addr) : Prop := ∀ a ∈ ad, F a = none ∧ G a = none ∧ ∀ j, a ∉ ow j
end
section
variable {P : Program} {w : World} {K : PySem.W.Frag} {F F' G H H' : Hp} {g : List (Option L)} {σ : L2.St} {ow : Nat → List Addr} {v : V} {l : L} {d : D} {ad : List Addr}
theorem HasL.some (h : HasL P w K F H v l ad) : ∀ a ∈ ad, H a ≠ none := by
  intro a ha
  cases l with
  | dat d => obtain ⟨e, _⟩ := h; subst e; cases ha
  | lst ds => obtain ⟨b, xs, _, e, q, _⟩ := h; subst e; cases List.mem_singleton.mp ha; rw [q]; simp
  | dk kvs => obtain ⟨b, ws, _, e, q, _⟩ := h; subst e; cases List.mem_singleton.mp ha; rw [q]; simp
  | dn kvs => obtain ⟨b, ws, _, e, ⟨_, _, _, _, q, _⟩, _⟩ := h; subst e; cases List.mem_singleton.mp ha; rw [q]; simp
  | ins C fs =>
    obtain ⟨b, dx, ws, _, e, q, q2, _⟩ := h; subst e
    rcases List.mem_cons.mp ha with e | ha
    · rw [e, q]; simp
    · cases List.mem_singleton.mp ha; rw [q2]; simp
theorem HasL.mono (e : Ex F F') (hk : ∀ a ∈ ad, H' a = H a) (h : HasL P w K F H v l ad) : HasL P w K F' H' v l ad := by
  cases l with
  | dat d => exact ⟨h.1, h.2.mono e⟩
  | lst ds => obtain ⟨b, xs, h1, h2, h3, h4⟩ := h; exact ⟨b, xs, h1, h2, by rw [hk b (by simp [h2])]; exact h3, h4.mono e⟩
  | dk kvs => obtain ⟨b, ws, h1, h2, h3, h4, h5⟩ := h; exact ⟨b, ws, h1, h2, by rw [hk b (by simp [h2])]; exact h3, h4, h5.mono e⟩
  | dn kvs => obtain ⟨b, ws, h1, h2, h3, h4, h5⟩ := h; exact ⟨b, ws, h1, h2, h3.mono e (hk b (by simp [h2])), h4, h5.mono e⟩
  | ins C fs =>
    obtain ⟨b, dx, ws, h1, h2, h3, h4, h5, h6⟩ := h
    exact ⟨b, dx, ws, h1, h2, by rw [hk b (by simp [h2])]; exact h3, by rw [hk dx (by simp [h2])]; exact h4, h5, h6.mono e⟩
theorem HasL.view (h : HasL P w K F H v l ad) : View P w K F H v l.view := by
  cases l with
  | dat d => exact .dat h.2
  | lst ds => obtain ⟨b, xs, rfl, _, h3, h4⟩ := h; exact .lst h3 h4
  | dk kvs => obtain ⟨b, ws, rfl, _, h3, h4, h5⟩ := h; exact .dk h3 h4 h5
  | dn kvs => obtain ⟨b, ws, rfl, _, h3, h4, h5⟩ := h; exact .dn h3 h4 h5
  | ins C fs => obtain ⟨b, dx, ws, rfl, _, h3, _, h5, h6⟩ := h; exact .obj h3 h5 h6
/-- only new addresses come to the data -/
structure Grow (F H F' H' : Hp) : Prop where
  f : Ex F F'
  h : Ex H H'
  fh : Ex F' H'
  new : ∀ a, F a = none → F' a ≠ none → H a = none
theorem Grow.refl (e : Ex F H) : Grow F H F H := ⟨Ex.refl _, Ex.refl _, e, fun a h h' => absurd h h'⟩
theorem Grow.put {p : Addr} {o : HO} (e : Ex F H) (hp : H p = none) : Grow F H (upd F p o) (upd H p o) := by
  refine ⟨Ex.new (e.free hp), Ex.new hp, fun a u q => ?_, fun a h h' => ?_⟩
  · by_cases ha : a = p
    · subst ha; rw [upd_same] at q ⊢; exact q
    · rw [upd_ne ha] at q ⊢; exact e a u q
  · by_cases ha : a = p
    · subst ha; exact hp
    · rw [upd_ne ha] at h'; exact absurd h h'
theorem Rel.grow (R : Rel P w K F H G g σ ow) (q : Grow F H F' H') : Rel P w K F' H' G g σ ow := by
  have keep : ∀ i a, a ∈ ow i → H' a = H a := fun i a ha => by
    by_cases hx : ∃ l, g[i]? = some (some l)
    · obtain ⟨l, e⟩ := hx
      obtain ⟨v, _, hl⟩ := R.get i l e
      cases z : H a with
      | none => exact absurd z (hl.some a ha)
      | some o => exact q.h a o z
    · rw [R.off i fun l e => hx ⟨l, e⟩] at ha; cases ha
  have notnew : ∀ i a, a ∈ ow i → F' a = none := fun i a ha => by
    cases z : F' a with
    | none => rfl
    | some o =>
      have hn := q.new a (R.out i a ha).1 (by rw [z]; simp)
      by_cases hx : ∃ l, g[i]? = some (some l)
      · obtain ⟨l, e⟩ := hx
        obtain ⟨v, _, hl⟩ := R.get i l e
        exact absurd hn (hl.some a ha)
      · rw [R.off i fun l e => hx ⟨l, e⟩] at ha; cases ha
  refine ⟨q.fh, R.exG.trans q.h, fun a ha => ?_, fun i l e => ?_, R.off, R.sep, fun i a ha => ⟨notnew i a ha, (R.out i a ha).2⟩, R.len⟩
  · by_cases z : F a = none
    · exact R.exG.free (q.new a z ha)
    · exact R.fg a z
  · obtain ⟨v, h1, h2⟩ := R.get i l e
    exact ⟨v, h1, h2.mono q.f fun a ha => keep i a ha⟩
/-- an own object comes: its address is new -/
theorem Rel.own {p : Addr} {o : HO} (R : Rel P w K F H G g σ ow) (hp : H p = none) : Rel P w K F (upd H p o) G g σ ow :=
  ⟨R.ex.trans (Ex.new hp), R.exG.trans (Ex.new hp), R.fg, fun i l e => by
    obtain ⟨v, h1, h2⟩ := R.get i l e
    exact ⟨v, h1, h2.mono (Ex.refl _) fun a ha => upd_ne fun z => h2.some a ha (by rw [z]; exact hp)⟩, R.off, R.sep, R.out, R.len⟩
theorem Rel.free {p : Addr} (R : Rel P w K F H G g σ ow) (hp : H p = none) : F p = none ∧ G p = none ∧ ∀ j, p ∉ ow j := by
  refine ⟨R.ex.free hp, R.exG.free hp, fun j hj => ?_⟩
  by_cases hx : ∃ l, g[j]? = some (some l)
  · obtain ⟨l, e⟩ := hx
    obtain ⟨v, _, hl⟩ := R.get j l e
    exact hl.some p hj hp
  · rw [R.off j fun l e => hx ⟨l, e⟩] at hj; cases hj
theorem Rel.apart1 {p : Addr} (R : Rel P w K F H G g σ ow) (hp : H p = none) : Apart F G ow [p] := fun a ha => by
  cases List.mem_singleton.mp ha; exact R.free hp

/-- the objects at ad become data -/
def froz (F H : Hp) (ad : List Addr) : Hp := fun a => if a ∈ ad then H a else F a
theorem froz_in {a : Addr} (h : a ∈ ad) : froz F H ad a = H a := if_pos h
theorem froz_out {a : Addr} (h : a ∉ ad) : froz F H ad a = F a := if_neg h
theorem froz_ex (h : ∀ a ∈ ad, F a = none) : Ex F (froz F H ad) := fun a o e => by
  by_cases ha : a ∈ ad
  · rw [h a ha] at e; cases e
  · rw [froz_out ha]; exact e
theorem froz_sub (e : Ex F H) : Ex (froz F H ad) H := fun a o q => by
  by_cases ha : a ∈ ad
  · rw [froz_in ha] at q; exact q
  · rw [froz_out ha] at q; exact e a o q
theorem HasL.froz (hf : ∀ a ∈ ad, F a = none) (h : HasL P w K F H v l ad) : Dat P w K (froz F H ad) v l.view := by
  have e := froz_ex (H := H) hf
  cases l with
  | dat d => exact h.2.mono e
  | lst ds =>
    obtain ⟨b, xs, rfl, h2, h3, h4⟩ := h
    exact .lst (.inl (.inl (by rw [froz_in (by simp [h2])]; exact h3))) (h4.mono e)
  | dk kvs =>
    obtain ⟨b, ws, rfl, h2, h3, h4, h5⟩ := h
    exact .dk (.inl (by rw [froz_in (by simp [h2])]; exact h3)) h4 (h5.mono e)
  | dn kvs =>
    obtain ⟨b, ws, rfl, h2, h3, h4, h5⟩ := h
    exact .dn (h3.mono e (froz_in (by simp [h2]))) h4 (h5.mono e)
  | ins C fs =>
    obtain ⟨b, dx, ws, rfl, h2, h3, h4, h5, h6⟩ := h
    exact .obj (by rw [froz_in (by simp [h2])]; exact h3) h5 (h6.mono e)
/-- a value's own objects become data -/
theorem Rel.froz (R : Rel P w K F H G g σ ow) (h : HasL P w K F H v l ad) (ap : Apart F G ow ad) : Rel P w K (froz F H ad) H G g σ ow ∧ Ex F (B.froz F H ad) ∧ Dat P w K (B.froz F H ad) v l.view := by
  have hf : ∀ a ∈ ad, F a = none := fun a ha => (ap a ha).1
  refine ⟨⟨froz_sub R.ex, R.exG, fun a ha => ?_, fun i l' e => ?_, R.off, R.sep, fun i a ha => ⟨?_, (R.out i a ha).2⟩, R.len⟩, froz_ex hf, h.froz hf⟩
  · by_cases z : a ∈ ad
    · exact (ap a z).2.1
    · rw [froz_out z] at ha; exact R.fg a ha
  · obtain ⟨v', h1, h2⟩ := R.get i l' e
    exact ⟨v', h1, h2.mono (froz_ex hf) fun _ _ => rfl⟩
  · rw [froz_out fun z => (ap a z).2.2 i ha]; exact (R.out i a ha).1
/-- a name's own objects become data -/
theorem Rel.freeze {i : Nat} (R : Rel P w K F H G g σ ow) (e : g[i]? = some (some l)) : ∃ F' ow', Rel P w K F' H G (g.set i (some (.dat l.view))) σ ow' ∧ Ex F F' ∧ ∃ v, σ[i]? = some (some v) ∧ Dat P w K F' v l.view := by
  obtain ⟨v, hv, hl⟩ := R.get i l e
  have hf : ∀ a ∈ ow i, F a = none := fun a ha => (R.out i a ha).1
  have hi : i < g.length := (List.getElem?_eq_some_iff.mp e).1
  refine ⟨B.froz F H (ow i), fun j => if j = i then [] else ow j, ⟨froz_sub R.ex, R.exG, fun a ha => ?_, fun j l' e' => ?_, fun j hj => ?_, fun j k a h1 h2 => ?_, fun j a ha => ?_, by rw [List.length_set]; exact R.len⟩, froz_ex hf, v, hv, hl.froz hf⟩
  · by_cases z : a ∈ ow i
    · exact (R.out i a z).2
    · rw [froz_out z] at ha; exact R.fg a ha
  · by_cases hj : j = i
    · subst hj
      rw [List.getElem?_set_self hi] at e'
      cases e'
      exact ⟨v, hv, by simp only [if_pos rfl]; exact ⟨rfl, hl.froz hf⟩⟩
    · rw [List.getElem?_set_ne (Ne.symm hj)] at e'
      obtain ⟨v', h1, h2⟩ := R.get j l' e'
      exact ⟨v', h1, by simp only [if_neg hj]; exact h2.mono (froz_ex hf) fun _ _ => rfl⟩
  · by_cases hji : j = i
    · simp only [if_pos hji]
    · simp only [if_neg hji]
      exact R.off j fun l' e' => hj l' (by rw [List.getElem?_set_ne (Ne.symm hji)]; exact e')
  · by_cases hj : j = i
    · simp only [if_pos hj] at h1; cases h1
    · by_cases hk : k = i
      · simp only [if_pos hk] at h2; cases h2
      · simp only [if_neg hj] at h1; simp only [if_neg hk] at h2
        exact R.sep j k a h1 h2
  · by_cases hj : j = i
    · simp only [if_pos hj] at ha; cases ha
    · simp only [if_neg hj] at ha
      exact ⟨by rw [froz_out fun z => hj (R.sep j i a ha z)]; exact (R.out j a ha).1, (R.out j a ha).2⟩
/-- a name gives its object away -/
theorem Rel.move {i : Nat} (R : Rel P w K F H G g σ ow) (e : g[i]? = some (some l)) : ∃ v, σ[i]? = some (some v) ∧ HasL P w K F H v l (ow i) ∧ Rel P w K F H G (g.set i none) σ (fun j => if j = i then [] else ow j) ∧ Apart F G (fun j => if j = i then [] else ow j) (ow i) := by
  obtain ⟨v, hv, hl⟩ := R.get i l e
  have hi : i < g.length := (List.getElem?_eq_some_iff.mp e).1
  refine ⟨v, hv, hl, ⟨R.ex, R.exG, R.fg, fun j l' e' => ?_, fun j hj => ?_, fun j k a h1 h2 => ?_, fun j a ha => ?_, by rw [List.length_set]; exact R.len⟩, fun a ha => ⟨(R.out i a ha).1, (R.out i a ha).2, fun j hj => ?_⟩⟩
  · by_cases hj : j = i
    · subst hj; rw [List.getElem?_set_self hi] at e'; cases e'
    · rw [List.getElem?_set_ne (Ne.symm hj)] at e'
      obtain ⟨v', h1, h2⟩ := R.get j l' e'
      exact ⟨v', h1, by simp only [if_neg hj]; exact h2⟩
  · by_cases hji : j = i
    · simp only [if_pos hji]
    · simp only [if_neg hji]
      exact R.off j fun l' e' => hj l' (by rw [List.getElem?_set_ne (Ne.symm hji)]; exact e')
  · by_cases hj : j = i
    · simp only [if_pos hj] at h1; cases h1
    · by_cases hk : k = i
      · simp only [if_pos hk] at h2; cases h2
      · simp only [if_neg hj] at h1; simp only [if_neg hk] at h2
        exact R.sep j k a h1 h2
  · by_cases hj : j = i
    · simp only [if_pos hj] at ha; cases ha
    · simp only [if_neg hj] at ha; exact R.out j a ha
  · by_cases hji : j = i
    · simp only [if_pos hji] at hj; cases hj
    · simp only [if_neg hji] at hj
      exact hji (R.sep j i a hj ha)
/-- a name takes a value -/
theorem Rel.store {i : Nat} (R : Rel P w K F H G g σ ow) (hi : i < g.length) (h : HasL P w K F H v l ad) (ap : Apart F G ow ad) : Rel P w K F H G (g.set i (some l)) (σ.set i (some v)) (fun j => if j = i then ad else ow j) := by
  have hσ : i < σ.length := by rw [← R.len]; exact hi
  refine ⟨R.ex, R.exG, R.fg, fun j l' e' => ?_, fun j hj => ?_, fun j k a h1 h2 => ?_, fun j a ha => ?_, by rw [List.length_set, List.length_set]; exact R.len⟩
  · by_cases hj : j = i
    · subst hj
      rw [List.getElem?_set_self hi] at e'
      cases e'
      exact ⟨v, List.getElem?_set_self hσ, by simp only [if_pos rfl]; exact h⟩
    · rw [List.getElem?_set_ne (Ne.symm hj)] at e'
      obtain ⟨v', h1, h2⟩ := R.get j l' e'
      exact ⟨v', by rw [List.getElem?_set_ne (Ne.symm hj)]; exact h1, by simp only [if_neg hj]; exact h2⟩
  · by_cases hji : j = i
    · subst hji
      exact absurd (List.getElem?_set_self hi) (hj l)
    · simp only [if_neg hji]
      exact R.off j fun l' e' => hj l' (by rw [List.getElem?_set_ne (Ne.symm hji)]; exact e')
  · by_cases hj : j = i
    · by_cases hk : k = i
      · rw [hj, hk]
      · simp only [if_pos hj] at h1; simp only [if_neg hk] at h2
        exact absurd h2 ((ap a h1).2.2 k)
    · by_cases hk : k = i
      · simp only [if_neg hj] at h1; simp only [if_pos hk] at h2
        exact absurd h1 ((ap a h2).2.2 j)
      · simp only [if_neg hj] at h1; simp only [if_neg hk] at h2
        exact R.sep j k a h1 h2
  · by_cases hj : j = i
    · simp only [if_pos hj] at ha; exact ⟨(ap a ha).1, (ap a ha).2.1⟩
    · simp only [if_neg hj] at ha; exact R.out j a ha
/-- a name's own object is changed -/
theorem Rel.change {i : Nat} {l' : L} {a : Addr} {o : HO} (R : Rel P w K F H G g σ ow) (e : g[i]? = some (some l)) (ha : a ∈ ow i) (hl : ∀ v, σ[i]? = some (some v) → HasL P w K F H v l (ow i) → HasL P w K F (upd H a o) v l' (ow i)) :
    Rel P w K F (upd H a o) G (g.set i (some l')) σ ow := by
  have hi : i < g.length := (List.getElem?_eq_some_iff.mp e).1
  obtain ⟨v, hv, hvl⟩ := R.get i l e
  refine ⟨fun b u q => ?_, fun b u q => ?_, R.fg, fun j k e' => ?_, fun j hj => ?_, R.sep, R.out, by rw [List.length_set]; exact R.len⟩
  · rw [upd_ne fun z => by rw [z, (R.out i a ha).1] at q; cases q]; exact R.ex b u q
  · rw [upd_ne fun z => by rw [z, (R.out i a ha).2] at q; cases q]; exact R.exG b u q
  · by_cases hj : j = i
    · subst hj
      rw [List.getElem?_set_self hi] at e'
      cases e'
      exact ⟨v, hv, hl v hv hvl⟩
    · rw [List.getElem?_set_ne (Ne.symm hj)] at e'
      obtain ⟨v', h1, h2⟩ := R.get j k e'
      exact ⟨v', h1, h2.mono (Ex.refl _) fun b hb => upd_ne fun z => hj (R.sep j i a (z ▸ hb) ha)⟩
  · refine R.off j fun k e' => ?_
    by_cases hji : j = i
    · subst hji; exact hj l' (List.getElem?_set_self hi)
    · exact hj k (by rw [List.getElem?_set_ne (Ne.symm hji)]; exact e')
theorem Apart.nil : Apart F G ow [] := fun _ h => by cases h
/-- a view's list, tuple -/
theorem View.lstOf {ds : List D} (e : Ex F H) (h : View P w K F H v (.lst ds)) : ∃ a xs, v = .ref a ∧ SqL K H a xs ∧ DatL P w K F xs ds := by
  cases h with
  | dat h => cases h with
    | lst h1 h2 => exact ⟨_, _, rfl, e.sqL h1, h2⟩
  | lst h1 h2 => exact ⟨_, _, rfl, .inl (.inl h1), h2⟩
theorem View.tupOf {ds : List D} (e : Ex F H) (h : View P w K F H v (.tup ds)) : ∃ a xs, v = .ref a ∧ SqT K H a xs ∧ DatL P w K F xs ds := by
  cases h with
  | dat h => cases h with
    | tup h1 h2 => exact ⟨_, _, rfl, e.sqT h1, h2⟩
theorem View.intOf {i : Int} (h : View P w K F H v (.int i)) : v = .int i := by
  cases h with
  | dat h => cases h; rfl
theorem View.blOf {b : Bool} (h : View P w K F H v (.bl b)) : v = .bl b := by
  cases h with
  | dat h => cases h; rfl
theorem View.strOf {x : Str} (h : View P w K F H v (.str x)) : v = .str x := by
  cases h with
  | dat h => cases h; rfl
theorem View.nonOf (h : View P w K F H v .non) : v = .non := by
  cases h with
  | dat h => cases h; rfl
theorem View.dkOf {kvs : List (Key × D)} (e : Ex F H) (h : View P w K F H v (.dk kvs)) : ∃ a ws, v = .ref a ∧ DkAt P w K H a ws ∧ ws.map (·.1) = kvs.map (·.1) ∧ DatL P w K F (ws.map (·.2)) (kvs.map (·.2)) := by
  cases h with
  | dat h => cases h with
    | dk h1 h2 h3 => exact ⟨_, _, rfl, h1.mono e, h2, h3⟩
  | dk h1 h2 h3 => exact ⟨_, _, rfl, .inl h1, h2, h3⟩
theorem View.dnOf {kvs : List (NestedKey × D)} (e : Ex F H) (h : View P w K F H v (.dn kvs)) : ∃ a ws, v = .ref a ∧ DnAt P w K F H a ws ∧ ws.map (·.1) = kvs.map (·.1) ∧ DatL P w K F (ws.map (·.2)) (kvs.map (·.2)) := by
  cases h with
  | dat h => cases h with
    | dn h1 h2 h3 =>
      refine ⟨_, _, rfl, h1.mono (Ex.refl _) ?_, h2, h3⟩
      obtain ⟨o, _, _, _, q, _⟩ := h1
      rw [q, e _ _ q]
  | dn h1 h2 h3 => exact ⟨_, _, rfl, h1, h2, h3⟩
theorem View.objOf {C : Str} {fs : List (Str × D)} (e : Ex F H) (h : View P w K F H v (.obj C fs)) : ∃ a dx ws, v = .ref a ∧ H a = some (.ins (He.ga K C) dx ws) ∧ ws.map (·.1) = fs.map (·.1) ∧ DatL P w K F (ws.map (·.2)) (fs.map (·.2)) := by
  cases h with
  | dat h => cases h with
    | obj h1 h2 h3 => exact ⟨_, _, _, rfl, e _ _ h1, h2, h3⟩
  | obj h1 h2 h3 => exact ⟨_, _, _, rfl, h1, h2, h3⟩
end
end B

set_option maxHeartbeats 4000000
namespace B
open PySem PySem.Spec PyProof.Rows L2

abbrev G := List (Option L)
inductive Res (α : Type) where | ok (a : α) (g : G) | bad
/-- where an operand is: a name's own place, or data -/
inductive Pl where | slot (i : Nat) | val (d : D)
abbrev Ef := G → Res L
abbrev Bf := G → Res Pl
abbrev Tf := G → Res Bool
abbrev Af := G → Res (List D)
inductive S where | next (g : G) | ret (l : L) (g : G) | brk (g : G) | cont (g : G) | bad
abbrev Sf := G → S

def Res.bd {α β : Type} (x : Res α) (k : α → G → Res β) : Res β := match x with
  | .ok a g => k a g
  | .bad => .bad
def resolve (g : G) : Pl → Option D
  | .slot i => match g[i]? with
    | some (some l) => some l.view
    | _ => none
  | .val d => some d

section
variable (P : Program) (w : World) (K : PySem.W.Frag)
def RdE (f : Ef) : TE := fun σ H Q => ∃ g F Gf ow, Rel P w K F H Gf g σ ow ∧ match f g with
  | .bad => False
  | .ok l g' => ∀ v F' H' ow' ad, Rel P w K F' H' Gf g' σ ow' → Ex F F' → HasL P w K F' H' v l ad → Apart F' Gf ow' ad → Q v H'
def PlV (F : Hp) (σ : L2.St) (v : V) : Pl → Prop
  | .slot j => σ[j]? = some (some v)
  | .val d => Dat P w K F v d
def RdB (f : Bf) : TE := fun σ H Q => ∃ g F Gf ow, Rel P w K F H Gf g σ ow ∧ match f g with
  | .bad => False
  | .ok p g' => ∀ v F' H' ow', Rel P w K F' H' Gf g' σ ow' → Ex F F' → PlV P w K F' σ v p → Q v H'
def RdT (f : Tf) : TT := fun σ H Q => ∃ g F Gf ow, Rel P w K F H Gf g σ ow ∧ match f g with
  | .bad => False
  | .ok b g' => ∀ F' H' ow', Rel P w K F' H' Gf g' σ ow' → Ex F F' → Q b H'
def RdA (f : Af) : TA := fun σ H Q => ∃ g F Gf ow, Rel P w K F H Gf g σ ow ∧ match f g with
  | .bad => False
  | .ok ds g' => ∀ vs F' H' ow', Rel P w K F' H' Gf g' σ ow' → Ex F F' → DatL P w K F' vs ds → Q vs H'
end
abbrev SE (X : Cx) (e : Expr) (f : Ef) : Prop := PE X e (RdE X.prog X.w X.K f)
abbrev SB (X : Cx) (e : Expr) (f : Bf) : Prop := PE X e (RdB X.prog X.w X.K f)
abbrev ST (X : Cx) (e : Expr) (f : Tf) : Prop := PT X e (RdT X.prog X.w X.K f)
abbrev SA (X : Cx) (es : List Expr) (f : Af) : Prop := PA X es (RdA X.prog X.w X.K f)

theorem PE.imp {X : Cx} {e : Expr} {t t' : TE} (h : PE X e t) (i : ∀ σ H Q, t' σ H Q → t σ H Q) : PE X e t' := ⟨fun pins s σ H Q I q => h.run pins s σ H Q I (i σ H Q q)⟩
theorem PT.imp {X : Cx} {e : Expr} {t t' : TT} (h : PT X e t) (i : ∀ σ H Q, t' σ H Q → t σ H Q) : PT X e t' := ⟨fun pins s σ H Q I q => h.run pins s σ H Q I (i σ H Q q)⟩
theorem PW.imp {X : Cx} {e : Expr} {t t' : TT} (h : PW X e t) (i : ∀ σ H Q, t' σ H Q → t σ H Q) : PW X e t' := ⟨fun wh pins s σ H Q I q => h.run wh pins s σ H Q I (i σ H Q q)⟩
theorem PA.imp {X : Cx} {es : List Expr} {t t' : TA} (h : PA X es t) (i : ∀ σ H Q, t' σ H Q → t σ H Q) : PA X es t' := ⟨fun pos pins s σ H Q I q => h.run pos pins s σ H Q I (i σ H Q q)⟩
theorem PS.imp {X : Cx} {st : Stmt} {t t' : TS} (h : PS X st t) (i : ∀ D σ H, t' D σ H → t D σ H) : PS X st t' := ⟨fun pins s σ H D I q => h.run pins s σ H D I (i D σ H q)⟩
theorem PSs.imp {X : Cx} {st : List Stmt} {t t' : TS} (h : PSs X st t) (i : ∀ D σ H, t' D σ H → t D σ H) : PSs X st t' := ⟨fun pins s σ H D I q => h.run pins s σ H D I (i D σ H q)⟩

section
variable {P : Program} {w : World} {K : PySem.W.Frag} {F F' G' H H' : Hp} {g g' : G} {σ : L2.St} {ow ow' : Nat → List Addr} {v : V} {l : L} {d : D} {p : Pl}
theorem PlV.mono (e : Ex F F') (h : PlV P w K F σ v p) : PlV P w K F' σ v p := by
  cases p with
  | slot j => exact h
  | val d => exact Dat.mono e h
theorem PlV.view (R : Rel P w K F H G' g σ ow) (h : PlV P w K F σ v p) (e : resolve g p = some d) : View P w K F H v d := by
  cases p with
  | slot j =>
    have h : σ[j]? = some (some v) := h
    cases q : g[j]? with
    | none => simp only [resolve, q] at e; cases e
    | some o =>
      cases o with
      | none => simp only [resolve, q] at e; cases e
      | some l =>
        simp only [resolve, q] at e
        cases e
        obtain ⟨v', h1, h2⟩ := R.get j l q
        rw [h] at h1; cases h1
        exact h2.view
  | val d' =>
    cases e
    exact .dat h
/-- how a reading is shown: the function's answer, then what follows -/
theorem RdE.of {f : Ef} {Q : VK} (R : Rel P w K F H G' g σ ow) (e : f g = .ok l g') (h : ∀ v F' H' ow' ad, Rel P w K F' H' G' g' σ ow' → Ex F F' → HasL P w K F' H' v l ad → Apart F' G' ow' ad → Q v H') : RdE P w K f σ H Q :=
  ⟨g, F, G', ow, R, by rw [e]; exact h⟩
theorem RdB.of {f : Bf} {Q : VK} (R : Rel P w K F H G' g σ ow) (e : f g = .ok p g') (h : ∀ v F' H' ow', Rel P w K F' H' G' g' σ ow' → Ex F F' → PlV P w K F' σ v p → Q v H') : RdB P w K f σ H Q :=
  ⟨g, F, G', ow, R, by rw [e]; exact h⟩
theorem RdT.of {f : Tf} {b : Bool} {Q : Bool → Hp → Prop} (R : Rel P w K F H G' g σ ow) (e : f g = .ok b g') (h : ∀ F' H' ow', Rel P w K F' H' G' g' σ ow' → Ex F F' → Q b H') : RdT P w K f σ H Q :=
  ⟨g, F, G', ow, R, by rw [e]; exact h⟩
theorem RdA.of {f : Af} {ds : List D} {Q : List V → Hp → Prop} (R : Rel P w K F H G' g σ ow) (e : f g = .ok ds g') (h : ∀ vs F' H' ow', Rel P w K F' H' G' g' σ ow' → Ex F F' → DatL P w K F' vs ds → Q vs H') : RdA P w K f σ H Q :=
  ⟨g, F, G', ow, R, by rw [e]; exact h⟩
end

/-! ### names and constants -/
def nameF (i : Nat) : Ef := fun g => match g[i]? with
  | some (some l) => .ok (.dat l.view) (g.set i (some (.dat l.view)))
  | _ => .bad
def moveF (i : Nat) : Ef := fun g => match g[i]? with
  | some (some l) => .ok l (g.set i none)
  | _ => .bad
def constF (d : D) : Ef := fun g => .ok (.dat d) g
def slotB (i : Nat) : Bf := fun g => match g[i]? with
  | some (some _) => .ok (.slot i) g
  | _ => .bad
def frzB (f : Ef) : Bf := fun g => (f g).bd fun l g' => .ok (.val l.view) g'
section
variable {X : Cx} {e a b : Expr} {f fa fb : Ef} {pos : Pos}
theorem se_name (i : Nat) {x : Str} (hN : X.N[i]? = some x := by rfl) (hv : Vis X.env.scope x := by first | exact Or.inl rfl | exact Or.inr (Or.inl rfl) | exact Or.inr (Or.inr rfl)) (hd : (x == ("__debug__" : Str)) = false := by decide)
    (hcd : (x == ("__classdict__" : Str)) = false := by decide) : SE X (.Name x pos) (nameF i) := by
  refine PE.imp (pe_var hN hv hd hcd) fun σ H Q ⟨g, F, Gf, ow, R, h⟩ => ?_
  unfold nameF at h
  cases e : g[i]? with
  | none => rw [e] at h; exact h.elim
  | some o =>
    rw [e] at h
    cases o with
    | none => exact h.elim
    | some l =>
      obtain ⟨F', ow', R', ex, v, hv, hd⟩ := R.freeze e
      exact ⟨v, hv, h v F' H ow' [] R' ex ⟨rfl, hd⟩ .nil⟩
theorem se_move (i : Nat) {x : Str} (hN : X.N[i]? = some x := by rfl) (hv : Vis X.env.scope x := by first | exact Or.inl rfl | exact Or.inr (Or.inl rfl) | exact Or.inr (Or.inr rfl)) (hd : (x == ("__debug__" : Str)) = false := by decide)
    (hcd : (x == ("__classdict__" : Str)) = false := by decide) : SE X (.Name x pos) (moveF i) := by
  refine PE.imp (pe_var hN hv hd hcd) fun σ H Q ⟨g, F, Gf, ow, R, h⟩ => ?_
  unfold moveF at h
  cases e : g[i]? with
  | none => rw [e] at h; exact h.elim
  | some o =>
    rw [e] at h
    cases o with
    | none => exact h.elim
    | some l =>
      obtain ⟨v, hv, hl, R', ap⟩ := R.move e
      exact ⟨v, hv, h v F H _ _ R' (Ex.refl _) hl ap⟩
theorem sb_name (i : Nat) {x : Str} (hN : X.N[i]? = some x := by rfl) (hv : Vis X.env.scope x := by first | exact Or.inl rfl | exact Or.inr (Or.inl rfl) | exact Or.inr (Or.inr rfl)) (hd : (x == ("__debug__" : Str)) = false := by decide)
    (hcd : (x == ("__classdict__" : Str)) = false := by decide) : SB X (.Name x pos) (slotB i) := by
  refine PE.imp (pe_var hN hv hd hcd) fun σ H Q ⟨g, F, Gf, ow, R, h⟩ => ?_
  unfold slotB at h
  cases e : g[i]? with
  | none => rw [e] at h; exact h.elim
  | some o =>
    rw [e] at h
    cases o with
    | none => exact h.elim
    | some l =>
      obtain ⟨v, hv, hl⟩ := R.get i l e
      exact ⟨v, hv, h v F H ow R (Ex.refl _) hv⟩
theorem sb_exp (he : SE X e f) : SB X e (frzB f) := by
  refine PE.imp he fun σ H Q ⟨g, F, Gf, ow, R, h⟩ => ?_
  unfold frzB at h
  cases q : f g with
  | bad => rw [q] at h; exact h.elim
  | ok l g1 =>
    rw [q] at h
    refine .of R q fun v F' H' ow' ad R' ex hl ap => ?_
    obtain ⟨R2, ex2, hd⟩ := R'.froz hl ap
    exact h v _ H' ow' R2 (ex.trans ex2) hd
theorem se_const {d : D} {x : V} (h : PE X e (tC x)) (hd : ∀ F, Dat X.prog X.w X.K F x d) : SE X e (constF d) := by
  refine PE.imp h fun σ H Q ⟨g, F, Gf, ow, R, h⟩ => ?_
  exact h x F H ow [] R (Ex.refl _) ⟨rfl, hd F⟩ .nil
theorem se_int {i : Int} {j} : SE X (.Constant (.int i) j pos) (constF (.int i)) := se_const pe_int fun _ => .int i
theorem se_bl {i : Bool} {j} : SE X (.Constant (.bool i) j pos) (constF (.bl i)) := se_const pe_bl fun _ => .bl i
theorem se_str {i : Str} {j} : SE X (.Constant (.str i) j pos) (constF (.str i)) := se_const pe_str fun _ => .str i
theorem se_non {j} : SE X (.Constant .none j pos) (constF .non) := se_const pe_non fun _ => .non
/-- a global constant -/
theorem se_glob {x : Str} {d : D} {v : V} {u : Value} (hg : Gl X x) (hm : X.mg x = some u) (r : RelV v u) (hd : ∀ F, Dat X.prog X.w X.K F v d) (hdb : (x == ("__debug__" : Str)) = false := by decide) : SE X (.Name x pos) (constF d) :=
  se_const (pe_glob hg hm r hdb) hd

/-! ### operators: by data -/
/-- an operator's reading, by data: d, e give z -/
def OpD (P : Program) (w : World) (K : PySem.W.Frag) (r : R2) (f : D → D → Option D) : Prop := ∀ (F H : Hp) (x y : V) (d e z : D) (Q : VK), Ex F H → View P w K F H x d → View P w K F H y e → f d e = some z →
  (∀ v F' H', Grow F H F' H' → Dat P w K F' v z → Q v H') → r x y H Q
def binF (op : D → D → Option D) (fa fb : Bf) : Ef := fun g => (fa g).bd fun p g1 => (fb g1).bd fun q g2 => match resolve g2 p, resolve g2 q with
  | some x, some y => match op x y with
    | some z => .ok (.dat z) g2
    | none => .bad
  | _, _ => .bad
theorem bin_rd {P : Program} {w : World} {K : PySem.W.Frag} {r : R2} {op : D → D → Option D} {fa fb : Bf} {σ : L2.St} {H : Hp} {Q : VK} (hr : OpD P w K r op) (h : RdE P w K (binF op fa fb) σ H Q) : tOp r (RdB P w K fa) (RdB P w K fb) σ H Q := by
  obtain ⟨g, F, Gf, ow, R, h⟩ := h
  unfold binF at h
  cases q : fa g with
  | bad => rw [q] at h; exact h.elim
  | ok p g1 =>
    rw [q] at h
    refine RdB.of R q fun v F1 H1 ow1 R1 ex1 pv1 => ?_
    cases q2 : fb g1 with
    | bad => simp only [Res.bd, q2] at h
    | ok p2 g2 =>
      simp only [Res.bd, q2] at h
      refine RdB.of R1 q2 fun u F2 H2 ow2 R2 ex2 pv2 => ?_
      cases e1 : resolve g2 p with
      | none => simp only [e1] at h
      | some x =>
        cases e2 : resolve g2 p2 with
        | none => simp only [e1, e2] at h
        | some y =>
          simp only [e1, e2] at h
          cases e3 : op x y with
          | none => simp only [e3] at h
          | some z =>
            simp only [e3] at h
            refine hr F2 H2 v u x y z Q R2.ex ((pv1.mono ex2).view R2 e1) (pv2.view R2 e2) e3 fun r F3 H3 gr hd => ?_
            exact h r F3 H3 ow2 [] (R2.grow gr) ((ex1.trans ex2).trans gr.f) ⟨rfl, hd⟩ .nil
theorem OpD.or {P : Program} {w : World} {K : PySem.W.Frag} {r r' : R2} {f f' : D → D → Option D} (h : OpD P w K r f) (h' : OpD P w K r' f') : OpD P w K (fun x y H Q => r x y H Q ∨ r' x y H Q) (fun d e => (f d e).or (f' d e)) := by
  intro F H x y d e z Q ex vx vy hf k
  have hf : (f d e).or (f' d e) = some z := hf
  cases q : f d e with
  | some z' =>
    rw [q] at hf
    cases hf
    exact .inl (h F H x y d e _ Q ex vx vy q k)
  | none =>
    rw [q] at hf
    exact .inr (h' F H x y d e _ Q ex vx vy hf k)
theorem OpD.congr {P : Program} {w : World} {K : PySem.W.Frag} {r : R2} {f f' : D → D → Option D} (h : OpD P w K r f) (e : ∀ a b z, f' a b = some z → f a b = some z) : OpD P w K r f' :=
  fun F H x y d e' z Q ex vx vy hf k => h F H x y d e' z Q ex vx vy (e _ _ _ hf) k
variable {ba bb : Bf} {r : R2} {f2 : D → D → Option D}
theorem se_op {op : Operator} (ho : OpR X (binaryOp op) r) (hr : OpD X.prog X.w X.K r f2) (ha : SB X a ba) (hb : SB X b bb) : SE X (.BinOp a op b pos) (binF f2 ba bb) :=
  PE.imp (pe_op ho ha hb) fun _ _ _ h => bin_rd hr h
theorem se_cmp {op : CmpOp} (ho : OpR X (compareOp op) r) (hr : OpD X.prog X.w X.K r f2) (ha : SB X a ba) (hb : SB X b bb) (hm : behindInMarks op b = false) : SE X (.Compare a [op] [b] pos) (binF f2 ba bb) :=
  PE.imp (pe_cmpR ho ha hb hm) fun _ _ _ h => bin_rd hr h
theorem se_ix (hr : IxR X r) (ho : OpD X.prog X.w X.K r f2) (ha : SB X a ba) (hb : SB X b bb) (hs : PlainIx b := by exact fun _ _ => rfl) : SE X (.Subscript a b pos) (binF f2 ba bb) :=
  PE.imp (pe_ix hr ha hb hs) fun _ _ _ h => bin_rd ho h

/-! ### tests -/
/-- a value that is a truth value, as a test -/
def testF (f : Ef) : Tf := fun g => (f g).bd fun l g' => match l with
  | .dat (.bl b) => .ok b g'
  | _ => .bad
theorem testF_rd {P : Program} {w : World} {K : PySem.W.Frag} {f : Ef} {σ : L2.St} {H : Hp} {Q : Bool → Hp → Prop} (h : RdT P w K (testF f) σ H Q) : tB (RdE P w K f) σ H Q := by
  obtain ⟨g, F, Gf, ow, R, h⟩ := h
  unfold testF at h
  cases q : f g with
  | bad => rw [q] at h; exact h.elim
  | ok l g1 =>
    simp only [Res.bd, q] at h
    refine RdE.of R q fun v F' H' ow' ad R' ex hl ap => ?_
    cases l with
    | dat d => cases d with
      | bl b => exact ⟨b, hl.2.rec (motive_1 := fun v d _ => d = .bl b → v = .bl b) (motive_2 := fun _ _ _ => True) (fun h => nomatch h) (fun _ h => by cases h; rfl) (fun _ h => nomatch h) (fun _ h => nomatch h) (fun _ _ _ h => nomatch h) (fun _ _ _ h => nomatch h) (fun _ _ _ _ h => nomatch h) (fun _ _ _ _ h => nomatch h) (fun _ _ _ _ h => nomatch h) trivial (fun _ _ _ _ => trivial) rfl, h F' H' ow' R' ex⟩
      | _ => exact h.elim
    | _ => exact h.elim
theorem st_val (he : SE X e f) (hi : ∀ whole, isTrue e X.env whole = (do let v ← whole; standAt e.pos; holding [v] (truthy v)) := by intro _; rfl) : ST X e (testF f) :=
  PT.imp (pt_val he hi) fun _ _ _ h => testF_rd h
theorem st_cmp {op : CmpOp} (ho : OpR X (compareOp op) r) (hr : OpD X.prog X.w X.K r f2) (ha : SB X a ba) (hb : SB X b bb) (hm : behindInMarks op b = false) : ST X (.Compare a [op] [b] pos) (testF (binF f2 ba bb)) := by
  refine PT.imp (pt_cmpR ho ha hb hm) fun σ H Q h => ?_
  have q := testF_rd h
  unfold tB at q
  obtain ⟨g, F, Gf, ow, R, z⟩ := q
  exact bin_rd hr ⟨g, F, Gf, ow, R, z⟩
def notT (t : Tf) : Tf := fun g => (t g).bd fun b g' => .ok (!b) g'
def andT (t u : Tf) : Tf := fun g => (t g).bd fun b g' => if b = true then u g' else .ok false g'
def orT (t u : Tf) : Tf := fun g => (t g).bd fun b g' => if b = true then .ok true g' else u g'
variable {ta tb : Tf} {rest : List Expr}
theorem st_not (ha : ST X a ta) : ST X (.UnaryOp .Not a pos) (notT ta) := by
  refine PT.imp (pt_not ha) fun σ H Q ⟨g, F, Gf, ow, R, h⟩ => ?_
  unfold notT at h
  cases q : ta g with
  | bad => simp only [Res.bd, q] at h
  | ok b g1 =>
    simp only [Res.bd, q] at h
    exact RdT.of R q fun F' H' ow' R' ex => h F' H' ow' R' ex
abbrev SW (X : Cx) (e : Expr) (f : Tf) : Prop := PW X e (RdT X.prog X.w X.K f)
theorem sw_and1 (ha : ST X a ta) : SW X (.BoolOp .And [a] pos) ta := pw_and1 ha
theorem sw_or1 (ha : ST X a ta) : SW X (.BoolOp .Or [a] pos) ta := pw_or1 ha
theorem sw_and (ha : ST X a ta) (hb : SW X (.BoolOp .And (b :: rest) pos) tb) : SW X (.BoolOp .And (a :: b :: rest) pos) (andT ta tb) := by
  refine PW.imp (pw_and ha hb) fun σ H Q ⟨g, F, Gf, ow, R, h⟩ => ?_
  unfold andT at h
  cases q : ta g with
  | bad => simp only [Res.bd, q] at h
  | ok c g1 =>
    simp only [Res.bd, q] at h
    refine RdT.of R q fun F' H' ow' R' ex => ?_
    cases c with
    | true =>
      rw [if_pos rfl] at h ⊢
      refine ⟨g1, F', Gf, ow', R', ?_⟩
      cases q2 : tb g1 with
      | bad => rw [q2] at h; exact h
      | ok c2 g2 => rw [q2] at h; exact fun F2 H2 ow2 R2 ex2 => h F2 H2 ow2 R2 (ex.trans ex2)
    | false => exact h F' H' ow' R' ex
theorem sw_or (ha : ST X a ta) (hb : SW X (.BoolOp .Or (b :: rest) pos) tb) : SW X (.BoolOp .Or (a :: b :: rest) pos) (orT ta tb) := by
  refine PW.imp (pw_or ha hb) fun σ H Q ⟨g, F, Gf, ow, R, h⟩ => ?_
  unfold orT at h
  cases q : ta g with
  | bad => simp only [Res.bd, q] at h
  | ok c g1 =>
    simp only [Res.bd, q] at h
    refine RdT.of R q fun F' H' ow' R' ex => ?_
    cases c with
    | true => exact h F' H' ow' R' ex
    | false =>
      rw [if_neg (by decide)] at h ⊢
      refine ⟨g1, F', Gf, ow', R', ?_⟩
      cases q2 : tb g1 with
      | bad => rw [q2] at h; exact h
      | ok c2 g2 => rw [q2] at h; exact fun F2 H2 ow2 R2 ex2 => h F2 H2 ow2 R2 (ex.trans ex2)
theorem SW.st (h : SW X e ta) : ST X e ta := h.pt
/-- a and b, a or b as values, all but the last truth values -/
def andE (t : Ef) (u : Ef) : Ef := fun g => (testF t g).bd fun b g' => if b = true then u g' else .ok (.dat (.bl false)) g'
def orE (t : Ef) (u : Ef) : Ef := fun g => (testF t g).bd fun b g' => if b = true then .ok (.dat (.bl true)) g' else u g'
def notE (t : Ef) : Ef := fun g => (testF t g).bd fun b g' => .ok (.dat (.bl (!b))) g'
theorem se_one {op} (h : SE X a fa) : SE X (.BoolOp op [a] pos) fa := pe_one h
def PoE (P : Program) (w : World) (K : PySem.W.Frag) (F Gf : Hp) (σ : L2.St) (Q : VK) : Res L → Prop
  | .bad => False
  | .ok l g' => ∀ v F' H' ow' ad, Rel P w K F' H' Gf g' σ ow' → Ex F F' → HasL P w K F' H' v l ad → Apart F' Gf ow' ad → Q v H'
theorem mono_ok {P : Program} {w : World} {K : PySem.W.Frag} {F F' Gf : Hp} {σ : L2.St} {Q : VK} {r : Res L} (ex : Ex F F') (h : PoE P w K F Gf σ Q r) : PoE P w K F' Gf σ Q r := by
  cases r with
  | bad => exact h
  | ok l g' => exact fun v F2 H' ow' ad R e2 hl ap => h v F2 H' ow' ad R (ex.trans e2) hl ap
theorem tB_ok {P : Program} {w : World} {K : PySem.W.Frag} {F Gf H : Hp} {g : G} {σ : L2.St} {ow : Nat → List Addr} {f : Ef} {b : Bool} {g1 : G} {Q : VK} (R : Rel P w K F H Gf g σ ow) (q : testF f g = .ok b g1)
    (h : ∀ F' H' ow', Rel P w K F' H' Gf g1 σ ow' → Ex F F' → Q (.bl b) H') : RdE P w K f σ H Q := by
  have z := testF_rd (P := P) (w := w) (K := K) (f := f) (σ := σ) (H := H) (Q := fun c H' => Q (.bl c) H') (RdT.of R q h)
  obtain ⟨g', F', Gf', ow', R', z⟩ := z
  refine ⟨g', F', Gf', ow', R', ?_⟩
  cases e : f g' with
  | bad => rw [e] at z; exact z
  | ok l g2 =>
    rw [e] at z
    intro v F2 H2 ow2 ad R2 ex hl ap
    obtain ⟨c, rfl, hq⟩ := z v F2 H2 ow2 ad R2 ex hl ap
    exact hq
theorem se_and (ha : SE X a fa) (hb : SE X (.BoolOp .And (b :: rest) pos) fb) : SE X (.BoolOp .And (a :: b :: rest) pos) (andE fa fb) := by
  refine PE.imp (pe_and ha hb) fun σ H Q ⟨g, F, Gf, ow, R, h⟩ => ?_
  unfold andE at h
  cases q : testF fa g with
  | bad => simp only [Res.bd, q] at h
  | ok c g1 =>
    simp only [Res.bd, q] at h
    refine tB_ok R q fun F' H' ow' R' ex => ⟨c, rfl, ?_⟩
    cases c with
    | true =>
      rw [if_pos rfl] at h ⊢
      exact ⟨g1, F', Gf, ow', R', mono_ok ex h⟩
    | false =>
      rw [if_neg (by decide)] at h ⊢
      exact h _ F' H' ow' [] R' ex ⟨rfl, .bl false⟩ .nil
theorem se_or (ha : SE X a fa) (hb : SE X (.BoolOp .Or (b :: rest) pos) fb) : SE X (.BoolOp .Or (a :: b :: rest) pos) (orE fa fb) := by
  refine PE.imp (pe_or ha hb) fun σ H Q ⟨g, F, Gf, ow, R, h⟩ => ?_
  unfold orE at h
  cases q : testF fa g with
  | bad => simp only [Res.bd, q] at h
  | ok c g1 =>
    simp only [Res.bd, q] at h
    refine tB_ok R q fun F' H' ow' R' ex => ⟨c, rfl, ?_⟩
    cases c with
    | true =>
      rw [if_pos rfl] at h ⊢
      exact h _ F' H' ow' [] R' ex ⟨rfl, .bl true⟩ .nil
    | false =>
      rw [if_neg (by decide)] at h ⊢
      exact ⟨g1, F', Gf, ow', R', mono_ok ex h⟩
theorem se_not (ha : SE X a fa) : SE X (.UnaryOp .Not a pos) (notE fa) := by
  refine PE.imp (pe_not ha) fun σ H Q ⟨g, F, Gf, ow, R, h⟩ => ?_
  unfold notE at h
  cases q : testF fa g with
  | bad => simp only [Res.bd, q] at h
  | ok c g1 =>
    simp only [Res.bd, q] at h
    exact tB_ok R q fun F' H' ow' R' ex => ⟨c, rfl, h _ F' H' ow' [] R' ex ⟨rfl, .bl _⟩ .nil⟩
/-- a if t else b -/
def ifE (t : Tf) (fa fb : Ef) : Ef := fun g => (t g).bd fun b g' => if b = true then fa g' else fb g'
theorem se_if {c : Expr} (hc : ST X c ta) (ha : SE X a fa) (hb : SE X b fb) : SE X (.IfExp c a b pos) (ifE ta fa fb) := by
  refine PE.imp (pe_ifExp hc ha hb) fun σ H Q ⟨g, F, Gf, ow, R, h⟩ => ?_
  unfold ifE at h
  cases q : ta g with
  | bad => simp only [Res.bd, q] at h
  | ok c g1 =>
    simp only [Res.bd, q] at h
    refine RdT.of R q fun F' H' ow' R' ex => ?_
    cases c with
    | true =>
      rw [if_pos rfl] at h ⊢
      exact ⟨g1, F', Gf, ow', R', mono_ok ex h⟩
    | false =>
      rw [if_neg (by decide)] at h ⊢
      exact ⟨g1, F', Gf, ow', R', mono_ok ex h⟩

/-! ### written lists of expressions; displays -/
def nilA : Af := fun g => .ok [] g
def consA (f : Ef) (r : Af) : Af := fun g => (f g).bd fun l g1 => (r g1).bd fun ds g2 => .ok (l.view :: ds) g2
def itemsOf : D → Option (List D)
  | .tup ds => some ds
  | .lst ds => some ds
  | _ => none
def starA (f : Bf) (r : Af) : Af := fun g => (f g).bd fun p g1 => match (resolve g1 p).bind itemsOf with
  | some es => (r g1).bd fun ds g2 => .ok (es ++ ds) g2
  | none => .bad
variable {es : List Expr} {A : Af}
theorem sa_nil : SA X [] nilA := PA.imp pa_nil fun σ H Q ⟨g, F, Gf, ow, R, h⟩ => h [] F H ow R (Ex.refl _) .nil
theorem sa_cons (he : SE X e f) (hr : SA X es A) (hs : starEach (e :: es) X.env = (false, eval e X.env) :: starEach es X.env := by rfl) : SA X (e :: es) (consA f A) := by
  refine PA.imp (pa_cons he hr hs) fun σ H Q ⟨g, F, Gf, ow, R, h⟩ => ?_
  unfold consA at h
  cases q : f g with
  | bad => simp only [Res.bd, q] at h
  | ok l g1 =>
    simp only [Res.bd, q] at h
    refine RdE.of R q fun v F1 H1 ow1 ad R1 ex1 hl ap => ?_
    obtain ⟨R2, ex2, hd⟩ := R1.froz hl ap
    cases q2 : A g1 with
    | bad => simp only [q2] at h
    | ok ds g2 =>
      simp only [q2] at h
      refine RdA.of R2 q2 fun vs F3 H3 ow3 R3 ex3 hds => ?_
      exact h _ F3 H3 ow3 R3 ((ex1.trans ex2).trans ex3) (.cons (hd.mono ex3) hds)
theorem sa_star {p : Pos} (he : SB X e ba) (hr : SA X es A) (hs : starEach (.Starred e p :: es) X.env = (true, eval e X.env) :: starEach es X.env := by rfl) : SA X (.Starred e p :: es) (starA ba A) := by
  refine PA.imp (StX.pa_star he hr hs) fun σ H Q ⟨g, F, Gf, ow, R, h⟩ => ?_
  unfold starA at h
  cases q : ba g with
  | bad => simp only [Res.bd, q] at h
  | ok p1 g1 =>
    simp only [Res.bd, q] at h
    refine RdB.of R q fun v F1 H1 ow1 R1 ex1 pv => ?_
    cases e1 : resolve g1 p1 with
    | none => simp only [e1, Option.bind_none] at h
    | some d =>
      have vw := pv.view R1 e1
      have fin : ∀ (ds0 : List D) (a : Addr) (xs : List V), v = .ref a → True → True := fun _ _ _ _ _ => trivial
      cases d with
      | tup ds0 =>
        obtain ⟨a, xs, rfl, hq, hd⟩ := vw.tupOf R1.ex
        simp only [e1, Option.bind_some, itemsOf] at h
        refine ⟨a, xs, rfl, .inl hq, ?_⟩
        cases q2 : A g1 with
        | bad => simp only [q2] at h
        | ok ds g2 =>
          simp only [q2] at h
          exact RdA.of R1 q2 fun vs F3 H3 ow3 R3 ex3 hds => h _ F3 H3 ow3 R3 (ex1.trans ex3) ((hd.mono ex3).append hds)
      | lst ds0 =>
        obtain ⟨a, xs, rfl, hq, hd⟩ := vw.lstOf R1.ex
        simp only [e1, Option.bind_some, itemsOf] at h
        refine ⟨a, xs, rfl, .inr hq, ?_⟩
        cases q2 : A g1 with
        | bad => simp only [q2] at h
        | ok ds g2 =>
          simp only [q2] at h
          exact RdA.of R1 q2 fun vs F3 H3 ow3 R3 ex3 hds => h _ F3 H3 ow3 R3 (ex1.trans ex3) ((hd.mono ex3).append hds)
      | _ => simp only [e1, Option.bind_some, itemsOf] at h
/-- the greatest length that is written down -/
def cap : Nat := 10000000
theorem cap_le {n : Nat} (h : n ≤ cap) : n ≤ sizeLine := Nat.le_trans h (by rw [sizeLine_eq]; decide)
theorem cap_lt {n : Nat} (h : n ≤ cap) : n < sizeLine := Nat.lt_of_le_of_lt h (by rw [sizeLine_eq]; decide)
def tupF (r : Af) : Ef := fun g => (r g).bd fun ds g' => if ds.length ≤ cap then .ok (.dat (.tup ds)) g' else .bad
def lstF (r : Af) : Ef := fun g => (r g).bd fun ds g' => if ds.length ≤ cap then .ok (.lst ds) g' else .bad
theorem se_tup {x1} (h : SA X es A) : SE X (.Tuple es x1 pos) (tupF A) := by
  refine PE.imp (pe_tup h) fun σ H Q ⟨g, F, Gf, ow, R, h⟩ => ?_
  unfold tupF at h
  cases q : A g with
  | bad => simp only [Res.bd, q] at h
  | ok ds g1 =>
    simp only [Res.bd, q] at h
    by_cases hc : ds.length ≤ cap
    · rw [if_pos hc] at h
      refine RdA.of R q fun vs F1 H1 ow1 R1 ex1 hds => ⟨by rw [hds.length]; exact cap_le hc, fun p hp => ?_⟩
      have gr := Grow.put (o := .tup vs) R1.ex hp
      exact h _ _ _ _ [] (R1.grow gr) (ex1.trans gr.f) ⟨rfl, .tup (.inl (.inl upd_same)) (hds.mono gr.f)⟩ .nil
    · rw [if_neg hc] at h; exact h.elim
theorem se_lst (h : SA X es A) : SE X (.List es pos) (lstF A) := by
  refine PE.imp (pe_lst h) fun σ H Q ⟨g, F, Gf, ow, R, h⟩ => ?_
  unfold lstF at h
  cases q : A g with
  | bad => simp only [Res.bd, q] at h
  | ok ds g1 =>
    simp only [Res.bd, q] at h
    by_cases hc : ds.length ≤ cap
    · rw [if_pos hc] at h
      refine RdA.of R q fun vs F1 H1 ow1 R1 ex1 hds => ⟨by rw [hds.length]; exact cap_le hc, fun p hp => ?_⟩
      exact h _ F1 _ ow1 [p] (R1.own hp) ex1 ⟨p, vs, rfl, rfl, upd_same, hds⟩ (R1.apart1 hp)
    · rw [if_neg hc] at h; exact h.elim
end
end B

set_option maxHeartbeats 4000000
namespace B
open PySem PySem.Spec PyProof.Rows L2

/-! ### data as the library's data, as keys -/
mutual
def toPy : D → Option PyData
  | .non => some .none
  | .bl b => some (.bool b)
  | .int i => some (.int i)
  | .str x => some (.str x)
  | .tup ds => (toPys ds).map .tuple
  | .lst ds => (toPys ds).map .list
  | .dk _ => none
  | .dn _ => none
  | .obj _ _ => none
def toPys : List D → Option (List PyData)
  | [] => some []
  | d :: ds => match toPy d, toPys ds with
    | some p, some ps => some (p :: ps)
    | _, _ => none
end
mutual
def toNK : D → Option NestedKey
  | .non => some .none
  | .bl b => some (.num (if b = true then 1 else 0))
  | .int i => some (.num i)
  | .str x => some (.text x)
  | .tup ds => (toNKs ds).map .tup
  | .lst _ => none
  | .dk _ => none
  | .dn _ => none
  | .obj _ _ => none
def toNKs : List D → Option (List NestedKey)
  | [] => some []
  | d :: ds => match toNK d, toNKs ds with
    | some p, some ps => some (p :: ps)
    | _, _ => none
end
def toKey : D → Option Key
  | .int i => some (.inl i)
  | .str x => some (.inr x)
  | _ => none
/-- a nested key that a dict takes: a tuple, not too deep -/
def toTK (d : D) : Option NestedKey := match d with
  | .tup ds => (toNK (.tup ds)).bind fun k => if k.depth ≤ 8 then some k else none
  | _ => none
def look {κ α : Type} [DecidableEq κ] (kvs : List (κ × α)) (k : κ) : Option α := (kvs.find? fun kv => decide (kv.1 = k)).map (·.2)
def put {κ α : Type} [DecidableEq κ] (kvs : List (κ × α)) (k : κ) (v : α) : List (κ × α) :=
  if (kvs.any fun kv => decide (kv.1 = k)) = true then kvs.map (fun kv => if kv.1 = k then (kv.1, v) else kv) else kvs ++ [(k, v)]
section
variable {P : Program} {w : World} {K : PySem.W.Frag} {F H : Hp}
mutual
theorem Dat.dp : ∀ (d : D) (v : V) (p : PyData), Dat P w K F v d → toPy d = some p → Dp K F v p
  | .non, _, _, h, e => by cases h; cases e; exact .non
  | .bl b, _, _, h, e => by cases h; cases e; exact .bl b
  | .int i, _, _, h, e => by cases h; cases e; exact .int i
  | .str x, _, _, h, e => by cases h; cases e; exact .str x
  | .tup ds, _, _, h, e => by
    cases h with
    | tup h1 h2 =>
      rw [toPy] at e
      obtain ⟨ps, e1, rfl⟩ := Option.map_eq_some_iff.mp e
      exact .tup h1 (DatL.dp ds _ ps h2 e1)
  | .lst ds, _, _, h, e => by
    cases h with
    | lst h1 h2 =>
      rw [toPy] at e
      obtain ⟨ps, e1, rfl⟩ := Option.map_eq_some_iff.mp e
      exact .lst h1 (DatL.dp ds _ ps h2 e1)
  | .dk _, _, _, _, e => by rw [toPy] at e; cases e
  | .dn _, _, _, _, e => by rw [toPy] at e; cases e
  | .obj _ _, _, _, _, e => by rw [toPy] at e; cases e
theorem DatL.dp : ∀ (ds : List D) (vs : List V) (ps : List PyData), DatL P w K F vs ds → toPys ds = some ps → DpAll K F vs ps
  | [], _, _, h, e => by cases h; rw [toPys] at e; cases e; exact .nil
  | d :: ds, _, ps, h, e => by
    cases h with
    | cons h1 h2 =>
      rw [toPys] at e
      cases q1 : toPy d with
      | none => simp only [q1] at e; cases e
      | some p =>
        cases q2 : toPys ds with
        | none => simp only [q1, q2] at e; cases e
        | some ps' =>
          simp only [q1, q2] at e
          cases e
          exact .cons (Dat.dp d _ p h1 q1) (DatL.dp ds _ ps' h2 q2)
end
mutual
theorem Dat.nk : ∀ (d : D) (v : V) (p : NestedKey), Dat P w K F v d → toNK d = some p → NKey K F v p
  | .non, _, _, h, e => by cases h; cases e; exact .non
  | .bl b, _, _, h, e => by cases h; cases e; exact .bl b
  | .int i, _, _, h, e => by cases h; cases e; exact .int i
  | .str x, _, _, h, e => by cases h; cases e; exact .str x
  | .tup ds, _, _, h, e => by
    cases h with
    | tup h1 h2 =>
      rw [toNK] at e
      obtain ⟨ps, e1, rfl⟩ := Option.map_eq_some_iff.mp e
      exact .tup h1 (DatL.nk ds _ ps h2 e1)
  | .lst ds, _, _, h, e => by rw [toNK] at e; cases e
  | .dk _, _, _, _, e => by rw [toNK] at e; cases e
  | .dn _, _, _, _, e => by rw [toNK] at e; cases e
  | .obj _ _, _, _, _, e => by rw [toNK] at e; cases e
theorem DatL.nk : ∀ (ds : List D) (vs : List V) (ps : List NestedKey), DatL P w K F vs ds → toNKs ds = some ps → NKeys K F vs ps
  | [], _, _, h, e => by cases h; rw [toNKs] at e; cases e; exact .nil
  | d :: ds, _, ps, h, e => by
    cases h with
    | cons h1 h2 =>
      rw [toNKs] at e
      cases q1 : toNK d with
      | none => simp only [q1] at e; cases e
      | some p =>
        cases q2 : toNKs ds with
        | none => simp only [q1, q2] at e; cases e
        | some ps' =>
          simp only [q1, q2] at e
          cases e
          exact .cons (Dat.nk d _ p h1 q1) (DatL.nk ds _ ps' h2 q2)
end
theorem Dat.key {v : V} {d : D} {k : Key} (h : Dat P w K F v d) (e : toKey d = some k) : v = kV k := by
  cases h <;> first | (cases e; rfl) | cases e
theorem Dat.tk {v : V} {d : D} {k : NestedKey} (h : Dat P w K F v d) (e : toTK d = some k) : ∃ a, v = .ref a ∧ NKey K F v k ∧ k.depth ≤ 8 := by
  cases d with
  | tup ds =>
    unfold toTK at e
    obtain ⟨k', e1, e2⟩ := Option.bind_eq_some_iff.mp e
    by_cases hd : k'.depth ≤ 8
    · rw [if_pos hd] at e2; cases e2
      have n := Dat.nk _ _ _ h e1
      cases h with
      | tup h1 h2 => exact ⟨_, rfl, n, hd⟩
    · rw [if_neg hd] at e2; cases e2
  | _ => cases e
theorem View.key {v : V} {d : D} {k : Key} (h : View P w K F H v d) (e : toKey d = some k) : v = kV k := by
  cases h with
  | dat h => exact h.key e
  | _ => cases e
theorem View.tk {v : V} {d : D} {k : NestedKey} (h : View P w K F H v d) (e : toTK d = some k) : ∃ a, v = .ref a ∧ NKey K F v k ∧ k.depth ≤ 8 := by
  cases h with
  | dat h => exact h.tk e
  | _ => cases e
theorem View.dp {v : V} {d : D} {p : PyData} (ex : Ex F H) (h : View P w K F H v d) (e : toPy d = some p) : Dp K H v p := by
  cases h with
  | dat h => exact Dat.dp d v p (h.mono ex) e
  | lst h1 h2 =>
    rw [toPy] at e
    obtain ⟨ps, e1, rfl⟩ := Option.map_eq_some_iff.mp e
    exact .lst (.inl (.inl h1)) (DatL.dp _ _ ps (h2.mono ex) e1)
  | _ => rw [toPy] at e; cases e
end
section
variable {P : Program} {w : World} {K : PySem.W.Frag} {F H : Hp}
/-- the look-up of a table whose values lie beside it -/
theorem look_of {κ : Type} [DecidableEq κ] (k : κ) : ∀ {ws : List (κ × V)} {kvs : List (κ × D)}, ws.map (·.1) = kvs.map (·.1) → DatL P w K F (ws.map (·.2)) (kvs.map (·.2)) → ∀ {d : D}, look kvs k = some d → ∃ v, look ws k = some v ∧ Dat P w K F v d
  | [], [], _, _, d, e => by cases e
  | [], _ :: _, e, _, _, _ => by simp at e
  | _ :: _, [], e, _, _, _ => by simp at e
  | p :: ws, q :: kvs, e, h, d, l => by
    simp only [List.map_cons, List.cons.injEq] at e
    simp only [List.map_cons] at h
    cases h with
    | cons h1 h2 =>
      by_cases c : q.1 = k
      · have e1 : look (q :: kvs) k = some q.2 := by simp [look, List.find?_cons, c]
        have e2 : look (p :: ws) k = some p.2 := by simp [look, List.find?_cons, e.1.trans c]
        rw [e1] at l; cases l
        exact ⟨_, e2, h1⟩
      · have e1 : look (q :: kvs) k = look kvs k := by simp [look, List.find?_cons, c]
        have c' : ¬ p.1 = k := fun z => c (e.1.symm.trans z)
        have e2 : look (p :: ws) k = look ws k := by simp [look, List.find?_cons, c']
        rw [e1] at l
        rw [e2]
        exact look_of k e.2 h2 l
theorem look_none {κ α β : Type} [DecidableEq κ] (k : κ) : ∀ {ws : List (κ × α)} {kvs : List (κ × β)}, ws.map (·.1) = kvs.map (·.1) → (look ws k).isSome = (look kvs k).isSome
  | [], [], _ => rfl
  | [], _ :: _, e => by simp at e
  | _ :: _, [], e => by simp at e
  | p :: ws, q :: kvs, e => by
    simp only [List.map_cons, List.cons.injEq] at e
    by_cases c : q.1 = k
    · have e1 : look (q :: kvs) k = some q.2 := by simp [look, List.find?_cons, c]
      have e2 : look (p :: ws) k = some p.2 := by simp [look, List.find?_cons, e.1.trans c]
      rw [e1, e2]; rfl
    · have e1 : look (q :: kvs) k = look kvs k := by simp [look, List.find?_cons, c]
      have c' : ¬ p.1 = k := fun z => c (e.1.symm.trans z)
      have e2 : look (p :: ws) k = look ws k := by simp [look, List.find?_cons, c']
      rw [e1, e2]
      exact look_none k e.2
theorem any_look {κ α : Type} [DecidableEq κ] (k : κ) : ∀ kvs : List (κ × α), (kvs.any fun kv => decide (kv.1 = k)) = (look kvs k).isSome
  | [] => rfl
  | p :: r => by
    rw [List.any_cons]
    by_cases e : p.1 = k
    · simp [look, List.find?_cons, e]
    · have : look (p :: r) k = look r k := by simp [look, List.find?_cons, e]
      rw [this, decide_eq_false e, Bool.false_or]
      exact any_look k r
theorem put_of {κ : Type} [DecidableEq κ] (k : κ) {ws : List (κ × V)} {kvs : List (κ × D)} (e : ws.map (·.1) = kvs.map (·.1)) (h : DatL P w K F (ws.map (·.2)) (kvs.map (·.2))) {v : V} {d : D} (hd : Dat P w K F v d) :
    (put ws k v).map (·.1) = (put kvs k d).map (·.1) ∧ DatL P w K F ((put ws k v).map (·.2)) ((put kvs k d).map (·.2)) := by
  unfold put
  rw [any_look, any_look, look_none k e]
  by_cases c : (look kvs k).isSome = true
  · rw [if_pos c, if_pos c]
    clear c
    induction ws generalizing kvs with
    | nil =>
      cases kvs with
      | nil => exact ⟨rfl, .nil⟩
      | cons q kvs => simp at e
    | cons p ws ih =>
      cases kvs with
      | nil => simp at e
      | cons q kvs =>
        simp only [List.map_cons, List.cons.injEq] at e
        simp only [List.map_cons] at h
        cases h with
        | cons h1 h2 =>
          obtain ⟨i1, i2⟩ := ih e.2 h2
          by_cases c : q.1 = k
          · have c' : p.1 = k := e.1.trans c
            simp only [List.map_cons, if_pos c, if_pos c']
            exact ⟨by rw [e.1, i1], .cons hd i2⟩
          · have c' : ¬ p.1 = k := fun z => c (e.1.symm.trans z)
            simp only [List.map_cons, if_neg c, if_neg c']
            exact ⟨by rw [e.1, i1], .cons h1 i2⟩
  · rw [if_neg c, if_neg c]
    simp only [List.map_append, List.map_cons, List.map_nil]
    exact ⟨by rw [e], h.append (.cons hd .nil)⟩
theorem look_valV {ws : List (Key × V)} {k : Key} : look ws k = valV ws k := rfl
theorem put_putK {ws : List (Key × V)} {k : Key} {v : V} : put ws k v = putK ws k v := rfl
theorem put_length {κ α : Type} [DecidableEq κ] (kvs : List (κ × α)) (k : κ) (v : α) : (put kvs k v).length ≤ kvs.length + 1 := by
  unfold put
  split
  · rw [List.length_map]; omega
  · rw [List.length_append, List.length_cons, List.length_nil]; omega
end

/-! ### a dict with int and text keys -/
section
variable {X : Cx} {pins : List (Addr × Obj)} {σ : L2.St} {H : Hp} {s : Shared} {a : Addr} {ws : List (Key × V)} {k : Key} {A : Around} {E : Value → Shared → Prop} {u : Value}
theorem dk_in {Q : Value → Shared → Prop} (I : Inv X pins σ H s) (h : DkAt X.prog X.w X.K H a ws) (ry : RelV (kV k) u) (hq : ∀ s', Inv X pins σ H s' → Q (.bool (look ws k).isSome) s') : wpAny (model X.prog X.w) A (compareOp .In u (.ref a)) Q E s := by
  obtain ⟨z, hd, vs, rel, dd⟩ := h.dict I
  refine wpAny_in_of (kV_is ry) hd dd.mapOf ?_
  rw [← (rel.val k).isSome_eq]
  exact hq _ (I.tok _)
theorem dk_notIn {Q : Value → Shared → Prop} (I : Inv X pins σ H s) (h : DkAt X.prog X.w X.K H a ws) (ry : RelV (kV k) u) (hq : ∀ s', Inv X pins σ H s' → Q (.bool (!(look ws k).isSome)) s') : wpAny (model X.prog X.w) A (compareOp .NotIn u (.ref a)) Q E s := by
  obtain ⟨z, hd, vs, rel, dd⟩ := h.dict I
  refine wpAny_notIn_of (kV_is ry) hd dd.mapOf ?_
  rw [← (rel.val k).isSome_eq]
  exact hq _ (I.tok _)
theorem dk_getItem {v : V} {Q : Value → Shared → Prop} (I : Inv X pins σ H s) (h : DkAt X.prog X.w X.K H a ws) (ry : RelV (kV k) u) (hv : look ws k = some v) (hq : ∀ w' s', Inv X pins σ H s' → RelV v w' → Q w' s') : wpAny (model X.prog X.w) A (getItem (.ref a) u) Q E s := by
  obtain ⟨z, hd, vs, rel, dd⟩ := h.dict I
  obtain ⟨w', hw, rw'⟩ := RelO.some_of (v := v) (o := valueAt vs k) (by rw [← hv]; exact rel.val k)
  exact wpAny_getItem_of (kV_is ry) dd.mapOf hw (hq w' _ (I.tok _) rw')
theorem dk_type (I : Inv X pins σ H s) (h : DkAt X.prog X.w X.K H a ws) : s.TypeIs (.ref a) "dict" := by
  obtain ⟨z, hd, vs, rel, dd⟩ := h.dict I
  exact dd.typeIs
theorem dk_copy {Q : Value → Shared → Prop} (I : Inv X pins σ H s) (h : DkAt X.prog X.w X.K H a ws) (hq : ∀ p s', H p = none → Inv X pins σ (upd H p (.dK ws)) s' → Q (.ref p) s') : wpAny (model X.prog X.w) A (call (.type "dict") [.ref a]) Q E s := by
  obtain ⟨z, hd, vs, rel, dd⟩ := h.dict I
  refine kt_call_dict hd dd (by rw [← rel.length]; exact z) fun h' dd' hs => ?_
  refine hq _ _ (I.hok.fresh (Nat.le_refl _)) (I.laid (a := s.heap.objs.size) (o := .dK ws) (t' := s.toks) (fun b q hq => ?_) (Nat.le_refl _) (dk_new z (beq_eq_false_iff_ne.mpr (Ne.symm (Nat.ne_of_lt I.big))) rel dd'))
  exact (hs.2 b (Nat.ne_of_lt (Heap.lt_size hq))).trans (Heap.get?_push_of_some _ hq)
end

/-! ### a dict with nested keys -/
section
variable {X : Cx} {pins : List (Addr × Obj)} {σ : L2.St} {F H : Hp} {s : Shared} {a b : Addr} {ws : List (NestedKey × V)} {k : NestedKey} {A : Around} {E : Value → Shared → Prop}
theorem DnAt.dict (I : Inv X pins σ H s) (ex : Ex F H) (h : DnAt X.prog X.w X.K F H a ws) : (a == sysModules) = false ∧ ws.length ≤ sizeLine ∧ ∃ xs, s.heap.DictOfH (nestedKind X.prog X.w) a xs ∧
    Paired (fun (p : NestedKey × V) (q : NestedKey × Addr × Value) => p.1 = q.1 ∧ NKey X.K F (.ref q.2.1) p.1 ∧ p.1.depth ≤ 8 ∧ RelV p.2 q.2.2) ws xs := by
  obtain ⟨o, es, ep, xs, h1, h2, h3, h4, h5, h6, h7, h8⟩ := h
  refine ⟨h6, h7, xs, ⟨o, es, ep, (I.hok a _ h1).1, h2, h3, h4, fun x hx => ?_, h5⟩, h8⟩
  have all : ∀ {l : List (NestedKey × V)} {m : List (NestedKey × Addr × Value)}, Paired (fun (p : NestedKey × V) (q : NestedKey × Addr × Value) => p.1 = q.1 ∧ NKey X.K F (.ref q.2.1) p.1 ∧ p.1.depth ≤ 8 ∧ RelV p.2 q.2.2) l m →
      ∀ x ∈ m, (nestedKind X.prog X.w).is s.heap x.1 x.2.1 := by
    intro l m q
    induction q with
    | nil => intro x hx; cases hx
    | @cons p q ps qs hq t ih =>
      intro x hx
      rcases List.mem_cons.mp hx with e | hx
      · subst e
        obtain ⟨e1, e2, e3, _⟩ := hq
        rw [← e1]
        exact ⟨NKey.nested I _ _ _ (NKey.mono ex _ _ e2) rfl, e3⟩
      · exact ih x hx
  exact all h8 x hx
theorem pairs_look {K : PySem.W.Frag} {xs : List (NestedKey × Addr × Value)} (h : Paired (fun (p : NestedKey × V) (q : NestedKey × Addr × Value) => p.1 = q.1 ∧ NKey K F (.ref q.2.1) p.1 ∧ p.1.depth ≤ 8 ∧ RelV p.2 q.2.2) ws xs) (k : NestedKey) :
    RelO (look ws k) ((atKey xs k).map (·.2)) := by
  induction h with
  | nil => exact True.intro
  | @cons p q ps qs hq t ih =>
    obtain ⟨h1, _, _, h2⟩ := hq
    by_cases e : p.1 = k
    · have e' : q.1 = k := h1.symm.trans e
      have b1 : atKey (q :: qs) k = some q.2 := by simp [atKey, List.find?_cons, e']
      have b2 : look (p :: ps) k = some p.2 := by simp [look, List.find?_cons, e]
      rw [b1, b2]; exact h2
    · have e' : ¬ q.1 = k := fun z => e (h1.trans z)
      have b1 : atKey (q :: qs) k = atKey qs k := by simp [atKey, List.find?_cons, e']
      have b2 : look (p :: ps) k = look ps k := by simp [look, List.find?_cons, e]
      rw [b1, b2]; exact ih
theorem room8 {A : Around} (hu : A.units + 64 < cLine) : A.in1.units + 8 < cLine := by
  show A.units + 1 + 8 < cLine
  omega
theorem dn_in {y : V} {u : Value} {Q : Value → Shared → Prop} (hu : A.units + 64 < cLine) (I : Inv X pins σ H s) (ex : Ex F H) (h : DnAt X.prog X.w X.K F H a ws) (ry : RelV (.ref b) u) (hk : NKey X.K F (.ref b) k) (hd : k.depth ≤ 8)
    (hq : ∀ s', Inv X pins σ H s' → Q (.bool (look ws k).isSome) s') : wpAny (model X.prog X.w) A (compareOp .In u (.ref a)) Q E s := by
  obtain ⟨h6, h7, xs, hx, hp⟩ := h.dict I ex
  obtain rfl : u = Value.ref b := ry
  refine wpAny_in_heap (knd := nestedKind X.prog X.w) (room8 hu) ⟨NKey.nested I _ _ _ (NKey.mono ex _ _ hk) rfl, hd⟩ h6 hx ?_
  have e := (pairs_look hp k).isSome_eq
  rw [Option.isSome_map] at e
  rw [← e]
  exact hq _ (I.tok _)
theorem dn_notIn {y : V} {u : Value} {Q : Value → Shared → Prop} (hu : A.units + 64 < cLine) (I : Inv X pins σ H s) (ex : Ex F H) (h : DnAt X.prog X.w X.K F H a ws) (ry : RelV (.ref b) u) (hk : NKey X.K F (.ref b) k) (hd : k.depth ≤ 8)
    (hq : ∀ s', Inv X pins σ H s' → Q (.bool (!(look ws k).isSome)) s') : wpAny (model X.prog X.w) A (compareOp .NotIn u (.ref a)) Q E s := by
  obtain ⟨h6, h7, xs, hx, hp⟩ := h.dict I ex
  obtain rfl : u = Value.ref b := ry
  show wpAny _ _ (do return .bool (!(← contains (.ref a) (.ref b)))) Q E s
  refine wpAny_bind (wpAny_contains_heap (knd := nestedKind X.prog X.w) (room8 hu) ⟨NKey.nested I _ _ _ (NKey.mono ex _ _ hk) rfl, hd⟩ h6 hx (wpAny_pure ?_))
  have e := (pairs_look hp k).isSome_eq
  rw [Option.isSome_map] at e
  rw [← e]
  exact hq _ (I.tok _)
theorem dn_getItem {u : Value} {v : V} {Q : Value → Shared → Prop} (hu : A.units + 64 < cLine) (I : Inv X pins σ H s) (ex : Ex F H) (h : DnAt X.prog X.w X.K F H a ws) (ry : RelV (.ref b) u) (hk : NKey X.K F (.ref b) k) (hd : k.depth ≤ 8)
    (hv : look ws k = some v) (hq : ∀ w' s', Inv X pins σ H s' → RelV v w' → Q w' s') : wpAny (model X.prog X.w) A (getItem (.ref a) u) Q E s := by
  obtain ⟨h6, h7, xs, hx, hp⟩ := h.dict I ex
  obtain rfl : u = Value.ref b := ry
  have e := pairs_look hp k
  rw [hv] at e
  obtain ⟨w', hw, rw'⟩ := RelO.some_of e
  obtain ⟨p, hp1, hp2⟩ := Option.map_eq_some_iff.mp hw
  refine wpAny_getItem_heap (knd := nestedKind X.prog X.w) (room8 hu) ⟨NKey.nested I _ _ _ (NKey.mono ex _ _ hk) rfl, hd⟩ hx hp1 ?_
  rw [hp2]
  exact hq w' _ (I.tok _) rw'
theorem dn_getOr {u r : Value} {dv : V} {Q : Value → Shared → Prop} (hu : A.units + 64 < cLine) (I : Inv X pins σ H s) (ex : Ex F H) (h : DnAt X.prog X.w X.K F H a ws) (ry : RelV (.ref b) u) (rd : RelV dv r) (hk : NKey X.K F (.ref b) k) (hd : k.depth ≤ 8)
    (hq : ∀ w' s', Inv X pins σ H s' → RelV ((look ws k).getD dv) w' → Q w' s') : wpAny (model X.prog X.w) A (call (.builtin "dict.get") [.ref a, u, r]) Q E s := by
  obtain ⟨h6, h7, xs, hx, hp⟩ := h.dict I ex
  obtain rfl : u = Value.ref b := ry
  refine getOr_keyed (knd := nestedKind X.prog X.w) (room8 hu) ⟨NKey.nested I _ _ _ (NKey.mono ex _ _ hk) rfl, hd⟩ h6 ⟨xs, hx, rfl⟩ ?_
  rw [valueAt_pairsH]
  exact hq _ _ (I.tok _) ((pairs_look hp k).getD rd)
theorem dn_type (I : Inv X pins σ H s) (ex : Ex F H) (h : DnAt X.prog X.w X.K F H a ws) : s.TypeIs (.ref a) "dict" := by
  obtain ⟨h6, h7, xs, hx, hp⟩ := h.dict I ex
  exact hx.typeIs
/-- the entries behind a store -/
theorem pairs_put {K : PySem.W.Frag} {xs : List (NestedKey × Addr × Value)} {v : V} {u : Value} (h : Paired (fun (p : NestedKey × V) (q : NestedKey × Addr × Value) => p.1 = q.1 ∧ NKey K F (.ref q.2.1) p.1 ∧ p.1.depth ≤ 8 ∧ RelV p.2 q.2.2) ws xs)
    (hk : NKey K F (.ref b) k) (hd : k.depth ≤ 8) (rv : RelV v u) : Paired (fun (p : NestedKey × V) (q : NestedKey × Addr × Value) => p.1 = q.1 ∧ NKey K F (.ref q.2.1) p.1 ∧ p.1.depth ≤ 8 ∧ RelV p.2 q.2.2) (put ws k v) (storedH xs k b u) := by
  have e : (ws.any fun kv => decide (kv.1 = k)) = (atKey xs k).isSome := by
    rw [any_look, (pairs_look h k).isSome_eq, Option.isSome_map]
  unfold put storedH
  rw [e]
  by_cases q : (atKey xs k).isSome = true
  · rw [if_pos q, if_pos q]
    clear q e
    induction h with
    | nil => exact .nil
    | @cons p q ps qs hq t ih =>
      rw [List.map_cons, List.map_cons]
      refine .cons ?_ ih
      obtain ⟨h1, h2, h3, h4⟩ := hq
      unfold putAt
      by_cases e : p.1 = k
      · rw [if_pos e, if_pos (h1.symm.trans e)]; exact ⟨h1, h2, h3, rv⟩
      · rw [if_neg e, if_neg (fun z => e (h1.trans z))]; exact ⟨h1, h2, h3, h4⟩
  · rw [if_neg q, if_neg q]; exact Paired.snoc h ⟨rfl, hk, hd, rv⟩
theorem dn_setItem {u r : Value} {v : V} {Q : Unit → Shared → Prop} (hu : A.units + 64 < cLine) (I : Inv X pins σ H s) (ex : Ex F H) (h : DnAt X.prog X.w X.K F H a ws) (hF : F a = none) (hz : ws.length < sizeLine) (ry : RelV (.ref b) u) (rv : RelV v r) (hk : NKey X.K F (.ref b) k) (hd : k.depth ≤ 8)
    (hq : ∀ o s', Inv X pins σ (upd H a o) s' → DnAt X.prog X.w X.K F (upd H a o) a (put ws k v) → Q () s') : wpAny (model X.prog X.w) A (setItem (.ref a) u r) Q E s := by
  obtain ⟨h6, h7, xs, hx, hp⟩ := h.dict I ex
  have h1 : ∃ o, H a = some (isO a o) := by obtain ⟨o, _, _, _, q, _⟩ := h; exact ⟨o, q⟩
  obtain ⟨o0, h1⟩ := h1
  obtain rfl : u = Value.ref b := ry
  refine wpAny_setItem_heap (knd := nestedKind X.prog X.w) (hsz := by rw [← Paired.length hp]; exact h7) (room8 hu) ⟨NKey.nested I _ _ _ (NKey.mono ex _ _ hk) rfl, hd⟩ hx fun h' hm' hs => ?_
  obtain ⟨o, es, ep, g1, g2, g3, g4, g5, g6⟩ := id hm'
  have new : ObjOk X.prog X.w (upd H a (isO a o)) h' a (isO a o) := ⟨g1, ⟨o, g1⟩, fun h1 h2 q k => k o q⟩
  have I1 : Inv X pins σ (upd H a (isO a o)) { s with heap := h', toks := s.toks + (nestedKind X.prog X.w).draws k } := I.write (by rw [h1]; trivial) (.inl rfl) (fun b u hb q => (hs.2 b hb).trans q) ⟨o, g1⟩ new
  refine hq (isO a o) _ I1 ⟨o, es, ep, _, upd_same, g2, g3, g4, g6, h6, ?_, pairs_put hp hk hd rv⟩
  have := put_length ws k v
  omega
end
end B

set_option maxHeartbeats 4000000
namespace B
open PySem PySem.Spec PyProof.Rows L2

/-! ### arithmetic -/
def intsD (C : Int → Int → Bool) (f : Int → Int → D) : D → D → Option D
  | .int i, .int j => if C i j = true then some (f i j) else none
  | _, _ => none
theorem intsD_some {C : Int → Int → Bool} {f : Int → Int → D} {d e z : D} (h : intsD C f d e = some z) : ∃ i j, d = .int i ∧ e = .int j ∧ C i j = true ∧ z = f i j := by
  unfold intsD at h
  split at h
  · split at h
    · cases h; exact ⟨_, _, rfl, rfl, by assumption, rfl⟩
    · cases h
  · cases h
section
variable {P : Program} {w : World} {K : PySem.W.Frag}
theorem od_ints {C : Int → Int → Prop} {Cb : Int → Int → Bool} {f : Int → Int → Int} (hC : ∀ i j, Cb i j = true → C i j) : OpD P w K (rI C fun i j => .int (f i j)) (intsD Cb fun i j => .int (f i j)) := by
  intro F H x y d e z Q ex vx vy hf k
  obtain ⟨i, j, rfl, rfl, c, rfl⟩ := intsD_some hf
  exact ⟨i, j, vx.intOf, vy.intOf, hC i j c, k _ F H (.refl ex) (.int _)⟩
theorem od_ints0 {f : Int → Int → Int} : OpD P w K (rI0 fun i j => .int (f i j)) (intsD (fun _ _ => true) fun i j => .int (f i j)) := by
  intro F H x y d e z Q ex vx vy hf k
  obtain ⟨i, j, rfl, rfl, c, rfl⟩ := intsD_some hf
  exact ⟨i, j, vx.intOf, vy.intOf, k _ F H (.refl ex) (.int _)⟩
theorem od_bools0 {f : Int → Int → Bool} : OpD P w K (rI0 fun i j => .bl (f i j)) (intsD (fun _ _ => true) fun i j => .bl (f i j)) := by
  intro F H x y d e z Q ex vx vy hf k
  obtain ⟨i, j, rfl, rfl, c, rfl⟩ := intsD_some hf
  exact ⟨i, j, vx.intOf, vy.intOf, k _ F H (.refl ex) (.bl _)⟩
end
/-- x + y -/
def addD : D → D → Option D
  | .int i, .int j => some (.int (i + j))
  | .str x, .str y => if x.length + y.length ≤ cap then some (.str (x ++ y)) else none
  | .tup xs, .tup ys => if xs.length + ys.length ≤ cap then some (.tup (xs ++ ys)) else none
  | .lst xs, .lst ys => if xs.length + ys.length ≤ cap then some (.lst (xs ++ ys)) else none
  | _, _ => none
/-- list + list, whatever is read -/
def rCatL (K : PySem.W.Frag) : R2 := fun x y H Q => ∃ l b xs zs, x = .ref l ∧ y = .ref b ∧ SqL K H l xs ∧ SqL K H b zs ∧ xs.length + zs.length ≤ sizeLine ∧ ∀ p, H p = none → Q (.ref p) (upd H p (.lst (xs ++ zs)))
section
variable {X : Cx}
theorem op_catL : OpR X (binaryOp .Add) (rCatL X.K) := by
  intro pins s σ H x y v u Q I rx ry h
  obtain ⟨l, b, xs, zs, rfl, rfl, hH, hB, hz, q⟩ := h
  cases rx
  cases ry
  obtain ⟨its, r, ⟨⟨cls, dd, data, sl⟩, n, ho, hc, hdi, hda⟩, z⟩ := I.list hH
  obtain ⟨its2, r2, ⟨⟨cls2, dd2, data2, sl2⟩, n2, ho2, hc2, hdi2, hda2⟩, z2⟩ := I.list hB
  simp only at hc hdi hda hc2 hdi2 hda2
  subst hc hdi hda hc2 hdi2 hda2
  have e1 := r.length
  have e2 := r2.length
  refine PySem.concat_meets ⟨_, ho, rfl⟩ ⟨_, ho2, rfl⟩ noFill_list_add seq_list_add PySem.F.slot_list_add PySem.F.entry_list_add (PySem.F.args_list_add_2 _ _) (PyProof.Rows.list_addW l b its.toArray its2.toArray n n2 none none sl sl2 (by rw [List.size_toArray, List.size_toArray]; omega)) ⟨ho, ho2, ?_⟩
  have ea : its.toArray ++ its2.toArray = (its ++ its2).toArray := by simp
  rw [ea]
  exact ⟨.ref _, _, I.lnew (t' := s.toks) (r.append r2) (by rw [List.length_append]; omega), rfl, q _ I.fresh⟩
end
abbrev rAddA (K : PySem.W.Frag) : R2 := fun x y H Q => rI0 (fun i j => .int (i + j)) x y H Q ∨ ((∃ i j, x = .str i ∧ y = .str j ∧ i.length + j.length ≤ sizeLine ∧ Q (.str (i ++ j)) H) ∨ (rCatA K x y H Q ∨ rCatL K x y H Q))
theorem op_addA {X : Cx} : OpR X (binaryOp .Add) (rAddA X.K) := op_add.or (op_add_str.or (op_catA.or op_catL))
theorem od_add {P : Program} {w : World} {K : PySem.W.Frag} : OpD P w K (rAddA K) addD := by
  intro F H x y d e z Q ex vx vy hf k
  unfold addD at hf
  split at hf
  · cases hf
    exact .inl ⟨_, _, vx.intOf, vy.intOf, k _ F H (.refl ex) (.int _)⟩
  · split at hf
    · rename_i c
      cases hf
      exact .inr (.inl ⟨_, _, vx.strOf, vy.strOf, cap_le c, k _ F H (.refl ex) (.str _)⟩)
    · cases hf
  · split at hf
    · rename_i ds es c
      cases hf
      obtain ⟨a, xs, rfl, hq, hd⟩ := vx.tupOf ex
      obtain ⟨b, ys, rfl, hq2, hd2⟩ := vy.tupOf ex
      have l1 := hd.length
      have l2 := hd2.length
      refine .inr (.inr (.inl ⟨a, b, xs, ys, rfl, rfl, hq, hq2, by rw [l1, l2]; exact cap_le c, fun e0 => ?_, fun _ e0 => ?_, fun _ _ p hp => ?_⟩))
      · have z1 : ds = [] := by
          cases ds with
          | nil => rfl
          | cons _ _ => rw [e0] at l1; cases l1
        rw [z1, List.nil_append] at k
        cases vy with
        | dat h => exact k _ F H (.refl ex) h
      · have z1 : es = [] := by
          cases es with
          | nil => rfl
          | cons _ _ => rw [e0] at l2; cases l2
        rw [z1, List.append_nil] at k
        cases vx with
        | dat h => exact k _ F H (.refl ex) h
      · have gr := Grow.put (o := .tup (xs ++ ys)) ex hp
        exact k _ _ _ gr (.tup (.inl (.inl upd_same)) ((hd.append hd2).mono gr.f))
    · cases hf
  · split at hf
    · rename_i ds es c
      cases hf
      obtain ⟨a, xs, rfl, hq, hd⟩ := vx.lstOf ex
      obtain ⟨b, ys, rfl, hq2, hd2⟩ := vy.lstOf ex
      refine .inr (.inr (.inr ⟨a, b, xs, ys, rfl, rfl, hq, hq2, by rw [hd.length, hd2.length]; exact cap_le c, fun p hp => ?_⟩))
      have gr := Grow.put (o := .lst (xs ++ ys)) ex hp
      exact k _ _ _ gr (.lst (.inl (.inl upd_same)) ((hd.append hd2).mono gr.f))
    · cases hf
  · cases hf
section
variable {X : Cx} {e a b : Expr} {f fa fb : Ef} {ba bb : Bf} {pos : Pos}
def subD : D → D → Option D := intsD (fun _ _ => true) fun i j => .int (i - j)
def mulD : D → D → Option D := intsD (fun i j => decide (i.natAbs < 2 ^ 64) || decide (j.natAbs < 2 ^ 64)) fun i j => .int (i * j)
def fdivD : D → D → Option D := intsD (fun _ j => decide (0 < j) && decide (j.natAbs < 1073741824)) fun i j => .int (i / j)
def modD : D → D → Option D := intsD (fun _ j => decide (0 < j)) fun i j => .int (i % j)
def powD : D → D → Option D := intsD (fun i j => decide (0 ≤ j) && (decide (j ≤ 1000000) && decide (i.natAbs < 2 ^ 64))) fun i j => .int (i ^ j.toNat)
theorem se_add (ha : SB X a ba) (hb : SB X b bb) : SE X (.BinOp a .Add b pos) (binF addD ba bb) := se_op op_addA od_add ha hb
theorem se_sub (ha : SB X a ba) (hb : SB X b bb) : SE X (.BinOp a .Sub b pos) (binF subD ba bb) := se_op op_sub od_ints0 ha hb
theorem se_mul (ha : SB X a ba) (hb : SB X b bb) : SE X (.BinOp a .Mult b pos) (binF mulD ba bb) := se_op op_mul (od_ints fun i j h => by
  simp only [Bool.or_eq_true, decide_eq_true_eq] at h
  unfold CMul
  omega) ha hb
theorem se_fdiv (ha : SB X a ba) (hb : SB X b bb) : SE X (.BinOp a .FloorDiv b pos) (binF fdivD ba bb) := se_op op_fdiv (od_ints fun i j h => by
  simp only [Bool.and_eq_true, decide_eq_true_eq] at h
  exact ⟨h.1, by omega⟩) ha hb
theorem se_mod (ha : SB X a ba) (hb : SB X b bb) : SE X (.BinOp a .Mod b pos) (binF modD ba bb) := se_op op_mod (od_ints fun i j h => by
  simp only [decide_eq_true_eq] at h; exact h) ha hb
theorem se_pow (ha : SB X a ba) (hb : SB X b bb) : SE X (.BinOp a .Pow b pos) (binF powD ba bb) := se_op op_pow (od_ints fun i j h => by
  simp only [Bool.and_eq_true, decide_eq_true_eq] at h; exact h) ha hb
/-- -x -/
def negF (f : Ef) : Ef := fun g => (f g).bd fun l g' => match l with
  | .dat (.int i) => .ok (.dat (.int (-i))) g'
  | _ => .bad
theorem se_neg (ha : SE X a fa) : SE X (.UnaryOp .USub a pos) (negF fa) := by
  refine PE.imp (pe_un un_neg ha) fun σ H Q ⟨g, F, Gf, ow, R, h⟩ => ?_
  unfold negF at h
  cases q : fa g with
  | bad => simp only [Res.bd, q] at h
  | ok l g1 =>
    simp only [Res.bd, q] at h
    refine RdE.of R q fun v F' H' ow' ad R' ex hl ap => ?_
    cases l with
    | dat d => cases d with
      | int i =>
        have e := (View.dat (H := H') hl.2).intOf
        exact ⟨i, e, h _ F' H' ow' [] R' ex ⟨rfl, .int _⟩ .nil⟩
      | _ => exact h.elim
    | _ => exact h.elim

/-! ### comparisons -/
def ltD : D → D → Option D := intsD (fun _ _ => true) fun i j => .bl (decide (i < j))
def leD : D → D → Option D := intsD (fun _ _ => true) fun i j => .bl (decide (i ≤ j))
def gtD : D → D → Option D := intsD (fun _ _ => true) fun i j => .bl (decide (j < i))
def geD : D → D → Option D := intsD (fun _ _ => true) fun i j => .bl (decide (j ≤ i))
/-- == of data -/
def eqB (d e : D) : Option Bool := match toPy d, toPy e with
  | some p, some q => if SeqAt.shaped p = true ∧ SeqAt.shaped q = true then some (PyData.eqv p q) else none
  | _, _ => none
def eqD (d e : D) : Option D := (eqB d e).map .bl
def neD (d e : D) : Option D := (eqB d e).map fun b => .bl (!b)
theorem eqB_some {d e : D} {b : Bool} (h : eqB d e = some b) : ∃ p q, toPy d = some p ∧ toPy e = some q ∧ SeqAt.shaped p = true ∧ SeqAt.shaped q = true ∧ b = PyData.eqv p q := by
  unfold eqB at h
  split at h
  · rename_i p q e1 e2
    split at h
    · rename_i c
      cases h
      exact ⟨p, q, e1, e2, c.1, c.2, rfl⟩
    · cases h
  · cases h
section
variable {P : Program} {w : World} {K : PySem.W.Frag}
theorem od_eq : OpD P w K (rEqD K) eqD := by
  intro F H x y d e z Q ex vx vy hf k
  obtain ⟨b, e1, rfl⟩ := Option.map_eq_some_iff.mp hf
  obtain ⟨p, q, h1, h2, h3, h4, rfl⟩ := eqB_some e1
  exact ⟨p, q, vx.dp ex h1, vy.dp ex h2, h3, h4, k _ F H (.refl ex) (.bl _)⟩
theorem od_ne : OpD P w K (rNeD K) neD := by
  intro F H x y d e z Q ex vx vy hf k
  obtain ⟨b, e1, rfl⟩ := Option.map_eq_some_iff.mp hf
  obtain ⟨p, q, h1, h2, h3, h4, rfl⟩ := eqB_some e1
  exact ⟨p, q, vx.dp ex h1, vy.dp ex h2, h3, h4, k _ F H (.refl ex) (.bl _)⟩
end
/-- x is None -/
def nonB : D → Bool
  | .non => true
  | _ => false
def isD (d e : D) : Option D := match e with
  | .non => some (.bl (nonB d))
  | _ => none
def isnotD (d e : D) : Option D := match e with
  | .non => some (.bl (!nonB d))
  | _ => none
theorem View.isNon {P : Program} {w : World} {K : PySem.W.Frag} {F H : Hp} {v : V} {d : D} (h : View P w K F H v d) : decide (v = .non) = nonB d := by
  cases h with
  | dat h => cases h <;> rfl
  | _ => rfl
section
variable {P : Program} {w : World} {K : PySem.W.Frag}
theorem od_is : OpD P w K (fun x y H Q => y = .non ∧ Q (.bl (decide (x = .non))) H) isD := by
  intro F H x y d e z Q ex vx vy hf k
  cases e with
  | non =>
    cases hf
    exact ⟨vy.nonOf, k _ F H (.refl ex) (by rw [vx.isNon]; exact .bl _)⟩
  | _ => cases hf
theorem od_isnot : OpD P w K (fun x y H Q => y = .non ∧ Q (.bl (!decide (x = .non))) H) isnotD := by
  intro F H x y d e z Q ex vx vy hf k
  cases e with
  | non =>
    cases hf
    exact ⟨vy.nonOf, k _ F H (.refl ex) (by rw [vx.isNon]; exact .bl _)⟩
  | _ => cases hf
end
/-! ### x in y -/
def vOf : D → Option V
  | .non => some .non
  | .bl b => some (.bl b)
  | .int i => some (.int i)
  | .str x => some (.str x)
  | _ => none
def vsOf : List D → Option (List V)
  | [] => some []
  | d :: ds => match vOf d, vsOf ds with
    | some v, some vs => some (v :: vs)
    | _, _ => none
def inB (d e : D) : Option Bool := match e with
  | .tup ds => match vOf d, vsOf ds with
    | some v, some vs => some (inV v vs)
    | _, _ => none
  | .lst ds => match vOf d, vsOf ds with
    | some v, some vs => some (inV v vs)
    | _, _ => match toPy d, toPys ds with
      | some p, some ps => if SeqAt.shaped p = true ∧ SeqAt.shaped (.list ps) = true then some (ps.any fun z => PyData.eqv z p) else none
      | _, _ => none
  | .dk kvs => (toKey d).map fun k => (look kvs k).isSome
  | .dn kvs => (toTK d).map fun k => (look kvs k).isSome
  | .str y => match d with
    | .str x => some (!(Builtin.Str.occurrences y x 0 y.length 1).isEmpty)
    | _ => none
  | _ => none
def inD (d e : D) : Option D := (inB d e).map .bl
def notinD (d e : D) : Option D := (inB d e).map fun b => .bl (!b)
/-- one reading for all of them -/
def rInAll (P : Program) (w : World) (K : PySem.W.Frag) (neg : Bool) : R2 := fun x y H Q =>
  (∃ p xs, y = .ref p ∧ (SqL K H p xs ∨ SqT K H p xs) ∧ flatV x = true ∧ xs.all flatV = true ∧ Q (.bl (if neg then !inV x xs else inV x xs)) H) ∨
  (∃ d ds, Dp K H x d ∧ Dp K H y (.list ds) ∧ SeqAt.shaped d = true ∧ SeqAt.shaped (.list ds) = true ∧ Q (.bl (if neg then !(ds.any fun z => PyData.eqv z d) else ds.any fun z => PyData.eqv z d)) H) ∨
  (∃ a ws k, y = .ref a ∧ x = kV k ∧ DkAt P w K H a ws ∧ Q (.bl (if neg then !(look ws k).isSome else (look ws k).isSome)) H) ∨
  (∃ F a b ws k, y = .ref a ∧ x = .ref b ∧ Ex F H ∧ DnAt P w K F H a ws ∧ NKey K F (.ref b) k ∧ k.depth ≤ 8 ∧ Q (.bl (if neg then !(look ws k).isSome else (look ws k).isSome)) H) ∨
  (∃ i j, x = .str i ∧ y = .str j ∧ Q (.bl (if neg then !(!(Builtin.Str.occurrences j i 0 j.length 1).isEmpty) else !(Builtin.Str.occurrences j i 0 j.length 1).isEmpty)) H)
theorem op_inAll (hu : X.A.units + 65 < cLine) : OpR X (compareOp .In) (rInAll X.prog X.w X.K false) := by
  intro pins s σ H x y v u Q I rx ry h
  rcases h with ⟨p, xs, h1, h2, h3, h4, q⟩ | ⟨d, ds, h1, h2, h3, h4, q⟩ | ⟨a, ws, k, rfl, rfl, h2, q⟩ | ⟨F, a, b, ws, k, rfl, rfl, ex, h2, h3, h4, q⟩ | ⟨i, j, h1, h2, q⟩
  · exact op_in_seq pins s σ H x y v u Q I rx ry ⟨p, xs, h1, h2, h3, h4, q⟩
  · exact op_inD hu pins s σ H x y v u Q I rx ry ⟨d, ds, h1, h2, h3, h4, q⟩
  · cases ry
    exact dk_in I h2 rx fun s' I' => ⟨.bl _, H, I', rfl, q⟩
  · cases ry
    exact dn_in (y := .ref b) (by omega) I ex h2 rx h3 h4 fun s' I' => ⟨.bl _, H, I', rfl, q⟩
  · exact op_in_str pins s σ H x y v u Q I rx ry ⟨i, j, h1, h2, q⟩
theorem op_notInAll (hu : X.A.units + 65 < cLine) : OpR X (compareOp .NotIn) (rInAll X.prog X.w X.K true) := by
  intro pins s σ H x y v u Q I rx ry h
  rcases h with ⟨p, xs, h1, h2, h3, h4, q⟩ | ⟨d, ds, h1, h2, h3, h4, q⟩ | ⟨a, ws, k, rfl, rfl, h2, q⟩ | ⟨F, a, b, ws, k, rfl, rfl, ex, h2, h3, h4, q⟩ | ⟨i, j, h1, h2, q⟩
  · exact op_notIn_seq pins s σ H x y v u Q I rx ry ⟨p, xs, h1, h2, h3, h4, q⟩
  · exact op_notInD hu pins s σ H x y v u Q I rx ry ⟨d, ds, h1, h2, h3, h4, q⟩
  · cases ry
    exact dk_notIn I h2 rx fun s' I' => ⟨.bl _, H, I', rfl, q⟩
  · cases ry
    exact dn_notIn (y := .ref b) (by omega) I ex h2 rx h3 h4 fun s' I' => ⟨.bl _, H, I', rfl, q⟩
  · exact L2.op_notIn_str pins s σ H x y v u Q I rx ry ⟨i, j, h1, h2, q⟩
section
variable {P : Program} {w : World} {K : PySem.W.Frag} {F H : Hp}
theorem Dat.vOf {v u : V} {d : D} (h : Dat P w K F v d) (e : vOf d = some u) : v = u ∧ flatV v = true := by
  cases h <;> first | (cases e; exact ⟨rfl, rfl⟩) | cases e
theorem DatL.vsOf : ∀ {vs us : List V} {ds : List D}, DatL P w K F vs ds → B.vsOf ds = some us → vs = us ∧ vs.all flatV = true
  | _, us, _, .nil, e => by cases e; exact ⟨rfl, rfl⟩
  | v :: vs, us, d :: ds, .cons h t, e => by
    unfold B.vsOf at e
    cases q1 : B.vOf d with
    | none => simp only [q1] at e; cases e
    | some x =>
      cases q2 : B.vsOf ds with
      | none => simp only [q1, q2] at e; cases e
      | some xs =>
        simp only [q1, q2] at e
        cases e
        obtain ⟨e1, f1⟩ := h.vOf q1
        obtain ⟨e2, f2⟩ := DatL.vsOf t q2
        exact ⟨by rw [e1, e2], by rw [List.all_cons, f1, f2]; rfl⟩
theorem View.vOf {v u : V} {d : D} (h : View P w K F H v d) (e : vOf d = some u) : v = u ∧ flatV v = true := by
  cases h with
  | dat h => exact h.vOf e
  | _ => cases e
theorem in_ok {neg : Bool} {x y : V} {d e : D} {b : Bool} {Q : VK} (ex : Ex F H) (vx : View P w K F H x d) (vy : View P w K F H y e) (h : inB d e = some b) (k : Q (.bl (if neg then !b else b)) H) : rInAll P w K neg x y H Q := by
  have flat : ∀ (ds : List D) (vs : List V) (u : V) (us : List V), DatL P w K F vs ds → B.vOf d = some u → B.vsOf ds = some us → b = inV u us → flatV x = true ∧ vs.all flatV = true ∧ b = inV x vs := by
    intro ds vs u us hd q1 q2 e0
    obtain ⟨e1, f1⟩ := vx.vOf q1
    obtain ⟨e2, f2⟩ := hd.vsOf q2
    exact ⟨f1, f2, by rw [e0, e1, e2]⟩
  cases e with
  | tup ds =>
    obtain ⟨p, xs, rfl, hq, hd⟩ := vy.tupOf ex
    unfold inB at h
    cases q1 : B.vOf d with
    | none => simp only [q1] at h; cases h
    | some u =>
      cases q2 : B.vsOf ds with
      | none => simp only [q1, q2] at h; cases h
      | some us =>
        simp only [q1, q2] at h
        obtain ⟨f1, f2, e0⟩ := flat ds xs u us hd q1 q2 (by cases h; rfl)
        rw [e0] at k
        exact .inl ⟨p, xs, rfl, .inr hq, f1, f2, k⟩
  | lst ds =>
    have deep : (match toPy d, toPys ds with
      | some p, some ps => if SeqAt.shaped p = true ∧ SeqAt.shaped (.list ps) = true then some (ps.any fun z => PyData.eqv z p) else none
      | _, _ => none) = some b → rInAll P w K neg x y H Q := fun h => by
      cases q1 : toPy d with
      | none => simp only [q1] at h; cases h
      | some p =>
        cases q2 : toPys ds with
        | none => simp only [q1, q2] at h; cases h
        | some ps =>
          simp only [q1, q2] at h
          split at h
          · rename_i c
            cases h
            exact .inr (.inl ⟨p, ps, vx.dp ex q1, vy.dp ex (by rw [toPy, q2]; rfl), c.1, c.2, k⟩)
          · cases h
    unfold inB at h
    cases q1 : B.vOf d with
    | none => simp only [q1] at h; exact deep h
    | some u =>
      cases q2 : B.vsOf ds with
      | none => simp only [q1, q2] at h; exact deep h
      | some us =>
        simp only [q1, q2] at h
        obtain ⟨p, xs, rfl, hq, hd⟩ := vy.lstOf ex
        obtain ⟨f1, f2, e0⟩ := flat ds xs u us hd q1 q2 (by cases h; rfl)
        rw [e0] at k
        exact .inl ⟨p, xs, rfl, .inl hq, f1, f2, k⟩
  | dk kvs =>
    obtain ⟨a, ws, rfl, ha, e1, e2⟩ := vy.dkOf ex
    obtain ⟨key, q1, rfl⟩ := Option.map_eq_some_iff.mp h
    rw [← look_none key e1] at k
    rw [vx.key q1]
    exact .inr (.inr (.inl ⟨a, ws, key, rfl, rfl, ha, k⟩))
  | dn kvs =>
    obtain ⟨a, ws, rfl, ha, e1, e2⟩ := vy.dnOf ex
    obtain ⟨key, q1, rfl⟩ := Option.map_eq_some_iff.mp h
    obtain ⟨b, rfl, n, hd⟩ := vx.tk q1
    rw [← look_none key e1] at k
    exact .inr (.inr (.inr (.inl ⟨F, a, b, ws, key, rfl, rfl, ex, ha, n, hd, k⟩)))
  | str j =>
    cases d with
    | str i =>
      cases h
      exact .inr (.inr (.inr (.inr ⟨i, j, vx.strOf, vy.strOf, k⟩)))
    | _ => cases h
  | _ => cases h
theorem od_in : OpD P w K (rInAll P w K false) inD := by
  intro F H x y d e z Q ex vx vy hf k
  obtain ⟨b, e1, rfl⟩ := Option.map_eq_some_iff.mp hf
  exact in_ok ex vx vy e1 (k _ F H (.refl ex) (.bl _))
theorem od_notin : OpD P w K (rInAll P w K true) notinD := by
  intro F H x y d e z Q ex vx vy hf k
  obtain ⟨b, e1, rfl⟩ := Option.map_eq_some_iff.mp hf
  exact in_ok ex vx vy e1 (k _ F H (.refl ex) (.bl _))
end
theorem lvl {k : Nat} {A : Around} (r : Room k A) : A.units + 65 < cLine := by have := r.un; omega
theorem se_lt (ha : SB X a ba) (hb : SB X b bb) : SE X (.Compare a [.Lt] [b] pos) (binF ltD ba bb) := se_cmp op_lt od_bools0 ha hb (nomark _)
theorem se_le (ha : SB X a ba) (hb : SB X b bb) : SE X (.Compare a [.LtE] [b] pos) (binF leD ba bb) := se_cmp op_le od_bools0 ha hb (nomark _)
theorem se_gt (ha : SB X a ba) (hb : SB X b bb) : SE X (.Compare a [.Gt] [b] pos) (binF gtD ba bb) := se_cmp op_gt od_bools0 ha hb (nomark _)
theorem se_ge (ha : SB X a ba) (hb : SB X b bb) : SE X (.Compare a [.GtE] [b] pos) (binF geD ba bb) := se_cmp op_ge od_bools0 ha hb (nomark _)
theorem se_eq {k : Nat} (hr : Room k X.A) (ha : SB X a ba) (hb : SB X b bb) : SE X (.Compare a [.Eq] [b] pos) (binF eqD ba bb) := se_cmp (op_eqD (by have := lvl hr; omega)) od_eq ha hb (nomark _)
theorem se_ne {k : Nat} (hr : Room k X.A) (ha : SB X a ba) (hb : SB X b bb) : SE X (.Compare a [.NotEq] [b] pos) (binF neD ba bb) := se_cmp (op_neD (by have := lvl hr; omega)) od_ne ha hb (nomark _)
theorem se_is (ha : SB X a ba) (hb : SB X b bb) : SE X (.Compare a [.Is] [b] pos) (binF isD ba bb) := se_cmp op_isN od_is ha hb (nomark _)
theorem se_isnot (ha : SB X a ba) (hb : SB X b bb) : SE X (.Compare a [.IsNot] [b] pos) (binF isnotD ba bb) := se_cmp op_notN od_isnot ha hb (nomark _)
theorem se_in {k : Nat} (hr : Room k X.A) (ha : SB X a ba) (hb : SB X b bb) (hm : behindInMarks .In b = false := by rfl) : SE X (.Compare a [.In] [b] pos) (binF inD ba bb) := se_cmp (op_inAll (lvl hr)) od_in ha hb hm
theorem se_notin {k : Nat} (hr : Room k X.A) (ha : SB X a ba) (hb : SB X b bb) (hm : behindInMarks .NotIn b = false := by rfl) : SE X (.Compare a [.NotIn] [b] pos) (binF notinD ba bb) := se_cmp (op_notInAll (lvl hr)) od_notin ha hb hm
/-- a comparison as a test -/
theorem st_lt (ha : SB X a ba) (hb : SB X b bb) : ST X (.Compare a [.Lt] [b] pos) (testF (binF ltD ba bb)) := st_cmp op_lt od_bools0 ha hb (nomark _)
theorem st_le (ha : SB X a ba) (hb : SB X b bb) : ST X (.Compare a [.LtE] [b] pos) (testF (binF leD ba bb)) := st_cmp op_le od_bools0 ha hb (nomark _)
theorem st_gt (ha : SB X a ba) (hb : SB X b bb) : ST X (.Compare a [.Gt] [b] pos) (testF (binF gtD ba bb)) := st_cmp op_gt od_bools0 ha hb (nomark _)
theorem st_ge (ha : SB X a ba) (hb : SB X b bb) : ST X (.Compare a [.GtE] [b] pos) (testF (binF geD ba bb)) := st_cmp op_ge od_bools0 ha hb (nomark _)
theorem st_eq {k : Nat} (hr : Room k X.A) (ha : SB X a ba) (hb : SB X b bb) : ST X (.Compare a [.Eq] [b] pos) (testF (binF eqD ba bb)) := st_cmp (op_eqD (by have := lvl hr; omega)) od_eq ha hb (nomark _)
theorem st_ne {k : Nat} (hr : Room k X.A) (ha : SB X a ba) (hb : SB X b bb) : ST X (.Compare a [.NotEq] [b] pos) (testF (binF neD ba bb)) := st_cmp (op_neD (by have := lvl hr; omega)) od_ne ha hb (nomark _)
theorem st_is (ha : SB X a ba) (hb : SB X b bb) : ST X (.Compare a [.Is] [b] pos) (testF (binF isD ba bb)) := st_cmp op_isN od_is ha hb (nomark _)
theorem st_isnot (ha : SB X a ba) (hb : SB X b bb) : ST X (.Compare a [.IsNot] [b] pos) (testF (binF isnotD ba bb)) := st_cmp op_notN od_isnot ha hb (nomark _)
theorem st_in {k : Nat} (hr : Room k X.A) (ha : SB X a ba) (hb : SB X b bb) (hm : behindInMarks .In b = false := by rfl) : ST X (.Compare a [.In] [b] pos) (testF (binF inD ba bb)) := st_cmp (op_inAll (lvl hr)) od_in ha hb hm
theorem st_notin {k : Nat} (hr : Room k X.A) (ha : SB X a ba) (hb : SB X b bb) (hm : behindInMarks .NotIn b = false := by rfl) : ST X (.Compare a [.NotIn] [b] pos) (testF (binF notinD ba bb)) := st_cmp (op_notInAll (lvl hr)) od_notin ha hb hm

/-! ### subscripts -/
def ixD (d e : D) : Option D := match d, e with
  | .lst ds, .int i => atI ds i
  | .tup ds, .int i => atI ds i
  | .str x, .int i => if x.length ≤ cap then (atI x.cps.toList i).map fun c => .str ⟨#[c]⟩ else none
  | .dk kvs, k => (toKey k).bind (look kvs)
  | .dn kvs, k => (toTK k).bind (look kvs)
  | _, _ => none
theorem atI_rel {P : Program} {w : World} {K : PySem.W.Frag} {F : Hp} {vs : List V} {ds : List D} {i : Int} {d : D} (h : DatL P w K F vs ds) (e : atI ds i = some d) : ∃ v, atI vs i = some v ∧ Dat P w K F v d := by
  unfold atI at e ⊢
  rw [h.length]
  obtain ⟨j, e1, e2⟩ := Option.bind_eq_some_iff.mp e
  obtain ⟨v, h1, h2⟩ := h.get e2
  exact ⟨v, Option.bind_eq_some_iff.mpr ⟨j, e1, h1⟩, h2⟩
def rIxAll (P : Program) (w : World) (K : PySem.W.Frag) : R2 := fun x y H Q => rIx K x y H Q ∨ (∃ a ws k v, x = .ref a ∧ y = kV k ∧ DkAt P w K H a ws ∧ look ws k = some v ∧ Q v H) ∨ (∃ F a b ws k v, x = .ref a ∧ y = .ref b ∧ Ex F H ∧ DnAt P w K F H a ws ∧ NKey K F (.ref b) k ∧ k.depth ≤ 8 ∧ look ws k = some v ∧ Q v H)
theorem ix_all (hu : X.A.units + 65 < cLine) : IxR X (rIxAll X.prog X.w X.K) := by
  intro value slice pins s σ H x y v u Q I rx ry h hs
  rcases h with h | ⟨a, ws, k, v', rfl, rfl, h2, h5, q⟩ | ⟨F, a, b, ws, k, v', rfl, rfl, ex, h2, h3, h4, h5, q⟩
  · exact ix_seq value slice pins s σ H x y v u Q I rx ry h hs
  · cases rx
    exact tail_any (dk_type I h2) slot_dict_getitem.lookup (dk_getItem I h2 ry h5 fun w' s' I' r => ⟨v', H, I', r, q⟩) hs
  · cases rx
    exact tail_any (dn_type I ex h2) slot_dict_getitem.lookup (dn_getItem (by omega) I ex h2 ry h3 h4 h5 fun w' s' I' r => ⟨v', H, I', r, q⟩) hs
theorem od_ix {P : Program} {w : World} {K : PySem.W.Frag} : OpD P w K (rIxAll P w K) ixD := by
  intro F H x y d e z Q ex vx vy hf k
  unfold ixD at hf
  split at hf
  · obtain ⟨a, xs, rfl, hq, hd⟩ := vx.lstOf ex
    obtain ⟨v, h1, h2⟩ := atI_rel hd hf
    exact .inl (.inl ⟨a, xs, _, v, rfl, vy.intOf, hq, h1, k v F H (.refl ex) h2⟩)
  · obtain ⟨a, xs, rfl, hq, hd⟩ := vx.tupOf ex
    obtain ⟨v, h1, h2⟩ := atI_rel hd hf
    exact .inl (.inr (.inl ⟨a, xs, _, v, rfl, vy.intOf, hq, h1, k v F H (.refl ex) h2⟩))
  · split at hf
    · rename_i c
      obtain ⟨ch, e1, rfl⟩ := Option.map_eq_some_iff.mp hf
      exact .inl (.inr (.inr ⟨_, _, ch, vx.strOf, vy.intOf, cap_le c, e1, k _ F H (.refl ex) (.str _)⟩))
    · cases hf
  · obtain ⟨key, e1, e2⟩ := Option.bind_eq_some_iff.mp hf
    obtain ⟨a, ws, rfl, ha, h1, h2⟩ := vx.dkOf ex
    obtain ⟨v, l, hv⟩ := look_of key h1 h2 e2
    rw [vy.key e1]
    exact .inr (.inl ⟨a, ws, key, v, rfl, rfl, ha, l, k v F H (.refl ex) hv⟩)
  · obtain ⟨key, e1, e2⟩ := Option.bind_eq_some_iff.mp hf
    obtain ⟨a, ws, rfl, ha, h1, h2⟩ := vx.dnOf ex
    obtain ⟨v, l, hv⟩ := look_of key h1 h2 e2
    obtain ⟨b, rfl, n, hd⟩ := vy.tk e1
    exact .inr (.inr ⟨F, a, b, ws, key, v, rfl, rfl, ex, ha, n, hd, l, k v F H (.refl ex) hv⟩)
  · cases hf
theorem se_at {k : Nat} (hr : Room k X.A) (ha : SB X a ba) (hb : SB X b bb) (hs : PlainIx b := by exact fun _ _ => rfl) : SE X (.Subscript a b pos) (binF ixD ba bb) := se_ix (ix_all (lvl hr)) od_ix ha hb hs

/-! ### slices -/
abbrev Of := G → Res (Option Int)
def RdO (P : Program) (w : World) (K : PySem.W.Frag) (f : Of) : TO := fun σ H Q => ∃ g F Gf ow, Rel P w K F H Gf g σ ow ∧ match f g with
  | .bad => False
  | .ok o g' => ∀ F' H' ow', Rel P w K F' H' Gf g' σ ow' → Ex F F' → Q o H'
abbrev SO (X : Cx) (e : Option Expr) (f : Of) : Prop := PO X e (RdO X.prog X.w X.K f)
def noO : Of := fun g => .ok none g
def someO (f : Ef) : Of := fun g => (f g).bd fun l g' => match l with
  | .dat (.int i) => .ok (some i) g'
  | _ => .bad
theorem PO.imp {e : Option Expr} {t t' : TO} (h : PO X e t) (i : ∀ σ H Q, t' σ H Q → t σ H Q) : PO X e t' := ⟨fun pins s σ H Q I q => h.run pins s σ H Q I (i σ H Q q)⟩
theorem so_none : SO X none noO := PO.imp po_none fun σ H Q ⟨g, F, Gf, ow, R, h⟩ => h F H ow R (Ex.refl _)
theorem so_some (he : SE X e f) : SO X (some e) (someO f) := by
  refine PO.imp (po_some he) fun σ H Q ⟨g, F, Gf, ow, R, h⟩ => ?_
  unfold someO at h
  cases q : f g with
  | bad => simp only [Res.bd, q] at h
  | ok l g1 =>
    simp only [Res.bd, q] at h
    refine RdE.of R q fun v F' H' ow' ad R' ex hl ap => ?_
    cases l with
    | dat d => cases d with
      | int i => exact ⟨i, (View.dat (H := H') hl.2).intOf, h F' H' ow' R' ex⟩
      | _ => exact h.elim
    | _ => exact h.elim
def cutD (ds : List D) (lo hi : Option Int) : List D := (ds.drop (HT.sIx ds.length 0 lo)).take (HT.sIx ds.length ds.length hi - HT.sIx ds.length 0 lo)
theorem cut_rel {P : Program} {w : World} {K : PySem.W.Frag} {F : Hp} {vs : List V} {ds : List D} (h : DatL P w K F vs ds) (lo hi : Option Int) : DatL P w K F (cutV vs lo hi) (cutD ds lo hi) := by
  unfold cutV cutD
  rw [h.length]
  exact (h.drop _).take _
theorem cut_all {α : Type} (xs : List α) (lo hi : Option Int) (h : HT.sIx xs.length 0 lo = 0 ∧ HT.sIx xs.length xs.length hi = xs.length) : (xs.drop (HT.sIx xs.length 0 lo)).take (HT.sIx xs.length xs.length hi - HT.sIx xs.length 0 lo) = xs := by
  rw [h.1, h.2, Nat.sub_zero, List.drop_zero, List.take_length]
/-- x[lo:hi] of a tuple, a list (a new one), a text -/
def sliceF (fb : Bf) (lo hi : Of) : Ef := fun g => (fb g).bd fun p g1 => (lo g1).bd fun l g2 => (hi g2).bd fun h g3 => match resolve g3 p with
  | some (.tup ds) => .ok (.dat (.tup (cutD ds l h))) g3
  | some (.lst ds) => .ok (.lst (cutD ds l h)) g3
  | some (.str x) => if x.length ≤ cap then .ok (.dat (.str (cutS x l h))) g3 else .bad
  | _ => .bad
def rSlAll (K : PySem.W.Frag) : V → Option Int → Option Int → Hp → VK → Prop := fun x lo hi H Q => rSlA K x lo hi H Q ∨ (rSlL K x lo hi H Q ∨ (∃ z, x = .str z ∧ z.length ≤ sizeLine ∧ Q (.str (cutS z lo hi)) H))
theorem sl_all : SlR X (rSlAll X.K) := sl_tupA.or (sl_list.or sl_str)
theorem se_slice {lo hi : Option Expr} {ol oh : Of} {p2 : Pos} (he : SB X e ba) (hl : SO X lo ol) (hh : SO X hi oh) : SE X (.Subscript e (.Slice lo hi none p2) pos) (sliceF ba ol oh) := by
  refine PE.imp (pe_slice sl_all he hl hh) fun σ H Q ⟨g, F, Gf, ow, R, h⟩ => ?_
  unfold sliceF at h
  cases q : ba g with
  | bad => simp only [Res.bd, q] at h
  | ok p g1 =>
    simp only [Res.bd, q] at h
    refine RdB.of R q fun v F1 H1 ow1 R1 ex1 pv => ?_
    cases q2 : ol g1 with
    | bad => simp only [q2] at h
    | ok l g2 =>
      simp only [q2] at h
      refine ⟨g1, F1, Gf, ow1, R1, ?_⟩
      rw [q2]
      intro F2 H2 ow2 R2 ex2
      cases q3 : oh g2 with
      | bad => simp only [q3] at h
      | ok u g3 =>
        simp only [q3] at h
        refine ⟨g2, F2, Gf, ow2, R2, ?_⟩
        rw [q3]
        intro F3 H3 ow3 R3 ex3
        cases e1 : resolve g3 p with
        | none => simp only [e1] at h
        | some d =>
          have vw := (pv.mono (ex2.trans ex3)).view R3 e1
          have exA : Ex F F3 := (ex1.trans ex2).trans ex3
          cases d with
          | tup ds =>
            simp only [e1] at h
            obtain ⟨a, xs, rfl, hq, hd⟩ := vw.tupOf R3.ex
            refine .inl ⟨a, xs, rfl, hq, fun c => ?_, fun c p hp => ?_⟩
            · have e2 : cutD ds l u = ds := cut_all ds l u (by rw [← hd.length]; exact c)
              rw [e2] at h
              cases vw with
              | dat hh => exact h _ F3 H3 ow3 [] R3 exA ⟨rfl, hh⟩ .nil
            · have gr := Grow.put (o := .tup (cutV xs l u)) R3.ex hp
              exact h _ _ _ ow3 [] (R3.grow gr) (exA.trans gr.f) ⟨rfl, .tup (.inl (.inl upd_same)) ((cut_rel hd l u).mono gr.f)⟩ .nil
          | lst ds =>
            simp only [e1] at h
            obtain ⟨a, xs, rfl, hq, hd⟩ := vw.lstOf R3.ex
            refine .inr (.inl ⟨a, xs, rfl, hq, fun p hp => ?_⟩)
            exact h _ F3 _ ow3 [p] (R3.own hp) exA ⟨p, _, rfl, rfl, upd_same, cut_rel hd l u⟩ (R3.apart1 hp)
          | str x =>
            simp only [e1] at h
            by_cases c : x.length ≤ cap
            · rw [if_pos c] at h
              exact .inr (.inr ⟨x, vw.strOf, cap_le c, h _ F3 H3 ow3 [] R3 exA ⟨rfl, .str _⟩ .nil⟩)
            · rw [if_neg c] at h
              exact h.elim
          | _ => simp only [e1] at h
end
end B

set_option maxHeartbeats 4000000
/-! Calls of built-ins, attributes, methods of lists and dicts. -/
namespace B
open PySem PySem.Spec PyProof.Rows L2

abbrev Pf := G → Res (List Pl)
def RdP (P : Program) (w : World) (K : PySem.W.Frag) (f : Pf) : TA := fun σ H Q => ∃ g F Gf ow, Rel P w K F H Gf g σ ow ∧ match f g with
  | .bad => False
  | .ok ps g' => ∀ vs F' H' ow', Rel P w K F' H' Gf g' σ ow' → Ex F F' → Paired (PlV P w K F' σ) vs ps → Q vs H'
abbrev SPs (X : Cx) (es : List Expr) (f : Pf) : Prop := PA X es (RdP X.prog X.w X.K f)
def nilP : Pf := fun g => .ok [] g
def consP (b : Bf) (r : Pf) : Pf := fun g => (b g).bd fun p g1 => (r g1).bd fun ps g2 => .ok (p :: ps) g2
section
variable {X : Cx} {e a : Expr} {es : List Expr} {ba bb : Bf} {pf : Pf} {fa : Ef} {pos p : Pos}
theorem sp_nil : SPs X [] nilP := PA.imp pa_nil fun σ H Q ⟨g, F, Gf, ow, R, h⟩ => h [] F H ow R (Ex.refl _) .nil
theorem sp_cons (he : SB X e ba) (hr : SPs X es pf) (hs : starEach (e :: es) X.env = (false, eval e X.env) :: starEach es X.env := by rfl) : SPs X (e :: es) (consP ba pf) := by
  refine PA.imp (pa_cons he hr hs) fun σ H Q ⟨g, F, Gf, ow, R, h⟩ => ?_
  unfold consP at h
  cases q : ba g with
  | bad => simp only [Res.bd, q] at h
  | ok l g1 =>
    simp only [Res.bd, q] at h
    refine RdB.of R q fun v F1 H1 ow1 R1 ex1 pv => ?_
    refine ⟨g1, F1, Gf, ow1, R1, ?_⟩
    cases q2 : pf g1 with
    | bad => simp only [q2] at h
    | ok ds g2 =>
      simp only [q2] at h
      exact fun vs F3 H3 ow3 R3 ex3 hds => h _ F3 H3 ow3 R3 (ex1.trans ex3) (.cons (pv.mono ex3) hds)
end

def resolves (g : G) : List Pl → Option (List D)
  | [] => some []
  | p :: ps => match resolve g p, resolves g ps with
    | some d, some ds => some (d :: ds)
    | _, _ => none
theorem resolves_ok {P : Program} {w : World} {K : PySem.W.Frag} {F H Gf : Hp} {g : G} {σ : L2.St} {ow : Nat → List Addr} (R : Rel P w K F H Gf g σ ow) : ∀ {vs : List V} {ps : List Pl} {ds : List D}, Paired (PlV P w K F σ) vs ps → resolves g ps = some ds → Paired (View P w K F H) vs ds
  | _, _, ds, .nil, e => by cases e; exact .nil
  | _, _, ds, @Paired.cons _ _ _ v p vs ps h t, e => by
    unfold resolves at e
    cases e1 : resolve g p with
    | none => simp only [e1] at e; cases e
    | some d =>
      cases e2 : resolves g ps with
      | none => simp only [e1, e2] at e; cases e
      | some ds' =>
        simp only [e1, e2] at e
        cases e
        exact .cons (h.view R e1) (resolves_ok R t e2)

/-- new objects: data, and those of a value -/
structure New (F H F' H' : Hp) (ad : List Addr) : Prop where
  gr : Grow F H F' H'
  fresh : ∀ a ∈ ad, H a = none ∧ F' a = none
theorem New.apart {P : Program} {w : World} {K : PySem.W.Frag} {F H F' H' Gf : Hp} {ad : List Addr} {g : G} {σ : L2.St} {ow : Nat → List Addr} (R : Rel P w K F H Gf g σ ow) (n : New F H F' H' ad) : Apart F' Gf ow ad := fun a ha => by
  obtain ⟨h1, h2⟩ := n.fresh a ha
  obtain ⟨_, h3, h4⟩ := R.free h1
  exact ⟨h2, h3, h4⟩
theorem New.nil {F H : Hp} (e : Ex F H) : New F H F H [] := ⟨.refl e, fun _ h => by cases h⟩
theorem New.put {F H : Hp} {p : Addr} {o : HO} (e : Ex F H) (hp : H p = none) : New F H (upd F p o) (upd H p o) [] := ⟨.put e hp, fun _ h => by cases h⟩
theorem New.one {F H : Hp} {p : Addr} {o : HO} (e : Ex F H) (hp : H p = none) : New F H F (upd H p o) [p] :=
  ⟨⟨Ex.refl _, Ex.new hp, e.trans (Ex.new hp), fun a h h' => absurd h h'⟩, fun a ha => by cases List.mem_singleton.mp ha; exact ⟨hp, e.free hp⟩⟩

def CallD (P : Program) (w : World) (K : PySem.W.Frag) (r : List V → Hp → VK → Prop) (f : List D → Option L) : Prop :=
  ∀ (F H : Hp) (xs : List V) (ds : List D) (l : L) (Q : VK), Ex F H → Paired (View P w K F H) xs ds → f ds = some l →
    (∀ v F' H' ad, New F H F' H' ad → HasL P w K F' H' v l ad → Q v H') → r xs H Q
def callBF (f : List D → Option L) (pf : Pf) : Ef := fun g => (pf g).bd fun ps g1 => match resolves g1 ps with
  | some ds => match f ds with
    | some l => .ok l g1
    | none => .bad
  | none => .bad
theorem callB_rd {P : Program} {w : World} {K : PySem.W.Frag} {r : List V → Hp → VK → Prop} {f : List D → Option L} {pf : Pf} {σ : L2.St} {H : Hp} {Q : VK} (hr : CallD P w K r f) (h : RdE P w K (callBF f pf) σ H Q) : tCB r (RdP P w K pf) σ H Q := by
  obtain ⟨g, F, Gf, ow, R, h⟩ := h
  unfold callBF at h
  refine ⟨g, F, Gf, ow, R, ?_⟩
  cases q : pf g with
  | bad => rw [q] at h; exact h.elim
  | ok ps g1 =>
    simp only [Res.bd, q] at h
    intro vs F1 H1 ow1 R1 ex1 pv
    cases e1 : resolves g1 ps with
    | none => simp only [e1] at h
    | some ds =>
      simp only [e1] at h
      cases e2 : f ds with
      | none => simp only [e2] at h
      | some l =>
        simp only [e2] at h
        refine hr F1 H1 vs ds l Q R1.ex (resolves_ok R1 pv e1) e2 fun v F2 H2 ad n hl => ?_
        exact h v F2 H2 ow1 ad (R1.grow n.gr) (ex1.trans n.gr.f) hl (n.apart R1)
section
variable {X : Cx} {e a : Expr} {es : List Expr} {ba bb : Bf} {pf : Pf} {fa : Ef} {pos p : Pos} {x : Str} {id T : String} {r : List V → Hp → VK → Prop} {f : List D → Option L}
theorem se_callB (hc : CallR X (.builtin id) r) (hd : CallD X.prog X.w X.K r f) (hv : bootBuiltins x = some (.builtin id)) (hg : Gl X x) (hm : X.mg x = none) (ha : SPs X (e :: es) pf) (hn : x ≠ "__name__" := by decide) (hdb : (x == ("__debug__" : Str)) = false := by decide)
    (he : starEach (e :: es) X.env = (false, eval e X.env) :: starEach es X.env := by rfl) (hpl : (backTo pos (starEach es X.env)).any (·.1) = false := by rfl) : SE X (.Call (.Name x p) (e :: es) [] pos) (callBF f pf) :=
  PE.imp (pe_callB hc hg hm hv ha hn hdb he hpl) fun _ _ _ h => callB_rd hd h
theorem se_callTy (hc : CallR X (.type T) r) (hd : CallD X.prog X.w X.K r f) (hv : bootBuiltins x = some (.type T)) (hg : Gl X x) (hm : X.mg x = none) (ha : SPs X (e :: es) pf) (hn : x ≠ "__name__" := by decide) (hdb : (x == ("__debug__" : Str)) = false := by decide)
    (he : starEach (e :: es) X.env = (false, eval e X.env) :: starEach es X.env := by rfl) (hpl : (backTo pos (starEach es X.env)).any (·.1) = false := by rfl) : SE X (.Call (.Name x p) (e :: es) [] pos) (callBF f pf) :=
  PE.imp (pe_callTy hc hg hm hv ha hn hdb he hpl) fun _ _ _ h => callB_rd hd h

/-! ### len -/
def lenD : List D → Option L
  | [.str z] => if z.length ≤ cap then some (.dat (.int z.length)) else none
  | [.tup ds] => some (.dat (.int ds.length))
  | [.lst ds] => some (.dat (.int ds.length))
  | [.dk kvs] => some (.dat (.int kvs.length))
  | [.dn kvs] => some (.dat (.int kvs.length))
  | _ => none
def rLenA (P : Program) (w : World) (K : PySem.W.Frag) : List V → Hp → VK → Prop := fun xs H Q => (∃ x n, xs = [x] ∧ LenV K x H n ∧ Q (.int n) H) ∨ ((∃ a ws, xs = [.ref a] ∧ DkAt P w K H a ws ∧ Q (.int ws.length) H) ∨ ∃ F a ws, xs = [.ref a] ∧ Ex F H ∧ DnAt P w K F H a ws ∧ Q (.int ws.length) H)
theorem call_lenA : CallR X (.builtin "len") (rLenA X.prog X.w X.K) := by
  refine CallR.or call_len (CallR.or ?_ ?_)
  · intro pins s σ H xs us Q I r h
    obtain ⟨a, ws, rfl, hd, q⟩ := h
    obtain ⟨u, rfl, rx⟩ := vals1 r
    obtain rfl : u = Value.ref a := rx
    obtain ⟨z, hs, vs, rel, dd⟩ := hd.dict I
    have hl := line63
    refine call_len_dict hs dd (by rw [← rel.length]; omega) ⟨.int ws.length, H, I.tok _, ⟨_, by rw [rel.length]⟩, q⟩
  · intro pins s σ H xs us Q I r h
    obtain ⟨F, a, ws, rfl, ex, hd, q⟩ := h
    obtain ⟨u, rfl, rx⟩ := vals1 r
    obtain rfl : u = Value.ref a := rx
    obtain ⟨h6, h7, xs, hx, hp⟩ := hd.dict I ex
    have hl := line63
    have e := Paired.length hp
    refine call_len_slot (n := (ws.length : Int)) hx.typeIs PySem.F.slot_dict_len (fun Q' hq => len_keyed (knd := nestedKind X.prog X.w) h6 ⟨xs, hx, rfl⟩ (by show Q' (.int (((xs.map fun p => (p.1, p.2.2)).length : Nat) : Int) s.toks) _; rw [List.length_map, ← e]; exact hq)) (by omega) (by omega) ⟨.int ws.length, H, I.tok _, ⟨_, rfl⟩, q⟩
theorem cd_len {P : Program} {w : World} {K : PySem.W.Frag} : CallD P w K (rLenA P w K) lenD := by
  intro F H xs ds l Q ex hv hf k
  have fin : ∀ n : Int, l = .dat (.int n) → Q (.int n) H := fun n e => by
    subst e
    exact k _ F H [] (.nil ex) ⟨rfl, .int n⟩
  cases hv with
  | nil => cases hf
  | @cons v d vs ds hd t =>
    cases t with
    | cons _ _ => cases d <;> cases hf
    | nil =>
      cases d with
      | str z =>
        simp only [lenD] at hf
        by_cases hz : z.length ≤ cap
        · rw [if_pos hz] at hf
          cases hf
          obtain rfl := hd.strOf
          exact .inl ⟨_, _, rfl, ⟨cap_le hz, rfl⟩, fin _ rfl⟩
        · rw [if_neg hz] at hf; cases hf
      | tup xs =>
        cases hf
        obtain ⟨a, ys, rfl, hq, hl⟩ := hd.tupOf ex
        refine .inl ⟨_, ys.length, rfl, .inr ⟨_, hq, rfl⟩, ?_⟩
        rw [hl.length]; exact fin _ rfl
      | lst xs =>
        cases hf
        obtain ⟨a, ys, rfl, hq, hl⟩ := hd.lstOf ex
        refine .inl ⟨_, ys.length, rfl, .inl ⟨_, hq, rfl⟩, ?_⟩
        rw [hl.length]; exact fin _ rfl
      | dk kvs =>
        cases hf
        obtain ⟨a, ws, rfl, hq, e1, _⟩ := hd.dkOf ex
        refine .inr (.inl ⟨_, ws, rfl, hq, ?_⟩)
        have e2 : ws.length = kvs.length := by simpa using congrArg List.length e1
        rw [e2]; exact fin _ rfl
      | dn kvs =>
        cases hf
        obtain ⟨a, ws, rfl, hq, e1, _⟩ := hd.dnOf ex
        refine .inr (.inr ⟨F, _, ws, rfl, ex, hq, ?_⟩)
        have e2 : ws.length = kvs.length := by simpa using congrArg List.length e1
        rw [e2]; exact fin _ rfl
      | _ => cases hf
theorem se_len (hg : Gl X "len") (hm : X.mg "len" = none) (ha : SPs X [a] pf) (he : starEach [a] X.env = (false, eval a X.env) :: starEach [] X.env := by rfl) : SE X (.Call (.Name "len" p) [a] [] pos) (callBF lenD pf) :=
  se_callB call_lenA cd_len boot_len hg hm ha (by decide) (by decide) he rfl

/-! ### int, tuple, list, dict -/
def intD : List D → Option L
  | [.int i] => some (.dat (.int i))
  | [.bl b] => some (.dat (.int (if b then 1 else 0)))
  | _ => none
theorem cd_int {P : Program} {w : World} {K : PySem.W.Frag} : CallD P w K (fun xs H Q => (∃ i, xs = [.int i] ∧ Q (.int i) H) ∨ ∃ k, xs = [.bl k] ∧ Q (.int (if k then 1 else 0)) H) intD := by
  intro F H xs ds l Q ex hv hf k
  have fin : ∀ n : Int, l = .dat (.int n) → Q (.int n) H := fun n e => by
    subst e
    exact k _ F H [] (.nil ex) ⟨rfl, .int n⟩
  cases hv with
  | nil => cases hf
  | @cons v d vs ds hd t =>
    cases t with
    | cons _ _ => cases d <;> cases hf
    | nil =>
      cases d with
      | int i => cases hf; obtain rfl := hd.intOf; exact .inl ⟨_, rfl, fin _ rfl⟩
      | bl b => cases hf; obtain rfl := hd.blOf; exact .inr ⟨_, rfl, fin _ rfl⟩
      | _ => cases hf
theorem se_int1 (hg : Gl X "int") (hm : X.mg "int" = none) (ha : SPs X [a] pf) (he : starEach [a] X.env = (false, eval a X.env) :: starEach [] X.env := by rfl) : SE X (.Call (.Name "int" p) [a] [] pos) (callBF intD pf) :=
  se_callTy call_int1 cd_int PyProof.Rows.boot_int hg hm ha (by decide) (by decide) he rfl
def tupleD : List D → Option L
  | [.tup ds] => some (.dat (.tup ds))
  | [.lst ds] => some (.dat (.tup ds))
  | _ => none
theorem cd_tuple {P : Program} {w : World} {K : PySem.W.Frag} : CallD P w K (fun xs H Q => ∃ p ys, xs = [.ref p] ∧ ((SqL K H p ys ∧ ∀ l, H l = none → Q (.ref l) (upd H l (.tup ys))) ∨ (SqT K H p ys ∧ Q (.ref p) H))) tupleD := by
  intro F H xs ds l Q ex hv hf k
  cases hv with
  | nil => cases hf
  | @cons v d vs ds hd t =>
    cases t with
    | cons _ _ => cases d <;> cases hf
    | nil =>
      cases d with
      | tup xs =>
        cases hf
        cases hd with
        | dat hd =>
          cases id hd with
          | @tup a ys _ hq hl => exact ⟨a, ys, rfl, .inr ⟨ex.sqT hq, k _ F H [] (.nil ex) ⟨rfl, hd⟩⟩⟩
      | lst xs =>
        cases hf
        obtain ⟨a, ys, rfl, hq, hl⟩ := hd.lstOf ex
        refine ⟨a, ys, rfl, .inl ⟨hq, fun p hp => ?_⟩⟩
        exact k _ _ _ [] (.put ex hp) ⟨rfl, .tup (.inl (.inl upd_same)) (hl.mono (Ex.new (ex.free hp)))⟩
      | _ => cases hf
theorem se_tuple1 (hg : Gl X "tuple") (hm : X.mg "tuple" = none) (ha : SPs X [a] pf) (he : starEach [a] X.env = (false, eval a X.env) :: starEach [] X.env := by rfl) : SE X (.Call (.Name "tuple" p) [a] [] pos) (callBF tupleD pf) :=
  se_callTy call_tuple_of cd_tuple PyProof.Rows.boot_tuple hg hm ha (by decide) (by decide) he rfl
def listD : List D → Option L
  | [.tup ds] => some (.lst ds)
  | [.lst ds] => some (.lst ds)
  | _ => none
theorem cd_list {P : Program} {w : World} {K : PySem.W.Frag} : CallD P w K (fun xs H Q => ∃ p ys, xs = [.ref p] ∧ (SqL K H p ys ∨ SqT K H p ys) ∧ ∀ l, H l = none → Q (.ref l) (upd H l (.lst ys))) listD := by
  intro F H xs ds l Q ex hv hf k
  cases hv with
  | nil => cases hf
  | @cons v d vs ds hd t =>
    cases t with
    | cons _ _ => cases d <;> cases hf
    | nil =>
      cases d with
      | tup xs =>
        cases hf
        obtain ⟨a, ys, rfl, hq, hl⟩ := hd.tupOf ex
        exact ⟨a, ys, rfl, .inr hq, fun p hp => k _ F _ [p] (.one ex hp) ⟨p, ys, rfl, rfl, upd_same, hl⟩⟩
      | lst xs =>
        cases hf
        obtain ⟨a, ys, rfl, hq, hl⟩ := hd.lstOf ex
        exact ⟨a, ys, rfl, .inl hq, fun p hp => k _ F _ [p] (.one ex hp) ⟨p, ys, rfl, rfl, upd_same, hl⟩⟩
      | _ => cases hf
theorem se_list1 (hg : Gl X "list") (hm : X.mg "list" = none) (ha : SPs X [a] pf) (he : starEach [a] X.env = (false, eval a X.env) :: starEach [] X.env := by rfl) : SE X (.Call (.Name "list" p) [a] [] pos) (callBF listD pf) :=
  se_callTy call_list_of cd_list PyProof.Rows.boot_list hg hm ha (by decide) (by decide) he rfl
def dictD : List D → Option L
  | [.dk kvs] => some (.dk kvs)
  | _ => none
theorem call_dictA : CallR X (.type "dict") (fun xs H Q => ∃ a ws, xs = [.ref a] ∧ DkAt X.prog X.w X.K H a ws ∧ ∀ p, H p = none → Q (.ref p) (upd H p (.dK ws))) := by
  intro pins s σ H xs us Q I r h
  obtain ⟨a, ws, rfl, hd, q⟩ := h
  obtain ⟨u, rfl, rx⟩ := vals1 r
  obtain rfl : u = Value.ref a := rx
  exact dk_copy I hd fun p s' hp I' => ⟨.ref p, _, I', rfl, q p hp⟩
theorem cd_dict {P : Program} {w : World} {K : PySem.W.Frag} : CallD P w K (fun xs H Q => ∃ a ws, xs = [.ref a] ∧ DkAt P w K H a ws ∧ ∀ p, H p = none → Q (.ref p) (upd H p (.dK ws))) dictD := by
  intro F H xs ds l Q ex hv hf k
  cases hv with
  | nil => cases hf
  | @cons v d vs ds hd t =>
    cases t with
    | cons _ _ => cases d <;> cases hf
    | nil =>
      cases d with
      | dk kvs =>
        cases hf
        obtain ⟨a, ws, rfl, hq, e1, e2⟩ := hd.dkOf ex
        exact ⟨a, ws, rfl, hq, fun p hp => k _ F _ [p] (.one ex hp) ⟨p, ws, rfl, rfl, upd_same, e1, e2⟩⟩
      | _ => cases hf
theorem se_dict1 (hg : Gl X "dict") (hm : X.mg "dict" = none) (ha : SPs X [a] pf) (he : starEach [a] X.env = (false, eval a X.env) :: starEach [] X.env := by rfl) : SE X (.Call (.Name "dict" p) [a] [] pos) (callBF dictD pf) :=
  se_callTy call_dictA cd_dict PyProof.Rows.boot_dict hg hm ha (by decide) (by decide) he rfl

/-! ### one operand: attributes, xs[::-1], len(set(xs)), isinstance -/
/-- a one-place reading, by data -/
def UnD (P : Program) (w : World) (K : PySem.W.Frag) (r : V → Hp → VK → Prop) (f : D → Option L) : Prop :=
  ∀ (F H : Hp) (x : V) (d : D) (l : L) (Q : VK), Ex F H → View P w K F H x d → f d = some l → (∀ v F' H' ad, New F H F' H' ad → HasL P w K F' H' v l ad → Q v H') → r x H Q
def unF (f : D → Option L) (b : Bf) : Ef := fun g => (b g).bd fun p g1 => match (resolve g1 p).bind f with
  | some l => .ok l g1
  | none => .bad
theorem un_rd {P : Program} {w : World} {K : PySem.W.Frag} {r : V → Hp → VK → Prop} {f : D → Option L} {b : Bf} {σ : L2.St} {H : Hp} {Q : VK} (hr : UnD P w K r f) (h : RdE P w K (unF f b) σ H Q) : RdB P w K b σ H fun x H1 => r x H1 Q := by
  obtain ⟨g, F, Gf, ow, R, h⟩ := h
  unfold unF at h
  cases q : b g with
  | bad => rw [q] at h; exact h.elim
  | ok p g1 =>
    simp only [Res.bd, q] at h
    refine RdB.of R q fun v F1 H1 ow1 R1 ex1 pv => ?_
    cases e1 : resolve g1 p with
    | none => simp only [e1, Option.bind_none] at h
    | some d =>
      simp only [e1, Option.bind_some] at h
      cases e2 : f d with
      | none => simp only [e2] at h
      | some l =>
        simp only [e2] at h
        refine hr F1 H1 v d l Q R1.ex (pv.view R1 e1) e2 fun u F2 H2 ad n hl => ?_
        exact h u F2 H2 ow1 ad (R1.grow n.gr) (ex1.trans n.gr.f) hl (n.apart R1)
def revD : D → Option L
  | .lst ds => some (.lst ds.reverse)
  | _ => none
theorem se_rev {k : Nat} {p1 p2 p3 : Pos} (ha : SB X a ba) : SE X (.Subscript a (.Slice none none (some (.UnaryOp .USub (.Constant (.int 1) k p1) p2)) p3) pos) (unF revD ba) :=
  PE.imp (pe_revL ha) fun σ H Q h => un_rd (r := fun x H1 Q => ∃ a xs, x = .ref a ∧ SqL X.K H1 a xs ∧ ∀ p, H1 p = none → Q (.ref p) (upd H1 p (.lst xs.reverse))) (fun F H x d l Q ex hv hf kk => by
    cases d with
    | lst ds =>
      cases hf
      obtain ⟨a, ys, rfl, hq, hl⟩ := hv.lstOf ex
      exact ⟨a, ys, rfl, hq, fun p hp => kk _ F _ [p] (.one ex hp) ⟨p, _, rfl, rfl, upd_same, hl.rev⟩⟩
    | _ => cases hf) h
/-- the attributes of an instance -/
def fldD (C : Str) (f : Str) (d : D) : Option L := match d with
  | .obj C' fs => if C' = C then (fs.lookup f).map .dat else none
  | _ => none
theorem lookup_rel {P : Program} {w : World} {K : PySem.W.Frag} {F : Hp} (f : Str) : ∀ {ws : List (Str × V)} {fs : List (Str × D)}, ws.map (·.1) = fs.map (·.1) → DatL P w K F (ws.map (·.2)) (fs.map (·.2)) → ∀ {d : D}, fs.lookup f = some d → ∃ v, ws.lookup f = some v ∧ Dat P w K F v d
  | [], [], _, _, d, h => by cases h
  | [], _ :: _, e, _, _, _ => by cases e
  | _ :: _, [], e, _, _, _ => by cases e
  | (k, v) :: ws, (k', d') :: fs, e, t, d, h => by
    rw [List.map_cons, List.map_cons] at e
    injection e with e1 e2
    have e1 : k = k' := e1
    subst e1
    cases t with
    | cons t1 t2 =>
      by_cases q : f = k
      · subst q
        rw [List.lookup_cons_self] at h
        cases h
        exact ⟨v, List.lookup_cons_self, t1⟩
      · have b : (f == k) = false := beq_eq_false_iff_ne.mpr q
        simp only [List.lookup, b] at h ⊢
        exact lookup_rel f e2 t2 h
theorem lookup_rel_none {ws : List (Str × V)} {fs : List (Str × D)} (f : Str) (e : ws.map (·.1) = fs.map (·.1)) (h : fs.lookup f = none) : ws.lookup f = none := by
  induction ws generalizing fs with
  | nil => rfl
  | cons p ws ih =>
    cases fs with
    | nil => cases e
    | cons q fs =>
      rw [List.map_cons, List.map_cons] at e
      injection e with e1 e2
      obtain ⟨k, v⟩ := p
      obtain ⟨k', d⟩ := q
      have e1 : k = k' := e1
      subst e1
      by_cases q : f = k
      · subst q; rw [List.lookup_cons_self] at h; cases h
      · have b : (f == k) = false := beq_eq_false_iff_ne.mpr q
        simp only [List.lookup, b] at h ⊢
        exact ih e2 h
theorem se_fld {C f : Str} (cl : Cls X.K (He.ga X.K C)) (na : NoAttr X.K (He.ga X.K C) f) (ha : SB X a ba) (hb : attributeBase a f X.env (eval a X.env) = eval a X.env := by rfl) : SE X (.Attribute a f pos) (unF (fldD C f) ba) :=
  PE.imp (pe_fld ha hb) fun σ H Q h => un_rd (r := fun x H1 Q => ∃ a C dx fs v, x = .ref a ∧ H1 a = some (.ins C dx fs) ∧ Cls X.K C ∧ NoAttr X.K C f ∧ fs.lookup f = some v ∧ Q v H1) (fun F H x d l Q ex hv hf kk => by
    cases d with
    | obj C' fs =>
      simp only [fldD] at hf
      by_cases hc : C' = C
      · rw [if_pos hc] at hf
        subst hc
        obtain ⟨dd, hd, e⟩ := Option.map_eq_some_iff.mp hf
        subst e
        obtain ⟨a, dx, ws, rfl, hq, e1, e2⟩ := hv.objOf ex
        obtain ⟨v, h1, h2⟩ := lookup_rel f e1 e2 hd
        exact ⟨a, _, dx, ws, v, rfl, hq, cl, na, h1, kk _ F H [] (.nil ex) ⟨rfl, h2⟩⟩
      · rw [if_neg hc] at hf; cases hf
    | _ => cases hf) h
/-- a constant of the class, read at an instance -/
def conD (C : Str) (f : Str) (z : D) (d : D) : Option L := match d with
  | .obj C' fs => if C' = C then (match fs.lookup f with | none => some (.dat z) | some _ => none) else none
  | _ => none
theorem se_con {C f : Str} {z : D} {v : V} {u : Value} (cl : Cls X.K (He.ga X.K C)) (k : Con X.K (He.ga X.K C) f v u) (hz : ∀ F, Dat X.prog X.w X.K F v z) (ha : SB X a ba) (hb : attributeBase a f X.env (eval a X.env) = eval a X.env := by rfl) : SE X (.Attribute a f pos) (unF (conD C f z) ba) :=
  PE.imp (pe_con ha hb) fun σ H Q h => un_rd (r := fun x H1 Q => ∃ a C dx fs v u, x = .ref a ∧ H1 a = some (.ins C dx fs) ∧ Cls X.K C ∧ Con X.K C f v u ∧ fs.lookup f = none ∧ Q v H1) (fun F H x d l Q ex hv hf kk => by
    cases d with
    | obj C' fs =>
      simp only [conD] at hf
      by_cases hc : C' = C
      · rw [if_pos hc] at hf
        subst hc
        cases hl : fs.lookup f with
        | some _ => simp only [hl] at hf; cases hf
        | none =>
          simp only [hl] at hf
          cases hf
          obtain ⟨a, dx, ws, rfl, hq, e1, e2⟩ := hv.objOf ex
          exact ⟨a, _, dx, ws, v, u, rfl, hq, cl, k, lookup_rel_none f e1 hl, kk _ F H [] (.nil ex) ⟨rfl, hz F⟩⟩
      · rw [if_neg hc] at hf; cases hf
    | _ => cases hf) h
/-- the different ones of a list of ints, in the order met -/
def uniqI (ns : List Int) : List Int := ns.foldl step_dedup []
def asInts : List D → Option (List Int)
  | [] => some []
  | .int i :: ds => (asInts ds).map (i :: ·)
  | _ :: _ => none
theorem asInts_ok : ∀ {ds : List D} {ns : List Int}, asInts ds = some ns → ds = ns.map .int
  | [], ns, e => by cases e; rfl
  | d :: ds, ns, e => by
    cases d with
    | int i =>
      simp only [asInts] at e
      obtain ⟨m, h1, h2⟩ := Option.map_eq_some_iff.mp e
      subst h2
      rw [List.map_cons, ← asInts_ok h1]
    | _ => cases e
theorem dat_ints {P : Program} {w : World} {K : PySem.W.Frag} {F : Hp} : ∀ {ns : List Int} {vs : List V}, DatL P w K F vs (ns.map .int) → vs = ns.map .int
  | [], _, .nil => rfl
  | n :: ns, _, .cons h t => by
    rw [List.map_cons, ← dat_ints t]
    cases h
    rfl
def lenSetD (d : D) : Option L := match d with
  | .lst ds => match asInts ds with
    | some ns => if ns.length ≤ 4000 then some (.dat (.int (uniqI ns).length)) else none
    | none => none
  | _ => none
theorem firstMet_list (ns : List Int) : PyProof.Rows.firstMet (fun i => ns.getD i 0) ns.length = uniqI ns := by
  unfold PyProof.Rows.firstMet uniqI
  congr 1
  refine List.ext_getElem? fun i => ?_
  rw [List.getElem?_map]
  by_cases h : i < ns.length
  · rw [List.getElem?_range h, List.getElem?_eq_getElem h]
    simp [List.getD_eq_getElem?_getD, List.getElem?_eq_getElem h]
  · rw [List.getElem?_eq_none_iff.mpr (by rw [List.length_range]; omega), List.getElem?_eq_none_iff.mpr (by omega)]
    rfl
theorem se_lenSet {p2 q : Pos} (hg : Gl X "len") (hm : X.mg "len" = none) (hg2 : Gl X "set") (hm2 : X.mg "set" = none) (ha : SB X a ba) (hc : X.calm = true := by rfl)
    (na : starEach [a] X.env = (false, eval a X.env) :: starEach [] X.env := by rfl) : SE X (.Call (.Name "len" p) [.Call (.Name "set" p2) [a] [] q] [] pos) (unF lenSetD ba) := by
  have base : PE X (.Call (.Name "len" p) [.Call (.Name "set" p2) [a] [] q] [] pos) (fun σ H Q => RdB X.prog X.w X.K ba σ H fun x H1 => ∃ (l : Addr) (ns : List Int), x = .ref l ∧ SqL X.K H1 l (ns.map V.int) ∧ ns.length ≤ 4000 ∧ Q (.int ((uniqI ns).length : Nat)) H1) := by
    refine ⟨fun pins s σ H Q I h => ?_⟩
    refine Call_ (ld_blt I hg hm boot_len ?_)
    refine PyProof.Rows.callWith_builtin1 (PyProof.Rows.args_cons ?_ rfl) rfl rfl
    refine Call_ (ld_blt I hg2 hm2 PyProof.Rows.boot_set ?_)
    refine PyProof.Rows.callWith_type1 (PyProof.Rows.args_cons (thn (ha.run pins s σ H _ I h) fun v s1 ⟨x, H1, I1, r1, q1⟩ => PyProof.Rows.args_nil ?_) na) na rfl
    obtain ⟨l, ns, rfl, hq, hl, q1⟩ := q1
    cases r1
    obtain ⟨its, r, pl, hz⟩ := I1.list hq
    have hlen : its.toArray.size = ns.length := by rw [List.size_toArray, ← r.length, List.length_map]
    refine call_set_list (I1.ok.hd hc) pl.isList (by simpa using RZ.intsAre_vals r) (by rw [hlen]; unfold scanBound; omega) fun h' tk hS hk => ?_
    refine PyProof.Rows.args_nil ?_
    rw [hlen, firstMet_list] at hS
    obtain ⟨o, es, ep, t, ho, hex, hd, _, _, _, hf, hn⟩ := hS
    have I2 : Inv X pins σ H1 { s1 with heap := h', toks := tk } := I1.kept fun b o e => hk b o (Heap.lt_size e) e
    have hle : (uniqI ns).length ≤ ns.length := by rw [← firstMet_list]; exact PyProof.Rows.firstMet_length_le _ _
    exact call_len_set ho hex hd hf (by rw [hn] <;> omega) ⟨.int ((uniqI ns).length : Nat), H1, I2.tok _, ⟨_, by rw [hn]⟩, q1⟩
  refine PE.imp base fun σ H Q h => un_rd (r := fun x H1 Q => ∃ (l : Addr) (ns : List Int), x = .ref l ∧ SqL X.K H1 l (ns.map V.int) ∧ ns.length ≤ 4000 ∧ Q (.int ((uniqI ns).length : Nat)) H1) (fun F H x d l Q ex hv hf kk => ?_) h
  cases d with
  | lst ds =>
    simp only [lenSetD] at hf
    cases hi : asInts ds with
    | none => simp only [hi] at hf; cases hf
    | some ns =>
      simp only [hi] at hf
      by_cases hl : ns.length ≤ 4000
      · rw [if_pos hl] at hf
        cases hf
        obtain ⟨b, ys, rfl, hq, hd⟩ := hv.lstOf ex
        have e := asInts_ok hi
        subst e
        have e2 := dat_ints hd
        subst e2
        exact ⟨b, ns, rfl, hq, hl, kk _ F H [] (.nil ex) ⟨rfl, .int _⟩⟩
      · rw [if_neg hl] at hf; cases hf
  | _ => cases hf
/-- isinstance(e, T), T built in -/
def tyNm : D → Option String
  | .non => some "NoneType"
  | .bl _ => some "bool"
  | .int _ => some "int"
  | .str _ => some "str"
  | .tup _ => some "tuple"
  | .lst _ => some "list"
  | .dk _ => some "dict"
  | _ => none
def isiD (T : String) (d : D) : Option L := ((tyNm d).bind fun t => kitB t T).map fun b => .dat (.bl b)
theorem View.tyx {P : Program} {w : World} {K : PySem.W.Frag} {F H : Hp} {v : V} {d : D} {t : String} (ex : Ex F H) (h : View P w K F H v d) (e : tyNm d = some t) : TyX K H v (.type t) := by
  cases d with
  | non => cases e; obtain rfl := h.nonOf; exact .base .non
  | bl b => cases e; obtain rfl := h.blOf; exact .base (.bl b)
  | int b => cases e; obtain rfl := h.intOf; exact .base (.int b)
  | str b => cases e; obtain rfl := h.strOf; exact .base (.str b)
  | tup ds =>
    cases e
    obtain ⟨a, xs, rfl, hq, _⟩ := h.tupOf ex
    rcases hq with (hq | ⟨o, hq⟩) | ⟨o, its, n, hk, hc, _⟩
    · exact .base (.tup hq)
    · exact .fTuple hq
    · exact .kTuple hk hc
  | lst ds =>
    cases e
    obtain ⟨a, xs, rfl, hq, _⟩ := h.lstOf ex
    rcases hq with (hq | ⟨o, hq⟩) | ⟨o, its, n, hk, hc, _⟩
    · exact .base (.lst hq)
    · exact .base (.frz hq)
    · exact .kList hk hc
  | dk ds =>
    cases e
    obtain ⟨a, xs, rfl, hq, _⟩ := h.dkOf ex
    rcases hq with hq | ⟨es, n, us, hq, _⟩
    · exact .base (.dK hq)
    · exact .kDict hq rfl
  | _ => cases e
theorem se_isi {T : String} {y : Str} {p2 : Pos} (hg : Gl X "isinstance") (hm : X.mg "isinstance" = none) (hg2 : Gl X y) (hm2 : X.mg y = none) (hv2 : bootBuiltins y = some (.type T)) (ha : SB X a ba)
    (hn : y ≠ "__name__" := by decide) (hd : (y == ("__debug__" : Str)) = false := by decide)
    (h1 : starEach [a, .Name y p2] X.env = (false, eval a X.env) :: starEach [.Name y p2] X.env := by rfl) : SE X (.Call (.Name "isinstance" p) [a, .Name y p2] [] pos) (unF (isiD T) ba) := by
  refine PE.imp (pe_callB call_isi hg hm boot_isinstance (pa_cons ha (pa_cons (pe_bltn (v := .ty T) hg2 hm2 hv2 rfl hn hd) pa_nil rfl) h1) (by decide) (by decide) h1 rfl) fun σ H Q h => ?_
  have z := un_rd (r := fun x H1 Q => ∃ t b, TyX X.K H1 x (.type t) ∧ kitB t T = some b ∧ Q (.bl b) H1) (fun F H x d l Q ex hv hf kk => ?_) h
  rotate_left
  · cases e : tyNm d with
    | none => simp only [isiD, e, Option.bind_none, Option.map_none] at hf; cases hf
    | some t =>
      simp only [isiD, e, Option.bind_some] at hf
      obtain ⟨b, h1, h2⟩ := Option.map_eq_some_iff.mp hf
      subst h2
      exact ⟨t, b, hv.tyx ex e, h1, kk _ F H [] (.nil ex) ⟨rfl, .bl b⟩⟩
  · obtain ⟨g, F, Gf, ow, R, z⟩ := z
    refine ⟨g, F, Gf, ow, R, ?_⟩
    cases q : ba g with
    | bad => rw [q] at z; exact z
    | ok pl g' =>
      rw [q] at z
      intro v F' H' ow' R' ex pv
      obtain ⟨t, b, h1, h2, h3⟩ := z v F' H' ow' R' ex pv
      exact ⟨v, .ty T, .type t, .type T, b, rfl, .ty T, h1, kit_ty h2, h3⟩
end
end B

set_option maxHeartbeats 4000000
/-! Methods that change a name's own list; dict.get; stores; displays of dicts. -/
namespace B
open PySem PySem.Spec PyProof.Rows L2

theorem hasL_lst {P : Program} {w : World} {K : PySem.W.Frag} {F H : Hp} {v : V} {ds : List D} {as : List Addr} (h : HasL P w K F H v (L.lst ds) as) : ∃ (a : Addr) (xs : List V), v = V.ref a ∧ as = [a] ∧ H a = some (HO.lst xs) ∧ DatL P w K F xs ds := h

/-! ### xs.append(e), xs.pop(), xs.reverse() -/
def appF (i : Nat) (fa : Ef) : Ef := fun g => match g[i]? with
  | some (some (.lst _)) => (fa g).bd fun l g1 => match g1[i]? with
    | some (some (.lst ds)) => if ds.length < cap then .ok (.dat .non) (g1.set i (some (.lst (ds ++ [l.view])))) else .bad
    | _ => .bad
  | _ => .bad
def popF (i : Nat) : Ef := fun g => match g[i]? with
  | some (some (.lst ds)) => match ds[ds.length - 1]? with
    | some d => .ok (.dat d) (g.set i (some (.lst ds.dropLast)))
    | none => .bad
  | _ => .bad
def revF (i : Nat) : Ef := fun g => match g[i]? with
  | some (some (.lst ds)) => .ok (.dat .non) (g.set i (some (.lst ds.reverse)))
  | _ => .bad
section
variable {P : Program} {w : World} {K : PySem.W.Frag} {F H Gf : Hp} {g : G} {σ : L2.St} {ow : Nat → List Addr}
/-- a name's own list, and what it may become -/
theorem Rel.lst {i : Nat} {ds : List D} (R : Rel P w K F H Gf g σ ow) (e : g[i]? = some (some (.lst ds))) : ∃ a xs, σ[i]? = some (some (.ref a)) ∧ H a = some (.lst xs) ∧ DatL P w K F xs ds ∧
    ∀ ys es, DatL P w K F ys es → Rel P w K F (upd H a (.lst ys)) Gf (g.set i (some (.lst es))) σ ow := by
  obtain ⟨v, hv, hl⟩ := R.get i _ e
  obtain ⟨a, xs, rfl, e1, e2, e3⟩ := hasL_lst hl
  refine ⟨a, xs, hv, e2, e3, fun ys es hd => R.change e (by rw [e1]; exact List.mem_singleton.mpr rfl) fun v hv' hl' => ?_⟩
  rw [hv] at hv'; cases hv'
  exact ⟨a, ys, rfl, e1, upd_same, hd⟩
end
section
variable {X : Cx} {a : Expr} {fa : Ef} {ba bb : Bf} {pf : Pf} {pos apos cpos p : Pos}
theorem slot_rd {P : Program} {w : World} {K : PySem.W.Frag} {F H Gf : Hp} {g : G} {σ : L2.St} {ow : Nat → List Addr} {i : Nat} {v : V} {Q : VK} (hv : σ[i]? = some (some v)) (q : Q v H) : tVar i σ H Q := ⟨v, hv, q⟩
theorem se_append (i : Nat) {x : Str} (ha : SE X a fa) (hN : X.N[i]? = some x := by rfl) (hv : Vis X.env.scope x := by first | exact Or.inl rfl | exact Or.inr (Or.inl rfl) | exact Or.inr (Or.inr rfl)) (hd : (x == ("__debug__" : Str)) = false := by decide)
    (hcd : (x == ("__classdict__" : Str)) = false := by decide) (hbase : attributeBase (.Name x p) "append" X.env (eval (.Name x p) X.env) = eval (.Name x p) X.env := by rfl)
    (hfew : ((backTo cpos (starEach [a] X.env)).all (fun x => !x.1) && (backToKw cpos (keywordEach [] X.env)).all (fun x => x.1.isSome)
      && decide ([a].length + ([] : List Keyword).length + (if ([] : List Keyword).isEmpty then 0 else 1) < 30)) = true := by rfl)
    (hline : (apos.endLine == cpos.line) = true := by rfl) (hs : starEach [a] X.env = (false, eval a X.env) :: starEach [] X.env := by rfl) : SE X (.Call (.Attribute (.Name x p) "append" apos) [a] [] cpos) (appF i fa) := by
  refine PE.imp (pe_bm PySem.F.plainAttrs_list PySem.F.slot_list_append PySem.F.type_list_append mt_append (pe_var hN hv hd hcd) (pa_cons ha pa_nil hs) hbase hfew hline hs rfl) fun σ H Q ⟨g, F, Gf, ow, R, h⟩ => ?_
  unfold appF at h
  cases e : g[i]? with
  | none => simp only [e] at h
  | some o =>
    cases o with
    | none => simp only [e] at h
    | some l0 =>
      cases l0 with
      | lst ds0 =>
        simp only [e] at h
        obtain ⟨b, xs0, hv0, hb, _, _⟩ := R.lst e
        refine slot_rd (P := X.prog) (w := X.w) (K := X.K) (F := F) (Gf := Gf) (g := g) (ow := ow) hv0 ⟨.inl ⟨rfl, xs0, .of hb⟩, ?_⟩
        cases q : fa g with
        | bad => simp only [Res.bd, q] at h
        | ok l g1 =>
          simp only [Res.bd, q] at h
          refine RdE.of R q fun v F1 H1 ow1 ad R1 ex1 hl ap => ?_
          obtain ⟨R2, ex2, hdat⟩ := R1.froz hl ap
          cases e1 : g1[i]? with
          | none => simp only [e1] at h
          | some o1 =>
            cases o1 with
            | none => simp only [e1] at h
            | some l1 =>
              cases l1 with
              | lst ds =>
                simp only [e1] at h
                by_cases hc : ds.length < cap
                · rw [if_pos hc] at h
                  obtain ⟨b', xs, hv1, hb1, hd1, put⟩ := R2.lst e1
                  rw [hv0] at hv1; cases hv1
                  refine ⟨b, xs, v, rfl, rfl, hb1, by rw [hd1.length]; exact cap_lt (Nat.le_of_lt hc), ?_⟩
                  exact h _ _ _ _ [] (put _ _ (hd1.append (.cons hdat .nil))) (ex1.trans ex2) ⟨rfl, .non⟩ .nil
                · rw [if_neg hc] at h; exact h.elim
              | _ => simp only [e1] at h
      | _ => simp only [e] at h
theorem se_pop (i : Nat) {x : Str} (hN : X.N[i]? = some x := by rfl) (hv : Vis X.env.scope x := by first | exact Or.inl rfl | exact Or.inr (Or.inl rfl) | exact Or.inr (Or.inr rfl)) (hd : (x == ("__debug__" : Str)) = false := by decide)
    (hcd : (x == ("__classdict__" : Str)) = false := by decide) (hbase : attributeBase (.Name x p) "pop" X.env (eval (.Name x p) X.env) = eval (.Name x p) X.env := by rfl)
    (hline : (apos.endLine == cpos.line) = true := by rfl) : SE X (.Call (.Attribute (.Name x p) "pop" apos) [] [] cpos) (popF i) := by
  refine PE.imp (pe_bm0 PySem.F.plainAttrs_list PySem.F.slot_list_pop PySem.F.type_list_pop (fun pins s σ H x xs v us Q I rx rv h => mt_pop pins s σ H x xs v us Q I rx rv h) (pe_var hN hv hd hcd) hbase hline) fun σ H Q ⟨g, F, Gf, ow, R, h⟩ => ?_
  unfold popF at h
  cases e : g[i]? with
  | none => simp only [e] at h
  | some o =>
    cases o with
    | none => simp only [e] at h
    | some l0 =>
      cases l0 with
      | lst ds =>
        simp only [e] at h
        cases e2 : ds[ds.length - 1]? with
        | none => simp only [e2] at h
        | some d =>
          simp only [e2] at h
          obtain ⟨b, xs, hv0, hb, hd0, put⟩ := R.lst e
          obtain ⟨y, hy, hyd⟩ := hd0.get e2
          refine ⟨.ref b, hv0, .inl ⟨rfl, xs, .of hb⟩, b, xs, y, rfl, rfl, hb, by rw [hd0.length]; exact hy, ?_⟩
          exact h _ _ _ _ [] (put _ _ hd0.dropLast) (Ex.refl _) ⟨rfl, hyd⟩ .nil
      | _ => simp only [e] at h
theorem se_reverse (i : Nat) {x : Str} (hN : X.N[i]? = some x := by rfl) (hv : Vis X.env.scope x := by first | exact Or.inl rfl | exact Or.inr (Or.inl rfl) | exact Or.inr (Or.inr rfl)) (hd : (x == ("__debug__" : Str)) = false := by decide)
    (hcd : (x == ("__classdict__" : Str)) = false := by decide) (hbase : attributeBase (.Name x p) "reverse" X.env (eval (.Name x p) X.env) = eval (.Name x p) X.env := by rfl)
    (hline : (apos.endLine == cpos.line) = true := by rfl) : SE X (.Call (.Attribute (.Name x p) "reverse" apos) [] [] cpos) (revF i) := by
  refine PE.imp (pe_bm0 PySem.F.plainAttrs_list PySem.F.slot_list_reverse PySem.F.type_list_reverse (fun pins s σ H x xs v us Q I rx rv h => mt_reverse pins s σ H x xs v us Q I rx rv h) (pe_var hN hv hd hcd) hbase hline) fun σ H Q ⟨g, F, Gf, ow, R, h⟩ => ?_
  unfold revF at h
  cases e : g[i]? with
  | none => simp only [e] at h
  | some o =>
    cases o with
    | none => simp only [e] at h
    | some l0 =>
      cases l0 with
      | lst ds =>
        simp only [e] at h
        obtain ⟨b, xs, hv0, hb, hd0, put⟩ := R.lst e
        refine ⟨.ref b, hv0, .inl ⟨rfl, xs, .of hb⟩, b, xs, rfl, rfl, hb, ?_⟩
        exact h _ _ _ _ [] (put _ _ hd0.rev) (Ex.refl _) ⟨rfl, .non⟩ .nil
      | _ => simp only [e] at h

/-! ### d.get(k, z) -/
def isDict : D → Bool
  | .dk _ => true
  | .dn _ => true
  | _ => false
def getD' (o k z : D) : Option D := match o with
  | .dk kvs => (toKey k).map fun q => (look kvs q).getD z
  | .dn kvs => (toTK k).map fun q => (look kvs q).getD z
  | _ => none
def getF (bo bk : Bf) (fz : Ef) : Ef := fun g => (bo g).bd fun p g1 => match resolve g1 p with
  | some o1 => if isDict o1 = true then (bk g1).bd fun q g2 => (fz g2).bd fun z g3 => match resolve g3 p, resolve g3 q with
      | some o, some k => match getD' o k z.view with
        | some r => .ok (.dat r) g3
        | none => .bad
      | _, _ => .bad
    else .bad
  | none => .bad
theorem View.dictObj {pins : List (Addr × Obj)} {σ : L2.St} {F H : Hp} {s : Shared} {v : V} {d : D} (I : Inv X pins σ H s) (ex : Ex F H) (h : View X.prog X.w X.K F H v d) (e : isDict d = true) : ∃ a, v = .ref a ∧ s.TypeIs (.ref a) "dict" ∧ ∃ ob, s.heap.get? a = some ob ∧ ob.dict = none := by
  cases d with
  | dk kvs =>
    obtain ⟨a, ws, rfl, hq, _⟩ := h.dkOf ex
    obtain ⟨z, hs, vs, rel, dd⟩ := hq.dict I
    obtain ⟨o, es, n, e1, e2, e3⟩ := id dd
    exact ⟨a, rfl, dd.typeIs, o, e1, e2.2.1⟩
  | dn kvs =>
    obtain ⟨a, ws, rfl, hq, _⟩ := h.dnOf ex
    obtain ⟨h6, h7, xs, hx, hp⟩ := hq.dict I ex
    obtain ⟨o, es, n, e1, e2, e3⟩ := id hx
    exact ⟨a, rfl, hx.typeIs, o, e1, e2.2.1⟩
  | _ => cases e
theorem dk_getOr {pins : List (Addr × Obj)} {σ : L2.St} {H : Hp} {s : Shared} {a : Addr} {ws : List (Key × V)} {k : Key} {A : Around} {E : Value → Shared → Prop} {u r : Value} {dv : V} {Q : Value → Shared → Prop} (I : Inv X pins σ H s) (h : DkAt X.prog X.w X.K H a ws) (ry : RelV (kV k) u) (rd : RelV dv r)
    (hq : ∀ w' s', Inv X pins σ H s' → RelV ((look ws k).getD dv) w' → Q w' s') : wpAny (model X.prog X.w) A (call (.builtin "dict.get") [.ref a, u, r]) Q E s := by
  obtain ⟨z, hd, vs, rel, dd⟩ := h.dict I
  refine call_meetsIn PySem.F.slot_dict_get dd.typeIs PySem.F.entry_dict_get (PySem.F.args_dict_get_3 _ _ _) (meets_dict_get_default (mixKind X.prog X.w) a (kV_is ry) hd r) ⟨_, dd.mapOf, hq _ _ (I.tok _) ?_⟩
  exact (rel.val k).getD rd
theorem getD_rel {κ : Type} [DecidableEq κ] {P : Program} {w : World} {K : PySem.W.Frag} {F : Hp} (k : κ) {ws : List (κ × V)} {kvs : List (κ × D)} (e : ws.map (·.1) = kvs.map (·.1)) (h : DatL P w K F (ws.map (·.2)) (kvs.map (·.2))) {v : V} {d : D} (hd : Dat P w K F v d) :
    Dat P w K F ((look ws k).getD v) ((look kvs k).getD d) := by
  cases q : look kvs k with
  | some d' =>
    obtain ⟨v', h1, h2⟩ := look_of k e h q
    rw [h1]; exact h2
  | none =>
    have z := look_none k e
    rw [q] at z
    cases q2 : look ws k with
    | some _ => rw [q2] at z; cases z
    | none => exact hd
theorem se_get {k : Nat} {o e f : Expr} {bo bk : Bf} {fz : Ef} (hr : Room k X.A) (ho : SB X o bo) (he : SB X e bk) (hf : SE X f fz) (m : M2 X o "get" apos e f cpos := by exact ⟨rfl, rfl, rfl, rfl⟩) : SE X (.Call (.Attribute o "get" apos) [e, f] [] cpos) (getF bo bk fz) := by
  refine ⟨fun pins s σ H Q I h => ?_⟩
  obtain ⟨g, F, Gf, ow, R, h⟩ := h
  unfold getF at h
  cases q : bo g with
  | bad => simp only [Res.bd, q] at h
  | ok p1 g1 =>
    simp only [Res.bd, q] at h
    cases e1 : resolve g1 p1 with
    | none => simp only [e1] at h
    | some o1 =>
      simp only [e1] at h
      by_cases hd : isDict o1 = true
      · rw [if_pos hd] at h
        cases q2 : bk g1 with
        | bad => simp only [q2] at h
        | ok p2 g2 =>
          simp only [q2] at h
          cases q3 : fz g2 with
          | bad => simp only [q3] at h
          | ok l g3 =>
            simp only [q3] at h
            cases e2 : resolve g3 p1 with
            | none => simp only [e2] at h
            | some o2 =>
              cases e3 : resolve g3 p2 with
              | none => simp only [e2, e3] at h
              | some k2 =>
                simp only [e2, e3] at h
                cases e4 : getD' o2 k2 l.view with
                | none => simp only [e4] at h
                | some r0 =>
                  simp only [e4] at h
                  have hu := hr.units
                  refine wpAny_Call_method m.base m.few m.line PySem.F.plainAttrs_dict PySem.F.slot_dict_get PySem.F.type_dict_get (thn (ho.run pins s σ H _ I (RdB.of R q (Q := fun v H1 => ∃ F1 ow1, Rel X.prog X.w X.K F1 H1 Gf g1 σ ow1 ∧ Ex F F1 ∧ PlV X.prog X.w X.K F1 σ v p1) fun v F1 H1 ow1 R1 ex1 pv => ⟨F1, ow1, R1, ex1, pv⟩)) fun u s1 ⟨x, H1, I1, rx, F1, ow1, R1, ex1, pv1⟩ => ?_)
                  obtain ⟨a, ex, t1, t2⟩ := (pv1.view R1 e1).dictObj I1 R1.ex hd
                  subst ex
                  obtain rfl : u = Value.ref a := rx
                  refine ⟨t1, fun b hb => by cases hb; exact t2, ?_⟩
                  rw [m.trees]
                  refine Calls.callWith_builtin rfl (Calls.evalArgs_plain (Calls.spliced_cons (thn (he.run pins s1 σ H1 _ I1 (RdB.of R1 q2 (Q := fun v H2 => ∃ F2 ow2, Rel X.prog X.w X.K F2 H2 Gf g2 σ ow2 ∧ Ex F1 F2 ∧ PlV X.prog X.w X.K F2 σ v p2) fun v F2 H2 ow2 R2 ex2 pv => ⟨F2, ow2, R2, ex2, pv⟩)) fun iv s2 ⟨y, H2, I2, ry, F2, ow2, R2, ex2, pv2⟩ =>
                    Calls.spliced_cons (thn (hf.run pins s2 σ H2 _ I2 (RdE.of R2 q3 (Q := fun v H3 => ∃ F3 ow3, Rel X.prog X.w X.K F3 H3 Gf g3 σ ow3 ∧ Ex F2 F3 ∧ Dat X.prog X.w X.K F3 v l.view) fun v F3 H3 ow3 ad R3 ex3 hl ap => by
                      obtain ⟨R4, ex4, hdat⟩ := R3.froz hl ap
                      exact ⟨_, ow3, R4, ex3.trans ex4, hdat⟩)) fun fv s3 ⟨z, H3, I3, rz, F3, ow3, R3, ex3, dz⟩ => Calls.spliced_nil ?_))))
                  have vw := (pv1.mono (ex2.trans ex3)).view R3 e2
                  have vk := (pv2.mono ex3).view R3 e3
                  cases o2 with
                  | dk kvs =>
                    simp only [getD'] at e4
                    obtain ⟨kk, hk, e4⟩ := Option.map_eq_some_iff.mp e4
                    subst e4
                    obtain ⟨a', ws, ea, hq, e5, e6⟩ := vw.dkOf R3.ex
                    cases ea
                    have ey := vk.key hk
                    subst ey
                    refine dk_getOr I3 hq ry rz fun w' s' I' rw' => ⟨_, H3, I', rw', ?_⟩
                    exact h _ F3 H3 ow3 [] R3 (ex1.trans (ex2.trans ex3)) ⟨rfl, getD_rel kk e5 e6 dz⟩ .nil
                  | dn kvs =>
                    simp only [getD'] at e4
                    obtain ⟨kk, hk, e4⟩ := Option.map_eq_some_iff.mp e4
                    subst e4
                    obtain ⟨a', ws, ea, hq, e5, e6⟩ := vw.dnOf R3.ex
                    cases ea
                    obtain ⟨b, ey, hn, hdp⟩ := vk.tk hk
                    subst ey
                    refine dn_getOr hu I3 R3.ex hq ry rz hn hdp fun w' s' I' rw' => ⟨_, H3, I', rw', ?_⟩
                    exact h _ F3 H3 ow3 [] R3 (ex1.trans (ex2.trans ex3)) ⟨rfl, getD_rel kk e5 e6 dz⟩ .nil
                  | _ => cases e4
      · rw [if_neg hd] at h; exact h.elim

/-! ### displays -/
def newK : Ef := fun g => .ok (.dk []) g
def newN : Ef := fun g => .ok (.dn []) g
theorem se_newK : SE X (.Dict [] [] pos) newK := by
  refine PE.imp pe_dnewK fun σ H Q ⟨g, F, Gf, ow, R, h⟩ => fun p hp => ?_
  exact h _ F _ ow [p] (R.own hp) (Ex.refl _) ⟨p, [], rfl, rfl, upd_same, rfl, .nil⟩ (R.apart1 hp)
theorem se_newN : SE X (.Dict [] [] pos) newN := by
  refine ⟨fun pins s σ H Q I ⟨g, F, Gf, ow, R, h⟩ => ?_⟩
  have hp := I.hok.fresh (Nat.le_refl s.heap.objs.size)
  have e : (s.heap.push { cls := .type "dict", data := .dict #[] }).get? s.heap.objs.size = some { cls := .type "dict", data := .dict #[] } := Heap.get?_push_size s.heap rfl
  refine wpAny_Dict_empty ⟨.ref s.heap.objs.size, _, I.laid (a := s.heap.objs.size) (o := isO s.heap.objs.size { cls := .type "dict", data := .dict #[] }) (t' := s.toks) (fun _ _ q => Heap.get?_push_of_some _ q) (Nat.le_refl _) ⟨e, ⟨_, e⟩, fun h1 h2 q k => k _ q⟩, rfl, ?_⟩
  refine h _ F _ ow [s.heap.objs.size] (R.own hp) (Ex.refl _) ⟨_, [], rfl, rfl, ⟨_, #[], _, [], upd_same, ⟨rfl, rfl, rfl⟩, rfl, rfl, .nil, beq_eq_false_iff_ne.mpr (Ne.symm (Nat.ne_of_lt I.big)), Nat.zero_le _, .nil⟩, rfl, .nil⟩ (R.apart1 hp)
/-- {k: v}, one pair -/
def dispF (fk fv : Ef) : Ef := fun g => (fk g).bd fun k g1 => (fv g1).bd fun v g2 => match toKey k.view with
  | some q => .ok (.dk [(q, v.view)]) g2
  | none => .bad
theorem se_disp1 {k v : Expr} {fk fv : Ef} (hk : SE X k fk) (hv : SE X v fv) : SE X (.Dict [some k] [v] pos) (dispF fk fv) := by
  refine PE.imp (pe_disp (pps_cons hk hv pps_nil) rfl rfl (by simp) (by show 1 ≤ 15; decide)) fun σ H Q ⟨g, F, Gf, ow, R, h⟩ => fun p hp => ?_
  unfold dispF at h
  have R0 : Rel X.prog X.w X.K F (upd H p (.dK [])) (upd Gf p (.dK [])) g σ ow := by
    obtain ⟨f1, f2, f3⟩ := R.free hp
    have R1 := R.own (o := .dK []) hp
    refine ⟨R1.ex, fun a o q => ?_, fun a ha => ?_, R1.get, R1.off, R1.sep, fun i a ha => ⟨(R1.out i a ha).1, ?_⟩, R1.len⟩
    · by_cases z : a = p
      · subst z; rw [upd_same] at q ⊢; exact q
      · rw [upd_ne z] at q ⊢; exact R.exG a o q
    · by_cases z : a = p
      · subst z; exact absurd f1 ha
      · rw [upd_ne z]; exact R.fg a ha
    · have z : a ≠ p := fun z => f3 i (z ▸ ha)
      rw [upd_ne z]; exact (R1.out i a ha).2
  cases q1 : fk g with
  | bad => simp only [Res.bd, q1] at h
  | ok lk g1 =>
    simp only [Res.bd, q1] at h
    cases q2 : fv g1 with
    | bad => simp only [q2] at h
    | ok lv g2 =>
      simp only [q2] at h
      cases q3 : toKey lk.view with
      | none => simp only [q3] at h
      | some kk =>
        simp only [q3] at h
        refine RdE.of R0 q1 fun x F1 H1 ow1 ad1 R1 ex1 hl1 ap1 => ?_
        obtain ⟨R1', ex1', hd1⟩ := R1.froz hl1 ap1
        refine RdE.of R1' q2 fun y F2 H2 ow2 ad2 R2 ex2 hl2 ap2 => ?_
        obtain ⟨R2', ex2', hd2⟩ := R2.froz hl2 ap2
        have ek := (hd1.mono (ex2.trans ex2')).key q3
        subst ek
        have hH : H2 p = some (.dK []) := R2'.exG p _ upd_same
        have hF : froz F2 H2 ad2 p = none := by
          cases z : froz F2 H2 ad2 p with
          | none => rfl
          | some o => have := R2'.fg p (by rw [z]; simp); rw [upd_same] at this; cases this
        refine ⟨hH, [(kk, y)], rfl, by show 1 ≤ 15; decide, ?_⟩
        have hGp : Gf p = none := (R.free hp).2.1
        have n1 : ∀ i a, a ∈ ow2 i → a ≠ p := fun i a ha z => by
          have := (R2'.out i a ha).2
          rw [z, upd_same] at this; cases this
        have R3 : Rel X.prog X.w X.K (froz F2 H2 ad2) (upd H2 p (.dK [(kk, y)])) Gf g2 σ ow2 := by
          refine ⟨fun a o q => ?_, fun a o q => ?_, fun a ha => ?_, fun i l e => ?_, R2'.off, R2'.sep, fun i a ha => ⟨(R2'.out i a ha).1, ?_⟩, R2'.len⟩
          · have z : a ≠ p := fun z => by rw [z, hF] at q; cases q
            rw [upd_ne z]; exact R2'.ex a o q
          · have z : a ≠ p := fun z => by rw [z, hGp] at q; cases q
            rw [upd_ne z]; exact R2'.exG a o (by rw [upd_ne z]; exact q)
          · by_cases z : a = p
            · rw [z]; exact hGp
            · have := R2'.fg a ha; rw [upd_ne z] at this; exact this
          · obtain ⟨v, h1, h2⟩ := R2'.get i l e
            exact ⟨v, h1, h2.mono (Ex.refl _) fun a ha => upd_ne (n1 i a ha)⟩
          · have := (R2'.out i a ha).2; rw [upd_ne (n1 i a ha)] at this; exact this
        refine h _ _ _ ow2 [p] R3 (((ex1.trans ex1').trans ex2).trans ex2') ⟨p, [(kk, y)], rfl, rfl, upd_same, rfl, .cons hd2 .nil⟩ fun a ha => ?_
        cases List.mem_singleton.mp ha
        exact ⟨hF, hGp, fun j hj => n1 j p hj rfl⟩
end
end B

set_option maxHeartbeats 4000000
/-! Targets, statements, loops. -/
namespace B
open PySem PySem.Spec PyProof.Rows L2

/-! ### targets: data comes to names -/
def Off (st : List Nat) (σ σ' : L2.St) : Prop := σ'.length = σ.length ∧ ∀ i, i ∉ st → σ'[i]? = σ[i]?
theorem Off.refl (st : List Nat) (σ : L2.St) : Off st σ σ := ⟨rfl, fun _ _ => rfl⟩
theorem Off.trans {st : List Nat} {a b c : L2.St} (h : Off st a b) (h' : Off st b c) : Off st a c := ⟨h'.1.trans h.1, fun i hi => (h'.2 i hi).trans (h.2 i hi)⟩
theorem Off.mono {st st' : List Nat} {a b : L2.St} (h : Off st a b) (k : ∀ i ∈ st, i ∈ st') : Off st' a b := ⟨h.1, fun i hi => h.2 i fun z => hi (k i z)⟩
abbrev Tg := D → G → Option G
abbrev Tgs := List D → G → Option G
section
variable (P : Program) (w : World) (K : PySem.W.Frag)
def RdG (st : List Nat) (t : Tg) : TG := fun v σ H Q => ∃ g F Gf ow d, Rel P w K F H Gf g σ ow ∧ Dat P w K F v d ∧ match t d g with
  | none => False
  | some g' => ∀ σ' ow', Rel P w K F H Gf g' σ' ow' → Off st σ σ' → Q σ' H
def RdGs (st : List Nat) (t : Tgs) : TGs := fun vs σ H Q => ∃ g F Gf ow ds, Rel P w K F H Gf g σ ow ∧ DatL P w K F vs ds ∧ match t ds g with
  | none => False
  | some g' => ∀ σ' ow', Rel P w K F H Gf g' σ' ow' → Off st σ σ' → Q σ' H
end
structure SG (X : Cx) (tg : Expr) (st : List Nat) (t : Tg) : Prop where
  pg : PG X tg (RdG X.prog X.w X.K st t)
structure SGs (X : Cx) (tg : List Expr) (st : List Nat) (t : Tgs) : Prop where
  pgs : PGs X tg (RdGs X.prog X.w X.K st t)
theorem PG.imp {X : Cx} {e : Expr} {t t' : TG} (h : PG X e t) (i : ∀ v σ H Q, t' v σ H Q → t v σ H Q) : PG X e t' := ⟨fun pins s σ H v u Q I r q => h.run pins s σ H v u Q I r (i v σ H Q q)⟩
theorem PGs.imp {X : Cx} {e : List Expr} {t t' : TGs} (h : PGs X e t) (i : ∀ v σ H Q, t' v σ H Q → t v σ H Q) : PGs X e t' := ⟨fun pins s σ H v u Q I r q => h.run pins s σ H v u Q I r (i v σ H Q q)⟩
def nameG (i : Nat) : Tg := fun d g => some (g.set i (some (.dat d)))
def nilG : Tgs := fun ds g => match ds with | [] => some g | _ => none
def consG (t : Tg) (u : Tgs) : Tgs := fun ds g => match ds with
  | d :: r => (t d g).bind (u r)
  | [] => none
def tupG (t : Tgs) : Tg := fun d g => match d with
  | .tup ds => t ds g
  | _ => none
section
variable {P : Program} {w : World} {K : PySem.W.Frag} {F H Gf : Hp} {g : G} {σ : L2.St} {ow : Nat → List Addr} {v : V} {l : L} {ad : List Addr}
theorem Rel.put (i : Nat) (R : Rel P w K F H Gf g σ ow) (h : HasL P w K F H v l ad) (ap : Apart F Gf ow ad) : ∃ ow', Rel P w K F H Gf (g.set i (some l)) (σ.set i (some v)) ow' := by
  by_cases hi : i < g.length
  · exact ⟨_, R.store hi h ap⟩
  · have hσ : ¬ i < σ.length := by rw [← R.len]; exact hi
    rw [List.set_eq_of_length_le (by omega), List.set_eq_of_length_le (by omega)]
    exact ⟨ow, R⟩
theorem off_set (i : Nat) : Off [i] σ (σ.set i (some v)) := ⟨List.length_set .., fun j hj => List.getElem?_set_ne (by simpa using fun z => hj (by simp [z]))⟩
end
section
variable {X : Cx} {pos : Pos} {e : Expr} {es : List Expr} {t : Tg} {u : Tgs} {st st' : List Nat}
theorem sg_name (i : Nat) {x : Str} (hN : X.N.Nodup) (hi : X.N[i]? = some x := by rfl) (hx : Loc X.env.scope x := by first | exact Or.inl rfl | exact Or.inr rfl) (hf : X.fn x = true ∨ X.env.scope.names.lookup x = some .local := by first | exact .inl rfl | exact .inr rfl | assumption) : SG X (.Name x pos) [i] (nameG i) :=
  ⟨PG.imp (pg_name hN hi hx hf) fun v σ H Q ⟨g, F, Gf, ow, d, R, hd, h⟩ => by
    obtain ⟨ow', R'⟩ := R.put (l := .dat d) (ad := []) (v := v) i ⟨rfl, hd⟩ .nil
    exact h _ _ R' (off_set i)⟩
theorem sgs_nil : SGs X [] [] nilG := ⟨PGs.imp pgs_nil fun v σ H Q ⟨g, F, Gf, ow, ds, R, hd, h⟩ => by
  cases hd with
  | nil => exact ⟨rfl, h σ ow R (.refl _ _)⟩
  | cons _ _ => exact h.elim⟩
theorem sgs_cons (h1 : SG X e st t) (h2 : SGs X es st' u) (hs : (assignEach (e :: es) X.env).map (·.2) = assign e X.env :: (assignEach es X.env).map (·.2) := by rfl) : SGs X (e :: es) (st ++ st') (consG t u) :=
  ⟨PGs.imp (pgs_cons h1.pg h2.pgs hs) fun v σ H Q ⟨g, F, Gf, ow, ds, R, hd, h⟩ => by
    cases hd with
    | nil => exact h.elim
    | @cons v vs d ds hd ht =>
      refine ⟨v, vs, rfl, g, F, Gf, ow, d, R, hd, ?_⟩
      simp only [consG] at h
      cases q : t d g with
      | none => simp only [q, Option.bind_none] at h
      | some g1 =>
        simp only [q, Option.bind_some] at h
        intro σ1 ow1 R1 o1
        refine ⟨g1, F, Gf, ow1, ds, R1, ht, ?_⟩
        cases q2 : u ds g1 with
        | none => simp only [q2] at h
        | some g2 =>
          simp only [q2] at h
          exact fun σ2 ow2 R2 o2 => h σ2 ow2 R2 ((o1.mono fun i hi => List.mem_append_left _ hi).trans (o2.mono fun i hi => List.mem_append_right _ hi))⟩
theorem sg_tup {k : Nat} {n : Nat} (hc : X.calm = true) (h : SGs X es st u) (hn : (assignEach es X.env).length = n := by rfl) (hst : (assignEach es X.env).findIdx? (·.1) = none := by rfl) (hl : ∀ ds g g', u ds g = some g' → ds.length = n) : SG X (.Tuple es k pos) st (tupG u) :=
  ⟨PG.imp (pg_tup hc h.pgs hn hst) fun v σ H Q ⟨g, F, Gf, ow, d, R, hd, h⟩ => by
    cases hd with
    | @tup a xs ds hq hds =>
      simp only [tupG] at h
      cases q : u ds g with
      | none => simp only [q] at h
      | some g1 =>
        simp only [q] at h
        exact ⟨a, xs, rfl, R.ex.sqT hq, by rw [hds.length]; exact hl _ _ _ q, g, F, Gf, ow, ds, R, hds, by rw [q]; exact h⟩
    | _ => exact h.elim⟩
theorem nilG_len {ds : List D} {g g' : G} (h : nilG ds g = some g') : ds.length = 0 := by
  cases ds with
  | nil => rfl
  | cons _ _ => cases h
theorem consG_len {t : Tg} {u : Tgs} {n : Nat} (hu : ∀ ds g g', u ds g = some g' → ds.length = n) (ds : List D) (g g' : G) (h : consG t u ds g = some g') : ds.length = n + 1 := by
  cases ds with
  | nil => cases h
  | cons d ds =>
    simp only [consG] at h
    obtain ⟨g1, h1, h2⟩ := Option.bind_eq_some_iff.mp h
    rw [List.length_cons, hu _ _ _ h2]
end

/-! ### statements -/
def Fix (fx : List Nat) (σ σ' : L2.St) : Prop := ∀ i ∈ fx, σ'[i]? = σ[i]?
theorem Fix.refl (fx : List Nat) (σ : L2.St) : Fix fx σ σ := fun _ _ => rfl
theorem Fix.trans {fx : List Nat} {a b c : L2.St} (h : Fix fx a b) (h' : Fix fx b c) : Fix fx a c := fun i hi => (h' i hi).trans (h i hi)
theorem Off.fix {st fx : List Nat} {σ σ' : L2.St} (h : Off st σ σ') (d : ∀ i ∈ fx, i ∉ st) : Fix fx σ σ' := fun i hi => h.2 i (d i hi)
section
variable (P : Program) (w : World) (K : PySem.W.Frag) (fx : List Nat) (F Gf : Hp) (σ : L2.St) (Dd : Ends)
def PoS : S → Prop
  | .next g' => ∀ F' H' σ' ow', Rel P w K F' H' Gf g' σ' ow' → Ex F F' → Fix fx σ σ' → Dd.nx σ' H'
  | .brk g' => ∀ F' H' σ' ow', Rel P w K F' H' Gf g' σ' ow' → Ex F F' → Fix fx σ σ' → Dd.bk σ' H'
  | .cont g' => ∀ F' H' σ' ow', Rel P w K F' H' Gf g' σ' ow' → Ex F F' → Fix fx σ σ' → Dd.ct σ' H'
  | .ret l g' => ∀ v F' H' σ' ow' ad, Rel P w K F' H' Gf g' σ' ow' → Ex F F' → Fix fx σ σ' → HasL P w K F' H' v l ad → Apart F' Gf ow' ad → Dd.rt v H'
  | .bad => False
end
def RdS (P : Program) (w : World) (K : PySem.W.Frag) (fx : List Nat) (f : Sf) : TS := fun Dd σ H => ∃ g F Gf ow, Rel P w K F H Gf g σ ow ∧ PoS P w K fx F Gf σ Dd (f g)
abbrev SS (X : Cx) (fx : List Nat) (st : Stmt) (f : Sf) : Prop := PS X st (RdS X.prog X.w X.K fx f)
abbrev SSs (X : Cx) (fx : List Nat) (st : List Stmt) (f : Sf) : Prop := PSs X st (RdS X.prog X.w X.K fx f)
section
variable {P : Program} {w : World} {K : PySem.W.Frag} {fx : List Nat} {F F' H H' Gf : Hp} {g : G} {σ σ' : L2.St} {ow : Nat → List Addr} {Dd : Ends}
theorem PoS.mono {r : S} (ex : Ex F F') (fi : Fix fx σ σ') (h : PoS P w K fx F Gf σ Dd r) : PoS P w K fx F' Gf σ' Dd r := by
  cases r with
  | next g' => exact fun F2 H2 σ2 ow2 R e f => h F2 H2 σ2 ow2 R (ex.trans e) (fi.trans f)
  | brk g' => exact fun F2 H2 σ2 ow2 R e f => h F2 H2 σ2 ow2 R (ex.trans e) (fi.trans f)
  | cont g' => exact fun F2 H2 σ2 ow2 R e f => h F2 H2 σ2 ow2 R (ex.trans e) (fi.trans f)
  | ret l g' => exact fun v F2 H2 σ2 ow2 ad R e f => h v F2 H2 σ2 ow2 ad R (ex.trans e) (fi.trans f)
  | bad => exact h
theorem RdS.at {f : Sf} (R : Rel P w K F H Gf g σ ow) (h : PoS P w K fx F Gf σ Dd (f g)) : RdS P w K fx f Dd σ H := ⟨g, F, Gf, ow, R, h⟩
end
def skipF : Sf := .next
def seqF (f1 f2 : Sf) : Sf := fun g => match f1 g with
  | .next g' => f2 g'
  | r => r
def brkF : Sf := .brk
def contF : Sf := .cont
def badF : Sf := fun _ => .bad
def exprF (fe : Ef) : Sf := fun g => match fe g with
  | .ok _ g' => .next g'
  | .bad => .bad
def retF (fe : Ef) : Sf := fun g => match fe g with
  | .ok l g' => .ret l g'
  | .bad => .bad
def retN : Sf := fun g => .ret (.dat .non) g
def ifF (t : Tf) (a b : Sf) : Sf := fun g => match t g with
  | .ok c g' => if c = true then a g' else b g'
  | .bad => .bad
def setF (i : Nat) (fe : Ef) : Sf := fun g => match fe g with
  | .ok l g' => .next (g'.set i (some l))
  | .bad => .bad
def asgF (t : Tg) (fe : Ef) : Sf := fun g => match fe g with
  | .ok l g' => match t l.view g' with
    | some g2 => .next g2
    | none => .bad
  | .bad => .bad
section
variable {X : Cx} {pos p : Pos} {e tg c : Expr} {fe : Ef} {f f1 f2 : Sf} {fx st : List Nat} {s1 : Stmt} {r a b : List Stmt} {t : Tg} {tf : Tf}
theorem ss_nil : SSs X fx [] skipF := PSs.imp pss_nil fun Dd σ H ⟨g, F, Gf, ow, R, h⟩ => h F H σ ow R (Ex.refl _) (.refl _ _)
theorem ss_cons (h1 : SS X fx s1 f1) (h2 : SSs X fx r f2) : SSs X fx (s1 :: r) (seqF f1 f2) := by
  refine PSs.imp (pss_cons h1 h2) fun Dd σ H ⟨g, F, Gf, ow, R, h⟩ => ⟨g, F, Gf, ow, R, ?_⟩
  unfold seqF at h
  cases q : f1 g with
  | next g' =>
    rw [q] at h
    exact fun F' H' σ' ow' R' ex fi => ⟨g', F', Gf, ow', R', h.mono ex fi⟩
  | ret l g' => rw [q] at h; exact h
  | brk g' => rw [q] at h; exact h
  | cont g' => rw [q] at h; exact h
  | bad => rw [q] at h; exact h
theorem ss_one (h1 : SS X fx s1 f1) : SSs X fx [s1] f1 := pss_one h1
theorem ss_pass : SS X fx (.Pass pos) skipF := PS.imp ps_pass fun Dd σ H ⟨g, F, Gf, ow, R, h⟩ => h F H σ ow R (Ex.refl _) (.refl _ _)
theorem ss_break : SS X fx (.Break pos) brkF := PS.imp ps_break fun Dd σ H ⟨g, F, Gf, ow, R, h⟩ => h F H σ ow R (Ex.refl _) (.refl _ _)
theorem ss_continue : SS X fx (.Continue pos) contF := PS.imp ps_continue fun Dd σ H ⟨g, F, Gf, ow, R, h⟩ => h F H σ ow R (Ex.refl _) (.refl _ _)
theorem ss_doc {x j} : SS X fx (.Expr (.Constant (.str x) j p) pos) skipF := PS.imp ps_doc fun Dd σ H ⟨g, F, Gf, ow, R, h⟩ => h F H σ ow R (Ex.refl _) (.refl _ _)
theorem ss_bad : SS X fx s1 badF := PS.imp ps_never fun Dd σ H ⟨g, F, Gf, ow, R, h⟩ => h.elim
theorem sss_bad : SSs X fx r badF := PSs.imp pss_never fun Dd σ H ⟨g, F, Gf, ow, R, h⟩ => h.elim
theorem ss_expr (he : SE X e fe) (hs : swapsWith e none pos.line X.env = pure false := by rfl) : SS X fx (.Expr e pos) (exprF fe) := by
  refine PS.imp (ps_expr he hs) fun Dd σ H ⟨g, F, Gf, ow, R, h⟩ => ⟨g, F, Gf, ow, R, ?_⟩
  unfold exprF at h
  cases q : fe g with
  | bad => rw [q] at h; exact h
  | ok l g' => rw [q] at h; exact fun v F' H' ow' ad R' ex hl ap => h F' H' σ ow' R' ex (.refl _ _)
theorem ss_ret (he : SE X e fe) : SS X fx (.Return (some e) pos) (retF fe) := by
  refine PS.imp (ps_ret he) fun Dd σ H ⟨g, F, Gf, ow, R, h⟩ => ⟨g, F, Gf, ow, R, ?_⟩
  unfold retF at h
  cases q : fe g with
  | bad => rw [q] at h; exact h
  | ok l g' => rw [q] at h; exact fun v F' H' ow' ad R' ex hl ap => h v F' H' σ ow' ad R' ex (.refl _ _) hl ap
theorem ss_retN : SS X fx (.Return none pos) retN :=
  PS.imp ps_retN fun Dd σ H ⟨g, F, Gf, ow, R, h⟩ => h .non F H σ ow [] R (Ex.refl _) (.refl _ _) ⟨rfl, .non⟩ .nil
theorem ss_if (hc : ST X c tf) (ha : SSs X fx a f1) (hb : SSs X fx b f2) : SS X fx (.If c a b pos) (ifF tf f1 f2) := by
  refine PS.imp (ps_if hc ha hb) fun Dd σ H ⟨g, F, Gf, ow, R, h⟩ => ⟨g, F, Gf, ow, R, ?_⟩
  unfold ifF at h
  cases q : tf g with
  | bad => rw [q] at h; exact h
  | ok cc g' =>
    rw [q] at h
    intro F' H' ow' R' ex
    cases cc with
    | true => exact ⟨g', F', Gf, ow', R', PoS.mono ex (.refl _ _) h⟩
    | false => exact ⟨g', F', Gf, ow', R', PoS.mono ex (.refl _ _) h⟩
theorem ss_set (i : Nat) {x : Str} (hN : X.N.Nodup) (he : SE X e fe) (hfx : i ∉ fx := by decide) (hi : X.N[i]? = some x := by rfl) (hx : Loc X.env.scope x := by first | exact Or.inl rfl | exact Or.inr rfl) (hs : swapsWith e (some (.Name x p)) pos.line X.env = pure false := by rfl)
    (hf : X.fn x = true ∨ X.env.scope.names.lookup x = some .local := by first | exact .inl rfl | exact .inr rfl | assumption) : SS X fx (.Assign [.Name x p] e pos) (setF i fe) := by
  refine PS.imp (ps_set hN hi hx he hs hf) fun Dd σ H ⟨g, F, Gf, ow, R, h⟩ => ⟨g, F, Gf, ow, R, ?_⟩
  unfold setF at h
  cases q : fe g with
  | bad => rw [q] at h; exact h
  | ok l g' =>
    rw [q] at h
    intro v F' H' ow' ad R' ex hl ap
    obtain ⟨ow2, R2⟩ := R'.put i hl ap
    exact h F' H' _ ow2 R2 ex ((off_set i).fix fun j hj z => hfx (by cases List.mem_singleton.mp z; exact hj))
theorem ss_asg (he : SE X e fe) (hg : SG X tg st t) (hfx : ∀ i ∈ fx, i ∉ st := by decide) (hs : swapsWithSole [tg] e pos.line X.env = pure false := by rfl) (hw : swappedStores [tg] e X.env = pure none := by rfl)
    (h1 : (assignEach [tg] X.env).map (·.2) = [assign tg X.env] := by rfl) : SS X fx (.Assign [tg] e pos) (asgF t fe) := by
  refine PS.imp (ps_asg he hg.pg hs hw h1) fun Dd σ H ⟨g, F, Gf, ow, R, h⟩ => ⟨g, F, Gf, ow, R, ?_⟩
  unfold asgF at h
  cases q : fe g with
  | bad => rw [q] at h; exact h
  | ok l g' =>
    rw [q] at h
    intro v F' H' ow' ad R' ex hl ap
    obtain ⟨R2, ex2, hd⟩ := R'.froz hl ap
    refine ⟨g', _, Gf, ow', l.view, R2, hd, ?_⟩
    cases q2 : t l.view g' with
    | none => simp only [q2] at h; exact h
    | some g2 =>
      simp only [q2] at h
      exact fun σ2 ow2 R3 o => h _ _ σ2 ow2 R3 (ex.trans ex2) (o.fix hfx)

/-! ### x op= e at a name that holds data -/
def augF (i : Nat) (op : D → D → Option D) (fb : Bf) : Sf := fun g => match g[i]? with
  | some (some (.dat x)) => match fb g with
    | .ok p g1 => match (resolve g1 p).bind (op x) with
      | some z => .next (g1.set i (some (.dat z)))
      | none => .bad
    | .bad => .bad
  | _ => .bad
theorem ss_aug (i : Nat) {x : Str} {op : Operator} {rr : R2} {f2 : D → D → Option D} {fb : Bf} (ho : OpR X (inplaceOp op) rr) (hr : OpD X.prog X.w X.K rr f2) (hN : X.N.Nodup) (he : SB X e fb) (hfx : i ∉ fx := by decide) (hi : X.N[i]? = some x := by rfl) (hx : Loc X.env.scope x := by first | exact Or.inl rfl | exact Or.inr rfl)
    (hf : X.fn x = true ∨ X.env.scope.names.lookup x = some .local := by first | exact .inl rfl | exact .inr rfl | assumption) : SS X fx (.AugAssign (.Name x p) op e pos) (augF i f2 fb) := by
  refine PS.imp (ps_aug (ti := rr) hN hi hx he (fun pins s σ H x y v u Q I rx ry q => ho pins s σ H x y v u Q I rx ry q) hf) fun Dd σ H ⟨g, F, Gf, ow, R, h⟩ => ?_
  unfold augF at h
  cases e1 : g[i]? with
  | none => simp only [e1] at h; exact h.elim
  | some o =>
    cases o with
    | none => simp only [e1] at h; exact h.elim
    | some l =>
      cases l with
      | dat x0 =>
        simp only [e1] at h
        obtain ⟨v, hv, hl⟩ := R.get i _ e1
        refine ⟨v, hv, ?_⟩
        cases q : fb g with
        | bad => simp only [q] at h; exact h.elim
        | ok p1 g1 =>
          simp only [q] at h
          refine RdB.of R q fun u F1 H1 ow1 R1 ex1 pv => ?_
          cases e2 : resolve g1 p1 with
          | none => simp only [e2, Option.bind_none] at h; exact h.elim
          | some y0 =>
            simp only [e2, Option.bind_some] at h
            cases e3 : f2 x0 y0 with
            | none => simp only [e3] at h; exact h.elim
            | some z =>
              simp only [e3] at h
              refine hr F1 H1 v u x0 y0 z _ R1.ex (.dat (hl.2.mono ex1)) (pv.view R1 e2) e3 fun r F2 H2 gr hd => ?_
              obtain ⟨ow2, R2⟩ := (R1.grow gr).put (l := .dat z) (ad := []) (v := r) i ⟨rfl, hd⟩ .nil
              exact h F2 H2 _ ow2 R2 (ex1.trans gr.f) ((off_set i).fix fun j hj z => hfx (by cases List.mem_singleton.mp z; exact hj))
      | _ => simp only [e1] at h; exact h.elim
theorem ss_iadd (i : Nat) {x : Str} {fb : Bf} (hN : X.N.Nodup) (he : SB X e fb) (hfx : i ∉ fx := by decide) (hi : X.N[i]? = some x := by rfl) (hx : Loc X.env.scope x := by first | exact Or.inl rfl | exact Or.inr rfl)
    (hf : X.fn x = true ∨ X.env.scope.names.lookup x = some .local := by first | exact .inl rfl | exact .inr rfl | assumption) : SS X fx (.AugAssign (.Name x p) .Add e pos) (augF i (intsD (fun _ _ => true) fun i j => .int (i + j)) fb) := ss_aug i iop_add od_ints0 hN he hfx hi hx hf
theorem ss_isub (i : Nat) {x : Str} {fb : Bf} (hN : X.N.Nodup) (he : SB X e fb) (hfx : i ∉ fx := by decide) (hi : X.N[i]? = some x := by rfl) (hx : Loc X.env.scope x := by first | exact Or.inl rfl | exact Or.inr rfl)
    (hf : X.fn x = true ∨ X.env.scope.names.lookup x = some .local := by first | exact .inl rfl | exact .inr rfl | assumption) : SS X fx (.AugAssign (.Name x p) .Sub e pos) (augF i (intsD (fun _ _ => true) fun i j => .int (i - j)) fb) := ss_aug i iop_sub od_ints0 hN he hfx hi hx hf

/-! ### a store into a name's own list or dict: x[k] = e -/
def storeD (l : L) (k v : D) : Option L := match l with
  | .lst ds => match k with
    | .int i => (ixN ds.length i).map fun j => .lst (ds.set j v)
    | _ => none
  | .dk kvs => (toKey k).bind fun q => if kvs.length < cap then some (.dk (put kvs q v)) else none
  | .dn kvs => (toTK k).bind fun q => if kvs.length < cap then some (.dn (put kvs q v)) else none
  | _ => none
def storeF (i : Nat) (fk : Bf) (fe : Ef) : Sf := fun g => match fe g with
  | .ok l g1 => match g1[i]? with
    | some (some _) => match fk g1 with
      | .ok p g2 => match resolve g2 p, g2[i]? with
        | some k, some (some l2) => match storeD l2 k l.view with
          | some l3 => .next (g2.set i (some l3))
          | none => .bad
        | _, _ => .bad
      | .bad => .bad
    | _ => .bad
  | .bad => .bad
def rSetAll (P : Program) (w : World) (K : PySem.W.Frag) : TSet := fun o i v H Q => rSetL o i v H Q ∨ ((∃ a ws q, o = .ref a ∧ i = kV q ∧ H a = some (.dK ws) ∧ ws.length < sizeLine ∧ Q (upd H a (.dK (put ws q v)))) ∨
  ∃ F a b ws k, o = .ref a ∧ i = .ref b ∧ Ex F H ∧ F a = none ∧ DnAt P w K F H a ws ∧ ws.length < sizeLine ∧ NKey K F (.ref b) k ∧ k.depth ≤ 8 ∧ ∀ o', DnAt P w K F (upd H a o') a (put ws k v) → Q (upd H a o'))
theorem set_all {k : Nat} (hr : Room k X.A) : PSet X (rSetAll X.prog X.w X.K) := by
  intro pins s σ H o i v ov iv u Q I ro ri rv h
  have hu := hr.units
  rcases h with h | ⟨a, ws, q, rfl, rfl, hH, hz, hq⟩ | ⟨F, a, b, ws, k, rfl, rfl, ex, hF, hd, hz, hk, hdp, hq⟩
  · exact set_list pins s σ H o i v ov iv u Q I ro ri rv h
  · obtain rfl : ov = Value.ref a := ro
    exact d_setItem (by omega) I (.inl ⟨ws, q, hH, rfl, hz, rfl⟩) ri rv fun s' I' => ⟨_, I', hq⟩
  · obtain rfl : ov = Value.ref a := ro
    exact dn_setItem hu I ex hd hF hz ri rv hk hdp fun o' s' I' hd' => ⟨_, I', hq o' hd'⟩
theorem ss_store {k : Nat} (hr : Room k X.A) (i : Nat) {x : Str} {ie : Expr} {fk : Bf} {po : Pos} (he : SE X e fe) (hk : SB X ie fk) (hN : X.N[i]? = some x := by rfl) (hv : Vis X.env.scope x := by first | exact Or.inl rfl | exact Or.inr (Or.inl rfl) | exact Or.inr (Or.inr rfl)) (hd : (x == ("__debug__" : Str)) = false := by decide)
    (hcd : (x == ("__classdict__" : Str)) = false := by decide) (ha : ∀ v, assign (.Subscript (.Name x po) ie p) X.env v = (do
      let ov ← holding [v] (eval (.Name x po) X.env)
      let iv ← holding [v, ov] (eval ie X.env)
      standAt p
      holding [v, ov, iv] (setItem ov iv v)
      release [v, ov, iv] []) := by intro _; rfl) (hs : swapsWithSole [.Subscript (.Name x po) ie p] e pos.line X.env = pure false := by rfl) (hw : swappedStores [.Subscript (.Name x po) ie p] e X.env = pure none := by rfl)
    (h1 : (assignEach [.Subscript (.Name x po) ie p] X.env).map (·.2) = [assign (.Subscript (.Name x po) ie p) X.env] := by rfl) : SS X fx (.Assign [.Subscript (.Name x po) ie p] e pos) (storeF i fk fe) := by
  refine PS.imp (ps_asg he (pg_sub (pe_var hN hv hd hcd) hk (set_all hr) ha) hs hw h1) fun Dd σ H ⟨g, F, Gf, ow, R, h⟩ => ⟨g, F, Gf, ow, R, ?_⟩
  unfold storeF at h
  cases q : fe g with
  | bad => rw [q] at h; exact h
  | ok l g1 =>
    simp only [q] at h
    intro v F1 H1 ow1 ad R1 ex1 hl ap
    obtain ⟨R2, ex2, hdat⟩ := R1.froz hl ap
    cases e1 : g1[i]? with
    | none => simp only [e1] at h; exact h.elim
    | some o =>
      cases o with
      | none => simp only [e1] at h; exact h.elim
      | some l1 =>
        simp only [e1] at h
        obtain ⟨ov, hv0, _⟩ := R2.get i _ e1
        refine ⟨ov, hv0, ?_⟩
        cases q2 : fk g1 with
        | bad => simp only [q2] at h; exact h.elim
        | ok pk g2 =>
          simp only [q2] at h
          refine RdB.of R2 q2 fun iv F3 H3 ow3 R3 ex3 pv => ?_
          cases e2 : resolve g2 pk with
          | none => simp only [e2] at h; exact h.elim
          | some kd =>
            cases e3 : g2[i]? with
            | none => simp only [e2, e3] at h; exact h.elim
            | some o2 =>
              cases o2 with
              | none => simp only [e2, e3] at h; exact h.elim
              | some l2 =>
                simp only [e2, e3] at h
                cases e4 : storeD l2 kd l.view with
                | none => simp only [e4] at h; exact h.elim
                | some l3 =>
                  simp only [e4] at h
                  have vk := pv.view R3 e2
                  have exA := (ex1.trans ex2).trans ex3
                  obtain ⟨ov', hv1, hl1⟩ := R3.get i _ e3
                  rw [hv0] at hv1; cases hv1
                  have dv := hdat.mono ex3
                  cases l2 with
                  | lst ds =>
                    cases kd with
                    | int ii =>
                      simp only [storeD] at e4
                      obtain ⟨j, hj, e4⟩ := Option.map_eq_some_iff.mp e4
                      subst e4
                      obtain rfl := vk.intOf
                      obtain ⟨b, xs, hv2, hb, hds, put⟩ := R3.lst e3
                      rw [hv0] at hv2; cases hv2
                      refine .inl ⟨b, xs, ii, j, rfl, rfl, hb, by rw [hds.length]; exact hj, ?_⟩
                      exact h _ _ σ ow3 (put _ _ (hds.set j dv)) exA (.refl _ _)
                    | _ => cases e4
                  | dk kvs =>
                    simp only [storeD] at e4
                    obtain ⟨qk, hq, e4⟩ := Option.bind_eq_some_iff.mp e4
                    by_cases hc : kvs.length < cap
                    · rw [if_pos hc] at e4
                      cases e4
                      have ek := vk.key hq
                      subst ek
                      obtain ⟨b, ws, rfl, ea, hb, e5, e6⟩ := hl1
                      have el : ws.length = kvs.length := by simpa using congrArg List.length e5
                      refine .inr (.inl ⟨b, ws, qk, rfl, rfl, hb, by rw [el]; exact cap_lt (Nat.le_of_lt hc), ?_⟩)
                      obtain ⟨z1, z2⟩ := put_of qk e5 e6 dv
                      refine h _ _ σ ow3 (R3.change e3 (by rw [ea]; exact List.mem_singleton.mpr rfl) fun v' hv' hl' => ?_) exA (.refl _ _)
                      rw [hv0] at hv'; cases hv'
                      exact ⟨b, _, rfl, ea, upd_same, z1, z2⟩
                    · rw [if_neg hc] at e4; cases e4
                  | dn kvs =>
                    simp only [storeD] at e4
                    obtain ⟨qk, hq, e4⟩ := Option.bind_eq_some_iff.mp e4
                    by_cases hc : kvs.length < cap
                    · rw [if_pos hc] at e4
                      cases e4
                      obtain ⟨c, rfl, hn, hdp⟩ := vk.tk hq
                      obtain ⟨b, ws, rfl, ea, hb, e5, e6⟩ := hl1
                      have el : ws.length = kvs.length := by simpa using congrArg List.length e5
                      refine .inr (.inr ⟨F3, b, c, ws, qk, rfl, rfl, R3.ex, (R3.out i b (by rw [ea]; exact List.mem_singleton.mpr rfl)).1, hb, by rw [el]; exact cap_lt (Nat.le_of_lt hc), hn, hdp, fun o' hd' => ?_⟩)
                      obtain ⟨z1, z2⟩ := put_of qk e5 e6 dv
                      refine h _ _ σ ow3 (R3.change e3 (by rw [ea]; exact List.mem_singleton.mpr rfl) fun v' hv' hl' => ?_) exA (.refl _ _)
                      rw [hv0] at hv'; cases hv'
                      exact ⟨b, _, rfl, ea, hd', z1, z2⟩
                    · rw [if_neg hc] at e4; cases e4
                  | _ => cases e4

/-! ### while -/
def whileF (t : Tf) (b : Sf) : Nat → Sf
  | 0 => fun _ => .bad
  | n + 1 => fun g => match t g with
    | .bad => .bad
    | .ok c g1 => if c = true then (match b g1 with
      | .next g2 => whileF t b n g2
      | .cont g2 => whileF t b n g2
      | .brk g2 => .next g2
      | r => r) else .next g1
def fuel : Nat := 1000000
theorem ss_while {n : Nat} (hp : PassesOwn (model X.prog X.w) X.A X.env X.xe) (hc : ST X c tf) (hb : SSs X fx r f) : SS X fx (.While c r [] pos) (whileF tf f n) := by
  refine PS.imp (ps_while hp hc hb) fun Dd σ H ⟨g, F, Gf, ow, R, h⟩ => ?_
  refine ⟨fun m σ' H' => ∃ g' F' ow', Rel X.prog X.w X.K F' H' Gf g' σ' ow' ∧ PoS X.prog X.w X.K fx F' Gf σ' Dd (whileF tf f m g'), ⟨n, g, F, ow, R, h⟩, ?_⟩
  rintro m σ1 H1 ⟨g1, F1, ow1, R1, h1⟩
  refine ⟨g1, F1, Gf, ow1, R1, ?_⟩
  cases m with
  | zero => exact h1.elim
  | succ m =>
    unfold whileF at h1
    cases q : tf g1 with
    | bad => simp only [q] at h1; exact h1.elim
    | ok cc g2 =>
      simp only [q] at h1
      intro F2 H2 ow2 R2 ex2
      cases cc with
      | false => simp only [if_neg (by decide : ¬ false = true)] at h1 ⊢; exact h1 F2 H2 σ1 ow2 R2 ex2 (.refl _ _)
      | true =>
        rw [if_pos rfl] at h1 ⊢
        refine ⟨fun σ' H' => ∃ g' F' ow', Rel X.prog X.w X.K F' H' Gf g' σ' ow' ∧ PoS X.prog X.w X.K fx F' Gf σ' Dd (whileF tf f m g'), fun σ' H' hh => ⟨m, Nat.lt_succ_self _, hh⟩, g2, F2, Gf, ow2, R2, ?_⟩
        cases q2 : f g2 with
        | next g3 => simp only [q2] at h1; exact fun F3 H3 σ3 ow3 R3 ex3 fi => ⟨g3, F3, ow3, R3, h1.mono (ex2.trans ex3) fi⟩
        | cont g3 => simp only [q2] at h1; exact fun F3 H3 σ3 ow3 R3 ex3 fi => ⟨g3, F3, ow3, R3, h1.mono (ex2.trans ex3) fi⟩
        | brk g3 => simp only [q2] at h1; exact fun F3 H3 σ3 ow3 R3 ex3 fi => h1 F3 H3 σ3 ow3 R3 (ex2.trans ex3) fi
        | ret l g3 => simp only [q2] at h1; exact h1.mono ex2 (.refl _ _)
        | bad => simp only [q2] at h1; exact h1.elim
end
end B

set_option maxHeartbeats 4000000
/-! enumerate of a tuple. -/
namespace PySem
open AutoSeq1 (wpAny_loadPart')
theorem b_enum_new {v : Value} {o : Obj} {Hc : Heap → Prop} (Bg : Begins v o Hc) :
    Meets (Builtin.«enumerate.__new__» ⟨[.type "enumerate", v], []⟩) (fun _ R s => Hc s.heap ∧
      R (.ok (.ret (.ref (s.heap.push o).objs.size)))
        { s with heap := (s.heap.push o).push { cls := .type "enumerate", data := .fields #[.none, .bool false, .ref s.heap.objs.size, rawInt 0, .none, .none] } }) :=
  .of_wp fun prog w A R s h => by
    obtain ⟨hp, g, d, tk, os⟩ := s; obtain ⟨hc, h⟩ := h
    have hsub := sub_enumerate
    have q1 : ∀ {A' : Around} {E : Value → Shared → Prop} {Q : Value → Shared → Prop}, Q (.ref hp.objs.size) ⟨hp.push o, g, d, tk, os⟩ → wpAny (model prog w) A' (pyIter v) Q E ⟨hp, g, d, tk, os⟩ :=
      fun q => Bg.iter prog w _ _ ⟨hp, g, d, tk, os⟩ _ hc q
    wp_walk
    refine wpAny_stack_any fun st => wpAny_pure ?_
    split
    · rename_i c _ _ _ _ _
      cases (c == Value.type "enumerate")
      · wp_walk using q1
        exact ⟨_, rfl, h⟩
      · wp_walk using q1
        exact ⟨_, rfl, h⟩
    · wp_walk using q1
      exact ⟨_, rfl, h⟩
section
variable {prog : Program} {w : World} {A : Around} {E : Value → Shared → Prop} {s : Shared}
theorem b_enum_call {v : Value} {o : Obj} {Hc : Heap → Prop} {Q : Value → Shared → Prop} (Bg : Begins v o Hc) (hc : Hc s.heap)
    (h : ∀ h', IsEnum h' (s.heap.objs.size + 1) s.heap.objs.size 0 .none → h'.get? s.heap.objs.size = some o → h'.objs.size = s.heap.objs.size + 2 →
      (∀ b u, s.heap.get? b = some u → h'.get? b = some u) → Q (.ref (s.heap.objs.size + 1)) { s with heap := h' }) :
    wpAny (model prog w) A (call (.type "enumerate") [v]) Q E s := by
  refine callType_new F.called_enumerate (by decide) (F.typeCall_enumerate_1 _) (F.newCall_enumerate_1 _) (fun obj => F.args_object_init_2 obj _) F.entry_enumerate_new (b_enum_new Bg) ⟨hc, ?_⟩
  have hz : (s.heap.push o).objs.size = s.heap.objs.size + 1 := Heap.size_push ..
  show _ ∧ _
  rw [hz]
  have he : IsEnum ((s.heap.push o).push { cls := .type "enumerate", data := .fields #[.none, .bool false, .ref s.heap.objs.size, rawInt 0, .none, .none] }) (s.heap.objs.size + 1) s.heap.objs.size 0 .none := by
    have := Heap.get?_push_size (s.heap.push o) (o := { cls := .type "enumerate", data := .fields #[.none, .bool false, .ref s.heap.objs.size, rawInt 0, .none, .none] }) rfl
    rw [hz] at this; exact this
  exact ⟨⟨_, he, rfl⟩, h _ he (Heap.get?_push_of_some _ (Heap.get?_push_size _ Bg.free)) (by rw [Heap.size_push, hz]) fun b u x => Heap.get?_push_of_some _ (Heap.get?_push_of_some _ x)⟩
end
end PySem
namespace B
open PySem PySem.Spec PyProof.Rows L2
/-- the tuple at a, each item in a new pair -/
def IteT (K : PySem.W.Frag) (a : Addr) : It :=
  ⟨fun i H => ∃ (xs : List V) (x : V), SqT K H a xs ∧ xs[i]? = some x, fun i H v H' => ∃ T x, v = .ref T ∧ H T = none ∧ H' = upd H T (.tup [.int (i : Nat), x]) ∧ ∀ xs, SqT K H a xs → xs[i]? = some x, fun i H => ∃ xs : List V, SqT K H a xs ∧ xs.length = i⟩
theorem turn_enumT {P : Program} {w : World} {K : PySem.W.Frag} {elts : List Expr} {kk : Nat} {tpos : Pos} (a e it : Addr) :
    Turn P w K (.Tuple elts kk tpos) (IteT K a) [e, it] e (fun i h => (∃ old, IsEnum h e it ((i : Nat) : Int) old) ∧ h.IsTupleIter it a i ∧ (e ≠ it ∧ a ≠ it ∧ e ≠ a)) where
  mem := List.mem_cons_self
  obj := fun i h st b hb => by
    obtain ⟨⟨old, he⟩, ⟨o, ho, hc, hd⟩, _⟩ := st
    have e' : b = e ∨ b = it := by simpa using hb
    rcases e' with z | z
    · subst z; exact ⟨_, he, fun v q => nomatch q⟩
    · subst z; exact ⟨o, ho, fun v q => by rw [hd] at q; cases q⟩
  keep := fun i h h' st k => let ⟨⟨old, he⟩, hi, hne⟩ := st; ⟨⟨old, k e (by simp) _ he⟩, hi.at fun o q => k it (by simp) o q, hne⟩
  item := by
    intro X hP hw hK hc i pins s σ H E I hf st hg
    subst hP hw hK
    obtain ⟨⟨old, he⟩, hit, hne, hai, hea⟩ := st
    obtain ⟨xs, x, hq, hx⟩ := hg
    obtain ⟨its, rv, p, hz⟩ := I.tuple hq
    have hel : e < s.heap.objs.size := Heap.lt_size he
    have hil : it < s.heap.objs.size := by obtain ⟨_, q, _⟩ := hit; exact Heap.lt_size q
    have hlen := rv.length
    have hi : i < its.toArray.size := by have := (List.getElem?_eq_some_iff.mp hx).1; simpa [← hlen] using this
    refine wpAny_pyNext_enum_itemD (Draws.tuple (A := X.A.in1) (I.ok.hd hc) it a hai its.toArray) he ⟨hit, p⟩ hi hne (by simp [hne, hea]) fun u h' tk hu ho hst hT hsz hk => ?_
    refine ⟨_, rfl, wpAny_letOwnedTupleGo_enum (s := { s with heap := h', toks := tk + 1 }) ho fun h'' he' sb => ?_⟩
    have ru : RelV x u := by
      obtain ⟨u', h1, h2⟩ := rv.get hx
      have : its.toArray[i]? = some u := hu
      rw [List.getElem?_toArray, h1] at this
      cases this
      exact h2
    have hT2 : h''.get? s.heap.objs.size = some { cls := .type "tuple", data := .seq #[.int i tk, u] } := (sb.2 _ (Nat.ne_of_gt hel)).trans hT
    have new : ObjOk X.prog X.w (upd H s.heap.objs.size (.tup [.int (i : Nat), x])) h'' s.heap.objs.size (.tup [.int (i : Nat), x]) :=
      ⟨by show 2 ≤ sizeLine; decide, [.int i tk, u], .cons ⟨_, rfl⟩ (.cons ru .nil), ⟨_, hT2, rfl, _, rfl⟩⟩
    have I1 : Inv X pins σ (upd H s.heap.objs.size (.tup [.int (i : Nat), x])) { s with heap := h'', toks := tk + 1 } :=
      I.turnedNew (ch := [e, it]) (fun b ob hb q => (sb.2 b (fun z => hb (by simp [z]))).trans (hk b ob (fun z => hb (by simp [z])) (fun z => hb (by simp [z])) q)) hf (Nat.le_refl _) new
    refine ⟨.ref s.heap.objs.size, _, I1, rfl, ⟨_, x, rfl, I.hok.fresh (Nat.le_refl _), rfl, fun ys hy => by rw [I.tuple_inj hy hq]; exact hx⟩, ⟨⟨u, ?_⟩, hst.1.at fun o q => (sb.2 it (Ne.symm hne)).trans q, hne, hai, hea⟩, fun b hb => ?_⟩
    · have e1 : ((i + 1 : Nat) : Int) = (i : Int) + 1 := by omega
      rw [e1]; exact he'
    · have hb' : b < s.heap.objs.size := by
        have e' : b = e ∨ b = it := by simpa using hb
        rcases e' with z | z
        · rw [z]; exact hel
        · rw [z]; exact hil
      rw [upd_ne (Nat.ne_of_lt hb')]
      exact (hf b hb).1
  done := by
    intro X hP hw hK hc i pins s σ H E I hf st hg
    subst hP hw hK
    obtain ⟨⟨old, he⟩, hit, hne, hai, hea⟩ := st
    obtain ⟨xs, hq, hx⟩ := hg
    obtain ⟨its, rv, p, hz⟩ := I.tuple hq
    obtain ⟨f0, f1, f2, f3, f4, f5⟩ := hf it (by simp)
    have hl := rv.length
    have hi : i = its.toArray.size := by rw [List.size_toArray, ← hl]; exact hx.symm
    subst hi
    exact wpAny_pyNext_enum_endD (Draws.tuple (A := X.A.in1) (I.ok.hd hc) it a hai its.toArray) he ⟨hit, p⟩ fun h' eb => ⟨rfl, I.turned (t' := s.toks) (fun b o hb q => eb b o hb q) f0 f1 f3 f4 f5⟩
  self := fun A i s Q E st h => let ⟨⟨_, he⟩, _⟩ := st; wpAny_pyIter_enum he h
def iEnumA (K : PySem.W.Frag) (ta : TA) : TI := fun σ H R => ta σ H fun vs H1 => ∃ a, vs = [.ref a] ∧ ((∃ xs, SqL K H1 a xs ∧ R (Ite K a) H1) ∨ ∃ xs, SqT K H1 a xs ∧ R (IteT K a) H1)
theorem pi_enumA {X : Cx} {e : Expr} {ta : TA} {p pos tpos : Pos} {elts : List Expr} {kk : Nat} (hg : Gl X "enumerate") (hm : X.mg "enumerate" = none) (ha : PA X [e] ta) (hs : starEach [e] X.env = [(false, eval e X.env)] := by rfl) :
    PI X (.Tuple elts kk tpos) (.Call (.Name "enumerate" p) [e] [] pos) (iEnumA X.K ta) := by
  refine ⟨fun pins s σ H R I h => ?_⟩
  refine Call_ (ld_blt I hg hm boot_enumerate (PyProof.Rows.callWith_type1 (thn (ha.run pos pins s σ H _ I h) fun us s1 ⟨vs, H1, I1, r1, q1⟩ => ?_) hs rfl))
  obtain ⟨a, ex, q1⟩ := q1
  subst ex
  obtain ⟨u, rfl, ru⟩ := vals1 r1
  obtain rfl : u = Value.ref a := ru
  rcases q1 with ⟨xs, hq, q⟩ | ⟨xs, hq, q⟩
  · obtain ⟨its, rv, p', hz⟩ := I1.list hq
    refine call_enumerate_list p'.isList fun h' he hit hsz hk => wpAny_pyIter_enum he ?_
    have I2 : Inv X pins σ H1 { s1 with heap := h' } := I1.kept (t' := s1.toks) hk
    refine ⟨_, [s1.heap.objs.size + 1, s1.heap.objs.size], _, _, H1, rfl, I2, turn_enum a (s1.heap.objs.size + 1) s1.heap.objs.size, ⟨⟨.none, he⟩, hit, Nat.succ_ne_self _⟩, fun b hb => ?_, q⟩
    have hle : s1.heap.objs.size ≤ b := by
      rcases (show b = s1.heap.objs.size + 1 ∨ b = s1.heap.objs.size by simpa using hb) with z | z
      · rw [z]; exact Nat.le_add_right _ _
      · rw [z]; exact Nat.le_refl _
    exact I1.fpOk hle (I1.hok.fresh hle)
  · obtain ⟨its, rv, p', hz⟩ := I1.tuple hq
    have hlt : a < s1.heap.objs.size := p'.lt
    refine b_enum_call (begins_tuple a its.toArray) p' fun h' he hit hsz hk => wpAny_pyIter_enum he ?_
    have I2 : Inv X pins σ H1 { s1 with heap := h' } := I1.kept (t' := s1.toks) hk
    refine ⟨_, [s1.heap.objs.size + 1, s1.heap.objs.size], _, _, H1, rfl, I2, turn_enumT a (s1.heap.objs.size + 1) s1.heap.objs.size, ⟨⟨.none, he⟩, ⟨_, hit, rfl, rfl⟩, Nat.succ_ne_self _, Nat.ne_of_lt hlt, Nat.ne_of_gt (Nat.lt_succ_of_lt hlt)⟩, fun b hb => ?_, q⟩
    have hle : s1.heap.objs.size ≤ b := by
      rcases (show b = s1.heap.objs.size + 1 ∨ b = s1.heap.objs.size by simpa using hb) with z | z
      · rw [z]; exact Nat.le_add_right _ _
      · rw [z]; exact Nat.le_refl _
    exact I1.fpOk hle (I1.hok.fresh hle)
end B

set_option maxHeartbeats 4000000
/-! What a loop walks; for; list comprehensions. -/
namespace B
open PySem PySem.Spec PyProof.Rows L2

/-- J walks the data ds, whatever comes to the heap -/
def Walks (P : Program) (w : World) (K : PySem.W.Frag) (F : Hp) (J : It) (ds : List D) : Prop := ∀ F' H', Ex F F' → Ex F' H' → (J.stop ds.length H') ∧ ∀ i d, ds[i]? = some d → J.go i H' ∧ ∀ x H2, J.yld i H' x H2 → ∃ F2, Grow F' H' F2 H2 ∧ Dat P w K F2 x d
theorem Walks.mono {P : Program} {w : World} {K : PySem.W.Frag} {F F1 : Hp} {J : It} {ds : List D} (h : Walks P w K F J ds) (e : Ex F F1) : Walks P w K F1 J ds := fun F' H' e1 e2 => h F' H' (e.trans e1) e2
abbrev Itf := G → Res (List D)
def RdI (P : Program) (w : World) (K : PySem.W.Frag) (f : Itf) : TI := fun σ H R => ∃ g F Gf ow, Rel P w K F H Gf g σ ow ∧ match f g with
  | .bad => False
  | .ok ds g' => ∀ J F' H' ow', Rel P w K F' H' Gf g' σ ow' → Ex F F' → Walks P w K F' J ds → R J H'
abbrev SI (X : Cx) (tg e : Expr) (f : Itf) : Prop := PI X tg e (RdI X.prog X.w X.K f)
theorem PI.imp {X : Cx} {tg e : Expr} {t t' : TI} (h : PI X tg e t) (i : ∀ σ H Q, t' σ H Q → t σ H Q) : PI X tg e t' := ⟨fun pins s σ H Q I q => h.run pins s σ H Q I (i σ H Q q)⟩
/-- the items of data -/
def seqD : D → Option (List D)
  | .lst ds => some ds
  | .tup ds => some ds
  | .str x => some (x.cps.toList.map fun c => .str ⟨#[c]⟩)
  | _ => none
section
variable {P : Program} {w : World} {K : PySem.W.Frag} {F : Hp} {a b : Addr} {xs ys : List V} {ds es : List D}
theorem walks_list (hq : SqL K F a xs) (hd : DatL P w K F xs ds) : Walks P w K F (Itl K a) ds := fun F' H' e1 e2 =>
  ⟨⟨xs, e2.sqL (e1.sqL hq), by rw [hd.length]; exact Nat.le_refl _⟩, fun i d hi => by
    obtain ⟨v, h1, h2⟩ := hd.get hi
    refine ⟨⟨xs, v, e2.sqL (e1.sqL hq), h1⟩, fun x H2 y => ?_⟩
    obtain ⟨e, y⟩ := y
    subst e
    have q := y xs (e2.sqL (e1.sqL hq))
    rw [h1] at q; cases q
    exact ⟨F', .refl e2, h2.mono e1⟩⟩
theorem walks_tup (hq : SqT K F a xs) (hd : DatL P w K F xs ds) : Walks P w K F (Itt K a) ds := fun F' H' e1 e2 =>
  ⟨⟨xs, e2.sqT (e1.sqT hq), by rw [hd.length]; exact Nat.le_refl _⟩, fun i d hi => by
    obtain ⟨v, h1, h2⟩ := hd.get hi
    refine ⟨⟨xs, v, e2.sqT (e1.sqT hq), h1⟩, fun x H2 y => ?_⟩
    obtain ⟨e, y⟩ := y
    subst e
    have q := y xs (e2.sqT (e1.sqT hq))
    rw [h1] at q; cases q
    exact ⟨F', .refl e2, h2.mono e1⟩⟩
theorem walks_str (x : Str) : Walks P w K F (Its x) (x.cps.toList.map fun c => .str ⟨#[c]⟩) := fun F' H' e1 e2 =>
  ⟨by show x.cps.size ≤ _; simp, fun i d hi => by
    rw [List.getElem?_map] at hi
    obtain ⟨c, h1, h2⟩ := Option.map_eq_some_iff.mp hi
    subst h2
    have h1' : x.cps[i]? = some c := by rw [← Array.getElem?_toList]; exact h1
    refine ⟨by show i < x.cps.size; obtain ⟨q, _⟩ := Array.getElem?_eq_some_iff.mp h1'; exact q, fun y H2 yy => ?_⟩
    obtain ⟨e, c', h3, e4⟩ := yy
    subst e e4
    rw [h1'] at h3; cases h3
    exact ⟨F', .refl e2, .str _⟩⟩
theorem walks_enum (hq : SqL K F a xs) (hd : DatL P w K F xs ds) : Walks P w K F (Ite K a) (ds.mapIdx fun i d => .tup [.int i, d]) := fun F' H' e1 e2 =>
  ⟨⟨xs, e2.sqL (e1.sqL hq), by rw [List.length_mapIdx, hd.length]; exact Nat.le_refl _⟩, fun i d hi => by
    rw [List.getElem?_mapIdx] at hi
    obtain ⟨d0, h0, h00⟩ := Option.map_eq_some_iff.mp hi
    subst h00
    obtain ⟨v, h1, h2⟩ := hd.get h0
    refine ⟨⟨xs, v, e2.sqL (e1.sqL hq), h1⟩, fun x H2 y => ?_⟩
    obtain ⟨T, x0, e3, e4, e5, y⟩ := y
    subst e3 e5
    have q := y xs (e2.sqL (e1.sqL hq))
    rw [h1] at q; cases q
    have gr := Grow.put (o := .tup [.int (i : Nat), v]) e2 e4
    exact ⟨_, gr, .tup (.inl (.inl upd_same)) (.cons (.int _) (.cons (h2.mono (e1.trans gr.f)) .nil))⟩⟩
theorem walks_enumT (hq : SqT K F a xs) (hd : DatL P w K F xs ds) : Walks P w K F (IteT K a) (ds.mapIdx fun i d => .tup [.int i, d]) := fun F' H' e1 e2 =>
  ⟨⟨xs, e2.sqT (e1.sqT hq), by rw [List.length_mapIdx, hd.length]⟩, fun i d hi => by
    rw [List.getElem?_mapIdx] at hi
    obtain ⟨d0, h0, h00⟩ := Option.map_eq_some_iff.mp hi
    subst h00
    obtain ⟨v, h1, h2⟩ := hd.get h0
    refine ⟨⟨xs, v, e2.sqT (e1.sqT hq), h1⟩, fun x H2 y => ?_⟩
    obtain ⟨T, x0, e3, e4, e5, y⟩ := y
    subst e3 e5
    have q := y xs (e2.sqT (e1.sqT hq))
    rw [h1] at q; cases q
    have gr := Grow.put (o := .tup [.int (i : Nat), v]) e2 e4
    exact ⟨_, gr, .tup (.inl (.inl upd_same)) (.cons (.int _) (.cons (h2.mono (e1.trans gr.f)) .nil))⟩⟩
theorem walks_range (lo : Int) (n : Nat) : Walks P w K F (Itr lo n) ((List.range n).map fun (i : Nat) => .int (lo + (i : Int))) := fun F' H' e1 e2 =>
  ⟨by show n ≤ _; simp, fun i d hi => by
    rw [List.getElem?_map] at hi
    obtain ⟨c, h1, h2⟩ := Option.map_eq_some_iff.mp hi
    subst h2
    obtain ⟨q1, q2⟩ := List.getElem?_eq_some_iff.mp h1
    rw [List.getElem_range] at q2
    subst q2
    rw [List.length_range] at q1
    refine ⟨q1, fun y H2 yy => ?_⟩
    obtain ⟨e, e3⟩ := yy
    subst e e3
    exact ⟨F', .refl e2, .int _⟩⟩
theorem walks_zip (ha : SqL K F a xs) (hb : SqL K F b ys) (hd : DatL P w K F xs ds) (he : DatL P w K F ys es) : Walks P w K F (Itz K a b) ((ds.zip es).map fun p => .tup [p.1, p.2]) := fun F' H' e1 e2 => by
  have lx := e2.sqL (e1.sqL ha)
  have ly := e2.sqL (e1.sqL hb)
  refine ⟨⟨xs, ys, lx, ly, by rw [List.length_map, List.length_zip, hd.length, he.length]; omega⟩, fun i d hi => ?_⟩
  rw [List.getElem?_map] at hi
  obtain ⟨⟨d1, d2⟩, h1, h2⟩ := Option.map_eq_some_iff.mp hi
  subst h2
  obtain ⟨g1, g2⟩ := List.getElem?_zip_eq_some.mp h1
  obtain ⟨v, v1, v2⟩ := hd.get g1
  obtain ⟨u, u1, u2⟩ := he.get g2
  refine ⟨⟨xs, ys, v, u, lx, ly, v1, u1⟩, fun x H2 y => ?_⟩
  obtain ⟨T, x0, y0, e3, e4, e5, y1, y2⟩ := y
  subst e3 e5
  have q := y1 xs lx
  rw [v1] at q; cases q
  have q := y2 ys ly
  rw [u1] at q; cases q
  have gr := Grow.put (o := .tup [v, u]) e2 e4
  exact ⟨_, gr, .tup (.inl (.inl upd_same)) (.cons (v2.mono (e1.trans gr.f)) (.cons (u2.mono (e1.trans gr.f)) .nil))⟩
theorem walks_zipT (ha : SqT K F a xs) (hb : SqT K F b ys) (hd : DatL P w K F xs ds) (he : DatL P w K F ys es) : Walks P w K F (RZ.ItzT K a b) ((ds.zip es).map fun p => .tup [p.1, p.2]) := fun F' H' e1 e2 => by
  have lx := e2.sqT (e1.sqT ha)
  have ly := e2.sqT (e1.sqT hb)
  refine ⟨⟨xs, ys, lx, ly, by rw [List.length_map, List.length_zip, hd.length, he.length]; omega⟩, fun i d hi => ?_⟩
  rw [List.getElem?_map] at hi
  obtain ⟨⟨d1, d2⟩, h1, h2⟩ := Option.map_eq_some_iff.mp hi
  subst h2
  obtain ⟨g1, g2⟩ := List.getElem?_zip_eq_some.mp h1
  obtain ⟨v, v1, v2⟩ := hd.get g1
  obtain ⟨u, u1, u2⟩ := he.get g2
  refine ⟨⟨xs, ys, v, u, lx, ly, v1, u1⟩, fun x H2 y => ?_⟩
  obtain ⟨T, x0, y0, e3, e4, e5, y1, y2⟩ := y
  subst e3 e5
  have q := y1 xs lx
  rw [v1] at q; cases q
  have q := y2 ys ly
  rw [u1] at q; cases q
  have gr := Grow.put (o := .tup [v, u]) e2 e4
  exact ⟨_, gr, .tup (.inl (.inl upd_same)) (.cons (v2.mono (e1.trans gr.f)) (.cons (u2.mono (e1.trans gr.f)) .nil))⟩
end
def seqI (fe : Ef) : Itf := fun g => (fe g).bd fun l g' => match seqD l.view with
  | some ds => .ok ds g'
  | none => .bad
def enumI (fe : Ef) : Itf := fun g => (fe g).bd fun l g' => match l.view with
  | .lst ds => .ok (ds.mapIdx fun i d => .tup [.int i, d]) g'
  | .tup ds => .ok (ds.mapIdx fun i d => .tup [.int i, d]) g'
  | _ => .bad
def zipI (fa fb : Ef) : Itf := fun g => (fa g).bd fun la g1 => (fb g1).bd fun lb g2 => match la.view, lb.view with
  | .lst ds, .lst es => .ok ((ds.zip es).map fun p => .tup [p.1, p.2]) g2
  | .tup ds, .tup es => .ok ((ds.zip es).map fun p => .tup [p.1, p.2]) g2
  | _, _ => .bad
def rngI1 (fa : Ef) : Itf := fun g => (fa g).bd fun la g1 => match la with
  | .dat (.int n) => if n.natAbs < cap then .ok ((List.range n.toNat).map fun (i : Nat) => .int (0 + (i : Int))) g1 else .bad
  | _ => .bad
def rngI2 (fa fb : Ef) : Itf := fun g => (fa g).bd fun la g1 => (fb g1).bd fun lb g2 => match la, lb with
  | .dat (.int m), .dat (.int n) => if 0 ≤ m ∧ m.natAbs < cap ∧ 0 ≤ n ∧ n.natAbs < cap then .ok ((List.range (n - m).toNat).map fun (i : Nat) => .int (m + (i : Int))) g2 else .bad
  | _, _ => .bad
section
variable {X : Cx} {tg e e2 : Expr} {fe fa fb : Ef} {pos p tpos : Pos} {elts : List Expr} {kk : Nat}
def iSeq (K : PySem.W.Frag) (tl : TE) : TI := fun σ H R => tl σ H fun x H1 => (∃ a, x = .ref a ∧ (∃ xs, SqL K H1 a xs) ∧ R (Itl K a) H1) ∨ ((∃ a, x = .ref a ∧ (∃ xs, SqT K H1 a xs) ∧ R (Itt K a) H1) ∨ ∃ z, x = .str z ∧ R (Its z) H1)
theorem pi_seqA {tl : TE} (hl : PE X e tl) : PI X tg e (iSeq X.K tl) := by
  refine ⟨fun pins s σ H R I h => ?_⟩
  refine thn (hl.run pins s σ H _ I h) fun v s1 ⟨x, H1, I1, r1, q1⟩ => ?_
  rcases q1 with ⟨a, e, ⟨xs, hq⟩, q⟩ | ⟨a, e, ⟨xs, hq⟩, q⟩ | ⟨z, e, q⟩
  · subst e
    cases r1
    obtain ⟨its, rv, p, hz⟩ := I1.list hq
    refine wpAny_pyIter_list p.isList ?_
    refine ⟨s1.heap.objs.size, [s1.heap.objs.size], _, _, H1, rfl, I1.kept (t' := s1.toks) fun b o e => Heap.get?_push_of_some _ e, turn_list a _, ⟨_, Heap.get?_push_size _ rfl, rfl, rfl⟩, fun b hb => ?_, q⟩
    have e : b = s1.heap.objs.size := by simpa using hb
    subst e
    exact I1.fpOk (Nat.le_refl _) (I1.hok.fresh (Nat.le_refl _))
  · subst e
    cases r1
    obtain ⟨its, rv, p, hz⟩ := I1.tuple hq
    refine wpAny_pyIter_tuple (show s1.heap.IsTuple a its.toArray from p) ?_
    refine ⟨s1.heap.objs.size, [s1.heap.objs.size], _, _, H1, rfl, I1.kept (t' := s1.toks) fun b o e => Heap.get?_push_of_some _ e, turn_tuple a _, ⟨_, Heap.get?_push_size _ rfl, rfl, rfl⟩, fun b hb => ?_, q⟩
    have e : b = s1.heap.objs.size := by simpa using hb
    subst e
    exact I1.fpOk (Nat.le_refl _) (I1.hok.fresh (Nat.le_refl _))
  · subst e
    obtain ⟨t, rfl⟩ := r1
    cases ha : z.cps.all (· < 128)
    · exact wpAny_pyIter_wide ha (pi_one (tk := s1.toks) I1 _ (turn_str _ z t "str_iterator" (.inr rfl)) ⟨_, Heap.get?_push_size _ rfl, rfl, rfl⟩ q)
    · exact wpAny_pyIter_ascii ha (pi_one (tk := s1.toks) I1 _ (turn_str _ z t "str_ascii_iterator" (.inl rfl)) ⟨_, Heap.get?_push_size _ rfl, rfl, rfl⟩ q)
theorem si_seq (he : SE X e fe) : SI X tg e (seqI fe) := by
  refine PI.imp (pi_seqA he) fun σ H Q ⟨g, F, Gf, ow, R, h⟩ => ⟨g, F, Gf, ow, R, ?_⟩
  unfold seqI at h
  cases q : fe g with
  | bad => rw [q] at h; exact h
  | ok l g1 =>
    simp only [Res.bd, q] at h
    intro v F1 H1 ow1 ad R1 ex1 hl ap
    obtain ⟨R2, ex2, hd⟩ := R1.froz hl ap
    cases e1 : seqD l.view with
    | none => simp only [e1] at h
    | some ds =>
      simp only [e1] at h
      generalize l.view = d at e1 hd
      cases d with
      | lst es =>
        cases e1
        cases hd with
        | lst h1 h2 => exact .inl ⟨_, rfl, ⟨_, R2.ex.sqL h1⟩, h _ _ H1 ow1 R2 (ex1.trans ex2) (walks_list h1 h2)⟩
      | tup es =>
        cases e1
        cases hd with
        | tup h1 h2 => exact .inr (.inl ⟨_, rfl, ⟨_, R2.ex.sqT h1⟩, h _ _ H1 ow1 R2 (ex1.trans ex2) (walks_tup h1 h2)⟩)
      | str z =>
        cases e1
        cases hd
        exact .inr (.inr ⟨z, rfl, h _ _ H1 ow1 R2 (ex1.trans ex2) (walks_str z)⟩)
      | _ => cases e1
theorem one_rd {P : Program} {w : World} {K : PySem.W.Frag} {σ : L2.St} {H F Gf : Hp} {g g1 : G} {ow : Nat → List Addr} {l : L} {Q : List V → Hp → Prop} (R : Rel P w K F H Gf g σ ow) (q : fe g = .ok l g1)
    (h : ∀ v F' H' ow', Rel P w K F' H' Gf g1 σ ow' → Ex F F' → Dat P w K F' v l.view → Q [v] H') : tCons (RdE P w K fe) tNil σ H Q :=
  RdE.of R q fun v F1 H1 ow1 ad R1 ex1 hl ap => by
    obtain ⟨R2, ex2, hd⟩ := R1.froz hl ap
    exact h v _ H1 ow1 R2 (ex1.trans ex2) hd
theorem two_rd {P : Program} {w : World} {K : PySem.W.Frag} {σ : L2.St} {H F Gf : Hp} {g g1 g2 : G} {ow : Nat → List Addr} {l l2 : L} {Q : List V → Hp → Prop} (R : Rel P w K F H Gf g σ ow) (q : fa g = .ok l g1) (q2 : fb g1 = .ok l2 g2)
    (h : ∀ v u F' H' ow', Rel P w K F' H' Gf g2 σ ow' → Ex F F' → Dat P w K F' v l.view → Dat P w K F' u l2.view → Q [v, u] H') : tCons (RdE P w K fa) (tCons (RdE P w K fb) tNil) σ H Q :=
  RdE.of R q fun v F1 H1 ow1 ad R1 ex1 hl ap => by
    obtain ⟨R2, ex2, hd⟩ := R1.froz hl ap
    refine RdE.of R2 q2 fun u F3 H3 ow3 ad3 R3 ex3 hl3 ap3 => ?_
    obtain ⟨R4, ex4, hd4⟩ := R3.froz hl3 ap3
    exact h v u _ H3 ow3 R4 (((ex1.trans ex2).trans ex3).trans ex4) (hd.mono (ex3.trans ex4)) hd4
theorem si_enum (hg : Gl X "enumerate") (hm : X.mg "enumerate" = none) (he : SE X e fe) (hs : starEach [e] X.env = [(false, eval e X.env)] := by rfl) : SI X (.Tuple elts kk tpos) (.Call (.Name "enumerate" p) [e] [] pos) (enumI fe) := by
  refine PI.imp (pi_enumA hg hm (pa_cons he pa_nil hs) hs) fun σ H Q ⟨g, F, Gf, ow, R, h⟩ => ?_
  unfold enumI at h
  cases q : fe g with
  | bad => rw [q] at h; exact h.elim
  | ok l g1 =>
    simp only [Res.bd, q] at h
    cases e1 : l.view with
    | lst ds =>
      simp only [e1] at h
      refine one_rd R q fun v F1 H1 ow1 R1 ex1 hd => ?_
      rw [e1] at hd
      cases hd with
      | lst h1 h2 => exact ⟨_, rfl, .inl ⟨_, R1.ex.sqL h1, h _ _ H1 ow1 R1 ex1 (walks_enum h1 h2)⟩⟩
    | tup ds =>
      simp only [e1] at h
      refine one_rd R q fun v F1 H1 ow1 R1 ex1 hd => ?_
      rw [e1] at hd
      cases hd with
      | tup h1 h2 => exact ⟨_, rfl, .inr ⟨_, R1.ex.sqT h1, h _ _ H1 ow1 R1 ex1 (walks_enumT h1 h2)⟩⟩
    | _ => simp only [e1] at h
theorem si_zip (hg : Gl X "zip") (hm : X.mg "zip" = none) (ha : SE X e fa) (hb : SE X e2 fb) (hs : starEach [e, e2] X.env = (false, eval e X.env) :: starEach [e2] X.env := by rfl) (hs2 : starEach [e2] X.env = (false, eval e2 X.env) :: starEach [] X.env := by rfl)
    (hpl : (backTo pos (starEach [e2] X.env)).any (·.1) = false := by rfl) : SI X (.Tuple elts kk tpos) (.Call (.Name "zip" p) [e, e2] [] pos) (zipI fa fb) := by
  refine PI.imp (RZ.pi_zipA hg hm (pa_cons ha (pa_cons hb pa_nil hs2) hs) hs hpl) fun σ H Q ⟨g, F, Gf, ow, R, h⟩ => ?_
  unfold zipI at h
  cases q : fa g with
  | bad => rw [q] at h; exact h.elim
  | ok l g1 =>
    simp only [Res.bd, q] at h
    cases q2 : fb g1 with
    | bad => simp only [q2] at h
    | ok l2 g2 =>
      simp only [q2] at h
      cases e1 : l.view with
      | lst ds =>
        cases e2 : l2.view with
        | lst es =>
          simp only [e1, e2] at h
          refine two_rd R q q2 fun v u F1 H1 ow1 R1 ex1 hd hd2 => ?_
          rw [e1] at hd
          rw [e2] at hd2
          cases hd with
          | lst h1 h2 =>
            cases hd2 with
            | lst h3 h4 => exact ⟨_, _, _, _, rfl, .inl ⟨R1.ex.sqL h1, R1.ex.sqL h3, h _ _ H1 ow1 R1 ex1 (walks_zip h1 h3 h2 h4)⟩⟩
        | _ => simp only [e1, e2] at h
      | tup ds =>
        cases e2 : l2.view with
        | tup es =>
          simp only [e1, e2] at h
          refine two_rd R q q2 fun v u F1 H1 ow1 R1 ex1 hd hd2 => ?_
          rw [e1] at hd
          rw [e2] at hd2
          cases hd with
          | tup h1 h2 =>
            cases hd2 with
            | tup h3 h4 => exact ⟨_, _, _, _, rfl, .inr ⟨R1.ex.sqT h1, R1.ex.sqT h3, h _ _ H1 ow1 R1 ex1 (walks_zipT h1 h3 h2 h4)⟩⟩
        | _ => simp only [e1, e2] at h
      | _ => simp only [e1] at h
theorem cap_lt62 {n : Int} (h : n < (cap : Nat)) : n < 2 ^ 62 := Int.lt_of_lt_of_le h (by decide)
theorem walks_neg {P : Program} {w : World} {K : PySem.W.Frag} {F : Hp} (n : Int) : Walks P w K F (Itr 0 n.toNat) ((List.range n.toNat).map fun (i : Nat) => .int (0 + (i : Int))) := walks_range 0 n.toNat
theorem cap_ge62 {n : Int} (h : -(cap : Int) ≤ n) : -(2 ^ 62) ≤ n := Int.le_trans (by decide) h
theorem si_range1 (hg : Gl X "range") (hm : X.mg "range" = none) (he : SE X e fe) (hs : starEach [e] X.env = [(false, eval e X.env)] := by rfl) : SI X tg (.Call (.Name "range" p) [e] [] pos) (rngI1 fe) := by
  refine PI.imp (pi_range1 hg hm (pa_cons he pa_nil hs) hs) fun σ H Q ⟨g, F, Gf, ow, R, h⟩ => ?_
  unfold rngI1 at h
  cases q : fe g with
  | bad => rw [q] at h; exact h.elim
  | ok l g1 =>
    simp only [Res.bd, q] at h
    cases l with
    | dat d =>
      cases d with
      | int n =>
        simp only at h
        by_cases hn : n.natAbs < cap
        · rw [if_pos hn] at h
          refine one_rd R q fun v F1 H1 ow1 R1 ex1 hd => ?_
          cases hd
          exact ⟨n, rfl, cap_ge62 (by omega), cap_lt62 (by omega), h _ _ H1 ow1 R1 ex1 (walks_range 0 _)⟩
        · rw [if_neg hn] at h; exact h.elim
      | _ => exact h.elim
    | _ => exact h.elim
theorem si_range2 (hg : Gl X "range") (hm : X.mg "range" = none) (ha : SE X e fa) (hb : SE X e2 fb) (hs : starEach [e, e2] X.env = [(false, eval e X.env), (false, eval e2 X.env)] := by rfl) (hs2 : starEach [e2] X.env = [(false, eval e2 X.env)] := by rfl) :
    SI X tg (.Call (.Name "range" p) [e, e2] [] pos) (rngI2 fa fb) := by
  refine PI.imp (pi_range2 hg hm (pa_cons ha (pa_cons hb pa_nil hs2) (hs.trans (by rw [hs2]))) hs hs2) fun σ H Q ⟨g, F, Gf, ow, R, h⟩ => ?_
  unfold rngI2 at h
  cases q : fa g with
  | bad => rw [q] at h; exact h.elim
  | ok l g1 =>
    simp only [Res.bd, q] at h
    cases q2 : fb g1 with
    | bad => simp only [q2] at h
    | ok l2 g2 =>
      simp only [q2] at h
      cases l with
      | dat d =>
        cases d with
        | int m =>
          cases l2 with
          | dat d2 =>
            cases d2 with
            | int n =>
              simp only at h
              by_cases hn : 0 ≤ m ∧ m.natAbs < cap ∧ 0 ≤ n ∧ n.natAbs < cap
              · rw [if_pos hn] at h
                refine two_rd R q q2 fun v u F1 H1 ow1 R1 ex1 hd hd2 => ?_
                cases hd
                cases hd2
                exact ⟨m, n, rfl, ⟨Int.le_trans (by decide) hn.1, cap_lt62 (by have := hn.1; have := hn.2.1; omega), Int.le_trans (by decide) hn.2.2.1, cap_lt62 (by have := hn.2.2.1; have := hn.2.2.2; omega)⟩, h _ _ H1 ow1 R1 ex1 (walks_range m _)⟩
              · rw [if_neg hn] at h; exact h.elim
            | _ => simp only at h
          | _ => simp only at h
        | _ => cases l2 <;> simp only at h
      | _ => simp only at h
end

/-! ### for -/
def forL (t : Tg) (b : Sf) : List D → Sf
  | [] => .next
  | d :: ds => fun g => match t d g with
    | none => .bad
    | some g1 => match b g1 with
      | .next g2 => forL t b ds g2
      | .cont g2 => forL t b ds g2
      | .brk g2 => .next g2
      | r => r
def forF (fi : Itf) (t : Tg) (b : Sf) : Sf := fun g => match fi g with
  | .ok ds g1 => forL t b ds g1
  | .bad => .bad
section
variable {X : Cx} {tg e : Expr} {fi : Itf} {pos : Pos} {fx st : List Nat} {t : Tg} {f : Sf} {r : List Stmt}
theorem ss_for (hp : PassesOwn (model X.prog X.w) X.A X.env X.xe) (hc : X.calm = true) (hi : SI X tg e fi) (hg : SG X tg st t) (hb : SSs X fx r f) (hfx : ∀ i ∈ fx, i ∉ st := by decide)
    (hs : ∀ x, foldedSetIterable e X.env x = pure x := by intro _; rfl) : SS X fx (.For tg e r [] pos) (forF fi t f) := by
  refine PS.imp (ps_for hp hc hi hg.pg hb hs) fun Dd σ H ⟨g, F, Gf, ow, R, h⟩ => ⟨g, F, Gf, ow, R, ?_⟩
  unfold forF at h
  cases q : fi g with
  | bad => rw [q] at h; exact h
  | ok ds g1 =>
    simp only [q] at h
    intro J F1 H1 ow1 R1 ex1 wk
    refine ⟨fun i m σ' H' => m + i = ds.length ∧ ∃ g' F' ow', Rel X.prog X.w X.K F' H' Gf g' σ' ow' ∧ Ex F1 F' ∧ PoS X.prog X.w X.K fx F' Gf σ' Dd (forL t f (ds.drop i) g'), ⟨ds.length, rfl, g1, F1, ow1, R1, .refl _, PoS.mono ex1 (.refl _ _) h⟩, ?_⟩
    rintro i m σ2 H2 ⟨hm, g2, F2, ow2, R2, ex2, h2⟩
    obtain ⟨wst, wgo⟩ := wk F2 H2 ex2 R2.ex
    cases m with
    | zero =>
      have hi : i = ds.length := by omega
      subst hi
      rw [List.drop_length] at h2
      exact .inl ⟨wst, h2 F2 H2 σ2 ow2 R2 (.refl _) (.refl _ _)⟩
    | succ m =>
      have hi : i < ds.length := by omega
      obtain ⟨go, yl⟩ := wgo i ds[i] (List.getElem?_eq_getElem hi)
      rw [List.drop_eq_getElem_cons hi] at h2
      refine .inr ⟨go, fun σ' H' => ∃ g' F' ow', Rel X.prog X.w X.K F' H' Gf g' σ' ow' ∧ Ex F1 F' ∧ PoS X.prog X.w X.K fx F' Gf σ' Dd (forL t f (ds.drop (i + 1)) g'), fun σ' H' hh => ⟨m, Nat.lt_succ_self _, by omega, hh⟩, fun x H3 y => ?_⟩
      obtain ⟨F3, gr, hd⟩ := yl x H3 y
      simp only [forL] at h2
      refine ⟨g2, F3, Gf, ow2, ds[i], R2.grow gr, hd, ?_⟩
      cases q2 : t ds[i] g2 with
      | none => simp only [q2] at h2; exact h2.elim
      | some g3 =>
        simp only [q2] at h2
        intro σ3 ow3 R3 o3
        have fi3 := o3.fix hfx
        refine ⟨g3, F3, Gf, ow3, R3, ?_⟩
        have exA := ex2.trans gr.f
        cases q3 : f g3 with
        | next g4 => simp only [q3] at h2; exact fun F4 H4 σ4 ow4 R4 ex4 fi4 => ⟨g4, F4, ow4, R4, exA.trans ex4, PoS.mono (gr.f.trans ex4) (fi3.trans fi4) h2⟩
        | cont g4 => simp only [q3] at h2; exact fun F4 H4 σ4 ow4 R4 ex4 fi4 => ⟨g4, F4, ow4, R4, exA.trans ex4, PoS.mono (gr.f.trans ex4) (fi3.trans fi4) h2⟩
        | brk g4 => simp only [q3] at h2; exact fun F4 H4 σ4 ow4 R4 ex4 fi4 => h2 F4 H4 σ4 ow4 R4 (gr.f.trans ex4) (fi3.trans fi4)
        | ret l g4 => simp only [q3] at h2; exact PoS.mono (r := .ret l g4) gr.f fi3 h2
        | bad => simp only [q3] at h2; exact h2.elim
end

/-! ### list comprehensions -/
def wipeG (g : G) : List Nat → G
  | [] => g
  | v :: vs => (wipeG g vs).set v none
/-- the block's own names as they were before -/
def backG (g0 : G) : List Nat → G → G
  | [], g => g
  | v :: vs, g => (backG g0 vs g).set v (g0[v]?).join
def datOnly (g : G) (i : Nat) : Bool := match g[i]? with
  | some none => true
  | some (some (.dat _)) => true
  | _ => false
theorem wipeG_len (g : G) : ∀ vs, (wipeG g vs).length = g.length
  | [] => rfl
  | v :: vs => by unfold wipeG; rw [List.length_set, wipeG_len g vs]
theorem backG_len (g0 g : G) : ∀ vs, (backG g0 vs g).length = g.length
  | [] => rfl
  | v :: vs => by unfold backG; rw [List.length_set, backG_len g0 g vs]
theorem wipeG_out {g : G} {i : Nat} : ∀ {vs}, i ∉ vs → (wipeG g vs)[i]? = g[i]?
  | [], _ => rfl
  | v :: vs, h => by
    unfold wipeG
    rw [List.getElem?_set_ne (by simp at h; omega), wipeG_out (by simp at h; exact h.2)]
theorem wipeG_in {g : G} {i : Nat} {l : L} : ∀ {vs}, i ∈ vs → (wipeG g vs)[i]? ≠ some (some l)
  | v :: vs, h, e => by
    unfold wipeG at e
    by_cases hv : v = i
    · subst hv
      by_cases hl : v < (wipeG g vs).length
      · rw [List.getElem?_set_self hl] at e; cases e
      · rw [List.set_eq_of_length_le (by omega), List.getElem?_eq_none (by omega)] at e; cases e
    · rw [List.getElem?_set_ne hv] at e
      exact wipeG_in (by simpa [Ne.symm hv] using h) e
theorem wipe_out' {σ : L2.St} {i : Nat} : ∀ {vs}, i ∉ vs → (wipe σ vs)[i]? = σ[i]?
  | [], _ => rfl
  | v :: vs, h => by
    unfold wipe
    rw [List.getElem?_set_ne (by simp at h; omega), wipe_out' (by simp at h; exact h.2)]
theorem backG_out {g0 g : G} {i : Nat} : ∀ {vs}, i ∉ vs → (backG g0 vs g)[i]? = g[i]?
  | [], _ => rfl
  | v :: vs, h => by
    unfold backG
    rw [List.getElem?_set_ne (by simp at h; omega), backG_out (by simp at h; exact h.2)]
theorem backG_in {g0 g : G} {i : Nat} : ∀ {vs}, i ∈ vs → i < g.length → (backG g0 vs g)[i]? = some (g0[i]?).join
  | v :: vs, h, hl => by
    unfold backG
    by_cases hv : v = i
    · subst hv; rw [List.getElem?_set_self (by rw [backG_len]; exact hl)]
    · rw [List.getElem?_set_ne hv]
      exact backG_in (by simpa [Ne.symm hv] using h) hl
theorem wipe_off {σ σ' : L2.St} {vs : List Nat} (h : Off vs σ σ') : wipe σ' vs = wipe σ vs := by
  refine List.ext_getElem? fun i => ?_
  by_cases hi : i ∈ vs
  · have key : ∀ (τ : L2.St) (ws : List Nat), i ∈ ws → (wipe τ ws)[i]? = if i < τ.length then some none else none := by
      intro τ ws
      induction ws with
      | nil => intro h; cases h
      | cons v ws ih =>
        intro h
        unfold wipe
        by_cases hv : v = i
        · subst hv
          by_cases hl : v < τ.length
          · rw [List.getElem?_set_self (by rw [wipe_length]; exact hl), if_pos hl]
          · rw [List.getElem?_eq_none (by rw [List.length_set, wipe_length]; omega), if_neg hl]
        · rw [List.getElem?_set_ne hv]; exact ih (by simpa [Ne.symm hv] using h)
    rw [key σ' vs hi, key σ vs hi, h.1]
  · rw [wipe_out' hi, wipe_out' hi, h.2 i hi]
section
variable {P : Program} {w : World} {K : PySem.W.Frag} {F H Gf : Hp} {g g0 : G} {σ : L2.St} {ow : Nat → List Addr}
/-- the block's own names are forgotten -/
theorem Rel.wipe (R : Rel P w K F H Gf g σ ow) (vs : List Nat) : Rel P w K F H Gf (wipeG g vs) (L2.wipe σ vs) (fun i => if i ∈ vs then [] else ow i) := by
  refine ⟨R.ex, R.exG, R.fg, fun i l e => ?_, fun i hi => ?_, fun i j a h1 h2 => ?_, fun i a ha => ?_, by rw [wipeG_len, wipe_length, R.len]⟩
  · by_cases z : i ∈ vs
    · exact absurd e (wipeG_in z)
    · rw [wipeG_out z] at e
      rw [wipe_out' z, if_neg z]
      exact R.get i l e
  · by_cases z : i ∈ vs
    · rw [if_pos z]
    · rw [if_neg z]; exact R.off i fun l e => hi l (by rw [wipeG_out z]; exact e)
  · by_cases z : i ∈ vs
    · rw [if_pos z] at h1; cases h1
    · by_cases z2 : j ∈ vs
      · rw [if_pos z2] at h2; cases h2
      · rw [if_neg z] at h1; rw [if_neg z2] at h2; exact R.sep i j a h1 h2
  · by_cases z : i ∈ vs
    · rw [if_pos z] at ha; cases ha
    · rw [if_neg z] at ha; exact R.out i a ha
/-- .. and are back: they held data -/
theorem Rel.back {F0 H0 : Hp} {ow0 : Nat → List Addr} (vs : List Nat) (R0 : Rel P w K F0 H0 Gf g0 σ ow0) (hd : vs.all (datOnly g0) = true) (ex : Ex F0 F) (R : Rel P w K F H Gf g (L2.wipe σ vs) ow) : Rel P w K F H Gf (backG g0 vs g) σ (fun i => if i ∈ vs then [] else ow i) := by
  have hlen : g.length = σ.length := by rw [R.len, wipe_length]
  refine ⟨R.ex, R.exG, R.fg, fun i l e => ?_, fun i hi => ?_, fun i j a h1 h2 => ?_, fun i a ha => ?_, by rw [backG_len]; exact hlen⟩
  · by_cases z : i ∈ vs
    · have hl : i < g.length := by
        have := (List.getElem?_eq_some_iff.mp e).1
        rw [backG_len] at this; exact this
      rw [backG_in z hl] at e
      have e0 : g0[i]? = some (some l) := by
        have e := Option.some.inj e
        cases q : g0[i]? with
        | none => rw [q] at e; cases e
        | some o => rw [q] at e; rw [show o = some l from e]
      obtain ⟨v, h1, h2⟩ := R0.get i l e0
      refine ⟨v, h1, ?_⟩
      rw [if_pos z]
      have := List.all_eq_true.mp hd i z
      unfold datOnly at this
      rw [e0] at this
      cases l with
      | dat d => exact ⟨rfl, h2.2.mono ex⟩
      | _ => cases this
    · rw [backG_out z] at e
      obtain ⟨v, h1, h2⟩ := R.get i l e
      rw [wipe_out' z] at h1
      exact ⟨v, h1, by rw [if_neg z]; exact h2⟩
  · by_cases z : i ∈ vs
    · rw [if_pos z]
    · rw [if_neg z]; exact R.off i fun l e => hi l (by rw [backG_out z]; exact e)
  · by_cases z : i ∈ vs
    · rw [if_pos z] at h1; cases h1
    · by_cases z2 : j ∈ vs
      · rw [if_pos z2] at h2; cases h2
      · rw [if_neg z] at h1; rw [if_neg z2] at h2; exact R.sep i j a h1 h2
  · by_cases z : i ∈ vs
    · rw [if_pos z] at ha; cases ha
    · rw [if_neg z] at ha; exact R.out i a ha
/-- an object of others changes; one comes; one goes -/
theorem Rel.other {p : Addr} {o o' : HO} (R : Rel P w K F H (upd Gf p o) g σ ow) : Rel P w K F (upd H p o') (upd Gf p o') g σ ow ∧ H p = some o ∧ F p = none ∧ ∀ j, p ∉ ow j := by
  have hH : H p = some o := R.exG p o upd_same
  have hF : F p = none := by
    cases z : F p with
    | none => rfl
    | some u => have := R.fg p (by rw [z]; simp); rw [upd_same] at this; cases this
  have n1 : ∀ i a, a ∈ ow i → a ≠ p := fun i a ha z => by
    have := (R.out i a ha).2
    rw [z, upd_same] at this; cases this
  refine ⟨⟨fun a u q => ?_, fun a u q => ?_, fun a ha => ?_, fun i l e => ?_, R.off, R.sep, fun i a ha => ⟨(R.out i a ha).1, ?_⟩, R.len⟩, hH, hF, fun j hj => n1 j p hj rfl⟩
  · have z : a ≠ p := fun z => by rw [z, hF] at q; cases q
    rw [upd_ne z]; exact R.ex a u q
  · by_cases z : a = p
    · subst z; rw [upd_same] at q ⊢; exact q
    · rw [upd_ne z] at q ⊢; exact R.exG a u (by rw [upd_ne z]; exact q)
  · have z : a ≠ p := fun z => ha (by rw [z]; exact hF)
    rw [upd_ne z]; have := R.fg a ha; rw [upd_ne z] at this; exact this
  · obtain ⟨v, h1, h2⟩ := R.get i l e
    exact ⟨v, h1, h2.mono (Ex.refl _) fun a ha => upd_ne (n1 i a ha)⟩
  · have := (R.out i a ha).2; rw [upd_ne (n1 i a ha)] at this ⊢; exact this
theorem Rel.alien {p : Addr} {o : HO} (R : Rel P w K F H Gf g σ ow) (hp : H p = none) : Rel P w K F (upd H p o) (upd Gf p o) g σ ow := by
  obtain ⟨f1, f2, f3⟩ := R.free hp
  have R1 := R.own (o := o) hp
  refine ⟨R1.ex, fun a o q => ?_, fun a ha => ?_, R1.get, R1.off, R1.sep, fun i a ha => ⟨(R1.out i a ha).1, ?_⟩, R1.len⟩
  · by_cases z : a = p
    · subst z; rw [upd_same] at q ⊢; exact q
    · rw [upd_ne z] at q ⊢; exact R.exG a o q
  · by_cases z : a = p
    · subst z; exact absurd f1 ha
    · rw [upd_ne z]; exact R.fg a ha
  · have z : a ≠ p := fun z => f3 i (z ▸ ha)
    rw [upd_ne z]; exact (R1.out i a ha).2
theorem Rel.drop {p : Addr} {o : HO} (hG : Gf p = none) (R : Rel P w K F H (upd Gf p o) g σ ow) : Rel P w K F H Gf g σ ow ∧ Apart F Gf ow [p] ∧ H p = some o := by
  have hH : H p = some o := R.exG p o upd_same
  have hF : F p = none := by
    cases z : F p with
    | none => rfl
    | some u => have := R.fg p (by rw [z]; simp); rw [upd_same] at this; cases this
  have n1 : ∀ i a, a ∈ ow i → a ≠ p := fun i a ha z => by
    have := (R.out i a ha).2
    rw [z, upd_same] at this; cases this
  refine ⟨⟨R.ex, fun a u q => ?_, fun a ha => ?_, R.get, R.off, R.sep, fun i a ha => ⟨(R.out i a ha).1, ?_⟩, R.len⟩, fun a ha => ?_, hH⟩
  · have z : a ≠ p := fun z => by rw [z, hG] at q; cases q
    exact R.exG a u (by rw [upd_ne z]; exact q)
  · have z : a ≠ p := fun z => ha (by rw [z]; exact hF)
    have := R.fg a ha; rw [upd_ne z] at this; exact this
  · have := (R.out i a ha).2; rw [upd_ne (n1 i a ha)] at this; exact this
  · cases List.mem_singleton.mp ha
    exact ⟨hF, hG, fun j hj => n1 j p hj rfl⟩
end
def yesT : Tf := fun g => .ok true g
/-- the turns of [e for t in ..]: vs the block's own names -/
def lcL (vs : List Nat) (t : Tg) (tt : Tf) (fe : Ef) : List D → List D → G → Res (List D)
  | [], acc, g => .ok acc g
  | d :: ds, acc, g => match t d g with
    | none => .bad
    | some g1 => match tt g1 with
      | .bad => .bad
      | .ok c g2 => if c = true then (match fe g2 with
          | .bad => .bad
          | .ok l g3 => if acc.length < cap then lcL vs t tt fe ds (acc ++ [l.view]) (wipeG g3 vs) else .bad)
        else lcL vs t tt fe ds acc (wipeG g2 vs)
def lcF (vs : List Nat) (fi : Itf) (t : Tg) (tt : Tf) (fe : Ef) : Ef := fun g => match fi g with
  | .bad => .bad
  | .ok ds g1 => if vs.all (datOnly g1) = true then (match lcL vs t tt fe ds [] (wipeG g1 vs) with
      | .bad => .bad
      | .ok acc g2 => .ok (.lst acc) (backG g1 vs g2))
    else .bad
def PoL (P : Program) (w : World) (K : PySem.W.Frag) (F Gf : Hp) (σ : L2.St) (D0 : Addr) (Q : Hp → Prop) : Res (List D) → Prop
  | .bad => False
  | .ok acc g2 => ∀ F' H' ow' xs, Rel P w K F' H' (upd Gf D0 (.lst xs)) g2 σ ow' → Ex F F' → DatL P w K F' xs acc → Q H'
theorem PoL.mono {P : Program} {w : World} {K : PySem.W.Frag} {F F1 Gf : Hp} {σ : L2.St} {D0 : Addr} {Q : Hp → Prop} {r : Res (List D)} (h : PoL P w K F Gf σ D0 Q r) (e : Ex F F1) : PoL P w K F1 Gf σ D0 Q r := by
  cases r with
  | bad => exact h
  | ok acc g2 => exact fun F' H' ow' xs R e' hd => h F' H' ow' xs R (e.trans e') hd
structure STs (X : Cx) (ifs : List Expr) (t : Tf) : Prop where
  pts : PTs X ifs (RdT X.prog X.w X.K t)
theorem sts_nil {X : Cx} : STs X [] yesT := ⟨⟨fun pins s σ H Q I h => pts_nil.run pins s σ H Q I (by obtain ⟨g, F, Gf, ow, R, h⟩ := h; exact h F H ow R (Ex.refl _))⟩⟩
theorem sts_one {X : Cx} {c : Expr} {t : Tf} (h : ST X c t) : STs X [c] t := ⟨pts_one h⟩
section
variable {X : Cx} {tg e iter elt : Expr} {fi : Itf} {pos : Pos} {st : List Nat} {t : Tg} {tt : Tf} {fe : Ef} {ifs : List Expr} {scope : Scope} {own : List (Str × Nat)}
theorem lc_rd {vs : List Nat} (hst : ∀ i ∈ st, i ∈ vs) {σ : L2.St} {H : Hp} {Q : VK} (h : RdE X.prog X.w X.K (lcF vs fi t tt fe) σ H Q) :
    tLc (RdI X.prog X.w X.K fi) (RdG X.prog X.w X.K st t) (RdT X.prog X.w X.K tt) (RdE X.prog X.w X.K fe) vs σ H Q := by
  obtain ⟨g, F, Gf, ow, R, h⟩ := h
  refine ⟨g, F, Gf, ow, R, ?_⟩
  unfold lcF at h
  cases q : fi g with
  | bad => rw [q] at h; exact h
  | ok ds g1 =>
    simp only [q] at h
    intro J F1 H1 ow1 R1 ex1 wk D0 hD0
    by_cases hvs : vs.all (datOnly g1) = true
    · rw [if_pos hvs] at h
      have hG0 : Gf D0 = none := (R1.free hD0).2.1
      have Rw := (R1.wipe vs).alien (o := .lst []) hD0
      have fin : PoL X.prog X.w X.K F1 Gf (L2.wipe σ vs) D0 (Q (.ref D0)) (lcL vs t tt fe ds [] (wipeG g1 vs)) := by
        cases q2 : lcL vs t tt fe ds [] (wipeG g1 vs) with
        | bad => rw [q2] at h; exact h
        | ok acc g2 =>
          simp only [q2] at h
          intro F' H' ow' xs R' ex' hd
          obtain ⟨R2, ap, hH⟩ := R'.drop hG0
          have R3 := Rel.back vs R1 hvs ex' R2
          refine h _ F' H' _ [D0] R3 (ex1.trans ex') ⟨D0, xs, rfl, rfl, hH, hd⟩ fun a ha => ⟨(ap a ha).1, (ap a ha).2.1, fun j hj => ?_⟩
          by_cases z : j ∈ vs
          · simp only [if_pos z] at hj; cases hj
          · simp only [if_neg z] at hj; exact (ap a ha).2.2 j hj
      refine ⟨fun i m H' => m + i = ds.length ∧ ∃ g' F' ow' xs acc, Rel X.prog X.w X.K F' H' (upd Gf D0 (.lst xs)) g' (L2.wipe σ vs) ow' ∧ Ex F1 F' ∧ DatL X.prog X.w X.K F' xs acc ∧ PoL X.prog X.w X.K F' Gf (L2.wipe σ vs) D0 (Q (.ref D0)) (lcL vs t tt fe (ds.drop i) acc g'),
        ⟨ds.length, rfl, _, F1, _, [], [], Rw, .refl _, .nil, fin⟩, ?_⟩
      rintro i m H2 ⟨hm, g2, F2, ow2, xs, acc, R2, ex2, hacc, h2⟩
      obtain ⟨wst, wgo⟩ := wk F2 H2 ex2 R2.ex
      cases m with
      | zero =>
        have hi : i = ds.length := by omega
        subst hi
        rw [List.drop_length] at h2
        exact .inl ⟨wst, h2 F2 H2 ow2 xs R2 (.refl _) hacc⟩
      | succ m =>
        have hi : i < ds.length := by omega
        obtain ⟨go, yl⟩ := wgo i ds[i] (List.getElem?_eq_getElem hi)
        rw [List.drop_eq_getElem_cons hi] at h2
        refine .inr ⟨go, fun H' => ∃ g' F' ow' xs acc, Rel X.prog X.w X.K F' H' (upd Gf D0 (.lst xs)) g' (L2.wipe σ vs) ow' ∧ Ex F1 F' ∧ DatL X.prog X.w X.K F' xs acc ∧ PoL X.prog X.w X.K F' Gf (L2.wipe σ vs) D0 (Q (.ref D0)) (lcL vs t tt fe (ds.drop (i + 1)) acc g'), fun H' hh => ⟨m, Nat.lt_succ_self _, by omega, hh⟩, fun x H3 y => ?_⟩
        obtain ⟨F3, gr, hd⟩ := yl x H3 y
        simp only [lcL] at h2
        refine ⟨g2, F3, upd Gf D0 (.lst xs), ow2, ds[i], R2.grow gr, hd, ?_⟩
        cases q2 : t ds[i] g2 with
        | none => simp only [q2] at h2; exact h2.elim
        | some g3 =>
          simp only [q2] at h2
          intro σ3 ow3 R3 o3
          have ew : L2.wipe σ3 vs = L2.wipe σ vs := by
            rw [wipe_off (o3.mono hst)]
            refine List.ext_getElem? fun j => ?_
            by_cases hj : j ∈ vs
            · have e1 : L2.wipe (L2.wipe σ vs) vs = L2.wipe σ vs := wipe_off ⟨wipe_length _ _, fun k hk => wipe_out' hk⟩
              rw [e1]
            · rw [wipe_out' hj]
          refine ⟨ew, g3, F3, upd Gf D0 (.lst xs), ow3, R3, ?_⟩
          cases q3 : tt g3 with
          | bad => simp only [q3] at h2; exact h2.elim
          | ok c g4 =>
            simp only [q3] at h2
            intro F4 H4 ow4 R4 ex4
            cases c with
            | false =>
              simp only [if_neg (by decide : ¬ false = true)] at h2 ⊢
              have Rb := R4.wipe vs
              rw [ew] at Rb
              exact ⟨_, F4, _, xs, acc, Rb, (ex2.trans gr.f).trans ex4, hacc.mono (gr.f.trans ex4), PoL.mono h2 (gr.f.trans ex4)⟩
            | true =>
              simp only [if_true] at h2 ⊢
              refine ⟨g4, F4, upd Gf D0 (.lst xs), ow4, R4, ?_⟩
              cases q4 : fe g4 with
              | bad => simp only [q4] at h2; exact h2.elim
              | ok l g5 =>
                simp only [q4] at h2
                intro v F5 H5 ow5 ad R5 ex5 hl ap
                obtain ⟨R6, ex6, hdat⟩ := R5.froz hl ap
                by_cases hc : acc.length < cap
                · rw [if_pos hc] at h2
                  have hD5 : H5 D0 = some (.lst xs) := R5.exG _ _ upd_same
                  have exX := ((gr.f.trans ex4).trans ex5).trans ex6
                  have hacc' := hacc.mono exX
                  refine ⟨xs, hD5, by rw [hacc.length]; exact cap_lt (Nat.le_of_lt hc), ?_⟩
                  have Rb := (R6.other (o' := .lst (xs ++ [v]))).1.wipe vs
                  rw [ew] at Rb
                  exact ⟨_, _, _, xs ++ [v], acc ++ [l.view], Rb, ex2.trans exX, hacc'.append (.cons hdat .nil), PoL.mono h2 exX⟩
                · rw [if_neg hc] at h2; exact h2.elim
    · rw [if_neg hvs] at h; exact h.elim
theorem se_lc {vs : List Nat} (hc : X.calm = true) (hN : X.N.Nodup) (hi : SI X tg iter fi) (ok : BlkOk X.N X.env.scope scope own) (hvs : own.map (·.2) = vs)
    (hg : ∀ (s : Shared) (H : Hp) (C : Addr) (cl : List (Str × Addr)) (fp : List Addr), SG (X.blk s H scope (compEnvC scope cl C X.env) fp) tg st t) (ht : ∀ (s : Shared) (H : Hp) (C : Addr) (cl : List (Str × Addr)) (fp : List Addr), STs (X.blk s H scope (compEnvC scope cl C X.env) fp) ifs tt)
    (he : ∀ (s : Shared) (H : Hp) (C : Addr) (cl : List (Str × Addr)) (fp : List Addr), SE (X.blk s H scope (compEnvC scope cl C X.env) fp) elt fe) (hst : ∀ i ∈ st, i ∈ vs := by decide) (hs : ∀ x, foldedSetIterable iter X.env x = pure x := by intro _; rfl) :
    SE X (.ListComp elt [⟨tg, iter, ifs, 0⟩] scope pos) (lcF vs fi t tt fe) := by
  subst hvs
  exact PE.imp (pe_lc hc hN hi ok (fun s H C cl fp => (hg s H C cl fp).pg) (fun s H C cl fp => (ht s H C cl fp).pts) he hs) fun σ H Q h => lc_rd hst h
theorem ss_setLc {vs : List Nat} {i : Nat} {y : Str} {py spos : Pos} {fx : List Nat} (hc : X.calm = true) (hN : X.N.Nodup) (hi : SI X tg iter fi) (ok : BlkOk X.N X.env.scope scope own) (hvs : own.map (·.2) = vs)
    (hg : ∀ (s : Shared) (H : Hp) (C : Addr) (cl : List (Str × Addr)) (fp : List Addr), SG (X.blk s H scope (compEnvC scope cl C X.env) fp) tg st t) (ht : ∀ (s : Shared) (H : Hp) (C : Addr) (cl : List (Str × Addr)) (fp : List Addr), STs (X.blk s H scope (compEnvC scope cl C X.env) fp) ifs tt)
    (he : ∀ (s : Shared) (H : Hp) (C : Addr) (cl : List (Str × Addr)) (fp : List Addr), SE (X.blk s H scope (compEnvC scope cl C X.env) fp) elt fe) (hst : ∀ i ∈ st, i ∈ vs := by decide) (hfx : i ∉ fx := by decide) (hy : X.N[i]? = some y := by rfl) (hyl : X.env.scope.names.lookup y = some .local := by rfl)
    (hsw : swapsWith (.ListComp elt [⟨tg, iter, ifs, 0⟩] scope pos) (some (.Name y py)) spos.line X.env = pure true := by exact sw_true rfl rfl rfl rfl) (hs : ∀ x, foldedSetIterable iter X.env x = pure x := by intro _; rfl) :
    SS X fx (.Assign [.Name y py] (.ListComp elt [⟨tg, iter, ifs, 0⟩] scope pos) spos) (setF i (lcF vs fi t tt fe)) := by
  subst hvs
  refine PS.imp (ps_setLc (g := RdG X.prog X.w X.K st t) (tt := RdT X.prog X.w X.K tt) (te := RdE X.prog X.w X.K fe) hc hN hy hyl hsw hi ok (fun s H C cl fp => (hg s H C cl fp).pg) (fun s H C cl fp => (ht s H C cl fp).pts) he hs) fun Dd σ H ⟨g, F, Gf, ow, R, h⟩ => ?_
  refine lc_rd hst ⟨g, F, Gf, ow, R, ?_⟩
  unfold setF at h
  cases q : lcF (own.map (·.2)) fi t tt fe g with
  | bad => rw [q] at h; exact h
  | ok l g' =>
    rw [q] at h
    intro v F' H' ow' ad R' ex hl ap
    obtain ⟨ow2, R2⟩ := R'.put i hl ap
    exact h F' H' _ ow2 R2 ex ((off_set i).fix fun j hj z => hfx (by cases List.mem_singleton.mp z; exact hj))
end
end B

set_option maxHeartbeats 4000000
/-! Own defs: what they compute, their calls; classes. -/
namespace B
open PySem PySem.Spec PyProof.Rows L2

/-- what a def computes: its result, and what its parameters by reference hold at the end -/
abbrev Den := List L → Option (L × G)
def spOf (P : Program) (w : World) (K : PySem.W.Frag) (n : Nat) (d : Den) : Sp := fun vs H Q E => ∃ ls F Gf ow, vs.length = n ∧ Rel P w K F H Gf (ls.map some) (vs.map some) ow ∧ match d ls with
  | none => False
  | some (l, outs) => ∀ v F' H' ow' ad, Rel P w K F' H' Gf outs (vs.map some) ow' → Ex F F' → HasL P w K F' H' v l ad → Apart F' Gf ow' ad → Q v H'
def argsL : List (Option Nat) → G → List Pl → Option (List L)
  | [], _, [] => some []
  | none :: rf, g, .val d :: ps => (argsL rf g ps).map (.dat d :: ·)
  | some j :: rf, g, .slot i :: ps => if i = j then (match g[j]? with
      | some (some l) => (argsL rf g ps).map (l :: ·)
      | _ => none) else none
  | _, _, _ => none
def idxR : List (Option Nat) → Nat → Option Nat
  | [], _ => none
  | r :: rf, j => if r = some j then some 0 else (idxR rf j).map (· + 1)
def putG (rf : List (Option Nat)) (outs : G) : Nat → G → G
  | _, [] => []
  | j, o :: g => (match idxR rf j with
      | some i => (outs[i]?).join
      | none => o) :: putG rf outs (j + 1) g
def callF (rf : List (Option Nat)) (d : Den) (pf : Pf) : Ef := fun g => (pf g).bd fun ps g1 => match argsL rf g1 ps with
  | some ls => match d ls with
    | some (l, outs) => .ok l (putG rf outs 0 g1)
    | none => .bad
  | none => .bad
def refsOk (rf : List (Option Nat)) : Bool := decide ((rf.filterMap id).Nodup)

theorem idxR_at {rf : List (Option Nat)} {j i : Nat} (h : idxR rf j = some i) : rf[i]? = some (some j) := by
  induction rf generalizing i with
  | nil => cases h
  | cons r rf ih =>
    unfold idxR at h
    by_cases e : r = some j
    · rw [if_pos e] at h; cases h; rw [e]; rfl
    · rw [if_neg e] at h
      obtain ⟨i', h1, h2⟩ := Option.map_eq_some_iff.mp h
      subst h2
      simpa using ih h1
theorem idxR_of {rf : List (Option Nat)} {j i : Nat} (nd : (rf.filterMap id).Nodup) (h : rf[i]? = some (some j)) : idxR rf j = some i := by
  induction rf generalizing i with
  | nil => cases h
  | cons r rf ih =>
    unfold idxR
    cases i with
    | zero =>
      have e : r = some j := by simpa using h
      rw [if_pos e]
    | succ i =>
      have h' : rf[i]? = some (some j) := by simpa using h
      have hm : j ∈ rf.filterMap id := List.mem_filterMap.mpr ⟨some j, List.mem_of_getElem? h', rfl⟩
      have ne : r ≠ some j := fun e => by
        subst e
        rw [List.filterMap_cons_some (by rfl)] at nd
        exact (List.nodup_cons.mp nd).1 hm
      rw [if_neg ne]
      have nd' : (rf.filterMap id).Nodup := by
        cases r with
        | none => rw [List.filterMap_cons_none (by rfl)] at nd; exact nd
        | some k => rw [List.filterMap_cons_some (by rfl)] at nd; exact (List.nodup_cons.mp nd).2
      rw [ih nd' h']; rfl
theorem putG_get (rf : List (Option Nat)) (outs : G) : ∀ (k j : Nat) (g : G), (putG rf outs k g)[j]? = (g[j]?).map fun o => match idxR rf (k + j) with
      | some i => (outs[i]?).join
      | none => o
  | _, _, [] => by simp [putG]
  | k, 0, o :: g => by simp [putG]
  | k, j + 1, o :: g => by
    have e : k + (j + 1) = k + 1 + j := by omega
    simp only [putG, List.getElem?_cons_succ, putG_get rf outs (k + 1) j g, e]
theorem putG_len (rf : List (Option Nat)) (outs : G) : ∀ (k : Nat) (g : G), (putG rf outs k g).length = g.length
  | _, [] => rfl
  | k, o :: g => congrArg Nat.succ (putG_len rf outs (k + 1) g)

section
variable {P : Program} {w : World} {K : PySem.W.Frag} {F H Gf : Hp} {g : G} {σ : L2.St} {ow : Nat → List Addr}
theorem argsL_ok : ∀ {rf : List (Option Nat)} {ps : List Pl} {ls : List L} {vs : List V}, argsL rf g ps = some ls → Paired (PlV P w K F σ) vs ps →
    ls.length = vs.length ∧ rf.length = vs.length ∧ ∀ (i : Nat) (l : L), ls[i]? = some l → ∃ v, vs[i]? = some v ∧ ((rf[i]? = some none ∧ ∃ d, l = L.dat d ∧ Dat P w K F v d) ∨ ∃ j : Nat, rf[i]? = some (some j) ∧ g[j]? = some (some l) ∧ σ[j]? = some (some v))
  | [], [], ls, vs, e, pv => by
    cases e; cases pv
    exact ⟨rfl, rfl, fun i l h => by simp at h⟩
  | none :: rf, .val d :: ps, ls, vs, e, pv => by
    obtain ⟨ls', h1, h2⟩ := Option.map_eq_some_iff.mp (show (argsL rf g ps).map (.dat d :: ·) = some ls from e)
    subst h2
    cases pv with
    | cons hv t =>
      obtain ⟨z1, z2, z3⟩ := argsL_ok h1 t
      refine ⟨congrArg Nat.succ z1, congrArg Nat.succ z2, fun i l hl => ?_⟩
      cases i with
      | zero =>
        have e : L.dat d = l := by simpa using hl
        subst e
        exact ⟨_, rfl, .inl ⟨rfl, d, rfl, hv⟩⟩
      | succ i => simpa using z3 i l (by simpa using hl)
  | some j :: rf, .slot i0 :: ps, ls, vs, e, pv => by
    have e : (if i0 = j then (match g[j]? with
      | some (some l) => (argsL rf g ps).map (l :: ·)
      | _ => none) else none) = some ls := e
    by_cases hj : i0 = j
    · rw [if_pos hj] at e
      subst hj
      cases q : g[i0]? with
      | none => rw [q] at e; cases e
      | some o =>
        cases o with
        | none => rw [q] at e; cases e
        | some l0 =>
          rw [q] at e
          obtain ⟨ls', h1, h2⟩ := Option.map_eq_some_iff.mp (show (argsL rf g ps).map (l0 :: ·) = some ls from e)
          subst h2
          cases pv with
          | cons hv t =>
            obtain ⟨z1, z2, z3⟩ := argsL_ok h1 t
            refine ⟨congrArg Nat.succ z1, congrArg Nat.succ z2, fun i l hl => ?_⟩
            cases i with
            | zero =>
              have e : l0 = l := by simpa using hl
              subst e
              exact ⟨_, rfl, .inr ⟨i0, rfl, q, hv⟩⟩
            | succ i => simpa using z3 i l (by simpa using hl)
    · rw [if_neg hj] at e; cases e
  | none :: _, .slot _ :: _, _, _, e, _ => by cases e
  | some _ :: _, .val _ :: _, _, _, e, _ => by cases e
  | [], _ :: _, _, _, e, _ => by cases e
  | none :: _, [], _, _, e, _ => by cases e
  | some _ :: _, [], _, _, e, _ => by cases e
open Classical in
/-- what the caller keeps: others' objects and the names that are not lent -/
noncomputable def keepH (Gf H : Hp) (ow : Nat → List Addr) (rf : List (Option Nat)) : Hp := fun a => if ∃ j, idxR rf j = none ∧ a ∈ ow j then H a else Gf a
theorem keepH_in {rf : List (Option Nat)} {a : Addr} {j : Nat} (h : idxR rf j = none) (ha : a ∈ ow j) : keepH Gf H ow rf a = H a := if_pos ⟨j, h, ha⟩
theorem keepH_out {rf : List (Option Nat)} {a : Addr} (h : ∀ j, idxR rf j = none → a ∉ ow j) : keepH Gf H ow rf a = Gf a := if_neg fun ⟨j, h1, h2⟩ => h j h1 h2
theorem Rel.own_some (R : Rel P w K F H Gf g σ ow) {i : Nat} {a : Addr} (ha : a ∈ ow i) : H a ≠ none := by
  by_cases hx : ∃ l, g[i]? = some (some l)
  · obtain ⟨l, e⟩ := hx
    obtain ⟨v, _, hl⟩ := R.get i l e
    exact hl.some a ha
  · rw [R.off i fun l e => hx ⟨l, e⟩] at ha; cases ha
theorem keepH_ex (R : Rel P w K F H Gf g σ ow) (rf : List (Option Nat)) : Ex Gf (keepH Gf H ow rf) ∧ Ex (keepH Gf H ow rf) H ∧ ∀ a, F a ≠ none → keepH Gf H ow rf a = none := by
  refine ⟨fun a o e => ?_, fun a o e => ?_, fun a ha => ?_⟩
  · rw [keepH_out fun j _ hj => by rw [(R.out j a hj).2] at e; cases e]; exact e
  · by_cases hx : ∃ j, idxR rf j = none ∧ a ∈ ow j
    · obtain ⟨j, h1, h2⟩ := hx
      rw [keepH_in h1 h2] at e; exact e
    · rw [keepH_out fun j h1 h2 => hx ⟨j, h1, h2⟩] at e; exact R.exG a o e
  · rw [keepH_out fun j _ hj => ha (R.out j a hj).1]; exact R.fg a ha
end
theorem call_rd {P : Program} {w : World} {K : PySem.W.Frag} {rf : List (Option Nat)} {d : Den} {pf : Pf} {n : Nat} {σ : L2.St} {H : Hp} {Q : VK} (hrf : refsOk rf = true) (hn : rf.length = n) (h : RdE P w K (callF rf d pf) σ H Q) : tCall (spOf P w K n d) [] E0 (RdP P w K pf) σ H Q := by
  have nd : (rf.filterMap id).Nodup := of_decide_eq_true hrf
  obtain ⟨g, F, Gf, ow, R, h⟩ := h
  refine ⟨g, F, Gf, ow, R, ?_⟩
  unfold callF at h
  cases q : pf g with
  | bad => rw [q] at h; exact h
  | ok ps g1 =>
    simp only [Res.bd, q] at h
    intro vs F1 H1 ow1 R1 ex1 pv
    cases e1 : argsL rf g1 ps with
    | none => simp only [e1] at h
    | some ls =>
      simp only [e1] at h
      obtain ⟨z1, z2, z3⟩ := argsL_ok e1 pv
      cases e2 : d ls with
      | none => simp only [e2] at h
      | some r =>
        obtain ⟨l, outs⟩ := r
        simp only [e2] at h
        obtain ⟨x1, x2, x3⟩ := keepH_ex R1 rf
        refine ⟨ls, F1, keepH Gf H1 ow1 rf, fun i => match rf[i]? with | some (some j) => ow1 j | _ => [], by rw [List.append_nil, ← z2]; exact hn, ⟨R1.ex, x2, x3, fun i l' e => ?_, fun i hi => ?_, fun i j a h1 h2 => ?_, fun i a ha => ?_, by rw [List.length_map, List.length_map, List.append_nil]; exact z1⟩, ?_⟩
        · rw [List.getElem?_map] at e
          obtain ⟨l0, e, e'⟩ := Option.map_eq_some_iff.mp e
          cases e'
          obtain ⟨v, h1, h2⟩ := z3 i l' e
          refine ⟨v, by rw [List.append_nil, List.getElem?_map, h1]; rfl, ?_⟩
          rcases h2 with ⟨e3, dd, e4, e5⟩ | ⟨j, e3, e4, e5⟩
          · subst e4; simp only [e3]; exact ⟨rfl, e5⟩
          · simp only [e3]
            obtain ⟨v', k1, k2⟩ := R1.get j l' e4
            rw [e5] at k1; cases k1
            exact k2
        · cases e3 : rf[i]? with
          | none => rfl
          | some o =>
            cases o with
            | none => rfl
            | some j =>
              have hi' : i < ls.length := by rw [z1, ← z2]; exact (List.getElem?_eq_some_iff.mp e3).1
              exact absurd (by rw [List.getElem?_map, List.getElem?_eq_getElem hi']; rfl) (hi ls[i])
        · cases e3 : rf[i]? with
          | none => simp only [e3] at h1; cases h1
          | some o =>
            cases o with
            | none => simp only [e3] at h1; cases h1
            | some j1 =>
              cases e4 : rf[j]? with
              | none => simp only [e4] at h2; cases h2
              | some o2 =>
                cases o2 with
                | none => simp only [e4] at h2; cases h2
                | some j2 =>
                  simp only [e3] at h1
                  simp only [e4] at h2
                  have ej := R1.sep j1 j2 a h1 h2
                  subst ej
                  have q1 := idxR_of nd e3
                  have q2 := idxR_of nd e4
                  rw [q1] at q2
                  exact Option.some.inj q2
        · cases e3 : rf[i]? with
          | none => simp only [e3] at ha; cases ha
          | some o =>
            cases o with
            | none => simp only [e3] at ha; cases ha
            | some j1 =>
              simp only [e3] at ha
              refine ⟨(R1.out j1 a ha).1, ?_⟩
              rw [keepH_out fun j' hj' ha' => ?_]
              · exact (R1.out j1 a ha).2
              · have ej := R1.sep j1 j' a ha ha'
                subst ej
                rw [idxR_of nd e3] at hj'; cases hj'
        · rw [e2]
          intro v F' H' owc ad R' ex' hl ap
          rw [List.append_nil] at R'
          refine h v F' H' (fun j => match idxR rf j with | some i => owc i | none => ow1 j) ad ⟨R'.ex, x1.trans R'.exG, fun a ha => ?_, fun j l' e => ?_, fun j hj => ?_, fun j1 j2 a h1 h2 => ?_, fun j a ha => ?_, by rw [putG_len]; exact R1.len⟩ (ex1.trans ex') hl fun a ha => ⟨(ap a ha).1, ?_, fun j hj => ?_⟩
          · exact x1.free (R'.fg a ha)
          · rw [putG_get] at e
            obtain ⟨o, e3, e4⟩ := Option.map_eq_some_iff.mp e
            rw [Nat.zero_add] at e4
            cases e5 : idxR rf j with
            | some i =>
              simp only [e5] at e4 ⊢
              have e6 : outs[i]? = some (some l') := by
                cases q6 : outs[i]? with
                | none => rw [q6] at e4; cases e4
                | some oo => rw [q6] at e4; rw [show oo = some l' from e4]
              obtain ⟨v', k1, k2⟩ := R'.get i l' e6
              rw [List.getElem?_map] at k1
              obtain ⟨v2, k1, k3⟩ := Option.map_eq_some_iff.mp k1
              cases k3
              have hi : i < ls.length := by rw [z1]; exact (List.getElem?_eq_some_iff.mp k1).1
              obtain ⟨v3, m1, m2⟩ := z3 i _ (List.getElem?_eq_getElem hi)
              rw [k1] at m1; cases m1
              have e7 := idxR_at e5
              rcases m2 with ⟨e8, _⟩ | ⟨j', e8, _, e9⟩
              · rw [e7] at e8; cases e8
              · rw [e7] at e8; cases e8
                exact ⟨v', e9, k2⟩
            | none =>
              simp only [e5] at e4 ⊢
              subst e4
              obtain ⟨v', k1, k2⟩ := R1.get j l' e3
              refine ⟨v', k1, k2.mono ex' fun a ha => ?_⟩
              have : keepH Gf H1 ow1 rf a = H1 a := keepH_in e5 ha
              cases q7 : H1 a with
              | none => exact absurd q7 (R1.own_some ha)
              | some oo => exact R'.exG a oo (by rw [this]; exact q7)
          · cases e5 : idxR rf j with
            | some i =>
              simp only [e5]
              refine R'.off i fun l' e => hj l' ?_
              rw [putG_get]
              have e7 := idxR_at e5
              have hi : i < ls.length := by rw [z1, ← z2]; exact (List.getElem?_eq_some_iff.mp e7).1
              obtain ⟨v3, m1, m2⟩ := z3 i _ (List.getElem?_eq_getElem hi)
              rcases m2 with ⟨e8, _⟩ | ⟨j', e8, e9, _⟩
              · rw [e7] at e8; cases e8
              · rw [e7] at e8; cases e8
                rw [e9, Nat.zero_add, e5]
                show some ((outs[i]?).join) = _
                rw [e]; rfl
            | none =>
              simp only [e5]
              refine R1.off j fun l' e => hj l' ?_
              rw [putG_get, e, Nat.zero_add, e5]; rfl
          · cases e5 : idxR rf j1 with
            | some i1 =>
              cases e6 : idxR rf j2 with
              | some i2 =>
                simp only [e5] at h1; simp only [e6] at h2
                have ei := R'.sep i1 i2 a h1 h2
                subst ei
                have k1 := idxR_at e5
                rw [idxR_at e6] at k1
                cases k1; rfl
              | none =>
                simp only [e5] at h1; simp only [e6] at h2
                have k := (R'.out i1 a h1).2
                rw [keepH_in e6 h2] at k
                exact absurd k (R1.own_some h2)
            | none =>
              cases e6 : idxR rf j2 with
              | some i2 =>
                simp only [e5] at h1; simp only [e6] at h2
                have k := (R'.out i2 a h2).2
                rw [keepH_in e5 h1] at k
                exact absurd k (R1.own_some h1)
              | none =>
                simp only [e5] at h1; simp only [e6] at h2
                exact R1.sep j1 j2 a h1 h2
          · cases e5 : idxR rf j with
            | some i =>
              simp only [e5] at ha
              obtain ⟨k1, k2⟩ := R'.out i a ha
              exact ⟨k1, x1.free k2⟩
            | none =>
              simp only [e5] at ha
              refine ⟨?_, (R1.out j a ha).2⟩
              cases q7 : F' a with
              | none => rfl
              | some oo =>
                have k := R'.fg a (by rw [q7]; simp)
                rw [keepH_in e5 ha] at k
                exact absurd k (R1.own_some ha)
          · exact x1.free (ap a ha).2.1
          · cases e5 : idxR rf j with
            | some i => simp only [e5] at hj; exact (ap a ha).2.2 i hj
            | none =>
              simp only [e5] at hj
              have k := (ap a ha).2.1
              rw [keepH_in e5 hj] at k
              exact absurd k (R1.own_some hj)
section
variable {X : Cx} {x : Str} {p pos : Pos} {e : Expr} {es : List Expr} {pf : Pf} {rf : List (Option Nat)} {d : Den} {n k : Nat} {f : Addr} {fd : FuncData} {ps : List Str}
theorem se_call (rf : List (Option Nat)) (G : FnOk X.prog X.w X.K X.mg X.base CX0 k f fd ps (spOf X.prog X.w X.K n d)) (hr : Room k X.A) (hm : X.mg x = some (.ref f)) (hk : PySem.W.keepIn X.K (.ref f) = true) (hb : Binds X.K fd ps []) (ha : SPs X (e :: es) pf) (hn : rf.length = n := by rfl) (hrf : refsOk rf = true := by decide) (hg : Gl X x := by rfl)
    (hdb : (x == ("__debug__" : Str)) = false := by decide) (he : starEach (e :: es) X.env = (false, eval e X.env) :: starEach es X.env := by rfl) (hpl : (backTo pos (starEach es X.env)).any (·.1) = false := by rfl) : SE X (.Call (.Name x p) (e :: es) [] pos) (callF rf d pf) :=
  PE.imp (pe_call G hr hg hm hk hb .nil pass0 ha hdb he hpl) fun _ _ _ h => call_rd hrf hn h
end

/-! ### a def -/
def outsOf : List Bool → G → G
  | [], _ => []
  | m :: ms, g => (if m = true then (g.head?).join else none) :: outsOf ms g.tail
def runDef (n : Nat) (modes : List Bool) (body : Sf) : Den := fun ls => match body (ls.map some ++ List.replicate (n - ls.length) none) with
  | .ret l g' => some (l, outsOf modes g')
  | .next g' => some (.dat .non, outsOf modes g')
  | _ => none
theorem outsOf_len : ∀ (ms : List Bool) (g : G), (outsOf ms g).length = ms.length
  | [], _ => rfl
  | m :: ms, g => congrArg Nat.succ (outsOf_len ms g.tail)
theorem outsOf_get : ∀ (ms : List Bool) (g : G) (i : Nat) (l : L), (outsOf ms g)[i]? = some (some l) ↔ ms[i]? = some true ∧ g[i]? = some (some l)
  | [], g, i, l => by simp [outsOf]
  | m :: ms, g, 0, l => by
    cases g with
    | nil => cases m <;> simp [outsOf]
    | cons o g => cases m <;> simp [outsOf]
  | m :: ms, g, i + 1, l => by
    have := outsOf_get ms g.tail i l
    simp only [outsOf, List.getElem?_cons_succ]
    rw [this]
    cases g with
    | nil => simp
    | cons o g => simp
def fxOk (modes : List Bool) (fx : List Nat) : Bool := (List.range modes.length).all fun i => !(modes[i]? == some true) || fx.contains i
section
variable {P : Program} {w : World} {K : PySem.W.Frag} {mg : Str → Option Value} {base : Heap} {x qual : Str} {params : Arguments} {body : List Stmt} {scope : Scope} {f : Addr} {fd : FuncData} {N ps : List Str} {k : Nat} {modes : List Bool} {fx : List Nat} {bf : Sf}
theorem outs_rel {F H Gf : Hp} {g g' : G} {σ' : L2.St} {ow' : Nat → List Addr} {vs : List V} {n : Nat} (hm : modes.length = vs.length) (hfx : fxOk modes fx = true) (hN : vs.length ≤ N.length) (R : Rel P w K F H Gf g' σ' ow') (fi : Fix fx (L2.start N vs) σ') :
    Rel P w K F H Gf (outsOf modes g') (vs.map some) (fun i => if modes[i]? = some true then ow' i else []) := by
  refine ⟨R.ex, R.exG, R.fg, fun i l e => ?_, fun i hi => ?_, fun i j a h1 h2 => ?_, fun i a ha => ?_, by rw [outsOf_len, List.length_map]; exact hm⟩
  · obtain ⟨e1, e2⟩ := (outsOf_get _ _ _ _).mp e
    obtain ⟨v, h1, h2⟩ := R.get i l e2
    have hi : i < modes.length := (List.getElem?_eq_some_iff.mp e1).1
    have hin : i ∈ fx := by
      have := List.all_eq_true.mp hfx i (List.mem_range.mpr hi)
      simp only [e1] at this
      simpa using this
    rw [fi i hin] at h1
    unfold L2.start at h1
    rw [List.getElem?_append_left (by rw [List.length_map]; omega)] at h1
    refine ⟨v, h1, ?_⟩
    rw [if_pos e1]
    exact h2
  · by_cases z : modes[i]? = some true
    · rw [if_pos z]
      exact R.off i fun l e => hi l ((outsOf_get _ _ _ _).mpr ⟨z, e⟩)
    · rw [if_neg z]
  · by_cases z : modes[i]? = some true
    · by_cases z2 : modes[j]? = some true
      · rw [if_pos z] at h1; rw [if_pos z2] at h2; exact R.sep i j a h1 h2
      · rw [if_neg z2] at h2; cases h2
    · rw [if_neg z] at h1; cases h1
  · by_cases z : modes[i]? = some true
    · rw [if_pos z] at ha; exact R.out i a ha
    · rw [if_neg z] at ha; cases ha
theorem start_rel {F H Gf : Hp} {ls : List L} {vs : List V} {ow : Nat → List Addr} (R : Rel P w K F H Gf (ls.map some) (vs.map some) ow) : Rel P w K F H Gf (ls.map some ++ List.replicate (N.length - ls.length) none) (L2.start N vs) ow := by
  have hl : ls.length = vs.length := by have := R.len; simpa using this
  refine ⟨R.ex, R.exG, R.fg, fun i l e => ?_, fun i hi => ?_, R.sep, R.out, by unfold L2.start; simp [hl]⟩
  · have hi : i < ls.length := by
      by_cases hi : i < ls.length
      · exact hi
      · rw [List.getElem?_append_right (by rw [List.length_map]; omega), List.getElem?_replicate] at e
        split at e <;> cases e
    rw [List.getElem?_append_left (by rw [List.length_map]; omega)] at e
    obtain ⟨v, h1, h2⟩ := R.get i l e
    refine ⟨v, ?_, h2⟩
    unfold L2.start
    rw [List.getElem?_append_left (by rw [List.length_map]; omega)]
    exact h1
  · refine R.off i fun l e => hi l ?_
    have hi : i < ls.length := by have := (List.getElem?_eq_some_iff.mp e).1; simpa using this
    rw [List.getElem?_append_left (by rw [List.length_map]; omega)]
    exact e
theorem fn_den (Fd : FunD K x qual params body scope [] [] f fd) (S : FnScope N ps scope) (modes : List Bool) (fx : List Nat) (hm : modes.length = ps.length) (hfx : fxOk modes fx = true) (hN : ps.length ≤ N.length)
    (hb : ∀ (cdv : Value) (A : Around) (outer : List Env) (s : Shared) (H : Hp) (E : XK), Room k (A.deeper (envOfC qual scope s.heap.objs.size f cdv)) → SSs (cxOf CX0 P w K mg base N qual scope f cdv A outer s H E).nox fx body bf) :
    FnOk P w K mg base CX0 (k + 1) f fd ps (spOf P w K ps.length (runDef N.length modes bf)) := by
  refine Fd.ok S (fun vs H Q E ⟨ls, F, Gf, ow, h, _⟩ => h) fun cdv A outer s H vs Q E hr h => ⟨_, PSs.nox (hb cdv A outer s H E hr), ?_⟩
  obtain ⟨ls, F, Gf, ow, hl, R, h⟩ := h
  refine ⟨_, F, Gf, ow, start_rel R, ?_⟩
  unfold runDef at h
  show PoS P w K fx F Gf (L2.start N vs) _ (bf (ls.map some ++ List.replicate (N.length - ls.length) none))
  cases q : bf (ls.map some ++ List.replicate (N.length - ls.length) none) with
  | ret l g' =>
    simp only [q] at h
    intro v F' H' σ' ow' ad R' ex fi hl' ap
    refine h v F' H' _ ad (outs_rel (n := 0) (g := g') (by rw [hm, hl]) hfx (by rw [hl]; exact hN) R' fi) ex hl' fun a ha => ⟨(ap a ha).1, (ap a ha).2.1, fun j hj => ?_⟩
    by_cases z : modes[j]? = some true
    · simp only [if_pos z] at hj; exact (ap a ha).2.2 j hj
    · simp only [if_neg z] at hj; cases hj
  | next g' =>
    simp only [q] at h
    intro F' H' σ' ow' R' ex fi
    exact h .non F' H' _ [] (outs_rel (n := 0) (g := g') (by rw [hm, hl]) hfx (by rw [hl]; exact hN) R' fi) ex ⟨rfl, .non⟩ .nil
  | brk g' => simp only [q] at h
  | cont g' => simp only [q] at h
  | bad => simp only [q] at h
/-- a def that is not yet known: it promises nothing -/
theorem fn_zero (n : Nat) (hn : ps.length = n) : FnOk P w K mg base CX0 k f fd ps (spOf P w K n fun _ => none) :=
  ⟨fun vs H Q E ⟨ls, F, Gf, ow, h, _⟩ => h.trans hn.symm, fun A outer s H args us vs Q E hr he hb hv hs => by
    obtain ⟨ls, F, Gf, ow, h, R, z⟩ := hs
    exact z.elim⟩
end

/-! ### C(e, ..): a new instance -/
def valsL : List Pl → Option (List L)
  | [] => some []
  | .val d :: ps => (valsL ps).map (.dat d :: ·)
  | _ => none
def makeF (C : Str) (d : Den) (pf : Pf) : Ef := fun g => (pf g).bd fun ps g1 => match valsL ps with
  | some ls => match d (.ins C [] :: ls) with
    | some (.dat .non, some (.ins C' fs) :: _) => .ok (.ins C' fs) g1
    | _ => .bad
  | none => .bad
theorem valsL_ok {P : Program} {w : World} {K : PySem.W.Frag} {F : Hp} {σ : L2.St} : ∀ {ps : List Pl} {ls : List L} {vs : List V}, valsL ps = some ls → Paired (PlV P w K F σ) vs ps → ls.length = vs.length ∧ ∀ (i : Nat) (l : L), ls[i]? = some l → ∃ v d, vs[i]? = some v ∧ l = L.dat d ∧ Dat P w K F v d
  | [], ls, vs, e, pv => by
    cases e; cases pv
    exact ⟨rfl, fun i l h => by simp at h⟩
  | .val d :: ps, ls, vs, e, pv => by
    obtain ⟨ls', h1, h2⟩ := Option.map_eq_some_iff.mp (show (valsL ps).map (.dat d :: ·) = some ls from e)
    subst h2
    cases pv with
    | cons hv t =>
      obtain ⟨z1, z3⟩ := valsL_ok h1 t
      refine ⟨congrArg Nat.succ z1, fun i l hl => ?_⟩
      cases i with
      | zero =>
        have e : L.dat d = l := by simpa using hl
        subst e
        exact ⟨_, d, rfl, rfl, hv⟩
      | succ i => simpa using z3 i l (by simpa using hl)
  | .slot _ :: _, _, _, e, _ => by cases e
theorem make_rd {P : Program} {w : World} {K : PySem.W.Frag} {C : Str} {d : Den} {pf : Pf} {n : Nat} {σ : L2.St} {H : Hp} {Q : VK} (hn : ∀ ps g g1 ls, pf g = .ok ps g1 → valsL ps = some ls → ls.length + 1 = n) (h : RdE P w K (makeF C d pf) σ H Q) : tMake (He.ga K C) (spOf P w K n d) [] E0 (RdP P w K pf) σ H Q := by
  obtain ⟨g, F, Gf, ow, R, h⟩ := h
  refine ⟨g, F, Gf, ow, R, ?_⟩
  unfold makeF at h
  cases q : pf g with
  | bad => rw [q] at h; exact h
  | ok ps g1 =>
    simp only [Res.bd, q] at h
    intro vs F1 H1 ow1 R1 ex1 pv x dx hx hdx hne
    cases e1 : valsL ps with
    | none => simp only [e1] at h
    | some ls =>
      simp only [e1] at h
      obtain ⟨z1, z3⟩ := valsL_ok e1 pv
      have hnn := hn ps g g1 ls q e1
      rw [List.append_nil]
      have R2 : Rel P w K F1 (upd (upd H1 dx (.own x)) x (.ins (He.ga K C) dx [])) Gf g1 σ ow1 := (R1.own hdx).own (by rw [upd_ne (Ne.symm hne)]; exact hx)
      obtain ⟨x1, x2, x3⟩ := keepH_ex R2 []
      have fx := R1.free hx
      have fdx := R1.free hdx
      have ko : ∀ a, (a = x ∨ a = dx) → keepH Gf (upd (upd H1 dx (.own x)) x (.ins (He.ga K C) dx [])) ow1 [] a = none := fun a ha => by
        rw [keepH_out fun j _ hj => ?_]
        · rcases ha with z | z
          · rw [z]; exact fx.2.1
          · rw [z]; exact fdx.2.1
        · rcases ha with z | z
          · rw [z] at hj; exact fx.2.2 j hj
          · rw [z] at hj; exact fdx.2.2 j hj
      have Fo : ∀ a, (a = x ∨ a = dx) → F1 a = none := fun a ha => by
        rcases ha with z | z
        · rw [z]; exact fx.1
        · rw [z]; exact fdx.1
      refine ⟨.ins C [] :: ls, F1, keepH Gf _ ow1 [], fun i => if i = 0 then [x, dx] else [], by rw [List.length_cons, ← z1]; exact hnn, ⟨R2.ex, x2, x3, fun i l' e => ?_, fun i hi => ?_, fun i j a h1 h2 => ?_, fun i a ha => ?_, by simp [z1]⟩, ?_⟩
      · cases i with
        | zero =>
          have e' : L.ins C [] = l' := by simpa using e
          subst e'
          refine ⟨.ref x, rfl, ?_⟩
          rw [if_pos rfl]
          exact ⟨x, dx, [], rfl, rfl, upd_same, by rw [upd_ne hne, upd_same], rfl, .nil⟩
        | succ i =>
          rw [if_neg (by omega)]
          have e : ls[i]? = some l' := by
            simp only [List.map_cons, List.getElem?_cons_succ, List.getElem?_map] at e
            obtain ⟨l0, e, e'⟩ := Option.map_eq_some_iff.mp e
            cases e'; exact e
          obtain ⟨v, dd, h1, h2, h3⟩ := z3 i l' e
          subst h2
          exact ⟨v, by simp [h1], rfl, h3⟩
      · cases i with
        | zero => exact absurd rfl (hi (.ins C []))
        | succ i => rw [if_neg (by omega)]
      · by_cases hi : i = 0
        · by_cases hj : j = 0
          · rw [hi, hj]
          · rw [if_neg hj] at h2; cases h2
        · rw [if_neg hi] at h1; cases h1
      · by_cases hi : i = 0
        · rw [if_pos hi] at ha
          have ha' : a = x ∨ a = dx := by simpa using ha
          exact ⟨Fo a ha', ko a ha'⟩
        · rw [if_neg hi] at ha; cases ha
      · cases e2 : d (.ins C [] :: ls) with
        | none => simp only [e2] at h
        | some r =>
          obtain ⟨l, outs⟩ := r
          simp only [e2] at h
          cases l with
          | dat dd =>
            cases dd with
            | non =>
              cases outs with
              | nil => exact h.elim
              | cons o os =>
                cases o with
                | none => exact h.elim
                | some lo =>
                  cases lo with
                  | ins C' fs =>
                    simp only at h
                    intro v F' H' owc ad R' ex' hl ap
                    have ev : v = .non := by
                      obtain ⟨_, hd⟩ := hl
                      cases hd; rfl
                    refine ⟨ev, ?_⟩
                    obtain ⟨v0, k1, k2⟩ := R'.get 0 _ rfl
                    have e0 : v0 = .ref x := by
                      have : (some (V.ref x)) = some v0 := by simpa using k1
                      cases this; rfl
                    subst e0
                    refine h _ F' H' ow1 (owc 0) ⟨R'.ex, x1.trans R'.exG, fun a ha => x1.free (R'.fg a ha), fun j l' e => ?_, R1.off, R1.sep, fun j a ha => ⟨?_, (R1.out j a ha).2⟩, R1.len⟩ (ex1.trans ex') k2 fun a ha => ⟨(R'.out 0 a ha).1, x1.free (R'.out 0 a ha).2, fun j hj => ?_⟩
                    · obtain ⟨v', k1, k3⟩ := R2.get j l' e
                      refine ⟨v', k1, k3.mono ex' fun a ha => ?_⟩
                      have : keepH Gf (upd (upd H1 dx (.own x)) x (.ins (He.ga K C) dx [])) ow1 [] a = _ := keepH_in rfl ha
                      cases q7 : (upd (upd H1 dx (.own x)) x (.ins (He.ga K C) dx [])) a with
                      | none => exact absurd q7 (R2.own_some ha)
                      | some oo => exact R'.exG a oo (by rw [this]; exact q7)
                    · cases q7 : F' a with
                      | none => rfl
                      | some oo =>
                        have k := R'.fg a (by rw [q7]; simp)
                        rw [keepH_in rfl ha] at k
                        exact absurd k (R2.own_some ha)
                    · have k := (R'.out 0 a ha).2
                      rw [keepH_in rfl hj] at k
                      exact absurd k (R2.own_some hj)
                  | _ => exact h.elim
            | _ => exact h.elim
          | _ => exact h.elim
section
variable {X : Cx} {x : Str} {p pos : Pos} {e : Expr} {es : List Expr} {pf : Pf} {d : Den} {n k : Nat} {f : Addr} {fd : FuncData} {ps : List Str} {C : Str}
theorem se_make (M : Mk X.K (He.ga X.K C) f) (G : FnOk X.prog X.w X.K X.mg X.base CX0 k f fd ps (spOf X.prog X.w X.K n d)) (hr : Room (k + 1) X.A) (hm : X.mg x = some (.ref (He.ga X.K C))) (hb : Binds X.K fd ps []) (ha : SPs X (e :: es) pf) (hn : ∀ ps g g1 ls, pf g = .ok ps g1 → valsL ps = some ls → ls.length + 1 = n) (hg : Gl X x := by rfl)
    (hdb : (x == ("__debug__" : Str)) = false := by decide) (he : starEach (e :: es) X.env = (false, eval e X.env) :: starEach es X.env := by rfl) (hpl : (backTo pos (starEach es X.env)).any (·.1) = false := by rfl) : SE X (.Call (.Name x p) (e :: es) [] pos) (makeF C d pf) :=
  PE.imp (pe_make M G hr hg hm hb .nil pass0 ha hdb he hpl) fun _ _ _ h => make_rd hn h
end
/-- how many values an argument list gives -/
def PfLen (pf : Pf) (n : Nat) : Prop := ∀ ps g g1, pf g = .ok ps g1 → ps.length = n
theorem pfl_nil : PfLen nilP 0 := fun ps g g1 h => by cases h; rfl
theorem pfl_cons {b : Bf} {r : Pf} {n : Nat} (h : PfLen r n) : PfLen (consP b r) (n + 1) := fun ps g g1 e => by
  unfold consP at e
  cases q : b g with
  | bad => rw [q] at e; cases e
  | ok p g1 =>
    simp only [Res.bd, q] at e
    cases q2 : r g1 with
    | bad => simp only [q2] at e; cases e
    | ok ps' g2 =>
      simp only [q2] at e
      cases e
      rw [List.length_cons, h _ _ _ q2]
theorem valsL_len : ∀ {ps : List Pl} {ls : List L}, valsL ps = some ls → ls.length = ps.length
  | [], ls, e => by cases e; rfl
  | .val d :: ps, ls, e => by
    obtain ⟨ls', h1, h2⟩ := Option.map_eq_some_iff.mp (show (valsL ps).map (.dat d :: ·) = some ls from e)
    subst h2
    exact congrArg Nat.succ (valsL_len h1)
  | .slot _ :: _, _, e => by cases e
theorem PfLen.mk {pf : Pf} {n : Nat} (h : PfLen pf n) : ∀ ps g g1 ls, pf g = .ok ps g1 → valsL ps = some ls → ls.length + 1 = n + 1 := fun ps g g1 ls e v => by rw [valsL_len v, h _ _ _ e]

/-! ### x.f = e, x a name's own instance -/
def putFD (f : Str) (v : D) : List (Str × D) → List (Str × D)
  | [] => [(f, v)]
  | (g, x) :: r => if g = f then (g, v) :: r else (g, x) :: putFD f v r
theorem putFD_rel {P : Program} {w : World} {K : PySem.W.Frag} {F : Hp} {f : Str} {v : V} {d : D} (hd : Dat P w K F v d) : ∀ {ws : List (Str × V)} {fs : List (Str × D)}, ws.map (·.1) = fs.map (·.1) → DatL P w K F (ws.map (·.2)) (fs.map (·.2)) →
    (putF f v ws).map (·.1) = (putFD f d fs).map (·.1) ∧ DatL P w K F ((putF f v ws).map (·.2)) ((putFD f d fs).map (·.2))
  | [], [], _, _ => ⟨rfl, .cons hd .nil⟩
  | [], _ :: _, e, _ => by cases e
  | _ :: _, [], e, _ => by cases e
  | (k, u) :: ws, (k', d') :: fs, e, t => by
    rw [List.map_cons, List.map_cons] at e
    injection e with e1 e2
    have e1 : k = k' := e1
    subst e1
    cases t with
    | cons t1 t2 =>
      unfold putF putFD
      by_cases q : k = f
      · rw [if_pos q, if_pos q]
        exact ⟨by rw [List.map_cons, List.map_cons, e2], .cons hd t2⟩
      · rw [if_neg q, if_neg q]
        obtain ⟨i1, i2⟩ := putFD_rel hd e2 t2
        exact ⟨by rw [List.map_cons, List.map_cons, i1], .cons t1 i2⟩
def fldF (i : Nat) (C f : Str) (fe : Ef) : Sf := fun g => match fe g with
  | .ok l g1 => match g1[i]? with
    | some (some (.ins C' fs)) => if C' = C ∧ fs.length < 1000 then .next (g1.set i (some (.ins C' (putFD f l.view fs)))) else .bad
    | _ => .bad
  | .bad => .bad
theorem ss_fld {X : Cx} {fx : List Nat} {e : Expr} {fe : Ef} {C f x : Str} {p pos pos' : Pos} (i : Nat) (cl : Cls X.K (He.ga X.K C)) (na : NoAttr X.K (He.ga X.K C) f) (he : SE X e fe) (hN : X.N[i]? = some x := by rfl) (hv : Vis X.env.scope x := by first | exact Or.inl rfl | exact Or.inr (Or.inl rfl) | exact Or.inr (Or.inr rfl)) (hd : (x == ("__debug__" : Str)) = false := by decide)
    (hcd : (x == ("__classdict__" : Str)) = false := by decide) (hs : swapsWith e (some (.Attribute (.Name x p) f pos')) pos.line X.env = pure false := by rfl) : SS X fx (.Assign [.Attribute (.Name x p) f pos'] e pos) (fldF i C f fe) := by
  refine PS.imp (L2.ps_fld (pe_var hN hv hd hcd) he hs) fun Dd σ H ⟨g, F, Gf, ow, R, h⟩ => ⟨g, F, Gf, ow, R, ?_⟩
  unfold fldF at h
  cases q : fe g with
  | bad => rw [q] at h; exact h
  | ok l g1 =>
    simp only [q] at h
    intro v F1 H1 ow1 ad R1 ex1 hl ap
    obtain ⟨R2, ex2, hdat⟩ := R1.froz hl ap
    cases e1 : g1[i]? with
    | none => simp only [e1] at h; exact h.elim
    | some o =>
      cases o with
      | none => simp only [e1] at h; exact h.elim
      | some l1 =>
        cases l1 with
        | ins C' fs =>
          simp only [e1] at h
          by_cases hc : C' = C ∧ fs.length < 1000
          · rw [if_pos hc] at h
            obtain ⟨rfl, hc⟩ := hc
            obtain ⟨ov, hv0, a, dx, ws, rfl, ea, h1, h2, h3, h4⟩ := R2.get i _ e1
            refine ⟨_, hv0, a, _, dx, ws, rfl, h1, cl, na, by have e : ws.length = fs.length := (by simpa using congrArg List.length h3); rw [e]; exact hc, ?_⟩
            obtain ⟨k1, k2⟩ := putFD_rel (f := f) hdat h3 h4
            refine h _ _ σ ow1 (R2.change e1 (by rw [ea]; exact List.mem_cons_self) fun v' hv' hl' => ?_) (ex1.trans ex2) (.refl _ _)
            rw [hv0] at hv'; cases hv'
            have hne : dx ≠ a := fun z => by
              rw [z] at h2; rw [h1] at h2; cases h2
            exact ⟨a, dx, _, rfl, ea, upd_same, by rw [upd_ne hne]; exact h2, k1, k2⟩
          · rw [if_neg hc] at h; exact h.elim
        | _ => simp only [e1] at h; exact h.elim
end B

set_option maxHeartbeats 4000000
/-! A hook with tables and further facts. -/
namespace B
open PySem PySem.Spec PyProof.Rows L2
abbrev Xf : Type := PySem.W.Frag → Bool
abbrev AlX : Type := He.AlT × Bool
def obsX (fa : List He.Fa) (fn : List He.DefD) (ts : List He.Tab) (xs : List Xf) (K : PySem.W.Frag) : AlX := (He.obsT fa fn ts K, xs.all fun x => x K)
def valX (fn : List He.DefD) (ts : List He.Tab) (w : World) : AlX := (He.valT fn ts w, true)
def SaysX (fa : List He.Fa) (fn : List He.DefD) (ts : List He.Tab) (xs : List Xf) (w : World) (K : PySem.W.Frag) : Prop := obsX fa fn ts xs K = valX fn ts w
def obsXG (n : Nat) (fa : List He.Fa) (fn : List He.DefD) (ts : List He.Tab) (xs : List Xf) (g : Addr → Option Obj) : AlX := obsX fa fn ts xs (He.frG g (List.range n))
def hookX (n : Nat) (fa : List He.Fa) (fn : List He.DefD) (ts : List He.Tab) (xs : List Xf) : PySem.W.Hook where
  α := AlX
  obs := fun s => obsXG n fa fn ts xs s.heap.get?
  val := fun w => valX fn ts w
  says := fun w h => ∃ K : PySem.W.Frag, K.In h ∧ SaysX fa fn ts xs w K
  of := fun _ _ e => ⟨_, He.frG_in, e⟩
  keeps := fun _ _ _ ⟨K, hK, c⟩ k => ⟨K, PySem.W.Frag.In.keeps hK k, c⟩
theorem obsXG_eq {n : Nat} {fa : List He.Fa} {fn : List He.DefD} {ts : List He.Tab} {xs : List Xf} {g : Addr → Option Obj} {s : Shared} (h : ∀ a, g a = s.heap.get? a) : obsXG n fa fn ts xs g = (hookX n fa fn ts xs).obs s := by
  have e : g = s.heap.get? := funext h
  rw [e] <;> rfl
section
variable {fa : List He.Fa} {fn : List He.DefD} {ts : List He.Tab} {xs : List Xf} {w : World} {K : PySem.W.Frag}
theorem SaysX.t (c : SaysX fa fn ts xs w K) : He.SaysT fa fn ts w K := congrArg (fun z : AlX => z.1) c
theorem SaysX.d (c : SaysX fa fn ts xs w K) : He.SaysD fa fn K := c.t.d
theorem SaysX.x (c : SaysX fa fn ts xs w K) (i : Nat) {x : Xf} (h : xs[i]? = some x := by rfl) : x K = true := by
  have e : (xs.all fun x => x K) = true := congrArg (fun z : AlX => z.2) c
  exact List.all_eq_true.mp e x (List.mem_of_getElem? h)
theorem SaysX.tabW (c : SaysX fa fn ts xs w K) (i : Nat) {t : He.Tab} (h : ts[i]? = some t := by rfl) : He.dicW K (t.1 K) = some (He.keysIn w.params t.2) := by
  have e : ts.map (fun t => He.dicW K (t.1 K)) = ts.map fun t => some (He.keysIn w.params t.2) := congrArg (fun z : He.AlT => z.2) c.t
  have e2 : (ts.map fun t => He.dicW K (t.1 K))[i]? = (ts.map fun t => some (He.keysIn w.params t.2))[i]? := by rw [e]
  rw [List.getElem?_map, List.getElem?_map, h] at e2
  exact Option.some.inj e2
end
/-- the values of the written dict at a, in its order -/
def valsE (a : PySem.W.Frag → Addr) (vs : List He.Dv) : Xf := fun K => match K.lookup (a K) with
  | some ⟨_, _, .dict es _, _⟩ => He.relAll (vs.map (He.Dv.v K)) (es.toList.map (·.val))
  | _ => false
theorem pairs_lit {P : Program} {w : World} : ∀ {l : List DictEntry} {ks : List Str} {vs : List V}, l.map He.keyOf = He.keysIn w.params ks → Vals vs (l.map (·.val)) → ∃ us : List (Key × Value), Pairs (mixKind P w) l us ∧ us.map (·.1) = ks.map .inr ∧ KV ((ks.map Sum.inr).zip vs) us
  | [], [], [], _, _ => ⟨[], .nil, rfl, .nil⟩
  | [], [], _ :: _, _, h => by cases h
  | [], _ :: _, _, h, _ => by cases h
  | _ :: _, [], _, h, _ => by cases h
  | e :: l, k :: ks, [], _, h => by cases h
  | e :: l, k :: ks, v :: vs, h, hv => by
    have h1 : He.keyOf e :: l.map He.keyOf = some (k, PyData.keyHash w.params k) :: He.keysIn w.params ks := h
    injection h1 with h2 h3
    cases hv with
    | cons r rr =>
      obtain ⟨us, p1, p2, p3⟩ := pairs_lit (P := P) h3 rr
      refine ⟨(.inr k, e.val) :: us, .cons ?_ rfl p1, by rw [List.map_cons, List.map_cons, p2], .cons ⟨rfl, r⟩ p3⟩
      unfold He.keyOf at h2
      split at h2
      · rename_i x t q
        obtain ⟨h5, h6⟩ := Prod.mk.inj (Option.some.inj h2)
        show keyIs (.inr k) e.key = true
        rw [q, h5]
        exact keyIs_str k t
      · cases h2
theorem keysOf_lit {P : Program} {w : World} {l : List DictEntry} {ks : List Str} (h : l.map He.keyOf = He.keysIn w.params ks) : ∀ e ∈ l, ∃ k, (mixKind P w).is k e.key = true ∧ e.hash = (mixKind P w).hash k := by
  induction l generalizing ks with
  | nil => intro e he; cases he
  | cons a l ih =>
    cases ks with
    | nil => cases h
    | cons k ks =>
      have h1 : He.keyOf a :: l.map He.keyOf = some (k, PyData.keyHash w.params k) :: He.keysIn w.params ks := h
      injection h1 with h2 h3
      intro e he
      rcases List.mem_cons.mp he with z | he
      · subst z
        unfold He.keyOf at h2
        split at h2
        · rename_i x t q
          obtain ⟨h5, h6⟩ := Prod.mk.inj (Option.some.inj h2)
          refine ⟨.inr k, ?_, ?_⟩
          · show keyIs (.inr k) e.key = true
            rw [q, h5]
            exact keyIs_str k t
          · rw [h6, ← h5]; rfl
        · cases h2
      · exact ih h3 e he
theorem ktab_of {P : Program} {w : World} {K : PySem.W.Frag} {a : PySem.W.Frag → Addr} {ks : List Str} {vs : List He.Dv} (h : He.dicW K (a K) = some (He.keysIn w.params ks)) (hv : valsE a vs K = true) (nd : ks.Nodup) (hl : ks.length ≤ 1000) :
    KTab P w K (a K) ((ks.map Sum.inr).zip (vs.map (He.Dv.v K))) := by
  unfold He.dicW at h
  unfold valsE at hv
  cases q : K.lookup (a K) with
  | none => rw [q] at h; cases h
  | some o =>
    obtain ⟨oc, od, dt, osl⟩ := o
    rw [q] at h hv
    cases oc with
    | type c =>
      cases od with
      | none =>
        cases dt with
        | dict es n =>
          have h1 : (match decide (c = "dict") && (osl.isEmpty && !(a K == sysModules)) with
            | true => some (es.toList.map He.keyOf)
            | false => none) = some (He.keysIn w.params ks) := h
          cases z : decide (c = "dict") && (osl.isEmpty && !(a K == sysModules)) with
          | false => rw [z] at h1; cases h1
          | true =>
            rw [z] at h1
            obtain ⟨z1, z2⟩ := He.ba z
            obtain ⟨z3, z4⟩ := He.ba z2
            have e1 : c = "dict" := of_decide_eq_true z1
            have e2 : osl = #[] := Array.isEmpty_iff.mp z3
            have e3 : (a K == sysModules) = false := by simpa using z4
            subst e1 e2
            have h2 := Option.some.inj h1
            have hv' : He.relAll (vs.map (He.Dv.v K)) (es.toList.map (·.val)) = true := hv
            obtain ⟨us, p1, p2, p3⟩ := pairs_lit (P := P) h2 (He.relAll_ok hv')
            refine ⟨es, n, us, q, fun e he => keysOf_lit h2 e (Array.mem_toList_iff.mpr he), p1, ?_, p3, e3, ?_⟩
            · rw [p2]
              exact List.Pairwise.map Sum.inr (fun a b h e => h (Sum.inr.inj e)) nd
            · rw [List.length_zip, List.length_map]
              exact Nat.le_trans (Nat.min_le_left _ _) (Nat.le_trans hl (by rw [sizeLine_eq]; decide))
        | _ => cases h
      | some b => cases dt <;> cases h
    | _ => cases od <;> cases dt <;> cases h
end B

set_option maxHeartbeats 0
namespace K15
open PySem PySem.Spec PyProof.Rows L2 B
def top (i : Nat) : Stmt := PySem.Challenge.pw_boxedmiddles_k15_products_of_knots.main.body.getD i (.Pass ⟨0, 0, 0, 0⟩)
abbrev s__law_draws : Stmt := top 75
abbrev s__law_draw : Stmt := top 76
abbrev s__law_split : Stmt := top 78
abbrev s__law_marked : Stmt := top 79
abbrev s__law_groups : Stmt := top 80
abbrev s__law_least : Stmt := top 81
abbrev s__law_spine_of : Stmt := top 87
abbrev s__law_near_knot : Stmt := top 84
abbrev s__law_near : Stmt := top 85
abbrev s__law_raw_graph : Stmt := top 82
abbrev s__law_graph : Stmt := top 83
abbrev s__law_any_plain : Stmt := top 88
abbrev s_numbered : Stmt := top 2
abbrev s_mark_of : Stmt := top 3
abbrev s_grouped : Stmt := top 4
abbrev s_first_members : Stmt := top 5
abbrev s_least : Stmt := top 6
abbrev s_heads_of : Stmt := top 7
abbrev s_links_of : Stmt := top 8
abbrev s_seen_from : Stmt := top 9
abbrev s_least_kind : Stmt := top 15
abbrev s_has_bare_ring : Stmt := top 27
abbrev s_GraphKind_init : Stmt := inClass (top 73) 1
abbrev s__law_twice_product : Stmt := top 89
abbrev s__law_same : Stmt := top 77
abbrev s_most_knots : Stmt := top 52
abbrev s__law_asked : Stmt := top 90
abbrev s__law_blown : Stmt := top 86
abbrev s_law : Stmt := top 91
def dd__law_draws : He.DefD := ⟨("_law_draws", none), "_law_draws", "_law_draws", defArgs s__law_draws, defBody s__law_draws, defScope s__law_draws, [], []⟩
def dd__law_draw : He.DefD := ⟨("_law_draw", none), "_law_draw", "_law_draw", defArgs s__law_draw, defBody s__law_draw, defScope s__law_draw, [], []⟩
def dd__law_split : He.DefD := ⟨("_law_split", none), "_law_split", "_law_split", defArgs s__law_split, defBody s__law_split, defScope s__law_split, [], []⟩
def dd__law_marked : He.DefD := ⟨("_law_marked", none), "_law_marked", "_law_marked", defArgs s__law_marked, defBody s__law_marked, defScope s__law_marked, [], []⟩
def dd__law_groups : He.DefD := ⟨("_law_groups", none), "_law_groups", "_law_groups", defArgs s__law_groups, defBody s__law_groups, defScope s__law_groups, [], []⟩
def dd__law_least : He.DefD := ⟨("_law_least", none), "_law_least", "_law_least", defArgs s__law_least, defBody s__law_least, defScope s__law_least, [], []⟩
def dd__law_spine_of : He.DefD := ⟨("_law_spine_of", none), "_law_spine_of", "_law_spine_of", defArgs s__law_spine_of, defBody s__law_spine_of, defScope s__law_spine_of, [], []⟩
def dd__law_near_knot : He.DefD := ⟨("_law_near_knot", none), "_law_near_knot", "_law_near_knot", defArgs s__law_near_knot, defBody s__law_near_knot, defScope s__law_near_knot, [], []⟩
def dd__law_near : He.DefD := ⟨("_law_near", none), "_law_near", "_law_near", defArgs s__law_near, defBody s__law_near, defScope s__law_near, [], []⟩
def dd__law_raw_graph : He.DefD := ⟨("_law_raw_graph", none), "_law_raw_graph", "_law_raw_graph", defArgs s__law_raw_graph, defBody s__law_raw_graph, defScope s__law_raw_graph, [], []⟩
def dd__law_graph : He.DefD := ⟨("_law_graph", none), "_law_graph", "_law_graph", defArgs s__law_graph, defBody s__law_graph, defScope s__law_graph, [], []⟩
def dd__law_any_plain : He.DefD := ⟨("_law_any_plain", none), "_law_any_plain", "_law_any_plain", defArgs s__law_any_plain, defBody s__law_any_plain, defScope s__law_any_plain, [], []⟩
def dd_numbered : He.DefD := ⟨("numbered", none), "numbered", "numbered", defArgs s_numbered, defBody s_numbered, defScope s_numbered, [], []⟩
def dd_mark_of : He.DefD := ⟨("mark_of", none), "mark_of", "mark_of", defArgs s_mark_of, defBody s_mark_of, defScope s_mark_of, [], []⟩
def dd_grouped : He.DefD := ⟨("grouped", none), "grouped", "grouped", defArgs s_grouped, defBody s_grouped, defScope s_grouped, [], []⟩
def dd_first_members : He.DefD := ⟨("first_members", none), "first_members", "first_members", defArgs s_first_members, defBody s_first_members, defScope s_first_members, [], []⟩
def dd_least : He.DefD := ⟨("least", none), "least", "least", defArgs s_least, defBody s_least, defScope s_least, [], []⟩
def dd_heads_of : He.DefD := ⟨("heads_of", none), "heads_of", "heads_of", defArgs s_heads_of, defBody s_heads_of, defScope s_heads_of, [], []⟩
def dd_links_of : He.DefD := ⟨("links_of", none), "links_of", "links_of", defArgs s_links_of, defBody s_links_of, defScope s_links_of, [], []⟩
def dd_seen_from : He.DefD := ⟨("seen_from", none), "seen_from", "seen_from", defArgs s_seen_from, defBody s_seen_from, defScope s_seen_from, [], []⟩
def dd_least_kind : He.DefD := ⟨("least_kind", none), "least_kind", "least_kind", defArgs s_least_kind, defBody s_least_kind, defScope s_least_kind, [], []⟩
def dd_has_bare_ring : He.DefD := ⟨("has_bare_ring", none), "has_bare_ring", "has_bare_ring", defArgs s_has_bare_ring, defBody s_has_bare_ring, defScope s_has_bare_ring, [], []⟩
def dd_GraphKind_init : He.DefD := ⟨("GraphKind", some "__init__"), "__init__", "GraphKind.__init__", defArgs s_GraphKind_init, defBody s_GraphKind_init, defScope s_GraphKind_init, [], []⟩
def dd__law_twice_product : He.DefD := ⟨("_law_twice_product", none), "_law_twice_product", "_law_twice_product", defArgs s__law_twice_product, defBody s__law_twice_product, defScope s__law_twice_product, [], []⟩
def dd__law_same : He.DefD := ⟨("_law_same", none), "_law_same", "_law_same", defArgs s__law_same, defBody s__law_same, defScope s__law_same, [], []⟩
def dd_most_knots : He.DefD := ⟨("most_knots", none), "most_knots", "most_knots", defArgs s_most_knots, defBody s_most_knots, defScope s_most_knots, [], []⟩
def dd__law_asked : He.DefD := ⟨("_law_asked", none), "_law_asked", "_law_asked", defArgs s__law_asked, defBody s__law_asked, defScope s__law_asked, [], []⟩
def dd__law_blown : He.DefD := ⟨("_law_blown", none), "_law_blown", "_law_blown", defArgs s__law_blown, defBody s__law_blown, defScope s__law_blown, [], []⟩
def dd_law : He.DefD := ⟨("law", none), "law", "law", defArgs s_law, defBody s_law, defScope s_law, [], []⟩
def fn : List He.DefD := [dd__law_draws, dd__law_draw, dd__law_split, dd__law_marked, dd__law_groups, dd__law_least, dd__law_spine_of, dd__law_near_knot, dd__law_near, dd__law_raw_graph, dd__law_graph, dd__law_any_plain, dd_numbered, dd_mark_of, dd_grouped, dd_first_members, dd_least, dd_heads_of, dd_links_of, dd_seen_from, dd_least_kind, dd_has_bare_ring, dd_GraphKind_init, dd__law_twice_product, dd__law_same, dd_most_knots, dd__law_asked, dd__law_blown, dd_law]
def fa : List He.Fa := [.glo "_law_draws", .glo "_law_draw", .glo "_law_split", .glo "_law_marked", .glo "_law_groups", .glo "_law_least", .glo "_law_spine_of", .glo "_law_near_knot", .glo "_law_near", .glo "_law_raw_graph", .glo "_law_graph", .glo "_law_any_plain", .glo "numbered", .glo "mark_of", .glo "grouped", .glo "first_members", .glo "least", .glo "heads_of", .glo "links_of", .glo "seen_from", .glo "least_kind", .glo "has_bare_ring", .glo "_law_twice_product", .glo "_law_same", .glo "most_knots", .glo "_law_asked", .glo "_law_blown", .glo "law", .free "bool", .free "dict", .free "enumerate", .free "int", .free "isinstance", .free "len", .free "list", .free "range", .free "set", .free "str", .free "tuple", .glo "GraphKind", .cls "GraphKind", .mkr "GraphKind", .noat "GraphKind" "knots", .glo "KIND_LINKS"]
def ts : List He.Tab := [(fun K => He.ga K "KIND_LINKS", ["fun", "pair", "box"])]
def xs : List Xf := [fun K => He.conB K "GraphKind" "LIMIT" (.int 12), valsE (fun K => He.ga K "KIND_LINKS") [.int 2, .int 2, .int 1]]
def loose0 : List Str := ["_wall", "__name__", "numbered", "mark_of", "grouped", "first_members", "least", "heads_of", "links_of", "seen_from", "shifted", "planted", "KIND_LINKS", "TURNED", "least_kind", "spot_word", "spot_parts", "spot_has", "straight_pairs", "signed_pairs", "relation_pairs", "related", "mixed_knot", "mixed", "graph_meet", "made_kind", "has_bare_ring", "graph_of_kind", "BOX_USES", "ANY_BOX"]
def loose1 : List Str := ["box_value_fits", "box_use_fits", "CastsError", "BadText", "TooLarge", "NoMeet", "BareRing", "LETTERS", "DIGITS", "MOST_OPEN", "LONGEST_NAME", "check_brackets", "consists_of", "is_label_name", "is_label", "run_end", "word_at", "most_knots", "BASES", "bracketed", "MOST_RINGS", "RING_NAMES", "check_graph_text", "graph_words", "put_knot", "read_graph_atom", "read_graph_unit", "read_graph_product", "read_graph_arrows", "read_graph_whole"]
def loose2 : List Str := ["read_graph_kind", "says_name", "show_operands", "show_knot", "show_graph", "GraphKind", "_law_draws", "_law_draw", "_law_same", "_law_split", "_law_marked", "_law_groups", "_law_least", "_law_raw_graph", "_law_graph", "_law_near_knot", "_law_near", "_law_blown", "_law_spine_of", "_law_any_plain", "_law_twice_product", "_law_asked"]
def loose : List Str := loose0 ++ loose1 ++ loose2
abbrev R : PySem.W.OpenRow := PySem.W.OpenLaw.row PySem.Challenge.rw_boxedmiddles_k15_products_of_knots
abbrev hk : PySem.W.Hook := hookX 700 fa fn ts xs
def ob (s : PySem.W.SharedT) : AlX := obsXG 700 fa fn ts xs (HandSHeadRun.getT s)
theorem ob_eq (s : PySem.W.SharedT) : ob s = hk.obs s.abs := obsXG_eq (HandSHeadRun.getT_eq s)
theorem runF (w : World) : HandSHeadRun.RunEq R (PySem.W.view R.prog [91]) hk ob 6000 loose (w.withFollow "special-get-raises" false) := by
  intro os
  kernel_rfl
theorem runT (w : World) : HandSHeadRun.RunEq R (PySem.W.view R.prog [91]) hk ob 6000 loose (w.withFollow "special-get-raises" true) := by
  intro os
  kernel_rfl
theorem run (w : World) : HandSHeadRun.RunEq R (PySem.W.view R.prog [91]) hk ob 6000 loose w := PySem.W.byRow2 "special-get-raises" (P := fun w => HandSHeadRun.RunEq R (PySem.W.view R.prog [91]) hk ob 6000 loose w) runF runT w
end K15

/-! Graphs of kinds: partition into alike knots, numbering, least graphs. -/
namespace Gr
inductive F2 {α β : Type} (R : α → β → Prop) : List α → List β → Prop
  | nil : F2 R [] []
  | cons {a b l m} : R a b → F2 R l m → F2 R (a :: l) (b :: m)
theorem F2.length {α β : Type} {R : α → β → Prop} {l : List α} {m : List β} (h : F2 R l m) : l.length = m.length := by
  induction h with
  | nil => rfl
  | cons _ _ ih => simp [ih]
theorem F2.imp {α β : Type} {R S : α → β → Prop} {l : List α} {m : List β} (h : F2 R l m) (i : ∀ a ∈ l, ∀ b ∈ m, R a b → S a b) : F2 S l m := by
  induction h with
  | nil => exact .nil
  | cons r _ ih => exact .cons (i _ (by simp) _ (by simp) r) (ih fun a ha b hb => i a (by simp [ha]) b (by simp [hb]))
theorem F2.get {α β : Type} {R : α → β → Prop} {l : List α} {m : List β} (h : F2 R l m) : ∀ {i : Nat} {a : α}, l[i]? = some a → ∃ b, m[i]? = some b ∧ R a b := by
  induction h with
  | nil => intro i a e; simp at e
  | cons r _ ih =>
    intro i a e
    cases i with
    | zero => simp at e; subst e; exact ⟨_, by simp, r⟩
    | succ i => simpa using ih (by simpa using e)
theorem F2.get' {α β : Type} {R : α → β → Prop} {l : List α} {m : List β} (h : F2 R l m) : ∀ {i : Nat} {b : β}, m[i]? = some b → ∃ a, l[i]? = some a ∧ R a b := by
  induction h with
  | nil => intro i a e; simp at e
  | cons r _ ih =>
    intro i a e
    cases i with
    | zero => simp at e; subst e; exact ⟨_, by simp, r⟩
    | succ i => simpa using ih (by simpa using e)
theorem F2.of_get {α β : Type} {R : α → β → Prop} : ∀ {l : List α} {m : List β}, l.length = m.length → (∀ (i : Nat) (a : α) (b : β), l[i]? = some a → m[i]? = some b → R a b) → F2 R l m
  | [], [], _, _ => .nil
  | [], _ :: _, h, _ => by simp at h
  | _ :: _, [], h, _ => by simp at h
  | a :: l, b :: m, h, k => .cons (k 0 a b (by simp) (by simp)) (F2.of_get (by simpa using h) fun i x y e f => k (i + 1) x y (by simpa using e) (by simpa using f))
theorem F2.append {α β : Type} {R : α → β → Prop} {l l' : List α} {m m' : List β} (h : F2 R l m) (h' : F2 R l' m') : F2 R (l ++ l') (m ++ m') := by
  induction h with
  | nil => exact h'
  | cons r _ ih => exact .cons r ih
theorem F2.map {α β γ δ : Type} {R : γ → δ → Prop} {f : α → γ} {g : β → δ} {l : List α} {m : List β} (h : F2 (fun a b => R (f a) (g b)) l m) : F2 R (l.map f) (m.map g) := by
  induction h with
  | nil => exact .nil
  | cons r _ ih => exact .cons r ih
theorem F2.of_map {α β γ δ : Type} {R : γ → δ → Prop} {f : α → γ} {g : β → δ} : ∀ {l : List α} {m : List β}, F2 R (l.map f) (m.map g) → F2 (fun a b => R (f a) (g b)) l m
  | [], [], _ => .nil
  | [], _ :: _, h => by cases h
  | _ :: _, [], h => by cases h
  | a :: l, b :: m, h => by
    cases h with
    | cons r t => exact .cons r (F2.of_map t)
theorem F2.eq {α : Type} {l m : List α} (h : F2 (fun a b => a = b) l m) : l = m := by
  induction h with
  | nil => rfl
  | cons r _ ih => rw [r, ih]
theorem F2.refl {α : Type} (l : List α) : F2 (fun a b => a = b) l l := by
  induction l with
  | nil => exact .nil
  | cons a l ih => exact .cons rfl ih
theorem F2.mem {α β : Type} {R : α → β → Prop} {l : List α} {m : List β} (h : F2 R l m) {a : α} (ha : a ∈ l) : ∃ b ∈ m, R a b := by
  induction h with
  | nil => cases ha
  | cons r _ ih =>
    rcases List.mem_cons.mp ha with e | ha
    · subst e; exact ⟨_, by simp, r⟩
    · obtain ⟨b, hb, hr⟩ := ih ha; exact ⟨b, by simp [hb], hr⟩
theorem F2.mem' {α β : Type} {R : α → β → Prop} {l : List α} {m : List β} (h : F2 R l m) {b : β} (hb : b ∈ m) : ∃ a ∈ l, R a b := by
  induction h with
  | nil => cases hb
  | cons r _ ih =>
    rcases List.mem_cons.mp hb with e | hb
    · subst e; exact ⟨_, by simp, r⟩
    · obtain ⟨a, ha, hr⟩ := ih hb; exact ⟨a, by simp [ha], hr⟩

/-! ### the different ones, in the order met -/
section
variable {α : Type} [DecidableEq α]
def add1 (ks : List α) (m : α) : List α := if m ∈ ks then ks else ks ++ [m]
def uniqs (ks : List α) (ms : List α) : List α := ms.foldl add1 ks
abbrev uniq (ms : List α) : List α := uniqs [] ms
theorem add1_nd {ks : List α} {m : α} (h : ks.Nodup) : (add1 ks m).Nodup := by
  unfold add1
  split
  · exact h
  · rename_i hn
    exact List.nodup_append.mpr ⟨h, by simp, fun a ha b hb => by simp at hb; subst hb; exact fun e => hn (e ▸ ha)⟩
theorem add1_mem {ks : List α} {m x : α} : x ∈ add1 ks m ↔ x ∈ ks ∨ x = m := by
  unfold add1
  split
  · rename_i h
    constructor
    · exact .inl
    · rintro (h' | rfl)
      · exact h'
      · exact h
  · simp
theorem uniqs_nd {ks : List α} (ms : List α) (h : ks.Nodup) : (uniqs ks ms).Nodup := by
  induction ms generalizing ks with
  | nil => exact h
  | cons m ms ih => exact ih (add1_nd h)
theorem uniqs_mem {ks ms : List α} {x : α} : x ∈ uniqs ks ms ↔ x ∈ ks ∨ x ∈ ms := by
  induction ms generalizing ks with
  | nil => simp [uniqs]
  | cons m ms ih =>
    show x ∈ uniqs (add1 ks m) ms ↔ _
    rw [ih, add1_mem, List.mem_cons, or_assoc]
theorem uniqs_pre (ks ms : List α) : ∃ t, uniqs ks ms = ks ++ t := by
  induction ms generalizing ks with
  | nil => exact ⟨[], by simp [uniqs]⟩
  | cons m ms ih =>
    obtain ⟨t, h⟩ := ih (add1 ks m)
    show ∃ t, uniqs (add1 ks m) ms = _
    rw [h]
    unfold add1
    split
    · exact ⟨t, rfl⟩
    · exact ⟨m :: t, by simp⟩
theorem uniq_nd (ms : List α) : (uniq ms).Nodup := uniqs_nd ms (by simp)
theorem uniq_mem {ms : List α} {x : α} : x ∈ uniq ms ↔ x ∈ ms := by rw [uniqs_mem]; simp
theorem uniqs_len (ks ms : List α) : (uniqs ks ms).length ≤ ks.length + ms.length := by
  induction ms generalizing ks with
  | nil => simp [uniqs]
  | cons m ms ih =>
    have := ih (add1 ks m)
    have h2 : (add1 ks m).length ≤ ks.length + 1 := by unfold add1; split <;> simp
    show (uniqs (add1 ks m) ms).length ≤ _
    simp only [List.length_cons]; omega
theorem uniq_len (ms : List α) : (uniq ms).length ≤ ms.length := by have := uniqs_len ([] : List α) ms; simpa using this
/-- each by its place among the different ones -/
def number (ms : List α) : List Nat := ms.map fun m => (uniq ms).idxOf m
theorem number_len (ms : List α) : (number ms).length = ms.length := by simp [number]
theorem idx_inj {ks : List α} {a b : α} (ha : a ∈ ks) (h : ks.idxOf a = ks.idxOf b) : a = b := by
  have h1 := List.idxOf_lt_length_of_mem ha
  have e1 : ks[ks.idxOf a]? = some a := by rw [List.getElem?_eq_getElem h1]; simp
  have h2 : ks.idxOf b < ks.length := h ▸ h1
  have hb : b ∈ ks := List.idxOf_lt_length_iff.mp h2
  have e2 : ks[ks.idxOf b]? = some b := by rw [List.getElem?_eq_getElem h2]; simp
  rw [h, e2] at e1
  exact (Option.some.inj e1).symm
theorem number_eq {ms : List α} {i j : Nat} {a b : α} (hi : ms[i]? = some a) (hj : ms[j]? = some b) : (number ms)[i]? = (number ms)[j]? ↔ a = b := by
  unfold number
  rw [List.getElem?_map, List.getElem?_map, hi, hj]
  simp only [Option.map_some, Option.some.injEq]
  constructor
  · exact fun h => idx_inj (uniq_mem.mpr (List.mem_of_getElem? hi)) h
  · rintro rfl; rfl
end
theorem add1_map {α β : Type} [DecidableEq α] [DecidableEq β] (f : α → β) {ks : List α} {m : α} (inj : ∀ a ∈ ks, f a = f m → a = m) : add1 (ks.map f) (f m) = (add1 ks m).map f := by
  unfold add1
  have e : f m ∈ ks.map f ↔ m ∈ ks := by
    rw [List.mem_map]
    constructor
    · rintro ⟨a, ha, h⟩; exact inj a ha h ▸ ha
    · exact fun h => ⟨m, h, rfl⟩
  by_cases h : m ∈ ks
  · rw [if_pos h, if_pos (e.mpr h)]
  · rw [if_neg h, if_neg (fun z => h (e.mp z))]; simp
theorem uniqs_map {α β : Type} [DecidableEq α] [DecidableEq β] (f : α → β) : ∀ {ms ks : List α}, (∀ a ∈ ks ++ ms, ∀ b ∈ ks ++ ms, f a = f b → a = b) → uniqs (ks.map f) (ms.map f) = (uniqs ks ms).map f
  | [], ks, _ => by simp [uniqs]
  | m :: ms, ks, inj => by
    show uniqs (add1 (ks.map f) (f m)) (ms.map f) = (uniqs (add1 ks m) ms).map f
    rw [add1_map f fun a ha h => inj a (by simp [ha]) m (by simp) h]
    refine uniqs_map f fun a ha b hb h => inj a ?_ b ?_ h
    · rcases List.mem_append.mp ha with ha | ha
      · rcases add1_mem.mp ha with ha | rfl
        · simp [ha]
        · simp
      · simp [ha]
    · rcases List.mem_append.mp hb with hb | hb
      · rcases add1_mem.mp hb with hb | rfl
        · simp [hb]
        · simp
      · simp [hb]
/-- as many numbers as marks -/
theorem uniq_number {α : Type} [DecidableEq α] (ms : List α) : (uniq (number ms)).length = (uniq ms).length := by
  have := uniqs_map (fun m => (uniq ms).idxOf m) (ms := ms) (ks := []) fun a ha b hb h => idx_inj (uniq_mem.mpr (by simpa using ha)) h
  unfold number uniq
  rw [List.map_nil] at this
  rw [this, List.length_map]

/-! ### as many classes: the same classes -/
theorem nodup_sub {α : Type} [DecidableEq α] : ∀ {u l : List α}, u.Nodup → (∀ x ∈ u, x ∈ l) → u.length ≤ l.length
  | [], _, _, _ => Nat.zero_le _
  | a :: u, l, nd, h => by
    have ha : a ∈ l := h a (by simp)
    have hu : ∀ x ∈ u, x ∈ l.erase a := fun x hx => (List.mem_erase_of_ne (a := x) (b := a) (by rintro rfl; exact (List.nodup_cons.mp nd).1 hx)).mpr (h x (by simp [hx]))
    have := nodup_sub (List.nodup_cons.mp nd).2 hu
    have e := List.length_erase_of_mem ha
    have : 0 < l.length := List.length_pos_of_mem ha
    simp only [List.length_cons]; omega
theorem nodup_full {α : Type} [DecidableEq α] : ∀ {u l : List α}, u.Nodup → (∀ x ∈ u, x ∈ l) → l.length ≤ u.length → l.Nodup
  | [], l, _, _, h => by simp at h; subst h; simp
  | a :: u, l, nd, h, hl => by
    have ha : a ∈ l := h a (by simp)
    have hu : ∀ x ∈ u, x ∈ l.erase a := fun x hx => (List.mem_erase_of_ne (a := x) (b := a) (by rintro rfl; exact (List.nodup_cons.mp nd).1 hx)).mpr (h x (by simp [hx]))
    have e := List.length_erase_of_mem ha
    have hp : 0 < l.length := List.length_pos_of_mem ha
    have nde := nodup_full (List.nodup_cons.mp nd).2 hu (by simp only [List.length_cons] at hl; omega)
    have hna : a ∉ l.erase a := fun hm => by
      -- then u and a fit into l.erase a
      have : (a :: u).length ≤ (l.erase a).length := nodup_sub nd fun x hx => by
        rcases List.mem_cons.mp hx with rfl | hx
        · exact hm
        · exact hu x hx
      simp only [List.length_cons] at this hl; omega
    exact (List.perm_cons_erase ha).nodup_iff.mpr (List.nodup_cons.mpr ⟨hna, nde⟩)
/-- f refines h on l and has no more values: they have the same classes -/
theorem same_classes {ι α β : Type} [DecidableEq α] [DecidableEq β] {l : List ι} (f : ι → α) (h : ι → β) (ref : ∀ a ∈ l, ∀ b ∈ l, f a = f b → h a = h b) (cnt : (uniq (l.map f)).length ≤ (uniq (l.map h)).length) :
    ∀ a ∈ l, ∀ b ∈ l, h a = h b → f a = f b := by
  intro a ha b hb e
  -- a map of the f-values to the h-values
  let φ : α → Option β := fun x => (l.find? fun i => decide (f i = x)).map h
  have hφ : ∀ i ∈ l, φ (f i) = some (h i) := fun i hi => by
    show (l.find? fun j => decide (f j = f i)).map h = _
    cases q : l.find? fun j => decide (f j = f i) with
    | none =>
      have := List.find?_eq_none.mp q i hi
      simp at this
    | some j =>
      have h1 := List.find?_some q
      have h2 := List.mem_of_find?_eq_some q
      simp only [decide_eq_true_eq] at h1
      rw [Option.map_some, ref j h2 i hi h1]
  have sub : ∀ x ∈ (uniq (l.map h)).map some, x ∈ (uniq (l.map f)).map φ := fun x hx => by
    obtain ⟨y, hy, rfl⟩ := List.mem_map.mp hx
    obtain ⟨i, hi, rfl⟩ := List.mem_map.mp (uniq_mem.mp hy)
    exact List.mem_map.mpr ⟨f i, uniq_mem.mpr (List.mem_map.mpr ⟨i, hi, rfl⟩), hφ i hi⟩
  have nd1 : ((uniq (l.map h)).map some).Nodup := List.Pairwise.map some (fun a b e z => e (Option.some.inj z)) (uniq_nd _)
  have nd2 := nodup_full nd1 sub (by simpa using cnt)
  -- φ is one to one on the f-values
  have inj : ∀ {u : List α}, (u.map φ).Nodup → ∀ x ∈ u, ∀ y ∈ u, φ x = φ y → x = y := by
    intro u
    induction u with
    | nil => intro _ x hx; cases hx
    | cons c u ih =>
      intro nd x hx y hy e
      rw [List.map_cons] at nd
      obtain ⟨n1, n2⟩ := List.nodup_cons.mp nd
      rcases List.mem_cons.mp hx with e1 | hx1
      · rcases List.mem_cons.mp hy with e2 | hy1
        · rw [e1, e2]
        · exact absurd (List.mem_map.mpr ⟨y, hy1, by rw [← e, e1]⟩) n1
      · rcases List.mem_cons.mp hy with e2 | hy1
        · exact absurd (List.mem_map.mpr ⟨x, hx1, by rw [e, e2]⟩) n1
        · exact ih n2 x hx1 y hy1 e
  exact inj nd2 _ (uniq_mem.mpr (List.mem_map.mpr ⟨a, ha, rfl⟩)) _ (uniq_mem.mpr (List.mem_map.mpr ⟨b, hb, rfl⟩)) (by rw [hφ a ha, hφ b hb, e])
theorem refine_cnt {ι α β : Type} [DecidableEq α] [DecidableEq β] {l : List ι} (f : ι → α) (h : ι → β) (ref : ∀ a ∈ l, ∀ b ∈ l, f a = f b → h a = h b) : (uniq (l.map h)).length ≤ (uniq (l.map f)).length := by
  let φ : α → Option β := fun x => (l.find? fun i => decide (f i = x)).map h
  have hφ : ∀ i ∈ l, φ (f i) = some (h i) := fun i hi => by
    show (l.find? fun j => decide (f j = f i)).map h = _
    cases q : l.find? fun j => decide (f j = f i) with
    | none =>
      have := List.find?_eq_none.mp q i hi
      simp at this
    | some j =>
      have h1 := List.find?_some q
      have h2 := List.mem_of_find?_eq_some q
      simp only [decide_eq_true_eq] at h1
      rw [Option.map_some, ref j h2 i hi h1]
  have sub : ∀ x ∈ (uniq (l.map h)).map some, x ∈ (uniq (l.map f)).map φ := fun x hx => by
    obtain ⟨y, hy, rfl⟩ := List.mem_map.mp hx
    obtain ⟨i, hi, rfl⟩ := List.mem_map.mp (uniq_mem.mp hy)
    exact List.mem_map.mpr ⟨f i, uniq_mem.mpr (List.mem_map.mpr ⟨i, hi, rfl⟩), hφ i hi⟩
  have nd1 : ((uniq (l.map h)).map some).Nodup := List.Pairwise.map some (fun a b e z => e (Option.some.inj z)) (uniq_nd _)
  simpa using nodup_sub nd1 sub
end Gr

namespace Gr
inductive Wd where | q | int | bool | unit | fn | pair | box
  deriving DecidableEq, Inhabited
def Wd.ar : Wd → Nat
  | .fn => 2
  | .pair => 2
  | .box => 1
  | _ => 0
structure Kn where
  w : Wd
  ls : List Nat
  deriving DecidableEq, Inhabited
abbrev Graph := List Kn
def Wf (A : Graph) : Prop := 0 < A.length ∧ ∀ k ∈ A, k.ls.length = k.w.ar ∧ ∀ l ∈ k.ls, l < A.length
theorem Wf.get {A : Graph} (h : Wf A) {a : Nat} {k : Kn} (e : A[a]? = some k) : k.ls.length = k.w.ar ∧ ∀ l ∈ k.ls, l < A.length := h.2 k (List.mem_of_getElem? e)
theorem getD_of {α : Type} {l : List α} {i : Nat} {x d : α} (e : l[i]? = some x) : l.getD i d = x := by rw [List.getD_eq_getElem?_getD, e]; rfl
theorem some_of {α : Type} {l : List α} {i : Nat} (h : i < l.length) : ∃ x, l[i]? = some x := ⟨l[i], List.getElem?_eq_getElem h⟩

/-! ### refinement -/
/-- the mark of a knot: its number, and its links' numbers -/
def marks (A : Graph) (g : List Nat) : List (Nat × List Nat) := (List.range A.length).map fun a => (g.getD a 0, (A.getD a default).ls.map fun l => g.getD l 0)
def refine1 (A : Graph) (g : List Nat) : List Nat := number (marks A g)
def g0 (A : Graph) : List Nat := number (A.map (·.w))
def gs (A : Graph) : Nat → List Nat
  | 0 => g0 A
  | i + 1 => refine1 A (gs A i)
def cnt (A : Graph) (i : Nat) : Nat := (uniq (gs A i)).length
/-- the first numbering that is as fine as the one ahead of it -/
def stabF (A : Graph) : Nat → Nat → Nat → List Nat
  | 0, i, _ => gs A i
  | f + 1, i, c => if cnt A i = c then gs A i else stabF A f (i + 1) (cnt A i)
def stab (A : Graph) : List Nat := stabF A (A.length + 1) 0 0
section
variable {A : Graph}
theorem marks_len (g : List Nat) : (marks A g).length = A.length := by simp [marks]
theorem gs_len : ∀ i, (gs A i).length = A.length
  | 0 => by simp [gs, g0, number_len]
  | i + 1 => by simp [gs, refine1, number_len, marks_len]
theorem marks_get {g : List Nat} {a : Nat} {k : Kn} (e : A[a]? = some k) : (marks A g)[a]? = some (g.getD a 0, k.ls.map fun l => g.getD l 0) := by
  have h : a < A.length := (List.getElem?_eq_some_iff.mp e).1
  unfold marks
  rw [List.getElem?_map, List.getElem?_range h, Option.map_some, getD_of e]
/-- same number: same mark -/
theorem gs_eq {i a b : Nat} {k m : Kn} (ha : A[a]? = some k) (hb : A[b]? = some m) : (gs A (i + 1)).getD a 0 = (gs A (i + 1)).getD b 0 ↔ (gs A i).getD a 0 = (gs A i).getD b 0 ∧ (k.ls.map fun l => (gs A i).getD l 0) = m.ls.map fun l => (gs A i).getD l 0 := by
  have h1 := number_eq (marks_get (g := gs A i) ha) (marks_get (g := gs A i) hb)
  have la : a < (gs A (i + 1)).length := by rw [gs_len]; exact (List.getElem?_eq_some_iff.mp ha).1
  have lb : b < (gs A (i + 1)).length := by rw [gs_len]; exact (List.getElem?_eq_some_iff.mp hb).1
  obtain ⟨x, hx⟩ := some_of la
  obtain ⟨y, hy⟩ := some_of lb
  rw [getD_of hx, getD_of hy]
  have hx' : (number (marks A (gs A i)))[a]? = some x := hx
  have hy' : (number (marks A (gs A i)))[b]? = some y := hy
  rw [hx', hy', Option.some.injEq, Prod.mk.injEq] at h1
  exact h1
theorem gs_eq0 {a b : Nat} {k m : Kn} (ha : A[a]? = some k) (hb : A[b]? = some m) : (gs A 0).getD a 0 = (gs A 0).getD b 0 ↔ k.w = m.w := by
  have h1 := number_eq (ms := A.map (·.w)) (i := a) (j := b) (by rw [List.getElem?_map, ha]; rfl) (by rw [List.getElem?_map, hb]; rfl)
  have la : a < (gs A 0).length := by rw [gs_len]; exact (List.getElem?_eq_some_iff.mp ha).1
  have lb : b < (gs A 0).length := by rw [gs_len]; exact (List.getElem?_eq_some_iff.mp hb).1
  obtain ⟨x, hx⟩ := some_of la
  obtain ⟨y, hy⟩ := some_of lb
  rw [getD_of hx, getD_of hy]
  have hx' : (number (A.map (·.w)))[a]? = some x := hx
  have hy' : (number (A.map (·.w)))[b]? = some y := hy
  rw [hx', hy', Option.some.injEq] at h1
  exact h1
theorem gs_step {i a b : Nat} (ha : a < A.length) (hb : b < A.length) (h : (gs A (i + 1)).getD a 0 = (gs A (i + 1)).getD b 0) : (gs A i).getD a 0 = (gs A i).getD b 0 := by
  obtain ⟨k, hk⟩ := some_of ha
  obtain ⟨m, hm⟩ := some_of hb
  exact ((gs_eq hk hm).mp h).1
theorem gs_word {a b : Nat} {k m : Kn} (ha : A[a]? = some k) (hb : A[b]? = some m) : ∀ i, (gs A i).getD a 0 = (gs A i).getD b 0 → k.w = m.w
  | 0, h => (gs_eq0 ha hb).mp h
  | i + 1, h => gs_word ha hb i (gs_step (List.getElem?_eq_some_iff.mp ha).1 (List.getElem?_eq_some_iff.mp hb).1 h)
theorem gs_range (i : Nat) : gs A i = (List.range A.length).map fun a => (gs A i).getD a 0 := by
  refine List.ext_getElem? fun a => ?_
  rw [List.getElem?_map]
  by_cases h : a < A.length
  · obtain ⟨x, hx⟩ := some_of (l := gs A i) (i := a) (by rw [gs_len]; exact h)
    rw [List.getElem?_range h, hx, Option.map_some, getD_of hx]
  · rw [List.getElem?_eq_none (by rw [gs_len]; omega), List.getElem?_eq_none (by simp; omega)]; rfl
theorem cnt_le (i : Nat) : cnt A i ≤ A.length := by
  unfold cnt
  have := uniq_len (gs A i)
  rwa [gs_len] at this
theorem cnt_mono (i : Nat) : cnt A i ≤ cnt A (i + 1) := by
  unfold cnt
  rw [gs_range i, gs_range (i + 1)]
  exact refine_cnt (l := List.range A.length) (fun a => (gs A (i + 1)).getD a 0) (fun a => (gs A i).getD a 0) fun a ha b hb h => gs_step (List.mem_range.mp ha) (List.mem_range.mp hb) h
theorem cnt_pos (h : 0 < A.length) (i : Nat) : 0 < cnt A i := by
  unfold cnt
  obtain ⟨x, hx⟩ := some_of (l := gs A i) (i := 0) (by rw [gs_len]; exact h)
  exact List.length_pos_of_mem (uniq_mem.mpr (List.mem_of_getElem? hx))
/-- the end of the refinement -/
theorem stabF_spec (h : 0 < A.length) : ∀ (f i c : Nat), c ≤ cnt A i → (i = 0 → c = 0) → (∀ j, i = j + 1 → c = cnt A j) → A.length < f + c → ∃ j, i ≤ j + 1 ∧ stabF A f i c = gs A (j + 1) ∧ cnt A (j + 1) = cnt A j
  | 0, i, c, h1, h2, h3, hf => by have := cnt_le (A := A) i; omega
  | f + 1, i, c, h1, h2, h3, hf => by
    unfold stabF
    by_cases e : cnt A i = c
    · rw [if_pos e]
      cases i with
      | zero => have := cnt_pos h 0; rw [e, h2 rfl] at this; omega
      | succ j => exact ⟨j, Nat.le_refl _, rfl, by rw [e]; exact h3 j rfl⟩
    · rw [if_neg e]
      obtain ⟨j, h4, h5, h6⟩ := stabF_spec h f (i + 1) (cnt A i) (cnt_mono i) (fun z => by omega) (fun j hj => by cases hj; rfl) (by omega)
      exact ⟨j, by omega, h5, h6⟩
theorem stab_spec (h : 0 < A.length) : ∃ j, stab A = gs A (j + 1) ∧ cnt A (j + 1) = cnt A j := by
  obtain ⟨j, _, h1, h2⟩ := stabF_spec h (A.length + 1) 0 0 (Nat.zero_le _) (fun _ => rfl) (fun j hj => by omega) (by omega)
  exact ⟨j, h1, h2⟩
theorem stab_len : (stab A).length = A.length := by
  by_cases h : 0 < A.length
  · obtain ⟨j, e, _⟩ := stab_spec h
    rw [e, gs_len]
  · have : A = [] := List.eq_nil_of_length_eq_zero (by omega)
    subst this
    rfl
/-- a relation between the knots of two graphs that links and words respect -/
def Bis (A B : Graph) (S : Nat → Nat → Prop) : Prop := ∀ a b, S a b → ∃ k m, A[a]? = some k ∧ B[b]? = some m ∧ k.w = m.w ∧ F2 S k.ls m.ls
abbrev gr (A : Graph) (a : Nat) : Nat := (stab A).getD a 0
/-- alike knots have alike links -/
theorem stab_links (hA : Wf A) {a b : Nat} {k m : Kn} (ha : A[a]? = some k) (hb : A[b]? = some m) (h : gr A a = gr A b) : k.w = m.w ∧ (k.ls.map (gr A)) = m.ls.map (gr A) := by
  obtain ⟨j, e, c⟩ := stab_spec hA.1
  unfold gr at h ⊢
  rw [e] at h ⊢
  refine ⟨gs_word ha hb _ h, ?_⟩
  have h2 := ((gs_eq ha hb).mp h).2
  have same := same_classes (l := List.range A.length) (fun a => (gs A (j + 1)).getD a 0) (fun a => (gs A j).getD a 0) (fun a ha b hb h => gs_step (List.mem_range.mp ha) (List.mem_range.mp hb) h) (by
    rw [← gs_range, ← gs_range]; exact Nat.le_of_eq c)
  refine List.ext_getElem? fun i => ?_
  have h3 : (k.ls.map fun l => (gs A j).getD l 0)[i]? = (m.ls.map fun l => (gs A j).getD l 0)[i]? := by rw [h2]
  rw [List.getElem?_map, List.getElem?_map] at h3 ⊢
  cases e1 : k.ls[i]? with
  | none =>
    cases e2 : m.ls[i]? with
    | none => rfl
    | some y => rw [e1, e2] at h3; cases h3
  | some x =>
    cases e2 : m.ls[i]? with
    | none => rw [e1, e2] at h3; cases h3
    | some y =>
      rw [e1, e2] at h3
      simp only [Option.map_some, Option.some.injEq] at h3 ⊢
      exact same x (List.mem_range.mpr ((hA.get ha).2 x (List.mem_of_getElem? e1))) y (List.mem_range.mpr ((hA.get hb).2 y (List.mem_of_getElem? e2))) h3
/-- .. and whatever is alike by some relation has one number -/
theorem gs_coarse {S : Nat → Nat → Prop} (hS : Bis A A S) : ∀ (i a b : Nat), S a b → (gs A i).getD a 0 = (gs A i).getD b 0
  | 0, a, b, h => by
    obtain ⟨k, m, h1, h2, h3, _⟩ := hS a b h
    exact (gs_eq0 h1 h2).mpr h3
  | i + 1, a, b, h => by
    obtain ⟨k, m, h1, h2, h3, h4⟩ := hS a b h
    refine (gs_eq h1 h2).mpr ⟨gs_coarse hS i a b h, F2.eq (F2.map (h4.imp fun x _ y _ r => gs_coarse hS i x y r))⟩
theorem stab_coarse (hA : 0 < A.length) {S : Nat → Nat → Prop} (hS : Bis A A S) {a b : Nat} (h : S a b) : gr A a = gr A b := by
  obtain ⟨j, e, _⟩ := stab_spec hA
  unfold gr
  rw [e]
  exact gs_coarse hS _ a b h
end

/-! ### the order in which the classes are met -/
/-- the class's first knot, its word, its links' classes -/
def rep (A : Graph) (c : Nat) : Nat := (stab A).idxOf c
def kn (A : Graph) (c : Nat) : Kn := A.getD (rep A c) default
def sw (A : Graph) (c : Nat) : Wd := (kn A c).w
def ss (A : Graph) (c : Nat) : List Nat := (kn A c).ls.map (gr A)
def bfsF (s : Nat → List Nat) : Nat → Nat → List Nat → List Nat
  | 0, _, O => O
  | f + 1, i, O => if i < O.length then bfsF s f (i + 1) (uniqs O (s (O.getD i 0))) else O
theorem bfsF_succ (s : Nat → List Nat) (f i : Nat) (O : List Nat) : bfsF s (f + 1) i O = if i < O.length then bfsF s f (i + 1) (uniqs O (s (O.getD i 0))) else O := rfl
def bfs (A : Graph) : List Nat := bfsF (ss A) A.length 0 [gr A 0]
def lst (A : Graph) : Graph := (bfs A).map fun c => ⟨sw A c, (ss A c).map fun d => (bfs A).idxOf d⟩
section
variable {A B : Graph}
theorem gr_mem {a : Nat} (h : a < A.length) : gr A a ∈ stab A := by
  obtain ⟨x, hx⟩ := some_of (l := stab A) (i := a) (by rw [stab_len]; exact h)
  unfold gr
  rw [getD_of hx]
  exact List.mem_of_getElem? hx
theorem rep_lt {c : Nat} (h : c ∈ stab A) : rep A c < A.length := by
  have := List.idxOf_lt_length_of_mem h
  rwa [stab_len] at this
theorem gr_rep {c : Nat} (h : c ∈ stab A) : gr A (rep A c) = c := by
  have h1 := List.idxOf_lt_length_of_mem h
  unfold gr rep
  rw [List.getD_eq_getElem?_getD, List.getElem?_eq_getElem h1]
  simp
theorem kn_get {c : Nat} (h : c ∈ stab A) : A[rep A c]? = some (kn A c) := by
  obtain ⟨k, hk⟩ := some_of (rep_lt h)
  unfold kn
  rw [hk, getD_of hk]
/-- a class's word and links are those of any of its knots -/
theorem kn_of (hA : Wf A) {a : Nat} {k : Kn} (ha : A[a]? = some k) : sw A (gr A a) = k.w ∧ ss A (gr A a) = k.ls.map (gr A) := by
  have hm := gr_mem (A := A) (List.getElem?_eq_some_iff.mp ha).1
  have h := stab_links hA (kn_get hm) ha (gr_rep hm)
  exact h
theorem ss_mem (hA : Wf A) {c : Nat} (h : c ∈ stab A) : ∀ d ∈ ss A c, d ∈ stab A := fun d hd => by
  obtain ⟨l, hl, rfl⟩ := List.mem_map.mp hd
  exact gr_mem ((hA.get (kn_get h)).2 l hl)
/-- orders: different classes of the graph -/
def Ord (A : Graph) (O : List Nat) : Prop := O.Nodup ∧ ∀ c ∈ O, c ∈ stab A
theorem Ord.le {O : List Nat} (h : Ord A O) : O.length ≤ A.length := by
  have := nodup_sub h.1 h.2
  rwa [stab_len] at this
theorem Ord.step (hA : Wf A) {O : List Nat} {i : Nat} (h : Ord A O) (hi : i < O.length) : Ord A (uniqs O (ss A (O.getD i 0))) := by
  refine ⟨uniqs_nd _ h.1, fun c hc => ?_⟩
  rcases uniqs_mem.mp hc with hc | hc
  · exact h.2 c hc
  · obtain ⟨x, hx⟩ := some_of hi
    rw [getD_of hx] at hc
    exact ss_mem hA (h.2 x (List.mem_of_getElem? hx)) c hc
theorem Ord.run (hA : Wf A) : ∀ (f i : Nat) {O : List Nat}, Ord A O → Ord A (bfsF (ss A) f i O)
  | 0, _, O, h => h
  | f + 1, i, O, h => by
    unfold bfsF
    by_cases hi : i < O.length
    · rw [if_pos hi]; exact Ord.run hA f (i + 1) (h.step hA hi)
    · rw [if_neg hi]; exact h
theorem ord0 (hA : Wf A) : Ord A [gr A 0] := ⟨by simp, fun c hc => by simp at hc; subst hc; exact gr_mem hA.1⟩
theorem bfs_ord (hA : Wf A) : Ord A (bfs A) := Ord.run hA _ _ (ord0 hA)
/-- what the walk leaves is closed -/
theorem bfsF_closed (hA : Wf A) : ∀ (f i : Nat) {O : List Nat}, Ord A O → A.length ≤ f + i → (∀ j, j < i → ∀ x, O[j]? = some x → ∀ d ∈ ss A x, d ∈ O) → (∃ t, bfsF (ss A) f i O = O ++ t) ∧ ∀ c ∈ bfsF (ss A) f i O, ∀ d ∈ ss A c, d ∈ bfsF (ss A) f i O
  | 0, i, O, h, hf, hc => by
    refine ⟨⟨[], by simp [bfsF]⟩, fun c hcm d hd => ?_⟩
    obtain ⟨j, hj⟩ := List.mem_iff_getElem?.mp (show c ∈ O from hcm)
    have : j < O.length := (List.getElem?_eq_some_iff.mp hj).1
    have := h.le
    exact hc j (by omega) c hj d hd
  | f + 1, i, O, h, hf, hc => by
    unfold bfsF
    by_cases hi : i < O.length
    · rw [if_pos hi]
      obtain ⟨t, ht⟩ := uniqs_pre O (ss A (O.getD i 0))
      obtain ⟨⟨t2, e2⟩, h2⟩ := bfsF_closed hA f (i + 1) (h.step hA hi) (by omega) fun j hj x hx d hd => by
        by_cases hji : j < i
        · have hx' : O[j]? = some x := by
            rw [ht] at hx
            rwa [List.getElem?_append_left (by omega)] at hx
          exact uniqs_mem.mpr (.inl (hc j hji x hx' d hd))
        · have : j = i := by omega
          subst this
          have hx' : O[j]? = some x := by
            rw [ht] at hx
            rwa [List.getElem?_append_left hi] at hx
          rw [getD_of hx']
          exact uniqs_mem.mpr (.inr hd)
      exact ⟨⟨t ++ t2, by rw [e2, ht, List.append_assoc]⟩, h2⟩
    · rw [if_neg hi]
      refine ⟨⟨[], by simp⟩, fun c hcm d hd => ?_⟩
      obtain ⟨j, hj⟩ := List.mem_iff_getElem?.mp (show c ∈ O from hcm)
      have : j < O.length := (List.getElem?_eq_some_iff.mp hj).1
      exact hc j (by omega) c hj d hd
theorem bfs_closed (hA : Wf A) : (∃ t, bfs A = gr A 0 :: t) ∧ ∀ c ∈ bfs A, ∀ d ∈ ss A c, d ∈ bfs A :=
  bfsF_closed hA A.length 0 (ord0 hA) (by omega) fun j hj => by omega

/-! ### like graphs have one least graph -/
theorem uniqs_F2 {C : Nat → Nat → Prop} (c1 : ∀ a b b', C a b → C a b' → b = b') (c2 : ∀ a a' b, C a b → C a' b → a = a') {O O' l l' : List Nat} (h : F2 C O O') (hl : F2 C l l') : F2 C (uniqs O l) (uniqs O' l') := by
  induction hl generalizing O O' with
  | nil => exact h
  | @cons a b l m r _ ih =>
    show F2 C (uniqs (add1 O a) l) (uniqs (add1 O' b) m)
    refine ih ?_
    unfold add1
    have e : a ∈ O ↔ b ∈ O' := by
      constructor
      · intro ha
        obtain ⟨b', hb', r'⟩ := h.mem ha
        rw [c1 a b b' r r']; exact hb'
      · intro hb
        obtain ⟨a', ha', r'⟩ := h.mem' hb
        rw [c2 a a' b r r']; exact ha'
    by_cases ha : a ∈ O
    · rw [if_pos ha, if_pos (e.mp ha)]; exact h
    · rw [if_neg ha, if_neg fun z => ha (e.mpr z)]; exact h.append (.cons r .nil)
theorem idx_F2 {C : Nat → Nat → Prop} (c1 : ∀ a b b', C a b → C a b' → b = b') (c2 : ∀ a a' b, C a b → C a' b → a = a') {O O' : List Nat} (h : F2 C O O') : ∀ {a b : Nat}, C a b → O.idxOf a = O'.idxOf b := by
  induction h with
  | nil => intro a b _; rfl
  | @cons x y l m r _ ih =>
    intro a b hr
    rw [List.idxOf_cons, List.idxOf_cons, ih hr]
    have e : (x == a) = (y == b) := by
      rw [Bool.eq_iff_iff, beq_iff_eq, beq_iff_eq]
      constructor
      · rintro rfl; exact c1 _ _ _ r hr
      · rintro rfl; exact c2 _ _ _ r hr
    rw [e]
theorem lst_same (hA : Wf A) (hB : Wf B) {S : Nat → Nat → Prop} (hS : Bis A B S) (h0 : S 0 0) : lst A = lst B := by
  let C : Nat → Nat → Prop := fun c d => ∃ a b, S a b ∧ gr A a = c ∧ gr B b = d
  have c1 : ∀ c d d', C c d → C c d' → d = d' := by
    rintro c d d' ⟨a, b, h1, h2, h3⟩ ⟨a', b', h1', h2', h3'⟩
    rw [← h3, ← h3']
    refine stab_coarse hB.1 (S := fun x y => ∃ p p', S p x ∧ S p' y ∧ gr A p = gr A p') ?_ ⟨a, a', h1, h1', h2.trans h2'.symm⟩
    rintro x y ⟨p, p', s1, s2, e⟩
    obtain ⟨k, m, k1, k2, k3, k4⟩ := hS p x s1
    obtain ⟨k', m', k1', k2', k3', k4'⟩ := hS p' y s2
    obtain ⟨w1, w2⟩ := stab_links hA k1 k1' e
    refine ⟨m, m', k2, k2', by rw [← k3, ← k3', w1], ?_⟩
    refine F2.of_get (by rw [← k4.length, ← k4'.length]; simpa using congrArg List.length w2) fun i u v hu hv => ?_
    obtain ⟨p1, q1, q2⟩ := k4.get' hu
    obtain ⟨p2, q3, q4⟩ := k4'.get' hv
    refine ⟨p1, p2, q2, q4, ?_⟩
    have := congrArg (fun l => l[i]?) w2
    simp only [List.getElem?_map, q1, q3, Option.map_some, Option.some.injEq] at this
    exact this
  have c2 : ∀ c c' d, C c d → C c' d → c = c' := by
    rintro c c' d ⟨a, b, h1, h2, h3⟩ ⟨a', b', h1', h2', h3'⟩
    rw [← h2, ← h2']
    refine stab_coarse hA.1 (S := fun x y => ∃ p p', S x p ∧ S y p' ∧ gr B p = gr B p') ?_ ⟨b, b', h1, h1', h3.trans h3'.symm⟩
    rintro x y ⟨p, p', s1, s2, e⟩
    obtain ⟨k, m, k1, k2, k3, k4⟩ := hS x p s1
    obtain ⟨k', m', k1', k2', k3', k4'⟩ := hS y p' s2
    obtain ⟨w1, w2⟩ := stab_links hB k2 k2' e
    refine ⟨k, k', k1, k1', by rw [k3, k3', w1], ?_⟩
    refine F2.of_get (by rw [k4.length, k4'.length]; simpa using congrArg List.length w2) fun i u v hu hv => ?_
    obtain ⟨p1, q1, q2⟩ := k4.get hu
    obtain ⟨p2, q3, q4⟩ := k4'.get hv
    refine ⟨p1, p2, q2, q4, ?_⟩
    have := congrArg (fun l => l[i]?) w2
    simp only [List.getElem?_map, q1, q3, Option.map_some, Option.some.injEq] at this
    exact this
  have cs : ∀ c d, C c d → sw A c = sw B d ∧ F2 C (ss A c) (ss B d) := by
    rintro c d ⟨a, b, h1, rfl, rfl⟩
    obtain ⟨k, m, k1, k2, k3, k4⟩ := hS a b h1
    obtain ⟨w1, w2⟩ := kn_of hA k1
    obtain ⟨w3, w4⟩ := kn_of hB k2
    refine ⟨by rw [w1, w3, k3], ?_⟩
    rw [w2, w4]
    exact F2.map (k4.imp fun x _ y _ r => ⟨x, y, r, rfl, rfl⟩)
  have run : ∀ (f f' i : Nat) {O O' : List Nat}, F2 C O O' → Ord A O → Ord B O' → A.length ≤ f + i → B.length ≤ f' + i → F2 C (bfsF (ss A) f i O) (bfsF (ss B) f' i O') := by
    intro f
    induction f with
    | zero =>
      intro f' i O O' h oA oB hf hf'
      have l1 := oA.le
      have l2 := h.length
      cases f' with
      | zero => exact h
      | succ f' =>
        rw [bfsF_succ, if_neg (by omega)]
        exact h
    | succ f ih =>
      intro f' i O O' h oA oB hf hf'
      have l2 := h.length
      have l3 := oB.le
      rw [bfsF_succ]
      by_cases hi : i < O.length
      · rw [if_pos hi]
        cases f' with
        | zero => omega
        | succ f' =>
          rw [bfsF_succ, if_pos (by omega)]
          refine ih f' (i + 1) ?_ (oA.step hA hi) (oB.step hB (by omega)) (by omega) (by omega)
          obtain ⟨x, hx⟩ := some_of hi
          obtain ⟨y, hy, r⟩ := h.get hx
          rw [getD_of hx, getD_of hy]
          exact uniqs_F2 c1 c2 h (cs x y r).2
      · rw [if_neg hi]
        cases f' with
        | zero => exact h
        | succ f' => rw [bfsF_succ, if_neg (by omega)]; exact h
  have hO : F2 C (bfs A) (bfs B) := run A.length B.length 0 (.cons ⟨0, 0, h0, rfl, rfl⟩ .nil) (ord0 hA) (ord0 hB) (by omega) (by omega)
  unfold lst
  refine F2.eq (F2.map (hO.imp fun c _ d _ r => ?_))
  obtain ⟨s1, s2⟩ := cs c d r
  have : (ss A c).map (fun d => (bfs A).idxOf d) = (ss B d).map fun d => (bfs B).idxOf d := F2.eq (F2.map (s2.imp fun x _ y _ r => idx_F2 c1 c2 hO r))
  rw [s1, this]

/-! ### least graphs -/
theorem lst_len : (lst A).length = (bfs A).length := by simp [lst]
theorem lst_get {i c : Nat} (h : (bfs A)[i]? = some c) : (lst A)[i]? = some ⟨sw A c, (ss A c).map fun d => (bfs A).idxOf d⟩ := by
  unfold lst
  rw [List.getElem?_map, h]; rfl
theorem lst_le (hA : Wf A) : (lst A).length ≤ A.length := by rw [lst_len]; exact (bfs_ord hA).le
theorem lst_wf (hA : Wf A) : Wf (lst A) := by
  obtain ⟨⟨t, e⟩, cl⟩ := bfs_closed hA
  refine ⟨by rw [lst_len, e]; simp, fun k hk => ?_⟩
  unfold lst at hk
  obtain ⟨c, hc, rfl⟩ := List.mem_map.mp hk
  have hm := (bfs_ord hA).2 c hc
  refine ⟨?_, fun l hl => ?_⟩
  · show ((ss A c).map _).length = _
    rw [List.length_map]
    unfold ss
    rw [List.length_map]
    exact (hA.get (kn_get hm)).1
  · obtain ⟨d, hd, rfl⟩ := List.mem_map.mp hl
    rw [lst_len]
    exact List.idxOf_lt_length_of_mem (cl c hc d hd)
/-- a knot and its class's place -/
theorem lst_bis (hA : Wf A) : Bis A (lst A) fun a i => ∃ k, A[a]? = some k ∧ (bfs A)[i]? = some (gr A a) := by
  obtain ⟨_, cl⟩ := bfs_closed hA
  rintro a i ⟨k, ha, hi⟩
  obtain ⟨w1, w2⟩ := kn_of hA ha
  refine ⟨k, _, ha, lst_get hi, w1.symm, ?_⟩
  show F2 _ k.ls ((ss A (gr A a)).map fun d => (bfs A).idxOf d)
  rw [w2, List.map_map]
  refine F2.of_get (by simp) fun j x y hx hy => ?_
  rw [List.getElem?_map, hx] at hy
  simp only [Option.map_some, Option.some.injEq, Function.comp_apply] at hy
  subst hy
  have hl := (hA.get ha).2 x (List.mem_of_getElem? hx)
  obtain ⟨m, hm⟩ := some_of hl
  refine ⟨m, hm, ?_⟩
  have hmem : gr A x ∈ bfs A := cl (gr A a) (List.mem_of_getElem? hi) _ (by rw [w2]; exact List.mem_map.mpr ⟨x, List.mem_of_getElem? hx, rfl⟩)
  have h1 := List.idxOf_lt_length_of_mem hmem
  rw [List.getElem?_eq_getElem h1]
  simp
theorem lst_root (hA : Wf A) : ∃ k, A[0]? = some k ∧ (bfs A)[0]? = some (gr A 0) := by
  obtain ⟨⟨t, e⟩, _⟩ := bfs_closed hA
  obtain ⟨k, hk⟩ := some_of hA.1
  exact ⟨k, hk, by rw [e]; rfl⟩
theorem lst_idem (hA : Wf A) : lst (lst A) = lst A := (lst_same hA (lst_wf hA) (lst_bis hA) (lst_root hA)).symm

/-! ### no ring of pairs alone -/
/-- from a there is a way of n pairs -/
def PP (A : Graph) : Nat → Nat → Prop
  | 0, _ => True
  | n + 1, a => ∃ k, A[a]? = some k ∧ k.w = .pair ∧ ∃ l ∈ k.ls, PP A n l
theorem PP.bis {S : Nat → Nat → Prop} (hS : Bis A B S) : ∀ (n a b : Nat), S a b → PP B n b → PP A n a
  | 0, _, _, _, _ => trivial
  | n + 1, a, b, h, ⟨k, h1, h2, l, h3, h4⟩ => by
    obtain ⟨k', m, e1, e2, e3, e4⟩ := hS a b h
    rw [h1] at e2; cases e2
    obtain ⟨x, hx, r⟩ := e4.mem' h3
    exact ⟨k', e1, e3.trans h2, x, hx, PP.bis hS n x l r h4⟩
theorem PP.down : ∀ (n a : Nat), PP A (n + 1) a → PP A n a
  | 0, _, _ => trivial
  | n + 1, a, ⟨k, h1, h2, l, h3, h4⟩ => ⟨k, h1, h2, l, h3, PP.down n l h4⟩
def NoRing (A : Graph) : Prop := ∃ n, ∀ a, ¬ PP A n a
theorem lst_noring (hA : Wf A) (h : NoRing A) : NoRing (lst A) := by
  obtain ⟨n, hn⟩ := h
  cases n with
  | zero => exact absurd trivial (hn 0)
  | succ n =>
    refine ⟨n + 1, fun i hp => ?_⟩
    have hi : i < (lst A).length := by
      obtain ⟨k, h1, _⟩ := hp
      exact (List.getElem?_eq_some_iff.mp h1).1
    rw [lst_len] at hi
    obtain ⟨c, hc⟩ := some_of hi
    have hm := (bfs_ord hA).2 c (List.mem_of_getElem? hc)
    refine hn (rep A c) (PP.bis (lst_bis hA) (n + 1) (rep A c) i ⟨_, kn_get hm, by rw [gr_rep hm]; exact hc⟩ hp)
/-- a least graph of up to twelve knots without a ring of pairs -/
structure Good (A : Graph) : Prop where
  wf : Wf A
  le : A.length ≤ 12
  nr : NoRing A
  fix : lst A = A
theorem good_lst (hA : Wf A) (h : NoRing A) (hl : (lst A).length ≤ 12) : Good (lst A) := ⟨lst_wf hA, hl, lst_noring hA h, lst_idem hA⟩
end
end Gr

namespace K15
open PySem L2 B
def c_KIND_LINKS : D := .dk [(.inr "fun", .int 2), (.inr "pair", .int 2), (.inr "box", .int 1)]
/-- _law_draws(script); the names: 0 script 1 draws 2 cell 3 rest 4 k -/
def l1__law_draws : Sf := ifF (testF (binF gtD (slotB 3) (frzB (constF (.int 0))))) (seqF (exprF (appF 1 (binF modD (frzB (callBF intD (consP (slotB 3) (nilP)))) (frzB (constF (.int 1000)))))) (setF 3 (binF fdivD (slotB 3) (frzB (constF (.int 1000)))))) (skipF)
def l2__law_draws : Sf := seqF (setF 3 (binF modD (frzB (callBF intD (consP (frzB (binF mulD (slotB 3) (frzB (constF (.int 69621))))) (nilP)))) (frzB (constF (.int 2147483629))))) (exprF (appF 1 (binF modD (frzB (callBF intD (consP (frzB (binF fdivD (slotB 3) (frzB (constF (.int 7))))) (nilP)))) (frzB (constF (.int 1000))))))
def l3__law_draws : Sf := seqF (setF 3 (callBF intD (consP (slotB 2) (nilP)))) (ifF (testF (binF geD (slotB 3) (frzB (binF powD (frzB (constF (.int 10))) (frzB (constF (.int 18))))))) (forF (rngI1 (constF (.int 60))) (nameG 4) (l1__law_draws)) (seqF (setF 3 (binF modD (frzB (callBF intD (consP (frzB (binF mulD (slotB 3) (frzB (constF (.int 48271))))) (nilP)))) (frzB (constF (.int 2147483647))))) (forF (rngI1 (constF (.int 24))) (nameG 4) (l2__law_draws))))
def body__law_draws : Sf := seqF (setF 1 (lstF (nilA))) (seqF (forF (seqI (sliceF (slotB 0) (noO) (someO (constF (.int 63))))) (nameG 2) (l3__law_draws)) (seqF (exprF (revF 1)) (retF (moveF 1))))
def d__law_draws : Den := runDef 5 [false] body__law_draws
/-- _law_draw(draws, many); the names: 0 draws 1 many -/
def body__law_draw : Sf := seqF (ifF (testF (binF eqD (frzB (callBF lenD (consP (slotB 0) (nilP)))) (frzB (constF (.int 0))))) (retF (constF (.int 0))) (skipF)) (retF (binF modD (frzB (callBF intD (consP (frzB (popF 0)) (nilP)))) (slotB 1)))
def d__law_draw : Den := runDef 2 [true, false] body__law_draw
/-- _law_split(knot); the names: 0 knot 1 link -/
def e1__law_split : Ef := nameF 1
def body__law_split : Sf := seqF (ifF (testF (binF notinD (frzB (binF ixD (slotB 0) (frzB (constF (.int 0))))) (frzB (tupF (consA (constF (.str "fun")) (consA (constF (.str "pair")) (consA (constF (.str "box")) (nilA)))))))) (retF (tupF (consA (nameF 0) (consA (lstF (nilA)) (nilA))))) (skipF)) (seqF (ifF (testF (binF eqD (frzB (callBF lenD (consP (slotB 0) (nilP)))) (frzB (constF (.int 4))))) (retF (tupF (consA (sliceF (slotB 0) (noO) (someO (constF (.int 2)))) (consA (lstF (consA (binF ixD (slotB 0) (frzB (constF (.int 2)))) (consA (binF ixD (slotB 0) (frzB (constF (.int 3)))) (nilA)))) (nilA))))) (skipF)) (retF (tupF (consA (sliceF (slotB 0) (noO) (someO (constF (.int 1)))) (consA (lcF [1] (seqI (sliceF (slotB 0) (someO (constF (.int 1))) (noO))) (nameG 1) (yesT) (e1__law_split)) (nilA))))))
def d__law_split : Den := runDef 2 [false] body__law_split
/-- _law_marked(groups, at, knot); the names: 0 groups 1 at 2 knot 3 link -/
def e1__law_marked : Ef := ifE (testF (binF isnotD (slotB 3) (frzB (constF .non)))) (binF ixD (slotB 0) (slotB 3)) (negF (constF (.int 1)))
def body__law_marked : Sf := retF (tupF (consA (binF ixD (slotB 0) (slotB 1)) (consA (callBF tupleD (consP (frzB (lcF [3] (seqI (binF ixD (frzB (callF [none] d__law_split (consP (frzB (nameF 2)) (nilP)))) (frzB (constF (.int 1))))) (nameG 3) (yesT) (e1__law_marked))) (nilP))) (nilA))))
def d__law_marked : Den := runDef 4 [true, false, false] body__law_marked
/-- _law_groups(knots); the names: 0 knots 1 marks 2 knot 3 groups 4 many 5 k 6 known 7 mark 8 at -/
def e1__law_groups : Ef := binF ixD (frzB (callF [none] d__law_split (consP (frzB (nameF 2)) (nilP)))) (frzB (constF (.int 0)))
def l1__law_groups : Sf := seqF (storeF 6 (slotB 7) (getF (slotB 6) (slotB 7) (callBF lenD (consP (slotB 6) (nilP))))) (exprF (appF 3 (binF ixD (slotB 6) (slotB 7))))
def e2__law_groups : Ef := callF [some 3, none, none] d__law_marked (consP (slotB 3) (consP (frzB (nameF 8)) (consP (frzB (binF ixD (slotB 0) (slotB 8))) (nilP))))
def l2__law_groups : Sf := seqF (setF 6 (newN)) (seqF (setF 3 (lstF (nilA))) (seqF (forF (seqI (nameF 1)) (nameG 7) (l1__law_groups)) (seqF (ifF (testF (binF eqD (frzB (callBF lenD (consP (slotB 6) (nilP)))) (slotB 4))) (retF (moveF 3)) (skipF)) (seqF (setF 4 (callBF lenD (consP (slotB 6) (nilP)))) (setF 1 (lcF [8] (rngI1 (callBF lenD (consP (slotB 0) (nilP)))) (nameG 8) (yesT) (e2__law_groups)))))))
def body__law_groups : Sf := seqF (setF 1 (lcF [2] (seqI (nameF 0)) (nameG 2) (yesT) (e1__law_groups))) (seqF (setF 3 (lstF (nilA))) (seqF (setF 4 (constF (.int 0))) (seqF (forF (rngI1 (binF addD (frzB (callBF lenD (consP (slotB 0) (nilP)))) (frzB (constF (.int 1))))) (nameG 5) (l2__law_groups)) (retF (moveF 3)))))
def d__law_groups : Den := runDef 9 [false] body__law_groups
/-- _law_least(knots); the names: 0 knots 1 groups 2 order 3 places 4 k 5 link 6 found 7 at 8 head 9 links -/
def l1__law_least : Sf := ifF (andT (testF (binF isnotD (slotB 5) (frzB (constF .non)))) (testF (binF notinD (frzB (binF ixD (slotB 1) (slotB 5))) (slotB 3)))) (seqF (storeF 3 (frzB (binF ixD (slotB 1) (slotB 5))) (callBF lenD (consP (slotB 2) (nilP)))) (exprF (appF 2 (nameF 5)))) (skipF)
def l2__law_least : Sf := ifF (testF (binF ltD (slotB 4) (frzB (callBF lenD (consP (slotB 2) (nilP)))))) (forF (seqI (binF ixD (frzB (callF [none] d__law_split (consP (frzB (binF ixD (slotB 0) (frzB (binF ixD (slotB 2) (slotB 4))))) (nilP)))) (frzB (constF (.int 1))))) (nameG 5) (l1__law_least)) (skipF)
def e1__law_least : Ef := ifE (testF (binF isnotD (slotB 5) (frzB (constF .non)))) (binF ixD (slotB 3) (frzB (binF ixD (slotB 1) (slotB 5)))) (constF .non)
def l3__law_least : Sf := seqF (asgF (tupG (consG (nameG 8) (consG (nameG 9) (nilG)))) (callF [none] d__law_split (consP (frzB (binF ixD (slotB 0) (slotB 7))) (nilP)))) (exprF (appF 6 (binF addD (slotB 8) (frzB (callBF tupleD (consP (frzB (lcF [5] (seqI (nameF 9)) (nameG 5) (yesT) (e1__law_least))) (nilP)))))))
def body__law_least : Sf := seqF (setF 1 (callF [none] d__law_groups (consP (frzB (nameF 0)) (nilP)))) (seqF (setF 2 (lstF (consA (constF (.int 0)) (nilA)))) (seqF (setF 3 (dispF (binF ixD (slotB 1) (frzB (constF (.int 0)))) (constF (.int 0)))) (seqF (forF (rngI1 (callBF lenD (consP (slotB 0) (nilP)))) (nameG 4) (l2__law_least)) (seqF (setF 6 (lstF (nilA))) (seqF (forF (seqI (nameF 2)) (nameG 7) (l3__law_least)) (retF (callBF tupleD (consP (slotB 6) (nilP)))))))))
def d__law_least : Den := runDef 10 [false] body__law_least
/-- _law_spine_of(size, at, word); the names: 0 size 1 at 2 word 3 knots 4 k -/
def e1__law_spine_of : Ef := tupF (consA (constF (.str "fun")) (consA (binF addD (slotB 0) (frzB (callBF intD (consP (frzB (binF eqD (slotB 4) (slotB 1))) (nilP))))) (consA (binF modD (frzB (callBF intD (consP (frzB (binF addD (slotB 4) (frzB (constF (.int 1))))) (nilP)))) (slotB 0)) (nilA))))
def body__law_spine_of : Sf := seqF (setF 3 (lcF [4] (rngI1 (nameF 0)) (nameG 4) (yesT) (e1__law_spine_of))) (retF (callF [none] d__law_least (consP (frzB (binF addD (slotB 3) (frzB (lstF (consA (tupF (consA (constF (.str "?")) (nilA))) (consA (tupF (consA (nameF 2) (nilA))) (nilA))))))) (nilP))))
def d__law_spine_of : Den := runDef 5 [false, false, false] body__law_spine_of
/-- _law_near_knot(draws, knot, many, copies, tighter); the names: 0 draws 1 knot 2 many 3 copies 4 tighter 5 head 6 links 7 way 8 sort 9 link -/
def e1__law_near_knot : Ef := binF addD (slotB 9) (frzB (binF mulD (slotB 2) (frzB (callF [some 0, none] d__law_draw (consP (slotB 0) (consP (frzB (nameF 3)) (nilP)))))))
def body__law_near_knot : Sf := seqF (asgF (tupG (consG (nameG 5) (consG (nameG 6) (nilG)))) (callF [none] d__law_split (consP (frzB (nameF 1)) (nilP)))) (seqF (setF 7 (callF [some 0, none] d__law_draw (consP (slotB 0) (consP (frzB (constF (.int 7))) (nilP))))) (seqF (ifF (testF (binF eqD (slotB 7) (frzB (constF (.int 6))))) (retF (tupF (consA (constF (.str "?")) (nilA)))) (skipF)) (seqF (ifF (andT (testF (binF eqD (slotB 7) (frzB (constF (.int 5))))) (andT (testF (nameF 4)) (testF (binF eqD (frzB (binF ixD (slotB 5) (frzB (constF (.int 0))))) (frzB (constF (.str "?"))))))) (seqF (setF 8 (callF [some 0, none] d__law_draw (consP (slotB 0) (consP (frzB (constF (.int 6))) (nilP))))) (seqF (ifF (testF (binF eqD (slotB 8) (frzB (constF (.int 4))))) (retF (tupF (consA (constF (.str "fun")) (consA (callF [some 0, none] d__law_draw (consP (slotB 0) (consP (frzB (binF mulD (slotB 2) (slotB 3))) (nilP)))) (consA (callF [some 0, none] d__law_draw (consP (slotB 0) (consP (frzB (binF mulD (slotB 2) (slotB 3))) (nilP)))) (nilA)))))) (skipF)) (seqF (ifF (testF (binF eqD (slotB 8) (frzB (constF (.int 5))))) (retF (tupF (consA (constF (.str "box")) (consA (callF [some 0, none] d__law_draw (consP (slotB 0) (consP (frzB (binF mulD (slotB 2) (slotB 3))) (nilP)))) (nilA))))) (skipF)) (retF (tupF (consA (binF ixD (frzB (lstF (consA (constF (.str "int")) (consA (constF (.str "bool")) (consA (constF (.str "unit")) (consA (constF (.str "?")) (nilA))))))) (slotB 8)) (nilA))))))) (skipF)) (retF (binF addD (slotB 5) (frzB (callBF tupleD (consP (frzB (lcF [9] (seqI (nameF 6)) (nameG 9) (yesT) (e1__law_near_knot))) (nilP)))))))))
def d__law_near_knot : Den := runDef 10 [true, false, false, false, false] body__law_near_knot
/-- _law_near(draws, kind, tighter); the names: 0 draws 1 kind 2 tighter 3 copies 4 knots 5 copy 6 knot 7 near -/
def l1__law_near : Sf := exprF (appF 4 (callF [some 0, none, none, none, none] d__law_near_knot (consP (slotB 0) (consP (frzB (nameF 6)) (consP (frzB (callBF lenD (consP (slotB 1) (nilP)))) (consP (frzB (nameF 3)) (consP (frzB (nameF 2)) (nilP))))))))
def l2__law_near : Sf := forF (seqI (nameF 1)) (nameG 6) (l1__law_near)
def body__law_near : Sf := seqF (setF 3 (binF addD (frzB (constF (.int 1))) (frzB (callF [some 0, none] d__law_draw (consP (slotB 0) (consP (frzB (constF (.int 2))) (nilP))))))) (seqF (setF 4 (lstF (nilA))) (seqF (forF (rngI1 (nameF 3)) (nameG 5) (l2__law_near)) (seqF (setF 7 (callF [none] d__law_least (consP (frzB (nameF 4)) (nilP)))) (seqF (ifF (testF (binF gtD (frzB (callBF lenD (consP (slotB 7) (nilP)))) (frzB (constF (.int 12))))) (retF (moveF 1)) (skipF)) (retF (moveF 7))))))
def d__law_near : Den := runDef 8 [true, false, false] body__law_near
/-- _law_raw_graph(draws, most, sorts); the names: 0 draws 1 most 2 sorts 3 many 4 knots 5 k 6 way 7 above -/
def l1__law_raw_graph : Sf := seqF (setF 6 (callF [some 0, none] d__law_draw (consP (slotB 0) (consP (frzB (nameF 2)) (nilP))))) (ifF (testF (binF inD (slotB 6) (frzB (tupF (consA (constF (.int 4)) (consA (constF (.int 5)) (nilA))))))) (exprF (appF 4 (tupF (consA (constF (.str "fun")) (consA (callF [some 0, none] d__law_draw (consP (slotB 0) (consP (frzB (nameF 3)) (nilP)))) (consA (callF [some 0, none] d__law_draw (consP (slotB 0) (consP (frzB (nameF 3)) (nilP)))) (nilA))))))) (ifF (andT (testF (binF inD (slotB 6) (frzB (tupF (consA (constF (.int 6)) (consA (constF (.int 7)) (nilA))))))) (testF (binF ltD (frzB (binF addD (slotB 5) (frzB (constF (.int 1))))) (slotB 3)))) (seqF (setF 7 (binF subD (frzB (binF subD (slotB 3) (slotB 5))) (frzB (constF (.int 1))))) (exprF (appF 4 (tupF (consA (constF (.str "pair")) (consA (binF addD (frzB (binF addD (slotB 5) (frzB (constF (.int 1))))) (frzB (callF [some 0, none] d__law_draw (consP (slotB 0) (consP (frzB (nameF 7)) (nilP)))))) (consA (binF addD (frzB (binF addD (slotB 5) (frzB (constF (.int 1))))) (frzB (callF [some 0, none] d__law_draw (consP (slotB 0) (consP (frzB (nameF 7)) (nilP)))))) (nilA)))))))) (ifF (testF (binF inD (slotB 6) (frzB (tupF (consA (constF (.int 8)) (consA (constF (.int 9)) (nilA))))))) (exprF (appF 4 (tupF (consA (constF (.str "box")) (consA (callF [some 0, none] d__law_draw (consP (slotB 0) (consP (frzB (nameF 3)) (nilP)))) (nilA)))))) (exprF (appF 4 (tupF (consA (binF ixD (frzB (lstF (consA (constF (.str "?")) (consA (constF (.str "int")) (consA (constF (.str "bool")) (consA (constF (.str "unit")) (nilA))))))) (frzB (binF modD (slotB 6) (frzB (constF (.int 4)))))) (nilA))))))))
def body__law_raw_graph : Sf := seqF (setF 3 (binF addD (frzB (constF (.int 1))) (frzB (callF [some 0, none] d__law_draw (consP (slotB 0) (consP (frzB (nameF 1)) (nilP))))))) (seqF (setF 4 (lstF (nilA))) (seqF (forF (rngI1 (nameF 3)) (nameG 5) (l1__law_raw_graph)) (retF (moveF 4))))
def d__law_raw_graph : Den := runDef 8 [true, false, false] body__law_raw_graph
/-- _law_graph(draws, most); the names: 0 draws 1 most -/
def body__law_graph : Sf := retF (callF [none] d__law_least (consP (frzB (callF [some 0, none, none] d__law_raw_graph (consP (slotB 0) (consP (frzB (nameF 1)) (consP (frzB (constF (.int 10))) (nilP)))))) (nilP)))
def d__law_graph : Den := runDef 2 [true, false] body__law_graph
/-- _law_any_plain(draws, plains, k, turns); the names: 0 draws 1 plains 2 k 3 turns 4 way 5 size 6 at -/
def body__law_any_plain : Sf := seqF (setF 4 (callF [some 0, none] d__law_draw (consP (slotB 0) (consP (frzB (constF (.int 7))) (nilP))))) (seqF (ifF (andT (testF (binF eqD (slotB 4) (frzB (constF (.int 4))))) (testF (binF gtD (frzB (callBF lenD (consP (slotB 1) (nilP)))) (frzB (constF (.int 0)))))) (retF (binF ixD (slotB 1) (frzB (callF [some 0, none] d__law_draw (consP (slotB 0) (consP (frzB (callBF lenD (consP (slotB 1) (nilP)))) (nilP))))))) (skipF)) (seqF (ifF (andT (testF (binF eqD (slotB 4) (frzB (constF (.int 5))))) (testF (binF gtD (frzB (callBF lenD (consP (slotB 1) (nilP)))) (frzB (constF (.int 0)))))) (retF (callF [some 0, none, none] d__law_near (consP (slotB 0) (consP (frzB (binF ixD (slotB 1) (frzB (callF [some 0, none] d__law_draw (consP (slotB 0) (consP (frzB (callBF lenD (consP (slotB 1) (nilP)))) (nilP))))))) (consP (frzB (constF (.bl true))) (nilP)))))) (skipF)) (seqF (ifF (testF (binF eqD (slotB 4) (frzB (constF (.int 6))))) (retF (callF [some 0, none] d__law_graph (consP (slotB 0) (consP (frzB (constF (.int 12))) (nilP))))) (skipF)) (seqF (setF 5 (binF addD (frzB (constF (.int 2))) (frzB (binF modD (frzB (callBF intD (consP (frzB (binF addD (slotB 2) (frzB (binF ixD (slotB 3) (frzB (constF (.int 0))))))) (nilP)))) (frzB (constF (.int 9))))))) (seqF (setF 6 (binF modD (frzB (callBF intD (consP (frzB (binF addD (frzB (binF mulD (slotB 2) (frzB (binF ixD (slotB 3) (frzB (constF (.int 1))))))) (frzB (binF ixD (slotB 3) (frzB (constF (.int 2))))))) (nilP)))) (slotB 5))) (retF (callF [none, none, none] d__law_spine_of (consP (frzB (nameF 5)) (consP (frzB (nameF 6)) (consP (frzB (binF ixD (frzB (lstF (consA (constF (.str "int")) (consA (constF (.str "bool")) (consA (constF (.str "unit")) (nilA)))))) (frzB (binF modD (frzB (callBF intD (consP (frzB (binF addD (frzB (binF fdivD (slotB 2) (frzB (constF (.int 9))))) (frzB (binF ixD (slotB 3) (frzB (constF (.int 3))))))) (nilP)))) (frzB (constF (.int 3))))))) (nilP)))))))))))
def d__law_any_plain : Den := runDef 7 [true, true, false, false] body__law_any_plain
/-- numbered(marks); the names: 0 marks 1 known 2 numbers 3 mark -/
def l1_numbered : Sf := seqF (ifF (testF (binF notinD (slotB 3) (slotB 1))) (storeF 1 (slotB 3) (callBF lenD (consP (slotB 1) (nilP)))) (skipF)) (exprF (appF 2 (binF ixD (slotB 1) (slotB 3))))
def body_numbered : Sf := seqF (setF 1 (newN)) (seqF (setF 2 (lstF (nilA))) (seqF (forF (seqI (nameF 0)) (nameG 3) (l1_numbered)) (retF (moveF 2))))
def d_numbered : Den := runDef 4 [false] body_numbered
/-- mark_of(groups, at, parts); the names: 0 groups 1 at 2 parts 3 part -/
def e1_mark_of : Ef := ifE (testF (binF isD (slotB 3) (frzB (constF .non)))) (constF .non) (binF ixD (slotB 0) (slotB 3))
def body_mark_of : Sf := retF (tupF (consA (binF ixD (slotB 0) (slotB 1)) (consA (callBF tupleD (consP (frzB (lcF [3] (seqI (nameF 2)) (nameG 3) (yesT) (e1_mark_of))) (nilP))) (nilA))))
def d_mark_of : Den := runDef 4 [false, false, false] body_mark_of
/-- grouped(heads, links); the names: 0 heads 1 links 2 groups 3 many 4 at 5 parts -/
def e1_grouped : Ef := callF [none, none, none] d_mark_of (consP (frzB (nameF 2)) (consP (frzB (nameF 4)) (consP (frzB (nameF 5)) (nilP))))
def t1_grouped : Tf := testF (binF gtD (frzB (unF lenSetD (slotB 2))) (slotB 3))
def l1_grouped : Sf := seqF (setF 3 (unF lenSetD (slotB 2))) (setF 2 (callF [none] d_numbered (consP (frzB (lcF [4, 5] (enumI (nameF 1)) (tupG (consG (nameG 4) (consG (nameG 5) (nilG)))) (yesT) (e1_grouped))) (nilP))))
def body_grouped : Sf := seqF (setF 2 (callF [none] d_numbered (consP (frzB (nameF 0)) (nilP)))) (seqF (setF 3 (constF (.int 0))) (seqF (whileF (t1_grouped) (l1_grouped) fuel) (retF (moveF 2))))
def d_grouped : Den := runDef 6 [false, false] body_grouped
/-- first_members(groups); the names: 0 groups 1 members 2 at 3 group -/
def l1_first_members : Sf := ifF (testF (binF notinD (slotB 3) (slotB 1))) (storeF 1 (slotB 3) (nameF 2)) (skipF)
def body_first_members : Sf := seqF (setF 1 (newK)) (seqF (forF (enumI (nameF 0)) (tupG (consG (nameG 2) (consG (nameG 3) (nilG)))) (l1_first_members)) (retF (moveF 1)))
def d_first_members : Den := runDef 4 [false] body_first_members
/-- least(heads, links, root); the names: 0 heads 1 links 2 root 3 groups 4 members 5 order 6 places 7 at 8 part 9 knots 10 group 11 member 12 parts -/
def l1_least : Sf := ifF (andT (testF (binF isnotD (slotB 8) (frzB (constF .non)))) (testF (binF notinD (frzB (binF ixD (slotB 3) (slotB 8))) (slotB 6)))) (seqF (storeF 6 (frzB (binF ixD (slotB 3) (slotB 8))) (callBF lenD (consP (slotB 5) (nilP)))) (exprF (appF 5 (binF ixD (slotB 3) (slotB 8))))) (skipF)
def t1_least : Tf := testF (binF ltD (slotB 7) (frzB (callBF lenD (consP (slotB 5) (nilP)))))
def l2_least : Sf := seqF (forF (seqI (binF ixD (slotB 1) (frzB (binF ixD (slotB 4) (frzB (binF ixD (slotB 5) (slotB 7))))))) (nameG 8) (l1_least)) (augF 7 (intsD (fun _ _ => true) fun i j => .int (i + j)) (frzB (constF (.int 1))))
def e1_least : Ef := ifE (testF (binF isD (slotB 8) (frzB (constF .non)))) (constF .non) (binF ixD (slotB 6) (frzB (binF ixD (slotB 3) (slotB 8))))
def l3_least : Sf := seqF (setF 11 (binF ixD (slotB 4) (slotB 10))) (seqF (setF 12 (lcF [8] (seqI (binF ixD (slotB 1) (slotB 11))) (nameG 8) (yesT) (e1_least))) (exprF (appF 9 (tupF (starA (frzB (binF ixD (slotB 0) (slotB 11))) (starA (slotB 12) (nilA)))))))
def body_least : Sf := seqF (setF 3 (callF [none, none] d_grouped (consP (frzB (nameF 0)) (consP (frzB (nameF 1)) (nilP))))) (seqF (setF 4 (callF [none] d_first_members (consP (frzB (nameF 3)) (nilP)))) (seqF (setF 5 (lstF (consA (binF ixD (slotB 3) (slotB 2)) (nilA)))) (seqF (setF 6 (dispF (binF ixD (slotB 3) (slotB 2)) (constF (.int 0)))) (seqF (setF 7 (constF (.int 0))) (seqF (whileF (t1_least) (l2_least) fuel) (seqF (setF 9 (lstF (nilA))) (seqF (forF (seqI (nameF 5)) (nameG 10) (l3_least)) (retF (callBF tupleD (consP (slotB 9) (nilP)))))))))))
def d_least : Den := runDef 13 [false, false, false] body_least
/-- heads_of(knots, counts); the names: 0 knots 1 counts 2 knot -/
def e1_heads_of : Ef := sliceF (slotB 2) (noO) (someO (binF subD (frzB (callBF lenD (consP (slotB 2) (nilP)))) (frzB (getF (slotB 1) (frzB (binF ixD (slotB 2) (frzB (constF (.int 0))))) (constF (.int 0))))))
def body_heads_of : Sf := retF (lcF [2] (seqI (nameF 0)) (nameG 2) (yesT) (e1_heads_of))
def d_heads_of : Den := runDef 3 [false, false] body_heads_of
/-- links_of(knots, counts); the names: 0 knots 1 counts 2 knot -/
def e1_links_of : Ef := callBF listD (consP (frzB (sliceF (slotB 2) (someO (binF subD (frzB (callBF lenD (consP (slotB 2) (nilP)))) (frzB (getF (slotB 1) (frzB (binF ixD (slotB 2) (frzB (constF (.int 0))))) (constF (.int 0)))))) (noO))) (nilP))
def body_links_of : Sf := retF (lcF [2] (seqI (nameF 0)) (nameG 2) (yesT) (e1_links_of))
def d_links_of : Den := runDef 3 [false, false] body_links_of
/-- seen_from(knots, counts, root); the names: 0 knots 1 counts 2 root -/
def body_seen_from : Sf := retF (callF [none, none, none] d_least (consP (frzB (callF [none, none] d_heads_of (consP (frzB (nameF 0)) (consP (frzB (nameF 1)) (nilP))))) (consP (frzB (callF [none, none] d_links_of (consP (frzB (nameF 0)) (consP (frzB (nameF 1)) (nilP))))) (consP (frzB (nameF 2)) (nilP)))))
def d_seen_from : Den := runDef 3 [false, false, false] body_seen_from
/-- least_kind(knots); the names: 0 knots -/
def body_least_kind : Sf := retF (callF [none, none, none] d_seen_from (consP (frzB (nameF 0)) (consP (frzB (callBF dictD (consP (frzB (constF c_KIND_LINKS)) (nilP)))) (consP (frzB (constF (.int 0))) (nilP)))))
def d_least_kind : Den := runDef 1 [false] body_least_kind
/-- has_bare_ring(kind); the names: 0 kind 1 left 2 at 3 knot 4 many -/
def t1_has_bare_ring : Tf := testF (binF eqD (frzB (binF ixD (slotB 3) (frzB (constF (.int 0))))) (frzB (constF (.str "pair"))))
def e1_has_bare_ring : Ef := nameF 2
def t2_has_bare_ring : Tf := orT (testF (binF inD (frzB (binF ixD (frzB (binF ixD (slotB 0) (slotB 2))) (frzB (constF (.int 1))))) (slotB 1))) (testF (binF inD (frzB (binF ixD (frzB (binF ixD (slotB 0) (slotB 2))) (frzB (constF (.int 2))))) (slotB 1)))
def e2_has_bare_ring : Ef := nameF 2
def t3_has_bare_ring : Tf := testF (binF ltD (frzB (callBF lenD (consP (slotB 1) (nilP)))) (slotB 4))
def l1_has_bare_ring : Sf := seqF (setF 4 (callBF lenD (consP (slotB 1) (nilP)))) (setF 1 (lcF [2] (seqI (nameF 1)) (nameG 2) (t2_has_bare_ring) (e2_has_bare_ring)))
def body_has_bare_ring : Sf := seqF (setF 1 (lcF [2, 3] (enumI (nameF 0)) (tupG (consG (nameG 2) (consG (nameG 3) (nilG)))) (t1_has_bare_ring) (e1_has_bare_ring))) (seqF (setF 4 (binF addD (frzB (callBF lenD (consP (slotB 1) (nilP)))) (frzB (constF (.int 1))))) (seqF (whileF (t3_has_bare_ring) (l1_has_bare_ring) fuel) (retF (binF gtD (slotB 4) (frzB (constF (.int 0)))))))
def d_has_bare_ring : Den := runDef 5 [false] body_has_bare_ring
/-- GraphKind.__init__(self, knots); the names: 0 self 1 knots 2 graph -/
def body_GraphKind_init : Sf := seqF (setF 2 (callF [none] d_least_kind (consP (frzB (nameF 1)) (nilP)))) (seqF (ifF (testF (callF [none] d_has_bare_ring (consP (frzB (nameF 2)) (nilP)))) (badF) (skipF)) (seqF (ifF (testF (binF gtD (frzB (callBF lenD (consP (slotB 2) (nilP)))) (frzB (unF (conD "GraphKind" "LIMIT" (.int 12)) (slotB 0))))) (badF) (skipF)) (fldF 0 "GraphKind" "knots" (nameF 2))))
def d_GraphKind_init : Den := runDef 3 [true, false] body_GraphKind_init
/-- _law_twice_product(plains); the names: 0 plains 1 different 2 most 3 plain -/
def l1__law_twice_product : Sf := ifF (testF (binF notinD (slotB 3) (slotB 1))) (seqF (exprF (appF 1 (nameF 3))) (setF 2 (binF mulD (slotB 2) (frzB (callBF lenD (consP (slotB 3) (nilP))))))) (skipF)
def body__law_twice_product : Sf := seqF (setF 1 (lstF (nilA))) (seqF (setF 2 (constF (.int 2))) (seqF (forF (seqI (nameF 0)) (nameG 3) (l1__law_twice_product)) (retF (moveF 2))))
def d__law_twice_product : Den := runDef 4 [false] body__law_twice_product
/-- _law_same(actual, due); the names: 0 actual 1 due 2 k -/
def l1__law_same (rec : Den) : Sf := ifF (notT (testF (callF [none, none] rec (consP (frzB (binF ixD (slotB 0) (slotB 2))) (consP (frzB (binF ixD (slotB 1) (slotB 2))) (nilP)))))) (retF (constF (.bl false))) (skipF)
def body__law_same (rec : Den) : Sf := seqF (ifF (orT (testF (unF (isiD "bool") (slotB 1))) (testF (unF (isiD "bool") (slotB 0)))) (retF (andE (unF (isiD "bool") (slotB 1)) (andE (unF (isiD "bool") (slotB 0)) (binF eqD (slotB 0) (slotB 1))))) (skipF)) (seqF (ifF (orT (testF (binF isD (slotB 1) (frzB (constF .non)))) (testF (binF isD (slotB 0) (frzB (constF .non))))) (retF (andE (binF isD (slotB 1) (frzB (constF .non))) (binF isD (slotB 0) (frzB (constF .non))))) (skipF)) (seqF (ifF (testF (unF (isiD "int") (slotB 1))) (retF (andE (unF (isiD "int") (slotB 0)) (binF eqD (slotB 0) (slotB 1)))) (skipF)) (seqF (ifF (testF (unF (isiD "str") (slotB 1))) (retF (andE (unF (isiD "str") (slotB 0)) (binF eqD (slotB 0) (slotB 1)))) (skipF)) (seqF (ifF (andT (testF (unF (isiD "tuple") (slotB 1))) (notT (testF (unF (isiD "tuple") (slotB 0))))) (retF (constF (.bl false))) (skipF)) (seqF (ifF (andT (testF (unF (isiD "list") (slotB 1))) (notT (testF (unF (isiD "list") (slotB 0))))) (retF (constF (.bl false))) (skipF)) (seqF (ifF (testF (binF neD (frzB (callBF lenD (consP (slotB 0) (nilP)))) (frzB (callBF lenD (consP (slotB 1) (nilP)))))) (retF (constF (.bl false))) (skipF)) (seqF (forF (rngI1 (callBF lenD (consP (slotB 1) (nilP)))) (nameG 2) (l1__law_same rec)) (retF (constF (.bl true))))))))))
def rec__law_same : Nat → Den
  | 0 => fun _ => none
  | n + 1 => runDef 3 [false, false] (body__law_same (rec__law_same n))
def d__law_same : Den := rec__law_same 8
/-- most_knots(kinds); the names: 0 kinds 1 different 2 kind 3 most 4 knots -/
def l1_most_knots : Sf := ifF (testF (binF notinD (frzB (unF (fldD "GraphKind" "knots") (slotB 2))) (slotB 1))) (exprF (appF 1 (unF (fldD "GraphKind" "knots") (slotB 2)))) (skipF)
def l2_most_knots : Sf := setF 3 (binF mulD (slotB 3) (frzB (callBF lenD (consP (slotB 4) (nilP)))))
def body_most_knots : Sf := seqF (setF 1 (lstF (nilA))) (seqF (forF (seqI (nameF 0)) (nameG 2) (l1_most_knots)) (seqF (setF 3 (constF (.int 2))) (seqF (forF (seqI (nameF 1)) (nameG 4) (l2_most_knots)) (retF (moveF 3)))))
def d_most_knots : Den := runDef 5 [false] body_most_knots
/-- _law_asked(kinds, plains); the names: 0 kinds 1 plains 2 due 3 handed 4 kind -/
def e1__law_asked : Ef := unF (fldD "GraphKind" "knots") (slotB 4)
def body__law_asked : Sf := seqF (setF 2 (callF [none] d__law_twice_product (consP (frzB (nameF 1)) (nilP)))) (seqF (setF 3 (callBF listD (consP (slotB 0) (nilP)))) (seqF (ifF (orT (notT (testF (callF [none, none] d__law_same (consP (frzB (callF [none] d_most_knots (consP (frzB (nameF 3)) (nilP)))) (consP (frzB (nameF 2)) (nilP)))))) (notT (testF (callF [none, none] d__law_same (consP (frzB (callBF lenD (consP (slotB 3) (nilP)))) (consP (frzB (callBF lenD (consP (slotB 1) (nilP)))) (nilP))))))) (retF (constF (.bl false))) (skipF)) (seqF (ifF (notT (testF (callF [none, none] d__law_same (consP (frzB (lcF [4] (seqI (nameF 3)) (nameG 4) (yesT) (e1__law_asked))) (consP (frzB (nameF 1)) (nilP)))))) (retF (constF (.bl false))) (skipF)) (retF (callF [none, none] d__law_same (consP (frzB (callF [none] d_most_knots (consP (frzB (nameF 3)) (nilP)))) (consP (frzB (nameF 2)) (nilP))))))))
def d__law_asked : Den := runDef 5 [false, false] body__law_asked
/-- _law_blown(draws, kind); the names: 0 draws 1 kind 2 copies 3 knots 4 copy 5 knot 6 head 7 links 8 link -/
def e1__law_blown : Ef := binF addD (slotB 8) (frzB (binF mulD (frzB (callBF lenD (consP (slotB 1) (nilP)))) (frzB (callF [some 0, none] d__law_draw (consP (slotB 0) (consP (frzB (nameF 2)) (nilP)))))))
def l1__law_blown : Sf := seqF (asgF (tupG (consG (nameG 6) (consG (nameG 7) (nilG)))) (callF [none] d__law_split (consP (frzB (nameF 5)) (nilP)))) (exprF (appF 3 (binF addD (slotB 6) (frzB (callBF tupleD (consP (frzB (lcF [8] (seqI (nameF 7)) (nameG 8) (yesT) (e1__law_blown))) (nilP)))))))
def l2__law_blown : Sf := forF (seqI (nameF 1)) (nameG 5) (l1__law_blown)
def body__law_blown : Sf := seqF (setF 2 (binF addD (frzB (constF (.int 1))) (frzB (callF [some 0, none] d__law_draw (consP (slotB 0) (consP (frzB (binF fdivD (frzB (constF (.int 60))) (frzB (callBF lenD (consP (slotB 1) (nilP)))))) (nilP))))))) (seqF (setF 3 (lstF (nilA))) (seqF (forF (rngI1 (nameF 2)) (nameG 4) (l2__law_blown)) (retF (moveF 3))))
def d__law_blown : Den := runDef 9 [true, false] body__law_blown
/-- law(script); the names: 0 script 1 draws 2 many 3 turns 4 k 5 plains 6 forms 7 plain 8 form 9 kinds -/
def e1_law : Ef := callF [some 1, none] d__law_draw (consP (slotB 1) (consP (frzB (constF (.int 9))) (nilP)))
def l1_law : Sf := seqF (setF 7 (callF [some 1, some 5, none, none] d__law_any_plain (consP (slotB 1) (consP (slotB 5) (consP (frzB (nameF 4)) (consP (frzB (nameF 3)) (nilP))))))) (seqF (exprF (appF 5 (nameF 7))) (seqF (setF 8 (nameF 7)) (seqF (ifF (testF (binF eqD (frzB (callF [some 1, none] d__law_draw (consP (slotB 1) (consP (frzB (constF (.int 3))) (nilP))))) (frzB (constF (.int 2))))) (setF 8 (callBF tupleD (consP (frzB (callF [some 1, none] d__law_blown (consP (slotB 1) (consP (frzB (nameF 7)) (nilP))))) (nilP)))) (skipF)) (exprF (appF 6 (nameF 8))))))
def e2_law : Ef := makeF "GraphKind" d_GraphKind_init (consP (frzB (nameF 8)) (nilP))
def body_law : Sf := seqF (setF 1 (callF [none] d__law_draws (consP (frzB (nameF 0)) (nilP)))) (seqF (setF 2 (binF subD (frzB (constF (.int 40))) (frzB (callF [some 1, none] d__law_draw (consP (slotB 1) (consP (frzB (constF (.int 41))) (nilP))))))) (seqF (setF 3 (lcF [4] (rngI1 (constF (.int 4))) (nameG 4) (yesT) (e1_law))) (seqF (setF 5 (lstF (nilA))) (seqF (setF 6 (lstF (nilA))) (seqF (forF (rngI1 (nameF 2)) (nameG 4) (l1_law)) (seqF (setF 9 (lcF [8] (seqI (nameF 6)) (nameG 8) (yesT) (e2_law))) (seqF (ifF (orT (notT (testF (callF [none, none] d__law_asked (consP (frzB (lstF (nilA))) (consP (frzB (lstF (nilA))) (nilP)))))) (notT (testF (callF [none, none] d__law_asked (consP (frzB (nameF 9)) (consP (frzB (nameF 5)) (nilP))))))) (retF (constF (.bl false))) (skipF)) (seqF (ifF (orT (notT (testF (callF [none, none] d__law_asked (consP (frzB (unF revD (slotB 9))) (consP (frzB (unF revD (slotB 5))) (nilP)))))) (notT (testF (callF [none, none] d__law_asked (consP (frzB (binF addD (slotB 9) (slotB 9))) (consP (frzB (binF addD (slotB 5) (slotB 5))) (nilP))))))) (retF (constF (.bl false))) (skipF)) (retF (andE (callF [none, none] d__law_asked (consP (frzB (sliceF (slotB 9) (noO) (someO (constF (.int 1))))) (consP (frzB (sliceF (slotB 5) (noO) (someO (constF (.int 1))))) (nilP)))) (callF [none, none] d__law_asked (consP (frzB (nameF 9)) (consP (frzB (nameF 5)) (nilP))))))))))))))
def d_law : Den := runDef 10 [false] body_law
end K15

set_option maxHeartbeats 4000000
namespace K15
open PySem L2 B Gr
def ws : Wd → Str
  | .q => "?" | .int => "int" | .bool => "bool" | .unit => "unit" | .fn => "fun" | .pair => "pair" | .box => "box"
abbrev iD (n : Nat) : D := .int (n : Int)
@[simp] theorem view_dat (d : D) : (L.dat d).view = d := rfl
@[simp] theorem view_lst (d : List D) : (L.lst d).view = .lst d := rfl
@[simp] theorem view_dk (d : List (L2.Key × D)) : (L.dk d).view = .dk d := rfl
@[simp] theorem view_dn (d : List (NestedKey × D)) : (L.dn d).view = .dn d := rfl
@[simp] theorem view_ins (C : Str) (d : List (Str × D)) : (L.ins C d).view = .obj C d := rfl
def encK (k : Kn) : D := .tup (.str (ws k.w) :: k.ls.map iD)
def spl (k : Kn) : D := .tup [.tup [.str (ws k.w)], .lst (k.ls.map iD)]
theorem den_split {k : Kn} (h : k.ls.length = k.w.ar) : d__law_split [.dat (encK k)] = some (.dat (spl k), [none]) := by
  obtain ⟨w, ls⟩ := k
  cases w with
  | fn => match ls, h with
    | [a, b], _ => rfl
  | pair => match ls, h with
    | [a, b], _ => rfl
  | box => match ls, h with
    | [a], _ => rfl
  | q => match ls, h with
    | [], _ => rfl
  | int => match ls, h with
    | [], _ => rfl
  | bool => match ls, h with
    | [], _ => rfl
  | unit => match ls, h with
    | [], _ => rfl
end K15
namespace K15
open PySem L2 B Gr
/-! ### dicts that number their keys -/
section
variable {α κ : Type} [DecidableEq α] [DecidableEq κ]
def kvsN (f : α → κ) : Nat → List α → List (κ × D)
  | _, [] => []
  | n, m :: ks => (f m, iD n) :: kvsN f (n + 1) ks
def kvs (f : α → κ) (ks : List α) : List (κ × D) := kvsN f 0 ks
theorem kvsN_len (f : α → κ) : ∀ (n : Nat) (ks : List α), (kvsN f n ks).length = ks.length
  | _, [] => rfl
  | n, m :: ks => congrArg Nat.succ (kvsN_len f (n + 1) ks)
theorem kvs_len (f : α → κ) (ks : List α) : (kvs f ks).length = ks.length := kvsN_len f 0 ks
theorem kvsN_snoc (f : α → κ) (m : α) : ∀ (n : Nat) (ks : List α), kvsN f n (ks ++ [m]) = kvsN f n ks ++ [(f m, iD (n + ks.length))]
  | _, [] => rfl
  | n, x :: ks => by
    show (f x, iD n) :: kvsN f (n + 1) (ks ++ [m]) = (f x, iD n) :: (kvsN f (n + 1) ks ++ [(f m, iD (n + (ks.length + 1)))])
    rw [kvsN_snoc f m (n + 1) ks]
    have : n + 1 + ks.length = n + (ks.length + 1) := by omega
    rw [this]
theorem kvs_snoc (f : α → κ) (ks : List α) (m : α) : kvs f (ks ++ [m]) = kvs f ks ++ [(f m, iD ks.length)] := by
  have := kvsN_snoc f m 0 ks
  rwa [Nat.zero_add] at this
theorem look_kvsN {f : α → κ} (inj : ∀ a b, f a = f b → a = b) (m : α) : ∀ (n : Nat) (ks : List α), look (kvsN f n ks) (f m) = if m ∈ ks then some (iD (n + ks.idxOf m)) else none
  | _, [] => rfl
  | n, x :: ks => by
    have ih := look_kvsN inj m (n + 1) ks
    unfold look at ih ⊢
    show ((( f x, iD n) :: kvsN f (n + 1) ks).find? _).map _ = _
    rw [List.find?_cons]
    by_cases hx : x = m
    · subst hx
      simp
    · have h1 : ¬ f x = f m := fun e => hx (inj _ _ e)
      have h2 : ¬ m = x := fun e => hx e.symm
      simp only [h1, decide_false, ih, List.mem_cons, h2, false_or]
      by_cases hm : m ∈ ks
      · rw [if_pos hm, if_pos hm, List.idxOf_cons]
        have : (x == m) = false := by simpa using hx
        rw [this]
        simp only [cond_false]
        rw [show n + 1 + ks.idxOf m = n + (ks.idxOf m + 1) by omega]
      · rw [if_neg hm, if_neg hm]
theorem look_kvs {f : α → κ} (inj : ∀ a b, f a = f b → a = b) (m : α) (ks : List α) : look (kvs f ks) (f m) = if m ∈ ks then some (iD (ks.idxOf m)) else none := by
  have := look_kvsN inj m 0 ks
  rwa [Nat.zero_add] at this
theorem kvsN_get (f : α → κ) : ∀ (n : Nat) (ks : List α) (i : Nat), (kvsN f n ks)[i]? = (ks[i]?).map fun m => (f m, iD (n + i))
  | _, [], _ => by simp [kvsN]
  | n, m :: ks, 0 => by simp [kvsN]
  | n, m :: ks, i + 1 => by
    show (kvsN f (n + 1) ks)[i]? = _
    rw [kvsN_get f (n + 1) ks i, List.getElem?_cons_succ]
    have : n + 1 + i = n + (i + 1) := by omega
    rw [this]
theorem put_new {f : α → κ} (inj : ∀ a b, f a = f b → a = b) {m : α} {ks : List α} (h : m ∉ ks) : put (kvs f ks) (f m) (iD ks.length) = kvs f (ks ++ [m]) := by
  have : ((kvs f ks).any fun kv => decide (kv.1 = f m)) = false := by
    rw [any_look, look_kvs inj, if_neg h]; rfl
  unfold put
  rw [this, kvs_snoc]; rfl
theorem put_old {f : α → κ} (inj : ∀ a b, f a = f b → a = b) {m : α} {ks : List α} (nd : ks.Nodup) (h : m ∈ ks) : put (kvs f ks) (f m) (iD (ks.idxOf m)) = kvs f ks := by
  have : ((kvs f ks).any fun kv => decide (kv.1 = f m)) = true := by
    rw [any_look, look_kvs inj, if_pos h]; rfl
  unfold put
  rw [if_pos this]
  refine List.ext_getElem? fun i => ?_
  rw [List.getElem?_map]
  unfold kvs
  rw [kvsN_get, Nat.zero_add]
  cases e : ks[i]? with
  | none => rfl
  | some x =>
    simp only [Option.map_some]
    by_cases hx : f x = f m
    · rw [if_pos hx]
      have := inj _ _ hx
      subst this
      obtain ⟨hi, e'⟩ := List.getElem?_eq_some_iff.mp e
      have : ks.idxOf x = i := by rw [← e']; exact nd.idxOf_getElem i hi
      rw [this]
    · rw [if_neg hx]
end
/-- the numbers as they come -/
def numFrom {α : Type} [DecidableEq α] : List α → List α → List Nat
  | _, [] => []
  | ks, m :: ms => (add1 ks m).idxOf m :: numFrom (add1 ks m) ms
theorem idx_pre {α : Type} [DecidableEq α] {ks t : List α} {m : α} (h : m ∈ ks) : (ks ++ t).idxOf m = ks.idxOf m := by rw [List.idxOf_append, if_pos h]
theorem numFrom_eq {α : Type} [DecidableEq α] : ∀ (ms ks : List α), numFrom ks ms = ms.map fun m => (uniqs ks ms).idxOf m
  | [], _ => rfl
  | m :: ms, ks => by
    show _ :: numFrom (add1 ks m) ms = (uniqs (add1 ks m) ms).idxOf m :: ms.map fun x => (uniqs (add1 ks m) ms).idxOf x
    rw [numFrom_eq ms]
    obtain ⟨t, e⟩ := uniqs_pre (add1 ks m) ms
    rw [e, idx_pre (add1_mem.mpr (.inr rfl))]
theorem number_from {α : Type} [DecidableEq α] (ms : List α) : numFrom [] ms = number ms := by rw [numFrom_eq]; rfl
theorem add1_len {α : Type} [DecidableEq α] (ks : List α) (m : α) : (add1 ks m).length ≤ ks.length + 1 := by unfold add1; split <;> simp

/-! ### numbered -/
theorem numbered_step {α : Type} [DecidableEq α] {e : α → D} {f : α → NestedKey} (inj : ∀ a b, f a = f b → a = b) {m : α} (hm : toTK (e m) = some (f m)) {ks : List α} {o : List D} {a x : Option L} (h1 : ks.length < cap) (h2 : o.length < cap) :
    l1_numbered [a, some (.dn (kvs f ks)), some (.lst o), some (.dat (e m))] = .next [a, some (.dn (kvs f (add1 ks m))), some (.lst (o ++ [iD ((add1 ks m).idxOf m)])), some (.dat (e m))] := by
  have hl := kvs_len f ks
  by_cases h : m ∈ ks
  · have e1 : look (kvs f ks) (f m) = some (iD (ks.idxOf m)) := by rw [look_kvs inj, if_pos h]
    have e2 : add1 ks m = ks := if_pos h
    simp [l1_numbered, seqF, ifF, testF, binF, slotB, Res.bd, resolve, notinD, inB, hm, e1, skipF, exprF, appF, ixD, h2, e2]
  · have e1 : look (kvs f ks) (f m) = none := by rw [look_kvs inj, if_neg h]
    have e2 : add1 ks m = ks ++ [m] := if_neg h
    have e3 := put_new inj h
    have e4 : look (kvs f (ks ++ [m])) (f m) = some (iD ((ks ++ [m]).idxOf m)) := by rw [look_kvs inj, if_pos (by simp)]
    have e5 : D.int ((kvs f ks).length : Int) = iD ks.length := by rw [hl]
    simp [l1_numbered, seqF, ifF, testF, binF, slotB, Res.bd, resolve, notinD, inB, hm, e1, storeF, storeD, callBF, consP, nilP, resolves, lenD, exprF, appF, ixD, h2, e2, e5, hl, h1, e3, e4]
theorem numbered_loop {α : Type} [DecidableEq α] {e : α → D} {f : α → NestedKey} (inj : ∀ a b, f a = f b → a = b) : ∀ (ms ks : List α) (o : List D) (a x : Option L), (∀ m ∈ ms, toTK (e m) = some (f m)) → ks.length + ms.length ≤ cap → o.length + ms.length ≤ cap →
    ∃ x', forL (nameG 3) l1_numbered (ms.map e) [a, some (.dn (kvs f ks)), some (.lst o), x] = .next [a, some (.dn (kvs f (uniqs ks ms))), some (.lst (o ++ (numFrom ks ms).map iD)), x']
  | [], ks, o, a, x, _, _, _ => ⟨x, by simp [forL, uniqs, numFrom]⟩
  | m :: ms, ks, o, a, x, hm, h1, h2 => by
    have hs := numbered_step inj (hm m (by simp)) (ks := ks) (o := o) (a := a) (x := x) (by simp at h1; omega) (by simp at h2; omega)
    have := add1_len ks m
    obtain ⟨x', e1⟩ := numbered_loop inj ms (add1 ks m) (o ++ [iD ((add1 ks m).idxOf m)]) a (some (.dat (e m))) (fun y hy => hm y (by simp [hy])) (by simp at h1; omega) (by simp at h2 ⊢; omega)
    refine ⟨x', ?_⟩
    have st : nameG 3 (e m) [a, some (.dn (kvs f ks)), some (.lst o), x] = some [a, some (.dn (kvs f ks)), some (.lst o), some (.dat (e m))] := rfl
    simp only [List.map_cons, forL, st, hs, e1, numFrom, List.append_assoc, List.singleton_append]
    rfl
theorem den_numbered {α : Type} [DecidableEq α] {e : α → D} {f : α → NestedKey} (inj : ∀ a b, f a = f b → a = b) (ms : List α) (hm : ∀ m ∈ ms, toTK (e m) = some (f m)) (h : ms.length ≤ cap) :
    d_numbered [.dat (.lst (ms.map e))] = some (.lst ((number ms).map iD), [none]) := by
  obtain ⟨x', e1⟩ := numbered_loop inj ms [] [] (some (.dat (.lst (ms.map e)))) none hm (by simpa using h) (by simpa using h)
  have e0 : kvs f ([] : List α) = [] := rfl
  rw [e0, number_from] at e1
  simp [d_numbered, runDef, body_numbered, seqF, setF, newN, lstF, nilA, Res.bd, forF, seqI, nameF, seqD, e1, retF, moveF, outsOf]
end K15

set_option maxHeartbeats 4000000
namespace K15
open PySem L2 B Gr
/-- a comprehension whose turns keep P -/
theorem lcL_inv {vs : List Nat} {t : Tg} {fe : Ef} {P : G → Prop} {F : D → D} : ∀ (ds acc : List D) (g : G), (∀ d ∈ ds, ∀ g, P g → ∃ g1 l g3, t d g = some g1 ∧ fe g1 = .ok l g3 ∧ l.view = F d ∧ P (wipeG g3 vs)) → P g → acc.length + ds.length ≤ cap →
    ∃ g', P g' ∧ lcL vs t yesT fe ds acc g = .ok (acc ++ ds.map F) g'
  | [], acc, g, _, hp, _ => ⟨g, hp, by simp [lcL]⟩
  | d :: ds, acc, g, h, hp, hl => by
    obtain ⟨g1, l, g3, e1, e2, e3, e4⟩ := h d (by simp) g hp
    obtain ⟨g', p', e'⟩ := lcL_inv ds (acc ++ [l.view]) (wipeG g3 vs) (fun x hx => h x (by simp [hx])) e4 (by simp at hl ⊢; omega)
    refine ⟨g', p', ?_⟩
    have hc : acc.length < cap := by simp at hl; omega
    rw [e3] at e'
    simp only [lcL, e1, yesT, if_true, e2, if_pos hc, e3, e', List.append_assoc, List.map_cons, List.singleton_append]
theorem atI_iD {ds : List D} {i : Nat} {d : D} (h : ds[i]? = some d) : atI ds (i : Int) = some d := atI_nat h
theorem atI_map {α : Type} {f : α → D} {l : List α} {i : Nat} {x : α} (h : l[i]? = some x) : atI (l.map f) (i : Int) = some (f x) := atI_nat (by rw [List.getElem?_map, h]; rfl)
theorem toNKs_map {α : Type} {f : α → D} {k : α → NestedKey} : ∀ (l : List α), (∀ x ∈ l, toNK (f x) = some (k x)) → toNKs (l.map f) = some (l.map k)
  | [], _ => rfl
  | x :: l, h => by
    rw [List.map_cons, toNKs, h x (by simp), toNKs_map l fun y hy => h y (by simp [hy])]
    rfl
/-! ### marks -/
abbrev eH (w : Wd) : D := .tup [.str (ws w)]
abbrev kH (w : Wd) : NestedKey := .tup [.text (ws w)]
theorem ws_inj {a b : Wd} (h : ws a = ws b) : a = b := by
  revert h
  cases a <;> cases b <;> first | (intro _; rfl) | (intro h; exact absurd h (by decide +kernel))
theorem kH_inj (a b : Wd) (h : kH a = kH b) : a = b := by
  injection h with h
  injection h with h _
  injection h with h
  exact ws_inj h
theorem tkH (w : Wd) : toTK (eH w) = some (kH w) := by cases w <;> rfl
abbrev eM (m : Nat × List Nat) : D := .tup [iD m.1, .tup (m.2.map iD)]
abbrev kM (m : Nat × List Nat) : NestedKey := .tup [.num (m.1 : Int), .tup (m.2.map fun (l : Nat) => .num (l : Int))]
theorem map_num_inj : ∀ {a b : List Nat}, a.map (fun (l : Nat) => NestedKey.num (l : Int)) = b.map (fun (l : Nat) => NestedKey.num (l : Int)) → a = b
  | [], [], _ => rfl
  | [], _ :: _, h => by cases h
  | _ :: _, [], h => by cases h
  | x :: a, y :: b, h => by
    rw [List.map_cons, List.map_cons] at h
    injection h with h1 h2
    injection h1 with h1
    rw [map_num_inj h2, Int.ofNat.inj h1]
theorem kM_inj (a b : Nat × List Nat) (h : kM a = kM b) : a = b := by
  obtain ⟨a1, a2⟩ := a
  obtain ⟨b1, b2⟩ := b
  injection h with h
  injection h with h1 h2
  injection h1 with h1
  injection h2 with h2 _
  injection h2 with h2
  have e1 : a1 = b1 := Int.ofNat.inj h1
  have e2 : a2 = b2 := map_num_inj h2
  rw [e1, e2]
theorem depth_nums : ∀ l : List Nat, NestedKey.depthAll (l.map fun (l : Nat) => .num (l : Int)) ≤ 1
  | [] => by decide
  | x :: l => by
    have := depth_nums l
    rw [List.map_cons]
    simp only [NestedKey.depthAll, NestedKey.depth]
    omega
theorem tkM (m : Nat × List Nat) : toTK (eM m) = some (kM m) := by
  have h : toNKs (m.2.map iD) = some (m.2.map fun (l : Nat) => .num (l : Int)) := toNKs_map m.2 fun x _ => rfl
  have e : toNK (eM m) = some (kM m) := by
    show (toNKs [iD m.1, .tup (m.2.map iD)]).map NestedKey.tup = _
    simp [toNKs, toNK, h]
  have d : (kM m).depth ≤ 8 := by
    have := depth_nums m.2
    simp only [NestedKey.depth, NestedKey.depthAll]
    omega
  unfold toTK
  simp only [e, Option.bind_some, if_pos d]
end K15

set_option maxHeartbeats 4000000
namespace K15
open PySem L2 B Gr
abbrev nats (l : List Nat) : D := .lst (l.map iD)
/-! ### mark_of -/
theorem den_mark_of {g ls : List Nat} {a x : Nat} (ha : g[a]? = some x) (hl : ∀ l ∈ ls, l < g.length) (hc : ls.length ≤ cap) :
    d_mark_of [.dat (nats g), .dat (iD a), .dat (nats ls)] = some (.dat (eM (x, ls.map fun l => g.getD l 0)), [none, none, none]) := by
  have hx : atI (g.map iD) (a : Int) = some (iD x) := atI_map ha
  obtain ⟨g', p', e'⟩ := lcL_inv (vs := [3]) (t := nameG 3) (fe := e1_mark_of) (P := fun s => s = [some (.dat (nats g)), some (.dat (iD a)), some (.dat (nats ls)), none]) (F := fun d => match d with | .int i => (atI (g.map iD) i).getD .non | _ => .non)
    (ls.map iD) [] _ (fun d hd s hs => by
      obtain ⟨l, h1, rfl⟩ := List.mem_map.mp hd
      subst hs
      obtain ⟨y, hy⟩ := some_of (hl l h1)
      have hy' : atI (g.map iD) (l : Int) = some (iD y) := atI_map hy
      refine ⟨_, .dat (iD y), [some (.dat (nats g)), some (.dat (iD a)), some (.dat (nats ls)), some (.dat (iD l))], rfl, ?_, by simp [hy'], ?_⟩
      · simp [e1_mark_of, ifE, testF, binF, slotB, frzB, constF, Res.bd, resolve, isD, nonB, ixD, hy']
      · rfl) rfl (by simpa using hc)
  subst p'
  have e2 : (ls.map iD).map (fun d => match d with | .int i => (atI (g.map iD) i).getD .non | _ => .non) = (ls.map fun l => g.getD l 0).map iD := by
    rw [List.map_map, List.map_map]
    refine List.map_congr_left fun l hl' => ?_
    obtain ⟨y, hy⟩ := some_of (hl l hl')
    have hy' : atI (g.map iD) (l : Int) = some (iD y) := atI_map hy
    show (atI (g.map iD) (l : Int)).getD .non = _
    rw [hy']
    show iD y = iD (g.getD l 0)
    rw [getD_of hy]
  rw [e2, List.nil_append] at e'
  have e3 : wipeG [some (L.dat (nats g)), some (.dat (iD a)), some (.dat (nats ls)), none] [3] = [some (L.dat (nats g)), some (.dat (iD a)), some (.dat (nats ls)), none] := rfl
  have hc2 : (2 : Nat) ≤ cap := by decide
  simp [d_mark_of, runDef, body_mark_of, retF, tupF, consA, binF, slotB, Res.bd, resolve, ixD, hx, callBF, consP, frzB, lcF, seqI, nameF, seqD, datOnly, e3, e', nilP, resolves, tupleD, nilA, hc2, outsOf, backG]
/-! ### len(set(..)) -/
theorem step_add1 (ks : List Int) (k : Int) : PyProof.Rows.step_dedup ks k = add1 ks k := by
  unfold PyProof.Rows.step_dedup add1
  by_cases h : k ∈ ks
  · rw [if_pos h, if_pos (by simpa using h)]
  · rw [if_neg h, if_neg (by simpa using h)]
theorem uniqI_eq (ns : List Int) : uniqI ns = uniq ns := by
  unfold uniqI uniq uniqs
  congr 1
  funext ks k
  exact step_add1 ks k
theorem asInts_nat : ∀ l : List Nat, asInts (l.map iD) = some (l.map fun (n : Nat) => (n : Int))
  | [] => rfl
  | x :: l => by
    show (asInts (l.map iD)).map _ = _
    rw [asInts_nat l]; rfl
theorem lenSet_nats {g : List Nat} (h : g.length ≤ 4000) : lenSetD (nats g) = some (.dat (iD (uniq g).length)) := by
  have e := uniqs_map (fun (n : Nat) => (n : Int)) (ms := g) (ks := []) fun a _ b _ h => Int.ofNat.inj h
  rw [List.map_nil] at e
  have e2 := asInts_nat g
  have e3 : ((g.map fun (n : Nat) => (n : Int)).length ≤ 4000) := by rw [List.length_map]; exact h
  have e4 : (uniqI (g.map fun (n : Nat) => (n : Int))).length = (uniq g).length := by
    rw [uniqI_eq]
    unfold uniq
    rw [e, List.length_map]
  simp only [lenSetD, e2, if_pos e3, e4]
/-! ### grouped -/
abbrev headsD (A : Graph) : D := .lst (A.map fun k => eH k.w)
abbrev linksD (A : Graph) : D := .lst (A.map fun k => nats k.ls)
theorem mapIdx_marks (A : Graph) : ((A.map fun k => nats k.ls).mapIdx fun (i : Nat) (d : D) => D.tup [.int i, d]) = (List.range A.length).map fun a => D.tup [iD a, nats (A.getD a default).ls] := by
  refine List.ext_getElem? fun i => ?_
  rw [List.getElem?_mapIdx, List.getElem?_map, List.getElem?_map]
  by_cases h : i < A.length
  · obtain ⟨k, hk⟩ := some_of h
    rw [hk, List.getElem?_range h]
    simp [hk, List.getD_eq_getElem?_getD]
  · rw [List.getElem?_eq_none (by omega), List.getElem?_eq_none (by simp; omega)]; rfl
theorem grouped_comp {A : Graph} (hA : Wf A) {g : List Nat} (hg : g.length = A.length) (hn : A.length ≤ 4000) {a b : Option L} {Lg : L} (hL : Lg.view = nats g) {c : Option L} :
    ∃ Lg' : L, Lg'.view = nats g ∧ lcL [4, 5] (tupG (consG (nameG 4) (consG (nameG 5) nilG))) yesT e1_grouped ((List.range A.length).map fun a => D.tup [iD a, nats (A.getD a default).ls]) [] [a, b, some Lg, c, none, none] = .ok ((marks A g).map eM) [a, b, some Lg', c, none, none] := by
  obtain ⟨g', ⟨Lg', hL', p'⟩, e'⟩ := lcL_inv (vs := [4, 5]) (t := tupG (consG (nameG 4) (consG (nameG 5) nilG))) (fe := e1_grouped) (P := fun s => ∃ Lg' : L, Lg'.view = nats g ∧ s = [a, b, some Lg', c, none, none])
    (F := fun d => match d with | .tup [.int i, .lst _] => eM (g.getD i.toNat 0, (A.getD i.toNat default).ls.map fun l => g.getD l 0) | _ => .non)
    ((List.range A.length).map fun a => D.tup [iD a, nats (A.getD a default).ls]) [] _ (fun d hd s hs => by
      obtain ⟨i, h1, rfl⟩ := List.mem_map.mp hd
      obtain ⟨L1, hL1, rfl⟩ := hs
      have hi := List.mem_range.mp h1
      obtain ⟨k, hk⟩ := some_of hi
      obtain ⟨x, hx⟩ := some_of (l := g) (i := i) (by rw [hg]; exact hi)
      have hkk := hA.get hk
      have hlen : k.ls.length ≤ cap := by
        rw [hkk.1]; cases k.w <;> decide
      have em := den_mark_of (g := g) (ls := k.ls) hx (fun l hl => by rw [hg]; exact hkk.2 l hl) hlen
      rw [getD_of hk]
      refine ⟨_, .dat (eM (x, k.ls.map fun l => g.getD l 0)), [a, b, some (.dat (nats g)), c, some (.dat (iD i)), some (.dat (nats k.ls))], rfl, ?_, by simp [hk, hx, List.getD_eq_getElem?_getD], L.dat (nats g), rfl, rfl⟩
      · simp [e1_grouped, callF, consP, frzB, nameF, Res.bd, nilP, argsL, hL1, em, putG, idxR]) ⟨Lg, hL, rfl⟩ (by
      have h4 : (4000 : Nat) ≤ cap := by decide
      simp only [List.length_nil, List.length_map, List.length_range]
      omega)
  refine ⟨Lg', hL', ?_⟩
  subst p'
  rw [e', List.nil_append]
  congr 1
  unfold marks
  rw [List.map_map, List.map_map]
  refine List.map_congr_left fun i hi => ?_
  simp
end K15

set_option maxHeartbeats 4000000
namespace K15
open PySem L2 B Gr
theorem lenSetL {L0 : L} {g : List Nat} (hL : L0.view = nats g) (h : g.length ≤ 4000) : lenSetD L0.view = some (.dat (iD (uniq g).length)) := by rw [hL, lenSet_nats h]
theorem grouped_test {A : Graph} {a b : Option L} {Lg : L} {g : List Nat} {c : Nat} (hL : Lg.view = nats g) (h : g.length ≤ 4000) :
    t1_grouped [a, b, some Lg, some (.dat (iD c)), none, none] = .ok (decide (c < (uniq g).length)) [a, b, some Lg, some (.dat (iD c)), none, none] := by
  have e := lenSetL hL h
  simp [t1_grouped, testF, binF, frzB, unF, slotB, Res.bd, resolve, e, gtD, intsD]
theorem grouped_body {A : Graph} (hA : Wf A) (hn : A.length ≤ 4000) {a : Option L} {Lg : L} {g : List Nat} {c : Nat} (hL : Lg.view = nats g) (hg : g.length = A.length) :
    l1_grouped [a, some (.dat (linksD A)), some Lg, some (.dat (iD c)), none, none] = .next [a, some (.dat (linksD A)), some (.lst ((refine1 A g).map iD)), some (.dat (iD (uniq g).length)), none, none] := by
  have e := lenSetL hL (by omega)
  obtain ⟨Lg', hL', e2⟩ := grouped_comp hA hg hn (a := a) (b := some (.dat (linksD A))) hL (c := some (.dat (iD (uniq g).length)))
  have e3 := den_numbered (e := eM) (f := kM) kM_inj (marks A g) (fun m _ => tkM m) (by have h4 : (4000 : Nat) ≤ cap := by decide
                                                                                        rw [marks_len]; omega)
  have e4 := mapIdx_marks A
  have e5 : wipeG [a, some (L.dat (linksD A)), some Lg, some (.dat (iD (uniq g).length)), none, none] [4, 5] = [a, some (L.dat (linksD A)), some Lg, some (.dat (iD (uniq g).length)), none, none] := rfl
  simp [-List.getD_eq_getElem?_getD, l1_grouped, seqF, setF, unF, slotB, Res.bd, resolve, e, callF, consP, frzB, lcF, enumI, nameF, e4, datOnly, e5, e2, nilP, argsL, e3, putG, idxR, backG]
  rfl
theorem grouped_loop {A : Graph} (hA : Wf A) (hn : A.length ≤ 4000) (a : Option L) : ∀ (f i c n : Nat) (Lg : L), c ≤ cnt A i → (i = 0 → c = 0) → (∀ j, i = j + 1 → c = cnt A j) → A.length < f + c → f < n → Lg.view = nats (gs A i) →
    ∃ (Lg' : L) (c' : Nat), whileF t1_grouped l1_grouped n [a, some (.dat (linksD A)), some Lg, some (.dat (iD c)), none, none] = .next [a, some (.dat (linksD A)), some Lg', some (.dat (iD c')), none, none] ∧ Lg'.view = nats (stabF A f i c)
  | 0, i, c, n, Lg, h1, h2, h3, hf, hfn, hL => by have := cnt_le (A := A) i; omega
  | f + 1, i, c, 0, Lg, h1, h2, h3, hf, hfn, hL => by omega
  | f + 1, i, c, n + 1, Lg, h1, h2, h3, hf, hfn, hL => by
    have hl : (gs A i).length ≤ 4000 := by rw [gs_len]; exact hn
    have ht := grouped_test (A := A) (a := a) (b := some (.dat (linksD A))) (c := c) hL hl
    have hb := grouped_body hA hn (a := a) (c := c) hL (gs_len i)
    have hc : (uniq (gs A i)).length = cnt A i := rfl
    rw [hc] at ht hb
    unfold whileF stabF
    by_cases e : cnt A i = c
    · rw [if_pos e]
      refine ⟨Lg, c, ?_, hL⟩
      simp only [ht, e, Nat.lt_irrefl, decide_false, Bool.false_eq_true, if_false]
    · rw [if_neg e]
      have hlt : c < cnt A i := by omega
      obtain ⟨Lg', c', e1, e2⟩ := grouped_loop hA hn a f (i + 1) (cnt A i) n (.lst ((refine1 A (gs A i)).map iD)) (cnt_mono i) (fun z => by omega) (fun j hj => by cases hj; rfl) (by omega) (by omega) rfl
      refine ⟨Lg', c', ?_, e2⟩
      simp only [ht, hlt, decide_true, if_true, hb, e1]
theorem den_grouped {A : Graph} (hA : Wf A) (hn : A.length ≤ 4000) : ∃ Lg : L, d_grouped [.dat (headsD A), .dat (linksD A)] = some (Lg, [none, none]) ∧ Lg.view = nats (stab A) := by
  have h4 : (4000 : Nat) ≤ cap := by decide
  have e0 := den_numbered (e := eH) (f := kH) kH_inj (A.map (·.w)) (fun m _ => tkH m) (by rw [List.length_map]; omega)
  rw [List.map_map] at e0
  obtain ⟨Lg', c', e1, e2⟩ := grouped_loop hA hn (some (.dat (headsD A))) (A.length + 1) 0 0 fuel (.lst ((g0 A).map iD)) (Nat.zero_le _) (fun _ => rfl) (fun j hj => by omega) (by omega) (by unfold fuel; omega) rfl
  refine ⟨Lg', ?_, e2⟩
  have e0' : d_numbered [.dat (headsD A)] = some (.lst ((g0 A).map iD), [none]) := e0
  have e1' : whileF t1_grouped l1_grouped fuel [some (.dat (headsD A)), some (.dat (linksD A)), some (.lst ((g0 A).map iD)), some (.dat (.int 0)), none, none] = .next [some (.dat (headsD A)), some (.dat (linksD A)), some Lg', some (.dat (iD c')), none, none] := e1
  simp [d_grouped, runDef, body_grouped, seqF, setF, callF, consP, frzB, nameF, Res.bd, nilP, argsL, e0', putG, idxR, constF, e1', retF, moveF, outsOf]
end K15

set_option maxHeartbeats 4000000
namespace K15
open PySem L2 B Gr
theorem look_put {κ α : Type} [DecidableEq κ] (k k' : κ) (v : α) : ∀ kvs : List (κ × α), look (put kvs k v) k' = if k' = k then some v else look kvs k' := by
  have look_map : ∀ kvs : List (κ × α), look (kvs.map fun kv => if kv.1 = k then (kv.1, v) else kv) k' = if k' = k then (look kvs k').map (fun _ => v) else look kvs k' := by
    intro kvs
    induction kvs with
    | nil => unfold look; simp
    | cons p kvs ih =>
      unfold look at ih ⊢
      rw [List.map_cons, List.find?_cons, List.find?_cons]
      by_cases h : p.1 = k
      · rw [if_pos h]
        by_cases h2 : k' = k
        · subst h2
          simp [h]
        · have h3 : ¬ p.1 = k' := fun e => h2 (e.symm.trans h)
          simp only [h3, decide_false, ih]
      · rw [if_neg h]
        by_cases h2 : p.1 = k'
        · have h3 : ¬ k' = k := fun e => h (h2.trans e)
          simp [h2, h3]
        · simp only [h2, decide_false, ih]
  intro kvs
  unfold put
  by_cases h : (kvs.any fun kv => decide (kv.1 = k)) = true
  · rw [if_pos h, look_map]
    rw [any_look] at h
    by_cases h2 : k' = k
    · subst h2
      rw [if_pos rfl, if_pos rfl]
      cases q : look kvs k' with
      | none => rw [q] at h; cases h
      | some x => rfl
    · rw [if_neg h2, if_neg h2]
  · rw [if_neg h]
    have h' : look kvs k = none := by
      rw [any_look] at h
      cases q : look kvs k with
      | none => rfl
      | some x => rw [q] at h; exact absurd rfl h
    by_cases h2 : k' = k
    · subst h2
      rw [if_pos rfl]
      unfold look at h' ⊢
      rw [List.find?_append]
      cases q : kvs.find? fun kv => decide (kv.1 = k') with
      | some p => rw [q] at h'; cases h'
      | none => simp
    · rw [if_neg h2]
      unfold look
      rw [List.find?_append]
      have h3 : ¬ k = k' := fun e => h2 e.symm
      cases q : kvs.find? fun kv => decide (kv.1 = k') with
      | some p => rfl
      | none => simp [h3]
/-! ### first_members -/
def en : Nat → List D → List D
  | _, [] => []
  | n, d :: ds => .tup [iD n, d] :: en (n + 1) ds
theorem en_off : ∀ (ds : List D) (n : Nat), en n ds = ds.mapIdx fun i d => .tup [.int ((n + i : Nat) : Int), d]
  | [], _ => by simp [en]
  | d :: ds, n => by
    rw [List.mapIdx_cons]
    show D.tup [iD n, d] :: en (n + 1) ds = _
    rw [en_off ds (n + 1)]
    congr 1
    congr 1
    funext i d
    rw [show n + 1 + i = n + (i + 1) by omega]
theorem en_mapIdx (ds : List D) : (ds.mapIdx fun (i : Nat) (d : D) => D.tup [.int (i : Int), d]) = en 0 ds := by
  rw [en_off]
  congr 1
  funext i d
  rw [Nat.zero_add]
abbrev kI (n : Nat) : L2.Key := .inl (n : Int)
theorem kI_inj (a b : Nat) (h : kI a = kI b) : a = b := Int.ofNat.inj (Sum.inl.inj h)
theorem members_loop : ∀ (l p : List Nat) (kv : List (L2.Key × D)) (a x y : Option L), (∀ c, look kv (kI c) = if c ∈ p then some (iD (p.idxOf c)) else none) → kv.length ≤ p.length → p.length + l.length ≤ cap →
    ∃ (kv' : List (L2.Key × D)) (x' y' : Option L), forL (tupG (consG (nameG 2) (consG (nameG 3) nilG))) l1_first_members (en p.length (l.map iD)) [a, some (.dk kv), x, y] = .next [a, some (.dk kv'), x', y'] ∧ ∀ c, look kv' (kI c) = if c ∈ p ++ l then some (iD ((p ++ l).idxOf c)) else none
  | [], p, kv, a, x, y, h, _, _ => ⟨kv, x, y, rfl, by rw [List.append_nil]; exact h⟩
  | c :: l, p, kv, a, x, y, h, hl, hc => by
    have hcap : kv.length < cap := by simp at hc; omega
    have hk : toKey (iD c) = some (kI c) := rfl
    have e3 : (p ++ [c]) ++ l = p ++ c :: l := by simp
    have hl3 : (p ++ [c]).length = p.length + 1 := by simp
    by_cases hm : c ∈ p
    · have e1 : look kv (kI c) = some (iD (p.idxOf c)) := by rw [h c, if_pos hm]
      obtain ⟨kv', x', y', e4, e5⟩ := members_loop l (p ++ [c]) kv a (some (.dat (iD p.length))) (some (.dat (iD c))) (fun d => by
        rw [h d]
        by_cases hd : d ∈ p
        · rw [if_pos hd, if_pos (by simp [hd]), List.idxOf_append, if_pos hd]
        · have : ¬ d ∈ p ++ [c] := by
            simp only [List.mem_append, List.mem_singleton, not_or]
            exact ⟨hd, fun e => hd (e ▸ hm)⟩
          rw [if_neg hd, if_neg this]) (by rw [hl3]; omega) (by rw [hl3]; simp at hc; omega)
      refine ⟨kv', x', y', ?_, by rw [← e3]; exact e5⟩
      have e1' : look kv (Sum.inl (c : Int)) = some (iD (p.idxOf c)) := e1
      rw [hl3] at e4
      have st : l1_first_members [a, some (.dk kv), some (.dat (iD p.length)), some (.dat (iD c))] = .next [a, some (.dk kv), some (.dat (iD p.length)), some (.dat (iD c))] := by
        simp [l1_first_members, ifF, testF, binF, slotB, Res.bd, resolve, notinD, inB, toKey, e1', skipF]
      have tg : tupG (consG (nameG 2) (consG (nameG 3) nilG)) (.tup [iD p.length, iD c]) [a, some (.dk kv), x, y] = some [a, some (.dk kv), some (.dat (iD p.length)), some (.dat (iD c))] := rfl
      show forL _ _ (D.tup [iD p.length, iD c] :: en (p.length + 1) (l.map iD)) _ = _
      simp only [forL, tg, st]
      exact e4
    · have e1 : look kv (kI c) = none := by rw [h c, if_neg hm]
      obtain ⟨kv', x', y', e4, e5⟩ := members_loop l (p ++ [c]) (put kv (kI c) (iD p.length)) a (some (.dat (iD p.length))) (some (.dat (iD c))) (fun d => by
        rw [look_put, h d]
        by_cases hd : kI d = kI c
        · have := kI_inj _ _ hd
          subst this
          rw [if_pos rfl, if_pos (by simp), List.idxOf_append, if_neg hm]
          simp
        · have hdc : ¬ d = c := fun e => hd (by rw [e])
          rw [if_neg hd]
          by_cases hd2 : d ∈ p
          · rw [if_pos hd2, if_pos (by simp [hd2]), List.idxOf_append, if_pos hd2]
          · rw [if_neg hd2, if_neg (by simp [hd2, hdc])]) (by have := put_length kv (kI c) (iD p.length); rw [hl3]; omega) (by rw [hl3]; simp at hc; omega)
      refine ⟨kv', x', y', ?_, by rw [← e3]; exact e5⟩
      have e1' : look kv (Sum.inl (c : Int)) = none := e1
      rw [hl3] at e4
      have st : l1_first_members [a, some (.dk kv), some (.dat (iD p.length)), some (.dat (iD c))] = .next [a, some (.dk (put kv (kI c) (iD p.length))), some (.dat (iD p.length)), some (.dat (iD c))] := by
        simp [l1_first_members, ifF, testF, binF, slotB, Res.bd, resolve, notinD, inB, toKey, e1', storeF, nameF, storeD, hcap]
      have tg : tupG (consG (nameG 2) (consG (nameG 3) nilG)) (.tup [iD p.length, iD c]) [a, some (.dk kv), x, y] = some [a, some (.dk kv), some (.dat (iD p.length)), some (.dat (iD c))] := rfl
      show forL _ _ (D.tup [iD p.length, iD c] :: en (p.length + 1) (l.map iD)) _ = _
      simp only [forL, tg, st]
      exact e4
theorem den_first_members {g : List Nat} (h : g.length ≤ cap) : ∃ kv : List (L2.Key × D), d_first_members [.dat (nats g)] = some (.dk kv, [none]) ∧ ∀ c, look kv (kI c) = if c ∈ g then some (iD (g.idxOf c)) else none := by
  obtain ⟨kv, x, y, e1, e2⟩ := members_loop g [] [] (some (.dat (nats g))) none none (fun c => rfl) (Nat.le_refl _) (by simpa using h)
  refine ⟨kv, ?_, e2⟩
  have e0 := en_mapIdx (g.map iD)
  have e1' : forL (tupG (consG (nameG 2) (consG (nameG 3) nilG))) l1_first_members (en 0 (g.map iD)) [some (.dat (nats g)), some (.dk []), none, none] = .next [some (.dat (nats g)), some (.dk kv), x, y] := e1
  simp [d_first_members, runDef, body_first_members, seqF, setF, newK, forF, enumI, nameF, Res.bd, e0, e1', retF, moveF, outsOf]
end K15

set_option maxHeartbeats 4000000
namespace K15
open PySem L2 B Gr
def Dt (x : Option L) : Prop := x = none ∨ ∃ d, x = some (.dat d)
theorem Dt.dat (d : D) : Dt (some (.dat d)) := .inr ⟨d, rfl⟩
def ls_ (a b c : Option L) (A : Graph) (kv : List (L2.Key × D)) (O : List Nat) (i : Nat) (x k m n p : Option L) : G :=
  [a, b, c, some (.dat (nats (stab A))), some (.dk kv), some (.lst (O.map iD)), some (.dk (kvs kI O)), some (.dat (iD i)), x, k, m, n, p]
theorem stab_get {A : Graph} {l : Nat} (h : l < A.length) : (stab A)[l]? = some (gr A l) := by
  obtain ⟨x, hx⟩ := some_of (l := stab A) (i := l) (by rw [stab_len]; exact h)
  unfold gr
  rw [hx, getD_of hx]
theorem inner_step {A : Graph} {a b c x k m n p : Option L} {kv : List (L2.Key × D)} {O : List Nat} {i l : Nat} (hl : l < A.length) (ho : O.length < cap) :
    l1_least (ls_ a b c A kv O i (some (.dat (iD l))) k m n p) = .next (ls_ a b c A kv (add1 O (gr A l)) i (some (.dat (iD l))) k m n p) := by
  have e1 : atI ((stab A).map iD) (l : Int) = some (iD (gr A l)) := atI_map (stab_get hl)
  have hkl := kvs_len kI O
  by_cases h : gr A l ∈ O
  · have e2 : look (kvs kI O) (Sum.inl ((gr A l : Nat) : Int)) = some (iD (O.idxOf (gr A l))) := by
      have := look_kvs kI_inj (gr A l) O
      rw [if_pos h] at this; exact this
    have e3 : add1 O (gr A l) = O := if_pos h
    rw [e3]
    simp [-List.getD_eq_getElem?_getD, ls_, l1_least, ifF, andT, testF, binF, slotB, frzB, constF, Res.bd, resolve, isnotD, nonB, ixD, e1, notinD, inB, toKey, e2, skipF]
  · have e2 : look (kvs kI O) (Sum.inl ((gr A l : Nat) : Int)) = none := by
      have := look_kvs kI_inj (gr A l) O
      rw [if_neg h] at this; exact this
    have e3 : add1 O (gr A l) = O ++ [gr A l] := if_neg h
    have e4 : put (kvs kI O) (Sum.inl ((gr A l : Nat) : Int)) (D.int (O.length : Int)) = kvs kI (O ++ [gr A l]) := put_new kI_inj h
    rw [e3]
    simp [-List.getD_eq_getElem?_getD, ls_, l1_least, ifF, andT, testF, binF, slotB, frzB, constF, Res.bd, resolve, isnotD, nonB, ixD, e1, notinD, inB, toKey, e2, seqF, storeF, callBF, consP, nilP, resolves, lenD, storeD, hkl, ho, e4, exprF, appF]
theorem inner_loop {A : Graph} {a b c k m n p : Option L} {kv : List (L2.Key × D)} {i : Nat} : ∀ (ls O : List Nat) (x : Option L), Dt x → (∀ l ∈ ls, l < A.length) → O.length + ls.length ≤ cap →
    ∃ x', Dt x' ∧ forL (nameG 8) l1_least (ls.map iD) (ls_ a b c A kv O i x k m n p) = .next (ls_ a b c A kv (uniqs O (ls.map (gr A))) i x' k m n p)
  | [], O, x, hx, _, _ => ⟨x, hx, rfl⟩
  | l :: ls, O, x, hx, h, hc => by
    have hl := add1_len O (gr A l)
    obtain ⟨x', hx', e⟩ := inner_loop (a := a) (b := b) (c := c) (k := k) (m := m) (n := n) (p := p) (kv := kv) (i := i) ls (add1 O (gr A l)) (some (.dat (iD l))) (.dat _) (fun y hy => h y (by simp [hy])) (by simp at hc; omega)
    refine ⟨x', hx', ?_⟩
    have tg : nameG 8 (iD l) (ls_ a b c A kv O i x k m n p) = some (ls_ a b c A kv O i (some (.dat (iD l))) k m n p) := rfl
    have st := inner_step (a := a) (b := b) (c := c) (k := k) (m := m) (n := n) (p := p) (kv := kv) (i := i) (x := x) (O := O) (h l (by simp)) (by simp at hc; omega)
    show forL _ _ (iD l :: ls.map iD) _ = _
    simp only [forL, tg, st]
    exact e
/-- what members and links give at a class -/
theorem outer_body {A : Graph} (hA : Wf A) {a c x k m n p : Option L} {kv : List (L2.Key × D)} (hkv : ∀ c, look kv (kI c) = if c ∈ stab A then some (iD ((stab A).idxOf c)) else none) {O : List Nat} {i : Nat} {d : Nat} (hO : Ord A O) (hi : O[i]? = some d) (hx : Dt x) (hn : A.length ≤ 4000) :
    ∃ x', Dt x' ∧ l2_least (ls_ a (some (.dat (linksD A))) c A kv O i x k m n p) = .next (ls_ a (some (.dat (linksD A))) c A kv (uniqs O (ss A d)) (i + 1) x' k m n p) := by
  have hd := hO.2 d (List.mem_of_getElem? hi)
  have h4 : (4000 : Nat) + 2 ≤ cap := by decide
  have hkn := hA.get (kn_get hd)
  have har : (kn A d).ls.length ≤ 2 := by rw [hkn.1]; cases (kn A d).w <;> decide
  obtain ⟨x', hx', e⟩ := inner_loop (a := a) (b := some (.dat (linksD A))) (c := c) (k := k) (m := m) (n := n) (p := p) (kv := kv) (i := i) (kn A d).ls O x hx hkn.2 (by have := hO.le; omega)
  refine ⟨x', hx', ?_⟩
  have e1 : atI (O.map iD) (i : Int) = some (iD d) := atI_map hi
  have e2 : look kv (Sum.inl (d : Int)) = some (iD (rep A d)) := by
    have := hkv d
    rw [if_pos hd] at this; exact this
  have e3 : atI (A.map fun k => nats k.ls) ((rep A d : Nat) : Int) = some (nats (kn A d).ls) := atI_map (f := fun k : Kn => nats k.ls) (kn_get hd)
  have e4 : forF (seqI (binF ixD (slotB 1) (frzB (binF ixD (slotB 4) (frzB (binF ixD (slotB 5) (slotB 7))))))) (nameG 8) l1_least (ls_ a (some (.dat (linksD A))) c A kv O i x k m n p) = .next (ls_ a (some (.dat (linksD A))) c A kv (uniqs O (ss A d)) i x' k m n p) := by
    have e5 : seqI (binF ixD (slotB 1) (frzB (binF ixD (slotB 4) (frzB (binF ixD (slotB 5) (slotB 7)))))) (ls_ a (some (.dat (linksD A))) c A kv O i x k m n p) = .ok ((kn A d).ls.map iD) (ls_ a (some (.dat (linksD A))) c A kv O i x k m n p) := by
      simp [ls_, seqI, binF, slotB, frzB, Res.bd, resolve, ixD, e1, toKey, e2, e3, seqD]
    simp only [forF, e5, e]
    rfl
  simp only [l2_least, seqF, e4]
  simp [ls_, augF, frzB, constF, Res.bd, resolve, intsD]
theorem outer_test {A : Graph} {a b c x k m n p : Option L} {kv : List (L2.Key × D)} {O : List Nat} {i : Nat} : t1_least (ls_ a b c A kv O i x k m n p) = .ok (decide (i < O.length)) (ls_ a b c A kv O i x k m n p) := by
  simp [ls_, t1_least, testF, binF, slotB, frzB, callBF, consP, nilP, Res.bd, resolves, resolve, lenD, ltD, intsD]
theorem outer_loop {A : Graph} (hA : Wf A) {a c k m n p : Option L} {kv : List (L2.Key × D)} (hkv : ∀ c, look kv (kI c) = if c ∈ stab A then some (iD ((stab A).idxOf c)) else none) (hn : A.length ≤ 4000) :
    ∀ (f i N : Nat) (O : List Nat) (x : Option L), Ord A O → A.length ≤ f + i → f < N → Dt x →
    ∃ (i' : Nat) (x' : Option L), Dt x' ∧ whileF t1_least l2_least N (ls_ a (some (.dat (linksD A))) c A kv O i x k m n p) = .next (ls_ a (some (.dat (linksD A))) c A kv (bfsF (ss A) f i O) i' x' k m n p)
  | f, i, 0, O, x, hO, hf, hN, hx => by omega
  | 0, i, N + 1, O, x, hO, hf, hN, hx => by
    have := hO.le
    refine ⟨i, x, hx, ?_⟩
    unfold whileF bfsF
    simp only [outer_test, show ¬ i < O.length by omega, decide_false, Bool.false_eq_true, if_false]
  | f + 1, i, N + 1, O, x, hO, hf, hN, hx => by
    unfold whileF
    rw [bfsF_succ]
    by_cases hi : i < O.length
    · obtain ⟨d, hd⟩ := some_of hi
      obtain ⟨x1, hx1, e1⟩ := outer_body hA (a := a) (c := c) (k := k) (m := m) (n := n) (p := p) hkv hO hd hx hn
      have hs := hO.step hA hi
      rw [getD_of hd] at hs
      obtain ⟨i', x', hx', e2⟩ := outer_loop hA (a := a) (c := c) (k := k) (m := m) (n := n) (p := p) hkv hn f (i + 1) N (uniqs O (ss A d)) x1 hs (by omega) (by omega) hx1
      refine ⟨i', x', hx', ?_⟩
      rw [if_pos hi, getD_of hd]
      simp only [outer_test, hi, decide_true, if_true, e1, e2]
    · refine ⟨i, x, hx, ?_⟩
      rw [if_neg hi]
      simp only [outer_test, hi, decide_false, Bool.false_eq_true, if_false]
end K15

set_option maxHeartbeats 4000000
namespace K15
open PySem L2 B Gr
abbrev tupG_ (A : Graph) : D := .tup (A.map encK)
/-- the state of the third loop: the order is data -/
def l3_ (c : Option L) (A : Graph) (kv : List (L2.Key × D)) (O : List Nat) (i : Nat) (x : Option L) (ks : List D) (m n p : Option L) : G :=
  [some (.dat (headsD A)), some (.dat (linksD A)), c, some (.dat (nats (stab A))), some (.dk kv), some (.dat (nats O)), some (.dk (kvs kI O)), some (.dat (iD i)), x, some (.lst ks), m, n, p]
def knOf (A : Graph) (O : List Nat) (d : Nat) : Kn := ⟨sw A d, (ss A d).map fun e => O.idxOf e⟩
theorem third_step {A : Graph} (hA : Wf A) {c x n p : Option L} {kv : List (L2.Key × D)} (hkv : ∀ c, look kv (kI c) = if c ∈ stab A then some (iD ((stab A).idxOf c)) else none) {O : List Nat} {i d : Nat} {ks : List D}
    (hd : d ∈ stab A) (hcl : ∀ e ∈ ss A d, e ∈ O) (hx : Dt x) (hk : ks.length < cap) :
    ∃ n' p', l3_least (l3_ c A kv O i x ks (some (.dat (iD d))) n p) = .next (l3_ c A kv O i x (ks ++ [encK (knOf A O d)]) (some (.dat (iD d))) n' p') := by
  have hkn := hA.get (kn_get hd)
  have har : (kn A d).ls.length ≤ 2 := by rw [hkn.1]; cases (kn A d).w <;> decide
  have h2 : (2 : Nat) < cap := by decide
  have e2 : look kv (Sum.inl (d : Int)) = some (iD (rep A d)) := by
    have := hkv d
    rw [if_pos hd] at this; exact this
  have e3 : atI (A.map fun k => nats k.ls) ((rep A d : Nat) : Int) = some (nats (kn A d).ls) := atI_map (f := fun k : Kn => nats k.ls) (kn_get hd)
  have e4 : atI (A.map fun k => eH k.w) ((rep A d : Nat) : Int) = some (eH (sw A d)) := atI_map (f := fun k : Kn => eH k.w) (kn_get hd)
  obtain ⟨g', p', e'⟩ := lcL_inv (vs := [8]) (t := nameG 8) (fe := e1_least) (P := fun s => s = l3_ c A kv O i none ks (some (.dat (iD d))) (some (.dat (iD (rep A d)))) p) (F := fun e => match e with | .int l => iD (O.idxOf (gr A l.toNat)) | _ => .non)
    ((kn A d).ls.map iD) [] _ (fun e he s hs => by
      obtain ⟨l, h1, rfl⟩ := List.mem_map.mp he
      subst hs
      have e5 : atI ((stab A).map iD) (l : Int) = some (iD (gr A l)) := atI_map (stab_get (hkn.2 l h1))
      have e6 : look (kvs kI O) (Sum.inl ((gr A l : Nat) : Int)) = some (iD (O.idxOf (gr A l))) := by
        have := look_kvs kI_inj (gr A l) O
        rw [if_pos (hcl _ (List.mem_map.mpr ⟨l, h1, rfl⟩))] at this; exact this
      refine ⟨_, .dat (iD (O.idxOf (gr A l))), l3_ c A kv O i (some (.dat (iD l))) ks (some (.dat (iD d))) (some (.dat (iD (rep A d)))) p, rfl, ?_, by simp, rfl⟩
      simp [-List.getD_eq_getElem?_getD, l3_, nameG, e1_least, ifE, testF, binF, slotB, frzB, constF, Res.bd, resolve, isD, nonB, ixD, e5, toKey, e6]) rfl (by simp; omega)
  subst p'
  have e7 : ((kn A d).ls.map iD).map (fun e => match e with | .int l => iD (O.idxOf (gr A l.toNat)) | _ => .non) = ((ss A d).map fun e => O.idxOf e).map iD := by
    unfold ss
    rw [List.map_map, List.map_map, List.map_map]
    refine List.map_congr_left fun l _ => ?_
    simp
  rw [e7, List.nil_append] at e'
  have e8 : [8].all (datOnly (l3_ c A kv O i x ks (some (.dat (iD d))) (some (.dat (iD (rep A d)))) p)) = true := by
    rcases hx with rfl | ⟨y, rfl⟩ <;> rfl
  have e9 : wipeG (l3_ c A kv O i x ks (some (.dat (iD d))) (some (.dat (iD (rep A d)))) p) [8] = l3_ c A kv O i none ks (some (.dat (iD d))) (some (.dat (iD (rep A d)))) p := rfl
  have e10 : backG (l3_ c A kv O i x ks (some (.dat (iD d))) (some (.dat (iD (rep A d)))) p) [8] (l3_ c A kv O i none ks (some (.dat (iD d))) (some (.dat (iD (rep A d)))) p) = l3_ c A kv O i x ks (some (.dat (iD d))) (some (.dat (iD (rep A d)))) p := by
    rcases hx with rfl | ⟨y, rfl⟩ <;> rfl
  have s1 : setF 11 (binF ixD (slotB 4) (slotB 10)) (l3_ c A kv O i x ks (some (.dat (iD d))) n p) = .next (l3_ c A kv O i x ks (some (.dat (iD d))) (some (.dat (iD (rep A d)))) p) := by
    simp [l3_, setF, binF, slotB, Res.bd, resolve, ixD, toKey, e2]
  have s2 : seqI (binF ixD (slotB 1) (slotB 11)) (l3_ c A kv O i x ks (some (.dat (iD d))) (some (.dat (iD (rep A d)))) p) = .ok ((kn A d).ls.map iD) (l3_ c A kv O i x ks (some (.dat (iD d))) (some (.dat (iD (rep A d)))) p) := by
    simp [l3_, seqI, binF, slotB, Res.bd, resolve, ixD, e3, seqD]
  have s3 : setF 12 (lcF [8] (seqI (binF ixD (slotB 1) (slotB 11))) (nameG 8) yesT e1_least) (l3_ c A kv O i x ks (some (.dat (iD d))) (some (.dat (iD (rep A d)))) p) = .next (l3_ c A kv O i x ks (some (.dat (iD d))) (some (.dat (iD (rep A d)))) (some (.lst (((ss A d).map fun e => O.idxOf e).map iD)))) := by
    simp only [setF, lcF, s2, e8, if_true, e9, e', e10]
    rfl
  refine ⟨some (.dat (iD (rep A d))), some (.lst (((ss A d).map fun e => O.idxOf e).map iD)), ?_⟩
  simp only [l3_least, seqF, s1, s3]
  have hss : (ss A d).length ≤ 2 := by unfold ss; rw [List.length_map]; exact har
  have h3 : (ss A d).length + 1 ≤ cap := by omega
  simp [l3_, exprF, appF, tupF, starA, frzB, binF, slotB, Res.bd, resolve, ixD, e4, itemsOf, nilA, hk, h3, encK, knOf]
theorem third_loop {A : Graph} (hA : Wf A) {c : Option L} {kv : List (L2.Key × D)} (hkv : ∀ c, look kv (kI c) = if c ∈ stab A then some (iD ((stab A).idxOf c)) else none) {O : List Nat} {i : Nat} {x : Option L} (hx : Dt x) (hcl : ∀ d ∈ O, ∀ e ∈ ss A d, e ∈ O) (hO : Ord A O) :
    ∀ (l : List Nat) (ks : List D) (m n p : Option L), (∀ d ∈ l, d ∈ O) → ks.length + l.length ≤ cap →
    ∃ m' n' p', forL (nameG 10) l3_least (l.map iD) (l3_ c A kv O i x ks m n p) = .next (l3_ c A kv O i x (ks ++ l.map fun d => encK (knOf A O d)) m' n' p')
  | [], ks, m, n, p, _, _ => ⟨m, n, p, by simp [forL]⟩
  | d :: l, ks, m, n, p, h, hc => by
    obtain ⟨n1, p1, e1⟩ := third_step hA (c := c) (n := n) (p := p) (i := i) (ks := ks) hkv (hO.2 d (h d (by simp))) (hcl d (h d (by simp))) hx (by simp at hc; omega)
    obtain ⟨m', n', p', e2⟩ := third_loop hA (c := c) (i := i) hkv hx hcl hO l (ks ++ [encK (knOf A O d)]) (some (.dat (iD d))) n1 p1 (fun y hy => h y (by simp [hy])) (by simp at hc ⊢; omega)
    refine ⟨m', n', p', ?_⟩
    have tg : nameG 10 (iD d) (l3_ c A kv O i x ks m n p) = some (l3_ c A kv O i x ks (some (.dat (iD d))) n p) := rfl
    show forL _ _ (iD d :: l.map iD) _ = _
    simp only [forL, tg, e1, e2, List.map_cons, List.append_assoc, List.singleton_append]
theorem den_least {A : Graph} (hA : Wf A) (hn : A.length ≤ 4000) : d_least [.dat (headsD A), .dat (linksD A), .dat (.int 0)] = some (.dat (tupG_ (lst A)), [none, none, none]) := by
  have h4 : (4000 : Nat) + 2 ≤ cap := by decide
  obtain ⟨Lg, e1, e2⟩ := den_grouped hA hn
  obtain ⟨kv, e3, hkv⟩ := den_first_members (g := stab A) (by rw [stab_len]; omega)
  obtain ⟨i', x', hx', e4⟩ := outer_loop hA (a := some (.dat (headsD A))) (c := some (.dat (.int 0))) (k := none) (m := none) (n := none) (p := none) hkv hn A.length 0 fuel [gr A 0] none (ord0 hA) (by omega) (by unfold fuel; omega) (.inl rfl)
  obtain ⟨_, cl⟩ := bfs_closed hA
  have hO := bfs_ord hA
  have hle := hO.le
  obtain ⟨m', n', p', e5⟩ := third_loop hA (c := some (.dat (.int 0))) (i := i') hkv hx' cl hO (bfs A) [] none none none (fun d hd => hd) (by simp; omega)
  have e6 : atI ((stab A).map iD) (0 : Int) = some (iD (gr A 0)) := atI_map (i := 0) (stab_get hA.1)
  have e7 : (bfs A).map (fun d => encK (knOf A (bfs A) d)) = (lst A).map encK := by
    unfold lst
    rw [List.map_map]
    rfl
  rw [List.nil_append, e7] at e5
  have s1 : setF 3 (callF [none, none] d_grouped (consP (frzB (nameF 0)) (consP (frzB (nameF 1)) nilP))) [some (.dat (headsD A)), some (.dat (linksD A)), some (.dat (.int 0)), none, none, none, none, none, none, none, none, none, none] = .next [some (.dat (headsD A)), some (.dat (linksD A)), some (.dat (.int 0)), some Lg, none, none, none, none, none, none, none, none, none] := by
    simp [setF, callF, consP, frzB, nameF, Res.bd, nilP, argsL, e1, putG, idxR]
  have s2 : setF 4 (callF [none] d_first_members (consP (frzB (nameF 3)) nilP)) [some (.dat (headsD A)), some (.dat (linksD A)), some (.dat (.int 0)), some Lg, none, none, none, none, none, none, none, none, none] = .next [some (.dat (headsD A)), some (.dat (linksD A)), some (.dat (.int 0)), some (.dat (nats (stab A))), some (.dk kv), none, none, none, none, none, none, none, none] := by
    simp [setF, callF, consP, frzB, nameF, Res.bd, nilP, argsL, e2, e3, putG, idxR]
  have s3 : setF 5 (lstF (consA (binF ixD (slotB 3) (slotB 2)) nilA)) [some (.dat (headsD A)), some (.dat (linksD A)), some (.dat (.int 0)), some (.dat (nats (stab A))), some (.dk kv), none, none, none, none, none, none, none, none] = .next [some (.dat (headsD A)), some (.dat (linksD A)), some (.dat (.int 0)), some (.dat (nats (stab A))), some (.dk kv), some (.lst [iD (gr A 0)]), none, none, none, none, none, none, none] := by
    have h1 : (1 : Nat) ≤ cap := by decide
    simp [-List.getD_eq_getElem?_getD, setF, lstF, consA, binF, slotB, Res.bd, resolve, ixD, e6, nilA, h1]
  have s4 : setF 6 (dispF (binF ixD (slotB 3) (slotB 2)) (constF (.int 0))) [some (.dat (headsD A)), some (.dat (linksD A)), some (.dat (.int 0)), some (.dat (nats (stab A))), some (.dk kv), some (.lst [iD (gr A 0)]), none, none, none, none, none, none, none] = .next [some (.dat (headsD A)), some (.dat (linksD A)), some (.dat (.int 0)), some (.dat (nats (stab A))), some (.dk kv), some (.lst [iD (gr A 0)]), some (.dk (kvs kI [gr A 0])), none, none, none, none, none, none] := by
    simp [-List.getD_eq_getElem?_getD, setF, dispF, binF, slotB, Res.bd, resolve, ixD, e6, constF, toKey, kvs, kvsN]
  have s5 : setF 7 (constF (.int 0)) [some (.dat (headsD A)), some (.dat (linksD A)), some (.dat (.int 0)), some (.dat (nats (stab A))), some (.dk kv), some (.lst [iD (gr A 0)]), some (.dk (kvs kI [gr A 0])), none, none, none, none, none, none] = .next (ls_ (some (.dat (headsD A))) (some (.dat (linksD A))) (some (.dat (.int 0))) A kv [gr A 0] 0 none none none none none) := rfl
  have s6 : setF 9 (lstF nilA) (ls_ (some (.dat (headsD A))) (some (.dat (linksD A))) (some (.dat (.int 0))) A kv (bfs A) i' x' none none none none) = .next [some (.dat (headsD A)), some (.dat (linksD A)), some (.dat (.int 0)), some (.dat (nats (stab A))), some (.dk kv), some (.lst ((bfs A).map iD)), some (.dk (kvs kI (bfs A))), some (.dat (iD i')), x', some (.lst []), none, none, none] := rfl
  have s7 : forF (seqI (nameF 5)) (nameG 10) l3_least [some (.dat (headsD A)), some (.dat (linksD A)), some (.dat (.int 0)), some (.dat (nats (stab A))), some (.dk kv), some (.lst ((bfs A).map iD)), some (.dk (kvs kI (bfs A))), some (.dat (iD i')), x', some (.lst []), none, none, none] = .next (l3_ (some (.dat (.int 0))) A kv (bfs A) i' x' ((lst A).map encK) m' n' p') := by
    have : seqI (nameF 5) [some (.dat (headsD A)), some (.dat (linksD A)), some (.dat (.int 0)), some (.dat (nats (stab A))), some (.dk kv), some (.lst ((bfs A).map iD)), some (.dk (kvs kI (bfs A))), some (.dat (iD i')), x', some (.lst []), none, none, none] = .ok ((bfs A).map iD) (l3_ (some (.dat (.int 0))) A kv (bfs A) i' x' [] none none none) := rfl
    simp only [forF, this, e5]
  have s8 : retF (callBF tupleD (consP (slotB 9) nilP)) (l3_ (some (.dat (.int 0))) A kv (bfs A) i' x' ((lst A).map encK) m' n' p') = .ret (.dat (tupG_ (lst A))) (l3_ (some (.dat (.int 0))) A kv (bfs A) i' x' ((lst A).map encK) m' n' p') := rfl
  have e4' : whileF t1_least l2_least fuel (ls_ (some (.dat (headsD A))) (some (.dat (linksD A))) (some (.dat (.int 0))) A kv [gr A 0] 0 none none none none none) = .next (ls_ (some (.dat (headsD A))) (some (.dat (linksD A))) (some (.dat (.int 0))) A kv (bfs A) i' x' none none none none) := e4
  have start : [some (L.dat (headsD A)), some (L.dat (linksD A)), some (L.dat (.int 0))].map id ++ List.replicate 10 none = [some (L.dat (headsD A)), some (.dat (linksD A)), some (.dat (.int 0)), none, none, none, none, none, none, none, none, none, none] := rfl
  show runDef 13 [false, false, false] body_least [.dat (headsD A), .dat (linksD A), .dat (.int 0)] = _
  unfold runDef
  show (match body_least [some (L.dat (headsD A)), some (.dat (linksD A)), some (.dat (.int 0)), none, none, none, none, none, none, none, none, none, none] with
    | .ret l g' => some (l, outsOf [false, false, false] g')
    | .next g' => some (.dat .non, outsOf [false, false, false] g')
    | _ => none) = _
  simp only [body_least, seqF, s1, s2, s3, s4, s5, e4', s6, s7, s8]
  rfl
/-! ### heads_of, links_of -/
abbrev kL : D := .dk [(.inr "fun", .int 2), (.inr "pair", .int 2), (.inr "box", .int 1)]
theorem heads_elt {k : Kn} (h : k.ls.length = k.w.ar) (a : Option L) : e1_heads_of [a, some (.dat kL), some (.dat (encK k))] = .ok (.dat (eH k.w)) [a, some (.dat kL), some (.dat (encK k))] := by
  obtain ⟨w, ls⟩ := k
  cases w with
  | fn => match ls, h with
    | [x, y], _ => rfl
  | pair => match ls, h with
    | [x, y], _ => rfl
  | box => match ls, h with
    | [x], _ => rfl
  | q => match ls, h with
    | [], _ => rfl
  | int => match ls, h with
    | [], _ => rfl
  | bool => match ls, h with
    | [], _ => rfl
  | unit => match ls, h with
    | [], _ => rfl
theorem links_elt {k : Kn} (h : k.ls.length = k.w.ar) (a : Option L) : e1_links_of [a, some (.dat kL), some (.dat (encK k))] = .ok (.lst (k.ls.map iD)) [a, some (.dat kL), some (.dat (encK k))] := by
  obtain ⟨w, ls⟩ := k
  cases w with
  | fn => match ls, h with
    | [x, y], _ => rfl
  | pair => match ls, h with
    | [x, y], _ => rfl
  | box => match ls, h with
    | [x], _ => rfl
  | q => match ls, h with
    | [], _ => rfl
  | int => match ls, h with
    | [], _ => rfl
  | bool => match ls, h with
    | [], _ => rfl
  | unit => match ls, h with
    | [], _ => rfl
/-- a comprehension over knots -/
theorem lc_knots {fe : Ef} {f : Kn → D} {v : Nat} {t : Tg} {P : G → Prop} {A : Graph} (g : G) (h : ∀ k ∈ A, ∀ g, P g → ∃ g1 l g3, t (encK k) g = some g1 ∧ fe g1 = .ok l g3 ∧ l.view = f k ∧ P (wipeG g3 [v])) (hp : P g) (hl : A.length ≤ cap) :
    ∃ g', P g' ∧ lcL [v] t yesT fe (A.map encK) [] g = .ok (A.map f) g' := by
  have key : ∀ (A : Graph) (acc : List D) (g : G), (∀ k ∈ A, ∀ g, P g → ∃ g1 l g3, t (encK k) g = some g1 ∧ fe g1 = .ok l g3 ∧ l.view = f k ∧ P (wipeG g3 [v])) → P g → acc.length + A.length ≤ cap → ∃ g', P g' ∧ lcL [v] t yesT fe (A.map encK) acc g = .ok (acc ++ A.map f) g' := by
    intro A
    induction A with
    | nil => intro acc g _ hp _; exact ⟨g, hp, by simp [lcL]⟩
    | cons k A ih =>
      intro acc g h hp hl
      obtain ⟨g1, l, g3, e1, e2, e3, e4⟩ := h k (by simp) g hp
      obtain ⟨g', p', e'⟩ := ih (acc ++ [l.view]) (wipeG g3 [v]) (fun x hx => h x (by simp [hx])) e4 (by simp at hl ⊢; omega)
      refine ⟨g', p', ?_⟩
      have hc : acc.length < cap := by simp at hl; omega
      rw [e3] at e'
      simp only [List.map_cons, lcL, e1, yesT, if_true, e2, if_pos hc, e3, e', List.append_assoc, List.singleton_append]
  obtain ⟨g', p', e'⟩ := key A [] g h hp (by simpa using hl)
  exact ⟨g', p', by rw [e', List.nil_append]⟩
theorem den_heads {A : Graph} (hA : Wf A) (hn : A.length ≤ 4000) {d : D} (hd : seqD d = some (A.map encK)) : d_heads_of [.dat d, .dat kL] = some (.lst (A.map fun k => eH k.w), [none, none]) := by
  have h4 : (4000 : Nat) + 2 ≤ cap := by decide
  obtain ⟨g', p', e'⟩ := lc_knots (fe := e1_heads_of) (f := fun k => eH k.w) (v := 2) (t := nameG 2) (A := A) (P := fun g => g = [some (.dat d), some (.dat kL), none]) _ (fun k hk g hg => by
    subst hg
    exact ⟨_, _, _, rfl, heads_elt (hA.2 k hk).1 _, rfl, rfl⟩) rfl (by omega)
  subst p'
  have e1 : wipeG [some (L.dat d), some (.dat kL), none] [2] = [some (L.dat d), some (.dat kL), none] := rfl
  simp [d_heads_of, runDef, body_heads_of, retF, lcF, seqI, nameF, Res.bd, hd, datOnly, e1, e', backG, outsOf]
theorem den_links {A : Graph} (hA : Wf A) (hn : A.length ≤ 4000) {d : D} (hd : seqD d = some (A.map encK)) : d_links_of [.dat d, .dat kL] = some (.lst (A.map fun k => nats k.ls), [none, none]) := by
  have h4 : (4000 : Nat) + 2 ≤ cap := by decide
  obtain ⟨g', p', e'⟩ := lc_knots (fe := e1_links_of) (f := fun k => nats k.ls) (v := 2) (t := nameG 2) (A := A) (P := fun g => g = [some (.dat d), some (.dat kL), none]) _ (fun k hk g hg => by
    subst hg
    exact ⟨_, _, _, rfl, links_elt (hA.2 k hk).1 _, rfl, rfl⟩) rfl (by omega)
  subst p'
  have e1 : wipeG [some (L.dat d), some (.dat kL), none] [2] = [some (L.dat d), some (.dat kL), none] := rfl
  simp [d_links_of, runDef, body_links_of, retF, lcF, seqI, nameF, Res.bd, hd, datOnly, e1, e', backG, outsOf]
theorem den_seen {A : Graph} (hA : Wf A) (hn : A.length ≤ 4000) {d : D} (hd : seqD d = some (A.map encK)) : d_seen_from [.dat d, .dat kL, .dat (.int 0)] = some (.dat (tupG_ (lst A)), [none, none, none]) := by
  have e1 := den_heads hA hn hd
  have e2 := den_links hA hn hd
  have e3 := den_least hA hn
  simp [d_seen_from, runDef, body_seen_from, retF, callF, consP, frzB, nameF, Res.bd, nilP, argsL, e1, e2, e3, putG, idxR, outsOf]
theorem den_least_kind {A : Graph} (hA : Wf A) (hn : A.length ≤ 4000) {d : D} (hd : seqD d = some (A.map encK)) : d_least_kind [.dat d] = some (.dat (tupG_ (lst A)), [none]) := by
  have e3 := den_seen hA hn hd
  have e4 : (dictD [c_KIND_LINKS]) = some (.dk [(.inr "fun", .int 2), (.inr "pair", .int 2), (.inr "box", .int 1)]) := rfl
  simp [d_least_kind, runDef, body_least_kind, retF, callF, consP, frzB, nameF, Res.bd, nilP, callBF, constF, resolves, resolve, e4, argsL, e3, putG, idxR, outsOf]
end K15

set_option maxHeartbeats 4000000
namespace K15
open PySem L2 B Gr
theorem lcL_fil {vs : List Nat} {t : Tg} {tt : Tf} {fe : Ef} {P : G → Prop} {p : D → Bool} {F : D → D} : ∀ (ds acc : List D) (g : G), (∀ d ∈ ds, ∀ g, P g → ∃ g1 g2, t d g = some g1 ∧ tt g1 = .ok (p d) g2 ∧ (p d = false → P (wipeG g2 vs)) ∧ (p d = true → ∃ l g3, fe g2 = .ok l g3 ∧ l.view = F d ∧ P (wipeG g3 vs))) → P g → acc.length + ds.length ≤ cap →
    ∃ g', P g' ∧ lcL vs t tt fe ds acc g = .ok (acc ++ (ds.filter p).map F) g'
  | [], acc, g, _, hp, _ => ⟨g, hp, by simp [lcL]⟩
  | d :: ds, acc, g, h, hp, hl => by
    obtain ⟨g1, g2, e1, e2, e3, e4⟩ := h d (by simp) g hp
    cases hd : p d with
    | false =>
      obtain ⟨g', p', e'⟩ := lcL_fil ds acc (wipeG g2 vs) (fun x hx => h x (by simp [hx])) (e3 hd) (by simp at hl ⊢; omega)
      refine ⟨g', p', ?_⟩
      rw [hd] at e2
      simp only [lcL, e1, e2, Bool.false_eq_true, if_false, e', List.filter_cons, hd]
    | true =>
      obtain ⟨l, g3, e5, e6, e7⟩ := e4 hd
      obtain ⟨g', p', e'⟩ := lcL_fil ds (acc ++ [l.view]) (wipeG g3 vs) (fun x hx => h x (by simp [hx])) e7 (by simp at hl ⊢; omega)
      refine ⟨g', p', ?_⟩
      have hc : acc.length < cap := by simp at hl; omega
      rw [hd] at e2
      rw [e6] at e'
      simp only [lcL, e1, e2, if_true, e5, if_pos hc, e6, e', List.filter_cons, hd, List.map_cons, List.append_assoc, List.singleton_append]
theorem inB_nats (x : Nat) (l : List Nat) : inB (iD x) (nats l) = some (decide (x ∈ l)) := by
  have h : ∀ l : List Nat, vsOf (l.map iD) = some (l.map fun (n : Nat) => V.int (n : Int)) := by
    intro l
    induction l with
    | nil => rfl
    | cons y l ih => rw [List.map_cons, vsOf, ih]; rfl
  have h2 : ∀ l : List Nat, inV (.int (x : Int)) (l.map fun (n : Nat) => V.int (n : Int)) = decide (x ∈ l) := by
    intro l
    unfold inV
    rw [List.any_map]
    rw [Bool.eq_iff_iff, List.any_eq_true, decide_eq_true_eq]
    constructor
    · rintro ⟨y, hy, e⟩
      have : (y : Int) = (x : Int) := by simpa [eqV] using e
      have : y = x := Int.ofNat.inj this
      exact this ▸ hy
    · exact fun hx => ⟨x, hx, by simp [eqV]⟩
  simp only [inB, h]
  rw [← h2]
  rfl
/-! ### has_bare_ring -/
def PPb (A : Graph) : Nat → Nat → Bool
  | 0, _ => true
  | n + 1, a => match A[a]? with
    | some k => decide (k.w = .pair) && k.ls.any (PPb A n)
    | none => false
theorem PPb_iff {A : Graph} : ∀ (n a : Nat), PPb A n a = true ↔ PP A n a
  | 0, _ => ⟨fun _ => trivial, fun _ => rfl⟩
  | n + 1, a => by
    unfold PPb PP
    cases h : A[a]? with
    | none => simp
    | some k =>
      simp only [Bool.and_eq_true, decide_eq_true_eq, List.any_eq_true, Option.some.injEq, exists_eq_left']
      constructor
      · rintro ⟨h1, l, h2, h3⟩; exact ⟨h1, l, h2, (PPb_iff n l).mp h3⟩
      · rintro ⟨h1, l, h2, h3⟩; exact ⟨h1, l, h2, (PPb_iff n l).mpr h3⟩
def Lf (A : Graph) (j : Nat) : List Nat := (List.range A.length).filter (PPb A (j + 1))
def nxtB (A : Graph) (l : List Nat) (a : Nat) : Bool := (A.getD a default).ls.any fun x => decide (x ∈ l)
theorem Lf_succ {A : Graph} (hA : Wf A) (j : Nat) : (Lf A j).filter (nxtB A (Lf A j)) = Lf A (j + 1) := by
  unfold Lf
  rw [List.filter_filter]
  refine List.filter_congr fun a ha => ?_
  have ha := List.mem_range.mp ha
  obtain ⟨k, hk⟩ := some_of ha
  rw [Bool.eq_iff_iff, Bool.and_eq_true]
  have e : PPb A (j + 1 + 1) a = (decide (k.w = Wd.pair) && k.ls.any (PPb A (j + 1))) := by
    show (match A[a]? with | some k => decide (k.w = Wd.pair) && k.ls.any (PPb A (j + 1)) | none => false) = _
    rw [hk]
  have e2 : nxtB A ((List.range A.length).filter (PPb A (j + 1))) a = k.ls.any (PPb A (j + 1)) := by
    unfold nxtB
    rw [getD_of hk]
    have : ∀ (l : List Nat), (∀ x ∈ l, x < A.length) → (l.any fun x => decide (x ∈ (List.range A.length).filter (PPb A (j + 1)))) = l.any (PPb A (j + 1)) := by
      intro l
      induction l with
      | nil => intro _; rfl
      | cons x l ih =>
        intro h
        rw [List.any_cons, List.any_cons, ih fun y hy => h y (by simp [hy])]
        congr 1
        rw [Bool.eq_iff_iff, decide_eq_true_eq, List.mem_filter, List.mem_range]
        exact ⟨fun z => z.2, fun z => ⟨h x (by simp), z⟩⟩
    exact this k.ls (hA.get hk).2
  rw [e2, e, Bool.and_eq_true]
  constructor
  · rintro ⟨h1, h2⟩
    refine ⟨?_, h1⟩
    obtain ⟨k', e1, e2, _⟩ := (PPb_iff (j + 1) a).mp h2
    rw [hk] at e1; cases e1
    exact decide_eq_true e2
  · rintro ⟨h1, h2⟩
    refine ⟨h2, (PPb_iff (j + 1) a).mpr (PP.down _ _ ((PPb_iff (j + 1 + 1) a).mp (by rw [e, h1, h2]; rfl)))⟩
theorem Lf_empty {A : Graph} (hA : Wf A) (nr : NoRing A) {j : Nat} (h : Lf A (j + 1) = Lf A j) : Lf A j = [] := by
  obtain ⟨n, hn⟩ := nr
  have st : ∀ k, Lf A (j + k) = Lf A j := by
    intro k
    induction k with
    | zero => rfl
    | succ k ih =>
      have : Lf A (j + (k + 1)) = (Lf A (j + k)).filter (nxtB A (Lf A (j + k))) := (Lf_succ hA (j + k)).symm
      rw [this, ih, Lf_succ hA j, h]
  rw [← st n]
  unfold Lf
  rw [List.filter_eq_nil_iff]
  intro a _ h
  have h1 := (PPb_iff (j + n + 1) a).mp h
  have down : ∀ m, PP A (n + m) a → PP A n a := by
    intro m
    induction m with
    | zero => exact id
    | succ m ih => exact fun h => ih (PP.down (n + m) a h)
  exact hn a (down (j + 1) (by rw [show n + (j + 1) = j + n + 1 by omega]; exact h1))
theorem Lf_le {A : Graph} (hA : Wf A) (j : Nat) : (Lf A (j + 1)).length ≤ (Lf A j).length := by
  rw [← Lf_succ hA j]; exact List.length_filter_le _ _
theorem mapIdx_knots (A : Graph) : ((A.map encK).mapIdx fun (i : Nat) (d : D) => D.tup [.int i, d]) = (List.range A.length).map fun a => D.tup [iD a, encK (A.getD a default)] := by
  refine List.ext_getElem? fun i => ?_
  rw [List.getElem?_mapIdx, List.getElem?_map, List.getElem?_map]
  by_cases h : i < A.length
  · obtain ⟨k, hk⟩ := some_of h
    rw [hk, List.getElem?_range h]
    simp [hk, List.getD_eq_getElem?_getD]
  · rw [List.getElem?_eq_none (by omega), List.getElem?_eq_none (by simp; omega)]; rfl
theorem word_eq (w : Wd) (r : List D) : (ixD (.tup (.str (ws w) :: r)) (.int 0)) = some (.str (ws w)) := by
  have : atI (D.str (ws w) :: r) (0 : Int) = some (.str (ws w)) := atI_nat (xs := D.str (ws w) :: r) (j := 0) rfl
  simp [ixD, this]
theorem eqD_int (i j : Int) : eqD (.int i) (.int j) = some (.bl (decide (i = j))) := by
  simp [eqD, eqB, toPy, SeqAt.shaped, PyData.eqv, PyData.canLay0, PyData.depth]
  rw [Bool.eq_iff_iff]; simp
theorem eqD_str {i j : Str} (hi : PyData.strOk i = true) (hj : PyData.strOk j = true) : eqD (.str i) (.str j) = some (.bl (decide (i = j))) := by
  simp [eqD, eqB, toPy, SeqAt.shaped, PyData.eqv, PyData.canLay0, PyData.depth, hi, hj]
  rw [Bool.eq_iff_iff]; simp
theorem ws_ok (w : Wd) : PyData.strOk (ws w) = true := by cases w <;> decide +kernel
theorem eqD_ws (w v : Wd) : eqD (.str (ws w)) (.str (ws v)) = some (.bl (decide (w = v))) := by
  rw [eqD_str (ws_ok w) (ws_ok v)]
  by_cases h : w = v
  · subst h; simp
  · have : ¬ ws w = ws v := fun e => h (ws_inj e)
    simp [h, this]
theorem eq_pair (w : Wd) : eqD (.str (ws w)) (.str "pair") = some (.bl (decide (w = .pair))) := eqD_ws w .pair
theorem ring_first {A : Graph} (hn : A.length ≤ 4000) (a b c m : Option L) :
    ∃ g', g' = [a, b, none, none, m] ∧ lcL [2, 3] (tupG (consG (nameG 2) (consG (nameG 3) nilG))) t1_has_bare_ring e1_has_bare_ring ((List.range A.length).map fun a => D.tup [iD a, encK (A.getD a default)]) [] [a, b, none, none, m] = .ok (((List.range A.length).filter fun a => decide ((A.getD a default).w = .pair)).map iD) g' := by
  have h4 : (4000 : Nat) + 2 ≤ cap := by decide
  obtain ⟨g', p', e'⟩ := lcL_fil (vs := [2, 3]) (t := tupG (consG (nameG 2) (consG (nameG 3) nilG))) (tt := t1_has_bare_ring) (fe := e1_has_bare_ring) (P := fun g => g = [a, b, none, none, m])
    (p := fun d => match d with | .tup [.int i, _] => decide ((A.getD i.toNat default).w = .pair) | _ => false) (F := fun d => match d with | .tup [.int i, _] => .int i | _ => .non)
    ((List.range A.length).map fun a => D.tup [iD a, encK (A.getD a default)]) [] _ (fun d hd g hg => by
      obtain ⟨i, h1, rfl⟩ := List.mem_map.mp hd
      subst hg
      refine ⟨[a, b, some (.dat (iD i)), some (.dat (encK (A.getD i default))), m], [a, b, some (.dat (iD i)), some (.dat (encK (A.getD i default))), m], rfl, ?_, fun _ => rfl, fun _ => ⟨.dat (iD i), [a, b, some (.dat (iD i)), some (.dat (encK (A.getD i default))), m], rfl, rfl, rfl⟩⟩
      simp [-List.getD_eq_getElem?_getD, t1_has_bare_ring, testF, binF, frzB, slotB, constF, Res.bd, resolve, encK, word_eq, eq_pair]) rfl (by simp; omega)
  refine ⟨g', p', ?_⟩
  rw [e', List.nil_append, List.filter_map, List.map_map]
  congr 1
end K15

set_option maxHeartbeats 4000000
namespace K15
open PySem L2 B Gr
theorem ring_test {A : Graph} (hA : Wf A) {l : List Nat} {a : Nat} (ha : a < A.length) (hp : (A.getD a default).w = .pair) (b m : Option L) :
    t2_has_bare_ring [some (.dat (tupG_ A)), some (.dat (nats l)), some (.dat (iD a)), b, m] = .ok (nxtB A l a) [some (.dat (tupG_ A)), some (.dat (nats l)), some (.dat (iD a)), b, m] := by
  obtain ⟨k, hk⟩ := some_of ha
  rw [getD_of hk] at hp
  have hlen := (hA.get hk).1
  rw [hp] at hlen
  obtain ⟨w, ls⟩ := k
  match ls, hlen with
  | [x, y], _ =>
    have hkk : A.getD a default = ⟨w, [x, y]⟩ := getD_of hk
    have e1 : atI (A.map encK) (a : Int) = some (encK ⟨w, [x, y]⟩) := atI_map hk
    have i1 := inB_nats x l
    have i2 := inB_nats y l
    have e2 : atI [D.str (ws w), iD x, iD y] (1 : Int) = some (iD x) := atI_nat (xs := [D.str (ws w), iD x, iD y]) (j := 1) rfl
    have e3 : atI [D.str (ws w), iD x, iD y] (2 : Int) = some (iD y) := atI_nat (xs := [D.str (ws w), iD x, iD y]) (j := 2) rfl
    have e4 : nxtB A l a = (decide (x ∈ l) || decide (y ∈ l)) := by
      unfold nxtB
      rw [hkk]
      simp
    rw [e4]
    by_cases h : x ∈ l
    · simp [t2_has_bare_ring, orT, testF, binF, frzB, slotB, constF, Res.bd, resolve, ixD, e1, encK, e2, inD, i1, h]
    · simp [t2_has_bare_ring, orT, testF, binF, frzB, slotB, constF, Res.bd, resolve, ixD, e1, encK, e2, e3, inD, i1, i2, h]
theorem ring_body {A : Graph} (hA : Wf A) (hn : A.length ≤ 4000) (j : Nat) {Ll : L} (hL : Ll.view = nats (Lf A j)) (m : Nat) :
    l1_has_bare_ring [some (.dat (tupG_ A)), some Ll, none, none, some (.dat (iD m))] = .next [some (.dat (tupG_ A)), some (.lst ((Lf A (j + 1)).map iD)), none, none, some (.dat (iD (Lf A j).length))] := by
  have h4 : (4000 : Nat) + 2 ≤ cap := by decide
  have hll : (Lf A j).length ≤ A.length := by
    unfold Lf
    have := List.length_filter_le (PPb A (j + 1)) (List.range A.length)
    simpa using this
  obtain ⟨g', p', e'⟩ := lcL_fil (vs := [2]) (t := nameG 2) (tt := t2_has_bare_ring) (fe := e2_has_bare_ring) (P := fun g => g = [some (.dat (tupG_ A)), some (.dat (nats (Lf A j))), none, none, some (.dat (iD (Lf A j).length))])
    (p := fun d => match d with | .int i => nxtB A (Lf A j) i.toNat | _ => false) (F := fun d => d) ((Lf A j).map iD) [] _ (fun d hd g hg => by
      obtain ⟨a, h1, rfl⟩ := List.mem_map.mp hd
      subst hg
      have h2 := List.mem_filter.mp h1
      have ha := List.mem_range.mp h2.1
      have hp : (A.getD a default).w = .pair := by
        obtain ⟨k, e1, e2, _⟩ := (PPb_iff (j + 1) a).mp h2.2
        rw [getD_of e1]; exact e2
      exact ⟨_, _, rfl, ring_test hA ha hp _ _, fun _ => rfl, fun _ => ⟨.dat (iD a), [some (.dat (tupG_ A)), some (.dat (nats (Lf A j))), some (.dat (iD a)), none, some (.dat (iD (Lf A j).length))], rfl, rfl, rfl⟩⟩) rfl (by simp; omega)
  subst p'
  have e7 : (((Lf A j).map iD).filter fun d => match d with | .int i => nxtB A (Lf A j) i.toNat | _ => false).map (fun d => d) = (Lf A (j + 1)).map iD := by
    rw [List.map_id', List.filter_map, ← Lf_succ hA j]
    rfl
  rw [e7, List.nil_append] at e'
  have e1 : lenD [Ll.view] = some (.dat (iD (Lf A j).length)) := by rw [hL]; simp [lenD]
  have e2 : seqD Ll.view = some ((Lf A j).map iD) := by rw [hL]; rfl
  have e3 : wipeG [some (L.dat (tupG_ A)), some (.dat (nats (Lf A j))), none, none, some (.dat (iD (Lf A j).length))] [2] = [some (L.dat (tupG_ A)), some (.dat (nats (Lf A j))), none, none, some (.dat (iD (Lf A j).length))] := rfl
  have s1 : setF 4 (callBF lenD (consP (slotB 1) nilP)) [some (.dat (tupG_ A)), some Ll, none, none, some (.dat (iD m))] = .next [some (.dat (tupG_ A)), some Ll, none, none, some (.dat (iD (Lf A j).length))] := by
    simp only [setF, callBF, consP, slotB, nilP, Res.bd, List.getElem?_cons_succ, List.getElem?_cons_zero, resolves, resolve, e1]
    rfl
  have s2 : seqI (nameF 1) [some (.dat (tupG_ A)), some Ll, none, none, some (.dat (iD (Lf A j).length))] = .ok ((Lf A j).map iD) [some (.dat (tupG_ A)), some (.dat (nats (Lf A j))), none, none, some (.dat (iD (Lf A j).length))] := by
    simp only [seqI, nameF, List.getElem?_cons_succ, List.getElem?_cons_zero, Res.bd, view_dat, e2]
    rw [hL]; rfl
  have e8 : [2].all (datOnly [some (L.dat (tupG_ A)), some (.dat (nats (Lf A j))), none, none, some (.dat (iD (Lf A j).length))]) = true := rfl
  have s3 : setF 1 (lcF [2] (seqI (nameF 1)) (nameG 2) t2_has_bare_ring e2_has_bare_ring) [some (.dat (tupG_ A)), some Ll, none, none, some (.dat (iD (Lf A j).length))] = .next [some (.dat (tupG_ A)), some (.lst ((Lf A (j + 1)).map iD)), none, none, some (.dat (iD (Lf A j).length))] := by
    simp only [setF, lcF, s2, e8, if_true, e3, e']
    rfl
  simp only [l1_has_bare_ring, seqF, s1, s3]
theorem ring_while {A : Graph} (hA : Wf A) (nr : NoRing A) (hn : A.length ≤ 4000) : ∀ (c j m n : Nat) (Ll : L), (Lf A j).length ≤ c → (m ≤ (Lf A j).length → m = (Lf A j).length ∧ ∃ i, j = i + 1 ∧ (Lf A i).length = m) → c + 1 < n → Ll.view = nats (Lf A j) →
    ∃ (Ll' : L), whileF t3_has_bare_ring l1_has_bare_ring n [some (.dat (tupG_ A)), some Ll, none, none, some (.dat (iD m))] = .next [some (.dat (tupG_ A)), some Ll', none, none, some (.dat (iD 0))]
  | c, j, m, 0, Ll, h1, h2, h3, hL => by omega
  | c, j, m, n + 1, Ll, h1, h2, h3, hL => by
    have e1 : lenD [Ll.view] = some (.dat (iD (Lf A j).length)) := by rw [hL]; simp [lenD]
    have ht : t3_has_bare_ring [some (.dat (tupG_ A)), some Ll, none, none, some (.dat (iD m))] = .ok (decide ((Lf A j).length < m)) [some (.dat (tupG_ A)), some Ll, none, none, some (.dat (iD m))] := by
      simp [t3_has_bare_ring, testF, binF, frzB, callBF, consP, slotB, nilP, Res.bd, resolves, resolve, e1, ltD, intsD]
    unfold whileF
    by_cases h : (Lf A j).length < m
    · have hb := ring_body hA hn j hL m
      have hle := Lf_le hA j
      by_cases heq : (Lf A (j + 1)).length = (Lf A j).length
      · -- the last turn
        have hsame : Lf A (j + 1) = Lf A j := by
          rw [← Lf_succ hA j] at heq ⊢
          exact List.filter_eq_self.mpr (List.length_filter_eq_length_iff.mp heq)
        have hz := Lf_empty hA nr hsame
        cases n with
        | zero => omega
        | succ n =>
          refine ⟨.lst ((Lf A (j + 1)).map iD), ?_⟩
          simp only [ht, h, decide_true, if_true, hb]
          unfold whileF
          have ht2 : t3_has_bare_ring [some (.dat (tupG_ A)), some (.lst ((Lf A (j + 1)).map iD)), none, none, some (.dat (iD (Lf A j).length))] = .ok false [some (.dat (tupG_ A)), some (.lst ((Lf A (j + 1)).map iD)), none, none, some (.dat (iD (Lf A j).length))] := by
            rw [hsame, hz]; rfl
          simp only [ht2, Bool.false_eq_true, if_false]
          rw [hz]; rfl
      · cases c with
        | zero => omega
        | succ c =>
          obtain ⟨Ll', e2⟩ := ring_while hA nr hn c (j + 1) (Lf A j).length n (.lst ((Lf A (j + 1)).map iD)) (by omega) (fun z => by omega) (by omega) rfl
          refine ⟨Ll', ?_⟩
          simp only [ht, h, decide_true, if_true, hb, e2]
    · obtain ⟨hm, i, hj, hi⟩ := h2 (by omega)
      have hsame : Lf A (i + 1) = Lf A i := by
        subst hj
        have : (Lf A (i + 1)).length = (Lf A i).length := by omega
        rw [← Lf_succ hA i] at this ⊢
        exact List.filter_eq_self.mpr (List.length_filter_eq_length_iff.mp this)
      have hz := Lf_empty hA nr hsame
      have : m = 0 := by rw [← hi, hz]; rfl
      subst this
      refine ⟨Ll, ?_⟩
      simp only [ht, h, decide_false, Bool.false_eq_true, if_false]
theorem pair0 {A : Graph} (hA : Wf A) : ((List.range A.length).filter fun a => decide ((A.getD a default).w = .pair)) = Lf A 0 := by
  unfold Lf
  refine List.filter_congr fun a ha => ?_
  obtain ⟨k, hk⟩ := some_of (List.mem_range.mp ha)
  have e : PPb A (0 + 1) a = (decide (k.w = Wd.pair) && k.ls.any (PPb A 0)) := by
    show (match A[a]? with | some k => decide (k.w = Wd.pair) && k.ls.any (PPb A 0) | none => false) = _
    rw [hk]
  rw [e, getD_of hk]
  by_cases h : k.w = .pair
  · have hl := (hA.get hk).1
    rw [h] at hl
    obtain ⟨w, ls⟩ := k
    match ls, hl with
    | [x, y], _ => simp [h, PPb]
  · simp [h]
theorem den_ring {A : Graph} (hA : Wf A) (nr : NoRing A) (hn : A.length ≤ 4000) : d_has_bare_ring [.dat (tupG_ A)] = some (.dat (.bl false), [none]) := by
  obtain ⟨g', p', e1⟩ := ring_first (A := A) hn (some (.dat (tupG_ A))) none none none
  subst p'
  rw [pair0 hA] at e1
  have hll : (Lf A 0).length ≤ A.length := by
    unfold Lf
    have := List.length_filter_le (PPb A (0 + 1)) (List.range A.length)
    simpa using this
  obtain ⟨Ll', e2⟩ := ring_while hA nr hn (Lf A 0).length 0 ((Lf A 0).length + 1) fuel (.lst ((Lf A 0).map iD)) (Nat.le_refl _) (fun z => by omega) (by unfold fuel; omega) rfl
  have e3 := mapIdx_knots A
  have e4 : wipeG [some (L.dat (tupG_ A)), none, none, none, none] [2, 3] = [some (L.dat (tupG_ A)), none, none, none, none] := rfl
  have s1 : setF 1 (lcF [2, 3] (enumI (nameF 0)) (tupG (consG (nameG 2) (consG (nameG 3) nilG))) t1_has_bare_ring e1_has_bare_ring) [some (.dat (tupG_ A)), none, none, none, none] = .next [some (.dat (tupG_ A)), some (.lst ((Lf A 0).map iD)), none, none, none] := by
    have : enumI (nameF 0) [some (.dat (tupG_ A)), none, none, none, none] = .ok ((List.range A.length).map fun a => D.tup [iD a, encK (A.getD a default)]) [some (.dat (tupG_ A)), none, none, none, none] := by
      rw [← e3]; rfl
    have e5 : [2, 3].all (datOnly [some (L.dat (tupG_ A)), none, none, none, none]) = true := rfl
    simp only [setF, lcF, this, e5, if_true, e4, e1]
    rfl
  have s2 : setF 4 (binF addD (frzB (callBF lenD (consP (slotB 1) nilP))) (frzB (constF (.int 1)))) [some (.dat (tupG_ A)), some (.lst ((Lf A 0).map iD)), none, none, none] = .next [some (.dat (tupG_ A)), some (.lst ((Lf A 0).map iD)), none, none, some (.dat (iD ((Lf A 0).length + 1)))] := by
    simp [setF, binF, frzB, callBF, consP, slotB, nilP, Res.bd, resolves, resolve, lenD, constF, addD]
  show runDef 5 [false] body_has_bare_ring [.dat (tupG_ A)] = _
  unfold runDef
  show (match body_has_bare_ring [some (L.dat (tupG_ A)), none, none, none, none] with
    | .ret l g' => some (l, outsOf [false] g')
    | .next g' => some (.dat .non, outsOf [false] g')
    | _ => none) = _
  simp only [body_has_bare_ring, seqF, s1, s2, e2]
  rfl
theorem den_init {A : Graph} (hA : Wf A) (nr : NoRing (lst A)) (hl : (lst A).length ≤ 12) (hn : A.length ≤ 4000) {d : D} (hd : seqD d = some (A.map encK)) :
    d_GraphKind_init [.ins "GraphKind" [], .dat d] = some (.dat .non, [some (.ins "GraphKind" [("knots", tupG_ (lst A))]), none]) := by
  have e1 := den_least_kind hA hn hd
  have e2 := den_ring (lst_wf hA) nr (by omega)
  have e3 : gtD (iD (lst A).length) (.int 12) = some (.bl false) := by
    have : ¬ (12 : Int) < ((lst A).length : Int) := by omega
    simp [gtD, intsD, this]
  have s1 : setF 2 (callF [none] d_least_kind (consP (frzB (nameF 1)) nilP)) [some (.ins "GraphKind" []), some (.dat d), none] = .next [some (.ins "GraphKind" []), some (.dat d), some (.dat (tupG_ (lst A)))] := by
    simp [setF, callF, consP, frzB, nameF, Res.bd, nilP, argsL, e1, putG, idxR]
  have s2 : ifF (testF (callF [none] d_has_bare_ring (consP (frzB (nameF 2)) nilP))) badF skipF [some (.ins "GraphKind" []), some (.dat d), some (.dat (tupG_ (lst A)))] = .next [some (.ins "GraphKind" []), some (.dat d), some (.dat (tupG_ (lst A)))] := by
    simp [ifF, testF, callF, consP, frzB, nameF, Res.bd, nilP, argsL, e2, putG, idxR, skipF]
  have s3 : ifF (testF (binF gtD (frzB (callBF lenD (consP (slotB 2) nilP))) (frzB (unF (conD "GraphKind" "LIMIT" (.int 12)) (slotB 0))))) badF skipF [some (.ins "GraphKind" []), some (.dat d), some (.dat (tupG_ (lst A)))] = .next [some (.ins "GraphKind" []), some (.dat d), some (.dat (tupG_ (lst A)))] := by
    have e4 : lenD [tupG_ (lst A)] = some (.dat (iD (lst A).length)) := by simp [lenD]
    simp [ifF, testF, binF, frzB, callBF, consP, slotB, Res.bd, nilP, resolves, resolve, e4, unF, conD, e3, skipF]
  show runDef 3 [true, false] body_GraphKind_init [.ins "GraphKind" [], .dat d] = _
  unfold runDef
  show (match body_GraphKind_init [some (L.ins "GraphKind" []), some (.dat d), none] with
    | .ret l g' => some (l, outsOf [true, false] g')
    | .next g' => some (.dat .non, outsOf [true, false] g')
    | _ => none) = _
  simp only [body_GraphKind_init, seqF, s1, s2, s3]
  rfl
end K15

set_option maxHeartbeats 4000000
namespace K15
open PySem L2 B Gr
theorem split_get1 (k : Kn) : ixD (spl k) (.int 1) = some (nats k.ls) := by
  have : atI [D.tup [.str (ws k.w)], nats k.ls] (1 : Int) = some (nats k.ls) := atI_nat (xs := [D.tup [.str (ws k.w)], nats k.ls]) (j := 1) rfl
  exact this
theorem split_get0 (k : Kn) : ixD (spl k) (.int 0) = some (eH k.w) := by
  have : atI [D.tup [.str (ws k.w)], nats k.ls] (0 : Int) = some (eH k.w) := atI_nat (xs := [D.tup [.str (ws k.w)], nats k.ls]) (j := 0) rfl
  exact this
theorem rng_int {fa : Ef} {g g1 : B.G} {m : Int} (h : fa g = .ok (.dat (.int m)) g1) (h1 : m.natAbs < cap) : rngI1 fa g = .ok ((List.range m.toNat).map fun (i : Nat) => D.int (0 + (i : Int))) g1 := by
  unfold rngI1
  rw [h]
  exact if_pos h1
theorem rng_map (n : Nat) : ((List.range ((n : Nat) : Int).toNat).map fun (i : Nat) => D.int (0 + (i : Int))) = (List.range n).map iD := by
  rw [Int.toNat_natCast]
  refine List.map_congr_left fun a _ => ?_
  rw [Int.zero_add]
theorem rng_nat {fa : Ef} {g g1 : B.G} {n : Nat} (h : fa g = .ok (.dat (iD n)) g1) (hn : n < cap) : rngI1 fa g = .ok ((List.range n).map iD) g1 := by
  rw [rng_int h (by omega), rng_map]
/-! ### _law_marked -/
theorem den_marked {g : List Nat} {k : Kn} {a x : Nat} {Lg : L} (hL : Lg.view = nats g) (ha : g[a]? = some x) (hk : k.ls.length = k.w.ar) (hl : ∀ l ∈ k.ls, l < g.length) :
    d__law_marked [Lg, .dat (iD a), .dat (encK k)] = some (.dat (eM (x, k.ls.map fun l => g.getD l 0)), [some Lg, none, none]) := by
  have hx : atI (g.map iD) (a : Int) = some (iD x) := atI_map ha
  have har : k.ls.length ≤ 2 := by rw [hk]; cases k.w <;> decide
  have h2 : (2 : Nat) ≤ cap := by decide
  obtain ⟨g', p', e'⟩ := lcL_inv (vs := [3]) (t := nameG 3) (fe := e1__law_marked) (P := fun s => s = [some Lg, some (.dat (iD a)), some (.dat (encK k)), none]) (F := fun d => match d with | .int i => (atI (g.map iD) i).getD .non | _ => .non)
    (k.ls.map iD) [] _ (fun d hd s hs => by
      obtain ⟨l, h1, rfl⟩ := List.mem_map.mp hd
      subst hs
      obtain ⟨y, hy⟩ := some_of (hl l h1)
      have hy' : atI (g.map iD) (l : Int) = some (iD y) := atI_map hy
      refine ⟨_, .dat (iD y), [some Lg, some (.dat (iD a)), some (.dat (encK k)), some (.dat (iD l))], rfl, ?_, by simp [hy'], ?_⟩
      · simp [nameG, e1__law_marked, ifE, testF, binF, slotB, frzB, constF, Res.bd, resolve, isnotD, nonB, ixD, hL, hy']
      · rfl) rfl (by simp; omega)
  subst p'
  have e2 : (k.ls.map iD).map (fun d => match d with | .int i => (atI (g.map iD) i).getD .non | _ => .non) = (k.ls.map fun l => g.getD l 0).map iD := by
    rw [List.map_map, List.map_map]
    refine List.map_congr_left fun l hl' => ?_
    obtain ⟨y, hy⟩ := some_of (hl l hl')
    have hy' : atI (g.map iD) (l : Int) = some (iD y) := atI_map hy
    show (atI (g.map iD) (l : Int)).getD .non = _
    rw [hy']
    show iD y = iD (g.getD l 0)
    rw [getD_of hy]
  rw [e2, List.nil_append] at e'
  have e3 : wipeG [some Lg, some (L.dat (iD a)), some (.dat (encK k)), none] [3] = [some Lg, some (L.dat (iD a)), some (.dat (encK k)), none] := rfl
  have es := den_split hk
  have e5 := split_get1 k
  simp [-List.getD_eq_getElem?_getD, d__law_marked, runDef, body__law_marked, retF, tupF, consA, binF, slotB, Res.bd, resolve, hL, ixD, hx, callBF, consP, frzB, lcF, seqI, callF, nameF, nilP, argsL, es, putG, idxR, constF]
  have e6 : (match spl k, D.int 1 with | .lst ds, .int i => atI ds i | .tup ds, .int i => atI ds i | .str x, .int i => if x.length ≤ cap then (atI x.cps.toList i).map fun c => .str ⟨#[c]⟩ else none | .dk kvs, k => (toKey k).bind (look kvs) | .dn kvs, k => (toTK k).bind (look kvs) | _, _ => none) = some (nats k.ls) := e5
  simp [-List.getD_eq_getElem?_getD, spl] at e6
  simp [-List.getD_eq_getElem?_getD, spl, e6, seqD, datOnly, e3, e', resolves, resolve, tupleD, nilA, h2, outsOf, backG]
/-! ### the marks' loop -/
theorem law_step {α : Type} [DecidableEq α] {e : α → D} {f : α → NestedKey} (inj : ∀ a b, f a = f b → a = b) {m : α} (hm : toTK (e m) = some (f m)) {ks : List α} (nd : ks.Nodup) {o : List D} {a b c d k x : Option L} (h1 : ks.length < cap) (h2 : o.length < cap) :
    l1__law_groups [a, b, c, some (.lst o), d, k, some (.dn (kvs f ks)), some (.dat (e m)), x] = .next [a, b, c, some (.lst (o ++ [iD ((add1 ks m).idxOf m)])), d, k, some (.dn (kvs f (add1 ks m))), some (.dat (e m)), x] := by
  have hl := kvs_len f ks
  by_cases h : m ∈ ks
  · have e1 : look (kvs f ks) (f m) = some (iD (ks.idxOf m)) := by rw [look_kvs inj, if_pos h]
    have e2 : add1 ks m = ks := if_pos h
    have e3 := put_old inj nd h
    simp [l1__law_groups, seqF, storeF, getF, slotB, Res.bd, resolve, isDict, callBF, consP, nilP, resolves, lenD, getD', hm, e1, storeD, hl, h1, e3, exprF, appF, binF, ixD, h2, e2]
  · have e1 : look (kvs f ks) (f m) = none := by rw [look_kvs inj, if_neg h]
    have e2 : add1 ks m = ks ++ [m] := if_neg h
    have e3 := put_new inj h
    have e4 : look (kvs f (ks ++ [m])) (f m) = some (iD ((ks ++ [m]).idxOf m)) := by rw [look_kvs inj, if_pos (by simp)]
    simp [l1__law_groups, seqF, storeF, getF, slotB, Res.bd, resolve, isDict, callBF, consP, nilP, resolves, lenD, getD', hm, e1, storeD, hl, h1, e3, exprF, appF, binF, ixD, h2, e2, e4]
theorem law_loop {α : Type} [DecidableEq α] {e : α → D} {f : α → NestedKey} (inj : ∀ a b, f a = f b → a = b) {a b c d k x : Option L} : ∀ (ms ks : List α) (o : List D) (y : Option L), ks.Nodup → (∀ m ∈ ms, toTK (e m) = some (f m)) → ks.length + ms.length ≤ cap → o.length + ms.length ≤ cap →
    ∃ y', forL (nameG 7) l1__law_groups (ms.map e) [a, b, c, some (.lst o), d, k, some (.dn (kvs f ks)), y, x] = .next [a, b, c, some (.lst (o ++ (numFrom ks ms).map iD)), d, k, some (.dn (kvs f (uniqs ks ms))), y', x]
  | [], ks, o, y, _, _, _, _ => ⟨y, by simp [forL, uniqs, numFrom]⟩
  | m :: ms, ks, o, y, nd, hm, h1, h2 => by
    have hs := law_step inj (hm m (by simp)) nd (o := o) (a := a) (b := b) (c := c) (d := d) (k := k) (x := x) (by simp at h1; omega) (by simp at h2; omega)
    have := add1_len ks m
    obtain ⟨y', e1⟩ := law_loop inj (a := a) (b := b) (c := c) (d := d) (k := k) (x := x) ms (add1 ks m) (o ++ [iD ((add1 ks m).idxOf m)]) (some (.dat (e m))) (add1_nd nd) (fun y hy => hm y (by simp [hy])) (by simp at h1; omega) (by simp at h2 ⊢; omega)
    refine ⟨y', ?_⟩
    have st : nameG 7 (e m) [a, b, c, some (.lst o), d, k, some (.dn (kvs f ks)), y, x] = some [a, b, c, some (.lst o), d, k, some (.dn (kvs f ks)), some (.dat (e m)), x] := rfl
    simp only [List.map_cons, forL, st, hs, e1, numFrom, List.append_assoc, List.singleton_append]
    rfl
def mkD (A : Graph) : Nat → List D
  | 0 => A.map fun k => eH k.w
  | i + 1 => (marks A (gs A i)).map eM
theorem mk_loop {A : Graph} (hn : A.length ≤ 4000) {a b c d k x y : Option L} (i : Nat) : ∃ (kv : List (NestedKey × D)) (y' : Option L), kv.length = cnt A i ∧
    forL (nameG 7) l1__law_groups (mkD A i) [a, b, c, some (.lst []), d, k, some (.dn []), y, x] = .next [a, b, c, some (.lst ((gs A i).map iD)), d, k, some (.dn kv), y', x] := by
  have h4 : (4000 : Nat) + 2 ≤ cap := by decide
  cases i with
  | zero =>
    obtain ⟨y', e⟩ := law_loop (e := eH) (f := kH) kH_inj (a := a) (b := b) (c := c) (d := d) (k := k) (x := x) (A.map (·.w)) [] [] y (by simp) (fun m _ => tkH m) (by simp; omega) (by simp; omega)
    refine ⟨kvs kH (uniqs [] (A.map (·.w))), y', ?_, ?_⟩
    · rw [kvs_len]
      show _ = (uniq (number (A.map (·.w)))).length
      rw [uniq_number]
    · rw [List.map_map, number_from] at e
      exact e
  | succ i =>
    obtain ⟨y', e⟩ := law_loop (e := eM) (f := kM) kM_inj (a := a) (b := b) (c := c) (d := d) (k := k) (x := x) (marks A (gs A i)) [] [] y (by simp) (fun m _ => tkM m) (by rw [marks_len]; simp; omega) (by rw [marks_len]; simp; omega)
    refine ⟨kvs kM (uniqs [] (marks A (gs A i))), y', ?_, ?_⟩
    · rw [kvs_len]
      show _ = (uniq (number (marks A (gs A i)))).length
      rw [uniq_number]
    · rw [number_from] at e
      exact e
abbrev lstG (A : Graph) : D := .lst (A.map encK)
theorem remark {A : Graph} (hA : Wf A) (hn : A.length ≤ 4000) {b c d k m y : Option L} (i : Nat) :
    setF 1 (lcF [8] (rngI1 (callBF lenD (consP (slotB 0) nilP))) (nameG 8) yesT e2__law_groups) [some (.dat (lstG A)), b, c, some (.lst ((gs A i).map iD)), d, k, m, y, none] = .next [some (.dat (lstG A)), some (.lst (mkD A (i + 1))), c, some (.lst ((gs A i).map iD)), d, k, m, y, none] := by
  have h4 : (4000 : Nat) + 2 ≤ cap := by decide
  obtain ⟨g', p', e'⟩ := lcL_inv (vs := [8]) (t := nameG 8) (fe := e2__law_groups) (P := fun s => s = [some (.dat (lstG A)), b, c, some (.lst ((gs A i).map iD)), d, k, m, y, none])
    (F := fun e => match e with | .int a => eM ((gs A i).getD a.toNat 0, (A.getD a.toNat default).ls.map fun l => (gs A i).getD l 0) | _ => .non)
    ((List.range A.length).map iD) [] _ (fun e he s hs => by
      obtain ⟨a, h1, rfl⟩ := List.mem_map.mp he
      subst hs
      have ha := List.mem_range.mp h1
      obtain ⟨q, hq⟩ := some_of ha
      obtain ⟨x, hx⟩ := some_of (l := gs A i) (i := a) (by rw [gs_len]; exact ha)
      have hkk := hA.get hq
      have em := den_marked (Lg := .lst ((gs A i).map iD)) (g := gs A i) rfl hx hkk.1 (fun l hl => by rw [gs_len]; exact hkk.2 l hl)
      have e1 : atI (A.map encK) (a : Int) = some (encK q) := atI_map hq
      refine ⟨_, .dat (eM (x, q.ls.map fun l => (gs A i).getD l 0)), [some (.dat (lstG A)), b, c, some (.lst ((gs A i).map iD)), d, k, m, y, some (.dat (iD a))], rfl, ?_, by simp [hq, hx], rfl⟩
      simp [-List.getD_eq_getElem?_getD, nameG, e2__law_groups, callF, consP, slotB, frzB, nameF, binF, Res.bd, nilP, resolve, ixD, e1, argsL, em, putG, idxR]) rfl (by simp; omega)
  subst p'
  have e2 : ((List.range A.length).map iD).map (fun e => match e with | .int a => eM ((gs A i).getD a.toNat 0, (A.getD a.toNat default).ls.map fun l => (gs A i).getD l 0) | _ => .non) = mkD A (i + 1) := by
    show _ = (marks A (gs A i)).map eM
    unfold marks
    rw [List.map_map, List.map_map]
    refine List.map_congr_left fun a _ => ?_
    simp
  rw [e2, List.nil_append] at e'
  have e3 : rngI1 (callBF lenD (consP (slotB 0) nilP)) [some (.dat (lstG A)), b, c, some (.lst ((gs A i).map iD)), d, k, m, y, none] = .ok ((List.range A.length).map iD) [some (.dat (lstG A)), b, c, some (.lst ((gs A i).map iD)), d, k, m, y, none] := by
    refine rng_nat ?_ (by omega)
    simp [callBF, consP, slotB, nilP, Res.bd, resolves, resolve, lenD]
  have e4 : [8].all (datOnly [some (L.dat (lstG A)), b, c, some (.lst ((gs A i).map iD)), d, k, m, y, none]) = true := rfl
  have e5 : wipeG [some (L.dat (lstG A)), b, c, some (.lst ((gs A i).map iD)), d, k, m, y, none] [8] = [some (L.dat (lstG A)), b, c, some (.lst ((gs A i).map iD)), d, k, m, y, none] := rfl
  simp only [setF, lcF, e3, e4, if_true, e5, e']
  rfl
theorem groups_body {A : Graph} (hA : Wf A) (hn : A.length ≤ 4000) {c grp k knw y : Option L} {many i : Nat} :
    (cnt A i = many → ∃ g', l2__law_groups [some (.dat (lstG A)), some (.lst (mkD A i)), c, grp, some (.dat (iD many)), k, knw, y, none] = .ret (.lst ((gs A i).map iD)) g') ∧
    (cnt A i ≠ many → ∃ m' y', l2__law_groups [some (.dat (lstG A)), some (.lst (mkD A i)), c, grp, some (.dat (iD many)), k, knw, y, none] = .next [some (.dat (lstG A)), some (.lst (mkD A (i + 1))), c, some (.lst ((gs A i).map iD)), some (.dat (iD (cnt A i))), k, m', y', none]) := by
  obtain ⟨kv, y', hk, e⟩ := mk_loop hn (a := some (.dat (lstG A))) (b := some (.dat (.lst (mkD A i)))) (c := c) (d := some (.dat (iD many))) (k := k) (x := none) (y := y) i
  have s1 : setF 6 newN [some (.dat (lstG A)), some (.lst (mkD A i)), c, grp, some (.dat (iD many)), k, knw, y, none] = .next [some (.dat (lstG A)), some (.lst (mkD A i)), c, grp, some (.dat (iD many)), k, some (.dn []), y, none] := rfl
  have s2 : setF 3 (lstF nilA) [some (.dat (lstG A)), some (.lst (mkD A i)), c, grp, some (.dat (iD many)), k, some (.dn []), y, none] = .next [some (.dat (lstG A)), some (.lst (mkD A i)), c, some (.lst []), some (.dat (iD many)), k, some (.dn []), y, none] := rfl
  have s3 : forF (seqI (nameF 1)) (nameG 7) l1__law_groups [some (.dat (lstG A)), some (.lst (mkD A i)), c, some (.lst []), some (.dat (iD many)), k, some (.dn []), y, none] = .next [some (.dat (lstG A)), some (.dat (.lst (mkD A i))), c, some (.lst ((gs A i).map iD)), some (.dat (iD many)), k, some (.dn kv), y', none] := by
    have : seqI (nameF 1) [some (.dat (lstG A)), some (.lst (mkD A i)), c, some (.lst []), some (.dat (iD many)), k, some (.dn []), y, none] = .ok (mkD A i) [some (.dat (lstG A)), some (.dat (.lst (mkD A i))), c, some (.lst []), some (.dat (iD many)), k, some (.dn []), y, none] := rfl
    simp only [forF, this, e]
  have t4 : testF (binF eqD (frzB (callBF lenD (consP (slotB 6) nilP))) (slotB 4)) [some (.dat (lstG A)), some (.dat (.lst (mkD A i))), c, some (.lst ((gs A i).map iD)), some (.dat (iD many)), k, some (.dn kv), y', none] = .ok (decide (cnt A i = many)) [some (.dat (lstG A)), some (.dat (.lst (mkD A i))), c, some (.lst ((gs A i).map iD)), some (.dat (iD many)), k, some (.dn kv), y', none] := by
    have h1 := eqD_int ((cnt A i : Nat) : Int) (many : Int)
    simp only [testF, binF, frzB, callBF, consP, slotB, nilP, Res.bd, List.getElem?_cons_succ, List.getElem?_cons_zero, resolves, resolve, view_dn, lenD, hk, view_dat, h1]
    congr 1
    rw [Bool.eq_iff_iff, decide_eq_true_eq, decide_eq_true_eq]
    exact ⟨fun z => Int.ofNat.inj z, fun z => by rw [z]⟩
  have s5 : setF 4 (callBF lenD (consP (slotB 6) nilP)) [some (.dat (lstG A)), some (.dat (.lst (mkD A i))), c, some (.lst ((gs A i).map iD)), some (.dat (iD many)), k, some (.dn kv), y', none] = .next [some (.dat (lstG A)), some (.dat (.lst (mkD A i))), c, some (.lst ((gs A i).map iD)), some (.dat (iD (cnt A i))), k, some (.dn kv), y', none] := by
    simp [setF, callBF, consP, slotB, nilP, Res.bd, resolves, resolve, lenD, hk]
  have s6 := remark hA hn (b := some (.dat (.lst (mkD A i)))) (c := c) (d := some (.dat (iD (cnt A i)))) (k := k) (m := some (.dn kv)) (y := y') i
  constructor
  · intro h
    have s4 : ifF (testF (binF eqD (frzB (callBF lenD (consP (slotB 6) nilP))) (slotB 4))) (retF (moveF 3)) skipF [some (.dat (lstG A)), some (.dat (.lst (mkD A i))), c, some (.lst ((gs A i).map iD)), some (.dat (iD many)), k, some (.dn kv), y', none] = .ret (.lst ((gs A i).map iD)) [some (.dat (lstG A)), some (.dat (.lst (mkD A i))), c, none, some (.dat (iD many)), k, some (.dn kv), y', none] := by
      simp only [ifF, t4, h, decide_true, if_true]
      rfl
    exact ⟨[some (.dat (lstG A)), some (.dat (.lst (mkD A i))), c, none, some (.dat (iD many)), k, some (.dn kv), y', none], by simp only [l2__law_groups, seqF, s1, s2, s3, s4]⟩
  · intro h
    have s4 : ifF (testF (binF eqD (frzB (callBF lenD (consP (slotB 6) nilP))) (slotB 4))) (retF (moveF 3)) skipF [some (.dat (lstG A)), some (.dat (.lst (mkD A i))), c, some (.lst ((gs A i).map iD)), some (.dat (iD many)), k, some (.dn kv), y', none] = .next [some (.dat (lstG A)), some (.dat (.lst (mkD A i))), c, some (.lst ((gs A i).map iD)), some (.dat (iD many)), k, some (.dn kv), y', none] := by
      simp only [ifF, t4, h, decide_false, Bool.false_eq_true, if_false]
      rfl
    exact ⟨some (.dn kv), y', by simp only [l2__law_groups, seqF, s1, s2, s3, s4, s5, s6]⟩
theorem groups_loop {A : Graph} (hA : Wf A) (hn : A.length ≤ 4000) {c : Option L} : ∀ (ds : List D) (i many : Nat) (grp k knw y : Option L), many ≤ cnt A i → (i = 0 → many = 0) → (∀ j, i = j + 1 → many = cnt A j) → A.length < ds.length + many →
    ∃ g', forL (nameG 5) l2__law_groups ds [some (.dat (lstG A)), some (.lst (mkD A i)), c, grp, some (.dat (iD many)), k, knw, y, none] = .ret (.lst ((stabF A ds.length i many).map iD)) g'
  | [], i, many, grp, k, knw, y, h1, h2, h3, hf => by have := cnt_le (A := A) i; simp at hf; omega
  | d :: ds, i, many, grp, k, knw, y, h1, h2, h3, hf => by
    have tg : nameG 5 d [some (.dat (lstG A)), some (.lst (mkD A i)), c, grp, some (.dat (iD many)), k, knw, y, none] = some [some (.dat (lstG A)), some (.lst (mkD A i)), c, grp, some (.dat (iD many)), some (.dat d), knw, y, none] := rfl
    obtain ⟨b1, b2⟩ := groups_body hA hn (c := c) (grp := grp) (k := some (.dat d)) (knw := knw) (y := y) (many := many) (i := i)
    have e0 : stabF A (d :: ds).length i many = if cnt A i = many then gs A i else stabF A ds.length (i + 1) (cnt A i) := rfl
    rw [e0]
    by_cases e : cnt A i = many
    · obtain ⟨g', e1⟩ := b1 e
      refine ⟨g', ?_⟩
      rw [if_pos e]
      simp only [forL, tg, e1]
    · obtain ⟨m', y', e1⟩ := b2 e
      obtain ⟨g', e2⟩ := groups_loop hA hn (c := c) ds (i + 1) (cnt A i) (some (.lst ((gs A i).map iD))) (some (.dat d)) m' y' (cnt_mono i) (fun z => by omega) (fun j hj => by cases hj; rfl) (by simp at hf; omega)
      refine ⟨g', ?_⟩
      rw [if_neg e]
      simp only [forL, tg, e1, e2]
end K15

set_option maxHeartbeats 4000000
namespace K15
open PySem L2 B Gr
theorem den_law_groups {A : Graph} (hA : Wf A) (hn : A.length ≤ 4000) : d__law_groups [.dat (lstG A)] = some (.lst ((stab A).map iD), [none]) := by
  have h4 : (4000 : Nat) + 2 ≤ cap := by decide
  obtain ⟨g1, p1, e1⟩ := lc_knots (fe := e1__law_groups) (f := fun k => eH k.w) (v := 2) (t := nameG 2) (A := A) (P := fun g => g = [some (.dat (lstG A)), none, none, none, none, none, none, none, none]) _ (fun k hk g hg => by
    subst hg
    have es := den_split (hA.2 k hk).1
    have e0 := split_get0 k
    refine ⟨_, .dat (eH k.w), [some (.dat (lstG A)), none, some (.dat (encK k)), none, none, none, none, none, none], rfl, ?_, rfl, rfl⟩
    simp only [e1__law_groups, binF, frzB, callF, consP, nameF, nameG, List.set_cons_succ, List.set_cons_zero, List.getElem?_cons_succ, List.getElem?_cons_zero, Res.bd, nilP, argsL, Option.map_some, view_dat, es, putG, idxR, constF, resolve, e0]
    rfl) rfl (by omega)
  subst p1
  have s1 : setF 1 (lcF [2] (seqI (nameF 0)) (nameG 2) yesT e1__law_groups) [some (.dat (lstG A)), none, none, none, none, none, none, none, none] = .next [some (.dat (lstG A)), some (.lst (mkD A 0)), none, none, none, none, none, none, none] := by
    have h1 : seqI (nameF 0) [some (.dat (lstG A)), none, none, none, none, none, none, none, none] = .ok (A.map encK) [some (.dat (lstG A)), none, none, none, none, none, none, none, none] := rfl
    have h2 : [2].all (datOnly [some (L.dat (lstG A)), none, none, none, none, none, none, none, none]) = true := rfl
    have h3 : wipeG [some (L.dat (lstG A)), none, none, none, none, none, none, none, none] [2] = [some (L.dat (lstG A)), none, none, none, none, none, none, none, none] := rfl
    simp only [setF, lcF, h1, h2, if_true, h3, e1]
    rfl
  have s2 : setF 3 (lstF nilA) [some (.dat (lstG A)), some (.lst (mkD A 0)), none, none, none, none, none, none, none] = .next [some (.dat (lstG A)), some (.lst (mkD A 0)), none, some (.lst []), none, none, none, none, none] := rfl
  have s3 : setF 4 (constF (.int 0)) [some (.dat (lstG A)), some (.lst (mkD A 0)), none, some (.lst []), none, none, none, none, none] = .next [some (.dat (lstG A)), some (.lst (mkD A 0)), none, some (.lst []), some (.dat (iD 0)), none, none, none, none] := rfl
  obtain ⟨g', e2⟩ := groups_loop hA hn (c := none) ((List.range (A.length + 1)).map iD) 0 0 (some (.lst [])) none none none (Nat.zero_le _) (fun _ => rfl) (fun j hj => by omega) (by simp)
  have e3 : ((List.range (A.length + 1)).map iD).length = A.length + 1 := by simp
  rw [e3] at e2
  have s4 : forF (rngI1 (binF addD (frzB (callBF lenD (consP (slotB 0) nilP))) (frzB (constF (.int 1))))) (nameG 5) l2__law_groups [some (.dat (lstG A)), some (.lst (mkD A 0)), none, some (.lst []), some (.dat (iD 0)), none, none, none, none] = .ret (.lst ((stab A).map iD)) g' := by
    have h1 : rngI1 (binF addD (frzB (callBF lenD (consP (slotB 0) nilP))) (frzB (constF (.int 1)))) [some (.dat (lstG A)), some (.lst (mkD A 0)), none, some (.lst []), some (.dat (iD 0)), none, none, none, none] = .ok ((List.range (A.length + 1)).map iD) [some (.dat (lstG A)), some (.lst (mkD A 0)), none, some (.lst []), some (.dat (iD 0)), none, none, none, none] := by
      refine rng_nat ?_ (by omega)
      simp [binF, frzB, callBF, consP, slotB, nilP, Res.bd, resolves, resolve, lenD, constF, addD]
    simp only [forF, h1, e2]
    rfl
  show runDef 9 [false] body__law_groups [.dat (lstG A)] = _
  unfold runDef
  show (match body__law_groups [some (L.dat (lstG A)), none, none, none, none, none, none, none, none] with
    | .ret l g' => some (l, outsOf [false] g')
    | .next g' => some (.dat .non, outsOf [false] g')
    | _ => none) = _
  simp only [body__law_groups, seqF, s1, s2, s3, s4]
  rfl
/-! ### _law_least -/
/-- places by classes, the order by knots -/
def lw_ (A : Graph) (Ok : List Nat) (k x f a h l : Option L) : B.G :=
  [some (.dat (lstG A)), some (.lst ((stab A).map iD)), some (.lst (Ok.map iD)), some (.dk (kvs kI (Ok.map (gr A)))), k, x, f, a, h, l]
theorem lw_inner {A : Graph} {Ok : List Nat} {l : Nat} {k f a h q : Option L} (hl : l < A.length) (ho : Ok.length < cap) :
    l1__law_least (lw_ A Ok k (some (.dat (iD l))) f a h q) = .next (lw_ A (if gr A l ∈ Ok.map (gr A) then Ok else Ok ++ [l]) k (some (.dat (iD l))) f a h q) := by
  have e1 : atI ((stab A).map iD) (l : Int) = some (iD (gr A l)) := atI_map (stab_get hl)
  have hkl := kvs_len kI (Ok.map (gr A))
  rw [List.length_map] at hkl
  by_cases hm : gr A l ∈ Ok.map (gr A)
  · have e2 : look (kvs kI (Ok.map (gr A))) (Sum.inl ((gr A l : Nat) : Int)) = some (iD ((Ok.map (gr A)).idxOf (gr A l))) := by
      have := look_kvs kI_inj (gr A l) (Ok.map (gr A))
      rw [if_pos hm] at this; exact this
    rw [if_pos hm]
    simp [-List.getD_eq_getElem?_getD, lw_, l1__law_least, ifF, andT, testF, binF, slotB, frzB, constF, Res.bd, resolve, isnotD, nonB, ixD, e1, notinD, inB, toKey, e2, skipF]
  · have e2 : look (kvs kI (Ok.map (gr A))) (Sum.inl ((gr A l : Nat) : Int)) = none := by
      have := look_kvs kI_inj (gr A l) (Ok.map (gr A))
      rw [if_neg hm] at this; exact this
    have e4 : put (kvs kI (Ok.map (gr A))) (Sum.inl ((gr A l : Nat) : Int)) (D.int (Ok.length : Int)) = kvs kI (Ok.map (gr A) ++ [gr A l]) := by
      have := put_new kI_inj hm
      rwa [List.length_map] at this
    rw [if_neg hm]
    simp [-List.getD_eq_getElem?_getD, lw_, l1__law_least, ifF, andT, testF, binF, slotB, frzB, constF, Res.bd, resolve, isnotD, nonB, ixD, e1, notinD, inB, toKey, e2, seqF, storeF, callBF, consP, nilP, resolves, lenD, storeD, hkl, ho, e4, exprF, appF, nameF]
/-- the knots' order as the classes' -/
def pushK (A : Graph) (Ok : List Nat) (l : Nat) : List Nat := if gr A l ∈ Ok.map (gr A) then Ok else Ok ++ [l]
theorem pushK_gr (A : Graph) (Ok : List Nat) (l : Nat) : (pushK A Ok l).map (gr A) = add1 (Ok.map (gr A)) (gr A l) := by
  unfold pushK add1
  split <;> simp
theorem pushK_lt {A : Graph} {Ok : List Nat} {l : Nat} (h : ∀ x ∈ Ok, x < A.length) (hl : l < A.length) : ∀ x ∈ pushK A Ok l, x < A.length := by
  unfold pushK
  split
  · exact h
  · intro x hx
    rcases List.mem_append.mp hx with hx | hx
    · exact h x hx
    · cases List.mem_singleton.mp hx; exact hl
theorem lw_loop {A : Graph} {k f a h q : Option L} : ∀ (ls Ok : List Nat) (x : Option L), Dt x → (∀ l ∈ ls, l < A.length) → (∀ l ∈ Ok, l < A.length) → Ok.length + ls.length ≤ cap →
    ∃ (Ok' : List Nat) (x' : Option L), Dt x' ∧ (∀ l ∈ Ok', l < A.length) ∧ Ok'.map (gr A) = uniqs (Ok.map (gr A)) (ls.map (gr A)) ∧ forL (nameG 5) l1__law_least (ls.map iD) (lw_ A Ok k x f a h q) = .next (lw_ A Ok' k x' f a h q) ∧ ∃ t, Ok' = Ok ++ t
  | [], Ok, x, hx, _, ho, _ => ⟨Ok, x, hx, ho, rfl, rfl, [], by simp⟩
  | l :: ls, Ok, x, hx, hl, ho, hc => by
    have hlen : (pushK A Ok l).length ≤ Ok.length + 1 := by unfold pushK; split <;> simp
    obtain ⟨Ok', x', h1, h2, h3, h4, t, h5⟩ := lw_loop (k := k) (f := f) (a := a) (h := h) (q := q) ls (pushK A Ok l) (some (.dat (iD l))) (.dat _) (fun y hy => hl y (by simp [hy])) (pushK_lt ho (hl l (by simp))) (by simp at hc; omega)
    have hp : ∃ t, pushK A Ok l = Ok ++ t := by
      unfold pushK
      split
      · exact ⟨[], by simp⟩
      · exact ⟨[l], rfl⟩
    obtain ⟨t0, ht0⟩ := hp
    refine ⟨Ok', x', h1, h2, ?_, ?_, t0 ++ t, by rw [h5, ht0, List.append_assoc]⟩
    · rw [h3, pushK_gr]; rfl
    · have tg : nameG 5 (iD l) (lw_ A Ok k x f a h q) = some (lw_ A Ok k (some (.dat (iD l))) f a h q) := rfl
      have st := lw_inner (k := k) (f := f) (a := a) (h := h) (q := q) (Ok := Ok) (hl l (by simp)) (by simp at hc; omega)
      show forL _ _ (iD l :: ls.map iD) _ = _
      simp only [forL, tg, st]
      exact h4
end K15

set_option maxHeartbeats 4000000
namespace K15
open PySem L2 B Gr
theorem knot_links {A : Graph} (hA : Wf A) {a : Nat} {k : Kn} (ha : A[a]? = some k) : k.ls.length ≤ 2 := by
  rw [(hA.get ha).1]; cases k.w <;> decide
theorem lw_outer {A : Graph} (hA : Wf A) (hn : A.length ≤ 4000) {f a h q : Option L} {Ok : List Nat} {i : Nat} {x : Option L} (hx : Dt x) (hO : Ord A (Ok.map (gr A))) (hk : ∀ l ∈ Ok, l < A.length) :
    ∃ (Ok' : List Nat) (x' : Option L), Dt x' ∧ (∀ l ∈ Ok', l < A.length) ∧ Ok'.map (gr A) = (if i < Ok.length then uniqs (Ok.map (gr A)) (ss A ((Ok.map (gr A)).getD i 0)) else Ok.map (gr A)) ∧
      l2__law_least (lw_ A Ok (some (.dat (iD i))) x f a h q) = .next (lw_ A Ok' (some (.dat (iD i))) x' f a h q) := by
  have h4 : (4000 : Nat) + 2 ≤ cap := by decide
  have ht : testF (binF ltD (slotB 4) (frzB (callBF lenD (consP (slotB 2) nilP)))) (lw_ A Ok (some (.dat (iD i))) x f a h q) = .ok (decide (i < Ok.length)) (lw_ A Ok (some (.dat (iD i))) x f a h q) := by
    simp [lw_, testF, binF, slotB, frzB, callBF, consP, nilP, Res.bd, resolves, resolve, lenD, ltD, intsD]
  have hle := hO.le
  rw [List.length_map] at hle
  by_cases hi : i < Ok.length
  · obtain ⟨b, hb⟩ := some_of hi
    have hbl := hk b (List.mem_of_getElem? hb)
    obtain ⟨k, hkk⟩ := some_of hbl
    have hlk := knot_links hA hkk
    obtain ⟨Ok', x', h1, h2, h3, h5, _⟩ := lw_loop (A := A) (k := some (.dat (iD i))) (f := f) (a := a) (h := h) (q := q) k.ls Ok x hx (hA.get hkk).2 hk (by omega)
    refine ⟨Ok', x', h1, h2, ?_, ?_⟩
    · rw [if_pos hi, h3]
      have e1 : (Ok.map (gr A)).getD i 0 = gr A b := getD_of (by rw [List.getElem?_map, hb]; rfl)
      rw [e1, (kn_of hA hkk).2]
    · have e1 : atI (Ok.map iD) (i : Int) = some (iD b) := atI_map hb
      have e2 : atI (A.map encK) (b : Int) = some (encK k) := atI_map hkk
      have es := den_split (hA.get hkk).1
      have e3 := split_get1 k
      have e4 : seqI (binF ixD (frzB (callF [none] d__law_split (consP (frzB (binF ixD (slotB 0) (frzB (binF ixD (slotB 2) (slotB 4))))) nilP))) (frzB (constF (.int 1)))) (lw_ A Ok (some (.dat (iD i))) x f a h q) = .ok (k.ls.map iD) (lw_ A Ok (some (.dat (iD i))) x f a h q) := by
        have e5 : binF ixD (slotB 0) (frzB (binF ixD (slotB 2) (slotB 4))) (lw_ A Ok (some (.dat (iD i))) x f a h q) = .ok (.dat (encK k)) (lw_ A Ok (some (.dat (iD i))) x f a h q) := by
          simp [lw_, binF, slotB, frzB, Res.bd, resolve, ixD, e1, e2]
        have e6 : callF [none] d__law_split (consP (frzB (binF ixD (slotB 0) (frzB (binF ixD (slotB 2) (slotB 4))))) nilP) (lw_ A Ok (some (.dat (iD i))) x f a h q) = .ok (.dat (spl k)) (lw_ A Ok (some (.dat (iD i))) x f a h q) := by
          simp only [callF, consP, frzB, e5, Res.bd, nilP, view_dat, argsL, Option.map_some, es]
          rfl
        simp only [seqI, binF, frzB, e6, Res.bd, constF, resolve, view_dat, e3, seqD]
      simp only [l2__law_least, ifF, ht, hi, decide_true, if_true, forF, e4, h5]
  · refine ⟨Ok, x, hx, hk, by rw [if_neg hi], ?_⟩
    simp only [l2__law_least, ifF, ht, hi, decide_false, Bool.false_eq_true, if_false]
    rfl
theorem bfsF_stop (s : Nat → List Nat) : ∀ (f i : Nat) (O : List Nat), O.length ≤ i → bfsF s f i O = O
  | 0, _, _, _ => rfl
  | f + 1, i, O, h => by rw [bfsF_succ, if_neg (by omega)]
theorem lw_walk {A : Graph} (hA : Wf A) (hn : A.length ≤ 4000) {f a h q : Option L} : ∀ (m i : Nat) (Ok : List Nat) (y x : Option L), Dt x → Ord A (Ok.map (gr A)) → (∀ l ∈ Ok, l < A.length) →
    ∃ (Ok' : List Nat) (y' x' : Option L), Dt x' ∧ (∀ l ∈ Ok', l < A.length) ∧ Ok'.map (gr A) = bfsF (ss A) m i (Ok.map (gr A)) ∧ forL (nameG 4) l2__law_least ((List.range' i m).map iD) (lw_ A Ok y x f a h q) = .next (lw_ A Ok' y' x' f a h q)
  | 0, i, Ok, y, x, hx, hO, hk => ⟨Ok, y, x, hx, hk, rfl, rfl⟩
  | m + 1, i, Ok, y, x, hx, hO, hk => by
    obtain ⟨Ok1, x1, h1, h2, h3, h4⟩ := lw_outer hA hn (f := f) (a := a) (h := h) (q := q) (i := i) hx hO hk
    have hO1 : Ord A (Ok1.map (gr A)) := by
      rw [h3]
      by_cases hi : i < Ok.length
      · rw [if_pos hi]; exact hO.step hA (by simpa using hi)
      · rw [if_neg hi]; exact hO
    obtain ⟨Ok', y', x', g1, g2, g3, g4⟩ := lw_walk hA hn (f := f) (a := a) (h := h) (q := q) m (i + 1) Ok1 (some (.dat (iD i))) x1 h1 hO1 h2
    refine ⟨Ok', y', x', g1, g2, ?_, ?_⟩
    · rw [g3, bfsF_succ, h3]
      by_cases hi : i < Ok.length
      · rw [if_pos hi, if_pos (by simpa using hi)]
      · rw [if_neg hi, if_neg (by simpa using hi), bfsF_stop _ _ _ _ (by simp; omega)]
    · have tg : nameG 4 (iD i) (lw_ A Ok y x f a h q) = some (lw_ A Ok (some (.dat (iD i))) x f a h q) := rfl
      rw [List.range'_succ]
      show forL _ _ (iD i :: (List.range' (i + 1) m).map iD) _ = _
      simp only [forL, tg, h4]
      exact g4
/-- the last loop's state: the order is data -/
def lz_ (A : Graph) (Ok : List Nat) (k x : Option L) (F : List D) (a h l : Option L) : B.G :=
  [some (.dat (lstG A)), some (.lst ((stab A).map iD)), some (.dat (nats Ok)), some (.dk (kvs kI (Ok.map (gr A)))), k, x, some (.lst F), a, h, l]
theorem lz_step {A : Graph} (hA : Wf A) {Ok : List Nat} {k x h q : Option L} {F : List D} {a : Nat} (ha : a < A.length) (hcl : ∀ e ∈ ss A (gr A a), e ∈ Ok.map (gr A)) (hx : Dt x) (hF : F.length < cap) :
    ∃ h' q', l3__law_least (lz_ A Ok k x F (some (.dat (iD a))) h q) = .next (lz_ A Ok k x (F ++ [encK (knOf A (Ok.map (gr A)) (gr A a))]) (some (.dat (iD a))) h' q') := by
  obtain ⟨kk, hk⟩ := some_of ha
  have hlk := knot_links hA hk
  have h2 : (3 : Nat) < cap := by decide
  have hkn := hA.get hk
  have e2 : atI (A.map encK) (a : Int) = some (encK kk) := atI_map hk
  have es := den_split hkn.1
  obtain ⟨w1, w2⟩ := kn_of hA hk
  obtain ⟨g', p', e'⟩ := lcL_inv (vs := [5]) (t := nameG 5) (fe := e1__law_least) (P := fun s => s = lz_ A Ok k none F (some (.dat (iD a))) (some (.dat (eH kk.w))) (some (.dat (nats kk.ls)))) (F := fun e => match e with | .int l => iD ((Ok.map (gr A)).idxOf (gr A l.toNat)) | _ => .non)
    (kk.ls.map iD) [] _ (fun e he s hs => by
      obtain ⟨l, h1, rfl⟩ := List.mem_map.mp he
      subst hs
      have e5 : atI ((stab A).map iD) (l : Int) = some (iD (gr A l)) := atI_map (stab_get (hkn.2 l h1))
      have e6 : look (kvs kI (Ok.map (gr A))) (Sum.inl ((gr A l : Nat) : Int)) = some (iD ((Ok.map (gr A)).idxOf (gr A l))) := by
        have := look_kvs kI_inj (gr A l) (Ok.map (gr A))
        rw [if_pos (hcl _ (by rw [w2]; exact List.mem_map.mpr ⟨l, h1, rfl⟩))] at this; exact this
      refine ⟨_, .dat (iD ((Ok.map (gr A)).idxOf (gr A l))), lz_ A Ok k (some (.dat (iD l))) F (some (.dat (iD a))) (some (.dat (eH kk.w))) (some (.dat (nats kk.ls))), rfl, ?_, by simp, rfl⟩
      simp [-List.getD_eq_getElem?_getD, lz_, nameG, e1__law_least, ifE, testF, binF, slotB, frzB, constF, Res.bd, resolve, isnotD, nonB, ixD, e5, toKey, e6]) rfl (by simp; omega)
  subst p'
  have e7 : (kk.ls.map iD).map (fun e => match e with | .int l => iD ((Ok.map (gr A)).idxOf (gr A l.toNat)) | _ => .non) = ((ss A (gr A a)).map fun e => (Ok.map (gr A)).idxOf e).map iD := by
    rw [w2, List.map_map, List.map_map, List.map_map]
    refine List.map_congr_left fun l _ => ?_
    simp
  rw [e7, List.nil_append] at e'
  have s1 : asgF (tupG (consG (nameG 8) (consG (nameG 9) nilG))) (callF [none] d__law_split (consP (frzB (binF ixD (slotB 0) (slotB 7))) nilP)) (lz_ A Ok k x F (some (.dat (iD a))) h q) = .next (lz_ A Ok k x F (some (.dat (iD a))) (some (.dat (eH kk.w))) (some (.dat (nats kk.ls)))) := by
    have e5 : binF ixD (slotB 0) (slotB 7) (lz_ A Ok k x F (some (.dat (iD a))) h q) = .ok (.dat (encK kk)) (lz_ A Ok k x F (some (.dat (iD a))) h q) := by
      simp [lz_, binF, slotB, Res.bd, resolve, ixD, e2]
    have e6 : callF [none] d__law_split (consP (frzB (binF ixD (slotB 0) (slotB 7))) nilP) (lz_ A Ok k x F (some (.dat (iD a))) h q) = .ok (.dat (spl kk)) (lz_ A Ok k x F (some (.dat (iD a))) h q) := by
      simp only [callF, consP, frzB, e5, Res.bd, nilP, view_dat, argsL, Option.map_some, es]
      rfl
    simp only [asgF, e6]
    rfl
  have e8 : [5].all (datOnly (lz_ A Ok k x F (some (.dat (iD a))) (some (.dat (eH kk.w))) (some (.dat (nats kk.ls))))) = true := by
    rcases hx with rfl | ⟨y, rfl⟩ <;> rfl
  have e9 : wipeG (lz_ A Ok k x F (some (.dat (iD a))) (some (.dat (eH kk.w))) (some (.dat (nats kk.ls)))) [5] = lz_ A Ok k none F (some (.dat (iD a))) (some (.dat (eH kk.w))) (some (.dat (nats kk.ls))) := rfl
  have e10 : backG (lz_ A Ok k x F (some (.dat (iD a))) (some (.dat (eH kk.w))) (some (.dat (nats kk.ls)))) [5] (lz_ A Ok k none F (some (.dat (iD a))) (some (.dat (eH kk.w))) (some (.dat (nats kk.ls)))) = lz_ A Ok k x F (some (.dat (iD a))) (some (.dat (eH kk.w))) (some (.dat (nats kk.ls))) := by
    rcases hx with rfl | ⟨y, rfl⟩ <;> rfl
  have e11 : seqI (nameF 9) (lz_ A Ok k x F (some (.dat (iD a))) (some (.dat (eH kk.w))) (some (.dat (nats kk.ls)))) = .ok (kk.ls.map iD) (lz_ A Ok k x F (some (.dat (iD a))) (some (.dat (eH kk.w))) (some (.dat (nats kk.ls)))) := rfl
  have e12 : lcF [5] (seqI (nameF 9)) (nameG 5) yesT e1__law_least (lz_ A Ok k x F (some (.dat (iD a))) (some (.dat (eH kk.w))) (some (.dat (nats kk.ls)))) = .ok (.lst (((ss A (gr A a)).map fun e => (Ok.map (gr A)).idxOf e).map iD)) (lz_ A Ok k x F (some (.dat (iD a))) (some (.dat (eH kk.w))) (some (.dat (nats kk.ls)))) := by
    simp only [lcF, e11, e8, if_true, e9, e', e10]
  have hss : (ss A (gr A a)).length ≤ 2 := by rw [w2, List.length_map]; exact hlk
  have e13 : addD (eH kk.w) (.tup (((ss A (gr A a)).map fun e => (Ok.map (gr A)).idxOf e).map iD)) = some (encK (knOf A (Ok.map (gr A)) (gr A a))) := by
    have : [D.str (ws kk.w)].length + (((ss A (gr A a)).map fun e => (Ok.map (gr A)).idxOf e).map iD).length ≤ cap := by
      simp only [List.length_map, List.length_singleton]; omega
    simp only [addD, if_pos this]
    unfold encK knOf
    rw [w1]
    rfl
  refine ⟨some (.dat (eH kk.w)), some (.dat (nats kk.ls)), ?_⟩
  simp only [l3__law_least, seqF, s1]
  have e14 : binF addD (slotB 8) (frzB (callBF tupleD (consP (frzB (lcF [5] (seqI (nameF 9)) (nameG 5) yesT e1__law_least)) nilP))) (lz_ A Ok k x F (some (.dat (iD a))) (some (.dat (eH kk.w))) (some (.dat (nats kk.ls)))) = .ok (.dat (encK (knOf A (Ok.map (gr A)) (gr A a)))) (lz_ A Ok k x F (some (.dat (iD a))) (some (.dat (eH kk.w))) (some (.dat (nats kk.ls)))) := by
    have e15 : slotB 8 (lz_ A Ok k x F (some (.dat (iD a))) (some (.dat (eH kk.w))) (some (.dat (nats kk.ls)))) = .ok (.slot 8) (lz_ A Ok k x F (some (.dat (iD a))) (some (.dat (eH kk.w))) (some (.dat (nats kk.ls)))) := rfl
    have e16 : (lz_ A Ok k x F (some (.dat (iD a))) (some (.dat (eH kk.w))) (some (.dat (nats kk.ls))))[8]? = some (some (.dat (eH kk.w))) := rfl
    simp only [binF, e15, Res.bd, frzB, callBF, consP, e12, nilP, resolves, resolve, view_lst, tupleD, view_dat, e16, e13]
  simp only [exprF, appF, e14, Res.bd]
  simp only [lz_, List.getElem?_cons_succ, List.getElem?_cons_zero, if_pos hF, view_dat, List.set_cons_succ, List.set_cons_zero]
theorem lz_loop {A : Graph} (hA : Wf A) {Ok : List Nat} {k x : Option L} (hx : Dt x) (hcl : ∀ d ∈ Ok, ∀ e ∈ ss A (gr A d), e ∈ Ok.map (gr A)) (hk : ∀ l ∈ Ok, l < A.length) :
    ∀ (l : List Nat) (F : List D) (a h q : Option L), (∀ d ∈ l, d ∈ Ok) → F.length + l.length ≤ cap →
    ∃ a' h' q', forL (nameG 7) l3__law_least (l.map iD) (lz_ A Ok k x F a h q) = .next (lz_ A Ok k x (F ++ l.map fun d => encK (knOf A (Ok.map (gr A)) (gr A d))) a' h' q')
  | [], F, a, h, q, _, _ => ⟨a, h, q, by simp [forL]⟩
  | d :: l, F, a, h, q, hm, hc => by
    obtain ⟨h1, q1, e1⟩ := lz_step hA (k := k) (h := h) (q := q) (F := F) (hk d (hm d (by simp))) (hcl d (hm d (by simp))) hx (by simp at hc; omega)
    obtain ⟨a', h', q', e2⟩ := lz_loop hA (k := k) hx hcl hk l (F ++ [encK (knOf A (Ok.map (gr A)) (gr A d))]) (some (.dat (iD d))) h1 q1 (fun y hy => hm y (by simp [hy])) (by simp at hc ⊢; omega)
    refine ⟨a', h', q', ?_⟩
    have tg : nameG 7 (iD d) (lz_ A Ok k x F a h q) = some (lz_ A Ok k x F (some (.dat (iD d))) h q) := rfl
    show forL _ _ (iD d :: l.map iD) _ = _
    simp only [forL, tg, e1, e2, List.map_cons, List.append_assoc, List.singleton_append]
theorem den_law_least {A : Graph} (hA : Wf A) (hn : A.length ≤ 4000) : d__law_least [.dat (lstG A)] = some (.dat (tupG_ (lst A)), [none]) := by
  have h4 : (4000 : Nat) + 2 ≤ cap := by decide
  have e1 := den_law_groups hA hn
  obtain ⟨Ok, y, x, hx, hk, hO, e2⟩ := lw_walk hA hn (f := none) (a := none) (h := none) (q := none) A.length 0 [0] none none (.inl rfl) (ord0 hA) (fun l hl => by cases List.mem_singleton.mp hl; exact hA.1)
  have hO' : Ok.map (gr A) = bfs A := hO
  have hlen : Ok.length ≤ A.length := by
    have := (bfs_ord hA).le
    rw [← hO', List.length_map] at this; exact this
  obtain ⟨_, cl⟩ := bfs_closed hA
  obtain ⟨a', h', q', e3⟩ := lz_loop hA (Ok := Ok) (k := y) hx (fun d hd e he => by
    rw [hO']
    exact cl (gr A d) (by rw [← hO']; exact List.mem_map.mpr ⟨d, hd, rfl⟩) e he) hk Ok [] none none none (fun d hd => hd) (by simp; omega)
  have e4 : Ok.map (fun d => encK (knOf A (Ok.map (gr A)) (gr A d))) = (lst A).map encK := by
    unfold lst
    rw [List.map_map, ← hO', List.map_map]
    rfl
  rw [List.nil_append, e4] at e3
  rw [← List.range_eq_range'] at e2
  have s1 : setF 1 (callF [none] d__law_groups (consP (frzB (nameF 0)) nilP)) [some (.dat (lstG A)), none, none, none, none, none, none, none, none, none] = .next [some (.dat (lstG A)), some (.lst ((stab A).map iD)), none, none, none, none, none, none, none, none] := by
    simp [setF, callF, consP, frzB, nameF, Res.bd, nilP, argsL, e1, putG, idxR]
  have s2 : setF 2 (lstF (consA (constF (.int 0)) nilA)) [some (.dat (lstG A)), some (.lst ((stab A).map iD)), none, none, none, none, none, none, none, none] = .next [some (.dat (lstG A)), some (.lst ((stab A).map iD)), some (.lst [.int 0]), none, none, none, none, none, none, none] := by
    have h1 : (1 : Nat) ≤ cap := by decide
    simp [setF, lstF, consA, constF, Res.bd, nilA, h1]
  have e6 : atI ((stab A).map iD) (0 : Int) = some (iD (gr A 0)) := atI_map (i := 0) (stab_get hA.1)
  have s3 : setF 3 (dispF (binF ixD (slotB 1) (frzB (constF (.int 0)))) (constF (.int 0))) [some (.dat (lstG A)), some (.lst ((stab A).map iD)), some (.lst [.int 0]), none, none, none, none, none, none, none] = .next (lw_ A [0] none none none none none none) := by
    simp [-List.getD_eq_getElem?_getD, setF, dispF, binF, slotB, frzB, constF, Res.bd, resolve, ixD, e6, toKey, lw_, kvs, kvsN]
  have s4 : forF (rngI1 (callBF lenD (consP (slotB 0) nilP))) (nameG 4) l2__law_least (lw_ A [0] none none none none none none) = .next (lw_ A Ok y x none none none none) := by
    have h1 : rngI1 (callBF lenD (consP (slotB 0) nilP)) (lw_ A [0] none none none none none none) = .ok ((List.range A.length).map iD) (lw_ A [0] none none none none none none) := by
      refine rng_nat ?_ (by omega)
      simp [lw_, callBF, consP, slotB, nilP, Res.bd, resolves, resolve, lenD]
    simp only [forF, h1, e2]
  have s5 : setF 6 (lstF nilA) (lw_ A Ok y x none none none none) = .next (lw_ A Ok y x (some (.lst [])) none none none) := rfl
  have s6 : forF (seqI (nameF 2)) (nameG 7) l3__law_least (lw_ A Ok y x (some (.lst [])) none none none) = .next (lz_ A Ok y x ((lst A).map encK) a' h' q') := by
    have h1 : seqI (nameF 2) (lw_ A Ok y x (some (.lst [])) none none none) = .ok (Ok.map iD) (lz_ A Ok y x [] none none none) := rfl
    simp only [forF, h1, e3]
  have s7 : retF (callBF tupleD (consP (slotB 6) nilP)) (lz_ A Ok y x ((lst A).map encK) a' h' q') = .ret (.dat (tupG_ (lst A))) (lz_ A Ok y x ((lst A).map encK) a' h' q') := rfl
  show runDef 10 [false] body__law_least [.dat (lstG A)] = _
  unfold runDef
  show (match body__law_least [some (L.dat (lstG A)), none, none, none, none, none, none, none, none, none] with
    | .ret l g' => some (l, outsOf [false] g')
    | .next g' => some (.dat .non, outsOf [false] g')
    | _ => none) = _
  simp only [body__law_least, seqF, s1, s2, s3, s4, s5, s6, s7]
  rfl
end K15

set_option maxHeartbeats 4000000
namespace K15
open PySem L2 B Gr
abbrev zsD (l : List Int) : List D := l.map .int
/-- the draws, as they lie with the caller -/
abbrev dr (l : List Int) : L := .lst (zsD l)
theorem den_draw (l : List Int) {m : Nat} (hm : 0 < m) : ∃ (r : Nat) (l' : List Int), r < m ∧ l'.length ≤ l.length ∧ d__law_draw [dr l, .dat (iD m)] = some (.dat (iD r), [some (dr l'), none]) := by
  by_cases h : l = []
  · subst h
    refine ⟨0, [], hm, Nat.le_refl _, ?_⟩
    have e := eqD_int ((0 : Nat) : Int) 0
    rfl
  · have hl : 0 < l.length := List.length_pos_iff.mpr h
    obtain ⟨x, hx⟩ := some_of (l := l) (i := l.length - 1) (by omega)
    have hx' : (zsD l)[(zsD l).length - 1]? = some (.int x) := by rw [List.length_map, List.getElem?_map, hx]; rfl
    have hmod := Int.emod_nonneg x (b := (m : Int)) (by omega)
    have hlt := Int.emod_lt_of_pos x (b := (m : Int)) (by omega)
    refine ⟨(x % (m : Int)).toNat, l.dropLast, by omega, by simp, ?_⟩
    have e1 : ((x % (m : Int)).toNat : Int) = x % (m : Int) := Int.toNat_of_nonneg hmod
    have e2 : eqD (.int ((zsD l).length : Int)) (.int 0) = some (.bl false) := by
      rw [eqD_int]
      have : ¬ ((zsD l).length : Int) = 0 := by rw [List.length_map]; omega
      simp only [this, decide_false]
    have e3 : modD (.int x) (.int (m : Int)) = some (.int (x % (m : Int))) := by
      have : (0 : Int) < (m : Int) := by omega
      simp only [modD, intsD, this, decide_true, if_true]
    have e4 : (zsD l).dropLast = zsD l.dropLast := by simp [List.map_dropLast]
    have t1 : testF (binF eqD (frzB (callBF lenD (consP (slotB 0) nilP))) (frzB (constF (.int 0)))) [some (dr l), some (.dat (iD m))] = .ok false [some (dr l), some (.dat (iD m))] := by
      simp only [testF, binF, frzB, callBF, consP, slotB, List.getElem?_cons_zero, Res.bd, nilP, resolves, resolve, view_lst, lenD, constF, view_dat, e2]
    have t2 : popF 0 [some (dr l), some (.dat (iD m))] = .ok (.dat (.int x)) [some (dr l.dropLast), some (.dat (iD m))] := by
      simp only [popF, List.getElem?_cons_zero, hx', List.set_cons_zero, e4]
    show runDef 2 [true, false] body__law_draw [dr l, .dat (iD m)] = _
    unfold runDef
    show (match body__law_draw [some (dr l), some (.dat (iD m))] with
      | .ret l g' => some (l, outsOf [true, false] g')
      | .next g' => some (.dat .non, outsOf [true, false] g')
      | _ => none) = _
    have t3 : retF (binF modD (frzB (callBF intD (consP (frzB (popF 0)) nilP))) (slotB 1)) [some (dr l), some (.dat (iD m))] = .ret (.dat (.int (x % (m : Int)))) [some (dr l.dropLast), some (.dat (iD m))] := by
      simp only [retF, binF, frzB, callBF, consP, t2, Res.bd, nilP, view_dat, resolves, resolve, intD, slotB, List.getElem?_cons_succ, List.getElem?_cons_zero, e3]
    have t4 : ifF (testF (binF eqD (frzB (callBF lenD (consP (slotB 0) nilP))) (frzB (constF (.int 0))))) (retF (constF (.int 0))) skipF [some (dr l), some (.dat (iD m))] = .next [some (dr l), some (.dat (iD m))] := by
      simp only [ifF, t1, Bool.false_eq_true, if_false, skipF]
    simp only [body__law_draw, seqF, t4, t3]
    have e5 : iD (x % (m : Int)).toNat = .int (x % (m : Int)) := congrArg D.int e1
    rw [e5]
    rfl
/-- a draw in a frame: the draws lie in slot j -/
theorem draw_at {j : Nat} {l : List Int} {m : Nat} {g g1 : B.G} {fm : Ef} (hm : 0 < m) (hj : g[j]? = some (some (dr l))) (h1 : fm g = .ok (.dat (iD m)) g1) (hj1 : g1[j]? = some (some (dr l))) :
    ∃ (r : Nat) (l' : List Int), r < m ∧ l'.length ≤ l.length ∧ callF [some j, none] d__law_draw (consP (slotB j) (consP (frzB fm) nilP)) g = .ok (.dat (iD r)) (g1.set j (some (dr l'))) := by
  obtain ⟨r, l', h2, h3, h4⟩ := den_draw l hm
  refine ⟨r, l', h2, h3, ?_⟩
  have e : ∀ (k i : Nat) (g : B.G), putG [some j, none] [some (dr l'), none] k g = if j < k then g else g.set (j - k) (some (dr l')) := by
    intro k i g
    induction g generalizing k with
    | nil => simp [putG]
    | cons o g ih =>
      rw [putG, ih]
      by_cases hk : j = k
      · subst hk
        simp [idxR]
      · have : ¬ some j = some k := fun z => hk (Option.some.inj z)
        by_cases hlt : j < k
        · have hlt2 : j < k + 1 := by omega
          simp [idxR, this, hlt, hlt2]
        · have hlt2 : ¬ j < k + 1 := by omega
          have e1 : j - k = (j - (k + 1)) + 1 := by omega
          simp only [idxR, this, if_false, Option.map_none, hlt2, hlt, e1, List.set_cons_succ]
          rfl
  have e0 := e 0 0 g1
  simp only [Nat.not_lt_zero, if_false, Nat.sub_zero] at e0
  simp only [callF, consP, slotB, hj, Res.bd, frzB, h1, view_dat, nilP, argsL, if_true, hj1, Option.map_some, h4, e0]
end K15

set_option maxHeartbeats 4000000
namespace K15
open PySem L2 B Gr
theorem gt_int (i j : Int) : gtD (.int i) (.int j) = some (.bl (decide (j < i))) := rfl
theorem ge_int_ (i j : Int) : geD (.int i) (.int j) = some (.bl (decide (j ≤ i))) := rfl
theorem mod_pos (i : Int) {j : Int} (h : 0 < j) : modD (.int i) (.int j) = some (.int (i % j)) := by simp only [modD, intsD, h, decide_true, if_true]
theorem fdiv_ok (i : Int) {j : Int} (h : 0 < j) (h2 : j.natAbs < 1073741824) : fdivD (.int i) (.int j) = some (.int (i / j)) := by simp only [fdivD, intsD, h, h2, decide_true, Bool.and_self, if_true]
theorem mul_ok (i : Int) {j : Int} (h : j.natAbs < 2 ^ 64) : mulD (.int i) (.int j) = some (.int (i * j)) := by simp only [mulD, intsD, h, decide_true, Bool.or_true, if_true]
abbrev sd (a c k : Option L) (l : List Int) (r : Int) : B.G := [a, some (dr l), c, some (.dat (.int r)), k]
theorem app_int (l : List Int) (x : Int) : zsD l ++ [D.int x] = zsD (l ++ [x]) := by simp
theorem dstep1 {a c k : Option L} {l : List Int} {r : Int} (hl : l.length < cap) : ∃ (l' : List Int) (r' : Int), l'.length ≤ l.length + 1 ∧ l1__law_draws (sd a c k l r) = .next (sd a c k l' r') := by
  have ht : testF (binF gtD (slotB 3) (frzB (constF (.int 0)))) (sd a c k l r) = .ok (decide (0 < r)) (sd a c k l r) := by
    simp only [sd, testF, binF, slotB, List.getElem?_cons_succ, List.getElem?_cons_zero, Res.bd, frzB, constF, view_dat, resolve, gt_int]
  have hl' : (zsD l).length < cap := by rw [List.length_map]; exact hl
  have m1 := mod_pos r (j := 1000) (by decide)
  have m2 := fdiv_ok r (j := 1000) (by decide) (by decide)
  by_cases h : 0 < r
  · refine ⟨l ++ [r % 1000], r / 1000, by simp, ?_⟩
    simp only [l1__law_draws, ifF, ht, h, decide_true, if_true]
    simp only [sd, seqF, exprF, appF, List.getElem?_cons_succ, List.getElem?_cons_zero, binF, frzB, callBF, consP, slotB, Res.bd, nilP, resolves, resolve, view_dat, intD, constF, m1, if_pos hl', List.set_cons_succ, List.set_cons_zero, app_int, setF, m2]
  · refine ⟨l, r, by omega, ?_⟩
    simp only [l1__law_draws, ifF, ht, h, decide_false, Bool.false_eq_true, if_false, skipF]
theorem dstep2 {a c k : Option L} {l : List Int} {r : Int} (hl : l.length < cap) : ∃ (l' : List Int) (r' : Int), l'.length ≤ l.length + 1 ∧ l2__law_draws (sd a c k l r) = .next (sd a c k l' r') := by
  have hl' : (zsD l).length < cap := by rw [List.length_map]; exact hl
  have m1 := mul_ok r (j := 69621) (by decide)
  have m2 := mod_pos (r * 69621) (j := 2147483629) (by decide)
  have m3 := fdiv_ok (r * 69621 % 2147483629) (j := 7) (by decide) (by decide)
  have m4 := mod_pos (r * 69621 % 2147483629 / 7) (j := 1000) (by decide)
  refine ⟨l ++ [r * 69621 % 2147483629 / 7 % 1000], r * 69621 % 2147483629, by simp, ?_⟩
  simp only [l2__law_draws, sd, seqF, setF, exprF, appF, List.getElem?_cons_succ, List.getElem?_cons_zero, binF, frzB, callBF, consP, slotB, Res.bd, nilP, resolves, resolve, view_dat, intD, constF, m1, m2, m3, m4, if_pos hl', List.set_cons_succ, List.set_cons_zero, app_int]
theorem dloop {b : Sf} {a c : Option L} (hb : ∀ (k : Option L) (l : List Int) (r : Int), l.length < cap → ∃ (l' : List Int) (r' : Int), l'.length ≤ l.length + 1 ∧ b (sd a c k l r) = .next (sd a c k l' r')) :
    ∀ (ds : List D) (k : Option L) (l : List Int) (r : Int), l.length + ds.length ≤ cap → ∃ (k' : Option L) (l' : List Int) (r' : Int), l'.length ≤ l.length + ds.length ∧ forL (nameG 4) b ds (sd a c k l r) = .next (sd a c k' l' r')
  | [], k, l, r, _ => ⟨k, l, r, by simp, rfl⟩
  | d :: ds, k, l, r, h => by
    obtain ⟨l1, r1, h1, e1⟩ := hb (some (.dat d)) l r (by simp at h; omega)
    obtain ⟨k', l', r', h2, e2⟩ := dloop hb ds (some (.dat d)) l1 r1 (by simp at h; omega)
    refine ⟨k', l', r', by simp at h2 ⊢; omega, ?_⟩
    have tg : nameG 4 d (sd a c k l r) = some (sd a c (some (.dat d)) l r) := rfl
    simp only [forL, tg, e1, e2]
theorem pow18 : powD (.int 10) (.int 18) = some (.int (10 ^ 18)) := by
  simp only [powD, intsD]
  rfl
theorem dcell {a k rr : Option L} {l : List Int} {z : Int} (hl : l.length + 60 ≤ cap) : ∃ (k' : Option L) (l' : List Int) (r' : Int), l'.length ≤ l.length + 60 ∧ l3__law_draws [a, some (dr l), some (.dat (.int z)), rr, k] = .next (sd a (some (.dat (.int z))) k' l' r') := by
  have s1 : setF 3 (callBF intD (consP (slotB 2) nilP)) [a, some (dr l), some (.dat (.int z)), rr, k] = .next (sd a (some (.dat (.int z))) k l z) := by
    simp only [sd, setF, callBF, consP, slotB, List.getElem?_cons_succ, List.getElem?_cons_zero, Res.bd, nilP, resolves, resolve, view_dat, intD, List.set_cons_succ, List.set_cons_zero]
  have ht : testF (binF geD (slotB 3) (frzB (binF powD (frzB (constF (.int 10))) (frzB (constF (.int 18)))))) (sd a (some (.dat (.int z))) k l z) = .ok (decide ((10 : Int) ^ 18 ≤ z)) (sd a (some (.dat (.int z))) k l z) := by
    simp only [sd, testF, binF, slotB, List.getElem?_cons_succ, List.getElem?_cons_zero, Res.bd, frzB, constF, view_dat, resolve, pow18, ge_int_]
  have r60 : ∀ g : B.G, rngI1 (constF (.int 60)) g = .ok ((List.range 60).map iD) g := fun g => rng_nat (n := 60) rfl (by decide)
  have r24 : ∀ g : B.G, rngI1 (constF (.int 24)) g = .ok ((List.range 24).map iD) g := fun g => rng_nat (n := 24) rfl (by decide)
  by_cases h : (10 : Int) ^ 18 ≤ z
  · obtain ⟨k', l', r', h1, e1⟩ := dloop (a := a) (c := some (.dat (.int z))) (fun k l r hl => dstep1 hl) ((List.range 60).map iD) k l z (by simpa using hl)
    refine ⟨k', l', r', by simpa using h1, ?_⟩
    simp only [l3__law_draws, seqF, s1, ifF, ht, h, decide_true, if_true, forF, r60, e1]
  · have m1 := mul_ok z (j := 48271) (by decide)
    have m2 := mod_pos (z * 48271) (j := 2147483647) (by decide)
    have s2 : setF 3 (binF modD (frzB (callBF intD (consP (frzB (binF mulD (slotB 3) (frzB (constF (.int 48271))))) nilP))) (frzB (constF (.int 2147483647)))) (sd a (some (.dat (.int z))) k l z) = .next (sd a (some (.dat (.int z))) k l (z * 48271 % 2147483647)) := by
      simp only [sd, setF, binF, slotB, List.getElem?_cons_succ, List.getElem?_cons_zero, Res.bd, frzB, callBF, consP, nilP, resolves, resolve, view_dat, intD, constF, m1, m2, List.set_cons_succ, List.set_cons_zero]
    obtain ⟨k', l', r', h1, e1⟩ := dloop (a := a) (c := some (.dat (.int z))) (fun k l r hl => dstep2 hl) ((List.range 24).map iD) k l (z * 48271 % 2147483647) (by simp; omega)
    refine ⟨k', l', r', by simp at h1; omega, ?_⟩
    simp only [l3__law_draws, seqF, s1, ifF, ht, h, decide_false, Bool.false_eq_true, if_false, s2, forF, r24, e1]
theorem dcells {a : Option L} : ∀ (zs : List Int) (l : List Int) (c rr k : Option L), l.length + 60 * zs.length ≤ cap →
    ∃ (l' : List Int) (c' rr' k' : Option L), forL (nameG 2) l3__law_draws (zsD zs) [a, some (dr l), c, rr, k] = .next [a, some (dr l'), c', rr', k']
  | [], l, c, rr, k, _ => ⟨l, c, rr, k, rfl⟩
  | z :: zs, l, c, rr, k, h => by
    obtain ⟨k1, l1, r1, h1, e1⟩ := dcell (a := a) (k := k) (rr := rr) (l := l) (z := z) (by simp at h; omega)
    obtain ⟨l', c', rr', k', e2⟩ := dcells (a := a) zs l1 (some (.dat (.int z))) (some (.dat (.int r1))) k1 (by simp at h; omega)
    refine ⟨l', c', rr', k', ?_⟩
    have tg : nameG 2 (.int z) [a, some (dr l), c, rr, k] = some [a, some (dr l), some (.dat (.int z)), rr, k] := rfl
    show forL _ _ (D.int z :: zsD zs) _ = _
    simp only [forL, tg, e1]
    exact e2
theorem den_draws {ns : List Int} (h : ns.length ≤ 63) : ∃ l : List Int, d__law_draws [.dat (.lst (zsD ns))] = some (dr l, [none]) := by
  have h4 : (4000 : Nat) + 2 ≤ cap := by decide
  have hcut : ∃ zs : List Int, zs.length ≤ 63 ∧ cutD (zsD ns) none (some 63) = zsD zs := by
    unfold cutD
    rw [← List.map_drop, ← List.map_take]
    exact ⟨_, by simp; omega, rfl⟩
  obtain ⟨zs, hz, ez⟩ := hcut
  have hlen : 0 + 60 * zs.length ≤ cap := by omega
  obtain ⟨l', c', rr', k', e1⟩ := dcells (a := some (.dat (.lst (zsD ns)))) zs [] none none none (by simpa using hlen)
  refine ⟨l'.reverse, ?_⟩
  have s1 : setF 1 (lstF nilA) [some (.dat (.lst (zsD ns))), none, none, none, none] = .next [some (.dat (.lst (zsD ns))), some (dr []), none, none, none] := rfl
  have s2 : seqI (sliceF (slotB 0) noO (someO (constF (.int 63)))) [some (.dat (.lst (zsD ns))), some (dr []), none, none, none] = .ok (zsD zs) [some (.dat (.lst (zsD ns))), some (dr []), none, none, none] := by
    simp only [seqI, sliceF, slotB, List.getElem?_cons_zero, Res.bd, noO, someO, constF, resolve, view_dat, ez, view_lst, seqD]
  have s3 : exprF (revF 1) [some (.dat (.lst (zsD ns))), some (dr l'), c', rr', k'] = .next [some (.dat (.lst (zsD ns))), some (dr l'.reverse), c', rr', k'] := by
    simp only [exprF, revF, List.getElem?_cons_succ, List.getElem?_cons_zero, List.set_cons_succ, List.set_cons_zero, ← List.map_reverse]
  show runDef 5 [false] body__law_draws [.dat (.lst (zsD ns))] = _
  unfold runDef
  show (match body__law_draws [some (L.dat (.lst (zsD ns))), none, none, none, none] with
    | .ret l g' => some (l, outsOf [false] g')
    | .next g' => some (.dat .non, outsOf [false] g')
    | _ => none) = _
  simp only [body__law_draws, seqF, s1, forF, s2, e1, s3]
  rfl
end K15

set_option maxHeartbeats 4000000
namespace K15
open PySem L2 B Gr
theorem draw0 {l : List Int} {m : Nat} {rest : B.G} {fm : Ef} (hm : 0 < m) (h1 : fm (some (dr l) :: rest) = .ok (.dat (iD m)) (some (dr l) :: rest)) :
    ∃ (r : Nat) (l' : List Int), r < m ∧ callF [some 0, none] d__law_draw (consP (slotB 0) (consP (frzB fm) nilP)) (some (dr l) :: rest) = .ok (.dat (iD r)) (some (dr l') :: rest) := by
  obtain ⟨r, l', h2, _, h3⟩ := draw_at (j := 0) hm rfl h1 rfl
  exact ⟨r, l', h2, h3⟩
theorem inB_tup (x : Nat) (l : List Nat) : inB (iD x) (.tup (l.map iD)) = some (decide (x ∈ l)) := by
  have h := inB_nats x l
  have e : ∀ l : List Nat, vsOf (l.map iD) = some (l.map fun (n : Nat) => V.int (n : Int)) := by
    intro l
    induction l with
    | nil => rfl
    | cons y l ih => rw [List.map_cons, vsOf, ih]; rfl
  simp only [inB, e, vOf] at h ⊢
  exact h
/-- raw knots: links within many, a pair's links beyond its own place -/
def RawOk (many : Nat) (A : Graph) : Prop := ∀ (i : Nat) (k : Kn), A[i]? = some k → k.ls.length = k.w.ar ∧ (∀ l ∈ k.ls, l < many) ∧ (k.w = .pair → ∀ l ∈ k.ls, i < l)
theorem RawOk.snoc {many : Nat} {A : Graph} (h : RawOk many A) {k : Kn} (h1 : k.ls.length = k.w.ar) (h2 : ∀ l ∈ k.ls, l < many) (h3 : k.w = .pair → ∀ l ∈ k.ls, A.length < l) : RawOk many (A ++ [k]) := by
  intro i x hx
  by_cases hi : i < A.length
  · rw [List.getElem?_append_left hi] at hx
    exact h i x hx
  · rw [List.getElem?_append_right (by omega)] at hx
    have hi2 : i - A.length < 1 := (List.getElem?_eq_some_iff.mp hx).1
    have : i = A.length := by omega
    subst this
    simp at hx
    subst hx
    exact ⟨h1, h2, h3⟩
theorem RawOk.wf {A : Graph} (h : RawOk A.length A) (h0 : 0 < A.length) : Wf A := ⟨h0, fun k hk => by
  obtain ⟨i, hi⟩ := List.mem_iff_getElem?.mp hk
  exact ⟨(h i k hi).1, (h i k hi).2.1⟩⟩
theorem RawOk.pp {A : Graph} (h : RawOk A.length A) : ∀ (n a : Nat), PP A n a → n + a ≤ A.length + (if n = 0 then a else 0)
  | 0, a, _ => by simp
  | n + 1, a, ⟨k, h1, h2, l, h3, h4⟩ => by
    have ha : a < A.length := (List.getElem?_eq_some_iff.mp h1).1
    have hl := (h a k h1).2.2 h2 l h3
    have ih := RawOk.pp h n l h4
    rw [if_neg (by omega)]
    by_cases hn : n = 0
    · subst hn; omega
    · rw [if_neg hn] at ih; omega
theorem RawOk.nr {A : Graph} (h : RawOk A.length A) : NoRing A := ⟨A.length + 1, fun a hp => by
  have := h.pp _ _ hp
  rw [if_neg (by omega)] at this
  omega⟩
abbrev rw_ (l : List Int) (A : Graph) (many k : Nat) (w ab : Option L) : B.G := [some (dr l), some (.dat (iD 12)), some (.dat (iD 10)), some (.dat (iD many)), some (.lst (A.map encK)), some (.dat (iD k)), w, ab]
theorem app_knot {fa : Ef} {l l' : List Int} {A : Graph} {many k : Nat} {w ab : Option L} {x : Kn} (h : fa (rw_ l A many k w ab) = .ok (.dat (encK x)) (rw_ l' A many k w ab)) (hl : A.length < cap) :
    exprF (appF 4 fa) (rw_ l A many k w ab) = .next (rw_ l' (A ++ [x]) many k w ab) := by
  have hl' : (A.map encK).length < cap := by rw [List.length_map]; exact hl
  simp only [exprF, appF, List.getElem?_cons_succ, List.getElem?_cons_zero, h, Res.bd, if_pos hl', view_dat, List.set_cons_succ, List.set_cons_zero, rw_, List.map_append, List.map_cons, List.map_nil]
theorem raw_step {l : List Int} {A : Graph} {many k : Nat} {w ab : Option L} (hk : k < many) (hA : RawOk many A) (hkA : A.length = k) (hc : many ≤ 4000) :
    ∃ (l' : List Int) (x : Kn) (w' ab' : Option L), RawOk many (A ++ [x]) ∧ l1__law_raw_graph (rw_ l A many k w ab) = .next (rw_ l' (A ++ [x]) many k w' ab') := by
  have h4 : (4000 : Nat) + 2 ≤ cap := by decide
  have hAc : A.length < cap := by omega
  obtain ⟨r, l1, hr, e1⟩ := draw0 (l := l) (rest := [some (.dat (iD 12)), some (.dat (iD 10)), some (.dat (iD many)), some (.lst (A.map encK)), some (.dat (iD k)), w, ab]) (fm := nameF 2) (m := 10) (by decide) rfl
  have s1 : setF 6 (callF [some 0, none] d__law_draw (consP (slotB 0) (consP (frzB (nameF 2)) nilP))) (rw_ l A many k w ab) = .next (rw_ l1 A many k (some (.dat (iD r))) ab) := by
    simp only [setF, e1]
    rfl
  have tin : ∀ (p q : Nat), testF (binF inD (slotB 6) (frzB (tupF (consA (constF (.int p)) (consA (constF (.int q)) nilA))))) (rw_ l1 A many k (some (.dat (iD r))) ab) = .ok (decide (r ∈ [p, q])) (rw_ l1 A many k (some (.dat (iD r))) ab) := fun p q => by
    have h2 : (2 : Nat) ≤ cap := by decide
    have := inB_tup r [p, q]
    have e : inD (iD r) (.tup [.int p, .int q]) = some (.bl (decide (r ∈ [p, q]))) := by
      unfold inD
      rw [show (D.tup [.int (p : Int), .int (q : Int)]) = .tup ([p, q].map iD) from rfl, this]
      rfl
    simp only [testF, binF, slotB, List.getElem?_cons_succ, List.getElem?_cons_zero, Res.bd, frzB, tupF, consA, constF, nilA, view_dat, List.length_cons, List.length_nil, if_pos h2, resolve, e]
  have t45 : testF (binF inD (slotB 6) (frzB (tupF (consA (constF (.int 4)) (consA (constF (.int 5)) nilA))))) (rw_ l1 A many k (some (.dat (iD r))) ab) = .ok (decide (r ∈ [4, 5])) (rw_ l1 A many k (some (.dat (iD r))) ab) := tin 4 5
  have t67' : testF (binF inD (slotB 6) (frzB (tupF (consA (constF (.int 6)) (consA (constF (.int 7)) nilA))))) (rw_ l1 A many k (some (.dat (iD r))) ab) = .ok (decide (r ∈ [6, 7])) (rw_ l1 A many k (some (.dat (iD r))) ab) := tin 6 7
  have t89 : testF (binF inD (slotB 6) (frzB (tupF (consA (constF (.int 8)) (consA (constF (.int 9)) nilA))))) (rw_ l1 A many k (some (.dat (iD r))) ab) = .ok (decide (r ∈ [8, 9])) (rw_ l1 A many k (some (.dat (iD r))) ab) := tin 8 9
  have tlt : testF (binF ltD (frzB (binF addD (slotB 5) (frzB (constF (.int 1))))) (slotB 3)) (rw_ l1 A many k (some (.dat (iD r))) ab) = .ok (decide (k + 1 < many)) (rw_ l1 A many k (some (.dat (iD r))) ab) := by
    have e5 : ltD (.int ((k : Int) + 1)) (.int (many : Int)) = some (.bl (decide (k + 1 < many))) := by
      have : decide ((k : Int) + 1 < (many : Int)) = decide (k + 1 < many) := by
        rw [decide_eq_decide]
        omega
      simp only [ltD, intsD, this, if_true]
    simp only [testF, binF, frzB, slotB, List.getElem?_cons_succ, List.getElem?_cons_zero, Res.bd, constF, view_dat, resolve, addD, e5]
  have hmany : 0 < many := by omega
  by_cases h45 : r ∈ [4, 5]
  · obtain ⟨x, l2, hx, e2⟩ := draw0 (l := l1) (rest := [some (.dat (iD 12)), some (.dat (iD 10)), some (.dat (iD many)), some (.lst (A.map encK)), some (.dat (iD k)), some (.dat (iD r)), ab]) (fm := nameF 3) (m := many) hmany rfl
    obtain ⟨y, l3, hy, e3⟩ := draw0 (l := l2) (rest := [some (.dat (iD 12)), some (.dat (iD 10)), some (.dat (iD many)), some (.lst (A.map encK)), some (.dat (iD k)), some (.dat (iD r)), ab]) (fm := nameF 3) (m := many) hmany rfl
    refine ⟨l3, ⟨.fn, [x, y]⟩, some (.dat (iD r)), ab, hA.snoc rfl (by intro z hz; simp at hz; rcases hz with rfl | rfl <;> assumption) (by intro z; cases z), ?_⟩
    have h3 : (3 : Nat) ≤ cap := by decide
    have e4 : tupF (consA (constF (.str "fun")) (consA (callF [some 0, none] d__law_draw (consP (slotB 0) (consP (frzB (nameF 3)) nilP))) (consA (callF [some 0, none] d__law_draw (consP (slotB 0) (consP (frzB (nameF 3)) nilP))) nilA))) (rw_ l1 A many k (some (.dat (iD r))) ab) = .ok (.dat (encK ⟨.fn, [x, y]⟩)) (rw_ l3 A many k (some (.dat (iD r))) ab) := by
      simp only [tupF, consA, constF, Res.bd, e2, e3, nilA, view_dat, List.length_cons, List.length_nil, if_pos h3]
      rfl
    simp only [l1__law_raw_graph, seqF, s1, ifF, t45, h45, decide_true, if_true, app_knot e4 hAc]
  · by_cases h67 : r ∈ [6, 7] ∧ k + 1 < many
    · have t67 : andT (testF (binF inD (slotB 6) (frzB (tupF (consA (constF (.int 6)) (consA (constF (.int 7)) nilA)))))) (testF (binF ltD (frzB (binF addD (slotB 5) (frzB (constF (.int 1))))) (slotB 3))) (rw_ l1 A many k (some (.dat (iD r))) ab) = .ok true (rw_ l1 A many k (some (.dat (iD r))) ab) := by
        simp only [andT, t67', h67.1, decide_true, if_true, Res.bd, tlt, h67.2]
      have s2 : setF 7 (binF subD (frzB (binF subD (slotB 3) (slotB 5))) (frzB (constF (.int 1)))) (rw_ l1 A many k (some (.dat (iD r))) ab) = .next (rw_ l1 A many k (some (.dat (iD r))) (some (.dat (iD (many - k - 1))))) := by
        have e5 : (many : Int) - (k : Int) - 1 = ((many - k - 1 : Nat) : Int) := by omega
        simp only [setF, binF, frzB, slotB, List.getElem?_cons_succ, List.getElem?_cons_zero, Res.bd, resolve, view_dat, subD, intsD, if_true, constF, e5, List.set_cons_succ, List.set_cons_zero]
      obtain ⟨x, l2, hx, e2⟩ := draw0 (l := l1) (rest := [some (.dat (iD 12)), some (.dat (iD 10)), some (.dat (iD many)), some (.lst (A.map encK)), some (.dat (iD k)), some (.dat (iD r)), some (.dat (iD (many - k - 1)))]) (fm := nameF 7) (m := many - k - 1) (by omega) rfl
      obtain ⟨y, l3, hy, e3⟩ := draw0 (l := l2) (rest := [some (.dat (iD 12)), some (.dat (iD 10)), some (.dat (iD many)), some (.lst (A.map encK)), some (.dat (iD k)), some (.dat (iD r)), some (.dat (iD (many - k - 1)))]) (fm := nameF 7) (m := many - k - 1) (by omega) rfl
      refine ⟨l3, ⟨.pair, [k + 1 + x, k + 1 + y]⟩, some (.dat (iD r)), some (.dat (iD (many - k - 1))), hA.snoc rfl (by intro z hz; simp at hz; rcases hz with rfl | rfl <;> omega) (by intro _ z hz; simp at hz; rcases hz with rfl | rfl <;> omega), ?_⟩
      have h3 : (3 : Nat) ≤ cap := by decide
      have ex : ∀ z : Nat, (k : Int) + 1 + (z : Int) = ((k + 1 + z : Nat) : Int) := fun z => by omega
      have e4 : tupF (consA (constF (.str "pair")) (consA (binF addD (frzB (binF addD (slotB 5) (frzB (constF (.int 1))))) (frzB (callF [some 0, none] d__law_draw (consP (slotB 0) (consP (frzB (nameF 7)) nilP))))) (consA (binF addD (frzB (binF addD (slotB 5) (frzB (constF (.int 1))))) (frzB (callF [some 0, none] d__law_draw (consP (slotB 0) (consP (frzB (nameF 7)) nilP))))) nilA))) (rw_ l1 A many k (some (.dat (iD r))) (some (.dat (iD (many - k - 1))))) = .ok (.dat (encK ⟨.pair, [k + 1 + x, k + 1 + y]⟩)) (rw_ l3 A many k (some (.dat (iD r))) (some (.dat (iD (many - k - 1))))) := by
        have b1 : ∀ (la : List Int) (z : Nat) (lb : List Int), callF [some 0, none] d__law_draw (consP (slotB 0) (consP (frzB (nameF 7)) nilP)) (rw_ la A many k (some (.dat (iD r))) (some (.dat (iD (many - k - 1))))) = .ok (.dat (iD z)) (rw_ lb A many k (some (.dat (iD r))) (some (.dat (iD (many - k - 1))))) → binF addD (frzB (binF addD (slotB 5) (frzB (constF (.int 1))))) (frzB (callF [some 0, none] d__law_draw (consP (slotB 0) (consP (frzB (nameF 7)) nilP)))) (rw_ la A many k (some (.dat (iD r))) (some (.dat (iD (many - k - 1))))) = .ok (.dat (iD (k + 1 + z))) (rw_ lb A many k (some (.dat (iD r))) (some (.dat (iD (many - k - 1))))) := fun la z lb hz => by
          have e6 : binF addD (slotB 5) (frzB (constF (.int 1))) (rw_ la A many k (some (.dat (iD r))) (some (.dat (iD (many - k - 1))))) = .ok (.dat (.int ((k : Int) + 1))) (rw_ la A many k (some (.dat (iD r))) (some (.dat (iD (many - k - 1))))) := by
            simp only [binF, slotB, List.getElem?_cons_succ, List.getElem?_cons_zero, Res.bd, frzB, constF, view_dat, resolve, addD]
          unfold binF at e6 ⊢
          simp only [frzB, Res.bd] at e6 ⊢
          rw [e6]
          simp only [hz, view_dat, resolve, addD, ex z]
        have c1 := b1 l1 x l2 e2
        have c2 := b1 l2 y l3 e3
        simp only [tupF, consA, constF, Res.bd, c1, c2, nilA, view_dat, List.length_cons, List.length_nil, if_pos h3]
        rfl
      simp only [l1__law_raw_graph, seqF, s1, ifF, t45, h45, decide_false, Bool.false_eq_true, if_false, t67, if_true, s2, app_knot e4 hAc]
    · have tn : andT (testF (binF inD (slotB 6) (frzB (tupF (consA (constF (.int 6)) (consA (constF (.int 7)) nilA)))))) (testF (binF ltD (frzB (binF addD (slotB 5) (frzB (constF (.int 1))))) (slotB 3))) (rw_ l1 A many k (some (.dat (iD r))) ab) = .ok false (rw_ l1 A many k (some (.dat (iD r))) ab) := by
        by_cases h6 : r ∈ [6, 7]
        · have h7 : ¬ k + 1 < many := fun h => h67 ⟨h6, h⟩
          simp only [andT, t67', h6, decide_true, if_true, Res.bd, tlt, h7, decide_false]
        · simp only [andT, t67', h6, decide_false, Bool.false_eq_true, if_false, Res.bd]
      by_cases h89 : r ∈ [8, 9]
      · obtain ⟨x, l2, hx, e2⟩ := draw0 (l := l1) (rest := [some (.dat (iD 12)), some (.dat (iD 10)), some (.dat (iD many)), some (.lst (A.map encK)), some (.dat (iD k)), some (.dat (iD r)), ab]) (fm := nameF 3) (m := many) hmany rfl
        refine ⟨l2, ⟨.box, [x]⟩, some (.dat (iD r)), ab, hA.snoc rfl (by intro z hz; simp at hz; subst hz; assumption) (by intro z; cases z), ?_⟩
        have h2 : (2 : Nat) ≤ cap := by decide
        have e4 : tupF (consA (constF (.str "box")) (consA (callF [some 0, none] d__law_draw (consP (slotB 0) (consP (frzB (nameF 3)) nilP))) nilA)) (rw_ l1 A many k (some (.dat (iD r))) ab) = .ok (.dat (encK ⟨.box, [x]⟩)) (rw_ l2 A many k (some (.dat (iD r))) ab) := by
          simp only [tupF, consA, constF, Res.bd, e2, nilA, view_dat, List.length_cons, List.length_nil, if_pos h2]
          rfl
        simp only [l1__law_raw_graph, seqF, s1, ifF, t45, h45, decide_false, Bool.false_eq_true, if_false, tn, t89, h89, decide_true, if_true, app_knot e4 hAc]
      · have hw : ∃ w0 : Wd, w0.ar = 0 ∧ tupF (consA (binF ixD (frzB (lstF (consA (constF (.str "?")) (consA (constF (.str "int")) (consA (constF (.str "bool")) (consA (constF (.str "unit")) nilA)))))) (frzB (binF modD (slotB 6) (frzB (constF (.int 4)))))) nilA) (rw_ l1 A many k (some (.dat (iD r))) ab) = .ok (.dat (encK ⟨w0, []⟩)) (rw_ l1 A many k (some (.dat (iD r))) ab) := by
          have h10 : r = 0 ∨ r = 1 ∨ r = 2 ∨ r = 3 ∨ r = 4 ∨ r = 5 ∨ r = 6 ∨ r = 7 ∨ r = 8 ∨ r = 9 := by omega
          rcases h10 with rfl | rfl | rfl | rfl | rfl | rfl | rfl | rfl | rfl | rfl
          · exact ⟨.q, rfl, rfl⟩
          · exact ⟨.int, rfl, rfl⟩
          · exact ⟨.bool, rfl, rfl⟩
          · exact ⟨.unit, rfl, rfl⟩
          · exact ⟨.q, rfl, rfl⟩
          · exact ⟨.int, rfl, rfl⟩
          · exact ⟨.bool, rfl, rfl⟩
          · exact ⟨.unit, rfl, rfl⟩
          · exact ⟨.q, rfl, rfl⟩
          · exact ⟨.int, rfl, rfl⟩
        obtain ⟨w0, hw0, e4⟩ := hw
        refine ⟨l1, ⟨w0, []⟩, some (.dat (iD r)), ab, hA.snoc hw0.symm (by intro z hz; cases hz) (by intro _ z hz; cases hz), ?_⟩
        simp only [l1__law_raw_graph, seqF, s1, ifF, t45, h45, decide_false, Bool.false_eq_true, if_false, tn, t89, h89, app_knot e4 hAc]
end K15

set_option maxHeartbeats 4000000
namespace K15
open PySem L2 B Gr
theorem call_ok {rf : List (Option Nat)} {d : Den} {pf : Pf} {g g1 g2 : B.G} {ps : List Pl} {ls : List L} {l : L} {outs : List (Option L)} (h1 : pf g = .ok ps g1) (h2 : argsL rf g1 ps = some ls) (h3 : d ls = some (l, outs)) (h4 : putG rf outs 0 g1 = g2) : callF rf d pf g = .ok l g2 := by
  simp only [callF, h1, Res.bd, h2, h3, h4]
theorem frz_ok {f : Ef} {g g1 : B.G} {l : L} (h : f g = .ok l g1) : frzB f g = .ok (.val l.view) g1 := by simp only [frzB, h, Res.bd]
theorem cons_ok {b : Bf} {pf : Pf} {g g1 g2 : B.G} {p : Pl} {ps : List Pl} (h : b g = .ok p g1) (h2 : pf g1 = .ok ps g2) : consP b pf g = .ok (p :: ps) g2 := by simp only [consP, h, h2, Res.bd]
theorem bin_ok {op : D → D → Option D} {fa fb : Bf} {g g1 g2 : B.G} {p q : Pl} {x y z : D} (h1 : fa g = .ok p g1) (h2 : fb g1 = .ok q g2) (h3 : resolve g2 p = some x) (h4 : resolve g2 q = some y) (h5 : op x y = some z) : binF op fa fb g = .ok (.dat z) g2 := by
  simp only [binF, h1, Res.bd, h2, h3, h4, h5]
theorem set_ok {i : Nat} {fe : Ef} {g g1 g2 : B.G} {l : L} (h : fe g = .ok l g1) (h2 : g1.set i (some l) = g2) : setF i fe g = .next g2 := by simp only [setF, h, h2]
theorem test_ok {fe : Ef} {g g1 : B.G} {b : Bool} (h : fe g = .ok (.dat (.bl b)) g1) : testF fe g = .ok b g1 := by
  simp only [testF, h, Res.bd]
theorem run_ret {n : Nat} {modes : List Bool} {body : Sf} {ls : List L} {g g' : B.G} {l : L} {outs : List (Option L)} (h0 : ls.map some ++ List.replicate (n - ls.length) none = g) (h : body g = .ret l g') (h2 : outsOf modes g' = outs) : runDef n modes body ls = some (l, outs) := by
  simp only [runDef, h0, h, h2]
theorem raw_loop {many : Nat} (hc : many ≤ 4000) : ∀ (n : Nat) {l : List Int} {A : Graph} {k0 w ab : Option L}, RawOk many A → A.length + n = many →
    ∃ (l' : List Int) (A' : Graph) (k' w' ab' : Option L), RawOk many A' ∧ A'.length = many ∧
      forL (nameG 5) l1__law_raw_graph ((List.range' A.length n).map iD) [some (dr l), some (.dat (iD 12)), some (.dat (iD 10)), some (.dat (iD many)), some (.lst (A.map encK)), k0, w, ab] = .next [some (dr l'), some (.dat (iD 12)), some (.dat (iD 10)), some (.dat (iD many)), some (.lst (A'.map encK)), k', w', ab']
  | 0, l, A, k0, w, ab, hA, hn => ⟨l, A, k0, w, ab, hA, by omega, rfl⟩
  | n + 1, l, A, k0, w, ab, hA, hn => by
    obtain ⟨l1, x, w1, ab1, hA1, e1⟩ := raw_step (l := l) (w := w) (ab := ab) (show A.length < many by omega) hA rfl hc
    obtain ⟨l', A', k', w', ab', h1, h2, e2⟩ := raw_loop hc n (l := l1) (A := A ++ [x]) (k0 := some (.dat (iD A.length))) (w := w1) (ab := ab1) hA1 (by simp; omega)
    refine ⟨l', A', k', w', ab', h1, h2, ?_⟩
    rw [List.range'_succ, List.map_cons, forL]
    have tg : nameG 5 (iD A.length) [some (dr l), some (.dat (iD 12)), some (.dat (iD 10)), some (.dat (iD many)), some (.lst (A.map encK)), k0, w, ab] = some (rw_ l A many A.length w ab) := rfl
    simp only [tg, e1]
    rw [show A.length + 1 = (A ++ [x]).length by simp]
    exact e2
theorem den_raw_graph (l : List Int) : ∃ (l' : List Int) (A : Graph), RawOk A.length A ∧ 0 < A.length ∧ A.length ≤ 12 ∧ d__law_raw_graph [dr l, .dat (iD 12), .dat (iD 10)] = some (.lst (A.map encK), [some (dr l'), none, none]) := by
  obtain ⟨r, l1, hr, e1⟩ := draw0 (l := l) (rest := [some (.dat (iD 12)), some (.dat (iD 10)), none, none, none, none, none]) (fm := nameF 1) (m := 12) (by decide) rfl
  obtain ⟨l', A, k', w', ab', h1, h2, e2⟩ := raw_loop (many := 1 + r) (by omega) (1 + r) (l := l1) (A := []) (k0 := none) (w := none) (ab := none) (by intro i k h; simp at h) (by simp)
  refine ⟨l', A, by rw [h2]; exact h1, by omega, by omega, ?_⟩
  have s1 : setF 3 (binF addD (frzB (constF (.int 1))) (frzB (callF [some 0, none] d__law_draw (consP (slotB 0) (consP (frzB (nameF 1)) nilP))))) [some (dr l), some (.dat (iD 12)), some (.dat (iD 10)), none, none, none, none, none] = .next [some (dr l1), some (.dat (iD 12)), some (.dat (iD 10)), some (.dat (iD (1 + r))), none, none, none, none] := by
    have e3 : (1 : Int) + (r : Int) = ((1 + r : Nat) : Int) := by omega
    simp only [setF, binF, frzB, constF, Res.bd, view_dat, e1, resolve, addD, e3, List.set_cons_succ, List.set_cons_zero]
  have s3 : forF (rngI1 (nameF 3)) (nameG 5) l1__law_raw_graph [some (dr l1), some (.dat (iD 12)), some (.dat (iD 10)), some (.dat (iD (1 + r))), some (.lst []), none, none, none] = .next [some (dr l'), some (.dat (iD 12)), some (.dat (iD 10)), some (.dat (iD (1 + r))), some (.lst (A.map encK)), k', w', ab'] := by
    have hrng : rngI1 (nameF 3) [some (dr l1), some (.dat (iD 12)), some (.dat (iD 10)), some (.dat (iD (1 + r))), some (.lst []), none, none, none] = .ok ((List.range' 0 (1 + r)).map iD) [some (dr l1), some (.dat (iD 12)), some (.dat (iD 10)), some (.dat (iD (1 + r))), some (.lst []), none, none, none] := by
      have h4 : (4000 : Nat) + 2 ≤ cap := by decide
      have hh : (((1 + r : Nat) : Int)).natAbs < cap := by omega
      rw [rng_nat (fa := nameF 3) (n := 1 + r) (g1 := [some (dr l1), some (.dat (iD 12)), some (.dat (iD 10)), some (.dat (iD (1 + r))), some (.lst []), none, none, none]) rfl (by omega), List.range_eq_range']
    unfold forF
    rw [hrng]
    exact e2
  show runDef 8 [true, false, false] body__law_raw_graph [dr l, .dat (iD 12), .dat (iD 10)] = _
  unfold runDef
  show (match body__law_raw_graph [some (dr l), some (.dat (iD 12)), some (.dat (iD 10)), none, none, none, none, none] with
    | .ret l g' => some (l, outsOf [true, false, false] g')
    | .next g' => some (.dat .non, outsOf [true, false, false] g')
    | _ => none) = _
  have s2 : setF 4 (lstF nilA) [some (dr l1), some (.dat (iD 12)), some (.dat (iD 10)), some (.dat (iD (1 + r))), none, none, none, none] = .next [some (dr l1), some (.dat (iD 12)), some (.dat (iD 10)), some (.dat (iD (1 + r))), some (.lst []), none, none, none] := rfl
  simp only [body__law_raw_graph, seqF, s1, s2, s3]
  rfl
theorem den_graph (l : List Int) : ∃ (l' : List Int) (A : Graph), Good A ∧ d__law_graph [dr l, .dat (iD 12)] = some (.dat (tupG_ A), [some (dr l'), none]) := by
  obtain ⟨l', A, h1, h2, h3, e1⟩ := den_raw_graph l
  refine ⟨l', lst A, good_lst (h1.wf h2) h1.nr (Nat.le_trans (lst_le (h1.wf h2)) h3), ?_⟩
  have e2 := den_law_least (h1.wf h2) (by omega)
  show runDef 2 [true, false] body__law_graph [dr l, .dat (iD 12)] = _
  unfold runDef
  show (match body__law_graph [some (dr l), some (.dat (iD 12))] with
    | .ret l g' => some (l, outsOf [true, false] g')
    | .next g' => some (.dat .non, outsOf [true, false] g')
    | _ => none) = _
  have c1 : callF [some 0, none, none] d__law_raw_graph (consP (slotB 0) (consP (frzB (nameF 1)) (consP (frzB (constF (.int 10))) nilP))) [some (dr l), some (.dat (iD 12))] = .ok (.lst (A.map encK)) [some (dr l'), some (.dat (iD 12))] := by
    have e1' : d__law_raw_graph [dr l, .dat (iD 12), .dat (.int 10)] = some (.lst (A.map encK), [some (dr l'), none, none]) := e1
    exact call_ok (ls := [dr l, .dat (iD 12), .dat (.int 10)]) rfl rfl e1' rfl
  have c2 : callF [none] d__law_least (consP (frzB (callF [some 0, none, none] d__law_raw_graph (consP (slotB 0) (consP (frzB (nameF 1)) (consP (frzB (constF (.int 10))) nilP))))) nilP) [some (dr l), some (.dat (iD 12))] = .ok (.dat (tupG_ (lst A))) [some (dr l'), some (.dat (iD 12))] :=
    call_ok (cons_ok (frz_ok c1) rfl) rfl e2 rfl
  simp only [body__law_graph, retF, c2]
  rfl
end K15

set_option maxHeartbeats 4000000
namespace K15
open PySem L2 B Gr
def R2 {α β : Type} (R : α → β → Prop) : List α → List β → Prop
  | [], [] => True
  | a :: as, b :: bs => R a b ∧ R2 R as bs
  | _, _ => False
theorem R2.len {α β : Type} {R : α → β → Prop} : ∀ {as : List α} {bs : List β}, R2 R as bs → as.length = bs.length
  | [], [], _ => rfl
  | _ :: _, _ :: _, h => congrArg Nat.succ (R2.len h.2)
theorem R2.get {α β : Type} {R : α → β → Prop} : ∀ {as : List α} {bs : List β}, R2 R as bs → ∀ {i : Nat} {b : β}, bs[i]? = some b → ∃ a, as[i]? = some a ∧ R a b
  | [], [], _, i, b, e => by simp at e
  | _ :: _, _ :: _, h, 0, b, e => ⟨_, rfl, by simp at e; subst e; exact h.1⟩
  | a :: as, _ :: _, h, i + 1, b, e => by
    obtain ⟨a, h1, h2⟩ := R2.get h.2 (i := i) (b := b) (by simpa using e)
    exact ⟨a, by simpa using h1, h2⟩
theorem R2.snoc {α β : Type} {R : α → β → Prop} : ∀ {as : List α} {bs : List β} {a : α} {b : β}, R2 R as bs → R a b → R2 R (as ++ [a]) (bs ++ [b])
  | [], [], _, _, _, h => ⟨h, trivial⟩
  | _ :: _, _ :: _, _, _, h, h2 => ⟨h.1, R2.snoc h.2 h2⟩
theorem R2.app {α β : Type} {R : α → β → Prop} : ∀ {as : List α} {bs : List β} {as2 : List α} {bs2 : List β}, R2 R as bs → R2 R as2 bs2 → R2 R (as ++ as2) (bs ++ bs2)
  | [], [], _, _, _, h => h
  | _ :: _, _ :: _, _, _, h, h2 => ⟨h.1, R2.app h.2 h2⟩
theorem lcL_rel {α β : Type} {vs : List Nat} {t : Tg} {fe : Ef} {ea : α → D} {eb : β → D} {Rl : α → β → Prop} {P : B.G → Prop} : ∀ (as : List α) (acc : List D) (g : B.G), (∀ a ∈ as, ∀ g, P g → ∃ b g1 l g3, Rl a b ∧ t (ea a) g = some g1 ∧ fe g1 = .ok l g3 ∧ l.view = eb b ∧ P (wipeG g3 vs)) → P g → acc.length + as.length ≤ cap →
    ∃ bs g', R2 Rl as bs ∧ P g' ∧ lcL vs t yesT fe (as.map ea) acc g = .ok (acc ++ bs.map eb) g'
  | [], acc, g, _, hp, _ => ⟨[], g, trivial, hp, by simp [lcL]⟩
  | a :: as, acc, g, h, hp, hl => by
    obtain ⟨b, g1, l, g3, e0, e1, e2, e3, e4⟩ := h a (by simp) g hp
    obtain ⟨bs, g', h2, p', e'⟩ := lcL_rel as (acc ++ [l.view]) (wipeG g3 vs) (fun x hx => h x (by simp [hx])) e4 (by simp at hl ⊢; omega)
    refine ⟨b :: bs, g', ⟨e0, h2⟩, p', ?_⟩
    have hc : acc.length < cap := by simp at hl; omega
    rw [e3] at e'
    simp only [List.map_cons, lcL, e1, yesT, if_true, e2, if_pos hc, e3, e', List.append_assoc, List.singleton_append]
theorem lc_ok {vs : List Nat} {fi : Itf} {t : Tg} {tt : Tf} {fe : Ef} {g g1 g2 g3 : B.G} {ds acc : List D} (h1 : fi g = .ok ds g1) (h2 : vs.all (datOnly g1) = true) (h3 : lcL vs t tt fe ds [] (wipeG g1 vs) = .ok acc g2) (h4 : backG g1 vs g2 = g3) : lcF vs fi t tt fe g = .ok (.lst acc) g3 := by
  simp only [lcF, h1, h2, if_true, h3, h4]
theorem callB_ok {f : List D → Option L} {pf : Pf} {g g1 : B.G} {ps : List Pl} {ds : List D} {l : L} (h1 : pf g = .ok ps g1) (h2 : resolves g1 ps = some ds) (h3 : f ds = some l) : callBF f pf g = .ok l g1 := by
  simp only [callBF, h1, Res.bd, h2, h3]
theorem un_ok {f : D → Option L} {b : Bf} {g g1 : B.G} {p : Pl} {d : D} {l : L} (h1 : b g = .ok p g1) (h2 : resolve g1 p = some d) (h3 : f d = some l) : unF f b g = .ok l g1 := by
  simp only [unF, h1, Res.bd, h2, Option.bind, h3]
theorem ret_ok {fe : Ef} {g g1 : B.G} {l : L} (h : fe g = .ok l g1) : retF fe g = .ret l g1 := by simp only [retF, h]
theorem if_t {t : Tf} {a b : Sf} {g g1 : B.G} (h : t g = .ok true g1) : ifF t a b g = a g1 := by simp only [ifF, h, if_true]
theorem if_f {t : Tf} {a b : Sf} {g g1 : B.G} (h : t g = .ok false g1) : ifF t a b g = b g1 := by simp only [ifF, h, Bool.false_eq_true, if_false]
theorem seq_n {a b : Sf} {g g1 : B.G} (h : a g = .next g1) : seqF a b g = b g1 := by simp only [seqF, h]
theorem seq_r {a b : Sf} {g g1 : B.G} {l : L} (h : a g = .ret l g1) : seqF a b g = .ret l g1 := by simp only [seqF, h]
theorem skip_f {t : Tf} {a : Sf} {g g1 : B.G} (h : t g = .ok false g1) : ifF t a skipF g = .next g1 := by rw [if_f h]; rfl
theorem and_ok {t u : Tf} {g g1 g2 : B.G} {b : Bool} (h : t g = .ok true g1) (h2 : u g1 = .ok b g2) : andT t u g = .ok b g2 := by simp only [andT, h, Res.bd, if_true, h2]
theorem and_f {t u : Tf} {g g1 : B.G} (h : t g = .ok false g1) : andT t u g = .ok false g1 := by simp only [andT, h, Res.bd, Bool.false_eq_true, if_false]
theorem eq_int {g : B.G} {i : Nat} {r : Nat} {q : Int} (h : g[i]? = some (some (.dat (iD r)))) : testF (binF eqD (slotB i) (frzB (constF (.int q)))) g = .ok (decide ((r : Int) = q)) g :=
  test_ok (bin_ok (p := .slot i) (x := iD r) (y := .int q) (by simp only [slotB, h]) rfl (by simp only [resolve, h]; rfl) rfl (eqD_int _ _))
/-- what a near knot of k may be -/
structure NearOk (n c : Nat) (k x : Kn) : Prop where
  ar : x.ls.length = x.w.ar
  lt : ∀ l ∈ x.ls, l < n * c
  pr : x.w = .pair → k.w = .pair ∧ ∀ l ∈ x.ls, l % n ∈ k.ls
theorem near_base {n c : Nat} {k : Kn} {w : Wd} (h : w.ar = 0) (h2 : w ≠ .pair) : NearOk n c k ⟨w, []⟩ := ⟨h.symm, (by intro z hz; simp at hz), fun e => absurd e h2⟩
abbrev nk_ (l : List Int) (k : Kn) (n c : Nat) (s5 s6 s7 s8 s9 : Option L) : B.G := [some (dr l), some (.dat (encK k)), some (.dat (iD n)), some (.dat (iD c)), some (.dat (.bl true)), s5, s6, s7, s8, s9]
theorem near_e1 {l : List Int} {k : Kn} {n c x : Nat} {s5 s6 s7 s8 : Option L} (hc : 0 < c) (hn : n < 4000) (hc4 : c < 4000) : ∃ (r : Nat) (l' : List Int), r < c ∧ e1__law_near_knot (nk_ l k n c s5 s6 s7 s8 (some (.dat (iD x)))) = .ok (.dat (iD (x + n * r))) (nk_ l' k n c s5 s6 s7 s8 (some (.dat (iD x)))) := by
  obtain ⟨r, l', hr, e⟩ := draw0 (l := l) (rest := [some (.dat (encK k)), some (.dat (iD n)), some (.dat (iD c)), some (.dat (.bl true)), s5, s6, s7, s8, some (.dat (iD x))]) (fm := nameF 3) (m := c) hc rfl
  refine ⟨r, l', hr, ?_⟩
  have hp : (4000 : Nat) < 2 ^ 64 := by decide
  have m : binF mulD (slotB 2) (frzB (callF [some 0, none] d__law_draw (consP (slotB 0) (consP (frzB (nameF 3)) nilP)))) (nk_ l k n c s5 s6 s7 s8 (some (.dat (iD x)))) = .ok (.dat (.int ((n : Int) * (r : Int)))) (nk_ l' k n c s5 s6 s7 s8 (some (.dat (iD x)))) :=
    bin_ok (p := .slot 2) (x := iD n) (y := iD r) rfl (frz_ok e) rfl rfl (mul_ok _ (by omega))
  have e5 : iD (x + n * r) = .int ((x : Int) + (n : Int) * (r : Int)) := by simp [iD]
  rw [e5]
  exact bin_ok (p := .slot 9) (x := iD x) (y := .int ((n : Int) * (r : Int))) rfl (frz_ok m) rfl rfl rfl
theorem den_near_knot (l : List Int) {k : Kn} {n c : Nat} (hk : k.ls.length = k.w.ar) (hkl : ∀ x ∈ k.ls, x < n) (hn0 : 0 < n) (hn : n ≤ 12) (hc0 : 0 < c) (hc : c ≤ 2) :
    ∃ (l' : List Int) (x : Kn), NearOk n c k x ∧ d__law_near_knot [dr l, .dat (encK k), .dat (iD n), .dat (iD c), .dat (.bl true)] = some (.dat (encK x), [some (dr l'), none, none, none, none]) := by
  have h4 : (4000 : Nat) + 2 ≤ cap := by decide
  let h5 : Option L := some (.dat (.tup [.str (ws k.w)]))
  let h6 : Option L := some (.dat (.lst (k.ls.map iD)))
  have key : ∃ (l' : List Int) (x : Kn) (s5 s6 s7 s8 s9 : Option L), NearOk n c k x ∧ body__law_near_knot (nk_ l k n c none none none none none) = .ret (.dat (encK x)) (nk_ l' k n c s5 s6 s7 s8 s9) := by
    have s1 : asgF (tupG (consG (nameG 5) (consG (nameG 6) nilG))) (callF [none] d__law_split (consP (frzB (nameF 1)) nilP)) (nk_ l k n c none none none none none) = .next (nk_ l k n c h5 h6 none none none) := by
      have c1 : callF [none] d__law_split (consP (frzB (nameF 1)) nilP) (nk_ l k n c none none none none none) = .ok (.dat (spl k)) (nk_ l k n c none none none none none) := call_ok (ls := [.dat (encK k)]) rfl rfl (den_split hk) rfl
      unfold asgF
      rw [c1]
      rfl
    obtain ⟨r, l1, hr, e2⟩ := draw0 (l := l) (rest := [some (.dat (encK k)), some (.dat (iD n)), some (.dat (iD c)), some (.dat (.bl true)), h5, h6, none, none, none]) (fm := constF (.int 7)) (m := 7) (by decide) rfl
    have s2 := set_ok (i := 7) e2 (g2 := nk_ l1 k n c h5 h6 (some (.dat (iD r))) none none) rfl
    have t6 := eq_int (g := nk_ l1 k n c h5 h6 (some (.dat (iD r))) none none) (i := 7) (r := r) (q := 6) rfl
    have t5 := eq_int (g := nk_ l1 k n c h5 h6 (some (.dat (iD r))) none none) (i := 7) (r := r) (q := 5) rfl
    unfold body__law_near_knot
    rw [seq_n s1, seq_n s2]
    by_cases h6' : (r : Int) = 6
    · rw [decide_eq_true h6'] at t6
      refine ⟨l1, ⟨.q, []⟩, h5, h6, some (.dat (iD r)), none, none, near_base rfl (by intro z; cases z), seq_r ?_⟩
      rw [if_t t6]
      rfl
    · rw [decide_eq_false h6'] at t6
      rw [seq_n (skip_f t6)]
      have tq : testF (binF eqD (frzB (binF ixD (slotB 5) (frzB (constF (.int 0))))) (frzB (constF (.str "?")))) (nk_ l1 k n c h5 h6 (some (.dat (iD r))) none none) = .ok (decide (k.w = .q)) (nk_ l1 k n c h5 h6 (some (.dat (iD r))) none none) :=
        test_ok (bin_ok (x := .str (ws k.w)) (y := .str (ws .q)) rfl rfl rfl rfl (eqD_ws _ _))
      have tt : andT (testF (binF eqD (slotB 7) (frzB (constF (.int 5))))) (andT (testF (nameF 4)) (testF (binF eqD (frzB (binF ixD (slotB 5) (frzB (constF (.int 0))))) (frzB (constF (.str "?")))))) (nk_ l1 k n c h5 h6 (some (.dat (iD r))) none none) = .ok (decide ((r : Int) = 5 ∧ k.w = .q)) (nk_ l1 k n c h5 h6 (some (.dat (iD r))) none none) := by
        by_cases h : (r : Int) = 5
        · rw [decide_eq_true h] at t5
          have tn : testF (nameF 4) (nk_ l1 k n c h5 h6 (some (.dat (iD r))) none none) = .ok true (nk_ l1 k n c h5 h6 (some (.dat (iD r))) none none) := rfl
          rw [and_ok t5 (and_ok tn tq)]
          simp [h]
        · rw [decide_eq_false h] at t5
          rw [and_f t5]
          simp [h]
      by_cases h5' : (r : Int) = 5 ∧ k.w = .q
      · rw [decide_eq_true h5'] at tt
        obtain ⟨r8, l2, hr8, e8⟩ := draw0 (l := l1) (rest := [some (.dat (encK k)), some (.dat (iD n)), some (.dat (iD c)), some (.dat (.bl true)), h5, h6, some (.dat (iD r)), none, none]) (fm := constF (.int 6)) (m := 6) (by decide) rfl
        have s8 := set_ok (i := 8) e8 (g2 := nk_ l2 k n c h5 h6 (some (.dat (iD r))) (some (.dat (iD r8))) none) rfl
        have t8 := eq_int (g := nk_ l2 k n c h5 h6 (some (.dat (iD r))) (some (.dat (iD r8))) none) (i := 8) (r := r8) (q := 4) rfl
        have t9 := eq_int (g := nk_ l2 k n c h5 h6 (some (.dat (iD r))) (some (.dat (iD r8))) none) (i := 8) (r := r8) (q := 5) rfl
        have hm : ∀ l, binF mulD (slotB 2) (slotB 3) (nk_ l k n c h5 h6 (some (.dat (iD r))) (some (.dat (iD r8))) none) = .ok (.dat (iD (n * c))) (nk_ l k n c h5 h6 (some (.dat (iD r))) (some (.dat (iD r8))) none) := by
          intro l
          have e5 : iD (n * c) = .int ((n : Int) * (c : Int)) := by simp [iD]
          rw [e5]
          have hp : (4000 : Nat) < 2 ^ 64 := by decide
          exact bin_ok (p := .slot 2) (q := .slot 3) (x := iD n) (y := iD c) rfl rfl rfl rfl (mul_ok _ (by omega))
        have hnc : 0 < n * c := Nat.mul_pos hn0 hc0
        by_cases h8 : (r8 : Int) = 4
        · rw [decide_eq_true h8] at t8
          obtain ⟨x, l3, hx, e9⟩ := draw0 (l := l2) (rest := [some (.dat (encK k)), some (.dat (iD n)), some (.dat (iD c)), some (.dat (.bl true)), h5, h6, some (.dat (iD r)), some (.dat (iD r8)), none]) (fm := binF mulD (slotB 2) (slotB 3)) hnc (hm _)
          obtain ⟨y, l4, hy, e10⟩ := draw0 (l := l3) (rest := [some (.dat (encK k)), some (.dat (iD n)), some (.dat (iD c)), some (.dat (.bl true)), h5, h6, some (.dat (iD r)), some (.dat (iD r8)), none]) (fm := binF mulD (slotB 2) (slotB 3)) hnc (hm _)
          refine ⟨l4, ⟨.fn, [x, y]⟩, h5, h6, some (.dat (iD r)), some (.dat (iD r8)), none, ⟨rfl, (by intro z hz; simp at hz; rcases hz with rfl | rfl <;> assumption), (by intro z; cases z)⟩, seq_r ?_⟩
          rw [if_t tt, seq_n s8]
          refine seq_r ?_
          rw [if_t t8]
          refine ret_ok ?_
          have h3 : (3 : Nat) ≤ cap := by decide
          simp only [tupF, consA, constF, Res.bd, e9, e10, nilA, view_dat, List.length_cons, List.length_nil, if_pos h3]
          rfl
        · rw [decide_eq_false h8] at t8
          by_cases h9 : (r8 : Int) = 5
          · rw [decide_eq_true h9] at t9
            obtain ⟨x, l3, hx, e9⟩ := draw0 (l := l2) (rest := [some (.dat (encK k)), some (.dat (iD n)), some (.dat (iD c)), some (.dat (.bl true)), h5, h6, some (.dat (iD r)), some (.dat (iD r8)), none]) (fm := binF mulD (slotB 2) (slotB 3)) hnc (hm _)
            refine ⟨l3, ⟨.box, [x]⟩, h5, h6, some (.dat (iD r)), some (.dat (iD r8)), none, ⟨rfl, (by intro z hz; simp at hz; subst hz; assumption), (by intro z; cases z)⟩, seq_r ?_⟩
            rw [if_t tt, seq_n s8, seq_n (skip_f t8)]
            refine seq_r ?_
            rw [if_t t9]
            refine ret_ok ?_
            have h3 : (2 : Nat) ≤ cap := by decide
            simp only [tupF, consA, constF, Res.bd, e9, nilA, view_dat, List.length_cons, List.length_nil, if_pos h3]
            rfl
          · rw [decide_eq_false h9] at t9
            have hw : ∃ w0 : Wd, w0.ar = 0 ∧ w0 ≠ .pair ∧ tupF (consA (binF ixD (frzB (lstF (consA (constF (.str "int")) (consA (constF (.str "bool")) (consA (constF (.str "unit")) (consA (constF (.str "?")) nilA)))))) (slotB 8)) nilA) (nk_ l2 k n c h5 h6 (some (.dat (iD r))) (some (.dat (iD r8))) none) = .ok (.dat (encK ⟨w0, []⟩)) (nk_ l2 k n c h5 h6 (some (.dat (iD r))) (some (.dat (iD r8))) none) := by
              have h10 : r8 = 0 ∨ r8 = 1 ∨ r8 = 2 ∨ r8 = 3 := by omega
              rcases h10 with rfl | rfl | rfl | rfl
              · exact ⟨.int, rfl, by decide, rfl⟩
              · exact ⟨.bool, rfl, by decide, rfl⟩
              · exact ⟨.unit, rfl, by decide, rfl⟩
              · exact ⟨.q, rfl, by decide, rfl⟩
            obtain ⟨w0, hw0, hw1, e9⟩ := hw
            refine ⟨l2, ⟨w0, []⟩, h5, h6, some (.dat (iD r)), some (.dat (iD r8)), none, near_base hw0 hw1, seq_r ?_⟩
            rw [if_t tt, seq_n s8, seq_n (skip_f t8), seq_n (skip_f t9)]
            exact ret_ok e9
      · rw [decide_eq_false h5'] at tt
        rw [seq_n (skip_f tt)]
        obtain ⟨bs, g', hb, ⟨l2, rfl⟩, e3⟩ := lcL_rel (vs := [9]) (t := nameG 9) (fe := e1__law_near_knot) (ea := iD) (eb := iD) (Rl := fun x y => y % n = x ∧ y < n * c) (P := fun g => ∃ l, g = nk_ l k n c h5 h6 (some (.dat (iD r))) none none) k.ls [] (nk_ l1 k n c h5 h6 (some (.dat (iD r))) none none) (by
          rintro x hx g ⟨l2, rfl⟩
          obtain ⟨q, l3, hq, e⟩ := near_e1 (l := l2) (k := k) (n := n) (c := c) (x := x) (s5 := h5) (s6 := h6) (s7 := some (.dat (iD r))) (s8 := none) hc0 (by omega) (by omega)
          refine ⟨x + n * q, _, _, _, ⟨?_, ?_⟩, rfl, e, rfl, l3, rfl⟩
          · rw [Nat.add_mul_mod_self_left]
            exact Nat.mod_eq_of_lt (hkl x hx)
          · have := hkl x hx
            calc x + n * q < n + n * q := by omega
              _ = n * (q + 1) := by rw [Nat.mul_succ, Nat.add_comm]
              _ ≤ n * c := Nat.mul_le_mul_left n hq) ⟨l1, rfl⟩ (by have : k.ls.length ≤ 2 := by { rw [hk]; cases k.w <;> decide }; simp; omega)
        have e4 := lc_ok (g := nk_ l1 k n c h5 h6 (some (.dat (iD r))) none none) (fi := seqI (nameF 6)) (g3 := nk_ l2 k n c h5 h6 (some (.dat (iD r))) none none) rfl rfl e3 rfl
        have e5 := callB_ok (f := tupleD) (cons_ok (frz_ok e4) (pf := nilP) rfl) rfl rfl
        have hlen := hb.len
        have har : k.ls.length ≤ 2 := by { rw [hk]; cases k.w <;> decide }
        refine ⟨l2, ⟨k.w, bs⟩, h5, h6, some (.dat (iD r)), none, none, ⟨by rw [← hk]; exact hlen.symm, ?_, ?_⟩, ret_ok ?_⟩
        · intro z hz
          obtain ⟨i, hi⟩ := List.mem_iff_getElem?.mp hz
          obtain ⟨x, h1, h2⟩ := hb.get hi
          exact h2.2
        · intro hp
          refine ⟨hp, fun z hz => ?_⟩
          obtain ⟨i, hi⟩ := List.mem_iff_getElem?.mp hz
          obtain ⟨x, h1, h2⟩ := hb.get hi
          rw [h2.1]
          exact List.mem_of_getElem? h1
        · exact bin_ok (p := .slot 5) (x := .tup [.str (ws k.w)]) rfl (frz_ok e5) rfl rfl (if_pos (by simp; omega))
  obtain ⟨l', x, s5, s6, s7, s8, s9, h1, h2⟩ := key
  exact ⟨l', x, h1, run_ret (g := nk_ l k n c none none none none none) rfl h2 rfl⟩
end K15

set_option maxHeartbeats 4000000
namespace K15
open PySem L2 B Gr
theorem loop_rel {α β : Type} {t : Tg} {b : Sf} {ea : α → D} {Rl : α → β → Prop} {P : List β → B.G → Prop} {N : Nat} : ∀ (as : List α) (acc : List β) (g : B.G), (∀ a ∈ as, ∀ acc g, P acc g → acc.length < N → ∃ x g1 g2, Rl a x ∧ t (ea a) g = some g1 ∧ b g1 = .next g2 ∧ P (acc ++ [x]) g2) → P acc g → acc.length + as.length ≤ N →
    ∃ bs g', R2 Rl as bs ∧ P (acc ++ bs) g' ∧ forL t b (as.map ea) g = .next g'
  | [], acc, g, _, hp, _ => ⟨[], g, trivial, by simpa using hp, rfl⟩
  | a :: as, acc, g, h, hp, hl => by
    obtain ⟨x, g1, g2, e0, e1, e2, e3⟩ := h a (by simp) acc g hp (by simp at hl; omega)
    obtain ⟨bs, g', h2, p', e'⟩ := loop_rel as (acc ++ [x]) g2 (fun y hy => h y (by simp [hy])) e3 (by simp at hl ⊢; omega)
    refine ⟨x :: bs, g', ⟨e0, h2⟩, by simpa using p', ?_⟩
    simp only [List.map_cons, forL, e1, e2, e']
/-- every place of B is made of the knot of A at its remainder -/
def Made (A : Graph) (Rl : Kn → Kn → Prop) (B : Graph) : Prop := ∀ (i : Nat) (x : Kn), B[i]? = some x → ∃ k, A[i % A.length]? = some k ∧ Rl k x
theorem Made.app {A B bs : Graph} {Rl : Kn → Kn → Prop} {j : Nat} (h : Made A Rl B) (hB : B.length = A.length * j) (hb : R2 Rl A bs) : Made A Rl (B ++ bs) := by
  intro i x hx
  by_cases hi : i < B.length
  · rw [List.getElem?_append_left hi] at hx
    exact h i x hx
  · rw [List.getElem?_append_right (by omega)] at hx
    have hlt : i - B.length < bs.length := (List.getElem?_eq_some_iff.mp hx).1
    obtain ⟨k, h1, h2⟩ := hb.get hx
    refine ⟨k, ?_, h2⟩
    have hl := hb.len
    have : i % A.length = i - B.length := by
      have e2 : i = i - B.length + A.length * j := by omega
      rw [show i % A.length = (i - B.length + A.length * j) % A.length from congrArg (· % A.length) e2, Nat.add_mul_mod_self_left, Nat.mod_eq_of_lt (by omega)]
    rw [this]
    exact h1
theorem copies {A : Graph} {t t2 : Tg} {b : Sf} {Rl : Kn → Kn → Prop} {P : List Kn → B.G → Prop} {N : Nat} (hin : ∀ k ∈ A, ∀ acc g, P acc g → acc.length < N → ∃ x g1 g2, Rl k x ∧ t (encK k) g = some g1 ∧ b g1 = .next g2 ∧ P (acc ++ [x]) g2)
    (hseq : ∀ acc g, P acc g → seqI (nameF 1) g = .ok (A.map encK) g) (hout : ∀ d acc g, P acc g → ∃ g1, t2 d g = some g1 ∧ P acc g1) : ∀ (ds : List D) (j : Nat) (acc : List Kn) (g : B.G), P acc g → acc.length = A.length * j → Made A Rl acc → A.length * (j + ds.length) ≤ N →
    ∃ C g', forL t2 (forF (seqI (nameF 1)) t b) ds g = .next g' ∧ P C g' ∧ C.length = A.length * (j + ds.length) ∧ Made A Rl C
  | [], j, acc, g, hp, hl, hm, hN => ⟨acc, g, rfl, hp, hl, hm⟩
  | d :: ds, j, acc, g, hp, hl, hm, hN => by
    obtain ⟨g1, e1, p1⟩ := hout d acc g hp
    have hjj : j + (d :: ds).length = j + 1 + ds.length := by simp; omega
    rw [hjj] at hN ⊢
    have hle : A.length * (j + 1) ≤ A.length * (j + 1 + ds.length) := Nat.mul_le_mul_left _ (by omega)
    have hmul : A.length * (j + 1) = A.length * j + A.length := Nat.mul_succ _ _
    obtain ⟨bs, g2, h2, p2, e2⟩ := loop_rel A acc g1 hin p1 (by omega)
    obtain ⟨C, g', e3, p3, h3, h4⟩ := copies hin hseq hout ds (j + 1) (acc ++ bs) g2 p2 (by rw [List.length_append, ← h2.len, hl, hmul]) (hm.app hl h2) hN
    refine ⟨C, g', ?_, p3, h3, h4⟩
    have e4 : forF (seqI (nameF 1)) t b g1 = .next g2 := by
      unfold forF
      rw [hseq acc g1 p1]
      exact e2
    simp only [forL, e1, e4, e3]
theorem near_pp {A B : Graph} {c : Nat} (hm : Made A (NearOk A.length c) B) : ∀ (m a : Nat), PP B m a → PP A m (a % A.length)
  | 0, _, _ => trivial
  | m + 1, a, ⟨x, h1, h2, l, h3, h4⟩ => by
    obtain ⟨k, e1, e2⟩ := hm a x h1
    obtain ⟨e3, e4⟩ := e2.pr h2
    exact ⟨k, e1, e3, l % A.length, e4 l h3, near_pp hm m l h4⟩
theorem near_good {A B : Graph} {c : Nat} (hA : Good A) (hc : 0 < c) (hl : B.length = A.length * c) (hm : Made A (NearOk A.length c) B) : Wf B ∧ NoRing B := by
  refine ⟨⟨?_, ?_⟩, ?_⟩
  · rw [hl]
    exact Nat.mul_pos hA.wf.1 hc
  · intro x hx
    obtain ⟨i, hi⟩ := List.mem_iff_getElem?.mp hx
    obtain ⟨k, h1, h2⟩ := hm i x hi
    exact ⟨h2.ar, by rw [hl]; exact h2.lt⟩
  · obtain ⟨n, hn⟩ := hA.nr
    exact ⟨n, fun a hp => hn _ (near_pp hm n a hp)⟩
abbrev nr_ (l : List Int) (A : Graph) (s3 s4 s5 s6 s7 : Option L) : B.G := [some (dr l), some (.dat (tupG_ A)), some (.dat (.bl true)), s3, s4, s5, s6, s7]
theorem den_near (l : List Int) {A : Graph} (hA : Good A) : ∃ (l' : List Int) (C : Graph), Good C ∧ d__law_near [dr l, .dat (tupG_ A), .dat (.bl true)] = some (.dat (tupG_ C), [some (dr l'), none, none]) := by
  have h4 : (4000 : Nat) + 2 ≤ cap := by decide
  have hle := hA.le
  obtain ⟨r, l1, hr, e1⟩ := draw0 (l := l) (rest := [some (.dat (tupG_ A)), some (.dat (.bl true)), none, none, none, none, none]) (fm := constF (.int 2)) (m := 2) (by decide) rfl
  have s1 : setF 3 (binF addD (frzB (constF (.int 1))) (frzB (callF [some 0, none] d__law_draw (consP (slotB 0) (consP (frzB (constF (.int 2))) nilP))))) (nr_ l A none none none none none) = .next (nr_ l1 A (some (.dat (iD (1 + r)))) none none none none) := by
    have e5 : iD (1 + r) = .int (1 + (r : Int)) := by simp [iD]
    rw [e5]
    exact set_ok (bin_ok (p := .val (.int 1)) (x := .int 1) (y := iD r) rfl (frz_ok e1) rfl rfl rfl) rfl
  have s2 : setF 4 (lstF nilA) (nr_ l1 A (some (.dat (iD (1 + r)))) none none none none) = .next (nr_ l1 A (some (.dat (iD (1 + r)))) (some (.lst [])) none none none) := rfl
  have hN : A.length * (0 + ((List.range (1 + r)).map iD).length) ≤ 24 := by
    rw [List.length_map, List.length_range, Nat.zero_add]
    calc A.length * (1 + r) ≤ 12 * 2 := Nat.mul_le_mul hle (by omega)
      _ = 24 := rfl
  obtain ⟨C, g', e2, ⟨l2, s5, s6, rfl⟩, hl, hm⟩ := copies (A := A) (t := nameG 6) (t2 := nameG 5) (b := l1__law_near) (Rl := NearOk A.length (1 + r)) (P := fun acc g => ∃ l s5 s6, g = nr_ l A (some (.dat (iD (1 + r)))) (some (.lst (acc.map encK))) s5 s6 none) (N := 24) (by
      rintro k hk acc g ⟨l, s5, s6, rfl⟩ hacc
      obtain ⟨l', x, hx, e⟩ := den_near_knot l (n := A.length) (c := 1 + r) (hA.wf.2 k hk).1 (hA.wf.2 k hk).2 hA.wf.1 hle (by omega) (by omega)
      refine ⟨x, nr_ l A (some (.dat (iD (1 + r)))) (some (.lst (acc.map encK))) s5 (some (.dat (encK k))) none, nr_ l' A (some (.dat (iD (1 + r)))) (some (.lst ((acc ++ [x]).map encK))) s5 (some (.dat (encK k))) none, hx, rfl, ?_, ⟨l', s5, _, rfl⟩⟩
      have c1 : callF [some 0, none, none, none, none] d__law_near_knot (consP (slotB 0) (consP (frzB (nameF 6)) (consP (frzB (callBF lenD (consP (slotB 1) nilP))) (consP (frzB (nameF 3)) (consP (frzB (nameF 2)) nilP))))) (nr_ l A (some (.dat (iD (1 + r)))) (some (.lst (acc.map encK))) s5 (some (.dat (encK k))) none) = .ok (.dat (encK x)) (nr_ l' A (some (.dat (iD (1 + r)))) (some (.lst (acc.map encK))) s5 (some (.dat (encK k))) none) := by
        have eL : callBF lenD (consP (slotB 1) nilP) (nr_ l A (some (.dat (iD (1 + r)))) (some (.lst (acc.map encK))) s5 (some (.dat (encK k))) none) = .ok (.dat (iD A.length)) (nr_ l A (some (.dat (iD (1 + r)))) (some (.lst (acc.map encK))) s5 (some (.dat (encK k))) none) :=
          callB_ok (ps := [.slot 1]) (ds := [tupG_ A]) rfl rfl (by simp only [tupG_, lenD, List.length_map])
        exact call_ok (ls := [dr l, .dat (encK k), .dat (iD A.length), .dat (iD (1 + r)), .dat (.bl true)]) (cons_ok (p := .slot 0) rfl (cons_ok (p := .val (encK k)) rfl (cons_ok (frz_ok eL) rfl))) rfl e rfl
      have hl' : (acc.map encK).length < cap := by rw [List.length_map]; omega
      simp only [l1__law_near, exprF, appF, List.getElem?_cons_succ, List.getElem?_cons_zero, c1, Res.bd, if_pos hl', view_dat, List.set_cons_succ, List.set_cons_zero, List.map_append, List.map_cons, List.map_nil])
    (by rintro acc g ⟨l, s5, s6, rfl⟩; rfl) (by rintro d acc g ⟨l, s5, s6, rfl⟩; exact ⟨_, rfl, l, _, s6, rfl⟩) ((List.range (1 + r)).map iD) 0 [] _ ⟨l1, none, none, rfl⟩ rfl (by intro i x hx; simp at hx) hN
  rw [List.length_map, List.length_range, Nat.zero_add] at hl
  rw [List.length_map, List.length_range, Nat.zero_add] at hN
  have s3 : forF (rngI1 (nameF 3)) (nameG 5) l2__law_near (nr_ l1 A (some (.dat (iD (1 + r)))) (some (.lst [])) none none none) = .next (nr_ l2 A (some (.dat (iD (1 + r)))) (some (.lst (C.map encK))) s5 s6 none) := by
    unfold forF
    rw [rng_nat (fa := nameF 3) (n := 1 + r) (g1 := nr_ l1 A (some (.dat (iD (1 + r)))) (some (.lst [])) none none none) rfl (by omega)]
    exact e2
  obtain ⟨hw, hr2⟩ := near_good hA (by omega) hl hm
  have s4 : setF 7 (callF [none] d__law_least (consP (frzB (nameF 4)) nilP)) (nr_ l2 A (some (.dat (iD (1 + r)))) (some (.lst (C.map encK))) s5 s6 none) = .next (nr_ l2 A (some (.dat (iD (1 + r)))) (some (.dat (lstG C))) s5 s6 (some (.dat (tupG_ (lst C))))) :=
    set_ok (call_ok (ls := [.dat (lstG C)]) rfl rfl (den_law_least hw (by omega)) rfl) rfl
  have t5 : testF (binF gtD (frzB (callBF lenD (consP (slotB 7) nilP))) (frzB (constF (.int 12)))) (nr_ l2 A (some (.dat (iD (1 + r)))) (some (.dat (lstG C))) s5 s6 (some (.dat (tupG_ (lst C))))) = .ok (decide (12 < ((lst C).length : Int))) (nr_ l2 A (some (.dat (iD (1 + r)))) (some (.dat (lstG C))) s5 s6 (some (.dat (tupG_ (lst C))))) := by
    have eL : callBF lenD (consP (slotB 7) nilP) (nr_ l2 A (some (.dat (iD (1 + r)))) (some (.dat (lstG C))) s5 s6 (some (.dat (tupG_ (lst C))))) = .ok (.dat (iD (lst C).length)) (nr_ l2 A (some (.dat (iD (1 + r)))) (some (.dat (lstG C))) s5 s6 (some (.dat (tupG_ (lst C))))) :=
      callB_ok (ps := [.slot 7]) (ds := [tupG_ (lst C)]) rfl rfl (by simp only [tupG_, lenD, List.length_map])
    exact test_ok (bin_ok (frz_ok eL) rfl rfl rfl (gt_int _ _))
  by_cases h12 : 12 < ((lst C).length : Int)
  · rw [decide_eq_true h12] at t5
    refine ⟨l2, A, hA, run_ret (g := nr_ l A none none none none none) rfl (g' := (nr_ l2 A (some (.dat (iD (1 + r)))) (some (.dat (lstG C))) s5 s6 (some (.dat (tupG_ (lst C))))).set 1 none) ?_ rfl⟩
    unfold body__law_near
    rw [seq_n s1, seq_n s2, seq_n s3, seq_n s4]
    refine seq_r ?_
    rw [if_t t5]
    rfl
  · rw [decide_eq_false h12] at t5
    refine ⟨l2, lst C, good_lst hw hr2 (by omega), run_ret (g := nr_ l A none none none none none) rfl (g' := (nr_ l2 A (some (.dat (iD (1 + r)))) (some (.dat (lstG C))) s5 s6 (some (.dat (tupG_ (lst C))))).set 7 none) ?_ rfl⟩
    unfold body__law_near
    rw [seq_n s1, seq_n s2, seq_n s3, seq_n s4, seq_n (skip_f t5)]
    rfl
end K15

set_option maxHeartbeats 4000000
namespace K15
open PySem L2 B Gr
theorem R2.map {α β : Type} {f : α → β} : ∀ {as : List α} {bs : List β}, R2 (fun a b => b = f a) as bs → bs = as.map f
  | [], [], _ => rfl
  | _ :: _, _ :: _, h => by rw [List.map_cons, h.1, ← R2.map h.2]
def spK (n a k : Nat) : Kn := ⟨.fn, [n + (if k = a then 1 else 0), (k + 1) % n]⟩
def spG (n a : Nat) (w : Wd) : Graph := (List.range n).map (spK n a) ++ [⟨.q, []⟩, ⟨w, []⟩]
theorem spG_len (n a : Nat) (w : Wd) : (spG n a w).length = n + 2 := by simp [spG]
theorem spG_wf {n a : Nat} {w : Wd} (hn : 0 < n) (hw : w.ar = 0) : Wf (spG n a w) := by
  refine ⟨by rw [spG_len]; omega, fun k hk => ?_⟩
  rw [spG_len]
  rcases List.mem_append.mp hk with h | h
  · obtain ⟨j, h1, rfl⟩ := List.mem_map.mp h
    refine ⟨rfl, fun l hl => ?_⟩
    have hm := Nat.mod_lt (j + 1) hn
    rcases List.mem_cons.mp hl with rfl | hl
    · split <;> omega
    · rcases List.mem_cons.mp hl with rfl | hl
      · omega
      · cases hl
  · rcases List.mem_cons.mp h with rfl | h
    · exact ⟨rfl, fun l hl => by cases hl⟩
    · rcases List.mem_cons.mp h with rfl | h
      · exact ⟨hw.symm, fun l hl => by cases hl⟩
      · cases h
theorem spG_nr {n a : Nat} {w : Wd} (hw : w ≠ .pair) : NoRing (spG n a w) := ⟨1, fun b ⟨k, h1, h2, _⟩ => by
  rcases List.mem_append.mp (List.mem_of_getElem? h1) with h | h
  · obtain ⟨j, h1, rfl⟩ := List.mem_map.mp h
    cases h2
  · rcases List.mem_cons.mp h with rfl | h
    · cases h2
    · rcases List.mem_cons.mp h with rfl | h
      · exact hw h2
      · cases h⟩
abbrev so_ (n a : Nat) (w : Wd) (s3 s4 : Option L) : B.G := [some (.dat (iD n)), some (.dat (iD a)), some (.dat (.str (ws w))), s3, s4]
theorem den_spine {n a : Nat} {w : Wd} (hn : 0 < n) (hn2 : n ≤ 10) (hw : w.ar = 0) (hw2 : w ≠ .pair) : ∃ A, Good A ∧ d__law_spine_of [.dat (iD n), .dat (iD a), .dat (.str (ws w))] = some (.dat (tupG_ A), [none, none, none]) := by
  have h4 : (4000 : Nat) + 2 ≤ cap := by decide
  have hwf := spG_wf (a := a) hn hw
  have hlen := spG_len n a w
  refine ⟨lst (spG n a w), good_lst hwf (spG_nr hw2) (by have := lst_le hwf; omega), ?_⟩
  obtain ⟨bs, g', hb, rfl, e3⟩ := lcL_rel (vs := [4]) (t := nameG 4) (fe := e1__law_spine_of) (ea := iD) (eb := encK) (Rl := fun x y => y = spK n a x) (P := fun g => g = so_ n a w none none) (List.range n) [] (so_ n a w none none) (by
    rintro x hx g rfl
    refine ⟨spK n a x, so_ n a w none (some (.dat (iD x))), .dat (encK (spK n a x)), so_ n a w none (some (.dat (iD x))), rfl, rfl, ?_, rfl, rfl⟩
    have h3 : (3 : Nat) ≤ cap := by decide
    have b1 : binF addD (slotB 0) (frzB (callBF intD (consP (frzB (binF eqD (slotB 4) (slotB 1))) nilP))) (so_ n a w none (some (.dat (iD x)))) = .ok (.dat (iD (n + (if x = a then 1 else 0)))) (so_ n a w none (some (.dat (iD x)))) := by
      have q1 : binF eqD (slotB 4) (slotB 1) (so_ n a w none (some (.dat (iD x)))) = .ok (.dat (.bl (decide ((x : Int) = (a : Int))))) (so_ n a w none (some (.dat (iD x)))) := bin_ok (p := .slot 4) (q := .slot 1) rfl rfl rfl rfl (eqD_int _ _)
      have q2 := callB_ok (f := intD) (cons_ok (frz_ok q1) (pf := nilP) rfl) rfl rfl
      have e5 : iD (n + (if x = a then 1 else 0)) = .int ((n : Int) + (if decide ((x : Int) = (a : Int)) = true then 1 else 0)) := by
        by_cases h : x = a
        · subst h; simp [iD]
        · have : ¬ (x : Int) = (a : Int) := by omega
          simp [iD, h, this]
      rw [e5]
      exact bin_ok (p := .slot 0) (x := iD n) rfl (frz_ok q2) rfl rfl rfl
    have b2 : binF modD (frzB (callBF intD (consP (frzB (binF addD (slotB 4) (frzB (constF (.int 1))))) nilP))) (slotB 0) (so_ n a w none (some (.dat (iD x)))) = .ok (.dat (iD ((x + 1) % n))) (so_ n a w none (some (.dat (iD x)))) := by
      have q1 : binF addD (slotB 4) (frzB (constF (.int 1))) (so_ n a w none (some (.dat (iD x)))) = .ok (.dat (.int ((x : Int) + 1))) (so_ n a w none (some (.dat (iD x)))) := bin_ok (p := .slot 4) (x := iD x) (y := .int 1) rfl rfl rfl rfl rfl
      have q2 := callB_ok (f := intD) (cons_ok (frz_ok q1) (pf := nilP) rfl) rfl rfl
      have e5 : iD ((x + 1) % n) = .int (((x : Int) + 1) % (n : Int)) := by simp [iD]
      rw [e5]
      exact bin_ok (q := .slot 0) (y := iD n) (frz_ok q2) rfl rfl rfl (mod_pos _ (by omega))
    simp only [e1__law_spine_of, tupF, consA, constF, Res.bd, b1, b2, nilA, view_dat, List.length_cons, List.length_nil, if_pos h3]
    rfl) rfl (by simp; omega)
  have hbs := hb.map
  subst hbs
  have e4 := lc_ok (g := so_ n a w none none) (fi := rngI1 (nameF 0)) (g3 := so_ n a w none none) (rng_nat (fa := nameF 0) (n := n) (g1 := so_ n a w none none) rfl (by omega)) rfl e3 rfl
  have s1 := set_ok (i := 3) e4 (g2 := so_ n a w (some (.lst (((List.range n).map (spK n a)).map encK))) none) (by rw [List.nil_append]; rfl)
  have q1 : binF addD (slotB 3) (frzB (lstF (consA (tupF (consA (constF (.str "?")) nilA)) (consA (tupF (consA (nameF 2) nilA)) nilA)))) (so_ n a w (some (.lst (((List.range n).map (spK n a)).map encK))) none) = .ok (.dat (lstG (spG n a w))) (so_ n a w (some (.lst (((List.range n).map (spK n a)).map encK))) none) := by
    refine bin_ok (p := .slot 3) (x := .lst (((List.range n).map (spK n a)).map encK)) (q := .val (.lst [.tup [.str "?"], .tup [.str (ws w)]])) rfl ?_ rfl rfl ?_
    · rfl
    · have : addD (.lst (((List.range n).map (spK n a)).map encK)) (.lst [.tup [.str "?"], .tup [.str (ws w)]]) = some (.lst (((List.range n).map (spK n a)).map encK ++ [.tup [.str "?"], .tup [.str (ws w)]])) := if_pos (by simp; omega)
      rw [this, lstG, spG, List.map_append]
      rfl
  have q2 := call_ok (rf := [none]) (g2 := so_ n a w (some (.lst (((List.range n).map (spK n a)).map encK))) none) (cons_ok (frz_ok q1) (pf := nilP) rfl) rfl (den_law_least hwf (by omega)) rfl
  refine run_ret (g := so_ n a w none none) rfl (g' := so_ n a w (some (.lst (((List.range n).map (spK n a)).map encK))) none) ?_ rfl
  unfold body__law_spine_of
  rw [seq_n s1]
  exact ret_ok q2
end K15

set_option maxHeartbeats 4000000
namespace K15
open PySem L2 B Gr
abbrev pls (Ps : List Graph) : L := .lst (Ps.map tupG_)
abbrev ap_ (l : List Int) (Ps : List Graph) (k : Nat) (ts : List Nat) (s4 s5 s6 : Option L) : B.G := [some (dr l), some (pls Ps), some (.dat (iD k)), some (.dat (.lst (ts.map iD))), s4, s5, s6]
theorem ap_len {l : List Int} {Ps : List Graph} {k : Nat} {ts : List Nat} {s4 s5 s6 : Option L} : callBF lenD (consP (slotB 1) nilP) (ap_ l Ps k ts s4 s5 s6) = .ok (.dat (iD Ps.length)) (ap_ l Ps k ts s4 s5 s6) :=
  callB_ok (ps := [.slot 1]) (ds := [.lst (Ps.map tupG_)]) rfl rfl (by simp only [lenD, List.length_map])
theorem ap_pick {l : List Int} {Ps : List Graph} {k : Nat} {ts : List Nat} {s4 s5 s6 : Option L} (h : 0 < Ps.length) : ∃ (l' : List Int) (A : Graph), A ∈ Ps ∧ binF ixD (slotB 1) (frzB (callF [some 0, none] d__law_draw (consP (slotB 0) (consP (frzB (callBF lenD (consP (slotB 1) nilP))) nilP)))) (ap_ l Ps k ts s4 s5 s6) = .ok (.dat (tupG_ A)) (ap_ l' Ps k ts s4 s5 s6) := by
  obtain ⟨r, l1, hr, e⟩ := draw0 (l := l) (rest := [some (pls Ps), some (.dat (iD k)), some (.dat (.lst (ts.map iD))), s4, s5, s6]) (fm := callBF lenD (consP (slotB 1) nilP)) h ap_len
  obtain ⟨A, hA⟩ := some_of hr
  exact ⟨l1, A, List.mem_of_getElem? hA, bin_ok (p := .slot 1) (x := .lst (Ps.map tupG_)) rfl (frz_ok e) rfl rfl (atI_map hA)⟩
theorem den_any_plain (l : List Int) {Ps : List Graph} (hP : ∀ A ∈ Ps, Good A) {k : Nat} (hk : k < 4000) {ts : List Nat} (ht : ts.length = 4) (ht2 : ∀ t ∈ ts, t < 4000) :
    ∃ (l' : List Int) (A : Graph), Good A ∧ d__law_any_plain [dr l, pls Ps, .dat (iD k), .dat (.lst (ts.map iD))] = some (.dat (tupG_ A), [some (dr l'), some (pls Ps), none, none]) := by
  have key : ∃ (l' : List Int) (A : Graph) (s4 s5 s6 : Option L), Good A ∧ body__law_any_plain (ap_ l Ps k ts none none none) = .ret (.dat (tupG_ A)) (ap_ l' Ps k ts s4 s5 s6) := by
    obtain ⟨r, l1, hr, e1⟩ := draw0 (l := l) (rest := [some (pls Ps), some (.dat (iD k)), some (.dat (.lst (ts.map iD))), none, none, none]) (fm := constF (.int 7)) (m := 7) (by decide) rfl
    have s1 := set_ok (i := 4) e1 (g2 := ap_ l1 Ps k ts (some (.dat (iD r))) none none) rfl
    have tg : testF (binF gtD (frzB (callBF lenD (consP (slotB 1) nilP))) (frzB (constF (.int 0)))) (ap_ l1 Ps k ts (some (.dat (iD r))) none none) = .ok (decide (0 < (Ps.length : Int))) (ap_ l1 Ps k ts (some (.dat (iD r))) none none) :=
      test_ok (bin_ok (y := .int 0) (frz_ok ap_len) rfl rfl rfl (gt_int _ _))
    have ta : ∀ q : Int, andT (testF (binF eqD (slotB 4) (frzB (constF (.int q))))) (testF (binF gtD (frzB (callBF lenD (consP (slotB 1) nilP))) (frzB (constF (.int 0))))) (ap_ l1 Ps k ts (some (.dat (iD r))) none none) = .ok (decide ((r : Int) = q ∧ 0 < Ps.length)) (ap_ l1 Ps k ts (some (.dat (iD r))) none none) := by
      intro q
      have tq := eq_int (g := ap_ l1 Ps k ts (some (.dat (iD r))) none none) (i := 4) (r := r) (q := q) rfl
      by_cases h : (r : Int) = q
      · rw [decide_eq_true h] at tq
        rw [and_ok tq tg]
        have : (0 < (Ps.length : Int)) = (0 < Ps.length) := propext (by omega)
        simp [h, this]
      · rw [decide_eq_false h] at tq
        rw [and_f tq]
        simp [h]
    have t4 := ta 4
    have t5 := ta 5
    have t6 := eq_int (g := ap_ l1 Ps k ts (some (.dat (iD r))) none none) (i := 4) (r := r) (q := 6) rfl
    unfold body__law_any_plain
    rw [seq_n s1]
    by_cases h4 : (r : Int) = 4 ∧ 0 < Ps.length
    · rw [decide_eq_true h4] at t4
      obtain ⟨l2, A, hA, e2⟩ := ap_pick (l := l1) (k := k) (ts := ts) (s4 := some (.dat (iD r))) (s5 := none) (s6 := none) h4.2
      refine ⟨l2, A, some (.dat (iD r)), none, none, hP A hA, seq_r ?_⟩
      rw [if_t t4]
      exact ret_ok e2
    · rw [decide_eq_false h4] at t4
      rw [seq_n (skip_f t4)]
      by_cases h5 : (r : Int) = 5 ∧ 0 < Ps.length
      · rw [decide_eq_true h5] at t5
        obtain ⟨l2, A, hA, e2⟩ := ap_pick (l := l1) (k := k) (ts := ts) (s4 := some (.dat (iD r))) (s5 := none) (s6 := none) h5.2
        obtain ⟨l3, C, hC, e3⟩ := den_near l2 (hP A hA)
        refine ⟨l3, C, some (.dat (iD r)), none, none, hC, seq_r ?_⟩
        rw [if_t t5]
        exact ret_ok (call_ok (ls := [dr l2, .dat (tupG_ A), .dat (.bl true)]) (cons_ok (p := .slot 0) rfl (cons_ok (frz_ok e2) rfl)) rfl e3 rfl)
      · rw [decide_eq_false h5] at t5
        rw [seq_n (skip_f t5)]
        by_cases h6 : (r : Int) = 6
        · rw [decide_eq_true h6] at t6
          obtain ⟨l2, C, hC, e3⟩ := den_graph l1
          refine ⟨l2, C, some (.dat (iD r)), none, none, hC, seq_r ?_⟩
          rw [if_t t6]
          exact ret_ok (call_ok (ls := [dr l1, .dat (.int 12)]) rfl rfl e3 rfl)
        · rw [decide_eq_false h6] at t6
          rw [seq_n (skip_f t6)]
          match ts, ht with
          | [a, b, c, d], _ =>
            have ha := ht2 a (by simp)
            have hb := ht2 b (by simp)
            have hc := ht2 c (by simp)
            have hd := ht2 d (by simp)
            have ix : ∀ (s5 s6 : Option L) (i t : Nat), [a, b, c, d][i]? = some t → binF ixD (slotB 3) (frzB (constF (iD i))) (ap_ l1 Ps k [a, b, c, d] (some (.dat (iD r))) s5 s6) = .ok (.dat (iD t)) (ap_ l1 Ps k [a, b, c, d] (some (.dat (iD r))) s5 s6) := fun s5 s6 i t h =>
              bin_ok (p := .slot 3) (x := .lst ([a, b, c, d].map iD)) (y := iD i) rfl rfl rfl rfl (atI_map h)
            let n := 2 + (k + a) % 9
            let at_ := (k * b + c) % n
            have s5 : setF 5 (binF addD (frzB (constF (.int 2))) (frzB (binF modD (frzB (callBF intD (consP (frzB (binF addD (slotB 2) (frzB (binF ixD (slotB 3) (frzB (constF (.int 0))))))) nilP))) (frzB (constF (.int 9)))))) (ap_ l1 Ps k [a, b, c, d] (some (.dat (iD r))) none none) = .next (ap_ l1 Ps k [a, b, c, d] (some (.dat (iD r))) (some (.dat (iD n))) none) := by
              have q0 : binF ixD (slotB 3) (frzB (constF (.int 0))) (ap_ l1 Ps k [a, b, c, d] (some (.dat (iD r))) none none) = .ok (.dat (iD a)) (ap_ l1 Ps k [a, b, c, d] (some (.dat (iD r))) none none) := ix none none 0 a rfl
              have q1 := bin_ok (g := ap_ l1 Ps k [a, b, c, d] (some (.dat (iD r))) none none) (op := addD) (fa := slotB 2) (p := .slot 2) (x := iD k) rfl (frz_ok q0) rfl rfl rfl
              have q2 := callB_ok (f := intD) (cons_ok (frz_ok q1) (pf := nilP) rfl) rfl rfl
              have q3 := bin_ok (op := modD) (fb := frzB (constF (.int 9))) (frz_ok q2) rfl rfl rfl (mod_pos _ (by decide))
              have e5 : iD n = .int (2 + ((k : Int) + (a : Int)) % 9) := by simp [iD, n]
              rw [e5]
              exact set_ok (bin_ok (p := .val (.int 2)) (x := .int 2) rfl (frz_ok q3) rfl rfl rfl) rfl
            have s6 : setF 6 (binF modD (frzB (callBF intD (consP (frzB (binF addD (frzB (binF mulD (slotB 2) (frzB (binF ixD (slotB 3) (frzB (constF (.int 1))))))) (frzB (binF ixD (slotB 3) (frzB (constF (.int 2))))))) nilP))) (slotB 5)) (ap_ l1 Ps k [a, b, c, d] (some (.dat (iD r))) (some (.dat (iD n))) none) = .next (ap_ l1 Ps k [a, b, c, d] (some (.dat (iD r))) (some (.dat (iD n))) (some (.dat (iD at_)))) := by
              have hp : (4000 : Nat) < 2 ^ 64 := by decide
              have q0 : binF ixD (slotB 3) (frzB (constF (.int 1))) (ap_ l1 Ps k [a, b, c, d] (some (.dat (iD r))) (some (.dat (iD n))) none) = .ok (.dat (iD b)) (ap_ l1 Ps k [a, b, c, d] (some (.dat (iD r))) (some (.dat (iD n))) none) := ix _ none 1 b rfl
              have q0' : binF ixD (slotB 3) (frzB (constF (.int 2))) (ap_ l1 Ps k [a, b, c, d] (some (.dat (iD r))) (some (.dat (iD n))) none) = .ok (.dat (iD c)) (ap_ l1 Ps k [a, b, c, d] (some (.dat (iD r))) (some (.dat (iD n))) none) := ix _ none 2 c rfl
              have q1 := bin_ok (g := ap_ l1 Ps k [a, b, c, d] (some (.dat (iD r))) (some (.dat (iD n))) none) (op := mulD) (fa := slotB 2) (p := .slot 2) (x := iD k) rfl (frz_ok q0) rfl rfl (mul_ok _ (by omega))
              have q1' := bin_ok (op := addD) (frz_ok q1) (frz_ok q0') rfl rfl rfl
              have q2 := callB_ok (f := intD) (cons_ok (frz_ok q1') (pf := nilP) rfl) rfl rfl
              have q3 := bin_ok (op := modD) (fb := slotB 5) (q := .slot 5) (y := iD n) (frz_ok q2) rfl rfl rfl (mod_pos _ (by simp [n]; omega))
              have e5 : iD at_ = .int (((k : Int) * (b : Int) + (c : Int)) % (n : Int)) := by simp [iD, at_]
              rw [e5]
              exact set_ok q3 rfl
            rw [seq_n s5, seq_n s6]
            have hw : ∃ w : Wd, w.ar = 0 ∧ w ≠ .pair ∧ binF ixD (frzB (lstF (consA (constF (.str "int")) (consA (constF (.str "bool")) (consA (constF (.str "unit")) nilA))))) (frzB (binF modD (frzB (callBF intD (consP (frzB (binF addD (frzB (binF fdivD (slotB 2) (frzB (constF (.int 9))))) (frzB (binF ixD (slotB 3) (frzB (constF (.int 3))))))) nilP))) (frzB (constF (.int 3))))) (ap_ l1 Ps k [a, b, c, d] (some (.dat (iD r))) (some (.dat (iD n))) (some (.dat (iD at_)))) = .ok (.dat (.str (ws w))) (ap_ l1 Ps k [a, b, c, d] (some (.dat (iD r))) (some (.dat (iD n))) (some (.dat (iD at_)))) := by
              have q0 : binF ixD (slotB 3) (frzB (constF (.int 3))) (ap_ l1 Ps k [a, b, c, d] (some (.dat (iD r))) (some (.dat (iD n))) (some (.dat (iD at_)))) = .ok (.dat (iD d)) (ap_ l1 Ps k [a, b, c, d] (some (.dat (iD r))) (some (.dat (iD n))) (some (.dat (iD at_)))) := ix _ _ 3 d rfl
              have q1 := bin_ok (g := ap_ l1 Ps k [a, b, c, d] (some (.dat (iD r))) (some (.dat (iD n))) (some (.dat (iD at_)))) (op := fdivD) (fa := slotB 2) (fb := frzB (constF (.int 9))) (p := .slot 2) (x := iD k) rfl rfl rfl rfl (fdiv_ok _ (by decide) (by decide))
              have q1' := bin_ok (op := addD) (frz_ok q1) (frz_ok q0) rfl rfl rfl
              have q2 := callB_ok (f := intD) (cons_ok (frz_ok q1') (pf := nilP) rfl) rfl rfl
              have q3 := bin_ok (op := modD) (fb := frzB (constF (.int 3))) (frz_ok q2) rfl rfl rfl (mod_pos _ (by decide))
              have e5 : ((k : Int) / 9 + (d : Int)) % 3 = (((k / 9 + d) % 3 : Nat) : Int) := by omega
              rw [e5] at q3
              have h3 : (k / 9 + d) % 3 < 3 := Nat.mod_lt _ (by decide)
              obtain ⟨x, hx⟩ := some_of (l := [Wd.int, Wd.bool, Wd.unit]) h3
              refine ⟨x, ?_, ?_, bin_ok (p := .val (.lst ([Wd.int, Wd.bool, Wd.unit].map fun w => .str (ws w)))) rfl (frz_ok q3) rfl rfl (atI_map (f := fun w => D.str (ws w)) hx)⟩
              · rcases List.mem_cons.mp (List.mem_of_getElem? hx) with rfl | h
                · rfl
                · rcases List.mem_cons.mp h with rfl | h
                  · rfl
                  · rcases List.mem_cons.mp h with rfl | h
                    · rfl
                    · cases h
              · rcases List.mem_cons.mp (List.mem_of_getElem? hx) with rfl | h
                · decide
                · rcases List.mem_cons.mp h with rfl | h
                  · decide
                  · rcases List.mem_cons.mp h with rfl | h
                    · decide
                    · cases h
            obtain ⟨w, hw1, hw2, e7⟩ := hw
            obtain ⟨C, hC, e8⟩ := den_spine (n := n) (a := at_) (w := w) (by simp [n]; omega) (by simp [n]; omega) hw1 hw2
            exact ⟨l1, C, some (.dat (iD r)), some (.dat (iD n)), some (.dat (iD at_)), hC, ret_ok (call_ok (ls := [.dat (iD n), .dat (iD at_), .dat (.str (ws w))]) (cons_ok (p := .val (iD n)) rfl (cons_ok (p := .val (iD at_)) rfl (cons_ok (frz_ok e7) rfl))) rfl e8 rfl)⟩
  obtain ⟨l', A, s4, s5, s6, h1, h2⟩ := key
  exact ⟨l', A, h1, run_ret (g := ap_ l Ps k ts none none none) rfl h2 rfl⟩
end K15

set_option maxHeartbeats 4000000
namespace K15
open PySem L2 B Gr
theorem R2.f2 {R S : Nat → Nat → Prop} (h : ∀ a b, R a b → S b a) : ∀ {as bs : List Nat}, R2 R as bs → F2 S bs as
  | [], [], _ => .nil
  | _ :: _, _ :: _, e => .cons (h _ _ e.1) (R2.f2 h e.2)
/-- what a blown knot of k may be -/
structure BlownOk (n c : Nat) (k x : Kn) : Prop where
  w : x.w = k.w
  ls : R2 (fun l y => y % n = l ∧ y < n * c) k.ls x.ls
theorem blown_same {A C : Graph} {c : Nat} (hA : Wf A) (hc : 0 < c) (hl : C.length = A.length * c) (hm : Made A (BlownOk A.length c) C) : Wf C ∧ lst C = lst A := by
  have hC : Wf C := by
    refine ⟨by rw [hl]; exact Nat.mul_pos hA.1 hc, fun x hx => ?_⟩
    obtain ⟨i, hi⟩ := List.mem_iff_getElem?.mp hx
    obtain ⟨k, h1, h2⟩ := hm i x hi
    refine ⟨by rw [h2.w, ← h2.ls.len]; exact (hA.get h1).1, fun l hl2 => ?_⟩
    obtain ⟨j, hj⟩ := List.mem_iff_getElem?.mp hl2
    obtain ⟨y, h3, h4⟩ := h2.ls.get hj
    rw [hl]
    exact h4.2
  refine ⟨hC, lst_same hC hA (S := fun b a => b < C.length ∧ a = b % A.length) ?_ ⟨hC.1, (Nat.zero_mod _).symm⟩⟩
  rintro b a ⟨h1, rfl⟩
  obtain ⟨x, hx⟩ := some_of h1
  obtain ⟨k, h3, h4⟩ := hm b x hx
  exact ⟨x, k, hx, h3, h4.w, h4.ls.f2 fun l y e => ⟨by rw [hl]; exact e.2, e.1.symm⟩⟩
abbrev bl_ (l : List Int) (A : Graph) (s2 s3 s4 s5 s6 s7 s8 : Option L) : B.G := [some (dr l), some (.dat (tupG_ A)), s2, s3, s4, s5, s6, s7, s8]
theorem bl_len {l : List Int} {A : Graph} {s2 s3 s4 s5 s6 s7 s8 : Option L} : callBF lenD (consP (slotB 1) nilP) (bl_ l A s2 s3 s4 s5 s6 s7 s8) = .ok (.dat (iD A.length)) (bl_ l A s2 s3 s4 s5 s6 s7 s8) :=
  callB_ok (ps := [.slot 1]) (ds := [tupG_ A]) rfl rfl (by simp only [tupG_, lenD, List.length_map])
theorem blown_e1 {l : List Int} {A : Graph} {c x : Nat} {s3 s4 s5 s6 s7 : Option L} (hc : 0 < c) (hc4 : c < 4000) : ∃ (r : Nat) (l' : List Int), r < c ∧ e1__law_blown (bl_ l A (some (.dat (iD c))) s3 s4 s5 s6 s7 (some (.dat (iD x)))) = .ok (.dat (iD (x + A.length * r))) (bl_ l' A (some (.dat (iD c))) s3 s4 s5 s6 s7 (some (.dat (iD x)))) := by
  obtain ⟨r, l', hr, e⟩ := draw0 (l := l) (rest := [some (.dat (tupG_ A)), some (.dat (iD c)), s3, s4, s5, s6, s7, some (.dat (iD x))]) (fm := nameF 2) (m := c) hc rfl
  refine ⟨r, l', hr, ?_⟩
  have hp : (4000 : Nat) < 2 ^ 64 := by decide
  have m : binF mulD (frzB (callBF lenD (consP (slotB 1) nilP))) (frzB (callF [some 0, none] d__law_draw (consP (slotB 0) (consP (frzB (nameF 2)) nilP)))) (bl_ l A (some (.dat (iD c))) s3 s4 s5 s6 s7 (some (.dat (iD x)))) = .ok (.dat (.int ((A.length : Int) * (r : Int)))) (bl_ l' A (some (.dat (iD c))) s3 s4 s5 s6 s7 (some (.dat (iD x)))) :=
    bin_ok (x := iD A.length) (y := iD r) (frz_ok bl_len) (frz_ok e) rfl rfl (mul_ok _ (by omega))
  have e5 : iD (x + A.length * r) = .int ((x : Int) + (A.length : Int) * (r : Int)) := by simp [iD]
  rw [e5]
  exact bin_ok (p := .slot 8) (x := iD x) (y := .int ((A.length : Int) * (r : Int))) rfl (frz_ok m) rfl rfl rfl
theorem blown_step (l : List Int) {A : Graph} {k : Kn} {acc : List Kn} {c : Nat} {s4 s6 s7 : Option L} (hk : k.ls.length = k.w.ar) (hkl : ∀ x ∈ k.ls, x < A.length) (hc0 : 0 < c) (hc : c ≤ 60) (hacc : acc.length < 100) :
    ∃ (l' : List Int) (x : Kn) (s6' s7' : Option L), BlownOk A.length c k x ∧ l1__law_blown (bl_ l A (some (.dat (iD c))) (some (.lst (acc.map encK))) s4 (some (.dat (encK k))) s6 s7 none) = .next (bl_ l' A (some (.dat (iD c))) (some (.lst ((acc ++ [x]).map encK))) s4 (some (.dat (encK k))) s6' s7' none) := by
  have h4 : (4000 : Nat) + 2 ≤ cap := by decide
  have s1 : asgF (tupG (consG (nameG 6) (consG (nameG 7) nilG))) (callF [none] d__law_split (consP (frzB (nameF 5)) nilP)) (bl_ l A (some (.dat (iD c))) (some (.lst (acc.map encK))) s4 (some (.dat (encK k))) s6 s7 none) = .next (bl_ l A (some (.dat (iD c))) (some (.lst (acc.map encK))) s4 (some (.dat (encK k))) (some (.dat (.tup [.str (ws k.w)]))) (some (.dat (.lst (k.ls.map iD)))) none) := by
    have c1 : callF [none] d__law_split (consP (frzB (nameF 5)) nilP) (bl_ l A (some (.dat (iD c))) (some (.lst (acc.map encK))) s4 (some (.dat (encK k))) s6 s7 none) = .ok (.dat (spl k)) (bl_ l A (some (.dat (iD c))) (some (.lst (acc.map encK))) s4 (some (.dat (encK k))) s6 s7 none) := call_ok (ls := [.dat (encK k)]) rfl rfl (den_split hk) rfl
    unfold asgF
    rw [c1]
    rfl
  let h6 : Option L := some (.dat (.tup [.str (ws k.w)]))
  let h7 : Option L := some (.dat (.lst (k.ls.map iD)))
  have har : k.ls.length ≤ 2 := by { rw [hk]; cases k.w <;> decide }
  obtain ⟨bs, g', hb, ⟨l2, rfl⟩, e3⟩ := lcL_rel (vs := [8]) (t := nameG 8) (fe := e1__law_blown) (ea := iD) (eb := iD) (Rl := fun x y => y % A.length = x ∧ y < A.length * c) (P := fun g => ∃ l, g = bl_ l A (some (.dat (iD c))) (some (.lst (acc.map encK))) s4 (some (.dat (encK k))) h6 h7 none) k.ls [] (bl_ l A (some (.dat (iD c))) (some (.lst (acc.map encK))) s4 (some (.dat (encK k))) h6 h7 none) (by
    rintro x hx g ⟨l2, rfl⟩
    obtain ⟨q, l3, hq, e⟩ := blown_e1 (l := l2) (A := A) (c := c) (x := x) (s3 := some (.lst (acc.map encK))) (s4 := s4) (s5 := some (.dat (encK k))) (s6 := h6) (s7 := h7) hc0 (by omega)
    refine ⟨x + A.length * q, _, _, _, ⟨?_, ?_⟩, rfl, e, rfl, l3, rfl⟩
    · rw [Nat.add_mul_mod_self_left]
      exact Nat.mod_eq_of_lt (hkl x hx)
    · have := hkl x hx
      calc x + A.length * q < A.length + A.length * q := by omega
        _ = A.length * (q + 1) := by rw [Nat.mul_succ, Nat.add_comm]
        _ ≤ A.length * c := Nat.mul_le_mul_left _ hq) ⟨l, rfl⟩ (by simp; omega)
  have e4 := lc_ok (g := bl_ l A (some (.dat (iD c))) (some (.lst (acc.map encK))) s4 (some (.dat (encK k))) h6 h7 none) (fi := seqI (nameF 7)) (g3 := bl_ l2 A (some (.dat (iD c))) (some (.lst (acc.map encK))) s4 (some (.dat (encK k))) h6 h7 none) rfl rfl e3 rfl
  have e5 := callB_ok (f := tupleD) (cons_ok (frz_ok e4) (pf := nilP) rfl) rfl rfl
  have hlen := hb.len
  have e6 : binF addD (slotB 6) (frzB (callBF tupleD (consP (frzB (lcF [8] (seqI (nameF 7)) (nameG 8) yesT e1__law_blown)) nilP))) (bl_ l A (some (.dat (iD c))) (some (.lst (acc.map encK))) s4 (some (.dat (encK k))) h6 h7 none) = .ok (.dat (encK ⟨k.w, bs⟩)) (bl_ l2 A (some (.dat (iD c))) (some (.lst (acc.map encK))) s4 (some (.dat (encK k))) h6 h7 none) :=
    bin_ok (p := .slot 6) (x := .tup [.str (ws k.w)]) rfl (frz_ok e5) rfl rfl (if_pos (by simp; omega))
  refine ⟨l2, ⟨k.w, bs⟩, h6, h7, ⟨rfl, hb⟩, ?_⟩
  unfold l1__law_blown
  rw [seq_n s1]
  have hl' : (acc.map encK).length < cap := by rw [List.length_map]; omega
  simp only [exprF, appF, List.getElem?_cons_succ, List.getElem?_cons_zero, e6, Res.bd, if_pos hl', view_dat, List.set_cons_succ, List.set_cons_zero, List.map_append, List.map_cons, List.map_nil, h6, h7]
theorem den_blown (l : List Int) {A : Graph} (hA : Good A) : ∃ (l' : List Int) (C : Graph), Wf C ∧ lst C = A ∧ C.length ≤ 60 ∧ d__law_blown [dr l, .dat (tupG_ A)] = some (.lst (C.map encK), [some (dr l'), none]) := by
  have h4 : (4000 : Nat) + 2 ≤ cap := by decide
  have hle := hA.le
  have hpos := hA.wf.1
  have h60 : 0 < 60 / A.length := Nat.div_pos (by omega) hpos
  have em : binF fdivD (frzB (constF (.int 60))) (frzB (callBF lenD (consP (slotB 1) nilP))) (bl_ l A none none none none none none none) = .ok (.dat (iD (60 / A.length))) (bl_ l A none none none none none none none) := by
    have e5 : iD (60 / A.length) = .int ((60 : Int) / (A.length : Int)) := by simp [iD]
    rw [e5]
    exact bin_ok (p := .val (.int 60)) (x := .int 60) (y := iD A.length) rfl (frz_ok bl_len) rfl rfl (fdiv_ok _ (by omega) (by omega))
  obtain ⟨r, l1, hr, e1⟩ := draw0 (l := l) (rest := [some (.dat (tupG_ A)), none, none, none, none, none, none, none]) (fm := binF fdivD (frzB (constF (.int 60))) (frzB (callBF lenD (consP (slotB 1) nilP)))) h60 em
  have s1 : setF 2 (binF addD (frzB (constF (.int 1))) (frzB (callF [some 0, none] d__law_draw (consP (slotB 0) (consP (frzB (binF fdivD (frzB (constF (.int 60))) (frzB (callBF lenD (consP (slotB 1) nilP))))) nilP))))) (bl_ l A none none none none none none none) = .next (bl_ l1 A (some (.dat (iD (1 + r)))) none none none none none none) := by
    have e5 : iD (1 + r) = .int (1 + (r : Int)) := by simp [iD]
    rw [e5]
    exact set_ok (bin_ok (p := .val (.int 1)) (x := .int 1) (y := iD r) rfl (frz_ok e1) rfl rfl rfl) rfl
  have s2 : setF 3 (lstF nilA) (bl_ l1 A (some (.dat (iD (1 + r)))) none none none none none none) = .next (bl_ l1 A (some (.dat (iD (1 + r)))) (some (.lst [])) none none none none none) := rfl
  have hc60 : 1 + r ≤ 60 := by
    have : 60 / A.length ≤ 60 := Nat.div_le_self _ _
    omega
  have hN : A.length * (0 + ((List.range (1 + r)).map iD).length) ≤ 60 := by
    rw [List.length_map, List.length_range, Nat.zero_add]
    calc A.length * (1 + r) ≤ A.length * (60 / A.length) := Nat.mul_le_mul_left _ (by omega)
      _ ≤ 60 := Nat.mul_div_le _ _
  obtain ⟨C, g', e2, ⟨l2, s4, s5, s6, s7, rfl⟩, hl, hm⟩ := copies (A := A) (t := nameG 5) (t2 := nameG 4) (b := l1__law_blown) (Rl := BlownOk A.length (1 + r)) (P := fun acc g => ∃ l s4 s5 s6 s7, g = bl_ l A (some (.dat (iD (1 + r)))) (some (.lst (acc.map encK))) s4 s5 s6 s7 none) (N := 60) (by
      rintro k hk acc g ⟨l, s4, s5, s6, s7, rfl⟩ hacc
      obtain ⟨l', x, s6', s7', hx, e⟩ := blown_step l (A := A) (k := k) (acc := acc) (c := 1 + r) (s4 := s4) (s6 := s6) (s7 := s7) (hA.wf.2 k hk).1 (hA.wf.2 k hk).2 (by omega) hc60 (by omega)
      exact ⟨x, _, _, hx, rfl, e, l', s4, _, s6', s7', rfl⟩)
    (by rintro acc g ⟨l, s4, s5, s6, s7, rfl⟩; rfl) (by rintro d acc g ⟨l, s4, s5, s6, s7, rfl⟩; exact ⟨_, rfl, l, _, s5, s6, s7, rfl⟩) ((List.range (1 + r)).map iD) 0 [] _ ⟨l1, none, none, none, none, rfl⟩ rfl (by intro i x hx; simp at hx) hN
  rw [List.length_map, List.length_range, Nat.zero_add] at hl
  rw [List.length_map, List.length_range, Nat.zero_add] at hN
  have s3 : forF (rngI1 (nameF 2)) (nameG 4) l2__law_blown (bl_ l1 A (some (.dat (iD (1 + r)))) (some (.lst [])) none none none none none) = .next (bl_ l2 A (some (.dat (iD (1 + r)))) (some (.lst (C.map encK))) s4 s5 s6 s7 none) := by
    unfold forF
    rw [rng_nat (fa := nameF 2) (n := 1 + r) (g1 := bl_ l1 A (some (.dat (iD (1 + r)))) (some (.lst [])) none none none none none) rfl (by omega)]
    exact e2
  obtain ⟨hw, hr2⟩ := blown_same hA.wf (by omega) hl hm
  refine ⟨l2, C, hw, hr2.trans hA.fix, by omega, run_ret (g := bl_ l A none none none none none none none) rfl (g' := (bl_ l2 A (some (.dat (iD (1 + r)))) (some (.lst (C.map encK))) s4 s5 s6 s7 none).set 3 none) ?_ rfl⟩
  unfold body__law_blown
  rw [seq_n s1, seq_n s2, seq_n s3]
  rfl
end K15

set_option maxHeartbeats 4000000
namespace K15
open PySem L2 B Gr
/-! ### graphs as plain data, their equality -/
def pyK (k : Kn) : PyData := .tuple (.str (ws k.w) :: k.ls.map fun (l : Nat) => .int (l : Int))
def pyG (A : Graph) : PyData := .tuple (A.map pyK)
theorem toPys_map {α : Type} {f : α → D} {p : α → PyData} (h : ∀ x, toPy (f x) = some (p x)) : ∀ l : List α, toPys (l.map f) = some (l.map p)
  | [] => rfl
  | x :: l => by simp only [List.map_cons, toPys, h, toPys_map h l]
theorem toPy_K (k : Kn) : toPy (encK k) = some (pyK k) := by
  have := toPys_map (f := iD) (p := fun (l : Nat) => .int (l : Int)) (fun _ => rfl) k.ls
  simp only [encK, toPy, toPys, this, Option.map, pyK]
theorem toPy_G (A : Graph) : toPy (tupG_ A) = some (pyG A) := by
  have := toPys_map toPy_K A
  simp only [tupG_, toPy, this, Option.map, pyG]
theorem lay_all {α : Type} {p : α → PyData} (h : ∀ x, (p x).canLay0 = true) : ∀ l : List α, PyData.canLayAll0 (l.map p) = true
  | [] => rfl
  | x :: l => by rw [List.map_cons, PyData.canLayAll0, h, lay_all h l]; rfl
theorem depth_all {α : Type} {p : α → PyData} {n : Nat} (h : ∀ x, (p x).depth ≤ n) : ∀ l : List α, PyData.depthAll (l.map p) ≤ n
  | [] => Nat.zero_le _
  | x :: l => by
    rw [List.map_cons, PyData.depthAll]
    have h1 := h x
    have h2 := depth_all h l
    omega
theorem lay_K (k : Kn) : (pyK k).canLay0 = true := by
  unfold pyK
  rw [PyData.canLay0, PyData.canLayAll0, PyData.canLay0, ws_ok, lay_all fun _ => rfl]
  rfl
theorem depth_K (k : Kn) : (pyK k).depth ≤ 1 := by
  unfold pyK
  rw [PyData.depth, PyData.depthAll, PyData.depth]
  have := depth_all (p := fun (l : Nat) => PyData.int (l : Int)) (n := 0) (fun _ => Nat.le_refl 0) k.ls
  omega
theorem lay_G (A : Graph) : (pyG A).canLay0 = true := by
  unfold pyG
  rw [PyData.canLay0, lay_all lay_K]
theorem depth_G (A : Graph) : (pyG A).depth ≤ 2 := by
  unfold pyG
  rw [PyData.depth]
  have := depth_all depth_K A
  omega
theorem shaped_G (A : Graph) : SeqAt.shaped (pyG A) = true := by
  have := depth_G A
  simp only [SeqAt.shaped, lay_G, Bool.true_and, decide_eq_true_eq]
  omega
theorem shaped_Gs (As : List Graph) : SeqAt.shaped (.list (As.map pyG)) = true := by
  have h1 := depth_all depth_G As
  have h2 : PyData.depth (.list (As.map pyG)) = PyData.depthAll (As.map pyG) + 1 := by rw [PyData.depth]
  have h3 : PyData.canLay0 (.list (As.map pyG)) = true := by rw [PyData.canLay0, lay_all lay_G]
  have h4 : PyData.depth (.list (As.map pyG)) ≤ 64 := by omega
  simp only [SeqAt.shaped, h3, decide_eq_true h4, Bool.and_self]
theorem eqv_all {α : Type} [DecidableEq α] {p : α → PyData} (h : ∀ x y, PyData.eqv (p x) (p y) = decide (x = y)) : ∀ l m : List α, PyData.eqvAll (l.map p) (m.map p) = decide (l = m)
  | [], [] => rfl
  | [], _ :: _ => rfl
  | _ :: _, [] => rfl
  | x :: l, y :: m => by
    rw [List.map_cons, List.map_cons, PyData.eqvAll, h, eqv_all h l m]
    by_cases h1 : x = y <;> by_cases h2 : l = m <;> simp [h1, h2]
theorem eqv_K (k m : Kn) : PyData.eqv (pyK k) (pyK m) = decide (k = m) := by
  obtain ⟨w, ls⟩ := k
  obtain ⟨v, ms⟩ := m
  unfold pyK
  rw [PyData.eqv, PyData.eqvAll, eqv_all (p := fun (l : Nat) => PyData.int (l : Int)) (fun x y => by
    rw [PyData.eqv]
    by_cases h : x = y
    · subst h; simp
    · have : ¬ (x : Int) = (y : Int) := by omega
      simp [h, this]) ls ms, PyData.eqv]
  by_cases h1 : w = v
  · subst h1
    by_cases h2 : ls = ms <;> simp [h2]
  · have : ¬ ws w = ws v := fun e => h1 (ws_inj e)
    simp [h1, this]
theorem eqv_G (A C : Graph) : PyData.eqv (pyG A) (pyG C) = decide (A = C) := by
  unfold pyG
  rw [PyData.eqv]
  exact eqv_all eqv_K A C
theorem inB_G (A : Graph) (As : List Graph) : inB (tupG_ A) (.lst (As.map tupG_)) = some (decide (A ∈ As)) := by
  have e2 := toPys_map toPy_G As
  have e1 := toPy_G A
  have hv : vOf (tupG_ A) = none := rfl
  simp only [inB, hv, e1, e2, shaped_G, shaped_Gs, and_self, if_true]
  congr 1
  rw [Bool.eq_iff_iff, List.any_map, List.any_eq_true]
  simp only [Function.comp, eqv_G, decide_eq_true_eq]
  constructor
  · rintro ⟨x, h1, rfl⟩; exact h1
  · exact fun h => ⟨A, h, rfl⟩
end K15

set_option maxHeartbeats 4000000
namespace K15
open PySem L2 B Gr
def prG (ks : List Graph) : Nat := ks.foldl (fun m A => m * A.length) 2
theorem prG_snoc (ks : List Graph) (A : Graph) : prG (ks ++ [A]) = prG ks * A.length := by simp [prG]
def dis (ks : List Graph) (Qs : List Graph) : List Graph := Qs.foldl add1 ks
theorem dis_len : ∀ (Qs ks : List Graph), (dis ks Qs).length ≤ ks.length + Qs.length
  | [], ks => by simp [dis]
  | A :: Qs, ks => by
    have h := dis_len Qs (add1 ks A)
    have h2 : (add1 ks A).length ≤ ks.length + 1 := by
      unfold add1
      split
      · omega
      · simp
    show (dis (add1 ks A) Qs).length ≤ _
    simp only [List.length_cons]
    omega
theorem dis_mem : ∀ (Qs ks : List Graph) {P : Graph → Prop}, (∀ A ∈ ks, P A) → (∀ A ∈ Qs, P A) → ∀ A ∈ dis ks Qs, P A
  | [], ks, P, h1, _ => h1
  | A :: Qs, ks, P, h1, h2 => dis_mem Qs (add1 ks A) (P := P) (fun C hC => by
      unfold add1 at hC
      split at hC
      · exact h1 C hC
      · rcases List.mem_append.mp hC with h | h
        · exact h1 C h
        · rw [List.mem_singleton.mp h]; exact h2 A (by simp)) (fun C hC => h2 C (by simp [hC]))
abbrev tp_ (Ps ks : List Graph) (m : Nat) (p : Option L) : B.G := [some (.dat (.lst (Ps.map tupG_))), some (.lst (ks.map tupG_)), some (.dat (iD m)), p]
theorem notin_G {A : Graph} {As : List Graph} : notinD (tupG_ A) (.lst (As.map tupG_)) = some (.bl (!decide (A ∈ As))) := by
  simp only [notinD, inB_G, Option.map]
theorem mul_len (m : Nat) {A : Graph} (h : A.length ≤ 12) : mulD (iD m) (iD A.length) = some (iD (m * A.length)) := by
  have hp : (4000 : Nat) < 2 ^ 64 := by decide
  have e5 : iD (m * A.length) = .int ((m : Int) * (A.length : Int)) := by simp [iD]
  rw [e5]
  exact mul_ok _ (by omega)
theorem tp_step {Ps ks : List Graph} {A : Graph} (hA : A.length ≤ 12) (hl : ks.length < cap) : l1__law_twice_product (tp_ Ps ks (prG ks) (some (.dat (tupG_ A)))) = .next (tp_ Ps (add1 ks A) (prG (add1 ks A)) (some (.dat (tupG_ A)))) := by
  have t1 : testF (binF notinD (slotB 3) (slotB 1)) (tp_ Ps ks (prG ks) (some (.dat (tupG_ A)))) = .ok (!decide (A ∈ ks)) (tp_ Ps ks (prG ks) (some (.dat (tupG_ A)))) :=
    test_ok (bin_ok (p := .slot 3) (q := .slot 1) rfl rfl rfl rfl notin_G)
  unfold l1__law_twice_product
  by_cases h : A ∈ ks
  · rw [decide_eq_true h] at t1
    rw [if_f t1, add1, if_pos h]
    rfl
  · rw [decide_eq_false h] at t1
    rw [if_t t1, add1, if_neg h, prG_snoc]
    have hl' : (ks.map tupG_).length < cap := by rw [List.length_map]; exact hl
    have s1 : exprF (appF 1 (nameF 3)) (tp_ Ps ks (prG ks) (some (.dat (tupG_ A)))) = .next (tp_ Ps (ks ++ [A]) (prG ks) (some (.dat (tupG_ A)))) := by
      simp only [tp_, exprF, appF, nameF, List.getElem?_cons_succ, List.getElem?_cons_zero, Res.bd, if_pos hl', view_dat, List.set_cons_succ, List.set_cons_zero, List.map_append, List.map_cons, List.map_nil]
    have eL : callBF lenD (consP (slotB 3) nilP) (tp_ Ps (ks ++ [A]) (prG ks) (some (.dat (tupG_ A)))) = .ok (.dat (iD A.length)) (tp_ Ps (ks ++ [A]) (prG ks) (some (.dat (tupG_ A)))) :=
      callB_ok (ps := [.slot 3]) (ds := [tupG_ A]) rfl rfl (by simp only [tupG_, lenD, List.length_map])
    rw [seq_n s1]
    exact set_ok (bin_ok (p := .slot 2) (x := iD (prG ks)) rfl (frz_ok eL) rfl rfl (mul_len _ hA)) rfl
theorem tp_loop {Ps : List Graph} : ∀ (Qs ks : List Graph) (p : Option L), (∀ A ∈ Qs, A.length ≤ 12) → ks.length + Qs.length ≤ cap → ∃ p', forL (nameG 3) l1__law_twice_product (Qs.map tupG_) (tp_ Ps ks (prG ks) p) = .next (tp_ Ps (dis ks Qs) (prG (dis ks Qs)) p')
  | [], ks, p, _, _ => ⟨p, rfl⟩
  | A :: Qs, ks, p, h, hl => by
    have h2 : (add1 ks A).length ≤ ks.length + 1 := by
      unfold add1
      split
      · omega
      · simp
    obtain ⟨p', e⟩ := tp_loop (Ps := Ps) Qs (add1 ks A) (some (.dat (tupG_ A))) (fun C hC => h C (by simp [hC])) (by simp at hl; omega)
    refine ⟨p', ?_⟩
    have s1 := tp_step (Ps := Ps) (ks := ks) (h A (by simp)) (by simp at hl; omega)
    have tg : nameG 3 (tupG_ A) (tp_ Ps ks (prG ks) p) = some (tp_ Ps ks (prG ks) (some (.dat (tupG_ A)))) := rfl
    simp only [List.map_cons, forL, tg, s1]
    exact e
theorem den_twice {Ps : List Graph} (h : ∀ A ∈ Ps, A.length ≤ 12) (hl : Ps.length ≤ 4000) : d__law_twice_product [.dat (.lst (Ps.map tupG_))] = some (.dat (iD (prG (dis [] Ps))), [none]) := by
  have h4 : (4000 : Nat) + 2 ≤ cap := by decide
  obtain ⟨p', e⟩ := tp_loop (Ps := Ps) Ps [] none h (by simp; omega)
  refine run_ret (g := [some (.dat (.lst (Ps.map tupG_))), none, none, none]) rfl (g' := (tp_ Ps (dis [] Ps) (prG (dis [] Ps)) p').set 2 none) ?_ rfl
  have s1 : setF 1 (lstF nilA) [some (.dat (.lst (Ps.map tupG_))), none, none, none] = .next [some (.dat (.lst (Ps.map tupG_))), some (.lst []), none, none] := rfl
  have s2 : setF 2 (constF (.int 2)) [some (.dat (.lst (Ps.map tupG_))), some (.lst []), none, none] = .next (tp_ Ps [] (prG []) none) := rfl
  have s3 : forF (seqI (nameF 0)) (nameG 3) l1__law_twice_product (tp_ Ps [] (prG []) none) = .next (tp_ Ps (dis [] Ps) (prG (dis [] Ps)) p') := e
  unfold body__law_twice_product
  rw [seq_n s1, seq_n s2, seq_n s3]
  rfl
/-! ### most_knots -/
def kO (A : Graph) : D := .obj "GraphKind" [("knots", tupG_ A)]
abbrev mk_ (Ps ks : List Graph) (k m q : Option L) : B.G := [some (.dat (.lst (Ps.map kO))), some (.lst (ks.map tupG_)), k, m, q]
theorem mk_fld {Ps ks : List Graph} {A : Graph} {m q : Option L} : unF (fldD "GraphKind" "knots") (slotB 2) (mk_ Ps ks (some (.dat (kO A))) m q) = .ok (.dat (tupG_ A)) (mk_ Ps ks (some (.dat (kO A))) m q) := un_ok (p := .slot 2) (d := kO A) rfl rfl rfl
theorem mq_step {Ps ks : List Graph} {A : Graph} {m q : Option L} (hl : ks.length < cap) : l1_most_knots (mk_ Ps ks (some (.dat (kO A))) m q) = .next (mk_ Ps (add1 ks A) (some (.dat (kO A))) m q) := by
  have t1 : testF (binF notinD (frzB (unF (fldD "GraphKind" "knots") (slotB 2))) (slotB 1)) (mk_ Ps ks (some (.dat (kO A))) m q) = .ok (!decide (A ∈ ks)) (mk_ Ps ks (some (.dat (kO A))) m q) :=
    test_ok (bin_ok (q := .slot 1) (frz_ok mk_fld) rfl rfl rfl notin_G)
  unfold l1_most_knots
  by_cases h : A ∈ ks
  · rw [decide_eq_true h] at t1
    rw [if_f t1, add1, if_pos h]
    rfl
  · rw [decide_eq_false h] at t1
    rw [if_t t1, add1, if_neg h]
    have hl' : (ks.map tupG_).length < cap := by rw [List.length_map]; exact hl
    have e1 := mk_fld (Ps := Ps) (ks := ks) (A := A) (m := m) (q := q)
    simp only [mk_, exprF, appF, e1, List.getElem?_cons_succ, List.getElem?_cons_zero, Res.bd, if_pos hl', view_dat, List.set_cons_succ, List.set_cons_zero, List.map_append, List.map_cons, List.map_nil]
theorem mq_loop {Ps : List Graph} {m q : Option L} : ∀ (Qs ks : List Graph) (p : Option L), ks.length + Qs.length ≤ cap → ∃ p', forL (nameG 2) l1_most_knots (Qs.map kO) (mk_ Ps ks p m q) = .next (mk_ Ps (dis ks Qs) p' m q)
  | [], ks, p, _ => ⟨p, rfl⟩
  | A :: Qs, ks, p, hl => by
    have h2 : (add1 ks A).length ≤ ks.length + 1 := by
      unfold add1
      split
      · omega
      · simp
    obtain ⟨p', e⟩ := mq_loop (Ps := Ps) (m := m) (q := q) Qs (add1 ks A) (some (.dat (kO A))) (by simp at hl; omega)
    refine ⟨p', ?_⟩
    have s1 := mq_step (Ps := Ps) (ks := ks) (A := A) (m := m) (q := q) (by simp at hl; omega)
    have tg : nameG 2 (kO A) (mk_ Ps ks p m q) = some (mk_ Ps ks (some (.dat (kO A))) m q) := rfl
    simp only [List.map_cons, forL, tg, s1]
    exact e
abbrev ml_ (a b k : Option L) (m : Nat) (q : Option L) : B.G := [a, b, k, some (.dat (iD m)), q]
theorem ml_loop {a b k : Option L} : ∀ (Qs : List Graph) (m : Nat) (q : Option L), (∀ A ∈ Qs, A.length ≤ 12) → ∃ q', forL (nameG 4) l2_most_knots (Qs.map tupG_) (ml_ a b k m q) = .next (ml_ a b k (Qs.foldl (fun m A => m * A.length) m) q')
  | [], m, q, _ => ⟨q, rfl⟩
  | A :: Qs, m, q, h => by
    obtain ⟨q', e⟩ := ml_loop (a := a) (b := b) (k := k) Qs (m * A.length) (some (.dat (tupG_ A))) (fun C hC => h C (by simp [hC]))
    refine ⟨q', ?_⟩
    have eL : callBF lenD (consP (slotB 4) nilP) (ml_ a b k m (some (.dat (tupG_ A)))) = .ok (.dat (iD A.length)) (ml_ a b k m (some (.dat (tupG_ A)))) :=
      callB_ok (ps := [.slot 4]) (ds := [tupG_ A]) rfl rfl (by simp only [tupG_, lenD, List.length_map])
    have s1 : l2_most_knots (ml_ a b k m (some (.dat (tupG_ A)))) = .next (ml_ a b k (m * A.length) (some (.dat (tupG_ A)))) :=
      set_ok (bin_ok (p := .slot 3) (x := iD m) rfl (frz_ok eL) rfl rfl (mul_len _ (h A (by simp)))) rfl
    have tg : nameG 4 (tupG_ A) (ml_ a b k m q) = some (ml_ a b k m (some (.dat (tupG_ A)))) := rfl
    simp only [List.map_cons, forL, tg, s1]
    exact e
theorem den_most {Ps : List Graph} (h : ∀ A ∈ Ps, A.length ≤ 12) (hl : Ps.length ≤ 4000) : d_most_knots [.dat (.lst (Ps.map kO))] = some (.dat (iD (prG (dis [] Ps))), [none]) := by
  have h4 : (4000 : Nat) + 2 ≤ cap := by decide
  obtain ⟨p', e⟩ := mq_loop (Ps := Ps) (m := none) (q := none) Ps [] none (by simp; omega)
  obtain ⟨q', e2⟩ := ml_loop (a := some (.dat (.lst (Ps.map kO)))) (b := some (.dat (.lst ((dis [] Ps).map tupG_)))) (k := p') (dis [] Ps) 2 none (dis_mem Ps [] (by simp) h)
  refine run_ret (g := [some (.dat (.lst (Ps.map kO))), none, none, none, none]) rfl (g' := (ml_ (some (.dat (.lst (Ps.map kO)))) (some (.dat (.lst ((dis [] Ps).map tupG_)))) p' (prG (dis [] Ps)) q').set 3 none) ?_ rfl
  have s1 : setF 1 (lstF nilA) [some (.dat (.lst (Ps.map kO))), none, none, none, none] = .next (mk_ Ps [] none none none) := rfl
  have s2 : forF (seqI (nameF 0)) (nameG 2) l1_most_knots (mk_ Ps [] none none none) = .next (mk_ Ps (dis [] Ps) p' none none) := e
  have s3 : setF 3 (constF (.int 2)) (mk_ Ps (dis [] Ps) p' none none) = .next [some (.dat (.lst (Ps.map kO))), some (.lst ((dis [] Ps).map tupG_)), p', some (.dat (iD 2)), none] := rfl
  have s4 : forF (seqI (nameF 1)) (nameG 4) l2_most_knots [some (.dat (.lst (Ps.map kO))), some (.lst ((dis [] Ps).map tupG_)), p', some (.dat (iD 2)), none] = .next (ml_ (some (.dat (.lst (Ps.map kO)))) (some (.dat (.lst ((dis [] Ps).map tupG_)))) p' (prG (dis [] Ps)) q') := e2
  unfold body_most_knots
  rw [seq_n s1, seq_n s2, seq_n s3, seq_n s4]
  rfl
end K15

set_option maxHeartbeats 4000000
namespace K15
open PySem L2 B Gr
theorem or_f {t u : Tf} {g g1 g2 : B.G} {b : Bool} (h : t g = .ok false g1) (h2 : u g1 = .ok b g2) : orT t u g = .ok b g2 := by simp only [orT, h, Res.bd, Bool.false_eq_true, if_false, h2]
theorem not_ok {t : Tf} {g g1 : B.G} {b : Bool} (h : t g = .ok b g1) : notT t g = .ok (!b) g1 := by simp only [notT, h, Res.bd]
theorem andE_ok {t u : Ef} {g g1 : B.G} {r : Res L} (h : testF t g = .ok true g1) (h2 : u g1 = r) : andE t u g = r := by simp only [andE, h, Res.bd, if_true, h2]
theorem neD_int (i j : Int) : neD (.int i) (.int j) = some (.bl (!decide (i = j))) := by
  have h := eqD_int i j
  unfold eqD at h
  unfold neD
  cases e : eqB (.int i) (.int j) with
  | none => rw [e] at h; cases h
  | some b => rw [e] at h; cases h; rfl
def Same (n : Nat) (x : D) : Prop := rec__law_same (n + 1) [.dat x, .dat x] = some (.dat (.bl true), [none, none])
abbrev sm_ (x : D) (k : Option L) : B.G := [some (.dat x), some (.dat x), k]
theorem sm_is {x : D} {k : Option L} {T : String} {b : Bool} (h : isiD T x = some (.dat (.bl b))) : testF (unF (isiD T) (slotB 1)) (sm_ x k) = .ok b (sm_ x k) ∧ testF (unF (isiD T) (slotB 0)) (sm_ x k) = .ok b (sm_ x k) :=
  ⟨test_ok (un_ok (p := .slot 1) (d := x) rfl rfl h), test_ok (un_ok (p := .slot 0) (d := x) rfl rfl h)⟩
theorem sm_head {n : Nat} {x : D} (hb : isiD "bool" x = some (.dat (.bl false))) (hn : nonB x = false) {r : S}
    (h : seqF (ifF (testF (unF (isiD "int") (slotB 1))) (retF (andE (unF (isiD "int") (slotB 0)) (binF eqD (slotB 0) (slotB 1)))) (skipF)) (seqF (ifF (testF (unF (isiD "str") (slotB 1))) (retF (andE (unF (isiD "str") (slotB 0)) (binF eqD (slotB 0) (slotB 1)))) (skipF)) (seqF (ifF (andT (testF (unF (isiD "tuple") (slotB 1))) (notT (testF (unF (isiD "tuple") (slotB 0))))) (retF (constF (.bl false))) (skipF)) (seqF (ifF (andT (testF (unF (isiD "list") (slotB 1))) (notT (testF (unF (isiD "list") (slotB 0))))) (retF (constF (.bl false))) (skipF)) (seqF (ifF (testF (binF neD (frzB (callBF lenD (consP (slotB 0) (nilP)))) (frzB (callBF lenD (consP (slotB 1) (nilP)))))) (retF (constF (.bl false))) (skipF)) (seqF (forF (rngI1 (callBF lenD (consP (slotB 1) (nilP)))) (nameG 2) (l1__law_same (rec__law_same n))) (retF (constF (.bl true)))))))) (sm_ x none) = r) :
    body__law_same (rec__law_same n) (sm_ x none) = r := by
  obtain ⟨b1, b2⟩ := sm_is (k := none) hb
  have t1 := or_f b1 b2
  have n1 : testF (binF isD (slotB 1) (frzB (constF .non))) (sm_ x none) = .ok false (sm_ x none) := test_ok (bin_ok (p := .slot 1) (x := x) (y := .non) rfl rfl rfl rfl (by simp only [isD, hn]))
  have n2 : testF (binF isD (slotB 0) (frzB (constF .non))) (sm_ x none) = .ok false (sm_ x none) := test_ok (bin_ok (p := .slot 0) (x := x) (y := .non) rfl rfl rfl rfl (by simp only [isD, hn]))
  have t2 := or_f n1 n2
  unfold body__law_same
  rw [seq_n (skip_f t1), seq_n (skip_f t2)]
  exact h
theorem same_int (n : Nat) (i : Int) : Same n (.int i) := by
  refine run_ret (g := sm_ (.int i) none) rfl (g' := sm_ (.int i) none) (sm_head rfl rfl ?_) rfl
  obtain ⟨t1, t2⟩ := sm_is (x := .int i) (k := none) (T := "int") (b := true) rfl
  refine seq_r ?_
  rw [if_t t1]
  refine ret_ok (andE_ok t2 (bin_ok (p := .slot 0) (q := .slot 1) rfl rfl rfl rfl ?_))
  rw [view_dat, eqD_int, decide_eq_true rfl]
theorem same_str (n : Nat) {x : Str} (hx : PyData.strOk x = true) : Same n (.str x) := by
  refine run_ret (g := sm_ (.str x) none) rfl (g' := sm_ (.str x) none) (sm_head rfl rfl ?_) rfl
  obtain ⟨t1, t2⟩ := sm_is (x := .str x) (k := none) (T := "int") (b := false) rfl
  obtain ⟨t3, t4⟩ := sm_is (x := .str x) (k := none) (T := "str") (b := true) rfl
  rw [seq_n (skip_f t1)]
  refine seq_r ?_
  rw [if_t t3]
  refine ret_ok (andE_ok t4 (bin_ok (p := .slot 0) (q := .slot 1) rfl rfl rfl rfl ?_))
  rw [view_dat, eqD_str hx hx, decide_eq_true rfl]
theorem same_seq {n : Nat} {x : D} {ds : List D} (hb : isiD "bool" x = some (.dat (.bl false))) (hn : nonB x = false) (hi : isiD "int" x = some (.dat (.bl false))) (hs : isiD "str" x = some (.dat (.bl false))) {c d : Bool} (ht : isiD "tuple" x = some (.dat (.bl c))) (hl : isiD "list" x = some (.dat (.bl d)))
    (hlen : lenD [x] = some (.dat (iD ds.length))) (hix : ∀ (i : Nat) (y : D), ds[i]? = some y → ixD x (iD i) = some y) (hcap : ds.length < cap) (hds : ∀ y ∈ ds, Same n y) : Same (n + 1) x := by
  have s8 : ∃ k, forF (rngI1 (callBF lenD (consP (slotB 1) nilP))) (nameG 2) (l1__law_same (rec__law_same (n + 1))) (sm_ x none) = .next (sm_ x k) := by
    have eL : callBF lenD (consP (slotB 1) nilP) (sm_ x none) = .ok (.dat (iD ds.length)) (sm_ x none) := callB_ok (ps := [.slot 1]) (ds := [x]) rfl rfl hlen
    have hl : ∀ (is : List Nat) (k : Option L), (∀ i ∈ is, i < ds.length) → ∃ k', forL (nameG 2) (l1__law_same (rec__law_same (n + 1))) (is.map iD) (sm_ x k) = .next (sm_ x k') := by
      intro is
      induction is with
      | nil => exact fun k _ => ⟨k, rfl⟩
      | cons i is ih =>
        intro k h
        obtain ⟨k', e⟩ := ih (some (.dat (iD i))) fun j hj => h j (by simp [hj])
        refine ⟨k', ?_⟩
        obtain ⟨y, hy⟩ := some_of (h i (by simp))
        have b1 : binF ixD (slotB 0) (slotB 2) (sm_ x (some (.dat (iD i)))) = .ok (.dat y) (sm_ x (some (.dat (iD i)))) := bin_ok (p := .slot 0) (q := .slot 2) rfl rfl rfl rfl (hix i y hy)
        have b2 : binF ixD (slotB 1) (slotB 2) (sm_ x (some (.dat (iD i)))) = .ok (.dat y) (sm_ x (some (.dat (iD i)))) := bin_ok (p := .slot 1) (q := .slot 2) rfl rfl rfl rfl (hix i y hy)
        have hy2 : rec__law_same (n + 1) [.dat y, .dat y] = some (.dat (.bl true), [none, none]) := hds y (List.mem_of_getElem? hy)
        have t1 := not_ok (test_ok (call_ok (rf := [none, none]) (g2 := sm_ x (some (.dat (iD i)))) (cons_ok (frz_ok b1) (cons_ok (frz_ok b2) (pf := nilP) rfl)) rfl hy2 rfl))
        have s1 : l1__law_same (rec__law_same (n + 1)) (sm_ x (some (.dat (iD i)))) = .next (sm_ x (some (.dat (iD i)))) := skip_f t1
        have tg : nameG 2 (iD i) (sm_ x k) = some (sm_ x (some (.dat (iD i)))) := rfl
        simp only [List.map_cons, forL, tg, s1]
        exact e
    obtain ⟨k', e⟩ := hl (List.range ds.length) none fun i hi => List.mem_range.mp hi
    refine ⟨k', ?_⟩
    unfold forF
    rw [rng_nat eL hcap]
    exact e
  obtain ⟨k, s8⟩ := s8
  refine run_ret (g := sm_ x none) rfl (g' := sm_ x k) (sm_head hb hn ?_) rfl
  obtain ⟨t1, _⟩ := sm_is (k := none) hi
  obtain ⟨t2, _⟩ := sm_is (k := none) hs
  obtain ⟨t3, t3'⟩ := sm_is (k := none) ht
  obtain ⟨t4, t4'⟩ := sm_is (k := none) hl
  have a3 : andT (testF (unF (isiD "tuple") (slotB 1))) (notT (testF (unF (isiD "tuple") (slotB 0)))) (sm_ x none) = .ok false (sm_ x none) := by
    cases c with
    | true => exact and_ok t3 (not_ok t3')
    | false => exact and_f t3
  have a4 : andT (testF (unF (isiD "list") (slotB 1))) (notT (testF (unF (isiD "list") (slotB 0)))) (sm_ x none) = .ok false (sm_ x none) := by
    cases d with
    | true => exact and_ok t4 (not_ok t4')
    | false => exact and_f t4
  have eL0 : callBF lenD (consP (slotB 0) nilP) (sm_ x none) = .ok (.dat (iD ds.length)) (sm_ x none) := callB_ok (ps := [.slot 0]) (ds := [x]) rfl rfl hlen
  have eL1 : callBF lenD (consP (slotB 1) nilP) (sm_ x none) = .ok (.dat (iD ds.length)) (sm_ x none) := callB_ok (ps := [.slot 1]) (ds := [x]) rfl rfl hlen
  have t7 : testF (binF neD (frzB (callBF lenD (consP (slotB 0) nilP))) (frzB (callBF lenD (consP (slotB 1) nilP)))) (sm_ x none) = .ok false (sm_ x none) := test_ok (bin_ok (frz_ok eL0) (frz_ok eL1) rfl rfl (by rw [view_dat, neD_int, decide_eq_true rfl]; rfl))
  rw [seq_n (skip_f t1), seq_n (skip_f t2), seq_n (skip_f a3), seq_n (skip_f a4), seq_n (skip_f t7), seq_n s8]
  rfl
theorem same_tup {n : Nat} {ds : List D} (hcap : ds.length < cap) (h : ∀ y ∈ ds, Same n y) : Same (n + 1) (.tup ds) := same_seq (ds := ds) rfl rfl rfl rfl rfl rfl rfl (fun i y e => atI_nat e) hcap h
theorem same_lst {n : Nat} {ds : List D} (hcap : ds.length < cap) (h : ∀ y ∈ ds, Same n y) : Same (n + 1) (.lst ds) := same_seq (ds := ds) rfl rfl rfl rfl rfl rfl rfl (fun i y e => atI_nat e) hcap h
theorem same_K (n : Nat) {k : Kn} (h : k.ls.length ≤ 2) : Same (n + 1) (encK k) := by
  have h4 : (4000 : Nat) + 2 ≤ cap := by decide
  refine same_tup (by simp; omega) fun y hy => ?_
  rcases List.mem_cons.mp hy with rfl | hy
  · exact same_str n (ws_ok _)
  · obtain ⟨l, _, rfl⟩ := List.mem_map.mp hy
    exact same_int n _
theorem same_G (n : Nat) {A : Graph} (h : Wf A) (hl : A.length ≤ 4000) : Same (n + 2) (tupG_ A) := by
  have h4 : (4000 : Nat) + 2 ≤ cap := by decide
  refine same_tup (by simp; omega) fun y hy => ?_
  obtain ⟨k, hk, rfl⟩ := List.mem_map.mp hy
  exact same_K n (by rw [(h.2 k hk).1]; cases k.w <;> decide)
theorem same_Gs (n : Nat) {Ps : List Graph} (h : ∀ A ∈ Ps, Good A) (hl : Ps.length ≤ 4000) : Same (n + 3) (.lst (Ps.map tupG_)) := by
  have h4 : (4000 : Nat) + 2 ≤ cap := by decide
  refine same_lst (by simp; omega) fun y hy => ?_
  obtain ⟨A, hA, rfl⟩ := List.mem_map.mp hy
  exact same_G n (h A hA).wf (by have := (h A hA).le; omega)
theorem den_same_int (i : Int) : d__law_same [.dat (.int i), .dat (.int i)] = some (.dat (.bl true), [none, none]) := same_int 7 i
theorem den_same_Gs {Ps : List Graph} (h : ∀ A ∈ Ps, Good A) (hl : Ps.length ≤ 4000) : d__law_same [.dat (.lst (Ps.map tupG_)), .dat (.lst (Ps.map tupG_))] = some (.dat (.bl true), [none, none]) := same_Gs 4 h hl
end K15

set_option maxHeartbeats 4000000
namespace K15
open PySem L2 B Gr
theorem lcL_map {vs : List Nat} {t : Tg} {fe : Ef} {α : Type} {ea eb : α → D} {P : B.G → Prop} (as : List α) (g : B.G) (h : ∀ a ∈ as, ∀ g, P g → ∃ g1 l g3, t (ea a) g = some g1 ∧ fe g1 = .ok l g3 ∧ l.view = eb a ∧ P (wipeG g3 vs)) (hp : P g) (hl : as.length ≤ cap) :
    ∃ g', P g' ∧ lcL vs t yesT fe (as.map ea) [] g = .ok (as.map eb) g' := by
  obtain ⟨bs, g', hb, p', e⟩ := lcL_rel (vs := vs) (t := t) (fe := fe) (ea := ea) (eb := eb) (Rl := fun a b => b = a) (P := P) as [] g (fun a ha g hg => by
    obtain ⟨g1, l, g3, e1, e2, e3, e4⟩ := h a ha g hg
    exact ⟨a, g1, l, g3, rfl, e1, e2, e3, e4⟩) hp (by simpa using hl)
  have hb' : bs = as := by
    have := hb.map (f := fun a => a)
    simpa using this
  subst hb'
  exact ⟨g', p', by simpa using e⟩
abbrev as_ (Ps : List Graph) (s2 s3 s4 : Option L) : B.G := [some (.dat (.lst (Ps.map kO))), some (.dat (.lst (Ps.map tupG_))), s2, s3, s4]
theorem den_asked {Ps : List Graph} (h : ∀ A ∈ Ps, Good A) (hl : Ps.length ≤ 4000) : d__law_asked [.dat (.lst (Ps.map kO)), .dat (.lst (Ps.map tupG_))] = some (.dat (.bl true), [none, none]) := by
  have h4 : (4000 : Nat) + 2 ≤ cap := by decide
  have h12 : ∀ A ∈ Ps, A.length ≤ 12 := fun A hA => (h A hA).le
  have s1 : setF 2 (callF [none] d__law_twice_product (consP (frzB (nameF 1)) nilP)) (as_ Ps none none none) = .next (as_ Ps (some (.dat (iD (prG (dis [] Ps))))) none none) :=
    set_ok (call_ok (ls := [.dat (.lst (Ps.map tupG_))]) rfl rfl (den_twice h12 hl) rfl) rfl
  have s2 : setF 3 (callBF listD (consP (slotB 0) nilP)) (as_ Ps (some (.dat (iD (prG (dis [] Ps))))) none none) = .next (as_ Ps (some (.dat (iD (prG (dis [] Ps))))) (some (.lst (Ps.map kO))) none) :=
    set_ok (callB_ok (ps := [.slot 0]) (ds := [.lst (Ps.map kO)]) rfl rfl rfl) rfl
  have m1 : callF [none] d_most_knots (consP (frzB (nameF 3)) nilP) (as_ Ps (some (.dat (iD (prG (dis [] Ps))))) (some (.lst (Ps.map kO))) none) = .ok (.dat (iD (prG (dis [] Ps)))) (as_ Ps (some (.dat (iD (prG (dis [] Ps))))) (some (.dat (.lst (Ps.map kO)))) none) :=
    call_ok (ls := [.dat (.lst (Ps.map kO))]) rfl rfl (den_most h12 hl) rfl
  have m2 : callF [none] d_most_knots (consP (frzB (nameF 3)) nilP) (as_ Ps (some (.dat (iD (prG (dis [] Ps))))) (some (.dat (.lst (Ps.map kO)))) none) = .ok (.dat (iD (prG (dis [] Ps)))) (as_ Ps (some (.dat (iD (prG (dis [] Ps))))) (some (.dat (.lst (Ps.map kO)))) none) :=
    call_ok (ls := [.dat (.lst (Ps.map kO))]) rfl rfl (den_most h12 hl) rfl
  have q1 : callF [none, none] d__law_same (consP (frzB (callF [none] d_most_knots (consP (frzB (nameF 3)) nilP))) (consP (frzB (nameF 2)) nilP)) (as_ Ps (some (.dat (iD (prG (dis [] Ps))))) (some (.lst (Ps.map kO))) none) = .ok (.dat (.bl true)) (as_ Ps (some (.dat (iD (prG (dis [] Ps))))) (some (.dat (.lst (Ps.map kO)))) none) :=
    call_ok (ls := [.dat (iD (prG (dis [] Ps))), .dat (iD (prG (dis [] Ps)))]) (cons_ok (frz_ok m1) rfl) rfl (den_same_int _) rfl
  have q2 : callF [none, none] d__law_same (consP (frzB (callF [none] d_most_knots (consP (frzB (nameF 3)) nilP))) (consP (frzB (nameF 2)) nilP)) (as_ Ps (some (.dat (iD (prG (dis [] Ps))))) (some (.dat (.lst (Ps.map kO)))) none) = .ok (.dat (.bl true)) (as_ Ps (some (.dat (iD (prG (dis [] Ps))))) (some (.dat (.lst (Ps.map kO)))) none) :=
    call_ok (ls := [.dat (iD (prG (dis [] Ps))), .dat (iD (prG (dis [] Ps)))]) (cons_ok (frz_ok m2) rfl) rfl (den_same_int _) rfl
  have eL : ∀ s3 s4, callBF lenD (consP (slotB 1) nilP) (as_ Ps (some (.dat (iD (prG (dis [] Ps))))) s3 s4) = .ok (.dat (iD Ps.length)) (as_ Ps (some (.dat (iD (prG (dis [] Ps))))) s3 s4) := fun s3 s4 =>
    callB_ok (ps := [.slot 1]) (ds := [.lst (Ps.map tupG_)]) rfl rfl (by simp only [lenD, List.length_map])
  have eL3 : callBF lenD (consP (slotB 3) nilP) (as_ Ps (some (.dat (iD (prG (dis [] Ps))))) (some (.dat (.lst (Ps.map kO)))) none) = .ok (.dat (iD Ps.length)) (as_ Ps (some (.dat (iD (prG (dis [] Ps))))) (some (.dat (.lst (Ps.map kO)))) none) :=
    callB_ok (ps := [.slot 3]) (ds := [.lst (Ps.map kO)]) rfl rfl (by simp only [lenD, List.length_map])
  have q3 : callF [none, none] d__law_same (consP (frzB (callBF lenD (consP (slotB 3) nilP))) (consP (frzB (callBF lenD (consP (slotB 1) nilP))) nilP)) (as_ Ps (some (.dat (iD (prG (dis [] Ps))))) (some (.dat (.lst (Ps.map kO)))) none) = .ok (.dat (.bl true)) (as_ Ps (some (.dat (iD (prG (dis [] Ps))))) (some (.dat (.lst (Ps.map kO)))) none) :=
    call_ok (ls := [.dat (iD Ps.length), .dat (iD Ps.length)]) (cons_ok (frz_ok eL3) (cons_ok (frz_ok (eL _ _)) rfl)) rfl (den_same_int _) rfl
  have t3 := or_f (not_ok (test_ok q1)) (not_ok (test_ok q3))
  obtain ⟨g', rfl, e3⟩ := lcL_map (vs := [4]) (t := nameG 4) (fe := e1__law_asked) (ea := kO) (eb := tupG_) (P := fun g => g = as_ Ps (some (.dat (iD (prG (dis [] Ps))))) (some (.dat (.lst (Ps.map kO)))) none) Ps (as_ Ps (some (.dat (iD (prG (dis [] Ps))))) (some (.dat (.lst (Ps.map kO)))) none) (by
    rintro A hA g rfl
    exact ⟨as_ Ps (some (.dat (iD (prG (dis [] Ps))))) (some (.dat (.lst (Ps.map kO)))) (some (.dat (kO A))), .dat (tupG_ A), as_ Ps (some (.dat (iD (prG (dis [] Ps))))) (some (.dat (.lst (Ps.map kO)))) (some (.dat (kO A))), rfl, un_ok (p := .slot 4) (d := kO A) rfl rfl rfl, rfl, rfl⟩) rfl (by omega)
  have e4 := lc_ok (g := as_ Ps (some (.dat (iD (prG (dis [] Ps))))) (some (.dat (.lst (Ps.map kO)))) none) (fi := seqI (nameF 3)) (g3 := as_ Ps (some (.dat (iD (prG (dis [] Ps))))) (some (.dat (.lst (Ps.map kO)))) none) rfl rfl e3 rfl
  have q4 : callF [none, none] d__law_same (consP (frzB (lcF [4] (seqI (nameF 3)) (nameG 4) yesT e1__law_asked)) (consP (frzB (nameF 1)) nilP)) (as_ Ps (some (.dat (iD (prG (dis [] Ps))))) (some (.dat (.lst (Ps.map kO)))) none) = .ok (.dat (.bl true)) (as_ Ps (some (.dat (iD (prG (dis [] Ps))))) (some (.dat (.lst (Ps.map kO)))) none) :=
    call_ok (ls := [.dat (.lst (Ps.map tupG_)), .dat (.lst (Ps.map tupG_))]) (cons_ok (frz_ok e4) rfl) rfl (den_same_Gs h hl) rfl
  have t4 := not_ok (test_ok q4)
  refine run_ret (g := as_ Ps none none none) rfl (g' := as_ Ps (some (.dat (iD (prG (dis [] Ps))))) (some (.dat (.lst (Ps.map kO)))) none) ?_ rfl
  unfold body__law_asked
  rw [seq_n s1, seq_n s2, seq_n (skip_f t3), seq_n (skip_f t4)]
  exact ret_ok q2
end K15

set_option maxHeartbeats 4000000
namespace K15
open PySem L2 B Gr
theorem draw1 {a : Option L} {l : List Int} {m : Nat} {rest : B.G} {fm : Ef} (hm : 0 < m) (h1 : fm (a :: some (dr l) :: rest) = .ok (.dat (iD m)) (a :: some (dr l) :: rest)) :
    ∃ (r : Nat) (l' : List Int), r < m ∧ callF [some 1, none] d__law_draw (consP (slotB 1) (consP (frzB fm) nilP)) (a :: some (dr l) :: rest) = .ok (.dat (iD r)) (a :: some (dr l') :: rest) := by
  obtain ⟨r, l', h2, _, h3⟩ := draw_at (j := 1) hm rfl h1 rfl
  exact ⟨r, l', h2, h3⟩
/-- a plain graph and the form it is handed in -/
structure FormOk (b : Graph × Graph) : Prop where
  good : Good b.1
  wf : Wf b.2
  same : lst b.2 = b.1
  le : b.2.length ≤ 60
abbrev wz_ (s : Option L) (l : List Int) (m : Nat) (t3 k p5 p6 s7 s8 s9 : Option L) : B.G := [s, some (dr l), some (.dat (iD m)), t3, k, p5, p6, s7, s8, s9]
abbrev frs (bs : List (Graph × Graph)) : L := .lst (bs.map fun b => tupG_ b.2)
abbrev pln (bs : List (Graph × Graph)) : L := pls (bs.map fun b => b.1)
theorem law_step_ {s : Option L} {l : List Int} {m k : Nat} {ts : List Nat} {bs : List (Graph × Graph)} {t3 s7 s8 : Option L} (ht : ts.length = 4) (ht2 : ∀ t ∈ ts, t < 4000) (h3 : t3 = some (.lst (ts.map iD)) ∨ t3 = some (.dat (.lst (ts.map iD)))) (hb : ∀ b ∈ bs, FormOk b) (hk : k < 4000) (hl : bs.length < 4000) :
    ∃ (l' : List Int) (b : Graph × Graph) (s7' s8' : Option L), FormOk b ∧ (∃ d, s8' = some (.dat d)) ∧ l1_law (wz_ s l m t3 (some (.dat (iD k))) (some (pln bs)) (some (frs bs)) s7 s8 none) = .next (wz_ s l' m (some (.dat (.lst (ts.map iD)))) (some (.dat (iD k))) (some (pln (bs ++ [b]))) (some (frs (bs ++ [b]))) s7' s8' none) := by
  have h4 : (4000 : Nat) + 2 ≤ cap := by decide
  obtain ⟨l1, A, hA, e1⟩ := den_any_plain l (Ps := bs.map fun b => b.1) (by
    intro A hA
    obtain ⟨b, h1, rfl⟩ := List.mem_map.mp hA
    exact (hb b h1).good) hk ht ht2
  have s1 : setF 7 (callF [some 1, some 5, none, none] d__law_any_plain (consP (slotB 1) (consP (slotB 5) (consP (frzB (nameF 4)) (consP (frzB (nameF 3)) nilP))))) (wz_ s l m t3 (some (.dat (iD k))) (some (pln bs)) (some (frs bs)) s7 s8 none) = .next (wz_ s l1 m (some (.dat (.lst (ts.map iD)))) (some (.dat (iD k))) (some (pln bs)) (some (frs bs)) (some (.dat (tupG_ A))) s8 none) := by
    rcases h3 with rfl | rfl
    · exact set_ok (call_ok (ls := [dr l, pls (bs.map fun b => b.1), .dat (iD k), .dat (.lst (ts.map iD))]) rfl rfl e1 rfl) rfl
    · exact set_ok (call_ok (ls := [dr l, pls (bs.map fun b => b.1), .dat (iD k), .dat (.lst (ts.map iD))]) rfl rfl e1 rfl) rfl
  have hl5 : ((bs.map fun b => b.1).map tupG_).length < cap := by simp; omega
  have hl6 : (bs.map fun b => tupG_ b.2).length < cap := by simp; omega
  have s2 : ∀ b2, exprF (appF 5 (nameF 7)) (wz_ s l1 m (some (.dat (.lst (ts.map iD)))) (some (.dat (iD k))) (some (pln bs)) (some (frs bs)) (some (.dat (tupG_ A))) s8 none) = .next (wz_ s l1 m (some (.dat (.lst (ts.map iD)))) (some (.dat (iD k))) (some (pln (bs ++ [(A, b2)]))) (some (frs bs)) (some (.dat (tupG_ A))) s8 none) := by
    intro b2
    simp only [wz_, pln, pls, exprF, appF, nameF, List.getElem?_cons_succ, List.getElem?_cons_zero, Res.bd, if_pos hl5, view_dat, List.set_cons_succ, List.set_cons_zero, List.map_append, List.map_cons, List.map_nil]
  have s3 : ∀ b2, setF 8 (nameF 7) (wz_ s l1 m (some (.dat (.lst (ts.map iD)))) (some (.dat (iD k))) (some (pln (bs ++ [(A, b2)]))) (some (frs bs)) (some (.dat (tupG_ A))) s8 none) = .next (wz_ s l1 m (some (.dat (.lst (ts.map iD)))) (some (.dat (iD k))) (some (pln (bs ++ [(A, b2)]))) (some (frs bs)) (some (.dat (tupG_ A))) (some (.dat (tupG_ A))) none) := fun _ => rfl
  obtain ⟨r, l2, hr, e2⟩ : ∃ (r : Nat) (l2 : List Int), r < 3 ∧ ∀ b2, callF [some 1, none] d__law_draw (consP (slotB 1) (consP (frzB (constF (.int 3))) nilP)) (wz_ s l1 m (some (.dat (.lst (ts.map iD)))) (some (.dat (iD k))) (some (pln (bs ++ [(A, b2)]))) (some (frs bs)) (some (.dat (tupG_ A))) (some (.dat (tupG_ A))) none) = .ok (.dat (iD r)) (wz_ s l2 m (some (.dat (.lst (ts.map iD)))) (some (.dat (iD k))) (some (pln (bs ++ [(A, b2)]))) (some (frs bs)) (some (.dat (tupG_ A))) (some (.dat (tupG_ A))) none) := by
    obtain ⟨r, l2, h1, h2, h3⟩ := den_draw l1 (m := 3) (by decide)
    refine ⟨r, l2, h1, fun b2 => ?_⟩
    exact call_ok (ls := [dr l1, .dat (iD 3)]) rfl rfl h3 rfl
  have t4 : ∀ b2, testF (binF eqD (frzB (callF [some 1, none] d__law_draw (consP (slotB 1) (consP (frzB (constF (.int 3))) nilP)))) (frzB (constF (.int 2)))) (wz_ s l1 m (some (.dat (.lst (ts.map iD)))) (some (.dat (iD k))) (some (pln (bs ++ [(A, b2)]))) (some (frs bs)) (some (.dat (tupG_ A))) (some (.dat (tupG_ A))) none) = .ok (decide ((r : Int) = 2)) (wz_ s l2 m (some (.dat (.lst (ts.map iD)))) (some (.dat (iD k))) (some (pln (bs ++ [(A, b2)]))) (some (frs bs)) (some (.dat (tupG_ A))) (some (.dat (tupG_ A))) none) := fun b2 =>
    test_ok (bin_ok (y := .int 2) (frz_ok (e2 b2)) rfl rfl rfl (eqD_int _ _))
  have s6 : ∀ l b2, exprF (appF 6 (nameF 8)) (wz_ s l m (some (.dat (.lst (ts.map iD)))) (some (.dat (iD k))) (some (pln (bs ++ [(A, b2)]))) (some (frs bs)) (some (.dat (tupG_ A))) (some (.dat (tupG_ b2))) none) = .next (wz_ s l m (some (.dat (.lst (ts.map iD)))) (some (.dat (iD k))) (some (pln (bs ++ [(A, b2)]))) (some (frs (bs ++ [(A, b2)]))) (some (.dat (tupG_ A))) (some (.dat (tupG_ b2))) none) := by
    intro l b2
    simp only [wz_, exprF, appF, nameF, List.getElem?_cons_succ, List.getElem?_cons_zero, Res.bd, if_pos hl6, view_dat, List.set_cons_succ, List.set_cons_zero, frs, List.map_append, List.map_cons, List.map_nil]
  unfold l1_law
  by_cases h : (r : Int) = 2
  · rw [decide_eq_true h] at t4
    obtain ⟨l3, C, hw, hs, hc, e5⟩ := den_blown l2 hA
    have s5 : setF 8 (callBF tupleD (consP (frzB (callF [some 1, none] d__law_blown (consP (slotB 1) (consP (frzB (nameF 7)) nilP)))) nilP)) (wz_ s l2 m (some (.dat (.lst (ts.map iD)))) (some (.dat (iD k))) (some (pln (bs ++ [(A, C)]))) (some (frs bs)) (some (.dat (tupG_ A))) (some (.dat (tupG_ A))) none) = .next (wz_ s l3 m (some (.dat (.lst (ts.map iD)))) (some (.dat (iD k))) (some (pln (bs ++ [(A, C)]))) (some (frs bs)) (some (.dat (tupG_ A))) (some (.dat (tupG_ C))) none) := by
      have c1 : callF [some 1, none] d__law_blown (consP (slotB 1) (consP (frzB (nameF 7)) nilP)) (wz_ s l2 m (some (.dat (.lst (ts.map iD)))) (some (.dat (iD k))) (some (pln (bs ++ [(A, C)]))) (some (frs bs)) (some (.dat (tupG_ A))) (some (.dat (tupG_ A))) none) = .ok (.lst (C.map encK)) (wz_ s l3 m (some (.dat (.lst (ts.map iD)))) (some (.dat (iD k))) (some (pln (bs ++ [(A, C)]))) (some (frs bs)) (some (.dat (tupG_ A))) (some (.dat (tupG_ A))) none) :=
        call_ok (ls := [dr l2, .dat (tupG_ A)]) rfl rfl e5 rfl
      exact set_ok (callB_ok (cons_ok (frz_ok c1) (pf := nilP) rfl) rfl rfl) rfl
    refine ⟨l3, (A, C), some (.dat (tupG_ A)), some (.dat (tupG_ C)), ⟨hA, hw, hs, hc⟩, ⟨_, rfl⟩, ?_⟩
    rw [seq_n s1, seq_n (s2 C), seq_n (s3 C), seq_n (by rw [if_t (t4 C)]; exact s5)]
    exact s6 _ _
  · rw [decide_eq_false h] at t4
    refine ⟨l2, (A, A), some (.dat (tupG_ A)), some (.dat (tupG_ A)), ⟨hA, hA.wf, hA.fix, by have := hA.le; show A.length ≤ 60; omega⟩, ⟨_, rfl⟩, ?_⟩
    rw [seq_n s1, seq_n (s2 A), seq_n (s3 A), seq_n (skip_f (t4 A))]
    exact s6 _ _
end K15

set_option maxHeartbeats 4000000
namespace K15
open PySem L2 B Gr
theorem not_f {t : Tf} {g g1 : B.G} (h : t g = .ok true g1) : notT t g = .ok false g1 := not_ok h
theorem den_turns {s : Option L} {l : List Int} {m : Nat} : ∃ (l' : List Int) (ts : List Nat), ts.length = 4 ∧ (∀ t ∈ ts, t < 4000) ∧
    setF 3 (lcF [4] (rngI1 (constF (.int 4))) (nameG 4) yesT e1_law) (wz_ s l m none none none none none none none) = .next (wz_ s l' m (some (.lst (ts.map iD))) none none none none none none) := by
  have h4 : (4000 : Nat) + 2 ≤ cap := by decide
  obtain ⟨ts, g', hb, ⟨l', rfl⟩, e⟩ := lcL_rel (vs := [4]) (t := nameG 4) (fe := e1_law) (ea := iD) (eb := iD) (Rl := fun _ y => y < 9) (P := fun g => ∃ l, g = wz_ s l m none none none none none none none) (List.range 4) [] (wz_ s l m none none none none none none none) (by
    rintro x hx g ⟨l, rfl⟩
    obtain ⟨r, l', hr, e⟩ := draw1 (a := s) (l := l) (rest := [some (.dat (iD m)), none, some (.dat (iD x)), none, none, none, none, none]) (fm := constF (.int 9)) (m := 9) (by decide) rfl
    exact ⟨r, _, _, _, hr, rfl, e, rfl, l', rfl⟩) ⟨l, rfl⟩ (by simp; omega)
  have hlen := hb.len
  refine ⟨l', ts, by simpa using hlen.symm, fun t ht => ?_, ?_⟩
  · obtain ⟨i, hi⟩ := List.mem_iff_getElem?.mp ht
    obtain ⟨_, _, h⟩ := hb.get hi
    omega
  · exact set_ok (lc_ok (g3 := wz_ s l' m none none none none none none none) (rng_nat (fa := constF (.int 4)) (n := 4) (g1 := wz_ s l m none none none none none none none) rfl (by omega)) rfl e rfl) rfl
theorem den_law_loop {s : Option L} {l : List Int} {m : Nat} {ts : List Nat} (ht : ts.length = 4) (ht2 : ∀ t ∈ ts, t < 4000) (hm : m ≤ 40) :
    ∃ (l' : List Int) (bs : List (Graph × Graph)) (t3 k s7 s8 : Option L), (∀ b ∈ bs, FormOk b) ∧ bs.length ≤ 40 ∧ (s8 = none ∨ ∃ d, s8 = some (.dat d)) ∧
      forF (rngI1 (nameF 2)) (nameG 4) l1_law (wz_ s l m (some (.lst (ts.map iD))) none (some (.lst [])) (some (.lst [])) none none none) = .next (wz_ s l' m t3 k (some (pln bs)) (some (frs bs)) s7 s8 none) := by
  have h4 : (4000 : Nat) + 2 ≤ cap := by decide
  obtain ⟨bs, g', hb, ⟨l', t3, k, s7, s8, h3, h8, hf, rfl⟩, e⟩ := loop_rel (t := nameG 4) (b := l1_law) (ea := iD) (Rl := fun (_ : Nat) (b : Graph × Graph) => True) (N := 40)
    (P := fun bs g => ∃ l t3 k s7 s8, (t3 = some (.lst (ts.map iD)) ∨ t3 = some (.dat (.lst (ts.map iD)))) ∧ (s8 = none ∨ ∃ d, s8 = some (.dat d)) ∧ (∀ b ∈ bs, FormOk b) ∧ g = wz_ s l m t3 k (some (pln bs)) (some (frs bs)) s7 s8 none) (List.range m) [] (wz_ s l m (some (.lst (ts.map iD))) none (some (.lst [])) (some (.lst [])) none none none) (by
      rintro x hx acc g ⟨l, t3, k, s7, s8, h3, h8, hf, rfl⟩ hacc
      have hxm := List.mem_range.mp hx
      obtain ⟨l', b, s7', s8', h1, h2, e⟩ := law_step_ (s := s) (l := l) (m := m) (k := x) (ts := ts) (bs := acc) (t3 := t3) (s7 := s7) (s8 := s8) ht ht2 h3 hf (by omega) (by omega)
      refine ⟨b, _, _, trivial, rfl, e, l', _, _, s7', s8', .inr rfl, .inr h2, fun c hc => ?_, rfl⟩
      rcases List.mem_append.mp hc with h | h
      · exact hf c h
      · rw [List.mem_singleton.mp h]; exact h1) ⟨l, _, none, none, none, .inl rfl, .inl rfl, (fun b hb => by simp at hb), rfl⟩ (by simp; omega)
  have hlen := hb.len
  refine ⟨l', bs, t3, k, s7, s8, hf, by simp at hlen; omega, h8, ?_⟩
  unfold forF
  rw [rng_nat (fa := nameF 2) (n := m) (g1 := wz_ s l m (some (.lst (ts.map iD))) none (some (.lst [])) (some (.lst [])) none none none) rfl (by omega)]
  exact e
theorem den_kinds {s : Option L} {l : List Int} {m : Nat} {t3 k s7 s8 : Option L} {bs : List (Graph × Graph)} (hf : ∀ b ∈ bs, FormOk b) (hl : bs.length ≤ 40) (h8 : s8 = none ∨ ∃ d, s8 = some (.dat d)) :
    setF 9 (lcF [8] (seqI (nameF 6)) (nameG 8) yesT e2_law) (wz_ s l m t3 k (some (pln bs)) (some (frs bs)) s7 s8 none) = .next (wz_ s l m t3 k (some (pln bs)) (some (.dat (frs bs).view)) s7 s8 (some (.lst ((bs.map fun b => b.1).map kO)))) := by
  have h4 : (4000 : Nat) + 2 ≤ cap := by decide
  obtain ⟨g', rfl, e⟩ := lcL_map (vs := [8]) (t := nameG 8) (fe := e2_law) (ea := fun (b : Graph × Graph) => tupG_ b.2) (eb := fun b => kO b.1) (P := fun g => g = wz_ s l m t3 k (some (pln bs)) (some (.dat (frs bs).view)) s7 none none) bs (wz_ s l m t3 k (some (pln bs)) (some (.dat (frs bs).view)) s7 none none) (by
    rintro b hb g rfl
    have h := hf b hb
    have e1 := den_init h.wf (by rw [h.same]; exact h.good.nr) (by rw [h.same]; exact h.good.le) (by have := h.le; omega) (d := tupG_ b.2) rfl
    rw [h.same] at e1
    refine ⟨wz_ s l m t3 k (some (pln bs)) (some (.dat (frs bs).view)) s7 (some (.dat (tupG_ b.2))) none, .ins "GraphKind" [("knots", tupG_ b.1)], wz_ s l m t3 k (some (pln bs)) (some (.dat (frs bs).view)) s7 (some (.dat (tupG_ b.2))) none, rfl, ?_, rfl, rfl⟩
    have c1 : consP (frzB (nameF 8)) nilP (wz_ s l m t3 k (some (pln bs)) (some (.dat (frs bs).view)) s7 (some (.dat (tupG_ b.2))) none) = .ok [.val (tupG_ b.2)] (wz_ s l m t3 k (some (pln bs)) (some (.dat (frs bs).view)) s7 (some (.dat (tupG_ b.2))) none) := rfl
    have c2 : valsL [.val (tupG_ b.2)] = some [.dat (tupG_ b.2)] := rfl
    simp only [e2_law, makeF, c1, Res.bd, c2, e1]) rfl (by omega)
  rw [List.map_map]
  rcases h8 with rfl | ⟨d, rfl⟩
  · exact set_ok (lc_ok (g1 := wz_ s l m t3 k (some (pln bs)) (some (.dat (frs bs).view)) s7 none none) (g3 := wz_ s l m t3 k (some (pln bs)) (some (.dat (frs bs).view)) s7 none none) rfl rfl e rfl) rfl
  · exact set_ok (lc_ok (g1 := wz_ s l m t3 k (some (pln bs)) (some (.dat (frs bs).view)) s7 (some (.dat d)) none) (g3 := wz_ s l m t3 k (some (pln bs)) (some (.dat (frs bs).view)) s7 (some (.dat d)) none) rfl rfl e rfl) rfl
end K15

set_option maxHeartbeats 4000000
namespace K15
open PySem L2 B Gr
abbrev wf_ (s : Option L) (l : List Int) (m : Nat) (t3 k p6 s7 s8 : Option L) (Ps : List Graph) : B.G := [s, some (dr l), some (.dat (iD m)), t3, k, some (.dat (.lst (Ps.map tupG_))), p6, s7, s8, some (.dat (.lst (Ps.map kO)))]
def cutGs (Ps : List Graph) : List Graph := (Ps.drop (HT.sIx Ps.length 0 none)).take (HT.sIx Ps.length Ps.length (some 1) - HT.sIx Ps.length 0 none)
theorem cut_map {Ps : List Graph} (f : Graph → D) : cutD (Ps.map f) none (some 1) = (cutGs Ps).map f := by
  unfold cutD cutGs
  rw [List.length_map, List.map_take, List.map_drop]
theorem law_true (ns : List Int) (h : ns.length ≤ 63) : ∃ outs, d_law [.dat (.lst (ns.map .int))] = some (.dat (.bl true), outs) := by
  have h4 : (4000 : Nat) + 2 ≤ cap := by decide
  obtain ⟨l0, e0⟩ := den_draws h
  let s : Option L := some (.dat (.lst (zsD ns)))
  have s1 : setF 1 (callF [none] d__law_draws (consP (frzB (nameF 0)) nilP)) [s, none, none, none, none, none, none, none, none, none] = .next [s, some (dr l0), none, none, none, none, none, none, none, none] :=
    set_ok (call_ok (ls := [.dat (.lst (zsD ns))]) rfl rfl e0 rfl) rfl
  obtain ⟨r, l1, hr, e1⟩ := draw1 (a := s) (l := l0) (rest := [none, none, none, none, none, none, none, none]) (fm := constF (.int 41)) (m := 41) (by decide) rfl
  have s2 : setF 2 (binF subD (frzB (constF (.int 40))) (frzB (callF [some 1, none] d__law_draw (consP (slotB 1) (consP (frzB (constF (.int 41))) nilP))))) [s, some (dr l0), none, none, none, none, none, none, none, none] = .next (wz_ s l1 (40 - r) none none none none none none none) := by
    have e5 : iD (40 - r) = .int ((40 : Int) - (r : Int)) := by
      have : ((40 - r : Nat) : Int) = 40 - (r : Int) := by omega
      rw [iD, this]
    have b1 : binF subD (frzB (constF (.int 40))) (frzB (callF [some 1, none] d__law_draw (consP (slotB 1) (consP (frzB (constF (.int 41))) nilP)))) [s, some (dr l0), none, none, none, none, none, none, none, none] = .ok (.dat (iD (40 - r))) [s, some (dr l1), none, none, none, none, none, none, none, none] := by
      rw [e5]
      exact bin_ok (p := .val (.int 40)) (x := .int 40) (y := iD r) rfl (frz_ok e1) rfl rfl rfl
    exact set_ok b1 rfl
  obtain ⟨l2, ts, ht, ht2, s3⟩ := den_turns (s := s) (l := l1) (m := 40 - r)
  have s4 : setF 5 (lstF nilA) (wz_ s l2 (40 - r) (some (.lst (ts.map iD))) none none none none none none) = .next (wz_ s l2 (40 - r) (some (.lst (ts.map iD))) none (some (.lst [])) none none none none) := rfl
  have s5 : setF 6 (lstF nilA) (wz_ s l2 (40 - r) (some (.lst (ts.map iD))) none (some (.lst [])) none none none none) = .next (wz_ s l2 (40 - r) (some (.lst (ts.map iD))) none (some (.lst [])) (some (.lst [])) none none none) := rfl
  obtain ⟨l3, bs, t3, k, s7, s8, hf, hbl, h8, s6⟩ := den_law_loop (s := s) (l := l2) (m := 40 - r) ht ht2 (by omega)
  have sk := den_kinds (s := s) (l := l3) (m := 40 - r) (t3 := t3) (k := k) (s7 := s7) hf hbl h8
  let Ps : List Graph := bs.map fun b => b.1
  have hP : ∀ A ∈ Ps, Good A := by
    intro A hA
    obtain ⟨b, h1, rfl⟩ := List.mem_map.mp hA
    exact (hf b h1).good
  have hPl : Ps.length ≤ 40 := by simpa [Ps] using hbl
  let g1 : B.G := wz_ s l3 (40 - r) t3 k (some (pls Ps)) (some (.dat (frs bs).view)) s7 s8 (some (.lst (Ps.map kO)))
  let g2 : B.G := wf_ s l3 (40 - r) t3 k (some (.dat (frs bs).view)) s7 s8 Ps
  have a0 := den_asked (Ps := []) (by simp) (by simp)
  have a1 := den_asked hP (by omega)
  have q0 : callF [none, none] d__law_asked (consP (frzB (lstF nilA)) (consP (frzB (lstF nilA)) nilP)) g1 = .ok (.dat (.bl true)) g1 := call_ok (ls := [.dat (.lst []), .dat (.lst [])]) rfl rfl a0 rfl
  have q1 : callF [none, none] d__law_asked (consP (frzB (nameF 9)) (consP (frzB (nameF 5)) nilP)) g1 = .ok (.dat (.bl true)) g2 := call_ok (ls := [.dat (.lst (Ps.map kO)), .dat (.lst (Ps.map tupG_))]) rfl rfl a1 rfl
  have q1' : callF [none, none] d__law_asked (consP (frzB (nameF 9)) (consP (frzB (nameF 5)) nilP)) g2 = .ok (.dat (.bl true)) g2 := call_ok (ls := [.dat (.lst (Ps.map kO)), .dat (.lst (Ps.map tupG_))]) rfl rfl a1 rfl
  have t1 := or_f (not_ok (test_ok q0)) (not_ok (test_ok q1))
  have a2 := den_asked (Ps := Ps.reverse) (fun A hA => hP A (List.mem_reverse.mp hA)) (by rw [List.length_reverse]; omega)
  rw [List.map_reverse, List.map_reverse] at a2
  have q2 : callF [none, none] d__law_asked (consP (frzB (unF revD (slotB 9))) (consP (frzB (unF revD (slotB 5))) nilP)) g2 = .ok (.dat (.bl true)) g2 := call_ok (ls := [.dat (.lst (Ps.map kO).reverse), .dat (.lst (Ps.map tupG_).reverse)]) rfl rfl a2 rfl
  have a3 := den_asked (Ps := Ps ++ Ps) (fun A hA => by rcases List.mem_append.mp hA with h | h <;> exact hP A h) (by rw [List.length_append]; omega)
  rw [List.map_append, List.map_append] at a3
  have d9 : binF addD (slotB 9) (slotB 9) g2 = .ok (.dat (.lst (Ps.map kO ++ Ps.map kO))) g2 := bin_ok (p := .slot 9) (q := .slot 9) (x := .lst (Ps.map kO)) (y := .lst (Ps.map kO)) rfl rfl rfl rfl (if_pos (by rw [List.length_map]; omega))
  have d5 : binF addD (slotB 5) (slotB 5) g2 = .ok (.dat (.lst (Ps.map tupG_ ++ Ps.map tupG_))) g2 := bin_ok (p := .slot 5) (q := .slot 5) (x := .lst (Ps.map tupG_)) (y := .lst (Ps.map tupG_)) rfl rfl rfl rfl (if_pos (by rw [List.length_map]; omega))
  have q3 : callF [none, none] d__law_asked (consP (frzB (binF addD (slotB 9) (slotB 9))) (consP (frzB (binF addD (slotB 5) (slotB 5))) nilP)) g2 = .ok (.dat (.bl true)) g2 := call_ok (ls := [.dat (.lst (Ps.map kO ++ Ps.map kO)), .dat (.lst (Ps.map tupG_ ++ Ps.map tupG_))]) (cons_ok (frz_ok d9) (cons_ok (frz_ok d5) rfl)) rfl a3 rfl
  have t2 := or_f (not_ok (test_ok q2)) (not_ok (test_ok q3))
  have a4 := den_asked (Ps := cutGs Ps) (fun A hA => hP A (List.mem_of_mem_drop (List.mem_of_mem_take hA))) (by
    unfold cutGs
    rw [List.length_take, List.length_drop]
    omega)
  rw [← cut_map, ← cut_map] at a4
  have q4 : callF [none, none] d__law_asked (consP (frzB (sliceF (slotB 9) noO (someO (constF (.int 1))))) (consP (frzB (sliceF (slotB 5) noO (someO (constF (.int 1))))) nilP)) g2 = .ok (.dat (.bl true)) g2 := call_ok (ls := [.dat (.lst (cutD (Ps.map kO) none (some 1))), .dat (.lst (cutD (Ps.map tupG_) none (some 1)))]) rfl rfl a4 rfl
  refine ⟨_, run_ret (g := [s, none, none, none, none, none, none, none, none, none]) rfl (g' := g2) ?_ rfl⟩
  unfold body_law
  rw [seq_n s1, seq_n s2, seq_n s3, seq_n s4, seq_n s5, seq_n s6, seq_n sk, seq_n (skip_f t1), seq_n (skip_f t2)]
  exact ret_ok (andE_ok (test_ok q4) q1')
end K15

set_option maxHeartbeats 0
namespace K15
open PySem PySem.Spec PyProof.Rows L2 B
abbrev FnP (K : PySem.W.Frag) (x qual : Str) (st : Stmt) (f : Addr) (fd : FuncData) : Prop := FunD K x qual (defArgs st) (defBody st) (defScope st) [] [] f fd
structure Txt (P : Program) (w : World) (K : PySem.W.Frag) (mg : Str → Option Value) : Prop where
  f__law_draws : ∃ fd, FnP K "_law_draws" "_law_draws" s__law_draws (He.fAd K ("_law_draws", none)) fd
  m__law_draws : mg "_law_draws" = some (.ref (He.ga K "_law_draws"))
  f__law_draw : ∃ fd, FnP K "_law_draw" "_law_draw" s__law_draw (He.fAd K ("_law_draw", none)) fd
  m__law_draw : mg "_law_draw" = some (.ref (He.ga K "_law_draw"))
  f__law_split : ∃ fd, FnP K "_law_split" "_law_split" s__law_split (He.fAd K ("_law_split", none)) fd
  m__law_split : mg "_law_split" = some (.ref (He.ga K "_law_split"))
  f__law_marked : ∃ fd, FnP K "_law_marked" "_law_marked" s__law_marked (He.fAd K ("_law_marked", none)) fd
  m__law_marked : mg "_law_marked" = some (.ref (He.ga K "_law_marked"))
  f__law_groups : ∃ fd, FnP K "_law_groups" "_law_groups" s__law_groups (He.fAd K ("_law_groups", none)) fd
  m__law_groups : mg "_law_groups" = some (.ref (He.ga K "_law_groups"))
  f__law_least : ∃ fd, FnP K "_law_least" "_law_least" s__law_least (He.fAd K ("_law_least", none)) fd
  m__law_least : mg "_law_least" = some (.ref (He.ga K "_law_least"))
  f__law_spine_of : ∃ fd, FnP K "_law_spine_of" "_law_spine_of" s__law_spine_of (He.fAd K ("_law_spine_of", none)) fd
  m__law_spine_of : mg "_law_spine_of" = some (.ref (He.ga K "_law_spine_of"))
  f__law_near_knot : ∃ fd, FnP K "_law_near_knot" "_law_near_knot" s__law_near_knot (He.fAd K ("_law_near_knot", none)) fd
  m__law_near_knot : mg "_law_near_knot" = some (.ref (He.ga K "_law_near_knot"))
  f__law_near : ∃ fd, FnP K "_law_near" "_law_near" s__law_near (He.fAd K ("_law_near", none)) fd
  m__law_near : mg "_law_near" = some (.ref (He.ga K "_law_near"))
  f__law_raw_graph : ∃ fd, FnP K "_law_raw_graph" "_law_raw_graph" s__law_raw_graph (He.fAd K ("_law_raw_graph", none)) fd
  m__law_raw_graph : mg "_law_raw_graph" = some (.ref (He.ga K "_law_raw_graph"))
  f__law_graph : ∃ fd, FnP K "_law_graph" "_law_graph" s__law_graph (He.fAd K ("_law_graph", none)) fd
  m__law_graph : mg "_law_graph" = some (.ref (He.ga K "_law_graph"))
  f__law_any_plain : ∃ fd, FnP K "_law_any_plain" "_law_any_plain" s__law_any_plain (He.fAd K ("_law_any_plain", none)) fd
  m__law_any_plain : mg "_law_any_plain" = some (.ref (He.ga K "_law_any_plain"))
  f_numbered : ∃ fd, FnP K "numbered" "numbered" s_numbered (He.fAd K ("numbered", none)) fd
  m_numbered : mg "numbered" = some (.ref (He.ga K "numbered"))
  f_mark_of : ∃ fd, FnP K "mark_of" "mark_of" s_mark_of (He.fAd K ("mark_of", none)) fd
  m_mark_of : mg "mark_of" = some (.ref (He.ga K "mark_of"))
  f_grouped : ∃ fd, FnP K "grouped" "grouped" s_grouped (He.fAd K ("grouped", none)) fd
  m_grouped : mg "grouped" = some (.ref (He.ga K "grouped"))
  f_first_members : ∃ fd, FnP K "first_members" "first_members" s_first_members (He.fAd K ("first_members", none)) fd
  m_first_members : mg "first_members" = some (.ref (He.ga K "first_members"))
  f_least : ∃ fd, FnP K "least" "least" s_least (He.fAd K ("least", none)) fd
  m_least : mg "least" = some (.ref (He.ga K "least"))
  f_heads_of : ∃ fd, FnP K "heads_of" "heads_of" s_heads_of (He.fAd K ("heads_of", none)) fd
  m_heads_of : mg "heads_of" = some (.ref (He.ga K "heads_of"))
  f_links_of : ∃ fd, FnP K "links_of" "links_of" s_links_of (He.fAd K ("links_of", none)) fd
  m_links_of : mg "links_of" = some (.ref (He.ga K "links_of"))
  f_seen_from : ∃ fd, FnP K "seen_from" "seen_from" s_seen_from (He.fAd K ("seen_from", none)) fd
  m_seen_from : mg "seen_from" = some (.ref (He.ga K "seen_from"))
  f_least_kind : ∃ fd, FnP K "least_kind" "least_kind" s_least_kind (He.fAd K ("least_kind", none)) fd
  m_least_kind : mg "least_kind" = some (.ref (He.ga K "least_kind"))
  f_has_bare_ring : ∃ fd, FnP K "has_bare_ring" "has_bare_ring" s_has_bare_ring (He.fAd K ("has_bare_ring", none)) fd
  m_has_bare_ring : mg "has_bare_ring" = some (.ref (He.ga K "has_bare_ring"))
  f_GraphKind_init : ∃ fd, FnP K "__init__" "GraphKind.__init__" s_GraphKind_init (He.fAd K ("GraphKind", some "__init__")) fd
  f__law_twice_product : ∃ fd, FnP K "_law_twice_product" "_law_twice_product" s__law_twice_product (He.fAd K ("_law_twice_product", none)) fd
  m__law_twice_product : mg "_law_twice_product" = some (.ref (He.ga K "_law_twice_product"))
  f__law_same : ∃ fd, FnP K "_law_same" "_law_same" s__law_same (He.fAd K ("_law_same", none)) fd
  m__law_same : mg "_law_same" = some (.ref (He.ga K "_law_same"))
  f_most_knots : ∃ fd, FnP K "most_knots" "most_knots" s_most_knots (He.fAd K ("most_knots", none)) fd
  m_most_knots : mg "most_knots" = some (.ref (He.ga K "most_knots"))
  f__law_asked : ∃ fd, FnP K "_law_asked" "_law_asked" s__law_asked (He.fAd K ("_law_asked", none)) fd
  m__law_asked : mg "_law_asked" = some (.ref (He.ga K "_law_asked"))
  f__law_blown : ∃ fd, FnP K "_law_blown" "_law_blown" s__law_blown (He.fAd K ("_law_blown", none)) fd
  m__law_blown : mg "_law_blown" = some (.ref (He.ga K "_law_blown"))
  f_law : ∃ fd, FnP K "law" "law" s_law (He.fAd K ("law", none)) fd
  m_law : mg "law" = some (.ref (He.ga K "law"))
  b_bool : mg "bool" = none
  b_dict : mg "dict" = none
  b_enumerate : mg "enumerate" = none
  b_int : mg "int" = none
  b_isinstance : mg "isinstance" = none
  b_len : mg "len" = none
  b_list : mg "list" = none
  b_range : mg "range" = none
  b_set : mg "set" = none
  b_str : mg "str" = none
  b_tuple : mg "tuple" = none
  m_GraphKind : mg "GraphKind" = some (.ref (He.ga K "GraphKind"))
  cl_GraphKind : Cls K (He.ga K "GraphKind")
  mk_GraphKind : Mk K (He.ga K "GraphKind") (He.fAd K ("GraphKind", some "__init__"))
  na_GraphKind_knots : NoAttr K (He.ga K "GraphKind") "knots"
  k_GraphKind_LIMIT : ∃ u, Con K (He.ga K "GraphKind") "LIMIT" (.int 12) u
  v_KIND_LINKS : ∃ u, mg "KIND_LINKS" = some u ∧ RelV (.ref (He.ga K "KIND_LINKS")) u
  c_KIND_LINKS : ∀ F, Dat P w K F (.ref (He.ga K "KIND_LINKS")) c_KIND_LINKS
theorem S__law_draws : FnScope ["script", "draws", "cell", "rest", "k"] ["script"] (defScope s__law_draws) := ⟨rfl, rfl, rfl, by decide +kernel, rfl, by decide +kernel, by decide +kernel⟩
theorem S__law_draw : FnScope ["draws", "many"] ["draws", "many"] (defScope s__law_draw) := ⟨rfl, rfl, rfl, by decide +kernel, rfl, by decide +kernel, by decide +kernel⟩
theorem S__law_split : FnScope ["knot", "link"] ["knot"] (defScope s__law_split) := ⟨rfl, rfl, rfl, by decide +kernel, rfl, by decide +kernel, by decide +kernel⟩
theorem S__law_marked : FnScope ["groups", "at", "knot", "link"] ["groups", "at", "knot"] (defScope s__law_marked) := ⟨rfl, rfl, rfl, by decide +kernel, rfl, by decide +kernel, by decide +kernel⟩
theorem S__law_groups : FnScope ["knots", "marks", "knot", "groups", "many", "k", "known", "mark", "at"] ["knots"] (defScope s__law_groups) := ⟨rfl, rfl, rfl, by decide +kernel, rfl, by decide +kernel, by decide +kernel⟩
theorem S__law_least : FnScope ["knots", "groups", "order", "places", "k", "link", "found", "at", "head", "links"] ["knots"] (defScope s__law_least) := ⟨rfl, rfl, rfl, by decide +kernel, rfl, by decide +kernel, by decide +kernel⟩
theorem S__law_spine_of : FnScope ["size", "at", "word", "knots", "k"] ["size", "at", "word"] (defScope s__law_spine_of) := ⟨rfl, rfl, rfl, by decide +kernel, rfl, by decide +kernel, by decide +kernel⟩
theorem S__law_near_knot : FnScope ["draws", "knot", "many", "copies", "tighter", "head", "links", "way", "sort", "link"] ["draws", "knot", "many", "copies", "tighter"] (defScope s__law_near_knot) := ⟨rfl, rfl, rfl, by decide +kernel, rfl, by decide +kernel, by decide +kernel⟩
theorem S__law_near : FnScope ["draws", "kind", "tighter", "copies", "knots", "copy", "knot", "near"] ["draws", "kind", "tighter"] (defScope s__law_near) := ⟨rfl, rfl, rfl, by decide +kernel, rfl, by decide +kernel, by decide +kernel⟩
theorem S__law_raw_graph : FnScope ["draws", "most", "sorts", "many", "knots", "k", "way", "above"] ["draws", "most", "sorts"] (defScope s__law_raw_graph) := ⟨rfl, rfl, rfl, by decide +kernel, rfl, by decide +kernel, by decide +kernel⟩
theorem S__law_graph : FnScope ["draws", "most"] ["draws", "most"] (defScope s__law_graph) := ⟨rfl, rfl, rfl, by decide +kernel, rfl, by decide +kernel, by decide +kernel⟩
theorem S__law_any_plain : FnScope ["draws", "plains", "k", "turns", "way", "size", "at"] ["draws", "plains", "k", "turns"] (defScope s__law_any_plain) := ⟨rfl, rfl, rfl, by decide +kernel, rfl, by decide +kernel, by decide +kernel⟩
theorem S_numbered : FnScope ["marks", "known", "numbers", "mark"] ["marks"] (defScope s_numbered) := ⟨rfl, rfl, rfl, by decide +kernel, rfl, by decide +kernel, by decide +kernel⟩
theorem S_mark_of : FnScope ["groups", "at", "parts", "part"] ["groups", "at", "parts"] (defScope s_mark_of) := ⟨rfl, rfl, rfl, by decide +kernel, rfl, by decide +kernel, by decide +kernel⟩
theorem S_grouped : FnScope ["heads", "links", "groups", "many", "at", "parts"] ["heads", "links"] (defScope s_grouped) := ⟨rfl, rfl, rfl, by decide +kernel, rfl, by decide +kernel, by decide +kernel⟩
theorem S_first_members : FnScope ["groups", "members", "at", "group"] ["groups"] (defScope s_first_members) := ⟨rfl, rfl, rfl, by decide +kernel, rfl, by decide +kernel, by decide +kernel⟩
theorem S_least : FnScope ["heads", "links", "root", "groups", "members", "order", "places", "at", "part", "knots", "group", "member", "parts"] ["heads", "links", "root"] (defScope s_least) := ⟨rfl, rfl, rfl, by decide +kernel, rfl, by decide +kernel, by decide +kernel⟩
theorem S_heads_of : FnScope ["knots", "counts", "knot"] ["knots", "counts"] (defScope s_heads_of) := ⟨rfl, rfl, rfl, by decide +kernel, rfl, by decide +kernel, by decide +kernel⟩
theorem S_links_of : FnScope ["knots", "counts", "knot"] ["knots", "counts"] (defScope s_links_of) := ⟨rfl, rfl, rfl, by decide +kernel, rfl, by decide +kernel, by decide +kernel⟩
theorem S_seen_from : FnScope ["knots", "counts", "root"] ["knots", "counts", "root"] (defScope s_seen_from) := ⟨rfl, rfl, rfl, by decide +kernel, rfl, by decide +kernel, by decide +kernel⟩
theorem S_least_kind : FnScope ["knots"] ["knots"] (defScope s_least_kind) := ⟨rfl, rfl, rfl, by decide +kernel, rfl, by decide +kernel, by decide +kernel⟩
theorem S_has_bare_ring : FnScope ["kind", "left", "at", "knot", "many"] ["kind"] (defScope s_has_bare_ring) := ⟨rfl, rfl, rfl, by decide +kernel, rfl, by decide +kernel, by decide +kernel⟩
theorem S_GraphKind_init : FnScope ["self", "knots", "graph"] ["self", "knots"] (defScope s_GraphKind_init) := ⟨rfl, rfl, rfl, by decide +kernel, rfl, by decide +kernel, by decide +kernel⟩
theorem S__law_twice_product : FnScope ["plains", "different", "most", "plain"] ["plains"] (defScope s__law_twice_product) := ⟨rfl, rfl, rfl, by decide +kernel, rfl, by decide +kernel, by decide +kernel⟩
theorem S__law_same : FnScope ["actual", "due", "k"] ["actual", "due"] (defScope s__law_same) := ⟨rfl, rfl, rfl, by decide +kernel, rfl, by decide +kernel, by decide +kernel⟩
theorem S_most_knots : FnScope ["kinds", "different", "kind", "most", "knots"] ["kinds"] (defScope s_most_knots) := ⟨rfl, rfl, rfl, by decide +kernel, rfl, by decide +kernel, by decide +kernel⟩
theorem S__law_asked : FnScope ["kinds", "plains", "due", "handed", "kind"] ["kinds", "plains"] (defScope s__law_asked) := ⟨rfl, rfl, rfl, by decide +kernel, rfl, by decide +kernel, by decide +kernel⟩
theorem S__law_blown : FnScope ["draws", "kind", "copies", "knots", "copy", "knot", "head", "links", "link"] ["draws", "kind"] (defScope s__law_blown) := ⟨rfl, rfl, rfl, by decide +kernel, rfl, by decide +kernel, by decide +kernel⟩
theorem S_law : FnScope ["script", "draws", "many", "turns", "k", "plains", "forms", "plain", "form", "kinds"] ["script"] (defScope s_law) := ⟨rfl, rfl, rfl, by decide +kernel, rfl, by decide +kernel, by decide +kernel⟩
section
variable {P : Program} {w : World} {K : PySem.W.Frag} {mg : Str → Option Value} {base : Heap}
def OkD (P : Program) (w : World) (K : PySem.W.Frag) (mg : Str → Option Value) (base : Heap) (f : Addr) (k : Nat) (ps : List Str) (d : Den) : Prop := ∃ fd, FnOk P w K mg base CX0 k f fd ps (spOf P w K ps.length d) ∧ Binds K fd ps [] ∧ PySem.W.keepIn K (.ref f) = true
theorem at__law_draws (T : Txt P w K mg) {fd : FuncData} (Fd : FnP K "_law_draws" "_law_draws" s__law_draws (He.fAd K ("_law_draws", none)) fd) : FnOk P w K mg base CX0 1 (He.fAd K ("_law_draws", none)) fd ["script"] (spOf P w K 1 d__law_draws) := by
  skip
  refine fn_den (k := 0) (bf := body__law_draws) Fd S__law_draws [false] [] rfl (by decide) (by decide) (fun cdv A outer s H E hr => ?_)
  exact ss_cons (ss_set 1 S__law_draws.nd (se_lst (sa_nil))) (ss_cons (ss_for PassesOwn.never rfl (si_seq (se_slice (sb_name 0) (so_none) (so_some (se_int)))) (sg_name 2 S__law_draws.nd) (ss_cons (ss_set 3 S__law_draws.nd (se_int1 rfl T.b_int (sp_cons (sb_name 2) (sp_nil)))) (ss_one (ss_if (st_ge (sb_name 3) (sb_exp (se_pow (sb_exp (se_int)) (sb_exp (se_int))))) (ss_one (ss_for PassesOwn.never rfl (si_range1 rfl T.b_range (se_int)) (sg_name 4 S__law_draws.nd) (ss_one (ss_if (st_gt (sb_name 3) (sb_exp (se_int))) (ss_cons (ss_expr (se_append 1 (se_mod (sb_exp (se_int1 rfl T.b_int (sp_cons (sb_name 3) (sp_nil)))) (sb_exp (se_int))))) (ss_one (ss_set 3 S__law_draws.nd (se_fdiv (sb_name 3) (sb_exp (se_int)))))) (ss_nil))))) (ss_cons (ss_set 3 S__law_draws.nd (se_mod (sb_exp (se_int1 rfl T.b_int (sp_cons (sb_exp (se_mul (sb_name 3) (sb_exp (se_int)))) (sp_nil)))) (sb_exp (se_int)))) (ss_one (ss_for PassesOwn.never rfl (si_range1 rfl T.b_range (se_int)) (sg_name 4 S__law_draws.nd) (ss_cons (ss_set 3 S__law_draws.nd (se_mod (sb_exp (se_int1 rfl T.b_int (sp_cons (sb_exp (se_mul (sb_name 3) (sb_exp (se_int)))) (sp_nil)))) (sb_exp (se_int)))) (ss_one (ss_expr (se_append 1 (se_mod (sb_exp (se_int1 rfl T.b_int (sp_cons (sb_exp (se_fdiv (sb_name 3) (sb_exp (se_int)))) (sp_nil)))) (sb_exp (se_int)))))))))))))) (ss_cons (ss_expr (se_reverse 1)) (ss_one (ss_ret (se_move 1)))))
theorem ok__law_draws (T : Txt P w K mg) : OkD P w K mg base (He.fAd K ("_law_draws", none)) 1 ["script"] d__law_draws := by
  obtain ⟨fd, Fd⟩ := T.f__law_draws
  exact ⟨fd, at__law_draws T Fd, Fd.bindsN fun _ _ _ _ _ _ us hl => match us, hl with | [_], _ => rfl, Fd.kp⟩
theorem at__law_draw (T : Txt P w K mg) {fd : FuncData} (Fd : FnP K "_law_draw" "_law_draw" s__law_draw (He.fAd K ("_law_draw", none)) fd) : FnOk P w K mg base CX0 1 (He.fAd K ("_law_draw", none)) fd ["draws", "many"] (spOf P w K 2 d__law_draw) := by
  skip
  refine fn_den (k := 0) (bf := body__law_draw) Fd S__law_draw [true, false] [0] rfl (by decide) (by decide) (fun cdv A outer s H E hr => ?_)
  exact ss_cons (ss_if (st_eq hr (sb_exp (se_len rfl T.b_len (sp_cons (sb_name 0) (sp_nil)))) (sb_exp (se_int))) (ss_one (ss_ret (se_int))) (ss_nil)) (ss_one (ss_ret (se_mod (sb_exp (se_int1 rfl T.b_int (sp_cons (sb_exp (se_pop 0)) (sp_nil)))) (sb_name 1))))
theorem ok__law_draw (T : Txt P w K mg) : OkD P w K mg base (He.fAd K ("_law_draw", none)) 1 ["draws", "many"] d__law_draw := by
  obtain ⟨fd, Fd⟩ := T.f__law_draw
  exact ⟨fd, at__law_draw T Fd, Fd.bindsN fun _ _ _ _ _ _ us hl => match us, hl with | [_, _], _ => rfl, Fd.kp⟩
theorem at__law_split (T : Txt P w K mg) {fd : FuncData} (Fd : FnP K "_law_split" "_law_split" s__law_split (He.fAd K ("_law_split", none)) fd) : FnOk P w K mg base CX0 1 (He.fAd K ("_law_split", none)) fd ["knot"] (spOf P w K 1 d__law_split) := by
  skip
  refine fn_den (k := 0) (bf := body__law_split) Fd S__law_split [false] [] rfl (by decide) (by decide) (fun cdv A outer s H E hr => ?_)
  exact ss_cons (ss_if (st_notin hr (sb_exp (se_at hr (sb_name 0) (sb_exp (se_int)))) (sb_exp (se_tup (sa_cons (se_str) (sa_cons (se_str) (sa_cons (se_str) (sa_nil))))))) (ss_one (ss_ret (se_tup (sa_cons (se_name 0) (sa_cons (se_lst (sa_nil)) (sa_nil)))))) (ss_nil)) (ss_cons (ss_if (st_eq hr (sb_exp (se_len rfl T.b_len (sp_cons (sb_name 0) (sp_nil)))) (sb_exp (se_int))) (ss_one (ss_ret (se_tup (sa_cons (se_slice (sb_name 0) (so_none) (so_some (se_int))) (sa_cons (se_lst (sa_cons (se_at hr (sb_name 0) (sb_exp (se_int))) (sa_cons (se_at hr (sb_name 0) (sb_exp (se_int))) (sa_nil)))) (sa_nil)))))) (ss_nil)) (ss_one (ss_ret (se_tup (sa_cons (se_slice (sb_name 0) (so_none) (so_some (se_int))) (sa_cons (se_lc (vs := [1]) rfl S__law_split.nd (si_seq (se_slice (sb_name 0) (so_some (se_int)) (so_none))) (blkOk_by (own := [("link", 1)]) (by show blkC ["knot", "link"] (defScope s__law_split) _ _ = true; decide +kernel)) rfl (fun _ _ _ _ _ => sg_name 1 S__law_split.nd) (fun _ _ _ _ _ => sts_nil) (fun _ _ _ _ _ => se_name 1)) (sa_nil)))))))
theorem ok__law_split (T : Txt P w K mg) : OkD P w K mg base (He.fAd K ("_law_split", none)) 1 ["knot"] d__law_split := by
  obtain ⟨fd, Fd⟩ := T.f__law_split
  exact ⟨fd, at__law_split T Fd, Fd.bindsN fun _ _ _ _ _ _ us hl => match us, hl with | [_], _ => rfl, Fd.kp⟩
theorem at__law_marked (T : Txt P w K mg) {fd : FuncData} (Fd : FnP K "_law_marked" "_law_marked" s__law_marked (He.fAd K ("_law_marked", none)) fd) : FnOk P w K mg base CX0 2 (He.fAd K ("_law_marked", none)) fd ["groups", "at", "knot"] (spOf P w K 3 d__law_marked) := by
  obtain ⟨fd__law_split, G__law_split, b__law_split, kp__law_split⟩ := ok__law_split (base := base) T
  have m__law_split : mg "_law_split" = some (.ref (He.fAd K ("_law_split", none))) := T.m__law_split
  refine fn_den (k := 1) (bf := body__law_marked) Fd S__law_marked [true, false, false] [0] rfl (by decide) (by decide) (fun cdv A outer s H E hr => ?_)
  exact ss_one (ss_ret (se_tup (sa_cons (se_at hr (sb_name 0) (sb_name 1)) (sa_cons (se_tuple1 rfl T.b_tuple (sp_cons (sb_exp (se_lc (vs := [3]) rfl S__law_marked.nd (si_seq (se_at hr (sb_exp (se_call [none] G__law_split (hr.mono (by omega)) m__law_split kp__law_split b__law_split (sp_cons (sb_exp (se_name 2)) (sp_nil)))) (sb_exp (se_int)))) (blkOk_by (own := [("link", 3)]) (by show blkC ["groups", "at", "knot", "link"] (defScope s__law_marked) _ _ = true; decide +kernel)) rfl (fun _ _ _ _ _ => sg_name 3 S__law_marked.nd) (fun _ _ _ _ _ => sts_nil) (fun _ _ _ _ _ => se_if (st_isnot (sb_name 3) (sb_exp (se_non))) (se_at hr (sb_name 0) (sb_name 3)) (se_neg (se_int))))) (sp_nil))) (sa_nil)))))
theorem ok__law_marked (T : Txt P w K mg) : OkD P w K mg base (He.fAd K ("_law_marked", none)) 2 ["groups", "at", "knot"] d__law_marked := by
  obtain ⟨fd, Fd⟩ := T.f__law_marked
  exact ⟨fd, at__law_marked T Fd, Fd.bindsN fun _ _ _ _ _ _ us hl => match us, hl with | [_, _, _], _ => rfl, Fd.kp⟩
theorem at__law_groups (T : Txt P w K mg) {fd : FuncData} (Fd : FnP K "_law_groups" "_law_groups" s__law_groups (He.fAd K ("_law_groups", none)) fd) : FnOk P w K mg base CX0 3 (He.fAd K ("_law_groups", none)) fd ["knots"] (spOf P w K 1 d__law_groups) := by
  obtain ⟨fd__law_split, G__law_split, b__law_split, kp__law_split⟩ := ok__law_split (base := base) T
  have m__law_split : mg "_law_split" = some (.ref (He.fAd K ("_law_split", none))) := T.m__law_split
  obtain ⟨fd__law_marked, G__law_marked, b__law_marked, kp__law_marked⟩ := ok__law_marked (base := base) T
  have m__law_marked : mg "_law_marked" = some (.ref (He.fAd K ("_law_marked", none))) := T.m__law_marked
  refine fn_den (k := 2) (bf := body__law_groups) Fd S__law_groups [false] [] rfl (by decide) (by decide) (fun cdv A outer s H E hr => ?_)
  exact ss_cons (ss_setLc (vs := [2]) (i := 1) rfl S__law_groups.nd (si_seq (se_name 0)) (blkOk_by (own := [("knot", 2)]) (by show blkC ["knots", "marks", "knot", "groups", "many", "k", "known", "mark", "at"] (defScope s__law_groups) _ _ = true; decide +kernel)) rfl (fun _ _ _ _ _ => sg_name 2 S__law_groups.nd) (fun _ _ _ _ _ => sts_nil) (fun _ _ _ _ _ => se_at hr (sb_exp (se_call [none] G__law_split (hr.mono (by omega)) m__law_split kp__law_split b__law_split (sp_cons (sb_exp (se_name 2)) (sp_nil)))) (sb_exp (se_int)))) (ss_cons (ss_set 3 S__law_groups.nd (se_lst (sa_nil))) (ss_cons (ss_set 4 S__law_groups.nd (se_int)) (ss_cons (ss_for PassesOwn.never rfl (si_range1 rfl T.b_range (se_add (sb_exp (se_len rfl T.b_len (sp_cons (sb_name 0) (sp_nil)))) (sb_exp (se_int)))) (sg_name 5 S__law_groups.nd) (ss_cons (ss_set 6 S__law_groups.nd (se_newN)) (ss_cons (ss_set 3 S__law_groups.nd (se_lst (sa_nil))) (ss_cons (ss_for PassesOwn.never rfl (si_seq (se_name 1)) (sg_name 7 S__law_groups.nd) (ss_cons (ss_store hr 6 (se_get hr (sb_name 6) (sb_name 7) (se_len rfl T.b_len (sp_cons (sb_name 6) (sp_nil)))) (sb_name 7)) (ss_one (ss_expr (se_append 3 (se_at hr (sb_name 6) (sb_name 7))))))) (ss_cons (ss_if (st_eq hr (sb_exp (se_len rfl T.b_len (sp_cons (sb_name 6) (sp_nil)))) (sb_name 4)) (ss_one (ss_ret (se_move 3))) (ss_nil)) (ss_cons (ss_set 4 S__law_groups.nd (se_len rfl T.b_len (sp_cons (sb_name 6) (sp_nil)))) (ss_one (ss_setLc (vs := [8]) (i := 1) rfl S__law_groups.nd (si_range1 rfl T.b_range (se_len rfl T.b_len (sp_cons (sb_name 0) (sp_nil)))) (blkOk_by (own := [("at", 8)]) (by show blkC ["knots", "marks", "knot", "groups", "many", "k", "known", "mark", "at"] (defScope s__law_groups) _ _ = true; decide +kernel)) rfl (fun _ _ _ _ _ => sg_name 8 S__law_groups.nd) (fun _ _ _ _ _ => sts_nil) (fun _ _ _ _ _ => se_call [some 3, none, none] G__law_marked (hr.mono (by omega)) m__law_marked kp__law_marked b__law_marked (sp_cons (sb_name 3) (sp_cons (sb_exp (se_name 8)) (sp_cons (sb_exp (se_at hr (sb_name 0) (sb_name 8))) (sp_nil))))))))))))) (ss_one (ss_ret (se_move 3))))))
theorem ok__law_groups (T : Txt P w K mg) : OkD P w K mg base (He.fAd K ("_law_groups", none)) 3 ["knots"] d__law_groups := by
  obtain ⟨fd, Fd⟩ := T.f__law_groups
  exact ⟨fd, at__law_groups T Fd, Fd.bindsN fun _ _ _ _ _ _ us hl => match us, hl with | [_], _ => rfl, Fd.kp⟩
theorem at__law_least (T : Txt P w K mg) {fd : FuncData} (Fd : FnP K "_law_least" "_law_least" s__law_least (He.fAd K ("_law_least", none)) fd) : FnOk P w K mg base CX0 4 (He.fAd K ("_law_least", none)) fd ["knots"] (spOf P w K 1 d__law_least) := by
  obtain ⟨fd__law_groups, G__law_groups, b__law_groups, kp__law_groups⟩ := ok__law_groups (base := base) T
  have m__law_groups : mg "_law_groups" = some (.ref (He.fAd K ("_law_groups", none))) := T.m__law_groups
  obtain ⟨fd__law_split, G__law_split, b__law_split, kp__law_split⟩ := ok__law_split (base := base) T
  have m__law_split : mg "_law_split" = some (.ref (He.fAd K ("_law_split", none))) := T.m__law_split
  refine fn_den (k := 3) (bf := body__law_least) Fd S__law_least [false] [] rfl (by decide) (by decide) (fun cdv A outer s H E hr => ?_)
  exact ss_cons (ss_set 1 S__law_least.nd (se_call [none] G__law_groups (hr.mono (by omega)) m__law_groups kp__law_groups b__law_groups (sp_cons (sb_exp (se_name 0)) (sp_nil)))) (ss_cons (ss_set 2 S__law_least.nd (se_lst (sa_cons (se_int) (sa_nil)))) (ss_cons (ss_set 3 S__law_least.nd (se_disp1 (se_at hr (sb_name 1) (sb_exp (se_int))) (se_int))) (ss_cons (ss_for PassesOwn.never rfl (si_range1 rfl T.b_range (se_len rfl T.b_len (sp_cons (sb_name 0) (sp_nil)))) (sg_name 4 S__law_least.nd) (ss_one (ss_if (st_lt (sb_name 4) (sb_exp (se_len rfl T.b_len (sp_cons (sb_name 2) (sp_nil))))) (ss_one (ss_for PassesOwn.never rfl (si_seq (se_at hr (sb_exp (se_call [none] G__law_split (hr.mono (by omega)) m__law_split kp__law_split b__law_split (sp_cons (sb_exp (se_at hr (sb_name 0) (sb_exp (se_at hr (sb_name 2) (sb_name 4))))) (sp_nil)))) (sb_exp (se_int)))) (sg_name 5 S__law_least.nd) (ss_one (ss_if (SW.st (sw_and (st_isnot (sb_name 5) (sb_exp (se_non))) (sw_and1 (st_notin hr (sb_exp (se_at hr (sb_name 1) (sb_name 5))) (sb_name 3))))) (ss_cons (ss_store hr 3 (se_len rfl T.b_len (sp_cons (sb_name 2) (sp_nil))) (sb_exp (se_at hr (sb_name 1) (sb_name 5)))) (ss_one (ss_expr (se_append 2 (se_name 5))))) (ss_nil))))) (ss_nil)))) (ss_cons (ss_set 6 S__law_least.nd (se_lst (sa_nil))) (ss_cons (ss_for PassesOwn.never rfl (si_seq (se_name 2)) (sg_name 7 S__law_least.nd) (ss_cons (ss_asg (se_call [none] G__law_split (hr.mono (by omega)) m__law_split kp__law_split b__law_split (sp_cons (sb_exp (se_at hr (sb_name 0) (sb_name 7))) (sp_nil))) (sg_tup rfl (sgs_cons (sg_name 8 S__law_least.nd) (sgs_cons (sg_name 9 S__law_least.nd) (sgs_nil))) rfl rfl (consG_len (consG_len (fun _ _ _ h => nilG_len h))))) (ss_one (ss_expr (se_append 6 (se_add (sb_name 8) (sb_exp (se_tuple1 rfl T.b_tuple (sp_cons (sb_exp (se_lc (vs := [5]) rfl S__law_least.nd (si_seq (se_name 9)) (blkOk_by (own := [("link", 5)]) (by show blkC ["knots", "groups", "order", "places", "k", "link", "found", "at", "head", "links"] (defScope s__law_least) _ _ = true; decide +kernel)) rfl (fun _ _ _ _ _ => sg_name 5 S__law_least.nd) (fun _ _ _ _ _ => sts_nil) (fun _ _ _ _ _ => se_if (st_isnot (sb_name 5) (sb_exp (se_non))) (se_at hr (sb_name 3) (sb_exp (se_at hr (sb_name 1) (sb_name 5)))) (se_non)))) (sp_nil)))))))))) (ss_one (ss_ret (se_tuple1 rfl T.b_tuple (sp_cons (sb_name 6) (sp_nil))))))))))
theorem ok__law_least (T : Txt P w K mg) : OkD P w K mg base (He.fAd K ("_law_least", none)) 4 ["knots"] d__law_least := by
  obtain ⟨fd, Fd⟩ := T.f__law_least
  exact ⟨fd, at__law_least T Fd, Fd.bindsN fun _ _ _ _ _ _ us hl => match us, hl with | [_], _ => rfl, Fd.kp⟩
theorem at__law_spine_of (T : Txt P w K mg) {fd : FuncData} (Fd : FnP K "_law_spine_of" "_law_spine_of" s__law_spine_of (He.fAd K ("_law_spine_of", none)) fd) : FnOk P w K mg base CX0 5 (He.fAd K ("_law_spine_of", none)) fd ["size", "at", "word"] (spOf P w K 3 d__law_spine_of) := by
  obtain ⟨fd__law_least, G__law_least, b__law_least, kp__law_least⟩ := ok__law_least (base := base) T
  have m__law_least : mg "_law_least" = some (.ref (He.fAd K ("_law_least", none))) := T.m__law_least
  refine fn_den (k := 4) (bf := body__law_spine_of) Fd S__law_spine_of [false, false, false] [] rfl (by decide) (by decide) (fun cdv A outer s H E hr => ?_)
  exact ss_cons (ss_setLc (vs := [4]) (i := 3) rfl S__law_spine_of.nd (si_range1 rfl T.b_range (se_name 0)) (blkOk_by (own := [("k", 4)]) (by show blkC ["size", "at", "word", "knots", "k"] (defScope s__law_spine_of) _ _ = true; decide +kernel)) rfl (fun _ _ _ _ _ => sg_name 4 S__law_spine_of.nd) (fun _ _ _ _ _ => sts_nil) (fun _ _ _ _ _ => se_tup (sa_cons (se_str) (sa_cons (se_add (sb_name 0) (sb_exp (se_int1 rfl T.b_int (sp_cons (sb_exp (se_eq hr (sb_name 4) (sb_name 1))) (sp_nil))))) (sa_cons (se_mod (sb_exp (se_int1 rfl T.b_int (sp_cons (sb_exp (se_add (sb_name 4) (sb_exp (se_int)))) (sp_nil)))) (sb_name 0)) (sa_nil)))))) (ss_one (ss_ret (se_call [none] G__law_least (hr.mono (by omega)) m__law_least kp__law_least b__law_least (sp_cons (sb_exp (se_add (sb_name 3) (sb_exp (se_lst (sa_cons (se_tup (sa_cons (se_str) (sa_nil))) (sa_cons (se_tup (sa_cons (se_name 2) (sa_nil))) (sa_nil))))))) (sp_nil)))))
theorem ok__law_spine_of (T : Txt P w K mg) : OkD P w K mg base (He.fAd K ("_law_spine_of", none)) 5 ["size", "at", "word"] d__law_spine_of := by
  obtain ⟨fd, Fd⟩ := T.f__law_spine_of
  exact ⟨fd, at__law_spine_of T Fd, Fd.bindsN fun _ _ _ _ _ _ us hl => match us, hl with | [_, _, _], _ => rfl, Fd.kp⟩
theorem at__law_near_knot (T : Txt P w K mg) {fd : FuncData} (Fd : FnP K "_law_near_knot" "_law_near_knot" s__law_near_knot (He.fAd K ("_law_near_knot", none)) fd) : FnOk P w K mg base CX0 2 (He.fAd K ("_law_near_knot", none)) fd ["draws", "knot", "many", "copies", "tighter"] (spOf P w K 5 d__law_near_knot) := by
  obtain ⟨fd__law_split, G__law_split, b__law_split, kp__law_split⟩ := ok__law_split (base := base) T
  have m__law_split : mg "_law_split" = some (.ref (He.fAd K ("_law_split", none))) := T.m__law_split
  obtain ⟨fd__law_draw, G__law_draw, b__law_draw, kp__law_draw⟩ := ok__law_draw (base := base) T
  have m__law_draw : mg "_law_draw" = some (.ref (He.fAd K ("_law_draw", none))) := T.m__law_draw
  refine fn_den (k := 1) (bf := body__law_near_knot) Fd S__law_near_knot [true, false, false, false, false] [0] rfl (by decide) (by decide) (fun cdv A outer s H E hr => ?_)
  exact ss_cons (ss_asg (se_call [none] G__law_split (hr.mono (by omega)) m__law_split kp__law_split b__law_split (sp_cons (sb_exp (se_name 1)) (sp_nil))) (sg_tup rfl (sgs_cons (sg_name 5 S__law_near_knot.nd) (sgs_cons (sg_name 6 S__law_near_knot.nd) (sgs_nil))) rfl rfl (consG_len (consG_len (fun _ _ _ h => nilG_len h))))) (ss_cons (ss_set 7 S__law_near_knot.nd (se_call [some 0, none] G__law_draw (hr.mono (by omega)) m__law_draw kp__law_draw b__law_draw (sp_cons (sb_name 0) (sp_cons (sb_exp (se_int)) (sp_nil))))) (ss_cons (ss_if (st_eq hr (sb_name 7) (sb_exp (se_int))) (ss_one (ss_ret (se_tup (sa_cons (se_str) (sa_nil))))) (ss_nil)) (ss_cons (ss_if (SW.st (sw_and (st_eq hr (sb_name 7) (sb_exp (se_int))) (sw_and (st_val (se_name 4)) (sw_and1 (st_eq hr (sb_exp (se_at hr (sb_name 5) (sb_exp (se_int)))) (sb_exp (se_str))))))) (ss_cons (ss_set 8 S__law_near_knot.nd (se_call [some 0, none] G__law_draw (hr.mono (by omega)) m__law_draw kp__law_draw b__law_draw (sp_cons (sb_name 0) (sp_cons (sb_exp (se_int)) (sp_nil))))) (ss_cons (ss_if (st_eq hr (sb_name 8) (sb_exp (se_int))) (ss_one (ss_ret (se_tup (sa_cons (se_str) (sa_cons (se_call [some 0, none] G__law_draw (hr.mono (by omega)) m__law_draw kp__law_draw b__law_draw (sp_cons (sb_name 0) (sp_cons (sb_exp (se_mul (sb_name 2) (sb_name 3))) (sp_nil)))) (sa_cons (se_call [some 0, none] G__law_draw (hr.mono (by omega)) m__law_draw kp__law_draw b__law_draw (sp_cons (sb_name 0) (sp_cons (sb_exp (se_mul (sb_name 2) (sb_name 3))) (sp_nil)))) (sa_nil))))))) (ss_nil)) (ss_cons (ss_if (st_eq hr (sb_name 8) (sb_exp (se_int))) (ss_one (ss_ret (se_tup (sa_cons (se_str) (sa_cons (se_call [some 0, none] G__law_draw (hr.mono (by omega)) m__law_draw kp__law_draw b__law_draw (sp_cons (sb_name 0) (sp_cons (sb_exp (se_mul (sb_name 2) (sb_name 3))) (sp_nil)))) (sa_nil)))))) (ss_nil)) (ss_one (ss_ret (se_tup (sa_cons (se_at hr (sb_exp (se_lst (sa_cons (se_str) (sa_cons (se_str) (sa_cons (se_str) (sa_cons (se_str) (sa_nil))))))) (sb_name 8)) (sa_nil)))))))) (ss_nil)) (ss_one (ss_ret (se_add (sb_name 5) (sb_exp (se_tuple1 rfl T.b_tuple (sp_cons (sb_exp (se_lc (vs := [9]) rfl S__law_near_knot.nd (si_seq (se_name 6)) (blkOk_by (own := [("link", 9)]) (by show blkC ["draws", "knot", "many", "copies", "tighter", "head", "links", "way", "sort", "link"] (defScope s__law_near_knot) _ _ = true; decide +kernel)) rfl (fun _ _ _ _ _ => sg_name 9 S__law_near_knot.nd) (fun _ _ _ _ _ => sts_nil) (fun _ _ _ _ _ => se_add (sb_name 9) (sb_exp (se_mul (sb_name 2) (sb_exp (se_call [some 0, none] G__law_draw (hr.mono (by omega)) m__law_draw kp__law_draw b__law_draw (sp_cons (sb_name 0) (sp_cons (sb_exp (se_name 3)) (sp_nil)))))))))) (sp_nil))))))))))
theorem ok__law_near_knot (T : Txt P w K mg) : OkD P w K mg base (He.fAd K ("_law_near_knot", none)) 2 ["draws", "knot", "many", "copies", "tighter"] d__law_near_knot := by
  obtain ⟨fd, Fd⟩ := T.f__law_near_knot
  exact ⟨fd, at__law_near_knot T Fd, Fd.bindsN fun _ _ _ _ _ _ us hl => match us, hl with | [_, _, _, _, _], _ => rfl, Fd.kp⟩
theorem at__law_near (T : Txt P w K mg) {fd : FuncData} (Fd : FnP K "_law_near" "_law_near" s__law_near (He.fAd K ("_law_near", none)) fd) : FnOk P w K mg base CX0 5 (He.fAd K ("_law_near", none)) fd ["draws", "kind", "tighter"] (spOf P w K 3 d__law_near) := by
  obtain ⟨fd__law_draw, G__law_draw, b__law_draw, kp__law_draw⟩ := ok__law_draw (base := base) T
  have m__law_draw : mg "_law_draw" = some (.ref (He.fAd K ("_law_draw", none))) := T.m__law_draw
  obtain ⟨fd__law_near_knot, G__law_near_knot, b__law_near_knot, kp__law_near_knot⟩ := ok__law_near_knot (base := base) T
  have m__law_near_knot : mg "_law_near_knot" = some (.ref (He.fAd K ("_law_near_knot", none))) := T.m__law_near_knot
  obtain ⟨fd__law_least, G__law_least, b__law_least, kp__law_least⟩ := ok__law_least (base := base) T
  have m__law_least : mg "_law_least" = some (.ref (He.fAd K ("_law_least", none))) := T.m__law_least
  refine fn_den (k := 4) (bf := body__law_near) Fd S__law_near [true, false, false] [0] rfl (by decide) (by decide) (fun cdv A outer s H E hr => ?_)
  exact ss_cons (ss_set 3 S__law_near.nd (se_add (sb_exp (se_int)) (sb_exp (se_call [some 0, none] G__law_draw (hr.mono (by omega)) m__law_draw kp__law_draw b__law_draw (sp_cons (sb_name 0) (sp_cons (sb_exp (se_int)) (sp_nil))))))) (ss_cons (ss_set 4 S__law_near.nd (se_lst (sa_nil))) (ss_cons (ss_for PassesOwn.never rfl (si_range1 rfl T.b_range (se_name 3)) (sg_name 5 S__law_near.nd) (ss_one (ss_for PassesOwn.never rfl (si_seq (se_name 1)) (sg_name 6 S__law_near.nd) (ss_one (ss_expr (se_append 4 (se_call [some 0, none, none, none, none] G__law_near_knot (hr.mono (by omega)) m__law_near_knot kp__law_near_knot b__law_near_knot (sp_cons (sb_name 0) (sp_cons (sb_exp (se_name 6)) (sp_cons (sb_exp (se_len rfl T.b_len (sp_cons (sb_name 1) (sp_nil)))) (sp_cons (sb_exp (se_name 3)) (sp_cons (sb_exp (se_name 2)) (sp_nil))))))))))))) (ss_cons (ss_set 7 S__law_near.nd (se_call [none] G__law_least (hr.mono (by omega)) m__law_least kp__law_least b__law_least (sp_cons (sb_exp (se_name 4)) (sp_nil)))) (ss_cons (ss_if (st_gt (sb_exp (se_len rfl T.b_len (sp_cons (sb_name 7) (sp_nil)))) (sb_exp (se_int))) (ss_one (ss_ret (se_move 1))) (ss_nil)) (ss_one (ss_ret (se_move 7)))))))
theorem ok__law_near (T : Txt P w K mg) : OkD P w K mg base (He.fAd K ("_law_near", none)) 5 ["draws", "kind", "tighter"] d__law_near := by
  obtain ⟨fd, Fd⟩ := T.f__law_near
  exact ⟨fd, at__law_near T Fd, Fd.bindsN fun _ _ _ _ _ _ us hl => match us, hl with | [_, _, _], _ => rfl, Fd.kp⟩
theorem at__law_raw_graph (T : Txt P w K mg) {fd : FuncData} (Fd : FnP K "_law_raw_graph" "_law_raw_graph" s__law_raw_graph (He.fAd K ("_law_raw_graph", none)) fd) : FnOk P w K mg base CX0 2 (He.fAd K ("_law_raw_graph", none)) fd ["draws", "most", "sorts"] (spOf P w K 3 d__law_raw_graph) := by
  obtain ⟨fd__law_draw, G__law_draw, b__law_draw, kp__law_draw⟩ := ok__law_draw (base := base) T
  have m__law_draw : mg "_law_draw" = some (.ref (He.fAd K ("_law_draw", none))) := T.m__law_draw
  refine fn_den (k := 1) (bf := body__law_raw_graph) Fd S__law_raw_graph [true, false, false] [0] rfl (by decide) (by decide) (fun cdv A outer s H E hr => ?_)
  exact ss_cons (ss_set 3 S__law_raw_graph.nd (se_add (sb_exp (se_int)) (sb_exp (se_call [some 0, none] G__law_draw (hr.mono (by omega)) m__law_draw kp__law_draw b__law_draw (sp_cons (sb_name 0) (sp_cons (sb_exp (se_name 1)) (sp_nil))))))) (ss_cons (ss_set 4 S__law_raw_graph.nd (se_lst (sa_nil))) (ss_cons (ss_for PassesOwn.never rfl (si_range1 rfl T.b_range (se_name 3)) (sg_name 5 S__law_raw_graph.nd) (ss_cons (ss_set 6 S__law_raw_graph.nd (se_call [some 0, none] G__law_draw (hr.mono (by omega)) m__law_draw kp__law_draw b__law_draw (sp_cons (sb_name 0) (sp_cons (sb_exp (se_name 2)) (sp_nil))))) (ss_one (ss_if (st_in hr (sb_name 6) (sb_exp (se_tup (sa_cons (se_int) (sa_cons (se_int) (sa_nil)))))) (ss_one (ss_expr (se_append 4 (se_tup (sa_cons (se_str) (sa_cons (se_call [some 0, none] G__law_draw (hr.mono (by omega)) m__law_draw kp__law_draw b__law_draw (sp_cons (sb_name 0) (sp_cons (sb_exp (se_name 3)) (sp_nil)))) (sa_cons (se_call [some 0, none] G__law_draw (hr.mono (by omega)) m__law_draw kp__law_draw b__law_draw (sp_cons (sb_name 0) (sp_cons (sb_exp (se_name 3)) (sp_nil)))) (sa_nil)))))))) (ss_one (ss_if (SW.st (sw_and (st_in hr (sb_name 6) (sb_exp (se_tup (sa_cons (se_int) (sa_cons (se_int) (sa_nil)))))) (sw_and1 (st_lt (sb_exp (se_add (sb_name 5) (sb_exp (se_int)))) (sb_name 3))))) (ss_cons (ss_set 7 S__law_raw_graph.nd (se_sub (sb_exp (se_sub (sb_name 3) (sb_name 5))) (sb_exp (se_int)))) (ss_one (ss_expr (se_append 4 (se_tup (sa_cons (se_str) (sa_cons (se_add (sb_exp (se_add (sb_name 5) (sb_exp (se_int)))) (sb_exp (se_call [some 0, none] G__law_draw (hr.mono (by omega)) m__law_draw kp__law_draw b__law_draw (sp_cons (sb_name 0) (sp_cons (sb_exp (se_name 7)) (sp_nil)))))) (sa_cons (se_add (sb_exp (se_add (sb_name 5) (sb_exp (se_int)))) (sb_exp (se_call [some 0, none] G__law_draw (hr.mono (by omega)) m__law_draw kp__law_draw b__law_draw (sp_cons (sb_name 0) (sp_cons (sb_exp (se_name 7)) (sp_nil)))))) (sa_nil))))))))) (ss_one (ss_if (st_in hr (sb_name 6) (sb_exp (se_tup (sa_cons (se_int) (sa_cons (se_int) (sa_nil)))))) (ss_one (ss_expr (se_append 4 (se_tup (sa_cons (se_str) (sa_cons (se_call [some 0, none] G__law_draw (hr.mono (by omega)) m__law_draw kp__law_draw b__law_draw (sp_cons (sb_name 0) (sp_cons (sb_exp (se_name 3)) (sp_nil)))) (sa_nil))))))) (ss_one (ss_expr (se_append 4 (se_tup (sa_cons (se_at hr (sb_exp (se_lst (sa_cons (se_str) (sa_cons (se_str) (sa_cons (se_str) (sa_cons (se_str) (sa_nil))))))) (sb_exp (se_mod (sb_name 6) (sb_exp (se_int))))) (sa_nil)))))))))))))) (ss_one (ss_ret (se_move 4)))))
theorem ok__law_raw_graph (T : Txt P w K mg) : OkD P w K mg base (He.fAd K ("_law_raw_graph", none)) 2 ["draws", "most", "sorts"] d__law_raw_graph := by
  obtain ⟨fd, Fd⟩ := T.f__law_raw_graph
  exact ⟨fd, at__law_raw_graph T Fd, Fd.bindsN fun _ _ _ _ _ _ us hl => match us, hl with | [_, _, _], _ => rfl, Fd.kp⟩
theorem at__law_graph (T : Txt P w K mg) {fd : FuncData} (Fd : FnP K "_law_graph" "_law_graph" s__law_graph (He.fAd K ("_law_graph", none)) fd) : FnOk P w K mg base CX0 5 (He.fAd K ("_law_graph", none)) fd ["draws", "most"] (spOf P w K 2 d__law_graph) := by
  obtain ⟨fd__law_raw_graph, G__law_raw_graph, b__law_raw_graph, kp__law_raw_graph⟩ := ok__law_raw_graph (base := base) T
  have m__law_raw_graph : mg "_law_raw_graph" = some (.ref (He.fAd K ("_law_raw_graph", none))) := T.m__law_raw_graph
  obtain ⟨fd__law_least, G__law_least, b__law_least, kp__law_least⟩ := ok__law_least (base := base) T
  have m__law_least : mg "_law_least" = some (.ref (He.fAd K ("_law_least", none))) := T.m__law_least
  refine fn_den (k := 4) (bf := body__law_graph) Fd S__law_graph [true, false] [0] rfl (by decide) (by decide) (fun cdv A outer s H E hr => ?_)
  exact ss_one (ss_ret (se_call [none] G__law_least (hr.mono (by omega)) m__law_least kp__law_least b__law_least (sp_cons (sb_exp (se_call [some 0, none, none] G__law_raw_graph (hr.mono (by omega)) m__law_raw_graph kp__law_raw_graph b__law_raw_graph (sp_cons (sb_name 0) (sp_cons (sb_exp (se_name 1)) (sp_cons (sb_exp (se_int)) (sp_nil)))))) (sp_nil))))
theorem ok__law_graph (T : Txt P w K mg) : OkD P w K mg base (He.fAd K ("_law_graph", none)) 5 ["draws", "most"] d__law_graph := by
  obtain ⟨fd, Fd⟩ := T.f__law_graph
  exact ⟨fd, at__law_graph T Fd, Fd.bindsN fun _ _ _ _ _ _ us hl => match us, hl with | [_, _], _ => rfl, Fd.kp⟩
theorem at__law_any_plain (T : Txt P w K mg) {fd : FuncData} (Fd : FnP K "_law_any_plain" "_law_any_plain" s__law_any_plain (He.fAd K ("_law_any_plain", none)) fd) : FnOk P w K mg base CX0 6 (He.fAd K ("_law_any_plain", none)) fd ["draws", "plains", "k", "turns"] (spOf P w K 4 d__law_any_plain) := by
  obtain ⟨fd__law_draw, G__law_draw, b__law_draw, kp__law_draw⟩ := ok__law_draw (base := base) T
  have m__law_draw : mg "_law_draw" = some (.ref (He.fAd K ("_law_draw", none))) := T.m__law_draw
  obtain ⟨fd__law_near, G__law_near, b__law_near, kp__law_near⟩ := ok__law_near (base := base) T
  have m__law_near : mg "_law_near" = some (.ref (He.fAd K ("_law_near", none))) := T.m__law_near
  obtain ⟨fd__law_graph, G__law_graph, b__law_graph, kp__law_graph⟩ := ok__law_graph (base := base) T
  have m__law_graph : mg "_law_graph" = some (.ref (He.fAd K ("_law_graph", none))) := T.m__law_graph
  obtain ⟨fd__law_spine_of, G__law_spine_of, b__law_spine_of, kp__law_spine_of⟩ := ok__law_spine_of (base := base) T
  have m__law_spine_of : mg "_law_spine_of" = some (.ref (He.fAd K ("_law_spine_of", none))) := T.m__law_spine_of
  refine fn_den (k := 5) (bf := body__law_any_plain) Fd S__law_any_plain [true, true, false, false] [0, 1] rfl (by decide) (by decide) (fun cdv A outer s H E hr => ?_)
  exact ss_cons (ss_set 4 S__law_any_plain.nd (se_call [some 0, none] G__law_draw (hr.mono (by omega)) m__law_draw kp__law_draw b__law_draw (sp_cons (sb_name 0) (sp_cons (sb_exp (se_int)) (sp_nil))))) (ss_cons (ss_if (SW.st (sw_and (st_eq hr (sb_name 4) (sb_exp (se_int))) (sw_and1 (st_gt (sb_exp (se_len rfl T.b_len (sp_cons (sb_name 1) (sp_nil)))) (sb_exp (se_int)))))) (ss_one (ss_ret (se_at hr (sb_name 1) (sb_exp (se_call [some 0, none] G__law_draw (hr.mono (by omega)) m__law_draw kp__law_draw b__law_draw (sp_cons (sb_name 0) (sp_cons (sb_exp (se_len rfl T.b_len (sp_cons (sb_name 1) (sp_nil)))) (sp_nil)))))))) (ss_nil)) (ss_cons (ss_if (SW.st (sw_and (st_eq hr (sb_name 4) (sb_exp (se_int))) (sw_and1 (st_gt (sb_exp (se_len rfl T.b_len (sp_cons (sb_name 1) (sp_nil)))) (sb_exp (se_int)))))) (ss_one (ss_ret (se_call [some 0, none, none] G__law_near (hr.mono (by omega)) m__law_near kp__law_near b__law_near (sp_cons (sb_name 0) (sp_cons (sb_exp (se_at hr (sb_name 1) (sb_exp (se_call [some 0, none] G__law_draw (hr.mono (by omega)) m__law_draw kp__law_draw b__law_draw (sp_cons (sb_name 0) (sp_cons (sb_exp (se_len rfl T.b_len (sp_cons (sb_name 1) (sp_nil)))) (sp_nil))))))) (sp_cons (sb_exp (se_bl)) (sp_nil))))))) (ss_nil)) (ss_cons (ss_if (st_eq hr (sb_name 4) (sb_exp (se_int))) (ss_one (ss_ret (se_call [some 0, none] G__law_graph (hr.mono (by omega)) m__law_graph kp__law_graph b__law_graph (sp_cons (sb_name 0) (sp_cons (sb_exp (se_int)) (sp_nil)))))) (ss_nil)) (ss_cons (ss_set 5 S__law_any_plain.nd (se_add (sb_exp (se_int)) (sb_exp (se_mod (sb_exp (se_int1 rfl T.b_int (sp_cons (sb_exp (se_add (sb_name 2) (sb_exp (se_at hr (sb_name 3) (sb_exp (se_int)))))) (sp_nil)))) (sb_exp (se_int)))))) (ss_cons (ss_set 6 S__law_any_plain.nd (se_mod (sb_exp (se_int1 rfl T.b_int (sp_cons (sb_exp (se_add (sb_exp (se_mul (sb_name 2) (sb_exp (se_at hr (sb_name 3) (sb_exp (se_int)))))) (sb_exp (se_at hr (sb_name 3) (sb_exp (se_int)))))) (sp_nil)))) (sb_name 5))) (ss_one (ss_ret (se_call [none, none, none] G__law_spine_of (hr.mono (by omega)) m__law_spine_of kp__law_spine_of b__law_spine_of (sp_cons (sb_exp (se_name 5)) (sp_cons (sb_exp (se_name 6)) (sp_cons (sb_exp (se_at hr (sb_exp (se_lst (sa_cons (se_str) (sa_cons (se_str) (sa_cons (se_str) (sa_nil)))))) (sb_exp (se_mod (sb_exp (se_int1 rfl T.b_int (sp_cons (sb_exp (se_add (sb_exp (se_fdiv (sb_name 2) (sb_exp (se_int)))) (sb_exp (se_at hr (sb_name 3) (sb_exp (se_int)))))) (sp_nil)))) (sb_exp (se_int)))))) (sp_nil))))))))))))
theorem ok__law_any_plain (T : Txt P w K mg) : OkD P w K mg base (He.fAd K ("_law_any_plain", none)) 6 ["draws", "plains", "k", "turns"] d__law_any_plain := by
  obtain ⟨fd, Fd⟩ := T.f__law_any_plain
  exact ⟨fd, at__law_any_plain T Fd, Fd.bindsN fun _ _ _ _ _ _ us hl => match us, hl with | [_, _, _, _], _ => rfl, Fd.kp⟩
theorem at_numbered (T : Txt P w K mg) {fd : FuncData} (Fd : FnP K "numbered" "numbered" s_numbered (He.fAd K ("numbered", none)) fd) : FnOk P w K mg base CX0 1 (He.fAd K ("numbered", none)) fd ["marks"] (spOf P w K 1 d_numbered) := by
  skip
  refine fn_den (k := 0) (bf := body_numbered) Fd S_numbered [false] [] rfl (by decide) (by decide) (fun cdv A outer s H E hr => ?_)
  exact ss_cons (ss_set 1 S_numbered.nd (se_newN)) (ss_cons (ss_set 2 S_numbered.nd (se_lst (sa_nil))) (ss_cons (ss_for PassesOwn.never rfl (si_seq (se_name 0)) (sg_name 3 S_numbered.nd) (ss_cons (ss_if (st_notin hr (sb_name 3) (sb_name 1)) (ss_one (ss_store hr 1 (se_len rfl T.b_len (sp_cons (sb_name 1) (sp_nil))) (sb_name 3))) (ss_nil)) (ss_one (ss_expr (se_append 2 (se_at hr (sb_name 1) (sb_name 3))))))) (ss_one (ss_ret (se_move 2)))))
theorem ok_numbered (T : Txt P w K mg) : OkD P w K mg base (He.fAd K ("numbered", none)) 1 ["marks"] d_numbered := by
  obtain ⟨fd, Fd⟩ := T.f_numbered
  exact ⟨fd, at_numbered T Fd, Fd.bindsN fun _ _ _ _ _ _ us hl => match us, hl with | [_], _ => rfl, Fd.kp⟩
theorem at_mark_of (T : Txt P w K mg) {fd : FuncData} (Fd : FnP K "mark_of" "mark_of" s_mark_of (He.fAd K ("mark_of", none)) fd) : FnOk P w K mg base CX0 1 (He.fAd K ("mark_of", none)) fd ["groups", "at", "parts"] (spOf P w K 3 d_mark_of) := by
  skip
  refine fn_den (k := 0) (bf := body_mark_of) Fd S_mark_of [false, false, false] [] rfl (by decide) (by decide) (fun cdv A outer s H E hr => ?_)
  exact ss_one (ss_ret (se_tup (sa_cons (se_at hr (sb_name 0) (sb_name 1)) (sa_cons (se_tuple1 rfl T.b_tuple (sp_cons (sb_exp (se_lc (vs := [3]) rfl S_mark_of.nd (si_seq (se_name 2)) (blkOk_by (own := [("part", 3)]) (by show blkC ["groups", "at", "parts", "part"] (defScope s_mark_of) _ _ = true; decide +kernel)) rfl (fun _ _ _ _ _ => sg_name 3 S_mark_of.nd) (fun _ _ _ _ _ => sts_nil) (fun _ _ _ _ _ => se_if (st_is (sb_name 3) (sb_exp (se_non))) (se_non) (se_at hr (sb_name 0) (sb_name 3))))) (sp_nil))) (sa_nil)))))
theorem ok_mark_of (T : Txt P w K mg) : OkD P w K mg base (He.fAd K ("mark_of", none)) 1 ["groups", "at", "parts"] d_mark_of := by
  obtain ⟨fd, Fd⟩ := T.f_mark_of
  exact ⟨fd, at_mark_of T Fd, Fd.bindsN fun _ _ _ _ _ _ us hl => match us, hl with | [_, _, _], _ => rfl, Fd.kp⟩
theorem at_grouped (T : Txt P w K mg) {fd : FuncData} (Fd : FnP K "grouped" "grouped" s_grouped (He.fAd K ("grouped", none)) fd) : FnOk P w K mg base CX0 2 (He.fAd K ("grouped", none)) fd ["heads", "links"] (spOf P w K 2 d_grouped) := by
  obtain ⟨fd_numbered, G_numbered, b_numbered, kp_numbered⟩ := ok_numbered (base := base) T
  have m_numbered : mg "numbered" = some (.ref (He.fAd K ("numbered", none))) := T.m_numbered
  obtain ⟨fd_mark_of, G_mark_of, b_mark_of, kp_mark_of⟩ := ok_mark_of (base := base) T
  have m_mark_of : mg "mark_of" = some (.ref (He.fAd K ("mark_of", none))) := T.m_mark_of
  refine fn_den (k := 1) (bf := body_grouped) Fd S_grouped [false, false] [] rfl (by decide) (by decide) (fun cdv A outer s H E hr => ?_)
  exact ss_cons (ss_set 2 S_grouped.nd (se_call [none] G_numbered (hr.mono (by omega)) m_numbered kp_numbered b_numbered (sp_cons (sb_exp (se_name 0)) (sp_nil)))) (ss_cons (ss_set 3 S_grouped.nd (se_int)) (ss_cons (ss_while PassesOwn.never (st_gt (sb_exp (se_lenSet rfl T.b_len rfl T.b_set (sb_name 2))) (sb_name 3)) (ss_cons (ss_set 3 S_grouped.nd (se_lenSet rfl T.b_len rfl T.b_set (sb_name 2))) (ss_one (ss_set 2 S_grouped.nd (se_call [none] G_numbered (hr.mono (by omega)) m_numbered kp_numbered b_numbered (sp_cons (sb_exp (se_lc (vs := [4, 5]) rfl S_grouped.nd (si_enum rfl T.b_enumerate (se_name 1)) (blkOk_by (own := [("at", 4), ("parts", 5)]) (by show blkC ["heads", "links", "groups", "many", "at", "parts"] (defScope s_grouped) _ _ = true; decide +kernel)) rfl (fun _ _ _ _ _ => sg_tup rfl (sgs_cons (sg_name 4 S_grouped.nd) (sgs_cons (sg_name 5 S_grouped.nd) (sgs_nil))) rfl rfl (consG_len (consG_len (fun _ _ _ h => nilG_len h)))) (fun _ _ _ _ _ => sts_nil) (fun _ _ _ _ _ => se_call [none, none, none] G_mark_of (hr.mono (by omega)) m_mark_of kp_mark_of b_mark_of (sp_cons (sb_exp (se_name 2)) (sp_cons (sb_exp (se_name 4)) (sp_cons (sb_exp (se_name 5)) (sp_nil))))))) (sp_nil))))))) (ss_one (ss_ret (se_move 2)))))
theorem ok_grouped (T : Txt P w K mg) : OkD P w K mg base (He.fAd K ("grouped", none)) 2 ["heads", "links"] d_grouped := by
  obtain ⟨fd, Fd⟩ := T.f_grouped
  exact ⟨fd, at_grouped T Fd, Fd.bindsN fun _ _ _ _ _ _ us hl => match us, hl with | [_, _], _ => rfl, Fd.kp⟩
theorem at_first_members (T : Txt P w K mg) {fd : FuncData} (Fd : FnP K "first_members" "first_members" s_first_members (He.fAd K ("first_members", none)) fd) : FnOk P w K mg base CX0 1 (He.fAd K ("first_members", none)) fd ["groups"] (spOf P w K 1 d_first_members) := by
  skip
  refine fn_den (k := 0) (bf := body_first_members) Fd S_first_members [false] [] rfl (by decide) (by decide) (fun cdv A outer s H E hr => ?_)
  exact ss_cons (ss_set 1 S_first_members.nd (se_newK)) (ss_cons (ss_for PassesOwn.never rfl (si_enum rfl T.b_enumerate (se_name 0)) (sg_tup rfl (sgs_cons (sg_name 2 S_first_members.nd) (sgs_cons (sg_name 3 S_first_members.nd) (sgs_nil))) rfl rfl (consG_len (consG_len (fun _ _ _ h => nilG_len h)))) (ss_one (ss_if (st_notin hr (sb_name 3) (sb_name 1)) (ss_one (ss_store hr 1 (se_name 2) (sb_name 3))) (ss_nil)))) (ss_one (ss_ret (se_move 1))))
theorem ok_first_members (T : Txt P w K mg) : OkD P w K mg base (He.fAd K ("first_members", none)) 1 ["groups"] d_first_members := by
  obtain ⟨fd, Fd⟩ := T.f_first_members
  exact ⟨fd, at_first_members T Fd, Fd.bindsN fun _ _ _ _ _ _ us hl => match us, hl with | [_], _ => rfl, Fd.kp⟩
theorem at_least (T : Txt P w K mg) {fd : FuncData} (Fd : FnP K "least" "least" s_least (He.fAd K ("least", none)) fd) : FnOk P w K mg base CX0 3 (He.fAd K ("least", none)) fd ["heads", "links", "root"] (spOf P w K 3 d_least) := by
  obtain ⟨fd_grouped, G_grouped, b_grouped, kp_grouped⟩ := ok_grouped (base := base) T
  have m_grouped : mg "grouped" = some (.ref (He.fAd K ("grouped", none))) := T.m_grouped
  obtain ⟨fd_first_members, G_first_members, b_first_members, kp_first_members⟩ := ok_first_members (base := base) T
  have m_first_members : mg "first_members" = some (.ref (He.fAd K ("first_members", none))) := T.m_first_members
  refine fn_den (k := 2) (bf := body_least) Fd S_least [false, false, false] [] rfl (by decide) (by decide) (fun cdv A outer s H E hr => ?_)
  exact ss_cons (ss_set 3 S_least.nd (se_call [none, none] G_grouped (hr.mono (by omega)) m_grouped kp_grouped b_grouped (sp_cons (sb_exp (se_name 0)) (sp_cons (sb_exp (se_name 1)) (sp_nil))))) (ss_cons (ss_set 4 S_least.nd (se_call [none] G_first_members (hr.mono (by omega)) m_first_members kp_first_members b_first_members (sp_cons (sb_exp (se_name 3)) (sp_nil)))) (ss_cons (ss_set 5 S_least.nd (se_lst (sa_cons (se_at hr (sb_name 3) (sb_name 2)) (sa_nil)))) (ss_cons (ss_set 6 S_least.nd (se_disp1 (se_at hr (sb_name 3) (sb_name 2)) (se_int))) (ss_cons (ss_set 7 S_least.nd (se_int)) (ss_cons (ss_while PassesOwn.never (st_lt (sb_name 7) (sb_exp (se_len rfl T.b_len (sp_cons (sb_name 5) (sp_nil))))) (ss_cons (ss_for PassesOwn.never rfl (si_seq (se_at hr (sb_name 1) (sb_exp (se_at hr (sb_name 4) (sb_exp (se_at hr (sb_name 5) (sb_name 7))))))) (sg_name 8 S_least.nd) (ss_one (ss_if (SW.st (sw_and (st_isnot (sb_name 8) (sb_exp (se_non))) (sw_and1 (st_notin hr (sb_exp (se_at hr (sb_name 3) (sb_name 8))) (sb_name 6))))) (ss_cons (ss_store hr 6 (se_len rfl T.b_len (sp_cons (sb_name 5) (sp_nil))) (sb_exp (se_at hr (sb_name 3) (sb_name 8)))) (ss_one (ss_expr (se_append 5 (se_at hr (sb_name 3) (sb_name 8)))))) (ss_nil)))) (ss_one (ss_iadd 7 S_least.nd (sb_exp (se_int)))))) (ss_cons (ss_set 9 S_least.nd (se_lst (sa_nil))) (ss_cons (ss_for PassesOwn.never rfl (si_seq (se_name 5)) (sg_name 10 S_least.nd) (ss_cons (ss_set 11 S_least.nd (se_at hr (sb_name 4) (sb_name 10))) (ss_cons (ss_setLc (vs := [8]) (i := 12) rfl S_least.nd (si_seq (se_at hr (sb_name 1) (sb_name 11))) (blkOk_by (own := [("part", 8)]) (by show blkC ["heads", "links", "root", "groups", "members", "order", "places", "at", "part", "knots", "group", "member", "parts"] (defScope s_least) _ _ = true; decide +kernel)) rfl (fun _ _ _ _ _ => sg_name 8 S_least.nd) (fun _ _ _ _ _ => sts_nil) (fun _ _ _ _ _ => se_if (st_is (sb_name 8) (sb_exp (se_non))) (se_non) (se_at hr (sb_name 6) (sb_exp (se_at hr (sb_name 3) (sb_name 8)))))) (ss_one (ss_expr (se_append 9 (se_tup (sa_star (sb_exp (se_at hr (sb_name 0) (sb_name 11))) (sa_star (sb_name 12) (sa_nil)))))))))) (ss_one (ss_ret (se_tuple1 rfl T.b_tuple (sp_cons (sb_name 9) (sp_nil))))))))))))
theorem ok_least (T : Txt P w K mg) : OkD P w K mg base (He.fAd K ("least", none)) 3 ["heads", "links", "root"] d_least := by
  obtain ⟨fd, Fd⟩ := T.f_least
  exact ⟨fd, at_least T Fd, Fd.bindsN fun _ _ _ _ _ _ us hl => match us, hl with | [_, _, _], _ => rfl, Fd.kp⟩
theorem at_heads_of (T : Txt P w K mg) {fd : FuncData} (Fd : FnP K "heads_of" "heads_of" s_heads_of (He.fAd K ("heads_of", none)) fd) : FnOk P w K mg base CX0 1 (He.fAd K ("heads_of", none)) fd ["knots", "counts"] (spOf P w K 2 d_heads_of) := by
  skip
  refine fn_den (k := 0) (bf := body_heads_of) Fd S_heads_of [false, false] [] rfl (by decide) (by decide) (fun cdv A outer s H E hr => ?_)
  exact ss_one (ss_ret (se_lc (vs := [2]) rfl S_heads_of.nd (si_seq (se_name 0)) (blkOk_by (own := [("knot", 2)]) (by show blkC ["knots", "counts", "knot"] (defScope s_heads_of) _ _ = true; decide +kernel)) rfl (fun _ _ _ _ _ => sg_name 2 S_heads_of.nd) (fun _ _ _ _ _ => sts_nil) (fun _ _ _ _ _ => se_slice (sb_name 2) (so_none) (so_some (se_sub (sb_exp (se_len rfl T.b_len (sp_cons (sb_name 2) (sp_nil)))) (sb_exp (se_get hr (sb_name 1) (sb_exp (se_at hr (sb_name 2) (sb_exp (se_int)))) (se_int))))))))
theorem ok_heads_of (T : Txt P w K mg) : OkD P w K mg base (He.fAd K ("heads_of", none)) 1 ["knots", "counts"] d_heads_of := by
  obtain ⟨fd, Fd⟩ := T.f_heads_of
  exact ⟨fd, at_heads_of T Fd, Fd.bindsN fun _ _ _ _ _ _ us hl => match us, hl with | [_, _], _ => rfl, Fd.kp⟩
theorem at_links_of (T : Txt P w K mg) {fd : FuncData} (Fd : FnP K "links_of" "links_of" s_links_of (He.fAd K ("links_of", none)) fd) : FnOk P w K mg base CX0 1 (He.fAd K ("links_of", none)) fd ["knots", "counts"] (spOf P w K 2 d_links_of) := by
  skip
  refine fn_den (k := 0) (bf := body_links_of) Fd S_links_of [false, false] [] rfl (by decide) (by decide) (fun cdv A outer s H E hr => ?_)
  exact ss_one (ss_ret (se_lc (vs := [2]) rfl S_links_of.nd (si_seq (se_name 0)) (blkOk_by (own := [("knot", 2)]) (by show blkC ["knots", "counts", "knot"] (defScope s_links_of) _ _ = true; decide +kernel)) rfl (fun _ _ _ _ _ => sg_name 2 S_links_of.nd) (fun _ _ _ _ _ => sts_nil) (fun _ _ _ _ _ => se_list1 rfl T.b_list (sp_cons (sb_exp (se_slice (sb_name 2) (so_some (se_sub (sb_exp (se_len rfl T.b_len (sp_cons (sb_name 2) (sp_nil)))) (sb_exp (se_get hr (sb_name 1) (sb_exp (se_at hr (sb_name 2) (sb_exp (se_int)))) (se_int))))) (so_none))) (sp_nil)))))
theorem ok_links_of (T : Txt P w K mg) : OkD P w K mg base (He.fAd K ("links_of", none)) 1 ["knots", "counts"] d_links_of := by
  obtain ⟨fd, Fd⟩ := T.f_links_of
  exact ⟨fd, at_links_of T Fd, Fd.bindsN fun _ _ _ _ _ _ us hl => match us, hl with | [_, _], _ => rfl, Fd.kp⟩
theorem at_seen_from (T : Txt P w K mg) {fd : FuncData} (Fd : FnP K "seen_from" "seen_from" s_seen_from (He.fAd K ("seen_from", none)) fd) : FnOk P w K mg base CX0 4 (He.fAd K ("seen_from", none)) fd ["knots", "counts", "root"] (spOf P w K 3 d_seen_from) := by
  obtain ⟨fd_links_of, G_links_of, b_links_of, kp_links_of⟩ := ok_links_of (base := base) T
  have m_links_of : mg "links_of" = some (.ref (He.fAd K ("links_of", none))) := T.m_links_of
  obtain ⟨fd_heads_of, G_heads_of, b_heads_of, kp_heads_of⟩ := ok_heads_of (base := base) T
  have m_heads_of : mg "heads_of" = some (.ref (He.fAd K ("heads_of", none))) := T.m_heads_of
  obtain ⟨fd_least, G_least, b_least, kp_least⟩ := ok_least (base := base) T
  have m_least : mg "least" = some (.ref (He.fAd K ("least", none))) := T.m_least
  refine fn_den (k := 3) (bf := body_seen_from) Fd S_seen_from [false, false, false] [] rfl (by decide) (by decide) (fun cdv A outer s H E hr => ?_)
  exact ss_one (ss_ret (se_call [none, none, none] G_least (hr.mono (by omega)) m_least kp_least b_least (sp_cons (sb_exp (se_call [none, none] G_heads_of (hr.mono (by omega)) m_heads_of kp_heads_of b_heads_of (sp_cons (sb_exp (se_name 0)) (sp_cons (sb_exp (se_name 1)) (sp_nil))))) (sp_cons (sb_exp (se_call [none, none] G_links_of (hr.mono (by omega)) m_links_of kp_links_of b_links_of (sp_cons (sb_exp (se_name 0)) (sp_cons (sb_exp (se_name 1)) (sp_nil))))) (sp_cons (sb_exp (se_name 2)) (sp_nil))))))
theorem ok_seen_from (T : Txt P w K mg) : OkD P w K mg base (He.fAd K ("seen_from", none)) 4 ["knots", "counts", "root"] d_seen_from := by
  obtain ⟨fd, Fd⟩ := T.f_seen_from
  exact ⟨fd, at_seen_from T Fd, Fd.bindsN fun _ _ _ _ _ _ us hl => match us, hl with | [_, _, _], _ => rfl, Fd.kp⟩
theorem at_least_kind (T : Txt P w K mg) {fd : FuncData} (Fd : FnP K "least_kind" "least_kind" s_least_kind (He.fAd K ("least_kind", none)) fd) : FnOk P w K mg base CX0 5 (He.fAd K ("least_kind", none)) fd ["knots"] (spOf P w K 1 d_least_kind) := by
  obtain ⟨fd_seen_from, G_seen_from, b_seen_from, kp_seen_from⟩ := ok_seen_from (base := base) T
  have m_seen_from : mg "seen_from" = some (.ref (He.fAd K ("seen_from", none))) := T.m_seen_from
  obtain ⟨gu_KIND_LINKS, gm_KIND_LINKS, gr_KIND_LINKS⟩ := T.v_KIND_LINKS
  refine fn_den (k := 4) (bf := body_least_kind) Fd S_least_kind [false] [] rfl (by decide) (by decide) (fun cdv A outer s H E hr => ?_)
  exact ss_one (ss_ret (se_call [none, none, none] G_seen_from (hr.mono (by omega)) m_seen_from kp_seen_from b_seen_from (sp_cons (sb_exp (se_name 0)) (sp_cons (sb_exp (se_dict1 rfl T.b_dict (sp_cons (sb_exp (se_glob rfl gm_KIND_LINKS gr_KIND_LINKS T.c_KIND_LINKS)) (sp_nil)))) (sp_cons (sb_exp (se_int)) (sp_nil))))))
theorem ok_least_kind (T : Txt P w K mg) : OkD P w K mg base (He.fAd K ("least_kind", none)) 5 ["knots"] d_least_kind := by
  obtain ⟨fd, Fd⟩ := T.f_least_kind
  exact ⟨fd, at_least_kind T Fd, Fd.bindsN fun _ _ _ _ _ _ us hl => match us, hl with | [_], _ => rfl, Fd.kp⟩
theorem at_has_bare_ring (T : Txt P w K mg) {fd : FuncData} (Fd : FnP K "has_bare_ring" "has_bare_ring" s_has_bare_ring (He.fAd K ("has_bare_ring", none)) fd) : FnOk P w K mg base CX0 1 (He.fAd K ("has_bare_ring", none)) fd ["kind"] (spOf P w K 1 d_has_bare_ring) := by
  skip
  refine fn_den (k := 0) (bf := body_has_bare_ring) Fd S_has_bare_ring [false] [] rfl (by decide) (by decide) (fun cdv A outer s H E hr => ?_)
  exact ss_cons (ss_set 1 S_has_bare_ring.nd (se_lc (vs := [2, 3]) rfl S_has_bare_ring.nd (si_enum rfl T.b_enumerate (se_name 0)) (blkOk_by (own := [("at", 2), ("knot", 3)]) (by show blkC ["kind", "left", "at", "knot", "many"] (defScope s_has_bare_ring) _ _ = true; decide +kernel)) rfl (fun _ _ _ _ _ => sg_tup rfl (sgs_cons (sg_name 2 S_has_bare_ring.nd) (sgs_cons (sg_name 3 S_has_bare_ring.nd) (sgs_nil))) rfl rfl (consG_len (consG_len (fun _ _ _ h => nilG_len h)))) (fun _ _ _ _ _ => sts_one (st_eq hr (sb_exp (se_at hr (sb_name 3) (sb_exp (se_int)))) (sb_exp (se_str)))) (fun _ _ _ _ _ => se_name 2))) (ss_cons (ss_set 4 S_has_bare_ring.nd (se_add (sb_exp (se_len rfl T.b_len (sp_cons (sb_name 1) (sp_nil)))) (sb_exp (se_int)))) (ss_cons (ss_while PassesOwn.never (st_lt (sb_exp (se_len rfl T.b_len (sp_cons (sb_name 1) (sp_nil)))) (sb_name 4)) (ss_cons (ss_set 4 S_has_bare_ring.nd (se_len rfl T.b_len (sp_cons (sb_name 1) (sp_nil)))) (ss_one (ss_set 1 S_has_bare_ring.nd (se_lc (vs := [2]) rfl S_has_bare_ring.nd (si_seq (se_name 1)) (blkOk_by (own := [("at", 2)]) (by show blkC ["kind", "left", "at", "knot", "many"] (defScope s_has_bare_ring) _ _ = true; decide +kernel)) rfl (fun _ _ _ _ _ => sg_name 2 S_has_bare_ring.nd) (fun _ _ _ _ _ => sts_one (SW.st (sw_or (st_in hr (sb_exp (se_at hr (sb_exp (se_at hr (sb_name 0) (sb_name 2))) (sb_exp (se_int)))) (sb_name 1)) (sw_or1 (st_in hr (sb_exp (se_at hr (sb_exp (se_at hr (sb_name 0) (sb_name 2))) (sb_exp (se_int)))) (sb_name 1)))))) (fun _ _ _ _ _ => se_name 2)))))) (ss_one (ss_ret (se_gt (sb_name 4) (sb_exp (se_int)))))))
theorem ok_has_bare_ring (T : Txt P w K mg) : OkD P w K mg base (He.fAd K ("has_bare_ring", none)) 1 ["kind"] d_has_bare_ring := by
  obtain ⟨fd, Fd⟩ := T.f_has_bare_ring
  exact ⟨fd, at_has_bare_ring T Fd, Fd.bindsN fun _ _ _ _ _ _ us hl => match us, hl with | [_], _ => rfl, Fd.kp⟩
theorem at_GraphKind_init (T : Txt P w K mg) {fd : FuncData} (Fd : FnP K "__init__" "GraphKind.__init__" s_GraphKind_init (He.fAd K ("GraphKind", some "__init__")) fd) : FnOk P w K mg base CX0 6 (He.fAd K ("GraphKind", some "__init__")) fd ["self", "knots"] (spOf P w K 2 d_GraphKind_init) := by
  obtain ⟨fd_least_kind, G_least_kind, b_least_kind, kp_least_kind⟩ := ok_least_kind (base := base) T
  have m_least_kind : mg "least_kind" = some (.ref (He.fAd K ("least_kind", none))) := T.m_least_kind
  obtain ⟨fd_has_bare_ring, G_has_bare_ring, b_has_bare_ring, kp_has_bare_ring⟩ := ok_has_bare_ring (base := base) T
  have m_has_bare_ring : mg "has_bare_ring" = some (.ref (He.fAd K ("has_bare_ring", none))) := T.m_has_bare_ring
  refine fn_den (k := 5) (bf := body_GraphKind_init) Fd S_GraphKind_init [true, false] [0] rfl (by decide) (by decide) (fun cdv A outer s H E hr => ?_)
  exact ss_cons (ss_set 2 S_GraphKind_init.nd (se_call [none] G_least_kind (hr.mono (by omega)) m_least_kind kp_least_kind b_least_kind (sp_cons (sb_exp (se_name 1)) (sp_nil)))) (ss_cons (ss_if (st_val (se_call [none] G_has_bare_ring (hr.mono (by omega)) m_has_bare_ring kp_has_bare_ring b_has_bare_ring (sp_cons (sb_exp (se_name 2)) (sp_nil)))) (ss_one (ss_bad)) (ss_nil)) (ss_cons (ss_if (st_gt (sb_exp (se_len rfl T.b_len (sp_cons (sb_name 2) (sp_nil)))) (sb_exp (se_con T.cl_GraphKind T.k_GraphKind_LIMIT.choose_spec (fun _ => .int 12) (sb_name 0)))) (ss_one (ss_bad)) (ss_nil)) (ss_one (ss_fld 0 T.cl_GraphKind T.na_GraphKind_knots (se_name 2)))))
theorem ok_GraphKind_init (T : Txt P w K mg) : OkD P w K mg base (He.fAd K ("GraphKind", some "__init__")) 6 ["self", "knots"] d_GraphKind_init := by
  obtain ⟨fd, Fd⟩ := T.f_GraphKind_init
  exact ⟨fd, at_GraphKind_init T Fd, Fd.bindsN fun _ _ _ _ _ _ us hl => match us, hl with | [_, _], _ => rfl, Fd.kp⟩
theorem at__law_twice_product (T : Txt P w K mg) {fd : FuncData} (Fd : FnP K "_law_twice_product" "_law_twice_product" s__law_twice_product (He.fAd K ("_law_twice_product", none)) fd) : FnOk P w K mg base CX0 1 (He.fAd K ("_law_twice_product", none)) fd ["plains"] (spOf P w K 1 d__law_twice_product) := by
  skip
  refine fn_den (k := 0) (bf := body__law_twice_product) Fd S__law_twice_product [false] [] rfl (by decide) (by decide) (fun cdv A outer s H E hr => ?_)
  exact ss_cons (ss_set 1 S__law_twice_product.nd (se_lst (sa_nil))) (ss_cons (ss_set 2 S__law_twice_product.nd (se_int)) (ss_cons (ss_for PassesOwn.never rfl (si_seq (se_name 0)) (sg_name 3 S__law_twice_product.nd) (ss_one (ss_if (st_notin hr (sb_name 3) (sb_name 1)) (ss_cons (ss_expr (se_append 1 (se_name 3))) (ss_one (ss_set 2 S__law_twice_product.nd (se_mul (sb_name 2) (sb_exp (se_len rfl T.b_len (sp_cons (sb_name 3) (sp_nil)))))))) (ss_nil)))) (ss_one (ss_ret (se_move 2)))))
theorem ok__law_twice_product (T : Txt P w K mg) : OkD P w K mg base (He.fAd K ("_law_twice_product", none)) 1 ["plains"] d__law_twice_product := by
  obtain ⟨fd, Fd⟩ := T.f__law_twice_product
  exact ⟨fd, at__law_twice_product T Fd, Fd.bindsN fun _ _ _ _ _ _ us hl => match us, hl with | [_], _ => rfl, Fd.kp⟩
theorem ok__law_same_at (T : Txt P w K mg) : ∀ n : Nat, OkD P w K mg base (He.fAd K ("_law_same", none)) (1 + n) ["actual", "due"] (rec__law_same n) := by
  obtain ⟨fd, Fd⟩ := T.f__law_same
  have b__law_same : Binds K fd ["actual", "due"] [] := Fd.bindsN fun _ _ _ _ _ _ us hl => match us, hl with | [_, _], _ => rfl
  have kp__law_same := Fd.kp
  have m__law_same : mg "_law_same" = some (.ref (He.fAd K ("_law_same", none))) := T.m__law_same
  have go : ∀ n : Nat, FnOk P w K mg base CX0 (1 + n) (He.fAd K ("_law_same", none)) fd ["actual", "due"] (spOf P w K 2 (rec__law_same n)) := fun n => by
    induction n with
    | zero => exact fn_zero 2 rfl
    | succ n GR =>
      refine fn_den (k := 1 + n) (bf := body__law_same (rec__law_same n)) Fd S__law_same [false, false] [] rfl (by decide) (by decide) (fun cdv A outer s H E hr => ?_)
      exact ss_cons (ss_if (SW.st (sw_or (st_val (se_isi rfl T.b_isinstance rfl T.b_bool (by decide +kernel) (sb_name 1))) (sw_or1 (st_val (se_isi rfl T.b_isinstance rfl T.b_bool (by decide +kernel) (sb_name 0)))))) (ss_one (ss_ret (se_and (se_isi rfl T.b_isinstance rfl T.b_bool (by decide +kernel) (sb_name 1)) (se_and (se_isi rfl T.b_isinstance rfl T.b_bool (by decide +kernel) (sb_name 0)) (se_one (se_eq hr (sb_name 0) (sb_name 1))))))) (ss_nil)) (ss_cons (ss_if (SW.st (sw_or (st_is (sb_name 1) (sb_exp (se_non))) (sw_or1 (st_is (sb_name 0) (sb_exp (se_non)))))) (ss_one (ss_ret (se_and (se_is (sb_name 1) (sb_exp (se_non))) (se_one (se_is (sb_name 0) (sb_exp (se_non))))))) (ss_nil)) (ss_cons (ss_if (st_val (se_isi rfl T.b_isinstance rfl T.b_int (by decide +kernel) (sb_name 1))) (ss_one (ss_ret (se_and (se_isi rfl T.b_isinstance rfl T.b_int (by decide +kernel) (sb_name 0)) (se_one (se_eq hr (sb_name 0) (sb_name 1)))))) (ss_nil)) (ss_cons (ss_if (st_val (se_isi rfl T.b_isinstance rfl T.b_str (by decide +kernel) (sb_name 1))) (ss_one (ss_ret (se_and (se_isi rfl T.b_isinstance rfl T.b_str (by decide +kernel) (sb_name 0)) (se_one (se_eq hr (sb_name 0) (sb_name 1)))))) (ss_nil)) (ss_cons (ss_if (SW.st (sw_and (st_val (se_isi rfl T.b_isinstance rfl T.b_tuple (by decide +kernel) (sb_name 1))) (sw_and1 (st_not (st_val (se_isi rfl T.b_isinstance rfl T.b_tuple (by decide +kernel) (sb_name 0))))))) (ss_one (ss_ret (se_bl))) (ss_nil)) (ss_cons (ss_if (SW.st (sw_and (st_val (se_isi rfl T.b_isinstance rfl T.b_list (by decide +kernel) (sb_name 1))) (sw_and1 (st_not (st_val (se_isi rfl T.b_isinstance rfl T.b_list (by decide +kernel) (sb_name 0))))))) (ss_one (ss_ret (se_bl))) (ss_nil)) (ss_cons (ss_if (st_ne hr (sb_exp (se_len rfl T.b_len (sp_cons (sb_name 0) (sp_nil)))) (sb_exp (se_len rfl T.b_len (sp_cons (sb_name 1) (sp_nil))))) (ss_one (ss_ret (se_bl))) (ss_nil)) (ss_cons (ss_for PassesOwn.never rfl (si_range1 rfl T.b_range (se_len rfl T.b_len (sp_cons (sb_name 1) (sp_nil)))) (sg_name 2 S__law_same.nd) (ss_one (ss_if (st_not (st_val (se_call [none, none] GR (hr.mono (by omega)) m__law_same kp__law_same b__law_same (sp_cons (sb_exp (se_at hr (sb_name 0) (sb_name 2))) (sp_cons (sb_exp (se_at hr (sb_name 1) (sb_name 2))) (sp_nil)))))) (ss_one (ss_ret (se_bl))) (ss_nil)))) (ss_one (ss_ret (se_bl))))))))))
  exact fun n => ⟨fd, go n, b__law_same, kp__law_same⟩
theorem ok__law_same (T : Txt P w K mg) : OkD P w K mg base (He.fAd K ("_law_same", none)) 9 ["actual", "due"] d__law_same := ok__law_same_at T 8
theorem at_most_knots (T : Txt P w K mg) {fd : FuncData} (Fd : FnP K "most_knots" "most_knots" s_most_knots (He.fAd K ("most_knots", none)) fd) : FnOk P w K mg base CX0 1 (He.fAd K ("most_knots", none)) fd ["kinds"] (spOf P w K 1 d_most_knots) := by
  skip
  refine fn_den (k := 0) (bf := body_most_knots) Fd S_most_knots [false] [] rfl (by decide) (by decide) (fun cdv A outer s H E hr => ?_)
  exact ss_cons (ss_set 1 S_most_knots.nd (se_lst (sa_nil))) (ss_cons (ss_for PassesOwn.never rfl (si_seq (se_name 0)) (sg_name 2 S_most_knots.nd) (ss_one (ss_if (st_notin hr (sb_exp (se_fld T.cl_GraphKind T.na_GraphKind_knots (sb_name 2))) (sb_name 1)) (ss_one (ss_expr (se_append 1 (se_fld T.cl_GraphKind T.na_GraphKind_knots (sb_name 2))))) (ss_nil)))) (ss_cons (ss_set 3 S_most_knots.nd (se_int)) (ss_cons (ss_for PassesOwn.never rfl (si_seq (se_name 1)) (sg_name 4 S_most_knots.nd) (ss_one (ss_set 3 S_most_knots.nd (se_mul (sb_name 3) (sb_exp (se_len rfl T.b_len (sp_cons (sb_name 4) (sp_nil)))))))) (ss_one (ss_ret (se_move 3))))))
theorem ok_most_knots (T : Txt P w K mg) : OkD P w K mg base (He.fAd K ("most_knots", none)) 1 ["kinds"] d_most_knots := by
  obtain ⟨fd, Fd⟩ := T.f_most_knots
  exact ⟨fd, at_most_knots T Fd, Fd.bindsN fun _ _ _ _ _ _ us hl => match us, hl with | [_], _ => rfl, Fd.kp⟩
theorem at__law_asked (T : Txt P w K mg) {fd : FuncData} (Fd : FnP K "_law_asked" "_law_asked" s__law_asked (He.fAd K ("_law_asked", none)) fd) : FnOk P w K mg base CX0 10 (He.fAd K ("_law_asked", none)) fd ["kinds", "plains"] (spOf P w K 2 d__law_asked) := by
  obtain ⟨fd__law_twice_product, G__law_twice_product, b__law_twice_product, kp__law_twice_product⟩ := ok__law_twice_product (base := base) T
  have m__law_twice_product : mg "_law_twice_product" = some (.ref (He.fAd K ("_law_twice_product", none))) := T.m__law_twice_product
  obtain ⟨fd_most_knots, G_most_knots, b_most_knots, kp_most_knots⟩ := ok_most_knots (base := base) T
  have m_most_knots : mg "most_knots" = some (.ref (He.fAd K ("most_knots", none))) := T.m_most_knots
  obtain ⟨fd__law_same, G__law_same, b__law_same, kp__law_same⟩ := ok__law_same (base := base) T
  have m__law_same : mg "_law_same" = some (.ref (He.fAd K ("_law_same", none))) := T.m__law_same
  refine fn_den (k := 9) (bf := body__law_asked) Fd S__law_asked [false, false] [] rfl (by decide) (by decide) (fun cdv A outer s H E hr => ?_)
  exact ss_cons (ss_set 2 S__law_asked.nd (se_call [none] G__law_twice_product (hr.mono (by omega)) m__law_twice_product kp__law_twice_product b__law_twice_product (sp_cons (sb_exp (se_name 1)) (sp_nil)))) (ss_cons (ss_set 3 S__law_asked.nd (se_list1 rfl T.b_list (sp_cons (sb_name 0) (sp_nil)))) (ss_cons (ss_if (SW.st (sw_or (st_not (st_val (se_call [none, none] G__law_same (hr.mono (by omega)) m__law_same kp__law_same b__law_same (sp_cons (sb_exp (se_call [none] G_most_knots (hr.mono (by omega)) m_most_knots kp_most_knots b_most_knots (sp_cons (sb_exp (se_name 3)) (sp_nil)))) (sp_cons (sb_exp (se_name 2)) (sp_nil)))))) (sw_or1 (st_not (st_val (se_call [none, none] G__law_same (hr.mono (by omega)) m__law_same kp__law_same b__law_same (sp_cons (sb_exp (se_len rfl T.b_len (sp_cons (sb_name 3) (sp_nil)))) (sp_cons (sb_exp (se_len rfl T.b_len (sp_cons (sb_name 1) (sp_nil)))) (sp_nil))))))))) (ss_one (ss_ret (se_bl))) (ss_nil)) (ss_cons (ss_if (st_not (st_val (se_call [none, none] G__law_same (hr.mono (by omega)) m__law_same kp__law_same b__law_same (sp_cons (sb_exp (se_lc (vs := [4]) rfl S__law_asked.nd (si_seq (se_name 3)) (blkOk_by (own := [("kind", 4)]) (by show blkC ["kinds", "plains", "due", "handed", "kind"] (defScope s__law_asked) _ _ = true; decide +kernel)) rfl (fun _ _ _ _ _ => sg_name 4 S__law_asked.nd) (fun _ _ _ _ _ => sts_nil) (fun _ _ _ _ _ => se_fld T.cl_GraphKind T.na_GraphKind_knots (sb_name 4)))) (sp_cons (sb_exp (se_name 1)) (sp_nil)))))) (ss_one (ss_ret (se_bl))) (ss_nil)) (ss_one (ss_ret (se_call [none, none] G__law_same (hr.mono (by omega)) m__law_same kp__law_same b__law_same (sp_cons (sb_exp (se_call [none] G_most_knots (hr.mono (by omega)) m_most_knots kp_most_knots b_most_knots (sp_cons (sb_exp (se_name 3)) (sp_nil)))) (sp_cons (sb_exp (se_name 2)) (sp_nil)))))))))
theorem ok__law_asked (T : Txt P w K mg) : OkD P w K mg base (He.fAd K ("_law_asked", none)) 10 ["kinds", "plains"] d__law_asked := by
  obtain ⟨fd, Fd⟩ := T.f__law_asked
  exact ⟨fd, at__law_asked T Fd, Fd.bindsN fun _ _ _ _ _ _ us hl => match us, hl with | [_, _], _ => rfl, Fd.kp⟩
theorem at__law_blown (T : Txt P w K mg) {fd : FuncData} (Fd : FnP K "_law_blown" "_law_blown" s__law_blown (He.fAd K ("_law_blown", none)) fd) : FnOk P w K mg base CX0 2 (He.fAd K ("_law_blown", none)) fd ["draws", "kind"] (spOf P w K 2 d__law_blown) := by
  obtain ⟨fd__law_draw, G__law_draw, b__law_draw, kp__law_draw⟩ := ok__law_draw (base := base) T
  have m__law_draw : mg "_law_draw" = some (.ref (He.fAd K ("_law_draw", none))) := T.m__law_draw
  obtain ⟨fd__law_split, G__law_split, b__law_split, kp__law_split⟩ := ok__law_split (base := base) T
  have m__law_split : mg "_law_split" = some (.ref (He.fAd K ("_law_split", none))) := T.m__law_split
  refine fn_den (k := 1) (bf := body__law_blown) Fd S__law_blown [true, false] [0] rfl (by decide) (by decide) (fun cdv A outer s H E hr => ?_)
  exact ss_cons (ss_set 2 S__law_blown.nd (se_add (sb_exp (se_int)) (sb_exp (se_call [some 0, none] G__law_draw (hr.mono (by omega)) m__law_draw kp__law_draw b__law_draw (sp_cons (sb_name 0) (sp_cons (sb_exp (se_fdiv (sb_exp (se_int)) (sb_exp (se_len rfl T.b_len (sp_cons (sb_name 1) (sp_nil)))))) (sp_nil))))))) (ss_cons (ss_set 3 S__law_blown.nd (se_lst (sa_nil))) (ss_cons (ss_for PassesOwn.never rfl (si_range1 rfl T.b_range (se_name 2)) (sg_name 4 S__law_blown.nd) (ss_one (ss_for PassesOwn.never rfl (si_seq (se_name 1)) (sg_name 5 S__law_blown.nd) (ss_cons (ss_asg (se_call [none] G__law_split (hr.mono (by omega)) m__law_split kp__law_split b__law_split (sp_cons (sb_exp (se_name 5)) (sp_nil))) (sg_tup rfl (sgs_cons (sg_name 6 S__law_blown.nd) (sgs_cons (sg_name 7 S__law_blown.nd) (sgs_nil))) rfl rfl (consG_len (consG_len (fun _ _ _ h => nilG_len h))))) (ss_one (ss_expr (se_append 3 (se_add (sb_name 6) (sb_exp (se_tuple1 rfl T.b_tuple (sp_cons (sb_exp (se_lc (vs := [8]) rfl S__law_blown.nd (si_seq (se_name 7)) (blkOk_by (own := [("link", 8)]) (by show blkC ["draws", "kind", "copies", "knots", "copy", "knot", "head", "links", "link"] (defScope s__law_blown) _ _ = true; decide +kernel)) rfl (fun _ _ _ _ _ => sg_name 8 S__law_blown.nd) (fun _ _ _ _ _ => sts_nil) (fun _ _ _ _ _ => se_add (sb_name 8) (sb_exp (se_mul (sb_exp (se_len rfl T.b_len (sp_cons (sb_name 1) (sp_nil)))) (sb_exp (se_call [some 0, none] G__law_draw (hr.mono (by omega)) m__law_draw kp__law_draw b__law_draw (sp_cons (sb_name 0) (sp_cons (sb_exp (se_name 2)) (sp_nil)))))))))) (sp_nil)))))))))))) (ss_one (ss_ret (se_move 3)))))
theorem ok__law_blown (T : Txt P w K mg) : OkD P w K mg base (He.fAd K ("_law_blown", none)) 2 ["draws", "kind"] d__law_blown := by
  obtain ⟨fd, Fd⟩ := T.f__law_blown
  exact ⟨fd, at__law_blown T Fd, Fd.bindsN fun _ _ _ _ _ _ us hl => match us, hl with | [_, _], _ => rfl, Fd.kp⟩
theorem at_law (T : Txt P w K mg) {fd : FuncData} (Fd : FnP K "law" "law" s_law (He.fAd K ("law", none)) fd) : FnOk P w K mg base CX0 11 (He.fAd K ("law", none)) fd ["script"] (spOf P w K 1 d_law) := by
  obtain ⟨fd__law_draws, G__law_draws, b__law_draws, kp__law_draws⟩ := ok__law_draws (base := base) T
  have m__law_draws : mg "_law_draws" = some (.ref (He.fAd K ("_law_draws", none))) := T.m__law_draws
  obtain ⟨fd__law_draw, G__law_draw, b__law_draw, kp__law_draw⟩ := ok__law_draw (base := base) T
  have m__law_draw : mg "_law_draw" = some (.ref (He.fAd K ("_law_draw", none))) := T.m__law_draw
  obtain ⟨fd__law_any_plain, G__law_any_plain, b__law_any_plain, kp__law_any_plain⟩ := ok__law_any_plain (base := base) T
  have m__law_any_plain : mg "_law_any_plain" = some (.ref (He.fAd K ("_law_any_plain", none))) := T.m__law_any_plain
  obtain ⟨fd__law_blown, G__law_blown, b__law_blown, kp__law_blown⟩ := ok__law_blown (base := base) T
  have m__law_blown : mg "_law_blown" = some (.ref (He.fAd K ("_law_blown", none))) := T.m__law_blown
  obtain ⟨fd_GraphKind_init, G_GraphKind_init, b_GraphKind_init, kp_GraphKind_init⟩ := ok_GraphKind_init (base := base) T
  obtain ⟨fd__law_asked, G__law_asked, b__law_asked, kp__law_asked⟩ := ok__law_asked (base := base) T
  have m__law_asked : mg "_law_asked" = some (.ref (He.fAd K ("_law_asked", none))) := T.m__law_asked
  refine fn_den (k := 10) (bf := body_law) Fd S_law [false] [] rfl (by decide) (by decide) (fun cdv A outer s H E hr => ?_)
  exact ss_cons (ss_set 1 S_law.nd (se_call [none] G__law_draws (hr.mono (by omega)) m__law_draws kp__law_draws b__law_draws (sp_cons (sb_exp (se_name 0)) (sp_nil)))) (ss_cons (ss_set 2 S_law.nd (se_sub (sb_exp (se_int)) (sb_exp (se_call [some 1, none] G__law_draw (hr.mono (by omega)) m__law_draw kp__law_draw b__law_draw (sp_cons (sb_name 1) (sp_cons (sb_exp (se_int)) (sp_nil))))))) (ss_cons (ss_setLc (vs := [4]) (i := 3) rfl S_law.nd (si_range1 rfl T.b_range (se_int)) (blkOk_by (own := [("k", 4)]) (by show blkC ["script", "draws", "many", "turns", "k", "plains", "forms", "plain", "form", "kinds"] (defScope s_law) _ _ = true; decide +kernel)) rfl (fun _ _ _ _ _ => sg_name 4 S_law.nd) (fun _ _ _ _ _ => sts_nil) (fun _ _ _ _ _ => se_call [some 1, none] G__law_draw (hr.mono (by omega)) m__law_draw kp__law_draw b__law_draw (sp_cons (sb_name 1) (sp_cons (sb_exp (se_int)) (sp_nil))))) (ss_cons (ss_set 5 S_law.nd (se_lst (sa_nil))) (ss_cons (ss_set 6 S_law.nd (se_lst (sa_nil))) (ss_cons (ss_for PassesOwn.never rfl (si_range1 rfl T.b_range (se_name 2)) (sg_name 4 S_law.nd) (ss_cons (ss_set 7 S_law.nd (se_call [some 1, some 5, none, none] G__law_any_plain (hr.mono (by omega)) m__law_any_plain kp__law_any_plain b__law_any_plain (sp_cons (sb_name 1) (sp_cons (sb_name 5) (sp_cons (sb_exp (se_name 4)) (sp_cons (sb_exp (se_name 3)) (sp_nil))))))) (ss_cons (ss_expr (se_append 5 (se_name 7))) (ss_cons (ss_set 8 S_law.nd (se_name 7)) (ss_cons (ss_if (st_eq hr (sb_exp (se_call [some 1, none] G__law_draw (hr.mono (by omega)) m__law_draw kp__law_draw b__law_draw (sp_cons (sb_name 1) (sp_cons (sb_exp (se_int)) (sp_nil))))) (sb_exp (se_int))) (ss_one (ss_set 8 S_law.nd (se_tuple1 rfl T.b_tuple (sp_cons (sb_exp (se_call [some 1, none] G__law_blown (hr.mono (by omega)) m__law_blown kp__law_blown b__law_blown (sp_cons (sb_name 1) (sp_cons (sb_exp (se_name 7)) (sp_nil))))) (sp_nil))))) (ss_nil)) (ss_one (ss_expr (se_append 6 (se_name 8))))))))) (ss_cons (ss_setLc (vs := [8]) (i := 9) rfl S_law.nd (si_seq (se_name 6)) (blkOk_by (own := [("form", 8)]) (by show blkC ["script", "draws", "many", "turns", "k", "plains", "forms", "plain", "form", "kinds"] (defScope s_law) _ _ = true; decide +kernel)) rfl (fun _ _ _ _ _ => sg_name 8 S_law.nd) (fun _ _ _ _ _ => sts_nil) (fun _ _ _ _ _ => se_make T.mk_GraphKind G_GraphKind_init (hr.mono (by omega)) T.m_GraphKind b_GraphKind_init (sp_cons (sb_exp (se_name 8)) (sp_nil)) (PfLen.mk (pfl_cons (pfl_nil))))) (ss_cons (ss_if (SW.st (sw_or (st_not (st_val (se_call [none, none] G__law_asked (hr.mono (by omega)) m__law_asked kp__law_asked b__law_asked (sp_cons (sb_exp (se_lst (sa_nil))) (sp_cons (sb_exp (se_lst (sa_nil))) (sp_nil)))))) (sw_or1 (st_not (st_val (se_call [none, none] G__law_asked (hr.mono (by omega)) m__law_asked kp__law_asked b__law_asked (sp_cons (sb_exp (se_name 9)) (sp_cons (sb_exp (se_name 5)) (sp_nil))))))))) (ss_one (ss_ret (se_bl))) (ss_nil)) (ss_cons (ss_if (SW.st (sw_or (st_not (st_val (se_call [none, none] G__law_asked (hr.mono (by omega)) m__law_asked kp__law_asked b__law_asked (sp_cons (sb_exp (se_rev (sb_name 9))) (sp_cons (sb_exp (se_rev (sb_name 5))) (sp_nil)))))) (sw_or1 (st_not (st_val (se_call [none, none] G__law_asked (hr.mono (by omega)) m__law_asked kp__law_asked b__law_asked (sp_cons (sb_exp (se_add (sb_name 9) (sb_name 9))) (sp_cons (sb_exp (se_add (sb_name 5) (sb_name 5))) (sp_nil))))))))) (ss_one (ss_ret (se_bl))) (ss_nil)) (ss_one (ss_ret (se_and (se_call [none, none] G__law_asked (hr.mono (by omega)) m__law_asked kp__law_asked b__law_asked (sp_cons (sb_exp (se_slice (sb_name 9) (so_none) (so_some (se_int)))) (sp_cons (sb_exp (se_slice (sb_name 5) (so_none) (so_some (se_int)))) (sp_nil)))) (se_one (se_call [none, none] G__law_asked (hr.mono (by omega)) m__law_asked kp__law_asked b__law_asked (sp_cons (sb_exp (se_name 9)) (sp_cons (sb_exp (se_name 5)) (sp_nil))))))))))))))))
theorem ok_law (T : Txt P w K mg) : OkD P w K mg base (He.fAd K ("law", none)) 11 ["script"] d_law := by
  obtain ⟨fd, Fd⟩ := T.f_law
  exact ⟨fd, at_law T Fd, Fd.bindsN fun _ _ _ _ _ _ us hl => match us, hl with | [_], _ => rfl, Fd.kp⟩
end
end K15

set_option maxHeartbeats 0
namespace K15
open PySem PySem.Spec PyProof.Rows L2 B
theorem txt {P : Program} {w : World} {K : PySem.W.Frag} {h : Heap} {mg : Str → Option Value} (X : K.In h) (G : h.Ns mainGlobals mg) (c : SaysX fa fn ts xs w K) : Txt P w K mg where
  f__law_draws := c.d.def_ 0 (d := dd__law_draws) rfl
  m__law_draws := He.glo_ok X G (c.d.fact 0 (f := .glo "_law_draws") rfl)
  f__law_draw := c.d.def_ 1 (d := dd__law_draw) rfl
  m__law_draw := He.glo_ok X G (c.d.fact 1 (f := .glo "_law_draw") rfl)
  f__law_split := c.d.def_ 2 (d := dd__law_split) rfl
  m__law_split := He.glo_ok X G (c.d.fact 2 (f := .glo "_law_split") rfl)
  f__law_marked := c.d.def_ 3 (d := dd__law_marked) rfl
  m__law_marked := He.glo_ok X G (c.d.fact 3 (f := .glo "_law_marked") rfl)
  f__law_groups := c.d.def_ 4 (d := dd__law_groups) rfl
  m__law_groups := He.glo_ok X G (c.d.fact 4 (f := .glo "_law_groups") rfl)
  f__law_least := c.d.def_ 5 (d := dd__law_least) rfl
  m__law_least := He.glo_ok X G (c.d.fact 5 (f := .glo "_law_least") rfl)
  f__law_spine_of := c.d.def_ 6 (d := dd__law_spine_of) rfl
  m__law_spine_of := He.glo_ok X G (c.d.fact 6 (f := .glo "_law_spine_of") rfl)
  f__law_near_knot := c.d.def_ 7 (d := dd__law_near_knot) rfl
  m__law_near_knot := He.glo_ok X G (c.d.fact 7 (f := .glo "_law_near_knot") rfl)
  f__law_near := c.d.def_ 8 (d := dd__law_near) rfl
  m__law_near := He.glo_ok X G (c.d.fact 8 (f := .glo "_law_near") rfl)
  f__law_raw_graph := c.d.def_ 9 (d := dd__law_raw_graph) rfl
  m__law_raw_graph := He.glo_ok X G (c.d.fact 9 (f := .glo "_law_raw_graph") rfl)
  f__law_graph := c.d.def_ 10 (d := dd__law_graph) rfl
  m__law_graph := He.glo_ok X G (c.d.fact 10 (f := .glo "_law_graph") rfl)
  f__law_any_plain := c.d.def_ 11 (d := dd__law_any_plain) rfl
  m__law_any_plain := He.glo_ok X G (c.d.fact 11 (f := .glo "_law_any_plain") rfl)
  f_numbered := c.d.def_ 12 (d := dd_numbered) rfl
  m_numbered := He.glo_ok X G (c.d.fact 12 (f := .glo "numbered") rfl)
  f_mark_of := c.d.def_ 13 (d := dd_mark_of) rfl
  m_mark_of := He.glo_ok X G (c.d.fact 13 (f := .glo "mark_of") rfl)
  f_grouped := c.d.def_ 14 (d := dd_grouped) rfl
  m_grouped := He.glo_ok X G (c.d.fact 14 (f := .glo "grouped") rfl)
  f_first_members := c.d.def_ 15 (d := dd_first_members) rfl
  m_first_members := He.glo_ok X G (c.d.fact 15 (f := .glo "first_members") rfl)
  f_least := c.d.def_ 16 (d := dd_least) rfl
  m_least := He.glo_ok X G (c.d.fact 16 (f := .glo "least") rfl)
  f_heads_of := c.d.def_ 17 (d := dd_heads_of) rfl
  m_heads_of := He.glo_ok X G (c.d.fact 17 (f := .glo "heads_of") rfl)
  f_links_of := c.d.def_ 18 (d := dd_links_of) rfl
  m_links_of := He.glo_ok X G (c.d.fact 18 (f := .glo "links_of") rfl)
  f_seen_from := c.d.def_ 19 (d := dd_seen_from) rfl
  m_seen_from := He.glo_ok X G (c.d.fact 19 (f := .glo "seen_from") rfl)
  f_least_kind := c.d.def_ 20 (d := dd_least_kind) rfl
  m_least_kind := He.glo_ok X G (c.d.fact 20 (f := .glo "least_kind") rfl)
  f_has_bare_ring := c.d.def_ 21 (d := dd_has_bare_ring) rfl
  m_has_bare_ring := He.glo_ok X G (c.d.fact 21 (f := .glo "has_bare_ring") rfl)
  f_GraphKind_init := c.d.def_ 22 (d := dd_GraphKind_init) rfl
  f__law_twice_product := c.d.def_ 23 (d := dd__law_twice_product) rfl
  m__law_twice_product := He.glo_ok X G (c.d.fact 22 (f := .glo "_law_twice_product") rfl)
  f__law_same := c.d.def_ 24 (d := dd__law_same) rfl
  m__law_same := He.glo_ok X G (c.d.fact 23 (f := .glo "_law_same") rfl)
  f_most_knots := c.d.def_ 25 (d := dd_most_knots) rfl
  m_most_knots := He.glo_ok X G (c.d.fact 24 (f := .glo "most_knots") rfl)
  f__law_asked := c.d.def_ 26 (d := dd__law_asked) rfl
  m__law_asked := He.glo_ok X G (c.d.fact 25 (f := .glo "_law_asked") rfl)
  f__law_blown := c.d.def_ 27 (d := dd__law_blown) rfl
  m__law_blown := He.glo_ok X G (c.d.fact 26 (f := .glo "_law_blown") rfl)
  f_law := c.d.def_ 28 (d := dd_law) rfl
  m_law := He.glo_ok X G (c.d.fact 27 (f := .glo "law") rfl)
  b_bool := He.free_ok X G (c.d.fact 28 (f := .free "bool") rfl)
  b_dict := He.free_ok X G (c.d.fact 29 (f := .free "dict") rfl)
  b_enumerate := He.free_ok X G (c.d.fact 30 (f := .free "enumerate") rfl)
  b_int := He.free_ok X G (c.d.fact 31 (f := .free "int") rfl)
  b_isinstance := He.free_ok X G (c.d.fact 32 (f := .free "isinstance") rfl)
  b_len := He.free_ok X G (c.d.fact 33 (f := .free "len") rfl)
  b_list := He.free_ok X G (c.d.fact 34 (f := .free "list") rfl)
  b_range := He.free_ok X G (c.d.fact 35 (f := .free "range") rfl)
  b_set := He.free_ok X G (c.d.fact 36 (f := .free "set") rfl)
  b_str := He.free_ok X G (c.d.fact 37 (f := .free "str") rfl)
  b_tuple := He.free_ok X G (c.d.fact 38 (f := .free "tuple") rfl)
  m_GraphKind := He.glo_ok X G (c.d.fact 39 (f := .glo "GraphKind") rfl)
  cl_GraphKind := He.cls_ok (c.d.fact 40 (f := .cls "GraphKind") rfl)
  mk_GraphKind := He.mkr_ok (c.d.fact 41 (f := .mkr "GraphKind") rfl)
  na_GraphKind_knots := He.noat_ok (c.d.fact 42 (f := .noat "GraphKind" "knots") rfl)
  k_GraphKind_LIMIT := He.conB_ok (v := .int 12) (c.x 0 rfl)
  v_KIND_LINKS := ⟨_, He.glo_ok X G (c.d.fact 43 (f := .glo "KIND_LINKS") rfl), rfl⟩
  c_KIND_LINKS := fun F => .dk (.inr (ktab_of (a := fun K => He.ga K "KIND_LINKS") (ks := ["fun", "pair", "box"]) (vs := [.int 2, .int 2, .int 1]) (c.tabW 0 rfl) (c.x 1 rfl) (by decide) (by decide))) rfl (.cons (.int 2) (.cons (.int 2) (.cons (.int 1) .nil)))
theorem sp_law {P : Program} {w : World} {K : PySem.W.Frag} (H : Hp) (a : Addr) (ns : List Int) (hl : ns.length ≤ 63) (hS : SqL K H a (ns.map V.int)) : spOf P w K 1 d_law [.ref a] H (fun v _ => v = .bl true) fun _ _ _ => False := by
  obtain ⟨outs, e⟩ := law_true ns hl
  refine ⟨[.dat (.lst (ns.map .int))], H, fun _ => none, fun _ => [], rfl, ⟨Ex.refl _, fun _ _ q => (nomatch q), fun _ _ => rfl, fun i l q => ?_, fun _ _ => rfl, fun i j b hb => (nomatch hb), fun i b hb => (nomatch hb), rfl⟩, ?_⟩
  · cases i with
    | zero =>
      have e : L.dat (.lst (ns.map .int)) = l := by simpa using q
      subst e
      exact ⟨.ref a, rfl, rfl, .lst hS (DatL.ints ns)⟩
    | succ i => simp at q
  · rw [e]
    intro v F' H' ow' ad R' ex hl' ap
    obtain ⟨_, hd⟩ := hl'
    cases hd
    rfl
end K15
open PySem PySem.W PySem.Calls PyProof.Rows
theorem PySem.Challenge.cw_boxedmiddles_k15_products_of_knots_holds : PySem.Challenge.rw_boxedmiddles_k15_products_of_knots.Holds := by
  w_on; o_law
  refine HandSHeadRun.head_any (r := OpenLaw.row PySem.Challenge.rw_boxedmiddles_k15_products_of_knots) (q := view (OpenLaw.row PySem.Challenge.rw_boxedmiddles_k15_products_of_knots).prog [91]) (H := K15.hk) (ob := K15.ob) (M := 6000) (loose := K15.loose) (d := HandSHeadRun.topDef (OpenLaw.row PySem.Challenge.rw_boxedmiddles_k15_products_of_knots).prog 91) (kwd := []) K15.ob_eq
    (by kernel_rfl) (fun s => by kernel_rfl) K15.run (by kernel_rfl) (by kernel_rfl) (by kernel_rfl) (by rfl) (by first | assumption | decide +kernel) (by decide +kernel) ⟨rfl, rfl, rfl, rfl, rfl, by decide +kernel⟩ ?hw ?hc
  case hw => w_witness2
  case hc =>
    refine L2.walk_ofE (l := PySem.Challenge.rw_boxedmiddles_k15_products_of_knots) (n := 63) (k := 11) (x := "script") (CX := L2.CX0) rfl (by decide) (by kernel_rfl) ⟨rfl, by decide, by decide⟩ ?F (fun _ _ _ _ z => z)
    intro w mg fa h Y G hmg0
    obtain ⟨K, KX, c⟩ := Y
    have hmg : mg ("law" : PySem.Str) = some (.ref fa) := by
      have e : (HandSHeadRun.topDef (OpenLaw.row PySem.Challenge.rw_boxedmiddles_k15_products_of_knots).prog 91).name = ("law" : PySem.Str) := by kernel_rfl
      rw [← e]
      exact hmg0
    have T := K15.txt (P := (PySem.Challenge.rw_boxedmiddles_k15_products_of_knots).prog) (w := w) KX G c
    obtain ⟨fd, Fd⟩ := T.f_law
    have e0 := hmg.symm.trans T.m_law
    cases e0
    exact ⟨K, fd, B.spOf _ w K 1 K15.d_law, KX, fun s u => L2.FunD.bindsA (ps := ["script"]) Fd (fun _ _ _ _ _ _ us hl => match us, hl with | [_], _ => rfl) s [u] rfl, fun H a ns hl _ hS => K15.sp_law H a ns hl hS, fun base hK hB => K15.at_law (base := base) T Fd⟩

