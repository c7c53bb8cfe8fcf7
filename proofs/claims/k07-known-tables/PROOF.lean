import PyProof.Rows.All
import Wide.All
import OpenK.AllK
import Wide.FinOn
import HandS.ForMost
import HandS.Wide
import HandS.WideBits
import HandS.Zip
import HandS.TupAny
import HandS.TupMul
import HandS.Conv
import HandS.Deep
import HandS.Rev
import HandS.Flow
import PyProof.ReprRoads
import KE.SortData
import HandS.TupLe
import HandS.SortInts
import HandS.RaiseMore
import KE.KTupSum
import KE.KSortedM
import KE.GoesNew
import KE.GoesMore
import KE.GoesEnum
import KE.KDictZip
import HandS.TryOnly
import KE.KExcSuper
import HandS.ExcIs
import HandS.More
import HandS.Small
import HandS.Style
import HandS.IsInst
import HandS.WordsExc
import HandS.Ends
import PyProof.Rows.BitMore
import PyProof.ReprLen
import PySem.Challenge.RW_fullsense_k07_known_tables
set_option Elab.async false
set_option linter.all false
set_option maxRecDepth 100000
set_option maxHeartbeats 2000000
namespace DS
open PySem L2
abbrev P := PyData
inductive D where
  | p (x : P)
  | r (n : Nat)
  | s (xs : List P)
inductive MO where
  | lst (xs : List P)
  | dic (kvs : List (Key × D))
  | dit (kvs : List (List Key × D))
abbrev DEnv := List (Option D)
abbrev Sto := List MO
def KTon : Bool := false
def KT (K : PySem.W.Frag) (a : Addr) (xs : List V) : Prop :=
  KTon = true ∧ ∃ (o : Obj) (its : Array Value) (n : Nat), K.lookup a = some o ∧ o.cls = .type "tuple" ∧ o.data = .seq its n ∧ its.size ≤ sizeLine ∧ Vals xs its.toList
def KL (K : PySem.W.Frag) (a : Addr) (xs : List V) : Prop :=
  ∃ (o : Obj) (its : Array Value) (n : Nat), K.lookup a = some o ∧ o.cls = .type "list" ∧ o.dict = none ∧ o.data = .seq its n ∧ its.size ≤ sizeLine ∧ Vals xs its.toList
def keyD : Key → P
  | .inl i => .int i
  | .inr x => .str x
section
variable (U : List Addr) (K : PySem.W.Frag) (H : Hp)
mutual
inductive RepP : P → V → Prop
  | non : RepP .none .non
  | bl (b : Bool) : RepP (.bool b) (.bl b)
  | int (i : Int) : RepP (.int i) (.int i)
  | str (x : Str) : RepP (.str x) (.str x)
  | lst {a : Addr} {xs : List V} {ds : List P} : a ∉ U → H a = some (.lst xs) → RepPs ds xs → RepP (.list ds) (.ref a)
  | tup {a : Addr} {xs : List V} {ds : List P} : (a ∉ U ∧ H a = some (.tup xs)) ∨ KT K a xs → RepPs ds xs → RepP (.tuple ds) (.ref a)
  | dic {a : Addr} {ws : List (Key × V)} {ds : List P} : a ∉ U → H a = some (.dK ws) → RepPs ds (ws.map (·.2)) → RepP (.dict ((ws.map fun w => keyD w.1).zip ds)) (.ref a)
inductive RepPs : List P → List V → Prop
  | nil : RepPs [] []
  | cons {v : V} {vs : List V} {d : P} {ds : List P} : RepP d v → RepPs ds vs → RepPs (d :: ds) (v :: vs)
end
end
def RepD (U : List Addr) (K : PySem.W.Frag) (ρ : List Addr) (H : Hp) : D → V → Prop
  | .p x, v => RepP U K H x v
  | .r n, v => ∃ a, v = .ref a ∧ ρ[n]? = some a
  | .s xs, v => ∃ a vs, v = .ref a ∧ ((a ∉ U ∧ Rd H a (.lst vs)) ∨ KL K a vs) ∧ RepPs U K H xs vs
abbrev RepDs (U : List Addr) (K : PySem.W.Frag) (ρ : List Addr) (H : Hp) : List D → List V → Prop := Paired (RepD U K ρ H)
def RepKv {κ : Type} (U : List Addr) (K : PySem.W.Frag) (ρ : List Addr) (H : Hp) : List (κ × D) → List (κ × V) → Prop := Paired fun p q => p.1 = q.1 ∧ RepD U K ρ H p.2 q.2
def MOk (U : List Addr) (K : PySem.W.Frag) (ρ : List Addr) (H : Hp) (a : Addr) : MO → Prop
  | .lst xs => ∃ vs, H a = some (.lst vs) ∧ RepPs U K H xs vs
  | .dic kvs => ∃ ws, H a = some (.dK ws) ∧ RepKv U K ρ H kvs ws
  | .dit kvs => ∃ ws, H a = some (.dT ws) ∧ RepKv U K ρ H kvs ws
structure StOk (U : List Addr) (K : PySem.W.Frag) (ρ : List Addr) (S : Sto) (H : Hp) : Prop where
  len : S.length = ρ.length
  nd : ρ.Nodup
  sub : ∀ a, a ∈ ρ → a ∈ U
  live : ∀ a, a ∈ U → H a ≠ none
  at_ : ∀ (n : Nat) (a : Addr) (m : MO), ρ[n]? = some a → S[n]? = some m → MOk U K ρ H a m
structure Ext (U ρ : List Addr) (H : Hp) (U' ρ' : List Addr) (H' : Hp) : Prop where
  nw : ∃ n, U' = U ++ n ∧ ρ' = ρ ++ n ∧ ∀ a, a ∈ n → H a = none
  keep : ∀ a o, H a = some o → a ∉ ρ → H' a = some o
  live : ∀ a, H a ≠ none → H' a ≠ none
def EnvOk (U : List Addr) (K : PySem.W.Frag) (ρ : List Addr) (H : Hp) (env : DEnv) (σ : St) : Prop :=
  env.length = σ.length ∧ ∀ (i : Nat) (d : D), env[i]? = some (some d) → ∃ v, σ[i]? = some (some v) ∧ RepD U K ρ H d v
theorem Ext.refl (U ρ : List Addr) (H : Hp) : Ext U ρ H U ρ H := ⟨⟨[], by simp, by simp, by simp⟩, fun _ _ h _ => h, fun _ h => h⟩
theorem Ext.trans {U ρ U1 ρ1 U2 ρ2 : List Addr} {H H1 H2 : Hp} (e : Ext U ρ H U1 ρ1 H1) (f : Ext U1 ρ1 H1 U2 ρ2 H2) : Ext U ρ H U2 ρ2 H2 := by
  obtain ⟨n, eu, er, hn⟩ := e.nw
  obtain ⟨m, fu, fr, hm⟩ := f.nw
  refine ⟨⟨n ++ m, by rw [fu, eu, List.append_assoc], by rw [fr, er, List.append_assoc], fun a ha => ?_⟩, fun a o h hr => ?_, fun a h => f.live a (e.live a h)⟩
  · rcases List.mem_append.mp ha with ha | ha
    · exact hn a ha
    · have h1 := hm a ha
      cases q : H a with
      | none => rfl
      | some o => exact absurd h1 (e.live a (by rw [q]; simp))
  · refine f.keep a o (e.keep a o h hr) fun hm' => ?_
    rw [er] at hm'
    rcases List.mem_append.mp hm' with h' | h'
    · exact hr h'
    · rw [hn a h'] at h; cases h
theorem Ext.grow {U ρ : List Addr} {H H' : Hp} (k : ∀ a o, H a = some o → H' a = some o) : Ext U ρ H U ρ H' :=
  ⟨⟨[], by simp, by simp, by simp⟩, fun a o h _ => k a o h, fun a h => by
    cases q : H a with
    | none => exact absurd q h
    | some o => rw [k a o q]; simp⟩
section
variable {U ρ U' ρ' : List Addr} {K : PySem.W.Frag} {H H' : Hp}
theorem Ext.notin (e : Ext U ρ H U' ρ' H') {a : Addr} (h : a ∉ U) (hl : H a ≠ none) : a ∉ U' := by
  obtain ⟨n, eu, _, hn⟩ := e.nw
  rw [eu]
  intro hm
  rcases List.mem_append.mp hm with h' | h'
  · exact h h'
  · exact hl (hn a h')
theorem Ext.rd (e : Ext U ρ H U' ρ' H') {a : Addr} {u : HO} (h : a ∉ ρ) (r : Rd H a u) : Rd H' a u := by
  rcases r with r | ⟨o, r⟩
  · exact .inl (e.keep a _ r h)
  · exact .inr ⟨o, e.keep a _ r h⟩
theorem rd_live {H : Hp} {a : Addr} {u : HO} (r : Rd H a u) : H a ≠ none := by
  rcases r with r | ⟨o, r⟩ <;> rw [r] <;> simp
mutual
theorem RepP.mono (e : Ext U ρ H U' ρ' H') (sub : ∀ a, a ∈ ρ → a ∈ U) : ∀ {d : P} {v : V}, RepP U K H d v → RepP U' K H' d v
  | _, _, .non => .non
  | _, _, .bl b => .bl b
  | _, _, .int i => .int i
  | _, _, .str x => .str x
  | _, _, .lst h r q => .lst (e.notin h (by rw [r]; simp)) (e.keep _ _ r (fun z => h (sub _ z))) (RepPs.mono e sub q)
  | _, _, .tup (.inl ⟨h, r⟩) q => .tup (.inl ⟨e.notin h (by rw [r]; simp), e.keep _ _ r (fun z => h (sub _ z))⟩) (RepPs.mono e sub q)
  | _, _, .tup (.inr h) q => .tup (.inr h) (RepPs.mono e sub q)
  | _, _, .dic h r q => .dic (e.notin h (by rw [r]; simp)) (e.keep _ _ r (fun z => h (sub _ z))) (RepPs.mono e sub q)
theorem RepPs.mono (e : Ext U ρ H U' ρ' H') (sub : ∀ a, a ∈ ρ → a ∈ U) : ∀ {ds : List P} {vs : List V}, RepPs U K H ds vs → RepPs U' K H' ds vs
  | _, _, .nil => .nil
  | _, _, .cons h t => .cons (RepP.mono e sub h) (RepPs.mono e sub t)
end
mutual
theorem RepP.less (sub : ∀ a, a ∈ U' → a ∈ U) : ∀ {d : P} {v : V}, RepP U K H d v → RepP U' K H d v
  | _, _, .non => .non
  | _, _, .bl b => .bl b
  | _, _, .int i => .int i
  | _, _, .str x => .str x
  | _, _, .lst h r q => .lst (fun z => h (sub _ z)) r (RepPs.less sub q)
  | _, _, .tup (.inl ⟨h, r⟩) q => .tup (.inl ⟨fun z => h (sub _ z), r⟩) (RepPs.less sub q)
  | _, _, .tup (.inr h) q => .tup (.inr h) (RepPs.less sub q)
  | _, _, .dic h r q => .dic (fun z => h (sub _ z)) r (RepPs.less sub q)
theorem RepPs.less (sub : ∀ a, a ∈ U' → a ∈ U) : ∀ {ds : List P} {vs : List V}, RepPs U K H ds vs → RepPs U' K H ds vs
  | _, _, .nil => .nil
  | _, _, .cons h t => .cons (RepP.less sub h) (RepPs.less sub t)
end
theorem RepD.mono (e : Ext U ρ H U' ρ' H') (sub : ∀ a, a ∈ ρ → a ∈ U) {d : D} {v : V} (h : RepD U K ρ H d v) : RepD U' K ρ' H' d v := by
  cases d with
  | p x => exact RepP.mono e sub h
  | r n =>
    obtain ⟨a, rfl, h⟩ := h
    obtain ⟨m, _, er, _⟩ := e.nw
    exact ⟨a, rfl, by rw [er, List.getElem?_append_left (List.getElem?_eq_some_iff.mp h).1]; exact h⟩
  | s xs =>
    obtain ⟨a, vs, rfl, h1, h3⟩ := h
    exact ⟨a, vs, rfl, h1.imp (fun z => ⟨e.notin z.1 (rd_live z.2), e.rd (fun y => z.1 (sub _ y)) z.2⟩) id, RepPs.mono e sub h3⟩
theorem RepDs.mono (e : Ext U ρ H U' ρ' H') (sub : ∀ a, a ∈ ρ → a ∈ U) : ∀ {ds : List D} {vs : List V}, RepDs U K ρ H ds vs → RepDs U' K ρ' H' ds vs
  | _, _, .nil => .nil
  | _, _, .cons h t => .cons (RepD.mono e sub h) (RepDs.mono e sub t)
theorem RepKv.mono {κ : Type} (e : Ext U ρ H U' ρ' H') (sub : ∀ a, a ∈ ρ → a ∈ U) : ∀ {ds : List (κ × D)} {vs : List (κ × V)}, RepKv U K ρ H ds vs → RepKv U' K ρ' H' ds vs
  | _, _, .nil => .nil
  | _, _, .cons h t => .cons ⟨h.1, RepD.mono e sub h.2⟩ (RepKv.mono e sub t)
theorem EnvOk.mono (e : Ext U ρ H U' ρ' H') (sub : ∀ a, a ∈ ρ → a ∈ U) {env : DEnv} {σ : St} (h : EnvOk U K ρ H env σ) : EnvOk U' K ρ' H' env σ :=
  ⟨h.1, fun i d hi => let ⟨v, h1, h2⟩ := h.2 i d hi; ⟨v, h1, RepD.mono e sub h2⟩⟩
theorem MOk.grow (e : Ext U ρ H U' ρ' H') (sub : ∀ a, a ∈ ρ → a ∈ U) {a : Addr} (k : ∀ o, H a = some o → H' a = some o) : ∀ {m : MO}, MOk U K ρ H a m → MOk U' K ρ' H' a m
  | .lst _, ⟨vs, h, r⟩ => ⟨vs, k _ h, RepPs.mono e sub r⟩
  | .dic _, ⟨ws, h, r⟩ => ⟨ws, k _ h, RepKv.mono e sub r⟩
  | .dit _, ⟨ws, h, r⟩ => ⟨ws, k _ h, RepKv.mono e sub r⟩
theorem StOk.grow {S : Sto} (h : StOk U K ρ S H) (k : ∀ a o, H a = some o → H' a = some o) : StOk U K ρ S H' :=
  ⟨h.len, h.nd, h.sub, fun a ha => (Ext.grow (U := U) (ρ := ρ) k).live a (h.live a ha), fun n a m h1 h2 => (h.at_ n a m h1 h2).grow (Ext.grow k) h.sub (k a)⟩
theorem grow_new {p : Addr} {o : HO} (h : H p = none) : ∀ a u, H a = some u → upd H p o a = some u := fun a u e => by rw [upd_ne (ne_of_none e h)]; exact e
theorem StOk.fresh {S : Sto} (h : StOk U K ρ S H) {p : Addr} (hp : H p = none) : p ∉ U := fun z => h.live p z hp
theorem hasD_cons {x : P} {l : List P} (h : PyData.hasDictAll (x :: l) = false) : x.hasDict = false ∧ PyData.hasDictAll l = false := by
  have h : (x.hasDict || PyData.hasDictAll l) = false := h
  simpa using h
mutual
theorem RepP.dp (u : ∀ a xs, KT K a xs → SqT K H a xs) : ∀ {d : P} {v : V}, RepP U K H d v → d.hasDict = false → Dp K H v d
  | _, _, .non, _ => .non
  | _, _, .bl b, _ => .bl b
  | _, _, .int i, _ => .int i
  | _, _, .str x, _ => .str x
  | _, _, .lst h r q, n => .lst (.inl (.inl r)) (RepPs.dp u q n)
  | _, _, .tup (.inl ⟨h, r⟩) q, n => .tup (.inl (.inl r)) (RepPs.dp u q n)
  | _, _, .tup (.inr h) q, n => .tup (u _ _ h) (RepPs.dp u q n)
  | _, _, .dic _ _ _, n => nomatch (show true = false from n)
theorem RepPs.dp (u : ∀ a xs, KT K a xs → SqT K H a xs) : ∀ {ds : List P} {vs : List V}, RepPs U K H ds vs → PyData.hasDictAll ds = false → DpAll K H vs ds
  | _, _, .nil, _ => .nil
  | _, _, .cons h t, n => .cons (RepP.dp u h (hasD_cons n).1) (RepPs.dp u t (hasD_cons n).2)
end
theorem kt_sq {a : Addr} {xs : List V} (h : KT K a xs) : SqT K H a xs := .inr h.2
theorem RepPs.length : ∀ {ds : List P} {vs : List V}, RepPs U K H ds vs → ds.length = vs.length
  | _, _, .nil => rfl
  | _, _, .cons _ t => by rw [List.length_cons, List.length_cons, RepPs.length t]
theorem RepPs.append : ∀ {ds es : List P} {vs ws : List V}, RepPs U K H ds vs → RepPs U K H es ws → RepPs U K H (ds ++ es) (vs ++ ws)
  | _, _, _, _, .nil, h => h
  | _, _, _, _, .cons h t, q => .cons h (RepPs.append t q)
theorem RepPs.get : ∀ {ds : List P} {vs : List V} {i : Nat} {d : P}, RepPs U K H ds vs → ds[i]? = some d → ∃ v, vs[i]? = some v ∧ RepP U K H d v
  | _, _, _, _, .nil, h => by simp at h
  | _, _, 0, _, .cons h _, e => by simp at e; subst e; exact ⟨_, rfl, h⟩
  | _, _, i + 1, d, .cons _ t, e => by
    obtain ⟨v, h1, h2⟩ := RepPs.get (i := i) (d := d) t (by simpa using e)
    exact ⟨v, by simpa using h1, h2⟩
theorem RepPs.getV : ∀ {ds : List P} {vs : List V} {i : Nat} {v : V}, RepPs U K H ds vs → vs[i]? = some v → ∃ d, ds[i]? = some d ∧ RepP U K H d v
  | _, _, _, _, .nil, h => by simp at h
  | _, _, 0, _, .cons h _, e => by simp at e; subst e; exact ⟨_, rfl, h⟩
  | _, _, i + 1, v, .cons _ t, e => by
    obtain ⟨d, h1, h2⟩ := RepPs.getV (i := i) (v := v) t (by simpa using e)
    exact ⟨d, by simpa using h1, h2⟩
theorem RepPs.take : ∀ {ds : List P} {vs : List V} (n : Nat), RepPs U K H ds vs → RepPs U K H (ds.take n) (vs.take n)
  | _, _, 0, _ => .nil
  | _, _, _ + 1, .nil => .nil
  | _, _, n + 1, .cons h t => .cons h (RepPs.take n t)
theorem RepPs.drop : ∀ {ds : List P} {vs : List V} (n : Nat), RepPs U K H ds vs → RepPs U K H (ds.drop n) (vs.drop n)
  | _, _, 0, h => h
  | _, _, _ + 1, .nil => .nil
  | _, _, n + 1, .cons _ t => RepPs.drop n t
theorem RepPs.set {x : P} {v : V} (r : RepP U K H x v) : ∀ {ds : List P} {vs : List V} (i : Nat), RepPs U K H ds vs → RepPs U K H (ds.set i x) (vs.set i v)
  | _, _, _, .nil => .nil
  | _, _, 0, .cons _ t => .cons r t
  | _, _, i + 1, .cons q t => .cons q (RepPs.set r i t)
theorem RepPs.replicate {ds : List P} {vs : List V} (h : RepPs U K H ds vs) : ∀ n : Nat, RepPs U K H (List.replicate n ds).flatten (List.replicate n vs).flatten
  | 0 => .nil
  | n + 1 => by
    rw [List.replicate_succ, List.replicate_succ, List.flatten_cons, List.flatten_cons]
    exact h.append (RepPs.replicate h n)
theorem RepPs.reverse : ∀ {ds : List P} {vs : List V}, RepPs U K H ds vs → RepPs U K H ds.reverse vs.reverse
  | _, _, .nil => .nil
  | _, _, .cons h t => by
    rw [List.reverse_cons, List.reverse_cons]
    exact (RepPs.reverse t).append (.cons h .nil)
theorem RepPs.ints : ∀ {ns : List Int} {vs : List V}, RepPs U K H (ns.map PyData.int) vs → vs = ns.map V.int
  | [], _, .nil => rfl
  | n :: ns, _, .cons h t => by
    cases h
    rw [RepPs.ints t, List.map_cons]
theorem RepPs.of_ints : ∀ ns : List Int, RepPs U K H (ns.map PyData.int) (ns.map V.int)
  | [] => .nil
  | n :: ns => .cons (.int n) (RepPs.of_ints ns)
end
def snapM : Option MO → Option P
  | some (.lst xs) => some (.list xs)
  | _ => none
def snap (S : Sto) : D → Option P
  | .p x => some x
  | .r n => snapM S[n]?
  | .s xs => some (.list xs)
def snapE (S : Sto) : D → Option P
  | .p x => some x
  | .r n => snapM S[n]?
  | .s _ => none
theorem snap_of_E {S : Sto} {d : D} {x : P} (h : snapE S d = some x) : snap S d = some x := by
  cases d with
  | p y => exact h
  | r n => exact h
  | s xs => cases h
theorem snapM_some {o : Option MO} {x : P} (h : snapM o = some x) : ∃ xs, o = some (.lst xs) ∧ x = .list xs := by
  cases o with
  | none => cases h
  | some m =>
    cases m with
    | lst xs => exact ⟨xs, rfl, (Option.some.inj h).symm⟩
    | dic kvs => cases h
    | dit kvs => cases h
section
variable {U ρ : List Addr} {K : PySem.W.Frag} {H : Hp} {S : Sto} {d : D} {v : V}
theorem snap_dp {x : P} (st : StOk U K ρ S H) (h : snap S d = some x) (r : RepD U K ρ H d v) (nd : x.hasDict = false) : Dp K H v x := by
  cases d with
  | p y =>
    obtain rfl : y = x := Option.some.inj h
    exact RepP.dp (fun _ _ => kt_sq) r nd
  | r n =>
    obtain ⟨a, rfl, ha⟩ := r
    obtain ⟨xs, e, rfl⟩ := snapM_some (show snapM S[n]? = some x from h)
    obtain ⟨vs, h1, h2⟩ := st.at_ n a _ ha e
    exact .lst (.inl (.inl h1)) (RepPs.dp (fun _ _ => kt_sq) h2 nd)
  | s xs =>
    obtain ⟨a, vs, rfl, h2, h3⟩ := r
    cases h
    exact .lst (show SqL K H a vs from h2.elim (fun z => Or.inl z.2) Or.inr) (RepPs.dp (fun _ _ => kt_sq) h3 nd)
theorem snapE_rep {x : P} (st : StOk U K ρ S H) (h : snapE S d = some x) (r : RepD U K ρ H d v) : RepP [] K H x v := by
  cases d with
  | p y =>
    obtain rfl : y = x := Option.some.inj h
    exact RepP.less (fun _ h => by cases h) r
  | r n =>
    obtain ⟨a, rfl, ha⟩ := r
    obtain ⟨xs, e, rfl⟩ := snapM_some (show snapM S[n]? = some x from h)
    obtain ⟨vs, h1, h2⟩ := st.at_ n a _ ha e
    exact .lst (fun h => by cases h) h1 (RepPs.less (fun _ h => by cases h) h2)
  | s xs => cases h
theorem snap_list {xs : List P} (st : StOk U K ρ S H) (h : snap S d = some (.list xs)) (r : RepD U K ρ H d v) : ∃ a vs, v = .ref a ∧ SqL K H a vs ∧ RepPs U K H xs vs := by
  cases d with
  | p y =>
    obtain rfl : y = .list xs := Option.some.inj h
    cases r with
    | lst _ h2 h3 => exact ⟨_, _, rfl, .inl (.inl h2), h3⟩
  | r n =>
    obtain ⟨a, rfl, ha⟩ := r
    obtain ⟨ys, e, q⟩ := snapM_some (show snapM S[n]? = some (.list xs) from h)
    cases q
    obtain ⟨vs, h1, h2⟩ := st.at_ n a _ ha e
    exact ⟨a, vs, rfl, .inl (.inl h1), h2⟩
  | s ys =>
    obtain ⟨a, vs, rfl, h2, h3⟩ := r
    cases h
    exact ⟨a, vs, rfl, h2.elim (fun z => Or.inl z.2) Or.inr, h3⟩
theorem snapE_list {xs : List P} (st : StOk U K ρ S H) (h : snapE S d = some (.list xs)) (r : RepD U K ρ H d v) : ∃ a vs, v = .ref a ∧ H a = some (.lst vs) ∧ RepPs U K H xs vs := by
  cases d with
  | p y =>
    obtain rfl : y = .list xs := Option.some.inj h
    cases r with
    | lst _ h2 h3 => exact ⟨_, _, rfl, h2, h3⟩
  | r n =>
    obtain ⟨a, rfl, ha⟩ := r
    obtain ⟨ys, e, q⟩ := snapM_some (show snapM S[n]? = some (.list xs) from h)
    cases q
    obtain ⟨vs, h1, h2⟩ := st.at_ n a _ ha e
    exact ⟨a, vs, rfl, h1, h2⟩
  | s ys => cases h
theorem snap_tup {xs : List P} (h : snap S d = some (.tuple xs)) (r : RepD U K ρ H d v) : ∃ a vs, v = .ref a ∧ SqT K H a vs ∧ RepPs U K H xs vs := by
  cases d with
  | p y =>
    obtain rfl : y = .tuple xs := Option.some.inj h
    cases r with
    | tup h2 h3 =>
      refine ⟨_, _, rfl, ?_, h3⟩
      rcases h2 with h2 | h2
      · exact .inl (.inl h2.2)
      · exact .inr h2.2
  | r n =>
    obtain ⟨ys, e, q⟩ := snapM_some (show snapM S[n]? = some (.tuple xs) from h)
    cases q
  | s ys => cases h
theorem snap_sc {x : P} (h : snap S d = some x) (r : RepD U K ρ H d v) (hx : ∀ xs, x ≠ .list xs) : RepP U K H x v := by
  cases d with
  | p y =>
    obtain rfl : y = x := Option.some.inj h
    exact r
  | r n =>
    obtain ⟨ys, e, q⟩ := snapM_some (show snapM S[n]? = some x from h)
    exact absurd q (hx _)
  | s ys => exact absurd (Option.some.inj h).symm (hx _)
theorem snap_int {i : Int} (h : snap S d = some (.int i)) (r : RepD U K ρ H d v) : v = .int i := by
  have q := snap_sc h r (fun _ z => nomatch z)
  cases q; rfl
theorem snap_str {x : Str} (h : snap S d = some (.str x)) (r : RepD U K ρ H d v) : v = .str x := by
  have q := snap_sc h r (fun _ z => nomatch z)
  cases q; rfl
theorem snap_bl {b : Bool} (h : snap S d = some (.bool b)) (r : RepD U K ρ H d v) : v = .bl b := by
  have q := snap_sc h r (fun _ z => nomatch z)
  cases q; rfl
theorem snap_non (h : snap S d = some .none) (r : RepD U K ρ H d v) : v = .non := by
  have q := snap_sc h r (fun _ z => nomatch z)
  cases q; rfl
end
end DS
set_option maxRecDepth 100000
set_option maxHeartbeats 2000000
namespace DS
open PySem L2
inductive BI where
  | len | int1 | abs | max2 | min2 | maxl | minl | sum | any | all | tup | lst | str1 | repr | srt
  deriving DecidableEq
inductive ME where
  | append | extend | pop0 | pop1 | insert | cntT | cntL
  deriving DecidableEq
inductive C where
  | nil | cons (a b : C)
  | var (i : Nat) | cint (i : Int) | cstr (x : Str) | cbl (b : Bool) | cnon | glb (g : Nat)
  | bin (op : Operator) (a b : C) | neg (a : C) | inv (a : C)
  | cmp (op : CmpOp) (a b : C) | chn (op op' : CmpOp) (a b c : C)
  | and (a b : C) | or (a b : C) | not (a : C) | ite (c a b : C)
  | tup (es : C) | lst (es : C) | mk (a : C)
  | cal (f mode : Nat) (es : C) | cak (f mode : Nat) (es ks : C) (perm : List Nat)
  | bi (b : BI) (es : C) | rpl (es : C) | isi (T : String) (a : C)
  | ix (a b : C) | dix (a b : C) | sl (a lo hi : C)
  | lc (elt tg it cnd : C) (own : List Nat)
  | lrg1 (t : Bool) (a : C) | lrg2 (t : Bool) (a b : C) | lzp (a b : C) | rvl (a : C) | dit0 | dik0 | lel (a : C)
  | mth (m : ME) (o es : C) | dgt (o k f : C)
  | dpl (ks : List Key) (es : C) | dp0 | rpv (a : C)
  | dic (ks : List Key) (es : C) | din (neg : Bool) (a b : C)
  -- what a for walks
  | rg1 (a : C) | rg2 (a b : C) | rg3 (a b c : C) | sq (a : C) | tq (a : C) | xq (a : C) | en (a : C) | zp (a b : C)
  -- targets
  | tnm (i : Nat) | ttp (ts : C)
  -- statements
  | pass | brk | cnt | ex (e : C) | asg (t e : C) | par (is : List Nat) (es : C) | setl (o i e : C) | setd (o i e : C) | set2 (o i o2 i2 e : C)
  | rsx | tri (b : C) (z : PyData) | tra (b : C) (i : Nat) (z : PyData) | rvt (a : C)
  | ret (e : C) | retN | rse | ifs (c a b : C) | fors (t it body : C) | whl (fuel : Nat) (c body : C)
inductive Fl where
  | nx | bk | ct | rt (d : D)
inductive Src where
  | it (l : List P) | rl (n : Nat) | rg (lo c : Int) (n : Nat) | en (a : Src) | zp (a b : Src)
def atS (S : Sto) : Src → Nat → Option P
  | .it l, i => l[i]?
  | .rl n, i => match snapM S[n]? with
    | some (.list xs) => xs[i]?
    | _ => none
  | .rg lo c n, i => if i < n then some (.int (lo + (i : Int) * c)) else none
  | .en a, i => (atS S a i).map fun x => .tuple [.int (i : Int), x]
  | .zp a b, i => (atS S a i).bind fun x => (atS S b i).map fun y => .tuple [x, y]
def lenS (S : Sto) : Src → Nat
  | .it l => l.length
  | .rl n => match snapM S[n]? with
    | some (.list xs) => xs.length
    | _ => 0
  | .rg _ _ n => n
  | .en a => lenS S a
  | .zp a b => min (lenS S a) (lenS S b)
def mulOk (i j : Int) : Bool := decide (-18446744073709551616 < i ∧ i < 18446744073709551616) || decide (-18446744073709551616 < j ∧ j < 18446744073709551616) || (Nat.blt i.natAbs.log2 9000 && Nat.blt j.natAbs.log2 9000)
def powOk (i j : Int) : Bool := decide (0 ≤ j ∧ j ≤ 1000000 ∧ i.natAbs < 18446744073709551616)
def onI (o : Bool) (v : P) : Option P := if o = true then some v else none
def binI (op : Operator) (i j : Int) : Option P :=
  match op with
  | .Add => some (.int (i + j))
  | .Sub => some (.int (i - j))
  | .Mult => onI (mulOk i j) (.int (i * j))
  | .FloorDiv => onI (decide (0 < j) && (decide (j < 1073741824) || Nat.blt j.natAbs.log2 9000)) (.int (i / j))
  | .Mod => onI (decide (0 < j)) (.int (i % j))
  | .Pow => onI (powOk i j) (.int (i ^ j.toNat))
  | .LShift => onI (powOk i j) (.int (i * 2 ^ j.toNat))
  | .RShift => onI (decide (0 ≤ j)) (.int (i / 2 ^ j.toNat))
  | .BitAnd => some (.int (Builtin.bitAnd i j))
  | .BitOr => some (.int (Builtin.bitOr i j))
  | .BitXor => some (.int (Builtin.bitXor i j))
  | _ => none
def fitsN (n : Nat) : Bool := decide (n ≤ 16777216)
def binP (op : Operator) : P → P → Option P
  | .int i, .int j => binI op i j
  | .str a, .str b => if op = .Add then onI (fitsN (a.length + b.length)) (.str (a ++ b)) else none
  | .tuple xs, .tuple ys => if op = .Add then onI (fitsN (xs.length + ys.length)) (.tuple (xs ++ ys)) else none
  | .tuple xs, .int k => if op = .Mult then onI (decide (-9223372036854775808 ≤ k ∧ k ≤ 1000) && decide (xs.length ≤ 1000)) (.tuple (List.replicate k.toNat xs).flatten) else none
  | .list xs, .list ys => if op = .Add then onI (fitsN (xs.length + ys.length)) (.list (xs ++ ys)) else none
  | .list xs, .int k => if op = .Mult then onI (decide (-9223372036854775808 ≤ k ∧ k < 9223372036854775808) && fitsN (xs.length * k.toNat)) (.list (List.replicate k.toNat xs).flatten) else none
  | _, _ => none
def scP : P → P → Bool
  | .none, .none | .none, .int _ | .int _, .none | .none, .bool _ | .bool _, .none | .none, .str _ | .str _, .none => true
  | .int _, .int _ | .bool _, .bool _ | .str _, .str _ => true
  | _, _ => false
def okB (o b : Bool) : Option Bool := if o = true then some b else none
def intsOf : List P → Option (List Int)
  | [] => some []
  | .int i :: r => (intsOf r).map (i :: ·)
  | _ :: _ => none
def blsOf : List P → Option (List Bool)
  | [] => some []
  | .bool b :: r => (blsOf r).map (b :: ·)
  | _ :: _ => none
def cmpP (op : CmpOp) (x y : P) : Option Bool :=
  match op with
  | .Eq => okB (scP x y || (SeqAt.shaped x && SeqAt.shaped y)) (PyData.eqv x y)
  | .NotEq => okB (scP x y || (SeqAt.shaped x && SeqAt.shaped y)) (!PyData.eqv x y)
  | .Lt => match x, y with
    | .int i, .int j => some (decide (i < j))
    | .str a, .str b => some (decide (a.cps.toList < b.cps.toList))
    | .tuple xs, .tuple ys => (intsOf xs).bind fun ns => (intsOf ys).map fun ms => HT.lexLt ns ms
    | _, _ => none
  | .LtE => match x, y with
    | .int i, .int j => some (decide (i ≤ j))
    | .tuple xs, .tuple ys => (intsOf xs).bind fun ns => (intsOf ys).map fun ms => Ob.lexAt (fun j => decide (ns.getD j 0 = ms.getD j 0)) (fun j => decide (ns.getD j 0 ≤ ms.getD j 0)) (decide (ns.length ≤ ms.length)) 0 (min ns.length ms.length)
    | _, _ => none
  | .Gt => match x, y with
    | .int i, .int j => some (decide (j < i))
    | _, _ => none
  | .GtE => match x, y with
    | .int i, .int j => some (decide (j ≤ i))
    | _, _ => none
  | .Is => match x, y with
    | .none, .none => some true
    | .int _, .none | .bool _, .none | .str _, .none | .tuple _, .none | .list _, .none | .dict _, .none => some false
    | _, _ => none
  | .IsNot => match x, y with
    | .none, .none => some false
    | .int _, .none | .bool _, .none | .str _, .none | .tuple _, .none | .list _, .none | .dict _, .none => some true
    | _, _ => none
  | .In => match y with
    | .list ys | .tuple ys => okB (SeqAt.shaped x && SeqAt.shaped (.list ys)) (ys.any fun z => PyData.eqv z x)
    | .str b => match x with
      | .str a => some (!(Builtin.Str.occurrences b a 0 b.length 1).isEmpty)
      | _ => none
    | _ => none
  | .NotIn => match y with
    | .list ys | .tuple ys => okB (SeqAt.shaped x && SeqAt.shaped (.list ys)) (!ys.any fun z => PyData.eqv z x)
    | .str b => match x with
      | .str a => some (!(!(Builtin.Str.occurrences b a 0 b.length 1).isEmpty))
      | _ => none
    | _ => none
def insI (n : Int) : List Int → List Int
  | [] => [n]
  | m :: r => match decide (n ≤ m) with
    | true => n :: m :: r
    | false => m :: insI n r
def sortI : List Int → List Int
  | [] => []
  | n :: r => insI n (sortI r)
def insD (x : P) : List P → List P
  | [] => [x]
  | y :: r => match PySem.W.dataLe false (fun z : P => z) x y with
    | true => x :: y :: r
    | false => y :: insD x r
def sortD : List P → List P
  | [] => []
  | x :: r => insD x (sortD r)
def tupB : P → Bool
  | .tuple (_ :: _) => true
  | _ => false
def plnB : P → Bool
  | .none => false
  | .tuple _ => false
  | .dict _ => false
  | _ => true
def srtOk (xs : List P) : Bool := xs.all (fun x => xs.all fun y => PySem.W.alike x y) && (xs.all tupB || xs.all plnB) && xs.all (fun x => decide (x.depth ≤ 64)) && fitsN xs.length && !PyData.hasDictAll xs
def maxI : List Int → Int
  | [] => 0
  | [x] => x
  | x :: r => max x (maxI r)
def minI : List Int → Int
  | [] => 0
  | [x] => x
  | x :: r => min x (minI r)
def biF : BI → List P → Option P
  | .len, [.list xs] => some (.int (xs.length : Int))
  | .len, [.tuple xs] => some (.int (xs.length : Int))
  | .len, [.str x] => onI (fitsN x.length) (.int (x.length : Int))
  | .int1, [.int i] => some (.int i)
  | .int1, [.bool b] => some (.int (if b = true then 1 else 0))
  | .int1, [.str a] => match PySem.intText? a with
    | some n => onI (decide (a.length ≤ 640)) (.int n)
    | none => none
  | .abs, [.int i] => some (.int (if i < 0 then -i else i))
  | .max2, [.int i, .int j] => some (.int (if j > i then j else i))
  | .min2, [.int i, .int j] => some (.int (if j < i then j else i))
  | .maxl, [.list xs] => (intsOf xs).bind fun ns => onI (decide (0 < ns.length)) (.int (maxI ns))
  | .minl, [.list xs] => (intsOf xs).bind fun ns => onI (decide (0 < ns.length)) (.int (minI ns))
  | .sum, [.list xs] => (intsOf xs).map fun ns => .int ns.sum
  | .sum, [.tuple xs] => (intsOf xs).map fun ns => .int ns.sum
  | .any, [.list xs] => (blsOf xs).map fun bs => .bool (bs.any id)
  | .all, [.list xs] => (blsOf xs).map fun bs => .bool (bs.all id)
  | .tup, [.list xs] => some (.tuple xs)
  | .tup, [.tuple xs] => some (.tuple xs)
  | .lst, [.list xs] => some (.list xs)
  | .lst, [.tuple xs] => some (.list xs)
  | .srt, [.list xs] => onI (srtOk xs) (.list (sortD xs))
  | .srt, [.tuple xs] => onI (srtOk xs) (.list (sortD xs))
  | .str1, [.int i] => onI (decide (i.natAbs.log2 < 1920)) (.str (Str.ofString (toString i)))
  | .str1, [.str x] => some (.str x)
  | .repr, [x] => onI (PyData.showable x && !PyData.hasDict x && decide (x.depth ≤ 64) && fitsN x.shown.length) (.str x.shown)
  | _, _ => none
def typP : P → String
  | .none => "NoneType"
  | .bool _ => "bool"
  | .int _ => "int"
  | .str _ => "str"
  | .list _ => "list"
  | .tuple _ => "tuple"
  | .dict _ => "dict"
def isiP (T : String) (x : P) : Bool := typP x == T || (T == "int" && typP x == "bool")
def cutP {α : Type} (xs : List α) (lo hi : Option Int) : List α := (xs.drop (HT.sIx xs.length 0 lo)).take (HT.sIx xs.length xs.length hi - HT.sIx xs.length 0 lo)
def slP (lo hi : Option Int) : P → Option P
  | .list xs => some (.list (cutP xs lo hi))
  | .tuple xs => some (.tuple (cutP xs lo hi))
  | .str x => onI (fitsN x.length) (.str (cutS x lo hi))
  | _ => none
def ixP : P → P → Option P
  | .list xs, .int i => atI xs i
  | .tuple xs, .int i => atI xs i
  | .str x, .int i => if fitsN x.length = true then (atI x.cps.toList i).map fun c => .str ⟨#[c]⟩ else none
  | _, _ => none
def purD : D → Option P
  | .p x => some x
  | _ => none
def pursD : List D → Option (List P)
  | [] => some []
  | d :: r => (purD d).bind fun x => (pursD r).map (x :: ·)
def lzL : Option P → Option (List P)
  | some (.list xs) => some xs
  | some (.tuple xs) => some xs
  | _ => none
def snaps (S : Sto) : List D → Option (List P)
  | [] => some []
  | d :: r => (snap S d).bind fun x => (snaps S r).map (x :: ·)
def keyT1 : P → Option Key
  | .int i => some (.inl i)
  | .str x => some (.inr x)
  | _ => none
def keyTs : List P → Option (List Key)
  | [] => some []
  | x :: r => (keyT1 x).bind fun k => (keyTs r).map (k :: ·)
def keyT : P → Option (List Key)
  | .tuple xs => match KTon with
    | true => none
    | false => keyTs xs
  | _ => none
def keyP : P → Option Key
  | .int i => some (.inl i)
  | .str x => some (.inr x)
  | _ => none
def dGet {κ : Type} [DecidableEq κ] (kvs : List (κ × D)) (k : κ) : Option D := (kvs.find? fun kv => decide (kv.1 = k)).map (·.2)
def dPut {κ : Type} [DecidableEq κ] (kvs : List (κ × D)) (k : κ) (d : D) : List (κ × D) :=
  if (kvs.any fun kv => decide (kv.1 = k)) = true then kvs.map (fun kv => if kv.1 = k then (kv.1, d) else kv) else kvs ++ [(k, d)]
def belowD (n : Nat) : D → Bool
  | .r k => decide (k < n)
  | _ => true
def belowM (n : Nat) : MO → Bool
  | .lst _ => true
  | .dic kvs => kvs.all fun kv => belowD n kv.2
  | .dit kvs => kvs.all fun kv => belowD n kv.2
def backD (n : Nat) (S : Sto) : D → Option D
  | .p x => some (.p x)
  | .r k => if k < n then some (.r k) else (snapM S[k]?).map .p
  | .s _ => none
def permD : List Nat → List D → Option (List D)
  | [], _ => some []
  | i :: r, l => match l[i]? with
    | some d => (permD r l).map (d :: ·)
    | none => none
def XN : Nat := 1000
abbrev FT := Nat → List D → Sto → Option (D × Sto)
def callD (F : FT) (f mode : Nat) (ds : List D) (S : Sto) : Option (D × Sto) :=
  match mode with
  | 0 => (pursD ds).bind fun xs => (F f (xs.map .p) []).bind fun r => (backD 0 r.2 r.1).map fun d => (d, S)
  | 1 => (F f ds S).bind fun r => if decide (S.length ≤ r.2.length) && (r.2.take S.length).all (belowM S.length) then (backD S.length r.2 r.1).map fun d => (d, r.2.take S.length) else none
  | _ => F f ds S
def mthD (m : ME) (o : D) (ds : List D) (S : Sto) : Option (D × Sto) :=
  match m, o, ds with
  | .append, .r n, [.p y] => match snapM S[n]? with
    | some (.list xs) => if xs.length < 16777216 then some (.p .none, S.set n (.lst (xs ++ [y]))) else none
    | _ => none
  | .extend, .r n, [d] => match snapM S[n]?, snapE S d with
    | some (.list xs), some (.list ys) => if fitsN (xs.length + ys.length) = true then some (.p .none, S.set n (.lst (xs ++ ys))) else none
    | _, _ => none
  | .pop0, .r n, [] => match snapM S[n]? with
    | some (.list xs) => match xs[xs.length - 1]? with
      | some y => some (.p y, S.set n (.lst xs.dropLast))
      | none => none
    | _ => none
  | .pop1, .r n, [.p (.int i)] => match snapM S[n]? with
    | some (.list xs) => match ixN xs.length i with
      | some k => match xs[k]? with
        | some y => if -9223372036854775808 ≤ i ∧ i < 9223372036854775808 then some (.p y, S.set n (.lst (xs.eraseIdx k))) else none
        | none => none
      | none => none
    | _ => none
  | .insert, .r n, [.p (.int i), .p y] => match snapM S[n]? with
    | some (.list xs) => if 0 ≤ i ∧ i < 9223372036854775808 ∧ xs.length < 16777216 then some (.p .none, S.set n (.lst (xs.take i.toNat ++ [y] ++ xs.drop i.toNat))) else none
    | _ => none
  | _, _, _ => none
def setlD (o i e : D) (S : Sto) : Option Sto :=
  match o, i, e with
  | .r n, .p (.int k), .p y => match snapM S[n]? with
    | some (.list xs) => (ixN xs.length k).map fun j => S.set n (.lst (xs.set j y))
    | _ => none
  | _, _, _ => none
def setdD (o i e : D) (S : Sto) : Option Sto :=
  match o, i, e with
  | .r n, .p x, .p y => match S[n]?, keyP x with
    | some (.dic kvs), some k => if kvs.length < 16777216 then some (S.set n (.dic (dPut kvs k (.p y)))) else none
    | some (.dit kvs), _ => (keyT x).bind fun k => if kvs.length < 16777216 then some (S.set n (.dit (dPut kvs k (.p y)))) else none
    | _, _ => none
  | _, _, _ => none
def dixD (o i : D) (S : Sto) : Option D :=
  match o, i with
  | .r n, .p x => match S[n]?, keyP x with
    | some (.dic kvs), some k => dGet kvs k
    | some (.dit kvs), _ => (keyT x).bind fun k => dGet kvs k
    | _, _ => none
  | _, _ => none
def dinD (i o : D) (S : Sto) : Option Bool :=
  match o, i with
  | .r n, .p x => match S[n]?, keyP x with
    | some (.dic kvs), some k => some (dGet kvs k).isSome
    | some (.dit kvs), _ => (keyT x).map fun k => (dGet kvs k).isSome
    | _, _ => none
  | _, _ => none
def dgtD (o i f : D) (S : Sto) : Option D :=
  match o, i with
  | .r n, .p x => match S[n]?, keyP x with
    | some (.dic kvs), some k => some ((dGet kvs k).getD f)
    | some (.dit kvs), _ => (keyT x).map fun k => (dGet kvs k).getD f
    | _, _ => none
  | _, _ => none
def dicM : Option MO → Bool
  | some (.dic _) => true
  | some (.dit _) => true
  | _ => false
def dicL (S : Sto) : D → Bool
  | .r n => dicM S[n]?
  | _ => false
def ownL (S : Sto) : D → Bool
  | .r n => (snapM S[n]?).isSome
  | _ => false
def strSq (x : Str) : List P := x.cps.toList.map fun c => .str ⟨#[c]⟩
def seqSrc : D → Option Src
  | .p (.list xs) => some (.it xs)
  | .s xs => some (.it xs)
  | .r n => some (.rl n)
  | _ => none
def isRl (S : Sto) : Src → Bool
  | .rl n => (snapM S[n]?).isSome
  | .en a => isRl S a
  | .zp a b => isRl S a && isRl S b
  | _ => true
def okSq (S : Sto) (d : D) : Option Src := (seqSrc d).bind fun s => if isRl S s = true then some s else none
def zpS (S : Sto) : D → Option Src
  | .p (.tuple xs) => some (.it xs)
  | d => okSq S d
def rgOk (j : Int) : Bool := decide (-4611686018427387904 ≤ j ∧ j < 4611686018427387904)
def rgP (a b : Int) : List P := (List.range (b - a).toNat).map fun i => .int (a + (i : Nat))
def seqP (t : Bool) (xs : List P) : P := if t = true then .tuple xs else .list xs
def pairsP (xs ys : List P) : List P := (xs.zip ys).map fun p => .tuple [p.1, p.2]
def wipeE (env : DEnv) : List Nat → DEnv
  | [] => env
  | v :: vs => (wipeE env vs).set v none
mutual
def bindT : C → D → DEnv → Sto → Option DEnv
  | .tnm i, d, env, _ => if i < env.length then some (env.set i (some d)) else none
  | .ttp ts, .p (.tuple xs), env, S => bindTs ts xs env S
  | _, _, _, _ => none
def bindTs : C → List P → DEnv → Sto → Option DEnv
  | .nil, [], env, _ => some env
  | .cons t ts, x :: xs, env, S => (bindT t (.p x) env S).bind fun e => bindTs ts xs e S
  | _, _, _, _ => none
end
def loopG (ok : Sto → Bool) (g : Sto → Nat → Option P) (body : P → DEnv → Sto → Option (Fl × DEnv × Sto)) : Nat → Nat → DEnv → Sto → Option (Fl × DEnv × Sto)
  | 0, i, env, S => match g S i with
    | none => if ok S = true then some (.nx, env, S) else none
    | some _ => none
  | f + 1, i, env, S => match g S i with
    | none => if ok S = true then some (.nx, env, S) else none
    | some x => (body x env S).bind fun r => match r.1 with
      | .nx | .ct => loopG ok g body f (i + 1) r.2.1 r.2.2
      | .bk => some (.nx, r.2)
      | .rt d => some (.rt d, r.2)
def compG (ok : Sto → Bool) (g : Sto → Nat → Option P) (elt : P → Sto → Option (Option P × Sto)) : Nat → Nat → Sto → Option (List P × Sto)
  | 0, i, S => match g S i with
    | none => if ok S = true then some ([], S) else none
    | some _ => none
  | f + 1, i, S => match g S i with
    | none => if ok S = true then some ([], S) else none
    | some x => (elt x S).bind fun r => (compG ok g elt f (i + 1) r.2).map fun q => (r.1.toList ++ q.1, q.2)
def whileG (c : DEnv → Sto → Option (Bool × Sto)) (body : DEnv → Sto → Option (Fl × DEnv × Sto)) : Nat → DEnv → Sto → Option (Fl × DEnv × Sto)
  | 0, _, _ => none
  | f + 1, env, S => (c env S).bind fun b => match b.1 with
    | false => some (.nx, env, b.2)
    | true => (body env b.2).bind fun r => match r.1 with
      | .nx | .ct => whileG c body f r.2.1 r.2.2
      | .bk => some (.nx, r.2)
      | .rt d => some (.rt d, r.2)
def asB : Option (D × Sto) → Option (Bool × Sto)
  | some (.p (.bool b), S) => some (b, S)
  | _ => none
def isNil : C → Bool
  | .nil => true
  | _ => false
def partD (c : C) (r : Option (D × Sto)) (S : Sto) : Option (Option Int × Sto) :=
  if isNil c = true then some (none, S) else r.bind fun p => match p.1 with
    | .p (.int i) => some (some i, p.2)
    | _ => none
def condD (c : C) (r : Option (D × Sto)) (S : Sto) : Option (Bool × Sto) := if isNil c = true then some (true, S) else asB r
section
variable (F : FT) (G : Nat → Option P)
mutual
def denE : C → DEnv → Sto → Option (D × Sto)
  | .var i, env, S => match env[i]? with
    | some (some d) => some (d, S)
    | _ => none
  | .cint i, _, S => some (.p (.int i), S)
  | .cstr x, _, S => some (.p (.str x), S)
  | .cbl b, _, S => some (.p (.bool b), S)
  | .cnon, _, S => some (.p .none, S)
  | .glb g, _, S => (G g).map fun x => (.p x, S)
  | .bin op a b, env, S => (denE a env S).bind fun p => (denE b env p.2).bind fun q => (snapE q.2 p.1).bind fun x => (snapE q.2 q.1).bind fun y => (binP op x y).map fun z => (.p z, q.2)
  | .neg a, env, S => (denE a env S).bind fun p => match p.1 with
    | .p (.int i) => some (.p (.int (-i)), p.2)
    | _ => none
  | .inv a, env, S => (denE a env S).bind fun p => match p.1 with
    | .p (.int i) => some (.p (.int (Builtin.bitNot i)), p.2)
    | _ => none
  | .cmp op a b, env, S => (denE a env S).bind fun p => (denE b env p.2).bind fun q => (snap q.2 p.1).bind fun x => (snap q.2 q.1).bind fun y => (cmpP op x y).map fun z => (.p (.bool z), q.2)
  | .chn op op' a b c, env, S => (denE a env S).bind fun p => (denE b env p.2).bind fun q => (snap q.2 p.1).bind fun x => (snap q.2 q.1).bind fun y => (cmpP op x y).bind fun z => match z with
    | false => some (.p (.bool false), q.2)
    | true => (denE c env q.2).bind fun r => (snap r.2 q.1).bind fun y' => (snap r.2 r.1).bind fun w => (cmpP op' y' w).map fun z' => (.p (.bool z'), r.2)
  | .and a b, env, S => (asB (denE a env S)).bind fun p => match p.1 with
    | true => (asB (denE b env p.2)).map fun q => (.p (.bool q.1), q.2)
    | false => some (.p (.bool false), p.2)
  | .or a b, env, S => (asB (denE a env S)).bind fun p => match p.1 with
    | true => some (.p (.bool true), p.2)
    | false => (asB (denE b env p.2)).map fun q => (.p (.bool q.1), q.2)
  | .not a, env, S => (asB (denE a env S)).map fun p => (.p (.bool (!p.1)), p.2)
  | .ite c a b, env, S => (asB (denE c env S)).bind fun p => match p.1 with
    | true => denE a env p.2
    | false => denE b env p.2
  | .tup es, env, S => (denA es env S).bind fun p => (pursD p.1).bind fun xs => (onI (fitsN xs.length) (.tuple xs)).map fun z => (.p z, p.2)
  | .lst es, env, S => (denA es env S).bind fun p => (pursD p.1).bind fun xs => (onI (fitsN xs.length) (.list xs)).map fun z => (.p z, p.2)
  | .mk a, env, S => (denE a env S).bind fun p => match p.1 with
    | .p (.list xs) => some (.r p.2.length, p.2 ++ [.lst xs])
    | _ => none
  | .cal f m es, env, S => (denA es env S).bind fun p => callD F f m p.1 p.2
  | .cak f m es ks perm, env, S => (denA es env S).bind fun p => (denA ks env p.2).bind fun q => (permD perm (p.1 ++ q.1)).bind fun ds => callD F f m ds q.2
  | .bi b es, env, S => (denA es env S).bind fun p => (snaps p.2 p.1).bind fun xs => (biF b xs).map fun z => (.p z, p.2)
  | .rpl es, env, S => (denA es env S).bind fun p => (snaps p.2 p.1).bind fun xs => if fitsN xs.length = true then (biF .repr [.list xs]).map fun z => (.p z, p.2) else none
  | .isi T a, env, S => (denE a env S).bind fun p => (snapE p.2 p.1).map fun x => (.p (.bool (isiP T x)), p.2)
  | .ix a b, env, S => (denE a env S).bind fun p => (denE b env p.2).bind fun q => (snap q.2 p.1).bind fun x => (snap q.2 q.1).bind fun y => (ixP x y).map fun z => (.p z, q.2)
  | .dix a b, env, S => (denE a env S).bind fun p => (denE b env p.2).bind fun q => (dixD p.1 q.1 q.2).map fun d => (d, q.2)
  | .din n a b, env, S => (denE a env S).bind fun p => (denE b env p.2).bind fun q => (dinD p.1 q.1 q.2).map fun z => (.p (.bool (if n = true then !z else z)), q.2)
  | .sl a lo hi, env, S => (denE a env S).bind fun p => (partD lo (denE lo env p.2) p.2).bind fun q => (partD hi (denE hi env q.2) q.2).bind fun r => (snap r.2 p.1).bind fun x => (slP q.1 r.1 x).map fun z => (.p z, r.2)
  | .lc elt tg it cnd own, env, S => (denI it env S).bind fun p =>
      (if fitsN (lenS p.2 p.1) = true then some () else none).bind fun _ =>
      (compG (fun S => isRl S p.1) (fun S i => atS S p.1 i) (fun x S => (bindT tg (.p x) (wipeE env own) S).bind fun e => (condD cnd (denE cnd e S) S).bind fun t => match t.1 with
        | true => (denE elt e t.2).bind fun q => (purD q.1).map fun y => (some y, q.2)
        | false => some (none, t.2)) (lenS p.2 p.1) 0 p.2).map fun q => (.p (.list q.1), q.2)
  | .lrg1 t a, env, S => (denE a env S).bind fun p => match p.1 with
    | .p (.int j) => if rgOk j = true ∧ fitsN j.toNat = true then some (.p (seqP t (rgP 0 j)), p.2) else none
    | _ => none
  | .lrg2 t a b, env, S => (denE a env S).bind fun p => (denE b env p.2).bind fun q => match p.1, q.1 with
    | .p (.int i), .p (.int j) => if rgOk i = true ∧ rgOk j = true ∧ fitsN (j - i).toNat = true then some (.p (seqP t (rgP i j)), q.2) else none
    | _, _ => none
  | .lzp a b, env, S => (denE a env S).bind fun p => (denE b env p.2).bind fun q => match lzL (snap q.2 p.1), lzL (snap q.2 q.1) with
    | some xs, some ys => if fitsN (xs.zip ys).length = true then some (.p (.list (pairsP xs ys)), q.2) else none
    | _, _ => none
  | .lel a, env, S => (denE a env S).bind fun p => match snap p.2 p.1 with
    | some (.list xs) => if fitsN xs.length = true then some (.p (.list (pairsP (rgP 0 xs.length) xs)), p.2) else none
    | _ => none
  | .dit0, _, S => some (.r S.length, S ++ [.dit []])
  | .dik0, _, S => some (.r S.length, S ++ [.dic []])
  | .rvt a, env, S => (denE a env S).bind fun p => match snap p.2 p.1 with
    | some (.tuple xs) => some (.p (.tuple xs.reverse), p.2)
    | _ => none
  | .rvl a, env, S => (denE a env S).bind fun p => match snap p.2 p.1 with
    | some (.list xs) => some (.p (.list xs.reverse), p.2)
    | _ => none
  | .dgt o k f, env, S => (denE o env S).bind fun p => if dicL p.2 p.1 = true then (denE k env p.2).bind fun q => (denE f env q.2).bind fun r => (dgtD p.1 q.1 r.1 r.2).map fun d => (d, r.2) else none
  | .mth m o es, env, S => (denE o env S).bind fun p => if ownL p.2 p.1 = true then (denA es env p.2).bind fun q => mthD m p.1 q.1 q.2 else none
  | .dic ks es, env, S => (denA es env S).bind fun p => if ks.length = p.1.length ∧ ks.length ≤ 15 ∧ ks.Nodup then some (.r p.2.length, p.2 ++ [.dic (ks.zip p.1)]) else none
  | .dp0, _, S => some (.p (.dict []), S)
  | .dpl ks es, env, S => (denA es env S).bind fun p => (pursD p.1).bind fun xs => if ks.length = xs.length ∧ ks.length ≤ 15 ∧ ks.Nodup then some (.p (.dict ((ks.map keyD).zip xs)), p.2) else none
  | .rpv a, env, S => (denE a env S).bind fun p => (snapE p.2 p.1).bind fun x => if (PyData.showable x && decide (x.depth ≤ 64) && fitsN x.shown.length) = true then some (.p (.str x.shown), p.2) else none
  | _, _, _ => none
def denA : C → DEnv → Sto → Option (List D × Sto)
  | .nil, _, S => some ([], S)
  | .cons a b, env, S => (denE a env S).bind fun p => (denA b env p.2).map fun q => (p.1 :: q.1, q.2)
  | _, _, _ => none
def denI : C → DEnv → Sto → Option (Src × Sto)
  | .rg1 a, env, S => (denE a env S).bind fun p => match p.1 with
    | .p (.int j) => if rgOk j = true then some (.rg 0 1 j.toNat, p.2) else none
    | _ => none
  | .rg2 a b, env, S => (denE a env S).bind fun p => (denE b env p.2).bind fun q => match p.1, q.1 with
    | .p (.int i), .p (.int j) => if rgOk i = true ∧ rgOk j = true then some (.rg i 1 (j - i).toNat, q.2) else none
    | _, _ => none
  | .rg3 a b c, env, S => (denE a env S).bind fun p => (denE b env p.2).bind fun q => (denE c env q.2).bind fun r => match p.1, q.1, r.1 with
    | .p (.int i), .p (.int j), .p (.int k) => if 0 < k ∧ k < 1073741824 ∧ Builtin.Range.small i j k = true then some (.rg i k (Builtin.Range.rangeSize i j k).toNat, r.2) else none
    | _, _, _ => none
  | .sq a, env, S => (denE a env S).bind fun p => match p.1 with
    | .p (.tuple xs) => some (.it xs, p.2)
    | .p (.str x) => some (.it (strSq x), p.2)
    | d => (okSq p.2 d).map fun s => (s, p.2)
  | .tq a, env, S => (denE a env S).bind fun p => match p.1 with
    | .p (.tuple xs) => some (.it xs, p.2)
    | _ => none
  | .xq a, env, S => (denE a env S).bind fun p => match p.1 with
    | .p (.str x) => some (.it (strSq x), p.2)
    | _ => none
  | .en a, env, S => (denE a env S).bind fun p => match p.1 with
    | .p (.tuple xs) => some (.en (.it xs), p.2)
    | d => (okSq p.2 d).map fun s => (.en s, p.2)
  | .zp a b, env, S => (denE a env S).bind fun p => (denE b env p.2).bind fun q => (zpS q.2 p.1).bind fun s => (zpS q.2 q.1).map fun t => (.zp s t, q.2)
  | _, _, _ => none
end
mutual
def rxE : C → DEnv → Sto → Option Sto
  | .cal f m es, env, S => (denA F G es env S).bind fun p => (callD F (f + XN) m p.1 p.2).map (·.2)
  | .cak f m es ks perm, env, S => (denA F G es env S).bind fun p => (denA F G ks env p.2).bind fun q => (permD perm (p.1 ++ q.1)).bind fun ds => (callD F (f + XN) m ds q.2).map (·.2)
  | .ite c a b, env, S => (asB (denE F G c env S)).bind fun p => match p.1 with
    | true => rxE a env p.2
    | false => rxE b env p.2
  | .tup es, env, S => rxA es env S
  | .lst es, env, S => rxA es env S
  | _, _, _ => none
def rxA : C → DEnv → Sto → Option Sto
  | .cons a b, env, S => match rxE a env S with
    | some S' => some S'
    | none => (denE F G a env S).bind fun p => rxA b env p.2
  | _, _, _ => none
end
def denT (c : C) (env : DEnv) (S : Sto) : Option (Bool × Sto) := asB (denE F G c env S)
def bindPar : List Nat → List D → DEnv → Option DEnv
  | [], [], env => some env
  | i :: is, d :: ds, env => if i < env.length then bindPar is ds (env.set i (some d)) else none
  | _, _, _ => none
mutual
def denS : C → DEnv → Sto → Option (Fl × DEnv × Sto)
  | .pass, env, S => some (.nx, env, S)
  | .brk, env, S => some (.bk, env, S)
  | .cnt, env, S => some (.ct, env, S)
  | .ex e, env, S => (denE F G e env S).map fun p => (.nx, env, p.2)
  | .asg t e, env, S => (denE F G e env S).bind fun p => (bindT t p.1 env p.2).map fun e' => (.nx, e', p.2)
  | .par is es, env, S => (denA F G es env S).bind fun p => (bindPar is p.1 env).map fun e' => (.nx, e', p.2)
  | .setl o i e, env, S => (denE F G e env S).bind fun p => (denE F G o env p.2).bind fun q => (denE F G i env q.2).bind fun r => (setlD q.1 r.1 p.1 r.2).map fun S' => (.nx, env, S')
  | .setd o i e, env, S => (denE F G e env S).bind fun p => (denE F G o env p.2).bind fun q => (denE F G i env q.2).bind fun r => (setdD q.1 r.1 p.1 r.2).map fun S' => (.nx, env, S')
  | .set2 o i o2 i2 e, env, S => (denE F G e env S).bind fun p => match p.1 with
    | .p (.tuple [x, y]) => (denE F G o env p.2).bind fun q => (denE F G i env q.2).bind fun r => (setlD q.1 r.1 (.p x) r.2).bind fun S1 =>
        (denE F G o2 env S1).bind fun q2 => (denE F G i2 env q2.2).bind fun r2 => (setlD q2.1 r2.1 (.p y) r2.2).map fun S' => (.nx, env, S')
    | _ => none
  | .ret e, env, S => (denE F G e env S).map fun p => (.rt p.1, env, p.2)
  | .retN, env, S => some (.rt (.p .none), env, S)
  | .ifs c a b, env, S => (denT F G c env S).bind fun p => match p.1 with
    | true => denSs a env p.2
    | false => denSs b env p.2
  | .fors t it body, env, S => (denI F G it env S).bind fun p =>
      loopG (fun S => isRl S p.1) (fun S i => atS S p.1 i) (fun x env S => (bindT t (.p x) env S).bind fun e => denSs body e S) (lenS p.2 p.1) 0 env p.2
  | .whl fuel c body, env, S => whileG (fun env S => denT F G c env S) (fun env S => denSs body env S) fuel env S
  | .tri b z, env, S => match denSs b env S with
    | some r => some r
    | none => (rxSs b env S).map fun r => (.rt (.p z), r.2.1, r.2.2)
  | .tra b _ z, env, S => match denSs b env S with
    | some r => some r
    | none => (rxSs b env S).map fun r => (.rt (.p z), r.2.1, r.2.2)
  | _, _, _ => none
def denSs : C → DEnv → Sto → Option (Fl × DEnv × Sto)
  | .nil, env, S => some (.nx, env, S)
  | .cons a b, env, S => (denS a env S).bind fun r => match r.1 with
    | .nx => denSs b r.2.1 r.2.2
    | _ => some r
  | _, _, _ => none
def rxS : C → DEnv → Sto → Option (Fl × DEnv × Sto)
  | .rsx, env, S => some (.nx, env, S)
  | .ex e, env, S => (rxE F G e env S).map fun S' => (.nx, env, S')
  | .asg _ e, env, S => (rxE F G e env S).map fun S' => (.nx, env, S')
  | .ret e, env, S => (rxE F G e env S).map fun S' => (.nx, env, S')
  | .ifs c a b, env, S => (denT F G c env S).bind fun p => match p.1 with
    | true => rxSs a env p.2
    | false => rxSs b env p.2
  | _, _, _ => none
def rxSs : C → DEnv → Sto → Option (Fl × DEnv × Sto)
  | .cons a b, env, S => match rxS a env S with
    | some r => some r
    | none => (denS a env S).bind fun r => match r.1 with
      | .nx => rxSs b r.2.1 r.2.2
      | _ => none
  | _, _, _ => none
end
def denF (n k : Nat) (body : C) (ds : List D) (S : Sto) : Option (D × Sto) :=
  if ds.length = k then (denSs F G body (ds.map some ++ List.replicate (n - k) none) S).bind fun r => match r.1 with
    | .rt d => some (d, r.2.2)
    | .nx => some (.p .none, r.2.2)
    | _ => none
  else none
def rxF (n k : Nat) (body : C) (ds : List D) (S : Sto) : Option (D × Sto) :=
  if ds.length = k then (rxSs F G body (ds.map some ++ List.replicate (n - k) none) S).map fun r => (.p .none, r.2.2) else none
end
theorem denTest (F : FT) (G : Nat → Option P) (i : Int) (env : DEnv) (S : Sto) : denE F G (.cint i) env S = some (.p (.int i), S) := rfl
end DS
set_option maxRecDepth 100000
set_option maxHeartbeats 2000000
namespace DS
open PySem L2
structure GI where
  fns : List Str
  prm : List (List Str)
  cns : List Str
  exc : Bool
  isi : List (Str × Bool)
structure TI0 where
  N : List Str
  sc : Scope
  fn : Str → Bool
  top : Bool
def visB (sc : Scope) (x : Str) : Bool :=
  match sc.names.lookup x with
  | some .local | some .cell | some .free => true
  | _ => false
def locB (T : TI0) (x : Str) : Bool :=
  match T.sc.names.lookup x with
  | some .local => true
  | some .cell => T.fn x
  | _ => false
def lclB (sc : Scope) (x : Str) : Bool :=
  match sc.names.lookup x with
  | some .local => true
  | _ => false
def glB (sc : Scope) (x : Str) : Bool :=
  match sc.names.lookup x with
  | some .globalImplicit => true
  | _ => false
def nmB (x : Str) : Bool := !(x == ("__debug__" : Str)) && !(x == ("__classdict__" : Str)) && !(x == ("__name__" : Str))
def biN : BI → Str
  | .len => "len" | .int1 => "int" | .abs => "abs" | .max2 => "max" | .min2 => "min" | .maxl => "max" | .minl => "min" | .sum => "sum"
  | .any => "any" | .all => "all" | .tup => "tuple" | .lst => "list" | .str1 => "str" | .repr => "repr" | .srt => "sorted"
def meN : ME → Str
  | .append => "append" | .extend => "extend" | .pop0 => "pop" | .pop1 => "pop" | .insert => "insert" | .cntT => "count" | .cntL => "count"
def noSlB : Expr → Bool
  | .Slice .. => false
  | _ => true
def noStB : Expr → Bool
  | .Starred .. => false
  | _ => true
def noSetB : Expr → Bool
  | .Set .. => false
  | _ => true
def chkK : List Key → List (Option Expr) → Bool
  | [], [] => true
  | .inr x :: ks, some (.Constant (.str y) _ _) :: es => decide (x = y) && chkK ks es
  | .inl x :: ks, some (.Constant (.int y) _ _) :: es => decide (x = y) && chkK ks es
  | _, _ => false
def permB (ps : List Str) (n : Nat) (kns : List Str) (perm : List Nat) : Bool :=
  decide (perm.length = ps.length) && decide (n + kns.length = ps.length) && decide kns.Nodup && decide ps.Nodup && kns.all (fun k => (ps.drop n).contains k) &&
    (List.range ps.length).all fun i => match perm[i]?, ps[i]? with
      | some j, some x => if i < n then decide (j = i) else decide (n ≤ j) && decide (kns[j - n]? = some x)
      | _, _ => false
def kwB (o : Option (List Str)) (n : Nat) (kws : List Keyword) (perm : List Nat) : Bool :=
  match o with
  | some ps => kws.all (fun k => k.arg.isSome) && permB ps n (kws.filterMap (·.arg)) perm && !kws.isEmpty
  | none => false
def tyB (n : String) : Bool := n == "int" || n == "str" || n == "tuple" || n == "list" || n == "bool"
def recvB : Expr → Bool
  | .Name .. | .Subscript .. => true
  | _ => false
def newB : C → Bool
  | .lst _ => true
  | .lc .. => true
  | .bi .lst _ => true
  | .bi .srt _ => true
  | .bin .Add _ _ => true
  | .bin .Mult _ _ => true
  | .sl .. => true
  | .rvl .. => true
  | .lrg1 t _ => !t
  | .lrg2 t _ _ => !t
  | .lzp .. => true
  | .lel .. => true
  | _ => false
def slotsT : C → List Nat
  | .tnm i => [i]
  | .ttp ts => slotsT ts
  | .cons a b => slotsT a ++ slotsT b
  | _ => []
def blkT (T : TI0) (scope : Scope) : TI0 := { N := T.N, sc := relS scope T.sc, fn := fun x => scope.names.lookup x == some .cell, top := false }
def swpB (sc : Scope) (ts vs : List Expr) : Option (List Str) :=
  if (!(ts.length == 2 || ts.length == 3) || vs.length != ts.length || sc.kind != .function) = true then none
  else if (vs.any fun | .Starred .. => true | _ => false) = true then none
  else
    let line := (ts.head?.map (·.pos.line)).getD 0
    let names := ts.filterMap fun
      | .Name id pos => if (sc.names.lookup id == some .local && pos.line == line) = true then some id else none
      | _ => none
    if (names.length != ts.length || names.eraseDups.length != names.length) = true then none
    else if (vs.all (foldedForSure 8)) = true then none
    else some names
def isLC : Expr → Bool
  | .ListComp .. | .SetComp .. | .DictComp .. => true
  | _ => false
def lcB (sc : Scope) (tg x : Expr) : Bool :=
  match x with
  | .ListComp _ [⟨_, _, _, 0⟩] scope p => (match tg with
    | .Name y py => !(lclB sc y && (py.line == p.line)) || !(scope.names.any fun (n, k) => n == y && (k == .local || k == .cell))
    | _ => true)
  | e => !isLC e
def parB (T : TI0) (is : List Nat) (ts vs : List Expr) : Bool :=
  match is, ts, vs with
  | [i, j], [.Name x px, .Name y py], [a, b] => decide (T.N[i]? = some x) && decide (T.N[j]? = some y) && decide (i ≠ j) && lclB T.sc x && lclB T.sc y &&
      decide (swpB T.sc [.Name x px, .Name y py] [a, b] = some [x, y]) && !([a, b].all (constantsAlone 8))
  | [i, j, l], [.Name x px, .Name y py, .Name z pz], [a, b, c] => decide (T.N[i]? = some x) && decide (T.N[j]? = some y) && decide (T.N[l]? = some z) && decide (i ≠ j) && decide (i ≠ l) && decide (j ≠ l) &&
      lclB T.sc x && lclB T.sc y && lclB T.sc z && decide (swpB T.sc [.Name x px, .Name y py, .Name z pz] [a, b, c] = some [x, y, z]) && !([a, b, c].all (constantsAlone 8))
  | _, _, _ => false
def noSwpB (sc : Scope) (tg e : Expr) : Bool :=
  match tg, e with
  | .Tuple ts _ _, .Tuple vs _ _ => match swpB sc ts vs with
    | none => true
    | some _ => false
  | .List .., _ => false
  | _, _ => true
def slotsAre (N : List Str) : List Nat → List Str → Bool
  | [], [] => true
  | i :: is, x :: xs => decide (N[i]? = some x) && slotsAre N is xs
  | _, _ => false
def constB : PyData → Expr → Bool
  | .str x, .Constant (.str y) _ _ => decide (x = y)
  | _, _ => false
def isiB (isi : List (Str × Bool)) (T : TI0) (nm : Str) : Expr → Option Bool
  | .Call (.Name f _) [.Name n _, .Name y _] [] _ => if (decide (f = ("isinstance" : Str)) && glB T.sc f && decide (n = nm) && glB T.sc y && nmB y) = true then isi.lookup y else none
  | _ => none
def isiC (isi : List (Str × Bool)) (T : TI0) (nm : Str) : Expr → Option Bool
  | .BoolOp .And [a, .UnaryOp .Not c _] _ => if isiB isi T nm a = some true ∧ isiB isi T nm c = some false then some true else none
  | e => isiB isi T nm e
def hndB (isi : List (Str × Bool)) (T : TI0) (nm : Str) : PyData → Expr → Bool
  | .tuple [.str x'], .IfExp (.UnaryOp .Not t _) (.Tuple [.Constant (.str x) _ _] _ _) (.Tuple [.Constant (.str _) _ _] _ _) _ => decide (isiB isi T nm t = some false) && decide (x = x')
  | .list [.str x', .bool b], .List [.Constant (.str x) _ _, t] _ => decide (isiC isi T nm t = some b) && decide (x = x')
  | _, _ => false
section
variable (G : GI)
def chkT (T : TI0) : C → Expr → Bool
  | .tnm i, .Name x _ => decide (T.N[i]? = some x) && locB T x
  | .ttp ts, .Tuple es _ _ => chkTs ts es
  | _, _ => false
where chkTs : C → List Expr → Bool
  | .nil, [] => true
  | .cons t ts, e :: es => chkT T t e && noStB e && chkTs ts es
  | _, _ => false
mutual
def chkE (T : TI0) : C → Expr → Bool
  | .var i, .Name x _ => decide (T.N[i]? = some x) && visB T.sc x && nmB x
  | .cint i, .Constant (.int j) _ _ => decide (i = j)
  | .cstr x, .Constant (.str y) _ _ => decide (x = y)
  | .cbl b, .Constant (.bool c) _ _ => decide (b = c)
  | .cnon, .Constant .none _ _ => true
  | .glb g, .Name x _ => decide (G.cns[g]? = some x) && glB T.sc x && nmB x
  | .bin op a b, .BinOp l o r _ => decide (o = op) && chkE T a l && chkE T b r
  | .neg a, .UnaryOp o x _ => decide (o = .USub) && chkE T a x
  | .inv a, .UnaryOp o x _ => decide (o = .Invert) && chkE T a x
  | .not a, .UnaryOp o x _ => decide (o = .Not) && chkE T a x
  | .cmp op a b, .Compare l [o] [r] _ => decide (o = op) && chkE T a l && chkE T b r && !behindInMarks o r
  | .and a b, .BoolOp .And (x :: y :: r) p => chkE T a x && (match r with
    | [] => chkE T b y
    | _ => chkE T b (.BoolOp .And (y :: r) p))
  | .or a b, .BoolOp .Or (x :: y :: r) p => chkE T a x && (match r with
    | [] => chkE T b y
    | _ => chkE T b (.BoolOp .Or (y :: r) p))
  | .ite c a b, .IfExp t x y _ => chkE T c t && chkE T a x && chkE T b y
  | .tup es, .Tuple l _ _ => chkA T es l
  | .lst es, .List l _ => chkA T es l
  | .mk a, e => newB a && chkE T a e
  | .cal f _ es, .Call (.Name x _) args [] _ => decide (G.fns[f]? = some x) && glB T.sc x && nmB x && chkA T es args
  | .cak f _ es ks perm, .Call (.Name x _) args kws _ => decide (G.fns[f]? = some x) && glB T.sc x && nmB x && chkA T es args && chkA T ks (kws.map (·.value)) && kwB G.prm[f]? args.length kws perm
  | .bi b es, .Call (.Name x _) args [] _ => decide (x = biN b) && glB T.sc x && chkA T es args && !args.isEmpty
  | .rpl es, .Call (.Name x _) [.List l _] [] _ => decide (x = ("repr" : Str)) && glB T.sc x && chkA T es l
  | .isi n a, .Call (.Name x _) [e, .Name y _] [] _ => decide (x = ("isinstance" : Str)) && glB T.sc x && chkE T a e && noStB e && decide (y = Str.ofString n) && glB T.sc y && tyB n
  | .chn op op' a b c, .Compare l [o, o'] [r, r'] _ => decide (o = op) && decide (o' = op') && chkE T a l && chkE T b r && chkE T c r' && !lastMarks [o, o'] [r, r']
  | .ix a b, .Subscript e i _ => noSlB i && chkE T a e && chkE T b i
  | .dix a b, .Subscript e i _ => noSlB i && chkE T a e && chkE T b i
  | .din n a b, .Compare l [o] [r] _ => decide (o = (if n = true then .NotIn else .In)) && chkE T a l && chkE T b r && !behindInMarks o r
  | .sl a lo hi, .Subscript e (.Slice l h none _) _ => chkE T a e && (match l with
    | none => isNil lo
    | some x => !isNil lo && chkE T lo x) && (match h with
    | none => isNil hi
    | some x => !isNil hi && chkE T hi x)
  | .dit0, .Dict [] [] _ => true
  | .dik0, .Dict [] [] _ => true
  | .rvt a, .Subscript e (.Slice none none (some (.UnaryOp .USub (.Constant (.int 1) _ _) _)) _) _ => chkE T a e
  | .rvl a, .Subscript e (.Slice none none (some (.UnaryOp .USub (.Constant (.int 1) _ _) _)) _) _ => chkE T a e
  | .lc elt tg it cnd own, .ListComp el [⟨t, i, ifs, 0⟩] scope _ =>
    blkC T.N T.sc scope (own.map fun j => ((T.N[j]?).getD Str.empty, j)) && chkI T it t i && chkT (blkT T scope) tg t && (slotsT tg).all (fun j => own.contains j) &&
      chkE (blkT T scope) elt el && (match ifs with
      | [] => isNil cnd
      | [x] => !isNil cnd && chkE (blkT T scope) cnd x
      | _ => false)
  | .lrg1 t a, .Call (.Name x _) [.Call (.Name y _) [e] [] _] [] _ => decide (x = (if t = true then "tuple" else "list" : Str)) && glB T.sc x && decide (y = ("range" : Str)) && glB T.sc y && chkE T a e && noStB e
  | .lrg2 t a b, .Call (.Name x _) [.Call (.Name y _) [e, f] [] _] [] _ => decide (x = (if t = true then "tuple" else "list" : Str)) && glB T.sc x && decide (y = ("range" : Str)) && glB T.sc y && chkE T a e && chkE T b f && noStB e && noStB f
  | .lzp a b, .Call (.Name x _) [.Call (.Name y _) [e, f] [] _] [] _ => decide (x = ("list" : Str)) && glB T.sc x && decide (y = ("zip" : Str)) && glB T.sc y && chkE T a e && chkE T b f && noStB e && noStB f
  | .lel a, .Call (.Name x _) [.Call (.Name y _) [e] [] _] [] _ => decide (x = ("list" : Str)) && glB T.sc x && decide (y = ("enumerate" : Str)) && glB T.sc y && chkE T a e && noStB e
  | .dgt o a b, .Call (.Attribute r nm ap) [e, f] [] cp => decide (nm = ("get" : Str)) && recvB r && (ap.endLine == cp.line) && chkE T o r && chkE T a e && chkE T b f && noStB e && noStB f
  | .mth m o es, .Call (.Attribute r nm ap) args [] cp => decide (nm = meN m) && recvB r && (ap.endLine == cp.line) && decide (args.length < 20) && chkE T o r && chkA T es args
  | .dp0, .Dict [] [] _ => true
  | .dpl ks es, .Dict keys vals _ => chkK ks keys && chkA T es vals && decide (keys ≠ []) && decide (keys.length = vals.length)
  | .rpv a, .Call (.Name x _) [e] [] _ => decide (x = ("repr" : Str)) && glB T.sc x && chkE T a e && noStB e
  | .dic ks es, .Dict keys vals _ => chkK ks keys && chkA T es vals && decide (keys ≠ []) && decide (keys.length = vals.length)
  | _, _ => false
def chkA (T : TI0) : C → List Expr → Bool
  | .nil, [] => true
  | .cons a b, e :: es => chkE T a e && noStB e && chkA T b es
  | _, _ => false
def chkI (T : TI0) : C → Expr → Expr → Bool
  | .rg1 a, _, .Call (.Name x _) [e] [] _ => decide (x = ("range" : Str)) && glB T.sc x && chkE T a e && noStB e
  | .rg2 a b, _, .Call (.Name x _) [e, f] [] _ => decide (x = ("range" : Str)) && glB T.sc x && chkE T a e && chkE T b f && noStB e && noStB f
  | .rg3 a b c, _, .Call (.Name x _) [e, f, g] [] _ => decide (x = ("range" : Str)) && glB T.sc x && chkE T a e && chkE T b f && chkE T c g && noStB e && noStB f && noStB g
  | .sq a, _, e => chkE T a e && noSetB e
  | .tq a, _, e => chkE T a e && noSetB e
  | .xq a, _, e => chkE T a e && noSetB e
  | .en a, .Tuple .., .Call (.Name x _) [e] [] _ => decide (x = ("enumerate" : Str)) && glB T.sc x && chkE T a e && noStB e
  | .zp a b, .Tuple .., .Call (.Name x _) [e, f] [] _ => decide (x = ("zip" : Str)) && glB T.sc x && chkE T a e && chkE T b f && noStB e && noStB f
  | _, _, _ => false
end
mutual
def chkS (T : TI0) : C → Stmt → Bool
  | .pass, .Pass _ => true
  | .brk, .Break _ => true
  | .cnt, .Continue _ => true
  | .rse, .Raise _ _ _ => true
  | .rsx, .Raise (some (.Call (.Name x _) [] [] _)) none _ => decide (x = ("Unfit" : Str)) && glB T.sc x
  | .tri b z, .Try body [.ExceptHandler (some (.Name x _)) none [.Return (some h) _] _] [] [] _ => G.exc && T.top && decide (x = ("Unfit" : Str)) && glB T.sc x && constB z h && chkSs T b body
  | .tra b i z, .Try body [.ExceptHandler (some (.Name x _)) (some nm) [.Return (some h) _] _] [] [] _ =>
    G.exc && T.top && decide (x = ("Unfit" : Str)) && glB T.sc x && decide (T.N[i]? = some nm) && lclB T.sc nm && nmB nm && hndB G.isi T nm z h && chkSs T b body
  | .ex e, .Expr x _ => chkE G T e x && !isLC x
  | .asg t e, .Assign [tg] x _ => chkT T t tg && chkE G T e x && noStB tg && noSwpB T.sc tg x && lcB T.sc tg x
  | .par is es, .Assign [.Tuple ts _ _] (.Tuple vs _ _) _ => chkA G T es vs && parB T is ts vs
  | .setl o i e, .Assign [.Subscript a b _] x _ => chkE G T o a && chkE G T i b && chkE G T e x && noSlB b && !isLC x
  | .setd o i e, .Assign [.Subscript a b _] x _ => chkE G T o a && chkE G T i b && chkE G T e x && noSlB b && !isLC x
  | .set2 o i o2 i2 e, .Assign [tg] x _ => (match tg with
      | .Tuple [.Subscript a b _, .Subscript a2 b2 _] _ _ => chkE G T o a && chkE G T i b && chkE G T o2 a2 && chkE G T i2 b2 && chkE G T e x && noSlB b && noSlB b2
      | _ => false) && noSwpB T.sc tg x && !isLC x
  | .ret e, .Return (some x) _ => chkE G T e x
  | .retN, .Return none _ => true
  | .ifs c a b, .If t x y _ => chkE G T c t && chkSs T a x && chkSs T b y
  | .fors t it body, .For tg i b [] _ => chkT T t tg && chkI G T it tg i && chkSs T body b && noSetB i
  | .whl _ c body, .While t b [] _ => chkE G T c t && chkSs T body b
  | _, _ => false
def chkSs (T : TI0) : C → List Stmt → Bool
  | .nil, [] => true
  | .cons a b, s :: ss => chkS T a s && chkSs T b ss
  | _, _ => false
end
end
end DS
set_option maxRecDepth 100000
set_option maxHeartbeats 2000000
namespace DS
open PySem PySem.Spec L2
abbrev DM (α : Type) := DEnv → Sto → Option (α × Sto)
def tE (K : PySem.W.Frag) (m : DM D) : TE := fun σ H Q => ∃ U ρ env S d S', EnvOk U K ρ H env σ ∧ StOk U K ρ S H ∧ m env S = some (d, S') ∧
  ∀ U' ρ' H' v, Ext U ρ H U' ρ' H' → StOk U' K ρ' S' H' → RepD U' K ρ' H' d v → Q v H'
def tF (K : PySem.W.Frag) (m : DM D) : TE := fun σ H Q => ∃ U ρ env S xs S', EnvOk U K ρ H env σ ∧ StOk U K ρ S H ∧ m env S = some (.p (.list xs), S') ∧
  ∀ U' ρ' H' p vs, Ext U ρ H U' ρ' H' → H p = none → p ∉ U' → H' p = some (.lst vs) → StOk (U' ++ [p]) K ρ' S' H' → RepPs (U' ++ [p]) K H' xs vs → Q (.ref p) H'
def tA (K : PySem.W.Frag) (m : DM (List D)) : TA := fun σ H Q => ∃ U ρ env S ds S', EnvOk U K ρ H env σ ∧ StOk U K ρ S H ∧ m env S = some (ds, S') ∧
  ∀ U' ρ' H' vs, Ext U ρ H U' ρ' H' → StOk U' K ρ' S' H' → RepDs U' K ρ' H' ds vs → Q vs H'
def tT (K : PySem.W.Frag) (m : DM D) : TT := fun σ H Q => ∃ U ρ env S b S', EnvOk U K ρ H env σ ∧ StOk U K ρ S H ∧ m env S = some (.p (.bool b), S') ∧
  ∀ U' ρ' H', Ext U ρ H U' ρ' H' → StOk U' K ρ' S' H' → Q b H'
theorem PE.imp {X : Cx} {e : Expr} {t t' : TE} (h : PE X e t) (k : ∀ σ H Q, t' σ H Q → t σ H Q) : PE X e t' := ⟨fun pins s σ H Q I q => h.run pins s σ H Q I (k σ H Q q)⟩
theorem PT.imp {X : Cx} {e : Expr} {t t' : TT} (h : PT X e t) (k : ∀ σ H Q, t' σ H Q → t σ H Q) : PT X e t' := ⟨fun pins s σ H Q I q => h.run pins s σ H Q I (k σ H Q q)⟩
theorem PW.imp {X : Cx} {e : Expr} {t t' : TT} (h : PW X e t) (k : ∀ σ H Q, t' σ H Q → t σ H Q) : PW X e t' := ⟨fun wh pins s σ H Q I q => h.run wh pins s σ H Q I (k σ H Q q)⟩
theorem PA.imp {X : Cx} {e : List Expr} {t t' : TA} (h : PA X e t) (k : ∀ σ H Q, t' σ H Q → t σ H Q) : PA X e t' := ⟨fun pos pins s σ H Q I q => h.run pos pins s σ H Q I (k σ H Q q)⟩
theorem PS.imp {X : Cx} {e : Stmt} {t t' : TS} (h : PS X e t) (k : ∀ D σ H, t' D σ H → t D σ H) : PS X e t' := ⟨fun pins s σ H D I q => h.run pins s σ H D I (k D σ H q)⟩
theorem PSs.imp {X : Cx} {e : List Stmt} {t t' : TS} (h : PSs X e t) (k : ∀ D σ H, t' D σ H → t D σ H) : PSs X e t' := ⟨fun pins s σ H D I q => h.run pins s σ H D I (k D σ H q)⟩
section
variable {U ρ : List Addr} {K : PySem.W.Frag} {H : Hp} {S : Sto}
theorem StOk.less {U' : List Addr} (h : StOk U K ρ S H) (sub : ∀ a, a ∈ U' → a ∈ U) (hs : ∀ a, a ∈ ρ → a ∈ U') : StOk U' K ρ S H := by
  refine ⟨h.len, h.nd, hs, fun a ha => h.live a (sub a ha), fun n a m h1 h2 => ?_⟩
  have q := h.at_ n a m h1 h2
  cases m with
  | lst xs =>
    obtain ⟨vs, q1, q2⟩ := q
    exact ⟨vs, q1, RepPs.less sub q2⟩
  | dit kvs =>
    obtain ⟨ws, q1, q2⟩ := q
    have hd : ∀ (d : D) (v : V), RepD U K ρ H d v → RepD U' K ρ H d v := fun d v r2 => by
      cases d with
      | p x => exact RepP.less sub r2
      | r n => exact r2
      | s xs =>
        obtain ⟨a, vs, e, r3, r5⟩ := r2
        exact ⟨a, vs, e, r3.imp (fun y => ⟨fun z => y.1 (sub _ z), y.2⟩) id, RepPs.less sub r5⟩
    exact ⟨ws, q1, Paired.mapP q2 fun a b z => ⟨z.1, hd _ _ z.2⟩⟩
  | dic kvs =>
    obtain ⟨ws, q1, q2⟩ := q
    have hd : ∀ (d : D) (v : V), RepD U K ρ H d v → RepD U' K ρ H d v := fun d v r2 => by
      cases d with
      | p x => exact RepP.less sub r2
      | r n => exact r2
      | s xs =>
        obtain ⟨a, vs, e, r3, r5⟩ := r2
        exact ⟨a, vs, e, r3.imp (fun y => ⟨fun z => y.1 (sub _ z), y.2⟩) id, RepPs.less sub r5⟩
    exact ⟨ws, q1, Paired.mapP q2 fun a b z => ⟨z.1, hd _ _ z.2⟩⟩
theorem newT {p : Addr} {xs : List P} {vs : List V} (s : StOk U K ρ S H) (r : RepPs U K H xs vs) (hp : H p = none) :
    Ext U ρ H U ρ (upd H p (.tup vs)) ∧ StOk U K ρ S (upd H p (.tup vs)) ∧ RepP U K (upd H p (.tup vs)) (.tuple xs) (.ref p) :=
  ⟨.grow (grow_new hp), s.grow (grow_new hp), .tup (.inl ⟨s.fresh hp, upd_same⟩) (RepPs.mono (.grow (ρ := ρ) (grow_new hp)) s.sub r)⟩
theorem newL {p : Addr} {xs : List P} {vs : List V} (s : StOk U K ρ S H) (r : RepPs U K H xs vs) (hp : H p = none) :
    Ext U ρ H U ρ (upd H p (.lst vs)) ∧ StOk U K ρ S (upd H p (.lst vs)) ∧ RepP U K (upd H p (.lst vs)) (.list xs) (.ref p) :=
  ⟨.grow (grow_new hp), s.grow (grow_new hp), .lst (s.fresh hp) upd_same (RepPs.mono (.grow (ρ := ρ) (grow_new hp)) s.sub r)⟩
theorem Ext.add {p : Addr} {o : HO} (hp : H p = none) : Ext U ρ H (U ++ [p]) (ρ ++ [p]) (upd H p o) := by
  refine ⟨⟨[p], rfl, rfl, fun a ha => ?_⟩, fun a u h _ => grow_new hp a u h, (Ext.grow (U := U) (ρ := ρ) (grow_new hp)).live⟩
  rw [List.mem_singleton.mp ha]; exact hp
theorem newF {p : Addr} {xs : List P} {vs : List V} (s : StOk U K ρ S H) (r : RepPs U K H xs vs) (hp : H p = none) :
    Ext U ρ H U ρ (upd H p (.lst vs)) ∧ p ∉ U ∧ StOk (U ++ [p]) K ρ S (upd H p (.lst vs)) ∧ RepPs (U ++ [p]) K (upd H p (.lst vs)) xs vs := by
  have e : Ext U ρ H (U ++ [p]) (ρ ++ [p]) (upd H p (.lst vs)) := .add hp
  refine ⟨.grow (grow_new hp), s.fresh hp, ⟨s.len, s.nd, fun a ha => List.mem_append_left _ (s.sub a ha), fun a ha => ?_, fun n a m h1 h2 => ?_⟩, RepPs.mono e s.sub r⟩
  · rcases List.mem_append.mp ha with h | h
    · exact e.live a (s.live a h)
    · rw [List.mem_singleton.mp h, upd_same]; simp
  · have q := s.at_ n a m h1 h2
    have hd : ∀ (d : D) (v : V), RepD U K ρ H d v → RepD (U ++ [p]) K ρ (upd H p (.lst vs)) d v := fun d v h => by
      cases d with
      | p x => exact RepP.mono e s.sub h
      | r n => exact h
      | s xs =>
        obtain ⟨a, ws, ev, h1, h3⟩ := h
        exact ⟨a, ws, ev, h1.imp (fun y => ⟨e.notin y.1 (rd_live y.2), e.rd (fun z => y.1 (s.sub _ z)) y.2⟩) id, RepPs.mono e s.sub h3⟩
    cases m with
    | lst ys =>
      obtain ⟨ws, q1, q2⟩ := q
      exact ⟨ws, grow_new hp _ _ q1, RepPs.mono e s.sub q2⟩
    | dic kvs =>
      obtain ⟨ws, q1, q2⟩ := q
      exact ⟨ws, grow_new hp _ _ q1, Paired.mapP q2 fun a b z => ⟨z.1, hd _ _ z.2⟩⟩
    | dit kvs =>
      obtain ⟨ws, q1, q2⟩ := q
      exact ⟨ws, grow_new hp _ _ q1, Paired.mapP q2 fun a b z => ⟨z.1, hd _ _ z.2⟩⟩
end
section
variable {X : Cx} {e : Expr} {m : DM D} {σ : St} {H : Hp}
theorem tE_of_F (h : PE X e (tF X.K m)) (hm : ∀ env S d S', m env S = some (d, S') → ∃ xs, d = .p (.list xs)) : PE X e (tE X.K m) := by
  refine PE.imp h fun σ H Q ⟨U, ρ, env, S, d, S', he, hs, hd, q⟩ => ?_
  obtain ⟨xs, rfl⟩ := hm _ _ _ _ hd
  refine ⟨U, ρ, env, S, xs, S', he, hs, hd, fun U' ρ' H' p vs e1 hp hn hl s1 r1 => ?_⟩
  have sub : ∀ a, a ∈ U' → a ∈ U' ++ [p] := fun a ha => List.mem_append_left _ ha
  refine q U' ρ' H' _ e1 (s1.less sub fun a ha => ?_) (.lst hn hl (RepPs.less sub r1))
  obtain ⟨n, eu, er, _⟩ := e1.nw
  rw [er] at ha
  rw [eu]
  rcases List.mem_append.mp ha with h | h
  · exact List.mem_append_left _ (hs.sub a h)
  · exact List.mem_append_right _ h
theorem tE_mk (h : PE X e (tF X.K m)) : PE X e (tE X.K fun env S => (m env S).bind fun p => match p.1 with
    | .p (.list xs) => some (.r p.2.length, p.2 ++ [.lst xs])
    | _ => none) := by
  refine PE.imp h fun σ H Q ⟨U, ρ, env, S, d, S', he, hs, hd, q⟩ => ?_
  simp only [Option.bind_eq_some_iff] at hd
  obtain ⟨⟨d1, S1⟩, h1, h2⟩ := hd
  have key : ∃ xs, d1 = .p (.list xs) ∧ d = .r S1.length ∧ S' = S1 ++ [.lst xs] := by
    cases d1 with
    | p x => cases x <;> first | (cases h2; exact ⟨_, rfl, rfl, rfl⟩) | cases h2
    | r n => cases h2
    | s xs => cases h2
  obtain ⟨xs, rfl, rfl, rfl⟩ := key
  refine ⟨U, ρ, env, S, xs, S1, he, hs, h1, fun U' ρ' H' p vs e1 hp hn hl s1 r1 => ?_⟩
  obtain ⟨n, eu, er, hnew⟩ := e1.nw
  refine q (U' ++ [p]) (ρ' ++ [p]) H' _ ⟨⟨n ++ [p], by rw [eu, List.append_assoc], by rw [er, List.append_assoc], fun a ha => ?_⟩, e1.keep, e1.live⟩ ⟨by simp [s1.len], ?_, fun a ha => ?_, s1.live, fun k a mo h3 h4 => ?_⟩ ?_
  · rcases List.mem_append.mp ha with h | h
    · exact hnew a h
    · rw [List.mem_singleton.mp h]; exact hp
  · refine List.nodup_append.mpr ⟨s1.nd, by simp, fun a ha b hb => ?_⟩
    rw [List.mem_singleton.mp hb]
    rintro rfl
    refine hn ?_
    rw [er] at ha
    rw [eu]
    rcases List.mem_append.mp ha with h | h
    · exact List.mem_append_left _ (hs.sub _ h)
    · exact List.mem_append_right _ h
  · rcases List.mem_append.mp ha with h | h
    · exact s1.sub a h
    · exact List.mem_append_right _ h
  · have hd : ∀ (d : D) (v : V), RepD (U' ++ [p]) X.K ρ' H' d v → RepD (U' ++ [p]) X.K (ρ' ++ [p]) H' d v := fun d v h => by
      cases d with
      | p x => exact h
      | r n =>
        obtain ⟨a, e, h⟩ := h
        exact ⟨a, e, by rw [List.getElem?_append_left (List.getElem?_eq_some_iff.mp h).1]; exact h⟩
      | s xs => exact h
    by_cases hk : k < S1.length
    · rw [List.getElem?_append_left (by rw [← s1.len]; exact hk)] at h3
      rw [List.getElem?_append_left hk] at h4
      have z := s1.at_ k a mo h3 h4
      cases mo with
      | lst ys => exact z
      | dic kvs =>
        obtain ⟨ws, z1, z2⟩ := z
        exact ⟨ws, z1, Paired.mapP z2 fun a b y => ⟨y.1, hd _ _ y.2⟩⟩
      | dit kvs =>
        obtain ⟨ws, z1, z2⟩ := z
        exact ⟨ws, z1, Paired.mapP z2 fun a b y => ⟨y.1, hd _ _ y.2⟩⟩
    · have hk' : S1.length ≤ k := Nat.le_of_not_lt hk
      rw [List.getElem?_append_right hk'] at h4
      rw [List.getElem?_append_right (by rw [← s1.len]; exact hk'), ← s1.len] at h3
      cases hz : k - S1.length with
      | zero =>
        rw [hz] at h3 h4
        cases h3; cases h4
        exact ⟨vs, hl, r1⟩
      | succ j => rw [hz] at h3; simp at h3
  · refine ⟨p, rfl, ?_⟩
    rw [s1.len, List.getElem?_append_right (Nat.le_refl _)]
    simp
theorem seq1 {K : PySem.W.Frag} {ma : DM D} {U ρ : List Addr} {env : DEnv} {S S1 : Sto} {d1 : D} (he : EnvOk U K ρ H env σ) (hs : StOk U K ρ S H) (h1 : ma env S = some (d1, S1)) {R : V → Hp → Prop}
    (k : ∀ U1 ρ1 H1 v1, Ext U ρ H U1 ρ1 H1 → StOk U1 K ρ1 S1 H1 → RepD U1 K ρ1 H1 d1 v1 → R v1 H1) : tE K ma σ H R := ⟨U, ρ, env, S, d1, S1, he, hs, h1, k⟩
theorem seq2 {K : PySem.W.Frag} {ma mb : DM D} {U ρ : List Addr} {env : DEnv} {S S1 S2 : Sto} {d1 d2 : D} (he : EnvOk U K ρ H env σ) (hs : StOk U K ρ S H) (h1 : ma env S = some (d1, S1)) (h2 : mb env S1 = some (d2, S2)) {R : V → V → Hp → Prop}
    (k : ∀ U2 ρ2 H2 v1 v2, Ext U ρ H U2 ρ2 H2 → StOk U2 K ρ2 S2 H2 → RepD U2 K ρ2 H2 d1 v1 → RepD U2 K ρ2 H2 d2 v2 → R v1 v2 H2) : tE K ma σ H fun x H1 => tE K mb σ H1 fun y H2 => R x y H2 :=
  ⟨U, ρ, env, S, d1, S1, he, hs, h1, fun U1 ρ1 H1 v1 e1 s1 r1 => ⟨U1, ρ1, env, S1, d2, S2, he.mono e1 hs.sub, s1, h2, fun U2 ρ2 H2 v2 e2 s2 r2 => k U2 ρ2 H2 v1 v2 (e1.trans e2) s2 (r1.mono e2 s1.sub) r2⟩⟩
end
theorem onI_some {o : Bool} {v z : P} (h : onI o v = some z) : o = true ∧ z = v := by
  unfold onI at h
  split at h
  · exact ⟨by assumption, (Option.some.inj h).symm⟩
  · cases h
theorem okB_some {o v z : Bool} (h : okB o v = some z) : o = true ∧ z = v := by
  unfold okB at h
  split at h
  · exact ⟨by assumption, (Option.some.inj h).symm⟩
  · cases h
section
variable {X : Cx}
def rBinI (f : Int → Int → Prop) (g : Int → Int → Int) : R2 := rI f fun i j => .int (g i j)
def rInt (op : Operator) : R2 := fun x y H Q => ∃ i j z, x = .int i ∧ y = .int j ∧ binI op i j = some (.int z) ∧ Q (.int z) H
theorem binI_int {op : Operator} {i j : Int} {z : P} (h : binI op i j = some z) : ∃ k, z = .int k := by
  cases op <;> first
    | (cases h; exact ⟨_, rfl⟩)
    | (unfold binI at h; obtain ⟨_, e⟩ := onI_some h; exact ⟨_, e⟩)
    | (simp [binI] at h; done)
theorem OpR.imp {f : Value → Value → Sem Value} {r r' : R2} (h : OpR X f r) (k : ∀ x y H Q, r' x y H Q → r x y H Q) : OpR X f r' :=
  fun pins s σ H x y v u Q I rx ry q => h pins s σ H x y v u Q I rx ry (k x y H Q q)
theorem log_bits {i : Int} (h : i.natAbs.log2 < 9000) : Builtin.Int.intBits i ≤ 2 ^ 20 := by
  refine Nat.le_trans (PyProof.Rows.intBits_le (k := 9000) ?_) (by decide)
  by_cases z : i.natAbs = 0
  · rw [z]; exact Nat.pow_pos (by decide)
  · exact (Nat.log2_lt z).mp h
theorem mulOk_of {i j : Int} (h : mulOk i j = true) : IntMulOk i j := by
  unfold mulOk at h
  simp only [Bool.or_eq_true, Bool.and_eq_true, decide_eq_true_eq, Nat.blt_eq] at h
  rcases h with (h | h) | h
  · exact .of_left (intBits_le_64 h.1 h.2)
  · exact .of_right (intBits_le_64 h.1 h.2)
  · exact .of_bits (log_bits h.1) (log_bits h.2)
theorem op_mulL : OpR X (binaryOp .Mult) (rI IntMulOk fun i j => .int (i * j)) := opI fun _ _ _ _ _ _ _ hc q => PyProof.Rows.mul_int q hc
theorem op_fdivL : OpR X (binaryOp .FloorDiv) (rI (fun i j => 0 < j ∧ Builtin.divisionGoesByPylong i j = false) fun i j => .int (i / j)) := opI fun i j _ _ _ _ _ hc q => by
  have h1 : (0 : Int) < j := hc.1
  exact PyProof.Rows.floordiv_int (by omega) (by rw [Int.fdiv_eq_ediv_of_nonneg i (by omega)]; exact q) (.inl hc.2)
theorem op_int (op : Operator) : OpR X (binaryOp op) (rInt op) := by
  cases op with
  | Add => exact OpR.imp op_add fun x y H Q ⟨i, j, z, ex, ey, h, q⟩ => ⟨i, j, ex, ey, by cases h; exact q⟩
  | Sub => exact OpR.imp op_sub fun x y H Q ⟨i, j, z, ex, ey, h, q⟩ => ⟨i, j, ex, ey, by cases h; exact q⟩
  | Mult =>
    refine OpR.imp op_mulL fun x y H Q ⟨i, j, z, ex, ey, h, q⟩ => ⟨i, j, ex, ey, ?_, ?_⟩
    · obtain ⟨h1, _⟩ := onI_some h
      exact mulOk_of h1
    · obtain ⟨_, h1⟩ := onI_some h
      cases h1; exact q
  | FloorDiv =>
    refine OpR.imp op_fdivL fun x y H Q ⟨i, j, z, ex, ey, h, q⟩ => ⟨i, j, ex, ey, ?_, ?_⟩
    · have h1 := (onI_some h).1
      simp only [Bool.and_eq_true, Bool.or_eq_true, decide_eq_true_eq, Nat.blt_eq] at h1
      exact ⟨h1.1, h1.2.elim (fun z => PyProof.noPylong_small (by omega)) fun z => PyProof.noPylong_of_log2 z⟩
    · obtain ⟨_, h1⟩ := onI_some h
      cases h1; exact q
  | Mod =>
    refine OpR.imp op_mod fun x y H Q ⟨i, j, z, ex, ey, h, q⟩ => ⟨i, j, ex, ey, ?_, ?_⟩
    · exact of_decide_eq_true (p := 0 < j) (onI_some h).1
    · obtain ⟨_, h1⟩ := onI_some h
      cases h1; exact q
  | Pow =>
    refine OpR.imp op_pow fun x y H Q ⟨i, j, z, ex, ey, h, q⟩ => ⟨i, j, ex, ey, ?_, ?_⟩
    · have := of_decide_eq_true (p := 0 ≤ j ∧ j ≤ 1000000 ∧ i.natAbs < 18446744073709551616) (onI_some h).1
      exact ⟨this.1, this.2.1, by simpa using this.2.2⟩
    · obtain ⟨_, h1⟩ := onI_some h
      cases h1; exact q
  | LShift =>
    refine OpR.imp op_shl fun x y H Q ⟨i, j, z, ex, ey, h, q⟩ => ⟨i, j, ex, ey, ?_, ?_⟩
    · have := of_decide_eq_true (p := 0 ≤ j ∧ j ≤ 1000000 ∧ i.natAbs < 18446744073709551616) (onI_some h).1
      exact ⟨this.1, this.2.1, by simpa using this.2.2⟩
    · obtain ⟨_, h1⟩ := onI_some h
      cases h1; exact q
  | RShift =>
    refine OpR.imp op_shr fun x y H Q ⟨i, j, z, ex, ey, h, q⟩ => ⟨i, j, ex, ey, ?_, ?_⟩
    · exact of_decide_eq_true (p := 0 ≤ j) (onI_some h).1
    · obtain ⟨_, h1⟩ := onI_some h
      cases h1; exact q
  | BitAnd => exact OpR.imp op_and fun x y H Q ⟨i, j, z, ex, ey, h, q⟩ => ⟨i, j, ex, ey, by cases h; exact q⟩
  | BitOr => exact OpR.imp op_or fun x y H Q ⟨i, j, z, ex, ey, h, q⟩ => ⟨i, j, ex, ey, by cases h; exact q⟩
  | BitXor => exact OpR.imp op_xor fun x y H Q ⟨i, j, z, ex, ey, h, q⟩ => ⟨i, j, ex, ey, by cases h; exact q⟩
  | MatMult => intro pins s σ H x y v u Q I rx ry h; obtain ⟨i, j, z, _, _, h, _⟩ := h; cases h
  | Div => intro pins s σ H x y v u Q I rx ry h; obtain ⟨i, j, z, _, _, h, _⟩ := h; cases h
end
end DS
set_option maxRecDepth 100000
set_option maxHeartbeats 4000000
namespace DS
open PySem PySem.Spec L2 PyProof.Rows
theorem tuple_mulS (l : Addr) (items : Array Value) (n : Nat) (dd : Option Addr) (sl : Array (Option Value)) (x : Int) (u : Tok) (c0 : (decide (x < -(2 ^ 63)) || decide (x ≥ 2 ^ 63)) = false) (c1 : (items.isEmpty || x == 1) = true) :
    Meets (Builtin.«tuple.__mul__» ⟨[.ref l, .int x u], []⟩) (fun _ R s => s.heap.get? l = some { cls := .type "tuple", dict := dd, data := .seq items n, slots := sl } ∧ R (.ok (.ret (Value.ref l))) s) :=
  .of_wp fun prog w A R s h => by
    obtain ⟨hp, g, d, tk, os⟩ := s
    obtain ⟨hl, h⟩ := h
    have f1 := AutoSeq1.idx_int
    wp_walk using wpAny_loadPart' hl
    repeat (first
      | (refine wpAny_ite_false (decide_eq_false (by rw [c0]; exact Bool.false_ne_true)) ?_; wp_walk using wpAny_loadPart' hl)
      | (refine wpAny_ite_true (decide_eq_true (by rw [c1])) ?_; wp_walk using wpAny_loadPart' hl))
    exact ⟨_, rfl, h⟩
theorem tuple_mul0 (l : Addr) (items : Array Value) (n : Nat) (dd : Option Addr) (sl : Array (Option Value)) (x : Int) (u : Tok) (c0 : (decide (x < -(2 ^ 63)) || decide (x ≥ 2 ^ 63)) = false) (c1 : (items.isEmpty || x == 1) = false) (c2 : (decide (x ≤ 0) || items.isEmpty) = true) :
    Meets (Builtin.«tuple.__mul__» ⟨[.ref l, .int x u], []⟩) (fun _ R s => s.heap.get? l = some { cls := .type "tuple", dict := dd, data := .seq items n, slots := sl } ∧
      R (.ok (.ret (Value.ref s.heap.objs.size))) { s with heap := s.heap.push { cls := Value.type "tuple", data := Data.seq #[] }, toks := s.toks }) :=
  .of_wp fun prog w A R s h => by
    obtain ⟨hp, g, d, tk, os⟩ := s
    obtain ⟨hl, h⟩ := h
    have f1 := AutoSeq1.idx_int
    have hz : ¬ (0 : Nat) > sizeLine := by rw [sizeLine_eq]; omega
    wp_walk using wpAny_loadPart' hl
    repeat (first
      | (refine wpAny_ite_false (decide_eq_false (by rw [c0]; exact Bool.false_ne_true)) ?_; wp_walk using wpAny_loadPart' hl)
      | (refine wpAny_ite_false (decide_eq_false (by rw [c1]; exact Bool.false_ne_true)) ?_; wp_walk using wpAny_loadPart' hl)
      | (refine wpAny_ite_true (decide_eq_true (by rw [c2])) ?_; wp_walk using wpAny_loadPart' hl)
      | (refine wpAny_ite_false (decide_eq_false hz) ?_; wp_walk using wpAny_loadPart' hl))
    exact ⟨_, rfl, h⟩
def rRepTS (K : PySem.W.Frag) : R2 := fun x y H Q => ∃ l k xs, x = .ref l ∧ y = .int k ∧ SqT K H l xs ∧ (xs = [] ∨ k = 1) ∧ (-9223372036854775808 ≤ k ∧ k ≤ 1000) ∧ Q (.ref l) H
def rRepT0 (K : PySem.W.Frag) : R2 := fun x y H Q => ∃ l k xs, x = .ref l ∧ y = .int k ∧ SqT K H l xs ∧ xs ≠ [] ∧ (-9223372036854775808 ≤ k ∧ k ≤ 0) ∧ ∀ p, H p = none → Q (.ref p) (upd H p (.tup []))
section
variable {X : Cx}
theorem op_repTS : OpR X (binaryOp .Mult) (rRepTS X.K) := by
  intro pins s σ H x y v u Q I rx ry h
  obtain ⟨l, k, xs, rfl, rfl, hT, hne, h1, q⟩ := h
  cases rx
  obtain ⟨t, rfl⟩ := ry
  obtain ⟨its, r, ⟨⟨cls, dd, data, sl⟩, ho, hc, n, hd⟩, hs⟩ := I.tuple hT
  simp only at hc hd
  subst hc hd
  have c0 : (decide (k < -(2 ^ 63)) || decide (k ≥ 2 ^ 63)) = false := by
    rw [decide_eq_false (by omega), decide_eq_false (by omega)] <;> rfl
  have c1 : (its.toArray.isEmpty || k == 1) = true := by
    rcases hne with rfl | rfl
    · cases r; rfl
    · simp
  refine wpAny_binaryOp_repeat_ref (T := "tuple") (U := "int") (by decide) ⟨_, ho, rfl⟩ (fun s' => typeIs_int s' k t) noFill_tuple_mul F.fills_int_mul F.slot_int_rmul repeat_tuple F.slot_int_index.lookup
    (call_meets F.slot_int_rmul (typeIs_int s k t) F.entry_int_rmul (F.args_int_rmul_2 _ _) (int_rmul_tuple k t l its.toArray n dd sl)
      ⟨ho, rfl, ⟨_, ho, rfl⟩, call_meets F.slot_tuple_mul ⟨_, ho, rfl⟩ F.entry_tuple_mul (F.args_tuple_mul_2 _ _) (tuple_mulS l its.toArray n dd sl k t c0 c1) ⟨ho, ?_⟩⟩)
  exact ⟨.ref l, H, I, rfl, q⟩
theorem op_repT0 : OpR X (binaryOp .Mult) (rRepT0 X.K) := by
  intro pins s σ H x y v u Q I rx ry h
  obtain ⟨l, k, xs, rfl, rfl, hT, hne, h1, q⟩ := h
  cases rx
  obtain ⟨t, rfl⟩ := ry
  obtain ⟨its, r, ⟨⟨cls, dd, data, sl⟩, ho, hc, n, hd⟩, hs⟩ := I.tuple hT
  simp only at hc hd
  subst hc hd
  have hi : its.toArray.isEmpty = false := by
    cases r with
    | nil => exact absurd rfl hne
    | cons _ _ => rfl
  have c0 : (decide (k < -(2 ^ 63)) || decide (k ≥ 2 ^ 63)) = false := by
    rw [decide_eq_false (by omega), decide_eq_false (by omega)] <;> rfl
  have c1 : (its.toArray.isEmpty || k == 1) = false := by
    rw [hi, Bool.false_or]
    exact beq_eq_false_iff_ne.mpr (by omega)
  have c2 : (decide (k ≤ 0) || its.toArray.isEmpty) = true := by
    rw [decide_eq_true (by omega)]; rfl
  refine wpAny_binaryOp_repeat_ref (T := "tuple") (U := "int") (by decide) ⟨_, ho, rfl⟩ (fun s' => typeIs_int s' k t) noFill_tuple_mul F.fills_int_mul F.slot_int_rmul repeat_tuple F.slot_int_index.lookup
    (call_meets F.slot_int_rmul (typeIs_int s k t) F.entry_int_rmul (F.args_int_rmul_2 _ _) (int_rmul_tuple k t l its.toArray n dd sl)
      ⟨ho, rfl, ⟨_, ho, rfl⟩, call_meets F.slot_tuple_mul ⟨_, ho, rfl⟩ F.entry_tuple_mul (F.args_tuple_mul_2 _ _) (tuple_mul0 l its.toArray n dd sl k t c0 c1 c2) ⟨ho, ?_⟩⟩)
  refine ⟨.ref s.heap.objs.size, _, I.laid (t' := s.toks) (o := .tup []) (fun b ob q => Heap.get?_push_of_some _ q) (Nat.le_refl _) ?_, rfl, q _ (I.hok.fresh (Nat.le_refl _))⟩
  exact ⟨by rw [sizeLine_eq]; exact Nat.zero_le _, [], .nil, IsTup.new _ _⟩
end
end DS
set_option maxRecDepth 100000
set_option maxHeartbeats 2000000
namespace DS
open PySem PySem.Spec L2
def rD2 (K : PySem.W.Frag) (sel : Sto → D → Option P) (g : P → P → Option P) : R2 := fun x y H Q => ∃ U ρ S d1 d2 a b z, StOk U K ρ S H ∧ RepD U K ρ H d1 x ∧ RepD U K ρ H d2 y ∧ sel S d1 = some a ∧ sel S d2 = some b ∧ g a b = some z ∧
  ∀ H' v, Ext U ρ H U ρ H' → StOk U K ρ S H' → RepP U K H' z v → Q v H'
theorem fits_le {n : Nat} (h : fitsN n = true) : n ≤ sizeLine := by
  have := of_decide_eq_true h
  rw [sizeLine_eq]; exact this
theorem rep_ne {U : List Addr} {K : PySem.W.Frag} {H : Hp} {xs : List P} {vs : List V} (h : RepPs U K H xs vs) (hx : xs ≠ []) : vs ≠ [] := by
  cases h with
  | nil => exact absurd rfl hx
  | cons _ _ => simp
section
variable {X : Cx}
theorem op_P (op : Operator) : OpR X (binaryOp op) (rD2 X.K snapE (binP op)) := by
  intro pins s σ H x y v u Q I rx ry ⟨U, ρ, S, d1, d2, a, b, z, st, r1, r2, h1, h2, hz, q⟩
  have g1 := snap_of_E h1
  have g2 := snap_of_E h2
  cases a with
  | int i =>
    cases b with
    | int j =>
      obtain ⟨k, rfl⟩ := binI_int (show binI op i j = some z from hz)
      exact op_int op pins s σ H x y v u Q I rx ry ⟨i, j, k, snap_int g1 r1, snap_int g2 r2, hz, q H _ (.refl _ _ _) st (.int k)⟩
    | _ => exact absurd hz (by simp [binP])
  | str i =>
    cases b with
    | str j =>
      by_cases ho : op = .Add
      · subst ho
        obtain ⟨hf, rfl⟩ := onI_some (show onI (fitsN (i.length + j.length)) (.str (i ++ j)) = some z from hz)
        exact op_add_str pins s σ H x y v u Q I rx ry ⟨i, j, snap_str g1 r1, snap_str g2 r2, fits_le hf, q H _ (.refl _ _ _) st (.str _)⟩
      · exact absurd hz (by simp [binP, ho])
    | _ => exact absurd hz (by simp [binP])
  | tuple xs =>
    obtain ⟨pa, vs, rfl, t1, l1⟩ := snap_tup g1 r1
    cases b with
    | tuple ys =>
      obtain ⟨pb, ws, rfl, t2, l2⟩ := snap_tup g2 r2
      by_cases ho : op = .Add
      · subst ho
        obtain ⟨hf, rfl⟩ := onI_some (show onI (fitsN (xs.length + ys.length)) (.tuple (xs ++ ys)) = some z from hz)
        refine op_catA pins s σ H _ _ v u Q I rx ry ⟨pa, pb, vs, ws, rfl, rfl, t1, t2, by rw [← l1.length, ← l2.length]; exact fits_le hf, fun e => ?_, fun e1 e2 => ?_, fun e1 e2 p hp => ?_⟩
        · subst e
          cases l1
          refine q H _ (.refl _ _ _) st ?_
          cases d2 with
          | p d => cases h2; exact r2
          | r n => obtain ⟨ys, _, e⟩ := snapM_some (show snapM S[n]? = _ from h2); cases e
          | s ys => cases h2
        · subst e2
          cases l2
          refine q H _ (.refl _ _ _) st ?_
          rw [List.append_nil]
          cases d1 with
          | p d => cases h1; exact r1
          | r n => obtain ⟨ys, _, e⟩ := snapM_some (show snapM S[n]? = _ from h1); cases e
          | s ys => cases h1
        · obtain ⟨a1, a2, a3⟩ := newT st (l1.append l2) hp
          exact q _ _ a1 a2 a3
      · exact absurd hz (by simp [binP, ho])
    | int k =>
      by_cases ho : op = .Mult
      · subst ho
        obtain ⟨hf, rfl⟩ := onI_some (show onI (decide (-9223372036854775808 ≤ k ∧ k ≤ 1000) && decide (xs.length ≤ 1000)) (.tuple (List.replicate k.toNat xs).flatten) = some z from hz)
        simp only [Bool.and_eq_true, decide_eq_true_eq] at hf
        by_cases hs : xs = [] ∨ k = 1
        · refine op_repTS pins s σ H _ _ v u Q I rx ry ⟨pa, k, vs, rfl, snap_int g2 r2, t1, ?_, by omega, ?_⟩
          · rcases hs with rfl | rfl
            · cases l1; exact .inl rfl
            · exact .inr rfl
          · refine q H _ (.refl _ _ _) st ?_
            have e1 : (List.replicate k.toNat xs).flatten = xs := by
              rcases hs with rfl | rfl
              · simp
              · show (List.replicate 1 xs).flatten = xs
                simp
            rw [e1]
            cases d1 with
            | p d => cases h1; exact r1
            | r n => obtain ⟨ys, _, e⟩ := snapM_some (show snapM S[n]? = _ from h1); cases e
            | s ys => cases h1
        · by_cases h0 : k ≤ 0
          · refine op_repT0 pins s σ H _ _ v u Q I rx ry ⟨pa, k, vs, rfl, snap_int g2 r2, t1, rep_ne l1 fun z => hs (.inl z), by omega, fun p hp => ?_⟩
            obtain ⟨a1, a2, a3⟩ := newT st (.nil : RepPs U X.K H [] []) hp
            refine q _ _ a1 a2 ?_
            have e1 : (List.replicate k.toNat xs).flatten = [] := by rw [show k.toNat = 0 by omega]; rfl
            rw [e1]
            exact a3
          · refine op_repT pins s σ H _ _ v u Q I rx ry ⟨pa, k, vs, rfl, snap_int g2 r2, t1, rep_ne l1 fun z => hs (.inl z), by omega, by omega, by rw [← l1.length]; exact hf.2, fun p hp => ?_⟩
            obtain ⟨a1, a2, a3⟩ := newT st (l1.replicate k.toNat) hp
            exact q _ _ a1 a2 a3
      · exact absurd hz (by simp [binP, ho])
    | _ => exact absurd hz (by simp [binP])
  | list xs =>
    obtain ⟨pa, vs, rfl, t1, l1⟩ := snapE_list st h1 r1
    cases b with
    | list ys =>
      obtain ⟨pb, ws, rfl, t2, l2⟩ := snapE_list st h2 r2
      by_cases ho : op = .Add
      · subst ho
        obtain ⟨hf, rfl⟩ := onI_some (show onI (fitsN (xs.length + ys.length)) (.list (xs ++ ys)) = some z from hz)
        refine op_cat pins s σ H _ _ v u Q I rx ry ⟨pa, pb, vs, ws, rfl, rfl, t1, t2, by rw [← l1.length, ← l2.length]; exact fits_le hf, fun p hp => ?_⟩
        obtain ⟨a1, a2, a3⟩ := newL st (l1.append l2) hp
        exact q _ _ a1 a2 a3
      · exact absurd hz (by simp [binP, ho])
    | int k =>
      by_cases ho : op = .Mult
      · subst ho
        obtain ⟨hf, rfl⟩ := onI_some (show onI (decide (-9223372036854775808 ≤ k ∧ k < 9223372036854775808) && fitsN (xs.length * k.toNat)) (.list (List.replicate k.toNat xs).flatten) = some z from hz)
        simp only [Bool.and_eq_true, decide_eq_true_eq] at hf
        refine op_rep pins s σ H _ _ v u Q I rx ry ⟨pa, k, vs, rfl, snap_int g2 r2, t1, by have := hf.1.1; omega, by have := hf.1.2; omega, by rw [← l1.length]; exact fits_le hf.2, fun p hp => ?_⟩
        obtain ⟨a1, a2, a3⟩ := newL st (l1.replicate k.toNat) hp
        exact q _ _ a1 a2 a3
      · exact absurd hz (by simp [binP, ho])
    | _ => exact absurd hz (by simp [binP])
  | _ => exact absurd hz (by simp [binP])
def rF2 (K : PySem.W.Frag) (op : Operator) : R2 := fun x y H Q => ∃ U ρ S d1 d2 a b xs, StOk U K ρ S H ∧ RepD U K ρ H d1 x ∧ RepD U K ρ H d2 y ∧ snapE S d1 = some a ∧ snapE S d2 = some b ∧ binP op a b = some (.list xs) ∧
  ∀ p vs, H p = none → RepPs U K H xs vs → Q (.ref p) (upd H p (.lst vs))
theorem op_PF (op : Operator) : OpR X (binaryOp op) (rF2 X.K op) := by
  intro pins s σ H x y v u Q I rx ry ⟨U, ρ, S, d1, d2, a, b, xs, st, r1, r2, h1, h2, hz, q⟩
  have g2 := snap_of_E h2
  cases a with
  | list as =>
    obtain ⟨pa, vs, rfl, t1, l1⟩ := snapE_list st h1 r1
    cases b with
    | list ys =>
      obtain ⟨pb, ws, rfl, t2, l2⟩ := snapE_list st h2 r2
      by_cases ho : op = .Add
      · subst ho
        obtain ⟨hf, e⟩ := onI_some (show onI (fitsN (as.length + ys.length)) (.list (as ++ ys)) = some (.list xs) from hz)
        cases e
        exact op_cat pins s σ H _ _ v u Q I rx ry ⟨pa, pb, vs, ws, rfl, rfl, t1, t2, by rw [← l1.length, ← l2.length]; exact fits_le hf, fun p hp => q p _ hp (l1.append l2)⟩
      · exact absurd hz (by simp [binP, ho])
    | int k =>
      by_cases ho : op = .Mult
      · subst ho
        obtain ⟨hf, e⟩ := onI_some (show onI (decide (-9223372036854775808 ≤ k ∧ k < 9223372036854775808) && fitsN (as.length * k.toNat)) (.list (List.replicate k.toNat as).flatten) = some (.list xs) from hz)
        cases e
        simp only [Bool.and_eq_true, decide_eq_true_eq] at hf
        exact op_rep pins s σ H _ _ v u Q I rx ry ⟨pa, k, vs, rfl, snap_int g2 r2, t1, by have := hf.1.1; omega, by have := hf.1.2; omega, by rw [← l1.length]; exact fits_le hf.2, fun p hp => q p _ hp (l1.replicate k.toNat)⟩
      · exact absurd hz (by simp [binP, ho])
    | _ => exact absurd hz (by simp [binP])
  | int i =>
    cases b with
    | int j =>
      obtain ⟨k, e⟩ := binI_int (show binI op i j = some (.list xs) from hz)
      cases e
    | _ => exact absurd hz (by simp [binP])
  | str i =>
    cases b with
    | str j =>
      by_cases ho : op = .Add
      · subst ho
        obtain ⟨_, e⟩ := onI_some (show onI (fitsN (i.length + j.length)) (.str (i ++ j)) = some (.list xs) from hz)
        cases e
      · exact absurd hz (by simp [binP, ho])
    | _ => exact absurd hz (by simp [binP])
  | tuple as =>
    cases b with
    | tuple ys =>
      by_cases ho : op = .Add
      · subst ho
        obtain ⟨_, e⟩ := onI_some (show onI (fitsN (as.length + ys.length)) (.tuple (as ++ ys)) = some (.list xs) from hz)
        cases e
      · exact absurd hz (by simp [binP, ho])
    | int k =>
      by_cases ho : op = .Mult
      · subst ho
        obtain ⟨_, e⟩ := onI_some (show onI (decide (-9223372036854775808 ≤ k ∧ k ≤ 1000) && decide (as.length ≤ 1000)) (.tuple (List.replicate k.toNat as).flatten) = some (.list xs) from hz)
        cases e
      · exact absurd hz (by simp [binP, ho])
    | _ => exact absurd hz (by simp [binP])
  | _ => exact absurd hz (by simp [binP])
def rC2 (K : PySem.W.Frag) (op : CmpOp) : R2 := fun x y H Q => ∃ U ρ S d1 d2 a b z, StOk U K ρ S H ∧ RepD U K ρ H d1 x ∧ RepD U K ρ H d2 y ∧ snap S d1 = some a ∧ snap S d2 = some b ∧ cmpP op a b = some z ∧ Q (.bl z) H
theorem rep_sc {U : List Addr} {K : PySem.W.Frag} {H : Hp} {a b : P} {x y : V} (h : scP a b = true) (r1 : RepP U K H a x) (r2 : RepP U K H b y) : scal x y = true ∧ PyData.eqv a b = decide (x = y) := by
  cases r1 <;> cases r2 <;> first
    | (simp [scP] at h; done)
    | exact ⟨rfl, dec_bl.symm⟩
    | exact ⟨rfl, dec_int.symm⟩
    | exact ⟨rfl, dec_str.symm⟩
    | (refine ⟨rfl, ?_⟩; simp [PyData.eqv]; done)
theorem sc_nl {a b : P} (h : scP a b = true) : (∀ xs, a ≠ .list xs) ∧ ∀ xs, b ≠ .list xs := by
  constructor <;> rintro xs rfl <;> revert h <;> first
    | (cases b <;> simp [scP])
    | (cases a <;> simp [scP])
theorem intsOf_eq : ∀ {xs : List P} {ns : List Int}, intsOf xs = some ns → xs = ns.map PyData.int
  | [], _, h => by cases h; rfl
  | x :: r, ns, h => by
    cases x with
    | int i =>
      simp only [intsOf, Option.map_eq_some_iff] at h
      obtain ⟨ms, h1, rfl⟩ := h
      rw [intsOf_eq h1, List.map_cons]
    | _ => exact absurd h (by simp [intsOf])
theorem blsOf_eq : ∀ {xs : List P} {bs : List Bool}, blsOf xs = some bs → xs = bs.map PyData.bool
  | [], _, h => by cases h; rfl
  | x :: r, ns, h => by
    cases x with
    | bool i =>
      simp only [blsOf, Option.map_eq_some_iff] at h
      obtain ⟨ms, h1, rfl⟩ := h
      rw [blsOf_eq h1, List.map_cons]
    | _ => exact absurd h (by simp [blsOf])
theorem RepPs.bls {U : List Addr} {K : PySem.W.Frag} {H : Hp} : ∀ {bs : List Bool} {vs : List V}, RepPs U K H (bs.map PyData.bool) vs → vs = bs.map V.bl
  | [], _, .nil => rfl
  | n :: ns, _, .cons h t => by
    cases h
    rw [RepPs.bls t, List.map_cons]
theorem shaped_tup {xs : List P} : SeqAt.shaped (.tuple xs) = SeqAt.shaped (.list xs) := by
  unfold SeqAt.shaped
  simp [PyData.canLay0, PyData.depth]
theorem room_in {A : Around} {d : PyData} {k : Nat} (h : SeqAt.shaped d = true) (hu : A.units + 65 < cLine) : A.units + 1 + min k d.depth < cLine := by
  have h1 := SeqAt.depth_of_shaped h
  have h2 : min k d.depth ≤ d.depth := Nat.min_le_right _ _
  omega
theorem op_C (hu : X.A.units + 65 < cLine) (op : CmpOp) : OpR X (compareOp op) (rC2 X.K op) := by
  intro pins s σ H x y v u Q I rx ry ⟨U, ρ, S, d1, d2, a, b, z, st, r1, r2, h1, h2, hz, q⟩
  have nds : ∀ {d : P}, SeqAt.shaped d = true → d.hasDict = false := fun h => PyData.hasDict_of_canLay _ (SeqAt.canLay_of_shaped h)
  have dp1 := snap_dp st h1 r1
  have dp2 := snap_dp st h2 r2
  have eqCase : scP a b = true → scal x y = true ∧ PyData.eqv a b = decide (x = y) := fun hs =>
    rep_sc hs (snap_sc h1 r1 (sc_nl hs).1) (snap_sc h2 r2 (sc_nl hs).2)
  cases op with
  | Eq =>
    obtain ⟨ho, rfl⟩ := okB_some (show okB (scP a b || (SeqAt.shaped a && SeqAt.shaped b)) (PyData.eqv a b) = some z from hz)
    by_cases hs : scP a b = true
    · obtain ⟨e1, e2⟩ := eqCase hs
      exact op_eq pins s σ H x y v u Q I rx ry ⟨e1, by rw [← e2]; exact q⟩
    · simp only [hs, Bool.false_or, Bool.and_eq_true] at ho
      exact op_eqD (by omega) pins s σ H x y v u Q I rx ry ⟨a, b, dp1 (nds ho.1), dp2 (nds ho.2), ho.1, ho.2, q⟩
  | NotEq =>
    obtain ⟨ho, rfl⟩ := okB_some (show okB (scP a b || (SeqAt.shaped a && SeqAt.shaped b)) (!PyData.eqv a b) = some z from hz)
    by_cases hs : scP a b = true
    · obtain ⟨e1, e2⟩ := eqCase hs
      exact op_ne pins s σ H x y v u Q I rx ry ⟨e1, by rw [← e2]; exact q⟩
    · simp only [hs, Bool.false_or, Bool.and_eq_true] at ho
      exact op_neD (by omega) pins s σ H x y v u Q I rx ry ⟨a, b, dp1 (nds ho.1), dp2 (nds ho.2), ho.1, ho.2, q⟩
  | Lt =>
    cases a with
    | int i => cases b with
      | int j => cases hz; exact op_lt pins s σ H x y v u Q I rx ry ⟨i, j, snap_int h1 r1, snap_int h2 r2, q⟩
      | _ => exact absurd hz (by simp [cmpP])
    | str i => cases b with
      | str j => cases hz; exact op_lt_str pins s σ H x y v u Q I rx ry ⟨i, j, snap_str h1 r1, snap_str h2 r2, q⟩
      | _ => exact absurd hz (by simp [cmpP])
    | tuple xs => cases b with
      | tuple ys =>
        simp only [cmpP, Option.bind_eq_some_iff, Option.map_eq_some_iff] at hz
        obtain ⟨ns, hn, ms, hm, rfl⟩ := hz
        obtain ⟨pa, vs, rfl, t1, l1⟩ := snap_tup h1 r1
        obtain ⟨pb, ws, rfl, t2, l2⟩ := snap_tup h2 r2
        rw [intsOf_eq hn] at l1
        rw [intsOf_eq hm] at l2
        rw [l1.ints] at t1
        rw [l2.ints] at t2
        exact op_ltT (by omega) pins s σ H _ _ v u Q I rx ry ⟨pa, pb, ns, ms, rfl, rfl, t1, t2, q⟩
      | _ => exact absurd hz (by simp [cmpP])
    | _ => exact absurd hz (by simp [cmpP])
  | LtE =>
    cases a with
    | int i => cases b with
      | int j => cases hz; exact op_le pins s σ H x y v u Q I rx ry ⟨i, j, snap_int h1 r1, snap_int h2 r2, q⟩
      | _ => exact absurd hz (by simp [cmpP])
    | tuple xs => cases b with
      | tuple ys =>
        simp only [cmpP, Option.bind_eq_some_iff, Option.map_eq_some_iff] at hz
        obtain ⟨ns, hn, ms, hm, rfl⟩ := hz
        obtain ⟨pa, vs, rfl, t1, l1⟩ := snap_tup h1 r1
        obtain ⟨pb, ws, rfl, t2, l2⟩ := snap_tup h2 r2
        rw [intsOf_eq hn] at l1
        rw [intsOf_eq hm] at l2
        rw [l1.ints] at t1
        rw [l2.ints] at t2
        exact op_leT (by omega) pins s σ H _ _ v u Q I rx ry ⟨pa, pb, ns, ms, rfl, rfl, t1, t2, q⟩
      | _ => exact absurd hz (by simp [cmpP])
    | _ => exact absurd hz (by simp [cmpP])
  | Gt =>
    cases a with
    | int i => cases b with
      | int j => cases hz; exact op_gt pins s σ H x y v u Q I rx ry ⟨i, j, snap_int h1 r1, snap_int h2 r2, q⟩
      | _ => exact absurd hz (by simp [cmpP])
    | _ => exact absurd hz (by simp [cmpP])
  | GtE =>
    cases a with
    | int i => cases b with
      | int j => cases hz; exact op_ge pins s σ H x y v u Q I rx ry ⟨i, j, snap_int h1 r1, snap_int h2 r2, q⟩
      | _ => exact absurd hz (by simp [cmpP])
    | _ => exact absurd hz (by simp [cmpP])
  | Is =>
    have hb : b = .none := by cases a <;> cases b <;> first | rfl | exact absurd hz (by simp [cmpP])
    subst hb
    refine op_isN pins s σ H x y v u Q I rx ry ⟨snap_non h2 r2, ?_⟩
    have : decide (x = V.non) = z := by
      cases a with
      | none => cases hz; rw [snap_non h1 r1]; rfl
      | bool i => cases hz; rw [snap_bl h1 r1]; rfl
      | int i => cases hz; rw [snap_int h1 r1]; rfl
      | str i => cases hz; rw [snap_str h1 r1]; rfl
      | list i => cases hz; obtain ⟨_, _, rfl, _⟩ := snap_list st h1 r1; rfl
      | tuple i => cases hz; obtain ⟨_, _, rfl, _⟩ := snap_tup h1 r1; rfl
      | dict i => cases hz; have q := snap_sc h1 r1 (fun _ z => nomatch z); cases q; rfl
    rw [this]; exact q
  | IsNot =>
    have hb : b = .none := by cases a <;> cases b <;> first | rfl | exact absurd hz (by simp [cmpP])
    subst hb
    refine op_notN pins s σ H x y v u Q I rx ry ⟨snap_non h2 r2, ?_⟩
    have : (!decide (x = V.non)) = z := by
      cases a with
      | none => cases hz; rw [snap_non h1 r1]; rfl
      | bool i => cases hz; rw [snap_bl h1 r1]; rfl
      | int i => cases hz; rw [snap_int h1 r1]; rfl
      | str i => cases hz; rw [snap_str h1 r1]; rfl
      | list i => cases hz; obtain ⟨_, _, rfl, _⟩ := snap_list st h1 r1; rfl
      | tuple i => cases hz; obtain ⟨_, _, rfl, _⟩ := snap_tup h1 r1; rfl
      | dict i => cases hz; have q := snap_sc h1 r1 (fun _ z => nomatch z); cases q; rfl
    rw [this]; exact q
  | In =>
    cases b with
    | list ys =>
      obtain ⟨ho, rfl⟩ := okB_some (show okB (SeqAt.shaped a && SeqAt.shaped (.list ys)) (ys.any fun w => PyData.eqv w a) = some z from hz)
      simp only [Bool.and_eq_true] at ho
      exact op_inD hu pins s σ H x y v u Q I rx ry ⟨a, ys, dp1 (nds ho.1), dp2 (nds ho.2), ho.1, ho.2, q⟩
    | tuple ys =>
      obtain ⟨ho, rfl⟩ := okB_some (show okB (SeqAt.shaped a && SeqAt.shaped (.list ys)) (ys.any fun w => PyData.eqv w a) = some z from hz)
      simp only [Bool.and_eq_true] at ho
      obtain ⟨as, q1⟩ := Dp.reads I a x v (dp1 (nds ho.1)) rx
      obtain ⟨bs, q2⟩ := Dp.reads I (.tuple ys) y u (dp2 (show PyData.hasDictAll ys = false from nds ho.2)) ry
      exact SeqAt.in_tuple_reads q2 q1 (SeqAt.canLay_of_shaped ho.2) (SeqAt.canLay_of_shaped ho.1) (room_in ho.1 hu) ⟨.bl _, H, I, rfl, q⟩
    | str j => cases a with
      | str i => cases hz; exact op_in_str pins s σ H x y v u Q I rx ry ⟨i, j, snap_str h1 r1, snap_str h2 r2, q⟩
      | _ => exact absurd hz (by simp [cmpP])
    | _ => exact absurd hz (by simp [cmpP])
  | NotIn =>
    cases b with
    | list ys =>
      obtain ⟨ho, rfl⟩ := okB_some (show okB (SeqAt.shaped a && SeqAt.shaped (.list ys)) (!ys.any fun w => PyData.eqv w a) = some z from hz)
      simp only [Bool.and_eq_true] at ho
      exact op_notInD hu pins s σ H x y v u Q I rx ry ⟨a, ys, dp1 (nds ho.1), dp2 (nds ho.2), ho.1, ho.2, q⟩
    | tuple ys =>
      obtain ⟨ho, rfl⟩ := okB_some (show okB (SeqAt.shaped a && SeqAt.shaped (.list ys)) (!ys.any fun w => PyData.eqv w a) = some z from hz)
      simp only [Bool.and_eq_true] at ho
      obtain ⟨as, q1⟩ := Dp.reads I a x v (dp1 (nds ho.1)) rx
      obtain ⟨bs, q2⟩ := Dp.reads I (.tuple ys) y u (dp2 (show PyData.hasDictAll ys = false from nds ho.2)) ry
      exact SeqAt.notIn_tuple_reads q2 q1 (SeqAt.canLay_of_shaped ho.2) (SeqAt.canLay_of_shaped ho.1) (room_in ho.1 hu) ⟨.bl _, H, I, rfl, q⟩
    | str j => cases a with
      | str i => cases hz; exact op_notin_str pins s σ H x y v u Q I rx ry ⟨i, j, snap_str h1 r1, snap_str h2 r2, q⟩
      | _ => exact absurd hz (by simp [cmpP])
    | _ => exact absurd hz (by simp [cmpP])
end
end DS
set_option maxRecDepth 100000
set_option maxHeartbeats 4000000
namespace DS
open PySem PySem.Spec L2 PyProof.Rows
def SqK (K : PySem.W.Frag) (H : Hp) (k : Bool) (a : Addr) (xs : List V) : Prop := match k with
  | true => SqT K H a xs
  | false => SqL K H a xs
def HeldK (h : Heap) (k : Bool) (a : Addr) (its : Array Value) : Prop := match k with
  | true => h.IsTuple a its
  | false => h.IsList a its
theorem HeldK.at {h h' : Heap} {k : Bool} {a : Addr} {its : Array Value} (x : HeldK h k a its) (e : ∀ o, h.get? a = some o → h'.get? a = some o) : HeldK h' k a its := by
  cases k
  · exact Heap.IsList.at x e
  · exact Heap.IsTuple.at x e
theorem sqK_items {X : Cx} {pins : List (Addr × Obj)} {σ : L2.St} {H : Hp} {s : Shared} {k : Bool} {a : Addr} {xs : List V} (I : Inv X pins σ H s) (h : SqK X.K H k a xs) : ∃ its : List Value, Vals xs its ∧ HeldK s.heap k a its.toArray := by
  cases k
  · obtain ⟨its, rv, p, _⟩ := I.list h
    exact ⟨its, rv, p.isList⟩
  · obtain ⟨its, rv, p, _⟩ := I.tuple h
    exact ⟨its, rv, p⟩
theorem sqK_inj {X : Cx} {pins : List (Addr × Obj)} {σ : L2.St} {H : Hp} {s : Shared} {k : Bool} {a : Addr} {xs ys : List V} (I : Inv X pins σ H s) (h : SqK X.K H k a xs) (h2 : SqK X.K H k a ys) : xs = ys := by
  cases k
  · exact I.list_inj h h2
  · exact I.tuple_inj h h2
section
variable {prog : Program} {w : World} {A : Around} {E : Value → Shared → Prop} {s : Shared}
theorem collect_tup {l : Addr} {vs : List Value} {Q : List Value → Shared → Prop} (hl : s.heap.IsTuple l vs.toArray)
    (h : Q vs { s with heap := (s.heap.push (seqObj "list" #[] 0)).update s.heap.objs.size (Obj.mapSeq (· ++ vs.toArray)) }) (hsz : vs.length ≤ sizeLine) :
    wpAny (model prog w) A (collect (.ref l)) Q E s := by
  obtain ⟨o, ho, hc, n, hd⟩ := id hl
  unfold collect
  refine wpAny_bind (wpAny_runValue (codeAny_builtin entry_proto_collect' ?_))
  show wpAny _ _ (do again (.builtin "list.__iadd__" ⟨[← newList [], .ref l], []⟩)) _ _ s
  refine wpAny_bind (wpAny_newList (wpAny_pure ⟨Code.quiet_builtin _ (by decide +kernel), codeAny_builtin entry_list_iadd' ?_⟩))
  show wpAny _ _ (Builtin.List.listExtendWith (.ref s.heap.objs.size) (.ref l) (.ref s.heap.objs.size)) _ _ { s with heap := s.heap.push (seqObj "list" #[] 0) }
  unfold Builtin.List.listExtendWith
  have ho' : (s.heap.push (seqObj "list" #[] 0)).get? l = some o := Heap.get?_push_of_some _ ho
  refine wpAny_bind (wpAny_typeOf (T := "tuple") ⟨o, ho', hc⟩ ?_)
  have ht : (Value.type "tuple" == Value.type "tuple") = true := by rfl
  rw [if_pos (by rw [ht]; simp)]
  refine wpAny_bind (listItems_at ho' hd ?_)
  refine wpAny_bind (listItems_at (xs := #[]) (n := 0) (Heap.get?_push_size _ rfl) rfl ?_)
  rw [if_neg (by simp)]
  refine wpAny_bind (listUpdate_at (xs := #[]) (n := 0) (Heap.get?_push_size _ rfl) rfl ?_ (Nat.zero_le _) (by show (#[] ++ vs.toArray).size ≤ sizeLine + 1; simp only [Array.size_append, List.size_toArray, List.length_nil]; omega))
  refine wpAny_pure ?_
  show wpAny (model prog w) A (do
      let o ← load s.heap.objs.size
      match o.data with
      | .seq xs _ => pure xs.toList
      | _ => unsupported "internal:collect") Q E { s with heap := (s.heap.push (seqObj "list" #[] 0)).update s.heap.objs.size (Obj.mapSeq (· ++ vs.toArray)) }
  refine wpAny_bind (wpAny_load (get?_update_seq (Heap.get?_push_size _ rfl) _) ?_)
  show wpAny _ _ (pure ((#[] : Array Value) ++ vs.toArray).toList) Q E _
  rw [show ((#[] : Array Value) ++ vs.toArray).toList = vs by simp]
  exact wpAny_pure h
end
end DS
namespace PySem.W
open PySem PySem.Calls PyProof.Rows
section
variable {prog : Program} {w : World} {A : Around} {E : Value → Shared → Prop} {s : Shared} {β : Type} {vs : List Value} {bs : List β} {enc : β → PyData} {R : Value → β → Prop}
theorem sortedT_of_sort {l : Addr} {vs : List Value} {kw : List (Str × Value)} {Q : Value → Shared → Prop} (hl : s.heap.IsTuple l vs.toArray) (hL : vs.length ≤ sizeLine) (ha1 : argsOk "sorted" ⟨[.ref l], kw⟩) (ha2 : ∀ x, argsOk "list.sort" ⟨[.ref x], kw⟩)
    (body : ∀ E' : Value → Shared → Prop, wpAny (model prog w) A.in1.in1 (Builtin.«list.sort» ⟨[.ref (s.heap.objs.size + 1)], kw⟩) (fun f s' => f = .done (.ret .none) ∧ Q (.ref (s.heap.objs.size + 1)) s') E' { s with heap := copyHeap s.heap vs }) :
    wpAny (model prog w) A (call (.builtin "sorted") [.ref l] kw) Q E s := by
  refine call_function_entry_kw kind_sorted plain_sorted entry_sorted ha1 ?_
  unfold Builtin.«sorted»
  refine wpAny_bind (m := checkCount "sorted" 1 1 _) (wpAny_pure ?_)
  refine wpAny_bind (DS.collect_tup hl ?_ hL)
  refine wpAny_bind (wpAny_newList ?_ hL)
  have hsz : ((s.heap.push (seqObj "list" #[] 0)).update s.heap.objs.size (Obj.mapSeq (· ++ vs.toArray))).objs.size = s.heap.objs.size + 1 := by
    rw [Heap.size_update, size_push']
  show wpAny _ _ _ _ _ { s with heap := copyHeap s.heap vs }
  rw [hsz]
  refine wpAny_bind (wpAny_holding (wpAny_call_entry_kw slot_list_sort ⟨_, copyHeap_at s.heap vs, rfl⟩ entry_list_sort ?body (ha2 _)))
  case body =>
    show wpAny (model prog w) A.in1.in1 (Builtin.«list.sort» ⟨[.ref (s.heap.objs.size + 1)], kw⟩) _ _ _
    refine wpAny_mono (body _) (fun f s' hf => ?_) fun _ _ e => e
    obtain ⟨rfl, hq⟩ := hf
    exact ⟨_, rfl, wpAny_pure ⟨_, rfl, hq⟩⟩
theorem sortedT_data {l : Addr} {Q : Value → Shared → Prop} (hl : s.heap.IsTuple l vs.toArray) (e : EachIs R vs bs) (er : EachIs (fun v b => ∃ as, Reads s.heap v (enc b) as) vs bs) (hal : AllAlike (bs.map enc)) (hk : Sortable (bs.map enc)) (hL : bs.length ≤ sizeLine)
    (hu : ∀ b, b ∈ bs → A.units + 2 + (enc b).depth < cLine) (h : ∀ out, out.length = bs.length → EachIs R out (bs.mergeSort (dataLe false enc)) → Q (.ref (s.heap.objs.size + 1)) { s with heap := sortedAll s.heap vs (List.toArray out) }) :
    wpAny (model prog w) A (call (.builtin "sorted") [.ref l]) Q E s := by
  have er' : EachIs (fun v b => ∃ as, Reads (sortingHeap (copyHeap s.heap vs) (s.heap.objs.size + 1) vs) v (enc b) as) vs bs := er.mono fun _ _ ⟨as, r⟩ => ⟨as, PyProof.Rows.Reads.keeps (fun _ _ => sorting_copy_old) r⟩
  exact sortedT_of_sort hl (by rw [e.length]; exact hL) (args_sorted1 _) (fun _ => args_list_sort _) fun _ => list_sort_vals (s := { s with heap := copyHeap s.heap vs }) (copyHeap_at s.heap vs)
    (SortsAt.data (s := { s with heap := sortingHeap (copyHeap s.heap vs) (s.heap.objs.size + 1) vs }) (each_map (R := fun v d => ∃ as, Reads (sortingHeap (copyHeap s.heap vs) (s.heap.objs.size + 1) vs) v d as) enc er') hal hk (bound_map hu)) (by rw [e.length]; exact hL)
    ⟨rfl, h _ (by rw [sortVals_length false rfl]; exact e.length) (sortVals_data false e er' hal)⟩
end
end PySem.W
namespace DS
open PySem PySem.Spec L2 PyProof.Rows
def rSortedD (K : PySem.W.Frag) : List V → Hp → VK → Prop := fun vs H Q => ∃ (k : Bool) (a : Addr) (bs : List (V × P)), vs = [V.ref a] ∧ SqK K H k a (bs.map (·.1)) ∧ (∀ b, b ∈ bs → Dp K H b.1 b.2) ∧ srtOk (bs.map (·.2)) = true ∧
  ∀ p, H p = none → Q (.ref p) (upd H p (.lst ((bs.mergeSort (PySem.W.dataLe false fun b => b.2)).map (·.1))))
theorem each_vals : ∀ {us : List Value} {bs : List (V × P)}, Vals (bs.map (·.1)) us → PySem.W.EachIs (fun u b => RelV b.1 u) us bs
  | _, [], .nil => .nil
  | _, _ :: _, .cons h t => .cons h (each_vals t)
theorem vals_each : ∀ {us : List Value} {bs : List (V × P)}, PySem.W.EachIs (fun u b => RelV b.1 u) us bs → Vals (bs.map (·.1)) us
  | _, _, .nil => .nil
  | _, _, .cons h t => .cons h (vals_each t)
theorem each_reads {h : Heap} {K : PySem.W.Frag} {H : Hp} (f : ∀ (d : P) (v : V) (u : Value), Dp K H v d → RelV v u → ∃ as, Reads h u d as) : ∀ {us : List Value} {bs : List (V × P)}, Vals (bs.map (·.1)) us → (∀ b, b ∈ bs → Dp K H b.1 b.2) → PySem.W.EachIs (fun u b => ∃ as, Reads h u b.2 as) us bs
  | _, [], .nil, _ => .nil
  | _, b :: _, .cons h t, k => .cons (f _ _ _ (k b List.mem_cons_self) h) (each_reads f t fun c hc => k c (List.mem_cons_of_mem _ hc))
theorem srtOk_nd {xs : List P} (h : srtOk xs = true) : PyData.hasDictAll xs = false := by
  unfold srtOk at h
  rw [Bool.and_eq_true, Bool.not_eq_true'] at h
  exact h.2
theorem srtOk_of {xs : List P} (h : srtOk xs = true) : PySem.W.AllAlike xs ∧ PySem.W.Sortable xs ∧ (∀ x, x ∈ xs → x.depth ≤ 64) ∧ xs.length ≤ 16777216 := by
  unfold srtOk at h
  simp only [Bool.and_eq_true, Bool.or_eq_true, List.all_eq_true, decide_eq_true_eq] at h
  obtain ⟨⟨⟨⟨h1, h2⟩, h3⟩, h4⟩, _⟩ := h
  refine ⟨fun d hd d' hd' => h1 d hd d' hd', ?_, h3, of_decide_eq_true h4⟩
  rcases h2 with h2 | h2
  · refine .inl fun d hd => ?_
    have := h2 d hd
    unfold tupB at this
    split at this
    · exact ⟨_, _, rfl⟩
    · cases this
  · refine .inr fun d hd => ?_
    have := h2 d hd
    cases d <;> simp_all [plnB]
theorem cr_sortedD {X : Cx} (hu : X.A.units + 100 < cLine) : CallR X (.builtin "sorted") (rSortedD X.K) := by
  intro pins s σ H vs us Q I r h
  obtain ⟨k, a, bs, rfl, hs, hd, hok, q⟩ := h
  obtain ⟨its, rv, p⟩ := sqK_items I hs
  obtain ⟨o1, o2, o3, o4⟩ := srtOk_of hok
  rw [List.length_map] at o4
  rw [Vals.ref1 r]
  have e := each_vals rv
  have er := each_reads (fun d v u h1 h2 => Dp.reads I d v u h1 h2) rv hd
  have hub : ∀ b : V × P, b ∈ bs → X.A.units + 2 + (b.2).depth < cLine := fun b hb => by
    have := o3 b.2 (List.mem_map.mpr ⟨b, hb, rfl⟩)
    omega
  have fin : ∀ out : List Value, out.length = bs.length → PySem.W.EachIs (fun u b => RelV b.1 u) out (bs.mergeSort (PySem.W.dataLe false fun b => b.2)) → EP X pins σ Q (.ref (s.heap.objs.size + 1)) { s with heap := sortedAll s.heap its (List.toArray out) } := fun out h1 h2 => by
    obtain ⟨ep, he'⟩ := PyProof.Rows.sortedAll_at s.heap its (List.toArray out)
    have hlen : ((bs.mergeSort (PySem.W.dataLe false fun b => b.2)).map (·.1)).length ≤ sizeLine := by
      rw [List.length_map, List.length_mergeSort, sizeLine_eq]
      exact o4
    exact ⟨.ref _, upd H (s.heap.objs.size + 1) (.lst ((bs.mergeSort (PySem.W.dataLe false fun b => b.2)).map (·.1))), I.laid (t' := s.toks) (fun _ _ => PyProof.Rows.sortedAll_old) (Nat.le_succ _) ⟨hlen, out, ep, vals_each h2, he'⟩, rfl, q _ (I.hok.fresh (Nat.le_succ _))⟩
  cases k
  · exact PySem.W.sorted_data p e er o1 o2 (by rw [sizeLine_eq]; exact o4) hub fin
  · exact PySem.W.sortedT_data p e er o1 o2 (by rw [sizeLine_eq]; exact o4) hub fin
theorem le_total : PySem.W.TotalLe (PySem.W.dataLe false (fun z : P => z)) := PySem.W.sortLe_total _ _ _
theorem insD_pw (x : P) : ∀ l : List P, l.Pairwise (fun a b => PySem.W.dataLe false (fun z : P => z) a b = true) → (insD x l).Pairwise (fun a b => PySem.W.dataLe false (fun z : P => z) a b = true) ∧ ∀ y, y ∈ insD x l ↔ y = x ∨ y ∈ l
  | [], _ => ⟨by simp [insD], by simp [insD]⟩
  | z :: r, h => by
    have h1 := List.pairwise_cons.mp h
    unfold insD
    split
    · rename_i e
      refine ⟨List.pairwise_cons.mpr ⟨fun y hy => ?_, h⟩, fun y => by simp⟩
      rcases List.mem_cons.mp hy with rfl | hy
      · exact e
      · exact le_total.trans _ _ _ e (h1.1 y hy)
    · rename_i e
      obtain ⟨i1, i2⟩ := insD_pw x r h1.2
      refine ⟨List.pairwise_cons.mpr ⟨fun y hy => ?_, i1⟩, fun y => ?_⟩
      · rcases (i2 y).mp hy with rfl | hy
        · rcases le_total.total y z with h | h
          · rw [h] at e; cases e
          · exact h
        · exact h1.1 y hy
      · rw [List.mem_cons, i2 y, List.mem_cons]
        constructor
        · rintro (h | h | h)
          · exact .inr (.inl h)
          · exact .inl h
          · exact .inr (.inr h)
        · rintro (h | h | h)
          · exact .inr (.inl h)
          · exact .inl h
          · exact .inr (.inr h)
theorem insD_filter (x c : P) : ∀ l : List P, (insD x l).filter (PySem.W.sameRank (PySem.W.dataLe false (fun z : P => z)) c) = (x :: l).filter (PySem.W.sameRank (PySem.W.dataLe false (fun z : P => z)) c)
  | [] => rfl
  | z :: r => by
    unfold insD
    split
    · rfl
    · rename_i e
      rw [List.filter_cons, insD_filter x c r, List.filter_cons, List.filter_cons, List.filter_cons]
      by_cases hx : PySem.W.sameRank (PySem.W.dataLe false (fun z : P => z)) c x = true
      · by_cases hz : PySem.W.sameRank (PySem.W.dataLe false (fun z : P => z)) c z = true
        · exfalso
          unfold PySem.W.sameRank at hx hz
          rw [Bool.and_eq_true] at hx hz
          rw [le_total.trans _ _ _ hx.2 hz.1] at e
          cases e
        · rw [if_neg hz]
          simp only [hx, if_true, if_neg hz]
      · simp only [if_neg hx]
theorem sortD_merge : ∀ l : List P, sortD l = l.mergeSort (PySem.W.dataLe false (fun z : P => z)) := fun l => by
  have h1 : ∀ l : List P, (sortD l).Pairwise (fun a b => PySem.W.dataLe false (fun z : P => z) a b = true) := by
    intro l
    induction l with
    | nil => exact .nil
    | cons x r ih => exact (insD_pw x _ ih).1
  have h2 : ∀ (l : List P) (c : P), (sortD l).filter (PySem.W.sameRank (PySem.W.dataLe false (fun z : P => z)) c) = l.filter (PySem.W.sameRank (PySem.W.dataLe false (fun z : P => z)) c) := by
    intro l c
    induction l with
    | nil => rfl
    | cons x r ih =>
      show (insD x (sortD r)).filter _ = _
      rw [insD_filter, List.filter_cons, ih, List.filter_cons]
  exact PySem.W.sort_unique le_total (h1 l) (h2 l)
end DS
set_option maxRecDepth 100000
set_option maxHeartbeats 2000000
namespace DS
open PySem PySem.Spec L2
def biV : BI → Value
  | .len => .builtin "len" | .int1 => .type "int" | .abs => .builtin "abs" | .max2 => .builtin "max" | .min2 => .builtin "min" | .maxl => .builtin "max" | .minl => .builtin "min"
  | .sum => .builtin "sum" | .any => .builtin "any" | .all => .builtin "all" | .tup => .type "tuple" | .lst => .type "list" | .str1 => .type "str" | .repr => .builtin "repr" | .srt => .builtin "sorted"
def rB (K : PySem.W.Frag) (b : BI) : List V → Hp → VK → Prop := fun vs H Q => ∃ U ρ S ds xs z, StOk U K ρ S H ∧ RepDs U K ρ H ds vs ∧ snaps S ds = some xs ∧ biF b xs = some z ∧
  ∀ H' v, Ext U ρ H U ρ H' → StOk U K ρ S H' → RepP U K H' z v → Q v H'
section
variable {U ρ : List Addr} {K : PySem.W.Frag} {H : Hp} {S : Sto}
theorem snaps1 {ds : List D} {vs : List V} {x : P} (h : snaps S ds = some [x]) (r : RepDs U K ρ H ds vs) : ∃ d v, ds = [d] ∧ vs = [v] ∧ snap S d = some x ∧ RepD U K ρ H d v := by
  cases r with
  | nil => cases h
  | cons r t =>
    simp only [snaps, Option.bind_eq_some_iff, Option.map_eq_some_iff] at h
    obtain ⟨y, h1, ys, h2, e⟩ := h
    cases e
    cases t with
    | nil => exact ⟨_, _, rfl, rfl, h1, r⟩
    | cons _ _ => simp [snaps, Option.bind_eq_some_iff] at h2
theorem snaps2 {ds : List D} {vs : List V} {x y : P} (h : snaps S ds = some [x, y]) (r : RepDs U K ρ H ds vs) :
    ∃ d e v w, ds = [d, e] ∧ vs = [v, w] ∧ snap S d = some x ∧ snap S e = some y ∧ RepD U K ρ H d v ∧ RepD U K ρ H e w := by
  cases r with
  | nil => cases h
  | cons r t =>
    simp only [snaps, Option.bind_eq_some_iff, Option.map_eq_some_iff] at h
    obtain ⟨y, h1, ys, h2, e⟩ := h
    cases e
    obtain ⟨d, v, rfl, rfl, h3, h4⟩ := snaps1 h2 t
    exact ⟨_, _, _, _, rfl, rfl, h1, h3, r, h4⟩
end
theorem maxI_spec : ∀ {ns : List Int}, 0 < ns.length → maxI ns ∈ ns ∧ ∀ y, y ∈ ns → y ≤ maxI ns
  | [x], _ => ⟨by simp [maxI], fun y hy => by simp at hy; simp [maxI, hy]⟩
  | x :: y :: r, _ => by
    obtain ⟨h1, h2⟩ := maxI_spec (ns := y :: r) (by simp)
    have e : maxI (x :: y :: r) = max x (maxI (y :: r)) := rfl
    rw [e]
    refine ⟨?_, fun z hz => ?_⟩
    · by_cases h : x ≤ maxI (y :: r)
      · rw [Int.max_eq_right h]; exact List.mem_cons_of_mem _ h1
      · rw [Int.max_eq_left (by omega)]; exact List.mem_cons_self
    · rcases List.mem_cons.mp hz with rfl | hz
      · exact Int.le_max_left _ _
      · exact Int.le_trans (h2 z hz) (Int.le_max_right _ _)
theorem minI_spec : ∀ {ns : List Int}, 0 < ns.length → minI ns ∈ ns ∧ ∀ y, y ∈ ns → minI ns ≤ y
  | [x], _ => ⟨by simp [minI], fun y hy => by simp at hy; simp [minI, hy]⟩
  | x :: y :: r, _ => by
    obtain ⟨h1, h2⟩ := minI_spec (ns := y :: r) (by simp)
    have e : minI (x :: y :: r) = min x (minI (y :: r)) := rfl
    rw [e]
    refine ⟨?_, fun z hz => ?_⟩
    · by_cases h : x ≤ minI (y :: r)
      · rw [Int.min_eq_left h]; exact List.mem_cons_self
      · rw [Int.min_eq_right (by omega)]; exact List.mem_cons_of_mem _ h1
    · rcases List.mem_cons.mp hz with rfl | hz
      · exact Int.min_le_left _ _
      · exact Int.le_trans (Int.min_le_right _ _) (h2 z hz)
theorem insI_perm (n : Int) : ∀ r : List Int, (insI n r).Perm (n :: r)
  | [] => .refl _
  | m :: r => by
    unfold insI
    split
    · exact .refl _
    · exact ((insI_perm n r).cons m).trans (.swap _ _ _)
theorem sortI_perm : ∀ ns : List Int, (sortI ns).Perm ns
  | [] => .refl _
  | n :: r => (insI_perm n _).trans ((sortI_perm r).cons n)
theorem insI_pw (n : Int) : ∀ r : List Int, r.Pairwise (· ≤ ·) → (insI n r).Pairwise (· ≤ ·)
  | [], _ => by simp [insI]
  | m :: r, h => by
    have h1 := List.pairwise_cons.mp h
    unfold insI
    split
    · rename_i e
      have e := of_decide_eq_true e
      refine List.pairwise_cons.mpr ⟨fun x hx => ?_, h⟩
      rcases List.mem_cons.mp hx with rfl | hx
      · exact e
      · exact Int.le_trans e (h1.1 x hx)
    · rename_i e
      have e := of_decide_eq_false e
      refine List.pairwise_cons.mpr ⟨fun x hx => ?_, insI_pw n r h1.2⟩
      rcases List.mem_cons.mp ((insI_perm n r).mem_iff.mp hx) with rfl | hx
      · omega
      · exact h1.1 x hx
theorem sortI_pw : ∀ ns : List Int, (sortI ns).Pairwise (· ≤ ·)
  | [] => .nil
  | n :: r => insI_pw n _ (sortI_pw r)
theorem sortI_one {ns ms : List Int} (h : ms.Perm ns) (hp : ms.Pairwise (· ≤ ·)) : ms = sortI ns := PySem.W.ksm_same (h.trans (sortI_perm ns).symm) hp (sortI_pw ns)
section
variable {X : Cx}
theorem sum_tupR (hc : X.calm = true) : CallR X (.builtin "sum") (fun vs H Q => ∃ (a : Addr) (ns : List Int), vs = [V.ref a] ∧ SqT X.K H a (ns.map V.int) ∧ Q (.int ns.sum) H) := by
  intro pins s σ H vs us Q I r h
  obtain ⟨a, ns, rfl, ht, q⟩ := h
  obtain ⟨its, rv, tl, _⟩ := I.tuple ht
  obtain ⟨ys, ey⟩ := (Vals.ints rv).allInts.items
  have en : numsOf (intItems ys).toList = ns := by rw [← ey]; exact (Vals.ints rv).numsOf
  rw [nums_intItems] at en
  rw [ey] at tl
  rw [Vals.ref1 r]
  refine PySem.W.ktm_sumG (I.ok.hd hc) tl fun g tk t' kept => ?_
  rw [preSum_eq, List.take_of_length_le (by simp), en]
  exact ⟨.int _, H, I.kept kept, ⟨_, rfl⟩, q⟩
theorem repr_R (hu : X.A.units + 70 < cLine) (hg : X.A.guards = some []) : CallR X (.builtin "repr") (fun vs H Q => ∃ (v : V) (d : P), vs = [v] ∧ Dp X.K H v d ∧ PyData.showable d = true ∧ PyData.hasDict d = false ∧ d.depth ≤ 64 ∧ d.shown.length ≤ sizeLine ∧ Q (.str d.shown) H) := by
  intro pins s σ H vs us Q I r h
  obtain ⟨v, d, rfl, hd, h1, h2, h3, h4, q⟩ := h
  cases r with
  | cons ru rt =>
    rename_i u us'
    cases rt
    obtain ⟨as, rd⟩ := Dp.reads I d v u hd ru
    have fin : ∀ h' tk t', (∀ b o, s.heap.get? b = some o → h'.get? b = some o) → EP X pins σ Q (.str d.shown t') { s with heap := h', toks := tk } := fun h' tk t' k => ⟨.str d.shown, H, I.kept k, ⟨_, rfl⟩, q⟩
    have byRef : ∀ a, u = .ref a → wpAny (model X.prog X.w) X.A (call (.builtin "repr") [u]) (EP X pins σ Q) X.xe s := fun a e => by
      subst e
      exact repr_of_reads' rd h1 (PyData.noDict_hsm h2) hg (by omega) (fun _ _ z => z) (fun h' t tk k => fin h' tk t k) h4
    have fin0 : ∀ (y : Str), d.shown = y → EP X pins σ Q (.str y s.toks) { s with toks := s.toks + 1 } := fun y e => by
      rw [← e]
      exact fin s.heap (s.toks + 1) s.toks (fun _ _ z => z)
    cases hd with
    | lst hs _ => exact byRef _ ru
    | tup hs _ => exact byRef _ ru
    | int i =>
      obtain ⟨t, rfl⟩ := ru
      exact PySem.P.repr_of_int (by simpa [PyData.showable] using h1) (fin0 _ (PyData.shown_int i))
    | str x =>
      obtain ⟨t, rfl⟩ := ru
      refine PySem.P.repr_of_str (fin0 _ (PyData.shown_str x)) ?_
      rw [PyData.shown_str] at h4
      exact h4
    | bl b =>
      obtain rfl := ru
      refine PySem.P.repr_of_bool (fin0 _ ?_)
      cases b <;> exact PyData.shown_bool _
    | non =>
      obtain rfl := ru
      exact PySem.P.repr_of_none (fin0 _ PyData.shown_none)
theorem reps_of {U : List Addr} {K : PySem.W.Frag} {H : Hp} : ∀ {cs : List (V × P)}, (∀ b, b ∈ cs → RepP U K H b.2 b.1) → RepPs U K H (cs.map (·.2)) (cs.map (·.1))
  | [], _ => .nil
  | c :: cs, h => .cons (h c List.mem_cons_self) (reps_of fun b hb => h b (List.mem_cons_of_mem _ hb))
theorem zip_reps {U : List Addr} {K : PySem.W.Frag} {H : Hp} : ∀ {l : List P} {ws : List V}, RepPs U K H l ws → (ws.zip l).map (·.1) = ws ∧ (ws.zip l).map (·.2) = l ∧ ∀ b, b ∈ ws.zip l → RepP U K H b.2 b.1
  | _, _, .nil => ⟨rfl, rfl, fun b hb => by cases hb⟩
  | _, _, .cons r t => by
    obtain ⟨h1, h2, h3⟩ := zip_reps t
    refine ⟨by simp [h1], by simp [h2], fun b hb => ?_⟩
    rcases List.mem_cons.mp hb with rfl | hb
    · exact r
    · exact h3 b hb
theorem nd_mem : ∀ {l : List P} {x : P}, PyData.hasDictAll l = false → x ∈ l → x.hasDict = false
  | y :: l, x, h, m => by
    rcases List.mem_cons.mp m with rfl | m
    · exact (hasD_cons h).1
    · exact nd_mem (hasD_cons h).2 m
theorem srt_rep {U : List Addr} {K : PySem.W.Frag} {H : Hp} {l : List P} {ws : List V} (r : RepPs U K H l ws) (nd : PyData.hasDictAll l = false) : (ws.zip l).map (·.1) = ws ∧ (ws.zip l).map (·.2) = l ∧ (∀ b, b ∈ ws.zip l → Dp K H b.1 b.2) ∧
    RepPs U K H (sortD l) (((ws.zip l).mergeSort (PySem.W.dataLe false fun b => b.2)).map (·.1)) := by
  obtain ⟨h1, h2, h3⟩ := zip_reps r
  refine ⟨h1, h2, fun b hb => RepP.dp (fun a xs h => .inr h.2) (h3 b hb) (nd_mem nd (h2 ▸ List.mem_map_of_mem hb)), ?_⟩
  have e : ((ws.zip l).mergeSort (PySem.W.dataLe false fun b => b.2)).map (·.2) = sortD l := by
    rw [sortD_merge]
    have := PySem.W.sort_maps (r := PySem.W.dataLe false fun b : V × P => b.2) (s := PySem.W.dataLe false fun z : P => z) (fun b : V × P => b.2) (l := ws.zip l) (fun a _ b _ => rfl)
    rw [this, h2]
  rw [← e]
  exact reps_of fun b hb => h3 b ((List.mergeSort_perm _ _).mem_iff.mp hb)
theorem CallR.imp {f : Value} {r r' : List V → Hp → VK → Prop} (h : CallR X f r) (k : ∀ vs H Q, r' vs H Q → r vs H Q) : CallR X f r' :=
  fun pins s σ H xs us Q I rv q => h pins s σ H xs us Q I rv (k xs H Q q)
theorem bi_R (hc : X.calm = true) (hu : X.A.units + 100 < cLine) (hg : X.A.guards = some []) (b : BI) : CallR X (biV b) (rB X.K b) := by
  intro pins s σ H vs us Q I rv ⟨U, ρ, S, ds, xs, z, st, rd, hs, hz, q⟩
  have q0 : ∀ v, RepP U X.K H z v → Q v H := fun v r => q H v (.refl _ _ _) st r
  cases b with
  | len =>
    rcases xs with _ | ⟨x, _ | ⟨y, r⟩⟩
    · simp [biF] at hz
    · obtain ⟨d, v, rfl, rfl, h1, r1⟩ := snaps1 hs rd
      cases x with
      | list l =>
        cases hz
        obtain ⟨a, ws, rfl, t, l1⟩ := snap_list st h1 r1
        exact call_len_seq pins s σ H _ us Q I rv ⟨a, ws, rfl, .inl t, by rw [← l1.length]; exact q0 _ (.int _)⟩
      | tuple l =>
        cases hz
        obtain ⟨a, ws, rfl, t, l1⟩ := snap_tup h1 r1
        exact call_len_seq pins s σ H _ us Q I rv ⟨a, ws, rfl, .inr t, by rw [← l1.length]; exact q0 _ (.int _)⟩
      | str y =>
        obtain ⟨hf, rfl⟩ := onI_some (show onI (fitsN y.length) (.int (y.length : Int)) = some z from hz)
        obtain rfl := snap_str h1 r1
        exact call_len_str pins s σ H _ us Q I rv ⟨y, rfl, fits_le hf, q0 _ (.int _)⟩
      | _ => simp [biF] at hz
    · simp [biF] at hz
  | int1 =>
    rcases xs with _ | ⟨x, _ | ⟨y, r⟩⟩
    · simp [biF] at hz
    · obtain ⟨d, v, rfl, rfl, h1, r1⟩ := snaps1 hs rd
      cases x with
      | int i =>
        cases hz
        obtain rfl := snap_int h1 r1
        exact call_int1 pins s σ H _ us Q I rv (.inl ⟨i, rfl, q0 _ (.int _)⟩)
      | bool i =>
        cases hz
        obtain rfl := snap_bl h1 r1
        exact call_int1 pins s σ H _ us Q I rv (.inr ⟨i, rfl, q0 _ (.int _)⟩)
      | str y =>
        obtain rfl := snap_str h1 r1
        cases e : PySem.intText? y with
        | none => simp [biF, e] at hz
        | some n =>
          simp only [biF, e] at hz
          obtain ⟨hf, rfl⟩ := onI_some hz
          exact call_int_str pins s σ H _ us Q I rv ⟨y, n, rfl, e, of_decide_eq_true hf, q0 _ (.int _)⟩
      | _ => simp [biF] at hz
    · simp [biF] at hz
  | abs =>
    rcases xs with _ | ⟨x, _ | ⟨y, r⟩⟩
    · simp [biF] at hz
    · obtain ⟨d, v, rfl, rfl, h1, r1⟩ := snaps1 hs rd
      cases x with
      | int i =>
        cases hz
        obtain rfl := snap_int h1 r1
        exact call_abs pins s σ H _ us Q I rv ⟨i, rfl, q0 _ (.int _)⟩
      | _ => simp [biF] at hz
    · simp [biF] at hz
  | max2 =>
    rcases xs with _ | ⟨x, _ | ⟨y, _ | ⟨w, r⟩⟩⟩
    · simp [biF] at hz
    · cases x <;> simp [biF] at hz
    · obtain ⟨d, e, v, w, rfl, rfl, h1, h2, r1, r2⟩ := snaps2 hs rd
      cases x with
      | int i => cases y with
        | int j =>
          cases hz
          obtain rfl := snap_int h1 r1
          obtain rfl := snap_int h2 r2
          exact call_max2 hc pins s σ H _ us Q I rv ⟨i, j, rfl, q0 _ (.int _)⟩
        | _ => simp [biF] at hz
      | _ => simp [biF] at hz
    · cases x <;> simp [biF] at hz
  | min2 =>
    rcases xs with _ | ⟨x, _ | ⟨y, _ | ⟨w, r⟩⟩⟩
    · simp [biF] at hz
    · cases x <;> simp [biF] at hz
    · obtain ⟨d, e, v, w, rfl, rfl, h1, h2, r1, r2⟩ := snaps2 hs rd
      cases x with
      | int i => cases y with
        | int j =>
          cases hz
          obtain rfl := snap_int h1 r1
          obtain rfl := snap_int h2 r2
          exact call_min2 hc pins s σ H _ us Q I rv ⟨i, j, rfl, q0 _ (.int _)⟩
        | _ => simp [biF] at hz
      | _ => simp [biF] at hz
    · cases x <;> simp [biF] at hz
  | maxl =>
    rcases xs with _ | ⟨x, _ | ⟨y, r⟩⟩
    · simp [biF] at hz
    · obtain ⟨d, v, rfl, rfl, h1, r1⟩ := snaps1 hs rd
      cases x with
      | list l =>
        simp only [biF, Option.bind_eq_some_iff] at hz
        obtain ⟨ns, hn, hz⟩ := hz
        obtain ⟨hf, rfl⟩ := onI_some hz
        obtain ⟨a, ws, rfl, t, l1⟩ := snap_list st h1 r1
        rw [intsOf_eq hn] at l1
        rw [l1.ints] at t
        refine cr_max hc pins s σ H _ us Q I rv ⟨a, ns, rfl, t, of_decide_eq_true hf, fun m h3 h4 => ?_⟩
        obtain ⟨h5, h6⟩ := maxI_spec (of_decide_eq_true hf)
        have : m = maxI ns := Int.le_antisymm (h6 m h3) (h4 _ h5)
        rw [this]; exact q0 _ (.int _)
      | _ => simp [biF] at hz
    · simp [biF] at hz
  | minl =>
    rcases xs with _ | ⟨x, _ | ⟨y, r⟩⟩
    · simp [biF] at hz
    · obtain ⟨d, v, rfl, rfl, h1, r1⟩ := snaps1 hs rd
      cases x with
      | list l =>
        simp only [biF, Option.bind_eq_some_iff] at hz
        obtain ⟨ns, hn, hz⟩ := hz
        obtain ⟨hf, rfl⟩ := onI_some hz
        obtain ⟨a, ws, rfl, t, l1⟩ := snap_list st h1 r1
        rw [intsOf_eq hn] at l1
        rw [l1.ints] at t
        refine cr_min hc pins s σ H _ us Q I rv ⟨a, ns, rfl, t, of_decide_eq_true hf, fun m h3 h4 => ?_⟩
        obtain ⟨h5, h6⟩ := minI_spec (of_decide_eq_true hf)
        have : m = minI ns := Int.le_antisymm (h4 _ h5) (h6 m h3)
        rw [this]; exact q0 _ (.int _)
      | _ => simp [biF] at hz
    · simp [biF] at hz
  | sum =>
    rcases xs with _ | ⟨x, _ | ⟨y, r⟩⟩
    · simp [biF] at hz
    · obtain ⟨d, v, rfl, rfl, h1, r1⟩ := snaps1 hs rd
      cases x with
      | list l =>
        simp only [biF, Option.map_eq_some_iff] at hz
        obtain ⟨ns, hn, rfl⟩ := hz
        obtain ⟨a, ws, rfl, t, l1⟩ := snap_list st h1 r1
        rw [intsOf_eq hn] at l1
        rw [l1.ints] at t
        exact cr_sum hc pins s σ H _ us Q I rv ⟨a, ns, rfl, t, q0 _ (.int _)⟩
      | tuple l =>
        simp only [biF, Option.map_eq_some_iff] at hz
        obtain ⟨ns, hn, rfl⟩ := hz
        obtain ⟨a, ws, rfl, t, l1⟩ := snap_tup h1 r1
        rw [intsOf_eq hn] at l1
        rw [l1.ints] at t
        exact sum_tupR hc pins s σ H _ us Q I rv ⟨a, ns, rfl, t, q0 _ (.int _)⟩
      | _ => simp [biF] at hz
    · simp [biF] at hz
  | any =>
    rcases xs with _ | ⟨x, _ | ⟨y, r⟩⟩
    · simp [biF] at hz
    · obtain ⟨d, v, rfl, rfl, h1, r1⟩ := snaps1 hs rd
      cases x with
      | list l =>
        simp only [biF, Option.map_eq_some_iff] at hz
        obtain ⟨ns, hn, rfl⟩ := hz
        obtain ⟨a, ws, rfl, t, l1⟩ := snap_list st h1 r1
        rw [blsOf_eq hn] at l1
        rw [l1.bls] at t
        exact cr_any hc pins s σ H _ us Q I rv ⟨a, ns, rfl, t, q0 _ (.bl _)⟩
      | _ => simp [biF] at hz
    · simp [biF] at hz
  | all =>
    rcases xs with _ | ⟨x, _ | ⟨y, r⟩⟩
    · simp [biF] at hz
    · obtain ⟨d, v, rfl, rfl, h1, r1⟩ := snaps1 hs rd
      cases x with
      | list l =>
        simp only [biF, Option.map_eq_some_iff] at hz
        obtain ⟨ns, hn, rfl⟩ := hz
        obtain ⟨a, ws, rfl, t, l1⟩ := snap_list st h1 r1
        rw [blsOf_eq hn] at l1
        rw [l1.bls] at t
        exact cr_all hc pins s σ H _ us Q I rv ⟨a, ns, rfl, t, q0 _ (.bl _)⟩
      | _ => simp [biF] at hz
    · simp [biF] at hz
  | tup =>
    rcases xs with _ | ⟨x, _ | ⟨y, r⟩⟩
    · simp [biF] at hz
    · obtain ⟨d, v, rfl, rfl, h1, r1⟩ := snaps1 hs rd
      cases x with
      | list l =>
        cases hz
        obtain ⟨a, ws, rfl, t, l1⟩ := snap_list st h1 r1
        refine call_tuple_of pins s σ H _ us Q I rv ⟨a, ws, rfl, .inl ⟨t, fun p hp => ?_⟩⟩
        obtain ⟨a1, a2, a3⟩ := newT st l1 hp
        exact q _ _ a1 a2 a3
      | tuple l =>
        cases hz
        cases d with
        | p y =>
          cases h1
          obtain ⟨a, ws, ev, t, _⟩ := snap_tup (S := S) (d := .p (.tuple l)) rfl r1
          exact call_tuple_of pins s σ H _ us Q I rv ⟨a, ws, by rw [ev], .inr ⟨t, q0 _ (by rw [← ev]; exact r1)⟩⟩
        | r n => obtain ⟨ys, _, e⟩ := snapM_some (show snapM S[n]? = _ from h1); cases e
        | s ys => cases h1
      | _ => simp [biF] at hz
    · simp [biF] at hz
  | lst =>
    rcases xs with _ | ⟨x, _ | ⟨y, r⟩⟩
    · simp [biF] at hz
    · obtain ⟨d, v, rfl, rfl, h1, r1⟩ := snaps1 hs rd
      cases x with
      | list l =>
        cases hz
        obtain ⟨a, ws, rfl, t, l1⟩ := snap_list st h1 r1
        refine call_list_of pins s σ H _ us Q I rv ⟨a, ws, rfl, .inl t, fun p hp => ?_⟩
        obtain ⟨a1, a2, a3⟩ := newL st l1 hp
        exact q _ _ a1 a2 a3
      | tuple l =>
        cases hz
        obtain ⟨a, ws, rfl, t, l1⟩ := snap_tup h1 r1
        refine call_list_of pins s σ H _ us Q I rv ⟨a, ws, rfl, .inr t, fun p hp => ?_⟩
        obtain ⟨a1, a2, a3⟩ := newL st l1 hp
        exact q _ _ a1 a2 a3
      | _ => simp [biF] at hz
    · simp [biF] at hz
  | srt =>
    rcases xs with _ | ⟨x, _ | ⟨y, r⟩⟩
    · simp [biF] at hz
    · obtain ⟨d, v, rfl, rfl, h1, r1⟩ := snaps1 hs rd
      cases x with
      | list l =>
        obtain ⟨hok, rfl⟩ := onI_some (show onI (srtOk l) (.list (sortD l)) = some z from hz)
        obtain ⟨a, ws, rfl, t, l1⟩ := snap_list st h1 r1
        obtain ⟨b1, b2, b3, b4⟩ := srt_rep l1 (srtOk_nd hok)
        refine cr_sortedD hu pins s σ H _ us Q I rv ⟨false, a, ws.zip l, rfl, by rw [b1]; exact t, b3, by rw [b2]; exact hok, fun p hp => ?_⟩
        obtain ⟨a1, a2, a3⟩ := newL st b4 hp
        exact q _ _ a1 a2 a3
      | tuple l =>
        obtain ⟨hok, rfl⟩ := onI_some (show onI (srtOk l) (.list (sortD l)) = some z from hz)
        obtain ⟨a, ws, rfl, t, l1⟩ := snap_tup h1 r1
        obtain ⟨b1, b2, b3, b4⟩ := srt_rep l1 (srtOk_nd hok)
        refine cr_sortedD hu pins s σ H _ us Q I rv ⟨true, a, ws.zip l, rfl, by rw [b1]; exact t, b3, by rw [b2]; exact hok, fun p hp => ?_⟩
        obtain ⟨a1, a2, a3⟩ := newL st b4 hp
        exact q _ _ a1 a2 a3
      | _ => simp [biF] at hz
    · simp [biF] at hz
  | str1 =>
    rcases xs with _ | ⟨x, _ | ⟨y, r⟩⟩
    · simp [biF] at hz
    · obtain ⟨d, v, rfl, rfl, h1, r1⟩ := snaps1 hs rd
      cases x with
      | int i =>
        obtain ⟨hf, rfl⟩ := onI_some (show onI (decide (i.natAbs.log2 < 1920)) (.str (Str.ofString (toString i))) = some z from hz)
        obtain rfl := snap_int h1 r1
        exact call_str_int pins s σ H _ us Q I rv ⟨i, rfl, of_decide_eq_true hf, q0 _ (.str _)⟩
      | str y =>
        cases hz
        obtain rfl := snap_str h1 r1
        exact SkE.call_str_str pins s σ H _ us Q I rv ⟨y, rfl, q0 _ (.str _)⟩
      | _ => simp [biF] at hz
    · simp [biF] at hz
  | repr =>
    rcases xs with _ | ⟨x, _ | ⟨y, r⟩⟩
    · simp [biF] at hz
    · obtain ⟨d, v, rfl, rfl, h1, r1⟩ := snaps1 hs rd
      obtain ⟨hf, rfl⟩ := onI_some (show onI (PyData.showable x && !PyData.hasDict x && decide (x.depth ≤ 64) && fitsN x.shown.length) (.str x.shown) = some z from hz)
      simp only [Bool.and_eq_true, decide_eq_true_eq, Bool.not_eq_true'] at hf
      exact repr_R (by omega) hg pins s σ H _ us Q I rv ⟨v, x, rfl, snap_dp st h1 r1 hf.1.1.2, hf.1.1.1, hf.1.1.2, hf.1.2, fits_le hf.2, q0 _ (.str _)⟩
    · simp [biF] at hz
end
end DS
set_option maxRecDepth 100000
set_option maxHeartbeats 4000000
namespace DS
open PySem PySem.Spec L2
def IteT (K : PySem.W.Frag) (a : Addr) : It :=
  ⟨fun i H => ∃ (xs : List V) (x : V), SqT K H a xs ∧ xs[i]? = some x,
    fun i H v H' => ∃ T x, v = .ref T ∧ H T = none ∧ H' = upd H T (.tup [.int (i : Nat), x]) ∧ ∀ xs, SqT K H a xs → xs[i]? = some x,
    fun i H => ∃ xs : List V, SqT K H a xs ∧ xs.length ≤ i⟩
theorem turn_enumT {P : Program} {w : World} {K : PySem.W.Frag} {elts : List Expr} {kk : Nat} {tpos : Pos} (a e it : Addr) :
    Turn P w K (.Tuple elts kk tpos) (IteT K a) [e, it] e (fun i h => (∃ old, IsEnum h e it ((i : Nat) : Int) old) ∧ h.IsTupleIter it a i ∧ e ≠ it ∧ a ≠ it ∧ e ≠ a) where
  mem := by simp
  obj := fun i h st b hb => by
    obtain ⟨⟨old, he⟩, ⟨o, h1, _, h3⟩, _⟩ := st
    rcases List.mem_cons.mp hb with z | hb
    · rw [z]
      exact ⟨_, he, fun v z => by
        have z' : Data.fields _ = Data.cell v := z
        cases z'⟩
    · rw [List.mem_singleton.mp hb]
      exact ⟨o, h1, fun v z => by rw [h3] at z; cases z⟩
  keep := fun i h h' st k => ⟨st.1.imp fun old he => k e (by simp) _ he, st.2.1.at fun o q => k it (by simp) o q, st.2.2⟩
  item := by
    intro X hP hw hK hc i pins s σ H E I hf st hg
    subst hP hw hK
    obtain ⟨⟨old, he⟩, hit, n1, n2, n3⟩ := st
    obtain ⟨xs, x, hq, hx⟩ := hg
    obtain ⟨its, rv, p, hz⟩ := I.tuple hq
    obtain ⟨u, hu, ru⟩ := rv.get hx
    have hlt : i < its.toArray.size := by
      rw [List.size_toArray]
      exact (List.getElem?_eq_some_iff.mp hu).1
    have hh : X.A.in1.handled = none := I.ok.hd hc
    have G := GoesN.enumFrom (prog := X.prog) (w := X.w) (A := X.A) (elts := elts) (x1 := kk) (pos := tpos) 0 (Draws.tuple hh it a n2 its.toArray) e n1 (by simp [n1, n3]) (by simp)
    refine G.goes i s _ E hlt ⟨⟨old, by rw [Int.zero_add]; exact he⟩, hit, p⟩ fun v h' tk Y S' k ht => ?_
    obtain ⟨T, t, y, ev, hT, hy, htup⟩ := Y
    obtain ⟨⟨old', he'⟩, hit', _⟩ := S'
    have ey : y = u := by
      have hu' : its.toArray[i]? = some u := by simpa using hu
      rw [hu'] at hy
      exact (Option.some.inj hy).symm
    rw [ey] at htup
    have new : ObjOk X.prog X.w (upd H T (.tup [.int (i : Nat), x])) h' T (.tup [.int (i : Nat), x]) :=
      ⟨by show 2 ≤ sizeLine; decide, [.int ((0 : Int) + (i : Int)) t, u], .cons ⟨_, by rw [Int.zero_add]⟩ (.cons ru .nil), htup⟩
    have I1 := I.turnedNew (t' := tk) (ch := [e, it]) k hf hT new
    refine ⟨.ref T, _, I1, by rw [ev]; rfl, ⟨T, x, rfl, I.hok.fresh hT, rfl, fun ys hy => by rw [I.tuple_inj hy hq]; exact hx⟩, ⟨⟨old', ?_⟩, hit', n1, n2, n3⟩, fun b hb => ?_⟩
    · have e1 : ((i + 1 : Nat) : Int) = 0 + ((i + 1 : Nat) : Int) := by omega
      rw [e1]; exact he'
    · have hb' : b < s.heap.objs.size := by
        rcases List.mem_cons.mp hb with z | z
        · rw [z]; exact Heap.lt_size he
        · rw [List.mem_singleton.mp z]
          obtain ⟨_, q, _⟩ := hit
          exact Heap.lt_size q
      rw [upd_ne (Nat.ne_of_lt (Nat.lt_of_lt_of_le hb' hT))]
      exact (hf b hb).1
  done := by
    intro X hP hw hK hc i pins s σ H E I hf st hg
    subst hP hw hK
    obtain ⟨⟨old, he⟩, hit, n1, n2, n3⟩ := st
    obtain ⟨xs, hq, hx⟩ := hg
    obtain ⟨its, rv, p, hz⟩ := I.tuple hq
    have hl := rv.length
    have hh : X.A.in1.handled = none := I.ok.hd hc
    have D1 : Draws X.prog X.w X.A.in1 it [it, a] i (fun _ _ => False) (fun j h => j = i ∧ h.IsTupleIter it a i ∧ h.IsTuple a its.toArray) :=
      ⟨fun _ _ st => let ⟨o, ho, _⟩ := st.2.1; ⟨o, ho⟩, fun _ _ _ st hk => ⟨st.1, st.2.1.at fun o e => hk it (by simp) o e, st.2.2.at fun o e => hk a (by simp) o e⟩,
        fun j s' Q E hj st _ => absurd st.1 (Nat.ne_of_lt hj), fun s' Q E st hE => wpAny_nextOf_tuple_end hh st.2.1 st.2.2 (by simp; omega) hE⟩
    have G := GoesN.enumFrom (prog := X.prog) (w := X.w) (A := X.A) (elts := elts) (x1 := kk) (pos := tpos) 0 D1 e n1 (by simp [n1, n3]) (by simp)
    refine G.stops s _ E ⟨⟨old, by rw [Int.zero_add]; exact he⟩, rfl, hit, p⟩ fun h' tk k ht => ?_
    exact I.turnedL (t' := tk) k hf
  self := fun A i s Q E st h => let ⟨⟨_, he⟩, _⟩ := st; wpAny_pyIter_enum he h
set_option maxHeartbeats 4000000 in
theorem meets_enum1 {v : Value} {o : Obj} {H : Heap → Prop} (B : Begins v o H) :
    Meets (Builtin.«enumerate.__new__» ⟨[.type "enumerate", v], []⟩) (fun _ R s => H s.heap ∧
      R (.ok (.ret (.ref (s.heap.push o).objs.size))) { s with heap := (s.heap.push o).push { cls := .type "enumerate", data := .fields #[.none, .bool false, .ref s.heap.objs.size, rawInt 0, .none, .none] } }) :=
  .of_wp fun prog w A R s h => by
    obtain ⟨hp, g, d, tk, os⟩ := s
    obtain ⟨h1, h⟩ := h
    have sb := sub_enumerate
    have gone : ∀ {A' : Around} {E : Value → Shared → Prop} {Q : Value → Shared → Prop}, Q (.ref hp.objs.size) ⟨hp.push o, g, d, tk, os⟩ → wpAny (model prog w) A' (pyIter v) Q E ⟨hp, g, d, tk, os⟩ :=
      fun z => B.iter prog w _ _ ⟨hp, g, d, tk, os⟩ _ h1 z
    wp_walk using gone
    refine wpAny_stack_any fun st => wpAny_pure ?_
    split
    · rename_i c _ _ _ _ _
      cases (c == Value.type "enumerate") <;> (wp_walk using gone; exact ⟨_, rfl, h⟩)
    · wp_walk using gone
      exact ⟨_, rfl, h⟩
theorem enum1_begins {prog : Program} {w : World} {A : Around} {E : Value → Shared → Prop} {s : Shared} {v : Value} {o : Obj} {H : Heap → Prop} {Q : Value → Shared → Prop} (B : Begins v o H) (h1 : H s.heap)
    (h : ∀ h', IsEnum h' (s.heap.objs.size + 1) s.heap.objs.size 0 .none → h'.get? s.heap.objs.size = some o → h'.objs.size = s.heap.objs.size + 2 →
      (∀ b u, s.heap.get? b = some u → h'.get? b = some u) → Q (.ref (s.heap.objs.size + 1)) { s with heap := h' }) :
    wpAny (model prog w) A (call (.type "enumerate") [v]) Q E s := by
  refine callType_new F.called_enumerate (by decide) (F.typeCall_enumerate_1 _) (F.newCall_enumerate_1 _) (fun obj => F.args_object_init_2 obj _) F.entry_enumerate_new (meets_enum1 B) ⟨h1, ?_⟩
  have sz : (s.heap.push o).objs.size = s.heap.objs.size + 1 := Heap.size_push ..
  have ie : IsEnum ((s.heap.push o).push { cls := .type "enumerate", data := .fields #[.none, .bool false, .ref s.heap.objs.size, rawInt 0, .none, .none] }) (s.heap.objs.size + 1) s.heap.objs.size 0 .none := by
    have q := Heap.get?_push_size (s.heap.push o) (o := { cls := .type "enumerate", data := .fields #[.none, .bool false, .ref s.heap.objs.size, rawInt 0, .none, .none] }) rfl
    rw [sz] at q
    exact q
  show _ ∧ _
  rw [sz]
  exact ⟨⟨_, ie, rfl⟩, h _ ie (Heap.get?_push_of_some _ (Heap.get?_push_size _ B.free)) (by rw [Heap.size_push, sz]) fun b u x => Heap.get?_push_of_some _ (Heap.get?_push_of_some _ x)⟩
def iEnumT (K : PySem.W.Frag) (ta : TA) : L2.TI := fun σ H R => ta σ H fun vs H1 => ∃ a xs, vs = [.ref a] ∧ ((SqL K H1 a xs ∧ R (Ite K a) H1) ∨ (SqT K H1 a xs ∧ R (IteT K a) H1))
theorem pi_enumA {X : Cx} {e : Expr} {ta : TA} {p pos tpos : Pos} {elts : List Expr} {kk : Nat} (hg : Gl X "enumerate") (hm : X.mg "enumerate" = none) (ha : PA X [e] ta) (hs : starEach [e] X.env = [(false, eval e X.env)]) :
    PI X (.Tuple elts kk tpos) (.Call (.Name "enumerate" p) [e] [] pos) (iEnumT X.K ta) := by
  refine ⟨fun pins s σ H R I h => ?_⟩
  refine PyProof.Rows.Call_ (ld_blt I hg hm PyProof.Rows.boot_enumerate (PyProof.Rows.callWith_type1 (thn (ha.run pos pins s σ H _ I h) fun us s1 ⟨vs, H1, I1, r1, q1⟩ => ?_) hs rfl))
  obtain ⟨a, xs, ex, q⟩ := q1
  subst ex
  rw [Vals.ref1 r1]
  have fresh2 : ∀ b, b ∈ [s1.heap.objs.size + 1, s1.heap.objs.size] → FpOk X pins H1 b := fun b hb => by
    have hle : s1.heap.objs.size ≤ b := by
      rcases List.mem_cons.mp hb with z | z
      · rw [z]; exact Nat.le_succ _
      · rw [List.mem_singleton.mp z]; exact Nat.le_refl _
    exact I1.fpOk hle (I1.hok.fresh hle)
  rcases q with ⟨hq, q⟩ | ⟨hq, q⟩
  · obtain ⟨its, rv, p', hz⟩ := I1.list hq
    refine call_enumerate_list p'.isList fun h' he hit hsz hk => wpAny_pyIter_enum he ?_
    exact ⟨s1.heap.objs.size + 1, [s1.heap.objs.size + 1, s1.heap.objs.size], _, _, H1, rfl, I1.kept (t' := s1.toks) hk, turn_enum a (s1.heap.objs.size + 1) s1.heap.objs.size, ⟨⟨.none, he⟩, hit, Nat.succ_ne_self _⟩, fresh2, q⟩
  · obtain ⟨its, rv, p', hz⟩ := I1.tuple hq
    have hlt : a < s1.heap.objs.size := let ⟨_, x, _⟩ := p'; Heap.lt_size x
    refine enum1_begins (begins_tuple a its.toArray) p' fun h' he hit hsz hk => wpAny_pyIter_enum he ?_
    exact ⟨s1.heap.objs.size + 1, [s1.heap.objs.size + 1, s1.heap.objs.size], _, _, H1, rfl, I1.kept (t' := s1.toks) hk, turn_enumT a (s1.heap.objs.size + 1) s1.heap.objs.size,
      ⟨⟨.none, he⟩, ⟨_, hit, rfl, rfl⟩, Nat.succ_ne_self _, Nat.ne_of_lt hlt, Nat.ne_of_gt (Nat.lt_succ_of_lt hlt)⟩, fresh2, q⟩
end DS
set_option maxRecDepth 100000
set_option maxHeartbeats 4000000
namespace DS
open PySem PySem.Spec L2
structure PlainFd (fd : FuncData) (ps : List Str) : Prop where
  po : fd.params.posonlyargs = []
  ar : fd.params.args.map (·.arg) = ps
  va : fd.params.vararg = none
  ko : fd.params.kwonlyargs = []
  kw : fd.params.kwarg = none
  df : fd.defaults = .none
def permG {α : Type} (perm : List Nat) (us ws : List α) : List α := perm.filterMap fun i => (us ++ ws)[i]?
theorem forIn_path {α β : Type} (f : α → β → Sem (ForInStep β)) (nxt : List α → β) : ∀ (suf pre : List α), (∀ p x s, pre ++ suf = p ++ x :: s → f x (nxt p) = pure (.yield (nxt (p ++ [x])))) → forIn suf (nxt pre) f = (pure (nxt (pre ++ suf)) : Sem β)
  | [], pre, _ => by rw [List.append_nil]; rfl
  | x :: suf, pre, h => by
    rw [List.forIn_cons, h pre x suf rfl, pure_bind]
    have := forIn_path f nxt suf (pre ++ [x]) (by simpa using h)
    simpa using this
theorem forIn_path0 {α β : Type} (f : α → β → Sem (ForInStep β)) (nxt : List α → β) (suf : List α) (b : β) (hb : b = nxt []) (h : ∀ p x s, suf = p ++ x :: s → f x (nxt p) = pure (.yield (nxt (p ++ [x])))) : forIn suf b f = (pure (nxt suf) : Sem β) := by
  rw [hb]
  exact forIn_path f nxt suf [] (by simpa using h)
theorem lookup_app_none {l m : List (Str × Value)} {k : Str} (h : l.lookup k = none) : (l ++ m).lookup k = m.lookup k := by
  induction l with
  | nil => rfl
  | cons p l ih =>
    obtain ⟨a, b⟩ := p
    rw [List.cons_append, List.lookup_cons]
    rw [List.lookup_cons] at h
    cases q : k == a with
    | true => rw [q] at h; cases h
    | false => rw [q] at h; exact ih h
theorem lookup_app_some {l m : List (Str × Value)} {k : Str} {v : Value} (h : l.lookup k = some v) : (l ++ m).lookup k = some v := by
  induction l with
  | nil => cases h
  | cons p l ih =>
    obtain ⟨a, b⟩ := p
    rw [List.cons_append, List.lookup_cons]
    rw [List.lookup_cons] at h
    cases q : k == a with
    | true => rw [q] at h; exact h
    | false => rw [q] at h; exact ih h
theorem lookup_zip_none : ∀ {ks : List Str} {vs : List Value} {k : Str}, k ∉ ks → (ks.zip vs).lookup k = none
  | [], _, _, _ => rfl
  | _ :: _, [], _, _ => rfl
  | a :: ks, v :: vs, k, h => by
    rw [List.zip_cons_cons]
    have h1 : (k == a) = false := by
      cases q : k == a with
      | false => rfl
      | true => exact absurd (by rw [eq_of_beq q]; exact List.mem_cons_self) h
    unfold List.lookup
    rw [h1]
    exact lookup_zip_none fun z => h (List.mem_cons_of_mem _ z)
theorem lookup_zip_at : ∀ {ks : List Str} {vs : List Value} {i : Nat} {k : Str}, ks.Nodup → ks[i]? = some k → ks.length = vs.length → (ks.zip vs).lookup k = vs[i]?
  | [], _, i, k, _, h, _ => by simp at h
  | a :: ks, [], _, _, _, _, hl => by simp at hl
  | a :: ks, v :: vs, 0, k, _, h, _ => by
    simp at h
    subst h
    rw [List.zip_cons_cons]
    unfold List.lookup
    rw [beq_self_eq_true]
    rfl
  | a :: ks, v :: vs, i + 1, k, nd, h, hl => by
    have h : ks[i]? = some k := by simpa using h
    rw [List.nodup_cons] at nd
    have h1 : (k == a) = false := by
      cases q : k == a with
      | false => rfl
      | true => exact absurd (by rw [← eq_of_beq q]; exact List.mem_of_getElem? h) nd.1
    rw [List.zip_cons_cons]
    unfold List.lookup
    rw [h1]
    have := lookup_zip_at (vs := vs) nd.2 h (by simpa using hl)
    simpa using this
theorem filterMap_zip {f : Str → Option (Str × Value)} : ∀ {ps : List Str} {vs : List Value}, ps.length = vs.length → (∀ (i : Nat) (x : Str) (v : Value), ps[i]? = some x → vs[i]? = some v → f x = some (x, v)) → ps.filterMap f = ps.zip vs
  | [], _, _, _ => rfl
  | _ :: _, [], hl, _ => by simp at hl
  | x :: ps, v :: vs, hl, h => by
    rw [List.filterMap_cons, h 0 x v rfl rfl, List.zip_cons_cons, filterMap_zip (by simpa using hl) fun i y w h1 h2 => h (i + 1) y w (by simpa using h1) (by simpa using h2)]
theorem permB_of {ps : List Str} {n : Nat} {kns : List Str} {perm : List Nat} (h : permB ps n kns perm = true) : perm.length = ps.length ∧ n + kns.length = ps.length ∧ kns.Nodup ∧ ps.Nodup ∧ (∀ k, k ∈ kns → k ∈ ps.drop n) ∧
    ∀ i x, ps[i]? = some x → ∃ j, perm[i]? = some j ∧ ((i < n ∧ j = i) ∨ (n ≤ i ∧ n ≤ j ∧ kns[j - n]? = some x)) := by
  unfold permB at h
  simp only [Bool.and_eq_true, decide_eq_true_eq, List.all_eq_true, List.contains_iff_mem] at h
  obtain ⟨⟨⟨⟨⟨h1, h2⟩, h3⟩, h4⟩, h5⟩, h6⟩ := h
  refine ⟨h1, h2, h3, h4, h5, fun i x hx => ?_⟩
  have hi := (List.getElem?_eq_some_iff.mp hx).1
  have z := h6 i (List.mem_range.mpr hi)
  have hj : ∃ j, perm[i]? = some j := ⟨perm[i]'(by omega), List.getElem?_eq_getElem (by omega)⟩
  obtain ⟨j, hj⟩ := hj
  refine ⟨j, hj, ?_⟩
  rw [hj, hx] at z
  simp only [] at z
  split at z
  · exact .inl ⟨by assumption, of_decide_eq_true z⟩
  · rw [Bool.and_eq_true] at z
    exact .inr ⟨by omega, of_decide_eq_true z.1, of_decide_eq_true z.2⟩
theorem bind_kw {fd : FuncData} {ps : List Str} (P : PlainFd fd ps) {kns : List Str} {perm : List Nat} {us ws : List Value} (hp : permB ps us.length kns perm = true) (hw : kns.length = ws.length) : bindArgs fd ⟨us, kns.zip ws⟩ = pure (ps.zip (permG perm us ws)) := by
  obtain ⟨h1, h2, h3, h4, h5, h6⟩ := permB_of hp
  have hus : us.length ≤ ps.length := by omega
  -- what each parameter is found to be
  have at_ : ∀ i x, ps[i]? = some x → ∃ j v, perm[i]? = some j ∧ (us ++ ws)[j]? = some v ∧ (ps.zip us ++ kns.zip ws).lookup x = some v := fun i x hx => by
    obtain ⟨j, hj, hc⟩ := h6 i x hx
    have hi := (List.getElem?_eq_some_iff.mp hx).1
    rcases hc with ⟨hlt, rfl⟩ | ⟨hge, hjn, hk⟩
    · have hv : us[j]? = some us[j] := List.getElem?_eq_getElem hlt
      refine ⟨j, us[j], hj, by rw [List.getElem?_append_left hlt]; exact hv, ?_⟩
      have z := lookup_zip_at (ks := ps.take us.length) (vs := us) (i := j) (k := x) (List.Sublist.nodup (List.take_sublist _ _) h4) (by rw [List.getElem?_take_of_lt hlt]; exact hx) (by rw [List.length_take]; omega)
      have e : ps.zip us = (ps.take us.length).zip us := by
        have : ps = ps.take us.length ++ ps.drop us.length := (List.take_append_drop _ _).symm
        rw [this, ← List.append_nil us, List.zip_append (by rw [List.length_take, List.append_nil]; omega)]
        simp
      rw [e]
      exact lookup_app_some (by rw [z]; exact hv)
    · have hkl := (List.getElem?_eq_some_iff.mp hk).1
      have hjl : j - us.length < ws.length := by omega
      refine ⟨j, ws[j - us.length], hj, by rw [List.getElem?_append_right hjn]; exact List.getElem?_eq_getElem hjl, ?_⟩
      have e : ps.zip us = (ps.take us.length).zip us := by
        have : ps = ps.take us.length ++ ps.drop us.length := (List.take_append_drop _ _).symm
        rw [this, ← List.append_nil us, List.zip_append (by rw [List.length_take, List.append_nil]; omega)]
        simp
      rw [lookup_app_none, lookup_zip_at h3 hk hw]
      · exact List.getElem?_eq_getElem hjl
      · rw [e]
        refine lookup_zip_none fun z => ?_
        obtain ⟨k, hk2⟩ := List.mem_iff_getElem?.mp z
        have hk3 := (List.getElem?_eq_some_iff.mp hk2).1
        rw [List.length_take] at hk3
        rw [List.getElem?_take_of_lt (by omega)] at hk2
        have := (List.getElem?_inj hi h4).mp (hx.trans hk2.symm)
        omega
  have hvals : (permG perm us ws).length = ps.length := by
    unfold permG
    rw [← h1, List.length_filterMap_eq_countP, List.countP_eq_length]
    intro j hj
    obtain ⟨i, hi⟩ := List.mem_iff_getElem?.mp hj
    have hil := (List.getElem?_eq_some_iff.mp hi).1
    obtain ⟨j', v, q1, q2, _⟩ := at_ i ps[i] (List.getElem?_eq_getElem (by omega))
    rw [hi] at q1
    cases q1
    rw [q2]; rfl
  have hget : ∀ i x v, ps[i]? = some x → (permG perm us ws)[i]? = some v → (ps.zip us ++ kns.zip ws).lookup x = some v := fun i x v hx hv => by
    obtain ⟨j, w, q1, q2, q3⟩ := at_ i x hx
    rw [q3]
    have hall : ∀ (pm : List Nat) (k : Nat), (∀ j, j ∈ pm → ((us ++ ws)[j]?).isSome) → (permG pm us ws)[k]? = (pm[k]?).bind fun j => (us ++ ws)[j]? := by
      intro pm
      induction pm with
      | nil => intro k _; simp [permG]
      | cons a pm ih =>
        intro k hs
        obtain ⟨y, hy⟩ := Option.isSome_iff_exists.mp (hs a List.mem_cons_self)
        have e : permG (a :: pm) us ws = y :: permG pm us ws := by unfold permG; rw [List.filterMap_cons, hy]
        rw [e]
        cases k with
        | zero => simp [hy]
        | succ k =>
          have := ih k fun j hj => hs j (List.mem_cons_of_mem _ hj)
          simpa using this
    rw [hall perm i, q1] at hv
    · rw [← hv]; exact q2.symm
    · intro j hj
      obtain ⟨i, hi⟩ := List.mem_iff_getElem?.mp hj
      have hil := (List.getElem?_eq_some_iff.mp hi).1
      obtain ⟨j', v, q1, q2, _⟩ := at_ i ps[i] (List.getElem?_eq_getElem (by omega))
      rw [hi] at q1
      cases q1
      rw [q2]; rfl
  unfold bindArgs
  simp only [P.po, P.ar, P.va, P.ko, P.kw, P.df, List.map_nil, List.nil_append]
  rw [forIn_path0 _ (fun pre => ((ps.zip us ++ pre, []) : List (Str × Value) × List (Str × Value))) (kns.zip ws) _ (by simp)]
  · have hd : seqItems? (.none) = (pure none : Sem _) := rfl
    rw [pure_bind, hd, pure_bind]
    rw [if_neg (by simp; omega)]
    simp only [Option.getD_none, List.drop_nil, List.length_nil, Nat.sub_zero, List.zip_nil_right, List.take_length]
    have hms : (List.filter (fun n => (List.lookup n (ps.zip us ++ kns.zip ws)).isNone) ps) = [] := by
      rw [List.filter_eq_nil_iff]
      intro y hy
      obtain ⟨i, hi⟩ := List.mem_iff_getElem?.mp hy
      obtain ⟨_, v, _, _, q3⟩ := at_ i y hi
      rw [q3]; simp
    have hfm : ps.filterMap (fun n => (List.lookup n (ps.zip us ++ kns.zip ws)).map fun x => (n, x)) = ps.zip (permG perm us ws) := filterMap_zip hvals.symm fun i x v h1 h2 => by rw [hget i x v h1 h2]; rfl
    rw [hms, if_neg (by simp)]
    rw [List.forIn_nil, pure_bind, List.forIn_nil, pure_bind, if_neg (by simp), List.append_nil, hfm]
  · intro p x q e
    have hx : x ∈ kns.zip ws := by rw [e]; exact List.mem_append_right _ List.mem_cons_self
    have hk : x.1 ∈ kns := (List.of_mem_zip hx).1
    have hc : ps.contains x.1 = true := List.contains_iff_mem.mpr (List.mem_of_mem_drop (h5 _ hk))
    have hl : (List.lookup x.1 (ps.zip us ++ p)).isSome = false := by
      have e1 : ps.zip us = (ps.take us.length).zip us := by
        have : ps = ps.take us.length ++ ps.drop us.length := (List.take_append_drop _ _).symm
        rw [this, ← List.append_nil us, List.zip_append (by rw [List.length_take, List.append_nil]; omega)]
        simp
      rw [lookup_app_none]
      · have em : kns = p.map (·.1) ++ x.1 :: q.map (·.1) := by
          have := congrArg (List.map Prod.fst) e
          rw [List.map_fst_zip (by omega)] at this
          simpa using this
        rw [em, List.nodup_append] at h3
        have hnp : x.1 ∉ p.map (·.1) := fun z => h3.2.2 _ z _ List.mem_cons_self rfl
        have : ∀ (l : List (Str × Value)), x.1 ∉ l.map (·.1) → l.lookup x.1 = none := by
          intro l
          induction l with
          | nil => intro _; rfl
          | cons a l ih =>
            intro hn
            rw [List.map_cons, List.mem_cons, not_or] at hn
            obtain ⟨a1, a2⟩ := a
            rw [List.lookup_cons]
            have : (x.1 == a1) = false := by
              cases q : x.1 == a1 with
              | false => rfl
              | true => exact absurd (eq_of_beq q) hn.1
            rw [this]
            exact ih hn.2
        rw [this p hnp]; rfl
      · rw [e1]
        refine lookup_zip_none fun z => ?_
        have hd := h5 _ hk
        have hnd := h4
        rw [← List.take_append_drop us.length ps, List.nodup_append] at hnd
        exact hnd.2.2 _ z _ hd rfl
    rw [if_pos (by rw [hc]; rfl), if_neg (by rw [hl]; simp), List.append_assoc]
theorem filterMap_range : ∀ us : List Value, (List.range us.length).filterMap (fun i => us[i]?) = us
  | [] => rfl
  | u :: us => by
    rw [List.length_cons, List.range_succ_eq_map, List.filterMap_cons]
    have := filterMap_range us
    simp only [List.getElem?_cons_zero, List.filterMap_map]
    have e : ((fun i => (u :: us)[i]?) ∘ Nat.succ) = fun i => us[i]? := by
      funext i
      simp
    rw [e, this]
theorem PlainFd.binds {K : PySem.W.Frag} {fd : FuncData} {ps : List Str} (P : PlainFd fd ps) (nd : ps.Nodup) : Binds K fd ps [] := by
  refine .all fun us hl => ?_
  have hp : permB ps us.length [] (List.range ps.length) = true := by
    unfold permB
    simp only [Bool.and_eq_true, decide_eq_true_eq, List.all_eq_true]
    refine ⟨⟨⟨⟨⟨by simp, by simp [hl]⟩, List.nodup_nil⟩, nd⟩, fun _ z => by simp at z⟩, fun i hi => ?_⟩
    have hi := List.mem_range.mp hi
    rw [List.getElem?_range hi, List.getElem?_eq_getElem hi]
    simp only []
    rw [if_pos (by omega)]
    simp
  have z := bind_kw P (us := us) (ws := []) hp rfl
  have e : permG (List.range ps.length) us [] = us := by
    unfold permG
    rw [List.append_nil, ← hl]
    clear hp z hl
    exact filterMap_range us
  rw [e] at z
  exact z
end DS
set_option maxRecDepth 100000
set_option maxHeartbeats 4000000
namespace DS
open PySem PySem.Spec L2 PyProof.Rows
theorem zipNoLen : typeLookup (.type "zip") "__len__" = pure none := am_miss_of_fast (by decide +kernel)
theorem zipNoHint : typeLookup (.type "zip") "__length_hint__" = pure none := am_miss_of_fast (by decide +kernel)
def PairsAt (H : Hp) (Ts : List Addr) (ps : List (V × V)) : Prop := Paired (fun T p => H T = some (.tup [p.1, p.2])) Ts ps
def ZTurn (z TI TO i1 i2 a b : Addr) (i : Nat) (h : Heap) : Prop :=
  (IsZip h z TI TO .none ∧ (∃ x y, IsPair h TO x y) ∨ ∃ T f oT, IsZipHeld h z TI TO T f ∧ T ∉ [z, TI, TO, i1, i2] ∧ h.get? T = some oT) ∧ IsPair h TI (.ref i1) (.ref i2) ∧ h.IsListIter i1 a i ∧ h.IsListIter i2 b i
theorem sq_keep {K : PySem.W.Frag} {H H' : Hp} {a : Addr} {xs : List V} (h : SqL K H a xs) (k : ∀ u, H a = some u → H' a = some u) : SqL K H' a xs := by
  rcases h with (h | ⟨o, h⟩) | h
  · exact .inl (.inl (k _ h))
  · exact .inl (.inr ⟨o, k _ h⟩)
  · exact .inr h
section
variable {X : Cx} {pins : List (Addr × Obj)} {σ : L2.St} {H : Hp} {s : Shared} {A : Around} {R : Result → Shared → Prop} {z TI TO i1 i2 a b L : Addr} {xs ys : List V} {res : Value}
theorem ZTurn.keep {i : Nat} {h h' : Heap} (t : ZTurn z TI TO i1 i2 a b i h) (k : ∀ c o, c ≠ L → h.get? c = some o → h'.get? c = some o) (hL : L ∉ [z, TI, TO, i1, i2]) (hT : ∀ o, h.get? L = some o → ∃ o', h'.get? L = some o') : ZTurn z TI TO i1 i2 a b i h' := by
  simp only [List.mem_cons, List.not_mem_nil, or_false, not_or] at hL
  obtain ⟨n1, n2, n3, n4, n5⟩ := hL
  obtain ⟨t1, t2, t3, t4⟩ := t
  refine ⟨?_, k _ _ (Ne.symm n2) t2, t3.at fun o e => k _ o (Ne.symm n4) e, t4.at fun o e => k _ o (Ne.symm n5) e⟩
  rcases t1 with ⟨u1, x, y, u2⟩ | ⟨T, f, oT, u1, u2, u3⟩
  · exact .inl ⟨k _ _ (Ne.symm n1) u1, x, y, k _ _ (Ne.symm n3) u2⟩
  · by_cases q : T = L
    · subst q
      obtain ⟨o', u4⟩ := hT _ u3
      exact .inr ⟨T, f, o', k _ _ (Ne.symm n1) u1, u2, u4⟩
    · exact .inr ⟨T, f, oT, k _ _ (Ne.symm n1) u1, u2, k _ _ q u3⟩
theorem pairsAt_len {H : Hp} : ∀ {Ts : List Addr} {ps : List (V × V)}, PairsAt H Ts ps → Ts.length = ps.length
  | _, _, .nil => rfl
  | _, _, .cons _ t => by rw [List.length_cons, List.length_cons, pairsAt_len t]
theorem PairsAt.mono {H H' : Hp} : ∀ {Ts : List Addr} {ps : List (V × V)}, PairsAt H Ts ps → (∀ T o, T ∈ Ts → H T = some o → H' T = some o) → PairsAt H' Ts ps
  | _, _, .nil, _ => .nil
  | _, _, .cons h t, k => .cons (k _ _ List.mem_cons_self h) (PairsAt.mono t fun T o hm => k T o (List.mem_cons_of_mem _ hm))
theorem PairsAt.snoc {H : Hp} {T : Addr} {p : V × V} (h : H T = some (.tup [p.1, p.2])) : ∀ {Ts : List Addr} {ps : List (V × V)}, PairsAt H Ts ps → PairsAt H (Ts ++ [T]) (ps ++ [p])
  | _, _, .nil => .cons h .nil
  | _, _, .cons a t => .cons a (PairsAt.snoc h t)
theorem zip_loop {B : Nat} (hB : ∀ c, c ∈ [z, TI, TO, i1, i2] → c < B) (D : ZipApart z TI TO i1 i2 a b) (hh : A.handled = none) (hL : L ∉ [z, TI, TO, i1, i2]) (hfit : (xs.zip ys).length ≤ 16777216)
    (fin : ∀ s' H' Ts, Inv X pins σ H' s' → (∀ c o, H c = some o → H' c = some o) → H' L = some (.lst (Ts.map V.ref)) → PairsAt H' Ts (xs.zip ys) → (∀ T, T ∈ Ts → H T = none ∧ T ≠ L) → R (.ok (.ret res)) s') :
    ∀ (k i : Nat) (s : Shared) (Hc : Hp) (Ts : List Addr), (xs.zip ys).length - i = k → i ≤ (xs.zip ys).length → B ≤ s.heap.objs.size → Inv X pins σ Hc s → (∀ c, c ∈ [z, TI, TO, i1, i2] → FpOk X pins Hc c) → ZTurn z TI TO i1 i2 a b i s.heap → (∀ c o, H c = some o → Hc c = some o) →
      (∀ c, Hc c = none → H c = none) → SqL X.K Hc a xs → SqL X.K Hc b ys → Hc L = some (.lst (Ts.map V.ref)) → H L = none → PairsAt Hc Ts ((xs.zip ys).take i) → (∀ T, T ∈ Ts → H T = none ∧ T ≠ L) → a ≠ L → b ≠ L →
      codeAny (model X.prog X.w) A (.builtin "list.extend.loop" ⟨[.ref L, .ref z, res], []⟩) R s := by
  intro k
  induction k with
  | zero =>
    intro i s Hc Ts hk hi hBs I fp st hH hN qa qb hl hLn hp hT na nb
    have hin : i = (xs.zip ys).length := by omega
    subst hin
    rw [List.take_length] at hp
    have endd : (xs.length ≤ (xs.zip ys).length ∨ ys.length ≤ (xs.zip ys).length) := by rw [List.length_zip]; omega
    obtain ⟨its, rv, p1, _⟩ := I.list qa
    obtain ⟨its2, rv2, p2, _⟩ := I.list qb
    have hend : its.toArray[(xs.zip ys).length]? = none ∨ its2.toArray[(xs.zip ys).length]? = none := by
      rcases endd with e | e
      · exact .inl (by rw [List.getElem?_toArray]; exact List.getElem?_eq_none (by rw [← rv.length]; exact e))
      · exact .inr (by rw [List.getElem?_toArray]; exact List.getElem?_eq_none (by rw [← rv2.length]; exact e))
    refine codeAny_builtin F.entry_extend_loop ?_
    rw [Around.under_plainId F.plain_extend_loop _]
    show wpAny _ A.in1 (pyNext (.ref z) >>= _) _ _ s
    obtain ⟨t1, t2, t3, t4⟩ := st
    have out : ∀ h', (∀ c o, c ∉ [z, TI, TO, i1, i2] → s.heap.get? c = some o → h'.get? c = some o) → R (.ok (.ret res)) { s with heap := h' } := fun h' kp =>
      fin _ Hc Ts (I.turnedL (t' := s.toks) (ch := [z, TI, TO, i1, i2]) (fun c o hb q => kp c o hb q) fp) hH hl hp hT
    rcases t1 with ⟨u1, x0, y0, u2⟩ | ⟨T, f, oT, u1, _, u2⟩
    · refine wpAny_bind (wpAny_pyNext_zip_end hh D u1 t2 u2 t3 t4 p1.isList p2.isList hend fun h' kp => ?_)
      exact wpAny_pure (out h' fun c o hc q => by
        simp only [List.mem_cons, List.not_mem_nil, or_false, not_or] at hc
        exact kp c o hc.1 hc.2.2.1 hc.2.2.2.1 hc.2.2.2.2 q)
    · refine wpAny_bind (wpAny_pyNext_zip_end_held hh D u1 u2 t2 t3 t4 p1.isList p2.isList hend fun h' kp => ?_)
      exact wpAny_pure (out h' fun c o hc q => by
        simp only [List.mem_cons, List.not_mem_nil, or_false, not_or] at hc
        exact kp c o hc.1 hc.2.2.2.1 hc.2.2.2.2 q)
  | succ k ih =>
    intro i s Hc Ts hk hi hBs I fp st hH hN qa qb hl hLn hp hT na nb
    have hlt : i < (xs.zip ys).length := by omega
    have hlx : i < xs.length := by rw [List.length_zip] at hlt; omega
    have hly : i < ys.length := by rw [List.length_zip] at hlt; omega
    obtain ⟨its, rv, p1, _⟩ := I.list qa
    obtain ⟨its2, rv2, p2, _⟩ := I.list qb
    obtain ⟨u, hu, ru⟩ := rv.get (List.getElem?_eq_getElem hlx)
    obtain ⟨u2, hu2, ru2⟩ := rv2.get (List.getElem?_eq_getElem hly)
    refine codeAny_builtin F.entry_extend_loop ?_
    rw [Around.under_plainId F.plain_extend_loop _]
    show wpAny _ A.in1 (pyNext (.ref z) >>= _) _ _ s
    obtain ⟨t1, t2, t3, t4⟩ := st
    have hL2 := hL
    simp only [List.mem_cons, List.not_mem_nil, or_false, not_or] at hL2
    obtain ⟨m1, m2, m3, m4, m5⟩ := hL2
    obtain ⟨hzL, itsL, nL, rL, eL⟩ := I.hok L _ hl
    have lenT : Ts.length = i := by rw [pairsAt_len hp, List.length_take]; omega
    have N0 : Hc s.heap.objs.size = none := I.hok.fresh (Nat.le_refl _)
    have notFp : s.heap.objs.size ∉ [z, TI, TO, i1, i2] := fun hm => absurd (Nat.lt_of_lt_of_le (hB _ hm) hBs) (Nat.lt_irrefl _)
    have NL : s.heap.objs.size ≠ L := Nat.ne_of_gt (Heap.lt_size eL)
    -- behind the draw: the new pair stands, the zip is at turn i + 1
    have step : ∀ h', IsPair h' s.heap.objs.size u u2 → ZTurn z TI TO i1 i2 a b (i + 1) h' → (∀ c o, c ∉ [z, TI, TO, i1, i2] → s.heap.get? c = some o → h'.get? c = some o) →
        wpAny (model X.prog X.w) A.in1 (updateSeq L (·.push (.ref s.heap.objs.size)) >>= fun _ => again (.builtin "list.extend.loop" ⟨[.ref L, .ref z, res], []⟩)) (fun fin s' => match fin with | .done f => R (.ok f) s' | .again c' => c'.quiet = true ∧ codeAny (model X.prog X.w) A c' R s') (fun e s' => R (.error e) s') { s with heap := h' } := fun h' hT2 zt kp => by
      have hsz : s.heap.objs.size < h'.objs.size := Heap.lt_size hT2
      have I1 : Inv X pins σ (upd Hc s.heap.objs.size (.tup [xs[i], ys[i]])) { s with heap := h' } :=
        I.turnedNew (t' := s.toks) (ch := [z, TI, TO, i1, i2]) (fun c o hb q => kp c o hb q) fp (Nat.le_refl _) ⟨by show 2 ≤ sizeLine; decide, [u, u2], .cons ru (.cons ru2 .nil), ⟨_, hT2, rfl, _, rfl⟩⟩
      have eL2 : h'.get? L = some { cls := .type "list", data := .seq itsL.toArray nL } := kp L _ (by simp [m1, m2, m3, m4, m5]) eL
      have lenL : itsL.length = i := by rw [← rL.length, List.length_map, lenT]
      refine wpAny_bind (wpAny_updateSeq (s := { s with heap := h' }) eL2 rfl (wpAny_pure ⟨plainId_quiet F.plain_extend_loop _, ?_⟩) (by rw [List.size_toArray, sizeLine_eq]; omega) (by show (itsL.toArray.push _).size ≤ sizeLine + 1; rw [Array.size_push, List.size_toArray, sizeLine_eq]; omega))
      have hL1 : upd Hc s.heap.objs.size (.tup [xs[i], ys[i]]) L = some (.lst (Ts.map V.ref)) := by rw [upd_ne NL.symm]; exact hl
      have self := Heap.get?_update_self (Obj.mapSeq (·.push (.ref s.heap.objs.size))) eL2 rfl
      have I2 : Inv X pins σ (upd (upd Hc s.heap.objs.size (.tup [xs[i], ys[i]])) L (.lst ((Ts ++ [s.heap.objs.size]).map V.ref))) { s with heap := h'.update L (Obj.mapSeq (·.push (.ref s.heap.objs.size))) } := by
        refine I1.write (t' := s.toks) (by rw [hL1]; trivial) (.inl rfl) (fun c o hc q => (Heap.get?_update_other _ _ (Ne.symm hc)).trans q) ⟨_, self⟩ ⟨by rw [List.length_map, List.length_append, sizeLine_eq, lenT]; show i + 1 ≤ _; omega, itsL ++ [.ref s.heap.objs.size], nL + 1, ?_, ?_⟩
        · rw [List.map_append]
          exact rL.append (.cons rfl .nil)
        · rw [self]
          simp [Obj.mapSeq]
      have oth : ∀ c, c ≠ s.heap.objs.size → c ≠ L → upd (upd Hc s.heap.objs.size (.tup [xs[i], ys[i]])) L (.lst ((Ts ++ [s.heap.objs.size]).map V.ref)) c = Hc c := fun c h1 h2 => by rw [upd_ne h2, upd_ne h1]
      have NH : H s.heap.objs.size = none := hN _ N0
      refine ih (i + 1) _ _ (Ts ++ [s.heap.objs.size]) (by omega) hlt ?_ I2 (fun c hc => ⟨?_, (fp c hc).2⟩) ?_ (fun c o q => ?_) (fun c q => ?_) ?_ ?_ upd_same hLn ?_ (fun T hm => ?_) na nb
      · show B ≤ (h'.update L _).objs.size
        rw [Heap.size_update]
        omega
      · rw [oth c (fun e => notFp (e ▸ hc)) (fun e => hL (e ▸ hc))]
        exact (fp c hc).1
      · refine zt.keep (L := L) (fun c o hc q => (Heap.get?_update_other _ _ (Ne.symm hc)).trans q) hL fun o q => ⟨_, self⟩
      · rw [oth c (fun e => by rw [e, NH] at q; cases q) (fun e => by rw [e, hLn] at q; cases q)]
        exact hH c o q
      · by_cases h1 : c = s.heap.objs.size
        · rw [h1]; exact NH
        · by_cases h2 : c = L
          · rw [h2]; exact hLn
          · rw [oth c h1 h2] at q
            exact hN c q
      · exact sq_keep qa fun u q => by rw [oth a (fun e => by rw [e, N0] at q; cases q) na]; exact q
      · exact sq_keep qb fun u q => by rw [oth b (fun e => by rw [e, N0] at q; cases q) nb]; exact q
      · rw [List.take_succ, List.getElem?_eq_getElem hlt]
        refine PairsAt.snoc ?_ (hp.mono fun T o hm q => ?_)
        · rw [upd_ne NL, upd_same]
          simp
        · rw [oth T (fun e => by rw [e, N0] at q; cases q) (hT T hm).2]
          exact q
      · rcases List.mem_append.mp hm with hm | hm
        · exact hT T hm
        · rw [List.mem_singleton.mp hm]
          exact ⟨NH, NL⟩
    rcases t1 with ⟨v1, x0, y0, v2⟩ | ⟨T, f, oT, v1, v0, v2⟩
    · refine wpAny_bind (wpAny_pyNext_zip_item D v1 t2 v2 t3 t4 p1.isList p2.isList (x := u) (y := u2) (by simpa using hu) (by simpa using hu2) fun h' w1 w2 w3 w4 w5 w6 w7 => ?_)
      refine step h' w5 ⟨.inr ⟨s.heap.objs.size, false, _, w1, notFp, w5⟩, ?_, w3, w4⟩ fun c o hc q => ?_
      · exact w7 TI _ D.TIz D.TITO D.TIi1 D.TIi2 t2
      · simp only [List.mem_cons, List.not_mem_nil, or_false, not_or] at hc
        exact w7 c o hc.1 hc.2.2.1 hc.2.2.2.1 hc.2.2.2.2 q
    · refine wpAny_bind (wpAny_pyNext_zip_item_held D v1 v2 t2 t3 t4 p1.isList p2.isList (x := u) (y := u2) (by simpa using hu) (by simpa using hu2) fun h' w1 w3 w4 w5 w6 w7 => ?_)
      simp only [List.mem_cons, List.not_mem_nil, or_false, not_or] at v0
      refine step h' w5 ⟨.inr ⟨T, true, oT, w1, by simp [v0], w7 T _ v0.1 v0.2.2.2.1 v0.2.2.2.2 v2⟩, ?_, w3, w4⟩ fun c o hc q => ?_
      · exact w7 TI _ D.TIz D.TIi1 D.TIi2 t2
      · simp only [List.mem_cons, List.not_mem_nil, or_false, not_or] at hc
        exact w7 c o hc.1 hc.2.2.2.1 hc.2.2.2.2 q
theorem list_of_zip {Q : VK} (hc : X.calm = true) (I : Inv X pins σ H s) (qa : SqL X.K H a xs) (qb : SqL X.K H b ys) (hfit : (xs.zip ys).length ≤ 16777216)
    (q : ∀ H' L Ts, (∀ c o, H c = some o → H' c = some o) → H L = none → H' L = some (.lst (Ts.map V.ref)) → PairsAt H' Ts (xs.zip ys) → (∀ T, T ∈ Ts → H T = none ∧ T ≠ L) → Q (.ref L) H') :
    wpAny (model X.prog X.w) X.A (call (.type "zip") [.ref a, .ref b]) (fun v s1 => wpAny (model X.prog X.w) X.A (call (.type "list") [v]) (EP X pins σ Q) X.xe s1) X.xe s := by
  obtain ⟨its, rv, p1, _⟩ := I.list qa
  obtain ⟨its2, rv2, p2, _⟩ := I.list qb
  have la : a < s.heap.objs.size := p1.lt
  have lb : b < s.heap.objs.size := p2.lt
  have D := PySem.W.ktu_apart s.heap.objs.size a b la lb
  refine call_zip_2 p1.isList p2.isList fun h1 hz hTI hTO j1 j2 hsz hk => ?_
  generalize hzz : s.heap.objs.size + 4 = z at *
  generalize hti : s.heap.objs.size + 2 = TI at *
  generalize hto : s.heap.objs.size + 3 = TO at *
  generalize hi2 : s.heap.objs.size + 1 = i2 at *
  generalize hi1 : s.heap.objs.size = i1 at *
  have I1 : Inv X pins σ H { s with heap := h1 } := I.kept (t' := s.toks) hk
  refine callType_codes (Q₁ := fun obj s₁ => obj = .ref h1.objs.size ∧ s₁ = { s with heap := h1.push { cls := .type "list", data := .seq #[] } }) F.called_list (F.typeCall_list_1 _) F.entry_list_init (code_list_new _ ⟨rfl, rfl⟩) fun obj s₁ e₁ => ?_
  obtain ⟨rfl, rfl⟩ := e₁
  generalize hLL : h1.objs.size = L at *
  have g0 : (h1.push { cls := .type "list", data := .seq #[] }).get? L = some { cls := .type "list", data := .seq #[] } := by rw [← hLL]; exact Heap.get?_push_size _ rfl
  have nL : ∀ c, c ∈ [z, TI, TO, i1, i2] → c < L := fun c hm => by
    simp only [List.mem_cons, List.not_mem_nil, or_false] at hm
    have e5 : L = i1 + 5 := hsz
    rw [e5]
    rcases hm with h | h | h | h | h
    · rw [h, ← hzz]; exact Nat.lt_succ_self _
    · rw [h, ← hti]; exact Nat.add_lt_add_left (by decide) _
    · rw [h, ← hto]; exact Nat.add_lt_add_left (by decide) _
    · rw [h]; exact Nat.lt_add_of_pos_right (by decide)
    · rw [h, ← hi2]; exact Nat.add_lt_add_left (by decide) _
  have hLm : L ∉ [z, TI, TO, i1, i2] := fun hm => absurd (nL _ hm) (Nat.lt_irrefl _)
  refine ⟨⟨_, g0, rfl⟩, F.args_list_init_2 _ _, ?_⟩
  show wpAny _ X.A.in1.in1 (do let old ← Builtin.List.listItems (.ref L); Builtin.List.listUpdate (.ref L) (fun _ => #[]); letGo old.toList.reverse; Builtin.List.listExtendWith (.ref L) (.ref z) .none) _ _ _
  refine wpAny_bind ?_
  unfold Builtin.List.listItems
  refine wpAny_bind (wpAny_seqItems g0 rfl (wpAny_pure ?_))
  show wpAny _ X.A.in1.in1 (updateSeq L (fun _ => #[]) >>= fun _ => letGo (#[] : Array Value).toList.reverse >>= fun _ => Builtin.List.listExtendWith (.ref L) (.ref z) .none) _ _ _
  refine wpAny_bind (wpAny_updateSeq g0 rfl ?_)
  have g1 := Heap.get?_update_self (Obj.mapSeq (fun _ => (#[] : Array Value))) g0 rfl
  refine wpAny_bind (wpAny_letGo ?_)
  unfold Builtin.List.listExtendWith
  have old1 : ∀ c o, c ≠ L → h1.get? c = some o → ((h1.push { cls := .type "list", data := .seq #[] }).update L (Obj.mapSeq (fun _ => (#[] : Array Value)))).get? c = some o := fun c o hc q => (Heap.get?_update_other _ _ (Ne.symm hc)).trans (Heap.get?_push_of_some _ q)
  generalize hh2 : (h1.push { cls := .type "list", data := .seq #[] }).update L (Obj.mapSeq (fun _ => (#[] : Array Value))) = h2 at g1 old1 ⊢
  have zne : z ≠ L := fun e => hLm (by rw [← e]; exact List.mem_cons_self)
  have hz2 : IsZip h2 z TI TO .none := old1 _ _ zne hz
  have tz : ({ s with heap := h2 } : Shared).TypeIs (.ref z) "zip" := ⟨_, hz2, rfl⟩
  refine wpAny_bind (wpAny_typeOf tz ?_)
  have b1 : Builtin.List.listSameRef (.ref L) (.ref z) = false := by simp [Builtin.List.listSameRef, zne.symm]
  have b2 : (Value.type "zip" == Value.type "list") = false := by decide
  have b3 : (Value.type "zip" == Value.type "tuple") = false := by decide
  simp only [b1, b2, b3, Bool.or_false, Bool.false_eq_true, if_false]
  refine wpAny_bind (wpAny_pyIter_zip hz2 ?_)
  refine wpAny_bind (wpAny_holding ?_)
  unfold Builtin.List.listLengthHint
  refine wpAny_bind (wpAny_specialOf tz zipNoLen ?_)
  show wpAny _ X.A.in1.in1 (specialOf (Value.ref z) (Str.ofString "__length_hint__") >>= _) _ _ _
  refine wpAny_bind (wpAny_specialOf tz zipNoHint (wpAny_pure ?_))
  show wpAny _ X.A.in1.in1 (rule "list.extend.makes-room" >>= fun _ => Builtin.List.listTouch (.ref L) >>= fun _ => again (.builtin "list.extend.loop" ⟨[.ref L, .ref z, .none], []⟩)) _ _ _
  refine wpAny_bind (wpAny_rule (wpAny_bind ?_))
  show wpAny _ X.A.in1.in1 (updateSeq L (·.push .none) >>= fun _ => updateSeq L (·.pop)) _ _ _
  refine wpAny_bind (wpAny_updateSeq (s := { s with heap := h2 }) g1 rfl ?_ (by simp) (by simp [sizeLine_eq]))
  have g2 := Heap.get?_update_self (Obj.mapSeq (·.push Value.none)) g1 rfl
  refine wpAny_updateSeq g2 rfl ?_ (by simp [sizeLine_eq]) (by simp)
  have g3 := Heap.get?_update_self (Obj.mapSeq (·.pop)) g2 rfl
  have old3 : ∀ c o, c ≠ L → h1.get? c = some o → ((h2.update L (Obj.mapSeq (·.push Value.none))).update L (Obj.mapSeq (·.pop))).get? c = some o := fun c o hc q => (Heap.get?_update_other _ _ (Ne.symm hc)).trans ((Heap.get?_update_other _ _ (Ne.symm hc)).trans (old1 c o hc q))
  have sz3 : ((h2.update L (Obj.mapSeq (·.push Value.none))).update L (Obj.mapSeq (·.pop))).objs.size = L + 1 := by rw [Heap.size_update, Heap.size_update, ← hh2, Heap.size_update, Heap.size_push, hLL]
  generalize (h2.update L (Obj.mapSeq (·.push Value.none))).update L (Obj.mapSeq (·.pop)) = h3 at g3 old3 sz3 ⊢
  have keep3 : ∀ c o, h1.get? c = some o → h3.get? c = some o := fun c o e => old3 c o (fun z => absurd (Heap.lt_size e) (by rw [hLL, z]; exact Nat.lt_irrefl _)) e
  have HL : H L = none := I1.hok.fresh (by show h1.objs.size ≤ L; rw [hLL]; exact Nat.le_refl _)
  have I3 : Inv X pins σ (upd H L (.lst [])) { s with heap := h3 } := I1.laid (t' := s.toks) keep3 (by show h1.objs.size ≤ L; rw [hLL]; exact Nat.le_refl _) ⟨Nat.zero_le _, [], _, .nil, g3⟩
  have neL : ∀ c, H c ≠ none → c ≠ L := fun c h e => h (by rw [e]; exact HL)
  have aL : a ≠ L := Nat.ne_of_lt (by rw [show L = i1 + 5 from hsz]; exact Nat.lt_add_right _ la)
  have bL : b ≠ L := Nat.ne_of_lt (by rw [show L = i1 + 5 from hsz]; exact Nat.lt_add_right _ lb)
  refine wpAny_pure ⟨plainId_quiet F.plain_extend_loop _, zip_loop (X := X) (pins := pins) (σ := σ) (H := H) (A := X.A.in1) (xs := xs) (ys := ys) nL D (I.ok.hd hc) hLm hfit (fun s' H' Ts J1 J2 J3 J4 J5 => ⟨rfl, .ref L, H', J1, rfl, q H' L Ts J2 HL J3 J4 J5⟩) _ 0 _ _ [] rfl (Nat.zero_le _) (by show L ≤ h3.objs.size; rw [sz3]; exact Nat.le_succ _) I3 (fun c hm => ?_) ⟨.inl ⟨keep3 _ _ hz, _, _, keep3 _ _ hTO⟩, keep3 _ _ hTI, j1.at fun o e => keep3 _ o e, j2.at fun o e => keep3 _ o e⟩
    (fun c o e => (upd_ne (neL c (by rw [e]; simp))).trans e) (fun c e => ?_) (sq_keep qa fun u e => (upd_ne (neL a (by rw [e]; simp))).trans e) (sq_keep qb fun u e => (upd_ne (neL b (by rw [e]; simp))).trans e) upd_same HL .nil (fun T hm => by cases hm) aL bL⟩
  · have hle : s.heap.objs.size ≤ c := by
      rw [hi1]
      simp only [List.mem_cons, List.not_mem_nil, or_false] at hm
      rcases hm with h | h | h | h | h
      all_goals (rw [h]; first | (rw [← hzz]; exact Nat.le_add_right _ _) | (rw [← hti]; exact Nat.le_add_right _ _) | (rw [← hto]; exact Nat.le_add_right _ _) | (rw [← hi2]; exact Nat.le_add_right _ _) | exact Nat.le_refl _)
    refine I.fpOk hle ?_
    rw [upd_ne (fun e : c = L => hLm (e ▸ hm))]
    exact I.hok.fresh hle
  · by_cases h : c = L
    · rw [h]; exact HL
    · rw [upd_ne h] at e; exact e
end
end DS
set_option maxRecDepth 100000
set_option maxHeartbeats 4000000
namespace DS
open PySem PySem.Spec L2 PyProof.Rows
theorem enNoLen : typeLookup (.type "enumerate") "__len__" = pure none := am_miss_of_fast (by decide +kernel)
theorem enNoHint : typeLookup (.type "enumerate") "__length_hint__" = pure none := am_miss_of_fast (by decide +kernel)
def enV (xs : List V) : List (V × V) := ((List.range xs.length).map fun i => V.int ((i : Nat) : Int)).zip xs
theorem enV_len (xs : List V) : (enV xs).length = xs.length := by simp [enV]
theorem enV_get {xs : List V} {i : Nat} (h : i < xs.length) : (enV xs)[i]? = some (.int (i : Nat), xs[i]) := by
  rw [enV, List.getElem?_eq_getElem (by simp; exact h)]
  simp
def ETurn (e it a : Addr) (i : Nat) (h : Heap) : Prop :=
  ((∃ old, IsEnum h e it ((i : Nat) : Int) old) ∨ ∃ old T f oT, IsEnumHeld h e it ((i : Nat) : Int) old T f ∧ T ∉ [e, it] ∧ h.get? T = some oT) ∧ h.IsListIter it a i
section
variable {X : Cx} {pins : List (Addr × Obj)} {σ : L2.St} {H : Hp} {s : Shared} {A : Around} {R : Result → Shared → Prop} {e it a L : Addr} {xs : List V} {res : Value}
theorem ETurn.keep {i : Nat} {h h' : Heap} (t : ETurn e it a i h) (k : ∀ c o, c ≠ L → h.get? c = some o → h'.get? c = some o) (hL : L ∉ [e, it]) (hT : ∀ o, h.get? L = some o → ∃ o', h'.get? L = some o') : ETurn e it a i h' := by
  simp only [List.mem_cons, List.not_mem_nil, or_false, not_or] at hL
  obtain ⟨n1, n2⟩ := hL
  obtain ⟨t1, t2⟩ := t
  refine ⟨?_, t2.at fun o q => k _ o (Ne.symm n2) q⟩
  rcases t1 with ⟨old, u1⟩ | ⟨old, T, f, oT, u1, u2, u3⟩
  · exact .inl ⟨old, k _ _ (Ne.symm n1) u1⟩
  · by_cases q : T = L
    · subst q
      obtain ⟨o', u4⟩ := hT _ u3
      exact .inr ⟨old, T, f, o', k _ _ (Ne.symm n1) u1, u2, u4⟩
    · exact .inr ⟨old, T, f, oT, k _ _ (Ne.symm n1) u1, u2, k _ _ q u3⟩
theorem enum_loop {B : Nat} (hB : ∀ c, c ∈ [e, it] → c < B) (hei : e ≠ it) (hh : A.handled = none) (hL : L ∉ [e, it]) (hfit : xs.length ≤ 16777216)
    (fin : ∀ s' H' Ts, Inv X pins σ H' s' → (∀ c o, H c = some o → H' c = some o) → H' L = some (.lst (Ts.map V.ref)) → PairsAt H' Ts (enV xs) → (∀ T, T ∈ Ts → H T = none ∧ T ≠ L) → R (.ok (.ret res)) s') :
    ∀ (k i : Nat) (s : Shared) (Hc : Hp) (Ts : List Addr), xs.length - i = k → i ≤ xs.length → B ≤ s.heap.objs.size → Inv X pins σ Hc s → (∀ c, c ∈ [e, it] → FpOk X pins Hc c) → ETurn e it a i s.heap → (∀ c o, H c = some o → Hc c = some o) →
      (∀ c, Hc c = none → H c = none) → SqL X.K Hc a xs → Hc L = some (.lst (Ts.map V.ref)) → H L = none → PairsAt Hc Ts ((enV xs).take i) → (∀ T, T ∈ Ts → H T = none ∧ T ≠ L) → a ≠ L →
      codeAny (model X.prog X.w) A (.builtin "list.extend.loop" ⟨[.ref L, .ref e, res], []⟩) R s := by
  intro k
  induction k with
  | zero =>
    intro i s Hc Ts hk hi hBs I fp st hH hN qa hl hLn hp hT na
    have hin : i = xs.length := by omega
    subst hin
    rw [← enV_len xs, List.take_length] at hp
    obtain ⟨its, rv, p1, _⟩ := I.list qa
    have hend : its.toArray[xs.length]? = none := by
      rw [List.getElem?_toArray]; exact List.getElem?_eq_none (by rw [← rv.length]; exact Nat.le_refl _)
    refine codeAny_builtin F.entry_extend_loop ?_
    rw [Around.under_plainId F.plain_extend_loop _]
    show wpAny _ A.in1 (pyNext (.ref e) >>= _) _ _ s
    obtain ⟨t1, t2⟩ := st
    have out : ∀ h', (∀ c o, c ∉ [e, it] → s.heap.get? c = some o → h'.get? c = some o) → R (.ok (.ret res)) { s with heap := h' } := fun h' kp =>
      fin _ Hc Ts (I.turnedL (t' := s.toks) (ch := [e, it]) (fun c o hb q => kp c o hb q) fp) hH hl hp hT
    rcases t1 with ⟨old, u1⟩ | ⟨old, T, f, oT, u1, _, u2⟩
    · refine wpAny_bind (wpAny_pyNext_enum_end hh u1 t2 p1.isList hend fun h' kp => ?_)
      exact wpAny_pure (out h' fun c o hc q => by
        simp only [List.mem_cons, List.not_mem_nil, or_false, not_or] at hc
        exact kp c o hc.2 q)
    · refine wpAny_bind (wpAny_pyNext_enum_end_held hh u1 t2 p1.isList hend fun h' kp => ?_)
      exact wpAny_pure (out h' fun c o hc q => by
        simp only [List.mem_cons, List.not_mem_nil, or_false, not_or] at hc
        exact kp c o hc.2 q)
  | succ k ih =>
    intro i s Hc Ts hk hi hBs I fp st hH hN qa hl hLn hp hT na
    have hlt : i < xs.length := by omega
    obtain ⟨its, rv, p1, _⟩ := I.list qa
    obtain ⟨u, hu, ru⟩ := rv.get (List.getElem?_eq_getElem hlt)
    refine codeAny_builtin F.entry_extend_loop ?_
    rw [Around.under_plainId F.plain_extend_loop _]
    show wpAny _ A.in1 (pyNext (.ref e) >>= _) _ _ s
    obtain ⟨t1, t2⟩ := st
    have hL2 := hL
    simp only [List.mem_cons, List.not_mem_nil, or_false, not_or] at hL2
    obtain ⟨m1, m2⟩ := hL2
    obtain ⟨hzL, itsL, nL, rL, eL⟩ := I.hok L _ hl
    have lenT : Ts.length = i := by rw [pairsAt_len hp, List.length_take, enV_len]; omega
    have N0 : Hc s.heap.objs.size = none := I.hok.fresh (Nat.le_refl _)
    have notFp : s.heap.objs.size ∉ [e, it] := fun hm => absurd (Nat.lt_of_lt_of_le (hB _ hm) hBs) (Nat.lt_irrefl _)
    have NL : s.heap.objs.size ≠ L := Nat.ne_of_gt (Heap.lt_size eL)
    -- behind the draw: the new pair stands, the enumeration is at turn i + 1
    have step : ∀ h', h'.get? s.heap.objs.size = some { cls := .type "tuple", data := .seq #[.int i s.toks, u] } → ETurn e it a (i + 1) h' → (∀ c o, c ∉ [e, it] → s.heap.get? c = some o → h'.get? c = some o) →
        wpAny (model X.prog X.w) A.in1 (updateSeq L (·.push (.ref s.heap.objs.size)) >>= fun _ => again (.builtin "list.extend.loop" ⟨[.ref L, .ref e, res], []⟩)) (fun fin s' => match fin with | .done f => R (.ok f) s' | .again c' => c'.quiet = true ∧ codeAny (model X.prog X.w) A c' R s') (fun e s' => R (.error e) s') { s with heap := h', toks := s.toks + 1 } := fun h' hT2 zt kp => by
      have hsz : s.heap.objs.size < h'.objs.size := Heap.lt_size hT2
      have I1 : Inv X pins σ (upd Hc s.heap.objs.size (.tup [.int (i : Nat), xs[i]])) { s with heap := h', toks := s.toks + 1 } :=
        I.turnedNew (t' := s.toks + 1) (ch := [e, it]) (fun c o hb q => kp c o hb q) fp (Nat.le_refl _) ⟨by show 2 ≤ sizeLine; decide, [.int ((i : Nat) : Int) s.toks, u], .cons ⟨_, rfl⟩ (.cons ru .nil), ⟨_, hT2, rfl, _, rfl⟩⟩
      have eL2 : h'.get? L = some { cls := .type "list", data := .seq itsL.toArray nL } := kp L _ (by simp [m1, m2]) eL
      have lenL : itsL.length = i := by rw [← rL.length, List.length_map, lenT]
      refine wpAny_bind (wpAny_updateSeq (s := { s with heap := h', toks := s.toks + 1 }) eL2 rfl (wpAny_pure ⟨plainId_quiet F.plain_extend_loop _, ?_⟩) (by rw [List.size_toArray, sizeLine_eq]; omega) (by show (itsL.toArray.push _).size ≤ sizeLine + 1; rw [Array.size_push, List.size_toArray, sizeLine_eq]; omega))
      have hL1 : upd Hc s.heap.objs.size (.tup [.int (i : Nat), xs[i]]) L = some (.lst (Ts.map V.ref)) := by rw [upd_ne NL.symm]; exact hl
      have self := Heap.get?_update_self (Obj.mapSeq (·.push (.ref s.heap.objs.size))) eL2 rfl
      have I2 : Inv X pins σ (upd (upd Hc s.heap.objs.size (.tup [.int (i : Nat), xs[i]])) L (.lst ((Ts ++ [s.heap.objs.size]).map V.ref))) { s with heap := h'.update L (Obj.mapSeq (·.push (.ref s.heap.objs.size))), toks := s.toks + 1 } := by
        refine I1.write (t' := s.toks + 1) (by rw [hL1]; trivial) (.inl rfl) (fun c o hc q => (Heap.get?_update_other _ _ (Ne.symm hc)).trans q) ⟨_, self⟩ ⟨by rw [List.length_map, List.length_append, sizeLine_eq, lenT]; show i + 1 ≤ _; omega, itsL ++ [.ref s.heap.objs.size], nL + 1, ?_, ?_⟩
        · rw [List.map_append]
          exact rL.append (.cons rfl .nil)
        · rw [self]
          simp [Obj.mapSeq]
      have oth : ∀ c, c ≠ s.heap.objs.size → c ≠ L → upd (upd Hc s.heap.objs.size (.tup [.int (i : Nat), xs[i]])) L (.lst ((Ts ++ [s.heap.objs.size]).map V.ref)) c = Hc c := fun c h1 h2 => by rw [upd_ne h2, upd_ne h1]
      have NH : H s.heap.objs.size = none := hN _ N0
      refine ih (i + 1) _ _ (Ts ++ [s.heap.objs.size]) (by omega) hlt ?_ I2 (fun c hc => ⟨?_, (fp c hc).2⟩) ?_ (fun c o q => ?_) (fun c q => ?_) ?_ upd_same hLn ?_ (fun T hm => ?_) na
      · show B ≤ (h'.update L _).objs.size
        rw [Heap.size_update]
        omega
      · rw [oth c (fun e => notFp (e ▸ hc)) (fun e => hL (e ▸ hc))]
        exact (fp c hc).1
      · refine zt.keep (L := L) (fun c o hc q => (Heap.get?_update_other _ _ (Ne.symm hc)).trans q) hL fun o q => ⟨_, self⟩
      · rw [oth c (fun e => by rw [e, NH] at q; cases q) (fun e => by rw [e, hLn] at q; cases q)]
        exact hH c o q
      · by_cases h1 : c = s.heap.objs.size
        · rw [h1]; exact NH
        · by_cases h2 : c = L
          · rw [h2]; exact hLn
          · rw [oth c h1 h2] at q
            exact hN c q
      · exact sq_keep qa fun u q => by rw [oth a (fun e => by rw [e, N0] at q; cases q) na]; exact q
      · rw [List.take_succ, enV_get hlt]
        refine PairsAt.snoc ?_ (hp.mono fun T o hm q => ?_)
        · rw [upd_ne NL, upd_same]
        · rw [oth T (fun e => by rw [e, N0] at q; cases q) (hT T hm).2]
          exact q
      · rcases List.mem_append.mp hm with hm | hm
        · exact hT T hm
        · rw [List.mem_singleton.mp hm]
          exact ⟨NH, NL⟩
    have ec : ((i + 1 : Nat) : Int) = (i : Int) + 1 := by omega
    rcases t1 with ⟨old, v1⟩ | ⟨old, T, f, oT, v1, v0, v2⟩
    · refine wpAny_bind (wpAny_pyNext_enum_item v1 t2 p1.isList (x := u) (by simpa using hu) hei fun h' w1 w2 w3 w4 w5 => ?_)
      refine step h' w3 ⟨.inr ⟨_, s.heap.objs.size, false, _, by rw [ec]; exact w1, notFp, w3⟩, w2⟩ fun c o hc q => ?_
      simp only [List.mem_cons, List.not_mem_nil, or_false, not_or] at hc
      exact w5 c o hc.1 hc.2 q
    · have v0' := v0
      simp only [List.mem_cons, List.not_mem_nil, or_false, not_or] at v0'
      refine wpAny_bind (wpAny_pyNext_enum_item_held v1 v2 v0'.1 v0'.2 t2 p1.isList (x := u) (by simpa using hu) hei fun h' w1 w2 w3 w4 w5 => ?_)
      refine step h' w3 ⟨.inr ⟨old, T, true, oT, by rw [ec]; exact w1, v0, w5 T _ v0'.1 v0'.2 v2⟩, w2⟩ fun c o hc q => ?_
      simp only [List.mem_cons, List.not_mem_nil, or_false, not_or] at hc
      exact w5 c o hc.1 hc.2 q
theorem list_of_enum {Q : VK} (hc : X.calm = true) (I : Inv X pins σ H s) (qa : SqL X.K H a xs) (hfit : xs.length ≤ 16777216)
    (q : ∀ H' L Ts, (∀ c o, H c = some o → H' c = some o) → H L = none → H' L = some (.lst (Ts.map V.ref)) → PairsAt H' Ts (enV xs) → (∀ T, T ∈ Ts → H T = none ∧ T ≠ L) → Q (.ref L) H') :
    wpAny (model X.prog X.w) X.A (call (.type "enumerate") [.ref a]) (fun v s1 => wpAny (model X.prog X.w) X.A (call (.type "list") [v]) (EP X pins σ Q) X.xe s1) X.xe s := by
  obtain ⟨its, rv, p1, _⟩ := I.list qa
  have la : a < s.heap.objs.size := p1.lt
  refine call_enumerate_list p1.isList fun h1 he hit hsz hk => ?_
  generalize hee : s.heap.objs.size + 1 = e at *
  generalize hii : s.heap.objs.size = it at *
  have hsz : h1.objs.size = it + 2 := hsz
  have I1 : Inv X pins σ H { s with heap := h1 } := I.kept (t' := s.toks) hk
  refine callType_codes (Q₁ := fun obj s₁ => obj = .ref h1.objs.size ∧ s₁ = { s with heap := h1.push { cls := .type "list", data := .seq #[] } }) F.called_list (F.typeCall_list_1 _) F.entry_list_init (code_list_new _ ⟨rfl, rfl⟩) fun obj s₁ e₁ => ?_
  obtain ⟨rfl, rfl⟩ := e₁
  generalize hLL : h1.objs.size = L at *
  have g0 : (h1.push { cls := .type "list", data := .seq #[] }).get? L = some { cls := .type "list", data := .seq #[] } := by rw [← hLL]; exact Heap.get?_push_size _ rfl
  have nL : ∀ c, c ∈ [e, it] → c < L := fun c hm => by
    simp only [List.mem_cons, List.not_mem_nil, or_false] at hm
    rw [hsz]
    rcases hm with h | h
    · rw [h, ← hee]; exact Nat.lt_succ_self _
    · rw [h]; exact Nat.lt_add_of_pos_right (by decide)
  have hLm : L ∉ [e, it] := fun hm => absurd (nL _ hm) (Nat.lt_irrefl _)
  refine ⟨⟨_, g0, rfl⟩, F.args_list_init_2 _ _, ?_⟩
  show wpAny _ X.A.in1.in1 (do let old ← Builtin.List.listItems (.ref L); Builtin.List.listUpdate (.ref L) (fun _ => #[]); letGo old.toList.reverse; Builtin.List.listExtendWith (.ref L) (.ref e) .none) _ _ _
  refine wpAny_bind ?_
  unfold Builtin.List.listItems
  refine wpAny_bind (wpAny_seqItems g0 rfl (wpAny_pure ?_))
  show wpAny _ X.A.in1.in1 (updateSeq L (fun _ => #[]) >>= fun _ => letGo (#[] : Array Value).toList.reverse >>= fun _ => Builtin.List.listExtendWith (.ref L) (.ref e) .none) _ _ _
  refine wpAny_bind (wpAny_updateSeq g0 rfl ?_)
  have g1 := Heap.get?_update_self (Obj.mapSeq (fun _ => (#[] : Array Value))) g0 rfl
  refine wpAny_bind (wpAny_letGo ?_)
  unfold Builtin.List.listExtendWith
  have old1 : ∀ c o, c ≠ L → h1.get? c = some o → ((h1.push { cls := .type "list", data := .seq #[] }).update L (Obj.mapSeq (fun _ => (#[] : Array Value)))).get? c = some o := fun c o hc q => (Heap.get?_update_other _ _ (Ne.symm hc)).trans (Heap.get?_push_of_some _ q)
  generalize hh2 : (h1.push { cls := .type "list", data := .seq #[] }).update L (Obj.mapSeq (fun _ => (#[] : Array Value))) = h2 at g1 old1 ⊢
  have zne : e ≠ L := fun x => hLm (by rw [← x]; exact List.mem_cons_self)
  have hz2 : IsEnum h2 e it 0 .none := old1 _ _ zne he
  have tz : ({ s with heap := h2 } : Shared).TypeIs (.ref e) "enumerate" := ⟨_, hz2, rfl⟩
  refine wpAny_bind (wpAny_typeOf tz ?_)
  have b1 : Builtin.List.listSameRef (.ref L) (.ref e) = false := by simp [Builtin.List.listSameRef, zne.symm]
  have b2 : (Value.type "enumerate" == Value.type "list") = false := by decide
  have b3 : (Value.type "enumerate" == Value.type "tuple") = false := by decide
  simp only [b1, b2, b3, Bool.or_false, Bool.false_eq_true, if_false]
  refine wpAny_bind (wpAny_pyIter_enum hz2 ?_)
  refine wpAny_bind (wpAny_holding ?_)
  unfold Builtin.List.listLengthHint
  refine wpAny_bind (wpAny_specialOf tz enNoLen ?_)
  show wpAny _ X.A.in1.in1 (specialOf (Value.ref e) (Str.ofString "__length_hint__") >>= _) _ _ _
  refine wpAny_bind (wpAny_specialOf tz enNoHint (wpAny_pure ?_))
  show wpAny _ X.A.in1.in1 (rule "list.extend.makes-room" >>= fun _ => Builtin.List.listTouch (.ref L) >>= fun _ => again (.builtin "list.extend.loop" ⟨[.ref L, .ref e, .none], []⟩)) _ _ _
  refine wpAny_bind (wpAny_rule (wpAny_bind ?_))
  show wpAny _ X.A.in1.in1 (updateSeq L (·.push .none) >>= fun _ => updateSeq L (·.pop)) _ _ _
  refine wpAny_bind (wpAny_updateSeq (s := { s with heap := h2 }) g1 rfl ?_ (by simp) (by simp [sizeLine_eq]))
  have g2 := Heap.get?_update_self (Obj.mapSeq (·.push Value.none)) g1 rfl
  refine wpAny_updateSeq g2 rfl ?_ (by simp [sizeLine_eq]) (by simp)
  have g3 := Heap.get?_update_self (Obj.mapSeq (·.pop)) g2 rfl
  have old3 : ∀ c o, c ≠ L → h1.get? c = some o → ((h2.update L (Obj.mapSeq (·.push Value.none))).update L (Obj.mapSeq (·.pop))).get? c = some o := fun c o hc q => (Heap.get?_update_other _ _ (Ne.symm hc)).trans ((Heap.get?_update_other _ _ (Ne.symm hc)).trans (old1 c o hc q))
  have sz3 : ((h2.update L (Obj.mapSeq (·.push Value.none))).update L (Obj.mapSeq (·.pop))).objs.size = L + 1 := by rw [Heap.size_update, Heap.size_update, ← hh2, Heap.size_update, Heap.size_push, hLL]
  generalize (h2.update L (Obj.mapSeq (·.push Value.none))).update L (Obj.mapSeq (·.pop)) = h3 at g3 old3 sz3 ⊢
  have keep3 : ∀ c o, h1.get? c = some o → h3.get? c = some o := fun c o e => old3 c o (fun z => absurd (Heap.lt_size e) (by rw [hLL, z]; exact Nat.lt_irrefl _)) e
  have HL : H L = none := I1.hok.fresh (by show h1.objs.size ≤ L; rw [hLL]; exact Nat.le_refl _)
  have I3 : Inv X pins σ (upd H L (.lst [])) { s with heap := h3 } := I1.laid (t' := s.toks) keep3 (by show h1.objs.size ≤ L; rw [hLL]; exact Nat.le_refl _) ⟨Nat.zero_le _, [], _, .nil, g3⟩
  have neL : ∀ c, H c ≠ none → c ≠ L := fun c h e => h (by rw [e]; exact HL)
  have aL : a ≠ L := Nat.ne_of_lt (by rw [hsz]; exact Nat.lt_add_right _ la)
  have hei : e ≠ it := by rw [← hee]; exact Nat.succ_ne_self _
  refine wpAny_pure ⟨plainId_quiet F.plain_extend_loop _, enum_loop (X := X) (pins := pins) (σ := σ) (H := H) (A := X.A.in1) (xs := xs) nL hei (I.ok.hd hc) hLm hfit (fun s' H' Ts J1 J2 J3 J4 J5 => ⟨rfl, .ref L, H', J1, rfl, q H' L Ts J2 HL J3 J4 J5⟩) _ 0 _ _ [] rfl (Nat.zero_le _) (by show L ≤ h3.objs.size; rw [sz3]; exact Nat.le_succ _) I3 (fun c hm => ?_) ⟨.inl ⟨.none, keep3 _ _ he⟩, hit.at fun o e => keep3 _ o e⟩
    (fun c o e => (upd_ne (neL c (by rw [e]; simp))).trans e) (fun c e => ?_) (sq_keep qa fun u e => (upd_ne (neL a (by rw [e]; simp))).trans e) upd_same HL .nil (fun T hm => by cases hm) aL⟩
  · have hle : s.heap.objs.size ≤ c := by
      rw [hii]
      simp only [List.mem_cons, List.not_mem_nil, or_false] at hm
      rcases hm with h | h
      · rw [h, ← hee]; exact Nat.le_succ _
      · rw [h]; exact Nat.le_refl _
    refine I.fpOk hle ?_
    rw [upd_ne (fun e : c = L => hLm (e ▸ hm))]
    exact I.hok.fresh hle
  · by_cases h : c = L
    · rw [h]; exact HL
    · rw [upd_ne h] at e; exact e
end
end DS
set_option maxRecDepth 100000
set_option maxHeartbeats 4000000
namespace DS
open PySem PySem.Spec L2 PyProof.Rows
def IterK (h : Heap) (k : Bool) (it a : Addr) (i : Nat) : Prop := match k with
  | true => h.IsTupleIter it a i
  | false => h.IsListIter it a i
theorem IterK.at {h h' : Heap} {k : Bool} {it a : Addr} {i : Nat} (x : IterK h k it a i) (e : ∀ o, h.get? it = some o → h'.get? it = some o) : IterK h' k it a i := by
  cases k
  · exact Heap.IsListIter.at x e
  · exact Heap.IsTupleIter.at x e
theorem IterK.obj {h : Heap} {k : Bool} {it a : Addr} {i : Nat} (x : IterK h k it a i) : ∃ o, h.get? it = some o ∧ ∀ v, o.data ≠ .cell v := by
  cases k
  · obtain ⟨o, e, _, d⟩ := x
    exact ⟨o, e, fun v q => by rw [d] at q; cases q⟩
  · obtain ⟨o, e, _, d⟩ := x
    exact ⟨o, e, fun v q => by rw [d] at q; cases q⟩
section
variable {prog : Program} {w : World} {A : Around}
theorem drawsK (hh : A.handled = none) (k : Bool) (it a : Addr) (hne : a ≠ it) (its : Array Value) : Draws prog w A it [it, a] its.size (fun i v => its[i]? = some v) (fun i h => IterK h k it a i ∧ HeldK h k a its) := by
  cases k
  · exact Draws.list hh it a hne its
  · exact Draws.tuple hh it a hne its
theorem drawsK_end (hh : A.handled = none) (k : Bool) (it a : Addr) (its : Array Value) (i : Nat) (hi : its.size ≤ i) : Draws prog w A it [it, a] i (fun _ _ => False) (fun j h => j = i ∧ IterK h k it a i ∧ HeldK h k a its) := by
  refine ⟨fun _ _ st => ?_, fun _ _ _ st hk => ⟨st.1, st.2.1.at fun o e => hk it (by simp) o e, st.2.2.at fun o e => hk a (by simp) o e⟩, fun j s' Q E hj st _ => absurd st.1 (Nat.ne_of_lt hj), fun s' Q E st hE => ?_⟩
  · obtain ⟨o, ho, _⟩ := st.2.1.obj
    exact ⟨o, ho⟩
  · have hn : its[i]? = none := by simp; omega
    cases k
    · exact wpAny_nextOf_list_end hh st.2.1 st.2.2 hn hE
    · exact wpAny_nextOf_tuple_end hh st.2.1 st.2.2 hn hE
end
def ItzM (K : PySem.W.Frag) (k1 k2 : Bool) (a b : Addr) : It :=
  ⟨fun i H => ∃ (xs ys : List V) (x y : V), SqK K H k1 a xs ∧ SqK K H k2 b ys ∧ xs[i]? = some x ∧ ys[i]? = some y,
    fun i H v H' => ∃ T x y, v = .ref T ∧ H T = none ∧ H' = upd H T (.tup [x, y]) ∧ (∀ xs, SqK K H k1 a xs → xs[i]? = some x) ∧ ∀ ys, SqK K H k2 b ys → ys[i]? = some y,
    fun i H => ∃ xs ys : List V, SqK K H k1 a xs ∧ SqK K H k2 b ys ∧ (xs.length ≤ i ∨ ys.length ≤ i)⟩
theorem turn_zipM {P : Program} {w : World} {K : PySem.W.Frag} {elts : List Expr} {kk : Nat} {tpos : Pos} {k1 k2 : Bool} {a b z TI TO i1 i2 : Addr} (D : ZipSep2 z TI TO i1 i2 [i1, a] [i2, b]) (n1 : a ≠ i1) (n2 : b ≠ i2) :
    Turn P w K (.Tuple elts kk tpos) (ItzM K k1 k2 a b) [z, TI, TO, i1, i2] z (fun i h => IsZip h z TI TO .none ∧ IsTupOf2 h TI (.ref i1) (.ref i2) ∧ (∃ x y, IsTupOf2 h TO x y) ∧ IterK h k1 i1 a i ∧ IterK h k2 i2 b i) where
  mem := by simp
  obj := fun i h st c hc => by
    obtain ⟨hz, hTI, ⟨x, y, hTO⟩, h1, h2⟩ := st
    have e' : c = z ∨ c = TI ∨ c = TO ∨ c = i1 ∨ c = i2 := by simpa using hc
    rcases e' with q | q | q | q | q
    · rw [q]; exact ⟨_, hz, fun v q => nomatch q⟩
    · rw [q]; exact ⟨_, hTI, fun v q => nomatch q⟩
    · rw [q]; exact ⟨_, hTO, fun v q => nomatch q⟩
    · rw [q]; exact h1.obj
    · rw [q]; exact h2.obj
  keep := fun i h h' st k => by
    obtain ⟨hz, hTI, ⟨x, y, hTO⟩, h1, h2⟩ := st
    exact ⟨k z (by simp) _ hz, k TI (by simp) _ hTI, ⟨x, y, k TO (by simp) _ hTO⟩, h1.at fun o q => k i1 (by simp) o q, h2.at fun o q => k i2 (by simp) o q⟩
  item := by
    intro X hP hw hK hc i pins s σ H E I hf st hg
    subst hP hw hK
    obtain ⟨hz, hTI, hTO, h1, h2⟩ := st
    obtain ⟨xs, ys, x, y, hqx, hqy, hx, hy⟩ := hg
    obtain ⟨its, rv, p⟩ := sqK_items I hqx
    obtain ⟨its2, rv2, p2⟩ := sqK_items I hqy
    obtain ⟨u, hu, ru⟩ := rv.get hx
    obtain ⟨u2, hu2, ru2⟩ := rv2.get hy
    have hlt : i < min its.toArray.size its2.toArray.size := by
      have := (List.getElem?_eq_some_iff.mp hu).1
      have := (List.getElem?_eq_some_iff.mp hu2).1
      rw [List.size_toArray, List.size_toArray]
      omega
    have hh : X.A.in1.handled = none := I.ok.hd hc
    have G := GoesN.zip2 (prog := X.prog) (w := X.w) (A := X.A) (elts := elts) (x1 := kk) (pos := tpos) D (drawsK hh k1 i1 a n1 its.toArray) (drawsK hh k2 i2 b n2 its2.toArray)
    obtain ⟨x0, y0, hTO⟩ := hTO
    refine G.goes i s _ E hlt ⟨hz, hTI, ⟨x0, y0, hTO⟩, ⟨h1, p⟩, h2, p2⟩ fun v h' tk Y S' k ht => ?_
    obtain ⟨T, y1, y2, ev, hT, hy1, hy2, htup⟩ := Y
    obtain ⟨z', TI', TO', ⟨h1', _⟩, h2', _⟩ := S'
    have e1 : y1 = u := by
      have hu' : its.toArray[i]? = some u := by simpa using hu
      rw [hu'] at hy1
      exact (Option.some.inj hy1).symm
    have e2 : y2 = u2 := by
      have hu' : its2.toArray[i]? = some u2 := by simpa using hu2
      rw [hu'] at hy2
      exact (Option.some.inj hy2).symm
    rw [e1, e2] at htup
    have new : ObjOk X.prog X.w (upd H T (.tup [x, y])) h' T (.tup [x, y]) := ⟨by show 2 ≤ sizeLine; decide, [u, u2], .cons ru (.cons ru2 .nil), htup⟩
    have I1 : Inv X pins σ (upd H T (.tup [x, y])) { s with heap := h', toks := tk } :=
      I.turnedNew (t' := tk) (ch := [z, TI, TO, i1, i2]) (fun c o hb q => k c o (fun hm => hb (by
        simp only [List.mem_cons, List.not_mem_nil, or_false] at hm ⊢
        rcases hm with h | h | h | h <;> simp [h])) q) hf hT new
    refine ⟨.ref T, _, I1, by rw [ev]; rfl, ⟨T, x, y, rfl, I.hok.fresh hT, rfl, fun l hl => by rw [sqK_inj I hl hqx]; exact hx, fun l hl => by rw [sqK_inj I hl hqy]; exact hy⟩, ⟨z', TI', TO', h1', h2'⟩, fun c hcm => ?_⟩
    have hb' : c < s.heap.objs.size := by
      have e' : c = z ∨ c = TI ∨ c = TO ∨ c = i1 ∨ c = i2 := by simpa using hcm
      rcases e' with q | q | q | q | q
      · rw [q]; exact Heap.lt_size hz
      · rw [q]; exact Heap.lt_size hTI
      · rw [q]; exact Heap.lt_size hTO
      · rw [q]; obtain ⟨_, e1, _⟩ := h1.obj; exact Heap.lt_size e1
      · rw [q]; obtain ⟨_, e2, _⟩ := h2.obj; exact Heap.lt_size e2
    rw [upd_ne (Nat.ne_of_lt (Nat.lt_of_lt_of_le hb' hT))]
    exact (hf c hcm).1
  done := by
    intro X hP hw hK hc i pins s σ H E I hf st hg
    subst hP hw hK
    obtain ⟨hz, hTI, ⟨x0, y0, hTO⟩, h1, h2⟩ := st
    obtain ⟨xs, ys, hqx, hqy, hend⟩ := hg
    obtain ⟨its, rv, p⟩ := sqK_items I hqx
    obtain ⟨its2, rv2, p2⟩ := sqK_items I hqy
    have l1 := rv.length
    have l2 := rv2.length
    have hh : X.A.in1.handled = none := I.ok.hd hc
    have fin : ∀ h' tk, (∀ b o, b ∉ [z, TO, i1, i2] → s.heap.get? b = some o → h'.get? b = some o) → s.toks ≤ tk → Inv X pins σ H { s with heap := h', toks := tk } := fun h' tk k ht =>
      I.turnedL (t' := tk) (ch := [z, TI, TO, i1, i2]) (fun c o hb q => k c o (fun hm => hb (by
        simp only [List.mem_cons, List.not_mem_nil, or_false] at hm ⊢
        rcases hm with h | h | h | h <;> simp [h])) q) hf
    by_cases c1 : its.toArray.size ≤ i
    · have D1 := drawsK_end (prog := X.prog) (w := X.w) hh k1 i1 a its.toArray i c1
      by_cases c2 : its2.toArray.size ≤ i
      · have G := GoesN.zip2 (prog := X.prog) (w := X.w) (A := X.A) (elts := elts) (x1 := kk) (pos := tpos) D D1 (drawsK_end hh k2 i2 b its2.toArray i c2)
        rw [Nat.min_self] at G
        exact G.stops s _ E ⟨hz, hTI, ⟨x0, y0, hTO⟩, ⟨rfl, h1, p⟩, rfl, h2, p2⟩ fun h' tk k ht => fin h' tk k ht
      · have G := GoesN.zip2 (prog := X.prog) (w := X.w) (A := X.A) (elts := elts) (x1 := kk) (pos := tpos) D D1 (drawsK hh k2 i2 b n2 its2.toArray)
        rw [Nat.min_eq_left (by omega)] at G
        exact G.stops s _ E ⟨hz, hTI, ⟨x0, y0, hTO⟩, ⟨rfl, h1, p⟩, h2, p2⟩ fun h' tk k ht => fin h' tk k ht
    · have c2 : its2.toArray.size ≤ i := by
        rw [List.size_toArray] at c1 ⊢
        omega
      have G := GoesN.zip2 (prog := X.prog) (w := X.w) (A := X.A) (elts := elts) (x1 := kk) (pos := tpos) D (drawsK hh k1 i1 a n1 its.toArray) (drawsK_end hh k2 i2 b its2.toArray i c2)
      rw [Nat.min_eq_right (by omega)] at G
      exact G.stops s _ E ⟨hz, hTI, ⟨x0, y0, hTO⟩, ⟨h1, p⟩, rfl, h2, p2⟩ fun h' tk k ht => fin h' tk k ht
  self := fun A i s Q E st h => wpAny_pyIter_zip st.1 h
def beginO (k : Bool) (a : Addr) : Obj := match k with
  | true => { cls := .type "tuple_iterator", data := .fields #[.ref a, .int 0 0] }
  | false => { cls := .type "list_iterator", data := .fields #[.ref a, .int 0 0] }
theorem beginsK (k : Bool) (a : Addr) (its : Array Value) : Begins (.ref a) (beginO k a) fun h => HeldK h k a its := by
  cases k
  · exact begins_list a its
  · exact begins_tuple a its
def iZipM (K : PySem.W.Frag) (ta : TA) : L2.TI := fun σ H R => ta σ H fun vs H1 => ∃ k1 k2 a b xs ys, vs = [.ref a, .ref b] ∧ SqK K H1 k1 a xs ∧ SqK K H1 k2 b ys ∧ R (ItzM K k1 k2 a b) H1
theorem pi_zipM {X : Cx} {e e2 : Expr} {ta : TA} {p pos tpos : Pos} {elts : List Expr} {kk : Nat} (hg : Gl X "zip") (hm : X.mg "zip" = none) (ha : PA X [e, e2] ta)
    (hs : starEach [e, e2] X.env = (false, eval e X.env) :: starEach [e2] X.env) (hpl : (backTo pos (starEach [e2] X.env)).any (·.1) = false) :
    PI X (.Tuple elts kk tpos) (.Call (.Name "zip" p) [e, e2] [] pos) (iZipM X.K ta) := by
  refine ⟨fun pins s σ H R I h => ?_⟩
  refine Call_ (ld_blt I hg hm PyProof.Rows.boot_zip (PyProof.Rows.callWith_type1 (thn (ha.run pos pins s σ H _ I h) fun us s1 ⟨vs, H1, I1, r1, q1⟩ => ?_) hs hpl))
  obtain ⟨k1, k2, a, b, xs, ys, ex, hqx, hqy, q⟩ := q1
  subst ex
  obtain ⟨u1, u2, rfl, r, r'⟩ := vals2 r1
  cases r
  cases r'
  obtain ⟨its, rv, p1⟩ := sqK_items I1 hqx
  obtain ⟨its2, rv2, p2⟩ := sqK_items I1 hqy
  have la : a < s1.heap.objs.size := by
    cases k1
    · obtain ⟨_, x, _⟩ := p1; exact Heap.lt_size x
    · obtain ⟨_, x, _⟩ := p1; exact Heap.lt_size x
  have lb : b < s1.heap.objs.size := by
    cases k2
    · obtain ⟨_, x, _⟩ := p2; exact Heap.lt_size x
    · obtain ⟨_, x, _⟩ := p2; exact Heap.lt_size x
  have fresh5 : ∀ c, c ∈ [s1.heap.objs.size + 4, s1.heap.objs.size + 2, s1.heap.objs.size + 3, s1.heap.objs.size, s1.heap.objs.size + 1] → FpOk X pins H1 c := fun c hcm => by
    have e' : c = s1.heap.objs.size + 4 ∨ c = s1.heap.objs.size + 2 ∨ c = s1.heap.objs.size + 3 ∨ c = s1.heap.objs.size ∨ c = s1.heap.objs.size + 1 := by simpa using hcm
    have hle : s1.heap.objs.size ≤ c := by
      rcases e' with z | z | z | z | z
      · rw [z]; exact Nat.le_add_right _ _
      · rw [z]; exact Nat.le_add_right _ _
      · rw [z]; exact Nat.le_add_right _ _
      · rw [z]; exact Nat.le_refl _
      · rw [z]; exact Nat.le_add_right _ _
    exact I1.fpOk hle (I1.hok.fresh hle)
  refine zip_begins2 (beginsK k1 a its.toArray) (beginsK k2 b its2.toArray) p1 p2 fun h' hz hTI hTO g1 g2 hsz hk => wpAny_pyIter_zip hz ?_
  have I2 : Inv X pins σ H1 { s1 with heap := h' } := I1.kept (t' := s1.toks) hk
  have S : ZipSep2 (s1.heap.objs.size + 4) (s1.heap.objs.size + 2) (s1.heap.objs.size + 3) s1.heap.objs.size (s1.heap.objs.size + 1) [s1.heap.objs.size, a] [s1.heap.objs.size + 1, b] :=
    zip_sep2 (fp1 := [a]) (fp2 := [b]) (fun c hc => by rw [List.mem_singleton.mp hc]; exact la) (fun c hc => by rw [List.mem_singleton.mp hc]; exact lb)
  refine ⟨s1.heap.objs.size + 4, [s1.heap.objs.size + 4, s1.heap.objs.size + 2, s1.heap.objs.size + 3, s1.heap.objs.size, s1.heap.objs.size + 1], _, _, H1, rfl, I2, turn_zipM S (Nat.ne_of_lt la) (Nat.ne_of_lt (Nat.lt_succ_of_lt lb)), ⟨hz, hTI, ⟨_, _, hTO⟩, ?_, ?_⟩, fresh5, q⟩
  · cases k1
    · exact ⟨_, g1, rfl, rfl⟩
    · exact ⟨_, g1, rfl, rfl⟩
  · cases k2
    · exact ⟨_, g2, rfl, rfl⟩
    · exact ⟨_, g2, rfl, rfl⟩
end DS
set_option maxRecDepth 100000
set_option maxHeartbeats 4000000
namespace DS
open PySem PySem.Spec L2 PyProof.Rows
section
variable {prog : Program} {w : World} {A : Around} {E : Value → Shared → Prop} {s : Shared}
theorem nextK_item {k : Bool} {it a : Addr} {i : Nat} {its : Array Value} {x : Value} {Q : Value → Shared → Prop} (h1 : IterK s.heap k it a i) (h2 : HeldK s.heap k a its) (hx : its[i]? = some x) (q : ∀ h', IterK h' k it a (i + 1) → Heap.SameBut it s.heap h' → Q x { s with heap := h' }) : wpAny (model prog w) A (Builtin.SmallTypes.nextOf (.ref it)) Q E s := by
  cases k
  · exact wpAny_nextOf_list_item h1 h2 hx q
  · exact wpAny_nextOf_tuple_item h1 h2 hx q
theorem nextK_end {k : Bool} {it a : Addr} {i : Nat} {its : Array Value} {Q : Value → Shared → Prop} (hh : A.handled = none) (h1 : IterK s.heap k it a i) (h2 : HeldK s.heap k a its) (hx : its[i]? = none) (q : ∀ h' e, Heap.ExtBut it s.heap h' → (∃ o, h'.get? e = some o ∧ o.cls = .type "StopIteration") → E (.ref e) { s with heap := h' }) : wpAny (model prog w) A (Builtin.SmallTypes.nextOf (.ref it)) Q E s := by
  cases k
  · exact wpAny_nextOf_list_end hh h1 h2 hx q
  · exact wpAny_nextOf_tuple_end hh h1 h2 hx q
theorem iterK_ext {h h' : Heap} {k : Bool} {it a c : Addr} {i : Nat} (x : IterK h k it a i) (e : Heap.ExtBut c h h') (hc : it ≠ c) : IterK h' k it a i := x.at fun o q => e _ _ hc q
theorem heldK_ext {h h' : Heap} {k : Bool} {a c : Addr} {its : Array Value} (x : HeldK h k a its) (e : Heap.ExtBut c h h') (hc : a ≠ c) : HeldK h' k a its := x.at fun o q => e _ _ hc q
variable {z TI TO T i1 i2 l1 l2 : Addr} {b1 b2 f : Bool} {oT : Obj} {k1 k2 : Nat} {xs ys : Array Value} {x y : Value}
theorem zipK_item_held {Q : Option Value → Shared → Prop} (D : ZipApart z TI TO i1 i2 l1 l2) (hz : IsZipHeld s.heap z TI TO T f) (hT : s.heap.get? T = some oT) (hTI : IsPair s.heap TI (.ref i1) (.ref i2)) (h1 : IterK s.heap b1 i1 l1 k1) (h2 : IterK s.heap b2 i2 l2 k2) (hl1 : HeldK s.heap b1 l1 xs) (hl2 : HeldK s.heap b2 l2 ys) (hx : xs[k1]? = some x) (hy : ys[k2]? = some y)
    (hQ : ∀ h', IsZipHeld h' z TI TO T true → IterK h' b1 i1 l1 (k1 + 1) → IterK h' b2 i2 l2 (k2 + 1) → IsPair h' s.heap.objs.size x y → h'.objs.size = s.heap.objs.size + 1 → (∀ c o, c ≠ z → c ≠ i1 → c ≠ i2 → s.heap.get? c = some o → h'.get? c = some o) → Q (some (.ref s.heap.objs.size)) { s with heap := h' }) :
    wpAny (model prog w) A (pyNext (.ref z)) Q E s := by
  have hTy : s.TypeIs (.ref z) "zip" := ⟨_, hz, rfl⟩
  unfold pyNext
  refine wpAny_bind (wpAny_attempt (wpAny_callSpecial?_slot (name := Str.ofString "__next__") hTy F.slot_zip_next (wpAny_call_entry F.slot_zip_next hTy F.entry_zip_next ?_ (F.args_zip_next_1 _))))
  show wpAny _ _ (field (.ref z) 2 >>= _) _ _ _
  refine wpAny_bind (wpAny_field hz rfl (x := .bool false) rfl ?_)
  show wpAny _ _ (field (.ref z) 3 >>= _) _ _ _
  refine wpAny_bind (wpAny_field hz rfl (x := .ref TI) rfl (wpAny_bind (wpAny_seqItems hTI rfl ?_)))
  show wpAny _ _ (Builtin.SmallTypes.ownedTupleIsFree (.ref z) >>= _) _ _ _
  refine wpAny_bind (wpAny_tupleHeld_zip hz hT fun ha hza ea => ?_)
  simp only [Bool.false_eq_true, if_false]
  refine wpAny_bind ?_
  rw [← Array.forIn_toList]
  simp only [List.forIn_cons, List.forIn_nil]
  refine wpAny_bind (wpAny_bind (wpAny_holding ?_))
  show wpAny _ _ (Builtin.SmallTypes.nextOf (.ref i1) >>= _) _ _ _
  refine wpAny_bind (nextK_item (s := { s with heap := ha }) (iterK_ext h1 ea.extBut D.i1z) (heldK_ext hl1 ea.extBut D.l1z) hx fun hb hb1 eb => wpAny_pure (wpAny_pure (wpAny_bind (wpAny_bind (wpAny_holding ?_)))))
  show wpAny _ _ (Builtin.SmallTypes.nextOf (.ref i2) >>= _) _ _ _
  refine wpAny_bind (nextK_item (s := { s with heap := hb }) (iterK_ext (iterK_ext h2 ea.extBut D.i2z) eb.extBut D.i12.symm) (heldK_ext (heldK_ext hl2 ea.extBut D.l2z) eb.extBut D.l2i1) hy fun hc hc2 ec => wpAny_pure (wpAny_pure (wpAny_pure ?_)))
  show wpAny _ _ (newTuple [x, y] >>= _) _ _ _
  refine wpAny_bind (wpAny_newTuple (wpAny_pure ?_))
  have hsz : hc.objs.size = s.heap.objs.size := by rw [ec.1, eb.1, ea.1]
  have old : ∀ c o, c ≠ z → c ≠ i1 → c ≠ i2 → s.heap.get? c = some o → hc.get? c = some o := fun c o n0 n1 n2 e => ec.extBut _ _ n2 (eb.extBut _ _ n1 (ea.extBut _ _ n0 e))
  have up : ∀ c o, hc.get? c = some o → (hc.push { cls := .type "tuple", data := .seq #[x, y] }).get? c = some o := fun c o e => Heap.get?_push_of_some _ e
  refine ⟨_, rfl, wpAny_pure ?_⟩
  show Q (some (.ref hc.objs.size)) _
  have hp : IsPair (hc.push { cls := .type "tuple", data := .seq #[x, y] }) hc.objs.size x y := Heap.get?_push_size _ rfl
  have hs1 : (hc.push { cls := .type "tuple", data := .seq #[x, y] }).objs.size = hc.objs.size + 1 := Heap.size_push ..
  rw [hsz] at hp hs1 ⊢
  exact hQ _ (up _ _ (ec.extBut _ _ D.i2z.symm (eb.extBut _ _ D.i1z.symm hza))) ((iterK_ext hb1 ec.extBut D.i12).at fun o e => up _ o e) (hc2.at fun o e => up _ o e) hp hs1 fun c o n0 n1 n2 e => up _ _ (old c o n0 n1 n2 e)
theorem zipK_end_held {Q : Option Value → Shared → Prop} (hh : A.handled = none) (D : ZipApart z TI TO i1 i2 l1 l2) (hz : IsZipHeld s.heap z TI TO T f) (hT : s.heap.get? T = some oT) (hTI : IsPair s.heap TI (.ref i1) (.ref i2)) (h1 : IterK s.heap b1 i1 l1 k1) (h2 : IterK s.heap b2 i2 l2 k2) (hl1 : HeldK s.heap b1 l1 xs) (hl2 : HeldK s.heap b2 l2 ys) (hend : xs[k1]? = none ∨ ys[k2]? = none)
    (hQ : ∀ h', (∀ c o, c ≠ z → c ≠ i1 → c ≠ i2 → s.heap.get? c = some o → h'.get? c = some o) → Q none { s with heap := h' }) : wpAny (model prog w) A (pyNext (.ref z)) Q E s := by
  have hTy : s.TypeIs (.ref z) "zip" := ⟨_, hz, rfl⟩
  unfold pyNext
  have out : ∀ h' e, (∀ c o, c ≠ z → c ≠ i1 → c ≠ i2 → s.heap.get? c = some o → h'.get? c = some o) → (∃ o, h'.get? e = some o ∧ o.cls = .type "StopIteration") → wpAny (model prog w) A (isInstance (.ref e) (.type "StopIteration") >>= fun b => if b = true then pure none else throw (.ref e)) Q E { s with heap := h' } := fun h' e hk ⟨o, ho, hc⟩ =>
    wpAny_bind (wpAny_isInstance (T := "StopIteration") (b := true) ⟨o, ho, hc⟩ isSubtype_stop (wpAny_pure (hQ _ hk)))
  refine wpAny_bind (wpAny_attempt (wpAny_callSpecial?_slot (name := Str.ofString "__next__") hTy F.slot_zip_next (wpAny_call_entry F.slot_zip_next hTy F.entry_zip_next ?_ (F.args_zip_next_1 _))))
  show wpAny _ _ (field (.ref z) 2 >>= _) _ _ _
  refine wpAny_bind (wpAny_field hz rfl (x := .bool false) rfl ?_)
  show wpAny _ _ (field (.ref z) 3 >>= _) _ _ _
  refine wpAny_bind (wpAny_field hz rfl (x := .ref TI) rfl (wpAny_bind (wpAny_seqItems hTI rfl ?_)))
  show wpAny _ _ (Builtin.SmallTypes.ownedTupleIsFree (.ref z) >>= _) _ _ _
  refine wpAny_bind (wpAny_tupleHeld_zip hz hT fun ha hza ea => ?_)
  simp only [Bool.false_eq_true, if_false]
  refine wpAny_bind ?_
  rw [← Array.forIn_toList]
  simp only [List.forIn_cons, List.forIn_nil]
  refine wpAny_bind (wpAny_bind (wpAny_holding ?_))
  show wpAny _ _ (Builtin.SmallTypes.nextOf (.ref i1) >>= _) _ _ _
  cases hx : xs[k1]? with
  | none =>
    refine wpAny_bind (nextK_end (s := { s with heap := ha }) hh (iterK_ext h1 ea.extBut D.i1z) (heldK_ext hl1 ea.extBut D.l1z) hx fun hb e eb he => ?_)
    exact out hb e (fun c o n0 n1 _ q => eb _ _ n1 (ea.extBut _ _ n0 q)) he
  | some x =>
    have hy : ys[k2]? = none := hend.resolve_left (by rw [hx]; simp)
    refine wpAny_bind (nextK_item (s := { s with heap := ha }) (iterK_ext h1 ea.extBut D.i1z) (heldK_ext hl1 ea.extBut D.l1z) hx fun hb hb1 eb => wpAny_pure (wpAny_pure (wpAny_bind (wpAny_bind (wpAny_holding ?_)))))
    show wpAny _ _ (Builtin.SmallTypes.nextOf (.ref i2) >>= _) _ _ _
    refine wpAny_bind (nextK_end (s := { s with heap := hb }) hh (iterK_ext (iterK_ext h2 ea.extBut D.i2z) eb.extBut D.i12.symm) (heldK_ext (heldK_ext hl2 ea.extBut D.l2z) eb.extBut D.l2i1) hy fun hc e ec he => ?_)
    exact out hc e (fun c o n0 n1 n2 q => ec _ _ n2 (eb.extBut _ _ n1 (ea.extBut _ _ n0 q))) he
end
theorem sqK_keep {K : PySem.W.Frag} {H H' : Hp} {k : Bool} {a : Addr} {xs : List V} (h : SqK K H k a xs) (q : ∀ u, H a = some u → H' a = some u) : SqK K H' k a xs := by
  cases k
  · exact sq_keep h q
  · exact h.imp (fun z => z.imp (q _) fun ⟨o, z⟩ => ⟨o, q _ z⟩) id
theorem heldK_lt {h : Heap} {k : Bool} {a : Addr} {its : Array Value} (x : HeldK h k a its) : a < h.objs.size := by
  cases k
  · obtain ⟨_, e, _⟩ := x; exact Heap.lt_size e
  · obtain ⟨_, e, _⟩ := x; exact Heap.lt_size e
def ZTurnK (b1 b2 : Bool) (z TI TO i1 i2 a b : Addr) (i : Nat) (h : Heap) : Prop :=
  (IsZip h z TI TO .none ∧ (∃ x y, IsPair h TO x y) ∨ ∃ T f oT, IsZipHeld h z TI TO T f ∧ T ∉ [z, TI, TO, i1, i2] ∧ h.get? T = some oT) ∧ IsPair h TI (.ref i1) (.ref i2) ∧ IterK h b1 i1 a i ∧ IterK h b2 i2 b i
section
variable {X : Cx} {pins : List (Addr × Obj)} {σ : L2.St} {H : Hp} {s : Shared} {A : Around} {R : Result → Shared → Prop} {z TI TO i1 i2 a b L : Addr} {b1 b2 : Bool} {xs ys : List V} {res : Value}
theorem ZTurnK.keep {i : Nat} {h h' : Heap} (t : ZTurnK b1 b2 z TI TO i1 i2 a b i h) (k : ∀ c o, c ≠ L → h.get? c = some o → h'.get? c = some o) (hL : L ∉ [z, TI, TO, i1, i2]) (hT : ∀ o, h.get? L = some o → ∃ o', h'.get? L = some o') : ZTurnK b1 b2 z TI TO i1 i2 a b i h' := by
  simp only [List.mem_cons, List.not_mem_nil, or_false, not_or] at hL
  obtain ⟨n1, n2, n3, n4, n5⟩ := hL
  obtain ⟨t1, t2, t3, t4⟩ := t
  refine ⟨?_, k _ _ (Ne.symm n2) t2, t3.at fun o e => k _ o (Ne.symm n4) e, t4.at fun o e => k _ o (Ne.symm n5) e⟩
  rcases t1 with ⟨u1, x, y, u2⟩ | ⟨T, f, oT, u1, u2, u3⟩
  · exact .inl ⟨k _ _ (Ne.symm n1) u1, x, y, k _ _ (Ne.symm n3) u2⟩
  · by_cases q : T = L
    · subst q
      obtain ⟨o', u4⟩ := hT _ u3
      exact .inr ⟨T, f, o', k _ _ (Ne.symm n1) u1, u2, u4⟩
    · exact .inr ⟨T, f, oT, k _ _ (Ne.symm n1) u1, u2, k _ _ q u3⟩
theorem zip_loopK {B : Nat} (hB : ∀ c, c ∈ [z, TI, TO, i1, i2] → c < B) (D : ZipApart z TI TO i1 i2 a b) (Sp : ZipSep2 z TI TO i1 i2 [i1, a] [i2, b]) (n1 : a ≠ i1) (n2 : b ≠ i2) (hh : A.handled = none) (hL : L ∉ [z, TI, TO, i1, i2]) (hfit : (xs.zip ys).length ≤ 16777216)
    (fin : ∀ s' H' Ts, Inv X pins σ H' s' → (∀ c o, H c = some o → H' c = some o) → H' L = some (.lst (Ts.map V.ref)) → PairsAt H' Ts (xs.zip ys) → (∀ T, T ∈ Ts → H T = none ∧ T ≠ L) → R (.ok (.ret res)) s') :
    ∀ (k i : Nat) (s : Shared) (Hc : Hp) (Ts : List Addr), (xs.zip ys).length - i = k → i ≤ (xs.zip ys).length → B ≤ s.heap.objs.size → Inv X pins σ Hc s → (∀ c, c ∈ [z, TI, TO, i1, i2] → FpOk X pins Hc c) → ZTurnK b1 b2 z TI TO i1 i2 a b i s.heap → (∀ c o, H c = some o → Hc c = some o) →
      (∀ c, Hc c = none → H c = none) → SqK X.K Hc b1 a xs → SqK X.K Hc b2 b ys → Hc L = some (.lst (Ts.map V.ref)) → H L = none → PairsAt Hc Ts ((xs.zip ys).take i) → (∀ T, T ∈ Ts → H T = none ∧ T ≠ L) → a ≠ L → b ≠ L →
      codeAny (model X.prog X.w) A (.builtin "list.extend.loop" ⟨[.ref L, .ref z, res], []⟩) R s := by
  intro k
  induction k with
  | zero =>
    intro i s Hc Ts hk hi hBs I fp st hH hN qa qb hl hLn hp hT na nb
    have hin : i = (xs.zip ys).length := by omega
    subst hin
    rw [List.take_length] at hp
    have endd : (xs.length ≤ (xs.zip ys).length ∨ ys.length ≤ (xs.zip ys).length) := by rw [List.length_zip]; omega
    obtain ⟨its, rv, p1⟩ := sqK_items I qa
    obtain ⟨its2, rv2, p2⟩ := sqK_items I qb
    have hend : its.toArray[(xs.zip ys).length]? = none ∨ its2.toArray[(xs.zip ys).length]? = none := by
      rcases endd with e | e
      · exact .inl (by rw [List.getElem?_toArray]; exact List.getElem?_eq_none (by rw [← rv.length]; exact e))
      · exact .inr (by rw [List.getElem?_toArray]; exact List.getElem?_eq_none (by rw [← rv2.length]; exact e))
    refine codeAny_builtin F.entry_extend_loop ?_
    rw [Around.under_plainId F.plain_extend_loop _]
    show wpAny _ A.in1 (pyNext (.ref z) >>= _) _ _ s
    obtain ⟨t1, t2, t3, t4⟩ := st
    have le1 : (xs.zip ys).length ≤ its.toArray.size := by rw [List.size_toArray, ← rv.length, List.length_zip]; exact Nat.min_le_left _ _
    have le2 : (xs.zip ys).length ≤ its2.toArray.size := by rw [List.size_toArray, ← rv2.length, List.length_zip]; exact Nat.min_le_right _ _
    have ed12 : (xs.zip ys).length = its.toArray.size ∨ (xs.zip ys).length = its2.toArray.size := by rw [List.size_toArray, List.size_toArray, ← rv.length, ← rv2.length, List.length_zip]; omega
    have out : ∀ h', (∀ c o, c ∉ [z, TI, TO, i1, i2] → s.heap.get? c = some o → h'.get? c = some o) → ∀ tk, R (.ok (.ret res)) { s with heap := h', toks := tk } := fun h' kp tk =>
      fin _ Hc Ts (I.turnedL (t' := tk) (ch := [z, TI, TO, i1, i2]) (fun c o hb q => kp c o hb q) fp) hH hl hp hT
    rcases t1 with ⟨u1, x0, y0, u2⟩ | ⟨T, f, oT, u1, _, u2⟩
    · refine wpAny_bind (wpAny_pyNext_zipD2_end (A := A.in1) Sp (drawsK (A := A.in1.in1) hh b1 i1 a n1 its.toArray) (drawsK (A := A.in1.in1) hh b2 i2 b n2 its2.toArray) u1 t2 u2 ⟨t3, p1⟩ ⟨t4, p2⟩ le1 le2 ed12 fun h' tk kp => ?_)
      exact wpAny_pure (out h' (fun c o hc q => by
        simp only [List.mem_cons, List.not_mem_nil, or_false, not_or] at hc
        exact kp c o hc.1 hc.2.2.1 hc.2.2.2.1 hc.2.2.2.2 q) tk)
    · refine wpAny_bind (zipK_end_held hh D u1 u2 t2 t3 t4 p1 p2 hend fun h' kp => ?_)
      exact wpAny_pure (out h' (fun c o hc q => by
        simp only [List.mem_cons, List.not_mem_nil, or_false, not_or] at hc
        exact kp c o hc.1 hc.2.2.2.1 hc.2.2.2.2 q) s.toks)
  | succ k ih =>
    intro i s Hc Ts hk hi hBs I fp st hH hN qa qb hl hLn hp hT na nb
    have hlt : i < (xs.zip ys).length := by omega
    have hlx : i < xs.length := by rw [List.length_zip] at hlt; omega
    have hly : i < ys.length := by rw [List.length_zip] at hlt; omega
    obtain ⟨its, rv, p1⟩ := sqK_items I qa
    obtain ⟨its2, rv2, p2⟩ := sqK_items I qb
    obtain ⟨u, hu, ru⟩ := rv.get (List.getElem?_eq_getElem hlx)
    obtain ⟨u2, hu2, ru2⟩ := rv2.get (List.getElem?_eq_getElem hly)
    refine codeAny_builtin F.entry_extend_loop ?_
    rw [Around.under_plainId F.plain_extend_loop _]
    show wpAny _ A.in1 (pyNext (.ref z) >>= _) _ _ s
    obtain ⟨t1, t2, t3, t4⟩ := st
    have hL2 := hL
    simp only [List.mem_cons, List.not_mem_nil, or_false, not_or] at hL2
    obtain ⟨m1, m2, m3, m4, m5⟩ := hL2
    obtain ⟨hzL, itsL, nL, rL, eL⟩ := I.hok L _ hl
    have lenT : Ts.length = i := by rw [pairsAt_len hp, List.length_take]; omega
    have N0 : Hc s.heap.objs.size = none := I.hok.fresh (Nat.le_refl _)
    have notFp : s.heap.objs.size ∉ [z, TI, TO, i1, i2] := fun hm => absurd (Nat.lt_of_lt_of_le (hB _ hm) hBs) (Nat.lt_irrefl _)
    have NL : s.heap.objs.size ≠ L := Nat.ne_of_gt (Heap.lt_size eL)
    -- behind the draw: the new pair stands, the zip is at turn i + 1
    have step : ∀ (h' : Heap) (tk : Nat), IsPair h' s.heap.objs.size u u2 → ZTurnK b1 b2 z TI TO i1 i2 a b (i + 1) h' → (∀ c o, c ∉ [z, TI, TO, i1, i2] → s.heap.get? c = some o → h'.get? c = some o) →
        wpAny (model X.prog X.w) A.in1 (updateSeq L (·.push (.ref s.heap.objs.size)) >>= fun _ => again (.builtin "list.extend.loop" ⟨[.ref L, .ref z, res], []⟩)) (fun fin s' => match fin with | .done f => R (.ok f) s' | .again c' => c'.quiet = true ∧ codeAny (model X.prog X.w) A c' R s') (fun e s' => R (.error e) s') { s with heap := h', toks := tk } := fun h' tk hT2 zt kp => by
      have hsz : s.heap.objs.size < h'.objs.size := Heap.lt_size hT2
      have I1 : Inv X pins σ (upd Hc s.heap.objs.size (.tup [xs[i], ys[i]])) { s with heap := h', toks := tk } :=
        I.turnedNew (t' := tk) (ch := [z, TI, TO, i1, i2]) (fun c o hb q => kp c o hb q) fp (Nat.le_refl _) ⟨by show 2 ≤ sizeLine; decide, [u, u2], .cons ru (.cons ru2 .nil), ⟨_, hT2, rfl, _, rfl⟩⟩
      have eL2 : h'.get? L = some { cls := .type "list", data := .seq itsL.toArray nL } := kp L _ (by simp [m1, m2, m3, m4, m5]) eL
      have lenL : itsL.length = i := by rw [← rL.length, List.length_map, lenT]
      refine wpAny_bind (wpAny_updateSeq (s := { s with heap := h', toks := tk }) eL2 rfl (wpAny_pure ⟨plainId_quiet F.plain_extend_loop _, ?_⟩) (by rw [List.size_toArray, sizeLine_eq]; omega) (by show (itsL.toArray.push _).size ≤ sizeLine + 1; rw [Array.size_push, List.size_toArray, sizeLine_eq]; omega))
      have hL1 : upd Hc s.heap.objs.size (.tup [xs[i], ys[i]]) L = some (.lst (Ts.map V.ref)) := by rw [upd_ne NL.symm]; exact hl
      have self := Heap.get?_update_self (Obj.mapSeq (·.push (.ref s.heap.objs.size))) eL2 rfl
      have I2 : Inv X pins σ (upd (upd Hc s.heap.objs.size (.tup [xs[i], ys[i]])) L (.lst ((Ts ++ [s.heap.objs.size]).map V.ref))) { s with heap := h'.update L (Obj.mapSeq (·.push (.ref s.heap.objs.size))), toks := tk } := by
        refine I1.write (t' := tk) (by rw [hL1]; trivial) (.inl rfl) (fun c o hc q => (Heap.get?_update_other _ _ (Ne.symm hc)).trans q) ⟨_, self⟩ ⟨by rw [List.length_map, List.length_append, sizeLine_eq, lenT]; show i + 1 ≤ _; omega, itsL ++ [.ref s.heap.objs.size], nL + 1, ?_, ?_⟩
        · rw [List.map_append]
          exact rL.append (.cons rfl .nil)
        · rw [self]
          simp [Obj.mapSeq]
      have oth : ∀ c, c ≠ s.heap.objs.size → c ≠ L → upd (upd Hc s.heap.objs.size (.tup [xs[i], ys[i]])) L (.lst ((Ts ++ [s.heap.objs.size]).map V.ref)) c = Hc c := fun c h1 h2 => by rw [upd_ne h2, upd_ne h1]
      have NH : H s.heap.objs.size = none := hN _ N0
      refine ih (i + 1) _ _ (Ts ++ [s.heap.objs.size]) (by omega) hlt ?_ I2 (fun c hc => ⟨?_, (fp c hc).2⟩) ?_ (fun c o q => ?_) (fun c q => ?_) ?_ ?_ upd_same hLn ?_ (fun T hm => ?_) na nb
      · show B ≤ (h'.update L _).objs.size
        rw [Heap.size_update]
        omega
      · rw [oth c (fun e => notFp (e ▸ hc)) (fun e => hL (e ▸ hc))]
        exact (fp c hc).1
      · refine zt.keep (L := L) (fun c o hc q => (Heap.get?_update_other _ _ (Ne.symm hc)).trans q) hL fun o q => ⟨_, self⟩
      · rw [oth c (fun e => by rw [e, NH] at q; cases q) (fun e => by rw [e, hLn] at q; cases q)]
        exact hH c o q
      · by_cases h1 : c = s.heap.objs.size
        · rw [h1]; exact NH
        · by_cases h2 : c = L
          · rw [h2]; exact hLn
          · rw [oth c h1 h2] at q
            exact hN c q
      · exact sqK_keep qa fun u q => by rw [oth a (fun e => by rw [e, N0] at q; cases q) na]; exact q
      · exact sqK_keep qb fun u q => by rw [oth b (fun e => by rw [e, N0] at q; cases q) nb]; exact q
      · rw [List.take_succ, List.getElem?_eq_getElem hlt]
        refine PairsAt.snoc ?_ (hp.mono fun T o hm q => ?_)
        · rw [upd_ne NL, upd_same]
          simp
        · rw [oth T (fun e => by rw [e, N0] at q; cases q) (hT T hm).2]
          exact q
      · rcases List.mem_append.mp hm with hm | hm
        · exact hT T hm
        · rw [List.mem_singleton.mp hm]
          exact ⟨NH, NL⟩
    rcases t1 with ⟨v1, x0, y0, v2⟩ | ⟨T, f, oT, v1, v0, v2⟩
    · have lt1 : i < its.toArray.size := by rw [List.size_toArray, ← rv.length]; exact hlx
      have lt2 : i < its2.toArray.size := by rw [List.size_toArray, ← rv2.length]; exact hly
      refine wpAny_bind (wpAny_pyNext_zipD2_item (A := A.in1) Sp (drawsK (A := A.in1.in1) hh b1 i1 a n1 its.toArray) (drawsK (A := A.in1.in1) hh b2 i2 b n2 its2.toArray) v1 t2 v2 ⟨t3, p1⟩ ⟨t4, p2⟩ lt1 lt2 fun y1 y2 h' tk y1e y2e w1 w2 w3 w4 w5 w6 w7 => ?_)
      have e1 : y1 = u := by
        have hu' : its.toArray[i]? = some u := by simpa using hu
        rw [hu'] at y1e
        exact (Option.some.inj y1e).symm
      have e2 : y2 = u2 := by
        have hu' : its2.toArray[i]? = some u2 := by simpa using hu2
        rw [hu'] at y2e
        exact (Option.some.inj y2e).symm
      subst e1 e2
      replace w3 := w3.1
      replace w4 := w4.1
      refine step h' tk w5 ⟨.inr ⟨s.heap.objs.size, false, _, w1, notFp, w5⟩, ?_, w3, w4⟩ fun c o hc q => ?_
      · exact w7 TI _ D.TIz D.TITO D.TIi1 D.TIi2 t2
      · simp only [List.mem_cons, List.not_mem_nil, or_false, not_or] at hc
        exact w7 c o hc.1 hc.2.2.1 hc.2.2.2.1 hc.2.2.2.2 q
    · refine wpAny_bind (zipK_item_held D v1 v2 t2 t3 t4 p1 p2 (x := u) (y := u2) (by simpa using hu) (by simpa using hu2) fun h' w1 w3 w4 w5 w6 w7 => ?_)
      simp only [List.mem_cons, List.not_mem_nil, or_false, not_or] at v0
      refine step h' s.toks w5 ⟨.inr ⟨T, true, oT, w1, by simp [v0], w7 T _ v0.1 v0.2.2.2.1 v0.2.2.2.2 v2⟩, ?_, w3, w4⟩ fun c o hc q => ?_
      · exact w7 TI _ D.TIz D.TIi1 D.TIi2 t2
      · simp only [List.mem_cons, List.not_mem_nil, or_false, not_or] at hc
        exact w7 c o hc.1 hc.2.2.2.1 hc.2.2.2.2 q
theorem list_of_zipK {Q : VK} (hc : X.calm = true) (I : Inv X pins σ H s) (qa : SqK X.K H b1 a xs) (qb : SqK X.K H b2 b ys) (hfit : (xs.zip ys).length ≤ 16777216)
    (q : ∀ H' L Ts, (∀ c o, H c = some o → H' c = some o) → H L = none → H' L = some (.lst (Ts.map V.ref)) → PairsAt H' Ts (xs.zip ys) → (∀ T, T ∈ Ts → H T = none ∧ T ≠ L) → Q (.ref L) H') :
    wpAny (model X.prog X.w) X.A (call (.type "zip") [.ref a, .ref b]) (fun v s1 => wpAny (model X.prog X.w) X.A (call (.type "list") [v]) (EP X pins σ Q) X.xe s1) X.xe s := by
  obtain ⟨its, rv, p1⟩ := sqK_items I qa
  obtain ⟨its2, rv2, p2⟩ := sqK_items I qb
  have la : a < s.heap.objs.size := heldK_lt p1
  have lb : b < s.heap.objs.size := heldK_lt p2
  have D := PySem.W.ktu_apart s.heap.objs.size a b la lb
  have Sp : ZipSep2 (s.heap.objs.size + 4) (s.heap.objs.size + 2) (s.heap.objs.size + 3) s.heap.objs.size (s.heap.objs.size + 1) [s.heap.objs.size, a] [s.heap.objs.size + 1, b] :=
    zip_sep2 (fp1 := [a]) (fp2 := [b]) (fun c hc => by rw [List.mem_singleton.mp hc]; exact la) (fun c hc => by rw [List.mem_singleton.mp hc]; exact lb)
  have n1 : a ≠ s.heap.objs.size := Nat.ne_of_lt la
  have n2 : b ≠ s.heap.objs.size + 1 := Nat.ne_of_lt (Nat.lt_succ_of_lt lb)
  refine zip_begins2 (beginsK b1 a its.toArray) (beginsK b2 b its2.toArray) p1 p2 fun h1 hz hTI hTO g1 g2 hsz hk => ?_
  have j1 : IterK h1 b1 s.heap.objs.size a 0 := by
    cases b1
    · exact ⟨_, g1, rfl, rfl⟩
    · exact ⟨_, g1, rfl, rfl⟩
  have j2 : IterK h1 b2 (s.heap.objs.size + 1) b 0 := by
    cases b2
    · exact ⟨_, g2, rfl, rfl⟩
    · exact ⟨_, g2, rfl, rfl⟩
  clear g1 g2
  generalize hzz : s.heap.objs.size + 4 = z at *
  generalize hti : s.heap.objs.size + 2 = TI at *
  generalize hto : s.heap.objs.size + 3 = TO at *
  generalize hi2 : s.heap.objs.size + 1 = i2 at *
  generalize hi1 : s.heap.objs.size = i1 at *
  have I1 : Inv X pins σ H { s with heap := h1 } := I.kept (t' := s.toks) hk
  refine callType_codes (Q₁ := fun obj s₁ => obj = .ref h1.objs.size ∧ s₁ = { s with heap := h1.push { cls := .type "list", data := .seq #[] } }) F.called_list (F.typeCall_list_1 _) F.entry_list_init (code_list_new _ ⟨rfl, rfl⟩) fun obj s₁ e₁ => ?_
  obtain ⟨rfl, rfl⟩ := e₁
  generalize hLL : h1.objs.size = L at *
  have g0 : (h1.push { cls := .type "list", data := .seq #[] }).get? L = some { cls := .type "list", data := .seq #[] } := by rw [← hLL]; exact Heap.get?_push_size _ rfl
  have nL : ∀ c, c ∈ [z, TI, TO, i1, i2] → c < L := fun c hm => by
    simp only [List.mem_cons, List.not_mem_nil, or_false] at hm
    have e5 : L = i1 + 5 := hsz
    rw [e5]
    rcases hm with h | h | h | h | h
    · rw [h, ← hzz]; exact Nat.lt_succ_self _
    · rw [h, ← hti]; exact Nat.add_lt_add_left (by decide) _
    · rw [h, ← hto]; exact Nat.add_lt_add_left (by decide) _
    · rw [h]; exact Nat.lt_add_of_pos_right (by decide)
    · rw [h, ← hi2]; exact Nat.add_lt_add_left (by decide) _
  have hLm : L ∉ [z, TI, TO, i1, i2] := fun hm => absurd (nL _ hm) (Nat.lt_irrefl _)
  refine ⟨⟨_, g0, rfl⟩, F.args_list_init_2 _ _, ?_⟩
  show wpAny _ X.A.in1.in1 (do let old ← Builtin.List.listItems (.ref L); Builtin.List.listUpdate (.ref L) (fun _ => #[]); letGo old.toList.reverse; Builtin.List.listExtendWith (.ref L) (.ref z) .none) _ _ _
  refine wpAny_bind ?_
  unfold Builtin.List.listItems
  refine wpAny_bind (wpAny_seqItems g0 rfl (wpAny_pure ?_))
  show wpAny _ X.A.in1.in1 (updateSeq L (fun _ => #[]) >>= fun _ => letGo (#[] : Array Value).toList.reverse >>= fun _ => Builtin.List.listExtendWith (.ref L) (.ref z) .none) _ _ _
  refine wpAny_bind (wpAny_updateSeq g0 rfl ?_)
  have g1 := Heap.get?_update_self (Obj.mapSeq (fun _ => (#[] : Array Value))) g0 rfl
  refine wpAny_bind (wpAny_letGo ?_)
  unfold Builtin.List.listExtendWith
  have old1 : ∀ c o, c ≠ L → h1.get? c = some o → ((h1.push { cls := .type "list", data := .seq #[] }).update L (Obj.mapSeq (fun _ => (#[] : Array Value)))).get? c = some o := fun c o hc q => (Heap.get?_update_other _ _ (Ne.symm hc)).trans (Heap.get?_push_of_some _ q)
  generalize hh2 : (h1.push { cls := .type "list", data := .seq #[] }).update L (Obj.mapSeq (fun _ => (#[] : Array Value))) = h2 at g1 old1 ⊢
  have zne : z ≠ L := fun e => hLm (by rw [← e]; exact List.mem_cons_self)
  have hz2 : IsZip h2 z TI TO .none := old1 _ _ zne hz
  have tz : ({ s with heap := h2 } : Shared).TypeIs (.ref z) "zip" := ⟨_, hz2, rfl⟩
  refine wpAny_bind (wpAny_typeOf tz ?_)
  have fb1 : Builtin.List.listSameRef (.ref L) (.ref z) = false := by simp [Builtin.List.listSameRef, zne.symm]
  have fb2 : (Value.type "zip" == Value.type "list") = false := by decide
  have fb3 : (Value.type "zip" == Value.type "tuple") = false := by decide
  simp only [fb1, fb2, fb3, Bool.or_false, Bool.false_eq_true, if_false]
  refine wpAny_bind (wpAny_pyIter_zip hz2 ?_)
  refine wpAny_bind (wpAny_holding ?_)
  unfold Builtin.List.listLengthHint
  refine wpAny_bind (wpAny_specialOf tz zipNoLen ?_)
  show wpAny _ X.A.in1.in1 (specialOf (Value.ref z) (Str.ofString "__length_hint__") >>= _) _ _ _
  refine wpAny_bind (wpAny_specialOf tz zipNoHint (wpAny_pure ?_))
  show wpAny _ X.A.in1.in1 (rule "list.extend.makes-room" >>= fun _ => Builtin.List.listTouch (.ref L) >>= fun _ => again (.builtin "list.extend.loop" ⟨[.ref L, .ref z, .none], []⟩)) _ _ _
  refine wpAny_bind (wpAny_rule (wpAny_bind ?_))
  show wpAny _ X.A.in1.in1 (updateSeq L (·.push .none) >>= fun _ => updateSeq L (·.pop)) _ _ _
  refine wpAny_bind (wpAny_updateSeq (s := { s with heap := h2 }) g1 rfl ?_ (by simp) (by simp [sizeLine_eq]))
  have g2 := Heap.get?_update_self (Obj.mapSeq (·.push Value.none)) g1 rfl
  refine wpAny_updateSeq g2 rfl ?_ (by simp [sizeLine_eq]) (by simp)
  have g3 := Heap.get?_update_self (Obj.mapSeq (·.pop)) g2 rfl
  have old3 : ∀ c o, c ≠ L → h1.get? c = some o → ((h2.update L (Obj.mapSeq (·.push Value.none))).update L (Obj.mapSeq (·.pop))).get? c = some o := fun c o hc q => (Heap.get?_update_other _ _ (Ne.symm hc)).trans ((Heap.get?_update_other _ _ (Ne.symm hc)).trans (old1 c o hc q))
  have sz3 : ((h2.update L (Obj.mapSeq (·.push Value.none))).update L (Obj.mapSeq (·.pop))).objs.size = L + 1 := by rw [Heap.size_update, Heap.size_update, ← hh2, Heap.size_update, Heap.size_push, hLL]
  generalize (h2.update L (Obj.mapSeq (·.push Value.none))).update L (Obj.mapSeq (·.pop)) = h3 at g3 old3 sz3 ⊢
  have keep3 : ∀ c o, h1.get? c = some o → h3.get? c = some o := fun c o e => old3 c o (fun z => absurd (Heap.lt_size e) (by rw [hLL, z]; exact Nat.lt_irrefl _)) e
  have HL : H L = none := I1.hok.fresh (by show h1.objs.size ≤ L; rw [hLL]; exact Nat.le_refl _)
  have I3 : Inv X pins σ (upd H L (.lst [])) { s with heap := h3 } := I1.laid (t' := s.toks) keep3 (by show h1.objs.size ≤ L; rw [hLL]; exact Nat.le_refl _) ⟨Nat.zero_le _, [], _, .nil, g3⟩
  have neL : ∀ c, H c ≠ none → c ≠ L := fun c h e => h (by rw [e]; exact HL)
  have aL : a ≠ L := Nat.ne_of_lt (by rw [show L = i1 + 5 from hsz]; exact Nat.lt_add_right _ la)
  have bL : b ≠ L := Nat.ne_of_lt (by rw [show L = i1 + 5 from hsz]; exact Nat.lt_add_right _ lb)
  refine wpAny_pure ⟨plainId_quiet F.plain_extend_loop _, zip_loopK (b1 := b1) (b2 := b2) (X := X) (pins := pins) (σ := σ) (H := H) (A := X.A.in1) (xs := xs) (ys := ys) nL D Sp n1 n2 (I.ok.hd hc) hLm hfit (fun s' H' Ts J1 J2 J3 J4 J5 => ⟨rfl, .ref L, H', J1, rfl, q H' L Ts J2 HL J3 J4 J5⟩) _ 0 _ _ [] rfl (Nat.zero_le _) (by show L ≤ h3.objs.size; rw [sz3]; exact Nat.le_succ _) I3 (fun c hm => ?_) ⟨.inl ⟨keep3 _ _ hz, _, _, keep3 _ _ hTO⟩, keep3 _ _ hTI, j1.at fun o e => keep3 _ o e, j2.at fun o e => keep3 _ o e⟩
    (fun c o e => (upd_ne (neL c (by rw [e]; simp))).trans e) (fun c e => ?_) (sqK_keep qa fun u e => (upd_ne (neL a (by rw [e]; simp))).trans e) (sqK_keep qb fun u e => (upd_ne (neL b (by rw [e]; simp))).trans e) upd_same HL .nil (fun T hm => by cases hm) aL bL⟩
  · have hle : s.heap.objs.size ≤ c := by
      rw [hi1]
      simp only [List.mem_cons, List.not_mem_nil, or_false] at hm
      rcases hm with h | h | h | h | h
      all_goals (rw [h]; first | (rw [← hzz]; exact Nat.le_add_right _ _) | (rw [← hti]; exact Nat.le_add_right _ _) | (rw [← hto]; exact Nat.le_add_right _ _) | (rw [← hi2]; exact Nat.le_add_right _ _) | exact Nat.le_refl _)
    refine I.fpOk hle ?_
    rw [upd_ne (fun e : c = L => hLm (e ▸ hm))]
    exact I.hok.fresh hle
  · by_cases h : c = L
    · rw [h]; exact HL
    · rw [upd_ne h] at e; exact e
end
end DS
set_option maxRecDepth 100000
set_option maxHeartbeats 4000000
namespace PySem
namespace UnfX
open PySem.W PySem.Calls PyProof.Rows PySem.HandSPX
def iA (p1 : Pos) : Arguments := { posonlyargs := [], args := [{ arg := "self", annotation := none, pos := p1 }], vararg := none, kwonlyargs := [], kw_defaults := [], kwarg := none, defaults := [] }
def iB (txt : Str) (q0 q1 q2 q3 q4 : Pos) : List Stmt := [.Expr (.Call (.Attribute (.Call (.Name "super" q0) [] [] q1) "__init__" q2) [.Constant (.str txt) 0 q3] [] q4) q4]
def iS : Scope := { kind := .function, names := [("self", .local), ("__class__", .free), ("super", .globalImplicit)], isGenerator := false, isCoroutine := false, more := [] }
structure UT (prog : Program) (K : Frag) (mg : Str → Option Value) (x : Str) (C : Addr) : Prop where
  gC : mg x = some (.ref C)
  sup : mg "super" = none
  opq : nsIn K cStatics "thirdparty.any" = some none
  kC : keepIn K (.ref C) = true
  exC : subIn K (.ref C) (.type "BaseException") = some true
  veC : subIn K (.ref C) (.type "ValueError") = some true
  tyC : typeIn K (.ref C) = some (.type "type")
  te : exmOne K (.ref C) (.ref C) = some true
  slf : mroIn K C (.ref C) = some true
  top : (prog.main.scope.names.lookup ("super" : Str)).isSome = false
  cls : ∃ (D : Addr) (nm q : Str) (N : Addr) (bs : List Value) (sn : List Str) (sub : List Value) (ab : Bool) (col : Option Bool) (dd : Option Addr) (k0 k1 k2 k3 k5 : Option Value), K.lookup C = some (excClassObj nm q C N bs (.ref D :: veTail) true sn sub ab col dd k0 k1 k2 k3 k5 "ValueError.__new__") ∧
    alongIn K "__init__" (.ref D :: veTail) = some (some (.builtin "ValueError.__init__"))
  ini : ∃ (fI : Addr), findIn K (.ref C) "__init__" = some (some (.ref fI)) ∧ typeIn K (.ref fI) = some (.type "function") ∧
    ∃ (oc : Value) (od : Option Addr) (doc pm : Value) (an : Option Addr) (cda cc : Addr) (ct : Value) (osl : Array (Option Value)) (qual txt : Str) (p1 q0 q1 q2 q3 q4 : Pos), (q2.endLine == q4.line) = true ∧
      K.lookup fI = some ⟨oc, od, .func (ksFn "__init__" qual (iA p1) (iB txt q0 q1 q2 q3 q4) iS .none .none doc pm an (.ref cda) ct cc), osl⟩ ∧ codeIn K (.ref cda) qual = true ∧
      (∃ (cl : Value) (cld : Option Addr) (csl : Array (Option Value)), K.lookup cc = some ⟨cl, cld, .cell (some (.ref C)), csl⟩) ∧
      ∃ (ccl : Value) (cdd : Option Addr) (vs : Array Value) (ccs : Array (Option Value)) (file : Str) (tf : Tok), K.lookup cda = some ⟨ccl, cdd, .fields vs, ccs⟩ ∧ vs[2]? = some (.str file tf) ∧ ((prog.main.file : Str) == file) = true
structure IEnd (h h' : Heap) (x C t1 : Addr) : Prop where
  keep : ∀ b o, b ≠ x → h.get? b = some o → h'.get? b = some o
  obj : h'.get? x = some (excO C t1)
theorem one_size (v : Value) : [v].length ≤ sizeLine := by
  rw [sizeLine_eq]
  exact (by decide : 1 ≤ 16777216)
theorem no_size : ([] : List Value).length ≤ sizeLine := by
  rw [sizeLine_eq]
  exact (by decide : 0 ≤ 16777216)
theorem he_of {txt : Str} {q0 q1 q2 q3 q4 : Pos} {env : Env} (h : (q2.endLine == q4.line) = true) :
    eval (.Call (.Attribute (.Call (.Name "super" q0) [] [] q1) "__init__" q2) [.Constant (.str txt) 0 q3] [] q4) env = (do
      let ov ← attributeBase (.Call (.Name "super" q0) [] [] q1) "__init__" env (eval (.Call (.Name "super" q0) [] [] q1) env)
      standAt q2.atName
      let (f, first) ← holding [ov] (getMethod ov "__init__" (do return (← importBound (.Call (.Name "super" q0) [] [] q1) env).getD true))
      callWith q4 f first (backTo q4 (starEach [.Constant (.str txt) 0 q3] env)) []) := by
  have e : methodCallForm ([Expr.Constant (.str txt) 0 q3].length + ([] : List Keyword).length) (backTo q4 (starEach [Expr.Constant (.str txt) 0 q3] env)) (backToKw q4 (keywordEach [] env)) = true := by rfl
  rw [arm_eval_Call]
  unfold methodCall
  rw [e]
  have p : methodCallPos true (.Call (.Name "super" q0) [] [] q1) env q2 q4 = pure q4 := by
    unfold methodCallPos
    rw [h]
    rfl
  rw [p]
  simp only [calleeOf, if_true, pure_bind]
  rfl
section
variable {prog : Program} {w : World} {A : Around} {E : Value → Shared → Prop} {R : Result → Shared → Prop} {K : Frag} {mg : Str → Option Value} {x : Str} {C : Addr}
theorem bw_call {hh : Heap} {g : Array GenState} {d : Drawn} {tk : Nat} {os : OsState} {u e t0 : Addr} {rest : List Value} {Q : Value → Shared → Prop}
    {nm q : Str} {N : Addr} {bs bm : List Value} {hdct : Bool} {sn : List Str} {sub : List Value} {ab : Bool} {col : Option Bool} {dd : Option Addr} {k0 k1 k2 k3 k5 : Option Value}
    (hC : hh.get? C = some (excClassObj nm q C N bs bm hdct sn sub ab col dd k0 k1 k2 k3 k5 "ValueError.__new__")) (hu : hh.get? u = some (kxs_mw "ValueError.__init__" e)) (he : hh.get? e = some (excO C t0)) (hz : rest.length ≤ sizeLine)
    (hq : ∀ h' t1, IEnd hh h' e C t1 → Q .none ⟨h', g, d, tk, os⟩) :
    wpAny (model prog w) A (call (.ref u) rest) Q E ⟨hh, g, d, tk, os⟩ := by
  refine wpAny_call (codeAny_of_tree ?_)
  show wpAny _ A.in1 (callAny (.ref u) ⟨rest, []⟩) _ _ _
  simp only [callAny]
  refine wpAny_bind (wpAny_load hu ?_)
  simp only [kxs_mw, show (Value.type "method-wrapper" == Value.type "method" || Value.type "method-wrapper" == Value.type "builtin_function_or_method" || Value.type "method-wrapper" == Value.type "method-wrapper") = true by decide, if_true]
  refine KFB.if_so (by decide) ?_
  refine wpAny_bind (check_bound_init F.excBase_ValueError.toExcCallFacts hC he rfl ?_)
  refine wpAny_bind (wpAny_pure (wpAny_pure ?_))
  refine ⟨plainId_quiet F.excBase_ValueError.init.plain _, codeAny_builtin F.excBase_ValueError.initEntry ?_⟩
  exact exc_init_tree (cls := .ref C) (t0 := t0) (dv := none) (c2 := .none) (c3 := .none) (b4 := .bool false) he hz fun h' k e' t' => hq h' _ ⟨k, e'⟩
theorem u_init (T : UT prog K mg x C) {fI : Addr} (hf : findIn K (.ref C) "__init__" = some (some (.ref fI))) {hp : Heap} {g : Array GenState} {dr : Drawn} {tk : Nat} {os : OsState} {e t0 : Addr} (X : K.In hp) (hlim : hp.NoLimit) (hg : hp.Ns mainGlobals mg) (hbl : ∃ mb, hp.Ns builtinsNs mb ∧ ∀ y : Str, y ≠ "__name__" → mb y = bootBuiltins y)
    (he : hp.get? e = some (excO C t0)) (hne : K.lookup e = none) (hroom : A.depth < recursionLimit)
    (hq : ∀ h' tk' t1, IEnd hp h' e C t1 → R (.ok (.ret .none)) ⟨h', g, dr, tk', os⟩) :
    codeAny (model prog w) A (.call (.ref fI) ⟨[.ref e], []⟩) R ⟨hp, g, dr, tk, os⟩ := by
  obtain ⟨fI', hf', ht, oc, od, doc, pm, an, cda, cc, ct, osl, qual, txt, p1, q0, q1, q2, q3, q4, hpos, ho, hcd, ⟨cl, cld, csl, hcc⟩, ccl, cdd, vs, ccs, file, tf, hcda, hvs, hfile⟩ := T.ini
  rw [hf] at hf'
  cases hf'
  obtain ⟨D, nm, q, N, bs, sn, sub, ab, col, dd, k0, k1, k2, k3, k5, hC, hD⟩ := T.cls
  have hcl : clsIn K C = some { name := nm, bases := bs, mro := .ref C :: .ref D :: veTail, ns := N, qualname := q, hasDict := true, slotNames := sn, subclasses := sub, abstract := ab, collection := col, hasDel := false } := by unfold clsIn; rw [hC] <;> rfl
  refine ks_codeAny_call_defAt (fd := ksFn "__init__" qual (iA p1) (iB txt q0 q1 q2 q3 q4) iS .none .none doc pm an (.ref cda) ct cc) (binds := [("self", .ref e)]) hroom (X _ _ ho) rfl hlim (codeRec_of X hcd) rfl (BindsTo.of_eq (by first | rfl | with_unfolding_all rfl)) (show ∀ y ∈ iS.names, y.2 ≠ .cell by decide) (fun y hy => by rw [List.mem_singleton] at hy; subst hy; rfl) (fun h₁ hns hk₁ => ?_) rfl rfl rfl
  have X₁ : K.In h₁ := X.keeps hk₁
  have he₁ := hk₁ _ _ he
  have oC := X₁ _ _ hC
  have eneC : e ≠ C := fun z => by rw [z, hC] at hne; cases hne
  obtain ⟨mb, hb1, hb2⟩ := hbl
  refine ks_wpAt_execs_cons (ks_wpAt_Expr_any (ks_wpAt_MethodCall (pl := ?pl) (he := ?he) ?main))
  case he => exact he_of hpos
  refine ks_wpAt_super_base (env := ksEnv qual iS hp.objs.size fI (.ref cda) cc) rfl rfl (by decide) rfl (X₁ _ _ ho) rfl rfl rfl (X₁ _ _ hcda) rfl hvs hfile T.top ?_
  refine ks_loadName_global rfl rfl (loadGlobal_builtin (env := ksEnv qual iS hp.objs.size fI (.ref cda) cc) (hg.keeps hk₁) T.sup (hb1.keeps hk₁) ((hb2 _ (by decide +kernel)).trans (show bootBuiltins "super" = some (.type "super") from by decide +kernel)) ⟨rfl, ?_⟩)
  refine wpAny_loadName_free rfl rfl rfl ⟨_, X₁ _ _ hcc, rfl⟩ ?_
  refine wpAny_loadName_local rfl rfl hns rfl ?_
  refine ks_wpAny_isType_cls oC rfl ⟨rfl, ?_⟩
  refine ks_wpAny_call_super oC rfl he₁ rfl (fun c z => by cases z) (looks_mroIn X₁ T.slf) (fun h₂ hso k₂ => ?_)
  have X₂ : K.In h₂ := X₁.keeps k₂
  have he₂ := k₂ _ _ he₁
  have I₂ : PySem.W.InstAt h₂ e (excO C t0) C none := ⟨he₂, rfl, rfl, trivial⟩
  refine kxs_getMethod kxs_ValueError hso (looks_opaque X₂ T.opq) (l₀ := .ref C :: .ref D :: veTail) (l := .ref D :: veTail) ?_ ?_ X₂ hD (I₂.type.andThen (looks_subIn X₂ T.veC)) eneC (by decide) ?_
  · exact fun A Q E s k q => wpAny_bind ((looks_clsIn X₂ hcl) A _ E s k (wpAny_pure q))
  · simp [List.dropWhile_cons]
  refine kxs_callWith (i := "ValueError.__init__") (x := e) rfl (evalArgs_plain (spliced_more (Constant_str (spliced_none ?_))))
  have hmw : (h₂.push (kxs_mw "ValueError.__init__" e)).get? h₂.objs.size = some (kxs_mw "ValueError.__init__" e) := Heap.get?_push_at rfl rfl
  have k₃ : ∀ b o, h₂.get? b = some o → (h₂.push (kxs_mw "ValueError.__init__" e)).get? b = some o := fun b o z => Heap.get?_push_of_some _ z
  refine ⟨hmw, ?_⟩
  refine bw_call (k₃ _ _ (X₂ _ _ hC)) hmw (k₃ _ _ he₂) (one_size _) fun h₄ t1 I => ?_
  show wpAt _ _ _ (execs [] _) _ _ _
  refine wpAt_of_wpAny (wpAny_execs_nil ?_)
  exact hq h₄ _ t1 ⟨fun b o hb z => I.keep b o hb (k₃ _ _ (k₂ _ _ (hk₁ _ _ z))), I.obj⟩
theorem u_made (T : UT prog K mg x C) {hp : Heap} {g : Array GenState} {dr : Drawn} {tk : Nat} {os : OsState} (X : K.In hp) (hlim : hp.NoLimit) (hg : hp.Ns mainGlobals mg) (hbl : ∃ mb, hp.Ns builtinsNs mb ∧ ∀ y : Str, y ≠ "__name__" → mb y = bootBuiltins y) (hroom : A.depth + 1 < recursionLimit)
    (hq : ∀ h' tk' e t1, (∀ b o, hp.get? b = some o → h'.get? b = some o) → hp.objs.size ≤ e → h'.get? e = some (excO C t1) → R (.ok (.ret (.ref e))) ⟨h', g, dr, tk', os⟩) :
    codeAny (model prog w) A (.call (.ref C) ⟨[], []⟩) R ⟨hp, g, dr, tk, os⟩ := by
  obtain ⟨D, nm, q, N, bs, sn, sub, ab, col, dd, k0, k1, k2, k3, k5, hC, hD⟩ := T.cls
  obtain ⟨fI, hf, ht, _⟩ := T.ini
  have k : ∀ b o, hp.get? b = some o → ((hp.push (kdv_tup [])).push (excO C hp.objs.size)).get? b = some o := fun b o e => Heap.get?_push_of_some _ (Heap.get?_push_of_some _ e)
  have hget : ((hp.push (kdv_tup [])).push (excO C hp.objs.size)).get? (hp.objs.size + 1) = some (excO C hp.objs.size) := by heap_get
  have hnx : K.lookup (hp.objs.size + 1) = none := by
    cases e : K.lookup (hp.objs.size + 1) with
    | none => rfl
    | some o =>
      have z : hp.get? (hp.objs.size + 1) = some o := X _ _ e
      exact absurd (Nat.lt_of_succ_lt (Heap.lt_size z)) (Nat.lt_irrefl _)
  refine call_own (rest := []) F.excBase_ValueError (fun Y => refsVE_contains Y (.ref D :: veTail) rfl) (X _ _ hC) (looks_findIn X hf) (fun self => bind_fn X self ht) no_size ?_
  refine u_init T hf (X.keeps k) (hlim.keeps k) (hg.keeps k) (hbl.imp fun mb z => ⟨z.1.keeps k, z.2⟩) hget hnx ?_ fun h' tk' t1 I => ?_
  · show A.depth + 1 < recursionLimit
    exact hroom
  · exact ⟨rfl, hq h' tk' _ t1 (fun b o e => I.keep b o (Nat.ne_of_lt (Nat.lt_succ_of_lt (Heap.lt_size e))) (k b o e)) (Nat.le_succ _) I.obj⟩
end
end UnfX
end PySem
namespace L2
open PySem PySem.Spec PyProof.Rows
theorem pmk_unf {X : Cx} {x : Str} {C : Addr} {p pos : Pos} {k : Nat} (T : PySem.UnfX.UT X.prog X.K X.mg x C) (hr : Room k X.A) (hg : Gl X x) (hdb : (x == ("__debug__" : Str)) = false) :
    PMk X (.Call (.Name x p) [] [] pos) (fun _ H Q => Q (.ref C) none H) := by
  intro pins s σ H Q I h
  refine wpAny_Call_Name_kw (ld_glob I hg T.gC ?_ hdb)
  refine PySem.W.callWith_K0 I.kIn T.kC ?_
  show wpAny _ _ (call (.ref C) []) _ _ _
  have hlim := I.nolimit
  have kin := I.kIn
  have hgl := I.mod.glob.keeps I.bk
  have hbl : ∃ mb, s.heap.Ns builtinsNs mb ∧ ∀ y : Str, y ≠ "__name__" → mb y = bootBuiltins y := I.mod.blt.imp fun mb z => ⟨z.1.keeps I.bk, z.2⟩
  have fresh : ∀ {e : Addr}, s.heap.objs.size ≤ e → H e = none := fun z => I.hok.fresh z
  have old : ∀ {e : Addr}, s.heap.objs.size ≤ e → s.heap.get? e = none := fun {e} z => by
    cases q : s.heap.get? e with
    | none => rfl
    | some o => exact absurd (Nat.lt_of_lt_of_le (Heap.lt_size q) z) (Nat.lt_irrefl _)
  obtain ⟨hp, g, d, tk, os⟩ := s
  refine wpAny_call (PySem.UnfX.u_made T kin hlim hgl hbl (by have := hr.dp; omega) fun h' tk' e t1 kp ne ob => ?_)
  exact ⟨e, _, _, ⟨hp, g, d, tk, os⟩, H, .ref C, none, rfl, I, kp, old ne, ob, ⟨rfl, rfl⟩, rfl, rfl, fresh ne, rfl, I.bare, raises_own T.exC T.tyC, h⟩
end L2
set_option maxRecDepth 100000
set_option maxHeartbeats 4000000
namespace DS
open PySem PySem.Spec L2
section
variable (U : List Addr) (K : PySem.W.Frag) (ρ : List Addr) (H : Hp)
inductive LAt : Src → Addr → Prop
  | lst {l : List P} {a : Addr} {vs : List V} : (a ∉ U ∧ Rd H a (.lst vs)) ∨ KL K a vs → RepPs U K H l vs → LAt (.it l) a
  | own {n : Nat} {a : Addr} : ρ[n]? = some a → LAt (.rl n) a
inductive TAt : Src → Addr → Prop
  | mk {l : List P} {a : Addr} {vs : List V} : (a ∉ U ∧ Rd H a (.tup vs)) ∨ KT K a vs → RepPs U K H l vs → TAt (.it l) a
def SAt (k : Bool) (s : Src) (a : Addr) : Prop := match k with
  | true => TAt U K H s a
  | false => LAt U K ρ H s a
inductive SrcAt : Src → It → Prop
  | l {s : Src} {a : Addr} : LAt U K ρ H s a → SrcAt s (Itl K a)
  | t {s : Src} {a : Addr} : TAt U K H s a → SrcAt s (Itt K a)
  | x (z : Str) : SrcAt (.it (strSq z)) (Its z)
  | r (lo : Int) (n : Nat) : SrcAt (.rg lo 1 n) (Itr lo n)
  | rc (lo c : Int) (n : Nat) : SrcAt (.rg lo c n) (Itc lo c n)
  | el {s : Src} {a : Addr} : LAt U K ρ H s a → SrcAt (.en s) (Ite K a)
  | et {s : Src} {a : Addr} : TAt U K H s a → SrcAt (.en s) (IteT K a)
  | zm (k1 k2 : Bool) {s t : Src} {a b : Addr} : SAt U K ρ H k1 s a → SAt U K ρ H k2 t b → SrcAt (.zp s t) (ItzM K k1 k2 a b)
end
section
variable {U ρ U' ρ' : List Addr} {K : PySem.W.Frag} {H H' : Hp} {S : Sto} {src : Src} {J : It} {a : Addr}
theorem LAt.mono (e : Ext U ρ H U' ρ' H') (sub : ∀ a, a ∈ ρ → a ∈ U) (h : LAt U K ρ H src a) : LAt U' K ρ' H' src a := by
  cases h with
  | lst h q => exact .lst (h.imp (fun y => ⟨e.notin y.1 (rd_live y.2), e.rd (fun z => y.1 (sub _ z)) y.2⟩) id) (RepPs.mono e sub q)
  | own h =>
    obtain ⟨m, _, er, _⟩ := e.nw
    exact .own (by rw [er, List.getElem?_append_left (List.getElem?_eq_some_iff.mp h).1]; exact h)
theorem TAt.mono (e : Ext U ρ H U' ρ' H') (sub : ∀ a, a ∈ ρ → a ∈ U) (h : TAt U K H src a) : TAt U' K H' src a := by
  obtain ⟨h, q⟩ := h
  refine .mk ?_ (RepPs.mono e sub q)
  rcases h with ⟨h, r⟩ | h
  · exact .inl ⟨e.notin h (rd_live r), e.rd (fun z => h (sub _ z)) r⟩
  · exact .inr h
theorem SAt.mono (e : Ext U ρ H U' ρ' H') (sub : ∀ a, a ∈ ρ → a ∈ U) {k : Bool} (h : SAt U K ρ H k src a) : SAt U' K ρ' H' k src a := by
  cases k
  · exact LAt.mono e sub h
  · exact TAt.mono e sub h
theorem SrcAt.mono (e : Ext U ρ H U' ρ' H') (sub : ∀ a, a ∈ ρ → a ∈ U) (h : SrcAt U K ρ H src J) : SrcAt U' K ρ' H' src J := by
  cases h with
  | l h => exact .l (h.mono e sub)
  | t h => exact .t (h.mono e sub)
  | x z => exact .x z
  | r lo n => exact .r lo n
  | rc lo c n => exact .rc lo c n
  | el h => exact .el (h.mono e sub)
  | et h => exact .et (h.mono e sub)
  | zm k1 k2 h k => exact .zm k1 k2 (SAt.mono e sub h) (SAt.mono e sub k)
theorem LAt.at_ (st : StOk U K ρ S H) (h : LAt U K ρ H src a) (hr : isRl S src = true) : ∃ xs vs, SqL K H a vs ∧ RepPs U K H xs vs ∧ ∀ i, atS S src i = xs[i]? := by
  cases h with
  | lst h q => exact ⟨_, _, h.elim (fun y => Or.inl y.2) Or.inr, q, fun _ => rfl⟩
  | @own n a h =>
    obtain ⟨x, hx⟩ := Option.isSome_iff_exists.mp (show (snapM S[n]?).isSome = true from hr)
    obtain ⟨xs, e, rfl⟩ := snapM_some hx
    obtain ⟨vs, h1, h2⟩ := st.at_ n a _ h e
    refine ⟨xs, vs, .inl (.inl h1), h2, fun i => ?_⟩
    show (match snapM S[n]? with | some (.list xs) => xs[i]? | _ => none) = xs[i]?
    rw [hx]
theorem TAt.at_ (h : TAt U K H src a) : ∃ xs vs, SqT K H a vs ∧ RepPs U K H xs vs ∧ ∀ i, atS S src i = xs[i]? := by
  obtain ⟨h, q⟩ := h
  refine ⟨_, _, ?_, q, fun _ => rfl⟩
  rcases h with h | h
  · exact .inl h.2
  · exact .inr h.2
theorem atS_rl {i : Nat} {x : P} (h : atS S src i = some x) : (∃ l, src = .it l) ∨ (∃ n, src = .rl n) → isRl S src = true := by
  rintro (⟨l, rfl⟩ | ⟨n, rfl⟩)
  · rfl
  · have h' : (match snapM S[n]? with | some (.list xs) => xs[i]? | _ => none) = some x := h
    show (snapM S[n]?).isSome = true
    cases e : snapM S[n]? with
    | none => rw [e] at h'; cases h'
    | some _ => rfl
theorem LAt.sh (h : LAt U K ρ H src a) : (∃ l, src = .it l) ∨ (∃ n, src = .rl n) := by
  cases h with
  | lst _ _ => exact .inl ⟨_, rfl⟩
  | own _ => exact .inr ⟨_, rfl⟩
theorem TAt.sh (h : TAt U K H src a) : (∃ l, src = .it l) ∨ (∃ n, src = .rl n) := by
  obtain ⟨_, _⟩ := h
  exact .inl ⟨_, rfl⟩
theorem SAt.sh {k : Bool} (h : SAt U K ρ H k src a) : (∃ l, src = .it l) ∨ (∃ n, src = .rl n) := by
  cases k
  · exact LAt.sh h
  · exact TAt.sh h
theorem SAt.at_ (st : StOk U K ρ S H) {k : Bool} (h : SAt U K ρ H k src a) (hr : isRl S src = true) : ∃ xs vs, SqK K H k a vs ∧ RepPs U K H xs vs ∧ ∀ i, atS S src i = xs[i]? := by
  cases k
  · exact LAt.at_ st h hr
  · exact TAt.at_ h
def TurnOk (U : List Addr) (K : PySem.W.Frag) (ρ : List Addr) (S : Sto) (H : Hp) (src : Src) (J : It) : Prop :=
  ∀ i, (atS S src i = none → isRl S src = true → J.stop i H) ∧
    (∀ x, atS S src i = some x → J.go i H ∧ ∀ y H3, J.yld i H y H3 → Ext U ρ H U ρ H3 ∧ StOk U K ρ S H3 ∧ RepP U K H3 x y)
theorem none_le {α : Type} {xs : List α} {i : Nat} (h : xs[i]? = none) : xs.length ≤ i := List.getElem?_eq_none_iff.mp h
theorem SrcAt.turn (st : StOk U K ρ S H) (h : SrcAt U K ρ H src J) : TurnOk U K ρ S H src J := by
  intro i
  cases h with
  | l h =>
    refine ⟨fun e hr => ?_, fun x e => ?_⟩
    · obtain ⟨xs, vs, hq, l1, ha⟩ := h.at_ st hr
      rw [ha] at e
      exact ⟨vs, hq, by rw [← l1.length]; exact none_le e⟩
    · obtain ⟨xs, vs, hq, l1, ha⟩ := h.at_ st (atS_rl e h.sh)
      rw [ha] at e
      obtain ⟨v, hv, r⟩ := l1.get e
      refine ⟨⟨vs, v, hq, hv⟩, fun y H3 ⟨e3, hy⟩ => ?_⟩
      subst e3
      have := hy vs hq
      rw [hv] at this
      cases this
      exact ⟨.refl _ _ _, st, r⟩
  | t h =>
    obtain ⟨xs, vs, hq, l1, ha⟩ := TAt.at_ (S := S) h
    refine ⟨fun e hr => ?_, fun x e => ?_⟩
    · rw [ha] at e
      exact ⟨vs, hq, by rw [← l1.length]; exact none_le e⟩
    · rw [ha] at e
      obtain ⟨v, hv, r⟩ := l1.get e
      refine ⟨⟨vs, v, hq, hv⟩, fun y H3 ⟨e3, hy⟩ => ?_⟩
      subst e3
      have := hy vs hq
      rw [hv] at this
      cases this
      exact ⟨.refl _ _ _, st, r⟩
  | x z =>
    refine ⟨fun e hr => ?_, fun x e => ?_⟩
    · have e' : (strSq z)[i]? = none := e
      have q := none_le e'
      unfold strSq at q
      show z.cps.size ≤ i
      simpa using q
    · have e' : (strSq z)[i]? = some x := e
      unfold strSq at e'
      rw [List.getElem?_map] at e'
      cases q : z.cps.toList[i]? with
      | none => rw [q] at e'; cases e'
      | some c =>
        rw [q] at e'
        cases e'
        have q2 : z.cps[i]? = some c := by simpa using q
        refine ⟨(Array.getElem?_eq_some_iff.mp q2).1, fun y H3 ⟨e3, d, hd, hy⟩ => ?_⟩
        subst e3
        rw [q2] at hd
        cases hd
        rw [hy]
        exact ⟨.refl _ _ _, st, .str _⟩
  | r lo n =>
    refine ⟨fun e hr => ?_, fun x e => ?_⟩
    · have e' : (if i < n then some (PyData.int (lo + (i : Int) * 1)) else none) = none := e
      by_cases hi : i < n
      · rw [if_pos hi] at e'; cases e'
      · exact Nat.le_of_not_lt hi
    · have e' : (if i < n then some (PyData.int (lo + (i : Int) * 1)) else none) = some x := e
      by_cases hi : i < n
      · rw [if_pos hi] at e'
        cases e'
        refine ⟨hi, fun y H3 ⟨e3, hy⟩ => ?_⟩
        subst e3
        rw [hy, Int.mul_one]
        exact ⟨.refl _ _ _, st, .int _⟩
      · rw [if_neg hi] at e'; cases e'
  | rc lo c n =>
    refine ⟨fun e hr => ?_, fun x e => ?_⟩
    · have e' : (if i < n then some (PyData.int (lo + (i : Int) * c)) else none) = none := e
      by_cases hi : i < n
      · rw [if_pos hi] at e'; cases e'
      · exact Nat.le_of_not_lt hi
    · have e' : (if i < n then some (PyData.int (lo + (i : Int) * c)) else none) = some x := e
      by_cases hi : i < n
      · rw [if_pos hi] at e'
        cases e'
        refine ⟨hi, fun y H3 ⟨e3, hy⟩ => ?_⟩
        subst e3
        rw [hy]
        exact ⟨.refl _ _ _, st, .int _⟩
      · rw [if_neg hi] at e'; cases e'
  | @el s a h =>
    refine ⟨fun e hr => ?_, fun x e => ?_⟩
    · obtain ⟨xs, vs, hq, l1, ha⟩ := h.at_ st hr
      have e' : (atS S s i).map (fun x => PyData.tuple [.int (i : Int), x]) = none := e
      rw [ha, Option.map_eq_none_iff] at e'
      exact ⟨vs, hq, by rw [← l1.length]; exact none_le e'⟩
    · have e' : (atS S s i).map (fun x => PyData.tuple [.int (i : Int), x]) = some x := e
      obtain ⟨z, hz, rfl⟩ := Option.map_eq_some_iff.mp e'
      obtain ⟨xs, vs, hq, l1, ha⟩ := h.at_ st (atS_rl hz h.sh)
      rw [ha] at hz
      obtain ⟨v, hv, r⟩ := l1.get hz
      refine ⟨⟨vs, v, hq, hv⟩, fun y H3 ⟨T, w, ey, hT, e3, hy⟩ => ?_⟩
      have := hy vs hq
      rw [hv] at this
      cases this
      subst e3 ey
      exact newT st (.cons (.int _) (.cons r .nil)) hT
  | @et s a h =>
    obtain ⟨xs, vs, hq, l1, ha⟩ := TAt.at_ (S := S) h
    refine ⟨fun e hr => ?_, fun x e => ?_⟩
    · have e' : (atS S s i).map (fun x => PyData.tuple [.int (i : Int), x]) = none := e
      rw [ha, Option.map_eq_none_iff] at e'
      exact ⟨vs, hq, by rw [← l1.length]; exact none_le e'⟩
    · have e' : (atS S s i).map (fun x => PyData.tuple [.int (i : Int), x]) = some x := e
      obtain ⟨z, hz, rfl⟩ := Option.map_eq_some_iff.mp e'
      rw [ha] at hz
      obtain ⟨v, hv, r⟩ := l1.get hz
      refine ⟨⟨vs, v, hq, hv⟩, fun y H3 ⟨T, w, ey, hT, e3, hy⟩ => ?_⟩
      have := hy vs hq
      rw [hv] at this
      cases this
      subst e3 ey
      exact newT st (.cons (.int _) (.cons r .nil)) hT
  | @zm k1 k2 s t a b h k =>
    refine ⟨fun e hr => ?_, fun x e => ?_⟩
    · have hr' : isRl S s = true ∧ isRl S t = true := by simpa [isRl] using hr
      obtain ⟨xs, vs, hq, l1, ha⟩ := h.at_ st hr'.1
      obtain ⟨ys, ws, kq, l2, hb⟩ := k.at_ st hr'.2
      have e' : ((atS S s i).bind fun x => (atS S t i).map fun y => PyData.tuple [x, y]) = none := e
      rw [ha, hb] at e'
      refine ⟨vs, ws, hq, kq, ?_⟩
      rw [← l1.length, ← l2.length]
      cases q : xs[i]? with
      | none => exact .inl (none_le q)
      | some x =>
        rw [q] at e'
        exact .inr (none_le (Option.map_eq_none_iff.mp e'))
    · have e' : ((atS S s i).bind fun x => (atS S t i).map fun y => PyData.tuple [x, y]) = some x := e
      obtain ⟨z, hz, e'⟩ := Option.bind_eq_some_iff.mp e'
      obtain ⟨z2, hz2, rfl⟩ := Option.map_eq_some_iff.mp e'
      obtain ⟨xs, vs, hq, l1, ha⟩ := h.at_ st (atS_rl hz h.sh)
      obtain ⟨ys, ws, kq, l2, hb⟩ := k.at_ st (atS_rl hz2 k.sh)
      rw [ha] at hz
      rw [hb] at hz2
      obtain ⟨v, hv, r⟩ := l1.get hz
      obtain ⟨v2, hv2, r2⟩ := l2.get hz2
      refine ⟨⟨vs, ws, v, v2, hq, kq, hv, hv2⟩, fun y H3 ⟨T, w, w2, ey, hT, e3, hy, hy2⟩ => ?_⟩
      have q1 := hy vs hq
      have q2 := hy2 ws kq
      rw [hv] at q1
      rw [hv2] at q2
      cases q1; cases q2
      subst e3 ey
      exact newT st (.cons r (.cons r2 .nil)) hT
end
def tI (K : PySem.W.Frag) (m : DM Src) : L2.TI := fun σ H R => ∃ U ρ env S src S', EnvOk U K ρ H env σ ∧ StOk U K ρ S H ∧ m env S = some (src, S') ∧
  ∀ U' ρ' H' J, Ext U ρ H U' ρ' H' → StOk U' K ρ' S' H' → SrcAt U' K ρ' H' src J → R J H'
theorem PI.imp {X : Cx} {tg e : Expr} {t t' : L2.TI} (h : PI X tg e t) (k : ∀ σ H R, t' σ H R → t σ H R) : PI X tg e t' := ⟨fun pins s σ H R I q => h.run pins s σ H R I (k σ H R q)⟩
structure FnG (P : Program) (w : World) (K : PySem.W.Frag) (mg : Str → Option Value) (base : Heap) (k : Nat) (f : Addr) (fd : FuncData) (ps : List Str) (sp : Sp) : Prop where
  len : ∀ vs H Q E, sp vs H Q E → vs.length = ps.length
  run : ∀ (A : Around) (outer : List Env) (s : Shared) (H : Hp) (args : Args) (us : List Value) (vs : List V) (Q : VK) (E : XK), Room k A → A.guards = some [] → Env0 P w K mg base A outer s H → BindsTo s fd args (ps.zip us) → Vals vs us → sp vs H Q E →
    codeAny (model P w) A (.call (.ref f) args) (CR CX0 outer P w H s Q E) s
def spD (K : PySem.W.Frag) (n : Nat) (F : List D → Sto → Option (D × Sto)) : Sp := fun vs H Q _ => ∃ U ρ S ds d S', ds.length = n ∧ StOk U K ρ S H ∧ RepDs U K ρ H ds vs ∧ F ds S = some (d, S') ∧
  ∀ U' ρ' H' v, Ext U ρ H U' ρ' H' → StOk U' K ρ' S' H' → RepD U' K ρ' H' d v → Q v H'
theorem RepDs.length {U ρ : List Addr} {K : PySem.W.Frag} {H : Hp} : ∀ {ds : List D} {vs : List V}, RepDs U K ρ H ds vs → ds.length = vs.length
  | _, _, .nil => rfl
  | _, _, .cons _ t => by rw [List.length_cons, List.length_cons, RepDs.length t]
section
variable {X : Cx} {pins : List (Addr × Obj)} {σ : St} {H : Hp} {s : Shared} {k : Nat} {f : Addr} {fd : FuncData} {ps : List Str} {sp : Sp} {x : Str} {p pos : Pos} {e : Expr} {es : List Expr} {t : TA}
theorem run_G {Q : VK} {us : List Value} {vs : List V} (F : FnG X.prog X.w X.K X.mg X.base k f fd ps sp) (hr : Room k X.A) (hg : X.A.guards = some []) (hb : Binds X.K fd ps []) (I : Inv X pins σ H s) (r : Vals vs us) (h : sp vs H Q E0) :
    wpAny (model X.prog X.w) X.A (call (.ref f) us) (EP X pins σ Q) X.xe s := by
  have n1 : us.length = ps.length := by rw [← r.length, F.len _ _ _ _ h]
  have b1 := hb s us I.kIn (by rw [List.append_nil]; exact n1)
  rw [List.append_nil] at b1
  refine wpAny_call (codeAny_mono (F.run X.A X.stack s H _ us vs Q E0 hr hg I.env0 b1 r h) fun res s' c => ?_)
  match res, c with
  | .ok (.ret u), c => exact I.after c
theorem pe_callG (F : FnG X.prog X.w X.K X.mg X.base k f fd ps sp) (hr : Room k X.A) (hgu : X.A.guards = some []) (hg : Gl X x) (hm : X.mg x = some (.ref f)) (hk : PySem.W.keepIn X.K (.ref f) = true) (hb : Binds X.K fd ps [])
    (ha : PA X (e :: es) t) (hdb : (x == ("__debug__" : Str)) = false) (he : starEach (e :: es) X.env = (false, eval e X.env) :: starEach es X.env) (hpl : (backTo pos (starEach es X.env)).any (·.1) = false) :
    PE X (.Call (.Name x p) (e :: es) [] pos) (fun σ H Q => t σ H fun vs H1 => sp vs H1 Q E0) := by
  refine ⟨fun pins s σ H Q I h => wpAny_Call_Name_kw (ld_glob I hg hm ?_ hdb)⟩
  exact PySem.W.callWith_K (h₀ := X.base) I.ok.mod.kin hk (thn (ha.run pos pins s σ H _ I h) fun us s1 ⟨vs, H1, I1, r, q⟩ => ⟨I1.kIn, run_G F hr hgu hb I1 r q⟩) he hpl
theorem pe_callG0 (F : FnG X.prog X.w X.K X.mg X.base k f fd ps sp) (hr : Room k X.A) (hgu : X.A.guards = some []) (hg : Gl X x) (hm : X.mg x = some (.ref f)) (hk : PySem.W.keepIn X.K (.ref f) = true) (hb : Binds X.K fd ps [])
    (hdb : (x == ("__debug__" : Str)) = false) : PE X (.Call (.Name x p) [] [] pos) (fun σ H Q => sp [] H Q E0) :=
  ⟨fun pins s σ H Q I h => wpAny_Call_Name_kw (ld_glob I hg hm (PySem.W.callWith_K0 I.kIn hk (run_G (us := []) F hr hgu hb I .nil h)) hdb)⟩
end
structure FnX (P : Program) (w : World) (K : PySem.W.Frag) (mg : Str → Option Value) (base : Heap) (k : Nat) (f : Addr) (fd : FuncData) (ps : List Str) (C : Addr) (sp : Sp) : Prop where
  len : ∀ vs H Q E, sp vs H Q E → vs.length = ps.length
  run : ∀ (A : Around) (outer : List Env) (s : Shared) (H : Hp) (args : Args) (us : List Value) (vs : List V) (E : XK), Room k A → A.guards = some [] → Env0 P w K mg base A outer s H → BindsTo s fd args (ps.zip us) → Vals vs us → sp vs H (fun _ H' => E (.ref C) none H') E0 →
    codeAny (model P w) A (.call (.ref f) args) (CR (L2.CX P w) outer P w H s (fun _ _ => False) E) s
section
variable {X : Cx} {pins : List (Addr × Obj)} {σ : St} {H : Hp} {s : Shared} {k : Nat} {f C : Addr} {fd : FuncData} {ps : List Str} {sp : Sp} {x : Str} {p pos : Pos} {e : Expr} {es : List Expr} {t : TA} {W : WX}
theorem run_X {Q : VK} {us : List Value} {vs : List V} (tk : Takes X W) (F : FnX X.prog X.w X.K X.mg X.base k f fd ps C sp) (hr : Room k X.A) (hg : X.A.guards = some []) (hb : Binds X.K fd ps []) (I : Inv X pins σ H s) (r : Vals vs us) (h : sp vs H (fun _ H' => W (.ref C) none σ H') E0) :
    wpAny (model X.prog X.w) X.A (call (.ref f) us) (EP X pins σ Q) X.xe s := by
  have n1 : us.length = ps.length := by rw [← r.length, F.len _ _ _ _ h]
  have b1 := hb s us I.kIn (by rw [List.append_nil]; exact n1)
  rw [List.append_nil] at b1
  refine wpAny_call (codeAny_mono (F.run X.A X.stack s H _ us vs (fun cls d H' => W cls d σ H') hr hg I.env0 b1 r h) fun res s' c => ?_)
  match res, c with
  | .error e, c => exact passAt tk σ pins H s e s' I c
  | .ok (.ret u), c =>
    obtain ⟨v, H1, _, _, _, _, _, q⟩ := c
    exact q.elim
theorem pe_callX (tk : Takes X W) (F : FnX X.prog X.w X.K X.mg X.base k f fd ps C sp) (hr : Room k X.A) (hgu : X.A.guards = some []) (hg : Gl X x) (hm : X.mg x = some (.ref f)) (hk : PySem.W.keepIn X.K (.ref f) = true) (hb : Binds X.K fd ps [])
    (ha : PA X (e :: es) t) (hdb : (x == ("__debug__" : Str)) = false) (he : starEach (e :: es) X.env = (false, eval e X.env) :: starEach es X.env) (hpl : (backTo pos (starEach es X.env)).any (·.1) = false) :
    PE X (.Call (.Name x p) (e :: es) [] pos) (fun σ H _ => t σ H fun vs H1 => sp vs H1 (fun _ H' => W (.ref C) none σ H') E0) := by
  refine ⟨fun pins s σ H Q I h => wpAny_Call_Name_kw (ld_glob I hg hm ?_ hdb)⟩
  exact PySem.W.callWith_K (h₀ := X.base) I.ok.mod.kin hk (thn (ha.run pos pins s σ H _ I h) fun us s1 ⟨vs, H1, I1, r, q⟩ => ⟨I1.kIn, run_X tk F hr hgu hb I1 r q⟩) he hpl
theorem pe_callX0 (tk : Takes X W) (F : FnX X.prog X.w X.K X.mg X.base k f fd ps C sp) (hr : Room k X.A) (hgu : X.A.guards = some []) (hg : Gl X x) (hm : X.mg x = some (.ref f)) (hk : PySem.W.keepIn X.K (.ref f) = true) (hb : Binds X.K fd ps [])
    (hdb : (x == ("__debug__" : Str)) = false) : PE X (.Call (.Name x p) [] [] pos) (fun σ H _ => sp [] H (fun _ H' => W (.ref C) none σ H') E0) :=
  ⟨fun pins s σ H Q I h => wpAny_Call_Name_kw (ld_glob I hg hm (PySem.W.callWith_K0 I.kIn hk (run_X (us := []) tk F hr hgu hb I .nil h)) hdb)⟩
end
structure XOk (G : GI) (F : FT) (prog : Program) (w : World) (K : PySem.W.Frag) (mg : Str → Option Value) (base : Heap) (A : Around) (C : Addr) : Prop where
  ut : PySem.UnfX.UT prog K mg "Unfit" C
  rm : ∃ k, Room k A
  isi : ∀ y b, G.isi.lookup y = some b → ExcC K C ∧ ∃ Y, mg y = some (.ref Y) ∧ PySem.W.kitOne K (.ref C) (.ref Y) = some b
  fns : ∀ f x, G.fns[f]? = some x → ∃ (k : Nat) (a : Addr) (fd : FuncData) (ps : List Str), mg x = some (.ref a) ∧ PySem.W.keepIn K (.ref a) = true ∧ Binds K fd ps [] ∧ Room k A ∧ FnX prog w K mg base k a fd ps C (spD K ps.length (F (f + XN))) ∧ (∀ ds S r, F (f + XN) ds S = some r → ds.length = ps.length) ∧ PlainFd fd ps ∧ G.prm[f]? = some ps
structure Gd (G : GI) (F : FT) (Gc : Nat → Option P) (X : Cx) : Prop where
  calm : X.calm = true
  nd : X.N.Nodup
  gu : X.A.guards = some []
  un : X.A.units + 100 < cLine
  nob : ∀ x : Str, x ∈ (["len", "int", "abs", "max", "min", "sum", "any", "all", "tuple", "list", "str", "repr", "sorted", "isinstance", "range", "enumerate", "zip", "bool", "dict"] : List Str) → X.mg x = none
  cns : ∀ g x z, G.cns[g]? = some x → Gc g = some z → ∃ u v, X.mg x = some u ∧ RelV v u ∧ ∀ U H, RepP U X.K H z v
  fns : ∀ f x, G.fns[f]? = some x → ∃ (k : Nat) (a : Addr) (fd : FuncData) (ps : List Str), X.mg x = some (.ref a) ∧ PySem.W.keepIn X.K (.ref a) = true ∧ Binds X.K fd ps [] ∧ Room k X.A ∧ FnG X.prog X.w X.K X.mg X.base k a fd ps (spD X.K ps.length (F f)) ∧ (∀ ds S r, F f ds S = some r → ds.length = ps.length) ∧ PlainFd fd ps ∧ G.prm[f]? = some ps
  xk : G.exc = true → ∃ C, XOk G F X.prog X.w X.K X.mg X.base X.A C
theorem Gd.blk {G : GI} {F : FT} {Gc : Nat → Option P} {X : Cx} (g : Gd G F Gc X) (s : Shared) (H : Hp) (scope : Scope) (cenv : Env) (fp : List Addr) : Gd G F Gc (X.blk s H scope cenv fp) :=
  ⟨g.calm, g.nd, g.gu, g.un, g.nob, g.cns, g.fns, g.xk⟩
end DS
set_option maxRecDepth 100000
set_option maxHeartbeats 4000000
namespace DS
open PySem PySem.Spec L2
structure Mt (T : TI0) (X : Cx) : Prop where
  N : X.N = T.N
  sc : X.env.scope = T.sc
  fn : ∀ x, T.fn x = true → X.fn x = true
  top : T.top = true → X.stack = X.env :: X.outer ∧ X.env.frame = some X.env.locals
section
variable {X : Cx} {T : TI0} {x : Str}
theorem Mt.vis (m : Mt T X) (h : visB T.sc x = true) : Vis X.env.scope x := by
  unfold visB at h
  rw [m.sc]
  unfold Vis
  split at h
  · exact .inl (by assumption)
  · exact .inr (.inl (by assumption))
  · exact .inr (.inr (by assumption))
  · cases h
theorem Mt.gl (m : Mt T X) (h : glB T.sc x = true) : Gl X x := by
  unfold glB at h
  unfold Gl Env.kindOf
  rw [m.sc]
  split at h
  · assumption
  · cases h
theorem Mt.lcl (m : Mt T X) (h : lclB T.sc x = true) : X.env.scope.names.lookup x = some .local := by
  unfold lclB at h
  rw [m.sc]
  split at h
  · assumption
  · cases h
theorem Mt.loc (m : Mt T X) (h : locB T x = true) : Loc X.env.scope x ∧ (X.fn x = true ∨ X.env.scope.names.lookup x = some .local) := by
  unfold locB at h
  rw [m.sc]
  split at h
  · have q : T.sc.names.lookup x = some .local := by assumption
    exact ⟨.inl q, .inr q⟩
  · have q : T.sc.names.lookup x = some .cell := by assumption
    exact ⟨.inr q, .inl (m.fn x h)⟩
  · cases h
theorem nm3 (h : nmB x = true) : (x == ("__debug__" : Str)) = false ∧ (x == ("__classdict__" : Str)) = false ∧ x ≠ ("__name__" : Str) := by
  unfold nmB at h
  simp only [Bool.and_eq_true, Bool.not_eq_true'] at h
  exact ⟨h.1.1, h.1.2, fun e => by have := h.2; rw [e] at this; simp at this⟩
end
theorem star_of {e : Expr} {es : List Expr} {env : Env} (h : noStB e = true) : starEach (e :: es) env = (false, eval e env) :: starEach es env := by
  cases e <;> first | rfl | cases h
theorem star_any {pos : Pos} {env : Env} : ∀ {es : List Expr}, (es.all noStB) = true → (backTo pos (starEach es env)).any (·.1) = false
  | [], _ => rfl
  | e :: es, h => by
    rw [List.all_cons, Bool.and_eq_true] at h
    rw [star_of h.1]
    have := star_any (pos := pos) (env := env) h.2
    unfold backTo at this ⊢
    rw [List.map_cons, List.any_cons, this]
    rfl
theorem kw_few {es : List Expr} {env : Env} {pos : Pos} (h : (es.all noStB) = true) : (backTo pos (starEach es env)).all (fun x => !x.1) = true := by
  induction es with
  | nil => rfl
  | cons e es ih =>
    rw [List.all_cons, Bool.and_eq_true] at h
    rw [star_of h.1]
    have := ih h.2
    unfold backTo at this ⊢
    rw [List.map_cons, List.all_cons, this]
    rfl
theorem noSl_of {i : Expr} (h : noSlB i = true) : PlainIx i := by
  intro o v
  cases i <;> first | rfl | cases h
theorem noSet_of {e : Expr} {env : Env} (h : noSetB e = true) : ∀ x, foldedSetIterable e env x = pure x := by
  intro x
  cases e <;> first | rfl | cases h
section
variable {X : Cx} {e : Expr} {m : DM D}
theorem tT_tB {K : PySem.W.Frag} (σ : L2.St) (H : Hp) (Q : Bool → Hp → Prop) (h : tT K m σ H Q) : tB (tE K m) σ H Q := by
  obtain ⟨U, ρ, env, S, b, S', he, hs, hm, q⟩ := h
  refine ⟨U, ρ, env, S, _, S', he, hs, hm, fun U' ρ' H' v e1 s1 r1 => ⟨b, ?_, q U' ρ' H' e1 s1⟩⟩
  have r1 : RepP U' K H' (.bool b) v := r1
  cases r1
  rfl
theorem pt_of (h : PE X e (tE X.K m)) (he : ∀ whole, isTrue e X.env whole = (do let v ← whole; standAt e.pos; holding [v] (truthy v))) : PT X e (tT X.K m) :=
  PT.imp (pt_val h he) (fun σ H Q q => tT_tB σ H Q q)
end
section
variable (G : GI) (F : FT) (Gc : Nat → Option P)
def OkE (c : C) : Prop := ∀ (X : Cx) (T : TI0) (e : Expr), Gd G F Gc X → Mt T X → chkE G T c e = true →
  PE X e (tE X.K (denE F Gc c)) ∧ (newB c = true → PE X e (tF X.K (denE F Gc c))) ∧ PT X e (tT X.K (denE F Gc c)) ∧ ((∃ op vs p, e = .BoolOp op vs p) → PW X e (tT X.K (denE F Gc c)))
def OkA (c : C) : Prop := ∀ (X : Cx) (T : TI0) (es : List Expr), Gd G F Gc X → Mt T X → chkA G T c es = true → PA X es (tA X.K (denA F Gc c)) ∧ es.all noStB = true ∧
  (∀ (kws : List Keyword), kws.map (·.value) = es → PK X kws (tA X.K (denA F Gc c))) ∧
  ∀ (pos : Pos) (ks : List Key) (keys : List (Option Expr)), chkK ks keys = true → keys.length = es.length → ∃ trs, PPs X pos keys es trs ∧ ∀ σ H Q, (tA X.K (denA F Gc c) σ H fun vs H1 => Q ((ks.map kV).zip vs) H1) → tPairs trs σ H Q
def OkI (c : C) : Prop := ∀ (X : Cx) (T : TI0) (tg e : Expr), Gd G F Gc X → Mt T X → chkI G T c tg e = true → PI X tg e (tI X.K (denI F Gc c)) ∧ noSetB e = true
end
section
variable {G : GI} {F : FT} {Gc : Nat → Option P}
theorem mkE {c : C} {X : Cx} {e : Expr} (hn : newB c = false) (h : PE X e (tE X.K (denE F Gc c))) (he : ∀ whole, isTrue e X.env whole = (do let v ← whole; standAt e.pos; holding [v] (truthy v))) (hb : ∀ op vs p, e ≠ .BoolOp op vs p) :
    PE X e (tE X.K (denE F Gc c)) ∧ (newB c = true → PE X e (tF X.K (denE F Gc c))) ∧ PT X e (tT X.K (denE F Gc c)) ∧ ((∃ op vs p, e = .BoolOp op vs p) → PW X e (tT X.K (denE F Gc c))) :=
  ⟨h, fun z => absurd z (by rw [hn]; simp), pt_of h he, fun ⟨op, vs, p, z⟩ => absurd z (hb op vs p)⟩
theorem mkN {c : C} {X : Cx} {e : Expr} (h : PE X e (tE X.K (denE F Gc c))) (h2 : PE X e (tF X.K (denE F Gc c))) (he : ∀ whole, isTrue e X.env whole = (do let v ← whole; standAt e.pos; holding [v] (truthy v))) (hb : ∀ op vs p, e ≠ .BoolOp op vs p) :
    PE X e (tE X.K (denE F Gc c)) ∧ (newB c = true → PE X e (tF X.K (denE F Gc c))) ∧ PT X e (tT X.K (denE F Gc c)) ∧ ((∃ op vs p, e = .BoolOp op vs p) → PW X e (tT X.K (denE F Gc c))) :=
  ⟨h, fun _ => h2, pt_of h he, fun ⟨op, vs, p, z⟩ => absurd z (hb op vs p)⟩
theorem e_var (i : Nat) : OkE G F Gc (.var i) := by
  intro X T e g m h
  cases e with
  | Name x p =>
    simp only [chkE, Bool.and_eq_true, decide_eq_true_eq] at h
    obtain ⟨n1, n2, _⟩ := nm3 h.2
    refine mkE rfl (PE.imp (pe_var (by rw [m.N]; exact h.1.1) (m.vis h.1.2) n1 n2) ?_) (fun _ => rfl) (fun _ _ _ z => by cases z)
    rintro σ H Q ⟨U, ρ, env, S, d, S', he, hs, hm, q⟩
    have hm : (match env[i]? with | some (some d) => some (d, S) | _ => none) = some (d, S') := hm
    cases hi : env[i]? with
    | none => rw [hi] at hm; cases hm
    | some o =>
      rw [hi] at hm
      cases o with
      | none => cases hm
      | some d' =>
        cases hm
        obtain ⟨v, h1, h2⟩ := he.2 i d hi
        exact ⟨v, h1, q U ρ H v (.refl _ _ _) hs h2⟩
  | _ => simp [chkE] at h
theorem const_of {X : Cx} {e : Expr} {v : V} {d : P} {c : C} (h : PE X e (tC v)) (hd : ∀ env S, denE F Gc c env S = some (.p d, S)) (r : ∀ U H, RepP U X.K H d v) : PE X e (tE X.K (denE F Gc c)) := by
  refine PE.imp h ?_
  rintro σ H Q ⟨U, ρ, env, S, d', S', he, hs, hm, q⟩
  rw [hd] at hm
  cases hm
  exact q U ρ H v (.refl _ _ _) hs (r U H)
theorem e_cint (i : Int) : OkE G F Gc (.cint i) := by
  intro X T e g m h
  cases e with
  | Constant v k p => cases v with
    | int j =>
      simp only [chkE, decide_eq_true_eq] at h
      subst h
      exact mkE rfl (const_of pe_int (fun _ _ => rfl) fun _ _ => .int i) (fun _ => rfl) (fun _ _ _ z => by cases z)
    | _ => simp [chkE] at h
  | _ => simp [chkE] at h
theorem e_cstr (i : Str) : OkE G F Gc (.cstr i) := by
  intro X T e g m h
  cases e with
  | Constant v k p => cases v with
    | str j =>
      simp only [chkE, decide_eq_true_eq] at h
      subst h
      exact mkE rfl (const_of pe_str (fun _ _ => rfl) fun _ _ => .str i) (fun _ => rfl) (fun _ _ _ z => by cases z)
    | _ => simp [chkE] at h
  | _ => simp [chkE] at h
theorem e_cbl (i : Bool) : OkE G F Gc (.cbl i) := by
  intro X T e g m h
  cases e with
  | Constant v k p => cases v with
    | bool j =>
      simp only [chkE, decide_eq_true_eq] at h
      subst h
      exact mkE rfl (const_of pe_bl (fun _ _ => rfl) fun _ _ => .bl i) (fun _ => rfl) (fun _ _ _ z => by cases z)
    | _ => simp [chkE] at h
  | _ => simp [chkE] at h
theorem e_cnon : OkE G F Gc .cnon := by
  intro X T e g m h
  cases e with
  | Constant v k p => cases v with
    | none => exact mkE rfl (const_of pe_non (fun _ _ => rfl) fun _ _ => .non) (fun _ => rfl) (fun _ _ _ z => by cases z)
    | _ => simp [chkE] at h
  | _ => simp [chkE] at h
theorem e_glb (i : Nat) : OkE G F Gc (.glb i) := by
  intro X T e g m h
  cases e with
  | Name x p =>
    simp only [chkE, Bool.and_eq_true, decide_eq_true_eq] at h
    obtain ⟨n1, n2, _⟩ := nm3 h.2
    refine mkE rfl ⟨fun pins s σ H Q I hq => ?_⟩ (fun _ => rfl) (fun _ _ _ z => by cases z)
    obtain ⟨U, ρ, env, S, d, S', he, hs, hm, q⟩ := hq
    have hm : (Gc i).map (fun x => (D.p x, S)) = some (d, S') := hm
    obtain ⟨z, hz, e1⟩ := Option.map_eq_some_iff.mp hm
    cases e1
    obtain ⟨u, v, hu, rv, rp⟩ := g.cns i x z h.1.1 hz
    exact ld_glob I (m.gl h.1.2) hu ⟨v, H, I, rv, q U ρ H v (.refl _ _ _) hs (rp U H)⟩ n1
  | _ => simp [chkE] at h
theorem e_bin (op : Operator) {a b : C} (ha : OkE G F Gc a) (hb : OkE G F Gc b) : OkE G F Gc (.bin op a b) := by
  intro X T e g m h
  cases e with
  | BinOp l o r p =>
    simp only [chkE, Bool.and_eq_true, decide_eq_true_eq] at h
    obtain ⟨⟨rfl, h1⟩, h2⟩ := h
    obtain ⟨a1, _⟩ := ha X T l g m h1
    obtain ⟨b1, _⟩ := hb X T r g m h2
    refine mkN (PE.imp (pe_op (op_P o) a1 b1) ?_) (PE.imp (pe_op (op_PF o) a1 b1) ?_) (fun _ => rfl) (fun _ _ _ z => by cases z)
    · rintro σ H Q ⟨U, ρ, env, S, d, S', he, hs, hm, q⟩
      simp only [denE, Option.bind_eq_some_iff, Option.map_eq_some_iff] at hm
      obtain ⟨⟨d1, S1⟩, m1, ⟨d2, S2⟩, m2, x, hx, y, hy, z, hz, e1⟩ := hm
      cases e1
      exact seq2 he hs m1 m2 fun U2 ρ2 H2 v1 v2 e2 s2 r1 r2 => ⟨U2, ρ2, _, d1, d2, x, y, z, s2, r1, r2, hx, hy, hz, fun H' v e3 s3 r3 => q _ _ _ _ (e2.trans e3) s3 r3⟩
    · rintro σ H Q ⟨U, ρ, env, S, xs, S', he, hs, hm, q⟩
      simp only [denE, Option.bind_eq_some_iff, Option.map_eq_some_iff] at hm
      obtain ⟨⟨d1, S1⟩, m1, ⟨d2, S2⟩, m2, x, hx, y, hy, z, hz, e1⟩ := hm
      cases e1
      refine seq2 he hs m1 m2 fun U2 ρ2 H2 v1 v2 e2 s2 r1 r2 => ⟨U2, ρ2, _, d1, d2, x, y, xs, s2, r1, r2, hx, hy, hz, fun p vs hp l1 => ?_⟩
      obtain ⟨f1, f2, f3, f4⟩ := newF s2 l1 hp
      refine q U2 ρ2 _ p vs (e2.trans f1) ?_ f2 upd_same f3 f4
      cases q0 : H p with
      | none => rfl
      | some o => exact absurd hp (e2.live p (by rw [q0]; simp))
  | _ => simp [chkE] at h
theorem e_neg {a : C} (ha : OkE G F Gc a) : OkE G F Gc (.neg a) := by
  intro X T e g m h
  cases e with
  | UnaryOp o l p =>
    simp only [chkE, Bool.and_eq_true, decide_eq_true_eq] at h
    obtain ⟨rfl, h1⟩ := h
    obtain ⟨a1, _⟩ := ha X T l g m h1
    refine mkE rfl (PE.imp (pe_un un_neg a1) ?_) (fun _ => rfl) (fun _ _ _ z => by cases z)
    rintro σ H Q ⟨U, ρ, env, S, d, S', he, hs, hm, q⟩
    simp only [denE, Option.bind_eq_some_iff] at hm
    obtain ⟨⟨d1, S1⟩, m1, hm⟩ := hm
    cases d1 with
    | p x => cases x with
      | int i =>
        cases hm
        refine seq1 he hs m1 fun U1 ρ1 H1 v1 e1 s1 r1 => ?_
        have r1 : RepP U1 X.K H1 (.int i) v1 := r1
        cases r1
        exact ⟨i, rfl, q _ _ _ _ e1 s1 (.int (-i))⟩
      | _ => cases hm
    | _ => cases hm
  | _ => simp [chkE] at h
theorem e_inv {a : C} (ha : OkE G F Gc a) : OkE G F Gc (.inv a) := by
  intro X T e g m h
  cases e with
  | UnaryOp o l p =>
    simp only [chkE, Bool.and_eq_true, decide_eq_true_eq] at h
    obtain ⟨rfl, h1⟩ := h
    obtain ⟨a1, _⟩ := ha X T l g m h1
    refine mkE rfl (PE.imp (pe_un un_inv a1) ?_) (fun _ => rfl) (fun _ _ _ z => by cases z)
    rintro σ H Q ⟨U, ρ, env, S, d, S', he, hs, hm, q⟩
    simp only [denE, Option.bind_eq_some_iff] at hm
    obtain ⟨⟨d1, S1⟩, m1, hm⟩ := hm
    cases d1 with
    | p x => cases x with
      | int i =>
        cases hm
        refine seq1 he hs m1 fun U1 ρ1 H1 v1 e1 s1 r1 => ?_
        have r1 : RepP U1 X.K H1 (.int i) v1 := r1
        cases r1
        exact ⟨i, rfl, q _ _ _ _ e1 s1 (.int (Builtin.bitNot i))⟩
      | _ => cases hm
    | _ => cases hm
  | _ => simp [chkE] at h
theorem cmp_red {K : PySem.W.Frag} {op : CmpOp} {a b : C} {σ : L2.St} {H : Hp} {R : V → Hp → Prop} {U ρ : List Addr} {env : DEnv} {S S' : Sto} {d : D} (he : EnvOk U K ρ H env σ) (hs : StOk U K ρ S H)
    (hm : denE F Gc (.cmp op a b) env S = some (d, S')) (k : ∀ U' ρ' H' z, d = .p (.bool z) → Ext U ρ H U' ρ' H' → StOk U' K ρ' S' H' → R (.bl z) H') : tOp (rC2 K op) (tE K (denE F Gc a)) (tE K (denE F Gc b)) σ H R := by
  simp only [denE, Option.bind_eq_some_iff, Option.map_eq_some_iff] at hm
  obtain ⟨⟨d1, S1⟩, m1, ⟨d2, S2⟩, m2, x, hx, y, hy, z, hz, e1⟩ := hm
  cases e1
  exact seq2 he hs m1 m2 fun U2 ρ2 H2 v1 v2 e2 s2 r1 r2 => ⟨U2, ρ2, _, d1, d2, x, y, z, s2, r1, r2, hx, hy, hz, k U2 ρ2 H2 z rfl e2 s2⟩
theorem e_cmp (op : CmpOp) {a b : C} (ha : OkE G F Gc a) (hb : OkE G F Gc b) : OkE G F Gc (.cmp op a b) := by
  intro X T e g m h
  cases e with
  | Compare l os rs p =>
    rcases os with _ | ⟨o, _ | ⟨o2, os⟩⟩
    · simp [chkE] at h
    · rcases rs with _ | ⟨r, _ | ⟨r2, rs⟩⟩
      · simp [chkE] at h
      · simp only [chkE, Bool.and_eq_true, decide_eq_true_eq, Bool.not_eq_true'] at h
        obtain ⟨⟨⟨rfl, h1⟩, h2⟩, h3⟩ := h
        obtain ⟨a1, _⟩ := ha X T l g m h1
        obtain ⟨b1, _⟩ := hb X T r g m h2
        have hu : X.A.units + 65 < cLine := by have := g.un; omega
        refine ⟨PE.imp (pe_cmpR (op_C hu o) a1 b1 h3) ?_, fun z => (by cases z), PT.imp (pt_cmpR (op_C hu o) a1 b1 h3) ?_, fun ⟨_, _, _, z⟩ => by cases z⟩
        · rintro σ H Q ⟨U, ρ, env, S, d, S', he, hs, hm, q⟩
          refine cmp_red he hs hm fun U' ρ' H' z ed e1 s1 => ?_
          subst ed
          exact q U' ρ' H' _ e1 s1 (.bl z)
        · rintro σ H Q ⟨U, ρ, env, S, d, S', he, hs, hm, q⟩
          refine cmp_red he hs hm fun U' ρ' H' z ed e1 s1 => ?_
          cases ed
          exact ⟨_, rfl, q U' ρ' H' e1 s1⟩
      · simp [chkE] at h
    · simp [chkE] at h
  | _ => simp [chkE] at h
theorem asB_some {r : Option (D × Sto)} {b : Bool} {S : Sto} (h : asB r = some (b, S)) : r = some (.p (.bool b), S) := by
  unfold asB at h
  split at h
  · cases h; rfl
  · cases h
theorem e_not {a : C} (ha : OkE G F Gc a) : OkE G F Gc (.not a) := by
  intro X T e g m h
  cases e with
  | UnaryOp o l p =>
    simp only [chkE, Bool.and_eq_true, decide_eq_true_eq] at h
    obtain ⟨rfl, h1⟩ := h
    obtain ⟨a1, _, a3, _⟩ := ha X T l g m h1
    refine ⟨PE.imp (pe_not a1) ?_, fun z => (by cases z), PT.imp (pt_not a3) ?_, fun ⟨_, _, _, z⟩ => by cases z⟩
    · rintro σ H Q ⟨U, ρ, env, S, d, S', he, hs, hm, q⟩
      simp only [denE, Option.map_eq_some_iff] at hm
      obtain ⟨⟨b, S1⟩, m1, e1⟩ := hm
      cases e1
      refine seq1 he hs (asB_some m1) fun U1 ρ1 H1 v1 e1 s1 r1 => ?_
      have r1 : RepP U1 X.K H1 (.bool b) v1 := r1
      cases r1
      exact ⟨b, rfl, q _ _ _ _ e1 s1 (.bl (!b))⟩
    · rintro σ H Q ⟨U, ρ, env, S, d, S', he, hs, hm, q⟩
      simp only [denE, Option.map_eq_some_iff] at hm
      obtain ⟨⟨b, S1⟩, m1, e1⟩ := hm
      cases e1
      exact ⟨U, ρ, env, S, b, S1, he, hs, asB_some m1, q⟩
  | _ => simp [chkE] at h
theorem PE_and {X : Cx} {x : Expr} {y : Expr} {r : List Expr} {p : Pos} {a b : C} (h1 : PE X x (tE X.K (denE F Gc a))) (h2 : PE X (.BoolOp .And (y :: r) p) (tE X.K (denE F Gc b))) : PE X (.BoolOp .And (x :: y :: r) p) (tE X.K (denE F Gc (.and a b))) := by
  refine PE.imp (pe_and h1 h2) ?_
  rintro σ H Q ⟨U, ρ, env, S, d, S', he, hs, hm, q⟩
  simp only [denE, Option.bind_eq_some_iff] at hm
  obtain ⟨⟨b1, S1⟩, m1, hm⟩ := hm
  refine seq1 he hs (asB_some m1) fun U1 ρ1 H1 v1 e1 s1 r1 => ?_
  have r1 : RepP U1 X.K H1 (.bool b1) v1 := r1
  cases r1
  refine ⟨b1, rfl, ?_⟩
  cases b1 with
  | true =>
    rw [if_pos rfl]
    obtain ⟨⟨b2, S2⟩, m2, e2⟩ := Option.map_eq_some_iff.mp hm
    cases e2
    exact seq1 (he.mono e1 hs.sub) s1 (asB_some m2) fun U2 ρ2 H2 v2 e2 s2 r2 => q _ _ _ _ (e1.trans e2) s2 r2
  | false =>
    rw [if_neg Bool.false_ne_true]
    cases hm
    exact q _ _ _ _ e1 s1 (.bl false)
theorem PW_and {X : Cx} {x : Expr} {y : Expr} {r : List Expr} {p : Pos} {a b : C} (h1 : PT X x (tT X.K (denE F Gc a))) (h2 : PW X (.BoolOp .And (y :: r) p) (tT X.K (denE F Gc b))) : PW X (.BoolOp .And (x :: y :: r) p) (tT X.K (denE F Gc (.and a b))) := by
  refine PW.imp (pw_and h1 h2) ?_
  rintro σ H Q ⟨U, ρ, env, S, d, S', he, hs, hm, q⟩
  simp only [denE, Option.bind_eq_some_iff] at hm
  obtain ⟨⟨b1, S1⟩, m1, hm⟩ := hm
  refine ⟨U, ρ, env, S, b1, S1, he, hs, asB_some m1, fun U1 ρ1 H1 e1 s1 => ?_⟩
  cases b1 with
  | true =>
    rw [if_pos rfl]
    obtain ⟨⟨b2, S2⟩, m2, e2⟩ := Option.map_eq_some_iff.mp hm
    cases e2
    exact ⟨U1, ρ1, env, S1, b2, S2, he.mono e1 hs.sub, s1, asB_some m2, fun U2 ρ2 H2 e2 s2 => q _ _ _ (e1.trans e2) s2⟩
  | false =>
    rw [if_neg Bool.false_ne_true]
    cases hm
    exact q _ _ _ e1 s1
theorem PE_or {X : Cx} {x : Expr} {y : Expr} {r : List Expr} {p : Pos} {a b : C} (h1 : PE X x (tE X.K (denE F Gc a))) (h2 : PE X (.BoolOp .Or (y :: r) p) (tE X.K (denE F Gc b))) : PE X (.BoolOp .Or (x :: y :: r) p) (tE X.K (denE F Gc (.or a b))) := by
  refine PE.imp (pe_or h1 h2) ?_
  rintro σ H Q ⟨U, ρ, env, S, d, S', he, hs, hm, q⟩
  simp only [denE, Option.bind_eq_some_iff] at hm
  obtain ⟨⟨b1, S1⟩, m1, hm⟩ := hm
  refine seq1 he hs (asB_some m1) fun U1 ρ1 H1 v1 e1 s1 r1 => ?_
  have r1 : RepP U1 X.K H1 (.bool b1) v1 := r1
  cases r1
  refine ⟨b1, rfl, ?_⟩
  cases b1 with
  | false =>
    rw [if_neg Bool.false_ne_true]
    obtain ⟨⟨b2, S2⟩, m2, e2⟩ := Option.map_eq_some_iff.mp hm
    cases e2
    exact seq1 (he.mono e1 hs.sub) s1 (asB_some m2) fun U2 ρ2 H2 v2 e2 s2 r2 => q _ _ _ _ (e1.trans e2) s2 r2
  | true =>
    rw [if_pos rfl]
    cases hm
    exact q _ _ _ _ e1 s1 (.bl true)
theorem PW_or {X : Cx} {x : Expr} {y : Expr} {r : List Expr} {p : Pos} {a b : C} (h1 : PT X x (tT X.K (denE F Gc a))) (h2 : PW X (.BoolOp .Or (y :: r) p) (tT X.K (denE F Gc b))) : PW X (.BoolOp .Or (x :: y :: r) p) (tT X.K (denE F Gc (.or a b))) := by
  refine PW.imp (pw_or h1 h2) ?_
  rintro σ H Q ⟨U, ρ, env, S, d, S', he, hs, hm, q⟩
  simp only [denE, Option.bind_eq_some_iff] at hm
  obtain ⟨⟨b1, S1⟩, m1, hm⟩ := hm
  refine ⟨U, ρ, env, S, b1, S1, he, hs, asB_some m1, fun U1 ρ1 H1 e1 s1 => ?_⟩
  cases b1 with
  | false =>
    rw [if_neg Bool.false_ne_true]
    obtain ⟨⟨b2, S2⟩, m2, e2⟩ := Option.map_eq_some_iff.mp hm
    cases e2
    exact ⟨U1, ρ1, env, S1, b2, S2, he.mono e1 hs.sub, s1, asB_some m2, fun U2 ρ2 H2 e2 s2 => q _ _ _ (e1.trans e2) s2⟩
  | true =>
    rw [if_pos rfl]
    cases hm
    exact q _ _ _ e1 s1
theorem e_and {a b : C} (ha : OkE G F Gc a) (hb : OkE G F Gc b) : OkE G F Gc (.and a b) := by
  intro X T e g m h
  cases e with
  | BoolOp o vs p =>
    cases o with
    | Or => simp [chkE] at h
    | And =>
      rcases vs with _ | ⟨x, _ | ⟨y, r⟩⟩
      · simp [chkE] at h
      · simp [chkE] at h
      · simp only [chkE, Bool.and_eq_true] at h
        obtain ⟨a1, _, a3, _⟩ := ha X T x g m h.1
        cases r with
        | nil =>
          obtain ⟨b1, _, b3, _⟩ := hb X T y g m h.2
          have w := PW_and (a := a) (b := b) a3 (pw_and1 (pos := p) b3)
          exact ⟨PE_and a1 (pe_one b1), fun z => (by cases z), w.pt, fun _ => w⟩
        | cons z r =>
          obtain ⟨b1, _, b3, b4⟩ := hb X T (.BoolOp .And (y :: z :: r) p) g m h.2
          have w := PW_and (a := a) (b := b) a3 (b4 ⟨_, _, _, rfl⟩)
          exact ⟨PE_and a1 b1, fun z => (by cases z), w.pt, fun _ => w⟩
  | _ => simp [chkE] at h
theorem e_or {a b : C} (ha : OkE G F Gc a) (hb : OkE G F Gc b) : OkE G F Gc (.or a b) := by
  intro X T e g m h
  cases e with
  | BoolOp o vs p =>
    cases o with
    | And => simp [chkE] at h
    | Or =>
      rcases vs with _ | ⟨x, _ | ⟨y, r⟩⟩
      · simp [chkE] at h
      · simp [chkE] at h
      · simp only [chkE, Bool.and_eq_true] at h
        obtain ⟨a1, _, a3, _⟩ := ha X T x g m h.1
        cases r with
        | nil =>
          obtain ⟨b1, _, b3, _⟩ := hb X T y g m h.2
          have w := PW_or (a := a) (b := b) a3 (pw_or1 (pos := p) b3)
          exact ⟨PE_or a1 (pe_one b1), fun z => (by cases z), w.pt, fun _ => w⟩
        | cons z r =>
          obtain ⟨b1, _, b3, b4⟩ := hb X T (.BoolOp .Or (y :: z :: r) p) g m h.2
          have w := PW_or (a := a) (b := b) a3 (b4 ⟨_, _, _, rfl⟩)
          exact ⟨PE_or a1 b1, fun z => (by cases z), w.pt, fun _ => w⟩
  | _ => simp [chkE] at h
theorem pt_if {X : Cx} {c x y : Expr} {p : Pos} {tc ta tb : TT} (hc : PT X c tc) (ha : PT X x ta) (hb : PT X y tb) : PT X (.IfExp c x y p) (fun σ H Q => tc σ H fun b H1 => if b = true then ta σ H1 Q else tb σ H1 Q) := by
  refine ⟨fun pins s σ H Q I h => ?_⟩
  show wpAny _ _ (do if ← isTrue c X.env (eval c X.env) then isTrue x X.env (eval x X.env) else isTrue y X.env (eval y X.env)) _ _ _
  refine wpAny_bind (thn (hc.run pins s σ H _ I h) fun b s1 ⟨H1, I1, q⟩ => ?_)
  cases b with
  | true => exact ha.run pins s1 σ H1 Q I1 q
  | false => exact hb.run pins s1 σ H1 Q I1 q
theorem e_ite {c a b : C} (hc : OkE G F Gc c) (ha : OkE G F Gc a) (hb : OkE G F Gc b) : OkE G F Gc (.ite c a b) := by
  intro X T e g m h
  cases e with
  | IfExp t x y p =>
    simp only [chkE, Bool.and_eq_true] at h
    obtain ⟨_, _, c3, _⟩ := hc X T t g m h.1.1
    obtain ⟨a1, _, a3, _⟩ := ha X T x g m h.1.2
    obtain ⟨b1, _, b3, _⟩ := hb X T y g m h.2
    refine ⟨PE.imp (pe_ifExp c3 a1 b1) ?_, fun z => (by cases z), PT.imp (pt_if c3 a3 b3) ?_, fun ⟨_, _, _, z⟩ => by cases z⟩
    · rintro σ H Q ⟨U, ρ, env, S, d, S', he, hs, hm, q⟩
      simp only [denE, Option.bind_eq_some_iff] at hm
      obtain ⟨⟨b1, S1⟩, m1, hm⟩ := hm
      refine ⟨U, ρ, env, S, b1, S1, he, hs, asB_some m1, fun U1 ρ1 H1 e1 s1 => ?_⟩
      cases b1 with
      | true =>
        rw [if_pos rfl]
        exact seq1 (he.mono e1 hs.sub) s1 hm fun U2 ρ2 H2 v2 e2 s2 r2 => q _ _ _ _ (e1.trans e2) s2 r2
      | false =>
        rw [if_neg Bool.false_ne_true]
        exact seq1 (he.mono e1 hs.sub) s1 hm fun U2 ρ2 H2 v2 e2 s2 r2 => q _ _ _ _ (e1.trans e2) s2 r2
    · rintro σ H Q ⟨U, ρ, env, S, d, S', he, hs, hm, q⟩
      simp only [denE, Option.bind_eq_some_iff] at hm
      obtain ⟨⟨b1, S1⟩, m1, hm⟩ := hm
      refine ⟨U, ρ, env, S, b1, S1, he, hs, asB_some m1, fun U1 ρ1 H1 e1 s1 => ?_⟩
      cases b1 with
      | true =>
        rw [if_pos rfl]
        exact ⟨U1, ρ1, env, S1, d, S', he.mono e1 hs.sub, s1, hm, fun U2 ρ2 H2 e2 s2 => q _ _ _ (e1.trans e2) s2⟩
      | false =>
        rw [if_neg Bool.false_ne_true]
        exact ⟨U1, ρ1, env, S1, d, S', he.mono e1 hs.sub, s1, hm, fun U2 ρ2 H2 e2 s2 => q _ _ _ (e1.trans e2) s2⟩
  | _ => simp [chkE] at h
end
end DS
set_option maxRecDepth 100000
set_option maxHeartbeats 4000000
namespace DS
open PySem PySem.Spec L2
section
variable {U ρ : List Addr} {K : PySem.W.Frag} {H : Hp} {S : Sto}
theorem pursD_rep : ∀ {ds : List D} {xs : List P} {vs : List V}, pursD ds = some xs → RepDs U K ρ H ds vs → RepPs U K H xs vs
  | [], xs, vs, h, r => by
    cases h
    cases r
    exact .nil
  | d :: ds, xs, _, h, .cons r t => by
    simp only [pursD, Option.bind_eq_some_iff, Option.map_eq_some_iff] at h
    obtain ⟨x, hx, ys, hy, rfl⟩ := h
    cases d with
    | p y =>
      cases hx
      exact .cons r (pursD_rep hy t)
    | _ => cases hx
theorem RepPs.ds {U' ρ' : List Addr} : ∀ {xs : List P} {vs : List V}, RepPs U K H xs vs → RepDs U K ρ H (xs.map D.p) vs
  | _, _, .nil => .nil
  | _, _, .cons r t => .cons r (RepPs.ds (U' := U') (ρ' := ρ') t)
end
theorem PK.imp {X : Cx} {kws : List Keyword} {t t' : TA} (h : PK X kws t) (k : ∀ σ H Q, t' σ H Q → t σ H Q) : PK X kws t' := ⟨fun pos pins s σ H Q I q => h.run pos pins s σ H Q I (k σ H Q q)⟩
section
variable {G : GI} {F : FT} {Gc : Nat → Option P}
theorem a_nil : OkA G F Gc .nil := by
  intro X T es g m h
  cases es with
  | nil =>
    refine ⟨PA.imp pa_nil ?_, rfl, fun kws hk => ?_, fun pos ks keys hk hl => ?_⟩
    rotate_left
    · cases kws with
      | nil =>
        refine PK.imp pk_nil ?_
        rintro σ H Q ⟨U, ρ, env, S, ds, S', he, hs, hm, q⟩
        cases hm
        exact q U ρ H [] (.refl _ _ _) hs .nil
      | cons _ _ => cases hk
    rotate_right
    · rintro σ H Q ⟨U, ρ, env, S, ds, S', he, hs, hm, q⟩
      cases hm
      exact q U ρ H [] (.refl _ _ _) hs .nil
    · cases keys with
      | cons _ _ => cases hl
      | nil =>
        cases ks with
        | cons k _ => cases k <;> simp [chkK] at hk
        | nil =>
          refine ⟨[], pps_nil, ?_⟩
          rintro σ H Q ⟨U, ρ, env, S, ds, S', he, hs, hm, q⟩
          cases hm
          exact q U ρ H [] (.refl _ _ _) hs .nil
  | cons _ _ => simp [chkA] at h
theorem a_cons {a b : C} (ha : OkE G F Gc a) (hb : OkA G F Gc b) : OkA G F Gc (.cons a b) := by
  intro X T es g m h
  cases es with
  | nil => simp [chkA] at h
  | cons e es =>
    simp only [chkA, Bool.and_eq_true] at h
    obtain ⟨a1, _⟩ := ha X T e g m h.1.1
    obtain ⟨b1, b2, b4, b3⟩ := hb X T es g m h.2
    refine ⟨PA.imp (pa_cons a1 b1 (star_of h.1.2)) ?_, by rw [List.all_cons, h.1.2, b2]; rfl, fun kws hk => ?_, fun pos ks keys hk hl => ?_⟩
    rotate_left
    · rcases kws with _ | ⟨⟨nm, v, kp⟩, kws⟩
      · cases hk
      · have hk1 : v = e ∧ kws.map (·.value) = es := by simpa using hk
        obtain ⟨rfl, hk2⟩ := hk1
        refine PK.imp (pk_cons a1 (b4 kws hk2)) ?_
        rintro σ H Q ⟨U, ρ, env, S, ds, S', he, hs, hm, q⟩
        simp only [denA, Option.bind_eq_some_iff, Option.map_eq_some_iff] at hm
        obtain ⟨⟨d1, S1⟩, m1, ⟨ds2, S2⟩, m2, e1⟩ := hm
        cases e1
        exact seq1 he hs m1 fun U1 ρ1 H1 v1 e1 s1 r1 => ⟨U1, ρ1, env, S1, ds2, S2, he.mono e1 hs.sub, s1, m2, fun U2 ρ2 H2 vs e2 s2 r2 => q _ _ _ _ (e1.trans e2) s2 (.cons (r1.mono e2 s1.sub) r2)⟩
    rotate_right
    · rintro σ H Q ⟨U, ρ, env, S, ds, S', he, hs, hm, q⟩
      simp only [denA, Option.bind_eq_some_iff, Option.map_eq_some_iff] at hm
      obtain ⟨⟨d1, S1⟩, m1, ⟨ds2, S2⟩, m2, e1⟩ := hm
      cases e1
      exact seq1 he hs m1 fun U1 ρ1 H1 v1 e1 s1 r1 => ⟨U1, ρ1, env, S1, ds2, S2, he.mono e1 hs.sub, s1, m2, fun U2 ρ2 H2 vs e2 s2 r2 => q _ _ _ _ (e1.trans e2) s2 (.cons (r1.mono e2 s1.sub) r2)⟩
    · cases keys with
      | nil => cases hl
      | cons k0 keys =>
        have hl' : keys.length = es.length := Nat.succ.inj hl
        have key : ∃ (k : Key) (ks' : List Key) (ke : Expr), ks = k :: ks' ∧ k0 = some ke ∧ PE X ke (tC (kV k)) ∧ chkK ks' keys = true := by
          rcases ks with _ | ⟨k, ks'⟩
          · cases k0 <;> simp [chkK] at hk
          · rcases k with i | x
            · cases k0 with
              | none => simp [chkK] at hk
              | some ke => cases ke with
                | Constant v kk p => cases v with
                  | int j =>
                    simp only [chkK, Bool.and_eq_true, decide_eq_true_eq] at hk
                    obtain ⟨rfl, hk⟩ := hk
                    exact ⟨_, _, _, rfl, rfl, pe_int, hk⟩
                  | _ => simp [chkK] at hk
                | _ => simp [chkK] at hk
            · cases k0 with
              | none => simp [chkK] at hk
              | some ke => cases ke with
                | Constant v kk p => cases v with
                  | str j =>
                    simp only [chkK, Bool.and_eq_true, decide_eq_true_eq] at hk
                    obtain ⟨rfl, hk⟩ := hk
                    exact ⟨_, _, _, rfl, rfl, pe_str, hk⟩
                  | _ => simp [chkK] at hk
                | _ => simp [chkK] at hk
        obtain ⟨k, ks', ke, rfl, rfl, pk, hk'⟩ := key
        obtain ⟨trs, p1, p2⟩ := b3 pos ks' keys hk' hl'
        refine ⟨_, pps_cons pk a1 p1, ?_⟩
        rintro σ H Q ⟨U, ρ, env, S, ds, S', he, hs, hm, q⟩
        simp only [denA, Option.bind_eq_some_iff, Option.map_eq_some_iff] at hm
        obtain ⟨⟨d1, S1⟩, m1, ⟨ds2, S2⟩, m2, e1⟩ := hm
        cases e1
        show tE X.K (denE F Gc a) σ H fun y H2 => tPairs trs σ H2 fun ps H3 => Q ((kV k, y) :: ps) H3
        refine seq1 he hs m1 fun U1 ρ1 H1 v1 e1 s1 r1 => p2 _ _ _ ⟨U1, ρ1, env, S1, ds2, S2, he.mono e1 hs.sub, s1, m2, fun U2 ρ2 H2 vs e2 s2 r2 => ?_⟩
        exact q _ _ _ _ (e1.trans e2) s2 (.cons (r1.mono e2 s1.sub) r2)
theorem a_other {c : C} (h : ∀ T es, chkA G T c es = false) : OkA G F Gc c := fun X T es _ _ z => by rw [h] at z; cases z
theorem e_other {c : C} (h : ∀ T e, chkE G T c e = false) : OkE G F Gc c := fun X T es _ _ z => by rw [h] at z; cases z
theorem i_other {c : C} (h : ∀ T tg e, chkI G T c tg e = false) : OkI G F Gc c := fun X T tg es _ _ z => by rw [h] at z; cases z
theorem e_tup {es : C} (ha : OkA G F Gc es) : OkE G F Gc (.tup es) := by
  intro X T e g m h
  cases e with
  | Tuple l k p =>
    simp only [chkE] at h
    obtain ⟨a1, a2, _⟩ := ha X T l g m h
    refine mkE rfl (PE.imp (pe_tup a1) ?_) (fun _ => rfl) (fun _ _ _ z => by cases z)
    rintro σ H Q ⟨U, ρ, env, S, d, S', he, hs, hm, q⟩
    simp only [denE, Option.bind_eq_some_iff, Option.map_eq_some_iff] at hm
    obtain ⟨⟨ds, S1⟩, m1, xs, hx, z, hz, e1⟩ := hm
    cases e1
    obtain ⟨hf, rfl⟩ := onI_some hz
    refine ⟨U, ρ, env, S, ds, S1, he, hs, m1, fun U1 ρ1 H1 vs e1 s1 r1 => ?_⟩
    have r2 := pursD_rep hx r1
    refine ⟨by rw [← r2.length]; exact fits_le hf, fun p hp => ?_⟩
    obtain ⟨f1, f2, f3⟩ := newT s1 r2 hp
    exact q _ _ _ _ (e1.trans f1) f2 f3
  | _ => simp [chkE] at h
theorem e_lst {es : C} (ha : OkA G F Gc es) : OkE G F Gc (.lst es) := by
  intro X T e g m h
  cases e with
  | List l p =>
    simp only [chkE] at h
    obtain ⟨a1, a2, _⟩ := ha X T l g m h
    have pf : PE X (.List l p) (tF X.K (denE F Gc (.lst es))) := by
      refine PE.imp (pe_lst a1) ?_
      rintro σ H Q ⟨U, ρ, env, S, xs, S', he, hs, hm, q⟩
      simp only [denE, Option.bind_eq_some_iff, Option.map_eq_some_iff] at hm
      obtain ⟨⟨ds, S1⟩, m1, ys, hx, z, hz, e1⟩ := hm
      obtain ⟨hf, rfl⟩ := onI_some hz
      cases e1
      refine ⟨U, ρ, env, S, ds, S1, he, hs, m1, fun U1 ρ1 H1 vs e1 s1 r1 => ?_⟩
      have r2 := pursD_rep hx r1
      refine ⟨by rw [← r2.length]; exact fits_le hf, fun p hp => ?_⟩
      obtain ⟨f1, f2, f3, f4⟩ := newF s1 r2 hp
      refine q _ _ _ p vs (e1.trans f1) ?_ f2 upd_same f3 f4
      cases q0 : H p with
      | none => rfl
      | some o => exact absurd hp (e1.live p (by rw [q0]; simp))
    refine mkN (tE_of_F pf ?_) pf (fun _ => rfl) (fun _ _ _ z => by cases z)
    intro env S d S' hm
    simp only [denE, Option.bind_eq_some_iff, Option.map_eq_some_iff] at hm
    obtain ⟨⟨ds, S1⟩, m1, ys, hx, z, hz, e1⟩ := hm
    obtain ⟨hf, rfl⟩ := onI_some hz
    cases e1
    exact ⟨_, rfl⟩
  | _ => simp [chkE] at h
theorem e_mk {a : C} (ha : OkE G F Gc a) : OkE G F Gc (.mk a) := by
  intro X T e g m h
  simp only [chkE, Bool.and_eq_true] at h
  obtain ⟨a1, a2, a3, a4⟩ := ha X T e g m h.2
  have pm : PE X e (tE X.K (denE F Gc (.mk a))) := PE.imp (tE_mk (a2 h.1)) fun σ H Q q => q
  have no : ∀ env S b S', denE F Gc (.mk a) env S ≠ some (.p (.bool b), S') := fun env S b S' z => by
    simp only [denE, Option.bind_eq_some_iff] at z
    obtain ⟨⟨d1, S1⟩, _, z⟩ := z
    cases d1 with
    | p x => cases x <;> cases z
    | _ => cases z
  exact ⟨pm, fun z => (by cases z), ⟨fun pins s σ H Q I ⟨U, ρ, env, S, b, S', _, _, z, _⟩ => absurd z (no _ _ _ _)⟩, fun _ => ⟨fun wh pins s σ H Q I ⟨U, ρ, env, S, b, S', _, _, z, _⟩ => absurd z (no _ _ _ _)⟩⟩
theorem Ext.keepAll {U H H' : _} {U' ρ' : List Addr} (e : Ext U [] H U' ρ' H') : ∀ a o, H a = some o → H' a = some o := fun a o h => e.keep a o h (by simp)
theorem back_ok {U ρ U' ρ' : List Addr} {K : PySem.W.Frag} {H H' : Hp} {S S' : Sto} {d d' : D} {v : V} (st : StOk U K ρ S H) (e : Ext U ρ H U' ρ' H') (s1 : StOk U' K ρ' S' H') (r : RepD U' K ρ' H' d v)
    (hl : S.length ≤ S'.length) (hb : (S'.take S.length).all (belowM S.length) = true) (hd : backD S.length S' d = some d') : Ext U ρ H U ρ H' ∧ StOk U K ρ (S'.take S.length) H' ∧ RepD U K ρ H' d' v := by
  obtain ⟨n, eu, er, hn⟩ := e.nw
  have subU : ∀ a, a ∈ U → a ∈ U' := fun a h => by rw [eu]; exact List.mem_append_left _ h
  have old : ∀ (k : Nat) (a : Addr), k < S.length → ρ'[k]? = some a → ρ[k]? = some a := fun k a hk h => by
    rw [er, List.getElem?_append_left (by rw [← st.len]; exact hk)] at h
    exact h
  have new : ∀ (k : Nat) (a : Addr), ρ[k]? = some a → ρ'[k]? = some a := fun k a h => by
    rw [er, List.getElem?_append_left (List.getElem?_eq_some_iff.mp h).1]; exact h
  have low : ∀ (d : D) (v : V), belowD S.length d = true → RepD U' K ρ' H' d v → RepD U K ρ H' d v := fun d v hb h => by
    cases d with
    | p x => exact RepP.less subU h
    | r k =>
      obtain ⟨a, ev, h⟩ := h
      exact ⟨a, ev, old k a (of_decide_eq_true hb) h⟩
    | s xs =>
      obtain ⟨a, vs, ev, h1, h3⟩ := h
      exact ⟨a, vs, ev, h1.imp (fun y => ⟨fun z => y.1 (subU _ z), y.2⟩) id, RepPs.less subU h3⟩
  refine ⟨⟨⟨[], by simp, by simp, by simp⟩, e.keep, e.live⟩, ⟨by rw [List.length_take, Nat.min_eq_left hl, st.len], st.nd, st.sub, fun a h => e.live a (st.live a h), fun k a mo h1 h2 => ?_⟩, ?_⟩
  · have hk : k < S.length := by rw [st.len]; exact (List.getElem?_eq_some_iff.mp h1).1
    have h2' := h2
    rw [List.getElem?_take_of_lt hk] at h2'
    have z := s1.at_ k a mo (new k a h1) h2'
    have hbm : belowM S.length mo = true := List.all_eq_true.mp hb mo (List.mem_of_getElem? h2)
    cases mo with
    | lst ys =>
      obtain ⟨vs, z1, z2⟩ := z
      exact ⟨vs, z1, RepPs.less subU z2⟩
    | dic kvs =>
      obtain ⟨ws, z1, z2⟩ := z
      refine ⟨ws, z1, ?_⟩
      have hall : ∀ kv, kv ∈ kvs → belowD S.length kv.2 = true := fun kv hkv => List.all_eq_true.mp (show kvs.all (fun kv => belowD S.length kv.2) = true from hbm) kv hkv
      clear h1 h2 h2' hbm z1
      unfold RepKv at z2 ⊢
      induction z2 with
      | nil => exact .nil
      | cons a b ih => exact .cons ⟨a.1, low _ _ (hall _ List.mem_cons_self) a.2⟩ (ih fun kv hkv => hall kv (List.mem_cons_of_mem _ hkv))
    | dit kvs =>
      obtain ⟨ws, z1, z2⟩ := z
      refine ⟨ws, z1, ?_⟩
      have hall : ∀ kv, kv ∈ kvs → belowD S.length kv.2 = true := fun kv hkv => List.all_eq_true.mp (show kvs.all (fun kv => belowD S.length kv.2) = true from hbm) kv hkv
      clear h1 h2 h2' hbm z1
      unfold RepKv at z2 ⊢
      induction z2 with
      | nil => exact .nil
      | cons a b ih => exact .cons ⟨a.1, low _ _ (hall _ List.mem_cons_self) a.2⟩ (ih fun kv hkv => hall kv (List.mem_cons_of_mem _ hkv))
  · cases d with
    | p x =>
      cases hd
      exact RepP.less subU r
    | r k =>
      obtain ⟨a, ev, hk⟩ := r
      have hd : (if k < S.length then some (D.r k) else (snapM S'[k]?).map .p) = some d' := hd
      by_cases hlt : k < S.length
      · rw [if_pos hlt] at hd
        cases hd
        exact ⟨a, ev, old k a hlt hk⟩
      · rw [if_neg hlt] at hd
        obtain ⟨x, hx, rfl⟩ := Option.map_eq_some_iff.mp hd
        obtain ⟨xs, e1, rfl⟩ := snapM_some hx
        obtain ⟨vs, z1, z2⟩ := s1.at_ k a _ hk e1
        have ha : a ∈ n := by
          rw [er, List.getElem?_append_right (by rw [← st.len]; exact Nat.le_of_not_lt hlt)] at hk
          exact List.mem_of_getElem? hk
        rw [ev]
        refine RepP.lst (fun z => st.live a z (hn a ha)) z1 (RepPs.less subU z2)
    | s xs => cases hd
theorem call_red {K : PySem.W.Frag} {f mode n : Nat} {U ρ : List Addr} {H : Hp} {S S' : Sto} {ds : List D} {vs : List V} {d : D} {Q : VK} (st : StOk U K ρ S H) (r : RepDs U K ρ H ds vs) (ar : ∀ ds S r, F f ds S = some r → ds.length = n) (hm : callD F f mode ds S = some (d, S'))
    (q : ∀ U' ρ' H' v, Ext U ρ H U' ρ' H' → StOk U' K ρ' S' H' → RepD U' K ρ' H' d v → Q v H') : spD K n (F f) vs H Q E0 := by
  unfold callD at hm
  split at hm
  · simp only [Option.bind_eq_some_iff, Option.map_eq_some_iff] at hm
    obtain ⟨xs, hx, ⟨d1, S1⟩, h1, d2, h2, e1⟩ := hm
    cases e1
    have r2 := pursD_rep hx r
    have st0 : StOk U K [] [] H := ⟨rfl, List.nodup_nil, fun a h => (by simp at h), st.live, fun n a m h => by simp at h⟩
    refine ⟨U, [], [], xs.map D.p, d1, S1, ar _ _ _ h1, st0, r2.ds (U' := U) (ρ' := ρ), h1, fun U' ρ' H' v e1 s1 r1 => ?_⟩
    obtain ⟨b1, b2, b3⟩ := back_ok st0 e1 s1 r1 (Nat.zero_le _) rfl h2
    have gr := e1.keepAll
    refine q U ρ H' v (.grow gr) (st.grow gr) ?_
    cases d with
    | p x => exact b3
    | r k => obtain ⟨_, _, z⟩ := b3; simp at z
    | s xs => exact b3
  · simp only [Option.bind_eq_some_iff] at hm
    obtain ⟨⟨d1, S1⟩, h1, h2⟩ := hm
    split at h2
    · rename_i hc
      rw [Bool.and_eq_true] at hc
      obtain ⟨d2, h3, e1⟩ := Option.map_eq_some_iff.mp h2
      cases e1
      refine ⟨U, ρ, S, ds, d1, S1, ar _ _ _ h1, st, r, h1, fun U' ρ' H' v e1 s1 r1 => ?_⟩
      obtain ⟨b1, b2, b3⟩ := back_ok st e1 s1 r1 (of_decide_eq_true hc.1) hc.2 h3
      exact q U ρ H' v b1 b2 b3
    · cases h2
  · exact ⟨U, ρ, S, ds, d, S', ar _ _ _ hm, st, r, hm, q⟩
theorem e_cal (f mode : Nat) {es : C} (ha : OkA G F Gc es) : OkE G F Gc (.cal f mode es) := by
  intro X T e g m h
  cases e with
  | Call fn args kws p =>
    cases fn with
    | Name x p2 =>
      cases kws with
      | cons _ _ => simp [chkE] at h
      | nil =>
        simp only [chkE, Bool.and_eq_true, decide_eq_true_eq] at h
        obtain ⟨⟨⟨h1, h2⟩, h3⟩, h4⟩ := h
        obtain ⟨a1, a2, _⟩ := ha X T args g m h4
        obtain ⟨n1, n2, _⟩ := nm3 h3
        obtain ⟨k, a, fd, ps, f1, f2, f3, f4, f5, f6, _⟩ := g.fns f x h1
        have red : ∀ (σ : L2.St) (H : Hp) (Q : VK), tE X.K (denE F Gc (.cal f mode es)) σ H Q → (tA X.K (denA F Gc es)) σ H fun vs H1 => spD X.K ps.length (F f) vs H1 Q E0 := by
          rintro σ H Q ⟨U, ρ, env, S, d, S', he, hs, hm, q⟩
          simp only [denE, Option.bind_eq_some_iff] at hm
          obtain ⟨⟨ds, S1⟩, m1, hm⟩ := hm
          refine ⟨U, ρ, env, S, ds, S1, he, hs, m1, fun U1 ρ1 H1 vs e1 s1 r1 => ?_⟩
          exact call_red s1 r1 f6 hm fun U' ρ' H' v e2 s2 r2 => q _ _ _ _ (e1.trans e2) s2 r2
        refine mkE rfl ?_ (fun _ => rfl) (fun _ _ _ z => by cases z)
        cases args with
        | nil =>
          refine PE.imp (pe_callG0 f5 f4 g.gu (m.gl h2) f1 f2 f3 n1) fun σ H Q q => ?_
          obtain ⟨U, ρ, env, S, ds, S1, he, hs, m1, q⟩ := red σ H Q q
          cases es with
          | nil => cases m1; exact q U ρ H [] (.refl _ _ _) hs .nil
          | _ => simp [chkA] at h4
        | cons e0 er =>
          rw [List.all_cons, Bool.and_eq_true] at a2
          exact PE.imp (pe_callG f5 f4 g.gu (m.gl h2) f1 f2 f3 a1 n1 (star_of a2.1) (star_any a2.2)) fun σ H Q q => red σ H Q q
    | _ => simp [chkE] at h
  | _ => simp [chkE] at h
end
end DS
set_option maxRecDepth 100000
set_option maxHeartbeats 4000000
namespace DS
open PySem PySem.Spec L2
section
variable {U ρ : List Addr} {K : PySem.W.Frag} {H : Hp} {S : Sto}
theorem atI_rep {xs : List P} {vs : List V} {i : Int} {x : P} (r : RepPs U K H xs vs) (h : atI xs i = some x) : ∃ v, atI vs i = some v ∧ RepP U K H x v := by
  unfold atI at h ⊢
  rw [← r.length]
  obtain ⟨j, h1, h2⟩ := Option.bind_eq_some_iff.mp h
  obtain ⟨v, h3, h4⟩ := r.get h2
  exact ⟨v, by rw [h1]; exact h3, h4⟩
theorem cutP_rep {xs : List P} {vs : List V} (lo hi : Option Int) (r : RepPs U K H xs vs) : RepPs U K H (cutP xs lo hi) (cutV vs lo hi) := by
  unfold cutP cutV
  rw [r.length]
  exact (r.drop _).take _
theorem key_rep {x : P} {y : V} {k : Key} (h : keyP x = some k) (r : RepP U K H x y) : y = kV k := by
  cases r <;> first
    | (cases h; rfl)
    | (simp [keyP] at h; done)
theorem keyT1_rep {x : P} {y : V} {k : Key} (h : keyT1 x = some k) (r : RepP U K H x y) : y = kV k := by
  cases r <;> first
    | (cases h; rfl)
    | (simp [keyT1] at h; done)
theorem keyTs_rep : ∀ {xs : List P} {ys : List V} {ks : List Key}, keyTs xs = some ks → RepPs U K H xs ys → ys = ks.map kV
  | _, _, ks, h, .nil => by cases h; rfl
  | x :: xs, _, ks, h, .cons r t => by
    simp only [keyTs, Option.bind_eq_some_iff, Option.map_eq_some_iff] at h
    obtain ⟨k, h1, ks', h2, rfl⟩ := h
    rw [keyT1_rep h1 r, keyTs_rep h2 t]; rfl
theorem keyT_rep {x : P} {y : V} {ks : List Key} (h : keyT x = some ks) (r : RepP U K H x y) : ∃ b, y = .ref b ∧ H b = some (.tup (ks.map kV)) := by
  cases r with
  | @tup a xs ds h1 h2 =>
    have h : (match KTon with | true => none | false => keyTs ds) = some ks := h
    split at h
    · cases h
    · rename_i hk
      rcases h1 with h1 | h1
      · exact ⟨_, rfl, by rw [← keyTs_rep h h2]; exact h1.2⟩
      · have := h1.1
        rw [hk] at this
        cases this
  | _ => cases h
theorem dGet_rep {κ : Type} [DecidableEq κ] {kvs : List (κ × D)} {ws : List (κ × V)} {k : κ} (r : RepKv U K ρ H kvs ws) : (∀ d, dGet kvs k = some d → ∃ v, valV ws k = some v ∧ RepD U K ρ H d v) ∧ (dGet kvs k).isSome = (valV ws k).isSome := by
  unfold RepKv at r
  induction r with
  | nil => exact ⟨fun d h => (by cases h), rfl⟩
  | @cons a b as bs hab t ih =>
    by_cases e : a.1 = k
    · have e2 : b.1 = k := by rw [← hab.1]; exact e
      rw [valV_pos e2]
      have e3 : dGet (a :: as) k = some a.2 := by simp [dGet, List.find?_cons, e]
      rw [e3]
      exact ⟨fun d h => by cases h; exact ⟨_, rfl, hab.2⟩, rfl⟩
    · have e2 : ¬ b.1 = k := by rw [← hab.1]; exact e
      rw [valV_neg e2]
      have e3 : dGet (a :: as) k = dGet as k := by simp [dGet, List.find?_cons, e]
      rw [e3]
      exact ih
theorem dPut_rep {κ : Type} [DecidableEq κ] {kvs : List (κ × D)} {ws : List (κ × V)} {k : κ} {d : D} {v : V} (r : RepKv U K ρ H kvs ws) (rd : RepD U K ρ H d v) : RepKv U K ρ H (dPut kvs k d) (putK ws k v) := by
  have any : ∀ {kvs : List (κ × D)} {ws : List (κ × V)}, RepKv U K ρ H kvs ws → (kvs.any fun kv => decide (kv.1 = k)) = (ws.any fun kv => decide (kv.1 = k)) := by
    intro kvs ws r
    unfold RepKv at r
    induction r with
    | nil => rfl
    | cons h t ih => rw [List.any_cons, List.any_cons, ih, h.1]
  unfold dPut putK
  rw [any r]
  split
  · rename_i hc
    clear hc any
    unfold RepKv at r ⊢
    induction r with
    | nil => exact .nil
    | @cons a b as bs h t ih =>
      rw [List.map_cons, List.map_cons]
      refine .cons ?_ ih
      by_cases e : a.1 = k
      · have e2 : b.1 = k := by rw [← h.1]; exact e
        rw [if_pos e, if_pos e2]
        exact ⟨h.1, rd⟩
      · have e2 : ¬ b.1 = k := by rw [← h.1]; exact e
        rw [if_neg e, if_neg e2]
        exact h
  · rename_i hc
    unfold RepKv at r ⊢
    clear any hc
    induction r with
    | nil => exact .cons ⟨rfl, rd⟩ .nil
    | cons h t ih => exact .cons h ih
theorem RepKv.len {κ : Type} {kvs : List (κ × D)} {ws : List (κ × V)} (r : RepKv U K ρ H kvs ws) : kvs.length = ws.length := by
  unfold RepKv at r
  induction r with
  | nil => rfl
  | cons _ _ ih => rw [List.length_cons, List.length_cons, ih]
theorem ix_one {α : Type} : ∀ {l : List α} {i j : Nat} {x : α}, l.Nodup → l[i]? = some x → l[j]? = some x → i = j
  | [], _, _, _, _, h, _ => by simp at h
  | _ :: _, 0, 0, _, _, _, _ => rfl
  | y :: l, 0, j + 1, x, nd, h1, h2 => by
    simp at h1 h2
    subst h1
    exact absurd (List.mem_of_getElem? h2) (List.nodup_cons.mp nd).1
  | y :: l, i + 1, 0, x, nd, h1, h2 => by
    simp at h1 h2
    subst h2
    exact absurd (List.mem_of_getElem? h1) (List.nodup_cons.mp nd).1
  | y :: l, i + 1, j + 1, x, nd, h1, h2 => by
    simp at h1 h2
    rw [ix_one (List.nodup_cons.mp nd).2 h1 h2]
theorem set_own {n : Nat} {a : Addr} {o : HO} {mo : MO} (st : StOk U K ρ S H) (ha : ρ[n]? = some a) (hn : (S[n]?).isSome = true)
    (new : Ext U ρ H U ρ (upd H a o) → MOk U K ρ (upd H a o) a mo) : Ext U ρ H U ρ (upd H a o) ∧ StOk U K ρ (S.set n mo) (upd H a o) := by
  have hm : a ∈ ρ := List.mem_of_getElem? ha
  have e : Ext U ρ H U ρ (upd H a o) := by
    refine ⟨⟨[], by simp, by simp, by simp⟩, fun b u h hb => ?_, fun b h => ?_⟩
    · rw [upd_ne (fun z => hb (by rw [z]; exact hm))]; exact h
    · by_cases z : b = a
      · rw [z, upd_same]; simp
      · rw [upd_ne z]; exact h
  refine ⟨e, ⟨by rw [List.length_set]; exact st.len, st.nd, st.sub, fun b hb => e.live b (st.live b hb), fun k b m h1 h2 => ?_⟩⟩
  by_cases hk : k = n
  · subst hk
    rw [ha] at h1
    cases h1
    obtain ⟨x, hx⟩ := Option.isSome_iff_exists.mp hn
    rw [List.getElem?_set_self (List.getElem?_eq_some_iff.mp hx).1] at h2
    cases h2
    exact new e
  · rw [List.getElem?_set_ne (Ne.symm hk)] at h2
    have nb : b ≠ a := fun z => by
      subst z
      exact hk (ix_one st.nd h1 ha)
    exact (st.at_ k b m h1 h2).grow e st.sub fun u hu => by rw [upd_ne nb]; exact hu
theorem own_lst {n : Nat} {a : Addr} {xs : List P} (st : StOk U K ρ S H) (ha : ρ[n]? = some a) (hs : snapM S[n]? = some (.list xs)) : (S[n]?).isSome = true ∧ ∃ vs, H a = some (.lst vs) ∧ RepPs U K H xs vs := by
  obtain ⟨ys, e, q⟩ := snapM_some hs
  cases q
  exact ⟨by rw [e]; rfl, st.at_ n a _ ha e⟩
end
theorem RepPs.dropLast {U : List Addr} {K : PySem.W.Frag} {H : Hp} {ds : List P} {vs : List V} (r : RepPs U K H ds vs) : RepPs U K H ds.dropLast vs.dropLast := by
  rw [List.dropLast_eq_take, List.dropLast_eq_take, r.length]
  exact r.take _
theorem RepPs.eraseIdx {U : List Addr} {K : PySem.W.Frag} {H : Hp} : ∀ {ds : List P} {vs : List V} (i : Nat), RepPs U K H ds vs → RepPs U K H (ds.eraseIdx i) (vs.eraseIdx i)
  | _, _, _, .nil => .nil
  | _, _, 0, .cons _ t => t
  | _, _, i + 1, .cons r t => .cons r (RepPs.eraseIdx i t)
section
variable {X : Cx}
theorem boot_bi (b : BI) : bootBuiltins (biN b) = some (biV b) := by cases b <;> decide +kernel
theorem bi_names (b : BI) : biN b ≠ ("__name__" : Str) ∧ (biN b == ("__debug__" : Str)) = false := by cases b <;> decide +kernel
theorem bi_mem (b : BI) : biN b ∈ (["len", "int", "abs", "max", "min", "sum", "any", "all", "tuple", "list", "str", "repr", "sorted", "isinstance", "range", "enumerate", "zip", "bool", "dict"] : List Str) := by
  cases b <;> simp [biN]
theorem bi_pe {b : BI} {r : List V → Hp → VK → Prop} {e : Expr} {es : List Expr} {t : TA} {p pos : Pos} (hc : CallR X (biV b) r) (hg : Gl X (biN b)) (hm : X.mg (biN b) = none) (ha : PA X (e :: es) t)
    (he : starEach (e :: es) X.env = (false, eval e X.env) :: starEach es X.env) (hpl : (backTo pos (starEach es X.env)).any (·.1) = false) : PE X (.Call (.Name (biN b) p) (e :: es) [] pos) (tCB r t) := by
  obtain ⟨n1, n2⟩ := bi_names b
  have hb := boot_bi b
  have byB : ∀ id, biV b = .builtin id → PE X (.Call (.Name (biN b) p) (e :: es) [] pos) (tCB r t) := fun id z => by
    rw [z] at hc hb
    exact pe_callB hc hg hm hb ha n1 n2 he hpl
  have byT : ∀ id, biV b = .type id → PE X (.Call (.Name (biN b) p) (e :: es) [] pos) (tCB r t) := fun id z => by
    rw [z] at hc hb
    exact pe_callTy hc hg hm hb ha n1 n2 he hpl
  cases b <;> first | exact byB _ rfl | exact byT _ rfl
def rBF (K : PySem.W.Frag) (b : BI) : List V → Hp → VK → Prop := fun vs H Q => ∃ U ρ S ds xs ys, StOk U K ρ S H ∧ RepDs U K ρ H ds vs ∧ snaps S ds = some xs ∧ biF b xs = some (.list ys) ∧
  ∀ p ws, H p = none → RepPs U K H ys ws → Q (.ref p) (upd H p (.lst ws))
theorem lst_RF : CallR X (biV .lst) (rBF X.K .lst) := by
  intro pins s σ H vs us Q I rv ⟨U, ρ, S, ds, xs, ys, st, rd, hs, hz, q⟩
  rcases xs with _ | ⟨x, _ | ⟨y, r⟩⟩
  · simp [biF] at hz
  · obtain ⟨d, v, rfl, rfl, h1, r1⟩ := snaps1 hs rd
    cases x with
    | list l =>
      cases hz
      obtain ⟨a, ws, rfl, t, l1⟩ := snap_list st h1 r1
      exact call_list_of pins s σ H _ us Q I rv ⟨a, ws, rfl, .inl t, fun p hp => q p ws hp l1⟩
    | tuple l =>
      cases hz
      obtain ⟨a, ws, rfl, t, l1⟩ := snap_tup h1 r1
      exact call_list_of pins s σ H _ us Q I rv ⟨a, ws, rfl, .inr t, fun p hp => q p ws hp l1⟩
    | _ => simp [biF] at hz
  · simp [biF] at hz
theorem srt_RF (hu : X.A.units + 100 < cLine) : CallR X (biV .srt) (rBF X.K .srt) := by
  intro pins s σ H vs us Q I rv ⟨U, ρ, S, ds, xs, ys, st, rd, hs, hz, q⟩
  rcases xs with _ | ⟨x, _ | ⟨y, r⟩⟩
  · simp [biF] at hz
  · obtain ⟨d, v, rfl, rfl, h1, r1⟩ := snaps1 hs rd
    cases x with
    | list l =>
      obtain ⟨hok, e⟩ := onI_some (show onI (srtOk l) (.list (sortD l)) = some (.list ys) from hz)
      cases e
      obtain ⟨a, ws, rfl, t, l1⟩ := snap_list st h1 r1
      obtain ⟨b1, b2, b3, b4⟩ := srt_rep l1 (srtOk_nd hok)
      exact cr_sortedD hu pins s σ H _ us Q I rv ⟨false, a, ws.zip l, rfl, by rw [b1]; exact t, b3, by rw [b2]; exact hok, fun p hp => q p _ hp b4⟩
    | tuple l =>
      obtain ⟨hok, e⟩ := onI_some (show onI (srtOk l) (.list (sortD l)) = some (.list ys) from hz)
      cases e
      obtain ⟨a, ws, rfl, t, l1⟩ := snap_tup h1 r1
      obtain ⟨b1, b2, b3, b4⟩ := srt_rep l1 (srtOk_nd hok)
      exact cr_sortedD hu pins s σ H _ us Q I rv ⟨true, a, ws.zip l, rfl, by rw [b1]; exact t, b3, by rw [b2]; exact hok, fun p hp => q p _ hp b4⟩
    | _ => simp [biF] at hz
  · simp [biF] at hz
end
section
variable {G : GI} {F : FT} {Gc : Nat → Option P}
theorem fresh0 {U ρ U' ρ' : List Addr} {H H' : Hp} {p : Addr} (e : Ext U ρ H U' ρ' H') (hp : H' p = none) : H p = none := by
  cases q0 : H p with
  | none => rfl
  | some o => exact absurd hp (e.live p (by rw [q0]; simp))
theorem e_bi (b : BI) {es : C} (ha : OkA G F Gc es) : OkE G F Gc (.bi b es) := by
  intro X T e g m h
  cases e with
  | Call fn args kws p =>
    cases fn with
    | Name x p2 =>
      cases kws with
      | cons _ _ => simp [chkE] at h
      | nil =>
        simp only [chkE, Bool.and_eq_true, decide_eq_true_eq, Bool.not_eq_true'] at h
        obtain ⟨⟨⟨rfl, h2⟩, h3⟩, h4⟩ := h
        obtain ⟨a1, a2, _⟩ := ha X T args g m h3
        cases args with
        | nil => cases h4
        | cons e0 er =>
          rw [List.all_cons, Bool.and_eq_true] at a2
          have pe := PE.imp (bi_pe (p := p2) (pos := p) (bi_R g.calm g.un g.gu b) (m.gl h2) (g.nob _ (bi_mem b)) a1 (star_of a2.1) (star_any a2.2)) (t' := tE X.K (denE F Gc (.bi b es))) (by
            rintro σ H Q ⟨U, ρ, env, S, d, S', he, hs, hm, q⟩
            simp only [denE, Option.bind_eq_some_iff, Option.map_eq_some_iff] at hm
            obtain ⟨⟨ds, S1⟩, m1, xs, hx, z, hz, e1⟩ := hm
            cases e1
            exact ⟨U, ρ, env, S, ds, S1, he, hs, m1, fun U1 ρ1 H1 vs e1 s1 r1 => ⟨U1, ρ1, S1, ds, xs, z, s1, r1, hx, hz, fun H' v e2 s2 r2 => q _ _ _ _ (e1.trans e2) s2 r2⟩⟩)
          have pf : ∀ (hb : b = .lst ∨ b = .srt), PE X (.Call (.Name (biN b) p2) (e0 :: er) [] p) (tF X.K (denE F Gc (.bi b es))) := fun hb => by
            have hc : CallR X (biV b) (rBF X.K b) := by
              rcases hb with rfl | rfl
              · exact lst_RF
              · exact srt_RF g.un
            refine PE.imp (bi_pe (p := p2) (pos := p) hc (m.gl h2) (g.nob _ (bi_mem b)) a1 (star_of a2.1) (star_any a2.2)) ?_
            rintro σ H Q ⟨U, ρ, env, S, ys, S', he, hs, hm, q⟩
            simp only [denE, Option.bind_eq_some_iff, Option.map_eq_some_iff] at hm
            obtain ⟨⟨ds, S1⟩, m1, xs, hx, z, hz, e1⟩ := hm
            cases e1
            refine ⟨U, ρ, env, S, ds, S1, he, hs, m1, fun U1 ρ1 H1 vs e1 s1 r1 => ⟨U1, ρ1, S1, ds, xs, ys, s1, r1, hx, hz, fun p0 ws hp l1 => ?_⟩⟩
            obtain ⟨f1, f2, f3, f4⟩ := newF s1 l1 hp
            exact q _ _ _ p0 ws (e1.trans f1) (fresh0 e1 hp) f2 upd_same f3 f4
          refine ⟨pe, fun hb => ?_, pt_of pe (fun _ => rfl), fun ⟨_, _, _, z⟩ => by cases z⟩
          refine pf ?_
          cases b <;> first | exact .inl rfl | exact .inr rfl | cases hb
    | _ => simp [chkE] at h
  | _ => simp [chkE] at h
theorem ix_R {X : Cx} : IxR X (rD2 X.K snap ixP) := by
  intro va sl pins s σ H x y v u Q I rx ry ⟨U, ρ, S, d1, d2, a, b, z, st, r1, r2, h1, h2, hz, q⟩ hs
  have q0 : ∀ v, RepP U X.K H z v → Q v H := fun v r => q H v (.refl _ _ _) st r
  cases b with
  | int i =>
    have ey := snap_int h2 r2
    cases a with
    | list xs =>
      obtain ⟨p, vs, rfl, t, l1⟩ := snap_list st h1 r1
      obtain ⟨w, hw, rw'⟩ := atI_rep l1 (show atI xs i = some z from hz)
      exact ix_list va sl pins s σ H _ y v u Q I rx ry ⟨p, vs, i, w, rfl, ey, t, hw, q0 _ rw'⟩ hs
    | tuple xs =>
      obtain ⟨p, vs, rfl, t, l1⟩ := snap_tup h1 r1
      obtain ⟨w, hw, rw'⟩ := atI_rep l1 (show atI xs i = some z from hz)
      exact ix_tup va sl pins s σ H _ y v u Q I rx ry ⟨p, vs, i, w, rfl, ey, t, hw, q0 _ rw'⟩ hs
    | str xs =>
      have ex := snap_str h1 r1
      have hz : (if fitsN xs.length = true then (atI xs.cps.toList i).map fun c => PyData.str ⟨#[c]⟩ else none) = some z := hz
      by_cases hf : fitsN xs.length = true
      · rw [if_pos hf] at hz
        obtain ⟨c, hc, rfl⟩ := Option.map_eq_some_iff.mp hz
        exact ix_str va sl pins s σ H _ y v u Q I rx ry ⟨xs, i, c, ex, ey, fits_le hf, hc, q0 _ (.str _)⟩ hs
      · rw [if_neg hf] at hz; cases hz
    | _ => simp [ixP] at hz
  | _ => cases a <;> simp [ixP] at hz
theorem e_ix {a b : C} (ha : OkE G F Gc a) (hb : OkE G F Gc b) : OkE G F Gc (.ix a b) := by
  intro X T e g m h
  cases e with
  | Subscript l i p =>
    simp only [chkE, Bool.and_eq_true] at h
    obtain ⟨a1, _⟩ := ha X T l g m h.1.2
    obtain ⟨b1, _⟩ := hb X T i g m h.2
    refine mkE rfl (PE.imp (pe_ix ix_R a1 b1 (noSl_of h.1.1)) ?_) (fun _ => rfl) (fun _ _ _ z => by cases z)
    rintro σ H Q ⟨U, ρ, env, S, d, S', he, hs, hm, q⟩
    simp only [denE, Option.bind_eq_some_iff, Option.map_eq_some_iff] at hm
    obtain ⟨⟨d1, S1⟩, m1, ⟨d2, S2⟩, m2, x, hx, y, hy, z, hz, e1⟩ := hm
    cases e1
    exact seq2 he hs m1 m2 fun U2 ρ2 H2 v1 v2 e2 s2 r1 r2 => ⟨U2, ρ2, _, d1, d2, x, y, z, s2, r1, r2, hx, hy, hz, fun H' v e3 s3 r3 => q _ _ _ _ (e2.trans e3) s3 r3⟩
  | _ => simp [chkE] at h
theorem dixD_some {o i d : D} {S : Sto} (h : dixD o i S = some d) : (∃ n x kvs k, o = .r n ∧ i = .p x ∧ S[n]? = some (.dic kvs) ∧ keyP x = some k ∧ dGet kvs k = some d) ∨ ∃ n x kvs k, o = .r n ∧ i = .p x ∧ S[n]? = some (.dit kvs) ∧ keyT x = some k ∧ dGet kvs k = some d := by
  cases o with
  | r n => cases i with
    | p x =>
      have h : (match S[n]?, keyP x with | some (.dic kvs), some k => dGet kvs k | some (.dit kvs), _ => (keyT x).bind fun k => dGet kvs k | _, _ => none) = some d := h
      cases e : S[n]? with
      | none => rw [e] at h; cases h
      | some mo =>
        cases mo with
        | lst _ => rw [e] at h; cases h
        | dic kvs =>
          cases e2 : keyP x with
          | none => rw [e, e2] at h; cases h
          | some k => rw [e, e2] at h; exact .inl ⟨n, x, kvs, k, rfl, rfl, e, e2, h⟩
        | dit kvs =>
          rw [e] at h
          have h : (keyT x).bind (fun k => dGet kvs k) = some d := h
          obtain ⟨k, e2, h⟩ := Option.bind_eq_some_iff.mp h
          exact .inr ⟨n, x, kvs, k, rfl, rfl, e, e2, h⟩
    | _ => cases h
  | _ => cases h
theorem e_dix {a b : C} (ha : OkE G F Gc a) (hb : OkE G F Gc b) : OkE G F Gc (.dix a b) := by
  intro X T e g m h
  cases e with
  | Subscript l i p =>
    simp only [chkE, Bool.and_eq_true] at h
    obtain ⟨a1, _⟩ := ha X T l g m h.1.2
    obtain ⟨b1, _⟩ := hb X T i g m h.2
    refine mkE rfl (PE.imp (pe_dget (by have := g.un; omega) a1 b1 (noSl_of h.1.1)) ?_) (fun _ => rfl) (fun _ _ _ z => by cases z)
    rintro σ H Q ⟨U, ρ, env, S, d, S', he, hs, hm, q⟩
    simp only [denE, Option.bind_eq_some_iff, Option.map_eq_some_iff] at hm
    obtain ⟨⟨d1, S1⟩, m1, ⟨d2, S2⟩, m2, dd, hd, e1⟩ := hm
    cases e1
    refine seq2 he hs m1 m2 fun U2 ρ2 H2 v1 v2 e2 s2 r1 r2 => ?_
    rcases dixD_some hd with ⟨n, x, kvs, k, rfl, rfl, h3, h4, h5⟩ | ⟨n, x, kvs, k, rfl, rfl, h3, h4, h5⟩
    · obtain ⟨ad, rfl, had⟩ := r1
      obtain ⟨ws, h6, h7⟩ := s2.at_ n ad _ had h3
      obtain ⟨v, h8, h9⟩ := (dGet_rep h7).1 d h5
      have ey : v2 = kV k := key_rep h4 r2
      exact ⟨ad, v, rfl, by rw [ey, ← h8]; exact DGet.k h6, q _ _ _ _ e2 s2 h9⟩
    · obtain ⟨ad, rfl, had⟩ := r1
      obtain ⟨ws, h6, h7⟩ := s2.at_ n ad _ had h3
      obtain ⟨v, h8, h9⟩ := (dGet_rep h7).1 d h5
      obtain ⟨b, ey, hb⟩ := keyT_rep h4 r2
      exact ⟨ad, v, rfl, by rw [ey, ← h8]; exact DGet.t h6 hb, q _ _ _ _ e2 s2 h9⟩
  | _ => simp [chkE] at h
theorem dinD_some {o i : D} {z : Bool} {S : Sto} (h : dinD i o S = some z) : (∃ n x kvs k, o = .r n ∧ i = .p x ∧ S[n]? = some (.dic kvs) ∧ keyP x = some k ∧ z = (dGet kvs k).isSome) ∨ ∃ n x kvs k, o = .r n ∧ i = .p x ∧ S[n]? = some (.dit kvs) ∧ keyT x = some k ∧ z = (dGet kvs k).isSome := by
  cases o with
  | r n => cases i with
    | p x =>
      have h : (match S[n]?, keyP x with | some (.dic kvs), some k => some (dGet kvs k).isSome | some (.dit kvs), _ => (keyT x).map fun k => (dGet kvs k).isSome | _, _ => none) = some z := h
      cases e : S[n]? with
      | none => rw [e] at h; cases h
      | some mo =>
        cases mo with
        | lst _ => rw [e] at h; cases h
        | dic kvs =>
          cases e2 : keyP x with
          | none => rw [e, e2] at h; cases h
          | some k => rw [e, e2] at h; exact .inl ⟨n, x, kvs, k, rfl, rfl, e, e2, (Option.some.inj h).symm⟩
        | dit kvs =>
          rw [e] at h
          have h : (keyT x).map (fun k => (dGet kvs k).isSome) = some z := h
          obtain ⟨k, e2, h⟩ := Option.map_eq_some_iff.mp h
          exact .inr ⟨n, x, kvs, k, rfl, rfl, e, e2, h.symm⟩
    | _ => cases h
  | _ => cases h
theorem e_din (ng : Bool) {a b : C} (ha : OkE G F Gc a) (hb : OkE G F Gc b) : OkE G F Gc (.din ng a b) := by
  intro X T e g m h
  cases e with
  | Compare l os rs p =>
    rcases os with _ | ⟨o, _ | ⟨o2, os⟩⟩
    · simp [chkE] at h
    · rcases rs with _ | ⟨r, _ | ⟨r2, rs⟩⟩
      · simp [chkE] at h
      · simp only [chkE, Bool.and_eq_true, decide_eq_true_eq, Bool.not_eq_true'] at h
        obtain ⟨⟨⟨rfl, h1⟩, h2⟩, h3⟩ := h
        obtain ⟨a1, _⟩ := ha X T l g m h1
        obtain ⟨b1, _⟩ := hb X T r g m h2
        have hu : X.A.units + 1 < cLine := by have := g.un; omega
        have key : ∀ {U ρ : List Addr} {env : DEnv} {S S' : Sto} {d : D} {σ : L2.St} {H : Hp} {R : V → Hp → Prop}, EnvOk U X.K ρ H env σ → StOk U X.K ρ S H → denE F Gc (.din ng a b) env S = some (d, S') →
            (∀ U' ρ' H' z, d = .p (.bool z) → Ext U ρ H U' ρ' H' → StOk U' X.K ρ' S' H' → R (.bl z) H') →
            tE X.K (denE F Gc a) σ H fun y H1 => tE X.K (denE F Gc b) σ H1 fun x H2 => ∃ ad o, x = .ref ad ∧ DGet H2 ad y o ∧ R (.bl (if ng = true then !o.isSome else o.isSome)) H2 := by
          intro U ρ env S S' d σ H R he hs hm k
          simp only [denE, Option.bind_eq_some_iff, Option.map_eq_some_iff] at hm
          obtain ⟨⟨d1, S1⟩, m1, ⟨d2, S2⟩, m2, z, hz, e1⟩ := hm
          cases e1
          refine seq2 he hs m1 m2 fun U2 ρ2 H2 v1 v2 e2 s2 r1 r2 => ?_
          rcases dinD_some hz with ⟨n, x, kvs, kk, rfl, rfl, h3, h4, rfl⟩ | ⟨n, x, kvs, kk, rfl, rfl, h3, h4, rfl⟩
          · obtain ⟨ad, rfl, had⟩ := r2
            obtain ⟨ws, h6, h7⟩ := s2.at_ n ad _ had h3
            have ey : v1 = kV kk := key_rep h4 r1
            refine ⟨ad, valV ws kk, rfl, by rw [ey]; exact DGet.k h6, ?_⟩
            rw [← (dGet_rep h7).2]
            exact k U2 ρ2 H2 _ rfl e2 s2
          · obtain ⟨ad, rfl, had⟩ := r2
            obtain ⟨ws, h6, h7⟩ := s2.at_ n ad _ had h3
            obtain ⟨b, ey, hb⟩ := keyT_rep h4 r1
            refine ⟨ad, valV ws kk, rfl, by rw [ey]; exact DGet.t h6 hb, ?_⟩
            rw [← (dGet_rep h7).2]
            exact k U2 ρ2 H2 _ rfl e2 s2
        cases ng with
        | false =>
          refine ⟨PE.imp (pe_cmp (pc_din hu a1 b1) h3) ?_, fun z => (by cases z), PT.imp (pt_cmp (pc_din hu a1 b1) h3) ?_, fun ⟨_, _, _, z⟩ => by cases z⟩
          · rintro σ H Q ⟨U, ρ, env, S, d, S', he, hs, hm, q⟩
            exact key he hs hm fun U' ρ' H' z ed e1 s1 => by subst ed; exact q U' ρ' H' _ e1 s1 (.bl z)
          · rintro σ H Q ⟨U, ρ, env, S, d, S', he, hs, hm, q⟩
            exact key (R := fun x H1 => ∃ c, x = .bl c ∧ Q c H1) he hs hm fun U' ρ' H' z ed e1 s1 => by cases ed; exact ⟨_, rfl, q U' ρ' H' e1 s1⟩
        | true =>
          refine ⟨PE.imp (pe_cmp (pc_dnotin hu a1 b1) h3) ?_, fun z => (by cases z), PT.imp (pt_cmp (pc_dnotin hu a1 b1) h3) ?_, fun ⟨_, _, _, z⟩ => by cases z⟩
          · rintro σ H Q ⟨U, ρ, env, S, d, S', he, hs, hm, q⟩
            exact key he hs hm fun U' ρ' H' z ed e1 s1 => by subst ed; exact q U' ρ' H' _ e1 s1 (.bl z)
          · rintro σ H Q ⟨U, ρ, env, S, d, S', he, hs, hm, q⟩
            exact key (R := fun x H1 => ∃ c, x = .bl c ∧ Q c H1) he hs hm fun U' ρ' H' z ed e1 s1 => by cases ed; exact ⟨_, rfl, q U' ρ' H' e1 s1⟩
      · simp [chkE] at h
    · simp [chkE] at h
  | _ => simp [chkE] at h
def tO (K : PySem.W.Frag) (c : C) (F : FT) (Gc : Nat → Option P) : TO := fun σ H Q => ∃ U ρ env S o S', EnvOk U K ρ H env σ ∧ StOk U K ρ S H ∧ partD c (denE F Gc c env S) S = some (o, S') ∧ ∀ U' ρ' H', Ext U ρ H U' ρ' H' → StOk U' K ρ' S' H' → Q o H'
theorem PO.imp {X : Cx} {e : Option Expr} {t t' : TO} (h : PO X e t) (k : ∀ σ H Q, t' σ H Q → t σ H Q) : PO X e t' := ⟨fun pins s σ H Q I q => h.run pins s σ H Q I (k σ H Q q)⟩
theorem po_D {X : Cx} {T : TI0} {c : C} {o : Option Expr} (g : Gd G F Gc X) (m : Mt T X) (ha : OkE G F Gc c) (h : (match o with | none => isNil c | some x => !isNil c && chkE G T c x) = true) : PO X o (tO X.K c F Gc) := by
  cases o with
  | none =>
    have h : isNil c = true := h
    refine PO.imp po_none ?_
    rintro σ H Q ⟨U, ρ, env, S, o, S', he, hs, hm, q⟩
    unfold partD at hm
    rw [if_pos h] at hm
    cases hm
    exact q U ρ H (.refl _ _ _) hs
  | some x =>
    have h : (!isNil c && chkE G T c x) = true := h
    rw [Bool.and_eq_true, Bool.not_eq_true'] at h
    obtain ⟨a1, _⟩ := ha X T x g m h.2
    refine PO.imp (po_some a1) ?_
    rintro σ H Q ⟨U, ρ, env, S, o, S', he, hs, hm, q⟩
    unfold partD at hm
    rw [if_neg (by rw [h.1]; simp)] at hm
    obtain ⟨⟨d1, S1⟩, m1, hm⟩ := Option.bind_eq_some_iff.mp hm
    cases d1 with
    | p y => cases y with
      | int i =>
        cases hm
        refine seq1 he hs m1 fun U1 ρ1 H1 v1 e1 s1 r1 => ?_
        have r1 : RepP U1 X.K H1 (.int i) v1 := r1
        cases r1
        exact ⟨i, rfl, q _ _ _ e1 s1⟩
      | _ => cases hm
    | _ => cases hm
def rSlD (K : PySem.W.Frag) : V → Option Int → Option Int → Hp → VK → Prop := fun x lo hi H Q => ∃ U ρ S d a z, StOk U K ρ S H ∧ RepD U K ρ H d x ∧ snap S d = some a ∧ slP lo hi a = some z ∧ ∀ H' v, Ext U ρ H U ρ H' → StOk U K ρ S H' → RepP U K H' z v → Q v H'
theorem cut_all {xs : List P} {lo hi : Option Int} (h1 : HT.sIx xs.length 0 lo = 0) (h2 : HT.sIx xs.length xs.length hi = xs.length) : cutP xs lo hi = xs := by
  unfold cutP
  rw [h1, h2]
  simp
theorem sl_R {X : Cx} : SlR X (rSlD X.K) := by
  intro pins s σ H x v vl vu lo hi sl Q I rx hs pl pu ⟨U, ρ, S, d, a, z, st, r1, h1, hz, q⟩
  cases a with
  | list xs =>
    cases hz
    obtain ⟨p, vs, rfl, t, l1⟩ := snap_list st h1 r1
    refine sl_list pins s σ H _ v vl vu lo hi sl Q I rx hs pl pu ⟨p, vs, rfl, t, fun p0 hp => ?_⟩
    obtain ⟨f1, f2, f3⟩ := newL st (cutP_rep lo hi l1) hp
    exact q _ _ f1 f2 f3
  | tuple xs =>
    cases hz
    obtain ⟨p, vs, ev, t, l1⟩ := snap_tup h1 r1
    subst ev
    refine sl_tupA pins s σ H _ v vl vu lo hi sl Q I rx hs pl pu ⟨p, vs, rfl, t, fun ⟨e1, e2⟩ => ?_, fun ne p0 hp => ?_⟩
    · rw [← l1.length] at e1 e2
      refine q H _ (.refl _ _ _) st ?_
      rw [cut_all e1 e2]
      cases d with
      | p y => cases h1; exact r1
      | r n => obtain ⟨ys, _, e⟩ := snapM_some (show snapM S[n]? = _ from h1); cases e
      | s ys => cases h1
    · obtain ⟨f1, f2, f3⟩ := newT st (cutP_rep lo hi l1) hp
      exact q _ _ f1 f2 f3
  | str y =>
    obtain ⟨hf, rfl⟩ := onI_some (show onI (fitsN y.length) (.str (cutS y lo hi)) = some z from hz)
    exact sl_str pins s σ H _ v vl vu lo hi sl Q I rx hs pl pu ⟨y, snap_str h1 r1, fits_le hf, q H _ (.refl _ _ _) st (.str _)⟩
  | _ => simp [slP] at hz
def rSlF (K : PySem.W.Frag) : V → Option Int → Option Int → Hp → VK → Prop := fun x lo hi H Q => ∃ U ρ S d a xs, StOk U K ρ S H ∧ RepD U K ρ H d x ∧ snap S d = some a ∧ slP lo hi a = some (.list xs) ∧ ∀ p ws, H p = none → RepPs U K H xs ws → Q (.ref p) (upd H p (.lst ws))
theorem sl_RF {X : Cx} : SlR X (rSlF X.K) := by
  intro pins s σ H x v vl vu lo hi sl Q I rx hs pl pu ⟨U, ρ, S, d, a, xs, st, r1, h1, hz, q⟩
  cases a with
  | list xs =>
    cases hz
    obtain ⟨p, vs, rfl, t, l1⟩ := snap_list st h1 r1
    exact sl_list pins s σ H _ v vl vu lo hi sl Q I rx hs pl pu ⟨p, vs, rfl, t, fun p0 hp => q p0 _ hp (cutP_rep lo hi l1)⟩
  | str y =>
    obtain ⟨_, e⟩ := onI_some (show onI (fitsN y.length) (.str (cutS y lo hi)) = some (.list xs) from hz)
    cases e
  | _ => simp [slP] at hz
theorem sl_red {K : PySem.W.Frag} {a lo hi : C} {U ρ : List Addr} {env : DEnv} {S S1 S2 S3 : Sto} {d : D} {ol oh : Option Int} {σ : L2.St} {H : Hp} {R : V → Option Int → Option Int → Hp → Prop} (he : EnvOk U K ρ H env σ) (hs : StOk U K ρ S H) (m1 : denE F Gc a env S = some (d, S1))
    (m2 : partD lo (denE F Gc lo env S1) S1 = some (ol, S2)) (m3 : partD hi (denE F Gc hi env S2) S2 = some (oh, S3)) (k : ∀ U' ρ' H' v, Ext U ρ H U' ρ' H' → StOk U' K ρ' S3 H' → RepD U' K ρ' H' d v → R v ol oh H') :
    tE K (denE F Gc a) σ H fun x H1 => tO K lo F Gc σ H1 fun l H2 => tO K hi F Gc σ H2 fun u H3 => R x l u H3 :=
  seq1 he hs m1 fun U1 ρ1 H1 v1 e1 s1 r1 => ⟨U1, ρ1, env, S1, ol, S2, he.mono e1 hs.sub, s1, m2, fun U2 ρ2 H2 e2 s2 =>
    ⟨U2, ρ2, env, S2, oh, S3, (he.mono e1 hs.sub).mono e2 s1.sub, s2, m3, fun U3 ρ3 H3 e3 s3 => k U3 ρ3 H3 v1 ((e1.trans e2).trans e3) s3 ((r1.mono e2 s1.sub).mono e3 s2.sub)⟩⟩
theorem e_sl {a lo hi : C} (ha : OkE G F Gc a) (hl : OkE G F Gc lo) (hh : OkE G F Gc hi) : OkE G F Gc (.sl a lo hi) := by
  intro X T e g m h
  cases e with
  | Subscript l i p =>
    cases i with
    | Slice l0 h0 st p2 =>
      cases st with
      | some _ => simp [chkE] at h
      | none =>
        simp only [chkE, Bool.and_eq_true] at h
        obtain ⟨a1, _⟩ := ha X T l g m h.1.1
        have b1 := po_D g m hl h.1.2
        have c1 := po_D g m hh h.2
        refine mkN (PE.imp (pe_slice sl_R a1 b1 c1) ?_) (PE.imp (pe_slice sl_RF a1 b1 c1) ?_) (fun _ => rfl) (fun _ _ _ z => by cases z)
        · rintro σ H Q ⟨U, ρ, env, S, d, S', he, hs, hm, q⟩
          simp only [denE, Option.bind_eq_some_iff, Option.map_eq_some_iff] at hm
          obtain ⟨⟨d1, S1⟩, m1, ⟨ol, S2⟩, m2, ⟨oh, S3⟩, m3, x, hx, z, hz, e1⟩ := hm
          cases e1
          exact sl_red he hs m1 m2 m3 fun U' ρ' H' v e1 s1 r1 => ⟨U', ρ', S3, d1, x, z, s1, r1, hx, hz, fun H2 v2 e2 s2 r2 => q _ _ _ _ (e1.trans e2) s2 r2⟩
        · rintro σ H Q ⟨U, ρ, env, S, xs, S', he, hs, hm, q⟩
          simp only [denE, Option.bind_eq_some_iff, Option.map_eq_some_iff] at hm
          obtain ⟨⟨d1, S1⟩, m1, ⟨ol, S2⟩, m2, ⟨oh, S3⟩, m3, x, hx, z, hz, e1⟩ := hm
          cases e1
          refine sl_red he hs m1 m2 m3 fun U' ρ' H' v e1 s1 r1 => ⟨U', ρ', S3, d1, x, xs, s1, r1, hx, hz, fun p0 ws hp l1 => ?_⟩
          obtain ⟨f1, f2, f3, f4⟩ := newF s1 l1 hp
          exact q _ _ _ p0 ws (e1.trans f1) (fresh0 e1 hp) f2 upd_same f3 f4
    | _ => simp [chkE] at h
  | _ => simp [chkE] at h
end
end DS
set_option maxRecDepth 100000
set_option maxHeartbeats 4000000
namespace DS
open PySem PySem.Spec L2
structure Mv (U ρ : List Addr) (H : Hp) (U' ρ' : List Addr) (H' : Hp) : Prop where
  notin : ∀ a, a ∉ U → H a ≠ none → a ∉ U'
  keep : ∀ a o, H a = some o → a ∉ U → H' a = some o
  pre : ∀ (n : Nat) (a : Addr), ρ[n]? = some a → ρ'[n]? = some a
section
variable {U ρ U' ρ' : List Addr} {K : PySem.W.Frag} {H H' : Hp} {S : Sto}
theorem Mv.rd (e : Mv U ρ H U' ρ' H') {a : Addr} {u : HO} (h : a ∉ U) (r : Rd H a u) : Rd H' a u := by
  rcases r with r | ⟨o, r⟩
  · exact .inl (e.keep a _ r h)
  · exact .inr ⟨o, e.keep a _ r h⟩
mutual
theorem RepP.mv (e : Mv U ρ H U' ρ' H') : ∀ {d : P} {v : V}, RepP U K H d v → RepP U' K H' d v
  | _, _, .non => .non
  | _, _, .bl b => .bl b
  | _, _, .int i => .int i
  | _, _, .str x => .str x
  | _, _, .lst h r q => .lst (e.notin _ h (by rw [r]; simp)) (e.keep _ _ r h) (RepPs.mv e q)
  | _, _, .tup (.inl ⟨h, r⟩) q => .tup (.inl ⟨e.notin _ h (by rw [r]; simp), e.keep _ _ r h⟩) (RepPs.mv e q)
  | _, _, .tup (.inr h) q => .tup (.inr h) (RepPs.mv e q)
  | _, _, .dic h r q => .dic (e.notin _ h (by rw [r]; simp)) (e.keep _ _ r h) (RepPs.mv e q)
theorem RepPs.mv (e : Mv U ρ H U' ρ' H') : ∀ {ds : List P} {vs : List V}, RepPs U K H ds vs → RepPs U' K H' ds vs
  | _, _, .nil => .nil
  | _, _, .cons h t => .cons (RepP.mv e h) (RepPs.mv e t)
end
theorem RepD.mv (e : Mv U ρ H U' ρ' H') {d : D} {v : V} (h : RepD U K ρ H d v) : RepD U' K ρ' H' d v := by
  cases d with
  | p x => exact RepP.mv e h
  | r n =>
    obtain ⟨a, ev, h⟩ := h
    exact ⟨a, ev, e.pre n a h⟩
  | s xs =>
    obtain ⟨a, vs, ev, h1, h3⟩ := h
    exact ⟨a, vs, ev, h1.imp (fun y => ⟨e.notin a y.1 (rd_live y.2), e.rd y.1 y.2⟩) id, RepPs.mv e h3⟩
theorem RepDs.mv (e : Mv U ρ H U' ρ' H') : ∀ {ds : List D} {vs : List V}, RepDs U K ρ H ds vs → RepDs U' K ρ' H' ds vs
  | _, _, .nil => .nil
  | _, _, .cons h t => .cons (RepD.mv e h) (RepDs.mv e t)
theorem EnvOk.mv (e : Mv U ρ H U' ρ' H') {env : DEnv} {σ : L2.St} (h : EnvOk U K ρ H env σ) : EnvOk U' K ρ' H' env σ :=
  ⟨h.1, fun i d hi => let ⟨v, h1, h2⟩ := h.2 i d hi; ⟨v, h1, RepD.mv e h2⟩⟩
theorem LAt.mv (e : Mv U ρ H U' ρ' H') {s : Src} {a : Addr} (h : LAt U K ρ H s a) : LAt U' K ρ' H' s a := by
  cases h with
  | lst h q => exact .lst (h.imp (fun y => ⟨e.notin _ y.1 (rd_live y.2), e.rd y.1 y.2⟩) id) (RepPs.mv e q)
  | own h => exact .own (e.pre _ _ h)
theorem TAt.mv (e : Mv U ρ H U' ρ' H') {s : Src} {a : Addr} (h : TAt U K H s a) : TAt U' K H' s a := by
  obtain ⟨h, q⟩ := h
  refine .mk ?_ (RepPs.mv e q)
  rcases h with ⟨h, r⟩ | h
  · exact .inl ⟨e.notin _ h (rd_live r), e.rd h r⟩
  · exact .inr h
theorem SAt.mv (e : Mv U ρ H U' ρ' H') {k : Bool} {s : Src} {a : Addr} (h : SAt U K ρ H k s a) : SAt U' K ρ' H' k s a := by
  cases k
  · exact LAt.mv e h
  · exact TAt.mv e h
theorem SrcAt.mv (e : Mv U ρ H U' ρ' H') {s : Src} {J : It} (h : SrcAt U K ρ H s J) : SrcAt U' K ρ' H' s J := by
  cases h with
  | l h => exact .l (h.mv e)
  | t h => exact .t (h.mv e)
  | x z => exact .x z
  | r lo n => exact .r lo n
  | rc lo c n => exact .rc lo c n
  | el h => exact .el (h.mv e)
  | et h => exact .et (h.mv e)
  | zm k1 k2 h k => exact .zm k1 k2 (SAt.mv e h) (SAt.mv e k)
theorem Mv.at_ {p : Addr} {o : HO} (hp : p ∈ U) : Mv U ρ H U ρ (upd H p o) := ⟨fun _ h _ => h, fun a u h hu => by rw [upd_ne (fun z => hu (by rw [z]; exact hp))]; exact h, fun _ _ h => h⟩
theorem MOk.mv (e : Mv U ρ H U' ρ' H') {a : Addr} (k : ∀ o, H a = some o → H' a = some o) : ∀ {m : MO}, MOk U K ρ H a m → MOk U' K ρ' H' a m
  | .lst _, ⟨vs, h, r⟩ => ⟨vs, k _ h, RepPs.mv e r⟩
  | .dic _, ⟨ws, h, r⟩ => ⟨ws, k _ h, Paired.mapP r fun p q z => ⟨z.1, RepD.mv e z.2⟩⟩
  | .dit _, ⟨ws, h, r⟩ => ⟨ws, k _ h, Paired.mapP r fun p q z => ⟨z.1, RepD.mv e z.2⟩⟩
theorem StOk.at_p {p : Addr} {o : HO} (st : StOk U K ρ S H) (hp : p ∈ U) (hr : p ∉ ρ) : StOk U K ρ S (upd H p o) :=
  ⟨st.len, st.nd, st.sub, fun a ha => by
    by_cases z : a = p
    · rw [z, upd_same]; simp
    · rw [upd_ne z]; exact st.live a ha, fun n a m h1 h2 => (st.at_ n a m h1 h2).mv (.at_ hp) fun u hu => by rw [upd_ne (fun z => hr (by rw [← z]; exact List.mem_of_getElem? h1))]; exact hu⟩
theorem Mv.add {p : Addr} {o : HO} (hp : H p = none) : Mv U ρ H (U ++ [p]) ρ (upd H p o) :=
  ⟨fun a h hl => by
    intro hm
    rcases List.mem_append.mp hm with z | z
    · exact h z
    · rw [List.mem_singleton.mp z] at hl; exact hl hp, fun a u h _ => grow_new hp a u h, fun _ _ h => h⟩
theorem StOk.add {p : Addr} {o : HO} (st : StOk U K ρ S H) (hp : H p = none) : StOk (U ++ [p]) K ρ S (upd H p o) :=
  ⟨st.len, st.nd, fun a ha => List.mem_append_left _ (st.sub a ha), fun a ha => by
    rcases List.mem_append.mp ha with h | h
    · exact (Ext.grow (U := U) (ρ := ρ) (grow_new hp)).live a (st.live a h)
    · rw [List.mem_singleton.mp h, upd_same]; simp, fun n a m h1 h2 => (st.at_ n a m h1 h2).mv (.add hp) (grow_new hp a)⟩
theorem Mv.same (h : ∀ a, a ∈ U' → a ∈ U) : Mv U ρ H U' ρ H := ⟨fun a h1 _ z => h1 (h a z), fun _ _ h _ => h, fun _ _ h => h⟩
theorem StOk.same (st : StOk U K ρ S H) (h : ∀ a, a ∈ U' → a ∈ U) (h2 : ∀ a, a ∈ U → a ∈ U') : StOk U' K ρ S H := st.less h fun a ha => h2 a (st.sub a ha)
theorem Ext.mv (e : Ext U ρ H U' ρ' H') (sub : ∀ a, a ∈ ρ → a ∈ U) : Mv U ρ H U' ρ' H' := by
  obtain ⟨n, eu, er, hn⟩ := e.nw
  exact ⟨fun a h1 h2 => e.notin h1 h2, fun a o h1 h2 => e.keep a o h1 fun z => h2 (sub a z), fun k a h => by rw [er, List.getElem?_append_left (List.getElem?_eq_some_iff.mp h).1]; exact h⟩
end
def meId : ME → String
  | .append => "list.append" | .extend => "list.extend" | .pop0 => "list.pop" | .pop1 => "list.pop" | .insert => "list.insert" | .cntT => "tuple.count" | .cntL => "list.count"
def rMt (K : PySem.W.Frag) (mt : ME) : V → List V → Hp → VK → Prop := fun x vs H Q => ∃ U ρ S d ds d' S', StOk U K ρ S H ∧ RepD U K ρ H d x ∧ RepDs U K ρ H ds vs ∧ mthD mt d ds S = some (d', S') ∧
  ∀ H' v, Ext U ρ H U ρ H' → StOk U K ρ S' H' → RepD U K ρ H' d' v → Q v H'
section
variable {X : Cx}
theorem mt_R (mt : ME) : MtR X (meId mt) (rMt X.K mt) := by
  intro pins s σ H x vs v us Q I rx rv ⟨U, ρ, S, d, ds, d', S', st, r1, r2, hm, q⟩
  cases mt with
  | append =>
    unfold mthD at hm
    cases d with
    | r n =>
      obtain ⟨a, rfl, ha⟩ := r1
      rcases ds with _ | ⟨d1, _ | ⟨d2, ds⟩⟩
      · cases hm
      · cases d1 with
        | p y =>
          cases r2 with
          | cons ry rt =>
            cases rt
            have hm : (match snapM S[n]? with | some (.list xs) => if xs.length < 16777216 then some (D.p .none, S.set n (.lst (xs ++ [y]))) else none | _ => none) = some (d', S') := hm
            split at hm
            · rename_i xs e
              split at hm
              · rename_i hl
                cases hm
                obtain ⟨i1, ws, h1, h2⟩ := own_lst st ha e
                obtain ⟨f1, f2⟩ := set_own (o := .lst (ws ++ [_])) (mo := .lst (xs ++ [y])) st ha i1 fun e1 => ⟨_, upd_same, (RepPs.mono e1 st.sub h2).append (.cons (RepP.mono e1 st.sub ry) .nil)⟩
                exact mt_append pins s σ H _ _ v us Q I rx rv ⟨a, ws, _, rfl, rfl, h1, by rw [← h2.length, sizeLine_eq]; exact hl, q _ _ f1 f2 .non⟩
              · cases hm
            · cases hm
        | _ => cases hm
      · cases d1 <;> cases hm
    | _ => cases hm
  | extend =>
    unfold mthD at hm
    cases d with
    | r n =>
      obtain ⟨a, rfl, ha⟩ := r1
      rcases ds with _ | ⟨d1, _ | ⟨d2, ds⟩⟩
      · cases hm
      · cases r2 with
        | cons ry rt =>
          cases rt
          have hm : (match snapM S[n]?, snapE S d1 with | some (.list xs), some (.list ys) => if fitsN (xs.length + ys.length) = true then some (D.p .none, S.set n (.lst (xs ++ ys))) else none | _, _ => none) = some (d', S') := hm
          split at hm
          · rename_i xs ys e e2
            split at hm
            · rename_i hl
              cases hm
              obtain ⟨i1, ws, h1, h2⟩ := own_lst st ha e
              obtain ⟨b, zs, rfl, h3, h4⟩ := snapE_list st e2 ry
              obtain ⟨f1, f2⟩ := set_own (o := .lst (ws ++ zs)) (mo := .lst (xs ++ ys)) st ha i1 fun e1 => ⟨_, upd_same, (RepPs.mono e1 st.sub h2).append (RepPs.mono e1 st.sub h4)⟩
              exact mt_extend pins s σ H _ _ v us Q I rx rv ⟨a, b, ws, zs, rfl, rfl, h1, h3, by rw [← h2.length, ← h4.length]; exact fits_le hl, q _ _ f1 f2 .non⟩
            · cases hm
          · cases hm
      · cases hm
    | _ => cases hm
  | pop0 =>
    unfold mthD at hm
    cases d with
    | r n =>
      obtain ⟨a, rfl, ha⟩ := r1
      rcases ds with _ | ⟨d1, ds⟩
      · cases r2
        have hm : (match snapM S[n]? with | some (.list xs) => (match xs[xs.length - 1]? with | some y => some (D.p y, S.set n (.lst xs.dropLast)) | none => none) | _ => none) = some (d', S') := hm
        split at hm
        · rename_i xs e
          split at hm
          · rename_i y hy
            cases hm
            obtain ⟨i1, ws, h1, h2⟩ := own_lst st ha e
            obtain ⟨w, hw, rw'⟩ := h2.get hy
            obtain ⟨f1, f2⟩ := set_own (o := .lst ws.dropLast) (mo := .lst xs.dropLast) st ha i1 fun e1 => ⟨_, upd_same, (RepPs.mono e1 st.sub h2).dropLast⟩
            exact mt_pop pins s σ H _ _ v us Q I rx rv ⟨a, ws, w, rfl, rfl, h1, by rw [← h2.length]; exact hw, q _ _ f1 f2 (RepP.mono f1 st.sub rw')⟩
          · cases hm
        · cases hm
      · cases hm
    | _ => cases hm
  | pop1 =>
    unfold mthD at hm
    cases d with
    | r n =>
      obtain ⟨a, rfl, ha⟩ := r1
      rcases ds with _ | ⟨d1, _ | ⟨d2, ds⟩⟩
      · cases hm
      · cases d1 with
        | p y => cases y with
          | int i =>
            cases r2 with
            | cons ry rt =>
              cases rt
              cases ry
              have hm : (match snapM S[n]? with | some (.list xs) => (match ixN xs.length i with | some k => (match xs[k]? with | some y => if -9223372036854775808 ≤ i ∧ i < 9223372036854775808 then some (D.p y, S.set n (.lst (xs.eraseIdx k))) else none | none => none) | none => none) | _ => none) = some (d', S') := hm
              split at hm
              · rename_i xs e
                split at hm
                · rename_i k hk
                  split at hm
                  · rename_i y hy
                    split at hm
                    · rename_i hb
                      cases hm
                      obtain ⟨i1, ws, h1, h2⟩ := own_lst st ha e
                      obtain ⟨w, hw, rw'⟩ := h2.get hy
                      obtain ⟨f1, f2⟩ := set_own (o := .lst (ws.eraseIdx k)) (mo := .lst (xs.eraseIdx k)) st ha i1 fun e1 => ⟨_, upd_same, (RepPs.mono e1 st.sub h2).eraseIdx k⟩
                      exact mt_popAt pins s σ H _ _ v us Q I rx rv ⟨a, ws, i, k, w, rfl, rfl, h1, by omega, by omega, by rw [← h2.length]; exact (ixN_seq hk).1, hw, q _ _ f1 f2 (RepP.mono f1 st.sub rw')⟩
                    · cases hm
                  · cases hm
                · cases hm
              · cases hm
          | _ => cases hm
        | _ => cases hm
      · cases d1 with
        | p y => cases y <;> cases hm
        | _ => cases hm
    | _ => cases hm
  | insert =>
    unfold mthD at hm
    cases d with
    | r n =>
      obtain ⟨a, rfl, ha⟩ := r1
      rcases ds with _ | ⟨d1, _ | ⟨d2, _ | ⟨d3, ds⟩⟩⟩
      · cases hm
      · cases d1 with
        | p y => cases y <;> cases hm
        | _ => cases hm
      · cases d1 with
        | p y => cases y with
          | int i => cases d2 with
            | p y =>
              cases r2 with
              | cons r3 rt =>
                cases rt with
                | cons ry rt =>
                  cases rt
                  cases r3
                  have hm : (match snapM S[n]? with | some (.list xs) => if 0 ≤ i ∧ i < 9223372036854775808 ∧ xs.length < 16777216 then some (D.p .none, S.set n (.lst (xs.take i.toNat ++ [y] ++ xs.drop i.toNat))) else none | _ => none) = some (d', S') := hm
                  split at hm
                  · rename_i xs e
                    split at hm
                    · rename_i hb
                      cases hm
                      obtain ⟨i1, ws, h1, h2⟩ := own_lst st ha e
                      obtain ⟨f1, f2⟩ := set_own (o := .lst (ws.take i.toNat ++ [_] ++ ws.drop i.toNat)) (mo := .lst (xs.take i.toNat ++ [y] ++ xs.drop i.toNat)) st ha i1 fun e1 =>
                        ⟨_, upd_same, (((RepPs.mono e1 st.sub h2).take _).append (.cons (RepP.mono e1 st.sub ry) .nil)).append ((RepPs.mono e1 st.sub h2).drop _)⟩
                      exact mt_insert pins s σ H _ _ v us Q I rx rv ⟨a, ws, i, _, rfl, rfl, h1, by rw [← h2.length, sizeLine_eq]; exact hb.2.2, hb.1, by omega, q _ _ f1 f2 .non⟩
                    · cases hm
                  · cases hm
            | _ => cases hm
          | _ => cases hm
        | _ => cases hm
      · cases d1 with
        | p y => cases y with
          | int i => cases d2 <;> cases hm
          | _ => cases hm
        | _ => cases hm
    | _ => cases hm
  | cntT => unfold mthD at hm; cases hm
  | cntL => unfold mthD at hm; cases hm
end
section
variable {G : GI} {F : FT} {Gc : Nat → Option P}
theorem base_of {o : Expr} {nm : Str} {env : Env} (h : recvB o = true) : attributeBase o nm env (eval o env) = eval o env := by
  cases o <;> first | rfl | cases h
theorem e_mth (mt : ME) {o es : C} (ho : OkE G F Gc o) (ha : OkA G F Gc es) : OkE G F Gc (.mth mt o es) := by
  intro X T e g m h
  cases e with
  | Call fn args kws p =>
    cases fn with
    | Attribute r nm ap =>
      cases kws with
      | cons _ _ => simp [chkE] at h
      | nil =>
        simp only [chkE, Bool.and_eq_true, decide_eq_true_eq] at h
        obtain ⟨⟨⟨⟨⟨rfl, h2⟩, h3⟩, h4⟩, h5⟩, h6⟩ := h
        obtain ⟨o1, _⟩ := ho X T r g m h5
        obtain ⟨a1, a2, _⟩ := ha X T args g m h6
        have hm0 : ∀ (id : String), MtR X id (rMt X.K mt) → PySem.PlainAttrs "list" → Slot "list" (meN mt) id → typeOf (.builtin id) = pure (.type "method_descriptor") → PE X (.Call (.Attribute r (meN mt) ap) args [] p) (tE X.K (denE F Gc (.mth mt o es))) := fun id hR pa sl ty => by
          have red : ∀ (σ : L2.St) (H : Hp) (Q : VK), tE X.K (denE F Gc (.mth mt o es)) σ H Q → tE X.K (denE F Gc o) σ H fun x H1 => tyV X.K "list" x H1 ∧ (tA X.K (denA F Gc es)) σ H1 fun vs H2 => rMt X.K mt x vs H2 Q := by
            rintro σ H Q ⟨U, ρ, env, S, d, S', he, hs, hm, q⟩
            simp only [denE, Option.bind_eq_some_iff] at hm
            obtain ⟨⟨d1, S1⟩, m1, hm⟩ := hm
            split at hm
            · rename_i hown
              obtain ⟨⟨ds, S2⟩, m2, hm⟩ := Option.bind_eq_some_iff.mp hm
              refine seq1 he hs m1 fun U1 ρ1 H1 v1 e1 s1 r1 => ⟨?_, U1, ρ1, env, S1, ds, S2, he.mono e1 hs.sub, s1, m2, fun U2 ρ2 H2 vs e2 s2 r2 => ⟨U2, ρ2, S2, d1, ds, d, S', s2, r1.mono e2 s1.sub, r2, hm, fun H' v e3 s3 r3 => q _ _ _ _ ((e1.trans e2).trans e3) s3 r3⟩⟩
              cases d1 with
              | r n =>
                obtain ⟨a, rfl, had⟩ := r1
                obtain ⟨x, hx⟩ := Option.isSome_iff_exists.mp (show (snapM S1[n]?).isSome = true from hown)
                obtain ⟨xs, _, rfl⟩ := snapM_some hx
                obtain ⟨_, ws, h7, _⟩ := own_lst s1 had hx
                exact .inl ⟨rfl, ws, .inl (.inl h7)⟩
              | _ => cases hown
            · cases hm
          cases args with
          | nil =>
            refine PE.imp (pe_bm0 pa sl ty hR o1 (base_of h2) h3) fun σ H Q q => ?_
            obtain ⟨U, ρ, env, S, d1, S1, he, hs, m1, q⟩ := red σ H Q q
            refine ⟨U, ρ, env, S, d1, S1, he, hs, m1, fun U1 ρ1 H1 v1 e1 s1 r1 => ?_⟩
            obtain ⟨t1, U2, ρ2, env2, S2, ds, S3, he2, hs2, m2, q2⟩ := q U1 ρ1 H1 v1 e1 s1 r1
            refine ⟨t1, ?_⟩
            cases es with
            | nil => cases m2; exact q2 U2 ρ2 H1 [] (.refl _ _ _) hs2 .nil
            | _ => simp [chkA] at h6
          | cons e0 er =>
            have b2 := a2
            rw [List.all_cons, Bool.and_eq_true] at a2
            have few : ((backTo p (starEach (e0 :: er) X.env)).all (fun x => !x.1) && (backToKw p (keywordEach [] X.env)).all (fun x => x.1.isSome) && decide ((e0 :: er).length + ([] : List Keyword).length + (if ([] : List Keyword).isEmpty then 0 else 1) < 30)) = true := by
              rw [kw_few b2]
              have : decide ((e0 :: er).length + ([] : List Keyword).length + (if ([] : List Keyword).isEmpty then 0 else 1) < 30) = true := decide_eq_true (by show (e0 :: er).length + 0 + 0 < 30; omega)
              rw [this]
              rfl
            exact PE.imp (pe_bm pa sl ty hR o1 a1 (base_of h2) few h3 (star_of a2.1) (star_any a2.2)) fun σ H Q q => red σ H Q q
        refine mkE rfl ?_ (fun _ => rfl) (fun _ _ _ z => by cases z)
        cases mt with
        | append => exact hm0 _ (mt_R .append) PySem.F.plainAttrs_list PySem.F.slot_list_append PySem.F.type_list_append
        | extend => exact hm0 _ (mt_R .extend) PySem.F.plainAttrs_list PySem.F.slot_list_extend PySem.F.type_list_extend
        | pop0 => exact hm0 _ (mt_R .pop0) PySem.F.plainAttrs_list PySem.F.slot_list_pop PySem.F.type_list_pop
        | pop1 => exact hm0 _ (mt_R .pop1) PySem.F.plainAttrs_list PySem.F.slot_list_pop PySem.F.type_list_pop
        | insert => exact hm0 _ (mt_R .insert) PySem.F.plainAttrs_list PySem.F.slot_list_insert PySem.F.type_list_insert
        | _ =>
          refine ⟨fun pins s σ H Q I ⟨U, ρ, env, S, d, S', he, hs, hm, q⟩ => ?_⟩
          simp only [denE, Option.bind_eq_some_iff] at hm
          obtain ⟨⟨d1, S1⟩, m1, hm⟩ := hm
          split at hm
          · obtain ⟨_, _, z⟩ := Option.bind_eq_some_iff.mp hm
            unfold mthD at z
            cases z
          · cases hm
    | _ => simp [chkE] at h
  | _ => simp [chkE] at h
end
end DS
set_option maxRecDepth 100000
set_option maxHeartbeats 4000000
namespace DS
open PySem PySem.Spec L2
section
variable {K : PySem.W.Frag} {m : DM D} {σ : L2.St} {H : Hp} {Q : VK}
theorem tE_imp_F (hm : ∀ env S d S', m env S = some (d, S') → ∃ xs, d = .p (.list xs)) (h : tE K m σ H Q) : tF K m σ H Q := by
  obtain ⟨U, ρ, env, S, d, S', he, hs, hd, q⟩ := h
  obtain ⟨xs, rfl⟩ := hm _ _ _ _ hd
  refine ⟨U, ρ, env, S, xs, S', he, hs, hd, fun U' ρ' H' p vs e1 hp hn hl s1 r1 => ?_⟩
  have sub : ∀ a, a ∈ U' → a ∈ U' ++ [p] := fun a ha => List.mem_append_left _ ha
  refine q U' ρ' H' _ e1 (s1.less sub fun a ha => ?_) (.lst hn hl (RepPs.less sub r1))
  obtain ⟨n, eu, er, _⟩ := e1.nw
  rw [er] at ha
  rw [eu]
  rcases List.mem_append.mp ha with h | h
  · exact List.mem_append_left _ (hs.sub a h)
  · exact List.mem_append_right _ h
theorem StOk.push {U ρ : List Addr} {S : Sto} {p : Addr} {mo : MO} (s1 : StOk U K ρ S H) (hn : p ∉ ρ) (hp : p ∈ U) (hm : MOk U K (ρ ++ [p]) H p mo) : StOk U K (ρ ++ [p]) (S ++ [mo]) H := by
  have mv : Mv U ρ H U (ρ ++ [p]) H := ⟨fun _ h _ => h, fun _ _ h _ => h, fun n a h => by rw [List.getElem?_append_left (List.getElem?_eq_some_iff.mp h).1]; exact h⟩
  refine ⟨by simp [s1.len], ?_, fun a ha => ?_, s1.live, fun k a mo' h3 h4 => ?_⟩
  · refine List.nodup_append.mpr ⟨s1.nd, by simp, fun a ha b hb => ?_⟩
    rw [List.mem_singleton.mp hb]
    rintro rfl
    exact hn ha
  · rcases List.mem_append.mp ha with h | h
    · exact s1.sub a h
    · rw [List.mem_singleton.mp h]; exact hp
  · by_cases hk : k < S.length
    · rw [List.getElem?_append_left (by rw [← s1.len]; exact hk)] at h3
      rw [List.getElem?_append_left hk] at h4
      exact (s1.at_ k a mo' h3 h4).mv mv fun _ h => h
    · have hk' : S.length ≤ k := Nat.le_of_not_lt hk
      rw [List.getElem?_append_right hk'] at h4
      rw [List.getElem?_append_right (by rw [← s1.len]; exact hk'), ← s1.len] at h3
      cases hz : k - S.length with
      | zero =>
        rw [hz] at h3 h4
        cases h3; cases h4
        exact hm
      | succ j => rw [hz] at h3; simp at h3
theorem mk_imp_F (h : tE K (fun env S => (m env S).bind fun p => match p.1 with
    | .p (.list xs) => some (.r p.2.length, p.2 ++ [.lst xs])
    | _ => none) σ H Q) : tF K m σ H Q := by
  obtain ⟨U, ρ, env, S, d, S', he, hs, hd, q⟩ := h
  simp only [Option.bind_eq_some_iff] at hd
  obtain ⟨⟨d1, S1⟩, h1, h2⟩ := hd
  have key : ∃ xs, d1 = .p (.list xs) ∧ d = .r S1.length ∧ S' = S1 ++ [.lst xs] := by
    cases d1 with
    | p x => cases x <;> first | (cases h2; exact ⟨_, rfl, rfl, rfl⟩) | cases h2
    | r n => cases h2
    | s xs => cases h2
  obtain ⟨xs, rfl, rfl, rfl⟩ := key
  refine ⟨U, ρ, env, S, xs, S1, he, hs, h1, fun U' ρ' H' p vs e1 hp hn hl s1 r1 => ?_⟩
  obtain ⟨n, eu, er, hnew⟩ := e1.nw
  have hnr : p ∉ ρ' := fun ha => hn (by
    rw [er] at ha
    rw [eu]
    rcases List.mem_append.mp ha with h | h
    · exact List.mem_append_left _ (hs.sub _ h)
    · exact List.mem_append_right _ h)
  refine q (U' ++ [p]) (ρ' ++ [p]) H' _ ⟨⟨n ++ [p], by rw [eu, List.append_assoc], by rw [er, List.append_assoc], fun a ha => ?_⟩, e1.keep, e1.live⟩ (s1.push hnr (List.mem_append_right _ (List.mem_singleton.mpr rfl)) ⟨vs, hl, r1⟩) ⟨p, rfl, ?_⟩
  · rcases List.mem_append.mp ha with h | h
    · exact hnew a h
    · rw [List.mem_singleton.mp h]; exact hp
  · rw [s1.len, List.getElem?_append_right (Nat.le_refl _)]
    simp
end
theorem mergeK_nodup : ∀ (more kvs : List (Key × V)), (kvs.map (·.1) ++ more.map (·.1)).Nodup → mergeK kvs more = kvs ++ more
  | [], kvs, _ => by rw [List.append_nil]; rfl
  | p :: r, kvs, h => by
    have hp : putK kvs p.1 p.2 = kvs ++ [p] := by
      unfold putK
      rw [if_neg]
      intro z
      obtain ⟨kv, h1, h2⟩ := List.any_eq_true.mp z
      rw [List.nodup_append] at h
      exact h.2.2 kv.1 (List.mem_map_of_mem h1) p.1 (by simp) (of_decide_eq_true h2)
    show mergeK (putK kvs p.1 p.2) r = _
    rw [hp, mergeK_nodup r (kvs ++ [p]) (by simpa using h)]
    simp
theorem kv_zip {U : List Addr} {K : PySem.W.Frag} {ρ : List Addr} {H : Hp} : ∀ {ks : List Key} {ds : List D} {vs : List V}, RepDs U K ρ H ds vs → RepKv U K ρ H (ks.zip ds) (ks.zip vs)
  | [], _, _, _ => .nil
  | _ :: _, _, _, .nil => .nil
  | k :: ks, _, _, .cons r t => .cons ⟨rfl, r⟩ (kv_zip (ks := ks) t)
theorem chkK_some : ∀ {ks : List Key} {keys : List (Option Expr)}, chkK ks keys = true → keys.all (·.isSome) = true ∧ ks.length = keys.length
  | [], [], _ => ⟨rfl, rfl⟩
  | [], _ :: _, h => by simp [chkK] at h
  | _ :: _, [], h => by simp [chkK] at h
  | k :: ks, k0 :: keys, h => by
    have : k0.isSome = true ∧ chkK ks keys = true := by
      cases k0 with
      | none => cases k <;> simp [chkK] at h
      | some ke => cases ke with
        | Constant v kk p => cases v <;> cases k <;> first | (simp [chkK] at h; done) | (simp only [chkK, Bool.and_eq_true] at h; exact ⟨rfl, h.2⟩)
        | _ => cases k <;> simp [chkK] at h
    obtain ⟨h1, h2⟩ := chkK_some this.2
    exact ⟨by rw [List.all_cons, this.1, h1]; rfl, by rw [List.length_cons, List.length_cons, h2]⟩
section
variable {G : GI} {F : FT} {Gc : Nat → Option P}
theorem e_dic (ks : List Key) {es : C} (ha : OkA G F Gc es) : OkE G F Gc (.dic ks es) := by
  intro X T e g m h
  cases e with
  | Dict keys vals p =>
    simp only [chkE, Bool.and_eq_true, decide_eq_true_eq] at h
    obtain ⟨⟨⟨h1, h2⟩, h3⟩, h4⟩ := h
    obtain ⟨_, _, _, a3⟩ := ha X T vals g m h2
    obtain ⟨trs, t1, t2⟩ := a3 p ks keys h1 h4
    obtain ⟨k1, k2⟩ := chkK_some h1
    by_cases h15 : keys.length ≤ 15
    · refine mkE rfl (PE.imp (pe_disp t1 k1 h4 h3 h15) ?_) (fun _ => rfl) (fun _ _ _ z => by cases z)
      rintro σ H Q ⟨U, ρ, env, S, d, S', he, hs, hm, q⟩
      simp only [denE, Option.bind_eq_some_iff] at hm
      obtain ⟨⟨ds, S2⟩, m2, hm⟩ := hm
      split at hm
      · rename_i hc
        cases hm
        intro p hp
        refine t2 _ _ _ ⟨U ++ [p], ρ, env, S, ds, S2, he.mv (.add hp), hs.add hp, m2, fun U2 ρ2 H2 vs e2 s2 r2 => ?_⟩
        obtain ⟨n, eu, er, hn⟩ := e2.nw
        have pn : p ∉ n := fun z => by have := hn p z; rw [upd_same] at this; cases this
        have pr : p ∉ ρ := fun z => hs.live p (hs.sub p z) hp
        have pr2 : p ∉ ρ2 := fun z => by
          rw [er] at z
          rcases List.mem_append.mp z with z | z
          · exact pr z
          · exact pn z
        have hp2 : H2 p = some (.dK []) := e2.keep p _ upd_same pr
        refine ⟨hp2, ks.zip vs, by rw [List.zip_map_left]; rfl, ?_, ?_⟩
        · rw [List.length_zip]
          have := hc.2.1
          omega
        · have hnd : mergeK [] (ks.zip vs) = ks.zip vs := by
            rw [mergeK_nodup]
            · rfl
            · have hl : ks.length = vs.length := by rw [hc.1]; exact r2.length
              show ((ks.zip vs).map Prod.fst).Nodup
              rw [List.map_fst_zip (by omega)]
              exact hc.2.2
          rw [hnd]
          have same1 : ∀ a, a ∈ U ++ n ++ [p] → a ∈ U2 := fun a ha => by
            rw [eu]
            simp only [List.mem_append, List.mem_singleton] at ha ⊢
            rcases ha with (h | h) | h
            · exact .inl (.inl h)
            · exact .inr h
            · exact .inl (.inr h)
          have same2 : ∀ a, a ∈ U2 → a ∈ U ++ n ++ [p] := fun a ha => by
            rw [eu] at ha
            simp only [List.mem_append, List.mem_singleton] at ha ⊢
            rcases ha with (h | h) | h
            · exact .inl (.inl h)
            · exact .inr h
            · exact .inl (.inr h)
          have pU : p ∈ U ++ n ++ [p] := List.mem_append_right _ (List.mem_singleton.mpr rfl)
          have s3 : StOk (U ++ n ++ [p]) X.K ρ2 S2 (upd H2 p (.dK (ks.zip vs))) := (s2.same same1 same2).at_p pU pr2
          have mv : Mv U2 ρ2 H2 (U ++ n ++ [p]) (ρ2 ++ [p]) (upd H2 p (.dK (ks.zip vs))) := ⟨fun a h _ z => h (same1 a z), fun a u h hu => by rw [upd_ne (fun z => hu (by rw [z]; exact same1 _ pU))]; exact h,
            fun k a h => by rw [List.getElem?_append_left (List.getElem?_eq_some_iff.mp h).1]; exact h⟩
          refine q (U ++ n ++ [p]) (ρ2 ++ [p]) _ _ ⟨⟨n ++ [p], by rw [List.append_assoc], by rw [er, List.append_assoc], fun a ha => ?_⟩, fun a u h hu => ?_, fun a h => ?_⟩ (s3.push pr2 pU ⟨_, upd_same, kv_zip (r2.mv mv)⟩) ⟨p, rfl, ?_⟩
          · rcases List.mem_append.mp ha with h | h
            · have := hn a h
              by_cases z : a = p
              · rw [z]; exact hp
              · rw [upd_ne z] at this; exact this
            · rw [List.mem_singleton.mp h]; exact hp
          · have hne : a ≠ p := ne_of_none h hp
            rw [upd_ne hne]
            exact e2.keep a u (grow_new hp a u h) hu
          · by_cases z : a = p
            · rw [z, upd_same]; simp
            · rw [upd_ne z]
              refine e2.live a ?_
              rw [upd_ne z]; exact h
          · rw [s2.len, List.getElem?_append_right (Nat.le_refl _)]
            simp
      · cases hm
    · refine mkE rfl ⟨fun pins s σ H Q I ⟨U, ρ, env, S, d, S', he, hs, hm, q⟩ => ?_⟩ (fun _ => rfl) (fun _ _ _ z => by cases z)
      simp only [denE, Option.bind_eq_some_iff] at hm
      obtain ⟨⟨ds, S2⟩, m2, hm⟩ := hm
      split at hm
      · rename_i hc
        exact absurd hc.2.1 (by omega)
      · cases hm
  | _ => simp [chkE] at h
end
structure Only (vs : List Nat) (σ σ' : L2.St) : Prop where
  len : σ'.length = σ.length
  eq : ∀ i, i ∉ vs → σ'[i]? = σ[i]?
theorem Only.refl (vs : List Nat) (σ : L2.St) : Only vs σ σ := ⟨rfl, fun _ _ => rfl⟩
def tG (K : PySem.W.Frag) (t : C) : TG := fun v σ H Q => ∃ U ρ env S d env', EnvOk U K ρ H env σ ∧ StOk U K ρ S H ∧ RepD U K ρ H d v ∧ bindT t d env S = some env' ∧
  ∀ σ', Only (slotsT t) σ σ' → EnvOk U K ρ H env' σ' → Q σ' H
def tGs (K : PySem.W.Frag) (t : C) : TGs := fun vs σ H Q => ∃ U ρ env S xs env', EnvOk U K ρ H env σ ∧ StOk U K ρ S H ∧ RepPs U K H xs vs ∧ bindTs t xs env S = some env' ∧
  ∀ σ', Only (slotsT t) σ σ' → EnvOk U K ρ H env' σ' → Q σ' H
theorem EnvOk.set {U ρ : List Addr} {K : PySem.W.Frag} {H : Hp} {env : DEnv} {σ : L2.St} {i : Nat} {d : D} {v : V} (he : EnvOk U K ρ H env σ) (r : RepD U K ρ H d v) : EnvOk U K ρ H (env.set i (some d)) (σ.set i (some v)) := by
  refine ⟨by rw [List.length_set, List.length_set, he.1], fun j e hj => ?_⟩
  by_cases hi : i = j
  · subst hi
    by_cases hl : i < env.length
    · rw [List.getElem?_set_self hl] at hj
      cases hj
      exact ⟨v, by rw [List.getElem?_set_self (by rw [← he.1]; exact hl)], r⟩
    · rw [List.getElem?_eq_none (by simpa using hl)] at hj; cases hj
  · rw [List.getElem?_set_ne hi] at hj ⊢
    exact he.2 j e hj
theorem pgT {G : GI} {F : FT} {Gc : Nat → Option P} : ∀ (t : C), (∀ (X : Cx) (T : TI0) (tg : Expr), Gd G F Gc X → Mt T X → chkT T t tg = true → PG X tg (tG X.K t)) ∧
    (∀ (X : Cx) (T : TI0) (tgs : List Expr), Gd G F Gc X → Mt T X → chkT.chkTs T t tgs = true → PGs X tgs (tGs X.K t) ∧ (assignEach tgs X.env).findIdx? (·.1) = none ∧ (assignEach tgs X.env).length = tgs.length ∧ ∀ xs env S env', bindTs t xs env S = some env' → xs.length = tgs.length) := by
  intro t
  induction t with
  | tnm i =>
    refine ⟨fun X T tg g m h => ?_, fun X T tgs g m h => by simp [chkT.chkTs] at h⟩
    cases tg with
    | Name x p =>
      simp only [chkT, Bool.and_eq_true, decide_eq_true_eq] at h
      obtain ⟨l1, l2⟩ := m.loc h.2
      have pg := pg_name (pos := p) g.nd (by rw [m.N]; exact h.1) l1 l2
      refine ⟨fun pins s σ H v u Q I r ⟨U, ρ, env, S, d, env', he, hs, rd, hb, q⟩ => pg.run pins s σ H v u Q I r ?_⟩
      have hb : (if i < env.length then some (env.set i (some d)) else none) = some env' := hb
      split at hb
      · cases hb
        refine q _ ⟨List.length_set, fun j hj => ?_⟩ (he.set rd)
        rw [List.getElem?_set_ne]
        rintro rfl
        exact hj (List.mem_singleton.mpr rfl)
      · cases hb
    | _ => simp [chkT] at h
  | nil =>
    refine ⟨fun X T tg g m h => by simp [chkT] at h, fun X T tgs g m h => ?_⟩
    cases tgs with
    | nil =>
      refine ⟨⟨fun pins s σ H vs us Q I r ⟨U, ρ, env, S, xs, env', he, hs, rd, hb, q⟩ => pgs_nil.run pins s σ H vs us Q I r ?_⟩, rfl, rfl, fun xs env S env' hb => ?_⟩
      · cases xs with
        | nil =>
          cases rd
          cases hb
          exact ⟨rfl, q _ (.refl _ _) he⟩
        | cons _ _ => cases hb
      · cases xs with
        | nil => rfl
        | cons _ _ => cases hb
    | cons _ _ => simp [chkT.chkTs] at h
  | cons a b iha ihb =>
    refine ⟨fun X T tg g m h => by simp [chkT] at h, fun X T tgs g m h => ?_⟩
    cases tgs with
    | nil => simp [chkT.chkTs] at h
    | cons e es =>
      simp only [chkT.chkTs, Bool.and_eq_true] at h
      have p1 := iha.1 X T e g m h.1.1
      obtain ⟨p2, p3, p4, p5⟩ := ihb.2 X T es g m h.2
      have he0 : assignEach (e :: es) X.env = (false, assign e X.env) :: assignEach es X.env := by
        have := h.1.2
        cases e <;> first | rfl | cases this
      refine ⟨⟨fun pins s σ H vs us Q I r ⟨U, ρ, env, S, xs, env', he, hs, rd, hb, q⟩ => (pgs_cons p1 p2 ?_).run pins s σ H vs us Q I r ?_⟩, ?_, ?_, fun xs env S env' hb => ?_⟩
      · rw [he0]; rfl
      · cases xs with
        | nil => cases hb
        | cons x xs =>
          cases rd with
          | @cons v vs' _ _ r1 r2 =>
            have hb : ((bindT a (.p x) env S).bind fun e => bindTs b xs e S) = some env' := hb
            obtain ⟨e1, hb1, hb2⟩ := Option.bind_eq_some_iff.mp hb
            refine ⟨v, vs', rfl, U, ρ, env, S, .p x, e1, he, hs, r1, hb1, fun σ1 o1 he1 => ⟨U, ρ, e1, S, xs, env', he1, hs, r2, hb2, fun σ2 o2 he2 => q σ2 ⟨o2.len.trans o1.len, fun i hi => ?_⟩ he2⟩⟩
            have hi' : i ∉ slotsT a ∧ i ∉ slotsT b := by
              have : i ∉ slotsT a ++ slotsT b := hi
              rw [List.mem_append, not_or] at this
              exact this
            rw [o2.eq i hi'.2, o1.eq i hi'.1]
      · rw [he0, List.findIdx?_cons]
        simp [p3]
      · rw [he0, List.length_cons, p4, List.length_cons]
      · cases xs with
        | nil => cases hb
        | cons x xs =>
          have hb : ((bindT a (.p x) env S).bind fun e => bindTs b xs e S) = some env' := hb
          obtain ⟨e1, hb1, hb2⟩ := Option.bind_eq_some_iff.mp hb
          rw [List.length_cons, List.length_cons, p5 _ _ _ _ hb2]
  | ttp ts ih =>
    refine ⟨fun X T tg g m h => ?_, fun X T tgs g m h => by simp [chkT.chkTs] at h⟩
    cases tg with
    | Tuple es k p =>
      simp only [chkT] at h
      obtain ⟨p2, p3, p4, p5⟩ := ih.2 X T es g m h
      have pg := pg_tup (k := k) (pos := p) g.calm p2 p4 p3
      refine ⟨fun pins s σ H v u Q I r ⟨U, ρ, env, S, d, env', he, hs, rd, hb, q⟩ => pg.run pins s σ H v u Q I r ?_⟩
      cases d with
      | p x => cases x with
        | tuple xs =>
          have hb : bindTs ts xs env S = some env' := hb
          have rd : RepP U X.K H (.tuple xs) v := rd
          have hl := p5 _ _ _ _ hb
          cases rd with
          | tup h1 h2 =>
            refine ⟨_, _, rfl, ?_, by rw [← h2.length, hl], U, ρ, env, S, xs, env', he, hs, h2, hb, q⟩
            rcases h1 with h1 | h1
            · exact .inl (.inl h1.2)
            · exact .inr h1.2
        | _ => cases hb
      | _ => cases hb
    | _ => simp [chkT] at h
  | _ => exact ⟨fun X T tg g m h => by simp [chkT] at h, fun X T tgs g m h => by simp [chkT.chkTs] at h⟩
end DS
set_option maxRecDepth 100000
set_option maxHeartbeats 4000000
namespace DS
open PySem PySem.Spec L2
theorem rgOk_of {j : Int} (h : rgOk j = true) : -(2 ^ 62) ≤ j ∧ j < 2 ^ 62 := of_decide_eq_true h
section
variable {U ρ : List Addr} {K : PySem.W.Frag} {H : Hp} {S : Sto} {d : D} {v : V} {s : Src}
theorem okSq_some (h : okSq S d = some s) : seqSrc d = some s ∧ isRl S s = true := by
  unfold okSq at h
  obtain ⟨z, h1, h2⟩ := Option.bind_eq_some_iff.mp h
  split at h2
  · cases h2; exact ⟨h1, by assumption⟩
  · cases h2
theorem okSq_at (st : StOk U K ρ S H) (r : RepD U K ρ H d v) (h : okSq S d = some s) : ∃ a xs, v = .ref a ∧ SqL K H a xs ∧ LAt U K ρ H s a := by
  obtain ⟨h1, h2⟩ := okSq_some h
  cases d with
  | p x => cases x with
    | list xs =>
      cases h1
      have r : RepP U K H (.list xs) v := r
      cases r with
      | lst q1 q2 q3 => exact ⟨_, _, rfl, .inl (.inl q2), .lst (.inl ⟨q1, .inl q2⟩) q3⟩
    | _ => cases h1
  | s xs =>
    cases h1
    obtain ⟨a, vs, rfl, q1, q3⟩ := r
    exact ⟨a, vs, rfl, q1.elim (fun y => Or.inl y.2) Or.inr, .lst q1 q3⟩
  | r n =>
    cases h1
    obtain ⟨a, rfl, ha⟩ := r
    have la : LAt U K ρ H (.rl n) a := .own ha
    obtain ⟨xs, vs, q1, q2, q3⟩ := la.at_ st h2
    exact ⟨a, vs, rfl, q1, la⟩
theorem tup_at {xs : List P} (r : RepP U K H (.tuple xs) v) : ∃ a vs, v = .ref a ∧ SqT K H a vs ∧ TAt U K H (.it xs) a := by
  cases r with
  | tup h1 h2 =>
    exact ⟨_, _, rfl, h1.elim (fun z => .inl (.inl z.2)) (fun z => .inr z.2), .mk (h1.imp (fun z => ⟨z.1, .inl z.2⟩) id) h2⟩
end
section
variable {G : GI} {F : FT} {Gc : Nat → Option P}
theorem star1 {e : Expr} {env : Env} (h : noStB e = true) : starEach [e] env = [(false, eval e env)] := by rw [star_of h]; rfl
theorem star2 {e f : Expr} {env : Env} (h : noStB e = true) (h2 : noStB f = true) : starEach [e, f] env = [(false, eval e env), (false, eval f env)] := by rw [star_of h, star1 h2]
theorem pa_D1 {X : Cx} {T : TI0} {e : Expr} {a : C} (ha : OkE G F Gc a) (g : Gd G F Gc X) (m : Mt T X) (h : chkE G T a e = true) (hs : noStB e = true) : PA X [e] (tA X.K (denA F Gc (.cons a .nil))) := by
  obtain ⟨a1, _⟩ := ha X T e g m h
  refine PA.imp (pa_cons a1 pa_nil (star_of hs)) ?_
  rintro σ H Q ⟨U, ρ, env, S, ds, S', he, hs, hm, q⟩
  simp only [denA, Option.bind_eq_some_iff, Option.map_eq_some_iff] at hm
  obtain ⟨⟨d1, S1⟩, m1, _, z1, e1⟩ := hm
  cases z1
  cases e1
  exact seq1 he hs m1 fun U1 ρ1 H1 v1 e1 s1 r1 => q _ _ _ _ e1 s1 (.cons r1 .nil)
theorem pa_D2 {X : Cx} {T : TI0} {e f : Expr} {a b : C} (ha : OkE G F Gc a) (hb : OkE G F Gc b) (g : Gd G F Gc X) (m : Mt T X) (h : chkE G T a e = true) (h2 : chkE G T b f = true) (hs : noStB e = true) (hs2 : noStB f = true) : PA X [e, f] (tA X.K (denA F Gc (.cons a (.cons b .nil)))) := by
  obtain ⟨a1, _⟩ := ha X T e g m h
  obtain ⟨b1, _⟩ := hb X T f g m h2
  refine PA.imp (pa_cons a1 (pa_cons b1 pa_nil (star_of hs2)) (star_of hs)) ?_
  rintro σ H Q ⟨U, ρ, env, S, ds, S', he, hs, hm, q⟩
  simp only [denA, Option.bind_eq_some_iff, Option.map_eq_some_iff] at hm
  obtain ⟨⟨d1, S1⟩, m1, _, ⟨⟨d2, S2⟩, m2, _, z1, z2⟩, e1⟩ := hm
  cases z1
  cases z2
  cases e1
  exact seq2 he hs m1 m2 fun U1 ρ1 H1 v1 v2 e1 s1 r1 r2 => q _ _ _ _ e1 s1 (.cons r1 (.cons r2 .nil))
theorem i_rg1 {a : C} (ha : OkE G F Gc a) : OkI G F Gc (.rg1 a) := by
  intro X T tg e g m h
  cases e with
  | Call fn args kws p => cases fn with
    | Name x px =>
      rcases args with _ | ⟨e, _ | ⟨e2, args⟩⟩
      · simp [chkI] at h
      · cases kws with
        | cons _ _ => simp [chkI] at h
        | nil =>
          simp only [chkI, Bool.and_eq_true, decide_eq_true_eq] at h
          obtain ⟨⟨⟨rfl, h2⟩, h3⟩, h4⟩ := h
          refine ⟨PI.imp (pi_range1 (m.gl h2) (g.nob _ (by decide +kernel)) (pa_D1 ha g m h3 h4) (star1 h4)) ?_, rfl⟩
          rintro σ H R ⟨U, ρ, env, S, src, S', he, hs, hm, q⟩
          simp only [denI, Option.bind_eq_some_iff] at hm
          obtain ⟨⟨d1, S1⟩, m1, hm⟩ := hm
          refine ⟨U, ρ, env, S, [d1], S1, he, hs, by simp [denA, m1], fun U1 ρ1 H1 vs e1 s1 r1 => ?_⟩
          cases d1 with
          | p x => cases x with
            | int j =>
              have hm : (if rgOk j = true then some (Src.rg 0 1 j.toNat, S1) else none) = some (src, S') := hm
              split at hm
              · rename_i hj
                cases hm
                cases r1 with
                | cons r1 rt =>
                  cases rt
                  have r1 : RepP U1 X.K H1 (.int j) _ := r1
                  cases r1
                  obtain ⟨b1, b2⟩ := rgOk_of hj
                  exact ⟨j, rfl, b1, b2, q _ _ _ _ e1 s1 (.r 0 _)⟩
              · cases hm
            | _ => cases hm
          | _ => cases hm
      · simp [chkI] at h
    | _ => simp [chkI] at h
  | _ => simp [chkI] at h
theorem star3 {e f g : Expr} {env : Env} (h : noStB e = true) (h2 : noStB f = true) (h3 : noStB g = true) : starEach [e, f, g] env = [(false, eval e env), (false, eval f env), (false, eval g env)] := by rw [star_of h, star2 h2 h3]
theorem pa_D3 {X : Cx} {T : TI0} {e f e3 : Expr} {a b c : C} (ha : OkE G F Gc a) (hb : OkE G F Gc b) (hc : OkE G F Gc c) (g : Gd G F Gc X) (m : Mt T X) (h : chkE G T a e = true) (h2 : chkE G T b f = true) (h3 : chkE G T c e3 = true) (hs : noStB e = true) (hs2 : noStB f = true) (hs3 : noStB e3 = true) :
    PA X [e, f, e3] (tA X.K (denA F Gc (.cons a (.cons b (.cons c .nil))))) := by
  obtain ⟨a1, _⟩ := ha X T e g m h
  have b1 := pa_D2 hb hc g m h2 h3 hs2 hs3
  refine PA.imp (pa_cons a1 b1 (star_of hs)) ?_
  rintro σ H Q ⟨U, ρ, env, S, ds, S', he, hs, hm, q⟩
  obtain ⟨⟨d1, S1⟩, m1, hm⟩ := Option.bind_eq_some_iff.mp (show (denE F Gc a env S).bind _ = some (ds, S') from hm)
  obtain ⟨⟨ds2, S2⟩, m2, e1⟩ := Option.map_eq_some_iff.mp hm
  cases e1
  exact seq1 he hs m1 fun U1 ρ1 H1 v1 e1 s1 r1 => ⟨U1, ρ1, env, S1, ds2, S2, he.mono e1 hs.sub, s1, m2, fun U2 ρ2 H2 vs e2 s2 r2 => q _ _ _ _ (e1.trans e2) s2 (.cons (r1.mono e2 s1.sub) r2)⟩
theorem i_rg3 {a b c : C} (ha : OkE G F Gc a) (hb : OkE G F Gc b) (hc : OkE G F Gc c) : OkI G F Gc (.rg3 a b c) := by
  intro X T tg e g m h
  cases e with
  | Call fn args kws p => cases fn with
    | Name x px =>
      rcases args with _ | ⟨e, _ | ⟨e2, _ | ⟨e3, _ | ⟨e4, args⟩⟩⟩⟩
      · simp [chkI] at h
      · simp [chkI] at h
      · simp [chkI] at h
      · cases kws with
        | cons _ _ => simp [chkI] at h
        | nil =>
          simp only [chkI, Bool.and_eq_true, decide_eq_true_eq] at h
          obtain ⟨⟨⟨⟨⟨⟨⟨rfl, h2⟩, h3⟩, h3'⟩, h3''⟩, h4⟩, h4'⟩, h4''⟩ := h
          refine ⟨PI.imp (pi_range3 (m.gl h2) (g.nob _ (by decide +kernel)) (pa_D3 ha hb hc g m h3 h3' h3'' h4 h4' h4'') (by rw [star_of h4]) (by rw [star2 h4' h4'']; rfl)) ?_, rfl⟩
          rintro σ H R ⟨U, ρ, env, S, src, S', he, hs, hm, q⟩
          simp only [denI, Option.bind_eq_some_iff] at hm
          obtain ⟨⟨d1, S1⟩, m1, ⟨d2, S2⟩, m2, ⟨d3, S3⟩, m3, hm⟩ := hm
          have m2 : denE F Gc b env S1 = some (d2, S2) := m2
          have m3 : denE F Gc c env S2 = some (d3, S3) := m3
          refine ⟨U, ρ, env, S, [d1, d2, d3], S3, he, hs, by simp [denA, m1, m2, m3], fun U1 ρ1 H1 vs e1 s1 r1 => ?_⟩
          cases d1 with
          | p x => cases x with
            | int i => cases d2 with
              | p y => cases y with
                | int j => cases d3 with
                  | p w => cases w with
                    | int k =>
                      have hm : (if 0 < k ∧ k < 1073741824 ∧ Builtin.Range.small i j k = true then some (Src.rg i k (Builtin.Range.rangeSize i j k).toNat, S3) else none) = some (src, S') := hm
                      split at hm
                      · rename_i hj
                        cases hm
                        cases r1 with
                        | cons r1 rt => cases rt with
                          | cons r2 rt => cases rt with
                            | cons r3 rt =>
                              cases rt
                              have r1 : RepP U1 X.K H1 (.int i) _ := r1
                              have r2 : RepP U1 X.K H1 (.int j) _ := r2
                              have r3 : RepP U1 X.K H1 (.int k) _ := r3
                              cases r1
                              cases r2
                              cases r3
                              have nn : 0 ≤ Builtin.Range.rangeSize i j k := by
                                unfold Builtin.Range.rangeSize
                                rw [if_pos hj.1]
                                split
                                · have := Int.ediv_nonneg (show 0 ≤ j - i - 1 by omega) (Int.le_of_lt hj.1)
                                  omega
                                · exact Int.le_refl _
                              exact ⟨i, j, k, _, rfl, ⟨by omega, by omega, hj.2.2, by omega⟩, q _ _ _ _ e1 s1 (.rc i k _)⟩
                      · cases hm
                    | _ => cases hm
                  | _ => cases hm
                | _ => cases hm
              | _ => cases hm
            | _ => cases hm
          | _ => cases hm
      · simp [chkI] at h
    | _ => simp [chkI] at h
  | _ => simp [chkI] at h
theorem i_rg2 {a b : C} (ha : OkE G F Gc a) (hb : OkE G F Gc b) : OkI G F Gc (.rg2 a b) := by
  intro X T tg e g m h
  cases e with
  | Call fn args kws p => cases fn with
    | Name x px =>
      rcases args with _ | ⟨e, _ | ⟨e2, _ | ⟨e3, args⟩⟩⟩
      · simp [chkI] at h
      · simp [chkI] at h
      · cases kws with
        | cons _ _ => simp [chkI] at h
        | nil =>
          simp only [chkI, Bool.and_eq_true, decide_eq_true_eq] at h
          obtain ⟨⟨⟨⟨⟨rfl, h2⟩, h3⟩, h3'⟩, h4⟩, h4'⟩ := h
          refine ⟨PI.imp (pi_range2 (m.gl h2) (g.nob _ (by decide +kernel)) (pa_D2 ha hb g m h3 h3' h4 h4') (star2 h4 h4') (star1 h4')) ?_, rfl⟩
          rintro σ H R ⟨U, ρ, env, S, src, S', he, hs, hm, q⟩
          simp only [denI, Option.bind_eq_some_iff] at hm
          obtain ⟨⟨d1, S1⟩, m1, ⟨d2, S2⟩, m2, hm⟩ := hm
          have m2 : denE F Gc b env S1 = some (d2, S2) := m2
          refine ⟨U, ρ, env, S, [d1, d2], S2, he, hs, by simp [denA, m1, m2], fun U1 ρ1 H1 vs e1 s1 r1 => ?_⟩
          cases d1 with
          | p x => cases x with
            | int i => cases d2 with
              | p y => cases y with
                | int j =>
                  have hm : (if rgOk i = true ∧ rgOk j = true then some (Src.rg i 1 (j - i).toNat, S2) else none) = some (src, S') := hm
                  split at hm
                  · rename_i hj
                    cases hm
                    cases r1 with
                    | cons r1 rt =>
                      cases rt with
                      | cons r2 rt =>
                        cases rt
                        have r1 : RepP U1 X.K H1 (.int i) _ := r1
                        have r2 : RepP U1 X.K H1 (.int j) _ := r2
                        cases r1
                        cases r2
                        obtain ⟨b1, b2⟩ := rgOk_of hj.1
                        obtain ⟨b3, b4⟩ := rgOk_of hj.2
                        exact ⟨i, j, rfl, ⟨b1, b2, b3, b4⟩, q _ _ _ _ e1 s1 (.r i _)⟩
                  · cases hm
                | _ => cases hm
              | _ => cases hm
            | _ => cases hm
          | _ => cases hm
      · simp [chkI] at h
    | _ => simp [chkI] at h
  | _ => simp [chkI] at h
theorem i_sq {a : C} (ha : OkE G F Gc a) : OkI G F Gc (.sq a) := by
  intro X T tg e g m h
  simp only [chkI, Bool.and_eq_true] at h
  obtain ⟨a1, _⟩ := ha X T e g m h.1
  refine ⟨⟨fun pins s σ H R I ⟨U, ρ, env, S, src, S', he, hs, hm, q⟩ => ?_⟩, h.2⟩
  simp only [denI, Option.bind_eq_some_iff] at hm
  obtain ⟨⟨d1, S1⟩, m1, hm⟩ := hm
  have lst : (okSq S1 d1).map (fun s => (s, S1)) = some (src, S') → iList X.K (tE X.K (denE F Gc a)) σ H R := fun hm => by
    obtain ⟨s, h1, e1⟩ := Option.map_eq_some_iff.mp hm
    cases e1
    refine seq1 he hs m1 fun U1 ρ1 H1 v1 e1 s1 r1 => ?_
    obtain ⟨b, xs, rfl, q1, q2⟩ := okSq_at s1 r1 h1
    exact ⟨b, rfl, ⟨xs, q1⟩, q _ _ _ _ e1 s1 (.l q2)⟩
  cases d1 with
  | p x => cases x with
    | tuple xs =>
      cases hm
      refine (pi_tup a1).run pins s σ H R I (seq1 he hs m1 fun U1 ρ1 H1 v1 e1 s1 r1 => ?_)
      obtain ⟨b, vs, rfl, q1, q2⟩ := tup_at r1
      exact ⟨b, rfl, ⟨vs, q1⟩, q _ _ _ _ e1 s1 (.t q2)⟩
    | str z =>
      cases hm
      refine (pi_str a1).run pins s σ H R I (seq1 he hs m1 fun U1 ρ1 H1 v1 e1 s1 r1 => ?_)
      have r1 : RepP U1 X.K H1 (.str z) v1 := r1
      cases r1
      exact ⟨z, rfl, q _ _ _ _ e1 s1 (.x z)⟩
    | _ => exact (pi_list a1).run pins s σ H R I (lst hm)
  | _ => exact (pi_list a1).run pins s σ H R I (lst hm)
theorem i_tq {a : C} (ha : OkE G F Gc a) : OkI G F Gc (.tq a) := by
  intro X T tg e g m h
  simp only [chkI, Bool.and_eq_true] at h
  obtain ⟨a1, _⟩ := ha X T e g m h.1
  refine ⟨PI.imp (pi_tup a1) ?_, h.2⟩
  rintro σ H R ⟨U, ρ, env, S, src, S', he, hs, hm, q⟩
  simp only [denI, Option.bind_eq_some_iff] at hm
  obtain ⟨⟨d1, S1⟩, m1, hm⟩ := hm
  cases d1 with
  | p x => cases x with
    | tuple xs =>
      cases hm
      refine seq1 he hs m1 fun U1 ρ1 H1 v1 e1 s1 r1 => ?_
      obtain ⟨b, vs, rfl, q1, q2⟩ := tup_at r1
      exact ⟨b, rfl, ⟨vs, q1⟩, q _ _ _ _ e1 s1 (.t q2)⟩
    | _ => cases hm
  | _ => cases hm
theorem i_xq {a : C} (ha : OkE G F Gc a) : OkI G F Gc (.xq a) := by
  intro X T tg e g m h
  simp only [chkI, Bool.and_eq_true] at h
  obtain ⟨a1, _⟩ := ha X T e g m h.1
  refine ⟨PI.imp (pi_str a1) ?_, h.2⟩
  rintro σ H R ⟨U, ρ, env, S, src, S', he, hs, hm, q⟩
  simp only [denI, Option.bind_eq_some_iff] at hm
  obtain ⟨⟨d1, S1⟩, m1, hm⟩ := hm
  cases d1 with
  | p x => cases x with
    | str z =>
      cases hm
      refine seq1 he hs m1 fun U1 ρ1 H1 v1 e1 s1 r1 => ?_
      have r1 : RepP U1 X.K H1 (.str z) v1 := r1
      cases r1
      exact ⟨z, rfl, q _ _ _ _ e1 s1 (.x z)⟩
    | _ => cases hm
  | _ => cases hm
theorem i_en {a : C} (ha : OkE G F Gc a) : OkI G F Gc (.en a) := by
  intro X T tg e g m h
  cases tg with
  | Tuple tes tk tp => cases e with
    | Call fn args kws p => cases fn with
      | Name x px =>
        rcases args with _ | ⟨e, _ | ⟨e2, args⟩⟩
        · simp [chkI] at h
        · cases kws with
          | cons _ _ => simp [chkI] at h
          | nil =>
            simp only [chkI, Bool.and_eq_true, decide_eq_true_eq] at h
            obtain ⟨⟨⟨rfl, h2⟩, h3⟩, h4⟩ := h
            refine ⟨PI.imp (pi_enumA (m.gl h2) (g.nob _ (by decide +kernel)) (pa_D1 ha g m h3 h4) (star1 h4)) ?_, rfl⟩
            rintro σ H R ⟨U, ρ, env, S, src, S', he, hs, hm, q⟩
            simp only [denI, Option.bind_eq_some_iff] at hm
            obtain ⟨⟨d1, S1⟩, m1, hm⟩ := hm
            refine ⟨U, ρ, env, S, [d1], S1, he, hs, by simp [denA, m1], fun U1 ρ1 H1 vs e1 s1 r1 => ?_⟩
            cases r1 with
            | @cons _ v1 _ _ r1 rt =>
              cases rt
              have lst : (okSq S1 d1).map (fun s => (Src.en s, S1)) = some (src, S') → ∃ a xs, [v1] = [V.ref a] ∧ ((SqL X.K H1 a xs ∧ R (Ite X.K a) H1) ∨ (SqT X.K H1 a xs ∧ R (IteT X.K a) H1)) := fun hm => by
                obtain ⟨s, h1, e2⟩ := Option.map_eq_some_iff.mp hm
                cases e2
                obtain ⟨b, xs, rfl, q1, q2⟩ := okSq_at s1 r1 h1
                exact ⟨b, xs, rfl, .inl ⟨q1, q _ _ _ _ e1 s1 (.el q2)⟩⟩
              cases d1 with
              | p x => cases x with
                | tuple xs =>
                  cases hm
                  obtain ⟨b, vs, rfl, q1, q2⟩ := tup_at r1
                  exact ⟨b, vs, rfl, .inr ⟨q1, q _ _ _ _ e1 s1 (.et q2)⟩⟩
                | _ => exact lst hm
              | _ => exact lst hm
        · simp [chkI] at h
      | _ => simp [chkI] at h
    | _ => simp [chkI] at h
  | _ => simp [chkI] at h
theorem zpS_at {K : PySem.W.Frag} {U ρ : List Addr} {H : Hp} {S : Sto} {d : D} {v : V} {s : Src} (st : StOk U K ρ S H) (r : RepD U K ρ H d v) (h : zpS S d = some s) : ∃ k a vs, v = V.ref a ∧ SqK K H k a vs ∧ SAt U K ρ H k s a := by
  unfold zpS at h
  split at h
  · cases h
    obtain ⟨b, vs, rfl, q1, q2⟩ := tup_at r
    exact ⟨true, b, vs, rfl, q1, q2⟩
  · obtain ⟨b, xs, rfl, q1, q2⟩ := okSq_at st r h
    exact ⟨false, b, xs, rfl, q1, q2⟩
theorem i_zp {a b : C} (ha : OkE G F Gc a) (hb : OkE G F Gc b) : OkI G F Gc (.zp a b) := by
  intro X T tg e g m h
  cases tg with
  | Tuple tes tk tp => cases e with
    | Call fn args kws p => cases fn with
      | Name x px =>
        rcases args with _ | ⟨e, _ | ⟨e2, _ | ⟨e3, args⟩⟩⟩
        · simp [chkI] at h
        · simp [chkI] at h
        · cases kws with
          | cons _ _ => simp [chkI] at h
          | nil =>
            simp only [chkI, Bool.and_eq_true, decide_eq_true_eq] at h
            obtain ⟨⟨⟨⟨⟨rfl, h2⟩, h3⟩, h3'⟩, h4⟩, h4'⟩ := h
            refine ⟨PI.imp (pi_zipM (m.gl h2) (g.nob _ (by decide +kernel)) (pa_D2 ha hb g m h3 h3' h4 h4') (by rw [star_of h4]) (by rw [star1 h4']; rfl)) ?_, rfl⟩
            rintro σ H R ⟨U, ρ, env, S, src, S', he, hs, hm, q⟩
            simp only [denI, Option.bind_eq_some_iff, Option.map_eq_some_iff] at hm
            obtain ⟨⟨d1, S1⟩, m1, ⟨d2, S2⟩, m2, s1', h1, t1', h2', e2⟩ := hm
            cases e2
            have m2 : denE F Gc b env S1 = some (d2, S2) := m2
            refine ⟨U, ρ, env, S, [d1, d2], S2, he, hs, by simp [denA, m1, m2], fun U1 ρ1 H1 vs e1 s1 r1 => ?_⟩
            cases r1 with
            | @cons _ v1 _ _ r1 rt => cases rt with
              | @cons _ v2 _ _ r2 rt =>
                cases rt
                obtain ⟨k1, b1, xs, rfl, q1, q2⟩ := zpS_at s1 r1 h1
                obtain ⟨k2, b2, ys, rfl, q3, q4⟩ := zpS_at s1 r2 h2'
                exact ⟨k1, k2, b1, b2, xs, ys, rfl, q1, q3, q _ _ _ _ e1 s1 (.zm k1 k2 q2 q4)⟩
        · simp [chkI] at h
      | _ => simp [chkI] at h
    | _ => simp [chkI] at h
  | _ => simp [chkI] at h
theorem wipeE_ok {U ρ : List Addr} {K : PySem.W.Frag} {H : Hp} {env : DEnv} {σ : L2.St} (he : EnvOk U K ρ H env σ) : ∀ own : List Nat, EnvOk U K ρ H (wipeE env own) (wipe σ own)
  | [] => he
  | v :: vs => by
    have ih := wipeE_ok he vs
    refine ⟨by unfold wipeE wipe; rw [List.length_set, List.length_set, ih.1], fun i d hi => ?_⟩
    unfold wipeE at hi
    unfold wipe
    by_cases z : v = i
    · subst z
      by_cases hl : v < (wipeE env vs).length
      · rw [List.getElem?_set_self hl] at hi; cases hi
      · rw [List.getElem?_eq_none (by simpa using hl)] at hi; cases hi
    · rw [List.getElem?_set_ne z] at hi ⊢
      exact ih.2 i d hi
theorem wipe_get (σ : L2.St) : ∀ (vs : List Nat) (i : Nat), (wipe σ vs)[i]? = if i ∈ vs then (σ[i]?).map (fun _ => none) else σ[i]?
  | [], i => by rw [if_neg (by simp)]; rfl
  | v :: vs, i => by
    unfold wipe
    by_cases z : v = i
    · subst z
      rw [if_pos (by simp)]
      by_cases hl : v < (wipe σ vs).length
      · rw [List.getElem?_set_self hl]
        rw [wipe_length] at hl
        rw [List.getElem?_eq_getElem hl]; rfl
      · rw [List.getElem?_eq_none (by simpa using hl)]
        rw [wipe_length] at hl
        rw [List.getElem?_eq_none (Nat.le_of_not_lt hl)]; rfl
    · rw [List.getElem?_set_ne z, wipe_get σ vs i]
      have hz : i ≠ v := fun e => z e.symm
      by_cases q : i ∈ vs
      · rw [if_pos q, if_pos (List.mem_cons_of_mem _ q)]
      · rw [if_neg q, if_neg (by simp [hz, q])]
theorem wipe_same {σ σ2 : L2.St} {ts own : List Nat} (o : Only ts (wipe σ own) σ2) (h : ∀ j, j ∈ ts → j ∈ own) : wipe σ2 own = wipe σ own := by
  refine List.ext_getElem? fun i => ?_
  rw [wipe_get, wipe_get]
  have hl : σ2.length = σ.length := by rw [o.len, wipe_length]
  by_cases q : i ∈ own
  · rw [if_pos q, if_pos q]
    by_cases z : i < σ.length
    · rw [List.getElem?_eq_getElem z, List.getElem?_eq_getElem (by rw [hl]; exact z)]; rfl
    · rw [List.getElem?_eq_none (by omega), List.getElem?_eq_none (by omega)]
  · rw [if_neg q, if_neg q, o.eq i (fun z => q (h i z)), wipe_get, if_neg q]
def tCnd (K : PySem.W.Frag) (F : FT) (Gc : Nat → Option P) (cnd : C) : TT := fun σ H Q => ∃ U ρ env S b S', EnvOk U K ρ H env σ ∧ StOk U K ρ S H ∧ condD cnd (denE F Gc cnd env S) S = some (b, S') ∧
  ∀ U' ρ' H', Ext U ρ H U' ρ' H' → StOk U' K ρ' S' H' → Q b H'
def stepD (F : FT) (Gc : Nat → Option P) (elt tg cnd : C) (own : List Nat) (env : DEnv) (x : P) (S : Sto) : Option (Option P × Sto) :=
  (bindT tg (.p x) (wipeE env own) S).bind fun e => (condD cnd (denE F Gc cnd e S) S).bind fun t => match t.1 with
    | true => (denE F Gc elt e t.2).bind fun q => (purD q.1).map fun y => (some y, q.2)
    | false => some (none, t.2)
theorem lc_red {K : PySem.W.Frag} {elt tg it cnd : C} {own : List Nat} {U ρ : List Addr} {env : DEnv} {S S1 S2 : Sto} {src : Src} {xs : List P} {σ : L2.St} {H : Hp} {Q : VK} (he : EnvOk U K ρ H env σ) (hs : StOk U K ρ S H)
    (hsl : ∀ j, j ∈ slotsT tg → j ∈ own) (m1 : denI F Gc it env S = some (src, S1)) (hf : lenS S1 src ≤ 16777216) (hc : compG (fun S => isRl S src) (fun S i => atS S src i) (stepD F Gc elt tg cnd own env) (lenS S1 src) 0 S1 = some (xs, S2))
    (k : ∀ U' ρ' H' p vs, Ext U ρ H U' ρ' H' → H p = none → p ∉ U' → H' p = some (.lst vs) → StOk (U' ++ [p]) K ρ' S2 H' → RepPs (U' ++ [p]) K H' xs vs → Q (.ref p) H') :
    tLc (tI K (denI F Gc it)) (tG K tg) (tCnd K F Gc cnd) (tE K (denE F Gc elt)) own σ H Q := by
  refine ⟨U, ρ, env, S, src, S1, he, hs, m1, fun U1 ρ1 H1 J e1 s1 sa D hD => ?_⟩
  have D1 : D ∉ U1 := s1.fresh hD
  generalize hN : lenS S1 src = N at hf hc
  refine ⟨fun i m Hc => ∃ U2 ρ2 Sc acc vs rest, Ext U1 ρ1 H1 U2 ρ2 Hc ∧ D ∉ U2 ∧ Hc D = some (.lst vs) ∧ StOk (U2 ++ [D]) K ρ2 Sc Hc ∧ RepPs (U2 ++ [D]) K Hc acc vs ∧ vs.length ≤ i ∧ i + m = N ∧
    compG (fun S => isRl S src) (fun S i => atS S src i) (stepD F Gc elt tg cnd own env) m i Sc = some (rest, S2) ∧ xs = acc ++ rest, ⟨N, U1, ρ1, S1, [], [], xs, .grow (grow_new hD), D1, upd_same, s1.add hD, .nil, Nat.zero_le _, Nat.zero_add N, hc, rfl⟩, ?_⟩
  rintro i m Hc ⟨U2, ρ2, Sc, acc, vs, rest, e2, D2, hDc, s2, r2, hlen, him, hcm, hx⟩
  obtain ⟨n2, eu2, er2, hn2⟩ := e2.nw
  have Dr2 : D ∉ ρ2 := fun z => D2 (by
    rw [er2] at z
    rw [eu2]
    rcases List.mem_append.mp z with z | z
    · exact List.mem_append_left _ (s1.sub _ z)
    · exact List.mem_append_right _ z)
  have mv : Mv U1 ρ1 H1 (U2 ++ [D]) ρ2 Hc := ⟨fun a h1 h2 z => by
    rcases List.mem_append.mp z with z | z
    · exact e2.notin h1 h2 z
    · rw [List.mem_singleton.mp z] at h2; exact h2 hD, fun a o h1 h2 => e2.keep a o h1 fun z => h2 (s1.sub a z), fun k a h => by rw [er2, List.getElem?_append_left (List.getElem?_eq_some_iff.mp h).1]; exact h⟩
  have sa2 := sa.mv mv
  have he2 : EnvOk (U2 ++ [D]) K ρ2 Hc (wipeE env own) (wipe σ own) := wipeE_ok ((he.mono e1 hs.sub).mv mv) own
  have tn := sa2.turn s2 i
  cases hat : atS Sc src i with
  | none =>
    refine .inl ?_
    have hok : isRl Sc src = true ∧ rest = [] ∧ S2 = Sc := by
      cases m with
      | zero =>
        simp only [compG, hat] at hcm
        split at hcm
        · cases hcm; exact ⟨by assumption, rfl, rfl⟩
        · cases hcm
      | succ m =>
        simp only [compG, hat] at hcm
        split at hcm
        · cases hcm; exact ⟨by assumption, rfl, rfl⟩
        · cases hcm
    obtain ⟨h1, h2, h3⟩ := hok
    subst h2
    subst h3
    refine ⟨tn.1 hat h1, k U2 ρ2 Hc D vs (e1.trans e2) (fresh0 e1 hD) D2 hDc s2 ?_⟩
    rw [hx, List.append_nil]
    exact r2
  | some x =>
    refine .inr ?_
    cases m with
    | zero => simp only [compG, hat] at hcm; cases hcm
    | succ m =>
      simp only [compG, hat, Option.bind_eq_some_iff, Option.map_eq_some_iff] at hcm
      obtain ⟨⟨o, S3⟩, st3, ⟨rs, S4⟩, hrest, e3⟩ := hcm
      cases e3
      obtain ⟨go, yl⟩ := tn.2 x hat
      refine ⟨go, fun Hn => ∃ U5 ρ5 Sc5 acc5 vs5 rest5, Ext U1 ρ1 H1 U5 ρ5 Hn ∧ D ∉ U5 ∧ Hn D = some (.lst vs5) ∧ StOk (U5 ++ [D]) K ρ5 Sc5 Hn ∧ RepPs (U5 ++ [D]) K Hn acc5 vs5 ∧ vs5.length ≤ i + 1 ∧
        compG (fun S => isRl S src) (fun S i => atS S src i) (stepD F Gc elt tg cnd own env) m (i + 1) Sc5 = some (rest5, _) ∧ xs = acc5 ++ rest5, fun H' ⟨U5, ρ5, Sc5, acc5, vs5, rest5, w1, w2, w3, w4, w5, w6, w7, w8⟩ =>
          ⟨m, Nat.lt_succ_self m, U5, ρ5, Sc5, acc5, vs5, rest5, w1, w2, w3, w4, w5, w6, by omega, w7, w8⟩, fun y H3 hy => ?_⟩
      obtain ⟨f1, f2, f3⟩ := yl y H3 hy
      unfold stepD at st3
      simp only [Option.bind_eq_some_iff] at st3
      obtain ⟨e', hb, ⟨b, S5⟩, hcd, hel⟩ := st3
      refine ⟨U2 ++ [D], ρ2, wipeE env own, Sc, .p x, e', he2.mono f1 s2.sub, f2, f3, ?_, fun σ2 o2 he3 => ⟨wipe_same o2 hsl, U2 ++ [D], ρ2, e', Sc, b, S5, he3, f2, hcd, fun U6 ρ6 H6 e6 s6 => ?_⟩⟩
      · exact hb
      -- the end of a turn: the world (U2 ++ [D]) ++ n is (U2 ++ n) ++ [D]
      have turnEnd : ∀ {U7 ρ7 : List Addr} {H7 : Hp}, Ext (U2 ++ [D]) ρ2 Hc U7 ρ7 H7 → ∃ n7, ρ7 = ρ2 ++ n7 ∧ Ext U1 ρ1 H1 (U2 ++ n7) ρ7 H7 ∧ D ∉ U2 ++ n7 ∧ H7 D = some (.lst vs) ∧ (∀ a, a ∈ (U2 ++ n7) ++ [D] → a ∈ U7) ∧ (∀ a, a ∈ U7 → a ∈ (U2 ++ n7) ++ [D]) ∧ D ∉ ρ7 := by
        rintro U7 ρ7 H7 e7
        obtain ⟨n7, eu7, er7, hn7⟩ := e7.nw
        have Dn : D ∉ n7 := fun z => by have := hn7 D z; rw [hDc] at this; cases this
        refine ⟨n7, er7, ⟨⟨n2 ++ n7, by rw [eu2, List.append_assoc], by rw [er7, er2, List.append_assoc], fun a ha => ?_⟩, fun a o h1 h2 => ?_, fun a h => e7.live a (e2.live a h)⟩, fun z => ?_, e7.keep D _ hDc Dr2, fun a ha => ?_, fun a ha => ?_, fun z => ?_⟩
        · rcases List.mem_append.mp ha with z | z
          · exact hn2 a z
          · have := hn7 a z
            cases q : H1 a with
            | none => rfl
            | some o => exact absurd this (e2.live a (by rw [q]; simp))
        · have h3 := e2.keep a o h1 h2
          refine e7.keep a o h3 fun z => ?_
          rw [er2] at z
          rcases List.mem_append.mp z with z | z
          · exact h2 z
          · rw [hn2 a z] at h1; cases h1
        · rcases List.mem_append.mp z with z | z
          · exact D2 z
          · exact Dn z
        · rw [eu7]
          simp only [List.mem_append, List.mem_singleton] at ha ⊢
          rcases ha with (h | h) | h
          · exact .inl (.inl h)
          · exact .inr h
          · exact .inl (.inr h)
        · rw [eu7] at ha
          simp only [List.mem_append, List.mem_singleton] at ha ⊢
          rcases ha with (h | h) | h
          · exact .inl (.inl h)
          · exact .inr h
          · exact .inl (.inr h)
        · rw [er7] at z
          rcases List.mem_append.mp z with z | z
          · exact Dr2 z
          · exact Dn z
      cases b with
      | false =>
        dsimp only
        rw [if_neg Bool.false_ne_true]
        cases hel
        obtain ⟨n7, er7, w1, w2, w3, w4, w5, w6⟩ := turnEnd (f1.trans e6)
        exact ⟨U2 ++ n7, ρ6, _, acc, vs, rs, w1, w2, w3, s6.same w4 w5, RepPs.mv (ρ := ρ6) (ρ' := ρ6) (.same w4) (RepPs.mono (f1.trans e6) s2.sub r2), by omega, hrest, by simpa using hx⟩
      | true =>
        dsimp only
        rw [if_pos rfl]
        have hel : ((denE F Gc elt e' S5).bind fun q => (purD q.1).map fun y => (some y, q.2)) = some (o, S3) := hel
        simp only [Option.bind_eq_some_iff, Option.map_eq_some_iff] at hel
        obtain ⟨⟨dq, S6⟩, h6, yq, hy6, e9⟩ := hel
        cases e9
        refine seq1 (he3.mono e6 f2.sub) s6 h6 fun U7 ρ7 H7 v7 e7 s7 r7 => ?_
        obtain ⟨n7, er7, w1, w2, w3, w4, w5, w6⟩ := turnEnd ((f1.trans e6).trans e7)
        refine ⟨vs, w3, ?_, ?_⟩
        · rw [sizeLine_eq]; omega
        · have hD7 : D ∈ (U2 ++ n7) ++ [D] := List.mem_append_right _ (List.mem_singleton.mpr rfl)
          have s8 : StOk ((U2 ++ n7) ++ [D]) K ρ7 _ H7 := s7.same w4 w5
          cases dq with
          | p z =>
            cases hy6
            refine ⟨U2 ++ n7, ρ7, _, acc ++ [yq], vs ++ [v7], rs, ⟨w1.nw, fun a u h1 h2 => ?_, fun a h => ?_⟩, w2, upd_same, s8.at_p hD7 w6, ?_, by rw [List.length_append]; show vs.length + 1 ≤ i + 1; omega, hrest, ?_⟩
            · have hne : a ≠ D := ne_of_none h1 hD
              rw [upd_ne hne]
              exact w1.keep a u h1 h2
            · by_cases q : a = D
              · rw [q, upd_same]; simp
              · rw [upd_ne q]; exact w1.live a h
            · refine RepPs.append (RepPs.mv (ρ := ρ7) (ρ' := ρ7) (.at_ hD7) (RepPs.mv (ρ := ρ7) (ρ' := ρ7) (.same w4) (RepPs.mono ((f1.trans e6).trans e7) s2.sub r2))) (.cons (RepP.mv (ρ := ρ7) (ρ' := ρ7) (.at_ hD7) (RepP.mv (ρ := ρ7) (ρ' := ρ7) (.same w4) r7)) .nil)
            · rw [hx]; simp
          | _ => cases hy6
theorem Mt.blk {X : Cx} {T : TI0} (m : Mt T X) (scope : Scope) (s : Shared) (H : Hp) (C : Addr) (cl : List (Str × Addr)) (fp : List Addr) : Mt (blkT T scope) (X.blk s H scope (compEnvC scope cl C X.env) fp) :=
  ⟨m.N, by show relS scope X.env.scope = relS scope T.sc; rw [m.sc], fun _ h => h, fun z => by cases z⟩
structure LcOk (G : GI) (F : FT) (Gc : Nat → Option P) (X : Cx) (T : TI0) (elt tg it cnd : C) (own : List Nat) (el t i : Expr) (ifs : List Expr) (scope : Scope) : Prop where
  blk : BlkOk X.N X.env.scope scope (own.map fun j => ((T.N[j]?).getD Str.empty, j))
  it : PI X t i (tI X.K (denI F Gc it))
  set : noSetB i = true
  slots : ∀ j, j ∈ slotsT tg → j ∈ own
  tg : ∀ (s : Shared) (H : Hp) (C : Addr) (cl : List (Str × Addr)) (fp : List Addr), PG (X.blk s H scope (compEnvC scope cl C X.env) fp) t (tG X.K tg)
  cnd : ∀ (s : Shared) (H : Hp) (C : Addr) (cl : List (Str × Addr)) (fp : List Addr), PTs (X.blk s H scope (compEnvC scope cl C X.env) fp) ifs (tCnd X.K F Gc cnd)
  elt : ∀ (s : Shared) (H : Hp) (C : Addr) (cl : List (Str × Addr)) (fp : List Addr), PE (X.blk s H scope (compEnvC scope cl C X.env) fp) el (tE X.K (denE F Gc elt))
theorem own_snd {N : List Str} (own : List Nat) : (own.map fun j => ((N[j]?).getD Str.empty, j)).map (·.2) = own := by
  rw [List.map_map]
  have : ((fun x : Str × Nat => x.2) ∘ fun j => ((N[j]?).getD Str.empty, j)) = id := rfl
  rw [this, List.map_id]
theorem lc_ok {elt tg it cnd : C} {own : List Nat} (ha : OkE G F Gc elt) (hi : OkI G F Gc it) (hc : OkE G F Gc cnd) {X : Cx} {T : TI0} {el t i : Expr} {ifs : List Expr} {scope : Scope} {p : Pos} (g : Gd G F Gc X) (m : Mt T X)
    (h : chkE G T (.lc elt tg it cnd own) (.ListComp el [⟨t, i, ifs, 0⟩] scope p) = true) : LcOk G F Gc X T elt tg it cnd own el t i ifs scope := by
  have h : (blkC T.N T.sc scope (own.map fun j => ((T.N[j]?).getD Str.empty, j)) && chkI G T it t i && chkT (blkT T scope) tg t && (slotsT tg).all (fun j => own.contains j) && chkE G (blkT T scope) elt el && (match (generalizing := false) ifs with
    | [] => isNil cnd
    | [x] => !isNil cnd && chkE G (blkT T scope) cnd x
    | _ => false)) = true := h
  simp only [Bool.and_eq_true, List.all_eq_true, List.contains_iff_mem] at h
  obtain ⟨⟨⟨⟨⟨h1, h2⟩, h3⟩, h4⟩, h5⟩, h6⟩ := h
  obtain ⟨i1, i2⟩ := hi X T t i g m h2
  refine ⟨blkOk_by (by rw [m.N, m.sc]; exact h1), i1, i2, h4, fun s H C cl fp => ?_, fun s H C cl fp => ?_, fun s H C cl fp => ?_⟩
  · exact (pgT tg).1 _ _ t (g.blk _ _ _ _ _) (m.blk scope s H C cl fp) h3
  · rcases ifs with _ | ⟨c, _ | ⟨c2, ifs⟩⟩
    · have h6 : isNil cnd = true := h6
      refine ⟨fun pins s' σ H' Q I ⟨U, ρ, env, S, b, S', he, hs, hm, q⟩ => pts_nil.run pins s' σ H' Q I ?_⟩
      unfold condD at hm
      rw [if_pos h6] at hm
      cases hm
      exact q _ _ _ (.refl _ _ _) hs
    · have h6 : (!isNil cnd && chkE G (blkT T scope) cnd c) = true := h6
      rw [Bool.and_eq_true, Bool.not_eq_true'] at h6
      obtain ⟨_, _, c3, _⟩ := hc _ _ c (g.blk s H scope (compEnvC scope cl C X.env) fp) (m.blk scope s H C cl fp) h6.2
      refine ⟨fun pins s' σ H' Q I ⟨U, ρ, env, S, b, S', he, hs, hm, q⟩ => (pts_one c3).run pins s' σ H' Q I ?_⟩
      unfold condD at hm
      rw [if_neg (by rw [h6.1]; simp)] at hm
      exact ⟨U, ρ, env, S, b, S', he, hs, asB_some hm, q⟩
    · simp at h6
  · exact (ha _ _ el (g.blk s H scope (compEnvC scope cl C X.env) fp) (m.blk scope s H C cl fp) h5).1
theorem tF_lc {K : PySem.W.Frag} {elt tg it cnd : C} {own : List Nat} (hsl : ∀ j, j ∈ slotsT tg → j ∈ own) (σ : L2.St) (H : Hp) (Q : VK) (h : tF K (denE F Gc (.lc elt tg it cnd own)) σ H Q) :
    tLc (tI K (denI F Gc it)) (tG K tg) (tCnd K F Gc cnd) (tE K (denE F Gc elt)) own σ H Q := by
  obtain ⟨U, ρ, env, S, xs, S', he, hs, hm, q⟩ := h
  simp only [denE, Option.bind_eq_some_iff] at hm
  obtain ⟨⟨src, S1⟩, m1, u, hu, hm⟩ := hm
  split at hu
  · rename_i hf
    obtain ⟨⟨ys, S2⟩, hcm, e1⟩ := Option.map_eq_some_iff.mp hm
    cases e1
    exact lc_red he hs hsl m1 (of_decide_eq_true hf) hcm q
  · cases hu
theorem lc_list {elt tg it cnd : C} {own : List Nat} : ∀ env S d S', denE F Gc (.lc elt tg it cnd own) env S = some (d, S') → ∃ xs, d = .p (.list xs) := by
  intro env S d S' hm
  simp only [denE, Option.bind_eq_some_iff] at hm
  obtain ⟨_, _, _, _, hm⟩ := hm
  obtain ⟨_, _, e1⟩ := Option.map_eq_some_iff.mp hm
  cases e1
  exact ⟨_, rfl⟩
theorem e_lc {elt tg it cnd : C} (own : List Nat) (ha : OkE G F Gc elt) (hi : OkI G F Gc it) (hc : OkE G F Gc cnd) : OkE G F Gc (.lc elt tg it cnd own) := by
  intro X T e g m h
  cases e with
  | ListComp el gens scope p =>
    rcases gens with _ | ⟨⟨t, i, ifs, asy⟩, _ | ⟨g2, gens⟩⟩
    · simp [chkE] at h
    · rcases asy with (_ | n) | n
      rotate_left
      · cases h
      · cases h
      · have h : chkE G T (.lc elt tg it cnd own) (.ListComp el [⟨t, i, ifs, 0⟩] scope p) = true := h
        have ok := lc_ok ha hi hc g m h
        have pf : PE X (.ListComp el [⟨t, i, ifs, 0⟩] scope p) (tF X.K (denE F Gc (.lc elt tg it cnd own))) := by
          have z := pe_lc (pos := p) g.calm g.nd ok.it ok.blk ok.tg ok.cnd ok.elt (noSet_of ok.set)
          rw [own_snd] at z
          exact PE.imp z fun σ H Q q => tF_lc ok.slots σ H Q q
        exact mkN (PE.imp pf fun σ H Q q => tE_imp_F lc_list q) pf (fun _ => rfl) (fun _ _ _ z => by cases z)
    · simp [chkE] at h
  | _ => simp [chkE] at h
end
end DS
set_option maxRecDepth 100000
set_option maxHeartbeats 4000000
namespace DS
open PySem PySem.Spec L2 PyProof.Rows
section
variable {G : GI} {F : FT} {Gc : Nat → Option P}
theorem dgtD_some {o i f d : D} {S : Sto} (h : dgtD o i f S = some d) : (∃ n x kvs k, o = .r n ∧ i = .p x ∧ S[n]? = some (.dic kvs) ∧ keyP x = some k ∧ d = (dGet kvs k).getD f) ∨ ∃ n x kvs k, o = .r n ∧ i = .p x ∧ S[n]? = some (.dit kvs) ∧ keyT x = some k ∧ d = (dGet kvs k).getD f := by
  cases o with
  | r n => cases i with
    | p x =>
      have h : (match S[n]?, keyP x with | some (.dic kvs), some k => some ((dGet kvs k).getD f) | some (.dit kvs), _ => (keyT x).map fun k => (dGet kvs k).getD f | _, _ => none) = some d := h
      cases e : S[n]? with
      | none => rw [e] at h; cases h
      | some mo =>
        cases mo with
        | lst _ => rw [e] at h; cases h
        | dic kvs =>
          cases e2 : keyP x with
          | none => rw [e, e2] at h; cases h
          | some k => rw [e, e2] at h; exact .inl ⟨n, x, kvs, k, rfl, rfl, e, e2, (Option.some.inj h).symm⟩
        | dit kvs =>
          rw [e] at h
          have h : (keyT x).map (fun k => (dGet kvs k).getD f) = some d := h
          obtain ⟨k, e2, h⟩ := Option.map_eq_some_iff.mp h
          exact .inr ⟨n, x, kvs, k, rfl, rfl, e, e2, h.symm⟩
    | _ => cases h
  | _ => cases h
theorem getD_rep {κ : Type} [DecidableEq κ] {U ρ : List Addr} {K : PySem.W.Frag} {H : Hp} {kvs : List (κ × D)} {ws : List (κ × V)} {k : κ} {f : D} {vf : V} (r : RepKv U K ρ H kvs ws) (rf : RepD U K ρ H f vf) : RepD U K ρ H ((dGet kvs k).getD f) ((valV ws k).getD vf) := by
  obtain ⟨h1, h2⟩ := dGet_rep (k := k) r
  cases e : dGet kvs k with
  | some d =>
    obtain ⟨v, e2, e3⟩ := h1 d e
    rw [e2]
    exact e3
  | none =>
    rw [e] at h2
    cases e2 : valV ws k with
    | some v => rw [e2] at h2; cases h2
    | none => exact rf
theorem e_dgt {o a b : C} (ho : OkE G F Gc o) (ha : OkE G F Gc a) (hb : OkE G F Gc b) : OkE G F Gc (.dgt o a b) := by
  intro X T e g m h
  cases e with
  | Call fn args kws p => cases fn with
    | Attribute r nm ap =>
      rcases args with _ | ⟨e, _ | ⟨f, _ | ⟨f2, args⟩⟩⟩
      · cases h
      · cases h
      · cases kws with
        | cons _ _ => cases h
        | nil =>
          have h : (decide (nm = ("get" : Str)) && recvB r && (ap.endLine == p.line) && chkE G T o r && chkE G T a e && chkE G T b f && noStB e && noStB f) = true := h
          simp only [Bool.and_eq_true, decide_eq_true_eq] at h
          obtain ⟨⟨⟨⟨⟨⟨⟨rfl, h2⟩, h3⟩, h4⟩, h5⟩, h6⟩, h7⟩, h8⟩ := h
          obtain ⟨o1, _⟩ := ho X T r g m h4
          obtain ⟨a1, _⟩ := ha X T e g m h5
          obtain ⟨b1, _⟩ := hb X T f g m h6
          have few : ((backTo p (starEach [e, f] X.env)).all (fun x => !x.1) && (backToKw p (keywordEach [] X.env)).all (fun x => x.1.isSome) && decide (([e, f] : List Expr).length + ([] : List Keyword).length + (if ([] : List Keyword).isEmpty then 0 else 1) < 30)) = true := by
            rw [kw_few (es := [e, f]) (by simp [h7, h8])]
            rfl
          have mm : M2 X r "get" ap e f p := ⟨base_of h2, few, h3, by rw [star2 h7 h8]; rfl⟩
          refine mkE rfl (PE.imp (pe_dget2 (by have := g.un; omega) o1 a1 b1 mm) ?_) (fun _ => rfl) (fun _ _ _ z => by cases z)
          rintro σ H Q ⟨U, ρ, env, S, d, S', he, hs, hm, q⟩
          simp only [denE, Option.bind_eq_some_iff] at hm
          obtain ⟨⟨d1, S1⟩, m1, hm⟩ := hm
          split at hm
          · rename_i hown
            simp only [Option.bind_eq_some_iff, Option.map_eq_some_iff] at hm
            obtain ⟨⟨d2, S2⟩, m2, ⟨d3, S3⟩, m3, dd, hd, e1⟩ := hm
            cases e1
            refine seq1 he hs m1 fun U1 ρ1 H1 v1 e1 s1 r1 => ?_
            cases d1 with
            | r n =>
              obtain ⟨ad, rfl, had⟩ := r1
              refine ⟨ad, rfl, ?_, seq2 (he.mono e1 hs.sub) s1 m2 m3 fun U2 ρ2 H2 v2 v3 e2 s2 r2 r3 => ?_⟩
              · have hown : dicM S1[n]? = true := hown
                cases hS : S1[n]? with
                | none => rw [hS] at hown; cases hown
                | some mo =>
                  cases mo with
                  | lst _ => rw [hS] at hown; cases hown
                  | dic kvs =>
                    obtain ⟨ws, h6, h7⟩ := s1.at_ n ad _ had hS
                    exact .inl ⟨ws, .inl h6⟩
                  | dit kvs =>
                    obtain ⟨ws, h6, h7⟩ := s1.at_ n ad _ had hS
                    exact .inr ⟨ws, .inl h6⟩
              · have r1' : RepD U1 X.K ρ1 H1 (.r n) (.ref ad) := ⟨ad, rfl, had⟩
                have had2 : RepD U2 X.K ρ2 H2 (.r n) (.ref ad) := r1'.mono e2 s1.sub
                obtain ⟨ad', ez, had2⟩ := had2
                cases ez
                rcases dgtD_some hd with ⟨n', x, kvs, k, en, rfl, h3, h4, rfl⟩ | ⟨n', x, kvs, k, en, rfl, h3, h4, rfl⟩
                · cases en
                  obtain ⟨ws, h6, h7⟩ := s2.at_ n ad _ had2 h3
                  have ey : v2 = kV k := key_rep h4 r2
                  exact ⟨valV ws k, by rw [ey]; exact DGet.k h6, q _ _ _ _ (e1.trans e2) s2 (getD_rep h7 r3)⟩
                · cases en
                  obtain ⟨ws, h6, h7⟩ := s2.at_ n ad _ had2 h3
                  obtain ⟨b, ey, hb⟩ := keyT_rep h4 r2
                  exact ⟨valV ws k, by rw [ey]; exact DGet.t h6 hb, q _ _ _ _ (e1.trans e2) s2 (getD_rep h7 r3)⟩
            | _ => cases hown
          · cases hm
      · cases h
    | _ => cases h
  | _ => cases h
end
end DS
set_option maxRecDepth 100000
set_option maxHeartbeats 4000000
namespace DS
open PySem PySem.Spec L2
def Fin (K : PySem.W.Frag) (U ρ : List Addr) (D : Ends) (σ : L2.St) (H : Hp) : Fl → Prop
  | .nx => D.nx σ H
  | .bk => D.bk σ H
  | .ct => D.ct σ H
  | .rt d => ∃ v, RepD U K ρ H d v ∧ D.rt v H
abbrev SM := DEnv → Sto → Option (Fl × DEnv × Sto)
def tS (K : PySem.W.Frag) (m : SM) : TS := fun D σ H => ∃ U ρ env S f env' S', EnvOk U K ρ H env σ ∧ StOk U K ρ S H ∧ m env S = some (f, env', S') ∧
  ∀ U' ρ' H' σ', Ext U ρ H U' ρ' H' → StOk U' K ρ' S' H' → EnvOk U' K ρ' H' env' σ' →
    (f = .nx → D.nx σ' H') ∧ (f = .bk → D.bk σ' H') ∧ (f = .ct → D.ct σ' H') ∧ (∀ d v, f = .rt d → RepD U' K ρ' H' d v → D.rt v H')
section
variable (G : GI) (F : FT) (Gc : Nat → Option P)
def OkS (c : C) : Prop := ∀ (X : Cx) (T : TI0) (s : Stmt), Gd G F Gc X → Mt T X → chkS G T c s = true → PS X s (tS X.K (denS F Gc c))
def OkSs (c : C) : Prop := ∀ (X : Cx) (T : TI0) (ss : List Stmt), Gd G F Gc X → Mt T X → chkSs G T c ss = true → PSs X ss (tS X.K (denSs F Gc c))
end
section
variable {G : GI} {F : FT} {Gc : Nat → Option P}
theorem Gd.nox {X : Cx} (g : Gd G F Gc X) : Gd G F Gc X.nox := ⟨g.calm, g.nd, g.gu, g.un, g.nob, g.cns, g.fns, g.xk⟩
theorem Mt.nox {X : Cx} {T : TI0} (m : Mt T X) : Mt T X.nox := ⟨m.N, m.sc, m.fn, m.top⟩
theorem s_pass : OkS G F Gc .pass := by
  intro X T s g m h
  cases s with
  | Pass p =>
    refine PS.imp ps_pass ?_
    rintro D σ H ⟨U, ρ, env, S, f, env', S', he, hs, hm, q⟩
    cases hm
    exact (q U ρ H σ (.refl _ _ _) hs he).1 rfl
  | _ => simp [chkS] at h
theorem s_brk : OkS G F Gc .brk := by
  intro X T s g m h
  cases s with
  | Break p =>
    refine PS.imp ps_break ?_
    rintro D σ H ⟨U, ρ, env, S, f, env', S', he, hs, hm, q⟩
    cases hm
    exact (q U ρ H σ (.refl _ _ _) hs he).2.1 rfl
  | _ => simp [chkS] at h
theorem s_cnt : OkS G F Gc .cnt := by
  intro X T s g m h
  cases s with
  | Continue p =>
    refine PS.imp ps_continue ?_
    rintro D σ H ⟨U, ρ, env, S, f, env', S', he, hs, hm, q⟩
    cases hm
    exact (q U ρ H σ (.refl _ _ _) hs he).2.2.1 rfl
  | _ => simp [chkS] at h
theorem sw_no {e : Expr} {t : Option Expr} {l : Nat} {env : Env} (h : isLC e = false) : swapsWith e t l env = pure false := by
  cases e <;> first | rfl | cases h
theorem s_ex {e : C} (he : OkE G F Gc e) : OkS G F Gc (.ex e) := by
  intro X T s g m h
  cases s with
  | Expr x p =>
    simp only [chkS, Bool.and_eq_true, Bool.not_eq_true'] at h
    obtain ⟨e1, _⟩ := he X T x g m h.1
    refine PS.imp (ps_expr e1 (sw_no h.2)) ?_
    rintro D σ H ⟨U, ρ, env, S, f, env', S', he, hs, hm, q⟩
    obtain ⟨⟨d, S1⟩, m1, e1⟩ := Option.map_eq_some_iff.mp hm
    cases e1
    exact seq1 he hs m1 fun U1 ρ1 H1 v1 e1 s1 r1 => (q U1 ρ1 H1 σ e1 s1 (he.mono e1 hs.sub)).1 rfl
  | _ => simp [chkS] at h
theorem s_ret {e : C} (he : OkE G F Gc e) : OkS G F Gc (.ret e) := by
  intro X T s g m h
  cases s with
  | Return x p =>
    cases x with
    | none => simp [chkS] at h
    | some x =>
      simp only [chkS] at h
      obtain ⟨e1, _⟩ := he X T x g m h
      refine PS.imp (ps_ret e1) ?_
      rintro D σ H ⟨U, ρ, env, S, f, env', S', he, hs, hm, q⟩
      obtain ⟨⟨d, S1⟩, m1, e1⟩ := Option.map_eq_some_iff.mp hm
      cases e1
      exact seq1 he hs m1 fun U1 ρ1 H1 v1 e1 s1 r1 => (q U1 ρ1 H1 σ e1 s1 (he.mono e1 hs.sub)).2.2.2 _ _ rfl r1
  | _ => simp [chkS] at h
theorem s_retN : OkS G F Gc .retN := by
  intro X T s g m h
  cases s with
  | Return x p =>
    cases x with
    | some x => simp [chkS] at h
    | none =>
      refine PS.imp ps_retN ?_
      rintro D σ H ⟨U, ρ, env, S, f, env', S', he, hs, hm, q⟩
      cases hm
      exact (q U ρ H σ (.refl _ _ _) hs he).2.2.2 _ _ rfl .non
  | _ => simp [chkS] at h
theorem tS_after {K : PySem.W.Frag} {U ρ U1 ρ1 : List Addr} {H H1 : Hp} {env' : DEnv} {S' : Sto} {f : Fl} {D : Ends} (e : Ext U ρ H U1 ρ1 H1)
    (q : ∀ U' ρ' H' σ', Ext U ρ H U' ρ' H' → StOk U' K ρ' S' H' → EnvOk U' K ρ' H' env' σ' → (f = .nx → D.nx σ' H') ∧ (f = .bk → D.bk σ' H') ∧ (f = .ct → D.ct σ' H') ∧ (∀ d v, f = .rt d → RepD U' K ρ' H' d v → D.rt v H')) :
    ∀ U' ρ' H' σ', Ext U1 ρ1 H1 U' ρ' H' → StOk U' K ρ' S' H' → EnvOk U' K ρ' H' env' σ' → (f = .nx → D.nx σ' H') ∧ (f = .bk → D.bk σ' H') ∧ (f = .ct → D.ct σ' H') ∧ (∀ d v, f = .rt d → RepD U' K ρ' H' d v → D.rt v H') :=
  fun U' ρ' H' σ' e1 s1 he1 => q U' ρ' H' σ' (e.trans e1) s1 he1
theorem s_ifs {c a b : C} (hc : OkE G F Gc c) (ha : OkSs G F Gc a) (hb : OkSs G F Gc b) : OkS G F Gc (.ifs c a b) := by
  intro X T s g m h
  cases s with
  | If t x y p =>
    simp only [chkS, Bool.and_eq_true] at h
    obtain ⟨_, _, c3, _⟩ := hc X T t g m h.1.1
    refine PS.imp (ps_if c3 (ha X T x g m h.1.2) (hb X T y g m h.2)) ?_
    rintro D σ H ⟨U, ρ, env, S, f, env', S', he, hs, hm, q⟩
    simp only [denS, Option.bind_eq_some_iff] at hm
    obtain ⟨⟨b1, S1⟩, m1, hm⟩ := hm
    refine ⟨U, ρ, env, S, b1, S1, he, hs, asB_some m1, fun U1 ρ1 H1 e1 s1 => ?_⟩
    cases b1 with
    | true =>
      rw [if_pos rfl]
      exact ⟨U1, ρ1, env, S1, f, env', S', he.mono e1 hs.sub, s1, hm, tS_after e1 q⟩
    | false =>
      rw [if_neg Bool.false_ne_true]
      exact ⟨U1, ρ1, env, S1, f, env', S', he.mono e1 hs.sub, s1, hm, tS_after e1 q⟩
  | _ => simp [chkS] at h
theorem ss_nil : OkSs G F Gc .nil := by
  intro X T ss g m h
  cases ss with
  | nil =>
    refine PSs.imp pss_nil ?_
    rintro D σ H ⟨U, ρ, env, S, f, env', S', he, hs, hm, q⟩
    cases hm
    exact (q U ρ H σ (.refl _ _ _) hs he).1 rfl
  | cons _ _ => simp [chkSs] at h
theorem ss_cons {a b : C} (ha : OkS G F Gc a) (hb : OkSs G F Gc b) : OkSs G F Gc (.cons a b) := by
  intro X T ss g m h
  cases ss with
  | nil => simp [chkSs] at h
  | cons s ss =>
    simp only [chkSs, Bool.and_eq_true] at h
    refine PSs.imp (pss_cons (ha X T s g m h.1) (hb X T ss g m h.2)) ?_
    rintro D σ H ⟨U, ρ, env, S, f, env', S', he, hs, hm, q⟩
    simp only [denSs, Option.bind_eq_some_iff] at hm
    obtain ⟨⟨f1, env1, S1⟩, m1, hm⟩ := hm
    refine ⟨U, ρ, env, S, f1, env1, S1, he, hs, m1, fun U1 ρ1 H1 σ1 e1 s1 he1 => ?_⟩
    cases f1 with
    | nx => exact ⟨fun _ => ⟨U1, ρ1, env1, S1, f, env', S', he1, s1, hm, tS_after e1 q⟩, fun z => (by cases z), fun z => (by cases z), fun _ _ z => (by cases z)⟩
    | bk =>
      cases hm
      exact ⟨fun z => (by cases z), fun _ => (q U1 ρ1 H1 σ1 e1 s1 he1).2.1 rfl, fun z => (by cases z), fun _ _ z => (by cases z)⟩
    | ct =>
      cases hm
      exact ⟨fun z => (by cases z), fun z => (by cases z), fun _ => (q U1 ρ1 H1 σ1 e1 s1 he1).2.2.1 rfl, fun _ _ z => (by cases z)⟩
    | rt d0 =>
      cases hm
      exact ⟨fun z => (by cases z), fun z => (by cases z), fun z => (by cases z), fun d v z => (q U1 ρ1 H1 σ1 e1 s1 he1).2.2.2 d v z⟩
theorem s_other {c : C} (h : ∀ T e, chkS G T c e = false) : OkS G F Gc c := fun X T es _ _ z => by rw [h] at z; cases z
theorem ss_other {c : C} (h : ∀ T e, chkSs G T c e = false) : OkSs G F Gc c := fun X T es _ _ z => by rw [h] at z; cases z
theorem ps_nox {X : Cx} {st : Stmt} {t : TS} (h : PS X.nox st t) : PS X st t := by
  refine ⟨fun pins s σ H D I q => ?_⟩
  have z := h.run pins s σ H D (I.wish _) q
  exact wpAny_mono z (fun f s' w => SP.unwish w) fun _ _ w => w.elim
theorem s_fors {t it body : C} (hi : OkI G F Gc it) (hb : OkSs G F Gc body) : OkS G F Gc (.fors t it body) := by
  intro X T s g m h
  cases s with
  | For tg i b orelse p =>
    cases orelse with
    | cons _ _ => simp [chkS] at h
    | nil =>
      simp only [chkS, Bool.and_eq_true] at h
      obtain ⟨⟨⟨h1, h2⟩, h3⟩, h4⟩ := h
      obtain ⟨i1, _⟩ := hi X.nox T tg i g.nox m.nox h2
      refine ps_nox (PS.imp (ps_for PassesOwn.never g.calm i1 ((pgT t).1 X.nox T tg g.nox m.nox h1) (hb X.nox T b g.nox m.nox h3) (noSet_of h4)) ?_)
      rintro D σ H ⟨U, ρ, env, S, f, env', S', he, hs, hm, q⟩
      simp only [denS, Option.bind_eq_some_iff] at hm
      obtain ⟨⟨src, S1⟩, m1, hm⟩ := hm
      have hm : loopG (fun S => isRl S src) (fun S i => atS S src i) (fun x env S => (bindT t (.p x) env S).bind fun e => denSs F Gc body e S) (lenS S1 src) 0 env S1 = some (f, env', S') := hm
      generalize lenS S1 src = N at hm
      refine ⟨U, ρ, env, S, src, S1, he, hs, m1, fun U1 ρ1 H1 J e1 s1 sa => ?_⟩
      refine ⟨fun i m σ H => ∃ U2 ρ2 env2 S2, Ext U1 ρ1 H1 U2 ρ2 H ∧ EnvOk U2 X.K ρ2 H env2 σ ∧ StOk U2 X.K ρ2 S2 H ∧
        loopG (fun S => isRl S src) (fun S i => atS S src i) (fun x env S => (bindT t (.p x) env S).bind fun e => denSs F Gc body e S) m i env2 S2 = some (f, env', S'), ⟨N, U1, ρ1, env, S1, .refl _ _ _, he.mono e1 hs.sub, s1, hm⟩, ?_⟩
      rintro i mm σ2 H2 ⟨U2, ρ2, env2, S2, e2, he2, s2, hl⟩
      have tn := (sa.mono e2 s1.sub).turn s2 i
      cases hat : atS S2 src i with
      | none =>
        refine .inl ?_
        have hok : isRl S2 src = true ∧ f = .nx ∧ env' = env2 ∧ S' = S2 := by
          cases mm with
          | zero =>
            simp only [loopG, hat] at hl
            split at hl
            · cases hl; exact ⟨by assumption, rfl, rfl, rfl⟩
            · cases hl
          | succ mm =>
            simp only [loopG, hat] at hl
            split at hl
            · cases hl; exact ⟨by assumption, rfl, rfl, rfl⟩
            · cases hl
        obtain ⟨k1, rfl, rfl, rfl⟩ := hok
        exact ⟨tn.1 hat k1, (q U2 ρ2 H2 σ2 (e1.trans e2) s2 he2).1 rfl⟩
      | some x =>
        refine .inr ?_
        cases mm with
        | zero => simp only [loopG, hat] at hl; cases hl
        | succ mm =>
          simp only [loopG, hat, Option.bind_eq_some_iff] at hl
          obtain ⟨⟨f3, env3, S3⟩, ⟨env4, hb4, hd4⟩, hl⟩ := hl
          obtain ⟨go, yl⟩ := tn.2 x hat
          refine ⟨go, fun σ' H' => ∃ U5 ρ5 env5 S5, Ext U1 ρ1 H1 U5 ρ5 H' ∧ EnvOk U5 X.K ρ5 H' env5 σ' ∧ StOk U5 X.K ρ5 S5 H' ∧
            loopG (fun S => isRl S src) (fun S i => atS S src i) (fun x env S => (bindT t (.p x) env S).bind fun e => denSs F Gc body e S) mm (i + 1) env5 S5 = some (f, env', S'), fun σ' H' z => ⟨mm, Nat.lt_succ_self mm, z⟩, fun y H3 hy => ?_⟩
          obtain ⟨f1, f2, f3'⟩ := yl y H3 hy
          refine ⟨U2, ρ2, env2, S2, .p x, env4, he2.mono f1 s2.sub, f2, f3', hb4, fun σ4 o4 he4 => ⟨U2, ρ2, env4, S2, f3, env3, S3, he4, f2, hd4, fun U6 ρ6 H6 σ6 e6 s6 he6 => ?_⟩⟩
          have e7 : Ext U1 ρ1 H1 U6 ρ6 H6 := (e2.trans f1).trans e6
          cases f3 with
          | nx => exact ⟨fun _ => ⟨U6, ρ6, env3, S3, e7, he6, s6, hl⟩, fun z => (by cases z), fun z => (by cases z), fun _ _ z => (by cases z)⟩
          | ct => exact ⟨fun z => (by cases z), fun z => (by cases z), fun _ => ⟨U6, ρ6, env3, S3, e7, he6, s6, hl⟩, fun _ _ z => (by cases z)⟩
          | bk =>
            cases hl
            exact ⟨fun z => (by cases z), fun _ => (q U6 ρ6 H6 σ6 (e1.trans e7) s6 he6).1 rfl, fun z => (by cases z), fun _ _ z => (by cases z)⟩
          | rt d0 =>
            cases hl
            exact ⟨fun z => (by cases z), fun z => (by cases z), fun z => (by cases z), fun d v z => (q U6 ρ6 H6 σ6 (e1.trans e7) s6 he6).2.2.2 d v z⟩
  | _ => simp [chkS] at h
theorem s_whl (fuel : Nat) {c body : C} (hc : OkE G F Gc c) (hb : OkSs G F Gc body) : OkS G F Gc (.whl fuel c body) := by
  intro X T s g m h
  cases s with
  | While t b orelse p =>
    cases orelse with
    | cons _ _ => simp [chkS] at h
    | nil =>
      simp only [chkS, Bool.and_eq_true] at h
      obtain ⟨_, _, c3, _⟩ := hc X.nox T t g.nox m.nox h.1
      refine ps_nox (PS.imp (ps_while PassesOwn.never c3 (hb X.nox T b g.nox m.nox h.2)) ?_)
      rintro D σ H ⟨U, ρ, env, S, f, env', S', he, hs, hm, q⟩
      have hm : whileG (fun env S => denT F Gc c env S) (fun env S => denSs F Gc body env S) fuel env S = some (f, env', S') := hm
      refine ⟨fun m σ H1 => ∃ U2 ρ2 env2 S2, Ext U ρ H U2 ρ2 H1 ∧ EnvOk U2 X.K ρ2 H1 env2 σ ∧ StOk U2 X.K ρ2 S2 H1 ∧
        whileG (fun env S => denT F Gc c env S) (fun env S => denSs F Gc body env S) m env2 S2 = some (f, env', S'), ⟨fuel, U, ρ, env, S, .refl _ _ _, he, hs, hm⟩, ?_⟩
      rintro mm σ2 H2 ⟨U2, ρ2, env2, S2, e2, he2, s2, hl⟩
      cases mm with
      | zero => cases hl
      | succ mm =>
        simp only [whileG, Option.bind_eq_some_iff] at hl
        obtain ⟨⟨b1, S3⟩, hc1, hl⟩ := hl
        refine ⟨U2, ρ2, env2, S2, b1, S3, he2, s2, asB_some hc1, fun U3 ρ3 H3 e3 s3 => ?_⟩
        cases b1 with
        | false =>
          cases hl
          rw [if_neg Bool.false_ne_true]
          exact (q U3 ρ3 H3 σ2 (e2.trans e3) s3 (he2.mono e3 s2.sub)).1 rfl
        | true =>
          rw [if_pos rfl]
          have hl : ((denSs F Gc body env2 S3).bind fun r => match r.1 with
            | .nx | .ct => whileG (fun env S => denT F Gc c env S) (fun env S => denSs F Gc body env S) mm r.2.1 r.2.2
            | .bk => some (.nx, r.2)
            | .rt d => some (.rt d, r.2)) = some (f, env', S') := hl
          obtain ⟨⟨f4, env4, S4⟩, hb4, hl⟩ := Option.bind_eq_some_iff.mp hl
          refine ⟨fun σ' H' => ∃ U5 ρ5 env5 S5, Ext U ρ H U5 ρ5 H' ∧ EnvOk U5 X.K ρ5 H' env5 σ' ∧ StOk U5 X.K ρ5 S5 H' ∧
            whileG (fun env S => denT F Gc c env S) (fun env S => denSs F Gc body env S) mm env5 S5 = some (f, env', S'), fun σ' H' z => ⟨mm, Nat.lt_succ_self mm, z⟩, U3, ρ3, env2, S3, f4, env4, S4, he2.mono e3 s2.sub, s3, hb4, fun U6 ρ6 H6 σ6 e6 s6 he6 => ?_⟩
          have e7 : Ext U ρ H U6 ρ6 H6 := (e2.trans e3).trans e6
          cases f4 with
          | nx => exact ⟨fun _ => ⟨U6, ρ6, env4, S4, e7, he6, s6, hl⟩, fun z => (by cases z), fun z => (by cases z), fun _ _ z => (by cases z)⟩
          | ct => exact ⟨fun z => (by cases z), fun z => (by cases z), fun _ => ⟨U6, ρ6, env4, S4, e7, he6, s6, hl⟩, fun _ _ z => (by cases z)⟩
          | bk =>
            cases hl
            exact ⟨fun z => (by cases z), fun _ => (q U6 ρ6 H6 σ6 e7 s6 he6).1 rfl, fun z => (by cases z), fun _ _ z => (by cases z)⟩
          | rt d0 =>
            cases hl
            exact ⟨fun z => (by cases z), fun z => (by cases z), fun z => (by cases z), fun d v z => (q U6 ρ6 H6 σ6 e7 s6 he6).2.2.2 d v z⟩
  | _ => simp [chkS] at h
end
end DS
set_option maxRecDepth 100000
set_option maxHeartbeats 4000000
namespace DS
open PySem PySem.Spec L2
theorem fnKind {env : Env} (hk : env.scope.kind = .function) : env.blockKind = .function := by unfold Env.blockKind; rw [hk]; rfl
theorem sw_line {elt : Expr} {gs : List Comprehension} {scope : Scope} {pos py : Pos} {y : Str} {l : Nat} {env : Env} (h : (lclB env.scope y && (py.line == pos.line)) = false) : swapsWith (.ListComp elt gs scope pos) (some (.Name y py)) l env = pure false := by
  have e : ((env.kindOf y == some .local) && (py.line == pos.line)) = false := by
    unfold lclB at h
    unfold Env.kindOf
    rw [Bool.and_eq_false_iff] at h ⊢
    refine h.imp (fun z => ?_) id
    split at z
    · cases z
    · rename_i q
      cases q2 : env.scope.names.lookup y with
      | none => rfl
      | some k =>
        rw [q2] at q
        cases k <;> first | rfl | exact absurd rfl q
  unfold swapsWith
  have e2 : (env.blockKind == .function && env.kindOf y == some .local && py.line == (Expr.ListComp elt gs scope pos).pos.line && !(scope.names.any fun (n, k) => n == y && (k == .local || k == .cell))) = false := by
    show ((env.blockKind == .function && env.kindOf y == some .local) && py.line == pos.line && _) = false
    rw [Bool.and_assoc (env.blockKind == .function), e]
    simp
  simp only [e2]
theorem sw_tup {elt : Expr} {gs : List Comprehension} {scope : Scope} {pos : Pos} {tg : Expr} {l : Nat} {env : Env} (h : ∀ y p, tg ≠ .Name y p) : swapsWith (.ListComp elt gs scope pos) (some tg) l env = pure false := by
  cases tg <;> first | rfl | exact absurd rfl (h _ _)
theorem swp_none {env : Env} {ts vs : List Expr} {a : Nat} {b : Pos} {c : Nat} {d : Pos} (hk : env.scope.kind = .function) (h : swpB env.scope ts vs = none) : swappedStores [.Tuple ts a b] (.Tuple vs c d) env = pure none := by
  unfold swappedStores
  simp only []
  unfold swpB at h
  rw [fnKind hk]
  rw [hk] at h
  split at h
  · rename_i q
    refine (if_pos q).trans ?_
    rfl
  · rename_i q
    refine (if_neg q).trans ?_
    split at h
    · rename_i q2
      refine (if_pos q2).trans ?_
      rfl
    · rename_i q2
      refine (if_neg q2).trans ?_
      dsimp only at h ⊢
      split at h
      · rename_i q3
        have q3' := q3
        unfold Env.kindOf
        refine (if_pos q3').trans ?_
        rfl
      · rename_i q3
        unfold Env.kindOf
        refine (if_neg q3).trans ?_
        split at h
        · rename_i q4
          refine (if_pos q4).trans ?_
          rfl
        · cases h
theorem swp_some {env : Env} {ts vs : List Expr} {a : Nat} {b : Pos} {c : Nat} {d : Pos} {ns : List Str} (hk : env.scope.kind = .function) (h : swpB env.scope ts vs = some ns) (hc : vs.all (constantsAlone 8) = false) : swappedStores [.Tuple ts a b] (.Tuple vs c d) env = pure (some ns) := by
  unfold swappedStores
  simp only []
  unfold swpB at h
  rw [fnKind hk]
  rw [hk] at h
  split at h
  · cases h
  · rename_i q
    refine (if_neg q).trans ?_
    split at h
    · cases h
    · rename_i q2
      refine (if_neg q2).trans ?_
      dsimp only at h ⊢
      split at h
      · cases h
      · rename_i q3
        unfold Env.kindOf
        refine (if_neg q3).trans ?_
        split at h
        · cases h
        · rename_i q4
          refine (if_neg q4).trans ((if_neg (by rw [hc]; simp)).trans ?_)
          cases h
          rfl
theorem noSwp_of {env : Env} {tg e : Expr} (hk : env.scope.kind = .function) (h : noSwpB env.scope tg e = true) : swappedStores [tg] e env = pure none := by
  cases tg with
  | Tuple ts a b => cases e with
    | Tuple vs c d =>
      unfold noSwpB at h
      cases q : swpB env.scope ts vs with
      | none => exact swp_none hk q
      | some ns => simp [q] at h
    | _ => rfl
  | List ts a => cases e <;> cases h
  | _ => rfl
section
variable {G : GI} {F : FT} {Gc : Nat → Option P}
def LcQ (G : GI) (F : FT) (Gc : Nat → Option P) (c : C) : Prop := ∀ (X : Cx) (T : TI0) (el t i : Expr) (ifs : List Expr) (scope : Scope) (p : Pos), Gd G F Gc X → Mt T X → chkE G T c (.ListComp el [⟨t, i, ifs, 0⟩] scope p) = true →
  ∃ (elt tg it cnd : C) (own : List Nat), LcOk G F Gc X T elt tg it cnd own el t i ifs scope ∧
    (∀ σ H Q, tE X.K (denE F Gc c) σ H Q → tLc (tI X.K (denI F Gc it)) (tG X.K tg) (tCnd X.K F Gc cnd) (tE X.K (denE F Gc elt)) own σ H Q) ∧
    (newB c = true → ∀ σ H Q, tF X.K (denE F Gc c) σ H Q → tLc (tI X.K (denI F Gc it)) (tG X.K tg) (tCnd X.K F Gc cnd) (tE X.K (denE F Gc elt)) own σ H Q)
theorem lcq_lc {elt tg it cnd : C} (own : List Nat) (ha : OkE G F Gc elt) (hi : OkI G F Gc it) (hc : OkE G F Gc cnd) : LcQ G F Gc (.lc elt tg it cnd own) := by
  intro X T el t i ifs scope p g m h
  have ok := lc_ok ha hi hc g m h
  exact ⟨elt, tg, it, cnd, own, ok, fun σ H Q q => tF_lc ok.slots σ H Q (tE_imp_F lc_list q), fun _ σ H Q q => tF_lc ok.slots σ H Q q⟩
theorem lcq_mk {a : C} (ha : LcQ G F Gc a) : LcQ G F Gc (.mk a) := by
  intro X T el t i ifs scope p g m h
  have h : (newB a && chkE G T a (.ListComp el [⟨t, i, ifs, 0⟩] scope p)) = true := h
  rw [Bool.and_eq_true] at h
  obtain ⟨elt, tg, it, cnd, own, ok, q1, q2⟩ := ha X T el t i ifs scope p g m h.2
  exact ⟨elt, tg, it, cnd, own, ok, fun σ H Q q => q2 h.1 σ H Q (mk_imp_F q), fun z => by cases z⟩
theorem lcq_other {c : C} (h : ∀ T e g s p, chkE G T c (.ListComp e g s p) = false) : LcQ G F Gc c := fun X T el t i ifs scope p _ _ z => by rw [h] at z; cases z
theorem asg_red {K : PySem.W.Frag} {e t : C} (D : Ends) (σ : L2.St) (H : Hp) (h : tS K (denS F Gc (.asg t e)) D σ H) : tAsg (tE K (denE F Gc e)) (tG K t) D σ H := by
  obtain ⟨U, ρ, env, S, f, env', S', he, hs, hm, q⟩ := h
  simp only [denS, Option.bind_eq_some_iff, Option.map_eq_some_iff] at hm
  obtain ⟨⟨d, S1⟩, m1, e2, hb, e1⟩ := hm
  cases e1
  exact seq1 he hs m1 fun U1 ρ1 H1 v1 e1 s1 r1 => ⟨U1, ρ1, env, S1, d, env', he.mono e1 hs.sub, s1, r1, hb, fun σ' _ he' => (q U1 ρ1 H1 σ' e1 s1 he').1 rfl⟩
theorem s_asg {t e : C} (he : OkE G F Gc e) (hl : LcQ G F Gc e) : OkS G F Gc (.asg t e) := by
  intro X T s g m h
  cases s with
  | Assign tgs x pos =>
    rcases tgs with _ | ⟨tg, _ | ⟨tg2, tgs⟩⟩
    · cases h
    · have h : (chkT T t tg && chkE G T e x && noStB tg && noSwpB T.sc tg x && lcB T.sc tg x) = true := h
      simp only [Bool.and_eq_true] at h
      obtain ⟨⟨⟨⟨h1, h2⟩, h3⟩, h4⟩, h5⟩ := h
      obtain ⟨e1, _⟩ := he X T x g m h2
      have pg := (pgT t).1 X T tg g m h1
      have hw : ∀ hk : X.env.scope.kind = .function, swappedStores [tg] x X.env = pure none := fun hk => noSwp_of hk (by rw [m.sc]; exact h4)
      have hs1 : (assignEach [tg] X.env).map (·.2) = [assign tg X.env] := by cases tg <;> first | rfl | cases h3
      have plain : (∀ hk : X.env.scope.kind = .function, swapsWith x (some tg) pos.line X.env = pure false) → PS X (.Assign [tg] x pos) (tAsg (tE X.K (denE F Gc e)) (tG X.K t)) := fun hsw =>
        ⟨fun pins s σ H D I q => (ps_asg e1 pg (hsw I.ok.kind) (hw I.ok.kind) hs1).run pins s σ H D I q⟩
      have lcs : ∀ el gs scope p, x = .ListComp el gs scope p → PS X (.Assign [tg] x pos) (tAsg (tE X.K (denE F Gc e)) (tG X.K t)) := fun el gs scope p ex => by
        subst ex
        cases tg with
        | Name y py =>
          cases q : (lclB X.env.scope y && (py.line == p.line)) with
          | false => exact plain fun _ => sw_line q
          | true =>
            rcases gs with _ | ⟨⟨t0, i0, ifs0, asy⟩, _ | ⟨g2, gs⟩⟩
            · cases h5
            · rcases asy with (_ | n) | n
              rotate_left
              · cases h5
              · cases h5
              · rw [m.sc] at q
                have h5 : (!(lclB T.sc y && (py.line == p.line)) || !(scope.names.any fun (n, k) => n == y && (k == .local || k == .cell))) = true := h5
                rw [q] at h5
                have ha : (scope.names.any fun (n, k) => n == y && (k == .local || k == .cell)) = false := by simpa using h5
                rw [Bool.and_eq_true] at q
                have hy := m.lcl q.1
                obtain ⟨elt, tg', it, cnd, own, ok, q1, _⟩ := hl X T el t0 i0 ifs0 scope p g m h2
                cases t with
                | tnm i =>
                  simp only [chkT, Bool.and_eq_true, decide_eq_true_eq] at h1
                  refine ⟨fun pins s σ H D I w => ?_⟩
                  have z := ps_setLc (spos := pos) g.calm g.nd (by rw [m.N]; exact h1.1) hy (sw_true (l := pos.line) I.ok.kind hy q.2 ha) ok.it ok.blk ok.tg ok.cnd ok.elt (noSet_of ok.set)
                  rw [own_snd] at z
                  refine z.run pins s σ H D I ?_
                  refine q1 _ _ _ ?_
                  obtain ⟨U, ρ, env, S, d, S', he, hs, hm, k⟩ := w
                  refine ⟨U, ρ, env, S, d, S', he, hs, hm, fun U1 ρ1 H1 v e1 s1 r1 => ?_⟩
                  obtain ⟨U2, ρ2, env2, S2, d2, env3, he2, hs2, rd2, hb, k2⟩ := k U1 ρ1 H1 v e1 s1 r1
                  have hb : (if i < env2.length then some (env2.set i (some d2)) else none) = some env3 := hb
                  split at hb
                  · cases hb
                    refine k2 _ ⟨List.length_set, fun j hj => ?_⟩ (he2.set rd2)
                    rw [List.getElem?_set_ne]
                    rintro rfl
                    exact hj (List.mem_singleton.mpr rfl)
                  · cases hb
                | _ => simp [chkT] at h1
            · (simp [lcB, isLC] at h5; done)
        | _ => exact plain fun _ => sw_tup (by intro _ _ z; cases z)
      refine PS.imp ?_ fun D σ H q => asg_red D σ H q
      cases hx : isLC x with
      | false => exact plain fun _ => sw_no hx
      | true =>
        cases x with
        | ListComp el gs scope p => exact lcs _ _ _ _ rfl
        | SetComp a b c d => cases h5
        | DictComp a b c d e => cases h5
        | _ => cases hx
    · cases h
  | _ => cases h
theorem s_par (is : List Nat) {es : C} (ha : OkA G F Gc es) : OkS G F Gc (.par is es) := by
  intro X T s g m h
  cases s with
  | Assign tgs x pos =>
    rcases tgs with _ | ⟨tg, _ | ⟨tg2, tgs⟩⟩
    · cases h
    · cases tg with
      | Tuple ts tk tp => cases x with
        | Tuple vs vk vp =>
          have h : (chkA G T es vs && parB T is ts vs) = true := h
          rw [Bool.and_eq_true] at h
          obtain ⟨h6, hp⟩ := h
          obtain ⟨a1, _, _⟩ := ha X T vs g m h6
          unfold parB at hp
          split at hp
          · rename_i x px y py a b
            simp only [Bool.and_eq_true, decide_eq_true_eq, Bool.not_eq_true'] at hp
            obtain ⟨⟨⟨⟨⟨⟨h1, h2⟩, h3⟩, h4⟩, h5⟩, h7⟩, h8⟩ := hp
            refine ⟨fun pins s σ H D I w => ?_⟩
            refine (ps_par g.calm g.nd (by rw [m.N]; exact h1) (by rw [m.N]; exact h2) h3 (m.lcl h4) (m.lcl h5) a1 (swp_some I.ok.kind (by rw [m.sc]; exact h7) h8)).run pins s σ H D I ?_
            obtain ⟨U, ρ, env, S, f, env', S', he, hs, hm, q⟩ := w
            simp only [denS, Option.bind_eq_some_iff, Option.map_eq_some_iff] at hm
            obtain ⟨⟨ds, S1⟩, m1, e2, hb, e1⟩ := hm
            cases e1
            refine ⟨U, ρ, env, S, ds, S1, he, hs, m1, fun U1 ρ1 H1 vs e1 s1 r1 => ?_⟩
            rcases ds with _ | ⟨d1, _ | ⟨d2, _ | ⟨d3, ds⟩⟩⟩
            · simp [bindPar] at hb
            · simp only [bindPar] at hb; split at hb <;> simp at hb
            · cases r1 with
              | @cons _ v1 _ _ r1 rt => cases rt with
                | @cons _ v2 _ _ r2 rt =>
                  cases rt
                  simp only [bindPar] at hb
                  split at hb
                  · split at hb
                    · cases hb
                      exact ⟨v1, v2, rfl, (q U1 ρ1 H1 _ e1 s1 (((he.mono e1 hs.sub).set r1).set r2)).1 rfl⟩
                    · cases hb
                  · cases hb
            · simp only [bindPar] at hb
              split at hb
              · split at hb <;> cases hb
              · cases hb
          · rename_i i j l x px y py z pz a b c
            simp only [Bool.and_eq_true, decide_eq_true_eq, Bool.not_eq_true'] at hp
            obtain ⟨⟨⟨⟨⟨⟨⟨⟨⟨⟨h1, h2⟩, h3⟩, n1⟩, n2⟩, n3⟩, l1⟩, l2⟩, l3⟩, h7⟩, h8⟩ := hp
            refine ⟨fun pins s σ H D I w => ?_⟩
            refine (ps_par3 g.calm g.nd (by rw [m.N]; exact h1) (by rw [m.N]; exact h2) (by rw [m.N]; exact h3) n1 n2 n3 (m.lcl l1) (m.lcl l2) (m.lcl l3) a1 (swp_some I.ok.kind (by rw [m.sc]; exact h7) h8)).run pins s σ H D I ?_
            obtain ⟨U, ρ, env, S, f, env', S', he, hs, hm, q⟩ := w
            simp only [denS, Option.bind_eq_some_iff, Option.map_eq_some_iff] at hm
            obtain ⟨⟨ds, S1⟩, m1, e2, hb, e1⟩ := hm
            cases e1
            refine ⟨U, ρ, env, S, ds, S1, he, hs, m1, fun U1 ρ1 H1 vs e1 s1 r1 => ?_⟩
            simp only [] at hb
            rcases ds with _ | ⟨d1, _ | ⟨d2, _ | ⟨d3, _ | ⟨d4, ds⟩⟩⟩⟩
            · simp [bindPar] at hb
            · simp only [bindPar] at hb; split at hb <;> simp at hb
            · simp only [bindPar] at hb
              split at hb
              · split at hb <;> simp at hb
              · cases hb
            · cases r1 with
              | @cons _ v1 _ _ r1 rt => cases rt with
                | @cons _ v2 _ _ r2 rt => cases rt with
                  | @cons _ v3 _ _ r3 rt =>
                    cases rt
                    simp only [bindPar] at hb
                    split at hb
                    · split at hb
                      · split at hb
                        · cases hb
                          exact ⟨v1, v2, v3, rfl, (q U1 ρ1 H1 _ e1 s1 ((((he.mono e1 hs.sub).set r1).set r2).set r3)).1 rfl⟩
                        · cases hb
                      · cases hb
                    · cases hb
            · simp only [bindPar] at hb
              split at hb
              · split at hb
                · split at hb <;> cases hb
                · cases hb
              · cases hb
          · cases hp
        | _ => cases h
      | _ => cases h
    · (cases tg <;> cases h)
  | _ => cases h
theorem sub_asg {X : Cx} {T : TI0} {o i : C} {te : TE} {ts : TSet} {a b x : Expr} {bp pos : Pos} {to ti : TE} (he : PE X x te) (ho : PE X a to) (hi : PE X b ti) (hs : PSet X ts) (hb : noSlB b = true) (hx : isLC x = false) :
    PS X (.Assign [.Subscript a b bp] x pos) (tAsg te (gSub to ti ts)) :=
  ps_asg he (pg_sub ho hi hs (by intro v; cases b <;> first | rfl | cases hb)) (show swapsWith x (some (.Subscript a b bp)) pos.line X.env = pure false from sw_no hx) rfl rfl
theorem setlD_some {o i e : D} {S S' : Sto} (h : setlD o i e S = some S') : ∃ n k y xs j, o = .r n ∧ i = .p (.int k) ∧ e = .p y ∧ snapM S[n]? = some (.list xs) ∧ ixN xs.length k = some j ∧ S' = S.set n (.lst (xs.set j y)) := by
  cases o with
  | r n => cases i with
    | p x => cases x with
      | int k => cases e with
        | p y =>
          have h : (match snapM S[n]? with | some (.list xs) => (ixN xs.length k).map fun j => S.set n (.lst (xs.set j y)) | _ => none) = some S' := h
          split at h
          · rename_i xs q
            obtain ⟨j, h1, h2⟩ := Option.map_eq_some_iff.mp h
            exact ⟨n, k, y, xs, j, rfl, rfl, rfl, q, h1, h2.symm⟩
          · cases h
        | _ => cases h
      | _ => cases h
    | _ => cases h
  | _ => cases h
theorem setdD_some {o i e : D} {S S' : Sto} (h : setdD o i e S = some S') : (∃ n x y kvs k, o = .r n ∧ i = .p x ∧ e = .p y ∧ S[n]? = some (.dic kvs) ∧ keyP x = some k ∧ kvs.length < 16777216 ∧ S' = S.set n (.dic (dPut kvs k (.p y)))) ∨
    ∃ n x y kvs k, o = .r n ∧ i = .p x ∧ e = .p y ∧ S[n]? = some (.dit kvs) ∧ keyT x = some k ∧ kvs.length < 16777216 ∧ S' = S.set n (.dit (dPut kvs k (.p y))) := by
  cases o with
  | r n => cases i with
    | p x => cases e with
      | p y =>
        have h : (match S[n]?, keyP x with | some (.dic kvs), some k => if kvs.length < 16777216 then some (S.set n (.dic (dPut kvs k (.p y)))) else none | some (.dit kvs), _ => (keyT x).bind fun k => if kvs.length < 16777216 then some (S.set n (.dit (dPut kvs k (.p y)))) else none | _, _ => none) = some S' := h
        split at h
        · rename_i kvs k q1 q2
          split at h
          · rename_i q3
            cases h
            exact .inl ⟨n, x, y, kvs, k, rfl, rfl, rfl, q1, q2, q3, rfl⟩
          · cases h
        · rename_i kvs q1
          obtain ⟨k, q2, h⟩ := Option.bind_eq_some_iff.mp h
          split at h
          · rename_i q3
            cases h
            exact .inr ⟨n, x, y, kvs, k, rfl, rfl, rfl, q1, q2, q3, rfl⟩
          · cases h
        · cases h
      | _ => cases h
    | _ => cases h
  | _ => cases h
theorem s_setl {o i e : C} (ho : OkE G F Gc o) (hi : OkE G F Gc i) (he : OkE G F Gc e) : OkS G F Gc (.setl o i e) := by
  intro X T s g m h
  cases s with
  | Assign tgs x pos =>
    rcases tgs with _ | ⟨tg, _ | ⟨tg2, tgs⟩⟩
    · cases h
    · cases tg with
      | Subscript a b bp =>
        simp only [chkS, Bool.and_eq_true, Bool.not_eq_true'] at h
        obtain ⟨⟨⟨⟨h1, h2⟩, h3⟩, h4⟩, h5⟩ := h
        obtain ⟨o1, _⟩ := ho X T a g m h1
        obtain ⟨i1, _⟩ := hi X T b g m h2
        obtain ⟨e1, _⟩ := he X T x g m h3
        refine PS.imp (sub_asg (T := T) (o := o) (i := i) e1 o1 i1 set_list h4 h5) ?_
        rintro D σ H ⟨U, ρ, env, S, f, env', S', he, hs, hm, q⟩
        simp only [denS, Option.bind_eq_some_iff, Option.map_eq_some_iff] at hm
        obtain ⟨⟨d1, S1⟩, m1, ⟨d2, S2⟩, m2, ⟨d3, S3⟩, m3, S4, hset, e1⟩ := hm
        cases e1
        obtain ⟨n, k, y, xs, j, rfl, rfl, rfl, hs4, hix, rfl⟩ := setlD_some hset
        refine seq1 he hs m1 fun U1 ρ1 H1 v1 e1 s1 r1 => seq1 (he.mono e1 hs.sub) s1 m2 fun U2 ρ2 H2 v2 e2 s2 r2 => seq1 ((he.mono e1 hs.sub).mono e2 s1.sub) s2 m3 fun U3 ρ3 H3 v3 e3 s3 r3 => ?_
        have r1' := (r1.mono e2 s1.sub).mono e3 s2.sub
        obtain ⟨a2, ev, ha2⟩ := r2.mono e3 s2.sub
        obtain ⟨i1, ws, h1, h2⟩ := own_lst s3 ha2 hs4
        have r3 : RepP U3 X.K H3 (.int k) v3 := r3
        cases r3
        obtain ⟨f1, f2⟩ := set_own (o := .lst (ws.set j v1)) (mo := .lst (xs.set j y)) s3 ha2 i1 fun e1 => ⟨_, upd_same, (RepPs.mono e1 s3.sub h2).set (RepP.mono e1 s3.sub r1') j⟩
        have e5 := ((e1.trans e2).trans e3).trans f1
        exact ⟨a2, ws, k, j, ev, rfl, h1, by rw [← h2.length]; exact hix, (q _ _ _ σ e5 f2 (he.mono e5 hs.sub)).1 rfl⟩
      | _ => cases h
    · (cases tg <;> cases h)
  | _ => cases h
theorem s_set2 {o i o2 i2 e : C} (ho : OkE G F Gc o) (hi : OkE G F Gc i) (ho2 : OkE G F Gc o2) (hi2 : OkE G F Gc i2) (he : OkE G F Gc e) : OkS G F Gc (.set2 o i o2 i2 e) := by
  intro X T s g m h
  cases s with
  | Assign tgs x pos =>
    rcases tgs with _ | ⟨tg, _ | ⟨tg2, tgs⟩⟩
    · cases h
    · simp only [chkS, Bool.and_eq_true, Bool.not_eq_true'] at h
      obtain ⟨⟨h0, h7⟩, h8⟩ := h
      split at h0
      · rename_i a b p1 a2 b2 p2 k tp
        simp only [Bool.and_eq_true] at h0
        obtain ⟨⟨⟨⟨⟨⟨h1, h2⟩, h3⟩, h4⟩, h5⟩, hb⟩, hb2⟩ := h0
        obtain ⟨o1, _⟩ := ho X T a g m h1
        obtain ⟨i1, _⟩ := hi X T b g m h2
        obtain ⟨o2', _⟩ := ho2 X T a2 g m h3
        obtain ⟨i2', _⟩ := hi2 X T b2 g m h4
        obtain ⟨e1, _⟩ := he X T x g m h5
        have pgs := pgs_cons (pg_sub (pos := p1) o1 i1 set_list (by intro v; cases b <;> first | rfl | cases hb)) (pgs_cons (pg_sub (pos := p2) o2' i2' set_list (by intro v; cases b2 <;> first | rfl | cases hb2)) pgs_nil)
        have pg := pg_tup (k := k) (pos := tp) g.calm pgs
        have hw : ∀ hk : X.env.scope.kind = .function, swappedStores [.Tuple [.Subscript a b p1, .Subscript a2 b2 p2] k tp] x X.env = pure none := fun hk => noSwp_of hk (by rw [m.sc]; exact h7)
        have ps : PS X (.Assign [.Tuple [.Subscript a b p1, .Subscript a2 b2 p2] k tp] x pos) _ := ⟨fun pins s σ H D I q => (ps_asg (pos := pos) e1 pg (show swapsWith x (some (.Tuple [.Subscript a b p1, .Subscript a2 b2 p2] k tp)) pos.line X.env = pure false from sw_no h8) (hw I.ok.kind) rfl).run pins s σ H D I q⟩
        refine PS.imp ps ?_
        rintro D σ H ⟨U, ρ, env, S, f, env', S', he, hs, hm, q⟩
        obtain ⟨⟨d1, S1⟩, m1, hm⟩ := Option.bind_eq_some_iff.mp (show (denE F Gc e env S).bind _ = some (f, env', S') from hm)
        simp only [] at hm
        split at hm
        · rename_i x1 y1
          simp only [Option.bind_eq_some_iff, Option.map_eq_some_iff] at hm
          obtain ⟨⟨d2, S2⟩, m2, ⟨d3, S3⟩, m3, S4, set1, ⟨d5, S5⟩, m5, ⟨d6, S6⟩, m6, S7, set2, e1⟩ := hm
          cases e1
          obtain ⟨n, k1, y', xs, j, rfl, rfl, ey, hs4, hix, rfl⟩ := setlD_some set1
          cases ey
          obtain ⟨n', k1', y'', xs', j', rfl, rfl, ey, hs4', hix', rfl⟩ := setlD_some set2
          cases ey
          refine seq1 he hs m1 fun U1 ρ1 H1 v1 e1 s1 r1 => ?_
          have r1 : RepP U1 X.K H1 (.tuple [x1, y1]) v1 := r1
          cases r1 with
          | tup ht hl =>
            cases hl with
            | @cons vx _ _ _ rx hl => cases hl with
              | @cons vy _ _ _ ry hl =>
                cases hl
                refine ⟨_, _, rfl, ht.elim (fun z => .inl (.inl z.2)) (fun z => .inr z.2), rfl, vx, [vy], rfl, ?_⟩
                refine seq1 (he.mono e1 hs.sub) s1 m2 fun U2 ρ2 H2 v2 e2 s2 r2 => seq1 ((he.mono e1 hs.sub).mono e2 s1.sub) s2 m3 fun U3 ρ3 H3 v3 e3 s3 r3 => ?_
                have rx' : RepP U3 X.K H3 x1 vx := RepP.mono e3 s2.sub (RepP.mono e2 s1.sub rx)
                have ry' : RepP U3 X.K H3 y1 vy := RepP.mono e3 s2.sub (RepP.mono e2 s1.sub ry)
                obtain ⟨a2, ev, ha2⟩ := r2.mono e3 s2.sub
                obtain ⟨i1, ws, h1, h2⟩ := own_lst s3 ha2 hs4
                have r3 : RepP U3 X.K H3 (.int k1) v3 := r3
                cases r3
                obtain ⟨f1, f2⟩ := set_own (o := .lst (ws.set j vx)) (mo := .lst (xs.set j x1)) s3 ha2 i1 fun e1 => ⟨_, upd_same, (RepPs.mono e1 s3.sub h2).set (RepP.mono e1 s3.sub rx') j⟩
                have e4 := ((e1.trans e2).trans e3).trans f1
                have he4 := he.mono e4 hs.sub
                have ry4 := RepP.mono f1 s3.sub ry'
                refine ⟨a2, ws, k1, j, ev, rfl, h1, by rw [← h2.length]; exact hix, vy, [], rfl, ?_⟩
                refine seq1 he4 f2 m5 fun U5 ρ5 H5 v5 e5 s5 r5 => seq1 (he4.mono e5 f2.sub) s5 m6 fun U6 ρ6 H6 v6 e6 s6 r6 => ?_
                have ry6 := RepP.mono e6 s5.sub (RepP.mono e5 f2.sub ry4)
                obtain ⟨a5, ev5, ha5⟩ := r5.mono e6 s5.sub
                obtain ⟨i5, ws5, h5, h5'⟩ := own_lst s6 ha5 hs4'
                have r6 : RepP U6 X.K H6 (.int k1') v6 := r6
                cases r6
                obtain ⟨g1, g2⟩ := set_own (o := .lst (ws5.set j' vy)) (mo := .lst (xs'.set j' y1)) s6 ha5 i5 fun e1 => ⟨_, upd_same, (RepPs.mono e1 s6.sub h5').set (RepP.mono e1 s6.sub ry6) j'⟩
                have e7 := ((e4.trans e5).trans e6).trans g1
                exact ⟨a5, ws5, k1', j', ev5, rfl, h5, by rw [← h5'.length]; exact hix', rfl, (q _ _ _ σ e7 g2 (he.mono e7 hs.sub)).1 rfl⟩
        · cases hm
      · cases h0
    · (cases tg <;> cases h)
  | _ => cases h
theorem s_setd {o i e : C} (ho : OkE G F Gc o) (hi : OkE G F Gc i) (he : OkE G F Gc e) : OkS G F Gc (.setd o i e) := by
  intro X T s g m h
  cases s with
  | Assign tgs x pos =>
    rcases tgs with _ | ⟨tg, _ | ⟨tg2, tgs⟩⟩
    · cases h
    · cases tg with
      | Subscript a b bp =>
        simp only [chkS, Bool.and_eq_true, Bool.not_eq_true'] at h
        obtain ⟨⟨⟨⟨h1, h2⟩, h3⟩, h4⟩, h5⟩ := h
        obtain ⟨o1, _⟩ := ho X T a g m h1
        obtain ⟨i1, _⟩ := hi X T b g m h2
        obtain ⟨e1, _⟩ := he X T x g m h3
        refine PS.imp (sub_asg (T := T) (o := o) (i := i) e1 o1 i1 (set_dict (by have := g.un; omega)) h4 h5) ?_
        rintro D σ H ⟨U, ρ, env, S, f, env', S', he, hs, hm, q⟩
        simp only [denS, Option.bind_eq_some_iff, Option.map_eq_some_iff] at hm
        obtain ⟨⟨d1, S1⟩, m1, ⟨d2, S2⟩, m2, ⟨d3, S3⟩, m3, S4, hset, e1⟩ := hm
        cases e1
        rcases setdD_some hset with ⟨n, x, y, kvs, k, rfl, rfl, rfl, hs4, hk, hl, rfl⟩ | ⟨n, x, y, kvs, k, rfl, rfl, rfl, hs4, hk, hl, rfl⟩
        · refine seq1 he hs m1 fun U1 ρ1 H1 v1 e1 s1 r1 => seq1 (he.mono e1 hs.sub) s1 m2 fun U2 ρ2 H2 v2 e2 s2 r2 => seq1 ((he.mono e1 hs.sub).mono e2 s1.sub) s2 m3 fun U3 ρ3 H3 v3 e3 s3 r3 => ?_
          have r1' : RepD U3 X.K ρ3 H3 (.p y) v1 := (r1.mono e2 s1.sub).mono e3 s2.sub
          obtain ⟨a2, ev, ha2⟩ := r2.mono e3 s2.sub
          obtain ⟨ws, h1, h2⟩ := s3.at_ n a2 _ ha2 hs4
          have hv := key_rep hk r3
          subst hv
          obtain ⟨f1, f2⟩ := set_own (o := .dK (putK ws k v1)) (mo := .dic (dPut kvs k (.p y))) s3 ha2 (by rw [hs4]; rfl) fun e1 => ⟨_, upd_same, dPut_rep (h2.mono e1 s3.sub) (r1'.mono e1 s3.sub)⟩
          have e5 := ((e1.trans e2).trans e3).trans f1
          exact ⟨a2, _, ev, .k h1 (by rw [← h2.len, sizeLine_eq]; exact hl), (q _ _ _ σ e5 f2 (he.mono e5 hs.sub)).1 rfl⟩
        · refine seq1 he hs m1 fun U1 ρ1 H1 v1 e1 s1 r1 => seq1 (he.mono e1 hs.sub) s1 m2 fun U2 ρ2 H2 v2 e2 s2 r2 => seq1 ((he.mono e1 hs.sub).mono e2 s1.sub) s2 m3 fun U3 ρ3 H3 v3 e3 s3 r3 => ?_
          have r1' : RepD U3 X.K ρ3 H3 (.p y) v1 := (r1.mono e2 s1.sub).mono e3 s2.sub
          obtain ⟨a2, ev, ha2⟩ := r2.mono e3 s2.sub
          obtain ⟨ws, h1, h2⟩ := s3.at_ n a2 _ ha2 hs4
          obtain ⟨tb, hv, htb⟩ := keyT_rep hk r3
          subst hv
          obtain ⟨f1, f2⟩ := set_own (o := .dT (putK ws k v1)) (mo := .dit (dPut kvs k (.p y))) s3 ha2 (by rw [hs4]; rfl) fun e1 => ⟨_, upd_same, dPut_rep (h2.mono e1 s3.sub) (r1'.mono e1 s3.sub)⟩
          have e5 := ((e1.trans e2).trans e3).trans f1
          exact ⟨a2, _, ev, .t h1 htb (by rw [← h2.len, sizeLine_eq]; exact hl), (q _ _ _ σ e5 f2 (he.mono e5 hs.sub)).1 rfl⟩
      | _ => cases h
    · (cases tg <;> cases h)
  | _ => cases h
end
end DS
set_option maxRecDepth 100000
set_option maxHeartbeats 4000000
namespace DS
open PySem PySem.Spec L2
theorem permD_rep {U ρ : List Addr} {K : PySem.W.Frag} {H : Hp} {l : List D} {vs : List V} (r : RepDs U K ρ H l vs) : ∀ {perm : List Nat} {ds : List D}, permD perm l = some ds → RepDs U K ρ H ds (perm.filterMap fun i => vs[i]?)
  | [], ds, h => by cases h; exact .nil
  | i :: perm, ds, h => by
    unfold permD at h
    split at h
    · rename_i d hd
      obtain ⟨es, h1, rfl⟩ := Option.map_eq_some_iff.mp h
      have key : ∀ {l : List D} {vs : List V} {i : Nat} {d : D}, RepDs U K ρ H l vs → l[i]? = some d → ∃ v, vs[i]? = some v ∧ RepD U K ρ H d v := by
        intro l vs i d r
        induction r generalizing i with
        | nil => intro z; simp at z
        | cons a b ih =>
          intro z
          cases i with
          | zero => simp at z; subst z; exact ⟨_, rfl, a⟩
          | succ i => simpa using ih (by simpa using z)
      obtain ⟨v, hv, rv⟩ := key r hd
      rw [List.filterMap_cons, hv]
      exact .cons rv (permD_rep r h1)
    · cases h
theorem vals_perm {vs : List V} {us : List Value} (r : Vals vs us) : ∀ perm : List Nat, Vals (perm.filterMap fun i => vs[i]?) (perm.filterMap fun i => us[i]?)
  | [] => .nil
  | i :: perm => by
    have key : ∀ {vs : List V} {us : List Value} {i : Nat}, Vals vs us → (vs[i]? = none ∧ us[i]? = none) ∨ ∃ v u, vs[i]? = some v ∧ us[i]? = some u ∧ RelV v u := by
      intro vs us i r
      induction r generalizing i with
      | nil => exact .inl ⟨rfl, rfl⟩
      | cons a b ih =>
        cases i with
        | zero => exact .inr ⟨_, _, rfl, rfl, a⟩
        | succ i => simpa using ih (i := i)
    rw [List.filterMap_cons, List.filterMap_cons]
    rcases key (i := i) r with ⟨h1, h2⟩ | ⟨v, u, h1, h2, h3⟩
    · rw [h1, h2]; exact vals_perm r perm
    · rw [h1, h2]; exact .cons h3 (vals_perm r perm)
theorem vals_app {vs ws : List V} {us zs : List Value} (r : Vals vs us) (q : Vals ws zs) : Vals (vs ++ ws) (us ++ zs) := by
  induction r with
  | nil => exact q
  | cons a b ih => exact .cons a ih
theorem repDs_app {U ρ : List Addr} {K : PySem.W.Frag} {H : Hp} {l m : List D} {vs ws : List V} (r : RepDs U K ρ H l vs) (q : RepDs U K ρ H m ws) : RepDs U K ρ H (l ++ m) (vs ++ ws) := by
  induction r with
  | nil => exact q
  | cons a b ih => exact .cons a ih
section
variable {X : Cx} {pins : List (Addr × Obj)} {σ : L2.St} {H : Hp} {s : Shared} {k : Nat} {f : Addr} {fd : FuncData} {ps : List Str} {sp : Sp} {x : Str} {p pos : Pos} {e : Expr} {es : List Expr} {t : TA}
theorem run_GK {Q : VK} {us ws : List Value} {vs zs : List V} {kns : List Str} {perm : List Nat} (F : FnG X.prog X.w X.K X.mg X.base k f fd ps sp) (hr : Room k X.A) (hg : X.A.guards = some []) (P : PlainFd fd ps) (I : Inv X pins σ H s) (r : Vals vs us) (rz : Vals zs ws)
    (hp : permB ps us.length kns perm = true) (hw : kns.length = ws.length) (h : sp (perm.filterMap fun i => (vs ++ zs)[i]?) H Q E0) :
    wpAny (model X.prog X.w) X.A (call (.ref f) us (kns.zip ws)) (EP X pins σ Q) X.xe s := by
  have b1 : BindsTo s fd ⟨us, kns.zip ws⟩ (ps.zip (permG perm us ws)) := .of_eq (bind_kw P hp hw)
  refine wpAny_call (codeAny_mono (F.run X.A X.stack s H _ (permG perm us ws) _ Q E0 hr hg I.env0 b1 (vals_perm (vals_app r rz) perm) h) fun res s' c => ?_)
  match res, c with
  | .ok (.ret u), c => exact I.after c
end
theorem kw_names {pos : Pos} {env : Env} : ∀ {kws : List Keyword}, kws.all (fun k => k.arg.isSome) = true → (backToKw pos (keywordEach kws env)).all (·.1.isSome) = true ∧ (backToKw pos (keywordEach kws env)).filterMap (·.1) = kws.filterMap (·.arg) ∧ (backToKw pos (keywordEach kws env)).any (·.1.isNone) = false
  | [], _ => ⟨rfl, rfl, rfl⟩
  | ⟨nm, v, kp⟩ :: kws, h => by
    rw [List.all_cons, Bool.and_eq_true] at h
    obtain ⟨h1, h2, h3⟩ := kw_names (kws := kws) (pos := pos) (env := env) h.2
    obtain ⟨n, hn⟩ := Option.isSome_iff_exists.mp h.1
    simp only at hn
    subst hn
    unfold backToKw at h1 h2 h3 ⊢
    show (List.all ((some n, _) :: List.map _ (keywordEach kws env)) _ = true) ∧ (List.filterMap _ ((some n, _) :: List.map _ (keywordEach kws env)) = _) ∧ _
    refine ⟨?_, ?_, ?_⟩
    · rw [List.all_cons, h1]; rfl
    · rw [List.filterMap_cons, List.filterMap_cons, h2]
    · rw [show keywordEach (⟨some n, v, kp⟩ :: kws) env = (some n, eval v env) :: keywordEach kws env from rfl, List.map_cons, List.any_cons, h3]; rfl
theorem kw_len : ∀ {kws : List Keyword}, kws.all (fun k => k.arg.isSome) = true → (kws.filterMap (·.arg)).length = kws.length
  | [], _ => rfl
  | kw :: kws, w1 => by
    rw [List.all_cons, Bool.and_eq_true] at w1
    obtain ⟨n, hn⟩ := Option.isSome_iff_exists.mp w1.1
    rw [List.filterMap_cons, hn]
    simpa using kw_len w1.2
section
variable {G : GI} {F : FT} {Gc : Nat → Option P}
theorem denA_len {X : Cx} {T : TI0} : ∀ {c : C} {es : List Expr} {env : DEnv} {S S' : Sto} {ds : List D}, chkA G T c es = true → denA F Gc c env S = some (ds, S') → ds.length = es.length := by
  intro c
  induction c with
  | nil =>
    intro es env S S' ds h1 h2
    cases es with
    | nil => cases h2; rfl
    | cons _ _ => simp [chkA] at h1
  | cons a b _ ih =>
    intro es env S S' ds h1 h2
    cases es with
    | nil => simp [chkA] at h1
    | cons e es =>
      simp only [chkA, Bool.and_eq_true] at h1
      simp only [denA, Option.bind_eq_some_iff, Option.map_eq_some_iff] at h2
      obtain ⟨⟨d1, S1⟩, m1, ⟨ds2, S2⟩, m2, e1⟩ := h2
      cases e1
      show ds2.length + 1 = es.length + 1
      rw [ih h1.2 m2]
  | _ => intro es env S S' ds h1 h2; simp [chkA] at h1
theorem e_cak (f mode : Nat) {es ks : C} (perm : List Nat) (ha : OkA G F Gc es) (hk : OkA G F Gc ks) : OkE G F Gc (.cak f mode es ks perm) := by
  intro X T e g m h
  cases e with
  | Call fn args kws p =>
    cases fn with
    | Name x p2 =>
      simp only [chkE, Bool.and_eq_true, decide_eq_true_eq] at h
      obtain ⟨⟨⟨⟨⟨h1, h2⟩, h3⟩, h4⟩, h5⟩, h6⟩ := h
      obtain ⟨a1, a2, _⟩ := ha X T args g m h4
      obtain ⟨_, _, k3, _⟩ := hk X T _ g m h5
      have pk := k3 kws rfl
      obtain ⟨n1, n2, _⟩ := nm3 h3
      obtain ⟨k, a, fd, ps, f1, f2, f3, f4, f5, f6, f7, f8⟩ := g.fns f x h1
      rw [f8] at h6
      simp only [kwB, Bool.and_eq_true] at h6
      obtain ⟨⟨w1, w2⟩, _⟩ := h6
      obtain ⟨q1, q2, q3⟩ := kw_names (pos := p) (env := X.env) w1
      have red : ∀ (σ : L2.St) (H : Hp) (Q : VK), tE X.K (denE F Gc (.cak f mode es ks perm)) σ H Q → (tA X.K (denA F Gc es)) σ H fun vs H1 => (tA X.K (denA F Gc ks)) σ H1 fun zs H2 => vs.length = args.length ∧ zs.length = kws.length ∧ spD X.K ps.length (F f) (perm.filterMap fun i => (vs ++ zs)[i]?) H2 Q E0 := by
        rintro σ H Q ⟨U, ρ, env, S, d, S', he, hs, hm, q⟩
        simp only [denE, Option.bind_eq_some_iff] at hm
        obtain ⟨⟨ds, S1⟩, m1, ⟨es2, S2⟩, m2, ds2, m3, hm⟩ := hm
        refine ⟨U, ρ, env, S, ds, S1, he, hs, m1, fun U1 ρ1 H1 vs e1 s1 r1 => ⟨U1, ρ1, env, S1, es2, S2, he.mono e1 hs.sub, s1, m2, fun U2 ρ2 H2 zs e2 s2 r2 => ?_⟩⟩
        refine ⟨by rw [← r1.length]; exact denA_len (X := X) h4 m1, by rw [← r2.length]; exact (denA_len (X := X) h5 m2).trans (by simp), ?_⟩
        exact call_red s2 (permD_rep (repDs_app (r1.mono e2 s1.sub) r2) m3) f6 hm fun U' ρ' H' v e3 s3 r3 => q _ _ _ _ ((e1.trans e2).trans e3) s3 r3
      have knl := kw_len w1
      refine mkE rfl ?_ (fun _ => rfl) (fun _ _ _ z => by cases z)
      cases args with
      | nil =>
        refine ⟨fun pins s σ H Q I q => ?_⟩
        obtain ⟨U, ρ, env, S, ds, S1, he, hs, m1, q⟩ := red σ H Q q
        have hes : ds = [] := List.length_eq_zero_iff.mp (denA_len (X := X) h4 m1)
        subst hes
        have hS : S1 = S := by
          cases es with
          | nil => cases m1; rfl
          | _ => simp [chkA] at h4
        subst hS
        have q := q U ρ H [] (.refl _ _ _) hs .nil
        refine wpAny_Call_Name_kw (ld_glob I (m.gl h2) f1 ?_ n1)
        refine PySem.W.callWith_KW0 (h₀ := X.base) I.ok.mod.kin f2 q1 (thn (pk.run p pins s σ H _ I q) fun ws s2 ⟨zs, H2, I2, rz, l1, l2, q2'⟩ => ⟨I2.kIn, ?_⟩) (by rw [q3]; rfl)
        rw [q2]
        exact run_GK (us := []) (vs := []) f5 f4 g.gu f7 I2 .nil rz w2 (by rw [knl, ← l2]; exact rz.length) q2'
      | cons e0 er =>
        rw [List.all_cons, Bool.and_eq_true] at a2
        refine ⟨fun pins s σ H Q I q => ?_⟩
        refine wpAny_Call_Name_kw (ld_glob I (m.gl h2) f1 ?_ n1)
        refine PySem.W.callWith_KW (h₀ := X.base) I.ok.mod.kin f2 q1 (thn (a1.run p pins s σ H _ I (red σ H Q q)) fun us s1 ⟨vs, H1, I1, r, q⟩ => ?_) (by
          rw [q3, Bool.or_false, star_of a2.1]
          have := star_any (pos := p) (env := X.env) a2.2
          unfold backTo at this ⊢
          rw [List.map_cons, List.any_cons, this]; rfl) (star_of a2.1)
        refine thn (pk.run p pins s1 σ H1 _ I1 q) fun ws s2 ⟨zs, H2, I2, rz, l1, l2, q2'⟩ => ⟨I2.kIn, ?_⟩
        rw [q2]
        exact run_GK (us := us) f5 f4 g.gu f7 I2 r rz (by rw [← r.length, l1]; exact w2) (by rw [knl, ← l2]; exact rz.length) q2'
    | _ => simp [chkE] at h
  | _ => simp [chkE] at h
end
end DS
set_option maxRecDepth 100000
set_option maxHeartbeats 4000000
namespace DS
open PySem PySem.Spec L2 PyProof.Rows
theorem star1c {e : Expr} {env : Env} (h : noStB e = true) : starEach [e] env = (false, eval e env) :: starEach [] env := star_of h
theorem rgP_rep {U : List Addr} {K : PySem.W.Frag} {H : Hp} (a b : Int) : RepPs U K H (rgP a b) (rgV a b) := by
  unfold rgP rgV
  generalize (List.range (b - a).toNat) = l
  induction l with
  | nil => exact .nil
  | cons n l ih => exact .cons (.int _) ih
theorem rg_ok {i j : Int} (h1 : rgOk i = true) (h2 : rgOk j = true) (h3 : fitsN (j - i).toNat = true) : RgOk i j := by
  obtain ⟨b1, b2⟩ := rgOk_of h1
  obtain ⟨b3, b4⟩ := rgOk_of h2
  exact ⟨b1, b2, b3, b4, of_decide_eq_true h3⟩
section
variable {G : GI} {F : FT} {Gc : Nat → Option P}
theorem rg_end {X : Cx} {m : DM D} {te : L2.St → Hp → (Int → Int → Hp → Prop) → Prop} {t : Bool}
    (red : ∀ σ H (R : Int → Int → Hp → Prop) U ρ env S d S', EnvOk U X.K ρ H env σ → StOk U X.K ρ S H → m env S = some (d, S') → (∀ U' ρ' H' i j, Ext U ρ H U' ρ' H' → StOk U' X.K ρ' S' H' → rgOk i = true → rgOk j = true → fitsN (j - i).toNat = true → d = .p (seqP t (rgP i j)) → R i j H') → te σ H R) :
    (t = false → ∀ σ H Q, tF X.K m σ H Q → tLstRg te σ H Q) ∧ (t = true → ∀ σ H Q, tE X.K m σ H Q → tTupRg te σ H Q) := by
  refine ⟨fun ht σ H Q ⟨U, ρ, env, S, xs, S', he, hs, hm, q⟩ => ?_, fun ht σ H Q ⟨U, ρ, env, S, d, S', he, hs, hm, q⟩ => ?_⟩
  · subst ht
    refine red σ H _ U ρ env S _ S' he hs hm fun U' ρ' H' i j e1 s1 h1 h2 h3 ed => ⟨rg_ok h1 h2 h3, fun p hp => ?_⟩
    have ed : D.p (.list xs) = .p (.list (rgP i j)) := ed
    cases ed
    obtain ⟨f1, f2, f3, f4⟩ := newF s1 (rgP_rep i j) hp
    exact q U' ρ' _ p _ (e1.trans f1) (fresh0 e1 hp) f2 upd_same f3 f4
  · subst ht
    refine red σ H _ U ρ env S _ S' he hs hm fun U' ρ' H' i j e1 s1 h1 h2 h3 ed => ⟨rg_ok h1 h2 h3, fun p hp => ?_⟩
    have ed : d = .p (.tuple (rgP i j)) := ed
    subst ed
    obtain ⟨f1, f2, f3⟩ := newT s1 (rgP_rep i j) hp
    exact q U' ρ' _ _ (e1.trans f1) f2 f3
theorem e_lrg1 (t : Bool) {a : C} (ha : OkE G F Gc a) : OkE G F Gc (.lrg1 t a) := by
  intro X T e g m h
  cases e with
  | Call fn args kws p => cases fn with
    | Name x px =>
      rcases args with _ | ⟨r, _ | ⟨r2, args⟩⟩
      · cases h
      · cases r with
        | Call fn2 args2 kws2 p2 => cases fn2 with
          | Name y py =>
            rcases args2 with _ | ⟨e, _ | ⟨f, args2⟩⟩
            · cases h
            · cases kws2 with
              | cons _ _ => cases h
              | nil => cases kws with
                | cons _ _ => cases h
                | nil =>
                  have h : (decide (x = (if t = true then "tuple" else "list" : Str)) && glB T.sc x && decide (y = ("range" : Str)) && glB T.sc y && chkE G T a e && noStB e) = true := h
                  simp only [Bool.and_eq_true, decide_eq_true_eq] at h
                  obtain ⟨⟨⟨⟨⟨hx, h2⟩, rfl⟩, h4⟩, h5⟩, h6⟩ := h
                  obtain ⟨a1, _⟩ := ha X T e g m h5
                  have prg := prg_1 (p := py) (pos := p2) (m.gl h4) (g.nob _ (by decide +kernel)) a1 (star1c h6)
                  obtain ⟨k1, k2⟩ := rg_end (X := X) (m := denE F Gc (.lrg1 t a)) (te := tRg1 (tE X.K (denE F Gc a))) (t := t) (by
                    intro σ H R U ρ env S d S' he hs hm k
                    simp only [denE, Option.bind_eq_some_iff] at hm
                    obtain ⟨⟨d1, S1⟩, m1, hm⟩ := hm
                    cases d1 with
                    | p z => cases z with
                      | int j =>
                        have hm : (if rgOk j = true ∧ fitsN j.toNat = true then some (D.p (seqP t (rgP 0 j)), S1) else none) = some (d, S') := hm
                        split at hm
                        · rename_i hj
                          cases hm
                          refine seq1 he hs m1 fun U1 ρ1 H1 v1 e1 s1 r1 => ?_
                          have r1 : RepP U1 X.K H1 (.int j) v1 := r1
                          cases r1
                          exact ⟨j, rfl, k _ _ _ 0 j e1 s1 (by decide) hj.1 (by rw [Int.sub_zero]; exact hj.2) rfl⟩
                        · cases hm
                      | _ => cases hm
                    | _ => cases hm)
                  cases t with
                  | false =>
                    have hx : x = ("list" : Str) := hx
                    subst hx
                    have pf : PE X (.Call (.Name "list" px) [.Call (.Name "range" py) [e] [] p2] [] p) (tF X.K (denE F Gc (.lrg1 false a))) := PE.imp (pe_listRg g.calm (m.gl h2) (g.nob _ (by decide +kernel)) prg) (k1 rfl)
                    refine mkN (PE.imp pf fun σ H Q q => tE_imp_F (fun env S d S' hm => ?_) q) pf (fun _ => rfl) (fun _ _ _ z => by cases z)
                    simp only [denE, Option.bind_eq_some_iff] at hm
                    obtain ⟨⟨d1, S1⟩, m1, hm⟩ := hm
                    cases d1 with
                    | p z => cases z with
                      | int j =>
                        have hm : (if rgOk j = true ∧ fitsN j.toNat = true then some (D.p (seqP false (rgP 0 j)), S1) else none) = some (d, S') := hm
                        split at hm
                        · cases hm; exact ⟨_, rfl⟩
                        · cases hm
                      | _ => cases hm
                    | _ => cases hm
                  | true =>
                    have hx : x = ("tuple" : Str) := hx
                    subst hx
                    exact mkE rfl (PE.imp (pe_tupRg g.calm (m.gl h2) (g.nob _ (by decide +kernel)) prg) (k2 rfl)) (fun _ => rfl) (fun _ _ _ z => by cases z)
            · cases h
          | _ => cases h
        | _ => cases h
      · simp [chkE] at h
    | _ => cases h
  | _ => cases h
theorem e_lrg2 (t : Bool) {a b : C} (ha : OkE G F Gc a) (hb : OkE G F Gc b) : OkE G F Gc (.lrg2 t a b) := by
  intro X T e g m h
  cases e with
  | Call fn args kws p => cases fn with
    | Name x px =>
      rcases args with _ | ⟨r, _ | ⟨r2, args⟩⟩
      · cases h
      · cases r with
        | Call fn2 args2 kws2 p2 => cases fn2 with
          | Name y py =>
            rcases args2 with _ | ⟨e, _ | ⟨f, _ | ⟨f2, args2⟩⟩⟩
            · cases h
            · cases h
            · cases kws2 with
              | cons _ _ => cases h
              | nil => cases kws with
                | cons _ _ => cases h
                | nil =>
                  have h : (decide (x = (if t = true then "tuple" else "list" : Str)) && glB T.sc x && decide (y = ("range" : Str)) && glB T.sc y && chkE G T a e && chkE G T b f && noStB e && noStB f) = true := h
                  simp only [Bool.and_eq_true, decide_eq_true_eq] at h
                  obtain ⟨⟨⟨⟨⟨⟨⟨hx, h2⟩, rfl⟩, h4⟩, h5⟩, h5'⟩, h6⟩, h6'⟩ := h
                  obtain ⟨a1, _⟩ := ha X T e g m h5
                  obtain ⟨b1, _⟩ := hb X T f g m h5'
                  have prg := prg_2 (p := py) (pos := p2) (m.gl h4) (g.nob _ (by decide +kernel)) a1 b1 (star_of h6) (star1c h6') (by rw [star1 h6']; rfl)
                  have dn : ∀ env S d S', denE F Gc (.lrg2 t a b) env S = some (d, S') → ∃ i j S1, denE F Gc a env S = some (.p (.int i), S1) ∧ denE F Gc b env S1 = some (.p (.int j), S') ∧ rgOk i = true ∧ rgOk j = true ∧ fitsN (j - i).toNat = true ∧ d = .p (seqP t (rgP i j)) := by
                    intro env S d S' hm
                    simp only [denE, Option.bind_eq_some_iff] at hm
                    obtain ⟨⟨d1, S1⟩, m1, ⟨d2, S2⟩, m2, hm⟩ := hm
                    cases d1 with
                    | p z => cases z with
                      | int i => cases d2 with
                        | p z2 => cases z2 with
                          | int j =>
                            have hm : (if rgOk i = true ∧ rgOk j = true ∧ fitsN (j - i).toNat = true then some (D.p (seqP t (rgP i j)), S2) else none) = some (d, S') := hm
                            split at hm
                            · rename_i hj
                              cases hm
                              exact ⟨i, j, S1, m1, m2, hj.1, hj.2.1, hj.2.2, rfl⟩
                            · cases hm
                          | _ => cases hm
                        | _ => cases hm
                      | _ => cases hm
                    | _ => cases hm
                  obtain ⟨k1, k2⟩ := rg_end (X := X) (m := denE F Gc (.lrg2 t a b)) (te := tRg2 (tE X.K (denE F Gc a)) (tE X.K (denE F Gc b))) (t := t) (by
                    intro σ H R U ρ env S d S' he hs hm k
                    obtain ⟨i, j, S1, m1, m2, b1, b2, b3, rfl⟩ := dn _ _ _ _ hm
                    refine seq2 he hs m1 m2 fun U2 ρ2 H2 v1 v2 e2 s2 r1 r2 => ?_
                    have r1 : RepP U2 X.K H2 (.int i) v1 := r1
                    have r2 : RepP U2 X.K H2 (.int j) v2 := r2
                    cases r1
                    cases r2
                    exact ⟨i, j, rfl, rfl, k _ _ _ i j e2 s2 b1 b2 b3 rfl⟩)
                  cases t with
                  | false =>
                    have hx : x = ("list" : Str) := hx
                    subst hx
                    have pf : PE X (.Call (.Name "list" px) [.Call (.Name "range" py) [e, f] [] p2] [] p) (tF X.K (denE F Gc (.lrg2 false a b))) := PE.imp (pe_listRg g.calm (m.gl h2) (g.nob _ (by decide +kernel)) prg) (k1 rfl)
                    refine mkN (PE.imp pf fun σ H Q q => tE_imp_F (fun env S d S' hm => ?_) q) pf (fun _ => rfl) (fun _ _ _ z => by cases z)
                    obtain ⟨i, j, S1, _, _, _, _, _, rfl⟩ := dn _ _ _ _ hm
                    exact ⟨_, rfl⟩
                  | true =>
                    have hx : x = ("tuple" : Str) := hx
                    subst hx
                    exact mkE rfl (PE.imp (pe_tupRg g.calm (m.gl h2) (g.nob _ (by decide +kernel)) prg) (k2 rfl)) (fun _ => rfl) (fun _ _ _ z => by cases z)
            · cases h
          | _ => cases h
        | _ => cases h
      · simp [chkE] at h
    | _ => cases h
  | _ => cases h
theorem pairs_rep {U ρ : List Addr} {K : PySem.W.Frag} {H H' : Hp} {L : Addr} (mv : Mv U ρ H (U ++ [L]) ρ H') : ∀ {xs ys : List P} {vs ws : List V} {Ts : List Addr}, RepPs U K H xs vs → RepPs U K H ys ws → PairsAt H' Ts (vs.zip ws) → (∀ T, T ∈ Ts → T ∉ U ++ [L]) →
    RepPs (U ++ [L]) K H' (pairsP xs ys) (Ts.map V.ref)
  | [], ys, _, ws, Ts, .nil, _, p, _ => by
    cases p
    exact .nil
  | x :: xs, [], _, _, Ts, .cons _ _, .nil, p, _ => by
    cases p
    exact .nil
  | x :: xs, y :: ys, _, _, Ts, .cons (vs := vs) r rt, .cons (vs := ws) q qt, p, hT => by
    cases p with
    | cons h t =>
      exact .cons (.tup (.inl ⟨hT _ List.mem_cons_self, h⟩) (.cons (RepP.mv mv r) (.cons (RepP.mv mv q) .nil))) (pairs_rep mv rt qt t fun T hm => hT T (List.mem_cons_of_mem _ hm))
theorem snap_seqK {U ρ : List Addr} {K : PySem.W.Frag} {H : Hp} {S : Sto} {d : D} {v : V} {xs : List P} (st : StOk U K ρ S H) (h : lzL (snap S d) = some xs) (r : RepD U K ρ H d v) : ∃ k a vs, v = .ref a ∧ SqK K H k a vs ∧ RepPs U K H xs vs := by
  unfold lzL at h
  split at h
  · rename_i ys e
    cases h
    obtain ⟨a, vs, e1, e2, e3⟩ := snap_list st e r
    exact ⟨false, a, vs, e1, e2, e3⟩
  · rename_i ys e
    cases h
    obtain ⟨a, vs, e1, e2, e3⟩ := snap_tup e r
    exact ⟨true, a, vs, e1, e2, e3⟩
  · cases h
theorem e_lzp {a b : C} (ha : OkE G F Gc a) (hb : OkE G F Gc b) : OkE G F Gc (.lzp a b) := by
  intro X T e g m h
  cases e with
  | Call fn args kws p => cases fn with
    | Name x px =>
      rcases args with _ | ⟨r, _ | ⟨r2, args⟩⟩
      · cases h
      · cases r with
        | Call fn2 args2 kws2 p2 => cases fn2 with
          | Name y py =>
            rcases args2 with _ | ⟨e, _ | ⟨f, _ | ⟨f2, args2⟩⟩⟩
            · cases h
            · cases h
            · cases kws2 with
              | cons _ _ => cases h
              | nil => cases kws with
                | cons _ _ => cases h
                | nil =>
                  have h : (decide (x = ("list" : Str)) && glB T.sc x && decide (y = ("zip" : Str)) && glB T.sc y && chkE G T a e && chkE G T b f && noStB e && noStB f) = true := h
                  simp only [Bool.and_eq_true, decide_eq_true_eq] at h
                  obtain ⟨⟨⟨⟨⟨⟨⟨rfl, h2⟩, rfl⟩, h4⟩, h5⟩, h5'⟩, h6⟩, h6'⟩ := h
                  have pa := pa_D2 ha hb g m h5 h5' h6 h6'
                  have dn : ∀ env S d S', denE F Gc (.lzp a b) env S = some (d, S') → ∃ d1 d2 S1 xs ys, denE F Gc a env S = some (d1, S1) ∧ denE F Gc b env S1 = some (d2, S') ∧ lzL (snap S' d1) = some xs ∧ lzL (snap S' d2) = some ys ∧ fitsN (xs.zip ys).length = true ∧ d = .p (.list (pairsP xs ys)) := by
                    intro env S d S' hm
                    simp only [denE, Option.bind_eq_some_iff] at hm
                    obtain ⟨⟨d1, S1⟩, m1, ⟨d2, S2⟩, m2, hm⟩ := hm
                    split at hm
                    · rename_i xs ys z1 z2
                      split at hm
                      · cases hm
                        exact ⟨d1, d2, S1, xs, ys, m1, m2, z1, z2, by assumption, rfl⟩
                      · cases hm
                    · cases hm
                  have pf : PE X (.Call (.Name "list" px) [.Call (.Name "zip" py) [e, f] [] p2] [] p) (tF X.K (denE F Gc (.lzp a b))) := by
                    refine ⟨fun pins s σ H Q I ⟨U, ρ, env, S, ws, S', he, hs, hm, q⟩ => ?_⟩
                    obtain ⟨d1, d2, S1, xs, ys, m1, m2, z1, z2, hf, ed⟩ := dn _ _ _ _ hm
                    cases ed
                    refine Call_ (ld_blt I (m.gl h2) (g.nob _ (by decide +kernel)) boot_list (callWith_type1 (args_cons (thn (Q := fun v s1 => wpAny (model X.prog X.w) X.A (call (.type "list") [v]) (EP X pins σ Q) X.xe s1) ?_ fun v s1 z => args_nil z) rfl) rfl))
                    refine Call_ (ld_blt I (m.gl h4) (g.nob _ (by decide +kernel)) boot_zip (callWith_type1 (thn (pa.run p2 pins s σ H (fun vs H1 => ∃ v1 v2 U1 ρ1, vs = [v1, v2] ∧ Ext U ρ H U1 ρ1 H1 ∧ StOk U1 X.K ρ1 S' H1 ∧ RepD U1 X.K ρ1 H1 d1 v1 ∧ RepD U1 X.K ρ1 H1 d2 v2) I ?_) fun us s1 ⟨vs, H1, I1, r1, v1, v2, U1, ρ1, ev, e1, s1', q1, q2⟩ => ?_) (star_of h6) (by rw [star1 h6']; rfl)))
                    · refine ⟨U, ρ, env, S, [d1, d2], S', he, hs, by simp [denA, m1, m2], fun U1 ρ1 H1 vs e1 s1 r1 => ?_⟩
                      cases r1 with
                      | cons r1 rt => cases rt with
                        | cons r2 rt =>
                          cases rt
                          exact ⟨_, _, U1, ρ1, rfl, e1, s1, r1, r2⟩
                    · subst ev
                      obtain ⟨kk1, x1, vs1, rfl, t1, l1⟩ := snap_seqK s1' z1 q1
                      obtain ⟨kk2, x2, vs2, rfl, t2, l2⟩ := snap_seqK s1' z2 q2
                      obtain ⟨w1, w2, rfl, rr1, rr2⟩ := vals2 r1
                      cases rr1
                      cases rr2
                      have hfit : (vs1.zip vs2).length ≤ 16777216 := by
                        have := of_decide_eq_true hf
                        rw [List.length_zip] at this ⊢
                        rw [← l1.length, ← l2.length]
                        exact this
                      refine list_of_zipK g.calm I1 t1 t2 hfit fun H' L Ts k1 k2 k3 k4 k5 => ?_
                      have mv : Mv U1 ρ1 H1 (U1 ++ [L]) ρ1 H' := ⟨fun c h hl hm => by
                        rcases List.mem_append.mp hm with z | z
                        · exact h z
                        · rw [List.mem_singleton.mp z] at hl; exact hl k2, fun c o h _ => k1 c o h, fun _ _ h => h⟩
                      have ex : Ext U1 ρ1 H1 U1 ρ1 H' := .grow k1
                      refine q U1 ρ1 H' L _ (e1.trans ex) (fresh0 e1 k2) (s1'.fresh k2) k3 ?_ (pairs_rep mv l1 l2 k4 fun T hm => ?_)
                      · refine ⟨s1'.len, s1'.nd, fun c hc => List.mem_append_left _ (s1'.sub c hc), fun c hc => ?_, fun n c mo y1 y2 => (s1'.at_ n c mo y1 y2).mv mv (k1 c)⟩
                        rcases List.mem_append.mp hc with z | z
                        · exact ex.live c (s1'.live c z)
                        · rw [List.mem_singleton.mp z, k3]; simp
                      · intro hc
                        rcases List.mem_append.mp hc with z | z
                        · exact s1'.live T z (k5 T hm).1
                        · exact (k5 T hm).2 (List.mem_singleton.mp z)
                  refine mkN (PE.imp pf fun σ H Q q => tE_imp_F (fun env S d S' hm => ?_) q) pf (fun _ => rfl) (fun _ _ _ z => by cases z)
                  obtain ⟨_, _, _, _, _, _, _, _, _, _, rfl⟩ := dn _ _ _ _ hm
                  exact ⟨_, rfl⟩
            · cases h
          | _ => cases h
        | _ => cases h
      · simp [chkE] at h
    | _ => cases h
  | _ => cases h
theorem e_lel {a : C} (ha : OkE G F Gc a) : OkE G F Gc (.lel a) := by
  intro X T e g m h
  cases e with
  | Call fn args kws p => cases fn with
    | Name x px =>
      rcases args with _ | ⟨r, _ | ⟨r2, args⟩⟩
      · cases h
      · cases r with
        | Call fn2 args2 kws2 p2 => cases fn2 with
          | Name y py =>
            rcases args2 with _ | ⟨e, _ | ⟨f2, args2⟩⟩
            · cases h
            · cases kws2 with
              | cons _ _ => cases h
              | nil => cases kws with
                | cons _ _ => cases h
                | nil =>
                  have h : (decide (x = ("list" : Str)) && glB T.sc x && decide (y = ("enumerate" : Str)) && glB T.sc y && chkE G T a e && noStB e) = true := h
                  simp only [Bool.and_eq_true, decide_eq_true_eq] at h
                  obtain ⟨⟨⟨⟨⟨rfl, h2⟩, rfl⟩, h4⟩, h5⟩, h6⟩ := h
                  obtain ⟨a1, _⟩ := ha X T e g m h5
                  have dn : ∀ env S d S', denE F Gc (.lel a) env S = some (d, S') → ∃ d1 xs, denE F Gc a env S = some (d1, S') ∧ snap S' d1 = some (.list xs) ∧ fitsN xs.length = true ∧ d = .p (.list (pairsP (rgP 0 xs.length) xs)) := by
                    intro env S d S' hm
                    simp only [denE, Option.bind_eq_some_iff] at hm
                    obtain ⟨⟨d1, S1⟩, m1, hm⟩ := hm
                    split at hm
                    · rename_i xs z1
                      split at hm
                      · cases hm
                        exact ⟨d1, xs, m1, z1, by assumption, rfl⟩
                      · cases hm
                    · cases hm
                  have pf : PE X (.Call (.Name "list" px) [.Call (.Name "enumerate" py) [e] [] p2] [] p) (tF X.K (denE F Gc (.lel a))) := by
                    refine ⟨fun pins s σ H Q I ⟨U, ρ, env, S, ws, S', he, hs, hm, q⟩ => ?_⟩
                    obtain ⟨d1, xs, m1, z1, hf, ed⟩ := dn _ _ _ _ hm
                    cases ed
                    refine Call_ (ld_blt I (m.gl h2) (g.nob _ (by decide +kernel)) boot_list (callWith_type1 (args_cons (thn (Q := fun v s1 => wpAny (model X.prog X.w) X.A (call (.type "list") [v]) (EP X pins σ Q) X.xe s1) ?_ fun v s1 z => args_nil z) rfl) rfl))
                    refine Call_ (ld_blt I (m.gl h4) (g.nob _ (by decide +kernel)) boot_enumerate (callWith_type1 (thn ((pa_D1 ha g m h5 h6).run p2 pins s σ H (fun vs H1 => ∃ v1 U1 ρ1, vs = [v1] ∧ Ext U ρ H U1 ρ1 H1 ∧ StOk U1 X.K ρ1 S' H1 ∧ RepD U1 X.K ρ1 H1 d1 v1) I ?_) fun us s1 ⟨vs, H1, I1, r1, v1, U1, ρ1, ev, e1, s1', q1⟩ => ?_) (star1c h6) (by rfl)))
                    · refine ⟨U, ρ, env, S, [d1], S', he, hs, by simp [denA, m1], fun U1 ρ1 H1 vs e1 s1 r1 => ?_⟩
                      cases r1 with
                      | cons r1 rt =>
                        cases rt
                        exact ⟨_, U1, ρ1, rfl, e1, s1, r1⟩
                    · subst ev
                      obtain ⟨x1, vs1, rfl, t1, l1⟩ := snap_list s1' z1 q1
                      have w0 := Vals.ref1 r1
                      subst w0
                      have hfit : vs1.length ≤ 16777216 := by
                        rw [← l1.length]
                        exact of_decide_eq_true hf
                      refine list_of_enum g.calm I1 t1 hfit fun H' L Ts k1 k2 k3 k4 k5 => ?_
                      have mv : Mv U1 ρ1 H1 (U1 ++ [L]) ρ1 H' := ⟨fun c h hl hm => by
                        rcases List.mem_append.mp hm with z | z
                        · exact h z
                        · rw [List.mem_singleton.mp z] at hl; exact hl k2, fun c o h _ => k1 c o h, fun _ _ h => h⟩
                      have ex : Ext U1 ρ1 H1 U1 ρ1 H' := .grow k1
                      have er : rgV 0 (xs.length : Int) = (List.range vs1.length).map fun i => V.int ((i : Nat) : Int) := by
                        unfold rgV
                        rw [l1.length, Int.sub_zero, Int.toNat_natCast]
                        exact List.map_congr_left fun i _ => by rw [Int.zero_add]
                      refine q U1 ρ1 H' L _ (e1.trans ex) (fresh0 e1 k2) (s1'.fresh k2) k3 ?_ (pairs_rep mv (by rw [← er]; exact rgP_rep _ _) l1 k4 fun T hm => ?_)
                      · refine ⟨s1'.len, s1'.nd, fun c hc => List.mem_append_left _ (s1'.sub c hc), fun c hc => ?_, fun n c mo y1 y2 => (s1'.at_ n c mo y1 y2).mv mv (k1 c)⟩
                        rcases List.mem_append.mp hc with z | z
                        · exact ex.live c (s1'.live c z)
                        · rw [List.mem_singleton.mp z, k3]; simp
                      · intro hc
                        rcases List.mem_append.mp hc with z | z
                        · exact s1'.live T z (k5 T hm).1
                        · exact (k5 T hm).2 (List.mem_singleton.mp z)
                  refine mkN (PE.imp pf fun σ H Q q => tE_imp_F (fun env S d S' hm => ?_) q) pf (fun _ => rfl) (fun _ _ _ z => by cases z)
                  obtain ⟨_, _, _, _, _, rfl⟩ := dn _ _ _ _ hm
                  exact ⟨_, rfl⟩
            · cases h
          | _ => cases h
        | _ => cases h
      · simp [chkE] at h
    | _ => cases h
  | _ => cases h
theorem e_rvl {a : C} (ha : OkE G F Gc a) : OkE G F Gc (.rvl a) := by
  intro X T e g m h
  cases e with
  | Subscript l i p => cases i with
    | Slice l0 h0 st p2 => cases l0 with
      | some _ => simp [chkE] at h
      | none => cases h0 with
        | some _ => simp [chkE] at h
        | none => cases st with
          | none => simp [chkE] at h
          | some u => cases u with
            | UnaryOp o u up => cases o with
              | USub => cases u with
                | Constant c k pk => cases c with
                  | int n =>
                    by_cases hn : n = 1
                    · subst hn
                      have h : chkE G T a l = true := by simpa [chkE] using h
                      obtain ⟨a1, _⟩ := ha X T l g m h
                      have dn : ∀ env S d S', denE F Gc (.rvl a) env S = some (d, S') → ∃ d1 xs, denE F Gc a env S = some (d1, S') ∧ snap S' d1 = some (.list xs) ∧ d = .p (.list xs.reverse) := by
                        intro env S d S' hm
                        simp only [denE, Option.bind_eq_some_iff] at hm
                        obtain ⟨⟨d1, S1⟩, m1, hm⟩ := hm
                        split at hm
                        · rename_i xs hx
                          cases hm
                          exact ⟨d1, xs, m1, hx, rfl⟩
                        · cases hm
                      have pf : PE X (.Subscript l (.Slice none none (some (.UnaryOp .USub (.Constant (.int 1) k pk) up)) p2) p) (tF X.K (denE F Gc (.rvl a))) := PE.imp (pe_revL a1) (by
                        rintro σ H Q ⟨U, ρ, env, S, ys, S', he, hs, hm, q⟩
                        obtain ⟨d1, xs, m1, hx, e⟩ := dn _ _ _ _ hm
                        cases e
                        refine seq1 he hs m1 fun U1 ρ1 H1 v1 e1 s1 r1 => ?_
                        obtain ⟨b, vs, rfl, t, l1⟩ := snap_list s1 hx r1
                        refine ⟨b, vs, rfl, t, fun p0 hp => ?_⟩
                        obtain ⟨f1, f2, f3, f4⟩ := newF s1 (RepPs.reverse l1) hp
                        exact q _ _ _ p0 _ (e1.trans f1) (fresh0 e1 hp) f2 upd_same f3 f4)
                      refine mkN (PE.imp pf fun σ H Q q => tE_imp_F (fun env S d S' hm => ?_) q) pf (fun _ => rfl) (fun _ _ _ z => by cases z)
                      obtain ⟨_, _, _, _, rfl⟩ := dn _ _ _ _ hm
                      exact ⟨_, rfl⟩
                    · exfalso
                      revert h
                      unfold chkE
                      split
                      all_goals first | (intro h; cases h; done) | skip
                      all_goals simp_all
                  | _ => simp [chkE] at h
                | _ => simp [chkE] at h
              | _ => simp [chkE] at h
            | _ => simp [chkE] at h
    | _ => simp [chkE] at h
  | _ => simp [chkE] at h
theorem e_dit0 : OkE G F Gc .dit0 := by
  intro X T e g m h
  cases e with
  | Dict keys vals p => cases keys with
    | cons _ _ => simp [chkE] at h
    | nil => cases vals with
      | cons _ _ => simp [chkE] at h
      | nil =>
        refine mkE rfl (PE.imp pe_dnewT ?_) (fun _ => rfl) (fun _ _ _ z => by cases z)
        rintro σ H Q ⟨U, ρ, env, S, d, S', he, hs, hm, q⟩
        have hm : some (D.r S.length, S ++ [MO.dit []]) = some (d, S') := hm
        cases hm
        intro p0 hp
        have pr : p0 ∉ ρ := fun z => hs.live p0 (hs.sub p0 z) hp
        exact q _ _ _ _ (.add hp) ((hs.add hp).push pr (List.mem_append_right _ (List.mem_singleton.mpr rfl)) ⟨[], upd_same, .nil⟩) ⟨p0, rfl, by rw [hs.len]; simp⟩
  | _ => simp [chkE] at h
theorem e_dik0 : OkE G F Gc .dik0 := by
  intro X T e g m h
  cases e with
  | Dict keys vals p => cases keys with
    | cons _ _ => simp [chkE] at h
    | nil => cases vals with
      | cons _ _ => simp [chkE] at h
      | nil =>
        refine mkE rfl (PE.imp pe_dnewK ?_) (fun _ => rfl) (fun _ _ _ z => by cases z)
        rintro σ H Q ⟨U, ρ, env, S, d, S', he, hs, hm, q⟩
        have hm : some (D.r S.length, S ++ [MO.dic []]) = some (d, S') := hm
        cases hm
        intro p0 hp
        have pr : p0 ∉ ρ := fun z => hs.live p0 (hs.sub p0 z) hp
        exact q _ _ _ _ (.add hp) ((hs.add hp).push pr (List.mem_append_right _ (List.mem_singleton.mpr rfl)) ⟨[], upd_same, .nil⟩) ⟨p0, rfl, by rw [hs.len]; simp⟩
  | _ => simp [chkE] at h
end
end DS
set_option maxRecDepth 100000
set_option maxHeartbeats 4000000
namespace DS
open PySem PySem.Spec L2
section
variable {G : GI} {F : FT} {Gc : Nat → Option P}
theorem snaps_dp {K : PySem.W.Frag} {U ρ : List Addr} {S : Sto} {H H' : Hp} {U' ρ' : List Addr} (st : StOk U' K ρ' S H') (e : Ext U ρ H U' ρ' H') (sub : ∀ a, a ∈ ρ → a ∈ U) : ∀ {ds : List D} {xs : List P} {vs : List V}, snaps S ds = some xs → RepDs U K ρ H ds vs → PyData.hasDictAll xs = false → DpAll K H' vs xs
  | [], xs, _, h, .nil, _ => by cases h; exact .nil
  | d :: ds, xs, _, h, .cons r t, nd => by
    have h : ((snap S d).bind fun x => (snaps S ds).map (x :: ·)) = some xs := h
    obtain ⟨x, h1, h2⟩ := Option.bind_eq_some_iff.mp h
    obtain ⟨ys, h3, rfl⟩ := Option.map_eq_some_iff.mp h2
    exact .cons (snap_dp st h1 (RepD.mono e sub r) (hasD_cons nd).1) (snaps_dp st e sub h3 t (hasD_cons nd).2)
theorem snaps_len {S : Sto} : ∀ {ds : List D} {xs : List P}, snaps S ds = some xs → ds.length = xs.length
  | [], xs, h => by cases h; rfl
  | d :: ds, xs, h => by
    obtain ⟨x, h1, h2⟩ := Option.bind_eq_some_iff.mp (show ((snap S d).bind fun x => (snaps S ds).map (x :: ·)) = some xs from h)
    obtain ⟨ys, h3, rfl⟩ := Option.map_eq_some_iff.mp h2
    rw [List.length_cons, List.length_cons, snaps_len h3]
theorem e_rpl {es : C} (ha : OkA G F Gc es) : OkE G F Gc (.rpl es) := by
  intro X T e g m h
  cases e with
  | Call fn args kws p =>
    cases fn with
    | Name x p2 =>
      rcases args with _ | ⟨a0, _ | ⟨a1, args⟩⟩
      · simp [chkE] at h
      · cases a0 with
        | List l lp =>
          cases kws with
          | cons _ _ => simp [chkE] at h
          | nil =>
            simp only [chkE, Bool.and_eq_true, decide_eq_true_eq] at h
            obtain ⟨⟨rfl, h2⟩, h3⟩ := h
            obtain ⟨a1, a2, _⟩ := ha X T l g m h3
            have hu := g.un
            refine mkE rfl (PE.imp (bi_pe (b := .repr) (p := p2) (pos := p) (repr_R (by omega) g.gu) (m.gl h2) (g.nob _ (bi_mem .repr)) (pa_cons (pe_lst (pos := lp) a1) pa_nil (star_of rfl)) (star_of rfl) (star_any rfl)) ?_) (fun _ => rfl) (fun _ _ _ z => by cases z)
            rintro σ H Q ⟨U, ρ, env, S, d, S', he, hs, hm, q⟩
            obtain ⟨⟨ds, S1⟩, m1, hm⟩ := Option.bind_eq_some_iff.mp (show (denA F Gc es env S).bind _ = some (d, S') from hm)
            obtain ⟨xs, hx, hm⟩ := Option.bind_eq_some_iff.mp hm
            split at hm
            · rename_i hf
              obtain ⟨z, hz, e1⟩ := Option.map_eq_some_iff.mp hm
              cases e1
              obtain ⟨hg, rfl⟩ := onI_some (show onI (PyData.showable (.list xs) && !PyData.hasDict (.list xs) && decide ((PyData.list xs).depth ≤ 64) && fitsN (PyData.list xs).shown.length) (.str (PyData.list xs).shown) = some z from hz)
              simp only [Bool.and_eq_true, Bool.not_eq_true', decide_eq_true_eq] at hg
              refine ⟨U, ρ, env, S, ds, S1, he, hs, m1, fun U1 ρ1 H1 vs e1 s1 r1 => ?_⟩
              have hl : vs.length = xs.length := by rw [← r1.length]; exact snaps_len hx
              refine ⟨by rw [hl]; exact fits_le hf, fun p0 hp => ?_⟩
              have ex : Ext U1 ρ1 H1 U1 ρ1 (upd H1 p0 (.lst vs)) := .grow (grow_new hp)
              have s2 : StOk U1 X.K ρ1 S1 (upd H1 p0 (.lst vs)) := s1.grow (grow_new hp)
              exact ⟨.ref p0, .list xs, rfl, .lst (.inl (.inl upd_same)) (snaps_dp s2 ex s1.sub hx r1 hg.1.1.2), hg.1.1.1, hg.1.1.2, hg.1.2, fits_le hg.2, q _ _ _ _ (e1.trans ex) s2 (.str _)⟩
            · cases hm
        | _ => simp [chkE] at h
      · cases a0 <;> simp [chkE] at h
    | _ => simp [chkE] at h
  | _ => simp [chkE] at h
theorem e_chn (op op' : CmpOp) {a b c : C} (ha : OkE G F Gc a) (hb : OkE G F Gc b) (hc : OkE G F Gc c) : OkE G F Gc (.chn op op' a b c) := by
  intro X T e g m h
  cases e with
  | Compare l os rs p =>
    rcases os with _ | ⟨o, _ | ⟨o2, _ | ⟨o3, os⟩⟩⟩
    · simp [chkE] at h
    · rcases rs with _ | ⟨r, _ | ⟨r2, rs⟩⟩ <;> simp [chkE] at h
    · rcases rs with _ | ⟨r, _ | ⟨r2, _ | ⟨r3, rs⟩⟩⟩
      · simp [chkE] at h
      · simp [chkE] at h
      · simp only [chkE, Bool.and_eq_true, decide_eq_true_eq, Bool.not_eq_true'] at h
        obtain ⟨⟨⟨⟨⟨rfl, rfl⟩, h1⟩, h2⟩, h3⟩, h4⟩ := h
        obtain ⟨a1, _⟩ := ha X T l g m h1
        obtain ⟨b1, _⟩ := hb X T r g m h2
        obtain ⟨c1, _⟩ := hc X T r2 g m h3
        have hu : X.A.units + 65 < cLine := by have := g.un; omega
        have red : ∀ (R : V → Hp → Prop) (σ : L2.St) (H : Hp) (U ρ : List Addr) (env : DEnv) (S : Sto) (d : D) (S' : Sto), EnvOk U X.K ρ H env σ → StOk U X.K ρ S H → denE F Gc (.chn o o2 a b c) env S = some (d, S') →
            (∀ U' ρ' H' z, d = .p (.bool z) → Ext U ρ H U' ρ' H' → StOk U' X.K ρ' S' H' → R (.bl z) H') → tChain (rC2 X.K o) (rC2 X.K o2) (tE X.K (denE F Gc a)) (tE X.K (denE F Gc b)) (tE X.K (denE F Gc c)) σ H R := by
          intro R σ H U ρ env S d S' he hs hm q
          obtain ⟨⟨d1, S1⟩, m1, hm⟩ := Option.bind_eq_some_iff.mp (show (denE F Gc a env S).bind _ = some (d, S') from hm)
          obtain ⟨⟨d2, S2⟩, m2, hm⟩ := Option.bind_eq_some_iff.mp hm
          obtain ⟨x, hx, hm⟩ := Option.bind_eq_some_iff.mp hm
          obtain ⟨y, hy, hm⟩ := Option.bind_eq_some_iff.mp hm
          obtain ⟨z, hz, hm⟩ := Option.bind_eq_some_iff.mp hm
          refine seq2 he hs m1 m2 fun U2 ρ2 H2 v1 v2 e2 s2 r1 r2 => ?_
          refine ⟨U2, ρ2, S2, d1, d2, x, y, z, s2, r1, r2, hx, hy, hz, z, rfl, ?_⟩
          cases z with
          | false =>
            cases hm
            rw [if_neg Bool.false_ne_true]
            exact q _ _ _ _ rfl e2 s2
          | true =>
            rw [if_pos rfl]
            obtain ⟨⟨d3, S3⟩, m3, hm⟩ := Option.bind_eq_some_iff.mp (show (denE F Gc c env S2).bind _ = some (d, S') from hm)
            obtain ⟨y', hy', hm⟩ := Option.bind_eq_some_iff.mp hm
            obtain ⟨w, hw, hm⟩ := Option.bind_eq_some_iff.mp hm
            obtain ⟨z', hz', hm⟩ := Option.map_eq_some_iff.mp hm
            cases hm
            refine seq1 (he.mono e2 hs.sub) s2 m3 fun U3 ρ3 H3 v3 e3 s3 r3 => ?_
            exact ⟨U3, ρ3, S3, d2, d3, y', w, z', s3, r2.mono e3 s2.sub, r3, hy', hw, hz', q _ _ _ _ rfl (e2.trans e3) s3⟩
        have pe : PE X (.Compare l [o, o2] [r, r2] p) (tE X.K (denE F Gc (.chn o o2 a b c))) := PE.imp (pe_chain (op_C hu o) (op_C hu o2) a1 b1 c1 h4) fun σ H Q ⟨U, ρ, env, S, d, S', he, hs, hm, q⟩ =>
          red Q σ H U ρ env S d S' he hs hm fun U' ρ' H' z ed e1 s1 => by subst ed; exact q U' ρ' H' _ e1 s1 (.bl z)
        refine ⟨pe, fun z => (by cases z), PT.imp (pt_chain (op_C hu o) (op_C hu o2) a1 b1 c1 h4) ?_, fun ⟨_, _, _, z⟩ => by cases z⟩
        rintro σ H Q ⟨U, ρ, env, S, d, S', he, hs, hm, q⟩
        refine red _ σ H U ρ env S _ S' he hs hm fun U' ρ' H' z ed e1 s1 => ?_
        cases ed
        exact ⟨_, rfl, q U' ρ' H' e1 s1⟩
      · simp [chkE] at h
    · rcases rs with _ | ⟨r, _ | ⟨r2, _ | ⟨r3, rs⟩⟩⟩ <;> simp [chkE] at h
  | _ => simp [chkE] at h
theorem ty_of {X : Cx} {U ρ : List Addr} {S : Sto} {H : Hp} {d : D} {v : V} {x : P} (st : StOk U X.K ρ S H) (h : snapE S d = some x) (r : RepD U X.K ρ H d v) : TyX X.K H v (.type (typP x)) := by
  cases d with
  | p y =>
    cases h
    have r : RepP U X.K H x v := r
    cases r with
    | non => exact .base .non
    | bl b => exact .base (.bl b)
    | int i => exact .base (.int i)
    | str y => exact .base (.str y)
    | lst h1 h2 h3 => exact .base (.lst h2)
    | tup h1 h2 =>
      rcases h1 with h1 | ⟨_, o, its, n, e, c, _⟩
      · exact .base (.tup h1.2)
      · exact .kTuple e c
    | dic h1 h2 h3 => exact .base (.dK h2)
  | r n =>
    obtain ⟨a, rfl, ha⟩ := r
    obtain ⟨xs, e, rfl⟩ := snapM_some (show snapM S[n]? = some x from h)
    obtain ⟨vs, h1, h2⟩ := st.at_ n a _ ha e
    exact .base (.lst h1)
  | s xs => cases h
theorem kitB_all : ∀ t, t ∈ (["NoneType", "bool", "int", "str", "list", "tuple", "dict"] : List String) → ∀ n, n ∈ (["int", "str", "tuple", "list", "bool"] : List String) → kitB t n = some (t == n || (n == "int" && t == "bool")) := by decide +kernel
theorem kitB_isi {n : String} (hn : tyB n = true) {x : P} : kitB (typP x) n = some (isiP n x) := by
  have h1 : typP x ∈ (["NoneType", "bool", "int", "str", "list", "tuple", "dict"] : List String) := by
    cases x <;> simp [typP]
  have h2 : n ∈ (["int", "str", "tuple", "list", "bool"] : List String) := by
    unfold tyB at hn
    simpa only [Bool.or_eq_true, beq_iff_eq, List.mem_cons, List.not_mem_nil, or_false, or_assoc] using hn
  exact kitB_all _ h1 _ h2
theorem boot_ty {n : String} (hn : tyB n = true) : bootBuiltins (Str.ofString n) = some (.type n) ∧ Str.ofString n ≠ "__name__" ∧ (Str.ofString n == ("__debug__" : Str)) = false ∧ Str.ofString n ∈ (["len", "int", "abs", "max", "min", "sum", "any", "all", "tuple", "list", "str", "repr", "sorted", "isinstance", "range", "enumerate", "zip", "bool", "dict"] : List Str) := by
  unfold tyB at hn
  simp only [Bool.or_eq_true, beq_iff_eq] at hn
  rcases hn with (((rfl | rfl) | rfl) | rfl) | rfl <;> exact ⟨by first | rfl | decide +kernel, by decide +kernel, by decide +kernel, by decide +kernel⟩
theorem e_isi (n : String) {a : C} (ha : OkE G F Gc a) : OkE G F Gc (.isi n a) := by
  intro X T e g m h
  cases e with
  | Call fn args kws p =>
    cases fn with
    | Name x p2 =>
      rcases args with _ | ⟨a0, _ | ⟨a1, _ | ⟨a2, args⟩⟩⟩
      · simp [chkE] at h
      · simp [chkE] at h
      · cases a1 with
        | Name y p3 =>
          cases kws with
          | cons _ _ => simp [chkE] at h
          | nil =>
            simp only [chkE, Bool.and_eq_true, decide_eq_true_eq] at h
            obtain ⟨⟨⟨⟨⟨⟨rfl, h2⟩, h3⟩, h4⟩, rfl⟩, h5⟩, h6⟩ := h
            obtain ⟨a1, _⟩ := ha X T a0 g m h3
            obtain ⟨b1, b2, b3, b4⟩ := boot_ty h6
            have pt : PE X (.Name (Str.ofString n) p3) (tC (.ty n)) := pe_bltn (m.gl h5) (g.nob _ b4) b1 rfl b2 b3
            refine mkE rfl (PE.imp (pe_callB (p := p2) (pos := p) call_isi (m.gl h2) (g.nob _ (by decide +kernel)) (by first | rfl | decide +kernel) (pa_cons a1 (pa_cons pt pa_nil (star_of rfl)) (star_of h4)) (by decide +kernel) (by decide +kernel) (star_of h4) (by rw [star_of (env := X.env) (show noStB (.Name (Str.ofString n) p3) = true from rfl)]; rfl)) ?_) (fun _ => rfl) (fun _ _ _ z => by cases z)
            rintro σ H Q ⟨U, ρ, env, S, d, S', he, hs, hm, q⟩
            obtain ⟨⟨d1, S1⟩, m1, hm⟩ := Option.bind_eq_some_iff.mp (show (denE F Gc a env S).bind _ = some (d, S') from hm)
            obtain ⟨z, hz, hm⟩ := Option.map_eq_some_iff.mp hm
            cases hm
            refine seq1 he hs m1 fun U1 ρ1 H1 v1 e1 s1 r1 => ?_
            exact ⟨v1, .ty n, _, .type n, isiP n z, rfl, .ty n, ty_of s1 hz r1, kit_ty (kitB_isi h6), q _ _ _ _ e1 s1 (.bl _)⟩
        | _ => simp [chkE] at h
      · cases a1 <;> simp [chkE] at h
    | _ => simp [chkE] at h
  | _ => simp [chkE] at h
end
end DS
set_option maxRecDepth 100000
set_option maxHeartbeats 4000000
namespace DS
open PySem PySem.Spec L2
section
variable {X : Cx} {pins : List (Addr × Obj)} {σ : L2.St} {H : Hp} {s : Shared}
theorem keys_read {P : Program} {w : World} : ∀ {es : List DictEntry} {vs : List (Key × Value)} {ws : List (Key × V)} {h : Heap}, Pairs (mixKind P w) es vs → KV ws vs → ReadsAll h (es.map (·.key)) (ws.map fun w => keyD w.1) []
  | _, _, _, h, .nil, .nil => .nil
  | _, _, _, h, .cons (e := e) h1 h2 t, .cons (a := p) r u => by
    have hk : keyIs p.1 e.key = true := by rw [r.1]; exact h1
    have q : Reads h e.key (keyD p.1) [] := by
      rcases keyIs_shape hk with ⟨i, t, e1, e2⟩ | ⟨x, t, e1, e2⟩
      · rw [e1, e2]; exact Reads.int i t
      · rw [e1, e2]; exact Reads.str x t
    exact ReadsAll.cons q (keys_read t u)
theorem vals_kv {P : Program} {w : World} : ∀ {es : List DictEntry} {vs : List (Key × Value)} {ws : List (Key × V)}, Pairs (mixKind P w) es vs → KV ws vs → Vals (ws.map (·.2)) (es.map (·.val))
  | _, _, _, .nil, .nil => .nil
  | _, _, _, .cons h1 h2 t, .cons r u => .cons (by have q := r.2; rw [← h2] at q; exact q) (vals_kv t u)
theorem zip_keys {α β : Type} : ∀ {as : List α} {bs : List β}, as.length = bs.length → (as.zip bs).map (·.1) = as ∧ (as.zip bs).map (·.2) = bs
  | [], [], _ => ⟨rfl, rfl⟩
  | a :: as, b :: bs, h => by
    obtain ⟨h1, h2⟩ := zip_keys (as := as) (bs := bs) (by simpa using h)
    exact ⟨by rw [List.zip_cons_cons, List.map_cons, h1], by rw [List.zip_cons_cons, List.map_cons, h2]⟩
theorem pr_le {x : P} {l : List P} {n : Nat} (h : ∀ t ∈ PyData.shownAll (x :: l), t.length ≤ n) : x.shown.length ≤ n ∧ ∀ t ∈ PyData.shownAll l, t.length ≤ n := by
  have e : PyData.shownAll (x :: l) = x.shown :: PyData.shownAll l := by simp only [PyData.shownAll]
  rw [e] at h
  exact ⟨h _ List.mem_cons_self, fun t ht => h t (List.mem_cons_of_mem _ ht)⟩
theorem show2 {x : P} {l : List P} (h : PyData.showableAll (x :: l) = true) : x.showable = true ∧ PyData.showableAll l = true := by
  have h : (x.showable && PyData.showableAll l) = true := h
  simpa using h
mutual
theorem rpK (I : Inv X pins σ H s) : ∀ {d : P} {v : V} {u : Value}, RepP [] X.K H d v → RelV v u → d.showable = true → d.shown.length ≤ sizeLine →
    ∃ as bs, Reads s.heap u d as ∧ ReadAtMost s.heap d.depth bs ∧ ReprK X.prog X.w bs s.heap d.depth u d.shown
  | _, _, _, .non, r, sh, sz => by
    cases r
    obtain ⟨bs, h1, h2⟩ := ReprK.of_reads (prog := X.prog) (w := X.w) (Reads.none (h := s.heap)) sh (fun z => by cases z) sz
    exact ⟨_, bs, Reads.none, h1, h2⟩
  | _, _, _, .bl b, r, sh, sz => by
    cases r
    obtain ⟨bs, h1, h2⟩ := ReprK.of_reads (prog := X.prog) (w := X.w) (Reads.bool (h := s.heap) b) sh (fun z => by cases z) sz
    exact ⟨_, bs, Reads.bool b, h1, h2⟩
  | _, _, _, .int i, r, sh, sz => by
    obtain ⟨t, rfl⟩ := r
    obtain ⟨bs, h1, h2⟩ := ReprK.of_reads (prog := X.prog) (w := X.w) (Reads.int (h := s.heap) i t) sh (fun z => by cases z) sz
    exact ⟨_, bs, Reads.int i t, h1, h2⟩
  | _, _, _, .str x, r, sh, sz => by
    obtain ⟨t, rfl⟩ := r
    obtain ⟨bs, h1, h2⟩ := ReprK.of_reads (prog := X.prog) (w := X.w) (Reads.str (h := s.heap) x t) sh (fun z => by cases z) sz
    exact ⟨_, bs, Reads.str x t, h1, h2⟩
  | _, _, _, .lst (ds := ds) hn hs ha, r, sh, sz => by
    cases r
    have sz : (listText (PyData.shownAll ds)).length ≤ sizeLine := by simpa only [PyData.shown] using sz
    obtain ⟨its, rv, ⟨o, n, ho, hc, _, hd⟩, _⟩ := I.list (.inl (.inl hs))
    obtain ⟨as, bs, q1, q2, q3⟩ := rpsK I ha rv sh (fun t ht => Nat.le_trans (listText_mem_le ht) sz)
    have rd : Reads s.heap _ (.list ds) _ := Reads.list ho hc hd q1
    refine ⟨_, _ :: bs, rd, ReadAtMost.cons rd (Nat.le_succ _) q2, ?_⟩
    have nb := not_mem_of_deeper rd (Nat.lt_succ_self _) q2
    show ReprK X.prog X.w _ s.heap (PyData.depthAll ds + 1) _ (PyData.shown (.list ds))
    rw [show PyData.shown (.list ds) = listText (PyData.shownAll ds) by simp only [PyData.shown]]
    cases its with
    | nil =>
      cases q1
      rw [show listText (PyData.shownAll []) = ("[]" : Str) by simp only [PyData.shownAll, listText_nil]]
      exact ReprK.listEmpty ho hc hd
    | cons x l => exact ReprK.list ho hc hd nb q3.length_eq (fun i y e => q3.item i y (by simpa using e))
  | _, _, _, .tup (ds := ds) hs ha, r, sh, sz => by
    cases r
    have sz : (tupleText (PyData.shownAll ds)).length ≤ sizeLine := by simpa only [PyData.shown] using sz
    obtain ⟨its, rv, ⟨o, ho, hc, n, hd⟩, _⟩ := I.tuple (show SqT X.K H _ _ from hs.elim (fun z => .inl (.inl z.2)) kt_sq)
    obtain ⟨as, bs, q1, q2, q3⟩ := rpsK I ha rv sh (fun t ht => Nat.le_trans (tupleText_mem_le ht) sz)
    have rd : Reads s.heap _ (.tuple ds) _ := Reads.tuple ho hc hd q1
    refine ⟨_, _ :: bs, rd, ReadAtMost.cons rd (Nat.le_succ _) q2, ?_⟩
    show ReprK X.prog X.w _ s.heap (PyData.depthAll ds + 1) _ (PyData.shown (.tuple ds))
    rw [show PyData.shown (.tuple ds) = tupleText (PyData.shownAll ds) by simp only [PyData.shown]]
    exact ReprK.tuple ho hc hd (not_mem_of_deeper rd (Nat.lt_succ_self _) q2) q3
  | _, _, _, .dic (ws := ws) (ds := ds) hn hs ha, r, sh, sz => by
    cases r
    obtain ⟨z, hsm, vs, rel, o, es, ep, ho, hx, hd, hk, hp, _⟩ := dk_of I.hok hs
    generalize ek : (ws.map fun w => keyD w.1).zip ds = kvs at sh sz ⊢
    have e1 : kvs.map (·.1) = ws.map fun w => keyD w.1 := by rw [← ek]; exact (zip_keys (by rw [List.length_map, ha.length, List.length_map])).1
    have e2 : kvs.map (·.2) = ds := by rw [← ek]; exact (zip_keys (by rw [List.length_map, ha.length, List.length_map])).2
    have sz : (dictText (PyData.shownKv kvs)).length ≤ sizeLine := by simpa only [PyData.shown] using sz
    obtain ⟨s1, s2⟩ := PyData.showableKv_split kvs sh
    have rk : ReadsAll s.heap (es.toList.map (·.key)) (kvs.map (·.1)) [] := by rw [e1]; exact keys_read hp rel
    have l1 : ∀ t ∈ PyData.shownAll (kvs.map (·.1)), t.length ≤ sizeLine := fun t ht => by
      obtain ⟨p, h1, h2⟩ := PyData.shownKv_key_le kvs t ht
      exact Nat.le_trans h2 (Nat.le_trans (dictText_mem_le h1) sz)
    have l2 : ∀ t ∈ PyData.shownAll (kvs.map (·.2)), t.length ≤ sizeLine := fun t ht => by
      obtain ⟨p, h1, h2⟩ := PyData.shownKv_val_le kvs t ht
      exact Nat.le_trans h2 (Nat.le_trans (dictText_mem_le h1) sz)
    obtain ⟨b1, q1, q2⟩ := ReprAllK.of_readsAll (prog := X.prog) (w := X.w) rk s1 (fun _ z => by cases z) l1
    rw [e2] at s2 l2
    obtain ⟨as, b2, p1, p2, p3⟩ := rpsK I ha (vals_kv hp rel) s2 l2
    rw [← e2] at p1 p2 p3
    have rd : Reads s.heap _ (.dict kvs) _ := Reads.dict ho hx.1 hd rk p1
    have am : ReadAtMost s.heap (PyData.depthKv kvs) (b1 ++ b2) := ReadAtMost.append (q1.mono (PyData.depthAll_keys_le kvs)) (p2.mono (PyData.depthAll_vals_le kvs))
    refine ⟨_, _ :: (b1 ++ b2), rd, ReadAtMost.cons rd (Nat.le_succ _) am, ?_⟩
    show ReprK X.prog X.w _ s.heap (PyData.depthKv kvs + 1) _ (PyData.shown (.dict kvs))
    rw [show PyData.shown (.dict kvs) = dictText (PyData.shownKv kvs) by simp only [PyData.shown], PyData.shownKv_eq]
    exact ReprK.dict ho hx.1 hd hsm (not_mem_of_deeper rd (Nat.lt_succ_self _) am) (ReprEntriesK.of_two es.toList _ _ (q2.more_le (fun b hb => List.mem_append_left _ hb) (PyData.depthAll_keys_le kvs)) (p3.more_le (fun b hb => List.mem_append_right _ hb) (PyData.depthAll_vals_le kvs)))
theorem rpsK (I : Inv X pins σ H s) : ∀ {ds : List P} {vs : List V} {us : List Value}, RepPs [] X.K H ds vs → Vals vs us → PyData.showableAll ds = true → (∀ t ∈ PyData.shownAll ds, t.length ≤ sizeLine) →
    ∃ as bs, ReadsAll s.heap us ds as ∧ ReadAtMost s.heap (PyData.depthAll ds) bs ∧ ReprAllK X.prog X.w bs s.heap (PyData.depthAll ds) us (PyData.shownAll ds)
  | _, _, _, .nil, r, _, _ => by
    cases r
    exact ⟨_, [], ReadsAll.nil, (fun b hb => by cases hb), by rw [show PyData.shownAll [] = [] by simp only [PyData.shownAll]]; exact ReprAllK.nil⟩
  | x :: l, _, _, .cons h1 h2, r, sh, sz => by
    cases r with
    | cons r1 r2 =>
      obtain ⟨as, bs, p1, p2, p3⟩ := rpK I h1 r1 (show2 sh).1 (pr_le sz).1
      obtain ⟨cs, es, q1, q2, q3⟩ := rpsK I h2 r2 (show2 sh).2 (pr_le sz).2
      have m1 : x.depth ≤ PyData.depthAll (x :: l) := Nat.le_max_left _ _
      have m2 : PyData.depthAll l ≤ PyData.depthAll (x :: l) := Nat.le_max_right _ _
      refine ⟨_, bs ++ es, ReadsAll.cons p1 q1, ReadAtMost.append (p2.mono m1) (q2.mono m2), ?_⟩
      rw [show PyData.shownAll (x :: l) = x.shown :: PyData.shownAll l by simp only [PyData.shownAll]]
      exact ReprAllK.cons ((p3.more fun b hb => List.mem_append_left _ hb).level_le m1) (q3.more_le (fun b hb => List.mem_append_right _ hb) m2)
end
end
section
variable {X : Cx}
theorem repr_RV (hu : X.A.units + 70 < cLine) (hg : X.A.guards = some []) : CallR X (.builtin "repr") (fun vs H Q => ∃ (v : V) (d : P), vs = [v] ∧ RepP [] X.K H d v ∧ PyData.showable d = true ∧ d.depth ≤ 64 ∧ d.shown.length ≤ sizeLine ∧ Q (.str d.shown) H) := by
  intro pins s σ H vs us Q I r h
  obtain ⟨v, d, rfl, hd, h1, h3, h4, q⟩ := h
  cases r with
  | cons ru rt =>
    rename_i u us'
    cases rt
    have fin : ∀ h' tk t', (∀ b o, s.heap.get? b = some o → h'.get? b = some o) → EP X pins σ Q (.str d.shown t') { s with heap := h', toks := tk } := fun h' tk t' k => ⟨.str d.shown, H, I.kept k, ⟨_, rfl⟩, q⟩
    have fin0 : ∀ (y : Str), d.shown = y → EP X pins σ Q (.str y s.toks) { s with toks := s.toks + 1 } := fun y e => by
      rw [← e]
      exact fin s.heap (s.toks + 1) s.toks (fun _ _ z => z)
    cases hd with
    | lst hn hs ha =>
      rename_i a xs ds
      cases ru
      have sz : (listText (PyData.shownAll ds)).length ≤ sizeLine := by simpa only [PyData.shown] using h4
      obtain ⟨its, rv, ⟨o, n, ho, hc, _, hd⟩, _⟩ := I.list (.inl (.inl hs))
      obtain ⟨as, bs, q1, q2, q3⟩ := rpsK I ha rv h1 (fun t ht => Nat.le_trans (listText_mem_le ht) sz)
      have rd : Reads s.heap _ (.list ds) _ := Reads.list ho hc hd q1
      have nb := not_mem_of_deeper rd (Nat.lt_succ_self _) q2
      have dd : PyData.depthAll ds + 1 ≤ 64 := h3
      have fin' : ∀ h' t tk, (∀ b o, s.heap.get? b = some o → h'.get? b = some o) → (fun r s₁ => ∃ x t, r = Value.str x t ∧ EP X pins σ Q r s₁) (.str (listText (PyData.shownAll ds)) t) { s with heap := h', toks := tk } := fun h' t tk k => ⟨_, _, rfl, by
        have := fin h' tk t k
        rw [show PyData.shown (.list ds) = listText (PyData.shownAll ds) by simp only [PyData.shown]] at this
        exact this⟩
      refine call_repr_slot (by omega) ⟨o, ho, hc⟩ F.slot_list_repr.toG ?_
      cases its with
      | nil =>
        cases q1
        refine call_list_repr_empty ⟨o, ho, hc⟩ ho hd ?_
        have := fin' s.heap s.toks (s.toks + 1) (fun _ _ z => z)
        rw [show listText (PyData.shownAll []) = ("[]" : Str) by simp only [PyData.shownAll, listText_nil]] at this
        exact this
      | cons x l =>
        exact call_list_reprK ho hc hd nb q3.length_eq (fun i y e => q3.item i y (by simpa using e)) hg (fun b _ => Clear.nil b) (show X.A.units + 1 + _ < cLine by omega) (fun _ _ z => z) (fun h' t tk k => fin' h' t tk k) sz
    | tup hs ha =>
      rename_i a xs ds
      cases ru
      have sz : (tupleText (PyData.shownAll ds)).length ≤ sizeLine := by simpa only [PyData.shown] using h4
      obtain ⟨its, rv, ⟨o, ho, hc, n, hd⟩, _⟩ := I.tuple (show SqT X.K H _ _ from hs.elim (fun z => .inl (.inl z.2)) kt_sq)
      obtain ⟨as, bs, q1, q2, q3⟩ := rpsK I ha rv h1 (fun t ht => Nat.le_trans (tupleText_mem_le ht) sz)
      have rd : Reads s.heap _ (.tuple ds) _ := Reads.tuple ho hc hd q1
      have dd : PyData.depthAll ds + 1 ≤ 64 := h3
      refine call_repr_slot (by omega) ⟨o, ho, hc⟩ F.slot_tuple_repr ?_
      refine call_tuple_reprK ho hc hd (not_mem_of_deeper rd (Nat.lt_succ_self _) q2) q3 hg (fun b _ => Clear.nil b) (show X.A.units + 1 + _ < cLine by omega) (fun _ _ z => z) (fun h' t tk k => ⟨_, _, rfl, ?_⟩) sz
      have := fin h' tk t k
      rw [show PyData.shown (.tuple ds) = tupleText (PyData.shownAll ds) by simp only [PyData.shown]] at this
      exact this
    | dic hn hs ha =>
      rename_i a ws ds
      cases ru
      obtain ⟨z, hsm, vs, rel, o, es, ep, ho, hx, hd, hk, hp, _⟩ := dk_of I.hok hs
      generalize ek : (ws.map fun w => keyD w.1).zip ds = kvs at *
      have e1 : kvs.map (·.1) = ws.map fun w => keyD w.1 := by rw [← ek]; exact (zip_keys (by rw [List.length_map, ha.length, List.length_map])).1
      have e2 : kvs.map (·.2) = ds := by rw [← ek]; exact (zip_keys (by rw [List.length_map, ha.length, List.length_map])).2
      have sz : (dictText (PyData.shownKv kvs)).length ≤ sizeLine := by simpa only [PyData.shown] using h4
      obtain ⟨s1, s2⟩ := PyData.showableKv_split kvs h1
      have rk : ReadsAll s.heap (es.toList.map (·.key)) (kvs.map (·.1)) [] := by rw [e1]; exact keys_read hp rel
      have l1 : ∀ t ∈ PyData.shownAll (kvs.map (·.1)), t.length ≤ sizeLine := fun t ht => by
        obtain ⟨p, h1, h2⟩ := PyData.shownKv_key_le kvs t ht
        exact Nat.le_trans h2 (Nat.le_trans (dictText_mem_le h1) sz)
      have l2 : ∀ t ∈ PyData.shownAll (kvs.map (·.2)), t.length ≤ sizeLine := fun t ht => by
        obtain ⟨p, h1, h2⟩ := PyData.shownKv_val_le kvs t ht
        exact Nat.le_trans h2 (Nat.le_trans (dictText_mem_le h1) sz)
      obtain ⟨b1, q1, q2⟩ := ReprAllK.of_readsAll (prog := X.prog) (w := X.w) rk s1 (fun _ z => by cases z) l1
      rw [e2] at s2 l2
      obtain ⟨as, b2, p1, p2, p3⟩ := rpsK I ha (vals_kv hp rel) s2 l2
      rw [← e2] at p1 p2 p3
      have rd : Reads s.heap _ (.dict kvs) _ := Reads.dict ho hx.1 hd rk p1
      have am : ReadAtMost s.heap (PyData.depthKv kvs) (b1 ++ b2) := ReadAtMost.append (q1.mono (PyData.depthAll_keys_le kvs)) (p2.mono (PyData.depthAll_vals_le kvs))
      have dd : PyData.depthKv kvs + 1 ≤ 64 := h3
      refine call_repr_slot (by omega) ⟨o, ho, hx.1⟩ F.slot_dict_repr ?_
      refine call_dict_reprK ho hx.1 hd hsm (not_mem_of_deeper rd (Nat.lt_succ_self _) am) (ReprEntriesK.of_two es.toList _ _ (q2.more_le (fun b hb => List.mem_append_left _ hb) (PyData.depthAll_keys_le kvs)) (p3.more_le (fun b hb => List.mem_append_right _ hb) (PyData.depthAll_vals_le kvs)))
        hg (fun b _ => Clear.nil b) (show X.A.units + 1 + _ < cLine by omega) (fun _ _ z => z) (fun h' t tk k => ⟨_, _, rfl, ?_⟩) (by rw [← PyData.shownKv_eq]; exact sz)
      have := fin h' tk t k
      rw [show PyData.shown (.dict kvs) = dictText (PyData.shownKv kvs) by simp only [PyData.shown], PyData.shownKv_eq] at this
      exact this
    | int i =>
      obtain ⟨t, rfl⟩ := ru
      exact PySem.P.repr_of_int (by simpa [PyData.showable] using h1) (fin0 _ (PyData.shown_int i))
    | str x =>
      obtain ⟨t, rfl⟩ := ru
      refine PySem.P.repr_of_str (fin0 _ (PyData.shown_str x)) ?_
      rw [PyData.shown_str] at h4
      exact h4
    | bl b =>
      obtain rfl := ru
      refine PySem.P.repr_of_bool (fin0 _ ?_)
      cases b <;> exact PyData.shown_bool _
    | non =>
      obtain rfl := ru
      exact PySem.P.repr_of_none (fin0 _ PyData.shown_none)
end
section
variable {G : GI} {F : FT} {Gc : Nat → Option P}
theorem e_rpv {a : C} (ha : OkE G F Gc a) : OkE G F Gc (.rpv a) := by
  intro X T e g m h
  cases e with
  | Call fn args kws p =>
    cases fn with
    | Name x p2 =>
      rcases args with _ | ⟨a0, _ | ⟨a1, args⟩⟩
      · simp [chkE] at h
      · cases kws with
        | cons _ _ => simp [chkE] at h
        | nil =>
          simp only [chkE, Bool.and_eq_true, decide_eq_true_eq] at h
          obtain ⟨⟨⟨rfl, h2⟩, h3⟩, h4⟩ := h
          obtain ⟨a1, _⟩ := ha X T a0 g m h3
          have hu := g.un
          refine mkE rfl (PE.imp (bi_pe (b := .repr) (p := p2) (pos := p) (repr_RV (by omega) g.gu) (m.gl h2) (g.nob _ (bi_mem .repr)) (pa_cons a1 pa_nil (star_of h4)) (star_of h4) (star_any rfl)) ?_) (fun _ => rfl) (fun _ _ _ z => by cases z)
          rintro σ H Q ⟨U, ρ, env, S, d, S', he, hs, hm, q⟩
          obtain ⟨⟨d1, S1⟩, m1, hm⟩ := Option.bind_eq_some_iff.mp (show (denE F Gc a env S).bind _ = some (d, S') from hm)
          obtain ⟨x, hx, hm⟩ := Option.bind_eq_some_iff.mp hm
          split at hm
          · rename_i hg
            cases hm
            simp only [Bool.and_eq_true, decide_eq_true_eq] at hg
            refine seq1 he hs m1 fun U1 ρ1 H1 v1 e1 s1 r1 => ?_
            exact ⟨v1, x, rfl, snapE_rep s1 hx r1, hg.1.1, hg.1.2, fits_le hg.2, q _ _ _ _ e1 s1 (.str _)⟩
          · cases hm
      · simp [chkE] at h
    | _ => simp [chkE] at h
  | _ => simp [chkE] at h
theorem e_dp0 : OkE G F Gc .dp0 := by
  intro X T e g m h
  cases e with
  | Dict keys vals p => cases keys with
    | cons _ _ => simp [chkE] at h
    | nil => cases vals with
      | cons _ _ => simp [chkE] at h
      | nil =>
        refine mkE rfl (PE.imp pe_dnewK ?_) (fun _ => rfl) (fun _ _ _ z => by cases z)
        rintro σ H Q ⟨U, ρ, env, S, d, S', he, hs, hm, q⟩
        have hm : some (D.p (.dict []), S) = some (d, S') := hm
        cases hm
        intro p0 hp
        exact q _ _ _ _ (.grow (grow_new hp)) (hs.grow (grow_new hp)) (show RepP U X.K (upd H p0 (.dK [])) (.dict []) (.ref p0) from .dic (ws := []) (ds := []) (hs.fresh hp) upd_same .nil)
  | _ => simp [chkE] at h
theorem e_dpl (ks : List Key) {es : C} (ha : OkA G F Gc es) : OkE G F Gc (.dpl ks es) := by
  intro X T e g m h
  cases e with
  | Dict keys vals p =>
    simp only [chkE, Bool.and_eq_true, decide_eq_true_eq] at h
    obtain ⟨⟨⟨h1, h2⟩, h3⟩, h4⟩ := h
    obtain ⟨_, _, _, a3⟩ := ha X T vals g m h2
    obtain ⟨trs, t1, t2⟩ := a3 p ks keys h1 h4
    obtain ⟨k1, k2⟩ := chkK_some h1
    by_cases h15 : keys.length ≤ 15
    · refine mkE rfl (PE.imp (pe_disp t1 k1 h4 h3 h15) ?_) (fun _ => rfl) (fun _ _ _ z => by cases z)
      rintro σ H Q ⟨U, ρ, env, S, d, S', he, hs, hm, q⟩
      obtain ⟨⟨ds, S2⟩, m2, hm⟩ := Option.bind_eq_some_iff.mp (show (denA F Gc es env S).bind _ = some (d, S') from hm)
      obtain ⟨xs, hx, hm⟩ := Option.bind_eq_some_iff.mp hm
      split at hm
      · rename_i hc
        cases hm
        intro p hp
        refine t2 _ _ _ ⟨U ++ [p], ρ, env, S, ds, S2, he.mv (.add hp), hs.add hp, m2, fun U2 ρ2 H2 vs e2 s2 r2 => ?_⟩
        obtain ⟨n, eu, er, hn⟩ := e2.nw
        have pn : p ∉ n := fun z => by have := hn p z; rw [upd_same] at this; cases this
        have pu : p ∉ U := fun z => hs.live p z hp
        have pr : p ∉ ρ := fun z => pu (hs.sub p z)
        have pr2 : p ∉ ρ2 := fun z => by
          rw [er] at z
          rcases List.mem_append.mp z with z | z
          · exact pr z
          · exact pn z
        have hp2 : H2 p = some (.dK []) := e2.keep p _ upd_same pr
        have rp := pursD_rep hx r2
        have hl : ks.length = vs.length := by rw [hc.1]; exact rp.length
        refine ⟨hp2, ks.zip vs, by rw [List.zip_map_left]; rfl, ?_, ?_⟩
        · rw [List.length_zip]
          have := hc.2.1
          omega
        · obtain ⟨z1, z2⟩ := zip_keys hl
          have hnd : mergeK [] (ks.zip vs) = ks.zip vs := by
            rw [mergeK_nodup]
            · rfl
            · show ((ks.zip vs).map Prod.fst).Nodup
              rw [List.map_fst_zip (by omega)]
              exact hc.2.2
          rw [hnd]
          have same1 : ∀ a, a ∈ U ++ n → a ∈ U2 := fun a ha => by
            rw [eu]
            simp only [List.mem_append, List.mem_singleton] at ha ⊢
            rcases ha with h | h
            · exact .inl (.inl h)
            · exact .inr h
          have pU : p ∈ U2 := by rw [eu]; simp
          have s3 : StOk U2 X.K ρ2 S2 (upd H2 p (.dK (ks.zip vs))) := s2.at_p pU pr2
          have sub2 : ∀ a, a ∈ ρ2 → a ∈ U ++ n := fun a ha => by
            rw [er] at ha
            simp only [List.mem_append] at ha ⊢
            exact ha.imp (hs.sub a) id
          have s4 : StOk (U ++ n) X.K ρ2 S2 (upd H2 p (.dK (ks.zip vs))) := s3.less same1 sub2
          have rp4 : RepPs (U ++ n) X.K (upd H2 p (.dK (ks.zip vs))) xs vs := RepPs.less same1 (RepPs.mv (Mv.at_ (ρ := ρ2) pU) rp)
          refine q (U ++ n) ρ2 _ _ ⟨⟨n, rfl, er, fun a ha => ?_⟩, fun a u h hu => ?_, fun a h => ?_⟩ s4 (show RepP (U ++ n) X.K _ (.dict _) (.ref p) from ?_)
          · have := hn a ha
            rw [upd_ne (fun z => pn (by rw [← z]; exact ha))] at this
            exact this
          · have hne : a ≠ p := ne_of_none h hp
            rw [upd_ne hne]
            exact e2.keep a u (grow_new hp a u h) hu
          · by_cases z : a = p
            · rw [z, upd_same]; simp
            · rw [upd_ne z]
              refine e2.live a ?_
              rw [upd_ne z]; exact h
          · have ek : (ks.zip vs).map (fun w => keyD w.1) = ks.map keyD := by
              have := congrArg (List.map keyD) z1
              rw [List.map_map] at this
              exact this
            rw [← ek]
            exact .dic (fun z => (List.mem_append.mp z).elim pu pn) upd_same (by rw [z2]; exact rp4)
      · cases hm
    · refine mkE rfl ⟨fun pins s σ H Q I ⟨U, ρ, env, S, d, S', he, hs, hm, q⟩ => ?_⟩ (fun _ => rfl) (fun _ _ _ z => by cases z)
      obtain ⟨⟨ds, S2⟩, m2, hm⟩ := Option.bind_eq_some_iff.mp (show (denA F Gc es env S).bind _ = some (d, S') from hm)
      obtain ⟨xs, hx, hm⟩ := Option.bind_eq_some_iff.mp hm
      split at hm
      · rename_i hc
        exact absurd hc.2.1 (by omega)
      · cases hm
  | _ => simp [chkE] at h
theorem s_rse : OkS G F Gc .rse := by
  intro X T s g m h
  exact ⟨fun pins s σ H D I ⟨U, ρ, env, S, f, env', S', he, hs, hm, q⟩ => by
    have hm : (none : Option (Fl × DEnv × Sto)) = some (f, env', S') := hm
    cases hm⟩
end
end DS
set_option maxRecDepth 100000
set_option maxHeartbeats 4000000
namespace DS
open PySem PySem.Spec L2 HT PyProof.Rows
theorem fm_congr {α β : Type} {f g : α → Option β} : ∀ {l : List α}, (∀ x, x ∈ l → f x = g x) → l.filterMap f = l.filterMap g
  | [], _ => rfl
  | x :: l, h => by
    rw [List.filterMap_cons, List.filterMap_cons, h x List.mem_cons_self, fm_congr fun y hy => h y (List.mem_cons_of_mem _ hy)]
section
variable {prog : Program} {w : World} {A : Around} {E : Value → Shared → Prop} {s : Shared}
theorem rev_adjust (n : Nat) : Builtin.Slice.sliceAdjust none none (-1) (n : Int) = ((n : Int) - 1, -1) := by
  unfold Builtin.Slice.sliceAdjust
  simp
theorem rev_places (n : Nat) : Builtin.Slice.slicePlaces ((n : Int) - 1) (-1) (-1) = n := by
  unfold Builtin.Slice.slicePlaces
  have h1 : ¬ ((-1 : Int) > 0) := by decide
  simp only [if_neg h1]
  split
  · rw [show (- -1 : Int) = 1 from rfl, Int.ediv_one]; omega
  · omega
theorem rev_applied {sl : Addr} {vl vu vs : Value} {n : Nat} {Q : Int × Int × Nat → Shared → Prop} (hs : s.heap.IsSliceOf sl vl vu vs) (pl : IsPart vl none) (pu : IsPart vu none) (ps : IsPart vs (some (-1))) (h : Q ((n : Int) - 1, -1, n) s) :
    wpAny (model prog w) A (Builtin.Slice.sliceApplied (.ref sl) (pure (n : Int))) Q E s := by
  obtain ⟨ob, h1, h2, h3⟩ := id hs
  unfold Builtin.Slice.sliceApplied Builtin.Slice.sliceFields
  refine wpAny_bind (wpAny_bind (wpAny_field h1 h3 (x := vl) rfl (wpAny_bind (wpAny_field h1 h3 (x := vu) rfl (wpAny_bind (wpAny_field h1 h3 (x := vs) rfl (wpAny_pure ?_)))))))
  refine wpAny_bind (HT.slicePart_ ps ?_)
  show wpAny _ _ (if ((-1 : Int) == 0) = true then _ else _) _ _ s
  refine (if_neg (by decide : ¬ ((-1 : Int) == 0) = true)) ▸ ?_
  refine wpAny_bind (HT.slicePart_ pl (wpAny_bind (HT.slicePart_ pu (wpAny_bind (wpAny_pure ?_)))))
  show wpAny _ _ (match Builtin.Slice.sliceAdjust none none (-1) (n : Int) with | (lo, hi) => pure (lo, (-1 : Int), Builtin.Slice.slicePlaces lo hi (-1))) _ _ s
  rw [rev_adjust n]
  show wpAny _ _ (pure ((n : Int) - 1, (-1 : Int), Builtin.Slice.slicePlaces ((n : Int) - 1) (-1) (-1))) _ _ s
  rw [rev_places n]
  exact wpAny_pure h
theorem rev_pick (its : List Value) : ((List.range its.length).filterMap fun (m : Nat) => its.toArray[((its.length : Int) - 1 + (m : Int) * -1).toNat]?).toArray = its.reverse.toArray := by
  congr 1
  refine List.ext_getElem? fun i => ?_
  have e : ((List.range its.length).filterMap fun (m : Nat) => its.toArray[((its.length : Int) - 1 + (m : Int) * -1).toNat]?) = (List.range its.reverse.length).filterMap fun k => its.reverse[k]? := by
    rw [List.length_reverse]
    refine fm_congr fun k hk => ?_
    have hk := List.mem_range.mp hk
    rw [List.getElem?_reverse hk, List.getElem?_toArray]
    congr 1
    omega
  rw [e]
  have key : ∀ (zs : List Value), (List.range zs.length).filterMap (fun k => zs[k]?) = zs := by
    intro zs
    induction zs with
    | nil => rfl
    | cons z zs ih =>
      rw [List.length_cons, List.range_succ_eq_map, List.filterMap_cons]
      show z :: ((List.range zs.length).map Nat.succ).filterMap _ = _
      rw [List.filterMap_map]
      exact congrArg (z :: ·) ih
  rw [key]
theorem getItem_rev {t sl : Addr} {its : List Value} {vl vu vs : Value} {Q : Value → Shared → Prop} (ht : IsTup s.heap t its.toArray) (hs : s.heap.IsSliceOf sl vl vu vs) (pl : IsPart vl none) (pu : IsPart vu none) (ps : IsPart vs (some (-1)))
    (h : Q (.ref s.heap.objs.size) { s with heap := s.heap.push { cls := .type "tuple", data := .seq its.reverse.toArray } }) (hsz : its.length ≤ sizeLine) : wpAny (model prog w) A (getItem (.ref t) (.ref sl)) Q E s := by
  have fit : sizeOk (.seq its.reverse.toArray) := by
    show its.reverse.toArray.size ≤ sizeLine
    rw [List.size_toArray, List.length_reverse]; exact hsz
  obtain ⟨os, hos, hcs, hds⟩ := id hs
  have hTs : s.TypeIs (.ref sl) "slice" := ⟨os, hos, hcs⟩
  unfold getItem
  try with_reducible refine wpAny_holding ?_
  first | refine wpAny_bind (wpAny_pure ?_) | skip
  refine wpAny_bind (wpAny_sequenceKey ht.typeIs (by decide) ?_)
  refine wpAny_bind (wpAny_callSpecial?_slot (name := Str.ofString "__getitem__") ht.typeIs PyProof.Rows.slot_tuple_getitem
    (wpAny_call_entry PyProof.Rows.slot_tuple_getitem ht.typeIs entry_tuple_getitem ?_ (args_tuple_getitem _ _)))
  show wpAny _ _ (Builtin.Tuple.tupleItemsOf (.ref t) >>= _) _ _ s
  refine wpAny_bind (tupleItemsOf_ ht ?_)
  refine wpAny_bind (wpAny_typeOf hTs ?_)
  rw [if_pos (by decide)]
  rw [show its.toArray.size = its.length from List.size_toArray ..]
  refine wpAny_bind (rev_applied (n := its.length) hs pl pu ps ?_)
  show wpAny _ _ (if (((its.length : Int) - 1) == 0 && (-1 : Int) == 1 && its.length == its.toArray.size) = true then _ else _) _ _ s
  rw [if_neg (by simp), rev_pick]
  first
    | exact wpAny_bind (m := Builtin.Tuple.tupleExact _) (wpAny_newObj_type (wpAny_pure ⟨_, rfl, wpAny_pure h⟩) fit)
    | exact wpAny_bind (m := Builtin.Tuple.tupleExact _) (wpAny_newObj_type (wpAny_bind (wpAny_pure (wpAny_pure ⟨_, rfl, wpAny_pure h⟩))) fit)
    | exact wpAny_bind (wpAny_bind (m := Builtin.Tuple.tupleExact _) (wpAny_newObj_type (wpAny_pure (wpAny_pure ⟨_, rfl, wpAny_pure h⟩)) fit))
    | exact wpAny_bind (wpAny_bind (m := Builtin.Tuple.tupleExact _) (wpAny_newObj_type (wpAny_pure ⟨_, rfl, wpAny_pure h⟩) fit))
end
def tRevT (K : PySem.W.Frag) (te : TE) : TE := fun σ H Q => te σ H fun x H1 => ∃ a xs, x = .ref a ∧ SqT K H1 a xs ∧ ∀ p, H1 p = none → Q (.ref p) (upd H1 p (.tup xs.reverse))
theorem pe_revT {X : Cx} {e : Expr} {te : TE} {k : Nat} {p1 p2 p3 pos : Pos} (he : PE X e te) : PE X (.Subscript e (.Slice none none (some (.UnaryOp .USub (.Constant (.int 1) k p1) p2)) p3) pos) (tRevT X.K te) := by
  refine ⟨fun pins s σ H Q I h => ?_⟩
  refine PyProof.Rows.Subscript_ (thn (he.run pins s σ H _ I h) fun v s1 ⟨x, H1, I1, r1, q1⟩ => ?_)
  obtain ⟨a, xs, ex, hx, q⟩ := q1
  subst ex
  cases r1
  have hst : PO X (some (.UnaryOp .USub (.Constant (.int 1) k p1) p2)) (tPart (tUn (rU fun i => .int (-i)) (tC (.int 1)))) := po_some (pe_un un_neg pe_int)
  refine wpAny_Slice (thn (po_none.run pins s1 σ H1 (fun o H2 => o = none ∧ H2 = H1) I1 ⟨rfl, rfl⟩) fun vl s2 ⟨l, H2, I2, pl, el, e2⟩ => ?_)
  subst el e2
  refine thn (po_none.run pins s2 σ H2 (fun o H3 => o = none ∧ H3 = H2) I2 ⟨rfl, rfl⟩) fun vu s3 ⟨u, H3, I3, pu, eu, e3⟩ => ?_
  subst eu e3
  refine thn (hst.run pins s3 σ H3 (fun o H4 => o = some (-1) ∧ H4 = H3) I3 ⟨1, rfl, -1, rfl, rfl, rfl⟩) fun vs s4 ⟨o, H4, I4, ps, eo, e4⟩ => ?_
  subst eo e4
  have I5 : Inv X pins σ H4 { s4 with heap := s4.heap.push { cls := .type "slice", data := .fields #[vl, vu, vs] } } := I4.kept (t' := s4.toks) fun b ob q => Heap.get?_push_of_some _ q
  obtain ⟨its, r, ht, hz⟩ := I5.tuple hx
  have hlen := r.length
  show wpAny (model X.prog X.w) X.A (subscriptTail e (.Slice none none (some (.UnaryOp .USub (.Constant (.int 1) k p1) p2)) p3) (.ref a) (.ref s4.heap.objs.size)) (EP X pins σ Q) X.xe { s4 with heap := s4.heap.push { cls := .type "slice", data := .fields #[vl, vu, vs] } }
  refine tail_any (ops := [.ref a, .ref s4.heap.objs.size]) ht.typeIs (PyProof.Rows.slot_tuple_getitem.lookup) ?_ (by with_unfolding_all rfl)
  refine getItem_rev ht (Heap.IsSliceOf.new _ vl vu vs) pl pu ps ?_ (by omega)
  refine ⟨.ref _, _, I5.laid (t' := s4.toks) (o := .tup xs.reverse) (fun b ob q => Heap.get?_push_of_some _ q) (Nat.le_refl _) ?_, rfl, q _ (I5.hok.fresh (Nat.le_refl _))⟩
  exact ⟨by rw [List.length_reverse]; exact hz, its.reverse, r.reverse, ⟨_, Heap.get?_push_size _ rfl, rfl, _, rfl⟩⟩
section
variable {G : GI} {F : FT} {Gc : Nat → Option P}
theorem e_rvt {a : C} (ha : OkE G F Gc a) : OkE G F Gc (.rvt a) := by
  intro X T e g m h
  cases e with
  | Subscript l i p => cases i with
    | Slice l0 h0 st p2 => cases l0 with
      | some _ => simp [chkE] at h
      | none => cases h0 with
        | some _ => simp [chkE] at h
        | none => cases st with
          | none => simp [chkE] at h
          | some u => cases u with
            | UnaryOp o u up => cases o with
              | USub => cases u with
                | Constant c k pk => cases c with
                  | int n =>
                    by_cases hn : n = 1
                    · subst hn
                      have h : chkE G T a l = true := by simpa [chkE] using h
                      obtain ⟨a1, _⟩ := ha X T l g m h
                      refine mkE rfl (PE.imp (pe_revT a1) ?_) (fun _ => rfl) (fun _ _ _ z => by cases z)
                      rintro σ H Q ⟨U, ρ, env, S, d, S', he, hs, hm, q⟩
                      simp only [denE, Option.bind_eq_some_iff] at hm
                      obtain ⟨⟨d1, S1⟩, m1, hm⟩ := hm
                      split at hm
                      · rename_i xs hx
                        cases hm
                        refine seq1 he hs m1 fun U1 ρ1 H1 v1 e1 s1 r1 => ?_
                        obtain ⟨b, vs, rfl, t, l1⟩ := snap_tup hx r1
                        refine ⟨b, vs, rfl, t, fun p0 hp => ?_⟩
                        obtain ⟨f1, f2, f3⟩ := newT s1 (RepPs.reverse l1) hp
                        exact q _ _ _ _ (e1.trans f1) f2 f3
                      · cases hm
                    · exfalso
                      revert h
                      unfold chkE
                      split
                      all_goals first | (intro h; cases h; done) | skip
                      all_goals simp_all
                  | _ => simp [chkE] at h
                | _ => simp [chkE] at h
              | _ => simp [chkE] at h
            | _ => simp [chkE] at h
    | _ => simp [chkE] at h
  | _ => simp [chkE] at h
end
end DS
set_option maxRecDepth 100000
set_option maxHeartbeats 4000000
namespace DS
open PySem PySem.Spec L2
def tXE (K : PySem.W.Frag) (C : Addr) (W : WX) (m : DEnv → Sto → Option Sto) : L2.St → Hp → Prop := fun σ H => ∃ U ρ env S S', EnvOk U K ρ H env σ ∧ StOk U K ρ S H ∧ m env S = some S' ∧
  ∀ U' ρ' H', Ext U ρ H U' ρ' H' → StOk U' K ρ' S' H' → W (.ref C) none σ H'
def tXS (K : PySem.W.Frag) (C : Addr) (W : WX) (m : SM) : L2.St → Hp → Prop := fun σ H => ∃ U ρ env S f env' S', EnvOk U K ρ H env σ ∧ StOk U K ρ S H ∧ m env S = some (f, env', S') ∧
  ∀ U' ρ' H' σ', Ext U ρ H U' ρ' H' → StOk U' K ρ' S' H' → EnvOk U' K ρ' H' env' σ' → W (.ref C) none σ' H'
section
variable (G : GI) (F : FT) (Gc : Nat → Option P)
abbrev XOkX (X : Cx) (C : Addr) : Prop := XOk G F X.prog X.w X.K X.mg X.base X.A C
def OkXE (c : C) : Prop := ∀ (X : Cx) (T : TI0) (e : Expr) (W : WX) (C : Addr), Gd G F Gc X → Mt T X → XOkX G F X C → chkE G T c e = true → Takes X W → PE X e (fun σ H _ => tXE X.K C W (rxE F Gc c) σ H)
def OkXA (c : C) : Prop := ∀ (X : Cx) (T : TI0) (es : List Expr) (W : WX) (C : Addr), Gd G F Gc X → Mt T X → XOkX G F X C → chkA G T c es = true → Takes X W → PA X es (fun σ H _ => tXE X.K C W (rxA F Gc c) σ H)
def OkXS (c : C) : Prop := ∀ (X : Cx) (T : TI0) (s : Stmt) (W : WX) (C : Addr), Gd G F Gc X → Mt T X → XOkX G F X C → chkS G T c s = true → Takes X W → PS X s (fun _ σ H => tXS X.K C W (rxS F Gc c) σ H)
def OkXSs (c : C) : Prop := ∀ (X : Cx) (T : TI0) (ss : List Stmt) (W : WX) (C : Addr), Gd G F Gc X → Mt T X → XOkX G F X C → chkSs G T c ss = true → Takes X W → PSs X ss (fun _ σ H => tXS X.K C W (rxSs F Gc c) σ H)
def OkX (c : C) : Prop := OkXE G F Gc c ∧ OkXA G F Gc c ∧ OkXS G F Gc c ∧ OkXSs G F Gc c
end
section
variable {G : GI} {F : FT} {Gc : Nat → Option P}
theorem xe_no {c : C} (h : ∀ env S, rxE F Gc c env S = none) : OkXE G F Gc c := fun X T e W C g m xo h1 tk => ⟨fun pins s σ H Q I q => by
  obtain ⟨U, ρ, env, S, S', _, _, hm, _⟩ := q
  rw [h] at hm; cases hm⟩
theorem xa_no {c : C} (h : ∀ env S, rxA F Gc c env S = none) : OkXA G F Gc c := fun X T e W C g m xo h1 tk => ⟨fun pos pins s σ H Q I q => by
  obtain ⟨U, ρ, env, S, S', _, _, hm, _⟩ := q
  rw [h] at hm; cases hm⟩
theorem xs_no {c : C} (h : ∀ env S, rxS F Gc c env S = none) : OkXS G F Gc c := fun X T e W C g m xo h1 tk => ⟨fun pins s σ H Q I q => by
  obtain ⟨U, ρ, env, S, f, env', S', _, _, hm, _⟩ := q
  rw [h] at hm; cases hm⟩
theorem xss_no {c : C} (h : ∀ env S, rxSs F Gc c env S = none) : OkXSs G F Gc c := fun X T e W C g m xo h1 tk => ⟨fun pins s σ H Q I q => by
  obtain ⟨U, ρ, env, S, f, env', S', _, _, hm, _⟩ := q
  rw [h] at hm; cases hm⟩
theorem x_other {c : C} (h1 : ∀ env S, rxE F Gc c env S = none) (h2 : ∀ env S, rxA F Gc c env S = none) (h3 : ∀ env S, rxS F Gc c env S = none) (h4 : ∀ env S, rxSs F Gc c env S = none) : OkX G F Gc c := ⟨xe_no h1, xa_no h2, xs_no h3, xss_no h4⟩
theorem xe_cal (f mode : Nat) {es : C} (ha : OkA G F Gc es) : OkXE G F Gc (.cal f mode es) := by
  intro X T e W C g m xo h tk
  cases e with
  | Call fn args kws p =>
    cases fn with
    | Name x p2 =>
      cases kws with
      | cons _ _ => simp [chkE] at h
      | nil =>
        simp only [chkE, Bool.and_eq_true, decide_eq_true_eq] at h
        obtain ⟨⟨⟨h1, h2⟩, h3⟩, h4⟩ := h
        obtain ⟨a1, a2, _⟩ := ha X T args g m h4
        obtain ⟨n1, n2, _⟩ := nm3 h3
        obtain ⟨k, a, fd, ps, f1, f2, f3, f4, f5, f6, _⟩ := xo.fns f x h1
        have red : ∀ (σ : L2.St) (H : Hp), tXE X.K C W (rxE F Gc (.cal f mode es)) σ H → (tA X.K (denA F Gc es)) σ H fun vs H1 => spD X.K ps.length (F (f + XN)) vs H1 (fun _ H' => W (.ref C) none σ H') E0 := by
          rintro σ H ⟨U, ρ, env, S, S', he, hs, hm, q⟩
          simp only [rxE, Option.bind_eq_some_iff, Option.map_eq_some_iff] at hm
          obtain ⟨⟨ds, S1⟩, m1, ⟨d, S2⟩, hm, rfl⟩ := hm
          refine ⟨U, ρ, env, S, ds, S1, he, hs, m1, fun U1 ρ1 H1 vs e1 s1 r1 => ?_⟩
          exact call_red s1 r1 f6 hm fun U' ρ' H' v e2 s2 r2 => q _ _ _ (e1.trans e2) s2
        cases args with
        | nil =>
          refine PE.imp (pe_callX0 tk f5 f4 g.gu (m.gl h2) f1 f2 f3 n1) fun σ H Q q => ?_
          obtain ⟨U, ρ, env, S, ds, S1, he, hs, m1, q⟩ := red σ H q
          cases es with
          | nil => cases m1; exact q U ρ H [] (.refl _ _ _) hs .nil
          | _ => simp [chkA] at h4
        | cons e0 er =>
          rw [List.all_cons, Bool.and_eq_true] at a2
          exact PE.imp (pe_callX tk f5 f4 g.gu (m.gl h2) f1 f2 f3 a1 n1 (star_of a2.1) (star_any a2.2)) fun σ H Q q => red σ H q
    | _ => simp [chkE] at h
  | _ => simp [chkE] at h
theorem run_XK {X : Cx} {pins : List (Addr × Obj)} {σ : L2.St} {H : Hp} {s : Shared} {k : Nat} {f C : Addr} {fd : FuncData} {ps : List Str} {sp : Sp} {W : WX} {Q : VK} {us ws : List Value} {vs zs : List V} {kns : List Str} {perm : List Nat} (tk : Takes X W) (F : FnX X.prog X.w X.K X.mg X.base k f fd ps C sp) (hr : Room k X.A) (hg : X.A.guards = some []) (P : PlainFd fd ps) (I : Inv X pins σ H s) (r : Vals vs us) (rz : Vals zs ws)
    (hp : permB ps us.length kns perm = true) (hw : kns.length = ws.length) (h : sp (perm.filterMap fun i => (vs ++ zs)[i]?) H (fun _ H' => W (.ref C) none σ H') E0) :
    wpAny (model X.prog X.w) X.A (call (.ref f) us (kns.zip ws)) (EP X pins σ Q) X.xe s := by
  have b1 : BindsTo s fd ⟨us, kns.zip ws⟩ (ps.zip (permG perm us ws)) := .of_eq (bind_kw P hp hw)
  refine wpAny_call (codeAny_mono (F.run X.A X.stack s H _ (permG perm us ws) _ (fun cls d H' => W cls d σ H') hr hg I.env0 b1 (vals_perm (vals_app r rz) perm) h) fun res s' c => ?_)
  match res, c with
  | .error e, c => exact passAt tk σ pins H s e s' I c
  | .ok (.ret u), c =>
    obtain ⟨v, H1, _, _, _, _, _, q⟩ := c
    exact q.elim
theorem xe_cak (f mode : Nat) {es ks : C} (perm : List Nat) (ha : OkA G F Gc es) (hk : OkA G F Gc ks) : OkXE G F Gc (.cak f mode es ks perm) := by
  intro X T e W C g m xo h tk
  cases e with
  | Call fn args kws p =>
    cases fn with
    | Name x p2 =>
      simp only [chkE, Bool.and_eq_true, decide_eq_true_eq] at h
      obtain ⟨⟨⟨⟨⟨h1, h2⟩, h3⟩, h4⟩, h5⟩, h6⟩ := h
      obtain ⟨a1, a2, _⟩ := ha X T args g m h4
      obtain ⟨_, _, k3, _⟩ := hk X T _ g m h5
      have pk := k3 kws rfl
      obtain ⟨n1, n2, _⟩ := nm3 h3
      obtain ⟨k, a, fd, ps, f1, f2, f3, f4, f5, f6, f7, f8⟩ := xo.fns f x h1
      rw [f8] at h6
      simp only [kwB, Bool.and_eq_true] at h6
      obtain ⟨⟨w1, w2⟩, _⟩ := h6
      obtain ⟨q1, q2, q3⟩ := kw_names (pos := p) (env := X.env) w1
      have red : ∀ (σ : L2.St) (H : Hp), tXE X.K C W (rxE F Gc (.cak f mode es ks perm)) σ H → (tA X.K (denA F Gc es)) σ H fun vs H1 => (tA X.K (denA F Gc ks)) σ H1 fun zs H2 => vs.length = args.length ∧ zs.length = kws.length ∧ spD X.K ps.length (F (f + XN)) (perm.filterMap fun i => (vs ++ zs)[i]?) H2 (fun _ H' => W (.ref C) none σ H') E0 := by
        rintro σ H ⟨U, ρ, env, S, S', he, hs, hm, q⟩
        simp only [rxE, Option.bind_eq_some_iff, Option.map_eq_some_iff] at hm
        obtain ⟨⟨ds, S1⟩, m1, ⟨es2, S2⟩, m2, ds2, m3, ⟨d, S3⟩, hm, rfl⟩ := hm
        refine ⟨U, ρ, env, S, ds, S1, he, hs, m1, fun U1 ρ1 H1 vs e1 s1 r1 => ⟨U1, ρ1, env, S1, es2, S2, he.mono e1 hs.sub, s1, m2, fun U2 ρ2 H2 zs e2 s2 r2 => ?_⟩⟩
        refine ⟨by rw [← r1.length]; exact denA_len (X := X) h4 m1, by rw [← r2.length]; exact (denA_len (X := X) h5 m2).trans (by simp), ?_⟩
        exact call_red s2 (permD_rep (repDs_app (r1.mono e2 s1.sub) r2) m3) f6 hm fun U' ρ' H' v e3 s3 r3 => q _ _ _ ((e1.trans e2).trans e3) s3
      have knl := kw_len w1
      cases args with
      | nil =>
        refine ⟨fun pins s σ H Q I q => ?_⟩
        obtain ⟨U, ρ, env, S, ds, S1, he, hs, m1, q⟩ := red σ H q
        have hes : ds = [] := List.length_eq_zero_iff.mp (denA_len (X := X) h4 m1)
        subst hes
        have hS : S1 = S := by
          cases es with
          | nil => cases m1; rfl
          | _ => simp [chkA] at h4
        subst hS
        have q := q U ρ H [] (.refl _ _ _) hs .nil
        refine wpAny_Call_Name_kw (ld_glob I (m.gl h2) f1 ?_ n1)
        refine PySem.W.callWith_KW0 (h₀ := X.base) I.ok.mod.kin f2 q1 (thn (pk.run p pins s σ H _ I q) fun ws s2 ⟨zs, H2, I2, rz, l1, l2, q2'⟩ => ⟨I2.kIn, ?_⟩) (by rw [q3]; rfl)
        rw [q2]
        exact run_XK (us := []) (vs := []) tk f5 f4 g.gu f7 I2 .nil rz w2 (by rw [knl, ← l2]; exact rz.length) q2'
      | cons e0 er =>
        rw [List.all_cons, Bool.and_eq_true] at a2
        refine ⟨fun pins s σ H Q I q => ?_⟩
        refine wpAny_Call_Name_kw (ld_glob I (m.gl h2) f1 ?_ n1)
        refine PySem.W.callWith_KW (h₀ := X.base) I.ok.mod.kin f2 q1 (thn (a1.run p pins s σ H _ I (red σ H q)) fun us s1 ⟨vs, H1, I1, r, q⟩ => ?_) (by
          rw [q3, Bool.or_false, star_of a2.1]
          have := star_any (pos := p) (env := X.env) a2.2
          unfold backTo at this ⊢
          rw [List.map_cons, List.any_cons, this]; rfl) (star_of a2.1)
        refine thn (pk.run p pins s1 σ H1 _ I1 q) fun ws s2 ⟨zs, H2, I2, rz, l1, l2, q2'⟩ => ⟨I2.kIn, ?_⟩
        rw [q2]
        exact run_XK (us := us) tk f5 f4 g.gu f7 I2 r rz (by rw [← r.length, l1]; exact w2) (by rw [knl, ← l2]; exact rz.length) q2'
    | _ => simp [chkE] at h
  | _ => simp [chkE] at h
theorem xe_ite {c a b : C} (hc : OkE G F Gc c) (ha : OkXE G F Gc a) (hb : OkXE G F Gc b) : OkXE G F Gc (.ite c a b) := by
  intro X T e W C g m xo h tk
  cases e with
  | IfExp t x y p =>
    simp only [chkE, Bool.and_eq_true] at h
    obtain ⟨_, _, c3, _⟩ := hc X T t g m h.1.1
    refine PE.imp (pe_ifExp c3 (ha X T x W C g m xo h.1.2 tk) (hb X T y W C g m xo h.2 tk)) ?_
    rintro σ H Q ⟨U, ρ, env, S, S', he, hs, hm, q⟩
    simp only [rxE, Option.bind_eq_some_iff] at hm
    obtain ⟨⟨b1, S1⟩, m1, hm⟩ := hm
    refine ⟨U, ρ, env, S, b1, S1, he, hs, asB_some m1, fun U1 ρ1 H1 e1 s1 => ?_⟩
    cases b1 with
    | true =>
      rw [if_pos rfl]
      exact ⟨U1, ρ1, env, S1, S', he.mono e1 hs.sub, s1, hm, fun U2 ρ2 H2 e2 s2 => q _ _ _ (e1.trans e2) s2⟩
    | false =>
      rw [if_neg Bool.false_ne_true]
      exact ⟨U1, ρ1, env, S1, S', he.mono e1 hs.sub, s1, hm, fun U2 ρ2 H2 e2 s2 => q _ _ _ (e1.trans e2) s2⟩
  | _ => simp [chkE] at h
theorem xe_tup {es : C} (ha : OkXA G F Gc es) : OkXE G F Gc (.tup es) := by
  intro X T e W C g m xo h tk
  cases e with
  | Tuple l k p =>
    simp only [chkE] at h
    exact PE.imp (pe_tup (ha X T l W C g m xo h tk)) fun σ H Q q => q
  | _ => simp [chkE] at h
theorem xe_lst {es : C} (ha : OkXA G F Gc es) : OkXE G F Gc (.lst es) := by
  intro X T e W C g m xo h tk
  cases e with
  | List l p =>
    simp only [chkE] at h
    exact PE.imp (pe_lst (ha X T l W C g m xo h tk)) fun σ H Q q => q
  | _ => simp [chkE] at h
theorem xa_cons {a b : C} (ha : OkE G F Gc a) (hb : OkA G F Gc b) (xa : OkXE G F Gc a) (xb : OkXA G F Gc b) : OkXA G F Gc (.cons a b) := by
  intro X T es W C g m xo h tk
  cases es with
  | nil => simp [chkA] at h
  | cons e es =>
    simp only [chkA, Bool.and_eq_true] at h
    obtain ⟨a1, _⟩ := ha X T e g m h.1.1
    obtain ⟨b1, _⟩ := hb X T es g m h.2
    refine ⟨fun pos pins s σ H Q I q => ?_⟩
    obtain ⟨U, ρ, env, S, S', he, hs, hm, q⟩ := q
    simp only [rxA] at hm
    split at hm
    · rename_i S1 h1
      cases hm
      exact (pa_cons (xa X T e W C g m xo h.1.1 tk) b1 (star_of h.1.2)).run pos pins s σ H Q I ⟨U, ρ, env, S, S', he, hs, h1, q⟩
    · simp only [Option.bind_eq_some_iff] at hm
      obtain ⟨⟨d1, S1⟩, m1, hm⟩ := hm
      exact (pa_cons a1 (xb X T es W C g m xo h.2 tk) (star_of h.1.2)).run pos pins s σ H Q I (seq1 he hs m1 fun U1 ρ1 H1 v1 e1 s1 r1 => ⟨U1, ρ1, env, S1, S', he.mono e1 hs.sub, s1, hm, fun U2 ρ2 H2 e2 s2 => q _ _ _ (e1.trans e2) s2⟩)
theorem s_rsx : OkS G F Gc .rsx := by
  intro X T s g m h
  exact ⟨fun pins s σ H D I ⟨U, ρ, env, S, f, env', S', he, hs, hm, q⟩ => by
    have hm : (none : Option (Fl × DEnv × Sto)) = some (f, env', S') := hm
    cases hm⟩
theorem xs_rsx : OkXS G F Gc .rsx := by
  intro X T s W C g m xo h tk
  cases s with
  | Raise v cs p =>
    rcases v with _ | e <;> rcases cs with _ | c2
    · exact absurd (show false = true from h) (by decide)
    · exact absurd (show false = true from h) (by decide)
    · cases e with
      | Call fn args kws p1 => cases fn with
        | Name x p2 =>
          rcases args with _ | ⟨a0, as⟩ <;> rcases kws with _ | ⟨k0, ks⟩
          · have h : (decide (x = ("Unfit" : Str)) && glB T.sc x) = true := h
            rw [Bool.and_eq_true] at h
            obtain ⟨h1, h2⟩ := h
            have h1 := of_decide_eq_true h1
            subst h1
            obtain ⟨k, hr⟩ := xo.rm
            refine PS.imp (ps_raise g.calm tk (pmk_unf xo.ut hr (m.gl h2) (by decide))) ?_
            rintro D σ H ⟨U, ρ, env, S, f, env', S', he, hs, hm, q⟩
            cases hm
            exact q U ρ H σ (.refl _ _ _) hs he
          · exact absurd (show false = true from h) (by decide)
          · exact absurd (show false = true from h) (by decide)
          · exact absurd (show false = true from h) (by decide)
        | _ => exact absurd (show false = true from h) (by decide)
      | _ => exact absurd (show false = true from h) (by decide)
    · cases e with
      | Call fn args kws p1 => cases fn with
        | Name x p2 => rcases args with _ | ⟨a0, as⟩ <;> rcases kws with _ | ⟨k0, ks⟩ <;> exact absurd (show false = true from h) (by decide)
        | _ => exact absurd (show false = true from h) (by decide)
      | _ => exact absurd (show false = true from h) (by decide)
  | _ => exact absurd (show false = true from h) (by decide)
theorem tXS_of {K : PySem.W.Frag} {C : Addr} {W : WX} {m : DEnv → Sto → Option Sto} {σ : L2.St} {H : Hp} (h : tXS K C W (fun env S => (m env S).map fun S' => (.nx, env, S')) σ H) : tXE K C W m σ H := by
  obtain ⟨U, ρ, env, S, f, env', S', he, hs, hm, q⟩ := h
  obtain ⟨S1, m1, e1⟩ := Option.map_eq_some_iff.mp hm
  cases e1
  exact ⟨U, ρ, env, S, S', he, hs, m1, fun U' ρ' H' e s => q U' ρ' H' σ e s (he.mono e hs.sub)⟩
theorem xs_ret {e : C} (xe : OkXE G F Gc e) : OkXS G F Gc (.ret e) := by
  intro X T s W C g m xo h tk
  cases s with
  | Return x p =>
    cases x with
    | none => simp [chkS] at h
    | some x =>
      simp only [chkS] at h
      exact PS.imp (ps_ret (xe X T x W C g m xo h tk)) fun D σ H q => tXS_of q
  | _ => simp [chkS] at h
theorem xs_ex {e : C} (xe : OkXE G F Gc e) : OkXS G F Gc (.ex e) := by
  intro X T s W C g m xo h tk
  cases s with
  | Expr x p =>
    simp only [chkS, Bool.and_eq_true, Bool.not_eq_true'] at h
    exact PS.imp (ps_expr (xe X T x W C g m xo h.1 tk) (sw_no h.2)) fun D σ H q => tXS_of q
  | _ => simp [chkS] at h
theorem rx_lc {c : C} {T : TI0} {x : Expr} (h : isLC x = true) (h2 : chkE G T c x = true) : ∀ env S, rxE F Gc c env S = none := by
  intro env S
  cases x with
  | ListComp a b cc d => cases c <;> first | rfl | (simp [chkE] at h2; done)
  | SetComp a b cc d => cases c <;> first | rfl | (simp [chkE] at h2; done)
  | DictComp a b cc d e => cases c <;> first | rfl | (simp [chkE] at h2; done)
  | _ => cases h
theorem xs_asg {t e : C} (xe : OkXE G F Gc e) : OkXS G F Gc (.asg t e) := by
  intro X T s W C g m xo h tk
  cases s with
  | Assign tgs x pos =>
    rcases tgs with _ | ⟨tg, _ | ⟨tg2, tgs⟩⟩
    · cases h
    · have h : (chkT T t tg && chkE G T e x && noStB tg && noSwpB T.sc tg x && lcB T.sc tg x) = true := h
      simp only [Bool.and_eq_true] at h
      obtain ⟨⟨⟨⟨h1, h2⟩, h3⟩, h4⟩, h5⟩ := h
      have pg := (pgT t).1 X T tg g m h1
      have hw : ∀ hk : X.env.scope.kind = .function, swappedStores [tg] x X.env = pure none := fun hk => noSwp_of hk (by rw [m.sc]; exact h4)
      have hs1 : (assignEach [tg] X.env).map (·.2) = [assign tg X.env] := by cases tg <;> first | rfl | cases h3
      cases hx : isLC x with
      | false => exact ⟨fun pins s σ H D I q => (ps_asg (xe X T x W C g m xo h2 tk) pg (sw_no hx) (hw I.ok.kind) hs1).run pins s σ H D I (tXS_of q)⟩
      | true => exact ⟨fun pins s σ H D I q => by
          obtain ⟨U, ρ, env, S, S', _, _, hm, _⟩ := tXS_of q
          rw [rx_lc hx h2] at hm
          cases hm⟩
    · cases h
  | _ => cases h
theorem xs_ifs {c a b : C} (hc : OkE G F Gc c) (xa : OkXSs G F Gc a) (xb : OkXSs G F Gc b) : OkXS G F Gc (.ifs c a b) := by
  intro X T s W C g m xo h tk
  cases s with
  | If t x y p =>
    simp only [chkS, Bool.and_eq_true] at h
    obtain ⟨_, _, c3, _⟩ := hc X T t g m h.1.1
    refine PS.imp (ps_if c3 (xa X T x W C g m xo h.1.2 tk) (xb X T y W C g m xo h.2 tk)) ?_
    rintro D σ H ⟨U, ρ, env, S, f, env', S', he, hs, hm, q⟩
    simp only [rxS, Option.bind_eq_some_iff] at hm
    obtain ⟨⟨b1, S1⟩, m1, hm⟩ := hm
    refine ⟨U, ρ, env, S, b1, S1, he, hs, asB_some m1, fun U1 ρ1 H1 e1 s1 => ?_⟩
    cases b1 with
    | true =>
      rw [if_pos rfl]
      exact ⟨U1, ρ1, env, S1, f, env', S', he.mono e1 hs.sub, s1, hm, fun U2 ρ2 H2 σ2 e2 s2 h2 => q _ _ _ _ (e1.trans e2) s2 h2⟩
    | false =>
      rw [if_neg Bool.false_ne_true]
      exact ⟨U1, ρ1, env, S1, f, env', S', he.mono e1 hs.sub, s1, hm, fun U2 ρ2 H2 σ2 e2 s2 h2 => q _ _ _ _ (e1.trans e2) s2 h2⟩
  | _ => simp [chkS] at h
theorem xss_cons {a b : C} (ha : OkS G F Gc a) (hb : OkSs G F Gc b) (xa : OkXS G F Gc a) (xb : OkXSs G F Gc b) : OkXSs G F Gc (.cons a b) := by
  intro X T ss W C g m xo h tk
  cases ss with
  | nil => simp [chkSs] at h
  | cons s ss =>
    simp only [chkSs, Bool.and_eq_true] at h
    refine ⟨fun pins s0 σ H D I q => ?_⟩
    obtain ⟨U, ρ, env, S, f, env', S', he, hs, hm, q⟩ := q
    simp only [rxSs] at hm
    split at hm
    · rename_i r h1
      cases hm
      exact (pss_cons (xa X T s W C g m xo h.1 tk) (hb X T ss g m h.2)).run pins s0 σ H D I ⟨U, ρ, env, S, f, env', S', he, hs, h1, q⟩
    · simp only [Option.bind_eq_some_iff] at hm
      obtain ⟨⟨f1, env1, S1⟩, m1, hm⟩ := hm
      cases f1 with
      | nx =>
        refine (pss_cons (ha X T s g m h.1) (xb X T ss W C g m xo h.2 tk)).run pins s0 σ H D I ⟨U, ρ, env, S, .nx, env1, S1, he, hs, m1, fun U1 ρ1 H1 σ1 e1 s1 he1 => ?_⟩
        exact ⟨fun _ => ⟨U1, ρ1, env1, S1, f, env', S', he1, s1, hm, fun U2 ρ2 H2 σ2 e2 s2 h2 => q _ _ _ _ (e1.trans e2) s2 h2⟩, fun z => (by cases z), fun z => (by cases z), fun _ _ z => (by cases z)⟩
      | _ => cases hm
theorem Gd.tr {X : Cx} (g : Gd G F Gc X) (pn : List (Addr × Obj)) (xe : Value → Shared → Prop) : Gd G F Gc (X.tr pn xe) := ⟨g.calm, g.nd, g.gu, g.un, g.nob, g.cns, g.fns, g.xk⟩
theorem Mt.tr {X : Cx} {T : TI0} (m : Mt T X) (pn : List (Addr × Obj)) (xe : Value → Shared → Prop) : Mt T (X.tr pn xe) := ⟨m.N, m.sc, m.fn, m.top⟩
theorem constB_ok {z : P} {h : Expr} (c : constB z h = true) : ∃ v, (∀ X : Cx, PE X h (tC v)) ∧ ∀ U K ρ H, RepD U K ρ H (.p z) v := by
  cases z with
  | str x =>
    cases h with
    | Constant k j p => cases k with
      | str y =>
        have c : decide (x = y) = true := c
        have e := of_decide_eq_true c
        subst e
        exact ⟨.str x, fun X => pe_str, fun _ _ _ _ => RepP.str x⟩
      | _ => cases c
    | _ => cases c
  | _ => cases c
theorem s_tri {b : C} {z : P} (hb : OkSs G F Gc b) (xb : OkXSs G F Gc b) : OkS G F Gc (.tri b z) := by
  intro X T s g m h
  cases s with
  | Try body hs0 orelse fin p =>
    rcases hs0 with _ | ⟨⟨ty, nm, suite, hp⟩, hr⟩
    · rcases orelse with _ | ⟨o1, os⟩ <;> rcases fin with _ | ⟨f1, fs⟩ <;> exact absurd (show false = true from h) (by decide)
    rcases ty with _ | ty
    · rcases hr with _ | ⟨h1, hr⟩ <;> rcases nm with _ | nm <;> rcases suite with _ | ⟨st, _ | ⟨st2, sr⟩⟩ <;> rcases orelse with _ | ⟨o1, os⟩ <;> rcases fin with _ | ⟨f1, fs⟩ <;> first | exact absurd (show false = true from h) (by decide) | (cases st <;> exact absurd (show false = true from h) (by decide))
    cases ty with
    | Name x np =>
      rcases suite with _ | ⟨st, sr⟩
      · rcases hr with _ | ⟨h1, hr⟩ <;> rcases nm with _ | nm <;> rcases orelse with _ | ⟨o1, os⟩ <;> rcases fin with _ | ⟨f1, fs⟩ <;> exact absurd (show false = true from h) (by decide)
      cases st with
      | Return he rp =>
        rcases he with _ | he
        · rcases hr with _ | ⟨h1, hr⟩ <;> rcases nm with _ | nm <;> rcases orelse with _ | ⟨o1, os⟩ <;> rcases fin with _ | ⟨f1, fs⟩ <;> rcases sr with _ | ⟨st2, sr⟩ <;> exact absurd (show false = true from h) (by decide)
        rcases hr with _ | ⟨h1, hr⟩ <;> rcases nm with _ | nm <;> rcases sr with _ | ⟨st2, sr⟩ <;> rcases orelse with _ | ⟨o1, os⟩ <;> rcases fin with _ | ⟨f1, fs⟩
        · have h : (G.exc && T.top && decide (x = ("Unfit" : Str)) && glB T.sc x && constB z he && chkSs G T b body) = true := h
          simp only [Bool.and_eq_true] at h
          obtain ⟨⟨⟨⟨⟨h1, h2⟩, h3⟩, h4⟩, h5⟩, h6⟩ := h
          have h3 := of_decide_eq_true h3
          subst h3
          obtain ⟨C, xo⟩ := g.xk h1
          obtain ⟨st1, st2⟩ := m.top h2
          obtain ⟨v, pv, rv⟩ := constB_ok h5
          refine ⟨fun pins s σ H D I q => ?_⟩
          obtain ⟨U, ρ, env, S, f, env', S', he0, hs, hm, q⟩ := q
          simp only [denS] at hm
          split at hm
          · rename_i r hr
            cases hm
            exact (ps_try_thru0 (hb X.nox T body g.nox m.nox h6)).run pins s σ H D I ⟨U, ρ, env, S, f, env', S', he0, hs, hr, q⟩
          · obtain ⟨⟨f1, env1, S1⟩, m1, e1⟩ := Option.map_eq_some_iff.mp hm
            cases e1
            refine (ps_try_only (c := .ref C) (tb := fun W _ σ H => tXS X.K C W (rxSs F Gc b) σ H) (ts := fun _ _ _ => tSeq (tRet (tC v)) tNext) (Wout := fun _ _ _ _ => False) st1 st2 ⟨m.gl h4, by decide, .inl xo.ut.gC⟩ takes0
              (fun W pn xe tk _ => xb (X.tr pn xe) T body W C (g.tr pn xe) (m.tr pn xe) xo h6 tk) (fun a oe cls d pn _ _ => pss_cons (ps_ret (pv _)) pss_nil)).run pins s σ H D I ?_
            refine ⟨U, ρ, env, S, f1, env1, S1, he0, hs, m1, fun U' ρ' H' σ' e1 s1 h1 => ⟨true, xo.ut.te, fun _ a ha => ?_, fun z => by cases z⟩⟩
            exact (q U' ρ' H' σ' e1 s1 h1).2.2.2 _ v rfl (rv _ _ _ _)
        all_goals exact absurd (show false = true from h) (by decide)
      | _ => rcases hr with _ | ⟨h1, hr⟩ <;> rcases nm with _ | nm <;> rcases orelse with _ | ⟨o1, os⟩ <;> rcases fin with _ | ⟨f1, fs⟩ <;> rcases sr with _ | ⟨st2, sr⟩ <;> exact absurd (show false = true from h) (by decide)
    | _ => rcases hr with _ | ⟨h1, hr⟩ <;> rcases nm with _ | nm <;> rcases suite with _ | ⟨st, _ | ⟨st2, sr⟩⟩ <;> rcases orelse with _ | ⟨o1, os⟩ <;> rcases fin with _ | ⟨f1, fs⟩ <;> first | exact absurd (show false = true from h) (by decide) | (cases st <;> exact absurd (show false = true from h) (by decide))
  | _ => exact absurd (show false = true from h) (by decide)
end
end DS
set_option maxRecDepth 100000
set_option maxHeartbeats 4000000
namespace DS
open PySem PySem.Spec L2
section
variable {G : GI} {F : FT} {Gc : Nat → Option P}
theorem isiB_pe {X : Cx} {T : TI0} {C : Addr} (g : Gd G F Gc X) (m : Mt T X) (xo : XOkX G F X C) {nm : Str} {i : Nat} (hi : T.N[i]? = some nm) (hl : lclB T.sc nm = true) (hn : nmB nm = true) {e : Expr} {b : Bool} (h : isiB G.isi T nm e = some b) {a : Addr} {oe : Obj} {pn : List (Addr × Obj)} (hz : Zc (.ref C) none oe) (hf : ∃ vs, oe.data = .fields vs) :
    PE (X.suite a ((a, oe) :: pn)) e (fun σ H Q => σ[i]? = some (some (.ref a)) ∧ Q (.bl b) H) ∧ noStB e = true ∧ (∀ whole, isTrue e (X.suite a ((a, oe) :: pn)).env whole = (do let v ← whole; standAt e.pos; holding [v] (truthy v))) := by
  unfold isiB at h
  split at h
  · rename_i f p1 n p2 y p3 p4
    split at h
    · rename_i hc
      simp only [Bool.and_eq_true, decide_eq_true_eq] at hc
      obtain ⟨⟨⟨⟨rfl, h2⟩, rfl⟩, h4⟩, h5⟩ := hc
      obtain ⟨ex, Y, hY, hk⟩ := xo.isi _ _ h
      obtain ⟨n1, n2, _⟩ := nm3 hn
      obtain ⟨y1, _, _⟩ := nm3 h5
      have pv : PE (X.suite a ((a, oe) :: pn)) (.Name n p2) (tVar i) := pe_var (by show X.N[i]? = _; rw [m.N]; exact hi) (by show Vis X.env.scope n; exact .inl (m.lcl hl)) n1 n2
      have pg : PE (X.suite a ((a, oe) :: pn)) (.Name y p3) (tC (.ref Y)) := pe_glob (by show Gl X y; exact m.gl h4) hY rfl y1
      refine ⟨PE.imp (pe_callB (p := p1) (pos := p4) (call_isE ex hz hf) (by show Gl X "isinstance"; exact m.gl h2) (g.nob _ (by decide +kernel)) (by first | rfl | decide +kernel) (pa_cons pv (pa_cons pg pa_nil)) (by decide +kernel) (by decide +kernel)) ?_, rfl, fun _ => rfl⟩
      rintro σ H Q ⟨hs, q⟩
      exact ⟨.ref a, hs, .ref Y, .ref Y, b, rfl, fun u r => r, hk, q⟩
    · cases h
  · cases h
theorem isiC_pe {X : Cx} {T : TI0} {C : Addr} (g : Gd G F Gc X) (m : Mt T X) (xo : XOkX G F X C) {nm : Str} {i : Nat} (hi : T.N[i]? = some nm) (hl : lclB T.sc nm = true) (hn : nmB nm = true) {e : Expr} {b : Bool} (h : isiC G.isi T nm e = some b) {a : Addr} {oe : Obj} {pn : List (Addr × Obj)} (hz : Zc (.ref C) none oe) (hf : ∃ vs, oe.data = .fields vs) :
    PE (X.suite a ((a, oe) :: pn)) e (fun σ H Q => σ[i]? = some (some (.ref a)) ∧ Q (.bl b) H) ∧ noStB e = true := by
  unfold isiC at h
  split at h
  · rename_i a1 c1 p1 p2
    split at h
    · rename_i hc
      cases h
      obtain ⟨e1, _, _⟩ := isiB_pe g m xo hi hl hn hc.1 (pn := pn) hz hf
      obtain ⟨e2, _, _⟩ := isiB_pe g m xo hi hl hn hc.2 (pn := pn) hz hf
      refine ⟨PE.imp (pe_and e1 (pe_one (pe_not e2))) ?_, rfl⟩
      rintro σ H Q ⟨hs, q⟩
      exact ⟨hs, true, rfl, hs, false, rfl, q⟩
    · cases h
  · obtain ⟨e1, e2, _⟩ := isiB_pe g m xo hi hl hn h (pn := pn) hz hf
    exact ⟨e1, e2⟩
def tHnd (C : Addr) (i : Nat) (z : P) (K : PySem.W.Frag) : Addr → Value → Option Addr → TE := fun a cls d σ H Q => cls = .ref C ∧ d = none ∧ σ[i]? = some (some (.ref a)) ∧ ∃ U ρ S, StOk U K ρ S H ∧ ∀ v H', Ext U ρ H U ρ H' → StOk U K ρ S H' → RepP U K H' z v → Q v H'
theorem hnd_pe {X : Cx} {T : TI0} {C : Addr} (g : Gd G F Gc X) (m : Mt T X) (xo : XOkX G F X C) {nm : Str} {i : Nat} (hi : T.N[i]? = some nm) (hl : lclB T.sc nm = true) (hn : nmB nm = true) {e : Expr} {z : P} (h : hndB G.isi T nm z e = true) {a : Addr} {oe : Obj} {cls : Value} {d : Option Addr} {pn : List (Addr × Obj)} (hz : Zc cls d oe) (hf : ∃ vs, oe.data = .fields vs) :
    PE (X.suite a ((a, oe) :: pn)) e (tHnd C i z X.K a cls d) := by
  refine ⟨fun pins s σ H Q I q => ?_⟩
  obtain ⟨rfl, rfl, hs, U, ρ, S, st, q⟩ := q
  unfold hndB at h
  split at h
  · rename_i x' t p0 x j p1 k1 p2 x2 j2 p3 k2 p4 p5
    rw [Bool.and_eq_true, decide_eq_true_eq, decide_eq_true_eq] at h
    obtain ⟨h1, rfl⟩ := h
    obtain ⟨e1, _, e3⟩ := isiB_pe g m xo hi hl hn h1 (pn := pn) hz hf
    refine (pe_ifExp (pt_not (pt_val e1 e3)) (pe_tup (pa_cons pe_str pa_nil)) (pe_tup (pa_cons pe_str pa_nil))).run pins s σ H Q I ?_
    refine ⟨hs, false, rfl, ?_⟩
    refine ⟨by show 1 ≤ sizeLine; rw [sizeLine_eq]; omega, fun p hp => ?_⟩
    obtain ⟨f1, f2, f3⟩ := newT st (RepPs.cons (RepP.str _) .nil) hp
    exact q _ _ f1 f2 f3
  · rename_i x' b x j p1 t p2
    rw [Bool.and_eq_true, decide_eq_true_eq, decide_eq_true_eq] at h
    obtain ⟨h1, rfl⟩ := h
    obtain ⟨e1, e2⟩ := isiC_pe g m xo hi hl hn h1 (pn := pn) hz hf
    refine (pe_lst (pa_cons pe_str (pa_cons e1 pa_nil (star_of e2)))).run pins s σ H Q I ?_
    refine ⟨hs, ?_⟩
    refine ⟨by show 2 ≤ sizeLine; rw [sizeLine_eq]; omega, fun p hp => ?_⟩
    obtain ⟨f1, f2, f3⟩ := newL st (RepPs.cons (RepP.str _) (RepPs.cons (RepP.bl b) .nil)) hp
    exact q _ _ f1 f2 f3
  · cases h
theorem takes_len {X : Cx} {W : WX} (tk : Takes X W) : Takes X (fun cls d σ H => σ.length = X.N.length → W cls d σ H) := fun u s' ⟨a, B, sI, pins, σ, H, cls, d, e, I, nb, up, sky, na, os, ag, w⟩ => tk u s' ⟨a, B, sI, pins, σ, H, cls, d, e, I, nb, up, sky, na, os, ag, w I.len⟩
theorem s_tra {b : C} {i : Nat} {z : P} (hb : OkSs G F Gc b) (xb : OkXSs G F Gc b) : OkS G F Gc (.tra b i z) := by
  intro X T s g m h
  cases s with
  | Try body hs0 orelse fin p =>
    rcases hs0 with _ | ⟨⟨ty, nm, suite, hp⟩, hr⟩
    · rcases orelse with _ | ⟨o1, os⟩ <;> rcases fin with _ | ⟨f1, fs⟩ <;> exact absurd (show false = true from h) (by decide)
    rcases ty with _ | ty
    · rcases hr with _ | ⟨h1, hr⟩ <;> rcases nm with _ | nm <;> rcases suite with _ | ⟨st, _ | ⟨st2, sr⟩⟩ <;> rcases orelse with _ | ⟨o1, os⟩ <;> rcases fin with _ | ⟨f1, fs⟩ <;> first | exact absurd (show false = true from h) (by decide) | (cases st <;> exact absurd (show false = true from h) (by decide))
    cases ty with
    | Name x np =>
      rcases suite with _ | ⟨st, sr⟩
      · rcases hr with _ | ⟨h1, hr⟩ <;> rcases nm with _ | nm <;> rcases orelse with _ | ⟨o1, os⟩ <;> rcases fin with _ | ⟨f1, fs⟩ <;> exact absurd (show false = true from h) (by decide)
      cases st with
      | Return he rp =>
        rcases he with _ | he
        · rcases hr with _ | ⟨h1, hr⟩ <;> rcases nm with _ | nm <;> rcases orelse with _ | ⟨o1, os⟩ <;> rcases fin with _ | ⟨f1, fs⟩ <;> rcases sr with _ | ⟨st2, sr⟩ <;> exact absurd (show false = true from h) (by decide)
        rcases hr with _ | ⟨h1, hr⟩ <;> rcases nm with _ | nm <;> rcases sr with _ | ⟨st2, sr⟩ <;> rcases orelse with _ | ⟨o1, os⟩ <;> rcases fin with _ | ⟨f1, fs⟩
        all_goals first | exact absurd (show false = true from h) (by decide) | skip
        · have h : (G.exc && T.top && decide (x = ("Unfit" : Str)) && glB T.sc x && decide (T.N[i]? = some nm) && lclB T.sc nm && nmB nm && hndB G.isi T nm z he && chkSs G T b body) = true := h
          simp only [Bool.and_eq_true] at h
          obtain ⟨⟨⟨⟨⟨⟨⟨⟨h1, h2⟩, h3⟩, h4⟩, h7⟩, h8⟩, h9⟩, h5⟩, h6⟩ := h
          have h3 := of_decide_eq_true h3
          have h7 := of_decide_eq_true h7
          subst h3
          obtain ⟨C, xo⟩ := g.xk h1
          obtain ⟨st1, st2⟩ := m.top h2
          refine ⟨fun pins s σ H D I q => ?_⟩
          obtain ⟨U, ρ, env, S, f, env', S', he0, hs, hm, q⟩ := q
          simp only [denS] at hm
          split at hm
          · rename_i r hr
            cases hm
            exact (ps_try_thru0 (hb X.nox T body g.nox m.nox h6)).run pins s σ H D I ⟨U, ρ, env, S, f, env', S', he0, hs, hr, q⟩
          · obtain ⟨⟨f1, env1, S1⟩, m1, e1⟩ := Option.map_eq_some_iff.mp hm
            cases e1
            refine (ps_try_as (i := i) (c := .ref C) (tb := fun W _ σ H => tXS X.K C (fun cls d σ H => σ.length = X.N.length → W cls d σ H) (rxSs F Gc b) σ H) (ts := fun a cls d => tSeq (tRet (tHnd C i z X.K a cls d)) tNext) (Wout := fun _ _ _ _ => False) st1 st2 g.nd (by rw [m.N]; exact h7) (m.lcl h8) ⟨m.gl h4, by decide, .inl xo.ut.gC⟩ takes0
              (fun W pn xe tk _ => xb (X.tr pn xe) T body _ C (g.tr pn xe) (m.tr pn xe) xo h6 (takes_len tk)) (fun a oe cls d pn hz hf => pss_cons (ps_ret (hnd_pe g m xo h7 h8 h9 h5 hz hf)) pss_nil)).run pins s σ H D I ?_
            have il : i < X.N.length := by
              have q := (List.getElem?_eq_some_iff.mp h7).1
              rw [← m.N] at q
              exact q
            refine ⟨U, ρ, env, S, f1, env1, S1, he0, hs, m1, fun U' ρ' H' σ' e1 s1 h1 hlen => ⟨true, xo.ut.te, fun _ a ha => ?_, fun z => by cases z⟩⟩
            refine ⟨rfl, rfl, List.getElem?_set_self (by rw [hlen]; exact il), U', ρ', S1, s1, fun v H2 e2 s2 r2 => ?_⟩
            exact (q U' ρ' H2 σ' (e1.trans e2) s2 (h1.mono e2 s1.sub)).2.2.2 _ v rfl r2
      | _ => rcases hr with _ | ⟨h1, hr⟩ <;> rcases nm with _ | nm <;> rcases orelse with _ | ⟨o1, os⟩ <;> rcases fin with _ | ⟨f1, fs⟩ <;> rcases sr with _ | ⟨st2, sr⟩ <;> exact absurd (show false = true from h) (by decide)
    | _ => rcases hr with _ | ⟨h1, hr⟩ <;> rcases nm with _ | nm <;> rcases suite with _ | ⟨st, _ | ⟨st2, sr⟩⟩ <;> rcases orelse with _ | ⟨o1, os⟩ <;> rcases fin with _ | ⟨f1, fs⟩ <;> first | exact absurd (show false = true from h) (by decide) | (cases st <;> exact absurd (show false = true from h) (by decide))
  | _ => exact absurd (show false = true from h) (by decide)
end
end DS
set_option maxRecDepth 100000
set_option maxHeartbeats 4000000
namespace DS
open PySem PySem.Spec L2
theorem snd (G : GI) (F : FT) (Gc : Nat → Option P) : ∀ c : C, OkE G F Gc c ∧ OkA G F Gc c ∧ OkI G F Gc c ∧ OkS G F Gc c ∧ OkSs G F Gc c ∧ LcQ G F Gc c ∧ OkX G F Gc c := by
  intro c
  induction c with
  | nil => exact ⟨e_other fun _ _ => rfl, a_nil, i_other fun _ _ _ => rfl, s_other fun _ _ => rfl, ss_nil, lcq_other fun _ _ _ _ _ => rfl, x_other (fun _ _ => rfl) (fun _ _ => rfl) (fun _ _ => rfl) (fun _ _ => rfl)⟩
  | cons a b ha hb => exact ⟨e_other fun _ _ => rfl, a_cons ha.1 hb.2.1, i_other fun _ _ _ => rfl, s_other fun _ _ => rfl, ss_cons ha.2.2.2.1 hb.2.2.2.2.1, lcq_other fun _ _ _ _ _ => rfl, ⟨xe_no fun _ _ => rfl, xa_cons ha.1 hb.2.1 ha.2.2.2.2.2.2.1 hb.2.2.2.2.2.2.2.1, xs_no fun _ _ => rfl, xss_cons ha.2.2.2.1 hb.2.2.2.2.1 ha.2.2.2.2.2.2.2.2.1 hb.2.2.2.2.2.2.2.2.2⟩⟩
  | var i => exact ⟨e_var i, a_other fun _ _ => rfl, i_other fun _ _ _ => rfl, s_other fun _ _ => rfl, ss_other fun _ _ => rfl, lcq_other fun _ _ _ _ _ => rfl, x_other (fun _ _ => rfl) (fun _ _ => rfl) (fun _ _ => rfl) (fun _ _ => rfl)⟩
  | cint i => exact ⟨e_cint i, a_other fun _ _ => rfl, i_other fun _ _ _ => rfl, s_other fun _ _ => rfl, ss_other fun _ _ => rfl, lcq_other fun _ _ _ _ _ => rfl, x_other (fun _ _ => rfl) (fun _ _ => rfl) (fun _ _ => rfl) (fun _ _ => rfl)⟩
  | cstr x => exact ⟨e_cstr x, a_other fun _ _ => rfl, i_other fun _ _ _ => rfl, s_other fun _ _ => rfl, ss_other fun _ _ => rfl, lcq_other fun _ _ _ _ _ => rfl, x_other (fun _ _ => rfl) (fun _ _ => rfl) (fun _ _ => rfl) (fun _ _ => rfl)⟩
  | cbl b => exact ⟨e_cbl b, a_other fun _ _ => rfl, i_other fun _ _ _ => rfl, s_other fun _ _ => rfl, ss_other fun _ _ => rfl, lcq_other fun _ _ _ _ _ => rfl, x_other (fun _ _ => rfl) (fun _ _ => rfl) (fun _ _ => rfl) (fun _ _ => rfl)⟩
  | cnon => exact ⟨e_cnon, a_other fun _ _ => rfl, i_other fun _ _ _ => rfl, s_other fun _ _ => rfl, ss_other fun _ _ => rfl, lcq_other fun _ _ _ _ _ => rfl, x_other (fun _ _ => rfl) (fun _ _ => rfl) (fun _ _ => rfl) (fun _ _ => rfl)⟩
  | glb g => exact ⟨e_glb g, a_other fun _ _ => rfl, i_other fun _ _ _ => rfl, s_other fun _ _ => rfl, ss_other fun _ _ => rfl, lcq_other fun _ _ _ _ _ => rfl, x_other (fun _ _ => rfl) (fun _ _ => rfl) (fun _ _ => rfl) (fun _ _ => rfl)⟩
  | bin op a b ha hb => exact ⟨e_bin op ha.1 hb.1, a_other fun _ _ => rfl, i_other fun _ _ _ => rfl, s_other fun _ _ => rfl, ss_other fun _ _ => rfl, lcq_other fun _ _ _ _ _ => rfl, x_other (fun _ _ => rfl) (fun _ _ => rfl) (fun _ _ => rfl) (fun _ _ => rfl)⟩
  | neg a ha => exact ⟨e_neg ha.1, a_other fun _ _ => rfl, i_other fun _ _ _ => rfl, s_other fun _ _ => rfl, ss_other fun _ _ => rfl, lcq_other fun _ _ _ _ _ => rfl, x_other (fun _ _ => rfl) (fun _ _ => rfl) (fun _ _ => rfl) (fun _ _ => rfl)⟩
  | inv a ha => exact ⟨e_inv ha.1, a_other fun _ _ => rfl, i_other fun _ _ _ => rfl, s_other fun _ _ => rfl, ss_other fun _ _ => rfl, lcq_other fun _ _ _ _ _ => rfl, x_other (fun _ _ => rfl) (fun _ _ => rfl) (fun _ _ => rfl) (fun _ _ => rfl)⟩
  | cmp op a b ha hb => exact ⟨e_cmp op ha.1 hb.1, a_other fun _ _ => rfl, i_other fun _ _ _ => rfl, s_other fun _ _ => rfl, ss_other fun _ _ => rfl, lcq_other fun _ _ _ _ _ => rfl, x_other (fun _ _ => rfl) (fun _ _ => rfl) (fun _ _ => rfl) (fun _ _ => rfl)⟩
  | chn op op2 a b c ha hb hc => exact ⟨e_chn op op2 ha.1 hb.1 hc.1, a_other fun _ _ => rfl, i_other fun _ _ _ => rfl, s_other fun _ _ => rfl, ss_other fun _ _ => rfl, lcq_other fun _ _ _ _ _ => rfl, x_other (fun _ _ => rfl) (fun _ _ => rfl) (fun _ _ => rfl) (fun _ _ => rfl)⟩
  | and a b ha hb => exact ⟨e_and ha.1 hb.1, a_other fun _ _ => rfl, i_other fun _ _ _ => rfl, s_other fun _ _ => rfl, ss_other fun _ _ => rfl, lcq_other fun _ _ _ _ _ => rfl, x_other (fun _ _ => rfl) (fun _ _ => rfl) (fun _ _ => rfl) (fun _ _ => rfl)⟩
  | or a b ha hb => exact ⟨e_or ha.1 hb.1, a_other fun _ _ => rfl, i_other fun _ _ _ => rfl, s_other fun _ _ => rfl, ss_other fun _ _ => rfl, lcq_other fun _ _ _ _ _ => rfl, x_other (fun _ _ => rfl) (fun _ _ => rfl) (fun _ _ => rfl) (fun _ _ => rfl)⟩
  | not a ha => exact ⟨e_not ha.1, a_other fun _ _ => rfl, i_other fun _ _ _ => rfl, s_other fun _ _ => rfl, ss_other fun _ _ => rfl, lcq_other fun _ _ _ _ _ => rfl, x_other (fun _ _ => rfl) (fun _ _ => rfl) (fun _ _ => rfl) (fun _ _ => rfl)⟩
  | ite c a b hc ha hb => exact ⟨e_ite hc.1 ha.1 hb.1, a_other fun _ _ => rfl, i_other fun _ _ _ => rfl, s_other fun _ _ => rfl, ss_other fun _ _ => rfl, lcq_other fun _ _ _ _ _ => rfl, ⟨xe_ite hc.1 ha.2.2.2.2.2.2.1 hb.2.2.2.2.2.2.1, xa_no fun _ _ => rfl, xs_no fun _ _ => rfl, xss_no fun _ _ => rfl⟩⟩
  | tup es h => exact ⟨e_tup h.2.1, a_other fun _ _ => rfl, i_other fun _ _ _ => rfl, s_other fun _ _ => rfl, ss_other fun _ _ => rfl, lcq_other fun _ _ _ _ _ => rfl, ⟨xe_tup h.2.2.2.2.2.2.2.1, xa_no fun _ _ => rfl, xs_no fun _ _ => rfl, xss_no fun _ _ => rfl⟩⟩
  | lst es h => exact ⟨e_lst h.2.1, a_other fun _ _ => rfl, i_other fun _ _ _ => rfl, s_other fun _ _ => rfl, ss_other fun _ _ => rfl, lcq_other fun _ _ _ _ _ => rfl, ⟨xe_lst h.2.2.2.2.2.2.2.1, xa_no fun _ _ => rfl, xs_no fun _ _ => rfl, xss_no fun _ _ => rfl⟩⟩
  | mk a ha => exact ⟨e_mk ha.1, a_other fun _ _ => rfl, i_other fun _ _ _ => rfl, s_other fun _ _ => rfl, ss_other fun _ _ => rfl, lcq_mk ha.2.2.2.2.2.1, x_other (fun _ _ => rfl) (fun _ _ => rfl) (fun _ _ => rfl) (fun _ _ => rfl)⟩
  | cal f m es h => exact ⟨e_cal f m h.2.1, a_other fun _ _ => rfl, i_other fun _ _ _ => rfl, s_other fun _ _ => rfl, ss_other fun _ _ => rfl, lcq_other fun _ _ _ _ _ => rfl, ⟨xe_cal f m h.2.1, xa_no fun _ _ => rfl, xs_no fun _ _ => rfl, xss_no fun _ _ => rfl⟩⟩
  | cak f m es ks perm h hk => exact ⟨e_cak f m perm h.2.1 hk.2.1, a_other fun _ _ => rfl, i_other fun _ _ _ => rfl, s_other fun _ _ => rfl, ss_other fun _ _ => rfl, lcq_other fun _ _ _ _ _ => rfl, ⟨xe_cak f m perm h.2.1 hk.2.1, xa_no fun _ _ => rfl, xs_no fun _ _ => rfl, xss_no fun _ _ => rfl⟩⟩
  | bi b es h => exact ⟨e_bi b h.2.1, a_other fun _ _ => rfl, i_other fun _ _ _ => rfl, s_other fun _ _ => rfl, ss_other fun _ _ => rfl, lcq_other fun _ _ _ _ _ => rfl, x_other (fun _ _ => rfl) (fun _ _ => rfl) (fun _ _ => rfl) (fun _ _ => rfl)⟩
  | rpl es h => exact ⟨e_rpl h.2.1, a_other fun _ _ => rfl, i_other fun _ _ _ => rfl, s_other fun _ _ => rfl, ss_other fun _ _ => rfl, lcq_other fun _ _ _ _ _ => rfl, x_other (fun _ _ => rfl) (fun _ _ => rfl) (fun _ _ => rfl) (fun _ _ => rfl)⟩
  | isi T a ha => exact ⟨e_isi T ha.1, a_other fun _ _ => rfl, i_other fun _ _ _ => rfl, s_other fun _ _ => rfl, ss_other fun _ _ => rfl, lcq_other fun _ _ _ _ _ => rfl, x_other (fun _ _ => rfl) (fun _ _ => rfl) (fun _ _ => rfl) (fun _ _ => rfl)⟩
  | ix a b ha hb => exact ⟨e_ix ha.1 hb.1, a_other fun _ _ => rfl, i_other fun _ _ _ => rfl, s_other fun _ _ => rfl, ss_other fun _ _ => rfl, lcq_other fun _ _ _ _ _ => rfl, x_other (fun _ _ => rfl) (fun _ _ => rfl) (fun _ _ => rfl) (fun _ _ => rfl)⟩
  | dix a b ha hb => exact ⟨e_dix ha.1 hb.1, a_other fun _ _ => rfl, i_other fun _ _ _ => rfl, s_other fun _ _ => rfl, ss_other fun _ _ => rfl, lcq_other fun _ _ _ _ _ => rfl, x_other (fun _ _ => rfl) (fun _ _ => rfl) (fun _ _ => rfl) (fun _ _ => rfl)⟩
  | sl a lo hi ha hl hh => exact ⟨e_sl ha.1 hl.1 hh.1, a_other fun _ _ => rfl, i_other fun _ _ _ => rfl, s_other fun _ _ => rfl, ss_other fun _ _ => rfl, lcq_other fun _ _ _ _ _ => rfl, x_other (fun _ _ => rfl) (fun _ _ => rfl) (fun _ _ => rfl) (fun _ _ => rfl)⟩
  | lc elt tg it cnd own he ht hi hc => exact ⟨e_lc own he.1 hi.2.2.1 hc.1, a_other fun _ _ => rfl, i_other fun _ _ _ => rfl, s_other fun _ _ => rfl, ss_other fun _ _ => rfl, lcq_lc own he.1 hi.2.2.1 hc.1, x_other (fun _ _ => rfl) (fun _ _ => rfl) (fun _ _ => rfl) (fun _ _ => rfl)⟩
  | lrg1 t a ha => exact ⟨e_lrg1 t ha.1, a_other fun _ _ => rfl, i_other fun _ _ _ => rfl, s_other fun _ _ => rfl, ss_other fun _ _ => rfl, lcq_other fun _ _ _ _ _ => rfl, x_other (fun _ _ => rfl) (fun _ _ => rfl) (fun _ _ => rfl) (fun _ _ => rfl)⟩
  | lrg2 t a b ha hb => exact ⟨e_lrg2 t ha.1 hb.1, a_other fun _ _ => rfl, i_other fun _ _ _ => rfl, s_other fun _ _ => rfl, ss_other fun _ _ => rfl, lcq_other fun _ _ _ _ _ => rfl, x_other (fun _ _ => rfl) (fun _ _ => rfl) (fun _ _ => rfl) (fun _ _ => rfl)⟩
  | dik0 => exact ⟨e_dik0, a_other fun _ _ => rfl, i_other fun _ _ _ => rfl, s_other fun _ _ => rfl, ss_other fun _ _ => rfl, lcq_other fun _ _ _ _ _ => rfl, x_other (fun _ _ => rfl) (fun _ _ => rfl) (fun _ _ => rfl) (fun _ _ => rfl)⟩
  | dit0 => exact ⟨e_dit0, a_other fun _ _ => rfl, i_other fun _ _ _ => rfl, s_other fun _ _ => rfl, ss_other fun _ _ => rfl, lcq_other fun _ _ _ _ _ => rfl, x_other (fun _ _ => rfl) (fun _ _ => rfl) (fun _ _ => rfl) (fun _ _ => rfl)⟩
  | rvl a ha => exact ⟨e_rvl ha.1, a_other fun _ _ => rfl, i_other fun _ _ _ => rfl, s_other fun _ _ => rfl, ss_other fun _ _ => rfl, lcq_other fun _ _ _ _ _ => rfl, x_other (fun _ _ => rfl) (fun _ _ => rfl) (fun _ _ => rfl) (fun _ _ => rfl)⟩
  | lel a ha => exact ⟨e_lel ha.1, a_other fun _ _ => rfl, i_other fun _ _ _ => rfl, s_other fun _ _ => rfl, ss_other fun _ _ => rfl, lcq_other fun _ _ _ _ _ => rfl, x_other (fun _ _ => rfl) (fun _ _ => rfl) (fun _ _ => rfl) (fun _ _ => rfl)⟩
  | lzp a b ha hb => exact ⟨e_lzp ha.1 hb.1, a_other fun _ _ => rfl, i_other fun _ _ _ => rfl, s_other fun _ _ => rfl, ss_other fun _ _ => rfl, lcq_other fun _ _ _ _ _ => rfl, x_other (fun _ _ => rfl) (fun _ _ => rfl) (fun _ _ => rfl) (fun _ _ => rfl)⟩
  | dgt o a b ho ha hb => exact ⟨e_dgt ho.1 ha.1 hb.1, a_other fun _ _ => rfl, i_other fun _ _ _ => rfl, s_other fun _ _ => rfl, ss_other fun _ _ => rfl, lcq_other fun _ _ _ _ _ => rfl, x_other (fun _ _ => rfl) (fun _ _ => rfl) (fun _ _ => rfl) (fun _ _ => rfl)⟩
  | mth m o es ho he => exact ⟨e_mth m ho.1 he.2.1, a_other fun _ _ => rfl, i_other fun _ _ _ => rfl, s_other fun _ _ => rfl, ss_other fun _ _ => rfl, lcq_other fun _ _ _ _ _ => rfl, x_other (fun _ _ => rfl) (fun _ _ => rfl) (fun _ _ => rfl) (fun _ _ => rfl)⟩
  | dp0 => exact ⟨e_dp0, a_other fun _ _ => rfl, i_other fun _ _ _ => rfl, s_other fun _ _ => rfl, ss_other fun _ _ => rfl, lcq_other fun _ _ _ _ _ => rfl, x_other (fun _ _ => rfl) (fun _ _ => rfl) (fun _ _ => rfl) (fun _ _ => rfl)⟩
  | dpl ks es h => exact ⟨e_dpl ks h.2.1, a_other fun _ _ => rfl, i_other fun _ _ _ => rfl, s_other fun _ _ => rfl, ss_other fun _ _ => rfl, lcq_other fun _ _ _ _ _ => rfl, x_other (fun _ _ => rfl) (fun _ _ => rfl) (fun _ _ => rfl) (fun _ _ => rfl)⟩
  | rpv a ha => exact ⟨e_rpv ha.1, a_other fun _ _ => rfl, i_other fun _ _ _ => rfl, s_other fun _ _ => rfl, ss_other fun _ _ => rfl, lcq_other fun _ _ _ _ _ => rfl, x_other (fun _ _ => rfl) (fun _ _ => rfl) (fun _ _ => rfl) (fun _ _ => rfl)⟩
  | dic ks es h => exact ⟨e_dic ks h.2.1, a_other fun _ _ => rfl, i_other fun _ _ _ => rfl, s_other fun _ _ => rfl, ss_other fun _ _ => rfl, lcq_other fun _ _ _ _ _ => rfl, x_other (fun _ _ => rfl) (fun _ _ => rfl) (fun _ _ => rfl) (fun _ _ => rfl)⟩
  | din n a b ha hb => exact ⟨e_din n ha.1 hb.1, a_other fun _ _ => rfl, i_other fun _ _ _ => rfl, s_other fun _ _ => rfl, ss_other fun _ _ => rfl, lcq_other fun _ _ _ _ _ => rfl, x_other (fun _ _ => rfl) (fun _ _ => rfl) (fun _ _ => rfl) (fun _ _ => rfl)⟩
  | rg1 a ha => exact ⟨e_other fun _ _ => rfl, a_other fun _ _ => rfl, i_rg1 ha.1, s_other fun _ _ => rfl, ss_other fun _ _ => rfl, lcq_other fun _ _ _ _ _ => rfl, x_other (fun _ _ => rfl) (fun _ _ => rfl) (fun _ _ => rfl) (fun _ _ => rfl)⟩
  | rg2 a b ha hb => exact ⟨e_other fun _ _ => rfl, a_other fun _ _ => rfl, i_rg2 ha.1 hb.1, s_other fun _ _ => rfl, ss_other fun _ _ => rfl, lcq_other fun _ _ _ _ _ => rfl, x_other (fun _ _ => rfl) (fun _ _ => rfl) (fun _ _ => rfl) (fun _ _ => rfl)⟩
  | rg3 a b c ha hb hc => exact ⟨e_other fun _ _ => rfl, a_other fun _ _ => rfl, i_rg3 ha.1 hb.1 hc.1, s_other fun _ _ => rfl, ss_other fun _ _ => rfl, lcq_other fun _ _ _ _ _ => rfl, x_other (fun _ _ => rfl) (fun _ _ => rfl) (fun _ _ => rfl) (fun _ _ => rfl)⟩
  | sq a ha => exact ⟨e_other fun _ _ => rfl, a_other fun _ _ => rfl, i_sq ha.1, s_other fun _ _ => rfl, ss_other fun _ _ => rfl, lcq_other fun _ _ _ _ _ => rfl, x_other (fun _ _ => rfl) (fun _ _ => rfl) (fun _ _ => rfl) (fun _ _ => rfl)⟩
  | tq a ha => exact ⟨e_other fun _ _ => rfl, a_other fun _ _ => rfl, i_tq ha.1, s_other fun _ _ => rfl, ss_other fun _ _ => rfl, lcq_other fun _ _ _ _ _ => rfl, x_other (fun _ _ => rfl) (fun _ _ => rfl) (fun _ _ => rfl) (fun _ _ => rfl)⟩
  | xq a ha => exact ⟨e_other fun _ _ => rfl, a_other fun _ _ => rfl, i_xq ha.1, s_other fun _ _ => rfl, ss_other fun _ _ => rfl, lcq_other fun _ _ _ _ _ => rfl, x_other (fun _ _ => rfl) (fun _ _ => rfl) (fun _ _ => rfl) (fun _ _ => rfl)⟩
  | en a ha => exact ⟨e_other fun _ _ => rfl, a_other fun _ _ => rfl, i_en ha.1, s_other fun _ _ => rfl, ss_other fun _ _ => rfl, lcq_other fun _ _ _ _ _ => rfl, x_other (fun _ _ => rfl) (fun _ _ => rfl) (fun _ _ => rfl) (fun _ _ => rfl)⟩
  | zp a b ha hb => exact ⟨e_other fun _ _ => rfl, a_other fun _ _ => rfl, i_zp ha.1 hb.1, s_other fun _ _ => rfl, ss_other fun _ _ => rfl, lcq_other fun _ _ _ _ _ => rfl, x_other (fun _ _ => rfl) (fun _ _ => rfl) (fun _ _ => rfl) (fun _ _ => rfl)⟩
  | tnm i => exact ⟨e_other fun _ _ => rfl, a_other fun _ _ => rfl, i_other fun _ _ _ => rfl, s_other fun _ _ => rfl, ss_other fun _ _ => rfl, lcq_other fun _ _ _ _ _ => rfl, x_other (fun _ _ => rfl) (fun _ _ => rfl) (fun _ _ => rfl) (fun _ _ => rfl)⟩
  | ttp ts h => exact ⟨e_other fun _ _ => rfl, a_other fun _ _ => rfl, i_other fun _ _ _ => rfl, s_other fun _ _ => rfl, ss_other fun _ _ => rfl, lcq_other fun _ _ _ _ _ => rfl, x_other (fun _ _ => rfl) (fun _ _ => rfl) (fun _ _ => rfl) (fun _ _ => rfl)⟩
  | pass => exact ⟨e_other fun _ _ => rfl, a_other fun _ _ => rfl, i_other fun _ _ _ => rfl, s_pass, ss_other fun _ _ => rfl, lcq_other fun _ _ _ _ _ => rfl, x_other (fun _ _ => rfl) (fun _ _ => rfl) (fun _ _ => rfl) (fun _ _ => rfl)⟩
  | brk => exact ⟨e_other fun _ _ => rfl, a_other fun _ _ => rfl, i_other fun _ _ _ => rfl, s_brk, ss_other fun _ _ => rfl, lcq_other fun _ _ _ _ _ => rfl, x_other (fun _ _ => rfl) (fun _ _ => rfl) (fun _ _ => rfl) (fun _ _ => rfl)⟩
  | cnt => exact ⟨e_other fun _ _ => rfl, a_other fun _ _ => rfl, i_other fun _ _ _ => rfl, s_cnt, ss_other fun _ _ => rfl, lcq_other fun _ _ _ _ _ => rfl, x_other (fun _ _ => rfl) (fun _ _ => rfl) (fun _ _ => rfl) (fun _ _ => rfl)⟩
  | ex e h => exact ⟨e_other fun _ _ => rfl, a_other fun _ _ => rfl, i_other fun _ _ _ => rfl, s_ex h.1, ss_other fun _ _ => rfl, lcq_other fun _ _ _ _ _ => rfl, ⟨xe_no fun _ _ => rfl, xa_no fun _ _ => rfl, xs_ex h.2.2.2.2.2.2.1, xss_no fun _ _ => rfl⟩⟩
  | asg t e ht he => exact ⟨e_other fun _ _ => rfl, a_other fun _ _ => rfl, i_other fun _ _ _ => rfl, s_asg he.1 he.2.2.2.2.2.1, ss_other fun _ _ => rfl, lcq_other fun _ _ _ _ _ => rfl, ⟨xe_no fun _ _ => rfl, xa_no fun _ _ => rfl, xs_asg he.2.2.2.2.2.2.1, xss_no fun _ _ => rfl⟩⟩
  | par is es h => exact ⟨e_other fun _ _ => rfl, a_other fun _ _ => rfl, i_other fun _ _ _ => rfl, s_par is h.2.1, ss_other fun _ _ => rfl, lcq_other fun _ _ _ _ _ => rfl, x_other (fun _ _ => rfl) (fun _ _ => rfl) (fun _ _ => rfl) (fun _ _ => rfl)⟩
  | setl o i e ho hi he => exact ⟨e_other fun _ _ => rfl, a_other fun _ _ => rfl, i_other fun _ _ _ => rfl, s_setl ho.1 hi.1 he.1, ss_other fun _ _ => rfl, lcq_other fun _ _ _ _ _ => rfl, x_other (fun _ _ => rfl) (fun _ _ => rfl) (fun _ _ => rfl) (fun _ _ => rfl)⟩
  | setd o i e ho hi he => exact ⟨e_other fun _ _ => rfl, a_other fun _ _ => rfl, i_other fun _ _ _ => rfl, s_setd ho.1 hi.1 he.1, ss_other fun _ _ => rfl, lcq_other fun _ _ _ _ _ => rfl, x_other (fun _ _ => rfl) (fun _ _ => rfl) (fun _ _ => rfl) (fun _ _ => rfl)⟩
  | set2 o i o2 i2 e ho hi ho2 hi2 he => exact ⟨e_other fun _ _ => rfl, a_other fun _ _ => rfl, i_other fun _ _ _ => rfl, s_set2 ho.1 hi.1 ho2.1 hi2.1 he.1, ss_other fun _ _ => rfl, lcq_other fun _ _ _ _ _ => rfl, x_other (fun _ _ => rfl) (fun _ _ => rfl) (fun _ _ => rfl) (fun _ _ => rfl)⟩
  | ret e h => exact ⟨e_other fun _ _ => rfl, a_other fun _ _ => rfl, i_other fun _ _ _ => rfl, s_ret h.1, ss_other fun _ _ => rfl, lcq_other fun _ _ _ _ _ => rfl, ⟨xe_no fun _ _ => rfl, xa_no fun _ _ => rfl, xs_ret h.2.2.2.2.2.2.1, xss_no fun _ _ => rfl⟩⟩
  | rsx => exact ⟨e_other fun _ _ => rfl, a_other fun _ _ => rfl, i_other fun _ _ _ => rfl, s_rsx, ss_other fun _ _ => rfl, lcq_other fun _ _ _ _ _ => rfl, ⟨xe_no fun _ _ => rfl, xa_no fun _ _ => rfl, xs_rsx, xss_no fun _ _ => rfl⟩⟩
  | tra b i z h => exact ⟨e_other fun _ _ => rfl, a_other fun _ _ => rfl, i_other fun _ _ _ => rfl, s_tra h.2.2.2.2.1 h.2.2.2.2.2.2.2.2.2, ss_other fun _ _ => rfl, lcq_other fun _ _ _ _ _ => rfl, x_other (fun _ _ => rfl) (fun _ _ => rfl) (fun _ _ => rfl) (fun _ _ => rfl)⟩
  | rvt a ha => exact ⟨e_rvt ha.1, a_other fun _ _ => rfl, i_other fun _ _ _ => rfl, s_other fun _ _ => rfl, ss_other fun _ _ => rfl, lcq_other fun _ _ _ _ _ => rfl, x_other (fun _ _ => rfl) (fun _ _ => rfl) (fun _ _ => rfl) (fun _ _ => rfl)⟩
  | tri b z h => exact ⟨e_other fun _ _ => rfl, a_other fun _ _ => rfl, i_other fun _ _ _ => rfl, s_tri h.2.2.2.2.1 h.2.2.2.2.2.2.2.2.2, ss_other fun _ _ => rfl, lcq_other fun _ _ _ _ _ => rfl, x_other (fun _ _ => rfl) (fun _ _ => rfl) (fun _ _ => rfl) (fun _ _ => rfl)⟩
  | rse => exact ⟨e_other fun _ _ => rfl, a_other fun _ _ => rfl, i_other fun _ _ _ => rfl, s_rse, ss_other fun _ _ => rfl, lcq_other fun _ _ _ _ _ => rfl, x_other (fun _ _ => rfl) (fun _ _ => rfl) (fun _ _ => rfl) (fun _ _ => rfl)⟩
  | retN => exact ⟨e_other fun _ _ => rfl, a_other fun _ _ => rfl, i_other fun _ _ _ => rfl, s_retN, ss_other fun _ _ => rfl, lcq_other fun _ _ _ _ _ => rfl, x_other (fun _ _ => rfl) (fun _ _ => rfl) (fun _ _ => rfl) (fun _ _ => rfl)⟩
  | ifs c a b hc ha hb => exact ⟨e_other fun _ _ => rfl, a_other fun _ _ => rfl, i_other fun _ _ _ => rfl, s_ifs hc.1 ha.2.2.2.2.1 hb.2.2.2.2.1, ss_other fun _ _ => rfl, lcq_other fun _ _ _ _ _ => rfl, ⟨xe_no fun _ _ => rfl, xa_no fun _ _ => rfl, xs_ifs hc.1 ha.2.2.2.2.2.2.2.2.2 hb.2.2.2.2.2.2.2.2.2, xss_no fun _ _ => rfl⟩⟩
  | fors t it body ht hi hb => exact ⟨e_other fun _ _ => rfl, a_other fun _ _ => rfl, i_other fun _ _ _ => rfl, s_fors hi.2.2.1 hb.2.2.2.2.1, ss_other fun _ _ => rfl, lcq_other fun _ _ _ _ _ => rfl, x_other (fun _ _ => rfl) (fun _ _ => rfl) (fun _ _ => rfl) (fun _ _ => rfl)⟩
  | whl fuel c body hc hb => exact ⟨e_other fun _ _ => rfl, a_other fun _ _ => rfl, i_other fun _ _ _ => rfl, s_whl fuel hc.1 hb.2.2.2.2.1, ss_other fun _ _ => rfl, lcq_other fun _ _ _ _ _ => rfl, x_other (fun _ _ => rfl) (fun _ _ => rfl) (fun _ _ => rfl) (fun _ _ => rfl)⟩
end DS
set_option maxRecDepth 100000
set_option maxHeartbeats 4000000
namespace DS
open PySem PySem.Spec L2 PyProof.Rows
structure DF where
  n : Nat
  k : Nat
  body : C
def run (fs : List DF) (Gc : Nat → Option P) : Nat → FT
  | 0 => fun _ _ _ => none
  | n + 1 => fun f ds S => match fs[f]? with
    | some d => denF (run fs Gc n) Gc d.n d.k d.body ds S
    | none => if XN ≤ f then match fs[f - XN]? with
      | some d => rxF (run fs Gc n) Gc d.n d.k d.body ds S
      | none => none
      else none
structure SD where
  x : Str
  qual : Str
  st : Stmt
  N : List Str
  ps : List Str
  d : DF
def scB (N ps : List Str) (sc : Scope) : Bool :=
  (match sc.kind with | .function => true | _ => false) && !sc.isCoroutine && !sc.isGenerator && decide N.Nodup && decide (N.take ps.length = ps) &&
    ps.all (fun x => match sc.names.lookup x with | some .local => true | some .cell => true | _ => false) && sc.names.all (fun y => match y.2 with | .free => false | _ => true)
def plB (a : Arguments) (ps : List Str) : Bool := a.posonlyargs.isEmpty && decide (a.args.map (·.arg) = ps) && a.vararg.isNone && a.kwonlyargs.isEmpty && a.kwarg.isNone
def chkD (G : GI) (s : SD) : Bool := chkSs G ⟨s.N, defScope s.st, fun _ => true, true⟩ s.d.body (defBody s.st) && decide (s.d.n = s.N.length) && decide (s.d.k = s.ps.length) && scB s.N s.ps (defScope s.st) && plB (defArgs s.st) s.ps
theorem scB_of {N ps : List Str} {sc : Scope} (h : scB N ps sc = true) : FnScope N ps sc := by
  unfold scB at h
  simp only [Bool.and_eq_true, Bool.not_eq_true', decide_eq_true_eq, List.all_eq_true] at h
  obtain ⟨⟨⟨⟨⟨⟨h1, h2⟩, h3⟩, h4⟩, h5⟩, h6⟩, h7⟩ := h
  refine ⟨?_, h2, h3, h4, h5, fun x hx => ?_, fun y hy e => ?_⟩
  · split at h1
    · assumption
    · cases h1
  · have q := h6 x hx
    split at q
    · exact .inl (by assumption)
    · exact .inr (by assumption)
    · cases q
  · have q := h7 y hy
    rw [e] at q
    cases q
theorem fun_plain {K : PySem.W.Frag} {x qual : Str} {st : Stmt} {f : Addr} {fd : FuncData} {ps : List Str} (F : Fun K x qual st f fd) (h : plB (defArgs st) ps = true) : PlainFd fd ps := by
  unfold plB at h
  simp only [Bool.and_eq_true, decide_eq_true_eq, List.isEmpty_iff, Option.isNone_iff_eq_none] at h
  obtain ⟨⟨⟨⟨h1, h2⟩, h3⟩, h4⟩, h5⟩ := h
  obtain ⟨oc, od, kV, doc, pm, an, cdv, ct, osl, e, _⟩ := F.ex
  subst e
  exact ⟨h1, h2, h3, h4, h5, rfl⟩
theorem run_len {fs : List DF} {Gc : Nat → Option P} {n f : Nat} {d : DF} {ds : List D} {S : Sto} {r : D × Sto} (hf : fs[f]? = some d) (h : run fs Gc n f ds S = some r) : ds.length = d.k := by
  cases n with
  | zero => cases h
  | succ n =>
    unfold run at h
    rw [hf] at h
    simp only [denF] at h
    split at h
    · assumption
    · cases h
theorem run_x {fs : List DF} {Gc : Nat → Option P} {n f : Nat} {d : DF} {ds : List D} {S : Sto} (hf : fs[f]? = some d) (hl : fs.length ≤ XN) : run fs Gc (n + 1) (f + XN) ds S = rxF (run fs Gc n) Gc d.n d.k d.body ds S := by
  have h1 : fs[f + XN]? = none := List.getElem?_eq_none (by omega)
  have h2 : f + XN - XN = f := by omega
  show (match fs[f + XN]? with
    | some d => denF (run fs Gc n) Gc d.n d.k d.body ds S
    | none => if XN ≤ f + XN then match fs[f + XN - XN]? with
      | some d => rxF (run fs Gc n) Gc d.n d.k d.body ds S
      | none => none
      else none) = _
  rw [h1, h2, hf]
  exact if_pos (by omega)
theorem run_lenX {fs : List DF} {Gc : Nat → Option P} {n f : Nat} {d : DF} {ds : List D} {S : Sto} {r : D × Sto} (hf : fs[f]? = some d) (hl : fs.length ≤ XN) (h : run fs Gc n (f + XN) ds S = some r) : ds.length = d.k := by
  cases n with
  | zero => cases h
  | succ n =>
    rw [run_x hf hl] at h
    simp only [rxF] at h
    split at h
    · assumption
    · cases h
theorem fnX_body {prog : Program} {w : World} {K : PySem.W.Frag} {mg : Str → Option Value} {base : Heap} {x qual : Str} {st : Stmt} {a C : Addr} {fd : FuncData} {N ps : List Str} {k : Nat} {sp : Sp} (F : Fun K x qual st a fd) (sc : FnScope N ps (defScope st)) (ln : ∀ vs H Q E, sp vs H Q E → vs.length = ps.length)
    (bd : ∀ (cdv : Value) (A : Around) (out : List Env) (s : Shared) (H : Hp) (vs : List V) (E : XK), Room k (A.deeper (envOfC qual (defScope st) s.heap.objs.size a cdv)) → A.guards = some [] → sp vs H (fun _ H' => E (.ref C) none H') E0 →
      ∃ t, PSs (cxOf (L2.CX prog w) prog w K mg base N qual (defScope st) a cdv A out s H E) (defBody st) t ∧ t { nx := fun _ _ => False, rt := fun _ _ => False } (L2.start N vs) H) : FnX prog w K mg base (k + 1) a fd ps C sp := by
  obtain ⟨oc, od, kV, doc, pm, an, cdv, ct, osl, rfl, hlook, hcode⟩ := F.ex
  refine ⟨ln, fun A out s H args us vs E room hg e0 bnd rv hs => ?_⟩
  have inK : K.In s.heap := e0.mod.kin.keeps fun b o z => (e0.bs b o z).1
  have noLim := e0.mod.nolimit.keeps fun b o z => (e0.bs b o z).1
  have kinds : ∀ y ∈ ps.zip us, (defScope st).names.lookup y.1 = some .local ∨ ((defScope st).names.lookup y.1 = some .cell ∧ ((cellsFrom (s.heap.objs.size + 1) (defScope st).names []).lookup y.1).isSome = true) := by
    rintro ⟨nm, val⟩ hy
    exact (sc.par nm (List.of_mem_zip hy).1).imp id fun z => ⟨z, PySem.W.cellsFrom_some _ _ _ (.inl z)⟩
  refine codeAny_call_function room.depth (inK _ _ hlook) rfl sc.co sc.gen rfl (PySem.W.codeRec_of inK hcode) (bnd _ _ _ _ ?_)
  refine wpAny_newFunctionEnv_cells sc.kind kinds fun env he s1 st1 => ?_
  subst he
  refine ⟨noLim.keeps st1.toInCall.keep, codeAny_func ?_⟩
  obtain ⟨t, body, ht⟩ := bd cdv A out s H vs E (room.deeper _) hg hs
  have inv0 := inv_start (CX := L2.CX prog w) (P := prog) (w := w) (E := E) sc room.hd e0 (ln _ _ _ _ hs) rv st1
  refine wpAny_mono (body.run [] s1 (L2.start N vs) H _ inv0 ht) (fun fl s2 h2 => ?_) fun _ _ z => z
  cases fl with
  | brk => exact h2.elim fun _ h3 => h3.elim fun _ h4 => h4.2.elim
  | cont => exact h2.elim fun _ h3 => h3.elim fun _ h4 => h4.2.elim
  | ret u =>
    obtain ⟨v, σ1, H1, inv1, hv, hq⟩ := h2
    exact hq.elim
  | next =>
    obtain ⟨σ1, H1, inv1, hq⟩ := h2
    exact hq.elim
theorem fnG_body {prog : Program} {w : World} {K : PySem.W.Frag} {mg : Str → Option Value} {base : Heap} {x qual : Str} {st : Stmt} {a : Addr} {fd : FuncData} {N ps : List Str} {k : Nat} {sp : Sp} (F : Fun K x qual st a fd) (sc : FnScope N ps (defScope st)) (ln : ∀ vs H Q E, sp vs H Q E → vs.length = ps.length)
    (bd : ∀ (cdv : Value) (A : Around) (out : List Env) (s : Shared) (H : Hp) (vs : List V) (Q : VK) (E : XK), Room k (A.deeper (envOfC qual (defScope st) s.heap.objs.size a cdv)) → A.guards = some [] → sp vs H Q E →
      ∃ t, PSs (cxOf CX0 prog w K mg base N qual (defScope st) a cdv A out s H E).nox (defBody st) t ∧ t { nx := fun _ H' => Q .non H', rt := Q } (L2.start N vs) H) : FnG prog w K mg base (k + 1) a fd ps sp := by
  obtain ⟨oc, od, kV, doc, pm, an, cdv, ct, osl, rfl, hlook, hcode⟩ := F.ex
  refine ⟨ln, fun A out s H args us vs Q E room hg e0 bnd rv hs => ?_⟩
  have inK : K.In s.heap := e0.mod.kin.keeps fun b o z => (e0.bs b o z).1
  have noLim := e0.mod.nolimit.keeps fun b o z => (e0.bs b o z).1
  have kinds : ∀ y ∈ ps.zip us, (defScope st).names.lookup y.1 = some .local ∨ ((defScope st).names.lookup y.1 = some .cell ∧ ((cellsFrom (s.heap.objs.size + 1) (defScope st).names []).lookup y.1).isSome = true) := by
    rintro ⟨nm, val⟩ hy
    exact (sc.par nm (List.of_mem_zip hy).1).imp id fun z => ⟨z, PySem.W.cellsFrom_some _ _ _ (.inl z)⟩
  refine codeAny_call_function room.depth (inK _ _ hlook) rfl sc.co sc.gen rfl (PySem.W.codeRec_of inK hcode) (bnd _ _ _ _ ?_)
  refine wpAny_newFunctionEnv_cells sc.kind kinds fun env he s1 st1 => ?_
  subst he
  refine ⟨noLim.keeps st1.toInCall.keep, codeAny_func ?_⟩
  obtain ⟨t, body, ht⟩ := bd cdv A out s H vs Q E (room.deeper _) hg hs
  have inv0 := inv_start (CX := CX0) (P := prog) (w := w) (E := E) sc room.hd e0 (ln _ _ _ _ hs) rv st1
  refine wpAny_mono (body.nox.run [] s1 (L2.start N vs) H _ inv0 ht) (fun fl s2 h2 => ?_) fun _ _ z => z
  cases fl with
  | brk => exact h2.elim fun _ h3 => h3.elim fun _ h4 => h4.2.elim
  | cont => exact h2.elim fun _ h3 => h3.elim fun _ h4 => h4.2.elim
  | ret u =>
    obtain ⟨v, σ1, H1, inv1, hv, hq⟩ := h2
    exact ⟨v, H1, inv1.os, inv1.bare, inv1.base, inv1.hok, hv, hq⟩
  | next =>
    obtain ⟨σ1, H1, inv1, hq⟩ := h2
    exact ⟨.non, H1, inv1.os, inv1.bare, inv1.base, inv1.hok, rfl, hq⟩
structure Tb (K : PySem.W.Frag) (mg : Str → Option Value) (sds : List SD) (ad : Nat → Addr) (fdo : Nat → FuncData) : Prop where
  fn : ∀ i s, sds[i]? = some s → Fun K s.x s.qual s.st (ad i) (fdo i) ∧ mg s.x = some (.ref (ad i))
  nob : ∀ x : Str, x ∈ (["len", "int", "abs", "max", "min", "sum", "any", "all", "tuple", "list", "str", "repr", "sorted", "isinstance", "range", "enumerate", "zip", "bool", "dict"] : List Str) → mg x = none
def gi (sds : List SD) (cns : List Str) (ex : Bool := false) (isi : List (Str × Bool) := []) : GI := ⟨sds.map (·.x), sds.map (·.ps), cns, ex, isi⟩
theorem start_ok {U ρ : List Addr} {K : PySem.W.Frag} {H : Hp} {ds : List D} {vs : List V} {N : List Str} (z3 : RepDs U K ρ H ds vs) {n k : Nat} (hl : ds.length = k) (hn : n = N.length) (hk : k ≤ n) : EnvOk U K ρ H (ds.map some ++ List.replicate (n - k) none) (L2.start N vs) := by
  have hvl : ds.length = vs.length := z3.length
  refine ⟨?_, fun j e hj => ?_⟩
  · unfold L2.start
    simp only [List.length_append, List.length_map, List.length_replicate]
    omega
  · have hjl : j < ds.length := by
      by_cases hjl : j < ds.length
      · exact hjl
      · rw [List.getElem?_append_right (by simpa using hjl)] at hj
        rw [List.getElem?_replicate] at hj
        split at hj <;> cases hj
    rw [List.getElem?_append_left (by simpa using hjl), List.getElem?_map] at hj
    obtain ⟨d0, hd0, e0⟩ := Option.map_eq_some_iff.mp hj
    cases e0
    have key : ∀ {l : List D} {vs : List V} {i : Nat} {d : D}, RepDs U K ρ H l vs → l[i]? = some d → ∃ v, vs[i]? = some v ∧ RepD U K ρ H d v := by
      intro l vs i d r
      induction r generalizing i with
      | nil => intro z; simp at z
      | cons a b ih =>
        intro z
        cases i with
        | zero => simp at z; subst z; exact ⟨_, rfl, a⟩
        | succ i => simpa using ih (by simpa using z)
    obtain ⟨v, hv, rv⟩ := key z3 hd0
    refine ⟨v, ?_, rv⟩
    unfold L2.start
    rw [List.getElem?_append_left (by simpa using (List.getElem?_eq_some_iff.mp hv).1), List.getElem?_map, hv]
    rfl
theorem all_GX {prog : Program} {w : World} {K : PySem.W.Frag} {mg : Str → Option Value} {base : Heap} {sds : List SD} {cns : List Str} {Gc : Nat → Option P} {ad : Nat → Addr} {fdo : Nat → FuncData} {ex : Bool} {isi : List (Str × Bool)} {C : Addr} (T : Tb K mg sds ad fdo)
    (hc : ∀ g x z, cns[g]? = some x → Gc g = some z → ∃ u v, mg x = some u ∧ RelV v u ∧ ∀ U H, RepP U K H z v) (chk : ∀ s, s ∈ sds → chkD (gi sds cns ex isi) s = true) (hex : ex = true → sds.length ≤ XN ∧ PySem.UnfX.UT prog K mg "Unfit" C ∧ ∀ y b, isi.lookup y = some b → ExcC K C ∧ ∃ Y, mg y = some (.ref Y) ∧ PySem.W.kitOne K (.ref C) (.ref Y) = some b) :
    ∀ n i s, sds[i]? = some s → FnG prog w K mg base n (ad i) (fdo i) s.ps (spD K s.ps.length (run (sds.map (·.d)) Gc n i)) ∧ (ex = true → FnX prog w K mg base n (ad i) (fdo i) s.ps C (spD K s.ps.length (run (sds.map (·.d)) Gc n (i + XN)))) := by
  intro n
  induction n with
  | zero =>
    intro i s _
    have no : ∀ i vs H Q E, ¬ spD K s.ps.length (run (sds.map (·.d)) Gc 0 i) vs H Q E := by
      rintro i vs H Q E ⟨U, ρ, S, ds, d, S', _, _, _, z, _⟩
      cases z
    exact ⟨⟨fun vs H Q E z => absurd z (no _ _ _ _ _), fun _ _ _ _ _ _ _ _ _ _ _ _ _ _ z => absurd z (no _ _ _ _ _)⟩, fun _ => ⟨fun vs H Q E z => absurd z (no _ _ _ _ _), fun _ _ _ _ _ _ _ _ _ _ _ _ _ z => absurd z (no _ _ _ _ _)⟩⟩
  | succ n ih =>
    intro i s hi
    obtain ⟨F, _⟩ := T.fn i s hi
    have ck := chk s (List.mem_of_getElem? hi)
    unfold chkD at ck
    simp only [Bool.and_eq_true, decide_eq_true_eq] at ck
    obtain ⟨⟨⟨⟨c1, c2⟩, c3⟩, c4⟩, c5⟩ := ck
    have hfi : (sds.map (·.d))[i]? = some s.d := by rw [List.getElem?_map, hi]; rfl
    have hll : ex = true → (sds.map (·.d)).length ≤ XN := fun h => by rw [List.length_map]; exact (hex h).1
    have kn : s.d.k ≤ s.d.n := by
      have z := (scB_of c4).pre
      have z2 := congrArg List.length z
      rw [List.length_take] at z2
      omega
    have pre : ∀ (f : Nat) (x : Str), (gi sds cns ex isi).fns[f]? = some x → ∃ s2, sds[f]? = some s2 ∧ s2.x = x ∧ mg x = some (.ref (ad f)) ∧ PySem.W.keepIn K (.ref (ad f)) = true ∧ Binds K (fdo f) s2.ps [] ∧ PlainFd (fdo f) s2.ps ∧ (gi sds cns ex isi).prm[f]? = some s2.ps ∧ s2.d.k = s2.ps.length := fun f x hf => by
      have hf : (sds.map (·.x))[f]? = some x := hf
      rw [List.getElem?_map] at hf
      obtain ⟨s2, h2, rfl⟩ := Option.map_eq_some_iff.mp hf
      obtain ⟨F2, m2⟩ := T.fn f s2 h2
      have ck2 := chk s2 (List.mem_of_getElem? h2)
      unfold chkD at ck2
      simp only [Bool.and_eq_true, decide_eq_true_eq] at ck2
      obtain ⟨⟨⟨⟨e1, e2⟩, e3⟩, e4⟩, e5⟩ := ck2
      have pl := fun_plain F2 e5
      have ndp : s2.ps.Nodup := by rw [← (scB_of e4).pre]; exact (scB_of e4).nd.sublist (List.take_sublist _ _)
      exact ⟨s2, h2, rfl, m2, F2.kp, pl.binds ndp, pl, by show (sds.map (·.ps))[f]? = _; rw [List.getElem?_map, h2]; rfl, e3⟩
    have xoOf : ex = true → ∀ (A : Around), Room n A → XOk (gi sds cns ex isi) (run (sds.map (·.d)) Gc n) prog w K mg base A C := fun h A room => by
      refine ⟨(hex h).2.1, ⟨n, room⟩, (hex h).2.2, fun f x hf => ?_⟩
      obtain ⟨s2, h2, rfl, m2, kp, bn, pl, pm, e3⟩ := pre f x hf
      exact ⟨n, ad f, fdo f, s2.ps, m2, kp, bn, room, (ih f s2 h2).2 h, fun ds S r hr => (run_lenX (d := s2.d) (by rw [List.getElem?_map, h2]; rfl) (hll h) hr).trans e3, pl, pm⟩
    have gdOf : ∀ (CXt : CXT) (cdv : Value) (A : Around) (out : List Env) (st0 : Shared) (H : Hp) (E : XK), A.guards = some [] → Room n (A.deeper (envOfC s.qual (defScope s.st) st0.heap.objs.size (ad i) cdv)) →
        Gd (gi sds cns ex isi) (run (sds.map (·.d)) Gc n) Gc (cxOf CXt prog w K mg base s.N s.qual (defScope s.st) (ad i) cdv A out st0 H E) := fun CXt cdv A out st0 H E hg room => by
      refine ⟨rfl, (scB_of c4).nd, hg, by have := room.un; show (A.deeper _).units + 100 < cLine; omega, T.nob, hc, fun f x hf => ?_, fun h => ⟨C, xoOf h _ room⟩⟩
      obtain ⟨s2, h2, rfl, m2, kp, bn, pl, pm, e3⟩ := pre f x hf
      exact ⟨n, ad f, fdo f, s2.ps, m2, kp, bn, room, (ih f s2 h2).1, fun ds S r hr => (run_len (d := s2.d) (by rw [List.getElem?_map, h2]; rfl) hr).trans e3, pl, pm⟩
    refine ⟨?_, fun h => ?_⟩
    · refine fnG_body F (scB_of c4) (fun vs H Q E z => ?_) fun cdv A out st0 H vs Q E room hg hs => ?_
      · obtain ⟨U, ρ, S, ds, d, S', z1, _, z2, _⟩ := z
        exact z2.length.symm.trans z1
      · obtain ⟨U, ρ, S, ds, d, S', z1, z2, z3, z4, q⟩ := hs
        refine ⟨_, (snd (gi sds cns ex isi) (run (sds.map (·.d)) Gc n) Gc s.d.body).2.2.2.2.1 _ ⟨s.N, defScope s.st, fun _ => true, true⟩ (defBody s.st) (gdOf CX0 cdv A out st0 H E hg room).nox ⟨rfl, rfl, fun _ _ => rfl, fun _ => ⟨rfl, rfl⟩⟩ c1, ?_⟩
        unfold run at z4
        rw [hfi] at z4
        simp only [denF] at z4
        split at z4
        · rename_i hl
          obtain ⟨⟨f1, env1, S1⟩, m1, z5⟩ := Option.bind_eq_some_iff.mp z4
          refine ⟨U, ρ, _, S, f1, env1, S1, start_ok z3 hl c2 kn, z2, m1, fun U' ρ' H' σ' e1 s1 he1 => ?_⟩
          cases f1 with
          | nx =>
            cases z5
            exact ⟨fun _ => q U' ρ' H' .non e1 s1 .non, fun z => (by cases z), fun z => (by cases z), fun _ _ z => by cases z⟩
          | rt d0 =>
            cases z5
            exact ⟨fun z => (by cases z), fun z => (by cases z), fun z => (by cases z), fun d2 v z rv => by cases z; exact q U' ρ' H' v e1 s1 rv⟩
          | bk => cases z5
          | ct => cases z5
        · cases z4
    · refine fnX_body F (scB_of c4) (fun vs H Q E z => ?_) fun cdv A out st0 H vs E room hg hs => ?_
      · obtain ⟨U, ρ, S, ds, d, S', z1, _, z2, _⟩ := z
        exact z2.length.symm.trans z1
      · obtain ⟨U, ρ, S, ds, d, S', z1, z2, z3, z4, q⟩ := hs
        refine ⟨_, (snd (gi sds cns ex isi) (run (sds.map (·.d)) Gc n) Gc s.d.body).2.2.2.2.2.2.2.2.2 _ ⟨s.N, defScope s.st, fun _ => true, true⟩ (defBody s.st) (fun cls d _ H => E cls d H) C (gdOf (L2.CX prog w) cdv A out st0 H E hg room) ⟨rfl, rfl, fun _ _ => rfl, fun _ => ⟨rfl, rfl⟩⟩ (xoOf h _ room) c1 (takes_of rfl rfl rfl rfl), ?_⟩
        rw [run_x hfi (hll h)] at z4
        simp only [rxF] at z4
        split at z4
        · rename_i hl
          obtain ⟨⟨f1, env1, S1⟩, m1, e1⟩ := Option.map_eq_some_iff.mp z4
          cases e1
          exact ⟨U, ρ, _, S, f1, env1, S1, start_ok z3 hl c2 kn, z2, m1, fun U' ρ' H' σ' e1 s1 he1 => q U' ρ' H' .non e1 s1 .non⟩
        · cases z4
theorem all_G {prog : Program} {w : World} {K : PySem.W.Frag} {mg : Str → Option Value} {base : Heap} {sds : List SD} {cns : List Str} {Gc : Nat → Option P} {ad : Nat → Addr} {fdo : Nat → FuncData} (T : Tb K mg sds ad fdo)
    (hc : ∀ g x z, cns[g]? = some x → Gc g = some z → ∃ u v, mg x = some u ∧ RelV v u ∧ ∀ U H, RepP U K H z v) (chk : ∀ s, s ∈ sds → chkD (gi sds cns) s = true) :
    ∀ n i s, sds[i]? = some s → FnG prog w K mg base n (ad i) (fdo i) s.ps (spD K s.ps.length (run (sds.map (·.d)) Gc n i)) := fun n i s h => (all_GX (C := 0) T hc chk (fun z => by cases z) n i s h).1
end DS
set_option maxRecDepth 100000
set_option maxHeartbeats 4000000
namespace DS
open PySem PySem.Spec L2 PyProof.Rows
def oneH (a : Addr) (o : Obj) (xs : List V) : Hp := fun b => if b = a then some (.frz o (.lst xs)) else none
section
variable {prog : Program} {w : World} {K : PySem.W.Frag} {mg mb : Str → Option Value} {k : Nat} {fa a : Addr} {fd : FuncData} {x : Str} {sp : Sp} {st : Shared} {vs : List Value} {ns : List Int}
theorem call_from (H : Hp) (inK : K.In st.heap) (g1 : st.heap.Ns mainGlobals mg) (g2 : st.heap.Ns builtinsNs mb) (g3 : ∀ x : Str, x ≠ "__name__" → mb x = bootBuiltins x) (g4 : st.heap.NoLimit) (g5 : st.gens = #[]) (room : Room k callerA)
    (lst : st.heap.get? a = some { cls := .type "list", data := .seq vs.toArray }) (F : ∀ base : Heap, K.In base → base.Ns mainGlobals mg → FnG prog w K mg base k fa fd [x] sp) (pl : PlainFd fd [x])
    (hs : sp [.ref a] H (fun v _ => v = .bl true) E0) (fz : ∀ b, H b = none ∨ ∃ o xs, H b = some (.frz o (.lst xs))) (ok : HOk prog w H st.heap) (only : ∀ b, H b ≠ none → b = a ∧ K.lookup a = none) :
    codeAny (model prog w) callerA (.call (.ref fa) ⟨[.ref a], []⟩) (fun r s2 => r = .ok (.ret (.bool true)) ∧ OldK st.heap s2.heap ∧ s2.os = st.os ∧ AllBare s2.gens) st := by
  have free : ∀ {b : Addr}, b ≠ a → H b = none := fun {b} hb => by
    cases q : H b with
    | none => rfl
    | some u => exact absurd (only b (by rw [q]; simp)).1 hb
  have keep1 : ∀ {b : Addr} {m : Str → Option Value}, st.heap.Ns b m → (hidT st.heap H).Ns b m := by
    rintro b m ⟨o, es, ep, e1, e2, e3⟩
    refine ⟨o, es, ep, hidT_get e1 (free ?_), e2, e3⟩
    rintro rfl
    rw [lst] at e1
    cases e1
    cases (show Data.seq vs.toArray _ = Data.dict es ep from e2)
  have inK2 : K.In (hidT st.heap H) := fun b o e => hidT_get (inK b o e) (by
    cases q : H b with
    | none => rfl
    | some u =>
      obtain ⟨rfl, z⟩ := only b (by rw [q]; simp)
      rw [z] at e
      cases e)
  have lim2 : (hidT st.heap H).NoLimit := by
    obtain ⟨mc, z1, z2⟩ := g4
    exact ⟨mc, keep1 z1, z2⟩
  have e0 : Env0 prog w K mg (hidT st.heap H) callerA [] st H :=
    { frames := rfl, mod := ⟨inK2, keep1 g1, ⟨mb, keep1 g2, g3⟩, lim2⟩, bs := fun b o e => of_hidT e, bsz := by rw [hidT_size]; exact Nat.le_refl _, funs := trivial, frf := fun b hb => (by cases hb), hok := ok, bare := .of_eq g5 }
  have bnd := (pl.binds (K := K) (by simp)) st [.ref a] inK rfl
  refine codeAny_mono ((F _ inK2 (keep1 g1)).run callerA [] st H ⟨[.ref a], []⟩ _ [.ref a] _ _ room rfl e0 bnd (.cons rfl .nil) hs) fun r s2 h => ?_
  match r, h with
  | .ok (.ret u), h =>
    obtain ⟨v, H2, os, bare, un, ok2, rv, rfl⟩ := h
    cases (show u = Value.bool true from rv)
    refine ⟨rfl, .of_keep fun b o e => ?_, os, bare⟩
    rcases fz b with z | ⟨ob, xs, z⟩
    · exact un.keep b o e z (fun y => by cases y) (by simp)
    · have y1 := (ok b _ z).1
      have y2 := (ok2 b _ (un.frzs b ob _ z)).1
      rw [e] at y1
      cases y1
      exact y2
end
theorem ints_vals : ∀ {vs : List Value} {ns : List Int}, IntsAre vs ns → Vals (ns.map V.int) vs
  | [], _, .nil => .nil
  | _ :: _, _, .cons _ t h => .cons ⟨t, rfl⟩ (ints_vals h)
theorem law_end {l : PySem.W.OpenLaw} {k : Nat} {q : Program} {loose : List Str} {XP : (Str → Option Value) → Heap → Prop} {YP : World → Heap → Prop} {d : DefRec} {K : Params → PySem.W.Frag} {sds : List SD} {cns : List Str} {Gc : Nat → Option P} {li : Nat} {sl : SD} {x : Str}
    (h1 : l.most = some 63) (h2 : d.params.defaults = []) (room : Room k callerA) (h3 : ∀ (w : World) (h : Heap), YP w h → (K w.params).In h)
    (F : ∀ (w : World) (mg : Str → Option Value) (fa : Addr) (h : Heap), (K w.params).In h → h.Ns mainGlobals mg → mg d.name = some (.ref fa) →
      ∃ (ad : Nat → Addr) (fdo : Nat → FuncData), Tb (K w.params) mg sds ad fdo ∧ ad li = fa ∧ ∀ g x z, cns[g]? = some x → Gc g = some z → ∃ u v, mg x = some u ∧ RelV v u ∧ ∀ U H, RepP U (K w.params) H z v)
    (chk : ∀ s, s ∈ sds → chkD (gi sds cns) s = true) (hl : sds[li]? = some sl) (hx : sl.ps = [x]) (law : ∀ ns : List Int, ns.length ≤ 63 → ∃ S, run (sds.map (·.d)) Gc k li [.s (ns.map PyData.int)] [] = some (.p (.bool true), S)) :
    PySem.W.WalkO q loose XP YP l.row.toRowW d [] (fun f vs => PySem.call f vs) := by
  refine Att.attach_call h1 h2 fun w s0 st mg mb fa o pm cd doc a vs ns G Y ho hd hcd hmg hobj hints hlen hg => ?_
  have inK := h3 w _ Y
  obtain ⟨ad, fdo, T, rfl, hc⟩ := F w mg fa _ inK G.T.g hmg
  obtain ⟨Fl, _⟩ := T.fn li sl hl
  have ck := chk sl (List.mem_of_getElem? hl)
  unfold chkD at ck
  simp only [Bool.and_eq_true] at ck
  have pl := fun_plain Fl ck.2
  rw [hx] at pl
  have fn : ∀ base : Heap, (K w.params).In base → base.Ns mainGlobals mg → FnG l.prog w (K w.params) mg base k (ad li) (fdo li) [x] (spD (K w.params) 1 (run (sds.map (·.d)) Gc k li)) := fun base _ _ => by
    have z := all_G (prog := l.prog) (w := w) (base := base) T hc chk k li sl hl
    rw [hx] at z
    exact z
  obtain ⟨S, hrun⟩ := law ns hlen
  have rv := ints_vals hints
  have sat : ∀ (H : Hp), (a ∉ ([] : List Addr) ∧ Rd H a (.lst (ns.map V.int))) ∨ KL (K w.params) a (ns.map V.int) → spD (K w.params) 1 (run (sds.map (·.d)) Gc k li) [.ref a] H (fun v _ => v = .bl true) E0 := fun H hS =>
    ⟨[], [], [], [.s (ns.map PyData.int)], .p (.bool true), S, rfl, ⟨rfl, List.nodup_nil, fun a h => (by cases h), fun a h => (by cases h), fun n a m h => by simp at h⟩, .cons ⟨a, _, rfl, hS, RepPs.of_ints ns⟩ .nil, hrun, fun U' ρ' H' v _ _ r => by
      have r : RepP U' (K w.params) H' (.bool true) v := r
      cases r
      rfl⟩
  cases hk : (K w.params).lookup a with
  | some ob =>
    have e := inK a ob hk
    rw [hobj] at e
    cases e
    refine call_from (fun _ => none) inK G.T.g G.T.b G.T.builtins G.T.nolimit hg room hobj fn pl (sat _ (.inr ⟨_, vs.toArray, _, hk, rfl, rfl, rfl, ?_, by simpa using rv⟩)) (fun _ => .inl rfl) (fun b u z => by cases (show (none : Option HO) = some u from z)) fun b z => absurd rfl z
    have := hints.length
    rw [List.size_toArray, sizeLine_eq]
    omega
  | none =>
    refine call_from (oneH a { cls := .type "list", data := .seq vs.toArray } (ns.map V.int)) inK G.T.g G.T.b G.T.builtins G.T.nolimit hg room hobj fn pl (sat _ (.inl ⟨by simp, .inr ⟨_, if_pos rfl⟩⟩)) (fun b => ?_) (fun b u z => ?_) fun b z => ⟨?_, hk⟩
    · by_cases hb : b = a
      · exact .inr ⟨_, _, if_pos hb⟩
      · exact .inl (if_neg hb)
    · by_cases hb : b = a
      · have y := (if_pos hb).symm.trans z
        cases y
        subst hb
        exact ⟨hobj, by rw [List.length_map, sizeLine_eq]; omega, vs, _, rv, hobj⟩
      · cases ((if_neg hb).symm.trans z)
    · by_cases hb : b = a
      · exact hb
      · exact absurd (if_neg hb) z
theorem law_endX {l : PySem.W.OpenLaw} {k : Nat} {q : Program} {loose : List Str} {XP : (Str → Option Value) → Heap → Prop} {YP : World → Heap → Prop} {d : DefRec} {K : Params → PySem.W.Frag} {sds : List SD} {cns : List Str} {Gc : Nat → Option P} {li : Nat} {sl : SD} {isi : List (Str × Bool)} {x : Str}
    (h1 : l.most = some 63) (h2 : d.params.defaults = []) (room : Room k callerA) (h3 : ∀ (w : World) (h : Heap), YP w h → (K w.params).In h)
    (F : ∀ (w : World) (mg : Str → Option Value) (fa : Addr) (h : Heap), (K w.params).In h → h.Ns mainGlobals mg → mg d.name = some (.ref fa) →
      ∃ (ad : Nat → Addr) (fdo : Nat → FuncData), Tb (K w.params) mg sds ad fdo ∧ ad li = fa ∧ ∀ g x z, cns[g]? = some x → Gc g = some z → (∃ u v, mg x = some u ∧ RelV v u ∧ ∀ U H, RepP U (K w.params) H z v)) (XF : ∀ (w : World) (mg : Str → Option Value) (h : Heap), (K w.params).In h → h.Ns mainGlobals mg → ∃ C, PySem.UnfX.UT l.prog (K w.params) mg "Unfit" C ∧ ∀ y b, isi.lookup y = some b → ExcC (K w.params) C ∧ ∃ Y, mg y = some (.ref Y) ∧ PySem.W.kitOne (K w.params) (.ref C) (.ref Y) = some b) (hn : sds.length ≤ XN)
    (chk : ∀ s, s ∈ sds → chkD (gi sds cns true isi) s = true) (hl : sds[li]? = some sl) (hx : sl.ps = [x]) (law : ∀ ns : List Int, ns.length ≤ 63 → ∃ S, run (sds.map (·.d)) Gc k li [.s (ns.map PyData.int)] [] = some (.p (.bool true), S)) :
    PySem.W.WalkO q loose XP YP l.row.toRowW d [] (fun f vs => PySem.call f vs) := by
  refine Att.attach_call h1 h2 fun w s0 st mg mb fa o pm cd doc a vs ns G Y ho hd hcd hmg hobj hints hlen hg => ?_
  have inK := h3 w _ Y
  obtain ⟨ad, fdo, T, rfl, hc⟩ := F w mg fa _ inK G.T.g hmg
  obtain ⟨CE, ut⟩ := XF w mg _ inK G.T.g
  obtain ⟨Fl, _⟩ := T.fn li sl hl
  have ck := chk sl (List.mem_of_getElem? hl)
  unfold chkD at ck
  simp only [Bool.and_eq_true] at ck
  have pl := fun_plain Fl ck.2
  rw [hx] at pl
  have fn : ∀ base : Heap, (K w.params).In base → base.Ns mainGlobals mg → FnG l.prog w (K w.params) mg base k (ad li) (fdo li) [x] (spD (K w.params) 1 (run (sds.map (·.d)) Gc k li)) := fun base _ _ => by
    have z := (all_GX (prog := l.prog) (w := w) (base := base) T hc chk (fun _ => ⟨hn, ut.1, ut.2⟩) k li sl hl).1
    rw [hx] at z
    exact z
  obtain ⟨S, hrun⟩ := law ns hlen
  have rv := ints_vals hints
  have sat : ∀ (H : Hp), (a ∉ ([] : List Addr) ∧ Rd H a (.lst (ns.map V.int))) ∨ KL (K w.params) a (ns.map V.int) → spD (K w.params) 1 (run (sds.map (·.d)) Gc k li) [.ref a] H (fun v _ => v = .bl true) E0 := fun H hS =>
    ⟨[], [], [], [.s (ns.map PyData.int)], .p (.bool true), S, rfl, ⟨rfl, List.nodup_nil, fun a h => (by cases h), fun a h => (by cases h), fun n a m h => by simp at h⟩, .cons ⟨a, _, rfl, hS, RepPs.of_ints ns⟩ .nil, hrun, fun U' ρ' H' v _ _ r => by
      have r : RepP U' (K w.params) H' (.bool true) v := r
      cases r
      rfl⟩
  cases hk : (K w.params).lookup a with
  | some ob =>
    have e := inK a ob hk
    rw [hobj] at e
    cases e
    refine call_from (fun _ => none) inK G.T.g G.T.b G.T.builtins G.T.nolimit hg room hobj fn pl (sat _ (.inr ⟨_, vs.toArray, _, hk, rfl, rfl, rfl, ?_, by simpa using rv⟩)) (fun _ => .inl rfl) (fun b u z => by cases (show (none : Option HO) = some u from z)) fun b z => absurd rfl z
    have := hints.length
    rw [List.size_toArray, sizeLine_eq]
    omega
  | none =>
    refine call_from (oneH a { cls := .type "list", data := .seq vs.toArray } (ns.map V.int)) inK G.T.g G.T.b G.T.builtins G.T.nolimit hg room hobj fn pl (sat _ (.inl ⟨by simp, .inr ⟨_, if_pos rfl⟩⟩)) (fun b => ?_) (fun b u z => ?_) fun b z => ⟨?_, hk⟩
    · by_cases hb : b = a
      · exact .inr ⟨_, _, if_pos hb⟩
      · exact .inl (if_neg hb)
    · by_cases hb : b = a
      · have y := (if_pos hb).symm.trans z
        cases y
        subst hb
        exact ⟨hobj, by rw [List.length_map, sizeLine_eq]; omega, vs, _, rv, hobj⟩
      · cases ((if_neg hb).symm.trans z)
    · by_cases hb : b = a
      · exact hb
      · exact absurd (if_neg hb) z
def TbA (K : PySem.W.Frag) (mg : Str → Option Value) : List SD → List (Addr × FuncData) → Prop
  | [], [] => True
  | s :: ss, p :: ps => (Fun K s.x s.qual s.st p.1 p.2 ∧ mg s.x = some (.ref p.1)) ∧ TbA K mg ss ps
  | _, _ => False
def adOf (l : List (Addr × FuncData)) (d : FuncData) (i : Nat) : Addr := (l.getD i (0, d)).1
def fdOf (l : List (Addr × FuncData)) (d : FuncData) (i : Nat) : FuncData := (l.getD i (0, d)).2
theorem TbA.get {K : PySem.W.Frag} {mg : Str → Option Value} {d : FuncData} : ∀ {ss : List SD} {l : List (Addr × FuncData)}, TbA K mg ss l → ∀ i s, ss[i]? = some s → Fun K s.x s.qual s.st (adOf l d i) (fdOf l d i) ∧ mg s.x = some (.ref (adOf l d i))
  | [], _, _, i, s, h => by simp at h
  | _ :: _, [], h, _, _, _ => h.elim
  | s :: ss, p :: ps, h, 0, s2, e => by
    cases e
    exact h.1
  | s :: ss, p :: ps, h, i + 1, s2, e => TbA.get (d := d) h.2 i s2 e
theorem tb_of {K : PySem.W.Frag} {mg : Str → Option Value} {d : FuncData} {ss : List SD} {l : List (Addr × FuncData)} (h : TbA K mg ss l) (z : ∀ x ∈ (["len", "int", "abs", "max", "min", "sum", "any", "all", "tuple", "list", "str", "repr", "sorted", "isinstance", "range", "enumerate", "zip", "bool", "dict"] : List Str), mg x = none) : Tb K mg ss (adOf l d) (fdOf l d) :=
  ⟨TbA.get h, z⟩
def IsA (K : PySem.W.Frag) (C : Addr) : List (Str × Bool) → Prop
  | [] => True
  | (y, b) :: r => (∃ Y, PySem.W.nsIn K mainGlobals y = some (some (.ref Y)) ∧ PySem.W.isClsIn K Y = true ∧ PySem.W.typeIn K (.ref Y) = some (.type "type") ∧ PySem.W.subIn K (.ref C) (.ref Y) = some b) ∧ IsA K C r
theorem IsA.cons {K : PySem.W.Frag} {C : Addr} {y : Str} {b : Bool} {r : List (Str × Bool)} {Y : Addr} (h1 : PySem.W.nsIn K mainGlobals y = some (some (.ref Y))) (h2 : PySem.W.isClsIn K Y = true) (h3 : PySem.W.typeIn K (.ref Y) = some (.type "type")) (h4 : PySem.W.subIn K (.ref C) (.ref Y) = some b) (hr : IsA K C r) : IsA K C ((y, b) :: r) := ⟨⟨Y, h1, h2, h3, h4⟩, hr⟩
theorem isa_ok {K : PySem.W.Frag} {h : Heap} {mg : Str → Option Value} (X : K.In h) (G : h.Ns mainGlobals mg) {C : Addr} (sC : PySem.W.subIn K (.ref C) (.ref C) = some true) : ∀ {isi : List (Str × Bool)}, IsA K C isi → ∀ y b, isi.lookup y = some b → ∃ Y, mg y = some (.ref Y) ∧ PySem.W.kitOne K (.ref C) (.ref Y) = some b
  | [], _, y, b, h => by cases h
  | (y0, b0) :: r, hI, y, b, h => by
    obtain ⟨⟨Y, h1, h2, h3, h4⟩, hr⟩ := hI
    rw [List.lookup_cons] at h
    split at h
    · rename_i e
      cases h
      have e := eq_of_beq e
      subst e
      refine ⟨Y, PySem.W.mg_of X G h1, ?_⟩
      unfold PySem.W.kitOne
      by_cases q : C = Y
      · subst q
        rw [sC] at h4
        cases h4
        rw [if_pos (by simp)]
      · rw [if_neg (by simpa using q)]
        have h2' : (PySem.W.clsIn K Y).isSome = true := h2
        show (if ((PySem.W.clsIn K Y).isSome && PySem.W.typeIn K (.ref Y) == some (.type "type")) = true then PySem.W.subIn K (.ref C) (.ref Y) else none) = some b0
        rw [if_pos (by rw [h2', h3] <;> rfl)]
        exact h4
    · exact isa_ok X G sC hr y b h
open PySem.UnfX in
theorem ut_of {prog : Program} {K : PySem.W.Frag} {h : Heap} {mg : Str → Option Value} (X : K.In h) (G : h.Ns mainGlobals mg) {x : Str} {C D f cc cda NC ND : Addr} {nmC qC nmD qD : Str} {bsC bsD : List Value} {snC snD : List Str} {subC subD : List Value} {abC abD : Bool} {colC colD : Option Bool} {ddC ddD : Option Addr} {m0 m1 m2 m3 m5 n0 n1 n2 n3 n5 : Option Value}
    {oc doc pm ct : Value} {od an : Option Addr} {sl : Array (Option Value)} {qual txt : Str} {p1 q0 q1 q2 q3 q4 : Pos} {vs : Array Value} {ccl : Value} {cdd : Option Addr} {ccs csl : Array (Option Value)} {cl : Value} {cld : Option Addr} {file : Str} {tf : Tok}
    (aC : PySem.W.nsIn K mainGlobals x = some (some (.ref C)))
    (xC : K.lookup C = some (excClassObj nmC qC C NC bsC (.ref D :: HandSPX.veTail) true snC subC abC colC ddC m0 m1 m2 m3 m5 "ValueError.__new__"))
    (xD : K.lookup D = some (excClassObj nmD qD D ND bsD HandSPX.veTail true snD subD abD colD ddD n0 n1 n2 n3 n5 "ValueError.__new__"))
    (iD : PySem.W.findIn K (.ref D) "__init__" = some (some (.builtin "ValueError.__init__")))
    (iC : PySem.W.findIn K (.ref C) "__init__" = some (some (.ref f))) (tI : PySem.W.typeIn K (.ref f) = some (.type "function"))
    (lI : K.lookup f = some ⟨oc, od, .func (PySem.W.ksFn "__init__" qual (iA p1) (iB txt q0 q1 q2 q3 q4) iS .none .none doc pm an (.ref cda) ct cc), sl⟩) (cI : PySem.W.codeIn K (.ref cda) qual = true)
    (hcc : K.lookup cc = some ⟨cl, cld, .cell (some (.ref C)), csl⟩)
    (hcd : K.lookup cda = some ⟨ccl, cdd, .fields vs, ccs⟩) (hvs : vs[2]? = some (.str file tf)) (hfile : ((prog.main.file : Str) == file) = true) (hpos : (q2.endLine == q4.line) = true)
    (ho : PySem.W.nsIn K cStatics "thirdparty.any" = some none) (hsup : PySem.W.nsIn K mainGlobals "super" = some none) (htop : (prog.main.scope.names.lookup ("super" : Str)).isSome = false)
    (slf : PySem.W.mroIn K C (.ref C) = some true) (kC : PySem.W.keepIn K (.ref C) = true) (eC : PySem.W.subIn K (.ref C) (.type "BaseException") = some true) (vC : PySem.W.subIn K (.ref C) (.type "ValueError") = some true)
    (tC : PySem.W.typeIn K (.ref C) = some (.type "type")) (cC : PySem.W.isClsIn K C = true) (sC : PySem.W.subIn K (.ref C) (.ref C) = some true) {isi : List (Str × Bool)} (hx : isi ≠ [] → ExcC K C) (hI : IsA K C isi) :
    ∃ C, UT prog K mg x C ∧ ∀ y b, isi.lookup y = some b → ExcC K C ∧ ∃ Y, mg y = some (.ref Y) ∧ PySem.W.kitOne K (.ref C) (.ref Y) = some b := by
  have hne : ∀ y b, isi.lookup y = some b → isi ≠ [] := fun y b h z => by rw [z] at h; cases h
  refine ⟨C, ?_, fun y b h => ⟨hx (hne y b h), isa_ok X G sC hI y b h⟩⟩
  refine ⟨PySem.W.mg_of X G aC, PySem.W.mg_none_of X G hsup, ho, kC, eC, vC, tC, ?_, slf, htop, ⟨D, nmC, qC, NC, bsC, snC, subC, abC, colC, ddC, m0, m1, m2, m3, m5, xC, ?_⟩, f, iC, tI, oc, od, doc, pm, an, cda, cc, ct, sl, qual, txt, p1, q0, q1, q2, q3, q4, hpos, lI, cI, ⟨cl, cld, csl, hcc⟩, ccl, cdd, vs, ccs, file, tf, hcd, hvs, hfile⟩
  · have e1 : (PySem.W.subIn K (.ref C) (.type "BaseException") == some true) = true := by rw [eC] <;> rfl
    have e2 : ((PySem.W.clsIn K C).isSome && PySem.W.typeIn K (.ref C) == some (.type "type")) = true := by
      have h2' : (PySem.W.clsIn K C).isSome = true := cC
      rw [h2', tC] <;> rfl
    show (if (PySem.W.subIn K (.ref C) (.type "BaseException") == some true) = true then (if ((PySem.W.clsIn K C).isSome && PySem.W.typeIn K (.ref C) == some (.type "type")) = true then PySem.W.subIn K (.ref C) (.ref C) else none) else none) = some true
    rw [if_pos e1, if_pos e2]
    exact sC
  · have e : PySem.W.findIn K (.ref D) "__init__" = PySem.W.alongIn K "__init__" (.ref D :: HandSPX.veTail) := by
      show (match K.lookup D with
        | some ⟨_, _, .cls cd, _⟩ => PySem.W.alongIn K "__init__" cd.mro
        | _ => none) = _
      rw [xD] <;> rfl
    rw [← e]
    exact iD
end DS
set_option maxRecDepth 100000
set_option maxHeartbeats 4000000
namespace DS
open PySem L2
def srcL (S : Sto) : Src → List P
  | .it l => l
  | .rl n => match snapM S[n]? with
    | some (.list xs) => xs
    | _ => []
  | .rg lo c n => (List.range n).map fun (i : Nat) => PyData.int (lo + (i : Int) * c)
  | .en a => (srcL S a).mapIdx fun i x => .tuple [.int (i : Int), x]
  | .zp a b => pairsP (srcL S a) (srcL S b)
theorem atS_srcL (S : Sto) : ∀ (s : Src) (i : Nat), atS S s i = (srcL S s)[i]?
  | .it l, i => rfl
  | .rl n, i => by
    unfold atS srcL
    cases h : snapM S[n]? with
    | none => simp
    | some x => cases x <;> simp
  | .rg lo c n, i => by
    unfold atS srcL
    rw [List.getElem?_map]
    by_cases h : i < n
    · rw [if_pos h, List.getElem?_range h]; rfl
    · rw [if_neg h, List.getElem?_eq_none (by simpa using Nat.le_of_not_lt h)]; rfl
  | .en a, i => by
    unfold atS srcL
    rw [atS_srcL S a i, List.getElem?_mapIdx]
  | .zp a b, i => by
    unfold atS srcL pairsP
    rw [atS_srcL S a i, atS_srcL S b i, List.getElem?_map]
    cases h1 : (srcL S a)[i]? with
    | none => simp [List.zip, List.getElem?_zipWith, h1]
    | some x =>
      cases h2 : (srcL S b)[i]? with
      | none => simp [List.zip, List.getElem?_zipWith, h1, h2]
      | some y => simp [List.zip, List.getElem?_zipWith, h1, h2]
theorem lenS_srcL (S : Sto) : ∀ s : Src, lenS S s = (srcL S s).length
  | .it l => rfl
  | .rl n => by
    unfold lenS srcL
    cases h : snapM S[n]? with
    | none => simp
    | some x => cases x <;> simp
  | .rg lo c n => by simp [lenS, srcL]
  | .en a => by simp [lenS, srcL, lenS_srcL S a]
  | .zp a b => by simp [lenS, srcL, pairsP, lenS_srcL S a, lenS_srcL S b]
theorem loop_inv {ok : Sto → Bool} {g : Sto → Nat → Option P} {body : P → DEnv → Sto → Option (Fl × DEnv × Sto)} (n : Nat) (I : Nat → DEnv → Sto → Prop)
    (stop : ∀ e s, I n e s → g s n = none ∧ ok s = true) (step : ∀ i e s, i < n → I i e s → ∃ x e' s', g s i = some x ∧ (body x e s = some (.nx, e', s') ∨ body x e s = some (.ct, e', s')) ∧ I (i + 1) e' s') :
    ∀ (k i : Nat) (e : DEnv) (s : Sto), i + k = n → I i e s → ∃ e' s', loopG ok g body k i e s = some (.nx, e', s') ∧ I n e' s'
  | 0, i, e, s, h, hi => by
    have : i = n := by omega
    subst this
    obtain ⟨h1, h2⟩ := stop e s hi
    exact ⟨e, s, by simp [loopG, h1, h2], hi⟩
  | k + 1, i, e, s, h, hi => by
    obtain ⟨x, e1, s1, hx, hb, hI⟩ := step i e s (by omega) hi
    obtain ⟨e2, s2, h2, h3⟩ := loop_inv n I stop step k (i + 1) e1 s1 (by omega) hI
    refine ⟨e2, s2, ?_, h3⟩
    unfold loopG
    rw [hx]
    rcases hb with hb | hb
    · simp only [hb, Option.bind_some, h2]
    · simp only [hb, Option.bind_some, h2]
theorem comp_inv {ok : Sto → Bool} {g : Sto → Nat → Option P} {elt : P → Sto → Option (Option P × Sto)} (n : Nat) (I : Nat → List P → Sto → Prop)
    (stop : ∀ a s, I n a s → g s n = none ∧ ok s = true) (step : ∀ i a s, i < n → I i a s → ∃ x o s', g s i = some x ∧ elt x s = some (o, s') ∧ I (i + 1) (a ++ o.toList) s') :
    ∀ (k i : Nat) (a : List P) (s : Sto), i + k = n → I i a s → ∃ r s', compG ok g elt k i s = some (r, s') ∧ I n (a ++ r) s'
  | 0, i, a, s, h, hi => by
    have : i = n := by omega
    subst this
    obtain ⟨h1, h2⟩ := stop a s hi
    exact ⟨[], s, by simp [compG, h1, h2], by simpa using hi⟩
  | k + 1, i, a, s, h, hi => by
    obtain ⟨x, o, s1, hx, hb, hI⟩ := step i a s (by omega) hi
    obtain ⟨r, s2, h2, h3⟩ := comp_inv n I stop step k (i + 1) _ s1 (by omega) hI
    refine ⟨o.toList ++ r, s2, ?_, by simpa using h3⟩
    unfold compG
    simp only [hx, hb, Option.bind_some, h2, Option.map_some]
theorem comp_pure {ok : Sto → Bool} {g : Sto → Nat → Option P} {elt : P → Sto → Option (Option P × Sto)} {S : Sto} {l : List P} (f : P → Option P) (hok : ok S = true) (hg : ∀ i, g S i = l[i]?) (he : ∀ x, x ∈ l → elt x S = some (f x, S)) :
    compG ok g elt l.length 0 S = some (l.filterMap f, S) := by
  have key : ∀ (k i : Nat), i + k = l.length → compG ok g elt k i S = some ((l.drop i).filterMap f, S) := by
    intro k
    induction k with
    | zero =>
      intro i h
      have : i = l.length := by omega
      subst this
      simp [compG, hg, hok]
    | succ k ih =>
      intro i h
      have hi : i < l.length := by omega
      unfold compG
      rw [hg, List.getElem?_eq_getElem hi]
      simp only [he _ (List.getElem_mem hi), Option.bind_some, ih (i + 1) (by omega), Option.map_some]
      rw [List.drop_eq_getElem_cons hi, List.filterMap_cons]
      cases f l[i] <;> rfl
  simpa using key l.length 0 (by omega)
end DS
set_option maxRecDepth 100000
set_option maxHeartbeats 4000000
namespace DS
open PySem L2
def WO {α : Type} (o : Option α) (Q : α → Prop) : Prop := match o with
  | some a => Q a
  | none => False
theorem WO.ex {α : Type} {o : Option α} {Q : α → Prop} (h : WO o Q) : ∃ a, o = some a ∧ Q a := by
  cases o with
  | none => exact h.elim
  | some a => exact ⟨a, rfl, h⟩
theorem WO.mk {α : Type} {o : Option α} {Q : α → Prop} {a : α} (h : o = some a) (q : Q a) : WO o Q := by rw [h]; exact q
def wOn (o : Bool) (v : P) (Q : P → Prop) : Prop := o = true ∧ Q v
def wBinI (op : Operator) (i j : Int) (Q : P → Prop) : Prop :=
  match op with
  | .Add => Q (.int (i + j))
  | .Sub => Q (.int (i - j))
  | .Mult => wOn (mulOk i j) (.int (i * j)) Q
  | .FloorDiv => (0 < j ∧ (j < 1073741824 ∨ j.natAbs.log2 < 9000)) ∧ Q (.int (i / j))
  | .Mod => 0 < j ∧ Q (.int (i % j))
  | .Pow => wOn (powOk i j) (.int (i ^ j.toNat)) Q
  | .LShift => wOn (powOk i j) (.int (i * 2 ^ j.toNat)) Q
  | .RShift => 0 ≤ j ∧ Q (.int (i / 2 ^ j.toNat))
  | .BitAnd => Q (.int (Builtin.bitAnd i j))
  | .BitOr => Q (.int (Builtin.bitOr i j))
  | .BitXor => Q (.int (Builtin.bitXor i j))
  | _ => False
def wBin (op : Operator) (x y : P) (Q : P → Prop) : Prop :=
  match x, y with
  | .int i, .int j => wBinI op i j Q
  | .str a, .str b => op = .Add ∧ fitsN (a.length + b.length) = true ∧ Q (.str (a ++ b))
  | .tuple xs, .tuple ys => op = .Add ∧ fitsN (xs.length + ys.length) = true ∧ Q (.tuple (xs ++ ys))
  | .list xs, .list ys => op = .Add ∧ fitsN (xs.length + ys.length) = true ∧ Q (.list (xs ++ ys))
  | .tuple xs, .int k => op = .Mult ∧ ((-9223372036854775808 ≤ k ∧ k ≤ 1000) ∧ xs.length ≤ 1000) ∧ Q (.tuple (List.replicate k.toNat xs).flatten)
  | .list xs, .int k => op = .Mult ∧ ((-9223372036854775808 ≤ k ∧ k < 9223372036854775808) ∧ fitsN (xs.length * k.toNat) = true) ∧ Q (.list (List.replicate k.toNat xs).flatten)
  | _, _ => False
theorem wBinI.ex {op : Operator} {i j : Int} {Q : P → Prop} (h : wBinI op i j Q) : ∃ z, binI op i j = some z ∧ Q z := by
  cases op <;> first
    | exact ⟨_, rfl, h⟩
    | (obtain ⟨h1, h2⟩ := h; exact ⟨_, (by unfold binI onI; simp [h1]), h2⟩)
    | (obtain ⟨h1, h2⟩ := h; exact ⟨_, (by unfold binI onI; exact if_pos h1), h2⟩)
    | exact h.elim
theorem wBin.ex {op : Operator} {x y : P} {Q : P → Prop} (h : wBin op x y Q) : ∃ z, binP op x y = some z ∧ Q z := by
  unfold wBin at h
  split at h
  · exact wBinI.ex h
  · obtain ⟨rfl, h1, h2⟩ := h
    exact ⟨_, by simp [binP, onI, h1], h2⟩
  · obtain ⟨rfl, h1, h2⟩ := h
    exact ⟨_, by simp [binP, onI, h1], h2⟩
  · obtain ⟨rfl, h1, h2⟩ := h
    exact ⟨_, by simp [binP, onI, h1], h2⟩
  · rename_i xs k
    obtain ⟨rfl, ⟨h1, h3⟩, h2⟩ := h
    refine ⟨.tuple (List.replicate k.toNat xs).flatten, ?_, h2⟩
    show (if Operator.Mult = Operator.Mult then onI _ _ else none) = _
    rw [if_pos rfl]
    exact if_pos (by rw [decide_eq_true h1, decide_eq_true h3]; rfl)
  · rename_i xs k
    obtain ⟨rfl, ⟨h0, h1⟩, h2⟩ := h
    refine ⟨.list (List.replicate k.toNat xs).flatten, ?_, h2⟩
    show (if Operator.Mult = Operator.Mult then onI _ _ else none) = _
    rw [if_pos rfl]
    exact if_pos (by rw [decide_eq_true h0, h1]; rfl)
  · exact h.elim
def wB (d : D) (T E : Prop) : Prop := match d with
  | .p (.bool b) => (b = true → T) ∧ (b = false → E)
  | _ => False
def wInt (d : D) (Q : Int → Prop) : Prop := match d with
  | .p (.int i) => Q i
  | _ => False
def wLst (d : D) (Q : List P → Prop) : Prop := match d with
  | .p (.list xs) => Q xs
  | _ => False
def wPart (c : C) (w : (D → Sto → Prop) → Prop) (S : Sto) (Q : Option Int → Sto → Prop) : Prop := match c with
  | .nil => Q none S
  | _ => w fun d S2 => wInt d fun i => Q (some i) S2
theorem wPart.ex {c : C} {w : (D → Sto → Prop) → Prop} {S : Sto} {Q : Option Int → Sto → Prop} {r : Option (D × Sto)} (h : wPart c w S Q) (hw : ∀ Q, w Q → ∃ d S', r = some (d, S') ∧ Q d S') : ∃ l S', partD c r S = some (l, S') ∧ Q l S' := by
  have gen : isNil c = false → (w fun d S2 => wInt d fun i => Q (some i) S2) → ∃ l S', partD c r S = some (l, S') ∧ Q l S' := fun hn h => by
    obtain ⟨d, S', e, q⟩ := hw _ h
    unfold wInt at q
    split at q
    · rename_i i
      exact ⟨some i, S', by simp [partD, hn, e], q⟩
    · exact q.elim
  cases c <;> first | exact ⟨none, S, rfl, h⟩ | exact gen rfl h
theorem wB.ex {d : D} {T E : Prop} (h : wB d T E) : ∃ b, d = .p (.bool b) ∧ (b = true → T) ∧ (b = false → E) := by
  unfold wB at h
  split at h
  · exact ⟨_, rfl, h⟩
  · exact h.elim
theorem wInt.ex {d : D} {Q : Int → Prop} (h : wInt d Q) : ∃ i, d = .p (.int i) ∧ Q i := by
  unfold wInt at h
  split at h
  · exact ⟨_, rfl, h⟩
  · exact h.elim
theorem wLst.ex {d : D} {Q : List P → Prop} (h : wLst d Q) : ∃ i, d = .p (.list i) ∧ Q i := by
  unfold wLst at h
  split at h
  · exact ⟨_, rfl, h⟩
  · exact h.elim
section
variable (F : FT) (G : Nat → Option P)
mutual
def wpE : C → DEnv → Sto → (D → Sto → Prop) → Prop
  | .var i, env, S, Q => match env[i]? with
    | some (some d) => Q d S
    | _ => False
  | .cint i, _, S, Q => Q (.p (.int i)) S
  | .cstr x, _, S, Q => Q (.p (.str x)) S
  | .cbl b, _, S, Q => Q (.p (.bool b)) S
  | .cnon, _, S, Q => Q (.p .none) S
  | .glb g, _, S, Q => WO (G g) fun x => Q (.p x) S
  | .bin op a b, env, S, Q => wpE a env S fun d1 S1 => wpE b env S1 fun d2 S2 => WO (snapE S2 d1) fun x => WO (snapE S2 d2) fun y => wBin op x y fun z => Q (.p z) S2
  | .neg a, env, S, Q => wpE a env S fun d1 S1 => wInt d1 fun i => Q (.p (.int (-i))) S1
  | .inv a, env, S, Q => wpE a env S fun d1 S1 => wInt d1 fun i => Q (.p (.int (Builtin.bitNot i))) S1
  | .cmp op a b, env, S, Q => wpE a env S fun d1 S1 => wpE b env S1 fun d2 S2 => WO (snap S2 d1) fun x => WO (snap S2 d2) fun y => WO (cmpP op x y) fun z => Q (.p (.bool z)) S2
  | .and a b, env, S, Q => wpE a env S fun d1 S1 => wB d1 (wpE b env S1 fun d2 S2 => (∃ z, d2 = .p (.bool z)) ∧ Q d2 S2) (Q (.p (.bool false)) S1)
  | .or a b, env, S, Q => wpE a env S fun d1 S1 => wB d1 (Q (.p (.bool true)) S1) (wpE b env S1 fun d2 S2 => (∃ z, d2 = .p (.bool z)) ∧ Q d2 S2)
  | .not a, env, S, Q => wpE a env S fun d1 S1 => match d1 with
    | .p (.bool b) => Q (.p (.bool (!b))) S1
    | _ => False
  | .ite c a b, env, S, Q => wpE c env S fun d1 S1 => wB d1 (wpE a env S1 Q) (wpE b env S1 Q)
  | .tup es, env, S, Q => wpA es env S fun ds S1 => WO (pursD ds) fun xs => wOn (fitsN xs.length) (.tuple xs) fun z => Q (.p z) S1
  | .lst es, env, S, Q => wpA es env S fun ds S1 => WO (pursD ds) fun xs => wOn (fitsN xs.length) (.list xs) fun z => Q (.p z) S1
  | .mk a, env, S, Q => wpE a env S fun d1 S1 => wLst d1 fun xs => Q (.r S1.length) (S1 ++ [.lst xs])
  | .cal f m es, env, S, Q => wpA es env S fun ds S1 => WO (callD F f m ds S1) fun r => Q r.1 r.2
  | .cak f m es ks perm, env, S, Q => wpA es env S fun ds S1 => wpA ks env S1 fun es S2 => WO (permD perm (ds ++ es)) fun ds => WO (callD F f m ds S2) fun r => Q r.1 r.2
  | .bi b es, env, S, Q => wpA es env S fun ds S1 => WO (snaps S1 ds) fun xs => WO (biF b xs) fun z => Q (.p z) S1
  | .rpl es, env, S, Q => wpA es env S fun ds S1 => WO (snaps S1 ds) fun xs => fitsN xs.length = true ∧ WO (biF .repr [.list xs]) fun z => Q (.p z) S1
  | .isi T a, env, S, Q => wpE a env S fun d S1 => WO (snapE S1 d) fun x => Q (.p (.bool (isiP T x))) S1
  | .chn op op' a b c, env, S, Q => wpE a env S fun d1 S1 => wpE b env S1 fun d2 S2 => WO (snap S2 d1) fun x => WO (snap S2 d2) fun y => WO (cmpP op x y) fun z => wB (.p (.bool z)) (wpE c env S2 fun d3 S3 => WO (snap S3 d2) fun y' => WO (snap S3 d3) fun w => WO (cmpP op' y' w) fun z' => Q (.p (.bool z')) S3) (Q (.p (.bool false)) S2)
  | .ix a b, env, S, Q => wpE a env S fun d1 S1 => wpE b env S1 fun d2 S2 => WO (snap S2 d1) fun x => WO (snap S2 d2) fun y => WO (ixP x y) fun z => Q (.p z) S2
  | .dix a b, env, S, Q => wpE a env S fun d1 S1 => wpE b env S1 fun d2 S2 => WO (dixD d1 d2 S2) fun z => Q z S2
  | .din n a b, env, S, Q => wpE a env S fun d1 S1 => wpE b env S1 fun d2 S2 => WO (dinD d1 d2 S2) fun z => Q (.p (.bool (if n = true then !z else z))) S2
  | .sl a lo hi, env, S, Q => wpE a env S fun d1 S1 => wPart lo (wpE lo env S1) S1 fun l S2 => wPart hi (wpE hi env S2) S2 fun h S3 => WO (snap S3 d1) fun x => WO (slP l h x) fun z => Q (.p z) S3
  | .lc elt tg it cnd own, env, S, Q => wpI it env S fun src S1 => fitsN (lenS S1 src) = true ∧ WO (compG (fun S => isRl S src) (fun S i => atS S src i) (stepD F G elt tg cnd own env) (lenS S1 src) 0 S1) fun r => Q (.p (.list r.1)) r.2
  | .mth m o es, env, S, Q => wpE o env S fun d1 S1 => ownL S1 d1 = true ∧ wpA es env S1 fun ds S2 => WO (mthD m d1 ds S2) fun r => Q r.1 r.2
  | .dic ks es, env, S, Q => wpA es env S fun ds S1 => (ks.length = ds.length ∧ ks.length ≤ 15 ∧ ks.Nodup) ∧ Q (.r S1.length) (S1 ++ [.dic (ks.zip ds)])
  | .lrg1 t a, env, S, Q => wpE a env S fun d1 S1 => wInt d1 fun j => (rgOk j = true ∧ fitsN j.toNat = true) ∧ Q (.p (seqP t (rgP 0 j))) S1
  | .lrg2 t a b, env, S, Q => wpE a env S fun d1 S1 => wpE b env S1 fun d2 S2 => wInt d1 fun i => wInt d2 fun j => (rgOk i = true ∧ rgOk j = true ∧ fitsN (j - i).toNat = true) ∧ Q (.p (seqP t (rgP i j))) S2
  | .dp0, _, S, Q => Q (.p (.dict [])) S
  | .dpl ks es, env, S, Q => wpA es env S fun ds S1 => WO (pursD ds) fun xs => (ks.length = xs.length ∧ ks.length ≤ 15 ∧ ks.Nodup) ∧ Q (.p (.dict ((ks.map keyD).zip xs))) S1
  | .rpv a, env, S, Q => wpE a env S fun d S1 => WO (snapE S1 d) fun x => (PyData.showable x && decide (x.depth ≤ 64) && fitsN x.shown.length) = true ∧ Q (.p (.str x.shown)) S1
  | c, env, S, Q => WO (denE F G c env S) fun r => Q r.1 r.2
def wpA : C → DEnv → Sto → (List D → Sto → Prop) → Prop
  | .nil, _, S, Q => Q [] S
  | .cons a b, env, S, Q => wpE a env S fun d S1 => wpA b env S1 fun ds S2 => Q (d :: ds) S2
  | _, _, _, _ => False
def wpI : C → DEnv → Sto → (Src → Sto → Prop) → Prop
  | .rg1 a, env, S, Q => wpE a env S fun d S1 => wInt d fun j => rgOk j = true ∧ Q (.rg 0 1 j.toNat) S1
  | .rg2 a b, env, S, Q => wpE a env S fun d S1 => wpE b env S1 fun d2 S2 => wInt d fun i => wInt d2 fun j => (rgOk i = true ∧ rgOk j = true) ∧ Q (.rg i 1 (j - i).toNat) S2
  | .sq a, env, S, Q => wpE a env S fun d S1 => match d with
    | .p (.tuple xs) => Q (.it xs) S1
    | .p (.str x) => Q (.it (strSq x)) S1
    | d => WO (okSq S1 d) fun s => Q s S1
  | .en a, env, S, Q => wpE a env S fun d S1 => match d with
    | .p (.tuple xs) => Q (.en (.it xs)) S1
    | d => WO (okSq S1 d) fun s => Q (.en s) S1
  | c, env, S, Q => WO (denI F G c env S) fun r => Q r.1 r.2
end
def WkE (c : C) : Prop := ∀ env S Q, wpE F G c env S Q → ∃ d S', denE F G c env S = some (d, S') ∧ Q d S'
def WkA (c : C) : Prop := ∀ env S Q, wpA F G c env S Q → ∃ d S', denA F G c env S = some (d, S') ∧ Q d S'
def WkI (c : C) : Prop := ∀ env S Q, wpI F G c env S Q → ∃ d S', denI F G c env S = some (d, S') ∧ Q d S'
theorem wk_rest {c : C} (h : ∀ env S Q, wpE F G c env S Q = WO (denE F G c env S) fun r => Q r.1 r.2) : WkE F G c := fun env S Q w => by
  rw [h] at w
  obtain ⟨⟨d, S'⟩, e, q⟩ := w.ex
  exact ⟨d, S', e, q⟩
theorem wk_restI {c : C} (h : ∀ env S Q, wpI F G c env S Q = WO (denI F G c env S) fun r => Q r.1 r.2) : WkI F G c := fun env S Q w => by
  rw [h] at w
  obtain ⟨⟨d, S'⟩, e, q⟩ := w.ex
  exact ⟨d, S', e, q⟩
theorem wk_noA {c : C} (h : ∀ env S Q, wpA F G c env S Q = False) : WkA F G c := fun env S Q w => by rw [h] at w; exact w.elim
theorem wp_ok : ∀ c : C, WkE F G c ∧ WkA F G c ∧ WkI F G c := by
  intro c
  induction c with
  | nil => exact ⟨wk_rest F G fun _ _ _ => rfl, fun env S Q w => ⟨_, _, rfl, w⟩, wk_restI F G fun _ _ _ => rfl⟩
  | cons a b ha hb =>
    refine ⟨wk_rest F G fun _ _ _ => rfl, fun env S Q w => ?_, wk_restI F G fun _ _ _ => rfl⟩
    obtain ⟨d, S1, e1, w⟩ := ha.1 _ _ _ w
    obtain ⟨ds, S2, e2, w⟩ := hb.2.1 _ _ _ w
    exact ⟨_, _, by simp [denA, e1, e2], w⟩
  | var i =>
    refine ⟨fun env S Q w => ?_, wk_noA F G fun _ _ _ => rfl, wk_restI F G fun _ _ _ => rfl⟩
    simp only [wpE] at w
    split at w
    · rename_i d h
      exact ⟨d, S, by simp [denE, h], w⟩
    · exact w.elim
  | cint i => exact ⟨fun env S Q w => ⟨_, _, rfl, w⟩, wk_noA F G fun _ _ _ => rfl, wk_restI F G fun _ _ _ => rfl⟩
  | cstr i => exact ⟨fun env S Q w => ⟨_, _, rfl, w⟩, wk_noA F G fun _ _ _ => rfl, wk_restI F G fun _ _ _ => rfl⟩
  | cbl i => exact ⟨fun env S Q w => ⟨_, _, rfl, w⟩, wk_noA F G fun _ _ _ => rfl, wk_restI F G fun _ _ _ => rfl⟩
  | cnon => exact ⟨fun env S Q w => ⟨_, _, rfl, w⟩, wk_noA F G fun _ _ _ => rfl, wk_restI F G fun _ _ _ => rfl⟩
  | glb g =>
    refine ⟨fun env S Q w => ?_, wk_noA F G fun _ _ _ => rfl, wk_restI F G fun _ _ _ => rfl⟩
    obtain ⟨x, e, w⟩ := WO.ex w
    exact ⟨_, _, by simp [denE, e], w⟩
  | bin op a b ha hb =>
    refine ⟨fun env S Q w => ?_, wk_noA F G fun _ _ _ => rfl, wk_restI F G fun _ _ _ => rfl⟩
    obtain ⟨d1, S1, e1, w⟩ := ha.1 _ _ _ w
    obtain ⟨d2, S2, e2, w⟩ := hb.1 _ _ _ w
    obtain ⟨x, e3, w⟩ := WO.ex w
    obtain ⟨y, e4, w⟩ := WO.ex w
    obtain ⟨z, e5, w⟩ := wBin.ex w
    exact ⟨_, _, by simp [denE, e1, e2, e3, e4, e5], w⟩
  | neg a ha =>
    refine ⟨fun env S Q w => ?_, wk_noA F G fun _ _ _ => rfl, wk_restI F G fun _ _ _ => rfl⟩
    obtain ⟨d1, S1, e1, w⟩ := ha.1 _ _ _ w
    obtain ⟨i, rfl, w⟩ := wInt.ex w
    exact ⟨_, _, by simp [denE, e1], w⟩
  | inv a ha =>
    refine ⟨fun env S Q w => ?_, wk_noA F G fun _ _ _ => rfl, wk_restI F G fun _ _ _ => rfl⟩
    obtain ⟨d1, S1, e1, w⟩ := ha.1 _ _ _ w
    obtain ⟨i, rfl, w⟩ := wInt.ex w
    exact ⟨_, _, by simp [denE, e1], w⟩
  | cmp op a b ha hb =>
    refine ⟨fun env S Q w => ?_, wk_noA F G fun _ _ _ => rfl, wk_restI F G fun _ _ _ => rfl⟩
    obtain ⟨d1, S1, e1, w⟩ := ha.1 _ _ _ w
    obtain ⟨d2, S2, e2, w⟩ := hb.1 _ _ _ w
    obtain ⟨x, e3, w⟩ := WO.ex w
    obtain ⟨y, e4, w⟩ := WO.ex w
    obtain ⟨z, e5, w⟩ := WO.ex w
    exact ⟨_, _, by simp [denE, e1, e2, e3, e4, e5], w⟩
  | and a b ha hb =>
    refine ⟨fun env S Q w => ?_, wk_noA F G fun _ _ _ => rfl, wk_restI F G fun _ _ _ => rfl⟩
    obtain ⟨d1, S1, e1, w⟩ := ha.1 _ _ _ w
    obtain ⟨v, rfl, w1, w2⟩ := wB.ex w
    cases v with
    | true =>
      obtain ⟨d2, S2, e2, ⟨z, rfl⟩, w⟩ := hb.1 _ _ _ (w1 rfl)
      exact ⟨_, _, by simp [denE, asB, e1, e2], w⟩
    | false => exact ⟨_, _, by simp [denE, asB, e1], w2 rfl⟩
  | or a b ha hb =>
    refine ⟨fun env S Q w => ?_, wk_noA F G fun _ _ _ => rfl, wk_restI F G fun _ _ _ => rfl⟩
    obtain ⟨d1, S1, e1, w⟩ := ha.1 _ _ _ w
    obtain ⟨v, rfl, w1, w2⟩ := wB.ex w
    cases v with
    | false =>
      obtain ⟨d2, S2, e2, ⟨z, rfl⟩, w⟩ := hb.1 _ _ _ (w2 rfl)
      exact ⟨_, _, by simp [denE, asB, e1, e2], w⟩
    | true => exact ⟨_, _, by simp [denE, asB, e1], w1 rfl⟩
  | not a ha =>
    refine ⟨fun env S Q w => ?_, wk_noA F G fun _ _ _ => rfl, wk_restI F G fun _ _ _ => rfl⟩
    obtain ⟨d1, S1, e1, w⟩ := ha.1 _ _ _ w
    split at w
    · exact ⟨_, _, by simp [denE, asB, e1], w⟩
    · exact w.elim
  | ite c a b hc ha hb =>
    refine ⟨fun env S Q w => ?_, wk_noA F G fun _ _ _ => rfl, wk_restI F G fun _ _ _ => rfl⟩
    obtain ⟨d1, S1, e1, w⟩ := hc.1 _ _ _ w
    obtain ⟨v, rfl, w1, w2⟩ := wB.ex w
    cases v with
    | true =>
      obtain ⟨d2, S2, e2, w⟩ := ha.1 _ _ _ (w1 rfl)
      exact ⟨_, _, by simp [denE, asB, e1, e2], w⟩
    | false =>
      obtain ⟨d2, S2, e2, w⟩ := hb.1 _ _ _ (w2 rfl)
      exact ⟨_, _, by simp [denE, asB, e1, e2], w⟩
  | tup es ha =>
    refine ⟨fun env S Q w => ?_, wk_noA F G fun _ _ _ => rfl, wk_restI F G fun _ _ _ => rfl⟩
    obtain ⟨ds, S1, e1, w⟩ := ha.2.1 _ _ _ w
    obtain ⟨xs, e2, w1, w2⟩ := WO.ex w
    exact ⟨_, _, by simp [denE, e1, e2, onI, w1], w2⟩
  | lst es ha =>
    refine ⟨fun env S Q w => ?_, wk_noA F G fun _ _ _ => rfl, wk_restI F G fun _ _ _ => rfl⟩
    obtain ⟨ds, S1, e1, w⟩ := ha.2.1 _ _ _ w
    obtain ⟨xs, e2, w1, w2⟩ := WO.ex w
    exact ⟨_, _, by simp [denE, e1, e2, onI, w1], w2⟩
  | mk a ha =>
    refine ⟨fun env S Q w => ?_, wk_noA F G fun _ _ _ => rfl, wk_restI F G fun _ _ _ => rfl⟩
    obtain ⟨d1, S1, e1, w⟩ := ha.1 _ _ _ w
    obtain ⟨i, rfl, w⟩ := wLst.ex w
    exact ⟨_, _, by simp [denE, e1], w⟩
  | cal f m es ha =>
    refine ⟨fun env S Q w => ?_, wk_noA F G fun _ _ _ => rfl, wk_restI F G fun _ _ _ => rfl⟩
    obtain ⟨ds, S1, e1, w⟩ := ha.2.1 _ _ _ w
    obtain ⟨⟨d, S2⟩, e2, w⟩ := WO.ex w
    exact ⟨_, _, by simp [denE, e1, e2], w⟩
  | cak f m es ks perm ha hk =>
    refine ⟨fun env S Q w => ?_, wk_noA F G fun _ _ _ => rfl, wk_restI F G fun _ _ _ => rfl⟩
    obtain ⟨ds, S1, e1, w⟩ := ha.2.1 _ _ _ w
    obtain ⟨es2, S2, e2, w⟩ := hk.2.1 _ _ _ w
    obtain ⟨ds2, e3, w⟩ := WO.ex w
    obtain ⟨⟨d, S3⟩, e4, w⟩ := WO.ex w
    exact ⟨_, _, by simp [denE, e1, e2, e3, e4], w⟩
  | bi b es ha =>
    refine ⟨fun env S Q w => ?_, wk_noA F G fun _ _ _ => rfl, wk_restI F G fun _ _ _ => rfl⟩
    obtain ⟨ds, S1, e1, w⟩ := ha.2.1 _ _ _ w
    obtain ⟨xs, e2, w⟩ := WO.ex w
    obtain ⟨z, e3, w⟩ := WO.ex w
    exact ⟨_, _, by simp [denE, e1, e2, e3], w⟩
  | rpl es ha =>
    refine ⟨fun env S Q w => ?_, wk_noA F G fun _ _ _ => rfl, wk_restI F G fun _ _ _ => rfl⟩
    obtain ⟨ds, S1, e1, w⟩ := ha.2.1 _ _ _ w
    obtain ⟨xs, e2, hf, w⟩ := WO.ex w
    obtain ⟨z, e3, w⟩ := WO.ex w
    exact ⟨_, _, by simp [denE, e1, e2, e3, hf], w⟩
  | dp0 => exact ⟨fun env S Q w => ⟨_, _, rfl, w⟩, wk_noA F G fun _ _ _ => rfl, wk_restI F G fun _ _ _ => rfl⟩
  | dpl ks es ha =>
    refine ⟨fun env S Q w => ?_, wk_noA F G fun _ _ _ => rfl, wk_restI F G fun _ _ _ => rfl⟩
    obtain ⟨ds, S1, e1, w⟩ := ha.2.1 _ _ _ w
    obtain ⟨xs, e2, hf, w⟩ := WO.ex w
    exact ⟨_, _, by simp only [denE, e1, e2, Option.bind_some]; exact if_pos hf, w⟩
  | rpv a ha =>
    refine ⟨fun env S Q w => ?_, wk_noA F G fun _ _ _ => rfl, wk_restI F G fun _ _ _ => rfl⟩
    obtain ⟨d1, S1, e1, w⟩ := ha.1 _ _ _ w
    obtain ⟨x, e3, hf, w⟩ := WO.ex w
    have hd : denE F G (.rpv a) env S = some (.p (.str x.shown), S1) := by
      show (denE F G a env S).bind _ = _
      rw [e1]
      show (snapE S1 d1).bind _ = _
      rw [e3]
      exact if_pos hf
    exact ⟨_, _, hd, w⟩
  | isi T a ha =>
    refine ⟨fun env S Q w => ?_, wk_noA F G fun _ _ _ => rfl, wk_restI F G fun _ _ _ => rfl⟩
    obtain ⟨d1, S1, e1, w⟩ := ha.1 _ _ _ w
    obtain ⟨x, e3, w⟩ := WO.ex w
    exact ⟨_, _, by simp [denE, e1, e3], w⟩
  | chn op op' a b c ha hb hc =>
    refine ⟨fun env S Q w => ?_, wk_noA F G fun _ _ _ => rfl, wk_restI F G fun _ _ _ => rfl⟩
    obtain ⟨d1, S1, e1, w⟩ := ha.1 _ _ _ w
    obtain ⟨d2, S2, e2, w⟩ := hb.1 _ _ _ w
    obtain ⟨x, e3, w⟩ := WO.ex w
    obtain ⟨y, e4, w⟩ := WO.ex w
    obtain ⟨z, e5, w1, w2⟩ := WO.ex w
    cases z with
    | false => exact ⟨_, _, by simp [denE, e1, e2, e3, e4, e5], w2 rfl⟩
    | true =>
      obtain ⟨d3, S3, e6, w⟩ := hc.1 _ _ _ (w1 rfl)
      obtain ⟨y', e7, w⟩ := WO.ex w
      obtain ⟨x', e8, w⟩ := WO.ex w
      obtain ⟨z', e9, w⟩ := WO.ex w
      exact ⟨_, _, by simp [denE, e1, e2, e3, e4, e5, e6, e7, e8, e9], w⟩
  | ix a b ha hb =>
    refine ⟨fun env S Q w => ?_, wk_noA F G fun _ _ _ => rfl, wk_restI F G fun _ _ _ => rfl⟩
    obtain ⟨d1, S1, e1, w⟩ := ha.1 _ _ _ w
    obtain ⟨d2, S2, e2, w⟩ := hb.1 _ _ _ w
    obtain ⟨x, e3, w⟩ := WO.ex w
    obtain ⟨y, e4, w⟩ := WO.ex w
    obtain ⟨z, e5, w⟩ := WO.ex w
    exact ⟨_, _, by simp [denE, e1, e2, e3, e4, e5], w⟩
  | dix a b ha hb =>
    refine ⟨fun env S Q w => ?_, wk_noA F G fun _ _ _ => rfl, wk_restI F G fun _ _ _ => rfl⟩
    obtain ⟨d1, S1, e1, w⟩ := ha.1 _ _ _ w
    obtain ⟨d2, S2, e2, w⟩ := hb.1 _ _ _ w
    obtain ⟨x, e3, w⟩ := WO.ex w
    exact ⟨_, _, by simp [denE, e1, e2, e3], w⟩
  | din n a b ha hb =>
    refine ⟨fun env S Q w => ?_, wk_noA F G fun _ _ _ => rfl, wk_restI F G fun _ _ _ => rfl⟩
    obtain ⟨d1, S1, e1, w⟩ := ha.1 _ _ _ w
    obtain ⟨d2, S2, e2, w⟩ := hb.1 _ _ _ w
    obtain ⟨x, e3, w⟩ := WO.ex w
    exact ⟨_, _, by simp only [denE, e1, e2, e3, Option.bind_some, Option.map_some], w⟩
  | sl a lo hi ha hl hh =>
    refine ⟨fun env S Q w => ?_, wk_noA F G fun _ _ _ => rfl, wk_restI F G fun _ _ _ => rfl⟩
    obtain ⟨d1, S1, e1, w⟩ := ha.1 _ _ _ w
    obtain ⟨l, S2, e2, w⟩ := wPart.ex w fun Q w => hl.1 _ _ _ w
    obtain ⟨h, S3, e3, w⟩ := wPart.ex w fun Q w => hh.1 _ _ _ w
    obtain ⟨x, e4, w⟩ := WO.ex w
    obtain ⟨z, e5, w⟩ := WO.ex w
    exact ⟨_, _, by simp [denE, e1, e2, e3, e4, e5], w⟩
  | lc elt tg it cnd own he ht hi hc =>
    refine ⟨fun env S Q w => ?_, wk_noA F G fun _ _ _ => rfl, wk_restI F G fun _ _ _ => rfl⟩
    obtain ⟨src, S1, e1, w0, w⟩ := hi.2.2 _ _ _ w
    obtain ⟨⟨xs, S2⟩, e2, w⟩ := WO.ex w
    refine ⟨_, _, ?_, w⟩
    simp only [denE, e1, Option.bind_some, w0, if_true]
    show (compG _ _ (stepD F G elt tg cnd own env) _ 0 S1).map _ = _
    rw [e2]
    rfl
  | mth m o es ho ha =>
    refine ⟨fun env S Q w => ?_, wk_noA F G fun _ _ _ => rfl, wk_restI F G fun _ _ _ => rfl⟩
    obtain ⟨d1, S1, e1, w0, w⟩ := ho.1 _ _ _ w
    obtain ⟨ds, S2, e2, w⟩ := ha.2.1 _ _ _ w
    obtain ⟨⟨d, S3⟩, e3, w⟩ := WO.ex w
    exact ⟨_, _, by simp [denE, e1, e2, e3, w0], w⟩
  | dic ks es ha =>
    refine ⟨fun env S Q w => ?_, wk_noA F G fun _ _ _ => rfl, wk_restI F G fun _ _ _ => rfl⟩
    obtain ⟨ds, S1, e1, w0, w⟩ := ha.2.1 _ _ _ w
    exact ⟨_, _, by simp only [denE, e1, Option.bind_some]; exact if_pos w0, w⟩
  | lrg1 t a ha =>
    refine ⟨fun env S Q w => ?_, wk_noA F G fun _ _ _ => rfl, wk_restI F G fun _ _ _ => rfl⟩
    obtain ⟨d1, S1, e1, w⟩ := ha.1 _ _ _ w
    obtain ⟨i, rfl, w0, w⟩ := wInt.ex w
    exact ⟨_, _, by simp only [denE, e1, Option.bind_some]; exact if_pos w0, w⟩
  | lrg2 t a b ha hb =>
    refine ⟨fun env S Q w => ?_, wk_noA F G fun _ _ _ => rfl, wk_restI F G fun _ _ _ => rfl⟩
    obtain ⟨d1, S1, e1, w⟩ := ha.1 _ _ _ w
    obtain ⟨d2, S2, e2, w⟩ := hb.1 _ _ _ w
    obtain ⟨i, rfl, w⟩ := wInt.ex w
    obtain ⟨j, rfl, w0, w⟩ := wInt.ex (d := d2) w
    exact ⟨_, _, by simp only [denE, e1, e2, Option.bind_some]; exact if_pos w0, w⟩
  | rg1 a ha =>
    refine ⟨wk_rest F G fun _ _ _ => rfl, wk_noA F G fun _ _ _ => rfl, fun env S Q w => ?_⟩
    obtain ⟨d1, S1, e1, w⟩ := ha.1 _ _ _ w
    obtain ⟨i, rfl, w0, w⟩ := wInt.ex w
    exact ⟨_, _, by simp only [denI, e1, Option.bind_some]; exact if_pos w0, w⟩
  | rg2 a b ha hb =>
    refine ⟨wk_rest F G fun _ _ _ => rfl, wk_noA F G fun _ _ _ => rfl, fun env S Q w => ?_⟩
    obtain ⟨d1, S1, e1, w⟩ := ha.1 _ _ _ w
    obtain ⟨d2, S2, e2, w⟩ := hb.1 _ _ _ w
    obtain ⟨i, rfl, w⟩ := wInt.ex w
    obtain ⟨j, rfl, w0, w⟩ := wInt.ex (d := d2) w
    exact ⟨_, _, by simp only [denI, e1, e2, Option.bind_some]; exact if_pos w0, w⟩
  | sq a ha =>
    refine ⟨wk_rest F G fun _ _ _ => rfl, wk_noA F G fun _ _ _ => rfl, fun env S Q w => ?_⟩
    obtain ⟨d1, S1, e1, w⟩ := ha.1 _ _ _ w
    have rest : WO (okSq S1 d1) (fun s => Q s S1) → ((okSq S1 d1).map fun s => (s, S1)) = denI F G (.sq a) env S → ∃ d S', denI F G (.sq a) env S = some (d, S') ∧ Q d S' := fun w e => by
      obtain ⟨s, e2, w⟩ := WO.ex w
      exact ⟨s, S1, by rw [← e, e2]; rfl, w⟩
    cases d1 with
    | p x => cases x with
      | tuple xs => exact ⟨_, _, by simp [denI, e1], w⟩
      | str xs => exact ⟨_, _, by simp [denI, e1], w⟩
      | _ => exact rest w (by simp [denI, e1])
    | _ => exact rest w (by simp [denI, e1])
  | en a ha =>
    refine ⟨wk_rest F G fun _ _ _ => rfl, wk_noA F G fun _ _ _ => rfl, fun env S Q w => ?_⟩
    obtain ⟨d1, S1, e1, w⟩ := ha.1 _ _ _ w
    have rest : WO (okSq S1 d1) (fun s => Q (.en s) S1) → ((okSq S1 d1).map fun s => (Src.en s, S1)) = denI F G (.en a) env S → ∃ d S', denI F G (.en a) env S = some (d, S') ∧ Q d S' := fun w e => by
      obtain ⟨s, e2, w⟩ := WO.ex w
      exact ⟨.en s, S1, by rw [← e, e2]; rfl, w⟩
    cases d1 with
    | p x => cases x with
      | tuple xs => exact ⟨_, _, by simp [denI, e1], w⟩
      | _ => exact rest w (by simp [denI, e1])
    | _ => exact rest w (by simp [denI, e1])
  | _ => exact ⟨wk_rest F G fun _ _ _ => rfl, wk_noA F G fun _ _ _ => rfl, wk_restI F G fun _ _ _ => rfl⟩
end
end DS
set_option maxRecDepth 100000
set_option maxHeartbeats 4000000
namespace DS
open PySem L2
section
variable (F : FT) (G : Nat → Option P)
mutual
def wpS : C → DEnv → Sto → (Fl → DEnv → Sto → Prop) → Prop
  | .pass, env, S, Q => Q .nx env S
  | .brk, env, S, Q => Q .bk env S
  | .cnt, env, S, Q => Q .ct env S
  | .ex e, env, S, Q => wpE F G e env S fun _ S1 => Q .nx env S1
  | .asg t e, env, S, Q => wpE F G e env S fun d S1 => WO (bindT t d env S1) fun e1 => Q .nx e1 S1
  | .par is es, env, S, Q => wpA F G es env S fun ds S1 => WO (bindPar is ds env) fun e1 => Q .nx e1 S1
  | .setl o i e, env, S, Q => wpE F G e env S fun v S1 => wpE F G o env S1 fun d S2 => wpE F G i env S2 fun k S3 => WO (setlD d k v S3) fun S4 => Q .nx env S4
  | .setd o i e, env, S, Q => wpE F G e env S fun v S1 => wpE F G o env S1 fun d S2 => wpE F G i env S2 fun k S3 => WO (setdD d k v S3) fun S4 => Q .nx env S4
  | .set2 o i o2 i2 e, env, S, Q => wpE F G e env S fun v S1 => match v with
    | .p (.tuple [x, y]) => wpE F G o env S1 fun d S2 => wpE F G i env S2 fun k S3 => WO (setlD d k (.p x) S3) fun S4 => wpE F G o2 env S4 fun d2 S5 => wpE F G i2 env S5 fun k2 S6 => WO (setlD d2 k2 (.p y) S6) fun S7 => Q .nx env S7
    | _ => False
  | .ret e, env, S, Q => wpE F G e env S fun d S1 => Q (.rt d) env S1
  | .retN, env, S, Q => Q (.rt (.p .none)) env S
  | .ifs c a b, env, S, Q => wpE F G c env S fun d S1 => wB d (wpSs a env S1 Q) (wpSs b env S1 Q)
  | .fors t it body, env, S, Q => wpI F G it env S fun src S1 => WO (loopG (fun S => isRl S src) (fun S i => atS S src i) (fun x env S => (bindT t (.p x) env S).bind fun e => denSs F G body e S) (lenS S1 src) 0 env S1) fun r => Q r.1 r.2.1 r.2.2
  | .tri b z, env, S, Q => WO (denS F G (.tri b z) env S) fun r => Q r.1 r.2.1 r.2.2
  | .tra b i z, env, S, Q => WO (denS F G (.tra b i z) env S) fun r => Q r.1 r.2.1 r.2.2
  | .whl fuel c body, env, S, Q => WO (whileG (fun env S => denT F G c env S) (fun env S => denSs F G body env S) fuel env S) fun r => Q r.1 r.2.1 r.2.2
  | _, _, _, _ => False
def wpSs : C → DEnv → Sto → (Fl → DEnv → Sto → Prop) → Prop
  | .nil, env, S, Q => Q .nx env S
  | .cons a b, env, S, Q => wpS a env S fun f e1 S1 => match f with
    | .nx => wpSs b e1 S1 Q
    | f => Q f e1 S1
  | _, _, _, _ => False
end
def WkS (c : C) : Prop := ∀ env S Q, wpS F G c env S Q → ∃ f e' S', denS F G c env S = some (f, e', S') ∧ Q f e' S'
def WkSs (c : C) : Prop := ∀ env S Q, wpSs F G c env S Q → ∃ f e' S', denSs F G c env S = some (f, e', S') ∧ Q f e' S'
theorem wk_noS {c : C} (h : ∀ env S Q, wpS F G c env S Q = False) : WkS F G c := fun env S Q w => by rw [h] at w; exact w.elim
theorem wk_noSs {c : C} (h : ∀ env S Q, wpSs F G c env S Q = False) : WkSs F G c := fun env S Q w => by rw [h] at w; exact w.elim
theorem wpS_ok : ∀ c : C, WkS F G c ∧ WkSs F G c := by
  intro c
  induction c with
  | nil => exact ⟨wk_noS F G fun _ _ _ => rfl, fun env S Q w => ⟨_, _, _, rfl, w⟩⟩
  | cons a b ha hb =>
    refine ⟨wk_noS F G fun _ _ _ => rfl, fun env S Q w => ?_⟩
    obtain ⟨f, e1, S1, h1, w⟩ := ha.1 _ _ _ w
    cases f with
    | nx =>
      obtain ⟨f2, e2, S2, h2, w⟩ := hb.2 _ _ _ w
      exact ⟨_, _, _, by simp [denSs, h1, h2], w⟩
    | bk => exact ⟨_, _, _, by simp only [denSs, h1, Option.bind_some], w⟩
    | ct => exact ⟨_, _, _, by simp only [denSs, h1, Option.bind_some], w⟩
    | rt d => exact ⟨_, _, _, by simp only [denSs, h1, Option.bind_some], w⟩
  | pass => exact ⟨fun env S Q w => ⟨_, _, _, rfl, w⟩, wk_noSs F G fun _ _ _ => rfl⟩
  | brk => exact ⟨fun env S Q w => ⟨_, _, _, rfl, w⟩, wk_noSs F G fun _ _ _ => rfl⟩
  | cnt => exact ⟨fun env S Q w => ⟨_, _, _, rfl, w⟩, wk_noSs F G fun _ _ _ => rfl⟩
  | retN => exact ⟨fun env S Q w => ⟨_, _, _, rfl, w⟩, wk_noSs F G fun _ _ _ => rfl⟩
  | ex e _ =>
    refine ⟨fun env S Q w => ?_, wk_noSs F G fun _ _ _ => rfl⟩
    obtain ⟨d, S1, h1, w⟩ := (wp_ok F G e).1 _ _ _ w
    exact ⟨_, _, _, by simp [denS, h1], w⟩
  | ret e _ =>
    refine ⟨fun env S Q w => ?_, wk_noSs F G fun _ _ _ => rfl⟩
    obtain ⟨d, S1, h1, w⟩ := (wp_ok F G e).1 _ _ _ w
    exact ⟨_, _, _, by simp only [denS, h1, Option.map_some], w⟩
  | asg t e _ _ =>
    refine ⟨fun env S Q w => ?_, wk_noSs F G fun _ _ _ => rfl⟩
    obtain ⟨d, S1, h1, w⟩ := (wp_ok F G e).1 _ _ _ w
    obtain ⟨e1, h2, w⟩ := WO.ex w
    exact ⟨_, _, _, by simp only [denS, h1, h2, Option.bind_some, Option.map_some], w⟩
  | par is es _ =>
    refine ⟨fun env S Q w => ?_, wk_noSs F G fun _ _ _ => rfl⟩
    obtain ⟨d, S1, h1, w⟩ := (wp_ok F G es).2.1 _ _ _ w
    obtain ⟨e1, h2, w⟩ := WO.ex w
    exact ⟨_, _, _, by simp only [denS, h1, h2, Option.bind_some, Option.map_some], w⟩
  | setl o i e _ _ _ =>
    refine ⟨fun env S Q w => ?_, wk_noSs F G fun _ _ _ => rfl⟩
    obtain ⟨d, S1, h1, w⟩ := (wp_ok F G e).1 _ _ _ w
    obtain ⟨d2, S2, h2, w⟩ := (wp_ok F G o).1 _ _ _ w
    obtain ⟨d3, S3, h3, w⟩ := (wp_ok F G i).1 _ _ _ w
    obtain ⟨e1, h4, w⟩ := WO.ex w
    exact ⟨_, _, _, by simp only [denS, h1, h2, h3, h4, Option.bind_some, Option.map_some], w⟩
  | setd o i e _ _ _ =>
    refine ⟨fun env S Q w => ?_, wk_noSs F G fun _ _ _ => rfl⟩
    obtain ⟨d, S1, h1, w⟩ := (wp_ok F G e).1 _ _ _ w
    obtain ⟨d2, S2, h2, w⟩ := (wp_ok F G o).1 _ _ _ w
    obtain ⟨d3, S3, h3, w⟩ := (wp_ok F G i).1 _ _ _ w
    obtain ⟨e1, h4, w⟩ := WO.ex w
    exact ⟨_, _, _, by simp only [denS, h1, h2, h3, h4, Option.bind_some, Option.map_some], w⟩
  | set2 o i o2 i2 e _ _ _ _ _ =>
    refine ⟨fun env S Q w => ?_, wk_noSs F G fun _ _ _ => rfl⟩
    obtain ⟨d, S1, h1, w⟩ := (wp_ok F G e).1 _ _ _ w
    split at w
    · obtain ⟨d2, S2, h2, w⟩ := (wp_ok F G o).1 _ _ _ w
      obtain ⟨d3, S3, h3, w⟩ := (wp_ok F G i).1 _ _ _ w
      obtain ⟨S4, h4, w⟩ := WO.ex w
      obtain ⟨d5, S5, h5, w⟩ := (wp_ok F G o2).1 _ _ _ w
      obtain ⟨d6, S6, h6, w⟩ := (wp_ok F G i2).1 _ _ _ w
      obtain ⟨S7, h7, w⟩ := WO.ex w
      exact ⟨_, _, _, by simp only [denS, h1, h2, h3, h4, h5, h6, h7, Option.bind_some, Option.map_some], w⟩
    · exact w.elim
  | ifs c a b _ ha hb =>
    refine ⟨fun env S Q w => ?_, wk_noSs F G fun _ _ _ => rfl⟩
    obtain ⟨d, S1, h1, w⟩ := (wp_ok F G c).1 _ _ _ w
    obtain ⟨v, rfl, w1, w2⟩ := wB.ex w
    cases v with
    | true =>
      obtain ⟨f2, e2, S2, h2, w⟩ := ha.2 _ _ _ (w1 rfl)
      exact ⟨_, _, _, by simp [denS, denT, asB, h1, h2], w⟩
    | false =>
      obtain ⟨f2, e2, S2, h2, w⟩ := hb.2 _ _ _ (w2 rfl)
      exact ⟨_, _, _, by simp [denS, denT, asB, h1, h2], w⟩
  | fors t it body _ _ _ =>
    refine ⟨fun env S Q w => ?_, wk_noSs F G fun _ _ _ => rfl⟩
    obtain ⟨src, S1, h1, w⟩ := (wp_ok F G it).2.2 _ _ _ w
    obtain ⟨⟨f, e1, S2⟩, h2, w⟩ := WO.ex w
    exact ⟨_, _, _, by simp only [denS, h1, Option.bind_some]; exact h2, w⟩
  | tra b i z _ =>
    refine ⟨fun env S Q w => ?_, wk_noSs F G fun _ _ _ => rfl⟩
    obtain ⟨⟨f, e1, S2⟩, h2, w⟩ := WO.ex w
    exact ⟨_, _, _, h2, w⟩
  | tri b z _ =>
    refine ⟨fun env S Q w => ?_, wk_noSs F G fun _ _ _ => rfl⟩
    obtain ⟨⟨f, e1, S2⟩, h2, w⟩ := WO.ex w
    exact ⟨_, _, _, h2, w⟩
  | whl fuel c body _ _ =>
    refine ⟨fun env S Q w => ?_, wk_noSs F G fun _ _ _ => rfl⟩
    obtain ⟨⟨f, e1, S2⟩, h2, w⟩ := WO.ex w
    exact ⟨_, _, _, h2, w⟩
  | _ => exact ⟨wk_noS F G fun _ _ _ => rfl, wk_noSs F G fun _ _ _ => rfl⟩
def wpF (n k : Nat) (body : C) (ds : List D) (S : Sto) (Q : D → Sto → Prop) : Prop := ds.length = k ∧ wpSs F G body (ds.map some ++ List.replicate (n - k) none) S fun f _ S1 => match f with
  | .rt d => Q d S1
  | .nx => Q (.p .none) S1
  | _ => False
theorem wpF_ok {n k : Nat} {body : C} {ds : List D} {S : Sto} {Q : D → Sto → Prop} (h : wpF F G n k body ds S Q) : ∃ d S', denF F G n k body ds S = some (d, S') ∧ Q d S' := by
  obtain ⟨h1, h2⟩ := h
  obtain ⟨f, e, S1, h3, w⟩ := (wpS_ok F G body).2 _ _ _ h2
  unfold denF
  rw [if_pos h1, h3]
  cases f with
  | nx => exact ⟨_, _, rfl, w⟩
  | rt d => exact ⟨_, _, rfl, w⟩
  | bk => exact w.elim
  | ct => exact w.elim
end
section
variable {F : FT} {G : Nat → Option P}
theorem wp_for {src : Src} {t body : C} {env : DEnv} {S : Sto} {Q : Fl → DEnv → Sto → Prop} (n : Nat) (I : Nat → DEnv → Sto → Prop) (hn : lenS S src = n) (h0 : I 0 env S) (stop : ∀ e s, I n e s → atS s src n = none ∧ isRl s src = true)
    (step : ∀ i e s, i < n → I i e s → ∃ x, atS s src i = some x ∧ WO (bindT t (.p x) e s) fun e1 => wpSs F G body e1 s fun f e2 s2 => (f = .nx ∨ f = .ct) ∧ I (i + 1) e2 s2) (q : ∀ e s, I n e s → Q .nx e s) :
    WO (loopG (fun S => isRl S src) (fun S i => atS S src i) (fun x env S => (bindT t (.p x) env S).bind fun e => denSs F G body e S) (lenS S src) 0 env S) fun r => Q r.1 r.2.1 r.2.2 := by
  rw [hn]
  obtain ⟨e', s', h1, h2⟩ := loop_inv (ok := fun S => isRl S src) (g := fun S i => atS S src i) (body := fun x env S => (bindT t (.p x) env S).bind fun e => denSs F G body e S) n I stop (fun i e s hi hI => by
    obtain ⟨x, hx, w⟩ := step i e s hi hI
    obtain ⟨e1, hb, w⟩ := WO.ex w
    obtain ⟨f, e2, s2, h3, hf, hI2⟩ := (wpS_ok F G body).2 _ _ _ w
    refine ⟨x, e2, s2, hx, ?_, hI2⟩
    simp only [hb, Option.bind_some, h3]
    rcases hf with rfl | rfl
    · exact .inl rfl
    · exact .inr rfl) n 0 env S (by omega) h0
  exact .mk h1 (q e' s' h2)
theorem wp_lc {src : Src} {elt tg cnd : C} {own : List Nat} {env : DEnv} {S : Sto} {Q : List P × Sto → Prop} (n : Nat) (I : Nat → List P → Sto → Prop) (hn : lenS S src = n) (h0 : I 0 [] S) (stop : ∀ a s, I n a s → atS s src n = none ∧ isRl s src = true)
    (step : ∀ i a s, i < n → I i a s → ∃ x, atS s src i = some x ∧ WO (bindT tg (.p x) (wipeE env own) s) fun e1 => ∃ b s1, condD cnd (denE F G cnd e1 s) s = some (b, s1) ∧ (b = true → wpE F G elt e1 s1 fun d s2 => ∃ y, d = .p y ∧ I (i + 1) (a ++ [y]) s2) ∧ (b = false → I (i + 1) a s1)) (q : ∀ a s, I n a s → Q (a, s)) :
    WO (compG (fun S => isRl S src) (fun S i => atS S src i) (stepD F G elt tg cnd own env) (lenS S src) 0 S) Q := by
  rw [hn]
  obtain ⟨r, s', h1, h2⟩ := comp_inv (ok := fun S => isRl S src) (g := fun S i => atS S src i) (elt := stepD F G elt tg cnd own env) n I stop (fun i a s hi hI => by
    obtain ⟨x, hx, w⟩ := step i a s hi hI
    obtain ⟨e1, hb, b, s1, hc, w1, w2⟩ := WO.ex w
    cases b with
    | true =>
      obtain ⟨d, s2, h3, y, rfl, hI2⟩ := (wp_ok F G elt).1 _ _ _ (w1 rfl)
      exact ⟨x, some y, s2, hx, by simp [stepD, hb, hc, h3, purD], hI2⟩
    | false => exact ⟨x, none, s1, hx, by simp [stepD, hb, hc], by simpa using w2 rfl⟩) n 0 [] S (by omega) h0
  exact .mk h1 (q _ _ (by simpa using h2))
theorem wp_map {src : Src} {elt tg : C} {own : List Nat} {env : DEnv} {S : Sto} {Q : List P × Sto → Prop} (f : P → P) (hr : isRl S src = true) (he : ∀ x, x ∈ srcL S src → WO (bindT tg (.p x) (wipeE env own) S) fun e1 => wpE F G elt e1 S fun d s2 => d = .p (f x) ∧ s2 = S) (q : Q ((srcL S src).map f, S)) :
    WO (compG (fun S => isRl S src) (fun S i => atS S src i) (stepD F G elt tg .nil own env) (lenS S src) 0 S) Q := by
  rw [lenS_srcL]
  refine .mk (comp_pure (l := srcL S src) (fun x => some (f x)) hr (fun i => atS_srcL S src i) fun x hx => ?_) ?_
  · obtain ⟨e1, h1, w⟩ := (he x hx).ex
    obtain ⟨d, s2, h2, rfl, rfl⟩ := (wp_ok F G elt).1 _ _ _ w
    simp [stepD, h1, condD, isNil, h2, purD]
  · have : (srcL S src).filterMap (fun x => some (f x)) = (srcL S src).map f := by
      induction (srcL S src) with
      | nil => rfl
      | cons x l ih => simp [List.filterMap_cons]
    rw [this]
    exact q
theorem wp_filter {src : Src} {elt tg cnd : C} {own : List Nat} {env : DEnv} {S : Sto} {Q : List P × Sto → Prop} (f : P → P) (b : P → Bool) (hc : isNil cnd = false) (hr : isRl S src = true)
    (he : ∀ x, x ∈ srcL S src → WO (bindT tg (.p x) (wipeE env own) S) fun e1 => (wpE F G cnd e1 S fun d s2 => d = .p (.bool (b x)) ∧ s2 = S) ∧ (b x = true → wpE F G elt e1 S fun d s2 => d = .p (f x) ∧ s2 = S)) (q : Q (((srcL S src).filter b).map f, S)) :
    WO (compG (fun S => isRl S src) (fun S i => atS S src i) (stepD F G elt tg cnd own env) (lenS S src) 0 S) Q := by
  rw [lenS_srcL]
  refine .mk (comp_pure (l := srcL S src) (fun x => if b x = true then some (f x) else none) hr (fun i => atS_srcL S src i) fun x hx => ?_) ?_
  · obtain ⟨e1, h1, w1, w2⟩ := (he x hx).ex
    obtain ⟨d, s2, h2, rfl, rfl⟩ := (wp_ok F G cnd).1 _ _ _ w1
    cases hb : b x with
    | false => simp [stepD, h1, condD, hc, h2, asB, hb]
    | true =>
      obtain ⟨d, s3, h3, rfl, rfl⟩ := (wp_ok F G elt).1 _ _ _ (w2 hb)
      simp [stepD, h1, condD, hc, h2, asB, hb, h3, purD]
  · have : (srcL S src).filterMap (fun x => if b x = true then some (f x) else none) = ((srcL S src).filter b).map f := by
      induction (srcL S src) with
      | nil => rfl
      | cons x l ih =>
        rw [List.filterMap_cons, List.filter_cons]
        cases hb : b x <;> simp [hb, ih]
    rw [this]
    exact q
theorem wps_for {t it body rest : C} {env : DEnv} {S : Sto} {Q : Fl → DEnv → Sto → Prop} (src : Src) (S1 : Sto) (n : Nat) (I : Nat → DEnv → Sto → Prop) (hI : ∀ R : Src → Sto → Prop, R src S1 → wpI F G it env S R) (hn : lenS S1 src = n) (h0 : I 0 env S1)
    (stop : ∀ e s, I n e s → atS s src n = none ∧ isRl s src = true) (step : ∀ i e s, i < n → I i e s → ∃ x, atS s src i = some x ∧ WO (bindT t (.p x) e s) fun e1 => wpSs F G body e1 s fun f e2 s2 => (f = .nx ∨ f = .ct) ∧ I (i + 1) e2 s2)
    (q : ∀ e s, I n e s → wpSs F G rest e s Q) : wpSs F G (.cons (.fors t it body) rest) env S Q :=
  hI _ (wp_for (Q := fun f e1 S1 => match f with
    | .nx => wpSs F G rest e1 S1 Q
    | f => Q f e1 S1) n I hn h0 stop step fun e s h => q e s h)
end
end DS
set_option maxRecDepth 100000
set_option maxHeartbeats 4000000
namespace DS
open PySem L2
def cDeck : C := (.cons (.asg (.tnm 1) (.dic [(.inr "great"), (.inr "mixed"), (.inr "turns")] (.cons (.mk (.lst .nil)) (.cons (.bin .Add (.cint 16243) (.bi .len (.cons (.sl (.var 0) .nil (.cint 63)) .nil))) (.cons (.cint 0) .nil))))) (.cons (.fors (.tnm 2) (.sq (.sl (.var 0) .nil (.cint 63))) (.cons (.asg (.tnm 3) (.bin .Add (.bin .Mult (.cint 2) (.bi .abs (.cons (.var 2) .nil))) (.bi .int1 (.cons (.cmp .Lt (.var 2) (.cint 0)) .nil)))) (.cons (.ifs (.cmp .GtE (.var 3) (.bin .Pow (.cint 10) (.cint 16))) (.cons (.ex (.mth .append (.dix (.var 1) (.cstr "great")) (.cons (.var 3) .nil))) .nil) .nil) (.cons (.setd (.var 1) (.cstr "mixed") (.bin .Mod (.bi .int1 (.cons (.bin .Add (.bin .Add (.bin .Mult (.dix (.var 1) (.cstr "mixed")) (.cint 69621)) (.var 3)) (.cint 29)) .nil)) (.cint 4294967291))) .nil)))) (.cons (.ret (.var 1)) .nil)))
def cDraw : C := (.cons (.ifs (.cmp .Lt (.var 1) (.cint 2)) (.cons (.ret (.cint 0)) .nil) .nil) (.cons (.ifs (.cmp .NotEq (.dix (.var 0) (.cstr "great")) (.lst .nil)) (.cons (.asg (.tnm 3) (.mth .pop0 (.dix (.var 0) (.cstr "great")) .nil)) (.cons (.ifs (.cmp .GtE (.var 3) (.var 1)) (.cons (.ex (.mth .append (.dix (.var 0) (.cstr "great")) (.cons (.bin .FloorDiv (.var 3) (.var 1)) .nil))) .nil) .nil) (.cons (.ret (.bin .Mod (.bi .int1 (.cons (.var 3) .nil)) (.var 1))) .nil))) .nil) (.cons (.setd (.var 0) (.cstr "turns") (.bin .Add (.dix (.var 0) (.cstr "turns")) (.cint 1))) (.cons (.asg (.tnm 2) (.bin .Mod (.bi .int1 (.cons (.bin .Add (.dix (.var 0) (.cstr "mixed")) (.bin .Mult (.cint 2654435761) (.dix (.var 0) (.cstr "turns")))) .nil)) (.cint 4294967279))) (.cons (.asg (.tnm 2) (.bin .Mod (.bi .int1 (.cons (.bin .Add (.bin .Add (.bin .Mult (.var 2) (.var 2)) (.bin .Mult (.cint 40692) (.dix (.var 0) (.cstr "turns")))) (.cint 23)) .nil)) (.cint 4294967231))) (.cons (.asg (.tnm 2) (.bin .Mod (.bi .int1 (.cons (.bin .Add (.bin .Mult (.var 2) (.var 2)) (.bin .Mult (.dix (.var 0) (.cstr "mixed")) (.cint 11))) .nil)) (.cint 4294967197))) (.cons (.ret (.bin .Mod (.bi .int1 (.cons (.bin .FloorDiv (.var 2) (.cint 64)) .nil)) (.var 1))) .nil)))))))
def cPick (draw : Nat) : C := (.cons (.ret (.ix (.var 1) (.cal draw 1 (.cons (.var 0) (.cons (.bi .len (.cons (.var 1) .nil)) .nil))))) .nil)
def cRows : C := (.cons (.asg (.tnm 1) (.lst (.cons (.tup .nil) .nil))) (.cons (.fors (.tnm 2) (.rg1 (.var 0)) (.cons (.asg (.tnm 3) (.mk (.lst .nil))) (.cons (.fors (.tnm 4) (.sq (.var 1)) (.cons (.ex (.mth .extend (.var 3) (.cons (.lst (.cons (.bin .Add (.var 4) (.tup (.cons (.cint 0) .nil))) (.cons (.bin .Add (.var 4) (.tup (.cons (.cint 1) .nil))) .nil))) .nil))) .nil)) (.cons (.asg (.tnm 1) (.var 3)) .nil)))) (.cons (.ret (.var 1)) .nil)))
def cNumber : C := (.cons (.asg (.tnm 1) (.cint 0)) (.cons (.fors (.tnm 2) (.sq (.var 0)) (.cons (.asg (.tnm 1) (.bin .Add (.bin .Mult (.cint 2) (.var 1)) (.var 2))) .nil)) (.cons (.ret (.var 1)) .nil)))
def cTable (draw rows number : Nat) : C := (.cons (.par [2, 3] (.cons (.cal rows 0 (.cons (.var 1) .nil)) (.cons (.cal draw 1 (.cons (.var 0) (.cons (.cint 9) .nil))) .nil))) (.cons (.ifs (.cmp .Eq (.var 3) (.cint 0)) (.cons (.asg (.tnm 4) (.mk (.bin .Mult (.lst (.cons (.cal draw 1 (.cons (.var 0) (.cons (.cint 2) .nil))) .nil)) (.bi .len (.cons (.var 2) .nil))))) .nil) (.cons (.ifs (.cmp .Eq (.var 3) (.cint 1)) (.cons (.asg (.tnm 4) (.mk (.lc (.bi .int1 (.cons (.bin .Mod (.bi .sum (.cons (.var 6) .nil)) (.cint 2)) .nil)) (.tnm 6) (.sq (.var 2)) .nil [6]))) .nil) (.cons (.ifs (.cmp .Eq (.var 3) (.cint 2)) (.cons (.asg (.tnm 4) (.mk (.lc (.bi .int1 (.cons (.cmp .Gt (.bin .Mult (.cint 2) (.bi .sum (.cons (.var 6) .nil))) (.var 1)) .nil)) (.tnm 6) (.sq (.var 2)) .nil [6]))) .nil) (.cons (.ifs (.cmp .Eq (.var 3) (.cint 3)) (.cons (.asg (.tnm 4) (.mk (.lc (.bi .int1 (.cons (.cmp .Eq (.bi .sum (.cons (.var 6) .nil)) (.var 1)) .nil)) (.tnm 6) (.sq (.var 2)) .nil [6]))) .nil) (.cons (.ifs (.cmp .Eq (.var 3) (.cint 4)) (.cons (.asg (.tnm 5) (.cal draw 1 (.cons (.var 0) (.cons (.var 1) .nil)))) (.cons (.asg (.tnm 4) (.mk (.lc (.ix (.var 6) (.var 5)) (.tnm 6) (.sq (.var 2)) .nil [6]))) .nil)) (.cons (.ifs (.cmp .Eq (.var 3) (.cint 5)) (.cons (.asg (.tnm 7) (.lc (.cal draw 1 (.cons (.var 0) (.cons (.cint 2) .nil))) (.tnm 6) (.sq (.var 2)) .nil [6])) (.cons (.asg (.tnm 4) (.mk (.lc (.ix (.var 7) (.cal number 0 (.cons (.sl (.var 6) (.cint 1) .nil) .nil))) (.tnm 6) (.sq (.var 2)) .nil [6]))) .nil)) (.cons (.asg (.tnm 4) (.mk (.lc (.cal draw 1 (.cons (.var 0) (.cons (.cint 2) .nil))) (.tnm 6) (.sq (.var 2)) .nil [6]))) .nil)) .nil)) .nil)) .nil)) .nil)) .nil)) (.cons (.ifs (.cmp .Eq (.cal draw 1 (.cons (.var 0) (.cons (.cint 4) .nil))) (.cint 0)) (.cons (.asg (.tnm 5) (.cal draw 1 (.cons (.var 0) (.cons (.bi .len (.cons (.var 2) .nil)) .nil)))) (.cons (.setl (.var 4) (.var 5) (.bin .Sub (.cint 1) (.ix (.var 4) (.var 5)))) .nil)) .nil) (.cons (.ret (.bi .tup (.cons (.var 4) .nil))) .nil))))
def cMany (draw pick : Nat) : C := (.cons (.ret (.cal pick 1 (.cons (.var 0) (.cons (.lst (.cons (.cint 1) (.cons (.cint 2) (.cons (.cint 2) (.cons (.cint 3) (.cons (.cint 3) (.cons (.cint 3) (.cons (.cint 4) (.cons (.cint 4) (.cons (.cint 4) (.cons (.bin .Add (.cint 5) (.cal draw 1 (.cons (.var 0) (.cons (.cint 2) .nil)))) .nil))))))))))) .nil)))) .nil)
def dkS (g : List Int) (m t : Int) (rest : Sto) : Sto := .lst (g.map PyData.int) :: .dic [(.inr "great", .r 0), (.inr "mixed", .p (.int m)), (.inr "turns", .p (.int t))] :: rest
theorem dk_great (g : List Int) (m t : Int) (rest : Sto) : dixD (.r 1) (.p (.str "great")) (dkS g m t rest) = some (.r 0) := rfl
theorem dk_mixed (g : List Int) (m t : Int) (rest : Sto) : dixD (.r 1) (.p (.str "mixed")) (dkS g m t rest) = some (.p (.int m)) := rfl
theorem dk_turns (g : List Int) (m t : Int) (rest : Sto) : dixD (.r 1) (.p (.str "turns")) (dkS g m t rest) = some (.p (.int t)) := rfl
theorem dk_setM (g : List Int) (m t v : Int) (rest : Sto) : setdD (.r 1) (.p (.str "mixed")) (.p (.int v)) (dkS g m t rest) = some (dkS g v t rest) := rfl
theorem dk_setT (g : List Int) (m t v : Int) (rest : Sto) : setdD (.r 1) (.p (.str "turns")) (.p (.int v)) (dkS g m t rest) = some (dkS g m v rest) := rfl
theorem dk_snap (g : List Int) (m t : Int) (rest : Sto) : snap (dkS g m t rest) (.r 0) = some (.list (g.map PyData.int)) := rfl
theorem dk_own (g : List Int) (m t : Int) (rest : Sto) : ownL (dkS g m t rest) (.r 0) = true := rfl
theorem dk_set0 (g h : List Int) (m t : Int) (rest : Sto) : (dkS g m t rest).set 0 (.lst (h.map PyData.int)) = dkS h m t rest := rfl
end DS
set_option maxRecDepth 100000
set_option maxHeartbeats 4000000
namespace DS
open PySem L2
theorem lay_ints : ∀ l : List Int, PyData.canLayAll0 (l.map PyData.int) = true
  | [] => rfl
  | _ :: l => by
    show (PyData.canLay0 (.int _) && PyData.canLayAll0 (l.map PyData.int)) = true
    rw [lay_ints l]; rfl
theorem depth_ints : ∀ l : List Int, PyData.depthAll (l.map PyData.int) = 0
  | [] => rfl
  | _ :: l => by
    show max 0 (PyData.depthAll (l.map PyData.int)) = 0
    rw [depth_ints l]; rfl
theorem shaped_ints (l : List Int) : SeqAt.shaped (.list (l.map PyData.int)) = true := by
  unfold SeqAt.shaped PyData.canLay0 PyData.depth
  rw [lay_ints, depth_ints]
  rfl
theorem cmp_great (g : List Int) : cmpP .NotEq (.list (g.map PyData.int)) (.list []) = some (decide (g ≠ [])) := by
  unfold cmpP
  rw [shaped_ints]
  cases g <;> rfl
theorem pop_great (h : List Int) (x m t : Int) (rest : Sto) : mthD .pop0 (.r 0) [] (dkS (h ++ [x]) m t rest) = some (.p (.int x), dkS h m t rest) := by
  simp [mthD, dkS, snapM]
theorem app_great (g : List Int) (y m t : Int) (rest : Sto) (hg : g.length < 16777216) : mthD .append (.r 0) [.p (.int y)] (dkS g m t rest) = some (.p .none, dkS (g ++ [y]) m t rest) := by
  simp [mthD, dkS, snapM, hg]
theorem mul_ok {i j : Int} (h : -18446744073709551616 < i ∧ i < 18446744073709551616) : mulOk i j = true := by
  unfold mulOk
  simp only [decide_eq_true h, Bool.true_or]
theorem mul_ok2 {i j : Int} (h : -18446744073709551616 < j ∧ j < 18446744073709551616) : mulOk i j = true := by
  unfold mulOk
  simp only [decide_eq_true h, Bool.or_true, Bool.true_or]
theorem mul_big {i j : Int} (hi : i.natAbs.log2 < 9000) (hj : j.natAbs.log2 < 9000) : mulOk i j = true := by
  unfold mulOk
  simp only [(Nat.blt_eq).mpr hi, (Nat.blt_eq).mpr hj, Bool.and_self, Bool.or_true]
theorem draw_w (F : FT) (Gc : Nat → Option P) (g : List Int) (m t : Int) (rest : Sto) (many : Int) (hg : g.length ≤ 63) (hm : many < 1073741824) :
    wpF F Gc 4 2 cDraw [.r 1, .p (.int many)] (dkS g m t rest) fun d S => ∃ v g' m' t', d = .p (.int v) ∧ S = dkS g' m' t' rest ∧ g'.length ≤ 63 ∧ 0 ≤ v ∧ (v < many ∨ v = 0) := by
  refine ⟨rfl, fun h => ?_, fun h => ?_⟩
  · exact ⟨0, g, m, t, rfl, rfl, hg, by omega, .inr rfl⟩
  · have h2 : ¬ many < 2 := of_decide_eq_false h
    refine ⟨rfl, ?_⟩
    show WO (cmpP .NotEq (.list (g.map PyData.int)) (.list [])) _
    refine WO.mk (cmp_great g) ?_
    refine ⟨fun hz => ?_, fun hz => ?_⟩
    · obtain ⟨h', x, rfl⟩ : ∃ h' x, g = h' ++ [x] := ⟨g.dropLast, g.getLast (of_decide_eq_true hz), (List.dropLast_concat_getLast _).symm⟩
      rw [List.length_append] at hg
      have hl : h'.length + 1 ≤ 63 := hg
      refine ⟨rfl, ?_⟩
      refine WO.mk (pop_great h' x m t rest) ?_
      refine ⟨fun hx => ?_, fun hx => ?_⟩
      · refine ⟨rfl, ⟨by omega, .inl hm⟩, ?_⟩
        refine WO.mk (app_great h' _ m t rest (by omega)) ?_
        exact ⟨by omega, x % many, h' ++ [x / many], m, t, rfl, rfl, by rw [List.length_append]; exact hl, Int.emod_nonneg _ (by omega), .inl (Int.emod_lt_of_pos _ (by omega))⟩
      · exact ⟨by omega, x % many, h', m, t, rfl, rfl, by omega, Int.emod_nonneg _ (by omega), .inl (Int.emod_lt_of_pos _ (by omega))⟩
    · show wpSs F Gc _ [some (.r 1), some (.p (.int many)), none, none] (dkS g m (t + 1) rest) _
      have b1 := Int.emod_nonneg (m + 2654435761 * (t + 1)) (show (4294967279 : Int) ≠ 0 by decide)
      have b2 := Int.emod_lt_of_pos (m + 2654435761 * (t + 1)) (show (0 : Int) < 4294967279 by decide)
      generalize hA : (m + 2654435761 * (t + 1)) % 4294967279 = A at b1 b2
      have b3 := Int.emod_nonneg (A * A + 40692 * (t + 1) + 23) (show (4294967231 : Int) ≠ 0 by decide)
      have b4 := Int.emod_lt_of_pos (A * A + 40692 * (t + 1) + 23) (show (0 : Int) < 4294967231 by decide)
      generalize hB : (A * A + 40692 * (t + 1) + 23) % 4294967231 = B at b3 b4
      refine ⟨mul_ok (by decide), by decide, ?_⟩
      show wpSs F Gc _ [some (.r 1), some (.p (.int many)), some (.p (.int ((m + 2654435761 * (t + 1)) % 4294967279))), none] (dkS g m (t + 1) rest) _
      rw [hA]
      refine ⟨mul_ok ⟨by omega, by omega⟩, ?_⟩
      refine ⟨mul_ok (by decide), by decide, ?_⟩
      show wpSs F Gc _ [some (.r 1), some (.p (.int many)), some (.p (.int ((A * A + 40692 * (t + 1) + 23) % 4294967231))), none] (dkS g m (t + 1) rest) _
      rw [hB]
      refine ⟨mul_ok ⟨by omega, by omega⟩, ?_⟩
      refine ⟨mul_ok2 (by decide), by decide, ⟨by decide, by decide⟩, by omega, ?_⟩
      exact ⟨_, g, m, t + 1, rfl, rfl, hg, Int.emod_nonneg _ (by omega), .inl (Int.emod_lt_of_pos _ (by omega))⟩
end DS
set_option maxRecDepth 100000
set_option maxHeartbeats 4000000
namespace DS
open PySem L2
theorem run_at {fs : List DF} {Gc : Nat → Option P} {n f : Nat} {d : DF} {ds : List D} {S : Sto} (h : fs[f]? = some d) : run fs Gc (n + 1) f ds S = denF (run fs Gc n) Gc d.n d.k d.body ds S := by
  show (match fs[f]? with | some d => denF (run fs Gc n) Gc d.n d.k d.body ds S | none => if XN ≤ f then match fs[f - XN]? with
      | some d => rxF (run fs Gc n) Gc d.n d.k d.body ds S
      | none => none
      else none) = _
  rw [h]
theorem run_w {fs : List DF} {Gc : Nat → Option P} {n f : Nat} {d : DF} {ds : List D} {S : Sto} {Q : D → Sto → Prop} (h : fs[f]? = some d) (w : wpF (run fs Gc n) Gc d.n d.k d.body ds S Q) : ∃ v S', run fs Gc (n + 1) f ds S = some (v, S') ∧ Q v S' := by
  rw [run_at h]
  exact wpF_ok _ _ w
theorem pursD_p : ∀ xs : List P, pursD (xs.map D.p) = some xs
  | [] => rfl
  | x :: xs => by
    show (pursD (xs.map D.p)).map (x :: ·) = _
    rw [pursD_p xs]; rfl
theorem call0 {F : FT} {f : Nat} {S : Sto} {Q : D × Sto → Prop} (xs : List P) (h : ∃ d S', F f (xs.map D.p) [] = some (d, S') ∧ ∃ x, backD 0 S' d = some (.p x) ∧ Q (.p x, S)) : WO (callD F f 0 (xs.map D.p) S) Q := by
  obtain ⟨d, S', h1, x, h2, q⟩ := h
  refine WO.mk (a := (.p x, S)) ?_ q
  show (pursD (xs.map D.p)).bind _ = _
  rw [pursD_p, Option.bind_some, h1, Option.bind_some, h2]
  rfl
theorem call1 {F : FT} {f : Nat} {ds : List D} {S : Sto} {Q : D × Sto → Prop} (h : ∃ d S', F f ds S = some (d, S') ∧ S.length ≤ S'.length ∧ (S'.take S.length).all (belowM S.length) = true ∧ ∃ d', backD S.length S' d = some d' ∧ Q (d', S'.take S.length)) : WO (callD F f 1 ds S) Q := by
  obtain ⟨d, S', h1, h2, h3, d', h4, q⟩ := h
  refine WO.mk (a := (d', S'.take S.length)) ?_ q
  show (F f ds S).bind _ = _
  rw [h1, Option.bind_some]
  simp only [decide_eq_true h2, h3, Bool.and_self, if_true, h4, Option.map_some]
def RestOk (rest : Sto) : Prop := rest.all (belowM (rest.length + 2)) = true
theorem dk_below {g : List Int} {m t : Int} {rest : Sto} (h : RestOk rest) : (dkS g m t rest).all (belowM (rest.length + 2)) = true := by
  unfold dkS
  rw [List.all_cons, List.all_cons, h]
  simp [belowM, belowD]
theorem dk_len (g : List Int) (m t : Int) (rest : Sto) : (dkS g m t rest).length = rest.length + 2 := rfl
section
variable {fs : List DF} {Gc : Nat → Option P} {n draw pick : Nat} {g : List Int} {m t : Int} {rest : Sto} {Q : D × Sto → Prop}
theorem call_dk {f : Nat} {ds : List D} {R : D → Prop} (hr : RestOk rest) (h : ∃ d S', run fs Gc n f ds (dkS g m t rest) = some (d, S') ∧ ∃ g' m' t' more, S' = dkS g' m' t' (rest ++ more) ∧ g'.length ≤ 63 ∧ ∃ d', backD (rest.length + 2) S' d = some d' ∧ R d')
    (q : ∀ d' g' m' t', R d' → g'.length ≤ 63 → Q (d', dkS g' m' t' rest)) : WO (callD (run fs Gc n) f 1 ds (dkS g m t rest)) Q := by
  obtain ⟨d, S', h1, g', m', t', more, rfl, h2, d', h3, h4⟩ := h
  have tk : (dkS g' m' t' (rest ++ more)).take (rest.length + 2) = dkS g' m' t' rest := by
    unfold dkS
    rw [List.take_succ_cons, List.take_succ_cons, List.take_left']
    rfl
  exact call1 ⟨d, _, h1, by rw [dk_len, dk_len, List.length_append]; omega, by rw [dk_len, tk]; exact dk_below hr, d', h3, by rw [dk_len, tk]; exact q d' g' m' t' h4 h2⟩
theorem call_draw (h : fs[draw]? = some ⟨4, 2, cDraw⟩) (hr : RestOk rest) (hg : g.length ≤ 63) {many : Int} (hm : many < 1073741824) (q : ∀ v g' m' t', 0 ≤ v → (v < many ∨ v = 0) → g'.length ≤ 63 → Q (.p (.int v), dkS g' m' t' rest)) :
    WO (callD (run fs Gc (n + 1)) draw 1 [.r 1, .p (.int many)] (dkS g m t rest)) Q := by
  obtain ⟨d, S', h1, v, g', m', t', rfl, rfl, h2, h3, h4⟩ := run_w (n := n) (Gc := Gc) h (draw_w (run fs Gc n) Gc g m t rest many hg hm)
  exact call_dk (R := fun d => ∃ v, d = .p (.int v) ∧ 0 ≤ v ∧ (v < many ∨ v = 0)) hr ⟨_, _, h1, g', m', t', [], by rw [List.append_nil], h2, _, rfl, v, rfl, h3, h4⟩ fun d' g' m' t' ⟨v, e, h5, h6⟩ h7 => by
    rw [e]; exact q v g' m' t' h5 h6 h7
def itemsP : P → List P
  | .list xs => xs
  | .tuple xs => xs
  | _ => []
theorem atI_nat {xs : List P} {v : Int} (h0 : 0 ≤ v) (h1 : v < xs.length) : ∃ x, atI xs v = some x ∧ x ∈ xs ∧ xs[v.toNat]? = some x := by
  have hv : v.toNat < xs.length := by omega
  refine ⟨xs[v.toNat], ?_, List.getElem_mem hv, List.getElem?_eq_getElem hv⟩
  unfold atI ixN
  rw [if_pos h0, if_pos h1]
  exact List.getElem?_eq_getElem hv
theorem call_pick (h : fs[draw]? = some ⟨4, 2, cDraw⟩) (h2 : fs[pick]? = some ⟨2, 2, cPick draw⟩) (hr : RestOk rest) (hg : g.length ≤ 63) {row : P} (hs : (∃ xs, row = .list xs) ∨ ∃ xs, row = .tuple xs) (hl : 0 < (itemsP row).length) (hl2 : (itemsP row).length < 1073741824)
    (q : ∀ x g' m' t', x ∈ itemsP row → g'.length ≤ 63 → Q (.p x, dkS g' m' t' rest)) : WO (callD (run fs Gc (n + 2)) pick 1 [.r 1, .p row] (dkS g m t rest)) Q := by
  have w : wpF (run fs Gc (n + 1)) Gc 2 2 (cPick draw) [.r 1, .p row] (dkS g m t rest) fun d S => ∃ x g' m' t', d = .p x ∧ x ∈ itemsP row ∧ S = dkS g' m' t' rest ∧ g'.length ≤ 63 := by
    refine ⟨rfl, ?_⟩
    rcases hs with ⟨xs, rfl⟩ | ⟨xs, rfl⟩
    · show WO (callD (run fs Gc (n + 1)) draw 1 [.r 1, .p (.int xs.length)] (dkS g m t rest)) _
      refine call_draw h hr hg (by show (xs.length : Int) < _; have : xs.length < 1073741824 := hl2; omega) fun v g' m' t' h3 h4 h5 => ?_
      have hxl : 0 < xs.length := hl
      obtain ⟨x, e1, e2, _⟩ := atI_nat (xs := xs) h3 (by omega)
      show WO (atI xs v) _
      exact WO.mk e1 ⟨x, g', m', t', rfl, e2, rfl, h5⟩
    · show WO (callD (run fs Gc (n + 1)) draw 1 [.r 1, .p (.int xs.length)] (dkS g m t rest)) _
      refine call_draw h hr hg (by show (xs.length : Int) < _; have : xs.length < 1073741824 := hl2; omega) fun v g' m' t' h3 h4 h5 => ?_
      have hxl : 0 < xs.length := hl
      obtain ⟨x, e1, e2, _⟩ := atI_nat (xs := xs) h3 (by omega)
      show WO (atI xs v) _
      exact WO.mk e1 ⟨x, g', m', t', rfl, e2, rfl, h5⟩
  obtain ⟨d, S', h3, x, g', m', t', rfl, hx, rfl, h4⟩ := run_w (n := n + 1) (Gc := Gc) h2 w
  exact call_dk (R := fun d => ∃ x, d = .p x ∧ x ∈ itemsP row) hr ⟨_, _, h3, g', m', t', [], by rw [List.append_nil], h4, _, rfl, x, rfl, hx⟩ fun d' g' m' t' ⟨x, e, h5⟩ h6 => by
    rw [e]; exact q x g' m' t' h5 h6
end
end DS
set_option maxRecDepth 100000
set_option maxHeartbeats 4000000
namespace DS
open PySem L2
def tupI (bs : List Int) : P := .tuple (bs.map PyData.int)
def numL (bs : List Int) : Int := bs.foldl (fun a b => 2 * a + b) 0
theorem numL_snoc (bs : List Int) (b : Int) : numL (bs ++ [b]) = 2 * numL bs + b := by
  unfold numL
  rw [List.foldl_append]; rfl
theorem take_snoc {α : Type} {l : List α} {i : Nat} (h : i < l.length) : l.take (i + 1) = l.take i ++ [l[i]] := by
  rw [List.take_succ, List.getElem?_eq_getElem h]; rfl
theorem number_w (F : FT) (Gc : Nat → Option P) (bs : List Int) (S : Sto) : wpF F Gc 3 1 cNumber [.p (tupI bs)] S fun d S' => d = .p (.int (numL bs)) ∧ S' = S := by
  refine ⟨rfl, ?_⟩
  show wpSs F Gc (.cons (.fors _ _ _) _) [some (.p (tupI bs)), some (.p (.int 0)), none] S _
  refine wps_for (.it (bs.map PyData.int)) S bs.length (fun i e s => s = S ∧ ∃ x, e = [some (.p (tupI bs)), some (.p (.int (numL (bs.take i)))), x]) (fun R r => r) (by simp [lenS]) ⟨rfl, none, rfl⟩ (fun e s _ => ⟨by simp [atS], rfl⟩) ?_ ?_
  · rintro i e s hi ⟨rfl, x, rfl⟩
    refine ⟨.int bs[i], by simp [atS, hi], ?_⟩
    refine ⟨mul_ok (by decide), .inl rfl, rfl, some (.p (.int bs[i])), ?_⟩
    rw [take_snoc hi, numL_snoc]
    rfl
  · rintro e s ⟨rfl, x, rfl⟩
    rw [List.take_length]
    exact ⟨rfl, rfl⟩
def bitsL : Nat → List (List Int)
  | 0 => [[]]
  | n + 1 => (bitsL n).flatMap fun r => [r ++ [0], r ++ [1]]
theorem bitsL_len : ∀ n, (bitsL n).length = 2 ^ n
  | 0 => rfl
  | n + 1 => by
    have : ∀ l : List (List Int), (l.flatMap fun r => [r ++ [0], r ++ [1]]).length = 2 * l.length := by
      intro l
      induction l with
      | nil => rfl
      | cons a l ih => rw [List.flatMap_cons, List.length_append, ih, List.length_cons]; simp; omega
    show ((bitsL n).flatMap _).length = _
    rw [this, bitsL_len n, Nat.pow_succ]; omega
theorem bitsL_row : ∀ n r, r ∈ bitsL n → r.length = n ∧ ∀ b, b ∈ r → b = 0 ∨ b = 1
  | 0, r, h => by
    rw [List.mem_singleton.mp h]
    exact ⟨rfl, fun b h => by cases h⟩
  | n + 1, r, h => by
    obtain ⟨r0, h1, h2⟩ := List.mem_flatMap.mp h
    obtain ⟨h3, h4⟩ := bitsL_row n r0 h1
    simp only [List.mem_cons, List.not_mem_nil, or_false] at h2
    rcases h2 with rfl | rfl
    · exact ⟨by simp [h3], fun b hb => by
        rcases List.mem_append.mp hb with z | z
        · exact h4 b z
        · exact .inl (List.mem_singleton.mp z)⟩
    · exact ⟨by simp [h3], fun b hb => by
        rcases List.mem_append.mp hb with z | z
        · exact h4 b z
        · exact .inr (List.mem_singleton.mp z)⟩
theorem fits_ok {n : Nat} (h : n ≤ 16777216) : fitsN n = true := decide_eq_true h
theorem ext_lst (S : Sto) (n : Nat) (xs ys : List P) (h : S[n]? = some (.lst xs)) (hf : xs.length + ys.length ≤ 16777216) : mthD .extend (.r n) [.p (.list ys)] S = some (.p .none, S.set n (.lst (xs ++ ys))) := by
  simp [mthD, h, snapM, snapE, fits_ok hf]
theorem add_tup (xs ys : List P) (h : xs.length + ys.length ≤ 16777216) : binP .Add (.tuple xs) (.tuple ys) = some (.tuple (xs ++ ys)) := by
  simp [binP, onI, fits_ok h]
def twoOf (r : List Int) : List (List Int) := [r ++ [0], r ++ [1]]
theorem rows_inner (F : FT) (Gc : Nat → Option P) (k : Nat) (S : Sto) (d pl z : Option D) (l : List (List Int)) (src : Src) {rest : C} {Q : Fl → DEnv → Sto → Prop}
    (hI : ∀ R : Src → Sto → Prop, R src (S ++ [.lst []]) → wpI F Gc (.sq (.var 1)) [some (.p (.int k)), d, pl, some (.r S.length), z] (S ++ [.lst []]) R)
    (hs : ∀ acc, lenS (S ++ [.lst acc]) src = l.length ∧ isRl (S ++ [.lst acc]) src = true ∧ ∀ i, atS (S ++ [.lst acc]) src i = (l.map tupI)[i]?) (hl : l.length ≤ 4096) (hr : ∀ r, r ∈ l → r.length ≤ 12)
    (q : ∀ x, wpSs F Gc rest [some (.p (.int k)), d, pl, some (.r S.length), x] (S ++ [.lst ((l.flatMap twoOf).map tupI)]) Q) :
    wpSs F Gc (.cons (.fors (.tnm 4) (.sq (.var 1)) (.cons (.ex (.mth .extend (.var 3) (.cons (.lst (.cons (.bin .Add (.var 4) (.tup (.cons (.cint 0) .nil))) (.cons (.bin .Add (.var 4) (.tup (.cons (.cint 1) .nil))) .nil))) .nil))) .nil)) rest)
      [some (.p (.int k)), d, pl, some (.r S.length), z] (S ++ [.lst []]) Q := by
  refine wps_for src (S ++ [.lst []]) l.length (fun j e s => s = S ++ [.lst (((l.take j).flatMap twoOf).map tupI)] ∧ ∃ x, e = [some (.p (.int k)), d, pl, some (.r S.length), x]) hI (hs []).1 ⟨by simp, z, rfl⟩ ?_ ?_ ?_
  · rintro e s ⟨rfl, x, rfl⟩
    exact ⟨by rw [(hs _).2.2]; simp, (hs _).2.1⟩
  · rintro j e s hj ⟨rfl, x, rfl⟩
    refine ⟨tupI l[j], by rw [(hs _).2.2]; simp [hj], ?_⟩
    have hlen : l[j].length ≤ 12 := hr _ (List.getElem_mem hj)
    generalize hacc : ((l.take j).flatMap twoOf).map tupI = acc
    have hal : acc.length ≤ 8192 := by
      rw [← hacc, List.length_map]
      have : ∀ m : List (List Int), (m.flatMap twoOf).length = 2 * m.length := by
        intro m
        induction m with
        | nil => rfl
        | cons a m ih => rw [List.flatMap_cons, List.length_append, ih, List.length_cons]; simp [twoOf]; omega
      rw [this, List.length_take]
      omega
    have at_ : (S ++ [MO.lst acc])[S.length]? = some (.lst acc) := by simp
    refine ⟨by simp [ownL, snapM], ?_⟩
    refine ⟨by decide, ?_⟩
    refine ⟨rfl, fits_ok (by simp; omega), ?_⟩
    refine ⟨by decide, ?_⟩
    refine ⟨rfl, fits_ok (by simp; omega), ?_⟩
    refine ⟨rfl, ?_⟩
    refine WO.mk (ext_lst _ _ acc _ at_ (by simp; omega)) ?_
    refine ⟨.inl rfl, ?_, _, rfl⟩
    rw [take_snoc hj, List.flatMap_append, List.map_append, hacc]
    simp [twoOf, tupI]
  · rintro e s ⟨rfl, x, rfl⟩
    rw [List.take_length]
    exact q x
theorem rows_w (F : FT) (Gc : Nat → Option P) (k : Nat) (hk : k ≤ 12) : wpF F Gc 5 1 cRows [.p (.int k)] [] fun d S' => backD 0 S' d = some (.p (.list ((bitsL k).map tupI))) := by
  have p12 : ∀ i, i ≤ 12 → 2 ^ i ≤ 4096 := fun i hi => Nat.le_trans (Nat.pow_le_pow_right (by decide) hi) (by decide)
  refine ⟨rfl, ?_⟩
  refine ⟨by decide, by decide, ?_⟩
  show wpSs F Gc (.cons (.fors _ _ _) _) [some (.p (.int k)), some (.p (.list [.tuple []])), none, none, none] [] _
  refine wps_for (.rg 0 1 k) [] k (fun i e S => ∃ d x y z, e = [some (.p (.int k)), some d, x, y, z] ∧ snap S d = some (.list ((bitsL i).map tupI)) ∧ ((∃ xs, d = .p xs) ∨ (∃ n, d = .r n))) (fun R r => ⟨decide_eq_true (by omega), r⟩) (by simp [lenS]) ⟨_, none, none, none, rfl, rfl, .inl ⟨_, rfl⟩⟩ (fun e s _ => ⟨by simp [atS], rfl⟩) ?_ ?_
  · rintro i e S hi ⟨d, x, y, z, rfl, hd, hk2⟩
    refine ⟨.int (0 + (i : Int) * 1), by simp [atS, hi], ?_⟩
    refine ⟨by decide, ?_⟩
    show wpSs F Gc (.cons (.fors _ _ _) _) [some (.p (.int k)), some d, some (.p (.int (0 + (i : Int) * 1))), some (.r S.length), z] (S ++ [.lst []]) _
    have hsnap : ∀ acc, snap (S ++ [.lst acc]) d = some (.list ((bitsL i).map tupI)) := fun acc => by
      cases d with
      | p xs => exact hd
      | s xs => exact hd
      | r n =>
        have h1 : snapM S[n]? = some (.list ((bitsL i).map tupI)) := hd
        obtain ⟨xs, h2, _⟩ := snapM_some h1
        show snapM (S ++ [MO.lst acc])[n]? = _
        rw [List.getElem?_append_left (List.getElem?_eq_some_iff.mp h2).1]
        exact h1
    have hlen : (bitsL i).length ≤ 4096 := by rw [bitsL_len]; exact p12 i (by omega)
    have fin : ∀ x, wpSs F Gc (.cons (.asg (.tnm 1) (.var 3)) .nil) [some (.p (.int k)), some d, some (.p (.int (0 + (i : Int) * 1))), some (.r S.length), x] (S ++ [.lst (((bitsL i).flatMap twoOf).map tupI)]) fun f e2 s2 => (f = .nx ∨ f = .ct) ∧ ∃ d x y z, e2 = [some (.p (.int k)), some d, x, y, z] ∧ snap s2 d = some (.list ((bitsL (i + 1)).map tupI)) ∧ ((∃ xs, d = .p xs) ∨ (∃ n, d = .r n)) := fun x => by
      refine ⟨.inl rfl, .r S.length, _, _, _, rfl, ?_, .inr ⟨_, rfl⟩⟩
      show snapM (S ++ [MO.lst _])[S.length]? = _
      simp [snapM]
      rfl
    rcases hk2 with ⟨xs, rfl⟩ | ⟨n, rfl⟩
    · have hxs : xs = .list ((bitsL i).map tupI) := Option.some.inj hd
      subst hxs
      exact rows_inner F Gc k S _ _ _ (bitsL i) (.it ((bitsL i).map tupI)) (fun R r => r) (fun acc => ⟨by simp [lenS], rfl, fun i => rfl⟩) hlen (fun r hr => by have := (bitsL_row i r hr).1; omega) fin
    · have ok : ∀ acc, isRl (S ++ [.lst acc]) (.rl n) = true := fun acc => by
        show (snapM (S ++ [MO.lst acc])[n]?).isSome = true
        have : snapM (S ++ [MO.lst acc])[n]? = some (.list ((bitsL i).map tupI)) := hsnap acc
        rw [this]; rfl
      refine rows_inner F Gc k S _ _ _ (bitsL i) (.rl n) (fun R r => ?_) (fun acc => ?_) hlen (fun r hr => by have := (bitsL_row i r hr).1; omega) fin
      · show WO (okSq (S ++ [.lst []]) (.r n)) _
        refine WO.mk (a := Src.rl n) ?_ r
        simp [okSq, seqSrc, ok]
      · have h1 : snapM (S ++ [MO.lst acc])[n]? = some (.list ((bitsL i).map tupI)) := hsnap acc
        exact ⟨by simp [lenS, h1], ok acc, fun i => by simp [atS, h1]⟩
  · rintro e S ⟨d, x, y, z, rfl, hd, hk2⟩
    rcases hk2 with ⟨xs, rfl⟩ | ⟨n, rfl⟩
    · have hxs : xs = .list ((bitsL k).map tupI) := Option.some.inj hd
      subst hxs
      rfl
    · show (if n < 0 then some (D.r n) else (snapM S[n]?).map .p) = _
      rw [if_neg (Nat.not_lt_zero n)]
      have h1 : snapM S[n]? = some (.list ((bitsL k).map tupI)) := hd
      rw [h1]; rfl
end DS
set_option maxRecDepth 100000
set_option maxHeartbeats 4000000
namespace DS
open PySem L2
theorem cut63 (xs : List P) : (cutP xs none (some 63)).length ≤ 63 := by
  unfold cutP
  rw [List.length_take]
  show min (HT.sIx xs.length xs.length (some 63) - HT.sIx xs.length 0 none) _ ≤ 63
  rw [show ((63 : Int)) = ((63 : Nat) : Int) from rfl, HT.sIx_nat]
  omega
theorem cut_ints (ns : List Int) : ∃ ks : List Int, cutP (ns.map PyData.int) none (some 63) = ks.map PyData.int ∧ ks.length ≤ 63 := by
  have h := cut63 (ns.map PyData.int)
  unfold cutP at h ⊢
  rw [← List.map_drop, ← List.map_take] at h ⊢
  exact ⟨_, rfl, by simpa using h⟩
theorem deck_w (F : FT) (Gc : Nat → Option P) (ns : List Int) : wpF F Gc 4 1 cDeck [.s (ns.map PyData.int)] [] fun d S => ∃ g m, d = .r 1 ∧ S = dkS g m 0 [] ∧ g.length ≤ 63 := by
  obtain ⟨ks, hk, hl⟩ := cut_ints ns
  refine ⟨rfl, ?_⟩
  refine ⟨by decide, ?_⟩
  refine ⟨⟨rfl, by decide, by decide⟩, ?_⟩
  show wpSs F Gc (.cons (.fors _ _ _) _) [some (.s (ns.map PyData.int)), some (.r 1), none, none] (dkS [] (16243 + ((cutP (ns.map PyData.int) none (some 63)).length : Int)) 0 []) _
  generalize (16243 + ((cutP (ns.map PyData.int) none (some 63)).length : Int)) = m0
  refine wps_for (.it (ks.map PyData.int)) (dkS [] m0 0 []) ks.length (fun i e s => ∃ g m x y, e = [some (.s (ns.map PyData.int)), some (.r 1), x, y] ∧ s = dkS g m 0 [] ∧ g.length ≤ i) (fun R r => ?_) (by simp [lenS]) ⟨[], _, none, none, rfl, rfl, Nat.le_refl _⟩ (fun e s _ => ⟨by simp [atS], rfl⟩) ?_ ?_
  · show R (.it (cutP (ns.map PyData.int) none (some 63))) (dkS [] m0 0 [])
    rw [hk]
    exact r
  · rintro i e s hi ⟨g, m, x, y, rfl, rfl, hg⟩
    refine ⟨.int ks[i], by simp [atS, hi], ?_⟩
    refine ⟨mul_ok (by decide), ?_⟩
    refine ⟨by decide, fun hx => ?_, fun hx => ?_⟩
    · refine ⟨rfl, ?_⟩
      refine WO.mk (app_great g _ m 0 [] (by omega)) ?_
      refine ⟨mul_ok2 (by decide), by decide, .inl rfl, _, _, _, _, rfl, rfl, ?_⟩
      rw [List.length_append]
      exact Nat.succ_le_succ hg
    · exact ⟨mul_ok2 (by decide), by decide, .inl rfl, g, _, _, _, rfl, rfl, Nat.le_succ_of_le hg⟩
  · rintro e s ⟨g, m, x, y, rfl, rfl, hg⟩
    exact ⟨g, m, rfl, rfl, by omega⟩
section
variable {fs : List DF} {Gc : Nat → Option P} {n draw pick many rows number table : Nat} {g : List Int} {m t : Int} {rest : Sto} {Q : D × Sto → Prop}
theorem call_many (h : fs[draw]? = some ⟨4, 2, cDraw⟩) (h2 : fs[pick]? = some ⟨2, 2, cPick draw⟩) (h3 : fs[many]? = some ⟨1, 1, cMany draw pick⟩) (hr : RestOk rest) (hg : g.length ≤ 63)
    (q : ∀ (k : Nat) g' m' t', 1 ≤ k → k ≤ 6 → g'.length ≤ 63 → Q (.p (.int (k : Int)), dkS g' m' t' rest)) : WO (callD (run fs Gc (n + 3)) many 1 [.r 1] (dkS g m t rest)) Q := by
  have w : wpF (run fs Gc (n + 2)) Gc 1 1 (cMany draw pick) [.r 1] (dkS g m t rest) fun d S => ∃ (k : Nat) (g' : List Int) (m' t' : Int), d = .p (.int (k : Int)) ∧ 1 ≤ k ∧ k ≤ 6 ∧ S = dkS g' m' t' rest ∧ g'.length ≤ 63 := by
    refine ⟨rfl, ?_⟩
    show WO (callD (run fs Gc (n + 2)) draw 1 [.r 1, .p (.int 2)] (dkS g m t rest)) _
    refine call_draw h hr hg (by decide) fun v g' m' t' v1 v2 hg' => ?_
    refine ⟨rfl, ?_⟩
    show WO (callD (run fs Gc (n + 2)) pick 1 [.r 1, .p (.list [.int 1, .int 2, .int 2, .int 3, .int 3, .int 3, .int 4, .int 4, .int 4, .int (5 + v)])] (dkS g' m' t' rest)) _
    refine call_pick h h2 hr hg' (.inl ⟨_, rfl⟩) (by show 0 < 10; decide) (by show 10 < _; decide) fun x g'' m'' t'' hx hg'' => ?_
    have hx : x ∈ [PyData.int 1, .int 2, .int 2, .int 3, .int 3, .int 3, .int 4, .int 4, .int 4, .int (5 + v)] := hx
    have : ∃ k : Nat, x = .int (k : Int) ∧ 1 ≤ k ∧ k ≤ 6 := by
      simp only [List.mem_cons, List.not_mem_nil, or_false] at hx
      rcases hx with rfl | rfl | rfl | rfl | rfl | rfl | rfl | rfl | rfl | rfl
      · exact ⟨1, rfl, by decide, by decide⟩
      · exact ⟨2, rfl, by decide, by decide⟩
      · exact ⟨2, rfl, by decide, by decide⟩
      · exact ⟨3, rfl, by decide, by decide⟩
      · exact ⟨3, rfl, by decide, by decide⟩
      · exact ⟨3, rfl, by decide, by decide⟩
      · exact ⟨4, rfl, by decide, by decide⟩
      · exact ⟨4, rfl, by decide, by decide⟩
      · exact ⟨4, rfl, by decide, by decide⟩
      · exact ⟨(5 + v).toNat, by congr 1; omega, by omega, by omega⟩
    obtain ⟨k, rfl, k1, k2⟩ := this
    exact ⟨k, g'', m'', t'', rfl, k1, k2, rfl, hg''⟩
  obtain ⟨d, S', h4, k, g', m', t', rfl, k1, k2, rfl, hg'⟩ := run_w (n := n + 2) (Gc := Gc) h3 w
  exact call_dk (R := fun d => ∃ k : Nat, d = .p (.int (k : Int)) ∧ 1 ≤ k ∧ k ≤ 6) hr ⟨_, _, h4, g', m', t', [], by rw [List.append_nil], hg', _, rfl, k, rfl, k1, k2⟩ fun d' g' m' t' ⟨k, e, k1, k2⟩ h6 => by
    rw [e]; exact q k g' m' t' k1 k2 h6
theorem call_rows {F : Nat → FT} (h : fs[rows]? = some ⟨5, 1, cRows⟩) {k : Nat} (hk : k ≤ 12) {S : Sto} (q : Q (.p (.list ((bitsL k).map tupI)), S)) : WO (callD (run fs Gc (n + 1)) rows 0 [.p (.int (k : Int))] S) Q := by
  obtain ⟨d, S', h1, h2⟩ := run_w (n := n) (Gc := Gc) h (rows_w (run fs Gc n) Gc k hk)
  exact call0 [.int (k : Int)] ⟨d, S', h1, _, h2, q⟩
theorem call_number (h : fs[number]? = some ⟨3, 1, cNumber⟩) {bs : List Int} {S : Sto} (q : Q (.p (.int (numL bs)), S)) : WO (callD (run fs Gc (n + 1)) number 0 [.p (tupI bs)] S) Q := by
  obtain ⟨d, S', h1, rfl, rfl⟩ := run_w (n := n) (Gc := Gc) h (number_w (run fs Gc n) Gc bs [])
  exact call0 [tupI bs] ⟨_, _, h1, _, rfl, q⟩
theorem restOk_snoc (hr : RestOk rest) (xs : List P) : RestOk (rest ++ [.lst xs]) := by
  unfold RestOk at hr ⊢
  rw [List.all_append, Bool.and_eq_true]
  refine ⟨List.all_eq_true.mpr fun mo hm => ?_, rfl⟩
  have := List.all_eq_true.mp hr mo hm
  cases mo with
  | lst ys => rfl
  | dic kvs =>
    refine List.all_eq_true.mpr fun kv hkv => ?_
    have q := List.all_eq_true.mp (show kvs.all (fun kv => belowD (rest.length + 2) kv.2) = true from this) kv hkv
    cases hd : kv.2 with
    | r k =>
      rw [hd] at q
      have q : k < rest.length + 2 := of_decide_eq_true q
      rw [List.length_append]
      exact decide_eq_true (by show k < rest.length + 1 + 2; omega)
    | _ => rfl
  | dit kvs =>
    refine List.all_eq_true.mpr fun kv hkv => ?_
    have q := List.all_eq_true.mp (show kvs.all (fun kv => belowD (rest.length + 2) kv.2) = true from this) kv hkv
    cases hd : kv.2 with
    | r k =>
      rw [hd] at q
      have q : k < rest.length + 2 := of_decide_eq_true q
      rw [List.length_append]
      exact decide_eq_true (by show k < rest.length + 1 + 2; omega)
    | _ => rfl
end
end DS
set_option maxRecDepth 100000
set_option maxHeartbeats 4000000
namespace DS
open PySem L2
def BitsOk (n : Nat) (cells : List Int) : Prop := cells.length = n ∧ ∀ c, c ∈ cells → c = 0 ∨ c = 1
theorem dk_last (g : List Int) (m t : Int) (rest : Sto) (mo : MO) : (dkS g m t (rest ++ [mo]))[rest.length + 2]? = some mo := by
  simp [dkS]
theorem dk_setLast (g : List Int) (m t : Int) (rest : Sto) (mo mo' : MO) : (dkS g m t (rest ++ [mo])).set (rest.length + 2) mo' = dkS g m t (rest ++ [mo']) := by
  simp [dkS]
theorem bit_of {v : Int} (h0 : 0 ≤ v) (h1 : v < 2 ∨ v = 0) : v = 0 ∨ v = 1 := by omega
section
variable {fs : List DF} {Gc : Nat → Option P} {n draw pick many rows number table : Nat} {g : List Int} {m t : Int} {rest : Sto}
theorem draws_lc {Q : List P × Sto → Prop} (h : fs[draw]? = some ⟨4, 2, cDraw⟩) (hr : RestOk rest) (hg : g.length ≤ 63) (l : List P) (a1 a2 a3 a4 a5 a6 a7 : Option D) (q : ∀ bits g' m' t', BitsOk l.length bits → g'.length ≤ 63 → Q (bits.map PyData.int, dkS g' m' t' rest)) :
    WO (compG (fun S => isRl S (.it l)) (fun S i => atS S (.it l) i) (stepD (run fs Gc (n + 1)) Gc (.cal draw 1 (.cons (.var 0) (.cons (.cint 2) .nil))) (.tnm 6) .nil [6] [some (.r 1), a1, a2, a3, a4, a5, a6, a7]) (lenS (dkS g m t rest) (.it l)) 0 (dkS g m t rest)) Q := by
  refine wp_lc l.length (fun i a s => ∃ bits g' m' t', a = bits.map PyData.int ∧ BitsOk i bits ∧ s = dkS g' m' t' rest ∧ g'.length ≤ 63) rfl ⟨[], g, m, t, rfl, ⟨rfl, fun c h => by cases h⟩, rfl, hg⟩ (fun a s _ => ⟨by simp [atS], rfl⟩) ?_ ?_
  · rintro i a s hi ⟨bits, g', m', t', rfl, ⟨b1, b2⟩, rfl, hg'⟩
    refine ⟨l[i], by simp [atS, hi], ?_⟩
    refine ⟨true, _, rfl, fun _ => ?_, fun z => by cases z⟩
    show WO (callD (run fs Gc (n + 1)) draw 1 [.r 1, .p (.int 2)] (dkS g' m' t' rest)) _
    refine call_draw h hr hg' (by decide) fun v g'' m'' t'' v1 v2 hg'' => ⟨.int v, rfl, bits ++ [v], g'', m'', t'', by simp, ⟨by simp [b1], fun c hc => ?_⟩, rfl, hg''⟩
    rcases List.mem_append.mp hc with z | z
    · exact b2 c z
    · rw [List.mem_singleton.mp z]; exact bit_of v1 v2
  · rintro a s ⟨bits, g', m', t', rfl, b, rfl, hg'⟩
    exact q bits g' m' t' b hg'
theorem set_bits {cells : List Int} {N : Nat} (h : BitsOk N cells) (j : Nat) {x : Int} (hx : x = 0 ∨ x = 1) : BitsOk N (cells.set j (1 - x)) := by
  refine ⟨by rw [List.length_set]; exact h.1, fun c hc => ?_⟩
  rcases List.mem_or_eq_of_mem_set hc with z | z
  · exact h.2 c z
  · omega
def cTail (draw : Nat) : C := .cons (.ifs (.cmp .Eq (.cal draw 1 (.cons (.var 0) (.cons (.cint 4) .nil))) (.cint 0)) (.cons (.asg (.tnm 5) (.cal draw 1 (.cons (.var 0) (.cons (.bi .len (.cons (.var 2) .nil)) .nil)))) (.cons (.setl (.var 4) (.var 5) (.bin .Sub (.cint 1) (.ix (.var 4) (.var 5)))) .nil)) .nil) (.cons (.ret (.bi .tup (.cons (.var 4) .nil))) .nil)
theorem table_tail {Q : Fl → DEnv → Sto → Prop} (h : fs[draw]? = some ⟨4, 2, cDraw⟩) (hr : RestOk rest) (hg : g.length ≤ 63) {cells : List Int} {k : Nat} (hk : k ≤ 12) (hb : BitsOk (2 ^ k) cells) (w a x y : Option D)
    (q : ∀ e cells' g' m' t', BitsOk (2 ^ k) cells' → g'.length ≤ 63 → Q (.rt (.p (tupI cells'))) e (dkS g' m' t' (rest ++ [.lst (cells'.map PyData.int)]))) :
    wpSs (run fs Gc (n + 1)) Gc (cTail draw) [some (.r 1), some (.p (.int (k : Int))), some (.p (.list ((bitsL k).map tupI))), w, some (.r (rest.length + 2)), a, x, y] (dkS g m t (rest ++ [.lst (cells.map PyData.int)])) Q := by
  have hr2 := restOk_snoc hr (cells.map PyData.int)
  have p12 : 2 ^ k ≤ 4096 := Nat.le_trans (Nat.pow_le_pow_right (by decide) hk) (by decide)
  have fin : ∀ (cells' : List Int) (g' : List Int) (m' t' : Int) (a' : Option D), BitsOk (2 ^ k) cells' → g'.length ≤ 63 →
      wpSs (run fs Gc (n + 1)) Gc (.cons (.ret (.bi .tup (.cons (.var 4) .nil))) .nil) [some (.r 1), some (.p (.int (k : Int))), some (.p (.list ((bitsL k).map tupI))), w, some (.r (rest.length + 2)), a', x, y] (dkS g' m' t' (rest ++ [.lst (cells'.map PyData.int)])) Q := fun cells' g' m' t' a' hb' hg' => by
    show WO (snaps (dkS g' m' t' (rest ++ [.lst (cells'.map PyData.int)])) [.r (rest.length + 2)]) _
    refine WO.mk (a := [PyData.list (cells'.map PyData.int)]) ?_ ?_
    · simp [snaps, snap, dk_last, snapM]
    · exact q _ cells' g' m' t' hb' hg'
  show WO (callD (run fs Gc (n + 1)) draw 1 [.r 1, .p (.int 4)] (dkS g m t (rest ++ [.lst (cells.map PyData.int)]))) _
  refine call_draw h hr2 hg (by decide) fun v g1 m1 t1 v1 v2 hg1 => ?_
  refine ⟨fun _ => ?_, fun _ => ?_⟩
  · show WO (callD (run fs Gc (n + 1)) draw 1 [.r 1, .p (.int (((bitsL k).map tupI).length : Int))] (dkS g1 m1 t1 (rest ++ [.lst (cells.map PyData.int)]))) _
    have hl : (((bitsL k).map tupI).length : Int) = ((2 ^ k : Nat) : Int) := by rw [List.length_map, bitsL_len]
    rw [hl]
    refine call_draw h hr2 hg1 (by omega) fun v g2 m2 t2 v1 v2 hg2 => ?_
    have hpos : 0 < 2 ^ k := Nat.pow_pos (by decide)
    obtain ⟨x0, e1, e2, e3⟩ := atI_nat (xs := cells.map PyData.int) v1 (by rw [List.length_map, hb.1]; omega)
    obtain ⟨c0, hc0, rfl⟩ := List.mem_map.mp e2
    show WO (snap (dkS g2 m2 t2 (rest ++ [.lst (cells.map PyData.int)])) (.r (rest.length + 2))) _
    refine WO.mk (a := PyData.list (cells.map PyData.int)) (by simp [snap, dk_last, snapM]) ?_
    show WO (atI (cells.map PyData.int) v) _
    refine WO.mk e1 ?_
    show WO (setlD (.r (rest.length + 2)) (.p (.int v)) (.p (.int (1 - c0))) (dkS g2 m2 t2 (rest ++ [.lst (cells.map PyData.int)]))) _
    refine WO.mk (a := dkS g2 m2 t2 (rest ++ [.lst ((cells.set v.toNat (1 - c0)).map PyData.int)])) ?_ ?_
    · have hix : ixN (cells.map PyData.int).length v = some v.toNat := by
        unfold ixN
        rw [if_pos v1, if_pos (by rw [List.length_map, hb.1]; omega)]
      simp only [setlD, dk_last, snapM, hix, Option.map_some, dk_setLast, List.map_set]
    · exact fin _ g2 m2 t2 _ (set_bits hb _ (hb.2 c0 hc0)) hg2
  · exact fin cells g1 m1 t1 a hb hg1
theorem sum_bits {r : List Int} : biF .sum [tupI r] = some (.int r.sum) := by
  have : ∀ l : List Int, intsOf (l.map PyData.int) = some l := by
    intro l
    induction l with
    | nil => rfl
    | cons a l ih =>
      show (intsOf (l.map PyData.int)).map (a :: ·) = _
      rw [ih]; rfl
  show (intsOf (r.map PyData.int)).map (fun ns => PyData.int ns.sum) = _
  rw [this]; rfl
theorem numL_bits : ∀ (r : List Int), (∀ b, b ∈ r → b = 0 ∨ b = 1) → 0 ≤ numL r ∧ numL r < ((2 ^ r.length : Nat) : Int) := by
  intro r
  have key : ∀ (l : List Int) (a : Int), (∀ b, b ∈ l → b = 0 ∨ b = 1) → 0 ≤ a → 0 ≤ l.foldl (fun a b => 2 * a + b) a ∧ l.foldl (fun a b => 2 * a + b) a < (a + 1) * ((2 ^ l.length : Nat) : Int) := by
    intro l
    induction l with
    | nil => intro a _ ha; exact ⟨ha, by simp; omega⟩
    | cons b l ih =>
      intro a hb ha
      have hb0 := hb b List.mem_cons_self
      obtain ⟨h1, h2⟩ := ih (2 * a + b) (fun c hc => hb c (List.mem_cons_of_mem _ hc)) (by omega)
      refine ⟨h1, Int.lt_of_lt_of_le h2 ?_⟩
      rw [List.length_cons, Nat.pow_succ, Int.natCast_mul]
      have hp : (0 : Int) ≤ ((2 ^ l.length : Nat) : Int) := Int.natCast_nonneg _
      have e : (a + 1) * (((2 ^ l.length : Nat) : Int) * ((2 : Nat) : Int)) = (2 * a + 2) * ((2 ^ l.length : Nat) : Int) := by
        rw [Int.mul_comm ((2 ^ l.length : Nat) : Int), ← Int.mul_assoc]
        congr 1
        omega
      rw [e]
      exact Int.mul_le_mul_of_nonneg_right (by omega) hp
  intro h
  obtain ⟨h1, h2⟩ := key r 0 h (by omega)
  exact ⟨h1, by rw [show ((0 : Int) + 1) = 1 from rfl, Int.one_mul] at h2; exact h2⟩
theorem flat_one (n : Nat) (x : P) : (List.replicate n [x]).flatten = List.replicate n x := by
  induction n with
  | zero => rfl
  | succ n ih => rw [List.replicate_succ, List.flatten_cons, ih, List.replicate_succ]; rfl
theorem map_bits {k : Nat} (f : List Int → Int) (hf : ∀ r, r ∈ bitsL k → f r = 0 ∨ f r = 1) : BitsOk (2 ^ k) ((bitsL k).map f) := by
  refine ⟨by rw [List.length_map, bitsL_len], fun c hc => ?_⟩
  obtain ⟨r, hr, rfl⟩ := List.mem_map.mp hc
  exact hf r hr
theorem rows_lc {F : FT} {S : Sto} {Q : List P × Sto → Prop} {k : Nat} {elt : C} {env : DEnv} (f : List Int → Int) (he : ∀ r, r ∈ bitsL k → WO (bindT (.tnm 6) (.p (tupI r)) (wipeE env [6]) S) fun e1 => wpE F Gc elt e1 S fun d s2 => d = .p (.int (f r)) ∧ s2 = S)
    (q : Q (((bitsL k).map f).map PyData.int, S)) : WO (compG (fun S => isRl S (.it ((bitsL k).map tupI))) (fun S i => atS S (.it ((bitsL k).map tupI)) i) (stepD F Gc elt (.tnm 6) .nil [6] env) (lenS S (.it ((bitsL k).map tupI))) 0 S) Q := by
  have g : ∀ x : P, ∃ y : P, ∀ r, r ∈ bitsL k → x = tupI r → y = .int (f r) := fun x => by
    by_cases h : ∃ r, r ∈ bitsL k ∧ x = tupI r
    · obtain ⟨r, h1, rfl⟩ := h
      refine ⟨.int (f r), fun r2 h2 e => ?_⟩
      have e : PyData.tuple (r.map PyData.int) = .tuple (r2.map PyData.int) := e
      have inj : ∀ (a b : List Int), a.map PyData.int = b.map PyData.int → a = b := by
        intro a
        induction a with
        | nil => intro b h; cases b <;> first | rfl | cases h
        | cons x a ih =>
          intro b h
          cases b with
          | nil => cases h
          | cons y b =>
            have h : PyData.int x :: a.map PyData.int = .int y :: b.map PyData.int := h
            injection h with h1 h2
            injection h1 with h1
            rw [h1, ih b h2]
      injection e with e
      rw [inj _ _ e]
    · exact ⟨.none, fun r h1 e => absurd ⟨r, h1, e⟩ h⟩
  refine wp_map (src := .it ((bitsL k).map tupI)) (fun x => (g x).choose) rfl (fun x hx => ?_) ?_
  · obtain ⟨r, hr, rfl⟩ := List.mem_map.mp (show x ∈ (bitsL k).map tupI from hx)
    obtain ⟨e1, h1, w⟩ := (he r hr).ex
    refine WO.mk h1 ?_
    obtain ⟨d, s2, h2, rfl, rfl⟩ := (wp_ok F Gc elt).1 _ _ _ w
    rw [(g (tupI r)).choose_spec r hr rfl]
    exact w
  · show Q (((bitsL k).map tupI).map (fun x => (g x).choose), S)
    have : ((bitsL k).map tupI).map (fun x => (g x).choose) = ((bitsL k).map f).map PyData.int := by
      rw [List.map_map, List.map_map]
      exact List.map_congr_left fun r hr => (g (tupI r)).choose_spec r hr rfl
    rw [this]
    exact q
theorem table_w (h : fs[draw]? = some ⟨4, 2, cDraw⟩) (h2 : fs[rows]? = some ⟨5, 1, cRows⟩) (h3 : fs[number]? = some ⟨3, 1, cNumber⟩) (hr : RestOk rest) (hg : g.length ≤ 63) {k : Nat} (k1 : 1 ≤ k) (hk : k ≤ 12) :
    wpF (run fs Gc (n + 1)) Gc 8 2 (cTable draw rows number) [.r 1, .p (.int (k : Int))] (dkS g m t rest) fun d S => ∃ cells g' m' t' more, d = .p (tupI cells) ∧ BitsOk (2 ^ k) cells ∧ S = dkS g' m' t' (rest ++ more) ∧ g'.length ≤ 63 := by
  have p12 : 2 ^ k ≤ 4096 := Nat.le_trans (Nat.pow_le_pow_right (by decide) hk) (by decide)
  have hpos : 0 < 2 ^ k := Nat.pow_pos (by decide)
  have hl : ((bitsL k).map tupI).length = 2 ^ k := by rw [List.length_map, bitsL_len]
  have fit : fitsN (((bitsL k).map tupI)).length = true := fits_ok (by rw [hl]; omega)
  refine ⟨rfl, ?_⟩
  show WO (callD (run fs Gc (n + 1)) rows 0 [.p (.int (k : Int))] (dkS g m t rest)) _
  refine call_rows (F := fun _ => run fs Gc n) h2 hk ?_
  show WO (callD (run fs Gc (n + 1)) draw 1 [.r 1, .p (.int 9)] (dkS g m t rest)) _
  refine call_draw h hr hg (by decide) fun v g1 m1 t1 _ _ hg1 => ?_
  -- behind the ways
  have tail : ∀ (cells : List Int) (g' : List Int) (m' t' : Int) (a x y : Option D), BitsOk (2 ^ k) cells → g'.length ≤ 63 → wpSs (run fs Gc (n + 1)) Gc (cTail draw) [some (.r 1), some (.p (.int (k : Int))), some (.p (.list ((bitsL k).map tupI))), some (.p (.int v)), some (.r (rest.length + 2)), a, x, y] (dkS g' m' t' (rest ++ [.lst (cells.map PyData.int)])) fun f _ S1 => match f with
      | .rt d => ∃ cells g' m' t' more, d = .p (tupI cells) ∧ BitsOk (2 ^ k) cells ∧ S1 = dkS g' m' t' (rest ++ more) ∧ g'.length ≤ 63
      | .nx => ∃ cells g' m' t' more, D.p PyData.none = .p (tupI cells) ∧ BitsOk (2 ^ k) cells ∧ S1 = dkS g' m' t' (rest ++ more) ∧ g'.length ≤ 63
      | _ => False := fun cells g' m' t' a x y hb hg' => table_tail h hr hg' hk hb _ a x y fun e c2 g2 m2 t2 hb2 hg2 => ⟨c2, g2, m2, t2, _, rfl, hb2, rfl, hg2⟩
  refine ⟨fun _ => ?_, fun _ => ⟨fun _ => ?_, fun _ => ⟨fun _ => ?_, fun _ => ⟨fun _ => ?_, fun _ => ⟨fun _ => ?_, fun _ => ⟨fun _ => ?_, fun _ => ?_⟩⟩⟩⟩⟩⟩
  · show WO (callD (run fs Gc (n + 1)) draw 1 [.r 1, .p (.int 2)] (dkS g1 m1 t1 rest)) _
    refine call_draw h hr hg1 (by decide) fun u g2 m2 t2 u1 u2 hg2 => ?_
    refine ⟨rfl, ?_⟩
    refine ⟨rfl, ⟨⟨by rw [hl]; omega, by rw [hl]; omega⟩, fits_ok (by rw [hl, Int.toNat_natCast]; show 1 * 2 ^ k ≤ _; rw [Nat.one_mul]; omega)⟩, ?_⟩
    rw [hl, Int.toNat_natCast, flat_one, ← List.map_replicate]
    exact tail (List.replicate (2 ^ k) u) g2 m2 t2 _ _ _ ⟨List.length_replicate, fun c hc => by rw [(List.mem_replicate.mp hc).2]; exact bit_of u1 u2⟩ hg2
  · refine ⟨fit, ?_⟩
    refine rows_lc (k := k) (fun r => r.sum % 2) (fun r hr2 => ?_) ?_
    · show WO (biF .sum [tupI r]) _
      exact WO.mk sum_bits ⟨by decide, rfl, rfl⟩
    · exact tail _ g1 m1 t1 _ _ _ (map_bits _ fun r _ => by omega) hg1
  · refine ⟨fit, ?_⟩
    refine rows_lc (k := k) (fun r => if decide ((k : Int) < 2 * r.sum) = true then 1 else 0) (fun r hr2 => ?_) ?_
    · show WO (biF .sum [tupI r]) _
      exact WO.mk sum_bits ⟨mul_ok (by decide), rfl, rfl⟩
    · exact tail _ g1 m1 t1 _ _ _ (map_bits _ fun r _ => by split <;> simp) hg1
  · refine ⟨fit, ?_⟩
    refine rows_lc (k := k) (fun r => if PyData.eqv (.int r.sum) (.int (k : Int)) = true then 1 else 0) (fun r hr2 => ?_) ?_
    · show WO (biF .sum [tupI r]) _
      exact WO.mk sum_bits ⟨rfl, rfl⟩
    · exact tail _ g1 m1 t1 _ _ _ (map_bits _ fun r _ => by split <;> simp) hg1
  · show WO (callD (run fs Gc (n + 1)) draw 1 [.r 1, .p (.int (k : Int))] (dkS g1 m1 t1 rest)) _
    refine call_draw h hr hg1 (by omega) fun u g2 m2 t2 u1 u2 hg2 => ?_
    refine ⟨fit, ?_⟩
    refine rows_lc (k := k) (fun r => (r[u.toNat]?).getD 0) (fun r hr2 => ?_) ?_
    · have hlen := (bitsL_row k r hr2).1
      have hu : u.toNat < r.length := by omega
      show WO (atI (r.map PyData.int) u) _
      obtain ⟨x0, e1, e2, e3⟩ := atI_nat (xs := r.map PyData.int) u1 (by rw [List.length_map]; omega)
      refine WO.mk e1 ⟨?_, rfl⟩
      rw [List.getElem?_map, List.getElem?_eq_getElem hu] at e3
      rw [List.getElem?_eq_getElem hu]
      cases e3
      rfl
    · refine tail _ g2 m2 t2 _ _ _ (map_bits _ fun r hr2 => ?_) hg2
      obtain ⟨hlen, hb⟩ := bitsL_row k r hr2
      have hu : u.toNat < r.length := by omega
      rw [List.getElem?_eq_getElem hu]
      exact hb _ (List.getElem_mem hu)
  · refine ⟨fit, ?_⟩
    refine draws_lc h hr hg1 _ _ _ _ _ _ _ _ fun bits g2 m2 t2 hb hg2 => ?_
    rw [hl] at hb
    refine ⟨fit, ?_⟩
    have small : ∀ r, r ∈ bitsL k → 0 ≤ numL (r.drop 1) ∧ (numL (r.drop 1)).toNat < bits.length := fun r hr2 => by
      obtain ⟨hlen, hbr⟩ := bitsL_row k r hr2
      obtain ⟨z1, z2⟩ := numL_bits (r.drop 1) fun b hb => hbr b (List.mem_of_mem_drop hb)
      rw [List.length_drop, hlen] at z2
      have : 2 ^ (k - 1) ≤ 2 ^ k := Nat.pow_le_pow_right (by decide) (by omega)
      have z3 : numL (r.drop 1) < ((2 ^ k : Nat) : Int) := Int.lt_of_lt_of_le z2 (by exact_mod_cast this)
      rw [hb.1]
      omega
    refine rows_lc (k := k) (fun r => (bits[(numL (r.drop 1)).toNat]?).getD 0) (fun r hr2 => ?_) ?_
    · obtain ⟨z1, z2⟩ := small r hr2
      have cut : PyData.tuple (cutP (r.map PyData.int) (some 1) none) = tupI (r.drop 1) := by
        have hlen := (bitsL_row k r hr2).1
        have e1 : HT.sIx (r.map PyData.int).length 0 (some 1) = 1 := by
          rw [show (1 : Int) = ((1 : Nat) : Int) from rfl, HT.sIx_nat, List.length_map, hlen]; omega
        have : cutP (r.map PyData.int) (some 1) none = (r.drop 1).map PyData.int := by
          unfold cutP
          rw [e1]
          show List.take ((r.map PyData.int).length - 1) (List.drop 1 (r.map PyData.int)) = _
          rw [List.take_of_length_le (by rw [List.length_drop]; omega), List.map_drop]
        rw [this]; rfl
      show WO (callD (run fs Gc (n + 1)) number 0 [.p (.tuple (cutP (r.map PyData.int) (some 1) none))] (dkS g2 m2 t2 rest)) _
      rw [cut]
      refine call_number h3 ?_
      show WO (atI (bits.map PyData.int) (numL (r.drop 1))) _
      obtain ⟨x0, e1, e2, e3⟩ := atI_nat (xs := bits.map PyData.int) z1 (by rw [List.length_map]; omega)
      refine WO.mk e1 ⟨?_, rfl⟩
      rw [List.getElem?_map, List.getElem?_eq_getElem z2] at e3
      rw [List.getElem?_eq_getElem z2]
      cases e3
      rfl
    · refine tail _ g2 m2 t2 _ _ _ (map_bits _ fun r hr2 => ?_) hg2
      obtain ⟨z1, z2⟩ := small r hr2
      rw [List.getElem?_eq_getElem z2]
      exact hb.2 _ (List.getElem_mem z2)
  · refine ⟨fit, ?_⟩
    refine draws_lc h hr hg1 _ _ _ _ _ _ _ _ fun bits g2 m2 t2 hb hg2 => ?_
    rw [hl] at hb
    exact tail bits g2 m2 t2 _ _ _ hb hg2
theorem call_table {Q : D × Sto → Prop} (h : fs[draw]? = some ⟨4, 2, cDraw⟩) (h2 : fs[rows]? = some ⟨5, 1, cRows⟩) (h3 : fs[number]? = some ⟨3, 1, cNumber⟩) (h4 : fs[table]? = some ⟨8, 2, cTable draw rows number⟩) (hr : RestOk rest) (hg : g.length ≤ 63) {k : Nat} (k1 : 1 ≤ k) (hk : k ≤ 12)
    (q : ∀ cells g' m' t', BitsOk (2 ^ k) cells → g'.length ≤ 63 → Q (.p (tupI cells), dkS g' m' t' rest)) : WO (callD (run fs Gc (n + 2)) table 1 [.r 1, .p (.int (k : Int))] (dkS g m t rest)) Q := by
  obtain ⟨d, S', h5, cells, g', m', t', more, rfl, hb, rfl, hg'⟩ := run_w (n := n + 1) (Gc := Gc) h4 (table_w h h2 h3 hr hg k1 hk)
  exact call_dk (R := fun d => ∃ cells, d = .p (tupI cells) ∧ BitsOk (2 ^ k) cells) hr ⟨_, _, h5, g', m', t', more, rfl, hg', _, rfl, cells, rfl, hb⟩ fun d' g' m' t' ⟨cells, e, hb⟩ h6 => by
    rw [e]; exact q cells g' m' t' hb h6
end
end DS
set_option maxRecDepth 100000
set_option maxHeartbeats 4000000
namespace DS
open PySem L2
theorem wh_inv {F : FT} {G : Nat → Option P} {c body : C} (I : Nat → DEnv → Sto → Prop) (Z : DEnv → Sto → Prop)
    (step : ∀ m e s, I m e s → wpE F G c e s fun d s1 => wB d (wpSs F G body e s1 fun f e2 s2 => (f = .nx ∨ f = .ct) ∧ ∃ m', m' < m ∧ I m' e2 s2) (Z e s1)) :
    ∀ (fuel m : Nat) (e : DEnv) (s : Sto), m < fuel → I m e s → ∃ e' s', whileG (fun env S => denT F G c env S) (fun env S => denSs F G body env S) fuel e s = some (.nx, e', s') ∧ Z e' s' := by
  intro fuel
  induction fuel with
  | zero => intro m e s h; omega
  | succ fuel ih =>
    intro m e s h hI
    obtain ⟨d, s1, h1, w⟩ := (wp_ok F G c).1 _ _ _ (step m e s hI)
    obtain ⟨v, rfl, w1, w2⟩ := wB.ex w
    unfold whileG
    simp only [denT, asB, h1, Option.bind_some]
    cases v with
    | false => exact ⟨e, s1, rfl, w2 rfl⟩
    | true =>
      obtain ⟨f, e2, s2, h2, hf, m', hm, hI2⟩ := (wpS_ok F G body).2 _ _ _ (w1 rfl)
      obtain ⟨e3, s3, h3, z⟩ := ih m' e2 s2 (by omega) hI2
      refine ⟨e3, s3, ?_, z⟩
      simp only [h2, Option.bind_some]
      rcases hf with rfl | rfl
      · exact h3
      · exact h3
theorem wps_whl {F : FT} {G : Nat → Option P} {c body rest : C} {env : DEnv} {S : Sto} {Q : Fl → DEnv → Sto → Prop} {fuel : Nat} (m : Nat) (I : Nat → DEnv → Sto → Prop) (Z : DEnv → Sto → Prop) (hm : m < fuel) (h0 : I m env S)
    (step : ∀ m e s, I m e s → wpE F G c e s fun d s1 => wB d (wpSs F G body e s1 fun f e2 s2 => (f = .nx ∨ f = .ct) ∧ ∃ m', m' < m ∧ I m' e2 s2) (Z e s1)) (q : ∀ e s, Z e s → wpSs F G rest e s Q) : wpSs F G (.cons (.whl fuel c body) rest) env S Q := by
  obtain ⟨e, s, h, z⟩ := wh_inv I Z step fuel m env S hm h0
  show WO (whileG _ _ fuel env S) _
  exact WO.mk h (q e s z)
def cPlaces : C := (.cons (.asg (.tnm 1) (.cint 1)) (.cons (.whl 1000 (.cmp .Lt (.bin .LShift (.cint 1) (.var 1)) (.bi .len (.cons (.var 0) .nil))) (.cons (.asg (.tnm 1) (.bin .Add (.var 1) (.cint 1))) .nil)) (.cons (.ret (.var 1)) .nil)))
def cRowOf : C := (.cons (.ret (.bi .tup (.cons (.lc (.bin .BitAnd (.bin .RShift (.var 1) (.bin .Sub (.bin .Sub (.var 0) (.cint 1)) (.var 2))) (.cint 1)) (.tnm 2) (.rg1 (.var 0)) .nil [2]) .nil))) .nil)
theorem pow_ok {j : Nat} (h : j ≤ 1000000) : powOk 1 (j : Int) = true := by
  unfold powOk
  exact decide_eq_true ⟨by omega, by omega, by decide⟩
theorem places_w (F : FT) (Gc : Nat → Option P) (cells : List Int) (k : Nat) (k1 : 1 ≤ k) (hk : k ≤ 12) (hl : cells.length = 2 ^ k) (S : Sto) : wpF F Gc 2 1 cPlaces [.p (tupI cells)] S fun d S' => d = .p (.int (k : Int)) ∧ S' = S := by
  refine ⟨rfl, ?_⟩
  show wpSs F Gc (.cons (.whl _ _ _) _) [some (.p (tupI cells)), some (.p (.int 1))] S _
  refine wps_whl (k - 1) (fun m e s => s = S ∧ m < k ∧ e = [some (.p (tupI cells)), some (.p (.int ((k - m : Nat) : Int)))]) (fun e s => s = S ∧ e = [some (.p (tupI cells)), some (.p (.int (k : Int)))]) (by omega) ⟨rfl, by omega, by rw [show k - (k - 1) = 1 by omega]; rfl⟩ ?_ ?_
  · rintro m e s ⟨rfl, hm, rfl⟩
    have e2 : (1 : Int) * 2 ^ ((k - m : Nat) : Int).toNat = ((2 ^ (k - m) : Nat) : Int) := by rw [Int.one_mul, Int.toNat_natCast]; norm_cast
    refine ⟨pow_ok (by omega), ?_⟩
    refine ⟨fun h => ?_, fun h => ?_⟩
    · have h := of_decide_eq_true h
      rw [e2] at h
      have h : ((2 ^ (k - m) : Nat) : Int) < ((cells.map PyData.int).length : Int) := h
      rw [List.length_map, hl] at h
      have hm0 : m ≠ 0 := fun z => by rw [z] at h; exact absurd h (by simp)
      refine ⟨.inl rfl, m - 1, by omega, rfl, by omega, ?_⟩
      show [some (D.p (tupI cells)), some (.p (.int (((k - m : Nat) : Int) + 1)))] = _
      rw [show (((k - m : Nat) : Int) + 1) = ((k - (m - 1) : Nat) : Int) by omega]
    · have h := of_decide_eq_false h
      rw [e2] at h
      have h : ¬ ((2 ^ (k - m) : Nat) : Int) < ((cells.map PyData.int).length : Int) := h
      rw [List.length_map, hl] at h
      have hm0 : m = 0 := by
        by_cases z : m = 0
        · exact z
        · have : 2 ^ (k - m) < 2 ^ k := Nat.pow_lt_pow_right (by decide) (by omega)
          exact absurd (by exact_mod_cast this) h
      subst hm0
      exact ⟨rfl, rfl⟩
  · rintro e s ⟨rfl, rfl⟩
    exact ⟨rfl, rfl⟩
end DS
set_option maxRecDepth 100000
set_option maxHeartbeats 4000000
namespace DS
open PySem L2 PyProof.Rows
def IsBits (r : List Int) : Prop := ∀ b, b ∈ r → b = 0 ∨ b = 1
theorem numL_nil : numL [] = 0 := rfl
theorem numL_bit : ∀ (n : Nat) (r : List Int), r.length = n → IsBits r → ∀ (p : Nat) (h : p < r.length), numL r / 2 ^ (r.length - 1 - p) % 2 = r[p]
  | 0, r, hn, _, p, h => by omega
  | n + 1, r, hn, hb, p, h => by
    have hne : r ≠ [] := fun z => by rw [z] at hn; cases hn
    obtain ⟨r', b, rfl⟩ : ∃ r' b, r = r' ++ [b] := ⟨r.dropLast, r.getLast hne, (List.dropLast_concat_getLast hne).symm⟩
    have hb0 : b = 0 ∨ b = 1 := hb b (by simp)
    have hn' : r'.length = n := by simpa using hn
    rw [numL_snoc]
    by_cases hp : p < r'.length
    · rw [List.getElem_append_left hp]
      have ih := numL_bit n r' hn' (fun c hc => hb c (List.mem_append_left _ hc)) p hp
      rw [← ih]
      have e : (r' ++ [b]).length - 1 - p = (r'.length - 1 - p) + 1 := by rw [List.length_append]; simp; omega
      rw [e, Int.pow_succ, Int.mul_comm _ 2, ← Int.ediv_ediv_of_nonneg (by decide)]
      congr 2
      omega
    · have hpe : p = r'.length := by rw [List.length_append] at h; simp at h; omega
      subst hpe
      rw [List.getElem_append_right (Nat.le_refl _)]
      simp
      omega
theorem numL_set : ∀ (n : Nat) (r : List Int), r.length = n → ∀ (p : Nat) (h : p < r.length) (v : Int), numL (r.set p v) = numL r + (v - r[p]) * 2 ^ (r.length - 1 - p)
  | 0, r, hn, p, h, _ => by omega
  | n + 1, r, hn, p, h, v => by
    have hne : r ≠ [] := fun z => by rw [z] at hn; cases hn
    obtain ⟨r', b, rfl⟩ : ∃ r' b, r = r' ++ [b] := ⟨r.dropLast, r.getLast hne, (List.dropLast_concat_getLast hne).symm⟩
    have hn' : r'.length = n := by simpa using hn
    by_cases hp : p < r'.length
    · rw [List.set_append_left _ _ hp, numL_snoc, numL_snoc, numL_set n r' hn' p hp v, List.getElem_append_left hp]
      have e : (r' ++ [b]).length - 1 - p = (r'.length - 1 - p) + 1 := by rw [List.length_append]; simp; omega
      rw [e, Int.pow_succ]
      generalize (2 : Int) ^ (r'.length - 1 - p) = w
      rw [Int.mul_add, ← Int.mul_assoc (v - r'[p]), Int.mul_comm _ 2]
      omega
    · have hpe : p = r'.length := by rw [List.length_append] at h; simp at h; omega
      subst hpe
      rw [List.set_append_right _ _ (Nat.le_refl _), Nat.sub_self, List.getElem_append_right (Nat.le_refl _)]
      show numL (r' ++ [v]) = _
      rw [numL_snoc, numL_snoc]
      simp
      omega
theorem and_pow (x j : Nat) : x &&& 2 ^ j = (x / 2 ^ j % 2) * 2 ^ j := by
  have hb : x.testBit j = decide (x / 2 ^ j % 2 = 1) := by rw [Nat.testBit_eq_decide_div_mod_eq]
  refine Nat.eq_of_testBit_eq fun i => ?_
  rw [Nat.testBit_and, Nat.testBit_two_pow]
  rcases Nat.mod_two_eq_zero_or_one (x / 2 ^ j) with h | h
  · rw [h] at hb ⊢
    rw [Nat.zero_mul, Nat.zero_testBit]
    by_cases e : j = i
    · subst e; rw [hb]; rfl
    · simp [e]
  · rw [h] at hb ⊢
    rw [Nat.one_mul, Nat.testBit_two_pow]
    by_cases e : j = i
    · subst e; rw [hb]; rfl
    · simp [e]
theorem xor_pow {x : Int} (hx : 0 ≤ x) (j : Nat) : Builtin.bitXor x (2 ^ j) = x + (1 - 2 * (x / 2 ^ j % 2)) * 2 ^ j := by
  obtain ⟨n, rfl⟩ := Int.eq_ofNat_of_zero_le hx
  have hp : (0 : Int) ≤ 2 ^ j := Int.pow_nonneg (by decide)
  have ha : Builtin.bitAnd (n : Int) (2 ^ j) = ((n : Int) / 2 ^ j % 2) * 2 ^ j := by
    rw [bitAnd_pp (by omega) hp]
    have : ((2 : Int) ^ j).toNat = 2 ^ j := by
      rw [show (2 : Int) ^ j = ((2 ^ j : Nat) : Int) by norm_cast, Int.toNat_natCast]
    rw [this, Int.toNat_natCast, and_pow]
    norm_cast
  unfold Builtin.bitXor
  rw [bitOr_and, ha]
  generalize (n : Int) / 2 ^ j % 2 = q
  generalize (2 : Int) ^ j = w
  rw [Int.sub_mul, Int.one_mul, Int.mul_assoc]
  omega
end DS
set_option maxRecDepth 100000
set_option maxHeartbeats 4000000
namespace DS
open PySem L2
def cTurned : C := (.cons (.ret (.bi .tup (.cons (.lc (.ite (.cmp .In (.var 2) (.var 1)) (.bin .Sub (.cint 1) (.var 3)) (.var 3)) (.ttp (.cons (.tnm 2) (.cons (.tnm 3) .nil))) (.en (.var 0)) .nil [2, 3]) .nil))) .nil)
def inL (lot : List Int) (i : Int) : Bool := lot.any fun z => PyData.eqv (.int z) (.int i)
def turnedL (r lot : List Int) : List Int := r.mapIdx fun i b => if inL lot (i : Int) = true then 1 - b else b
theorem in_ints (lot : List Int) (i : Int) : cmpP .In (.int i) (tupI lot) = some (inL lot i) := by
  show okB (SeqAt.shaped (.int i) && SeqAt.shaped (.list (lot.map PyData.int))) ((lot.map PyData.int).any fun z => PyData.eqv z (.int i)) = _
  rw [shaped_ints, List.any_map]
  rfl
def ftT (lot : List Int) : P → P
  | .tuple [.int i, .int b] => .int (if inL lot i = true then 1 - b else b)
  | x => x
theorem turned_w (F : FT) (Gc : Nat → Option P) (r lot : List Int) (hl : r.length ≤ 1000) (S : Sto) : wpF F Gc 4 2 cTurned [.p (tupI r), .p (tupI lot)] S fun d S' => d = .p (tupI (turnedL r lot)) ∧ S' = S := by
  refine ⟨rfl, ?_⟩
  have e0 : srcL S (.en (.it (r.map PyData.int))) = r.mapIdx fun i b => PyData.tuple [.int (i : Int), .int b] := by
    refine List.ext_getElem? fun i => ?_
    show ((r.map PyData.int).mapIdx _)[i]? = _
    rw [List.getElem?_mapIdx, List.getElem?_mapIdx, List.getElem?_map]
    cases r[i]? <;> rfl
  have e1 : (srcL S (.en (.it (r.map PyData.int)))).map (ftT lot) = (turnedL r lot).map PyData.int := by
    rw [e0]
    refine List.ext_getElem? fun i => ?_
    unfold turnedL
    rw [List.getElem?_map, List.getElem?_mapIdx, List.getElem?_map, List.getElem?_mapIdx]
    cases r[i]? <;> rfl
  refine ⟨fits_ok (by show lenS S (.en (.it (r.map PyData.int))) ≤ _; simp [lenS]; omega), ?_⟩
  refine wp_map (src := .en (.it (r.map PyData.int))) (ftT lot) rfl (fun x hx => ?_) ?_
  · rw [e0] at hx
    obtain ⟨i, hi, rfl⟩ := List.mem_mapIdx.mp hx
    show WO (cmpP .In (.int (i : Int)) (tupI lot)) _
    refine WO.mk (in_ints lot i) ?_
    refine ⟨fun h => ⟨?_, rfl⟩, fun h => ⟨?_, rfl⟩⟩
    · show D.p (.int (1 - r[i])) = .p (.int (if inL lot (i : Int) = true then 1 - r[i] else r[i]))
      rw [if_pos h]
    · show D.p (.int (r[i])) = .p (.int (if inL lot (i : Int) = true then 1 - r[i] else r[i]))
      rw [if_neg (by rw [h]; simp)]
  · rw [e1]
    exact ⟨rfl, rfl⟩
theorem eqv_int (a b : Int) : PyData.eqv (.int a) (.int b) = decide (a = b) := by
  first | rfl | (simp [PyData.eqv])
theorem turned_one (r : List Int) (p : Nat) (h : p < r.length) : turnedL r [(p : Int)] = r.set p (1 - r[p]) := by
  refine List.ext_getElem? fun i => ?_
  unfold turnedL inL
  rw [List.getElem?_mapIdx, List.getElem?_set]
  simp only [List.any_cons, List.any_nil, Bool.or_false, eqv_int]
  by_cases e : p = i
  · subst e
    rw [if_pos rfl, if_pos h, List.getElem?_eq_getElem h]
    simp
  · rw [if_neg e]
    cases r[i]? with
    | none => rfl
    | some b =>
      show some (if _ then _ else _) = _
      rw [if_neg (by simp; omega)]
end DS
set_option maxRecDepth 100000
set_option maxHeartbeats 4000000
namespace DS
open PySem L2
def rngI (k : Nat) : List Int := (List.range k).map fun (i : Nat) => 0 + (i : Int) * 1
theorem srcL_rg (S : Sto) (k : Nat) : srcL S (.rg 0 1 k) = (rngI k).map PyData.int := by
  show (List.range k).map _ = ((List.range k).map _).map _
  rw [List.map_map]
  rfl
theorem rngI_mem {k : Nat} {p : Int} (h : p ∈ rngI k) : ∃ i : Nat, p = (i : Int) ∧ i < k := by
  obtain ⟨i, hi, rfl⟩ := List.mem_map.mp h
  exact ⟨i, by omega, List.mem_range.mp hi⟩
theorem rngI_len (k : Nat) : (rngI k).length = k := by simp [rngI]
def cellAt (cells : List Int) (v : Int) : Int := (cells[v.toNat]?).getD 0
theorem at_cell {cells : List Int} {v : Int} (h0 : 0 ≤ v) (h1 : v < cells.length) : atI (cells.map PyData.int) v = some (.int (cellAt cells v)) := by
  have hv : v.toNat < cells.length := by omega
  unfold atI ixN cellAt
  rw [if_pos h0, if_pos (by rw [List.length_map]; exact h1)]
  show (cells.map PyData.int)[v.toNat]? = _
  rw [List.getElem?_map, List.getElem?_eq_getElem hv]
  rfl
theorem numL_lt {r : List Int} {k : Nat} (hl : r.length = k) (hb : IsBits r) : 0 ≤ numL r ∧ numL r < ((2 ^ k : Nat) : Int) := by
  have := numL_bits r hb
  rw [hl] at this
  exact this
theorem xor_turned {r : List Int} {k : Nat} (hl : r.length = k) (hb : IsBits r) {p : Nat} (hp : p < k) : Builtin.bitXor (numL r) (1 * 2 ^ ((k : Int) - 1 - (p : Int)).toNat) = numL (turnedL r [(p : Int)]) := by
  have hp2 : p < r.length := by omega
  have e : ((k : Int) - 1 - (p : Int)).toNat = r.length - 1 - p := by omega
  rw [Int.one_mul, e, xor_pow (numL_lt hl hb).1, numL_bit r.length r rfl hb p hp2, turned_one r p hp2, numL_set r.length r rfl p hp2]
  congr 2
  omega
theorem turned_bits {r : List Int} (hb : IsBits r) (lot : List Int) : IsBits (turnedL r lot) := by
  intro b h
  obtain ⟨i, hi, rfl⟩ := List.mem_mapIdx.mp h
  have := hb _ (List.getElem_mem hi)
  split <;> omega
theorem turned_len (r lot : List Int) : (turnedL r lot).length = r.length := by simp [turnedL]
def pB (b : Int → Bool) : P → Bool
  | .int p => b p
  | _ => false
theorem filter_ints (b : Int → Bool) : ∀ l : List Int, (l.map PyData.int).filter (pB b) = (l.filter b).map PyData.int
  | [] => rfl
  | a :: l => by
    rw [List.map_cons, List.filter_cons, List.filter_cons, filter_ints b l]
    show (if b a = true then _ else _) = _
    cases b a <;> rfl
theorem ints_filter {F : FT} {G : Nat → Option P} {src : Src} {elt cnd : C} {j : Nat} {env : DEnv} {S : Sto} {Q : List P × Sto → Prop} (l : List Int) (b : Int → Bool) (hs : srcL S src = l.map PyData.int) (hc : isNil cnd = false) (hr : isRl S src = true)
    (he : ∀ p, p ∈ l → WO (bindT (.tnm j) (.p (.int p)) (wipeE env [j]) S) fun e1 => (wpE F G cnd e1 S fun d s2 => d = .p (.bool (b p)) ∧ s2 = S) ∧ (b p = true → wpE F G elt e1 S fun d s2 => d = .p (.int p) ∧ s2 = S)) (q : Q ((l.filter b).map PyData.int, S)) :
    WO (compG (fun S => isRl S src) (fun S i => atS S src i) (stepD F G elt (.tnm j) cnd [j] env) (lenS S src) 0 S) Q := by
  refine wp_filter (fun x => x) (pB b) hc hr (fun x hx => ?_) ?_
  · rw [hs] at hx
    obtain ⟨p, hp, rfl⟩ := List.mem_map.mp hx
    exact he p hp
  · rw [hs, filter_ints, List.map_id']
    exact q
theorem ints_map {F : FT} {G : Nat → Option P} {src : Src} {elt : C} {j : Nat} {env : DEnv} {S : Sto} {Q : List P × Sto → Prop} (l : List Int) (f : Int → Int) (hs : srcL S src = l.map PyData.int) (hr : isRl S src = true)
    (he : ∀ p, p ∈ l → WO (bindT (.tnm j) (.p (.int p)) (wipeE env [j]) S) fun e1 => wpE F G elt e1 S fun d s2 => d = .p (.int (f p)) ∧ s2 = S) (q : Q ((l.map f).map PyData.int, S)) :
    WO (compG (fun S => isRl S src) (fun S i => atS S src i) (stepD F G elt (.tnm j) .nil [j] env) (lenS S src) 0 S) Q := by
  refine wp_map (fun x => match x with | .int p => .int (f p) | x => x) hr (fun x hx => ?_) ?_
  · rw [hs] at hx
    obtain ⟨p, hp, rfl⟩ := List.mem_map.mp hx
    exact he p hp
  · rw [hs, List.map_map]
    rw [List.map_map] at q
    exact q
end DS
set_option maxRecDepth 100000
set_option maxHeartbeats 4000000
namespace DS
open PySem L2
structure Sm (d : P) (w dp : Nat) : Prop where
  lay : d.canLay0 = true
  dep : d.depth ≤ dp
  wei : d.weight ≤ w
  sho : d.showable = true
  dic : d.hasDict = false
  sml : d.intsShort 200 = true
structure SmA (l : List P) (w dp : Nat) : Prop where
  lay : PyData.canLayAll0 l = true
  dep : PyData.depthAll l ≤ dp
  wei : PyData.weightAll l ≤ w
  sho : PyData.showableAll l = true
  dic : PyData.hasDictAll l = false
  sml : PyData.intsShortAll 200 l = true
theorem SmA.nil {w dp : Nat} : SmA [] w dp := ⟨rfl, Nat.zero_le _, Nat.zero_le _, rfl, rfl, rfl⟩
theorem SmA.cons {x : P} {l : List P} {w v dp : Nat} (h : Sm x w dp) (t : SmA l v dp) : SmA (x :: l) (w + 1 + v) dp := by
  refine ⟨?_, ?_, ?_, ?_, ?_, ?_⟩
  · show (x.canLay0 && PyData.canLayAll0 l) = true
    rw [h.lay, t.lay]; rfl
  · exact Nat.max_le.mpr ⟨h.dep, t.dep⟩
  · show x.weight + 1 + PyData.weightAll l ≤ _
    have := h.wei; have := t.wei; omega
  · show (x.showable && PyData.showableAll l) = true
    rw [h.sho, t.sho]; rfl
  · show (x.hasDict || PyData.hasDictAll l) = false
    rw [h.dic, t.dic]; rfl
  · show (x.intsShort 200 && PyData.intsShortAll 200 l) = true
    rw [h.sml, t.sml]; rfl
theorem SmA.all {l : List P} {w dp : Nat} (h : ∀ x, x ∈ l → Sm x w dp) : SmA l (l.length * (w + 1)) dp := by
  induction l with
  | nil => exact .nil
  | cons x l ih =>
    have := SmA.cons (h x List.mem_cons_self) (ih fun y hy => h y (List.mem_cons_of_mem _ hy))
    rw [List.length_cons, Nat.succ_mul, Nat.add_comm]
    exact this
theorem SmA.wid {l : List P} {w v dp dq : Nat} (h : SmA l w dp) (h1 : w ≤ v) (h2 : dp ≤ dq) : SmA l v dq := ⟨h.lay, Nat.le_trans h.dep h2, Nat.le_trans h.wei h1, h.sho, h.dic, h.sml⟩
theorem Sm.wid {x : P} {w v dp dq : Nat} (h : Sm x w dp) (h1 : w ≤ v) (h2 : dp ≤ dq) : Sm x v dq := ⟨h.lay, Nat.le_trans h.dep h2, Nat.le_trans h.wei h1, h.sho, h.dic, h.sml⟩
theorem SmA.lst {l : List P} {w dp : Nat} (h : SmA l w dp) : Sm (.list l) w (dp + 1) := ⟨h.lay, Nat.succ_le_succ h.dep, h.wei, h.sho, h.dic, h.sml⟩
theorem SmA.tup {l : List P} {w dp : Nat} (h : SmA l w dp) : Sm (.tuple l) w (dp + 1) := ⟨h.lay, Nat.succ_le_succ h.dep, h.wei, h.sho, h.dic, h.sml⟩
theorem Sm.int {i : Int} (h : i.natAbs < 10 ^ 12) : Sm (.int i) 40 0 := by
  have hl : i.natAbs.log2 < 40 := by
    by_cases z : i.natAbs = 0
    · rw [z]; decide
    · exact (Nat.log2_lt z).mpr (Nat.lt_of_lt_of_le h (by decide))
  refine ⟨rfl, Nat.le_refl _, ?_, decide_eq_true (by omega), rfl, decide_eq_true (Nat.le_trans (PyData.shown_int_le h) (by decide))⟩
  show (if i == 0 then 0 else i.natAbs.log2 + 1) ≤ 40
  split <;> omega
theorem Sm.big {i : Int} (h : i.natAbs < 10 ^ 199) : Sm (.int i) 664 0 := by
  have hl : i.natAbs.log2 < 662 := by
    by_cases z : i.natAbs = 0
    · rw [z]; decide
    · exact (Nat.log2_lt z).mpr (Nat.lt_of_lt_of_le h (by decide +kernel))
  have hs : (PyData.shown (.int i)).length ≤ 200 := by
    have e := PySem.int_text_length_le10 (k := 199) (by decide) h
    show (Str.ofString (toString i)).length ≤ 200
    rw [PySem.ofString_length]; exact e
  refine ⟨rfl, Nat.le_refl _, ?_, decide_eq_true (by omega), rfl, decide_eq_true hs⟩
  show (if i == 0 then 0 else i.natAbs.log2 + 1) ≤ 664
  split <;> omega
theorem Sm.non {w dp : Nat} : Sm .none w dp := ⟨rfl, Nat.zero_le _, Nat.zero_le _, rfl, rfl, rfl⟩
theorem Sm.bl {b : Bool} {w dp : Nat} : Sm (.bool b) w dp := ⟨rfl, Nat.zero_le _, Nat.zero_le _, rfl, rfl, rfl⟩
theorem repr_ok {d : P} {w dp : Nat} (h : Sm d w dp) (hw : w ≤ 80000) (hd : dp ≤ 64) : biF .repr [d] = some (.str d.shown) := by
  have h2 := PyData.shown_le 200 (by decide) d (PyData.leavesShort_of_canLay0 200 d h.lay h.sml)
  have hf : fitsN d.shown.length = true := fits_ok (by have := h.wei; omega)
  show onI (PyData.showable d && !PyData.hasDict d && decide (d.depth ≤ 64) && fitsN d.shown.length) _ = _
  rw [h.sho, h.dic, decide_eq_true (Nat.le_trans h.dep hd), hf]
  rfl
theorem Sm.ints {l : List Int} (h : ∀ i, i ∈ l → i.natAbs < 10 ^ 12) : SmA (l.map PyData.int) (l.length * 41) 0 := by
  have := SmA.all (l := l.map PyData.int) (w := 40) (dp := 0) fun x hx => by
    obtain ⟨i, hi, rfl⟩ := List.mem_map.mp hx
    exact Sm.int (h i hi)
  rw [List.length_map] at this
  exact this
end DS
set_option maxRecDepth 100000
set_option maxHeartbeats 4000000
namespace DS
open PySem L2
theorem maxI_le {B : Int} (hB : 0 ≤ B) : ∀ {l : List Int}, (∀ x, x ∈ l → 0 ≤ x ∧ x ≤ B) → 0 ≤ maxI l ∧ maxI l ≤ B
  | [], _ => ⟨Int.le_refl 0, hB⟩
  | [x], h => h x (by simp)
  | x :: y :: r, h => by
    have h1 := h x List.mem_cons_self
    have h2 := maxI_le hB (l := y :: r) fun z hz => h z (List.mem_cons_of_mem _ hz)
    show 0 ≤ max x (maxI (y :: r)) ∧ max x (maxI (y :: r)) ≤ B
    omega
def lenP : P → P
  | .tuple xs => .int (xs.length : Int)
  | x => x
theorem lenP_tup (r : List Int) : lenP (tupI r) = .int (r.length : Int) := by
  show PyData.int ((r.map PyData.int).length : Int) = _
  rw [List.length_map]
end DS
set_option maxRecDepth 100000
set_option maxHeartbeats 4000000
namespace DS
open PySem L2
def cTurnsAt (places : Nat) : C := (.cons (.asg (.tnm 2) (.cal places 0 (.cons (.var 0) .nil))) (.cons (.ret (.bi .tup (.cons (.lc (.var 3) (.tnm 3) (.rg1 (.var 2)) (.cmp .NotEq (.ix (.var 0) (.bin .BitXor (.var 1) (.bin .LShift (.cint 1) (.bin .Sub (.bin .Sub (.var 2) (.cint 1)) (.var 3))))) (.ix (.var 0) (.var 1))) [3]) .nil))) .nil))
def cTurning (turns number : Nat) : C := (.cons (.ret (.cal turns 0 (.cons (.var 0) (.cons (.cal number 0 (.cons (.var 1) .nil)) .nil)))) .nil)
def cSense (turning : Nat) : C := (.cons (.ret (.bi .len (.cons (.cal turning 0 (.cons (.var 0) (.cons (.var 1) .nil))) .nil))) .nil)
def senseL (cells r : List Int) : List Int := (rngI r.length).filter fun p => !PyData.eqv (.int (cellAt cells (numL (turnedL r [p])))) (.int (cellAt cells (numL r)))
theorem senseL_len (cells r : List Int) : (senseL cells r).length ≤ r.length := by
  have := List.length_filter_le (fun p => !PyData.eqv (.int (cellAt cells (numL (turnedL r [p])))) (.int (cellAt cells (numL r)))) (rngI r.length)
  rw [rngI_len] at this
  exact this
theorem call_of {F : FT} {f : Nat} {S : Sto} {Q : D × Sto → Prop} {xs : List P} {x : P} {Z : D → Sto → Prop} (h : ∃ d S', F f (xs.map D.p) [] = some (d, S') ∧ (d = .p x ∧ S' = [])) (q : Q (.p x, S)) : WO (callD F f 0 (xs.map D.p) S) Q := by
  obtain ⟨d, S', h1, rfl, rfl⟩ := h
  exact call0 xs ⟨_, _, h1, x, rfl, q⟩
section
variable {fs : List DF} {Gc : Nat → Option P} {n places number turns turning sense : Nat}
theorem call_places (h : fs[places]? = some ⟨2, 1, cPlaces⟩) {cells : List Int} {k : Nat} (k1 : 1 ≤ k) (hk : k ≤ 12) (hl : cells.length = 2 ^ k) {S : Sto} {Q : D × Sto → Prop} (q : Q (.p (.int (k : Int)), S)) : WO (callD (run fs Gc (n + 1)) places 0 [.p (tupI cells)] S) Q :=
  call_of (xs := [tupI cells]) (Z := fun _ _ => True) (run_w (n := n) (Gc := Gc) h (places_w (run fs Gc n) Gc cells k k1 hk hl [])) q
theorem turnsAt_w (h : fs[places]? = some ⟨2, 1, cPlaces⟩) {cells r : List Int} {k : Nat} (k1 : 1 ≤ k) (hk : k ≤ 12) (hl : cells.length = 2 ^ k) (hr : r.length = k) (hb : IsBits r) (S : Sto) :
    wpF (run fs Gc (n + 1)) Gc 4 2 (cTurnsAt places) [.p (tupI cells), .p (.int (numL r))] S fun d S' => d = .p (tupI (senseL cells r)) ∧ S' = S := by
  refine ⟨rfl, ?_⟩
  show WO (callD (run fs Gc (n + 1)) places 0 [.p (tupI cells)] S) _
  refine call_places h k1 hk hl ?_
  refine ⟨decide_eq_true (by omega), fits_ok (by show k ≤ _; omega), ?_⟩
  refine ints_filter (src := .rg 0 1 k) (rngI k) (fun p => !PyData.eqv (.int (cellAt cells (numL (turnedL r [p])))) (.int (cellAt cells (numL r)))) (srcL_rg S k) rfl rfl (fun p hp => ?_) ?_
  · obtain ⟨i, rfl, hi⟩ := rngI_mem hp
    have hpow : ((k : Int) - 1 - (i : Int)) = ((k - 1 - i : Nat) : Int) := by omega
    refine ⟨⟨?_, ?_⟩, fun _ => ⟨rfl, rfl⟩⟩
    · show powOk 1 ((k : Int) - 1 - (i : Int)) = true
      rw [hpow]
      exact pow_ok (by omega)
    · show WO (atI (cells.map PyData.int) (Builtin.bitXor (numL r) (1 * 2 ^ ((k : Int) - 1 - (i : Int)).toNat))) _
      rw [xor_turned hr hb hi]
      obtain ⟨b1, b2⟩ := numL_lt (k := k) ((turned_len r [(i : Int)]).trans hr) (turned_bits hb _)
      obtain ⟨b3, b4⟩ := numL_lt hr hb
      refine WO.mk (at_cell b1 (by rw [hl]; exact b2)) ?_
      show WO (atI (cells.map PyData.int) (numL r)) _
      exact WO.mk (at_cell b3 (by rw [hl]; exact b4)) ⟨rfl, rfl⟩
  · unfold senseL
    rw [hr]
    exact ⟨rfl, rfl⟩
theorem call_turning (h : fs[places]? = some ⟨2, 1, cPlaces⟩) (h2 : fs[number]? = some ⟨3, 1, cNumber⟩) (h3 : fs[turns]? = some ⟨4, 2, cTurnsAt places⟩) (h4 : fs[turning]? = some ⟨2, 2, cTurning turns number⟩) {cells r : List Int} {k : Nat} (k1 : 1 ≤ k) (hk : k ≤ 12) (hl : cells.length = 2 ^ k) (hr : r.length = k) (hb : IsBits r) {S : Sto} {Q : D × Sto → Prop}
    (q : Q (.p (tupI (senseL cells r)), S)) : WO (callD (run fs Gc (n + 3)) turning 0 [.p (tupI cells), .p (tupI r)] S) Q := by
  refine call_of (xs := [tupI cells, tupI r]) (Z := fun _ _ => True) (run_w (n := n + 2) (Gc := Gc) h4 (Q := fun d S' => d = .p (tupI (senseL cells r)) ∧ S' = []) ?_) q
  refine ⟨rfl, ?_⟩
  show WO (callD (run fs Gc (n + 2)) number 0 [.p (tupI r)] []) _
  refine call_number h2 ?_
  show WO (callD (run fs Gc (n + 2)) turns 0 [.p (tupI cells), .p (.int (numL r))] []) _
  exact call_of (xs := [tupI cells, .int (numL r)]) (Z := fun _ _ => True) (run_w (n := n + 1) (Gc := Gc) h3 (turnsAt_w h k1 hk hl hr hb [])) ⟨rfl, rfl⟩
theorem call_sense (h : fs[places]? = some ⟨2, 1, cPlaces⟩) (h2 : fs[number]? = some ⟨3, 1, cNumber⟩) (h3 : fs[turns]? = some ⟨4, 2, cTurnsAt places⟩) (h4 : fs[turning]? = some ⟨2, 2, cTurning turns number⟩) (h5 : fs[sense]? = some ⟨2, 2, cSense turning⟩) {cells r : List Int} {k : Nat} (k1 : 1 ≤ k) (hk : k ≤ 12) (hl : cells.length = 2 ^ k) (hr : r.length = k) (hb : IsBits r) {S : Sto} {Q : D × Sto → Prop}
    (q : Q (.p (.int ((senseL cells r).length : Int)), S)) : WO (callD (run fs Gc (n + 4)) sense 0 [.p (tupI cells), .p (tupI r)] S) Q := by
  refine call_of (xs := [tupI cells, tupI r]) (Z := fun _ _ => True) (run_w (n := n + 3) (Gc := Gc) h5 (Q := fun d S' => d = .p (.int ((senseL cells r).length : Int)) ∧ S' = []) ?_) q
  refine ⟨rfl, ?_⟩
  show WO (callD (run fs Gc (n + 3)) turning 0 [.p (tupI cells), .p (tupI r)] []) _
  refine call_turning h h2 h3 h4 k1 hk hl hr hb ?_
  refine ⟨?_, rfl⟩
  show D.p (.int (((senseL cells r).map PyData.int).length : Int)) = _
  rw [List.length_map]
end
end DS
set_option maxRecDepth 100000
set_option maxHeartbeats 4000000
namespace DS
open PySem L2 PyProof.Rows
def rowOf (k : Nat) (n : Int) : List Int := (rngI k).map fun p => Builtin.bitAnd (n / 2 ^ ((k : Int) - 1 - p).toNat) 1
theorem and_one {x : Int} (hx : 0 ≤ x) : Builtin.bitAnd x 1 = x % 2 := by
  rw [bitAnd_pp hx (by decide)]
  show ((x.toNat &&& 1 : Nat) : Int) = _
  rw [Nat.and_one_is_mod]
  omega
theorem rowOf_num {r : List Int} {k : Nat} (hl : r.length = k) (hb : IsBits r) : rowOf k (numL r) = r := by
  refine List.ext_getElem? fun i => ?_
  unfold rowOf rngI
  rw [List.getElem?_map, List.getElem?_map]
  by_cases hi : i < k
  · have h2 : i < r.length := by omega
    rw [List.getElem?_range hi, List.getElem?_eq_getElem h2]
    show some (Builtin.bitAnd (numL r / 2 ^ ((k : Int) - 1 - (0 + (i : Int) * 1)).toNat) 1) = some r[i]
    have e : ((k : Int) - 1 - (0 + (i : Int) * 1)).toNat = r.length - 1 - i := by omega
    rw [e, and_one (Int.ediv_nonneg (numL_lt hl hb).1 (Int.pow_nonneg (by decide)))]
    rw [numL_bit r.length r rfl hb i h2]
  · rw [List.getElem?_eq_none (by simp; omega), List.getElem?_eq_none (by omega)]
    rfl
theorem range_two : ∀ n : Nat, (List.range n).flatMap (fun i => [2 * i, 2 * i + 1]) = List.range (2 * n)
  | 0 => rfl
  | n + 1 => by
    rw [List.range_succ, List.flatMap_append, range_two n, show 2 * (n + 1) = 2 * n + 1 + 1 by omega, List.range_succ, List.range_succ]
    simp
theorem bitsL_num : ∀ k, (bitsL k).map numL = rngI (2 ^ k)
  | 0 => rfl
  | k + 1 => by
    have ih := bitsL_num k
    have e : ∀ l : List (List Int), (l.flatMap fun r => [r ++ [0], r ++ [1]]).map numL = (l.map numL).flatMap fun n => [2 * n, 2 * n + 1] := by
      intro l
      induction l with
      | nil => rfl
      | cons a l ih2 =>
        rw [List.flatMap_cons, List.map_append, ih2]
        simp [numL_snoc]
    show ((bitsL k).flatMap fun r => [r ++ [0], r ++ [1]]).map numL = _
    rw [e, ih]
    unfold rngI
    rw [Nat.pow_succ, Nat.mul_comm, ← range_two (2 ^ k)]
    generalize List.range (2 ^ k) = l
    induction l with
    | nil => rfl
    | cons a l ih2 =>
      rw [List.map_cons, List.flatMap_cons, List.flatMap_cons, List.map_append, ← ih2]
      congr 1
      simp
def cGreatest (places rowof sense : Nat) : C := (.cons (.asg (.tnm 1) (.cal places 0 (.cons (.var 0) .nil))) (.cons (.ret (.bi .maxl (.cons (.lc (.cal sense 0 (.cons (.var 0) (.cons (.cal rowof 0 (.cons (.var 1) (.cons (.var 2) .nil))) .nil))) (.tnm 2) (.rg1 (.bi .len (.cons (.var 0) .nil))) .nil [2]) .nil))) .nil))
def cLawSense (number turned : Nat) : C := (.cons (.asg (.tnm 2) (.ix (.var 0) (.cal number 0 (.cons (.var 1) .nil)))) (.cons (.asg (.tnm 3) (.lc (.var 4) (.tnm 4) (.rg1 (.bi .len (.cons (.var 1) .nil))) (.cmp .NotEq (.ix (.var 0) (.cal number 0 (.cons (.cal turned 0 (.cons (.var 1) (.cons (.tup (.cons (.var 4) .nil)) .nil))) .nil))) (.var 2)) [4])) (.cons (.ret (.bi .tup (.cons (.var 3) .nil))) .nil)))
theorem intsOf_map : ∀ l : List Int, intsOf (l.map PyData.int) = some l
  | [] => rfl
  | a :: l => by
    show (intsOf (l.map PyData.int)).map (a :: ·) = _
    rw [intsOf_map l]; rfl
theorem max_ints {l : List Int} (h : 0 < l.length) : biF .maxl [.list (l.map PyData.int)] = some (.int (maxI l)) := by
  show (intsOf (l.map PyData.int)).bind _ = _
  rw [intsOf_map]
  show onI (decide (0 < l.length)) _ = _
  rw [decide_eq_true h]; rfl
section
variable {fs : List DF} {Gc : Nat → Option P} {n places number turns turning sense rowof greatest turned lawsense : Nat}
theorem call_rowof (h : fs[rowof]? = some ⟨3, 2, cRowOf⟩) {k : Nat} (hk : k ≤ 12) {m : Int} {S : Sto} {Q : D × Sto → Prop} (q : Q (.p (tupI (rowOf k m)), S)) : WO (callD (run fs Gc (n + 1)) rowof 0 [.p (.int (k : Int)), .p (.int m)] S) Q := by
  refine call_of (xs := [.int (k : Int), .int m]) (Z := fun _ _ => True) (run_w (n := n) (Gc := Gc) h (Q := fun d S' => d = .p (tupI (rowOf k m)) ∧ S' = []) ?_) q
  refine ⟨rfl, ?_⟩
  refine ⟨decide_eq_true (by omega), fits_ok (by show k ≤ _; omega), ?_⟩
  refine ints_map (src := .rg 0 1 k) (rngI k) (fun p => Builtin.bitAnd (m / 2 ^ ((k : Int) - 1 - p).toNat) 1) (srcL_rg [] k) rfl (fun p hp => ?_) ?_
  · obtain ⟨i, rfl, hi⟩ := rngI_mem hp
    exact ⟨by omega, rfl, rfl⟩
  · exact ⟨rfl, rfl⟩
theorem call_turned (h : fs[turned]? = some ⟨4, 2, cTurned⟩) {r lot : List Int} (hl : r.length ≤ 1000) {S : Sto} {Q : D × Sto → Prop} (q : Q (.p (tupI (turnedL r lot)), S)) : WO (callD (run fs Gc (n + 1)) turned 0 [.p (tupI r), .p (tupI lot)] S) Q :=
  call_of (xs := [tupI r, tupI lot]) (Z := fun _ _ => True) (run_w (n := n) (Gc := Gc) h (turned_w (run fs Gc n) Gc r lot hl [])) q
theorem call_lawsense (h2 : fs[number]? = some ⟨3, 1, cNumber⟩) (h3 : fs[turned]? = some ⟨4, 2, cTurned⟩) (h4 : fs[lawsense]? = some ⟨5, 2, cLawSense number turned⟩) {cells r : List Int} {k : Nat} (hk : k ≤ 12) (hl : cells.length = 2 ^ k) (hr : r.length = k) (hb : IsBits r) {S : Sto} {Q : D × Sto → Prop}
    (q : Q (.p (tupI (senseL cells r)), S)) : WO (callD (run fs Gc (n + 2)) lawsense 0 [.p (tupI cells), .p (tupI r)] S) Q := by
  refine call_of (xs := [tupI cells, tupI r]) (Z := fun _ _ => True) (run_w (n := n + 1) (Gc := Gc) h4 (Q := fun d S' => d = .p (tupI (senseL cells r)) ∧ S' = []) ?_) q
  refine ⟨rfl, ?_⟩
  obtain ⟨b3, b4⟩ := numL_lt hr hb
  have ln : (r.map PyData.int).length = k := by rw [List.length_map, hr]
  show WO (callD (run fs Gc (n + 1)) number 0 [.p (tupI r)] []) _
  refine call_number h2 ?_
  show WO (atI (cells.map PyData.int) (numL r)) _
  refine WO.mk (at_cell b3 (by rw [hl]; exact b4)) ?_
  refine ⟨decide_eq_true (by rw [ln]; omega), fits_ok (by show ((r.map PyData.int).length : Int).toNat ≤ _; rw [ln]; omega), ?_⟩
  show WO (compG (fun S => isRl S (.rg 0 1 (((r.map PyData.int).length : Nat) : Int).toNat)) (fun S i => atS S (.rg 0 1 (((r.map PyData.int).length : Nat) : Int).toNat) i) _ (lenS [] (.rg 0 1 (((r.map PyData.int).length : Nat) : Int).toNat)) 0 []) _
  rw [ln]
  refine ints_filter (src := .rg 0 1 k) (rngI k) (fun p => !PyData.eqv (.int (cellAt cells (numL (turnedL r [p])))) (.int (cellAt cells (numL r)))) (srcL_rg [] k) rfl rfl (fun p hp => ?_) ?_
  · refine ⟨⟨rfl, ?_⟩, fun _ => ⟨rfl, rfl⟩⟩
    show WO (callD (run fs Gc (n + 1)) turned 0 [.p (tupI r), .p (tupI [p])] []) _
    refine call_turned h3 (by omega) ?_
    show WO (callD (run fs Gc (n + 1)) number 0 [.p (tupI (turnedL r [p]))] []) _
    refine call_number h2 ?_
    obtain ⟨b1, b2⟩ := numL_lt (k := k) ((turned_len r [p]).trans hr) (turned_bits hb _)
    show WO (atI (cells.map PyData.int) (numL (turnedL r [p]))) _
    exact WO.mk (at_cell b1 (by rw [hl]; exact b2)) ⟨rfl, rfl⟩
  · unfold senseL
    rw [hr]
    exact ⟨rfl, rfl⟩
end
end DS
set_option maxRecDepth 100000
set_option maxHeartbeats 4000000
namespace DS
open PySem L2 PyProof.Rows
section
variable {fs : List DF} {Gc : Nat → Option P} {n places number turns turning sense rowof greatest turned lawsense : Nat}
theorem call_greatest (h : fs[places]? = some ⟨2, 1, cPlaces⟩) (h2 : fs[number]? = some ⟨3, 1, cNumber⟩) (h3 : fs[turns]? = some ⟨4, 2, cTurnsAt places⟩) (h4 : fs[turning]? = some ⟨2, 2, cTurning turns number⟩) (h5 : fs[sense]? = some ⟨2, 2, cSense turning⟩)
    (h6 : fs[rowof]? = some ⟨3, 2, cRowOf⟩) (h7 : fs[greatest]? = some ⟨3, 1, cGreatest places rowof sense⟩) {cells : List Int} {k : Nat} (k1 : 1 ≤ k) (hk : k ≤ 12) (hl : cells.length = 2 ^ k) {S : Sto} {Q : D × Sto → Prop}
    (q : Q (.p (.int (maxI ((bitsL k).map fun r => ((senseL cells r).length : Int)))), S)) : WO (callD (run fs Gc (n + 5)) greatest 0 [.p (tupI cells)] S) Q := by
  refine call_of (xs := [tupI cells]) (Z := fun _ _ => True) (run_w (n := n + 4) (Gc := Gc) h7 (Q := fun d S' => d = .p (.int (maxI ((bitsL k).map fun r => ((senseL cells r).length : Int)))) ∧ S' = []) ?_) q
  have p12 : 2 ^ k ≤ 4096 := Nat.le_trans (Nat.pow_le_pow_right (by decide) hk) (by decide)
  have hpos : 0 < 2 ^ k := Nat.pow_pos (by decide)
  have ln : (cells.map PyData.int).length = 2 ^ k := by rw [List.length_map, hl]
  refine ⟨rfl, ?_⟩
  show WO (callD (run fs Gc (n + 4)) places 0 [.p (tupI cells)] []) _
  refine call_places h k1 hk hl ?_
  refine ⟨decide_eq_true (by rw [ln]; omega), fits_ok (by show ((cells.map PyData.int).length : Int).toNat ≤ _; rw [ln]; omega), ?_⟩
  show WO (compG (fun S => isRl S (.rg 0 1 (((cells.map PyData.int).length : Nat) : Int).toNat)) (fun S i => atS S (.rg 0 1 (((cells.map PyData.int).length : Nat) : Int).toNat) i) _ (lenS [] (.rg 0 1 (((cells.map PyData.int).length : Nat) : Int).toNat)) 0 []) _
  rw [ln]
  refine ints_map (src := .rg 0 1 (2 ^ k)) (rngI (2 ^ k)) (fun m => ((senseL cells (rowOf k m)).length : Int)) (srcL_rg [] (2 ^ k)) rfl (fun p hp => ?_) ?_
  · rw [← bitsL_num] at hp
    obtain ⟨r, hr, rfl⟩ := List.mem_map.mp hp
    obtain ⟨b1, b2⟩ := bitsL_row k r hr
    show WO (callD (run fs Gc (n + 4)) rowof 0 [.p (.int (k : Int)), .p (.int (numL r))] []) _
    refine call_rowof h6 hk ?_
    rw [rowOf_num b1 b2]
    show WO (callD (run fs Gc (n + 4)) sense 0 [.p (tupI cells), .p (tupI r)] []) _
    exact call_sense h h2 h3 h4 h5 k1 hk hl b1 b2 ⟨rfl, rfl⟩
  · have e : (rngI (2 ^ k)).map (fun m => ((senseL cells (rowOf k m)).length : Int)) = (bitsL k).map fun r => ((senseL cells r).length : Int) := by
      rw [← bitsL_num, List.map_map]
      exact List.map_congr_left fun r hr => by
        obtain ⟨b1, b2⟩ := bitsL_row k r hr
        show ((senseL cells (rowOf k (numL r))).length : Int) = _
        rw [rowOf_num b1 b2]
    rw [e]
    show WO (biF .maxl [.list (((bitsL k).map fun r => ((senseL cells r).length : Int)).map PyData.int)]) _
    exact WO.mk (max_ints (by rw [List.length_map, bitsL_len]; exact hpos)) ⟨rfl, rfl⟩
end
end DS
set_option maxRecDepth 100000
set_option maxHeartbeats 4000000
namespace DS
open PySem L2
abbrev Asc (l : List (List Int)) : Prop := l.Pairwise (· < ·)
theorem asc_eq : ∀ {a b : List (List Int)}, Asc a → Asc b → (∀ r, r ∈ a ↔ r ∈ b) → a = b
  | [], [], _, _, _ => rfl
  | [], y :: ys, _, _, h => absurd ((h y).mpr List.mem_cons_self) (by simp)
  | x :: xs, [], _, _, h => absurd ((h x).mp List.mem_cons_self) (by simp)
  | x :: xs, y :: ys, ha, hb, h => by
    obtain ⟨a1, a2⟩ := List.pairwise_cons.mp ha
    obtain ⟨b1, b2⟩ := List.pairwise_cons.mp hb
    have exy : x = y := by
      rcases List.mem_cons.mp ((h x).mp List.mem_cons_self) with e | e
      · exact e
      · rcases List.mem_cons.mp ((h y).mpr List.mem_cons_self) with e' | e'
        · exact e'.symm
        · exact absurd (b1 x e) (List.lt_asymm (a1 y e'))
    subst exy
    rw [asc_eq a2 b2 fun r => ?_]
    constructor
    · intro hr
      rcases List.mem_cons.mp ((h r).mp (List.mem_cons_of_mem _ hr)) with e | e
      · subst e; exact absurd (a1 r hr) (List.lt_irrefl r)
      · exact e
    · intro hr
      rcases List.mem_cons.mp ((h r).mpr (List.mem_cons_of_mem _ hr)) with e | e
      · subst e; exact absurd (b1 r hr) (List.lt_irrefl r)
      · exact e
theorem lt_app : ∀ {a b : List Int} (x y : List Int), a.length = b.length → a < b → a ++ x < b ++ y
  | [], [], _, _, _, h => absurd h (List.lt_irrefl _)
  | [], _ :: _, _, _, h, _ => by simp at h
  | _ :: _, [], _, _, h, _ => by simp at h
  | p :: a, q :: b, x, y, hl, h => by
    rw [List.cons_append, List.cons_append, List.cons_lt_cons_iff]
    rw [List.cons_lt_cons_iff] at h
    rcases h with h | ⟨e, h⟩
    · exact .inl h
    · exact .inr ⟨e, lt_app x y (by simpa using hl) h⟩
theorem lt_two (a : List Int) : a ++ [0] < a ++ [1] := by
  induction a with
  | nil => exact List.cons_lt_cons_iff.mpr (.inl (by decide))
  | cons p a ih => exact List.cons_lt_cons_iff.mpr (.inr ⟨rfl, ih⟩)
theorem bitsL_asc : ∀ n, Asc (bitsL n)
  | 0 => List.pairwise_singleton _ _
  | n + 1 => by
    have ih := bitsL_asc n
    have hl := fun r h => (bitsL_row n r h).1
    show Asc ((bitsL n).flatMap fun r => [r ++ [0], r ++ [1]])
    revert ih hl
    generalize bitsL n = l
    intro ih hl
    induction l with
    | nil => exact .nil
    | cons a l ih2 =>
      obtain ⟨a1, a2⟩ := List.pairwise_cons.mp ih
      rw [List.flatMap_cons]
      refine List.pairwise_append.mpr ⟨?_, ih2 a2 (fun r h => hl r (List.mem_cons_of_mem _ h)), fun x hx y hy => ?_⟩
      · exact List.pairwise_cons.mpr ⟨fun y hy => by rw [List.mem_singleton.mp hy]; exact lt_two a, List.pairwise_singleton _ _⟩
      · obtain ⟨b, hb, hy⟩ := List.mem_flatMap.mp hy
        have hab := a1 b hb
        have hlen : a.length = b.length := (hl a List.mem_cons_self).trans (hl b (List.mem_cons_of_mem _ hb)).symm
        simp only [List.mem_cons, List.not_mem_nil, or_false] at hx hy
        rcases hx with rfl | rfl <;> rcases hy with rfl | rfl <;> exact lt_app _ _ hlen hab
theorem bitsL_mem : ∀ (n : Nat) (r : List Int), r ∈ bitsL n ↔ r.length = n ∧ IsBits r
  | 0, r => by
    constructor
    · intro h; exact bitsL_row 0 r h
    · rintro ⟨h, _⟩
      rw [List.eq_nil_of_length_eq_zero h]
      exact List.mem_singleton.mpr rfl
  | n + 1, r => by
    constructor
    · intro h; exact bitsL_row _ r h
    · rintro ⟨h, hb⟩
      have hne : r ≠ [] := by intro e; subst e; simp at h
      refine List.mem_flatMap.mpr ⟨r.dropLast, (bitsL_mem n _).mpr ⟨by rw [List.length_dropLast, h]; rfl, fun b hm => hb b ((List.dropLast_sublist _).subset hm)⟩, ?_⟩
      have e := List.dropLast_concat_getLast hne
      rcases hb _ (List.getLast_mem hne) with z | z
      · rw [z] at e; rw [e]; exact List.mem_cons_self
      · rw [z] at e; rw [e]; exact List.mem_cons_of_mem _ List.mem_cons_self
def insR (x : List Int) : List (List Int) → List (List Int)
  | [] => [x]
  | y :: r => if x ≤ y then x :: y :: r else y :: insR x r
def sortR : List (List Int) → List (List Int)
  | [] => []
  | x :: r => insR x (sortR r)
theorem insR_mem {x : List Int} : ∀ {l : List (List Int)} {r : List Int}, r ∈ insR x l ↔ r = x ∨ r ∈ l
  | [], r => by simp [insR]
  | y :: l, r => by
    unfold insR
    split
    · simp
    · rw [List.mem_cons, insR_mem, List.mem_cons]
      exact ⟨fun h => by rcases h with h | h | h <;> simp [h], fun h => by rcases h with h | h | h <;> simp [h]⟩
theorem sortR_mem : ∀ {l : List (List Int)} {r : List Int}, r ∈ sortR l ↔ r ∈ l
  | [], r => Iff.rfl
  | x :: l, r => by
    show r ∈ insR x (sortR l) ↔ _
    rw [insR_mem, sortR_mem, List.mem_cons]
theorem insR_asc {x : List Int} : ∀ {l : List (List Int)}, Asc l → x ∉ l → Asc (insR x l)
  | [], _, _ => List.pairwise_singleton _ _
  | y :: l, h, n => by
    obtain ⟨h1, h2⟩ := List.pairwise_cons.mp h
    have ny : x ≠ y := fun e => n (by rw [e]; exact List.mem_cons_self)
    unfold insR
    split
    · rename_i hle
      have hlt : x < y := by
        rcases Classical.em (x < y) with z | z
        · exact z
        · exact absurd (List.le_antisymm hle (List.not_lt.mp z)) ny
      refine List.pairwise_cons.mpr ⟨fun z hz => ?_, h⟩
      rcases List.mem_cons.mp hz with e | e
      · rw [e]; exact hlt
      · exact List.lt_trans hlt (h1 z e)
    · rename_i hle
      refine List.pairwise_cons.mpr ⟨fun z hz => ?_, insR_asc h2 fun hm => n (List.mem_cons_of_mem _ hm)⟩
      rcases insR_mem.mp hz with e | e
      · rw [e]; exact List.not_le.mp hle
      · exact h1 z e
theorem sortR_asc : ∀ {l : List (List Int)}, l.Nodup → Asc (sortR l)
  | [], _ => .nil
  | x :: l, h => by
    obtain ⟨h1, h2⟩ := List.nodup_cons.mp h
    exact insR_asc (sortR_asc h2) fun hm => h1 (sortR_mem.mp hm)
theorem le_rows (a b : List Int) : PySem.W.dataLe false (fun z : P => z) (tupI a) (tupI b) = decide (a ≤ b) := by
  show (!PySem.W.dataLt (.tuple (b.map PyData.int)) (.tuple (a.map PyData.int))) = _
  rw [PySem.W.dataLt_tuple]
  show (!PySem.W.rowLt (b.map .int) (a.map .int)) = _
  rw [PySem.W.dataLt_ints]
  by_cases h : b < a
  · have h' : ¬ a ≤ b := fun r => List.not_lt.mpr r h
    simp [h, h']
  · have h' : a ≤ b := List.not_lt.mp h
    simp [h, h']
theorem insD_rows (x : List Int) : ∀ l : List (List Int), insD (tupI x) (l.map tupI) = (insR x l).map tupI
  | [] => rfl
  | y :: l => by
    rw [List.map_cons]
    unfold insD insR
    rw [le_rows, insD_rows x l]
    by_cases h : x ≤ y
    · rw [decide_eq_true h, if_pos h]; rfl
    · rw [decide_eq_false h, if_neg h]; rfl
theorem sortD_rows : ∀ l : List (List Int), sortD (l.map tupI) = (sortR l).map tupI
  | [] => rfl
  | x :: l => by
    show insD (tupI x) (sortD (l.map tupI)) = (insR x (sortR l)).map tupI
    rw [sortD_rows l, insD_rows]
theorem alike_ints : ∀ a b : List Int, PySem.W.alikeAll (a.map PyData.int) (b.map PyData.int) = true
  | [], [] => rfl
  | [], _ :: _ => rfl
  | _ :: _, [] => rfl
  | x :: a, y :: b => by
    show (PySem.W.alike (.int x) (.int y) && PySem.W.alikeAll (a.map PyData.int) (b.map PyData.int)) = true
    rw [alike_ints a b]
    simp [PySem.W.alike]
theorem alike_rows (a b : List Int) : PySem.W.alike (tupI a) (tupI b) = true := by
  show PySem.W.alike (.tuple (a.map PyData.int)) (.tuple (b.map PyData.int)) = true
  unfold PySem.W.alike
  exact alike_ints a b
theorem depth_tupI (a : List Int) : (tupI a).depth = 1 := by
  show PyData.depth (.tuple (a.map PyData.int)) = 1
  unfold PyData.depth
  rw [depth_ints]
theorem nd_ints : ∀ a : List Int, PyData.hasDictAll (a.map PyData.int) = false
  | [] => rfl
  | _ :: r => nd_ints r
theorem nd_rows : ∀ l : List (List Int), PyData.hasDictAll (l.map tupI) = false
  | [] => rfl
  | a :: r => by
    show (PyData.hasDictAll (a.map PyData.int) || PyData.hasDictAll (r.map tupI)) = false
    rw [nd_ints, nd_rows r]; rfl
theorem srt_rows {l f : List (List Int)} (hn : l.Nodup) (hf : Asc f) (hm : ∀ r, r ∈ l ↔ r ∈ f) (h0 : ∀ r, r ∈ l → r ≠ []) (hl : l.length ≤ 16777216) : biF .srt [.list (l.map tupI)] = some (.list (f.map tupI)) := by
  have e : sortR l = f := asc_eq (sortR_asc hn) hf fun r => sortR_mem.trans (hm r)
  show onI (srtOk (l.map tupI)) (.list (sortD (l.map tupI))) = _
  rw [sortD_rows, e]
  have ok : srtOk (l.map tupI) = true := by
    unfold srtOk
    simp only [Bool.and_eq_true]
    refine ⟨⟨⟨⟨?_, ?_⟩, ?_⟩, fits_ok (by rw [List.length_map]; exact hl)⟩, by rw [nd_rows]; rfl⟩
    · refine List.all_eq_true.mpr fun x hx => List.all_eq_true.mpr fun y hy => ?_
      obtain ⟨a, _, rfl⟩ := List.mem_map.mp hx
      obtain ⟨b, _, rfl⟩ := List.mem_map.mp hy
      exact alike_rows a b
    · rw [Bool.or_eq_true]
      refine .inl (List.all_eq_true.mpr fun x hx => ?_)
      obtain ⟨a, ha, rfl⟩ := List.mem_map.mp hx
      cases a with
      | nil => exact absurd rfl (h0 _ ha)
      | cons _ _ => rfl
    · refine List.all_eq_true.mpr fun x hx => ?_
      obtain ⟨a, _, rfl⟩ := List.mem_map.mp hx
      rw [depth_tupI]; rfl
  rw [ok]; rfl
def HalfOk (h : List P) : Prop := ∀ o, o ∈ h → o = .none ∨ o = .int 0 ∨ o = .int 1
def okB1 (o : P) (b : Int) : Bool := match o with
  | .int x => decide (x = b)
  | _ => true
def fitsH : List P → List Int → Bool
  | [], [] => true
  | o :: h, b :: r => okB1 o b && fitsH h r
  | _, _ => false
theorem fitsH_snoc : ∀ {h : List P} {r : List Int} (o : P) (b : Int), h.length = r.length → fitsH (h ++ [o]) (r ++ [b]) = (fitsH h r && okB1 o b)
  | [], [], o, b, _ => by simp [fitsH]
  | [], _ :: _, _, _, h => by simp at h
  | _ :: _, [], _, _, h => by simp at h
  | p :: h, q :: r, o, b, e => by
    rw [List.cons_append, List.cons_append]
    show (okB1 p q && fitsH (h ++ [o]) (r ++ [b])) = (okB1 p q && fitsH h r && okB1 o b)
    rw [fitsH_snoc o b (by simpa using e), Bool.and_assoc]
structure FI (h : List P) (i : Nat) (acc : List (List Int)) : Prop where
  mem : ∀ r, r ∈ acc ↔ r.length = i ∧ IsBits r ∧ fitsH (h.take i) r = true
  nd : acc.Nodup
  len : acc.length ≤ 2 ^ i
theorem bits_snoc {r : List Int} {b : Int} (hr : IsBits r) (hb : b = 0 ∨ b = 1) : IsBits (r ++ [b]) := by
  intro c hc
  rcases List.mem_append.mp hc with z | z
  · exact hr c z
  · rw [List.mem_singleton.mp z]; exact hb
theorem nd_app (acc : List (List Int)) (h : acc.Nodup) (b : Int) : (acc.map fun r => r ++ [b]).Nodup := by
  refine List.Pairwise.map _ (fun x y hxy e => hxy ?_) h
  exact List.append_cancel_right e
theorem FI.zero (h : List P) : FI h 0 [[]] := by
  refine ⟨fun r => ?_, by simp, by simp⟩
  constructor
  · intro hr
    rw [List.mem_singleton.mp hr]
    exact ⟨rfl, (fun b hb => by cases hb), rfl⟩
  · rintro ⟨h1, _⟩
    rw [List.eq_nil_of_length_eq_zero h1]
    exact List.mem_singleton.mpr rfl
theorem fi_split {h : List P} {i : Nat} {acc : List (List Int)} (H : FI h i acc) (hi : i < h.length) (r : List Int) :
    (r.length = i + 1 ∧ IsBits r ∧ fitsH (h.take (i + 1)) r = true) ↔ ∃ r0 b, r0 ∈ acc ∧ (b = 0 ∨ b = 1) ∧ okB1 h[i] b = true ∧ r = r0 ++ [b] := by
  have tk := take_snoc hi
  constructor
  · rintro ⟨h1, h2, h3⟩
    have hne : r ≠ [] := by intro e; subst e; simp at h1
    have e := List.dropLast_concat_getLast hne
    have hl : r.dropLast.length = i := by rw [List.length_dropLast, h1]; rfl
    rw [tk, ← e, fitsH_snoc _ _ (by rw [hl, List.length_take]; omega), Bool.and_eq_true] at h3
    exact ⟨r.dropLast, r.getLast hne, (H.mem _).mpr ⟨hl, fun b hm => h2 b ((List.dropLast_sublist _).subset hm), h3.1⟩, h2 _ (List.getLast_mem hne), h3.2, e.symm⟩
  · rintro ⟨r0, b, h0, hb, hk, rfl⟩
    obtain ⟨g1, g2, g3⟩ := (H.mem _).mp h0
    refine ⟨by simp [g1], bits_snoc g2 hb, ?_⟩
    rw [tk, fitsH_snoc _ _ (by rw [g1, List.length_take]; omega), g3, hk]; rfl
theorem FI.two {h : List P} {i : Nat} {acc : List (List Int)} (H : FI h i acc) (hi : i < h.length) (e : h[i] = .none) : FI h (i + 1) ((acc.map fun r => r ++ [0]) ++ acc.map fun r => r ++ [1]) := by
  refine ⟨fun r => ?_, ?_, ?_⟩
  · rw [fi_split H hi]
    constructor
    · intro hm
      rcases List.mem_append.mp hm with z | z
      · obtain ⟨r0, h0, rfl⟩ := List.mem_map.mp z
        exact ⟨r0, 0, h0, .inl rfl, by rw [e]; rfl, rfl⟩
      · obtain ⟨r0, h0, rfl⟩ := List.mem_map.mp z
        exact ⟨r0, 1, h0, .inr rfl, by rw [e]; rfl, rfl⟩
    · rintro ⟨r0, b, h0, hb, _, rfl⟩
      rcases hb with rfl | rfl
      · exact List.mem_append_left _ (List.mem_map.mpr ⟨r0, h0, rfl⟩)
      · exact List.mem_append_right _ (List.mem_map.mpr ⟨r0, h0, rfl⟩)
  · refine List.nodup_append.mpr ⟨nd_app _ H.nd 0, nd_app _ H.nd 1, fun x hx y hy exy => ?_⟩
    obtain ⟨a, _, rfl⟩ := List.mem_map.mp hx
    obtain ⟨b, _, rfl⟩ := List.mem_map.mp hy
    have := List.append_inj_right' exy rfl
    simp at this
  · rw [List.length_append, List.length_map, List.length_map, Nat.pow_succ]
    have := H.len
    omega
theorem FI.one {h : List P} {i : Nat} {acc : List (List Int)} {b : Int} (H : FI h i acc) (hi : i < h.length) (hb : b = 0 ∨ b = 1) (e : h[i] = .int b) : FI h (i + 1) (acc.map fun r => r ++ [b]) := by
  refine ⟨fun r => ?_, nd_app _ H.nd b, ?_⟩
  · rw [fi_split H hi]
    constructor
    · intro z
      obtain ⟨r0, h0, rfl⟩ := List.mem_map.mp z
      exact ⟨r0, b, h0, hb, by rw [e]; simp [okB1], rfl⟩
    · rintro ⟨r0, c, h0, hc, hk, rfl⟩
      rw [e] at hk
      have : b = c := by simpa [okB1] using hk
      subst this
      exact List.mem_map.mpr ⟨r0, h0, rfl⟩
  · rw [List.length_map, Nat.pow_succ]
    have := H.len
    omega
def fillL (h : List P) : List (List Int) := (bitsL h.length).filter (fitsH h)
theorem fillL_asc (h : List P) : Asc (fillL h) := (bitsL_asc _).filter _
theorem FI.done {h : List P} {acc : List (List Int)} (H : FI h h.length acc) (h0 : 0 < h.length) (hl : h.length ≤ 12) : biF .srt [.list (acc.map tupI)] = some (.list ((fillL h).map tupI)) := by
  refine srt_rows H.nd (fillL_asc h) (fun r => ?_) (fun r hr e => ?_) ?_
  · rw [H.mem, List.take_length]
    unfold fillL
    rw [List.mem_filter, bitsL_mem]
    exact ⟨fun ⟨a, b, c⟩ => ⟨⟨a, b⟩, c⟩, fun ⟨⟨a, b⟩, c⟩ => ⟨a, b, c⟩⟩
  · have := ((H.mem r).mp hr).1
    rw [e] at this
    simp at this
    omega
  · exact Nat.le_trans H.len (Nat.le_trans (Nat.pow_le_pow_right (by decide) hl) (by decide))
theorem fits_self : ∀ (r s : List Int), fitsH (r.map PyData.int) s = true ↔ s = r
  | [], [] => by simp [fitsH]
  | [], _ :: _ => by simp [fitsH]
  | _ :: _, [] => by simp [fitsH]
  | x :: r, y :: s => by
    rw [List.map_cons]
    show (decide (x = y) && fitsH (r.map PyData.int) s) = true ↔ _
    rw [Bool.and_eq_true, fits_self r s, decide_eq_true_eq, List.cons.injEq]
    exact ⟨fun ⟨a, b⟩ => ⟨a.symm, b⟩, fun ⟨a, b⟩ => ⟨a.symm, b⟩⟩
theorem fill_self {r : List Int} (hb : IsBits r) : fillL (r.map PyData.int) = [r] := by
  refine asc_eq (fillL_asc _) (List.pairwise_singleton _ _) fun s => ?_
  unfold fillL
  rw [List.mem_filter, bitsL_mem, fits_self, List.mem_singleton, List.length_map]
  exact ⟨fun h => h.2, fun h => by subst h; exact ⟨⟨rfl, hb⟩, rfl⟩⟩
end DS
set_option maxRecDepth 100000
set_option maxHeartbeats 4000000
namespace DS
open PySem L2
def cValueAt (number : Nat) : C := (.cons (.ret (.ix (.var 0) (.cal number 0 (.cons (.var 1) .nil)))) .nil)
def cFills : C := (.cons (.asg (.tnm 1) (.lst (.cons (.tup .nil) .nil))) (.cons (.fors (.tnm 2) (.sq (.var 0)) (.cons (.ifs (.cmp .Is (.var 2) .cnon) (.cons (.asg (.tnm 1) (.bin .Add (.lc (.bin .Add (.var 3) (.tup (.cons (.cint 0) .nil))) (.tnm 3) (.sq (.var 1)) .nil [3]) (.lc (.bin .Add (.var 3) (.tup (.cons (.cint 1) .nil))) (.tnm 3) (.sq (.var 1)) .nil [3]))) .nil) (.cons (.asg (.tnm 1) (.lc (.bin .Add (.var 3) (.tup (.cons (.var 2) .nil))) (.tnm 3) (.sq (.var 1)) .nil [3])) .nil)) .nil)) (.cons (.ret (.bi .tup (.cons (.bi .srt (.cons (.var 1) .nil)) .nil))) .nil)))
def cLawFills (rows : Nat) : C := (.cons (.asg (.tnm 1) (.mk (.lst .nil))) (.cons (.fors (.tnm 2) (.sq (.cal rows 0 (.cons (.bi .len (.cons (.var 0) .nil)) .nil))) (.cons (.ifs (.cmp .Eq (.lc (.cint 1) (.ttp (.cons (.tnm 3) (.cons (.tnm 4) .nil))) (.zp (.var 0) (.var 2)) (.and (.cmp .IsNot (.var 3) .cnon) (.cmp .NotEq (.var 3) (.var 4))) [3, 4]) (.lst .nil)) (.cons (.ex (.mth .append (.var 1) (.cons (.var 2) .nil))) .nil) .nil) .nil)) (.cons (.ret (.bi .tup (.cons (.var 1) .nil))) .nil)))
def cHalf (pick : Nat) : C := (.cons (.ret (.bi .tup (.cons (.lc (.cal pick 1 (.cons (.var 0) (.cons (.lst (.cons (.cint 0) (.cons (.cint 1) (.cons .cnon .nil)))) .nil))) (.tnm 2) (.rg1 (.var 1)) .nil [2]) .nil))) .nil)
def cLot (draw : Nat) : C := (.cons (.ret (.bi .tup (.cons (.lc (.var 2) (.tnm 2) (.rg1 (.var 1)) (.cmp .Eq (.cal draw 1 (.cons (.var 0) (.cons (.cint 2) .nil))) (.cint 0)) [2]) .nil))) .nil)
theorem lists_lc {F : FT} {G : Nat → Option P} {S : Sto} {Q : List P × Sto → Prop} {j : Nat} {elt : C} {env : DEnv} (l : List (List Int)) (f : P → P) (he : ∀ r, r ∈ l → WO (bindT (.tnm j) (.p (tupI r)) (wipeE env [j]) S) fun e1 => wpE F G elt e1 S fun d s2 => d = .p (f (tupI r)) ∧ s2 = S)
    (q : Q ((l.map fun r => f (tupI r)), S)) : WO (compG (fun S => isRl S (.it (l.map tupI))) (fun S i => atS S (.it (l.map tupI)) i) (stepD F G elt (.tnm j) .nil [j] env) (lenS S (.it (l.map tupI))) 0 S) Q := by
  refine wp_map (src := .it (l.map tupI)) f rfl (fun x hx => ?_) ?_
  · obtain ⟨r, hr, rfl⟩ := List.mem_map.mp (show x ∈ l.map tupI from hx)
    exact he r hr
  · show Q ((l.map tupI).map f, S)
    rw [List.map_map]
    exact q
def appP (b : Int) : P → P
  | .tuple xs => .tuple (xs ++ [.int b])
  | x => x
theorem appP_tup (b : Int) (r : List Int) : appP b (tupI r) = tupI (r ++ [b]) := by
  show PyData.tuple (r.map PyData.int ++ [.int b]) = .tuple ((r ++ [b]).map PyData.int)
  rw [List.map_append]; rfl
theorem appP_map (b : Int) (l : List (List Int)) : (l.map fun r => appP b (tupI r)) = (l.map fun r => r ++ [b]).map tupI := by
  rw [List.map_map]
  exact List.map_congr_left fun r _ => appP_tup b r
theorem fills_w (F : FT) (Gc : Nat → Option P) {h : List P} (hh : HalfOk h) (h0 : 0 < h.length) (hl : h.length ≤ 12) (S : Sto) : wpF F Gc 4 1 cFills [.p (.tuple h)] S fun d S' => d = .p (.tuple ((fillL h).map tupI)) ∧ S' = S := by
  have p12 : ∀ i, i ≤ 12 → 2 ^ i ≤ 4096 := fun i hi => Nat.le_trans (Nat.pow_le_pow_right (by decide) hi) (by decide)
  refine ⟨rfl, ?_⟩
  refine ⟨by decide, by decide, ?_⟩
  show wpSs F Gc (.cons (.fors _ _ _) _) [some (.p (.tuple h)), some (.p (.list ([[]].map tupI))), none, none] S _
  refine wps_for (.it h) S h.length (fun i e s => s = S ∧ ∃ acc x y, FI h i acc ∧ e = [some (.p (.tuple h)), some (.p (.list (acc.map tupI))), x, y]) (fun R r => r) rfl ⟨rfl, [[]], none, none, .zero h, rfl⟩ (fun e s hI => ⟨List.getElem?_eq_none (Nat.le_refl _), rfl⟩) ?_ ?_
  · rintro i e s hi ⟨rfl, acc, x, y, H, rfl⟩
    refine ⟨h[i], List.getElem?_eq_getElem hi, ?_⟩
    have hlen : acc.length ≤ 4096 := Nat.le_trans H.len (p12 i (by omega))
    have hrl : ∀ r, r ∈ acc → r.length ≤ 12 := fun r hr => by rw [((H.mem r).mp hr).1]; omega
    have fa : fitsN ((acc.map tupI)).length = true := fits_ok (by rw [List.length_map]; omega)
    rcases hh _ (List.getElem_mem hi) with e | e
    · rw [e]
      refine ⟨fun _ => ?_, fun z => by cases z⟩
      refine ⟨fa, ?_⟩
      refine lists_lc (j := 3) acc (appP 0) (fun r hr => ⟨by decide, rfl, fits_ok (by show (r.map PyData.int).length + 1 ≤ _; rw [List.length_map]; have := hrl r hr; omega), rfl, rfl⟩) ?_
      rw [appP_map]
      refine ⟨fa, ?_⟩
      refine lists_lc (j := 3) acc (appP 1) (fun r hr => ⟨by decide, rfl, fits_ok (by show (r.map PyData.int).length + 1 ≤ _; rw [List.length_map]; have := hrl r hr; omega), rfl, rfl⟩) ?_
      rw [appP_map]
      refine ⟨rfl, fits_ok (by simp; omega), ?_⟩
      refine ⟨.inl rfl, rfl, _, some (.p .none), y, H.two hi e, ?_⟩
      rw [List.map_append]
      rfl
    · have hb : ∃ b : Int, (b = 0 ∨ b = 1) ∧ h[i] = .int b := by
        rcases e with e | e
        · exact ⟨0, .inl rfl, e⟩
        · exact ⟨1, .inr rfl, e⟩
      obtain ⟨b, hb, e⟩ := hb
      rw [e]
      refine ⟨(fun z => by cases z), fun _ => ?_⟩
      refine ⟨fa, ?_⟩
      refine lists_lc (j := 3) acc (appP b) (fun r hr => ⟨rfl, rfl, fits_ok (by show (r.map PyData.int).length + 1 ≤ _; rw [List.length_map]; have := hrl r hr; omega), rfl, rfl⟩) ?_
      rw [appP_map]
      exact ⟨.inl rfl, rfl, _, _, _, H.one hi hb e, rfl⟩
  · rintro e s ⟨rfl, acc, x, y, H, rfl⟩
    show WO (biF .srt [.list (acc.map tupI)]) _
    exact WO.mk (H.done h0 hl) ⟨rfl, rfl⟩
def misP : P → Bool
  | .tuple [.none, _] => false
  | .tuple [a, b] => !PyData.eqv a b
  | _ => false
theorem mis_all : ∀ {h : List P} {r : List Int}, HalfOk h → h.length = r.length → ((pairsP h (r.map PyData.int)).filter misP = [] ↔ fitsH h r = true)
  | [], [], _, _ => by simp [pairsP, fitsH]
  | [], _ :: _, _, h => by simp at h
  | _ :: _, [], _, h => by simp at h
  | o :: h, b :: r, hh, hl => by
    have ih := mis_all (h := h) (r := r) (fun o ho => hh o (List.mem_cons_of_mem _ ho)) (by simpa using hl)
    have e : pairsP (o :: h) ((b :: r).map PyData.int) = .tuple [o, .int b] :: pairsP h (r.map PyData.int) := rfl
    rw [e, List.filter_cons]
    have hf : fitsH (o :: h) (b :: r) = (okB1 o b && fitsH h r) := rfl
    rw [hf, Bool.and_eq_true]
    have ho : misP (.tuple [o, .int b]) = !okB1 o b := by
      rcases hh o List.mem_cons_self with rfl | rfl | rfl
      · rfl
      · show (!PyData.eqv (.int 0) (.int b)) = !decide ((0 : Int) = b)
        rw [eqv_int]
      · show (!PyData.eqv (.int 1) (.int b)) = !decide ((1 : Int) = b)
        rw [eqv_int]
    rw [ho]
    cases hk : okB1 o b with
    | true =>
      show (if false = true then _ else _) = [] ↔ _
      rw [if_neg Bool.false_ne_true, ih]
      simp
    | false =>
      show (if true = true then _ else _) = [] ↔ _
      rw [if_pos rfl]
      simp
theorem shaped_ones (n : Nat) : SeqAt.shaped (.list (List.replicate n (PyData.int 1))) = true := by
  have : List.replicate n (PyData.int 1) = (List.replicate n (1 : Int)).map PyData.int := by rw [List.map_replicate]
  rw [this]
  exact shaped_ints _
theorem eq_nil_cmp (n : Nat) : cmpP .Eq (.list (List.replicate n (PyData.int 1))) (.list []) = some (decide (n = 0)) := by
  show okB (scP (.list (List.replicate n (PyData.int 1))) (.list []) || (SeqAt.shaped (.list (List.replicate n (PyData.int 1))) && SeqAt.shaped (.list []))) _ = _
  rw [shaped_ones]
  cases n with
  | zero => rfl
  | succ n => rfl
theorem app_lst (S : Sto) (n : Nat) (xs : List P) (y : P) (h : S[n]? = some (.lst xs)) (hf : xs.length < 16777216) : mthD .append (.r n) [.p y] S = some (.p .none, S.set n (.lst (xs ++ [y]))) := by
  simp [mthD, h, snapM, snapE, hf]
theorem lawFills_w {fs : List DF} {Gc : Nat → Option P} {n rows : Nat} (h2 : fs[rows]? = some ⟨5, 1, cRows⟩) {h : List P} (hh : HalfOk h) (hl : h.length ≤ 12) :
    wpF (run fs Gc (n + 1)) Gc 5 1 (cLawFills rows) [.p (.tuple h)] [] fun d S' => d = .p (.tuple ((fillL h).map tupI)) := by
  have p12 : 2 ^ h.length ≤ 4096 := Nat.le_trans (Nat.pow_le_pow_right (by decide) hl) (by decide)
  refine ⟨rfl, ?_⟩
  refine ⟨by decide, ?_⟩
  show wpSs (run fs Gc (n + 1)) Gc (.cons (.fors _ _ _) _) [some (.p (.tuple h)), some (.r 0), none, none, none] [.lst []] _
  have hlen : (bitsL h.length).length ≤ 4096 := by rw [bitsL_len]; exact p12
  refine wps_for (.it ((bitsL h.length).map tupI)) [.lst []] (bitsL h.length).length (fun i e s => ∃ x y z, e = [some (.p (.tuple h)), some (.r 0), x, y, z] ∧ s = [.lst ((((bitsL h.length).take i).filter (fitsH h)).map tupI)]) (fun R r => ?_) (by simp [lenS]) ⟨none, none, none, rfl, by simp⟩ (fun e s _ => ⟨by simp [atS], rfl⟩) ?_ ?_
  · show WO (callD (run fs Gc (n + 1)) rows 0 [.p (.int (h.length : Int))] [.lst []]) _
    exact call_rows (F := fun _ => run fs Gc n) h2 hl r
  · rintro i e s hi ⟨x, y, z, rfl, rfl⟩
    generalize hacc : (((bitsL h.length).take i).filter (fitsH h)) = acc
    have hal : acc.length ≤ 4096 := by
      rw [← hacc]
      exact Nat.le_trans (List.length_filter_le _ _) (by rw [List.length_take]; omega)
    refine ⟨tupI (bitsL h.length)[i], by simp [atS, hi], ?_⟩
    generalize hr : (bitsL h.length)[i] = r
    have hrm : r ∈ bitsL h.length := by rw [← hr]; exact List.getElem_mem hi
    obtain ⟨b1, b2⟩ := bitsL_row _ r hrm
    have zl : lenS [MO.lst (acc.map tupI)] (.zp (.it h) (.it (r.map PyData.int))) ≤ 16777216 := by simp [lenS]; omega
    show wpSs (run fs Gc (n + 1)) Gc (.cons (.ifs (.cmp .Eq _ _) _ _) _) [some (.p (.tuple h)), some (.r 0), some (.p (tupI r)), y, z] [.lst (acc.map tupI)] _
    refine ⟨fits_ok zl, ?_⟩
    refine wp_filter (src := .zp (.it h) (.it (r.map PyData.int))) (fun _ => .int 1) misP rfl rfl (fun x hx => ?_) ?_
    · obtain ⟨⟨o, b⟩, hm, rfl⟩ := List.mem_map.mp (show x ∈ (h.zip (r.map PyData.int)).map _ from hx)
      obtain ⟨ho, hb⟩ := List.of_mem_zip hm
      obtain ⟨b, _, rfl⟩ := List.mem_map.mp hb
      rcases hh o ho with rfl | rfl | rfl
      · exact ⟨⟨(fun z => by cases z), fun _ => ⟨rfl, rfl⟩⟩, fun _ => ⟨rfl, rfl⟩⟩
      · exact ⟨⟨fun _ => ⟨⟨_, rfl⟩, rfl, rfl⟩, (fun z => by cases z)⟩, fun _ => ⟨rfl, rfl⟩⟩
      · exact ⟨⟨fun _ => ⟨⟨_, rfl⟩, rfl, rfl⟩, (fun z => by cases z)⟩, fun _ => ⟨rfl, rfl⟩⟩
    · show wpE (run fs Gc (n + 1)) Gc (.lst .nil) _ _ _
      generalize hL : (srcL [MO.lst (acc.map tupI)] (.zp (.it h) (.it (r.map PyData.int)))).filter misP = L
      have hL2 : (L = []) ↔ fitsH h r = true := by
        rw [← hL]
        exact mis_all hh b1.symm
      have hrep : L.map (fun _ => PyData.int 1) = List.replicate L.length (.int 1) := by
        rw [List.map_const']
      refine ⟨rfl, ?_⟩
      show WO (cmpP .Eq (.list (L.map fun _ => PyData.int 1)) (.list [])) _
      rw [hrep]
      refine WO.mk (eq_nil_cmp _) ?_
      have nxt : ((bitsL h.length).take (i + 1)).filter (fitsH h) = acc ++ (if fitsH h r = true then [r] else []) := by
        rw [take_snoc hi, hr, List.filter_append, hacc, List.filter_cons, List.filter_nil]
      refine ⟨fun q => ?_, fun q => ?_⟩
      · have hL3 : L = [] := by
          have : L.length = 0 := of_decide_eq_true q
          exact List.eq_nil_of_length_eq_zero this
        have hfit := hL2.mp hL3
        refine ⟨rfl, ?_⟩
        show WO (mthD .append (.r 0) [.p (tupI r)] [.lst (acc.map tupI)]) _
        refine WO.mk (app_lst _ 0 (acc.map tupI) (tupI r) rfl (by rw [List.length_map]; omega)) ?_
        refine ⟨.inl rfl, _, _, _, rfl, ?_⟩
        rw [nxt, if_pos hfit, List.map_append]
        rfl
      · have hL3 : ¬ L = [] := fun e => by rw [e] at q; cases q
        have hfit : ¬ fitsH h r = true := fun e => hL3 (hL2.mpr e)
        refine ⟨.inl rfl, _, _, _, rfl, ?_⟩
        rw [nxt, if_neg hfit, List.append_nil]
  · rintro e s ⟨x, y, z, rfl, rfl⟩
    rw [List.take_length]
    rfl
section
variable {fs : List DF} {Gc : Nat → Option P} {n draw pick rows number value fills lawfills half lot : Nat} {g : List Int} {m t : Int} {rest : Sto} {Q : D × Sto → Prop}
theorem call_value (h : fs[number]? = some ⟨3, 1, cNumber⟩) (h2 : fs[value]? = some ⟨2, 2, cValueAt number⟩) {cells r : List Int} {k : Nat} (hl : cells.length = 2 ^ k) (hr : r.length = k) (hb : IsBits r) {S : Sto} (q : Q (.p (.int (cellAt cells (numL r))), S)) :
    WO (callD (run fs Gc (n + 2)) value 0 [.p (tupI cells), .p (tupI r)] S) Q := by
  refine call_of (xs := [tupI cells, tupI r]) (Z := fun _ _ => True) (run_w (n := n + 1) (Gc := Gc) h2 (Q := fun d S' => d = .p (.int (cellAt cells (numL r))) ∧ S' = []) ?_) q
  refine ⟨rfl, ?_⟩
  show WO (callD (run fs Gc (n + 1)) number 0 [.p (tupI r)] []) _
  refine call_number h ?_
  obtain ⟨b3, b4⟩ := numL_lt hr hb
  show WO (atI (cells.map PyData.int) (numL r)) _
  exact WO.mk (at_cell b3 (by rw [hl]; exact b4)) ⟨rfl, rfl⟩
theorem call_fills (h : fs[fills]? = some ⟨4, 1, cFills⟩) {hf : List P} (hh : HalfOk hf) (h0 : 0 < hf.length) (hl : hf.length ≤ 12) {S : Sto} (q : Q (.p (.tuple ((fillL hf).map tupI)), S)) : WO (callD (run fs Gc (n + 1)) fills 0 [.p (.tuple hf)] S) Q :=
  call_of (xs := [.tuple hf]) (Z := fun _ _ => True) (run_w (n := n) (Gc := Gc) h (fills_w (run fs Gc n) Gc hh h0 hl [])) q
theorem call_lawfills (h : fs[rows]? = some ⟨5, 1, cRows⟩) (h2 : fs[lawfills]? = some ⟨5, 1, cLawFills rows⟩) {hf : List P} (hh : HalfOk hf) (hl : hf.length ≤ 12) {S : Sto} (q : Q (.p (.tuple ((fillL hf).map tupI)), S)) : WO (callD (run fs Gc (n + 2)) lawfills 0 [.p (.tuple hf)] S) Q := by
  obtain ⟨d, S', h1, rfl⟩ := run_w (n := n + 1) (Gc := Gc) h2 (lawFills_w (n := n) h hh hl)
  exact call0 [.tuple hf] ⟨_, _, h1, _, rfl, q⟩
theorem call_half (h : fs[draw]? = some ⟨4, 2, cDraw⟩) (h2 : fs[pick]? = some ⟨2, 2, cPick draw⟩) (h3 : fs[half]? = some ⟨3, 2, cHalf pick⟩) (hr : RestOk rest) (hg : g.length ≤ 63) {k : Nat} (hk : k ≤ 12)
    (q : ∀ hf g' m' t', HalfOk hf → hf.length = k → g'.length ≤ 63 → Q (.p (.tuple hf), dkS g' m' t' rest)) : WO (callD (run fs Gc (n + 3)) half 1 [.r 1, .p (.int (k : Int))] (dkS g m t rest)) Q := by
  have w : wpF (run fs Gc (n + 2)) Gc 3 2 (cHalf pick) [.r 1, .p (.int (k : Int))] (dkS g m t rest) fun d S => ∃ hf g' m' t', d = .p (.tuple hf) ∧ HalfOk hf ∧ hf.length = k ∧ S = dkS g' m' t' rest ∧ g'.length ≤ 63 := by
    refine ⟨rfl, ?_⟩
    refine ⟨decide_eq_true (by omega), fits_ok (by show k ≤ _; omega), ?_⟩
    refine wp_lc (src := .rg 0 1 k) k (fun i a s => ∃ g m t, s = dkS g m t rest ∧ g.length ≤ 63 ∧ a.length = i ∧ HalfOk a) rfl ⟨g, m, t, rfl, hg, rfl, fun o ho => by cases ho⟩ (fun a s _ => ⟨by simp [atS], rfl⟩) ?_ ?_
    · rintro i a s hi ⟨g, m, t, rfl, hg, ha, hao⟩
      refine ⟨.int (0 + (i : Int) * 1), by simp [atS, hi], ?_⟩
      refine ⟨true, dkS g m t rest, rfl, fun _ => ?_, fun h => by cases h⟩
      refine ⟨rfl, ?_⟩
      show WO (callD (run fs Gc (n + 2)) pick 1 [.r 1, .p (.list [.int 0, .int 1, .none])] (dkS g m t rest)) _
      refine call_pick h h2 hr hg (.inl ⟨_, rfl⟩) (by show 0 < 3; decide) (by show 3 < _; decide) fun x g m t hx hg => ?_
      have hx : x ∈ [PyData.int 0, .int 1, .none] := hx
      refine ⟨x, rfl, g, m, t, rfl, hg, by rw [List.length_append, ha]; rfl, fun y hy => ?_⟩
      rcases List.mem_append.mp hy with z | z
      · exact hao y z
      · rw [List.mem_singleton.mp z]
        simp only [List.mem_cons, List.not_mem_nil, or_false] at hx
        rcases hx with e | e | e
        · exact .inr (.inl e)
        · exact .inr (.inr e)
        · exact .inl e
    · rintro a s ⟨g, m, t, rfl, hg, ha, hao⟩
      exact ⟨a, g, m, t, rfl, hao, ha, rfl, hg⟩
  obtain ⟨d, S', h4, hf, g', m', t', rfl, h5, h6, rfl, hg'⟩ := run_w (n := n + 2) (Gc := Gc) h3 w
  exact call_dk (R := fun d => ∃ hf, d = .p (.tuple hf) ∧ HalfOk hf ∧ hf.length = k) hr ⟨_, _, h4, g', m', t', [], by rw [List.append_nil], hg', _, rfl, hf, rfl, h5, h6⟩ fun d' g' m' t' ⟨hf, e, k1, k2⟩ h6 => by
    rw [e]; exact q hf g' m' t' k1 k2 h6
def LotOk (k : Nat) (lot : List Int) : Prop := lot.length ≤ k ∧ ∀ p, p ∈ lot → 0 ≤ p ∧ p < k
theorem call_lot (h : fs[draw]? = some ⟨4, 2, cDraw⟩) (h3 : fs[lot]? = some ⟨3, 2, cLot draw⟩) (hr : RestOk rest) (hg : g.length ≤ 63) {k : Nat} (hk : k ≤ 12)
    (q : ∀ l g' m' t', LotOk k l → g'.length ≤ 63 → Q (.p (tupI l), dkS g' m' t' rest)) : WO (callD (run fs Gc (n + 2)) lot 1 [.r 1, .p (.int (k : Int))] (dkS g m t rest)) Q := by
  have w : wpF (run fs Gc (n + 1)) Gc 3 2 (cLot draw) [.r 1, .p (.int (k : Int))] (dkS g m t rest) fun d S => ∃ l g' m' t', d = .p (tupI l) ∧ LotOk k l ∧ S = dkS g' m' t' rest ∧ g'.length ≤ 63 := by
    refine ⟨rfl, ?_⟩
    refine ⟨decide_eq_true (by omega), fits_ok (by show k ≤ _; omega), ?_⟩
    refine wp_lc (src := .rg 0 1 k) k (fun i a s => ∃ g m t l, s = dkS g m t rest ∧ g.length ≤ 63 ∧ a = l.map PyData.int ∧ l.length ≤ i ∧ ∀ p : Int, p ∈ l → 0 ≤ p ∧ p < (k : Int)) rfl ⟨g, m, t, [], rfl, hg, rfl, Nat.le_refl _, fun o ho => by cases ho⟩ (fun a s _ => ⟨by simp [atS], rfl⟩) ?_ ?_
    · rintro i a s hi ⟨g, m, t, l, rfl, hg, rfl, ha, hao⟩
      refine ⟨.int (0 + (i : Int) * 1), by simp [atS, hi], ?_⟩
      have hc : wpE (run fs Gc (n + 1)) Gc (.cmp .Eq (.cal draw 1 (.cons (.var 0) (.cons (.cint 2) .nil))) (.cint 0)) [some (.r 1), some (.p (.int (k : Int))), some (.p (.int (0 + (i : Int) * 1)))] (dkS g m t rest) fun d s1 => ∃ b g m t, d = .p (.bool b) ∧ s1 = dkS g m t rest ∧ g.length ≤ 63 := by
        show WO (callD (run fs Gc (n + 1)) draw 1 [.r 1, .p (.int 2)] (dkS g m t rest)) _
        refine call_draw h hr hg (by decide) fun v g m t v1 v2 hg => ?_
        exact ⟨_, g, m, t, rfl, rfl, hg⟩
      obtain ⟨d, s1, e1, b, g, m, t, rfl, rfl, hg⟩ := (wp_ok _ Gc _).1 _ _ _ hc
      refine ⟨b, dkS g m t rest, ?_, fun _ => ?_, fun _ => ?_⟩
      · unfold condD
        rw [if_neg (show ¬ isNil (.cmp .Eq (.cal draw 1 (.cons (.var 0) (.cons (.cint 2) .nil))) (.cint 0)) = true from Bool.false_ne_true)]
        unfold asB
        erw [e1]
      · refine ⟨_, rfl, g, m, t, l ++ [0 + (i : Int) * 1], rfl, hg, by rw [List.map_append]; rfl, by rw [List.length_append]; exact Nat.succ_le_succ ha, fun p hp => ?_⟩
        rcases List.mem_append.mp hp with z | z
        · exact hao p z
        · rw [List.mem_singleton.mp z]; omega
      · exact ⟨g, m, t, l, rfl, hg, rfl, Nat.le_succ_of_le ha, hao⟩
    · rintro a s ⟨g, m, t, l, rfl, hg, rfl, ha, hao⟩
      exact ⟨l, g, m, t, rfl, ⟨ha, hao⟩, rfl, hg⟩
  obtain ⟨d, S', h4, l, g', m', t', rfl, h5, rfl, hg'⟩ := run_w (n := n + 1) (Gc := Gc) h3 w
  exact call_dk (R := fun d => ∃ l, d = .p (tupI l) ∧ LotOk k l) hr ⟨_, _, h4, g', m', t', [], by rw [List.append_nil], hg', _, rfl, l, rfl, h5⟩ fun d' g' m' t' ⟨l, e, k1⟩ h6 => by
    rw [e]; exact q l g' m' t' k1 h6
end
end DS
set_option maxRecDepth 100000
set_option maxHeartbeats 4000000
namespace DS
open PySem L2
def uS (k1 k2 k3 : Str) (g : List Int) (m t : Int) (rest : Sto) : Sto := .lst (g.map PyData.int) :: .dic [(.inr k1, .r 0), (.inr k2, .p (.int m)), (.inr k3, .p (.int t))] :: rest
section
variable {k1 k2 k3 : Str} {g : List Int} {m t : Int} {rest : Sto}
theorem u_below (h : RestOk rest) : (uS k1 k2 k3 g m t rest).all (belowM (rest.length + 2)) = true := by
  unfold uS
  rw [List.all_cons, List.all_cons, h]
  simp [belowM, belowD]
theorem u_len : (uS k1 k2 k3 g m t rest).length = rest.length + 2 := rfl
theorem u_last (mo : MO) : (uS k1 k2 k3 g m t (rest ++ [mo]))[rest.length + 2]? = some mo := by
  simp [uS]
theorem u_setLast (mo mo' : MO) : (uS k1 k2 k3 g m t (rest ++ [mo])).set (rest.length + 2) mo' = uS k1 k2 k3 g m t (rest ++ [mo']) := by
  simp [uS]
theorem u_pop (h : List Int) (x : Int) : mthD .pop0 (.r 0) [] (uS k1 k2 k3 (h ++ [x]) m t rest) = some (.p (.int x), uS k1 k2 k3 h m t rest) := by
  simp [mthD, uS, snapM]
theorem u_app (y : Int) (hg : g.length < 16777216) : mthD .append (.r 0) [.p (.int y)] (uS k1 k2 k3 g m t rest) = some (.p .none, uS k1 k2 k3 (g ++ [y]) m t rest) := by
  simp [mthD, uS, snapM, hg]
theorem u_snapLast (xs : List P) : snap (uS k1 k2 k3 g m t (rest ++ [.lst xs])) (.r (rest.length + 2)) = some (.list xs) := by
  simp [snap, u_last, snapM]
theorem u_snapsLast (xs : List P) : snaps (uS k1 k2 k3 g m t (rest ++ [.lst xs])) [.r (rest.length + 2)] = some [.list xs] := by
  simp [snaps, u_snapLast]
end
section
variable {fs : List DF} {Gc : Nat → Option P} {n draw pick : Nat} {k1 k2 k3 : Str} {g : List Int} {m t : Int} {rest : Sto} {Q : D × Sto → Prop}
theorem call_u {f : Nat} {ds : List D} {R : D → Prop} (hr : RestOk rest) (h : ∃ d S', run fs Gc n f ds (uS k1 k2 k3 g m t rest) = some (d, S') ∧ ∃ g' m' t' more, S' = uS k1 k2 k3 g' m' t' (rest ++ more) ∧ g'.length ≤ 63 ∧ ∃ d', backD (rest.length + 2) S' d = some d' ∧ R d')
    (q : ∀ d' g' m' t', R d' → g'.length ≤ 63 → Q (d', uS k1 k2 k3 g' m' t' rest)) : WO (callD (run fs Gc n) f 1 ds (uS k1 k2 k3 g m t rest)) Q := by
  obtain ⟨d, S', h1, g', m', t', more, rfl, h2, d', h3, h4⟩ := h
  have tk : (uS k1 k2 k3 g' m' t' (rest ++ more)).take (rest.length + 2) = uS k1 k2 k3 g' m' t' rest := by
    unfold uS
    rw [List.take_succ_cons, List.take_succ_cons, List.take_left']
    rfl
  exact call1 ⟨d, _, h1, by rw [u_len, u_len, List.length_append]; omega, by rw [u_len, tk]; exact u_below hr, d', h3, by rw [u_len, tk]; exact q d' g' m' t' h4 h2⟩
def DrawAt (fs : List DF) (Gc : Nat → Option P) (k1 k2 k3 : Str) (draw : Nat) : Prop :=
  ∀ (n : Nat) (g : List Int) (m t : Int) (rest : Sto) (many : Int) (Q : D × Sto → Prop), RestOk rest → g.length ≤ 63 → many < 1073741824 →
    (∀ v g' m' t', 0 ≤ v → (v < many ∨ v = 0) → g'.length ≤ 63 → Q (.p (.int v), uS k1 k2 k3 g' m' t' rest)) → WO (callD (run fs Gc (n + 1)) draw 1 [.r 1, .p (.int many)] (uS k1 k2 k3 g m t rest)) Q
theorem call_upick (hd : DrawAt fs Gc k1 k2 k3 draw) (h2 : fs[pick]? = some ⟨2, 2, cPick draw⟩) (hr : RestOk rest) (hg : g.length ≤ 63) {row : P} (hs : (∃ xs, row = .list xs) ∨ ∃ xs, row = .tuple xs) (hl : 0 < (itemsP row).length) (hl2 : (itemsP row).length < 1073741824)
    (q : ∀ x g' m' t', x ∈ itemsP row → g'.length ≤ 63 → Q (.p x, uS k1 k2 k3 g' m' t' rest)) : WO (callD (run fs Gc (n + 2)) pick 1 [.r 1, .p row] (uS k1 k2 k3 g m t rest)) Q := by
  have w : wpF (run fs Gc (n + 1)) Gc 2 2 (cPick draw) [.r 1, .p row] (uS k1 k2 k3 g m t rest) fun d S => ∃ x g' m' t', d = .p x ∧ x ∈ itemsP row ∧ S = uS k1 k2 k3 g' m' t' rest ∧ g'.length ≤ 63 := by
    refine ⟨rfl, ?_⟩
    rcases hs with ⟨xs, rfl⟩ | ⟨xs, rfl⟩
    · show WO (callD (run fs Gc (n + 1)) draw 1 [.r 1, .p (.int xs.length)] (uS k1 k2 k3 g m t rest)) _
      refine hd n _ _ _ _ _ _ hr hg (by show (xs.length : Int) < _; have : xs.length < 1073741824 := hl2; omega) fun v g' m' t' h3 h4 h5 => ?_
      have hxl : 0 < xs.length := hl
      obtain ⟨x, e1, e2, _⟩ := atI_nat (xs := xs) h3 (by omega)
      show WO (atI xs v) _
      exact WO.mk e1 ⟨x, g', m', t', rfl, e2, rfl, h5⟩
    · show WO (callD (run fs Gc (n + 1)) draw 1 [.r 1, .p (.int xs.length)] (uS k1 k2 k3 g m t rest)) _
      refine hd n _ _ _ _ _ _ hr hg (by show (xs.length : Int) < _; have : xs.length < 1073741824 := hl2; omega) fun v g' m' t' h3 h4 h5 => ?_
      have hxl : 0 < xs.length := hl
      obtain ⟨x, e1, e2, _⟩ := atI_nat (xs := xs) h3 (by omega)
      show WO (atI xs v) _
      exact WO.mk e1 ⟨x, g', m', t', rfl, e2, rfl, h5⟩
  obtain ⟨d, S', h3, x, g', m', t', rfl, hx, rfl, h4⟩ := run_w (n := n + 1) (Gc := Gc) h2 w
  exact call_u (R := fun d => ∃ x, d = .p x ∧ x ∈ itemsP row) hr ⟨_, _, h3, g', m', t', [], by rw [List.append_nil], h4, _, rfl, x, rfl, hx⟩ fun d' g' m' t' ⟨x, e, h5⟩ h6 => by
    rw [e]; exact q x g' m' t' h5 h6
end
def cPot : C := (.cons (.par [2, 3] (.cons (.lc (.bin .Add (.bin .Mult (.cint 2) (.bi .abs (.cons (.var 4) .nil))) (.bi .int1 (.cons (.cmp .Lt (.var 4) (.cint 0)) .nil))) (.tnm 4) (.sq (.sl (.var 0) .nil (.cint 62))) .nil [4]) (.cons (.bin .Add (.cint 16243) (.bin .Mult (.cint 37) (.bi .len (.cons (.sl (.var 0) .nil (.cint 62)) .nil)))) .nil))) (.cons (.fors (.tnm 1) (.sq (.var 2)) (.cons (.asg (.tnm 3) (.bin .Mod (.bi .int1 (.cons (.bin .Add (.bin .Add (.bin .Mult (.var 3) (.cint 48271)) (.var 1)) (.cint 11)) .nil)) (.cint 4294967291))) .nil)) (.cons (.ret (.dic [(.inr "great"), (.inr "blend"), (.inr "turn")] (.cons (.mk (.lc (.var 1) (.tnm 1) (.sq (.var 2)) (.cmp .GtE (.var 1) (.bin .Pow (.cint 10) (.cint 15))) [1])) (.cons (.var 3) (.cons (.cint 0) .nil))))) .nil)))
def cDip : C := (.cons (.ifs (.cmp .Lt (.var 1) (.cint 2)) (.cons (.ret (.cint 0)) .nil) .nil) (.cons (.ifs (.cmp .NotEq (.dix (.var 0) (.cstr "great")) (.lst .nil)) (.cons (.asg (.tnm 3) (.mth .pop0 (.dix (.var 0) (.cstr "great")) .nil)) (.cons (.ifs (.cmp .GtE (.var 3) (.var 1)) (.cons (.ex (.mth .append (.dix (.var 0) (.cstr "great")) (.cons (.bin .FloorDiv (.var 3) (.var 1)) .nil))) .nil) .nil) (.cons (.ret (.bin .Mod (.bi .int1 (.cons (.var 3) .nil)) (.var 1))) .nil))) .nil) (.cons (.setd (.var 0) (.cstr "turn") (.bin .Add (.dix (.var 0) (.cstr "turn")) (.cint 1))) (.cons (.asg (.tnm 2) (.bin .Mod (.bi .int1 (.cons (.bin .Add (.dix (.var 0) (.cstr "blend")) (.bin .Mult (.cint 2654435761) (.dix (.var 0) (.cstr "turn")))) .nil)) (.cint 4294967291))) (.cons (.asg (.tnm 2) (.bin .Mod (.bi .int1 (.cons (.bin .Add (.bin .Add (.bin .Mult (.var 2) (.var 2)) (.bin .Mult (.cint 40503) (.dix (.var 0) (.cstr "turn")))) (.cint 5)) .nil)) (.cint 4294967279))) (.cons (.ret (.bin .Mod (.bi .int1 (.cons (.bin .FloorDiv (.bin .Mod (.bi .int1 (.cons (.bin .Add (.bin .Mult (.var 2) (.var 2)) (.dix (.var 0) (.cstr "blend"))) .nil)) (.cint 4294967231)) (.cint 128)) .nil)) (.var 1))) .nil))))))
abbrev ptS : List Int → Int → Int → Sto → Sto := uS "great" "blend" "turn"
theorem dip_w (F : FT) (Gc : Nat → Option P) (g : List Int) (m t : Int) (rest : Sto) (many : Int) (hg : g.length ≤ 63) (hm : many < 1073741824) :
    wpF F Gc 4 2 cDip [.r 1, .p (.int many)] (ptS g m t rest) fun d S => ∃ v g' m' t', d = .p (.int v) ∧ S = ptS g' m' t' rest ∧ g'.length ≤ 63 ∧ 0 ≤ v ∧ (v < many ∨ v = 0) := by
  refine ⟨rfl, fun h => ?_, fun h => ?_⟩
  · exact ⟨0, g, m, t, rfl, rfl, hg, by omega, .inr rfl⟩
  · have h2 : ¬ many < 2 := of_decide_eq_false h
    refine ⟨rfl, ?_⟩
    show WO (cmpP .NotEq (.list (g.map PyData.int)) (.list [])) _
    refine WO.mk (cmp_great g) ?_
    refine ⟨fun hz => ?_, fun hz => ?_⟩
    · obtain ⟨h', x, rfl⟩ : ∃ h' x, g = h' ++ [x] := ⟨g.dropLast, g.getLast (of_decide_eq_true hz), (List.dropLast_concat_getLast _).symm⟩
      rw [List.length_append] at hg
      have hl : h'.length + 1 ≤ 63 := hg
      refine ⟨rfl, ?_⟩
      refine WO.mk (u_pop h' x) ?_
      refine ⟨fun hx => ?_, fun hx => ?_⟩
      · refine ⟨rfl, ⟨by omega, .inl hm⟩, ?_⟩
        refine WO.mk (u_app (g := h') _ (by omega)) ?_
        exact ⟨by omega, x % many, h' ++ [x / many], m, t, rfl, rfl, by rw [List.length_append]; exact hl, Int.emod_nonneg _ (by omega), .inl (Int.emod_lt_of_pos _ (by omega))⟩
      · exact ⟨by omega, x % many, h', m, t, rfl, rfl, by omega, Int.emod_nonneg _ (by omega), .inl (Int.emod_lt_of_pos _ (by omega))⟩
    · show wpSs F Gc _ [some (.r 1), some (.p (.int many)), none, none] (ptS g m (t + 1) rest) _
      have b1 := Int.emod_nonneg (m + 2654435761 * (t + 1)) (show (4294967291 : Int) ≠ 0 by decide)
      have b2 := Int.emod_lt_of_pos (m + 2654435761 * (t + 1)) (show (0 : Int) < 4294967291 by decide)
      generalize hA : (m + 2654435761 * (t + 1)) % 4294967291 = A at b1 b2
      have b3 := Int.emod_nonneg (A * A + 40503 * (t + 1) + 5) (show (4294967279 : Int) ≠ 0 by decide)
      have b4 := Int.emod_lt_of_pos (A * A + 40503 * (t + 1) + 5) (show (0 : Int) < 4294967279 by decide)
      generalize hB : (A * A + 40503 * (t + 1) + 5) % 4294967279 = B at b3 b4
      refine ⟨mul_ok (by decide), by decide, ?_⟩
      show wpSs F Gc _ [some (.r 1), some (.p (.int many)), some (.p (.int ((m + 2654435761 * (t + 1)) % 4294967291))), none] (ptS g m (t + 1) rest) _
      rw [hA]
      refine ⟨mul_ok ⟨by omega, by omega⟩, ?_⟩
      refine ⟨mul_ok (by decide), by decide, ?_⟩
      show wpSs F Gc _ [some (.r 1), some (.p (.int many)), some (.p (.int ((A * A + 40503 * (t + 1) + 5) % 4294967279))), none] (ptS g m (t + 1) rest) _
      rw [hB]
      refine ⟨mul_ok ⟨by omega, by omega⟩, ?_⟩
      refine ⟨by decide, ⟨by decide, by decide⟩, by omega, ?_⟩
      exact ⟨_, g, m, t + 1, rfl, rfl, hg, Int.emod_nonneg _ (by omega), .inl (Int.emod_lt_of_pos _ (by omega))⟩
theorem dip_at {fs : List DF} {Gc : Nat → Option P} {draw : Nat} (h : fs[draw]? = some ⟨4, 2, cDip⟩) : DrawAt fs Gc "great" "blend" "turn" draw := by
  intro n g m t rest many Q hr hg hm q
  obtain ⟨d, S', h1, v, g', m', t', rfl, rfl, h2, h3, h4⟩ := run_w (n := n) (Gc := Gc) h (dip_w (run fs Gc n) Gc g m t rest many hg hm)
  exact call_u (R := fun d => ∃ v, d = .p (.int v) ∧ 0 ≤ v ∧ (v < many ∨ v = 0)) hr ⟨_, _, h1, g', m', t', [], by rw [List.append_nil], h2, _, rfl, v, rfl, h3, h4⟩ fun d' g' m' t' ⟨v, e, h5, h6⟩ h7 => by
    rw [e]; exact q v g' m' t' h5 h6 h7
theorem cut62 (ns : List Int) : ∃ ks : List Int, cutP (ns.map PyData.int) none (some 62) = ks.map PyData.int ∧ ks.length ≤ 62 := by
  have h : (cutP (ns.map PyData.int) none (some 62)).length ≤ 62 := by
    unfold cutP
    rw [List.length_take]
    show min (HT.sIx (ns.map PyData.int).length (ns.map PyData.int).length (some 62) - HT.sIx (ns.map PyData.int).length 0 none) _ ≤ 62
    rw [show ((62 : Int)) = ((62 : Nat) : Int) from rfl, HT.sIx_nat]
    omega
  unfold cutP at h ⊢
  rw [← List.map_drop, ← List.map_take] at h ⊢
  exact ⟨_, rfl, by simpa using h⟩
theorem pot_w (F : FT) (Gc : Nat → Option P) (ns : List Int) : wpF F Gc 5 1 cPot [.s (ns.map PyData.int)] [] fun d S => ∃ g m, d = .r 1 ∧ S = ptS g m 0 [] ∧ g.length ≤ 63 := by
  obtain ⟨ks, hk, hl⟩ := cut62 ns
  have fit : fitsN (ks.map PyData.int).length = true := fits_ok (by rw [List.length_map]; omega)
  refine ⟨rfl, ?_⟩
  show fitsN (lenS [] (.it (cutP (ns.map PyData.int) none (some 62)))) = true ∧ WO (compG (fun S => isRl S (.it (cutP (ns.map PyData.int) none (some 62)))) (fun S i => atS S (.it (cutP (ns.map PyData.int) none (some 62))) i) _ (lenS [] (.it (cutP (ns.map PyData.int) none (some 62)))) 0 []) _
  rw [hk]
  refine ⟨fit, ?_⟩
  refine ints_map (src := .it (ks.map PyData.int)) ks (fun x => 2 * (if x < 0 then -x else x) + (if decide (x < 0) = true then 1 else 0)) rfl rfl (fun p hp => ?_) ?_
  · exact ⟨mul_ok (by decide), rfl, rfl⟩
  · generalize hcs : (ks.map fun x => 2 * (if x < 0 then -x else x) + (if decide (x < 0) = true then 1 else 0)) = cs
    have hcl : cs.length ≤ 62 := by rw [← hcs, List.length_map]; exact hl
    refine ⟨mul_ok (by decide), ?_⟩
    show wpSs F Gc (.cons (.fors _ _ _) _) [some (.s (ns.map PyData.int)), none, some (.p (.list (cs.map PyData.int))), some (.p (.int (16243 + 37 * ((cutP (ns.map PyData.int) none (some 62)).length : Int)))), none] [] _
    generalize (16243 + 37 * ((cutP (ns.map PyData.int) none (some 62)).length : Int)) = m0
    refine wps_for (.it (cs.map PyData.int)) [] cs.length (fun i e s => s = [] ∧ ∃ m x, e = [some (.s (ns.map PyData.int)), x, some (.p (.list (cs.map PyData.int))), some (.p (.int m)), none]) (fun R r => r) (by simp [lenS]) ⟨rfl, m0, none, rfl⟩ (fun e s _ => ⟨by simp [atS], rfl⟩) ?_ ?_
    · rintro i e s hi ⟨rfl, m, x, rfl⟩
      refine ⟨.int cs[i], by simp [atS, hi], ?_⟩
      exact ⟨mul_ok2 (by decide), by decide, .inl rfl, rfl, _, _, rfl⟩
    · rintro e s ⟨rfl, m, x, rfl⟩
      have fit2 : fitsN (cs.map PyData.int).length = true := fits_ok (by rw [List.length_map]; omega)
      refine ⟨fit2, ?_⟩
      refine ints_filter (src := .it (cs.map PyData.int)) cs (fun p => decide (1000000000000000 ≤ p)) rfl rfl rfl (fun p hp => ?_) ?_
      · exact ⟨⟨by decide, rfl, rfl⟩, fun _ => ⟨rfl, rfl⟩⟩
      · refine ⟨⟨rfl, by decide, by decide⟩, _, m, rfl, rfl, ?_⟩
        exact Nat.le_trans (List.length_filter_le _ _) (by omega)
end DS
set_option maxRecDepth 100000
set_option maxHeartbeats 4000000
namespace DS
open PySem L2
def cPower : C := (.cons (.asg (.tnm 2) (.cint 1)) (.cons (.fors (.tnm 3) (.rg1 (.var 1)) (.cons (.asg (.tnm 2) (.bin .Mult (.var 2) (.var 0))) .nil)) (.cons (.ret (.var 2)) .nil)))
def cKnownOne (known one : Nat) : C := (.cons (.asg (.tnm 2) (.lst (.cons (.cstr "all") (.cons (.cstr "any") (.cons (.cstr "first") (.cons (.cstr "odd") (.cons (.cstr "most") (.cons (.cstr "halves") (.cons (.cstr "rise") (.cons (.cstr "pick") .nil)))))))))) (.cons (.asg (.tnm 3) (.lc (.cal known 0 (.cons (.var 4) (.cons (.var 1) .nil))) (.tnm 4) (.sq (.var 2)) .nil [4])) (.cons (.ret (.cal one 1 (.cons (.var 0) (.cons (.lc (.var 5) (.tnm 5) (.sq (.var 3)) (.cmp .IsNot (.var 5) .cnon) [5]) .nil)))) .nil)))
def cRisenP (dip rows : Nat) : C := (.cons (.asg (.tnm 2) (.lc (.bi .tup (.cons (.lc (.cal dip 1 (.cons (.var 0) (.cons (.cint 2) .nil))) (.tnm 8) (.rg1 (.var 1)) .nil [8]) .nil)) (.tnm 6) (.rg1 (.bin .Add (.cint 1) (.cal dip 1 (.cons (.var 0) (.cons (.cint 3) .nil))))) .nil [6])) (.cons (.asg (.tnm 3) (.mk (.lst .nil))) (.cons (.fors (.tnm 4) (.sq (.cal rows 0 (.cons (.var 1) .nil))) (.cons (.asg (.tnm 5) (.lc (.var 7) (.tnm 7) (.sq (.var 2)) (.bi .all (.cons (.lc (.cmp .LtE (.var 9) (.var 10)) (.ttp (.cons (.tnm 9) (.cons (.tnm 10) .nil))) (.zp (.var 7) (.var 4)) .nil [9, 10]) .nil)) [7])) (.cons (.ex (.mth .append (.var 3) (.cons (.bi .int1 (.cons (.cmp .NotEq (.var 5) (.lst .nil)) .nil)) .nil))) .nil))) (.cons (.ret (.bi .tup (.cons (.var 3) .nil))) .nil))))
def cFewP (dip power rows at_ : Nat) : C := (.cons (.asg (.tnm 2) (.lc (.var 4) (.tnm 4) (.rg1 (.var 1)) (.cmp .Eq (.cal dip 1 (.cons (.var 0) (.cons (.cint 2) .nil))) (.cint 0)) [4])) (.cons (.asg (.tnm 3) (.lc (.cal dip 1 (.cons (.var 0) (.cons (.cint 2) .nil))) (.tnm 5) (.rg1 (.cal power 0 (.cons (.cint 2) (.cons (.bi .len (.cons (.var 2) .nil)) .nil)))) .nil [5])) (.cons (.ret (.bi .tup (.cons (.lc (.ix (.var 3) (.cal at_ 0 (.cons (.lc (.ix (.var 6) (.var 4)) (.tnm 4) (.sq (.var 2)) .nil [4]) .nil))) (.tnm 6) (.sq (.cal rows 0 (.cons (.var 1) .nil))) .nil [6]) .nil))) .nil)))
def cWeighed (dip rows : Nat) : C := (.cons (.asg (.ttp (.cons (.tnm 2) (.cons (.tnm 3) .nil))) (.tup (.cons (.lc (.bin .Sub (.cal dip 1 (.cons (.var 0) (.cons (.cint 7) .nil))) (.cint 3)) (.tnm 4) (.rg1 (.var 1)) .nil [4]) (.cons (.bin .Sub (.cal dip 1 (.cons (.var 0) (.cons (.cint 7) .nil))) (.cint 3)) .nil)))) (.cons (.ret (.bi .tup (.cons (.lc (.bi .int1 (.cons (.cmp .GtE (.bi .sum (.cons (.lc (.bin .Mult (.var 6) (.var 7)) (.ttp (.cons (.tnm 6) (.cons (.tnm 7) .nil))) (.zp (.var 2) (.var 5)) .nil [6, 7]) .nil)) (.var 3)) .nil)) (.tnm 5) (.sq (.cal rows 0 (.cons (.var 1) .nil))) .nil [5]) .nil))) .nil))
def cAnyTable (dip power : Nat) : C := (.cons (.ret (.bi .tup (.cons (.lc (.cal dip 1 (.cons (.var 0) (.cons (.cint 2) .nil))) (.tnm 2) (.rg1 (.cal power 0 (.cons (.cint 2) (.cons (.var 1) .nil)))) .nil [2]) .nil))) .nil)
def cTableP (dip power any_ few weighed kone risen : Nat) : C := (.cons (.asg (.tnm 2) (.cal dip 1 (.cons (.var 0) (.cons (.cint 9) .nil)))) (.cons (.ifs (.cmp .Eq (.var 2) (.cint 0)) (.cons (.ret (.bin .Mult (.tup (.cons (.cal dip 1 (.cons (.var 0) (.cons (.cint 2) .nil))) .nil)) (.cal power 0 (.cons (.cint 2) (.cons (.var 1) .nil))))) .nil) .nil) (.cons (.ifs (.cmp .Lt (.var 2) (.cint 3)) (.cons (.ret (.cal any_ 1 (.cons (.var 0) (.cons (.var 1) .nil)))) .nil) .nil) (.cons (.ifs (.cmp .Eq (.var 2) (.cint 5)) (.cons (.ret (.cal few 1 (.cons (.var 0) (.cons (.var 1) .nil)))) .nil) .nil) (.cons (.ifs (.cmp .Eq (.var 2) (.cint 6)) (.cons (.ret (.cal weighed 1 (.cons (.var 0) (.cons (.var 1) .nil)))) .nil) .nil) (.cons (.asg (.tnm 3) (.ite (.cmp .In (.var 2) (.tup (.cons (.cint 3) (.cons (.cint 7) .nil)))) (.cal kone 1 (.cons (.var 0) (.cons (.var 1) .nil))) (.cal risen 1 (.cons (.var 0) (.cons (.var 1) .nil))))) (.cons (.ifs (.cmp .Gt (.var 2) (.cint 6)) (.cons (.asg (.tnm 4) (.cal dip 1 (.cons (.var 0) (.cons (.bi .len (.cons (.var 3) .nil)) .nil)))) (.cons (.asg (.tnm 3) (.bin .Add (.bin .Add (.sl (.var 3) .nil (.var 4)) (.tup (.cons (.bin .Sub (.cint 1) (.ix (.var 3) (.var 4))) .nil))) (.sl (.var 3) (.bin .Add (.var 4) (.cint 1)) .nil))) .nil)) .nil) (.cons (.ret (.var 3)) .nil))))))))
def cSize (dip one : Nat) : C := (.cons (.ret (.cal one 1 (.cons (.var 0) (.cons (.lst (.cons (.cint 1) (.cons (.cint 2) (.cons (.cint 2) (.cons (.cint 3) (.cons (.cint 3) (.cons (.cint 3) (.cons (.cint 3) (.cons (.cint 4) (.cons (.cint 4) (.cons (.cint 4) (.cons (.cint 4) (.cons (.bin .Add (.cint 5) (.cal dip 1 (.cons (.var 0) (.cons (.cint 2) .nil)))) .nil))))))))))))) .nil)))) .nil)
theorem cut_take (xs : List P) {a : Nat} (h : a ≤ xs.length) : cutP xs none (some (a : Int)) = xs.take a := by
  unfold cutP
  rw [HT.sIx_nat]
  show List.take (min a xs.length - 0) (List.drop 0 xs) = _
  rw [List.drop_zero, Nat.sub_zero, Nat.min_eq_left h]
theorem cut_drop (xs : List P) {a : Nat} (h : a ≤ xs.length) : cutP xs (some (a : Int)) none = xs.drop a := by
  unfold cutP
  rw [HT.sIx_nat, Nat.min_eq_left h]
  show List.take (xs.length - a) (List.drop a xs) = _
  rw [List.take_of_length_le (by rw [List.length_drop]; omega)]
theorem tupI_inj : ∀ {a b : List Int}, a.map PyData.int = b.map PyData.int → a = b
  | [], [], _ => rfl
  | [], _ :: _, h => by cases h
  | _ :: _, [], h => by cases h
  | x :: a, y :: b, h => by
    injection h with h1 h2
    injection h1 with h1
    rw [h1, tupI_inj h2]
def ftR (f : List Int → Int) : P → P
  | .tuple xs => match intsOf xs with
    | some ns => .int (f ns)
    | none => .none
  | _ => .none
theorem ftR_eq (f : List Int → Int) (r : List Int) : ftR f (tupI r) = .int (f r) := by
  show (match intsOf (r.map PyData.int) with | some ns => PyData.int (f ns) | none => .none) = _
  rw [intsOf_map]
theorem rowsI_lc {F : FT} {Gc : Nat → Option P} {S : Sto} {Q : List P × Sto → Prop} {l : List (List Int)} {j : Nat} {elt : C} {env : DEnv} (f : List Int → Int) (he : ∀ r, r ∈ l → WO (bindT (.tnm j) (.p (tupI r)) (wipeE env [j]) S) fun e1 => wpE F Gc elt e1 S fun d s2 => d = .p (.int (f r)) ∧ s2 = S)
    (q : Q ((l.map f).map PyData.int, S)) : WO (compG (fun S => isRl S (.it (l.map tupI))) (fun S i => atS S (.it (l.map tupI)) i) (stepD F Gc elt (.tnm j) .nil [j] env) (lenS S (.it (l.map tupI))) 0 S) Q := by
  refine lists_lc l (ftR f) (fun r hr => ?_) ?_
  · rw [ftR_eq]
    exact he r hr
  · rw [List.map_map] at q
    have e : (l.map fun r => ftR f (tupI r)) = l.map (PyData.int ∘ f) := List.map_congr_left fun r hr => ftR_eq f r
    rw [e]
    exact q
section
variable {fs : List DF} {Gc : Nat → Option P} {n dip one power rows at_ known kone risen few weighed any_ table size : Nat} {k1 k2 k3 : Str} {g : List Int} {m t : Int} {rest : Sto} {Q : D × Sto → Prop}
theorem udraw_lc {F : FT} {Q : List P × Sto → Prop} {elt tg : C} {own : List Nat} {env : DEnv} (N : Nat) (f : Int → Int) (Z : Int → Prop) (hg : g.length ≤ 63)
    (he : ∀ x g m t, g.length ≤ 63 → ∀ R : D → Sto → Prop, (∀ v g' m' t', Z v → g'.length ≤ 63 → R (.p (.int (f v))) (uS k1 k2 k3 g' m' t' rest)) → WO (bindT tg (.p x) (wipeE env own) (uS k1 k2 k3 g m t rest)) fun e1 => wpE F Gc elt e1 (uS k1 k2 k3 g m t rest) R)
    (q : ∀ (vs : List Int) g' m' t', vs.length = N → (∀ v, v ∈ vs → Z v) → g'.length ≤ 63 → Q ((vs.map f).map PyData.int, uS k1 k2 k3 g' m' t' rest)) :
    WO (compG (fun S => isRl S (.rg 0 1 N)) (fun S i => atS S (.rg 0 1 N) i) (stepD F Gc elt tg .nil own env) (lenS (uS k1 k2 k3 g m t rest) (.rg 0 1 N)) 0 (uS k1 k2 k3 g m t rest)) Q := by
  refine wp_lc (src := .rg 0 1 N) N (fun i a s => ∃ (g : List Int) (m t : Int) (vs : List Int), s = uS k1 k2 k3 g m t rest ∧ g.length ≤ 63 ∧ a = (vs.map f).map PyData.int ∧ vs.length = i ∧ ∀ v, v ∈ vs → Z v) rfl ⟨g, m, t, [], rfl, hg, rfl, rfl, fun o ho => by cases ho⟩ (fun a s _ => ⟨by simp [atS], rfl⟩) ?_ ?_
  · rintro i a s hi ⟨g, m, t, vs, rfl, hg, rfl, ha, hao⟩
    refine ⟨.int (0 + (i : Int) * 1), by simp [atS, hi], ?_⟩
    obtain ⟨e1, h1, w⟩ := (he (.int (0 + (i : Int) * 1)) g m t hg (fun d s => ∃ v g' m' t', Z v ∧ g'.length ≤ 63 ∧ d = .p (.int (f v)) ∧ s = uS k1 k2 k3 g' m' t' rest) fun v g' m' t' h1 h2 => ⟨v, g', m', t', h1, h2, rfl, rfl⟩).ex
    refine WO.mk h1 ⟨true, _, rfl, fun _ => ?_, fun h => by cases h⟩
    obtain ⟨d, s', h2, v, g', m', t', h3, h4, rfl, rfl⟩ := (wp_ok F Gc elt).1 _ _ _ w
    obtain ⟨e1', h1', w'⟩ := (he (.int (0 + (i : Int) * 1)) g m t hg (fun d s => ∃ y, d = .p y ∧ ∃ g m t vs', s = uS k1 k2 k3 g m t rest ∧ g.length ≤ 63 ∧ (vs.map f).map PyData.int ++ [y] = (vs'.map f).map PyData.int ∧ vs'.length = i + 1 ∧ ∀ v, v ∈ vs' → Z v) fun v g' m' t' h1 h2 =>
      ⟨_, rfl, g', m', t', vs ++ [v], rfl, h2, by simp, by simp [ha], fun w hw => by
        rcases List.mem_append.mp hw with z | z
        · exact hao w z
        · rw [List.mem_singleton.mp z]; exact h1⟩).ex
    rw [h1] at h1'
    cases h1'
    exact w'
  · rintro a s ⟨g, m, t, vs, rfl, hg, rfl, ha, hao⟩
    exact q vs g m t ha hao hg
theorem power_w (F : FT) (b : Int) (hb : -18446744073709551616 < b ∧ b < 18446744073709551616) (k : Nat) (hk : k ≤ 1000000) (S : Sto) : wpF F Gc 4 2 cPower [.p (.int b), .p (.int (k : Int))] S fun d S' => d = .p (.int (b ^ k)) ∧ S' = S := by
  refine ⟨rfl, ?_⟩
  show wpSs F Gc (.cons (.fors _ _ _) _) [some (.p (.int b)), some (.p (.int (k : Int))), some (.p (.int 1)), none] S _
  refine wps_for (.rg 0 1 k) S k (fun i e s => s = S ∧ ∃ x, e = [some (.p (.int b)), some (.p (.int (k : Int))), some (.p (.int (b ^ i))), x]) (fun R r => ⟨decide_eq_true (by omega), r⟩) rfl ⟨rfl, none, by rw [Int.pow_zero]⟩ (fun e s _ => ⟨by simp [atS], rfl⟩) ?_ ?_
  · rintro i e s hi ⟨rfl, x, rfl⟩
    refine ⟨.int (0 + (i : Int) * 1), by simp [atS, hi], ?_⟩
    exact ⟨mul_ok2 hb, .inl rfl, rfl, some (.p (.int (0 + (i : Int) * 1))), by rw [Int.pow_succ]; rfl⟩
  · rintro e s ⟨rfl, x, rfl⟩
    exact ⟨rfl, rfl⟩
theorem call_power (h : fs[power]? = some ⟨4, 2, cPower⟩) {b : Int} (hb : -18446744073709551616 < b ∧ b < 18446744073709551616) {k : Nat} (hk : k ≤ 1000000) {S : Sto} (q : Q (.p (.int (b ^ k)), S)) : WO (callD (run fs Gc (n + 1)) power 0 [.p (.int b), .p (.int (k : Int))] S) Q :=
  call_of (xs := [.int b, .int (k : Int)]) (Z := fun _ _ => True) (run_w (n := n) (Gc := Gc) h (power_w (run fs Gc n) b hb k hk [])) q
theorem pow2 (k : Nat) : (2 : Int) ^ k = ((2 ^ k : Nat) : Int) := by
  rw [Int.natCast_pow]; rfl
theorem call_tab {f : Nat} {nn : Nat} {c : C} (h : fs[f]? = some ⟨nn, 2, c⟩) (hr : RestOk rest) {k : Nat} (w : wpF (run fs Gc n) Gc nn 2 c [.r 1, .p (.int (k : Int))] (uS k1 k2 k3 g m t rest) fun d S => ∃ cells g' m' t' more, d = .p (tupI cells) ∧ BitsOk (2 ^ k) cells ∧ S = uS k1 k2 k3 g' m' t' (rest ++ more) ∧ g'.length ≤ 63)
    (q : ∀ cells g' m' t', BitsOk (2 ^ k) cells → g'.length ≤ 63 → Q (.p (tupI cells), uS k1 k2 k3 g' m' t' rest)) : WO (callD (run fs Gc (n + 1)) f 1 [.r 1, .p (.int (k : Int))] (uS k1 k2 k3 g m t rest)) Q := by
  obtain ⟨d, S', h5, cells, g', m', t', more, rfl, hb, rfl, hg'⟩ := run_w (n := n) (Gc := Gc) h w
  exact call_u (R := fun d => ∃ cells, d = .p (tupI cells) ∧ BitsOk (2 ^ k) cells) hr ⟨_, _, h5, g', m', t', more, rfl, hg', _, rfl, cells, rfl, hb⟩ fun d' g' m' t' ⟨cells, e, hb⟩ h6 => by
    rw [e]; exact q cells g' m' t' hb h6
theorem any_w (hd : DrawAt fs Gc k1 k2 k3 dip) (hp : fs[power]? = some ⟨4, 2, cPower⟩) (hr : RestOk rest) (hg : g.length ≤ 63) {k : Nat} (hk : k ≤ 12) :
    wpF (run fs Gc (n + 1)) Gc 3 2 (cAnyTable dip power) [.r 1, .p (.int (k : Int))] (uS k1 k2 k3 g m t rest) fun d S => ∃ cells g' m' t' more, d = .p (tupI cells) ∧ BitsOk (2 ^ k) cells ∧ S = uS k1 k2 k3 g' m' t' (rest ++ more) ∧ g'.length ≤ 63 := by
  have p12 : 2 ^ k ≤ 4096 := Nat.le_trans (Nat.pow_le_pow_right (by decide) hk) (by decide)
  refine ⟨rfl, ?_⟩
  show WO (callD (run fs Gc (n + 1)) power 0 [.p (.int 2), .p (.int (k : Int))] (uS k1 k2 k3 g m t rest)) _
  refine call_power hp (by decide) (by omega) ?_
  rw [pow2]
  generalize 2 ^ k = N at p12 ⊢
  refine ⟨decide_eq_true (by omega), fits_ok (by show N ≤ _; omega), ?_⟩
  refine udraw_lc N (fun v => v) (fun v => v = 0 ∨ v = 1) hg (fun x g m t hg R z => ?_) fun vs g' m' t' h1 h2 h3 => ?_
  · show WO (callD (run fs Gc (n + 1)) dip 1 [.r 1, .p (.int 2)] (uS k1 k2 k3 g m t rest)) _
    exact hd n _ _ _ _ _ _ hr hg (by decide) fun v g' m' t' v0 v1 hg' => z v g' m' t' (bit_of v0 v1) hg'
  · rw [List.map_id']
    exact ⟨vs, g', m', t', [], rfl, ⟨h1, h2⟩, by rw [List.append_nil], h3⟩
def dotL : List Int → List Int → Int
  | a :: l, b :: r => a * b + dotL l r
  | _, _ => 0
def mulP : P → P
  | .tuple [.int a, .int b] => .int (a * b)
  | x => x
theorem dot_pairs : ∀ a b : List Int, (pairsP (a.map PyData.int) (b.map PyData.int)).map mulP = (List.zipWith (· * ·) a b).map PyData.int
  | [], _ => rfl
  | _ :: _, [] => rfl
  | x :: a, y :: b => by
    have e : pairsP ((x :: a).map PyData.int) ((y :: b).map PyData.int) = .tuple [.int x, .int y] :: pairsP (a.map PyData.int) (b.map PyData.int) := rfl
    rw [e, List.map_cons, dot_pairs a b]
    rfl
theorem sum_of (l : List Int) : biF .sum [.list (l.map PyData.int)] = some (.int l.sum) := by
  show (intsOf (l.map PyData.int)).map (fun ns => PyData.int ns.sum) = _
  rw [intsOf_map]; rfl
theorem weighed_w (hd : DrawAt fs Gc k1 k2 k3 dip) (h2 : fs[rows]? = some ⟨5, 1, cRows⟩) (hr : RestOk rest) (hg : g.length ≤ 63) {k : Nat} (hk : k ≤ 12) :
    wpF (run fs Gc (n + 1)) Gc 8 2 (cWeighed dip rows) [.r 1, .p (.int (k : Int))] (uS k1 k2 k3 g m t rest) fun d S => ∃ cells g' m' t' more, d = .p (tupI cells) ∧ BitsOk (2 ^ k) cells ∧ S = uS k1 k2 k3 g' m' t' (rest ++ more) ∧ g'.length ≤ 63 := by
  have p12 : 2 ^ k ≤ 4096 := Nat.le_trans (Nat.pow_le_pow_right (by decide) hk) (by decide)
  refine ⟨rfl, ?_⟩
  refine ⟨decide_eq_true (by omega), fits_ok (by show k ≤ _; omega), ?_⟩
  refine udraw_lc k (fun v => v - 3) (fun v => 0 ≤ v ∧ v < 7) hg (fun x g m t hg R z => ?_) fun vs g m t h1 h2' h3 => ?_
  · show WO (callD (run fs Gc (n + 1)) dip 1 [.r 1, .p (.int 7)] (uS k1 k2 k3 g m t rest)) _
    exact hd n _ _ _ _ _ _ hr hg (by decide) fun v g' m' t' v0 v1 hg' => z v g' m' t' ⟨v0, by rcases v1 with h | h <;> omega⟩ hg'
  · show WO (callD (run fs Gc (n + 1)) dip 1 [.r 1, .p (.int 7)] (uS k1 k2 k3 g m t rest)) _
    refine hd n _ _ _ _ _ _ hr h3 (by decide) fun v g m t v0 v1 hg => ?_
    refine ⟨rfl, ?_⟩
    generalize hw : vs.map (fun v => v - 3) = ws
    have hwl : ws.length = k := by rw [← hw, List.length_map, h1]
    have hwb : ∀ x, x ∈ ws → -3 ≤ x ∧ x ≤ 3 := fun x hx => by
      rw [← hw] at hx
      obtain ⟨y, hy, rfl⟩ := List.mem_map.mp hx
      have := h2' y hy
      omega
    show WO (callD (run fs Gc (n + 1)) rows 0 [.p (.int (k : Int))] (uS k1 k2 k3 g m t rest)) _
    refine call_rows (F := fun _ => run fs Gc n) h2 hk ?_
    refine ⟨fits_ok (by show ((bitsL k).map tupI).length ≤ _; rw [List.length_map, bitsL_len]; omega), ?_⟩
    refine rowsI_lc (l := bitsL k) (j := 5) (fun r => if decide (v - 3 ≤ (List.zipWith (· * ·) ws r).sum) = true then 1 else 0) (fun r hrm => ?_) ?_
    · obtain ⟨b1, b2⟩ := bitsL_row k r hrm
      refine ⟨fits_ok (by show min (ws.map PyData.int).length (r.map PyData.int).length ≤ _; simp; omega), ?_⟩
      refine wp_map (src := .zp (.it (ws.map PyData.int)) (.it (r.map PyData.int))) mulP rfl (fun x hx => ?_) ?_
      · obtain ⟨⟨o, b⟩, hm, rfl⟩ := List.mem_map.mp (show x ∈ ((ws.map PyData.int).zip (r.map PyData.int)).map _ from hx)
        obtain ⟨ho, hb⟩ := List.of_mem_zip hm
        obtain ⟨o, ho2, rfl⟩ := List.mem_map.mp ho
        obtain ⟨b, hb2, rfl⟩ := List.mem_map.mp hb
        have := hwb o ho2
        exact ⟨mul_ok ⟨by omega, by omega⟩, rfl, rfl⟩
      · show WO (biF .sum [.list ((pairsP (ws.map PyData.int) (r.map PyData.int)).map mulP)]) _
        rw [dot_pairs]
        exact WO.mk (sum_of _) ⟨rfl, rfl⟩
    · refine ⟨_, g, m, t, [], rfl, map_bits _ fun r hr => ?_, by rw [List.append_nil], hg⟩
      split
      · exact .inr rfl
      · exact .inl rfl
end
end DS
set_option maxRecDepth 100000
set_option maxHeartbeats 4000000
namespace DS
open PySem L2
theorem lay_rows : ∀ l : List (List Int), PyData.canLayAll0 (l.map tupI) = true
  | [] => rfl
  | r :: l => by
    show (PyData.canLay0 (.tuple (r.map PyData.int)) && PyData.canLayAll0 (l.map tupI)) = true
    rw [lay_rows l]
    unfold PyData.canLay0
    rw [lay_ints r]; rfl
theorem depth_rows : ∀ l : List (List Int), PyData.depthAll (l.map tupI) ≤ 1
  | [] => Nat.zero_le _
  | r :: l => by
    show max (tupI r).depth (PyData.depthAll (l.map tupI)) ≤ 1
    rw [depth_tupI]
    have := depth_rows l
    omega
theorem shaped_rows (l : List (List Int)) : SeqAt.shaped (.list (l.map tupI)) = true := by
  unfold SeqAt.shaped PyData.canLay0 PyData.depth
  rw [lay_rows]
  have := depth_rows l
  rw [decide_eq_true (by omega)]
  rfl
theorem ne_nil_rows (l : List (List Int)) : cmpP .NotEq (.list (l.map tupI)) (.list []) = some (decide (l ≠ [])) := by
  show okB (scP (.list (l.map tupI)) (.list []) || (SeqAt.shaped (.list (l.map tupI)) && SeqAt.shaped (.list []))) _ = _
  rw [shaped_rows]
  cases l <;> rfl
theorem blsOf_map : ∀ l : List Bool, blsOf (l.map PyData.bool) = some l
  | [] => rfl
  | a :: l => by
    show (blsOf (l.map PyData.bool)).map (a :: ·) = _
    rw [blsOf_map l]; rfl
def belowR : List Int → List Int → Bool
  | a :: l, b :: r => decide (a ≤ b) && belowR l r
  | _, _ => true
def leP : P → P
  | .tuple [.int a, .int b] => .bool (decide (a ≤ b))
  | x => x
theorem le_pairs : ∀ a b : List Int, (pairsP (a.map PyData.int) (b.map PyData.int)).map leP = (List.zipWith (fun x y => decide (x ≤ y)) a b).map PyData.bool
  | [], _ => rfl
  | _ :: _, [] => rfl
  | x :: a, y :: b => by
    have e : pairsP ((x :: a).map PyData.int) ((y :: b).map PyData.int) = .tuple [.int x, .int y] :: pairsP (a.map PyData.int) (b.map PyData.int) := rfl
    rw [e, List.map_cons, le_pairs a b]
    rfl
theorem all_below : ∀ a b : List Int, (List.zipWith (fun x y => decide (x ≤ y)) a b).all id = belowR a b
  | [], _ => by cases ‹List Int› <;> rfl
  | _ :: _, [] => rfl
  | x :: a, y :: b => by
    rw [List.zipWith_cons_cons, List.all_cons, all_below a b]
    rfl
def rowB (b : List Int → Bool) : P → Bool
  | .tuple xs => match intsOf xs with
    | some ns => b ns
    | none => false
  | _ => false
theorem rowB_eq (b : List Int → Bool) (r : List Int) : rowB b (tupI r) = b r := by
  show (match intsOf (r.map PyData.int) with | some ns => b ns | none => false) = _
  rw [intsOf_map]
theorem filter_rows (b : List Int → Bool) : ∀ l : List (List Int), (l.map tupI).filter (rowB b) = (l.filter b).map tupI
  | [] => rfl
  | a :: l => by
    rw [List.map_cons, List.filter_cons, List.filter_cons, filter_rows b l, rowB_eq]
    cases b a <;> rfl
theorem rows_filter {F : FT} {G : Nat → Option P} {elt cnd : C} {j : Nat} {env : DEnv} {S : Sto} {Q : List P × Sto → Prop} (l : List (List Int)) (b : List Int → Bool) (hc : isNil cnd = false)
    (he : ∀ r, r ∈ l → WO (bindT (.tnm j) (.p (tupI r)) (wipeE env [j]) S) fun e1 => (wpE F G cnd e1 S fun d s2 => d = .p (.bool (b r)) ∧ s2 = S) ∧ (b r = true → wpE F G elt e1 S fun d s2 => d = .p (tupI r) ∧ s2 = S)) (q : Q ((l.filter b).map tupI, S)) :
    WO (compG (fun S => isRl S (.it (l.map tupI))) (fun S i => atS S (.it (l.map tupI)) i) (stepD F G elt (.tnm j) cnd [j] env) (lenS S (.it (l.map tupI))) 0 S) Q := by
  refine wp_filter (src := .it (l.map tupI)) (fun x => x) (rowB b) hc rfl (fun x hx => ?_) ?_
  · obtain ⟨r, hr, rfl⟩ := List.mem_map.mp (show x ∈ l.map tupI from hx)
    rw [rowB_eq]
    exact he r hr
  · show Q (((l.map tupI).filter (rowB b)).map (fun x => x), S)
    rw [filter_rows, List.map_id']
    exact q
theorem numberL_w (F : FT) (Gc : Nat → Option P) (bs : List Int) (S : Sto) : wpF F Gc 3 1 cNumber [.p (.list (bs.map PyData.int))] S fun d S' => d = .p (.int (numL bs)) ∧ S' = S := by
  refine ⟨rfl, ?_⟩
  show wpSs F Gc (.cons (.fors _ _ _) _) [some (.p (.list (bs.map PyData.int))), some (.p (.int 0)), none] S _
  refine wps_for (.it (bs.map PyData.int)) S bs.length (fun i e s => s = S ∧ ∃ x, e = [some (.p (.list (bs.map PyData.int))), some (.p (.int (numL (bs.take i)))), x]) (fun R r => r) (by simp [lenS]) ⟨rfl, none, rfl⟩ (fun e s _ => ⟨by simp [atS], rfl⟩) ?_ ?_
  · rintro i e s hi ⟨rfl, x, rfl⟩
    refine ⟨.int bs[i], by simp [atS, hi], ?_⟩
    refine ⟨mul_ok (by decide), .inl rfl, rfl, some (.p (.int bs[i])), ?_⟩
    rw [take_snoc hi, numL_snoc]
    rfl
  · rintro e s ⟨rfl, x, rfl⟩
    rw [List.take_length]
    exact ⟨rfl, rfl⟩
theorem bits_map {l : List Int} {f : Int → Int} (h : ∀ x, x ∈ l → f x = 0 ∨ f x = 1) : IsBits (l.map f) := fun b hb => by
  obtain ⟨x, hx, rfl⟩ := List.mem_map.mp hb
  exact h x hx
theorem cell_bit {r : List Int} (hr : IsBits r) (p : Int) : cellAt r p = 0 ∨ cellAt r p = 1 := by
  unfold cellAt
  cases h : r[p.toNat]? with
  | none => exact .inl rfl
  | some b => exact hr b (List.mem_of_getElem? h)
def TabN (k : Nat) (x : P) : Prop := x = .none ∨ ∃ cells, x = tupI cells ∧ BitsOk (2 ^ k) cells
def wordsP : List Str := ["all", "any", "first", "odd", "most", "halves", "rise", "pick"]
section
variable {fs : List DF} {Gc : Nat → Option P} {n dip one power rows at_ known kone risen few weighed any_ table size : Nat} {k1 k2 k3 : Str} {g : List Int} {m t : Int} {rest : Sto} {Q : D × Sto → Prop}
theorem few_w (hd : DrawAt fs Gc k1 k2 k3 dip) (hp : fs[power]? = some ⟨4, 2, cPower⟩) (h2 : fs[rows]? = some ⟨5, 1, cRows⟩) (h3 : fs[at_]? = some ⟨3, 1, cNumber⟩) (hr : RestOk rest) (hg : g.length ≤ 63) {k : Nat} (hk : k ≤ 12) :
    wpF (run fs Gc (n + 1)) Gc 7 2 (cFewP dip power rows at_) [.r 1, .p (.int (k : Int))] (uS k1 k2 k3 g m t rest) fun d S => ∃ cells g' m' t' more, d = .p (tupI cells) ∧ BitsOk (2 ^ k) cells ∧ S = uS k1 k2 k3 g' m' t' (rest ++ more) ∧ g'.length ≤ 63 := by
  have p12 : 2 ^ k ≤ 4096 := Nat.le_trans (Nat.pow_le_pow_right (by decide) hk) (by decide)
  refine ⟨rfl, ?_⟩
  refine ⟨decide_eq_true (by omega), fits_ok (by show k ≤ _; omega), ?_⟩
  refine wp_lc (src := .rg 0 1 k) k (fun i a s => ∃ g m t l, s = uS k1 k2 k3 g m t rest ∧ g.length ≤ 63 ∧ a = l.map PyData.int ∧ l.length ≤ i ∧ ∀ p : Int, p ∈ l → 0 ≤ p ∧ p < (k : Int)) rfl ⟨g, m, t, [], rfl, hg, rfl, Nat.le_refl _, fun o ho => by cases ho⟩ (fun a s _ => ⟨by simp [atS], rfl⟩) ?_ ?_
  · rintro i a s hi ⟨g, m, t, l, rfl, hg, rfl, ha, hao⟩
    refine ⟨.int (0 + (i : Int) * 1), by simp [atS, hi], ?_⟩
    have hc : wpE (run fs Gc (n + 1)) Gc (.cmp .Eq (.cal dip 1 (.cons (.var 0) (.cons (.cint 2) .nil))) (.cint 0)) [some (.r 1), some (.p (.int (k : Int))), none, none, some (.p (.int (0 + (i : Int) * 1))), none, none] (uS k1 k2 k3 g m t rest) fun d s1 => ∃ b g m t, d = .p (.bool b) ∧ s1 = uS k1 k2 k3 g m t rest ∧ g.length ≤ 63 := by
      show WO (callD (run fs Gc (n + 1)) dip 1 [.r 1, .p (.int 2)] (uS k1 k2 k3 g m t rest)) _
      refine hd n _ _ _ _ _ _ hr hg (by decide) fun v g m t v1 v2 hg => ?_
      exact ⟨_, g, m, t, rfl, rfl, hg⟩
    obtain ⟨d, s1, e1, b, g, m, t, rfl, rfl, hg⟩ := (wp_ok _ Gc _).1 _ _ _ hc
    refine ⟨b, uS k1 k2 k3 g m t rest, ?_, fun _ => ?_, fun _ => ?_⟩
    · unfold condD
      rw [if_neg (show ¬ isNil (.cmp .Eq (.cal dip 1 (.cons (.var 0) (.cons (.cint 2) .nil))) (.cint 0)) = true from Bool.false_ne_true)]
      unfold asB
      erw [e1]
    · refine ⟨_, rfl, g, m, t, l ++ [0 + (i : Int) * 1], rfl, hg, by rw [List.map_append]; rfl, by rw [List.length_append]; exact Nat.succ_le_succ ha, fun p hp => ?_⟩
      rcases List.mem_append.mp hp with z | z
      · exact hao p z
      · rw [List.mem_singleton.mp z]; omega
    · exact ⟨g, m, t, l, rfl, hg, rfl, Nat.le_succ_of_le ha, hao⟩
  · rintro a s ⟨g, m, t, l, rfl, hg, rfl, ha, hao⟩
    have pl : 2 ^ l.length ≤ 4096 := Nat.le_trans (Nat.pow_le_pow_right (by decide) (Nat.le_trans ha hk)) (by decide)
    show WO (callD (run fs Gc (n + 1)) power 0 [.p (.int 2), .p (.int ((l.map PyData.int).length : Int))] (uS k1 k2 k3 g m t rest)) _
    rw [List.length_map]
    refine call_power hp (by decide) (by omega) ?_
    rw [pow2]
    generalize hN : 2 ^ l.length = N at pl ⊢
    refine ⟨decide_eq_true (by omega), fits_ok (by show N ≤ _; omega), ?_⟩
    refine udraw_lc N (fun v => v) (fun v => v = 0 ∨ v = 1) hg (fun x g m t hg R z => ?_) fun vs g m t e1 e2 hg => ?_
    · show WO (callD (run fs Gc (n + 1)) dip 1 [.r 1, .p (.int 2)] (uS k1 k2 k3 g m t rest)) _
      exact hd n _ _ _ _ _ _ hr hg (by decide) fun v g' m' t' v0 v1 hg' => z v g' m' t' (bit_of v0 v1) hg'
    · rw [List.map_id']
      show WO (callD (run fs Gc (n + 1)) rows 0 [.p (.int (k : Int))] (uS k1 k2 k3 g m t rest)) _
      refine call_rows (F := fun _ => run fs Gc n) h2 hk ?_
      refine ⟨fits_ok (by show ((bitsL k).map tupI).length ≤ _; rw [List.length_map, bitsL_len]; omega), ?_⟩
      refine rowsI_lc (l := bitsL k) (j := 6) (fun r => cellAt vs (numL (l.map fun p => cellAt r p))) (fun r hrm => ?_) ?_
      · obtain ⟨b1, b2⟩ := bitsL_row k r hrm
        refine ⟨fits_ok (by show (l.map PyData.int).length ≤ _; rw [List.length_map]; omega), ?_⟩
        refine ints_map (src := .it (l.map PyData.int)) l (fun p => cellAt r p) rfl rfl (fun p hp => ?_) ?_
        · obtain ⟨c1, c2⟩ := hao p hp
          show WO (atI (r.map PyData.int) p) _
          exact WO.mk (at_cell c1 (by rw [b1]; exact c2)) ⟨rfl, rfl⟩
        · obtain ⟨c1, c2⟩ := numL_lt (k := l.length) (r := l.map fun p => cellAt r p) (by rw [List.length_map]) (bits_map fun p _ => cell_bit b2 p)
          show WO (callD (run fs Gc (n + 1)) at_ 0 [.p (.list ((l.map fun p => cellAt r p).map PyData.int))] (uS k1 k2 k3 g m t rest)) _
          obtain ⟨d, S', j1, rfl, rfl⟩ := run_w (n := n) (Gc := Gc) h3 (numberL_w (run fs Gc n) Gc (l.map fun p => cellAt r p) [])
          refine call0 [.list ((l.map fun p => cellAt r p).map PyData.int)] ⟨_, _, j1, _, rfl, ?_⟩
          show WO (atI (vs.map PyData.int) (numL (l.map fun p => cellAt r p))) _
          exact WO.mk (at_cell c1 (by rw [e1, ← hN]; exact c2)) ⟨rfl, rfl⟩
      · exact ⟨_, g, m, t, [], rfl, map_bits _ fun r hr => cell_bit e2 _, by rw [List.append_nil], hg⟩
theorem risen_w (hd : DrawAt fs Gc k1 k2 k3 dip) (h2 : fs[rows]? = some ⟨5, 1, cRows⟩) (hr : RestOk rest) (hg : g.length ≤ 63) {k : Nat} (hk : k ≤ 12) :
    wpF (run fs Gc (n + 1)) Gc 11 2 (cRisenP dip rows) [.r 1, .p (.int (k : Int))] (uS k1 k2 k3 g m t rest) fun d S => ∃ cells g' m' t' more, d = .p (tupI cells) ∧ BitsOk (2 ^ k) cells ∧ S = uS k1 k2 k3 g' m' t' (rest ++ more) ∧ g'.length ≤ 63 := by
  have p12 : 2 ^ k ≤ 4096 := Nat.le_trans (Nat.pow_le_pow_right (by decide) hk) (by decide)
  refine ⟨rfl, ?_⟩
  show WO (callD (run fs Gc (n + 1)) dip 1 [.r 1, .p (.int 3)] (uS k1 k2 k3 g m t rest)) _
  refine hd n _ _ _ _ _ _ hr hg (by decide) fun v g m t v0 v1 hg => ?_
  obtain ⟨N, hN, hN3⟩ : ∃ N : Nat, 1 + v = (N : Int) ∧ N ≤ 3 := ⟨(1 + v).toNat, by omega, by omega⟩
  show rgOk (1 + v) = true ∧ fitsN (lenS _ (.rg 0 1 (1 + v).toNat)) = true ∧ WO (compG (fun S => isRl S (.rg 0 1 (1 + v).toNat)) (fun S i => atS S (.rg 0 1 (1 + v).toNat) i) _ (lenS (uS k1 k2 k3 g m t rest) (.rg 0 1 (1 + v).toNat)) 0 (uS k1 k2 k3 g m t rest)) _
  rw [hN, Int.toNat_natCast]
  refine ⟨decide_eq_true (by omega), fits_ok (by show N ≤ _; omega), ?_⟩
  refine wp_lc (src := .rg 0 1 N) N (fun i a s => ∃ g m t l, s = uS k1 k2 k3 g m t rest ∧ g.length ≤ 63 ∧ a = l.map tupI ∧ l.length = i ∧ ∀ r : List Int, r ∈ l → r.length = k ∧ IsBits r) rfl ⟨g, m, t, [], rfl, hg, rfl, rfl, fun o ho => by cases ho⟩ (fun a s _ => ⟨by simp [atS], rfl⟩) ?_ ?_
  · rintro i a s hi ⟨g, m, t, l, rfl, hg, rfl, ha, hao⟩
    refine ⟨.int (0 + (i : Int) * 1), by simp [atS, hi], ?_⟩
    refine ⟨true, uS k1 k2 k3 g m t rest, rfl, fun _ => ?_, fun h => by cases h⟩
    refine ⟨decide_eq_true (by omega), fits_ok (by show k ≤ _; omega), ?_⟩
    refine udraw_lc k (fun v => v) (fun v => v = 0 ∨ v = 1) hg (fun x g m t hg R z => ?_) fun vs g m t e1 e2 hg => ?_
    · show WO (callD (run fs Gc (n + 1)) dip 1 [.r 1, .p (.int 2)] (uS k1 k2 k3 g m t rest)) _
      exact hd n _ _ _ _ _ _ hr hg (by decide) fun v g' m' t' v0 v1 hg' => z v g' m' t' (bit_of v0 v1) hg'
    · rw [List.map_id']
      refine ⟨tupI vs, rfl, g, m, t, l ++ [vs], rfl, hg, by rw [List.map_append]; rfl, by rw [List.length_append, ha]; rfl, fun r hrm => ?_⟩
      rcases List.mem_append.mp hrm with z | z
      · exact hao r z
      · rw [List.mem_singleton.mp z]; exact ⟨e1, e2⟩
  · rintro a s ⟨g, m, t, l, rfl, hg, rfl, ha, hao⟩
    show wpSs (run fs Gc (n + 1)) Gc (.cons (.asg (.tnm 3) (.mk (.lst .nil))) _) [some (.r 1), some (.p (.int (k : Int))), some (.p (.list (l.map tupI))), none, none, none, none, none, none, none, none] (uS k1 k2 k3 g m t rest) _
    refine ⟨by decide, ?_⟩
    show wpSs (run fs Gc (n + 1)) Gc (.cons (.fors _ _ _) _) [some (.r 1), some (.p (.int (k : Int))), some (.p (.list (l.map tupI))), some (.r (rest.length + 2)), none, none, none, none, none, none, none] (uS k1 k2 k3 g m t (rest ++ [.lst []])) _
    refine wps_for (.it ((bitsL k).map tupI)) (uS k1 k2 k3 g m t (rest ++ [.lst []])) (bitsL k).length (fun i e s => ∃ cells x y, cells.length = i ∧ IsBits cells ∧ s = uS k1 k2 k3 g m t (rest ++ [.lst (cells.map PyData.int)]) ∧ e = [some (.r 1), some (.p (.int (k : Int))), some (.p (.list (l.map tupI))), some (.r (rest.length + 2)), x, y, none, none, none, none, none]) (fun R r => ?_) (by simp [lenS]) ⟨[], none, none, rfl, (fun b hb => by cases hb), rfl, rfl⟩ (fun e s _ => ⟨by simp [atS], rfl⟩) ?_ ?_
    · show WO (callD (run fs Gc (n + 1)) rows 0 [.p (.int (k : Int))] (uS k1 k2 k3 g m t (rest ++ [.lst []]))) _
      exact call_rows (F := fun _ => run fs Gc n) h2 hk r
    · rintro i e s hi ⟨cells, x, y, hc, hcb, rfl, rfl⟩
      refine ⟨tupI (bitsL k)[i], by simp [atS, hi], ?_⟩
      generalize hr0 : (bitsL k)[i] = r
      have hrm : r ∈ bitsL k := by rw [← hr0]; exact List.getElem_mem hi
      obtain ⟨b1, b2⟩ := bitsL_row k r hrm
      refine ⟨fits_ok (by show (l.map tupI).length ≤ _; rw [List.length_map]; omega), ?_⟩
      refine rows_filter (j := 7) l (fun sd => belowR sd r) rfl (fun sd hsd => ?_) ?_
      · obtain ⟨c1, c2⟩ := hao sd hsd
        refine ⟨?_, fun _ => ⟨rfl, rfl⟩⟩
        refine ⟨fits_ok (by show min (sd.map PyData.int).length (r.map PyData.int).length ≤ _; simp; omega), ?_⟩
        refine wp_map (src := .zp (.it (sd.map PyData.int)) (.it (r.map PyData.int))) leP rfl (fun x hx => ?_) ?_
        · obtain ⟨⟨o, b⟩, hm, rfl⟩ := List.mem_map.mp (show x ∈ ((sd.map PyData.int).zip (r.map PyData.int)).map _ from hx)
          obtain ⟨ho, hb⟩ := List.of_mem_zip hm
          obtain ⟨o, ho2, rfl⟩ := List.mem_map.mp ho
          obtain ⟨b, hb2, rfl⟩ := List.mem_map.mp hb
          exact ⟨rfl, rfl⟩
        · show WO (biF .all [.list ((pairsP (sd.map PyData.int) (r.map PyData.int)).map leP)]) _
          rw [le_pairs]
          refine WO.mk (a := PyData.bool (belowR sd r)) ?_ ⟨rfl, rfl⟩
          show (blsOf ((List.zipWith (fun x y => decide (x ≤ y)) sd r).map PyData.bool)).map (fun bs => PyData.bool (bs.all id)) = _
          rw [blsOf_map, ← all_below]
          rfl
      · generalize l.filter (fun sd => belowR sd r) = L
        refine ⟨by show ownL (uS k1 k2 k3 g m t (rest ++ [.lst (cells.map PyData.int)])) (.r (rest.length + 2)) = true; simp [ownL, u_last, snapM], ?_⟩
        refine ⟨rfl, ?_⟩
        show WO (cmpP .NotEq (.list (L.map tupI)) (.list [])) _
        refine WO.mk (ne_nil_rows L) ?_
        show WO (mthD .append (.r (rest.length + 2)) [.p (.int (if decide (L ≠ []) = true then 1 else 0))] (uS k1 k2 k3 g m t (rest ++ [.lst (cells.map PyData.int)]))) _
        refine WO.mk (app_lst _ _ _ _ (u_last _) (by rw [List.length_map, hc]; rw [bitsL_len] at hi; omega)) ?_
        rw [u_setLast]
        refine ⟨.inl rfl, cells ++ [if decide (L ≠ []) = true then 1 else 0], some (.p (tupI r)), some (.p (.list (L.map tupI))), by rw [List.length_append, hc]; rfl, ?_, by rw [List.map_append]; rfl, rfl⟩
        intro b hb
        rcases List.mem_append.mp hb with z | z
        · exact hcb b z
        · rw [List.mem_singleton.mp z]
          split
          · exact .inr rfl
          · exact .inl rfl
    · rintro e s ⟨cells, x, y, hc, hcb, rfl, rfl⟩
      show WO (snaps (uS k1 k2 k3 g m t (rest ++ [.lst (cells.map PyData.int)])) [.r (rest.length + 2)]) _
      refine WO.mk (u_snapsLast _) ?_
      exact ⟨cells, g, m, t, [.lst (cells.map PyData.int)], rfl, ⟨by rw [hc, bitsL_len], hcb⟩, rfl, hg⟩
theorem kone_w (hd : DrawAt fs Gc k1 k2 k3 dip) (h1 : fs[one]? = some ⟨2, 2, cPick dip⟩) {k : Nat} (hkn : ∀ w, w ∈ wordsP → ∃ x S', run fs Gc (n + 2) known [.p (.str w), .p (.int (k : Int))] [] = some (.p x, S') ∧ TabN k x ∧ (w = "all" → x ≠ .none)) (hr : RestOk rest) (hg : g.length ≤ 63) :
    wpF (run fs Gc (n + 2)) Gc 6 2 (cKnownOne known one) [.r 1, .p (.int (k : Int))] (uS k1 k2 k3 g m t rest) fun d S => ∃ cells g' m' t' more, d = .p (tupI cells) ∧ BitsOk (2 ^ k) cells ∧ S = uS k1 k2 k3 g' m' t' (rest ++ more) ∧ g'.length ≤ 63 := by
  have key : ∃ f : P → P, ∀ w, w ∈ wordsP → (∃ S', run fs Gc (n + 2) known [.p (.str w), .p (.int (k : Int))] [] = some (.p (f (.str w)), S')) ∧ TabN k (f (.str w)) ∧ (w = "all" → f (.str w) ≠ .none) := by
    have : ∀ x : P, ∃ y : P, ∀ w, w ∈ wordsP → x = .str w → (∃ S', run fs Gc (n + 2) known [.p (.str w), .p (.int (k : Int))] [] = some (.p y, S')) ∧ TabN k y ∧ (w = "all" → y ≠ .none) := fun x => by
      by_cases h : ∃ w, w ∈ wordsP ∧ x = .str w
      · obtain ⟨w, hw, rfl⟩ := h
        obtain ⟨y, S', e1, e2, e3⟩ := hkn w hw
        refine ⟨y, fun w' _ e => ?_⟩
        injection e with e
        subst e
        exact ⟨⟨S', e1⟩, e2, e3⟩
      · exact ⟨.none, fun w hw e => absurd ⟨w, hw, e⟩ h⟩
    exact ⟨fun x => (this x).choose, fun w hw => (this (.str w)).choose_spec w hw rfl⟩
  obtain ⟨f, hf⟩ := key
  refine ⟨rfl, ?_⟩
  refine ⟨rfl, ?_⟩
  refine ⟨rfl, ?_⟩
  refine wp_map (src := .it (wordsP.map PyData.str)) f rfl (fun x hx => ?_) ?_
  · obtain ⟨w, hw, rfl⟩ := List.mem_map.mp (show x ∈ wordsP.map PyData.str from hx)
    obtain ⟨⟨S', e1⟩, _⟩ := hf w hw
    show WO (callD (run fs Gc (n + 2)) known 0 [.p (.str w), .p (.int (k : Int))] (uS k1 k2 k3 g m t rest)) _
    exact call0 [.str w, .int (k : Int)] ⟨_, _, e1, _, rfl, rfl, rfl⟩
  · show wpSs (run fs Gc (n + 2)) Gc _ [some (.r 1), some (.p (.int (k : Int))), some (.p (.list (wordsP.map PyData.str))), some (.p (.list ((wordsP.map PyData.str).map f))), none, none] (uS k1 k2 k3 g m t rest) _
    have hfl : ∀ x, x ∈ (wordsP.map PyData.str).map f → TabN k x := fun x hx => by
      obtain ⟨y, hy, rfl⟩ := List.mem_map.mp hx
      obtain ⟨w, hw, rfl⟩ := List.mem_map.mp hy
      exact (hf w hw).2.1
    have h8 : ((wordsP.map PyData.str).map f).length = 8 := by simp [wordsP]
    have hall : f (.str "all") ∈ (wordsP.map PyData.str).map f := List.mem_map.mpr ⟨_, List.mem_map.mpr ⟨"all", by simp [wordsP], rfl⟩, rfl⟩
    have hne := (hf "all" (by simp [wordsP])).2.2 rfl
    generalize (wordsP.map PyData.str).map f = L at hfl h8 hall
    refine ⟨fits_ok (by show L.length ≤ _; omega), ?_⟩
    refine wp_filter (src := .it L) (fun x => x) (fun x => match x with | .none => false | _ => true) rfl rfl (fun x hx => ?_) ?_
    · rcases hfl x hx with rfl | ⟨cells, rfl, _⟩
      · exact ⟨⟨rfl, rfl⟩, fun _ => ⟨rfl, rfl⟩⟩
      · exact ⟨⟨rfl, rfl⟩, fun _ => ⟨rfl, rfl⟩⟩
    · show WO (callD (run fs Gc (n + 2)) one 1 [.r 1, .p (.list ((L.filter fun x => match x with | .none => false | _ => true).map fun x => x))] (uS k1 k2 k3 g m t rest)) _
      rw [List.map_id']
      refine call_upick hd h1 hr hg (.inl ⟨_, rfl⟩) (List.length_pos_of_mem (a := f (.str "all")) (List.mem_filter.mpr ⟨hall, ?_⟩)) (Nat.lt_of_le_of_lt (List.length_filter_le _ _) (by omega)) fun x g m t hx hg => ?_
      · rcases hfl _ hall with e | ⟨cells, e, _⟩
        · exact absurd e hne
        · rw [e]; rfl
      · obtain ⟨hx1, hx2⟩ := List.mem_filter.mp (show x ∈ L.filter _ from hx)
        rcases hfl x hx1 with rfl | ⟨cells, rfl, hb⟩
        · cases hx2
        · exact ⟨cells, g, m, t, [], rfl, hb, by rw [List.append_nil], hg⟩
theorem tableP_w (hd : DrawAt fs Gc k1 k2 k3 dip) (hp : fs[power]? = some ⟨4, 2, cPower⟩) (h1 : fs[one]? = some ⟨2, 2, cPick dip⟩) (h2 : fs[rows]? = some ⟨5, 1, cRows⟩) (h3 : fs[at_]? = some ⟨3, 1, cNumber⟩) (ha : fs[any_]? = some ⟨3, 2, cAnyTable dip power⟩) (hf : fs[few]? = some ⟨7, 2, cFewP dip power rows at_⟩) (hw : fs[weighed]? = some ⟨8, 2, cWeighed dip rows⟩) (hko : fs[kone]? = some ⟨6, 2, cKnownOne known one⟩) (hri : fs[risen]? = some ⟨11, 2, cRisenP dip rows⟩)
    {k : Nat} (hkn : ∀ w, w ∈ wordsP → ∃ x S', run fs Gc (n + 2) known [.p (.str w), .p (.int (k : Int))] [] = some (.p x, S') ∧ TabN k x ∧ (w = "all" → x ≠ .none)) (hr : RestOk rest) (hg : g.length ≤ 63) (hk1 : 1 ≤ k) (hk : k ≤ 8) :
    wpF (run fs Gc (n + 3)) Gc 5 2 (cTableP dip power any_ few weighed kone risen) [.r 1, .p (.int (k : Int))] (uS k1 k2 k3 g m t rest) fun d S => ∃ cells g' m' t' more, d = .p (tupI cells) ∧ BitsOk (2 ^ k) cells ∧ S = uS k1 k2 k3 g' m' t' (rest ++ more) ∧ g'.length ≤ 63 := by
  have p12 : 2 ^ k ≤ 256 := Nat.le_trans (Nat.pow_le_pow_right (by decide) hk) (by decide)
  have p2 : 2 ≤ 2 ^ k := Nat.le_trans (by decide : 2 ≤ 2 ^ 1) (Nat.pow_le_pow_right (by decide) hk1)
  refine ⟨rfl, ?_⟩
  show WO (callD (run fs Gc (n + 3)) dip 1 [.r 1, .p (.int 9)] (uS k1 k2 k3 g m t rest)) _
  refine hd _ _ _ _ _ _ _ hr hg (by decide) fun v g m t v0 v1 hg => ?_
  refine ⟨fun _ => ?_, fun _ => ?_⟩
  · show WO (callD (run fs Gc (n + 3)) dip 1 [.r 1, .p (.int 2)] (uS k1 k2 k3 g m t rest)) _
    refine hd _ _ _ _ _ _ _ hr hg (by decide) fun b g m t b0 b1 hg => ?_
    refine ⟨rfl, ?_⟩
    show WO (callD (run fs Gc (n + 3)) power 0 [.p (.int 2), .p (.int (k : Int))] (uS k1 k2 k3 g m t rest)) _
    refine call_power hp (by decide) (by omega) ?_
    rw [pow2]
    generalize 2 ^ k = N at p12 p2 ⊢
    refine ⟨rfl, ⟨⟨by omega, by omega⟩, by show 1 ≤ 1000; decide⟩, ?_⟩
    refine ⟨List.replicate N b, g, m, t, [], ?_, ⟨by rw [List.length_replicate], fun c hc => by rw [(List.mem_replicate.mp hc).2]; exact bit_of b0 b1⟩, by rw [List.append_nil], hg⟩
    show D.p (.tuple (List.replicate ((N : Int).toNat) [PyData.int b]).flatten) = .p (.tuple ((List.replicate N b).map PyData.int))
    rw [Int.toNat_natCast, flat_one, List.map_replicate]
  · refine ⟨fun _ => ?_, fun _ => ?_⟩
    · show WO (callD (run fs Gc (n + 3)) any_ 1 [.r 1, .p (.int (k : Int))] (uS k1 k2 k3 g m t rest)) _
      exact call_tab ha hr (any_w (n := n + 1) hd hp hr hg (by omega)) fun cells g m t hb hg => ⟨cells, g, m, t, [], rfl, hb, by rw [List.append_nil], hg⟩
    · refine ⟨fun _ => ?_, fun _ => ?_⟩
      · show WO (callD (run fs Gc (n + 3)) few 1 [.r 1, .p (.int (k : Int))] (uS k1 k2 k3 g m t rest)) _
        exact call_tab hf hr (few_w (n := n + 1) hd hp h2 h3 hr hg (by omega)) fun cells g m t hb hg => ⟨cells, g, m, t, [], rfl, hb, by rw [List.append_nil], hg⟩
      · refine ⟨fun _ => ?_, fun _ => ?_⟩
        · show WO (callD (run fs Gc (n + 3)) weighed 1 [.r 1, .p (.int (k : Int))] (uS k1 k2 k3 g m t rest)) _
          exact call_tab hw hr (weighed_w (n := n + 1) hd h2 hr hg (by omega)) fun cells g m t hb hg => ⟨cells, g, m, t, [], rfl, hb, by rw [List.append_nil], hg⟩
        · have tail : ∀ (cells g : List Int) (m t : Int), BitsOk (2 ^ k) cells → g.length ≤ 63 → wpSs (run fs Gc (n + 3)) Gc (.cons (.ifs (.cmp .Gt (.var 2) (.cint 6)) (.cons (.asg (.tnm 4) (.cal dip 1 (.cons (.var 0) (.cons (.bi .len (.cons (.var 3) .nil)) .nil)))) (.cons (.asg (.tnm 3) (.bin .Add (.bin .Add (.sl (.var 3) .nil (.var 4)) (.tup (.cons (.bin .Sub (.cint 1) (.ix (.var 3) (.var 4))) .nil))) (.sl (.var 3) (.bin .Add (.var 4) (.cint 1)) .nil))) .nil)) .nil) (.cons (.ret (.var 3)) .nil))
              [some (.r 1), some (.p (.int (k : Int))), some (.p (.int v)), some (.p (tupI cells)), none] (uS k1 k2 k3 g m t rest) fun f _ S1 => match f with
              | .rt d => ∃ cells g' m' t' more, d = .p (tupI cells) ∧ BitsOk (2 ^ k) cells ∧ S1 = uS k1 k2 k3 g' m' t' (rest ++ more) ∧ g'.length ≤ 63
              | .nx => ∃ cells g' m' t' more, D.p PyData.none = .p (tupI cells) ∧ BitsOk (2 ^ k) cells ∧ S1 = uS k1 k2 k3 g' m' t' (rest ++ more) ∧ g'.length ≤ 63
              | _ => False := by
            intro cells g m t hb hg
            refine ⟨fun _ => ?_, fun _ => ?_⟩
            · show WO (callD (run fs Gc (n + 3)) dip 1 [.r 1, .p (.int ((cells.map PyData.int).length : Int))] (uS k1 k2 k3 g m t rest)) _
              have hcl : (cells.map PyData.int).length = 2 ^ k := by rw [List.length_map, hb.1]
              have hcl' := hb.1
              rw [hcl]
              generalize 2 ^ k = N at p12 p2 hb hcl hcl' ⊢
              refine hd _ _ _ _ _ _ _ hr hg (by omega) fun a g m t a0 a1 hg => ?_
              obtain ⟨j, rfl⟩ : ∃ j : Nat, a = (j : Int) := ⟨a.toNat, by omega⟩
              have hj : j < N := by rcases a1 with h | h <;> omega
              obtain ⟨c0, hc0⟩ : ∃ c0, cells[j]? = some c0 := ⟨_, List.getElem?_eq_getElem (by omega)⟩
              have hca : atI (cells.map PyData.int) (j : Int) = some (.int c0) := by
                rw [at_cell (by omega) (by omega)]
                show some (PyData.int ((cells[(j : Int).toNat]?).getD 0)) = _
                rw [Int.toNat_natCast, hc0]; rfl
              show WO (atI (cells.map PyData.int) (j : Int)) _
              refine WO.mk hca ?_
              have e1 : cutP (cells.map PyData.int) none (some (j : Int)) = (cells.take j).map PyData.int := by
                rw [cut_take _ (by omega), List.map_take]
              have e2 : cutP (cells.map PyData.int) (some ((j : Int) + 1)) none = (cells.drop (j + 1)).map PyData.int := by
                rw [show ((j : Int) + 1) = ((j + 1 : Nat) : Int) by omega, cut_drop _ (by omega), List.map_drop]
              refine ⟨rfl, rfl, ?_, ?_⟩
              · show fitsN ((cutP (cells.map PyData.int) none (some (j : Int))).length + 1) = true
                rw [e1]
                exact fits_ok (by simp; omega)
              · refine ⟨rfl, ?_, ?_⟩
                · show fitsN (((cutP (cells.map PyData.int) none (some (j : Int))) ++ [PyData.int (1 - c0)]).length + (cutP (cells.map PyData.int) (some ((j : Int) + 1)) none).length) = true
                  rw [e1, e2]
                  exact fits_ok (by simp; omega)
                · refine ⟨cells.take j ++ [1 - c0] ++ cells.drop (j + 1), g, m, t, [], ?_, ⟨?_, fun c hc => ?_⟩, by rw [List.append_nil], hg⟩
                  · show D.p (.tuple (cutP (cells.map PyData.int) none (some (j : Int)) ++ [PyData.int (1 - c0)] ++ cutP (cells.map PyData.int) (some ((j : Int) + 1)) none)) = _
                    rw [e1, e2]
                    show _ = D.p (.tuple ((cells.take j ++ [1 - c0] ++ cells.drop (j + 1)).map PyData.int))
                    rw [List.map_append, List.map_append]
                    rfl
                  · simp; omega
                  · have hc0b := hb.2 c0 (List.mem_of_getElem? hc0)
                    rcases List.mem_append.mp hc with z | z
                    · rcases List.mem_append.mp z with z | z
                      · exact hb.2 c (List.mem_of_mem_take z)
                      · rw [List.mem_singleton.mp z]; omega
                    · exact hb.2 c (List.mem_of_mem_drop z)
            · exact ⟨cells, g, m, t, [], rfl, hb, by rw [List.append_nil], hg⟩
          refine ⟨rfl, ?_⟩
          refine ⟨fun _ => ?_, fun _ => ?_⟩
          · show WO (callD (run fs Gc (n + 3)) kone 1 [.r 1, .p (.int (k : Int))] (uS k1 k2 k3 g m t rest)) _
            exact call_tab hko hr (kone_w (n := n) hd h1 hkn hr hg) fun cells g m t hb hg => tail cells g m t hb hg
          · show WO (callD (run fs Gc (n + 3)) risen 1 [.r 1, .p (.int (k : Int))] (uS k1 k2 k3 g m t rest)) _
            exact call_tab hri hr (risen_w (n := n + 1) hd h2 hr hg (by omega)) fun cells g m t hb hg => tail cells g m t hb hg
theorem call_size (hd : DrawAt fs Gc k1 k2 k3 dip) (h1 : fs[one]? = some ⟨2, 2, cPick dip⟩) (h2 : fs[size]? = some ⟨1, 1, cSize dip one⟩) (hr : RestOk rest) (hg : g.length ≤ 63)
    (q : ∀ (k : Nat) g' m' t', 1 ≤ k → k ≤ 6 → g'.length ≤ 63 → Q (.p (.int (k : Int)), uS k1 k2 k3 g' m' t' rest)) : WO (callD (run fs Gc (n + 3)) size 1 [.r 1] (uS k1 k2 k3 g m t rest)) Q := by
  have w : wpF (run fs Gc (n + 2)) Gc 1 1 (cSize dip one) [.r 1] (uS k1 k2 k3 g m t rest) fun d S => ∃ (k : Nat) (g' : List Int) (m' t' : Int), d = .p (.int (k : Int)) ∧ 1 ≤ k ∧ k ≤ 6 ∧ S = uS k1 k2 k3 g' m' t' rest ∧ g'.length ≤ 63 := by
    refine ⟨rfl, ?_⟩
    show WO (callD (run fs Gc (n + 2)) dip 1 [.r 1, .p (.int 2)] (uS k1 k2 k3 g m t rest)) _
    refine hd _ _ _ _ _ _ _ hr hg (by decide) fun v g' m' t' v1 v2 hg' => ?_
    refine ⟨rfl, ?_⟩
    show WO (callD (run fs Gc (n + 2)) one 1 [.r 1, .p (.list [.int 1, .int 2, .int 2, .int 3, .int 3, .int 3, .int 3, .int 4, .int 4, .int 4, .int 4, .int (5 + v)])] (uS k1 k2 k3 g' m' t' rest)) _
    refine call_upick hd h1 hr hg' (.inl ⟨_, rfl⟩) (by show 0 < 12; decide) (by show 12 < _; decide) fun x g'' m'' t'' hx hg'' => ?_
    have hx : x ∈ [PyData.int 1, .int 2, .int 2, .int 3, .int 3, .int 3, .int 3, .int 4, .int 4, .int 4, .int 4, .int (5 + v)] := hx
    have : ∃ k : Nat, x = .int (k : Int) ∧ 1 ≤ k ∧ k ≤ 6 := by
      simp only [List.mem_cons, List.not_mem_nil, or_false] at hx
      rcases hx with rfl | rfl | rfl | rfl | rfl | rfl | rfl | rfl | rfl | rfl | rfl | rfl
      · exact ⟨1, rfl, by decide, by decide⟩
      · exact ⟨2, rfl, by decide, by decide⟩
      · exact ⟨2, rfl, by decide, by decide⟩
      · exact ⟨3, rfl, by decide, by decide⟩
      · exact ⟨3, rfl, by decide, by decide⟩
      · exact ⟨3, rfl, by decide, by decide⟩
      · exact ⟨3, rfl, by decide, by decide⟩
      · exact ⟨4, rfl, by decide, by decide⟩
      · exact ⟨4, rfl, by decide, by decide⟩
      · exact ⟨4, rfl, by decide, by decide⟩
      · exact ⟨4, rfl, by decide, by decide⟩
      · exact ⟨(5 + v).toNat, by congr 1; omega, by omega, by omega⟩
    obtain ⟨k, rfl, e1, e2⟩ := this
    exact ⟨k, g'', m'', t'', rfl, e1, e2, rfl, hg''⟩
  obtain ⟨d, S', h4, k, g', m', t', rfl, e1, e2, rfl, hg'⟩ := run_w (n := n + 2) (Gc := Gc) h2 w
  exact call_u (R := fun d => ∃ k : Nat, d = .p (.int (k : Int)) ∧ 1 ≤ k ∧ k ≤ 6) hr ⟨_, _, h4, g', m', t', [], by rw [List.append_nil], hg', _, rfl, k, rfl, e1, e2⟩ fun d' g' m' t' ⟨k, e, e1, e2⟩ h6 => by
    rw [e]; exact q k g' m' t' e1 e2 h6
end
end DS
set_option maxRecDepth 100000
set_option maxHeartbeats 4000000
namespace DS
open PySem L2
section
variable {F : FT} {G : Nat → Option P} {α β : Type}
theorem g_filter {src : Src} {elt tg cnd : C} {own : List Nat} {env : DEnv} {S : Sto} {Q : List P × Sto → Prop} (em : α → P) (l : List α) (b : α → Bool) (f : α → P) (hs : srcL S src = l.map em) (hr : isRl S src = true)
    (he : ∀ a, a ∈ l → WO (bindT tg (.p (em a)) (wipeE env own) S) fun e1 => (condD cnd (denE F G cnd e1 S) S = some (b a, S)) ∧ (b a = true → wpE F G elt e1 S fun d s2 => d = .p (f a) ∧ s2 = S)) (q : Q ((l.filter b).map f, S)) :
    WO (compG (fun S => isRl S src) (fun S i => atS S src i) (stepD F G elt tg cnd own env) (lenS S src) 0 S) Q := by
  have hn : lenS S src = l.length := by rw [lenS_srcL, hs, List.length_map]
  rw [hn]
  obtain ⟨r, s', h1, h2⟩ := comp_inv (ok := fun S => isRl S src) (g := fun S i => atS S src i) (elt := stepD F G elt tg cnd own env) l.length (fun i a s => s = S ∧ a = ((l.take i).filter b).map f)
    (fun a s ⟨e, _⟩ => by subst e; exact ⟨by rw [atS_srcL, hs]; simp, hr⟩) (fun i a s hi hI => by
      obtain ⟨rfl, rfl⟩ := hI
      obtain ⟨e1, hb, hc, w⟩ := (he l[i] (List.getElem_mem hi)).ex
      have hx : atS s src i = some (em l[i]) := by rw [atS_srcL, hs]; simp [hi]
      cases hv : b l[i] with
      | true =>
        obtain ⟨d, s2, h3, rfl, rfl⟩ := (wp_ok F G elt).1 _ _ _ (w hv)
        refine ⟨_, some (f l[i]), _, hx, by rw [hv] at hc; simp [stepD, hb, hc, h3, purD], rfl, ?_⟩
        rw [take_snoc hi, List.filter_append, List.map_append, List.filter_cons, if_pos hv]
        rfl
      | false =>
        refine ⟨_, none, s, hx, by rw [hv] at hc; simp [stepD, hb, hc], rfl, ?_⟩
        rw [take_snoc hi, List.filter_append, List.filter_cons, hv]
        simp) l.length 0 [] S (by omega) ⟨rfl, rfl⟩
  obtain ⟨rfl, h2⟩ := h2
  refine .mk h1 ?_
  rw [List.nil_append, List.take_length] at h2
  rw [h2]
  exact q
theorem g_map {src : Src} {elt tg : C} {own : List Nat} {env : DEnv} {S : Sto} {Q : List P × Sto → Prop} (em : α → P) (l : List α) (f : α → P) (hs : srcL S src = l.map em) (hr : isRl S src = true)
    (he : ∀ a, a ∈ l → WO (bindT tg (.p (em a)) (wipeE env own) S) fun e1 => wpE F G elt e1 S fun d s2 => d = .p (f a) ∧ s2 = S) (q : Q (l.map f, S)) :
    WO (compG (fun S => isRl S src) (fun S i => atS S src i) (stepD F G elt tg .nil own env) (lenS S src) 0 S) Q :=
  g_filter em l (fun _ => true) f hs hr (fun a ha => by
    obtain ⟨e1, h1, w⟩ := (he a ha).ex
    exact .mk h1 ⟨rfl, fun _ => w⟩) (by rw [List.filter_eq_self.mpr fun _ _ => rfl]; exact q)
theorem cond_w {cnd : C} {e : DEnv} {S : Sto} {b : Bool} (hc : isNil cnd = false) (w : wpE F G cnd e S fun d s2 => d = .p (.bool b) ∧ s2 = S) : condD cnd (denE F G cnd e S) S = some (b, S) := by
  obtain ⟨d, s2, h, rfl, rfl⟩ := (wp_ok F G cnd).1 _ _ _ w
  simp [condD, hc, h, asB]
theorem wps_fold {t it body rest : C} {env : DEnv} {S : Sto} {Q : Fl → DEnv → Sto → Prop} (src : Src) (S1 : Sto) (em : α → P) (l : List α) (f : β → α → β) (b0 : β) (I : β → DEnv → Sto → Prop) (hI : ∀ R : Src → Sto → Prop, R src S1 → wpI F G it env S R)
    (hs : ∀ s, srcL s src = l.map em) (hr : ∀ s, isRl s src = true) (h0 : I b0 env S1)
    (step : ∀ b a e s, a ∈ l → I b e s → WO (bindT t (.p (em a)) e s) fun e1 => wpSs F G body e1 s fun fl e2 s2 => (fl = .nx ∨ fl = .ct) ∧ I (f b a) e2 s2)
    (q : ∀ e s, I (l.foldl f b0) e s → wpSs F G rest e s Q) : wpSs F G (.cons (.fors t it body) rest) env S Q := by
  refine wps_for src S1 l.length (fun i e s => I ((l.take i).foldl f b0) e s) hI (by rw [lenS_srcL, hs, List.length_map]) h0 (fun e s _ => ⟨by rw [atS_srcL, hs]; simp, hr s⟩) ?_ ?_
  · intro i e s hi hI
    refine ⟨em l[i], by rw [atS_srcL, hs]; simp [hi], ?_⟩
    have := step _ l[i] e s (List.getElem_mem hi) hI
    rw [take_snoc hi, List.foldl_append]
    exact this
  · intro e s hI
    rw [List.take_length] at hI
    exact q e s hI
theorem wps_each {t it body rest : C} {env : DEnv} {S : Sto} {Q : Fl → DEnv → Sto → Prop} (src : Src) (S1 : Sto) (em : α → P) (l : List α) (I : DEnv → Sto → Prop) (hI : ∀ R : Src → Sto → Prop, R src S1 → wpI F G it env S R)
    (hs : ∀ s, srcL s src = l.map em) (hr : ∀ s, isRl s src = true) (h0 : I env S1)
    (step : ∀ a e s, a ∈ l → I e s → WO (bindT t (.p (em a)) e s) fun e1 => wpSs F G body e1 s fun fl e2 s2 => (fl = .nx ∨ fl = .ct) ∧ I e2 s2)
    (q : ∀ e s, I e s → wpSs F G rest e s Q) : wpSs F G (.cons (.fors t it body) rest) env S Q :=
  wps_fold (β := Unit) src S1 em l (fun _ _ => ()) () (fun _ e s => I e s) hI hs hr h0 (fun _ a e s ha hI => step a e s ha hI) q
end
def enP (p : Int × Nat) : P := .tuple [.int (p.2 : Int), .int p.1]
theorem srcL_en (S : Sto) (l : List Int) : srcL S (.en (.it (l.map PyData.int))) = l.zipIdx.map enP := by
  show (l.map PyData.int).mapIdx _ = _
  rw [List.mapIdx_eq_zipIdx_map, List.zipIdx_map, List.map_map]
  rfl
theorem srcL_zp (S : Sto) (a b : List Int) : srcL S (.zp (.it (a.map PyData.int)) (.it (b.map PyData.int))) = (a.zip b).map fun p => PyData.tuple [.int p.1, .int p.2] := by
  show ((a.map PyData.int).zip (b.map PyData.int)).map _ = _
  rw [List.zip_map, List.map_map]
  rfl
def rgI (n : Nat) : List Nat := List.range n
theorem srcL_rg0 (S : Sto) (n : Nat) : srcL S (.rg 0 1 n) = (List.range n).map fun i : Nat => PyData.int (i : Int) := by
  show (List.range n).map _ = _
  exact List.map_congr_left fun i _ => by simp
theorem eqv_self_str (a : Str) : (!PyData.eqv (.str a) (.str a)) = false := by simp [PyData.eqv]
theorem neI (a b : Int) : (!PyData.eqv (.int a) (.int b)) = decide (a ≠ b) := by
  rw [eqv_int]
  simp
theorem eqI' (a b : Int) : PyData.eqv (.int a) (.int b) = decide (a = b) := eqv_int a b
theorem ne_int (a b : Int) : cmpP .NotEq (.int a) (.int b) = some (decide (a ≠ b)) := by
  show okB (true || _) (!PyData.eqv (.int a) (.int b)) = _
  rw [eqv_int]
  simp [okB]
theorem eq_int (a b : Int) : cmpP .Eq (.int a) (.int b) = some (decide (a = b)) := by
  show okB (true || _) (PyData.eqv (.int a) (.int b)) = _
  rw [eqv_int]
  simp [okB]
end DS
set_option maxRecDepth 100000
set_option maxHeartbeats 4000000
namespace DS
open PySem L2
def cLawPlaces : C := (.cons (.asg (.ttp (.cons (.tnm 1) (.cons (.tnm 2) .nil))) (.tup (.cons (.cint 0) (.cons (.cint 1) .nil)))) (.cons (.whl 1000 (.cmp .Lt (.var 2) (.bi .len (.cons (.var 0) .nil))) (.cons (.par [1, 2] (.cons (.bin .Add (.var 1) (.cint 1)) (.cons (.bin .Mult (.cint 2) (.var 2)) .nil))) .nil)) (.cons (.ret (.var 1)) .nil)))
def cMask : C := (.cons (.ret (.bin .LShift (.cint 1) (.bin .Sub (.bin .Sub (.var 0) (.cint 1)) (.var 1)))) .nil)
theorem lawPlaces_w (F : FT) (Gc : Nat → Option P) (cells : List Int) (k : Nat) (hk : k ≤ 12) (hl : cells.length = 2 ^ k) (S : Sto) : wpF F Gc 3 1 cLawPlaces [.p (tupI cells)] S fun d S' => d = .p (.int (k : Int)) ∧ S' = S := by
  refine ⟨rfl, ?_⟩
  refine ⟨rfl, ?_⟩
  show wpSs F Gc (.cons (.whl _ _ _) _) [some (.p (tupI cells)), some (.p (.int 0)), some (.p (.int 1))] S _
  refine wps_whl k (fun m e s => s = S ∧ m ≤ k ∧ e = [some (.p (tupI cells)), some (.p (.int ((k - m : Nat) : Int))), some (.p (.int ((2 ^ (k - m) : Nat) : Int)))]) (fun e s => s = S ∧ ∃ x, e = [some (.p (tupI cells)), some (.p (.int (k : Int))), x]) (by omega) ⟨rfl, Nat.le_refl _, by rw [Nat.sub_self]; rfl⟩ ?_ ?_
  · rintro m e s ⟨rfl, hm, rfl⟩
    refine ⟨fun h => ?_, fun h => ?_⟩
    · have h := of_decide_eq_true h
      have h : ((2 ^ (k - m) : Nat) : Int) < ((cells.map PyData.int).length : Int) := h
      rw [List.length_map, hl] at h
      have hm0 : m ≠ 0 := fun z => by rw [z] at h; exact absurd h (by simp)
      refine ⟨mul_ok (by decide), .inl rfl, m - 1, by omega, rfl, by omega, ?_⟩
      have e1 : k - (m - 1) = (k - m) + 1 := by omega
      rw [e1, Nat.pow_succ]
      show [some (D.p (tupI cells)), some (.p (.int (((k - m : Nat) : Int) + 1))), some (.p (.int (2 * ((2 ^ (k - m) : Nat) : Int))))] = _
      have e2 : (2 * ((2 ^ (k - m) : Nat) : Int)) = ((2 ^ (k - m) * 2 : Nat) : Int) := by omega
      rw [e2]
      rfl
    · have h := of_decide_eq_false h
      have h : ¬ ((2 ^ (k - m) : Nat) : Int) < ((cells.map PyData.int).length : Int) := h
      rw [List.length_map, hl] at h
      have hm0 : m = 0 := by
        by_cases z : m = 0
        · exact z
        · have : 2 ^ (k - m) < 2 ^ k := Nat.pow_lt_pow_right (by decide) (by omega)
          exact absurd (by exact_mod_cast this) h
      subst hm0
      exact ⟨rfl, _, rfl⟩
  · rintro e s ⟨rfl, x, rfl⟩
    exact ⟨rfl, rfl⟩
theorem mask_w (F : FT) (Gc : Nat → Option P) {k p : Nat} (hp : p < k) (hk : k ≤ 12) (S : Sto) : wpF F Gc 2 2 cMask [.p (.int (k : Int)), .p (.int (p : Int))] S fun d S' => d = .p (.int ((2 ^ (k - 1 - p) : Nat) : Int)) ∧ S' = S := by
  have e : ((k : Int) - 1 - (p : Int)) = ((k - 1 - p : Nat) : Int) := by omega
  refine ⟨rfl, ?_, ?_, rfl⟩
  · show powOk 1 ((k : Int) - 1 - (p : Int)) = true
    rw [e]
    exact pow_ok (by omega)
  · show D.p (.int (1 * 2 ^ ((k : Int) - 1 - (p : Int)).toNat)) = _
    rw [e, Int.one_mul, Int.toNat_natCast, pow2]
section
variable {fs : List DF} {Gc : Nat → Option P} {n places mask : Nat} {S : Sto} {Q : D × Sto → Prop}
theorem call_lawPlaces (h : fs[places]? = some ⟨3, 1, cLawPlaces⟩) {cells : List Int} {k : Nat} (hk : k ≤ 12) (hl : cells.length = 2 ^ k) (q : Q (.p (.int (k : Int)), S)) : WO (callD (run fs Gc (n + 1)) places 0 [.p (tupI cells)] S) Q :=
  call_of (xs := [tupI cells]) (Z := fun _ _ => True) (run_w (n := n) (Gc := Gc) h (lawPlaces_w (run fs Gc n) Gc cells k hk hl [])) q
theorem call_mask (h : fs[mask]? = some ⟨2, 2, cMask⟩) {k p : Nat} (hp : p < k) (hk : k ≤ 12) (q : Q (.p (.int ((2 ^ (k - 1 - p) : Nat) : Int)), S)) : WO (callD (run fs Gc (n + 1)) mask 0 [.p (.int (k : Int)), .p (.int (p : Int))] S) Q :=
  call_of (xs := [.int (k : Int), .int (p : Int)]) (Z := fun _ _ => True) (run_w (n := n) (Gc := Gc) h (mask_w (run fs Gc n) Gc hp hk [])) q
end
theorem xor_and (a : Nat) : ∀ b : Nat, (a ^^^ b) + 2 * (a &&& b) = a + b := by
  induction a using Nat.strongRecOn with
  | _ a ih =>
    intro b
    by_cases h : a = 0
    · subst h; simp
    · have h1 := ih (a / 2) (by omega) (b / 2)
      have x1 : (a ^^^ b) / 2 = a / 2 ^^^ b / 2 := Nat.xor_div_two
      have x2 : (a &&& b) / 2 = a / 2 &&& b / 2 := Nat.and_div_two
      have y1 : (a ^^^ b) % 2 = (a % 2) ^^^ (b % 2) := by rw [← Nat.xor_mod_two_pow (n := 1)]
      have y2 : (a &&& b) % 2 = (a % 2) &&& (b % 2) := by rw [← Nat.and_mod_two_pow (n := 1)]
      rcases Nat.mod_two_eq_zero_or_one a with ha | ha <;> rcases Nat.mod_two_eq_zero_or_one b with hb | hb <;> rw [ha, hb] at y1 y2 <;> simp only [Nat.zero_xor, Nat.xor_zero, Nat.xor_self, Nat.zero_and, Nat.and_zero, Nat.and_self] at y1 y2 <;> omega
theorem xor_nat (a b : Nat) : Builtin.bitXor (a : Int) (b : Int) = ((a ^^^ b : Nat) : Int) := by
  unfold Builtin.bitXor
  rw [PyProof.Rows.bitOr_and, PyProof.Rows.bitAnd_pp (by omega) (by omega), Int.toNat_natCast, Int.toNat_natCast]
  have := xor_and a b
  omega
theorem and_nat (a b : Nat) : Builtin.bitAnd (a : Int) (b : Int) = ((a &&& b : Nat) : Int) := by
  rw [PyProof.Rows.bitAnd_pp (by omega) (by omega)]
  simp
end DS
set_option maxRecDepth 100000
set_option maxHeartbeats 4000000
namespace DS
open PySem L2
mutual
def eqQ : P → P → Bool
  | .none, .none => true
  | .bool a, .bool b => a == b
  | .int i, .int j => decide (i = j)
  | .str a, .str b => decide (a = b)
  | .list xs, .list ys => eqQs xs ys
  | .tuple xs, .tuple ys => eqQs xs ys
  | _, _ => false
def eqQs : List P → List P → Bool
  | [], [] => true
  | x :: xs, y :: ys => eqQ x y && eqQs xs ys
  | _, _ => false
end
mutual
theorem eqQ_eq : ∀ (x y : P), eqQ x y = true → x = y
  | .none, y, h => by cases y <;> simp [eqQ] at h ⊢
  | .bool a, y, h => by cases y <;> simp [eqQ] at h ⊢; exact h
  | .int a, y, h => by cases y <;> simp [eqQ] at h ⊢; exact h
  | .str a, y, h => by cases y <;> simp [eqQ] at h ⊢; exact h
  | .list a, y, h => by cases y <;> simp [eqQ] at h ⊢; exact eqQs_eq _ _ h
  | .tuple a, y, h => by cases y <;> simp [eqQ] at h ⊢; exact eqQs_eq _ _ h
  | .dict a, y, h => by cases y <;> simp [eqQ] at h
theorem eqQs_eq : ∀ (xs ys : List P), eqQs xs ys = true → xs = ys
  | [], ys, h => by cases ys <;> simp [eqQs] at h ⊢
  | x :: xs, ys, h => by
    cases ys with
    | nil => simp [eqQs] at h
    | cons y ys =>
      simp only [eqQs, Bool.and_eq_true] at h
      rw [eqQ_eq _ _ h.1, eqQs_eq _ _ h.2]
end
def chkRun (fs : List DF) (Gc : Nat → Option P) (n f : Nat) (xs : List P) (y : P) : Bool :=
  match run fs Gc n f (xs.map D.p) [] with
  | some (d, S') => match backD 0 S' d with
    | some (.p x) => eqQ x y
    | _ => false
  | none => false
theorem call_run {fs : List DF} {Gc : Nat → Option P} {n f : Nat} {xs : List P} {y : P} {S : Sto} {Q : D × Sto → Prop} (h : chkRun fs Gc n f xs y = true) (q : Q (.p y, S)) : WO (callD (run fs Gc n) f 0 (xs.map D.p) S) Q := by
  unfold chkRun at h
  split at h
  · rename_i d S' e
    split at h
    · rename_i x e2
      rw [eqQ_eq _ _ h] at e2
      exact call0 xs ⟨d, S', e, y, e2, q⟩
    · cases h
  · cases h
def isTab (k : Nat) : P → Bool
  | .tuple xs => decide (xs.length = 2 ^ k) && xs.all fun x => match x with
    | .int i => decide (i = 0) || decide (i = 1)
    | _ => false
  | _ => false
def isNon : P → Bool
  | .none => true
  | _ => false
def chkKnown (fs : List DF) (Gc : Nat → Option P) (n known : Nat) : Bool :=
  (List.range 7).all fun k => decide (k = 0) || wordsP.all fun w => match run fs Gc n known [.p (.str w), .p (.int (k : Int))] [] with
    | some (.p x, _) => (isNon x && !decide (w = "all")) || isTab k x
    | _ => false
theorem isTab_ok {k : Nat} {x : P} (h : isTab k x = true) : ∃ cells, x = tupI cells ∧ BitsOk (2 ^ k) cells := by
  unfold isTab at h
  split at h
  · rename_i xs
    rw [Bool.and_eq_true, decide_eq_true_eq, List.all_eq_true] at h
    obtain ⟨h1, h2⟩ := h
    have : ∀ l : List P, (∀ x, x ∈ l → (match x with | .int i => decide (i = 0) || decide (i = 1) | _ => false) = true) → ∃ cells : List Int, l = cells.map PyData.int ∧ ∀ c, c ∈ cells → c = 0 ∨ c = 1 := by
      intro l
      induction l with
      | nil => exact fun _ => ⟨[], rfl, fun c hc => by cases hc⟩
      | cons y l ih =>
        intro hl
        obtain ⟨cells, e, hc⟩ := ih fun x hx => hl x (List.mem_cons_of_mem _ hx)
        have hy := hl y List.mem_cons_self
        split at hy
        · rename_i i
          rw [Bool.or_eq_true, decide_eq_true_eq, decide_eq_true_eq] at hy
          refine ⟨i :: cells, by rw [e]; rfl, fun c hc' => ?_⟩
          rcases List.mem_cons.mp hc' with rfl | h
          · exact hy
          · exact hc c h
        · cases hy
    obtain ⟨cells, rfl, hc⟩ := this xs h2
    exact ⟨cells, rfl, by rw [← h1, List.length_map], hc⟩
  · cases h
theorem known_ok {fs : List DF} {Gc : Nat → Option P} {n known : Nat} (h : chkKnown fs Gc n known = true) {k : Nat} (k1 : 1 ≤ k) (k2 : k ≤ 6) : ∀ w, w ∈ wordsP → ∃ x S', run fs Gc n known [.p (.str w), .p (.int (k : Int))] [] = some (.p x, S') ∧ TabN k x ∧ (w = "all" → x ≠ .none) := by
  intro w hw
  have h1 := List.all_eq_true.mp h k (List.mem_range.mpr (by omega))
  rw [Bool.or_eq_true, decide_eq_true_eq] at h1
  have h2 := List.all_eq_true.mp (h1.resolve_left (by omega)) w hw
  split at h2
  · rename_i x S' e
    refine ⟨x, S', e, ?_⟩
    rw [Bool.or_eq_true, Bool.and_eq_true] at h2
    rcases h2 with ⟨h2, h3⟩ | h2
    · have : x = .none := by cases x <;> first | rfl | cases h2
      subst this
      exact ⟨.inl rfl, fun z => by subst z; simp at h3⟩
    · obtain ⟨cells, rfl, hb⟩ := isTab_ok h2
      exact ⟨.inr ⟨cells, rfl, hb⟩, fun _ z => by cases z⟩
  · cases h2
end DS
set_option maxRecDepth 100000
set_option maxHeartbeats 4000000
namespace DS
open PySem L2
def cTurns (places mask : Nat) : C := (.cons (.asg (.tnm 2) (.cal mask 0 (.cons (.cal places 0 (.cons (.var 0) .nil)) (.cons (.var 1) .nil)))) (.cons (.ret (.bi .len (.cons (.lc (.var 3) (.ttp (.cons (.tnm 3) (.cons (.tnm 4) .nil))) (.en (.var 0)) (.cmp .NotEq (.var 4) (.ix (.var 0) (.bin .BitXor (.var 3) (.var 2)))) [3, 4]) .nil))) .nil))
def cBad (turns places : Nat) : C := (.cons (.ret (.bin .FloorDiv (.bi .sum (.cons (.lc (.cal turns 0 (.cons (.var 0) (.cons (.var 1) .nil))) (.tnm 1) (.rg1 (.cal places 0 (.cons (.var 0) .nil))) .nil [1]) .nil)) (.cint 2))) .nil)
def cFirst : C := (.cons (.asg (.tnm 2) (.bin .LShift (.cint 1) (.var 0))) (.cons (.ret (.bin .Add (.bin .Mult (.tup (.cons (.cint 1) .nil)) (.var 1)) (.bin .Mult (.tup (.cons (.cint 0) .nil)) (.bin .Sub (.var 2) (.var 1))))) .nil))
def cFewest (bad first : Nat) : C := (.cons (.ret (.cal bad 0 (.cons (.cal first 0 (.cons (.var 0) (.cons (.var 1) .nil))) .nil))) .nil)
def cLawBad (places turned : Nat) : C := (.cons (.par [2, 3] (.cons (.cal places 0 (.cons (.var 0) .nil)) (.cons (.cint 0) .nil))) (.cons (.fors (.tnm 1) (.rg1 (.var 2)) (.cons (.asg (.tnm 4) (.cal turned 0 (.cons (.var 2) (.cons (.var 1) .nil)))) (.cons (.asg (.tnm 3) (.bin .Add (.var 3) (.bi .len (.cons (.lc (.var 5) (.ttp (.cons (.tnm 5) (.cons (.tnm 6) .nil))) (.en (.var 0)) (.and (.cmp .Eq (.bin .BitAnd (.var 5) (.var 4)) (.cint 0)) (.cmp .NotEq (.ix (.var 0) (.bin .Add (.var 5) (.var 4))) (.var 6))) [5, 6]) .nil)))) .nil))) (.cons (.ret (.var 3)) .nil)))
def cN (cells : List Int) (i : Nat) : Int := (cells[i]?).getD 0
theorem cellAt_nat (cells : List Int) (i : Nat) : cellAt cells (i : Int) = cN cells i := by
  unfold cellAt cN
  rw [Int.toNat_natCast]
theorem at_nat {cells : List Int} {i : Nat} (h : i < cells.length) : atI (cells.map PyData.int) (i : Int) = some (.int (cN cells i)) := by
  rw [at_cell (by omega) (by omega), cellAt_nat]
theorem zipIdx_range (cells : List Int) : cells.zipIdx = (List.range cells.length).map fun i => (cN cells i, i) := by
  refine List.ext_getElem? fun i => ?_
  rw [List.getElem?_zipIdx, List.getElem?_map]
  by_cases h : i < cells.length
  · rw [List.getElem?_range h, List.getElem?_eq_getElem h]
    simp [cN, h]
  · rw [List.getElem?_eq_none (by omega), List.getElem?_eq_none (by simpa using h)]
    rfl
theorem zip_mem {cells : List Int} {p : Int × Nat} (h : p ∈ cells.zipIdx) : p.2 < cells.length ∧ p.1 = cN cells p.2 := by
  rw [zipIdx_range] at h
  obtain ⟨i, hi, rfl⟩ := List.mem_map.mp h
  exact ⟨List.mem_range.mp hi, rfl⟩
def cntB (N : Nat) (f : Nat → Bool) : Nat := ((List.range N).filter f).length
theorem zip_count (cells : List Int) (b : Int × Nat → Bool) : (cells.zipIdx.filter b).length = cntB cells.length fun i => b (cN cells i, i) := by
  rw [zipIdx_range, List.filter_map, List.length_map]
  rfl
def turnsN (cells : List Int) (m N : Nat) : Nat := cntB N fun i => decide (cN cells i ≠ cN cells (i ^^^ m))
def badN (cells : List Int) (m N : Nat) : Nat := cntB N fun i => decide (i &&& m = 0) && decide (cN cells (i + m) ≠ cN cells i)
def badK (cells : List Int) (k : Nat) : Nat := ((List.range k).map fun p => badN cells (2 ^ (k - 1 - p)) (2 ^ k)).sum
def lowP (k p : Nat) : List Nat := (List.range (2 ^ k)).filter fun i => decide (i &&& 2 ^ (k - 1 - p) = 0)
theorem split_all : ∀ k, k ∈ List.range 7 → ∀ p, p ∈ List.range k → (List.range (2 ^ k)).Perm (lowP k p ++ (lowP k p).map fun i => i ^^^ 2 ^ (k - 1 - p)) := by decide +kernel
theorem turns_bad {k p : Nat} (hk : k ≤ 6) (hp : p < k) (cells : List Int) : turnsN cells (2 ^ (k - 1 - p)) (2 ^ k) = 2 * badN cells (2 ^ (k - 1 - p)) (2 ^ k) := by
  have pm := split_all k (List.mem_range.mpr (by omega)) p (List.mem_range.mpr hp)
  have hm : 2 ^ (k - 1 - p) < 2 ^ k := Nat.pow_lt_pow_right (by decide) (by omega)
  unfold turnsN badN cntB
  rw [← List.countP_eq_length_filter, ← List.countP_eq_length_filter, pm.countP_eq, List.countP_append, List.countP_map]
  have e1 : ((fun i => decide (cN cells i ≠ cN cells (i ^^^ 2 ^ (k - 1 - p)))) ∘ fun i => i ^^^ 2 ^ (k - 1 - p)) = fun i => decide (cN cells i ≠ cN cells (i ^^^ 2 ^ (k - 1 - p))) := by
    funext i
    show decide (cN cells (i ^^^ 2 ^ (k - 1 - p)) ≠ cN cells (i ^^^ 2 ^ (k - 1 - p) ^^^ 2 ^ (k - 1 - p))) = _
    rw [Nat.xor_assoc, Nat.xor_self, Nat.xor_zero]
    exact decide_eq_decide.mpr ⟨fun h => fun e => h e.symm, fun h => fun e => h e.symm⟩
  rw [e1]
  have e2 : List.countP (fun i => decide (cN cells i ≠ cN cells (i ^^^ 2 ^ (k - 1 - p)))) (lowP k p) = List.countP (fun i => decide (i &&& 2 ^ (k - 1 - p) = 0) && decide (cN cells (i + 2 ^ (k - 1 - p)) ≠ cN cells i)) (List.range (2 ^ k)) := by
    unfold lowP
    rw [List.countP_filter]
    refine List.countP_congr fun i _ => ?_
    by_cases h : i &&& 2 ^ (k - 1 - p) = 0
    · have := xor_and i (2 ^ (k - 1 - p))
      rw [h] at this
      rw [show i ^^^ 2 ^ (k - 1 - p) = i + 2 ^ (k - 1 - p) by omega]
      simp [h]
      exact ⟨fun h e => h e.symm, fun h e => h e.symm⟩
    · simp [h]
  rw [e2]
  omega
theorem sum_bits2 {cells : List Int} {k : Nat} (hk : k ≤ 6) : (((List.range k).map fun p => turnsN cells (2 ^ (k - 1 - p)) (2 ^ k)).sum) = 2 * badK cells k := by
  unfold badK
  have : ∀ l : List Nat, (∀ p, p ∈ l → p < k) → (l.map fun p => turnsN cells (2 ^ (k - 1 - p)) (2 ^ k)).sum = 2 * (l.map fun p => badN cells (2 ^ (k - 1 - p)) (2 ^ k)).sum := by
    intro l
    induction l with
    | nil => exact fun _ => rfl
    | cons p l ih =>
      intro h
      rw [List.map_cons, List.sum_cons, List.map_cons, List.sum_cons, ih fun q hq => h q (List.mem_cons_of_mem _ hq), turns_bad hk (h p List.mem_cons_self)]
      omega
  exact this _ fun p hp => List.mem_range.mp hp
theorem sum_cast (l : List Nat) : (l.map fun n : Nat => (n : Int)).sum = ((l.sum : Nat) : Int) := by
  induction l with
  | nil => rfl
  | cons a l ih => rw [List.map_cons, List.sum_cons, List.sum_cons, ih]; omega
section
variable {fs : List DF} {Gc : Nat → Option P} {n places mask turns bad first lawPlaces turned : Nat} {S : Sto} {cells : List Int} {k : Nat}
theorem turns_w (h1 : fs[places]? = some ⟨2, 1, cPlaces⟩) (h2 : fs[mask]? = some ⟨2, 2, cMask⟩) (k1 : 1 ≤ k) (hk : k ≤ 12) (hl : cells.length = 2 ^ k) {p : Nat} (hp : p < k) (S : Sto) :
    wpF (run fs Gc (n + 1)) Gc 5 2 (cTurns places mask) [.p (tupI cells), .p (.int (p : Int))] S fun d S' => d = .p (.int (turnsN cells (2 ^ (k - 1 - p)) (2 ^ k) : Nat)) ∧ S' = S := by
  have p12 : 2 ^ k ≤ 4096 := Nat.le_trans (Nat.pow_le_pow_right (by decide) hk) (by decide)
  have hm : 2 ^ (k - 1 - p) < 2 ^ k := Nat.pow_lt_pow_right (by decide) (by omega)
  refine ⟨rfl, ?_⟩
  show WO (callD (run fs Gc (n + 1)) places 0 [.p (tupI cells)] S) _
  refine call_places h1 k1 hk hl ?_
  show WO (callD (run fs Gc (n + 1)) mask 0 [.p (.int (k : Int)), .p (.int (p : Int))] S) _
  refine call_mask h2 hp hk ?_
  refine ⟨fits_ok (by rw [lenS_srcL, srcL_en]; simp; omega), ?_⟩
  refine g_filter enP cells.zipIdx (fun q => decide (q.1 ≠ cN cells (q.2 ^^^ 2 ^ (k - 1 - p)))) (fun q => .int (q.2 : Int)) (srcL_en S cells) rfl (fun q hq => ?_) ?_
  · obtain ⟨q1, q2⟩ := zip_mem hq
    refine ⟨cond_w rfl ?_, fun _ => ⟨rfl, rfl⟩⟩
    show WO (atI (cells.map PyData.int) (Builtin.bitXor (q.2 : Int) ((2 ^ (k - 1 - p) : Nat) : Int))) _
    rw [xor_nat]
    refine WO.mk (at_nat (by rw [hl]; exact Nat.xor_lt_two_pow (by omega) hm)) ?_
    refine ⟨?_, rfl⟩
    show D.p (.bool (!PyData.eqv (.int q.1) (.int (cN cells (q.2 ^^^ 2 ^ (k - 1 - p)))))) = _
    rw [neI]
  · refine ⟨?_, rfl⟩
    show D.p (.int (((cells.zipIdx.filter _).map _).length : Nat)) = _
    rw [List.length_map, zip_count, hl]
    rfl
theorem call_turns (h1 : fs[places]? = some ⟨2, 1, cPlaces⟩) (h2 : fs[mask]? = some ⟨2, 2, cMask⟩) (h3 : fs[turns]? = some ⟨5, 2, cTurns places mask⟩) (k1 : 1 ≤ k) (hk : k ≤ 12) (hl : cells.length = 2 ^ k) {p : Nat} (hp : p < k) {Q : D × Sto → Prop}
    (q : Q (.p (.int (turnsN cells (2 ^ (k - 1 - p)) (2 ^ k) : Nat)), S)) : WO (callD (run fs Gc (n + 2)) turns 0 [.p (tupI cells), .p (.int (p : Int))] S) Q :=
  call_of (xs := [tupI cells, .int (p : Int)]) (Z := fun _ _ => True) (run_w (n := n + 1) (Gc := Gc) h3 (turns_w h1 h2 k1 hk hl hp [])) q
theorem bad_w (h1 : fs[places]? = some ⟨2, 1, cPlaces⟩) (h2 : fs[mask]? = some ⟨2, 2, cMask⟩) (h3 : fs[turns]? = some ⟨5, 2, cTurns places mask⟩) (k1 : 1 ≤ k) (hk : k ≤ 6) (hl : cells.length = 2 ^ k) (S : Sto) :
    wpF (run fs Gc (n + 2)) Gc 2 1 (cBad turns places) [.p (tupI cells)] S fun d S' => d = .p (.int (badK cells k : Nat)) ∧ S' = S := by
  refine ⟨rfl, ?_⟩
  show WO (callD (run fs Gc (n + 2)) places 0 [.p (tupI cells)] S) _
  refine call_places h1 k1 (by omega) hl ?_
  refine ⟨decide_eq_true (by omega), fits_ok (by show k ≤ _; omega), ?_⟩
  refine g_map (fun i : Nat => PyData.int (i : Int)) (List.range k) (fun p => .int (turnsN cells (2 ^ (k - 1 - p)) (2 ^ k) : Nat)) (srcL_rg0 S k) rfl (fun p hp => ?_) ?_
  · show WO (callD (run fs Gc (n + 2)) turns 0 [.p (tupI cells), .p (.int (p : Int))] S) _
    exact call_turns h1 h2 h3 k1 (by omega) hl (List.mem_range.mp hp) ⟨rfl, rfl⟩
  · show WO (biF .sum [.list ((List.range k).map fun p => PyData.int (turnsN cells (2 ^ (k - 1 - p)) (2 ^ k) : Nat))]) _
    have e : ((List.range k).map fun p => PyData.int (turnsN cells (2 ^ (k - 1 - p)) (2 ^ k) : Nat)) = (((List.range k).map fun p => turnsN cells (2 ^ (k - 1 - p)) (2 ^ k)).map fun n : Nat => (n : Int)).map PyData.int := by rw [List.map_map, List.map_map]; rfl
    rw [e]
    refine WO.mk (sum_of _) ?_
    rw [sum_cast, sum_bits2 hk]
    refine ⟨by decide, ?_, rfl⟩
    show D.p (.int (((2 * badK cells k : Nat) : Int) / 2)) = _
    congr 2
    omega
theorem call_bad (h1 : fs[places]? = some ⟨2, 1, cPlaces⟩) (h2 : fs[mask]? = some ⟨2, 2, cMask⟩) (h3 : fs[turns]? = some ⟨5, 2, cTurns places mask⟩) (h4 : fs[bad]? = some ⟨2, 1, cBad turns places⟩) (k1 : 1 ≤ k) (hk : k ≤ 6) (hl : cells.length = 2 ^ k) {Q : D × Sto → Prop}
    (q : Q (.p (.int (badK cells k : Nat)), S)) : WO (callD (run fs Gc (n + 3)) bad 0 [.p (tupI cells)] S) Q :=
  call_of (xs := [tupI cells]) (Z := fun _ _ => True) (run_w (n := n + 2) (Gc := Gc) h4 (bad_w h1 h2 h3 k1 hk hl [])) q
def firstL (k ones : Nat) : List Int := List.replicate ones 1 ++ List.replicate (2 ^ k - ones) 0
theorem firstL_len {ones : Nat} (h : ones ≤ 2 ^ k) : (firstL k ones).length = 2 ^ k := by unfold firstL; simp; omega
theorem first_val {ones N : Nat} (h : ones ≤ N) : PyData.tuple ((List.replicate ((ones : Int).toNat) [PyData.int 1]).flatten ++ (List.replicate (((N : Int) - (ones : Int)).toNat) [PyData.int 0]).flatten) = tupI (List.replicate ones (1 : Int) ++ List.replicate (N - ones) (0 : Int)) := by
  rw [flat_one, flat_one, Int.toNat_natCast, show ((N : Int) - (ones : Int)).toNat = N - ones by omega]
  show _ = PyData.tuple ((List.replicate ones (1 : Int) ++ List.replicate (N - ones) (0 : Int)).map PyData.int)
  rw [List.map_append, List.map_replicate, List.map_replicate]
theorem first_w (F : FT) {ones : Nat} (hk : k ≤ 6) (h : ones ≤ 2 ^ k) (S : Sto) : wpF F Gc 3 2 cFirst [.p (.int (k : Int)), .p (.int (ones : Int))] S fun d S' => d = .p (tupI (firstL k ones)) ∧ S' = S := by
  have p12 : 2 ^ k ≤ 64 := Nat.le_trans (Nat.pow_le_pow_right (by decide) hk) (by decide)
  have e1 : (1 : Int) * 2 ^ ((k : Int)).toNat = ((2 ^ k : Nat) : Int) := by rw [Int.one_mul, Int.toNat_natCast, pow2]
  refine ⟨rfl, ?_⟩
  refine ⟨pow_ok (by omega), ?_⟩
  show wpSs F Gc _ [some (.p (.int (k : Int))), some (.p (.int (ones : Int))), some (.p (.int ((1 : Int) * 2 ^ ((k : Int)).toNat)))] S _
  rw [e1]
  unfold firstL
  generalize 2 ^ k = N at h p12
  refine ⟨rfl, rfl, ⟨⟨by omega, by omega⟩, by show 1 ≤ 1000; decide⟩, rfl, rfl, ⟨⟨by omega, by omega⟩, by show 1 ≤ 1000; decide⟩, rfl, ?_, ?_, rfl⟩
  · rw [flat_one, flat_one]
    exact fits_ok (by simp; omega)
  · show D.p (.tuple _) = _
    rw [first_val h]
theorem call_first (h1 : fs[first]? = some ⟨3, 2, cFirst⟩) {ones : Nat} (hk : k ≤ 6) (h : ones ≤ 2 ^ k) {Q : D × Sto → Prop}
    (q : Q (.p (tupI (firstL k ones)), S)) : WO (callD (run fs Gc (n + 1)) first 0 [.p (.int (k : Int)), .p (.int (ones : Int))] S) Q :=
  call_of (xs := [.int (k : Int), .int (ones : Int)]) (Z := fun _ _ => True) (run_w (n := n) (Gc := Gc) h1 (first_w _ hk h [])) q
theorem call_fewest {fewest : Nat} (h1 : fs[places]? = some ⟨2, 1, cPlaces⟩) (h2 : fs[mask]? = some ⟨2, 2, cMask⟩) (h3 : fs[turns]? = some ⟨5, 2, cTurns places mask⟩) (h4 : fs[bad]? = some ⟨2, 1, cBad turns places⟩) (h5 : fs[first]? = some ⟨3, 2, cFirst⟩) (h6 : fs[fewest]? = some ⟨2, 2, cFewest bad first⟩) {ones : Nat} (k1 : 1 ≤ k) (hk : k ≤ 6) (h : ones ≤ 2 ^ k) {Q : D × Sto → Prop}
    (q : Q (.p (.int (badK (firstL k ones) k : Nat)), S)) : WO (callD (run fs Gc (n + 4)) fewest 0 [.p (.int (k : Int)), .p (.int (ones : Int))] S) Q := by
  have w : wpF (run fs Gc (n + 3)) Gc 2 2 (cFewest bad first) [.p (.int (k : Int)), .p (.int (ones : Int))] [] fun d S' => d = .p (.int (badK (firstL k ones) k : Nat)) ∧ S' = [] := by
    refine ⟨rfl, ?_⟩
    show WO (callD (run fs Gc (n + 3)) first 0 [.p (.int (k : Int)), .p (.int (ones : Int))] []) _
    refine call_first h5 hk h ?_
    show WO (callD (run fs Gc (n + 3)) bad 0 [.p (tupI (firstL k ones))] []) _
    exact call_bad h1 h2 h3 h4 k1 hk (firstL_len h) ⟨rfl, rfl⟩
  exact call_of (xs := [.int (k : Int), .int (ones : Int)]) (Z := fun _ _ => True) (run_w (n := n + 3) (Gc := Gc) h6 w) q
theorem lawBad_w (h1 : fs[places]? = some ⟨3, 1, cLawPlaces⟩) (h2 : fs[turned]? = some ⟨2, 2, cMask⟩) (hk : k ≤ 12) (hl : cells.length = 2 ^ k) (S : Sto) :
    wpF (run fs Gc (n + 1)) Gc 7 1 (cLawBad places turned) [.p (tupI cells)] S fun d S' => d = .p (.int (badK cells k : Nat)) ∧ S' = S := by
  have p12 : 2 ^ k ≤ 4096 := Nat.le_trans (Nat.pow_le_pow_right (by decide) hk) (by decide)
  refine ⟨rfl, ?_⟩
  show WO (callD (run fs Gc (n + 1)) places 0 [.p (tupI cells)] S) _
  refine call_lawPlaces h1 hk hl ?_
  show wpSs (run fs Gc (n + 1)) Gc (.cons (.fors _ _ _) _) [some (.p (tupI cells)), none, some (.p (.int (k : Int))), some (.p (.int 0)), none, none, none] S _
  refine wps_fold (.rg 0 1 k) S (fun i : Nat => PyData.int (i : Int)) (List.range k) (fun (b : Nat) p => b + badN cells (2 ^ (k - 1 - p)) (2 ^ k)) 0 (fun b e s => s = S ∧ ∃ x1 x4 x5 x6, e = [some (.p (tupI cells)), x1, some (.p (.int (k : Int))), some (.p (.int (b : Int))), x4, x5, x6]) (fun R r => ⟨decide_eq_true (by omega), r⟩) (fun s => srcL_rg0 s k) (fun _ => rfl) ⟨rfl, _, _, _, _, rfl⟩ ?_ ?_
  · rintro b p e s hp ⟨rfl, x1, x4, x5, x6, rfl⟩
    have hp := List.mem_range.mp hp
    have hm : 2 ^ (k - 1 - p) < 2 ^ k := Nat.pow_lt_pow_right (by decide) (by omega)
    show WO (callD (run fs Gc (n + 1)) turned 0 [.p (.int (k : Int)), .p (.int (p : Int))] s) _
    refine call_mask h2 hp hk ?_
    refine ⟨fits_ok (by rw [lenS_srcL, srcL_en]; simp; omega), ?_⟩
    refine g_filter enP cells.zipIdx (fun q => decide (q.2 &&& 2 ^ (k - 1 - p) = 0) && decide (cN cells (q.2 + 2 ^ (k - 1 - p)) ≠ q.1)) (fun q => .int (q.2 : Int)) (srcL_en s cells) rfl (fun q hq => ?_) ?_
    · obtain ⟨q1, q2⟩ := zip_mem hq
      refine ⟨cond_w rfl ?_, fun _ => ⟨rfl, rfl⟩⟩
      refine ⟨fun hz => ?_, fun hz => ?_⟩
      · have hz : PyData.eqv (.int (Builtin.bitAnd (q.2 : Int) ((2 ^ (k - 1 - p) : Nat) : Int))) (.int 0) = true := hz
        rw [and_nat, eqv_int, decide_eq_true_eq] at hz
        have hz : q.2 &&& 2 ^ (k - 1 - p) = 0 := by omega
        have hlt : q.2 + 2 ^ (k - 1 - p) < 2 ^ k := by
          have := xor_and q.2 (2 ^ (k - 1 - p))
          have h3 : q.2 ^^^ 2 ^ (k - 1 - p) < 2 ^ k := Nat.xor_lt_two_pow (by omega) hm
          omega
        show WO (atI (cells.map PyData.int) ((q.2 : Int) + ((2 ^ (k - 1 - p) : Nat) : Int))) _
        rw [← Int.natCast_add]
        refine WO.mk (at_nat (by omega)) ⟨⟨_, rfl⟩, ?_, rfl⟩
        show D.p (.bool (!PyData.eqv (.int (cN cells (q.2 + 2 ^ (k - 1 - p)))) (.int q.1))) = _
        rw [neI, decide_eq_true hz, Bool.true_and]
      · have hz : PyData.eqv (.int (Builtin.bitAnd (q.2 : Int) ((2 ^ (k - 1 - p) : Nat) : Int))) (.int 0) = false := hz
        rw [and_nat, eqv_int, decide_eq_false_iff_not] at hz
        refine ⟨?_, rfl⟩
        rw [decide_eq_false (show ¬ q.2 &&& 2 ^ (k - 1 - p) = 0 by omega), Bool.false_and]
    · refine ⟨.inl rfl, rfl, some (.p (.int (p : Int))), some (.p (.int ((2 ^ (k - 1 - p) : Nat) : Int))), x5, x6, ?_⟩
      show [some (D.p (tupI cells)), _, some (.p (.int (k : Int))), some (.p (.int ((b : Int) + ((((cells.zipIdx.filter _).map _).length : Nat) : Int)))), _, _, _] = _
      rw [List.length_map, zip_count, hl, ← Int.natCast_add]
      rfl
  · rintro e s ⟨rfl, x1, x4, x5, x6, rfl⟩
    refine ⟨?_, rfl⟩
    have : ∀ (l : List Nat) (b : Nat), l.foldl (fun (b : Nat) p => b + badN cells (2 ^ (k - 1 - p)) (2 ^ k)) b = b + (l.map fun p => badN cells (2 ^ (k - 1 - p)) (2 ^ k)).sum := by
      intro l
      induction l with
      | nil => intro b; rfl
      | cons p l ih => intro b; rw [List.foldl_cons, ih, List.map_cons, List.sum_cons]; omega
    rw [this, Nat.zero_add]
    rfl
theorem call_lawBad {lawBad : Nat} (h1 : fs[places]? = some ⟨3, 1, cLawPlaces⟩) (h2 : fs[turned]? = some ⟨2, 2, cMask⟩) (h3 : fs[lawBad]? = some ⟨7, 1, cLawBad places turned⟩) (hk : k ≤ 12) (hl : cells.length = 2 ^ k) {Q : D × Sto → Prop}
    (q : Q (.p (.int (badK cells k : Nat)), S)) : WO (callD (run fs Gc (n + 2)) lawBad 0 [.p (tupI cells)] S) Q :=
  call_of (xs := [tupI cells]) (Z := fun _ _ => True) (run_w (n := n + 1) (Gc := Gc) h3 (lawBad_w h1 h2 hk hl [])) q
end
end DS
set_option maxRecDepth 100000
set_option maxHeartbeats 4000000
namespace DS
open PySem L2
section
variable {α : Type}
def bfG (add sub : α → α → α) (d : α) (s : Nat) (f : List α) (n : Nat) : List α := (f.set n (add (f.getD n d) (f.getD (n + s) d))).set (n + s) (sub (f.getD n d) (f.getD (n + s) d))
def lowN (k j : Nat) : List Nat := (List.range (2 ^ k)).filter fun i => decide (i &&& 2 ^ j = 0)
def stG (add sub : α → α → α) (d : α) (k : Nat) (f : List α) (j : Nat) : List α := (lowN k j).foldl (bfG add sub d (2 ^ j)) f
def mixG (add sub : α → α → α) (d : α) (k : Nat) (f : List α) : List α := (List.range k).foldl (stG add sub d k) f
theorem bfG_len (add sub : α → α → α) (d : α) (s : Nat) (f : List α) (n : Nat) : (bfG add sub d s f n).length = f.length := by simp [bfG]
theorem foldG_len (add sub : α → α → α) (d : α) (s : Nat) : ∀ (l : List Nat) (f : List α), (l.foldl (bfG add sub d s) f).length = f.length
  | [], f => rfl
  | n :: l, f => by rw [List.foldl_cons, foldG_len add sub d s l, bfG_len]
theorem stG_len (add sub : α → α → α) (d : α) (k : Nat) (f : List α) (j : Nat) : (stG add sub d k f j).length = f.length := foldG_len ..
theorem mixG_len (add sub : α → α → α) (d : α) (k : Nat) (f : List α) : (mixG add sub d k f).length = f.length := by
  unfold mixG
  induction (List.range k) generalizing f with
  | nil => rfl
  | cons j l ih => rw [List.foldl_cons, ih, stG_len]
variable {β : Type} {add sub : α → α → α} {d : α} {add' sub' : β → β → β} {d' : β} {ev : α → β}
theorem getD_ev (hd : ev d = d') (f : List α) (n : Nat) : (f.map ev).getD n d' = ev (f.getD n d) := by
  rw [List.getD_eq_getElem?_getD, List.getD_eq_getElem?_getD, List.getElem?_map]
  cases f[n]? with
  | none => exact hd.symm
  | some x => rfl
theorem bfG_ev (ha : ∀ a b, ev (add a b) = add' (ev a) (ev b)) (hs : ∀ a b, ev (sub a b) = sub' (ev a) (ev b)) (hd : ev d = d') (s : Nat) (f : List α) (n : Nat) : (bfG add sub d s f n).map ev = bfG add' sub' d' s (f.map ev) n := by
  unfold bfG
  rw [List.map_set, List.map_set, ha, hs, getD_ev hd, getD_ev hd]
theorem stG_ev (ha : ∀ a b, ev (add a b) = add' (ev a) (ev b)) (hs : ∀ a b, ev (sub a b) = sub' (ev a) (ev b)) (hd : ev d = d') (k : Nat) (f : List α) (j : Nat) : (stG add sub d k f j).map ev = stG add' sub' d' k (f.map ev) j := by
  unfold stG
  induction (lowN k j) generalizing f with
  | nil => rfl
  | cons n l ih => rw [List.foldl_cons, List.foldl_cons, ih, bfG_ev ha hs hd]
theorem mixG_ev (ha : ∀ a b, ev (add a b) = add' (ev a) (ev b)) (hs : ∀ a b, ev (sub a b) = sub' (ev a) (ev b)) (hd : ev d = d') (k : Nat) (f : List α) : (mixG add sub d k f).map ev = mixG add' sub' d' k (f.map ev) := by
  unfold mixG
  induction (List.range k) generalizing f with
  | nil => rfl
  | cons j l ih => rw [List.foldl_cons, List.foldl_cons, ih, stG_ev ha hs hd]
end
abbrev bfI : Nat → List Int → Nat → List Int := bfG (· + ·) (· - ·) 0
abbrev stI : Nat → List Int → Nat → List Int := stG (· + ·) (· - ·) 0
abbrev mixL : Nat → List Int → List Int := mixG (· + ·) (· - ·) 0
def addV : List Int → List Int → List Int
  | [], b => b
  | a, [] => a
  | x :: a, y :: b => (x + y) :: addV a b
def subV : List Int → List Int → List Int
  | [], b => b.map fun y => -y
  | a, [] => a
  | x :: a, y :: b => (x - y) :: subV a b
def dot2 : List Int → List Int → Int
  | x :: a, y :: b => x * y + dot2 a b
  | _, _ => 0
theorem dot_nil (x : List Int) : dot2 [] x = 0 := rfl
theorem dot_addV : ∀ (a b x : List Int), dot2 (addV a b) x = dot2 a x + dot2 b x
  | [], b, x => by simp [addV, dot2]
  | _ :: _, [], x => by simp [addV, dot2]
  | _ :: _, _ :: _, [] => by simp [addV, dot2]
  | p :: a, q :: b, y :: x => by
    show (p + q) * y + dot2 (addV a b) x = (p * y + dot2 a x) + (q * y + dot2 b x)
    rw [dot_addV a b x, Int.add_mul]
    omega
theorem dot_neg : ∀ (b x : List Int), dot2 (b.map fun y => -y) x = - dot2 b x
  | [], x => by simp [dot2]
  | _ :: _, [] => by simp [dot2]
  | q :: b, y :: x => by
    show -q * y + dot2 (b.map fun y => -y) x = -(q * y + dot2 b x)
    rw [dot_neg b x, Int.neg_mul]
    omega
theorem dot_subV : ∀ (a b x : List Int), dot2 (subV a b) x = dot2 a x - dot2 b x
  | [], b, x => by simp [subV, dot2, dot_neg]
  | _ :: _, [], x => by simp [subV, dot2]
  | _ :: _, _ :: _, [] => by simp [subV, dot2]
  | p :: a, q :: b, y :: x => by
    show (p - q) * y + dot2 (subV a b) x = (p * y + dot2 a x) - (q * y + dot2 b x)
    rw [dot_subV a b x, Int.sub_mul]
    omega
def unitV (n : Nat) (v : Int) : List Int := List.replicate n 0 ++ [v]
theorem dot_unit : ∀ (n : Nat) (v : Int) (x : List Int), dot2 (unitV n v) x = v * cN x n
  | 0, v, [] => by simp [unitV, dot2, cN]
  | 0, v, y :: x => by
    show v * y + dot2 [] x = v * y
    rw [dot_nil, Int.add_zero]
  | n + 1, v, [] => by simp [unitV, dot2, cN, List.replicate_succ]
  | n + 1, v, y :: x => by
    show 0 * y + dot2 (unitV n v) x = v * cN x n
    rw [dot_unit n v x]
    omega
def unitsV (k : Nat) (v : Int) : List (List Int) := (List.range (2 ^ k)).map fun n => unitV n v
theorem units_ev {x : List Int} {k : Nat} (h : x.length = 2 ^ k) (v : Int) : (unitsV k v).map (fun a => dot2 a x) = x.map (v * ·) := by
  unfold unitsV
  rw [List.map_map]
  refine List.ext_getElem? fun i => ?_
  rw [List.getElem?_map, List.getElem?_map]
  by_cases hi : i < 2 ^ k
  · rw [List.getElem?_range hi, List.getElem?_eq_getElem (by omega)]
    show some (dot2 (unitV i v) x) = some (v * x[i])
    rw [dot_unit]
    unfold cN
    rw [List.getElem?_eq_getElem (by omega)]
    rfl
  · rw [List.getElem?_eq_none (by simpa using hi), List.getElem?_eq_none (by omega)]
    rfl
def parN (m n : Nat) : Bool := (List.range 6).foldl (fun b j => b != (m &&& n).testBit j) false
def signV (k m : Nat) : List Int := (List.range (2 ^ k)).map fun n => if parN m n = true then -1 else 1
abbrev mixV (k : Nat) : List (List Int) → List (List Int) := mixG addV subV [] k
set_option maxHeartbeats 0 in
theorem sign_all : ∀ k, k ∈ List.range 7 → mixV k (unitsV k 1) = (List.range (2 ^ k)).map (signV k) := by decide +kernel
set_option maxHeartbeats 0 in
theorem twice_all : ∀ k, k ∈ List.range 7 → mixV k (mixV k (unitsV k 1)) = (List.range (2 ^ k)).map fun m => addV (unitV m (2 ^ k)) (List.replicate (2 ^ k) 0) := by decide +kernel
theorem one_mul_map (x : List Int) : x.map ((1 : Int) * ·) = x := by
  have : ((1 : Int) * ·) = fun y : Int => y := by funext y; exact Int.one_mul y
  rw [this, List.map_id']
theorem mixL_dot {k : Nat} (hk : k ≤ 6) {x : List Int} (h : x.length = 2 ^ k) : mixL k x = (List.range (2 ^ k)).map fun m => dot2 (signV k m) x := by
  have e := mixG_ev (ev := fun a => dot2 a x) (add := addV) (sub := subV) (d := []) (add' := (· + ·)) (sub' := (· - ·)) (d' := 0) (fun a b => dot_addV a b x) (fun a b => dot_subV a b x) rfl k (unitsV k 1)
  rw [units_ev h, one_mul_map, show mixG addV subV [] k (unitsV k 1) = _ from sign_all k (List.mem_range.mpr (by omega)), List.map_map] at e
  exact e.symm
theorem dot_zero (n : Nat) : ∀ x : List Int, dot2 (List.replicate n 0) x = 0 := by
  induction n with
  | zero => exact fun _ => rfl
  | succ n ih =>
    intro x
    cases x with
    | nil => rfl
    | cons y x =>
      show 0 * y + dot2 (List.replicate n 0) x = 0
      rw [ih]; omega
theorem mixL_twice {k : Nat} (hk : k ≤ 6) {x : List Int} (h : x.length = 2 ^ k) : mixL k (mixL k x) = x.map fun y => ((2 ^ k : Nat) : Int) * y := by
  have ha : ∀ a b, (fun a => dot2 a x) (addV a b) = (fun a => dot2 a x) a + (fun a => dot2 a x) b := fun a b => dot_addV a b x
  have hs : ∀ a b, (fun a => dot2 a x) (subV a b) = (fun a => dot2 a x) a - (fun a => dot2 a x) b := fun a b => dot_subV a b x
  have e1 := mixG_ev (ev := fun a => dot2 a x) (add := addV) (sub := subV) (d := []) (add' := (· + ·)) (sub' := (· - ·)) (d' := 0) ha hs rfl k (unitsV k 1)
  have e2 := mixG_ev (ev := fun a => dot2 a x) (add := addV) (sub := subV) (d := []) (add' := (· + ·)) (sub' := (· - ·)) (d' := 0) ha hs rfl k (mixV k (unitsV k 1))
  rw [show mixG addV subV [] k (unitsV k 1) = mixV k (unitsV k 1) from rfl, units_ev h, one_mul_map] at e1
  rw [e1, show mixG addV subV [] k (mixV k (unitsV k 1)) = _ from twice_all k (List.mem_range.mpr (by omega)), List.map_map] at e2
  rw [show mixL k (mixL k x) = _ from e2.symm]
  refine List.ext_getElem? fun i => ?_
  rw [List.getElem?_map, List.getElem?_map]
  by_cases hi : i < 2 ^ k
  · rw [List.getElem?_range hi, List.getElem?_eq_getElem (by omega)]
    show some (dot2 (addV (unitV i (2 ^ k)) (List.replicate (2 ^ k) 0)) x) = some (((2 ^ k : Nat) : Int) * x[i])
    rw [dot_addV, dot_zero, dot_unit]
    unfold cN
    rw [List.getElem?_eq_getElem (by omega), Int.add_zero, pow2]
    rfl
  · rw [List.getElem?_eq_none (by simpa using hi), List.getElem?_eq_none (by omega)]
    rfl
theorem dot_bound {B : Int} (hB : 0 ≤ B) : ∀ (s x : List Int), (∀ v, v ∈ s → v = 1 ∨ v = -1) → (∀ v, v ∈ x → -B ≤ v ∧ v ≤ B) → -(B * x.length) ≤ dot2 s x ∧ dot2 s x ≤ B * x.length
  | [], x, _, _ => by
    have : 0 ≤ B * (x.length : Int) := Int.mul_nonneg hB (by omega)
    rw [dot_nil]
    omega
  | _ :: _, [], _, _ => by simp [dot2]
  | v :: s, y :: x, h1, h2 => by
    have ih := dot_bound hB s x (fun v hv => h1 v (List.mem_cons_of_mem _ hv)) fun v hv => h2 v (List.mem_cons_of_mem _ hv)
    have hy := h2 y List.mem_cons_self
    have e : B * ((y :: x).length : Int) = B * x.length + B := by rw [List.length_cons, Int.natCast_add, Int.mul_add]; omega
    rw [e]
    show -(B * x.length + B) ≤ v * y + dot2 s x ∧ v * y + dot2 s x ≤ B * x.length + B
    generalize B * (x.length : Int) = Z at ih ⊢
    rcases h1 v List.mem_cons_self with rfl | rfl <;> omega
theorem sign_pm (k m : Nat) : ∀ v, v ∈ signV k m → v = 1 ∨ v = -1 := by
  intro v hv
  unfold signV at hv
  obtain ⟨n, _, rfl⟩ := List.mem_map.mp hv
  split
  · exact .inr rfl
  · exact .inl rfl
theorem mixL_bound {k : Nat} (hk : k ≤ 6) {x : List Int} (h : x.length = 2 ^ k) {B : Int} (hB : 0 ≤ B) (hx : ∀ v, v ∈ x → -B ≤ v ∧ v ≤ B) : ∀ v, v ∈ mixL k x → -(B * 64) ≤ v ∧ v ≤ B * 64 := by
  intro v hv
  rw [mixL_dot hk h] at hv
  obtain ⟨m, _, rfl⟩ := List.mem_map.mp hv
  have := dot_bound hB (signV k m) x (sign_pm k m) hx
  have p6 : x.length ≤ 64 := by rw [h]; exact Nat.le_trans (Nat.pow_le_pow_right (by decide) hk) (by decide)
  have q : B * (x.length : Int) ≤ B * 64 := Int.mul_le_mul_of_nonneg_left (by omega) hB
  omega
end DS
set_option maxRecDepth 100000
set_option maxHeartbeats 4000000
namespace DS
open PySem L2
def cMixed : C := (.cons (.par [1, 2] (.cons (.mk (.bi .lst (.cons (.var 0) .nil))) (.cons (.cint 1) .nil))) (.cons (.whl 1000 (.cmp .Lt (.var 2) (.bi .len (.cons (.var 1) .nil))) (.cons (.fors (.tnm 3) (.rg3 (.cint 0) (.bi .len (.cons (.var 1) .nil)) (.bin .Mult (.cint 2) (.var 2))) (.cons (.fors (.tnm 4) (.rg2 (.var 3) (.bin .Add (.var 3) (.var 2))) (.cons (.par [5, 6] (.cons (.ix (.var 1) (.var 4)) (.cons (.ix (.var 1) (.bin .Add (.var 4) (.var 2))) .nil))) (.cons (.set2 (.var 1) (.var 4) (.var 1) (.bin .Add (.var 4) (.var 2)) (.tup (.cons (.bin .Add (.var 5) (.var 6)) (.cons (.bin .Sub (.var 5) (.var 6)) .nil)))) .nil))) .nil)) (.cons (.asg (.tnm 2) (.bin .Mult (.cint 2) (.var 2))) .nil))) (.cons (.ret (.var 1)) .nil)))
def cWaves : C := (.cons (.par [1, 2] (.cons (.mk (.bi .lst (.cons (.var 0) .nil))) (.cons (.cint 1) .nil))) (.cons (.whl 1000 (.cmp .Lt (.var 2) (.bi .len (.cons (.var 1) .nil))) (.cons (.fors (.tnm 3) (.rg1 (.bi .len (.cons (.var 1) .nil))) (.cons (.ifs (.cmp .Eq (.bin .BitAnd (.var 3) (.var 2)) (.cint 0)) (.cons (.par [4, 5] (.cons (.ix (.var 1) (.var 3)) (.cons (.ix (.var 1) (.bin .Add (.var 3) (.var 2))) .nil))) (.cons (.set2 (.var 1) (.var 3) (.var 1) (.bin .Add (.var 3) (.var 2)) (.tup (.cons (.bin .Add (.var 4) (.var 5)) (.cons (.bin .Sub (.var 4) (.var 5)) .nil)))) .nil)) .nil) .nil)) (.cons (.asg (.tnm 2) (.bin .Mult (.cint 2) (.var 2))) .nil))) (.cons (.ret (.var 1)) .nil)))
def cLotSums (mixed : Nat) : C := (.cons (.ret (.bi .tup (.cons (.cal mixed 0 (.cons (.lc (.bin .Sub (.cint 1) (.bin .Mult (.cint 2) (.var 1))) (.tnm 1) (.sq (.var 0)) .nil [1]) .nil)) .nil))) .nil)
def cLawSums (waves : Nat) : C := (.cons (.ret (.cal waves 0 (.cons (.lc (.bin .Sub (.cint 1) (.bin .Mult (.cint 2) (.var 1))) (.tnm 1) (.sq (.var 0)) .nil [1]) .nil))) .nil)
def IntSeq (v : P) (xs : List Int) : Prop := v = tupI xs ∨ v = .list (xs.map PyData.int)
theorem lst_seq {v : P} {xs : List Int} (h : IntSeq v xs) : biF .lst [v] = some (.list (xs.map PyData.int)) := by
  rcases h with rfl | rfl <;> rfl
theorem getD_cN (l : List Int) (i : Nat) : l.getD i 0 = cN l i := by rw [List.getD_eq_getElem?_getD]; rfl
theorem setl_int {l : List Int} {i : Nat} (h : i < l.length) (v : Int) (S : Sto) (n : Nat) (hS : S[n]? = some (.lst (l.map PyData.int))) :
    setlD (.r n) (.p (.int (i : Int))) (.p (.int v)) S = some (S.set n (.lst ((l.set i v).map PyData.int))) := by
  have hx : ixN (l.map PyData.int).length (i : Int) = some i := by
    unfold ixN
    rw [List.length_map, if_pos (by omega), if_pos (by omega), Int.toNat_natCast]
  show (match snapM S[n]? with | some (.list xs) => (ixN xs.length (i : Int)).map fun j => S.set n (.lst (xs.set j (.int v))) | _ => none) = _
  rw [hS]
  show (ixN (l.map PyData.int).length (i : Int)).map _ = _
  rw [hx, List.map_set]
  rfl
section
variable {F : FT} {Gc : Nat → Option P} {k : Nat} {xs : List Int}
theorem pair_step {l : List Int} {a : Nat} {s : Nat} {i x y : Nat} {env : DEnv} {Q : Fl → DEnv → Sto → Prop} (hi : a < l.length) (hj : a + s < l.length) (e1 : env[1]? = some (some (.r 0))) (e2 : env[2]? = some (some (.p (.int (s : Int))))) (ei : env[i]? = some (some (.p (.int (a : Int)))))
    (hx : x < env.length) (hy : y < env.length) (nx : x ≠ 1 ∧ x ≠ 2 ∧ x ≠ i ∧ x ≠ y) (ny : y ≠ 1 ∧ y ≠ 2 ∧ y ≠ i)
    (q : Q .nx ((env.set x (some (.p (.int (cN l a))))).set y (some (.p (.int (cN l (a + s)))))) [.lst ((bfI s l a).map PyData.int)]) :
    wpSs F Gc (.cons (.par [x, y] (.cons (.ix (.var 1) (.var i)) (.cons (.ix (.var 1) (.bin .Add (.var i) (.var 2))) .nil))) (.cons (.set2 (.var 1) (.var i) (.var 1) (.bin .Add (.var i) (.var 2)) (.tup (.cons (.bin .Add (.var x) (.var y)) (.cons (.bin .Sub (.var x) (.var y)) .nil)))) .nil)) env [.lst (l.map PyData.int)] Q := by
  refine (show wpA F Gc (.cons (.ix (.var 1) (.var i)) (.cons (.ix (.var 1) (.bin .Add (.var i) (.var 2))) .nil)) env [.lst (l.map PyData.int)] (fun ds S1 => WO (bindPar [x, y] ds env) fun e1 => wpSs F Gc (.cons (.set2 (.var 1) (.var i) (.var 1) (.bin .Add (.var i) (.var 2)) (.tup (.cons (.bin .Add (.var x) (.var y)) (.cons (.bin .Sub (.var x) (.var y)) .nil)))) .nil) e1 S1 Q) from ?_)
  simp only [wpA, wpE, e1, e2, ei]
  show WO (atI (l.map PyData.int) (a : Int)) _
  refine WO.mk (at_nat hi) ?_
  show WO (atI (l.map PyData.int) ((a : Int) + (s : Int))) _
  refine WO.mk (by rw [← Int.natCast_add]; exact at_nat hj) ?_
  have hb : bindPar [x, y] [.p (.int (cN l a)), .p (.int (cN l (a + s)))] env = some ((env.set x (some (.p (.int (cN l a))))).set y (some (.p (.int (cN l (a + s)))))) := by
    simp only [bindPar, List.length_set, if_pos hx, if_pos hy]
  refine WO.mk hb ?_
  generalize hE : (env.set x (some (D.p (.int (cN l a))))).set y (some (.p (.int (cN l (a + s))))) = E at q
  have E1 : E[1]? = some (some (.r 0)) := by rw [← hE, List.getElem?_set_ne ny.1, List.getElem?_set_ne nx.1]; exact e1
  have E2 : E[2]? = some (some (.p (.int (s : Int)))) := by rw [← hE, List.getElem?_set_ne ny.2.1, List.getElem?_set_ne nx.2.1]; exact e2
  have Ei : E[i]? = some (some (.p (.int (a : Int)))) := by rw [← hE, List.getElem?_set_ne ny.2.2, List.getElem?_set_ne nx.2.2.1]; exact ei
  have Ex : E[x]? = some (some (.p (.int (cN l a)))) := by rw [← hE, List.getElem?_set_ne (Ne.symm nx.2.2.2), List.getElem?_set_self hx]
  have Ey : E[y]? = some (some (.p (.int (cN l (a + s))))) := by rw [← hE, List.getElem?_set_self (by rw [List.length_set]; exact hy)]
  have g1 : setlD (.r 0) (.p (.int (a : Int))) (.p (.int (cN l a + cN l (a + s)))) [.lst (l.map PyData.int)] = some [.lst ((l.set a (cN l a + cN l (a + s))).map PyData.int)] := setl_int hi _ _ 0 rfl
  have g2 : setlD (.r 0) (.p (.int ((a : Int) + (s : Int)))) (.p (.int (cN l a - cN l (a + s)))) [.lst ((l.set a (cN l a + cN l (a + s))).map PyData.int)] = some [.lst ((bfI s l a).map PyData.int)] := by
    rw [← Int.natCast_add]
    have := setl_int (l := l.set a (cN l a + cN l (a + s))) (i := a + s) (by rw [List.length_set]; exact hj) (cN l a - cN l (a + s)) [.lst ((l.set a (cN l a + cN l (a + s))).map PyData.int)] 0 rfl
    rw [this]
    show _ = some [MO.lst ((bfG (· + ·) (· - ·) 0 s l a).map PyData.int)]
    unfold bfG
    rw [getD_cN, getD_cN]
    rfl
  have w : wpS F Gc (.set2 (.var 1) (.var i) (.var 1) (.bin .Add (.var i) (.var 2)) (.tup (.cons (.bin .Add (.var x) (.var y)) (.cons (.bin .Sub (.var x) (.var y)) .nil)))) E [.lst (l.map PyData.int)] fun f e1 S1 => match f with
      | .nx => wpSs F Gc .nil e1 S1 Q
      | f => Q f e1 S1 := by
    simp only [wpS, wpE, wpA, E1, E2, Ei, Ex, Ey]
    refine ⟨rfl, ?_⟩
    show WO (setlD (.r 0) (.p (.int (a : Int))) (.p (.int (cN l a + cN l (a + s)))) [.lst (l.map PyData.int)]) _
    refine WO.mk g1 ?_
    show WO (setlD (.r 0) (.p (.int ((a : Int) + (s : Int)))) (.p (.int (cN l a - cN l (a + s)))) [.lst ((l.set a (cN l a + cN l (a + s))).map PyData.int)]) _
    exact WO.mk g2 q
  exact w
theorem bfI_len (s : Nat) (l : List Int) (n : Nat) : (bfI s l n).length = l.length := bfG_len ..
theorem fold_flat {α β γ : Type} (f : β → γ → β) (g : α → List γ) : ∀ (l : List α) (b : β), l.foldl (fun b a => (g a).foldl f b) b = (l.flatMap g).foldl f b
  | [], b => rfl
  | a :: l, b => by rw [List.foldl_cons, fold_flat f g l, List.flatMap_cons, List.foldl_append]
theorem fold_if {β γ : Type} (f : β → γ → β) (p : γ → Bool) : ∀ (l : List γ) (b : β), l.foldl (fun b a => if p a = true then f b a else b) b = (l.filter p).foldl f b
  | [], b => rfl
  | a :: l, b => by
    rw [List.foldl_cons, fold_if f p l, List.filter_cons]
    cases h : p a <;> simp
theorem blocks_all : ∀ k, k ∈ List.range 7 → ∀ j, j ∈ List.range k → (List.range (2 ^ (k - 1 - j))).flatMap (fun i => (List.range (2 ^ j)).map fun r => i * (2 * 2 ^ j) + r) = lowN k j := by decide +kernel
theorem small_all : ∀ k, k ∈ List.range 7 → ∀ j, j ∈ List.range k → (Builtin.Range.small 0 ((2 ^ k : Nat) : Int) (2 * ((2 ^ j : Nat) : Int)) && decide (Builtin.Range.rangeSize 0 ((2 ^ k : Nat) : Int) (2 * ((2 ^ j : Nat) : Int)) = ((2 ^ (k - 1 - j) : Nat) : Int))) = true := by decide +kernel
def mixJ (k j : Nat) (f : List Int) : List Int := (List.range j).foldl (stI k) f
theorem mixJ_succ (k j : Nat) (f : List Int) : mixJ k (j + 1) f = stI k (mixJ k j f) j := by
  unfold mixJ
  rw [List.range_succ, List.foldl_append]
  rfl
theorem mixJ_len (k j : Nat) (f : List Int) : (mixJ k j f).length = f.length := by
  unfold mixJ
  induction j with
  | zero => rfl
  | succ j ih => rw [List.range_succ, List.foldl_append, List.foldl_cons, List.foldl_nil, stG_len, ih]
theorem low_add {k j a : Nat} (h : j < k) (ha : a ∈ lowN k j) : a < 2 ^ k ∧ a + 2 ^ j < 2 ^ k := by
  obtain ⟨h1, h2⟩ := List.mem_filter.mp ha
  have h1 := List.mem_range.mp h1
  have h2 := of_decide_eq_true h2
  have := xor_and a (2 ^ j)
  have h3 : a ^^^ 2 ^ j < 2 ^ k := Nat.xor_lt_two_pow h1 (Nat.pow_lt_pow_right (by decide) h)
  exact ⟨h1, by omega⟩
def blkI (s : Nat) (l : List Int) (i : Nat) : List Int := ((List.range s).map fun r => i * (2 * s) + r).foldl (bfI s) l
theorem inner_w {v : P} {l : List Int} {s b N : Nat} (hN : N ≤ 64) (hs : b + s + s ≤ N) (hll : l.length = N) (x4 x5 x6 : Option D) {rest : C} {Q : Fl → DEnv → Sto → Prop}
    (q : ∀ x4 x5 x6, wpSs F Gc rest [some (.p v), some (.r 0), some (.p (.int (s : Int))), some (.p (.int (b : Int))), x4, x5, x6] [.lst ((((List.range s).map fun r => b + r).foldl (bfI s) l).map PyData.int)] Q) :
    wpSs F Gc (.cons (.fors (.tnm 4) (.rg2 (.var 3) (.bin .Add (.var 3) (.var 2))) (.cons (.par [5, 6] (.cons (.ix (.var 1) (.var 4)) (.cons (.ix (.var 1) (.bin .Add (.var 4) (.var 2))) .nil))) (.cons (.set2 (.var 1) (.var 4) (.var 1) (.bin .Add (.var 4) (.var 2)) (.tup (.cons (.bin .Add (.var 5) (.var 6)) (.cons (.bin .Sub (.var 5) (.var 6)) .nil)))) .nil))) rest) [some (.p v), some (.r 0), some (.p (.int (s : Int))), some (.p (.int (b : Int))), x4, x5, x6] [.lst (l.map PyData.int)] Q := by
  refine wps_fold (.rg (b : Int) 1 s) [.lst (l.map PyData.int)] (fun r : Nat => PyData.int ((b : Int) + (r : Int) * 1)) (List.range s) (fun (l : List Int) r => bfI s l (b + r)) l
    (fun l e st => l.length = N ∧ st = [.lst (l.map PyData.int)] ∧ ∃ x4 x5 x6, e = [some (.p v), some (.r 0), some (.p (.int (s : Int))), some (.p (.int (b : Int))), x4, x5, x6]) (fun R r => ?_) (fun st => rfl) (fun _ => rfl) ⟨hll, rfl, _, _, _, rfl⟩ ?_ ?_
  · refine ⟨⟨decide_eq_true (by omega), decide_eq_true (by omega)⟩, ?_⟩
    have : (((b : Int) + (s : Int)) - (b : Int)).toNat = s := by omega
    rw [this]
    exact r
  · rintro l r e st hr ⟨hll, rfl, x4, x5, x6, rfl⟩
    have hr := List.mem_range.mp hr
    have er : ((b : Int) + (r : Int) * 1) = ((b + r : Nat) : Int) := by omega
    rw [er]
    refine (show wpSs F Gc _ [some (.p v), some (.r 0), some (.p (.int (s : Int))), some (.p (.int (b : Int))), some (.p (.int ((b + r : Nat) : Int))), x5, x6] [.lst (l.map PyData.int)] _ from ?_)
    refine pair_step (l := l) (a := b + r) (s := s) (i := 4) (x := 5) (y := 6) (by omega) (by omega) rfl rfl rfl (by show 5 < 7; decide) (by show 6 < 7; decide) ⟨by decide, by decide, by decide, by decide⟩ ⟨by decide, by decide, by decide⟩ ?_
    exact ⟨.inl rfl, by rw [bfI_len]; exact hll, rfl, _, _, _, rfl⟩
  · rintro e st ⟨hll, rfl, x4, x5, x6, rfl⟩
    have := q x4 x5 x6
    rw [List.foldl_map] at this
    exact this
theorem mixed_w {v : P} (hv : IntSeq v xs) (hk : k ≤ 6) (hl : xs.length = 2 ^ k) : wpF F Gc 7 1 cMixed [.p v] [] fun d S' => d = .r 0 ∧ S' = [.lst ((mixL k xs).map PyData.int)] := by
  have p6 : 2 ^ k ≤ 64 := Nat.le_trans (Nat.pow_le_pow_right (by decide) hk) (by decide)
  refine ⟨rfl, ?_⟩
  show WO (biF .lst [v]) _
  refine WO.mk (lst_seq hv) ?_
  show wpSs F Gc (.cons (.whl _ _ _) _) [some (.p v), some (.r 0), some (.p (.int 1)), none, none, none, none] [.lst (xs.map PyData.int)] _
  refine wps_whl k (fun m e s => m ≤ k ∧ s = [.lst ((mixJ k (k - m) xs).map PyData.int)] ∧ ∃ x3 x4 x5 x6, e = [some (.p v), some (.r 0), some (.p (.int ((2 ^ (k - m) : Nat) : Int))), x3, x4, x5, x6]) (fun e s => s = [.lst ((mixL k xs).map PyData.int)] ∧ ∃ x2 x3 x4 x5 x6, e = [some (.p v), some (.r 0), x2, x3, x4, x5, x6]) (by omega) ⟨Nat.le_refl _, by rw [Nat.sub_self]; rfl, none, none, none, none, by rw [Nat.sub_self]; rfl⟩ ?_ ?_
  · rintro m e s ⟨hm, rfl, x3, x4, x5, x6, rfl⟩
    have ln : ((mixJ k (k - m) xs).map PyData.int).length = 2 ^ k := by rw [List.length_map, mixJ_len, hl]
    refine ⟨fun h => ?_, fun h => ?_⟩
    · have h := of_decide_eq_true h
      have h : ((2 ^ (k - m) : Nat) : Int) < (((mixJ k (k - m) xs).map PyData.int).length : Int) := h
      rw [ln] at h
      have hm0 : m ≠ 0 := fun z => by rw [z] at h; exact absurd h (by simp)
      generalize hj : k - m = j at h ln ⊢
      have hjk : j < k := by omega
      have sm := small_all k (List.mem_range.mpr (by omega)) j (List.mem_range.mpr hjk)
      rw [Bool.and_eq_true, decide_eq_true_eq] at sm
      have pj : 2 ^ j < 2 ^ k := Nat.pow_lt_pow_right (by decide) hjk
      have e2 : 2 ^ j * 2 = 2 ^ (j + 1) := (Nat.pow_succ ..).symm
      have pj0 : 0 < 2 ^ j := Nat.pow_pos (by decide)
      generalize hL : mixJ k j xs = l0 at ln
      have hl0 : l0.length = 2 ^ k := by rw [← ln, List.length_map]
      refine wps_fold (.rg 0 (2 * ((2 ^ j : Nat) : Int)) (2 ^ (k - 1 - j))) [.lst (l0.map PyData.int)] (fun i : Nat => PyData.int (0 + (i : Int) * (2 * ((2 ^ j : Nat) : Int)))) (List.range (2 ^ (k - 1 - j))) (blkI (2 ^ j)) l0
        (fun l e s => l.length = 2 ^ k ∧ s = [.lst (l.map PyData.int)] ∧ ∃ x3 x4 x5 x6, e = [some (.p v), some (.r 0), some (.p (.int ((2 ^ j : Nat) : Int))), x3, x4, x5, x6]) (fun R r => ?_) (fun s => rfl) (fun _ => rfl) ⟨hl0, rfl, _, _, _, _, rfl⟩ ?_ ?_
      · show WO (denI F Gc (.rg3 (.cint 0) (.bi .len (.cons (.var 1) .nil)) (.bin .Mult (.cint 2) (.var 2))) _ _) _
        refine WO.mk (a := (Src.rg 0 (2 * ((2 ^ j : Nat) : Int)) (2 ^ (k - 1 - j)), [.lst (l0.map PyData.int)])) ?_ r
        have hmul : binP .Mult (.int 2) (.int ((2 ^ j : Nat) : Int)) = some (.int (2 * ((2 ^ j : Nat) : Int))) := by
          show onI (mulOk 2 ((2 ^ j : Nat) : Int)) _ = _
          rw [mul_ok (by decide)]; rfl
        have hlen : (l0.map PyData.int).length = 2 ^ k := ln
        simp only [denI, denE, denA, List.getElem?_cons_succ, List.getElem?_cons_zero, Option.bind_some, Option.map_some, snaps, snap, snapM, biF, snapE, hmul, hlen]
        rw [if_pos ⟨by omega, by omega, sm.1⟩, sm.2, Int.toNat_natCast]
      · rintro l i e s hi ⟨hll, rfl, x3, x4, x5, x6, rfl⟩
        have hi := List.mem_range.mp hi
        have eb : (0 + (i : Int) * (2 * ((2 ^ j : Nat) : Int))) = ((i * (2 * 2 ^ j) : Nat) : Int) := by rw [Int.zero_add, Int.natCast_mul, Int.natCast_mul]; rfl
        have mem : ∀ r, r < 2 ^ j → i * (2 * 2 ^ j) + r ∈ lowN k j := fun r hr => by
          rw [← blocks_all k (List.mem_range.mpr (by omega)) j (List.mem_range.mpr hjk)]
          exact List.mem_flatMap.mpr ⟨i, List.mem_range.mpr hi, List.mem_map.mpr ⟨r, List.mem_range.mpr hr, rfl⟩⟩
        have hbs : i * (2 * 2 ^ j) + 2 ^ j + 2 ^ j ≤ 2 ^ k := by
          have := (low_add hjk (mem (2 ^ j - 1) (by omega))).2
          omega
        rw [eb]
        refine WO.mk (a := [some (D.p v), some (.r 0), some (.p (.int ((2 ^ j : Nat) : Int))), some (.p (.int ((i * (2 * 2 ^ j) : Nat) : Int))), x4, x5, x6]) rfl ?_
        exact inner_w p6 hbs hll x4 x5 x6 fun x4 x5 x6 => ⟨.inl rfl, (foldG_len ..).trans hll, rfl, _, _, _, _, rfl⟩
      · rintro e s ⟨hll, rfl, x3, x4, x5, x6, rfl⟩
        refine ⟨mul_ok (by decide), .inl rfl, m - 1, by omega, by omega, ?_, x3, x4, x5, x6, ?_⟩
        · unfold blkI
          rw [fold_flat, blocks_all k (List.mem_range.mpr (by omega)) j (List.mem_range.mpr hjk), show k - (m - 1) = j + 1 by omega, mixJ_succ, hL]
          rfl
        · rw [show k - (m - 1) = j + 1 by omega, ← e2]
          show [some (D.p v), _, some (.p (.int (2 * ((2 ^ j : Nat) : Int)))), _, _, _, _] = _
          rw [show (2 * ((2 ^ j : Nat) : Int)) = ((2 ^ j * 2 : Nat) : Int) by omega]
    · have h := of_decide_eq_false h
      have h : ¬ ((2 ^ (k - m) : Nat) : Int) < (((mixJ k (k - m) xs).map PyData.int).length : Int) := h
      rw [ln] at h
      have hm0 : m = 0 := by
        by_cases z : m = 0
        · exact z
        · have : 2 ^ (k - m) < 2 ^ k := Nat.pow_lt_pow_right (by decide) (by omega)
          exact absurd (by exact_mod_cast this) h
      subst hm0
      exact ⟨rfl, _, _, _, _, _, rfl⟩
  · rintro e s ⟨rfl, x2, x3, x4, x5, x6, rfl⟩
    exact ⟨rfl, rfl⟩
theorem waves_w {v : P} (hv : IntSeq v xs) (hk : k ≤ 6) (hl : xs.length = 2 ^ k) : wpF F Gc 6 1 cWaves [.p v] [] fun d S' => d = .r 0 ∧ S' = [.lst ((mixL k xs).map PyData.int)] := by
  have p6 : 2 ^ k ≤ 64 := Nat.le_trans (Nat.pow_le_pow_right (by decide) hk) (by decide)
  refine ⟨rfl, ?_⟩
  show WO (biF .lst [v]) _
  refine WO.mk (lst_seq hv) ?_
  show wpSs F Gc (.cons (.whl _ _ _) _) [some (.p v), some (.r 0), some (.p (.int 1)), none, none, none] [.lst (xs.map PyData.int)] _
  refine wps_whl k (fun m e s => m ≤ k ∧ s = [.lst ((mixJ k (k - m) xs).map PyData.int)] ∧ ∃ x3 x4 x5, e = [some (.p v), some (.r 0), some (.p (.int ((2 ^ (k - m) : Nat) : Int))), x3, x4, x5]) (fun e s => s = [.lst ((mixL k xs).map PyData.int)] ∧ ∃ x2 x3 x4 x5, e = [some (.p v), some (.r 0), x2, x3, x4, x5]) (by omega) ⟨Nat.le_refl _, by rw [Nat.sub_self]; rfl, none, none, none, by rw [Nat.sub_self]; rfl⟩ ?_ ?_
  · rintro m e s ⟨hm, rfl, x3, x4, x5, rfl⟩
    have ln : ((mixJ k (k - m) xs).map PyData.int).length = 2 ^ k := by rw [List.length_map, mixJ_len, hl]
    refine ⟨fun h => ?_, fun h => ?_⟩
    · have h := of_decide_eq_true h
      have h : ((2 ^ (k - m) : Nat) : Int) < (((mixJ k (k - m) xs).map PyData.int).length : Int) := h
      rw [ln] at h
      have hm0 : m ≠ 0 := fun z => by rw [z] at h; exact absurd h (by simp)
      generalize hj : k - m = j at h ln ⊢
      have hjk : j < k := by omega
      have e2 : 2 ^ j * 2 = 2 ^ (j + 1) := (Nat.pow_succ ..).symm
      generalize hL : mixJ k j xs = l0 at ln
      have hl0 : l0.length = 2 ^ k := by rw [← ln, List.length_map]
      refine wps_fold (.rg 0 1 (2 ^ k)) [.lst (l0.map PyData.int)] (fun i : Nat => PyData.int (i : Int)) (List.range (2 ^ k)) (fun (l : List Int) a => if decide (a &&& 2 ^ j = 0) = true then bfI (2 ^ j) l a else l) l0
        (fun l e s => l.length = 2 ^ k ∧ s = [.lst (l.map PyData.int)] ∧ ∃ x3 x4 x5, e = [some (.p v), some (.r 0), some (.p (.int ((2 ^ j : Nat) : Int))), x3, x4, x5]) (fun R r => ?_) (fun s => srcL_rg0 s (2 ^ k)) (fun _ => rfl) ⟨hl0, rfl, _, _, _, rfl⟩ ?_ ?_
      · show rgOk (((l0.map PyData.int).length : Nat) : Int) = true ∧ R (.rg 0 1 ((((l0.map PyData.int).length : Nat) : Int)).toNat) _
        rw [ln, Int.toNat_natCast]
        exact ⟨decide_eq_true (by omega), r⟩
      · rintro l a e s ha ⟨hll, rfl, x3, x4, x5, rfl⟩
        have ha := List.mem_range.mp ha
        refine WO.mk (a := [some (D.p v), some (.r 0), some (.p (.int ((2 ^ j : Nat) : Int))), some (.p (.int (a : Int))), x4, x5]) rfl ?_
        refine ⟨fun hz => ?_, fun hz => ?_⟩
        · have hz : PyData.eqv (.int (Builtin.bitAnd (a : Int) ((2 ^ j : Nat) : Int))) (.int 0) = true := hz
          rw [and_nat, eqv_int, decide_eq_true_eq] at hz
          have hz : a &&& 2 ^ j = 0 := by omega
          have hd : decide (a &&& 2 ^ j = 0) = true := decide_eq_true hz
          have lw : a ∈ lowN k j := List.mem_filter.mpr ⟨List.mem_range.mpr ha, hd⟩
          obtain ⟨q1, q2⟩ := low_add hjk lw
          refine pair_step (l := l) (a := a) (s := 2 ^ j) (i := 3) (x := 4) (y := 5) (by omega) (by omega) rfl rfl rfl (by show 4 < 6; decide) (by show 5 < 6; decide) ⟨by decide, by decide, by decide, by decide⟩ ⟨by decide, by decide, by decide⟩ ?_
          show (_ ∨ _) ∧ (if decide (a &&& 2 ^ j = 0) = true then bfI (2 ^ j) l a else l).length = 2 ^ k ∧ _ = [MO.lst ((if decide (a &&& 2 ^ j = 0) = true then bfI (2 ^ j) l a else l).map PyData.int)] ∧ _
          rw [if_pos hd]
          exact ⟨.inl rfl, by rw [bfI_len]; exact hll, rfl, _, _, _, rfl⟩
        · have hz : PyData.eqv (.int (Builtin.bitAnd (a : Int) ((2 ^ j : Nat) : Int))) (.int 0) = false := hz
          rw [and_nat, eqv_int, decide_eq_false_iff_not] at hz
          have hd : ¬ decide (a &&& 2 ^ j = 0) = true := by rw [decide_eq_true_eq]; omega
          show (_ ∨ _) ∧ (if decide (a &&& 2 ^ j = 0) = true then bfI (2 ^ j) l a else l).length = 2 ^ k ∧ _ = [MO.lst ((if decide (a &&& 2 ^ j = 0) = true then bfI (2 ^ j) l a else l).map PyData.int)] ∧ _
          rw [if_neg hd]
          exact ⟨.inl rfl, hll, rfl, _, _, _, rfl⟩
      · rintro e s ⟨hll, rfl, x3, x4, x5, rfl⟩
        refine ⟨mul_ok (by decide), .inl rfl, m - 1, by omega, by omega, ?_, x3, x4, x5, ?_⟩
        · rw [fold_if, show k - (m - 1) = j + 1 by omega, mixJ_succ, hL]
          rfl
        · rw [show k - (m - 1) = j + 1 by omega, ← e2]
          show [some (D.p v), _, some (.p (.int (2 * ((2 ^ j : Nat) : Int)))), _, _, _] = _
          rw [show (2 * ((2 ^ j : Nat) : Int)) = ((2 ^ j * 2 : Nat) : Int) by omega]
    · have h := of_decide_eq_false h
      have h : ¬ ((2 ^ (k - m) : Nat) : Int) < (((mixJ k (k - m) xs).map PyData.int).length : Int) := h
      rw [ln] at h
      have hm0 : m = 0 := by
        by_cases z : m = 0
        · exact z
        · have : 2 ^ (k - m) < 2 ^ k := Nat.pow_lt_pow_right (by decide) (by omega)
          exact absurd (by exact_mod_cast this) h
      subst hm0
      exact ⟨rfl, _, _, _, _, rfl⟩
  · rintro e s ⟨rfl, x2, x3, x4, x5, rfl⟩
    exact ⟨rfl, rfl⟩
end
def pmL (cells : List Int) : List Int := cells.map fun c => 1 - 2 * c
theorem pm_len (cells : List Int) : (pmL cells).length = cells.length := by simp [pmL]
theorem pm_bound {N : Nat} {cells : List Int} (hb : BitsOk N cells) : ∀ v, v ∈ pmL cells → -1 ≤ v ∧ v ≤ 1 := fun v hv => by
  obtain ⟨c, hc, rfl⟩ := List.mem_map.mp hv
  rcases hb.2 c hc with rfl | rfl <;> decide
def sumsL (k : Nat) (cells : List Int) : List Int := mixL k (pmL cells)
theorem sums_len {k : Nat} {cells : List Int} (h : cells.length = 2 ^ k) : (sumsL k cells).length = 2 ^ k := by unfold sumsL; rw [mixG_len, pm_len, h]
section
variable {fs : List DF} {Gc : Nat → Option P} {n mixed waves lotSums lawSums places mask : Nat} {S : Sto} {k : Nat} {xs cells : List Int} {Q : D × Sto → Prop}
theorem call_mixed (h : fs[mixed]? = some ⟨7, 1, cMixed⟩) {v : P} (hv : IntSeq v xs) (hk : k ≤ 6) (hl : xs.length = 2 ^ k) (q : Q (.p (.list ((mixL k xs).map PyData.int)), S)) : WO (callD (run fs Gc (n + 1)) mixed 0 [.p v] S) Q := by
  obtain ⟨d, S', h1, rfl, rfl⟩ := run_w (n := n) (Gc := Gc) h (mixed_w (F := run fs Gc n) (Gc := Gc) hv hk hl)
  exact call0 [v] ⟨_, _, h1, _, rfl, q⟩
theorem call_waves (h : fs[waves]? = some ⟨6, 1, cWaves⟩) {v : P} (hv : IntSeq v xs) (hk : k ≤ 6) (hl : xs.length = 2 ^ k) (q : Q (.p (.list ((mixL k xs).map PyData.int)), S)) : WO (callD (run fs Gc (n + 1)) waves 0 [.p v] S) Q := by
  obtain ⟨d, S', h1, rfl, rfl⟩ := run_w (n := n) (Gc := Gc) h (waves_w (F := run fs Gc n) (Gc := Gc) hv hk hl)
  exact call0 [v] ⟨_, _, h1, _, rfl, q⟩
theorem call_lotSums (h : fs[mixed]? = some ⟨7, 1, cMixed⟩) (h2 : fs[lotSums]? = some ⟨2, 1, cLotSums mixed⟩) (hk : k ≤ 6) (hl : cells.length = 2 ^ k) (q : Q (.p (tupI (sumsL k cells)), S)) : WO (callD (run fs Gc (n + 2)) lotSums 0 [.p (tupI cells)] S) Q := by
  have p6 : 2 ^ k ≤ 64 := Nat.le_trans (Nat.pow_le_pow_right (by decide) hk) (by decide)
  have w : wpF (run fs Gc (n + 1)) Gc 2 1 (cLotSums mixed) [.p (tupI cells)] [] fun d S' => d = .p (tupI (sumsL k cells)) ∧ S' = [] := by
    refine ⟨rfl, ?_⟩
    refine ⟨fits_ok (by show (cells.map PyData.int).length ≤ _; rw [List.length_map]; omega), ?_⟩
    refine ints_map (src := .it (cells.map PyData.int)) cells (fun c => 1 - 2 * c) rfl rfl (fun p hp => ?_) ?_
    · exact ⟨mul_ok (by decide), rfl, rfl⟩
    · show WO (callD (run fs Gc (n + 1)) mixed 0 [.p (.list ((pmL cells).map PyData.int))] []) _
      exact call_mixed h (.inr rfl) hk ((pm_len cells).trans hl) ⟨rfl, rfl⟩
  exact call_of (xs := [tupI cells]) (Z := fun _ _ => True) (run_w (n := n + 1) (Gc := Gc) h2 w) q
theorem call_lawSums (h : fs[waves]? = some ⟨6, 1, cWaves⟩) (h2 : fs[lawSums]? = some ⟨2, 1, cLawSums waves⟩) (hk : k ≤ 6) (hl : cells.length = 2 ^ k) (q : Q (.p (.list ((sumsL k cells).map PyData.int)), S)) : WO (callD (run fs Gc (n + 2)) lawSums 0 [.p (tupI cells)] S) Q := by
  have p6 : 2 ^ k ≤ 64 := Nat.le_trans (Nat.pow_le_pow_right (by decide) hk) (by decide)
  have w : wpF (run fs Gc (n + 1)) Gc 2 1 (cLawSums waves) [.p (tupI cells)] [] fun d S' => d = .p (.list ((sumsL k cells).map PyData.int)) ∧ S' = [] := by
    refine ⟨rfl, ?_⟩
    refine ⟨fits_ok (by show (cells.map PyData.int).length ≤ _; rw [List.length_map]; omega), ?_⟩
    refine ints_map (src := .it (cells.map PyData.int)) cells (fun c => 1 - 2 * c) rfl rfl (fun p hp => ?_) ?_
    · exact ⟨mul_ok (by decide), rfl, rfl⟩
    · show WO (callD (run fs Gc (n + 1)) waves 0 [.p (.list ((pmL cells).map PyData.int))] []) _
      exact call_waves h (.inr rfl) hk ((pm_len cells).trans hl) ⟨rfl, rfl⟩
  exact call_of (xs := [tupI cells]) (Z := fun _ _ => True) (run_w (n := n + 1) (Gc := Gc) h2 w) q
end
end DS
set_option maxRecDepth 100000
set_option maxHeartbeats 4000000
namespace DS
open PySem L2
theorem wpI_zp {F : FT} {G : Nat → Option P} {a b : C} {env : DEnv} {S : Sto} {Q : Src → Sto → Prop} (w : wpE F G a env S fun d S1 => wpE F G b env S1 fun d2 S2 => WO (zpS S2 d) fun s => WO (zpS S2 d2) fun t => Q (.zp s t) S2) : wpI F G (.zp a b) env S Q := by
  obtain ⟨d, S1, h1, w⟩ := (wp_ok F G a).1 _ _ _ w
  obtain ⟨d2, S2, h2, w⟩ := (wp_ok F G b).1 _ _ _ w
  obtain ⟨s, h3, w⟩ := WO.ex w
  obtain ⟨t, h4, w⟩ := WO.ex w
  show WO (denI F G (.zp a b) env S) _
  refine WO.mk (a := (.zp s t, S2)) ?_ w
  simp only [denI, h1, h2, h3, h4, Option.bind_some, Option.map_some]
def cLotMask (mask : Nat) : C := (.cons (.ret (.bi .sum (.cons (.lc (.cal mask 0 (.cons (.var 0) (.cons (.var 2) .nil))) (.tnm 2) (.sq (.var 1)) .nil [2]) .nil))) .nil)
def cLotSum (lotSums lotMask places : Nat) : C := (.cons (.ret (.ix (.cal lotSums 0 (.cons (.var 0) .nil)) (.cal lotMask 0 (.cons (.cal places 0 (.cons (.var 0) .nil)) (.cons (.var 1) .nil))))) .nil)
def cOfSums (mixed : Nat) : C := (.cons (.ret (.bi .tup (.cons (.lc (.bi .int1 (.cons (.cmp .Lt (.var 1) (.cint 0)) .nil)) (.tnm 1) (.sq (.cal mixed 0 (.cons (.var 0) .nil))) .nil [1]) .nil))) .nil)
def cCounted (rows places : Nat) : C := (.cons (.asg (.tnm 2) (.cint 0)) (.cons (.fors (.ttp (.cons (.tnm 3) (.cons (.tnm 4) .nil))) (.zp (.cal rows 0 (.cons (.cal places 0 (.cons (.var 0) .nil)) .nil)) (.var 0)) (.cons (.asg (.tnm 2) (.bin .Add (.var 2) (.ite (.cmp .Eq (.bin .Mod (.bi .sum (.cons (.lc (.ix (.var 3) (.var 5)) (.tnm 5) (.sq (.var 1)) .nil [5]) .nil)) (.cint 2)) (.var 4)) (.cint 1) (.neg (.cint 1))))) .nil)) (.cons (.ret (.var 2)) .nil)))
def lotW (k : Nat) (w : List Int) : List Nat := (List.range k).filter fun p => decide (cN w p = 1)
def natI (l : List Nat) : List Int := l.map fun p : Nat => (p : Int)
def maskW (k : Nat) (w : List Int) : Nat := ((lotW k w).map fun p => 2 ^ (k - 1 - p)).sum
def oddW (l : List Nat) (r : List Int) : Int := (l.map fun p => cN r p).sum % 2
theorem lotW_lt {k : Nat} {w : List Int} {p : Nat} (h : p ∈ lotW k w) : p < k := List.mem_range.mp (List.mem_filter.mp h).1
theorem lotW_len (k : Nat) (w : List Int) : (lotW k w).length ≤ k := Nat.le_trans (List.length_filter_le _ _) (by rw [List.length_range]; exact Nat.le_refl _)
set_option maxHeartbeats 0 in
theorem par_all : ((List.range 7).all fun k => (bitsL k).all fun w => decide (maskW k w < 2 ^ k) && decide (signV k (maskW k w) = (bitsL k).map fun r => if oddW (lotW k w) r = 1 then -1 else 1)) = true := by decide +kernel
theorem par_ok {k : Nat} (hk : k ≤ 6) {w : List Int} (hw : w ∈ bitsL k) : maskW k w < 2 ^ k ∧ signV k (maskW k w) = (bitsL k).map fun r => if oddW (lotW k w) r = 1 then -1 else 1 := by
  have h := List.all_eq_true.mp (List.all_eq_true.mp par_all k (List.mem_range.mpr (by omega))) w hw
  rw [Bool.and_eq_true, decide_eq_true_eq, decide_eq_true_eq] at h
  exact h
theorem dot_zip {α β : Type} (f : α → Int) (g : β → Int) : ∀ (l : List α) (c : List β), dot2 (l.map f) (c.map g) = ((l.zip c).map fun p => f p.1 * g p.2).sum
  | [], c => by simp [dot2]
  | _ :: _, [] => by simp [dot2]
  | a :: l, b :: c => by
    show f a * g b + dot2 (l.map f) (c.map g) = _
    rw [dot_zip f g l c]
    rfl
def cntL (k : Nat) (cells : List Int) (w : List Int) : Int := (((bitsL k).zip cells).map fun p => if oddW (lotW k w) p.1 = p.2 then (1 : Int) else -1).sum
theorem cnt_sum {k : Nat} (hk : k ≤ 6) {cells : List Int} (hb : BitsOk (2 ^ k) cells) {w : List Int} (hw : w ∈ bitsL k) : cN (sumsL k cells) (maskW k w) = cntL k cells w := by
  obtain ⟨h1, h2⟩ := par_ok hk hw
  unfold sumsL
  rw [mixL_dot hk ((pm_len cells).trans hb.1)]
  unfold cN
  rw [List.getElem?_map, List.getElem?_range h1, Option.map_some, Option.getD_some, h2]
  unfold pmL cntL
  rw [dot_zip]
  refine congrArg List.sum (List.map_congr_left fun p hp => ?_)
  have hc := hb.2 p.2 (List.of_mem_zip hp).2
  have : oddW (lotW k w) p.1 = 0 ∨ oddW (lotW k w) p.1 = 1 := by unfold oddW; omega
  rcases this with e | e <;> rcases hc with e2 | e2 <;> rw [e, e2] <;> decide
theorem fold_sum {α : Type} (f : α → Int) : ∀ (l : List α) (b : Int), l.foldl (fun b a => b + f a) b = b + (l.map f).sum
  | [], b => by simp
  | a :: l, b => by rw [List.foldl_cons, fold_sum f l, List.map_cons, List.sum_cons]; omega
theorem natI_map (l : List Nat) : (natI l).map PyData.int = l.map fun p : Nat => PyData.int (p : Int) := by unfold natI; rw [List.map_map]; rfl
theorem lotW_snoc (i : Nat) (w : List Int) (hw : w.length = i) (b : Int) : lotW (i + 1) (w ++ [b]) = lotW i w ++ (if b = 1 then [i] else []) := by
  unfold lotW
  rw [List.range_succ, List.filter_append]
  have e1 : (List.range i).filter (fun p => decide (cN (w ++ [b]) p = 1)) = (List.range i).filter (fun p => decide (cN w p = 1)) := List.filter_congr fun p hp => by
    unfold cN
    rw [List.getElem?_append_left (by have := List.mem_range.mp hp; omega)]
  have e2 : cN (w ++ [b]) i = b := by
    unfold cN
    rw [List.getElem?_append_right (by omega), hw, Nat.sub_self]
    rfl
  rw [e1, List.filter_cons, e2]
  by_cases h : b = 1 <;> simp [h]
section
variable {fs : List DF} {Gc : Nat → Option P} {n mixed lotSums lotMask lotSum ofSums counted places lawPlaces rows mask draw lot : Nat} {S : Sto} {k : Nat} {cells w : List Int}
theorem call_lotMask (h1 : fs[mask]? = some ⟨2, 2, cMask⟩) (h2 : fs[lotMask]? = some ⟨3, 2, cLotMask mask⟩) (hk : k ≤ 12) {Q : D × Sto → Prop} (q : Q (.p (.int (maskW k w : Nat)), S)) : WO (callD (run fs Gc (n + 2)) lotMask 0 [.p (.int (k : Int)), .p (tupI (natI (lotW k w)))] S) Q := by
  have wp : wpF (run fs Gc (n + 1)) Gc 3 2 (cLotMask mask) [.p (.int (k : Int)), .p (tupI (natI (lotW k w)))] [] fun d S' => d = .p (.int (maskW k w : Nat)) ∧ S' = [] := by
    have ll := lotW_len k w
    refine ⟨rfl, ?_⟩
    refine ⟨fits_ok (by show ((natI (lotW k w)).map PyData.int).length ≤ _; rw [natI_map, List.length_map]; omega), ?_⟩
    refine g_map (src := .it ((natI (lotW k w)).map PyData.int)) (fun p : Nat => PyData.int (p : Int)) (lotW k w) (fun p => .int ((2 ^ (k - 1 - p) : Nat) : Int)) (natI_map _) rfl (fun p hp => ?_) ?_
    · show WO (callD (run fs Gc (n + 1)) mask 0 [.p (.int (k : Int)), .p (.int (p : Int))] []) _
      exact call_mask h1 (lotW_lt hp) hk ⟨rfl, rfl⟩
    · show WO (biF .sum [.list ((lotW k w).map fun p => PyData.int ((2 ^ (k - 1 - p) : Nat) : Int))]) _
      have e : ((lotW k w).map fun p => PyData.int ((2 ^ (k - 1 - p) : Nat) : Int)) = (((lotW k w).map fun p => 2 ^ (k - 1 - p)).map fun n : Nat => (n : Int)).map PyData.int := by rw [List.map_map, List.map_map]; rfl
      rw [e]
      refine WO.mk (sum_of _) ?_
      rw [sum_cast]
      exact ⟨rfl, rfl⟩
  exact call_of (xs := [.int (k : Int), tupI (natI (lotW k w))]) (Z := fun _ _ => True) (run_w (n := n + 1) (Gc := Gc) h2 wp) q
theorem call_lotSum (h1 : fs[mask]? = some ⟨2, 2, cMask⟩) (h2 : fs[lotMask]? = some ⟨3, 2, cLotMask mask⟩) (h3 : fs[mixed]? = some ⟨7, 1, cMixed⟩) (h4 : fs[lotSums]? = some ⟨2, 1, cLotSums mixed⟩) (h5 : fs[places]? = some ⟨2, 1, cPlaces⟩) (h6 : fs[lotSum]? = some ⟨2, 2, cLotSum lotSums lotMask places⟩) (k1 : 1 ≤ k) (hk : k ≤ 6) (hb : BitsOk (2 ^ k) cells) (hw : w ∈ bitsL k) {Q : D × Sto → Prop}
    (q : Q (.p (.int (cntL k cells w)), S)) : WO (callD (run fs Gc (n + 3)) lotSum 0 [.p (tupI cells), .p (tupI (natI (lotW k w)))] S) Q := by
  have wp : wpF (run fs Gc (n + 2)) Gc 2 2 (cLotSum lotSums lotMask places) [.p (tupI cells), .p (tupI (natI (lotW k w)))] [] fun d S' => d = .p (.int (cntL k cells w)) ∧ S' = [] := by
    refine ⟨rfl, ?_⟩
    show WO (callD (run fs Gc (n + 2)) lotSums 0 [.p (tupI cells)] []) _
    refine call_lotSums h3 h4 hk hb.1 ?_
    show WO (callD (run fs Gc (n + 2)) places 0 [.p (tupI cells)] []) _
    refine call_places h5 k1 (by omega) hb.1 ?_
    show WO (callD (run fs Gc (n + 2)) lotMask 0 [.p (.int (k : Int)), .p (tupI (natI (lotW k w)))] []) _
    refine call_lotMask h1 h2 (by omega) ?_
    show WO (atI ((sumsL k cells).map PyData.int) (maskW k w : Nat)) _
    refine WO.mk (at_nat (by rw [sums_len hb.1]; exact (par_ok hk hw).1)) ?_
    rw [cnt_sum hk hb hw]
    exact ⟨rfl, rfl⟩
  exact call_of (xs := [tupI cells, tupI (natI (lotW k w))]) (Z := fun _ _ => True) (run_w (n := n + 2) (Gc := Gc) h6 wp) q
theorem call_ofSums (h3 : fs[mixed]? = some ⟨7, 1, cMixed⟩) (h6 : fs[ofSums]? = some ⟨2, 1, cOfSums mixed⟩) (hk : k ≤ 6) (hb : BitsOk (2 ^ k) cells) {Q : D × Sto → Prop} (q : Q (.p (tupI cells), S)) : WO (callD (run fs Gc (n + 2)) ofSums 0 [.p (tupI (sumsL k cells))] S) Q := by
  have p6 : 2 ^ k ≤ 64 := Nat.le_trans (Nat.pow_le_pow_right (by decide) hk) (by decide)
  have hpos : 0 < 2 ^ k := Nat.pow_pos (by decide)
  have wp : wpF (run fs Gc (n + 1)) Gc 2 1 (cOfSums mixed) [.p (tupI (sumsL k cells))] [] fun d S' => d = .p (tupI cells) ∧ S' = [] := by
    refine ⟨rfl, ?_⟩
    show WO (callD (run fs Gc (n + 1)) mixed 0 [.p (tupI (sumsL k cells))] []) _
    refine call_mixed h3 (.inl rfl) hk (sums_len hb.1) ?_
    have tw : mixL k (sumsL k cells) = cells.map fun c => ((2 ^ k : Nat) : Int) * (1 - 2 * c) := by
      unfold sumsL
      rw [mixL_twice hk ((pm_len cells).trans hb.1)]
      unfold pmL
      rw [List.map_map]
      rfl
    rw [tw]
    refine ⟨fits_ok (by show ((cells.map _).map PyData.int).length ≤ _; rw [List.length_map, List.length_map, hb.1]; omega), ?_⟩
    refine g_map (src := .it ((cells.map fun c => ((2 ^ k : Nat) : Int) * (1 - 2 * c)).map PyData.int)) (fun c : Int => PyData.int (((2 ^ k : Nat) : Int) * (1 - 2 * c))) cells PyData.int (by show (cells.map _).map PyData.int = _; rw [List.map_map]; rfl) rfl (fun c hc => ?_) ⟨rfl, rfl⟩
    refine ⟨?_, rfl⟩
    show D.p (.int (if decide (((2 ^ k : Nat) : Int) * (1 - 2 * c) < 0) = true then 1 else 0)) = _
    generalize 2 ^ k = N at hpos
    rcases hb.2 c hc with rfl | rfl
    · rw [if_neg (by rw [decide_eq_true_eq]; omega)]
    · rw [if_pos (by rw [decide_eq_true_eq]; omega)]
  exact call_of (xs := [tupI (sumsL k cells)]) (Z := fun _ _ => True) (run_w (n := n + 1) (Gc := Gc) h6 wp) q
theorem call_counted (h1 : fs[lawPlaces]? = some ⟨3, 1, cLawPlaces⟩) (h2 : fs[rows]? = some ⟨5, 1, cRows⟩) (h6 : fs[counted]? = some ⟨6, 2, cCounted rows lawPlaces⟩) (hk : k ≤ 6) (hb : BitsOk (2 ^ k) cells) {Q : D × Sto → Prop}
    (q : Q (.p (.int (cntL k cells w)), S)) : WO (callD (run fs Gc (n + 2)) counted 0 [.p (tupI cells), .p (tupI (natI (lotW k w)))] S) Q := by
  have wp : wpF (run fs Gc (n + 1)) Gc 6 2 (cCounted rows lawPlaces) [.p (tupI cells), .p (tupI (natI (lotW k w)))] [] fun d S' => d = .p (.int (cntL k cells w)) ∧ S' = [] := by
    have ll := lotW_len k w
    refine ⟨rfl, ?_⟩
    show wpSs (run fs Gc (n + 1)) Gc (.cons (.fors _ _ _) _) [some (.p (tupI cells)), some (.p (tupI (natI (lotW k w)))), some (.p (.int 0)), none, none, none] [] _
    refine wps_fold (.zp (.it ((bitsL k).map tupI)) (.it (cells.map PyData.int))) [] (fun p : List Int × Int => PyData.tuple [tupI p.1, .int p.2]) ((bitsL k).zip cells) (fun (b : Int) p => b + (if oddW (lotW k w) p.1 = p.2 then 1 else -1)) 0
      (fun b e s => s = [] ∧ ∃ x3 x4 x5, e = [some (.p (tupI cells)), some (.p (tupI (natI (lotW k w)))), some (.p (.int b)), x3, x4, x5]) (fun R r => wpI_zp ?_) (fun s => ?_) (fun _ => rfl) ⟨rfl, _, _, _, rfl⟩ ?_ ?_
    · show WO (callD (run fs Gc (n + 1)) lawPlaces 0 [.p (tupI cells)] []) _
      refine call_lawPlaces h1 (by omega) hb.1 ?_
      show WO (callD (run fs Gc (n + 1)) rows 0 [.p (.int (k : Int))] []) _
      refine call_rows (F := fun _ => run fs Gc n) h2 (by omega) ?_
      exact r
    · show (((bitsL k).map tupI).zip (cells.map PyData.int)).map _ = _
      rw [List.zip_map, List.map_map]
      rfl
    · rintro b p e s hp ⟨rfl, x3, x4, x5, rfl⟩
      obtain ⟨hr, hc⟩ := List.of_mem_zip hp
      obtain ⟨b1, b2⟩ := bitsL_row k p.1 hr
      refine WO.mk (a := [some (.p (tupI cells)), some (.p (tupI (natI (lotW k w)))), some (.p (.int b)), some (.p (tupI p.1)), some (.p (.int p.2)), x5]) rfl ?_
      refine ⟨fits_ok (by show ((natI (lotW k w)).map PyData.int).length ≤ _; rw [natI_map, List.length_map]; omega), ?_⟩
      refine g_map (src := .it ((natI (lotW k w)).map PyData.int)) (fun p : Nat => PyData.int (p : Int)) (lotW k w) (fun q => .int (cN p.1 q)) (natI_map _) rfl (fun q hq => ?_) ?_
      · show WO (atI (p.1.map PyData.int) (q : Int)) _
        exact WO.mk (at_nat (by rw [b1]; exact lotW_lt hq)) ⟨rfl, rfl⟩
      · show WO (biF .sum [.list ((lotW k w).map fun q => PyData.int (cN p.1 q))]) _
        have e : ((lotW k w).map fun q => PyData.int (cN p.1 q)) = ((lotW k w).map fun q => cN p.1 q).map PyData.int := by rw [List.map_map]; rfl
        rw [e]
        refine WO.mk (sum_of _) ?_
        refine ⟨by decide, fun hz => ?_, fun hz => ?_⟩
        · have hz : PyData.eqv (.int (oddW (lotW k w) p.1)) (.int p.2) = true := hz
          rw [eqv_int, decide_eq_true_eq] at hz
          refine ⟨.inl rfl, rfl, some (.p (tupI p.1)), some (.p (.int p.2)), x5, ?_⟩
          rw [if_pos hz]
          rfl
        · have hz : PyData.eqv (.int (oddW (lotW k w) p.1)) (.int p.2) = false := hz
          rw [eqv_int, decide_eq_false_iff_not] at hz
          refine ⟨.inl rfl, rfl, some (.p (tupI p.1)), some (.p (.int p.2)), x5, ?_⟩
          rw [if_neg hz]
          rfl
    · rintro e s ⟨rfl, x3, x4, x5, rfl⟩
      refine ⟨?_, rfl⟩
      rw [fold_sum, Int.zero_add]
      rfl
  exact call_of (xs := [tupI cells, tupI (natI (lotW k w))]) (Z := fun _ _ => True) (run_w (n := n + 1) (Gc := Gc) h6 wp) q
end
section
variable {fs : List DF} {Gc : Nat → Option P} {n draw lot : Nat} {k1 k2 k3 : Str} {g : List Int} {m t : Int} {rest : Sto} {Q : D × Sto → Prop}
theorem call_ulot (hd : DrawAt fs Gc k1 k2 k3 draw) (h2 : fs[lot]? = some ⟨3, 2, cLot draw⟩) (hr : RestOk rest) (hg : g.length ≤ 63) {k : Nat} (hk : k ≤ 12)
    (q : ∀ w g' m' t', w ∈ bitsL k → g'.length ≤ 63 → Q (.p (tupI (natI (lotW k w))), uS k1 k2 k3 g' m' t' rest)) : WO (callD (run fs Gc (n + 2)) lot 1 [.r 1, .p (.int (k : Int))] (uS k1 k2 k3 g m t rest)) Q := by
  have wp : wpF (run fs Gc (n + 1)) Gc 3 2 (cLot draw) [.r 1, .p (.int (k : Int))] (uS k1 k2 k3 g m t rest) fun d S => ∃ w g' m' t', w ∈ bitsL k ∧ d = .p (tupI (natI (lotW k w))) ∧ S = uS k1 k2 k3 g' m' t' rest ∧ g'.length ≤ 63 := by
    refine ⟨rfl, ?_⟩
    refine ⟨decide_eq_true (by omega), fits_ok (by show k ≤ _; omega), ?_⟩
    refine wp_lc (src := .rg 0 1 k) k (fun i a s => ∃ (g : List Int) (m t : Int) (w : List Int), s = uS k1 k2 k3 g m t rest ∧ g.length ≤ 63 ∧ a = (natI (lotW i w)).map PyData.int ∧ w.length = i ∧ IsBits w) rfl ⟨g, m, t, [], rfl, hg, rfl, rfl, fun o ho => by cases ho⟩ (fun a s _ => ⟨by simp [atS], rfl⟩) ?_ ?_
    · rintro i a s hi ⟨g, m, t, w, rfl, hg, rfl, hw, hwb⟩
      refine ⟨.int (0 + (i : Int) * 1), by simp [atS, hi], ?_⟩
      have e0 : (0 + (i : Int) * 1) = (i : Int) := by omega
      rw [e0]
      refine WO.mk (a := [some (.r 1), some (.p (.int (k : Int))), some (.p (.int (i : Int)))]) rfl ?_
      obtain ⟨v, g', m', t', v0, v1, hg', h3⟩ : ∃ v g' m' t', 0 ≤ v ∧ (v < 2 ∨ v = 0) ∧ g'.length ≤ 63 ∧ callD (run fs Gc (n + 1)) draw 1 [.r 1, .p (.int 2)] (uS k1 k2 k3 g m t rest) = some (.p (.int v), uS k1 k2 k3 g' m' t' rest) := by
        have := hd n g m t rest 2 (fun r => ∃ v g' m' t', 0 ≤ v ∧ (v < 2 ∨ v = 0) ∧ g'.length ≤ 63 ∧ r = (.p (.int v), uS k1 k2 k3 g' m' t' rest)) hr hg (by decide) fun v g' m' t' a1 a2 a3 => ⟨v, g', m', t', a1, a2, a3, rfl⟩
        obtain ⟨r, h1, v, g', m', t', a1, a2, a3, rfl⟩ := this.ex
        exact ⟨v, g', m', t', a1, a2, a3, h1⟩
      have hc : condD (.cmp .Eq (.cal draw 1 (.cons (.var 0) (.cons (.cint 2) .nil))) (.cint 0)) (denE (run fs Gc (n + 1)) Gc (.cmp .Eq (.cal draw 1 (.cons (.var 0) (.cons (.cint 2) .nil))) (.cint 0)) [some (.r 1), some (.p (.int (k : Int))), some (.p (.int (i : Int)))] (uS k1 k2 k3 g m t rest)) (uS k1 k2 k3 g m t rest) = some (decide (v = 0), uS k1 k2 k3 g' m' t' rest) := by
        have hcmp : cmpP .Eq (.int v) (.int 0) = some (decide (v = 0)) := eq_int v 0
        simp [condD, isNil, denE, denA, h3, snap, hcmp, asB]
      refine ⟨decide (v = 0), _, hc, fun hz => ?_, fun hz => ?_⟩
      · refine ⟨.int (i : Int), rfl, g', m', t', w ++ [1], rfl, hg', ?_, by rw [List.length_append, hw]; rfl, bits_snoc hwb (.inr rfl)⟩
        rw [lotW_snoc i w hw 1, if_pos rfl]
        unfold natI
        rw [List.map_append, List.map_append]
        rfl
      · refine ⟨g', m', t', w ++ [0], rfl, hg', ?_, by rw [List.length_append, hw]; rfl, bits_snoc hwb (.inl rfl)⟩
        rw [lotW_snoc i w hw 0, if_neg (by decide), List.append_nil]
    · rintro a s ⟨g, m, t, w, rfl, hg, rfl, hw, hwb⟩
      exact ⟨w, g, m, t, (bitsL_mem k w).mpr ⟨hw, hwb⟩, rfl, rfl, hg⟩
  obtain ⟨d, S', h3, w, g', m', t', hw, rfl, rfl, hg'⟩ := run_w (n := n + 1) (Gc := Gc) h2 wp
  exact call_u (R := fun d => ∃ w, w ∈ bitsL k ∧ d = .p (tupI (natI (lotW k w)))) hr ⟨_, _, h3, g', m', t', [], by rw [List.append_nil], hg', _, rfl, w, hw, rfl⟩ fun d' g' m' t' ⟨w, hw, e⟩ h6 => by
    rw [e]; exact q w g' m' t' hw h6
end
end DS
set_option maxRecDepth 100000
set_option maxHeartbeats 4000000
set_option exponentiation.threshold 10000
namespace DS
open PySem L2
def cCommon : C := (.cons (.whl 1000 (.cmp .NotEq (.var 1) (.cint 0)) (.cons (.par [0, 1] (.cons (.var 1) (.cons (.bin .Mod (.bi .int1 (.cons (.var 0) .nil)) (.bi .int1 (.cons (.var 1) .nil))) .nil))) .nil)) (.cons (.ret (.var 0)) .nil))
def cFraction (common : Nat) : C := (.cons (.asg (.tnm 2) (.cal common 0 (.cons (.bi .abs (.cons (.var 0) .nil)) (.cons (.var 1) .nil)))) (.cons (.ret (.tup (.cons (.bin .FloorDiv (.var 0) (.var 2)) (.cons (.bin .FloorDiv (.var 1) (.var 2)) .nil)))) .nil))
def cSumOf (fraction : Nat) : C := (.cons (.ret (.cal fraction 0 (.cons (.bin .Add (.bin .Mult (.ix (.var 0) (.cint 0)) (.ix (.var 1) (.cint 1))) (.bin .Mult (.ix (.var 1) (.cint 0)) (.ix (.var 0) (.cint 1)))) (.cons (.bin .Mult (.ix (.var 0) (.cint 1)) (.ix (.var 1) (.cint 1))) .nil)))) .nil)
def cPart : C := (.cons (.par [2, 3] (.cons (.bi .abs (.cons (.var 0) .nil)) (.cons (.var 1) .nil))) (.cons (.whl 1000 (.cmp .Gt (.var 3) (.cint 0)) (.cons (.par [2, 3] (.cons (.var 3) (.cons (.bin .Mod (.var 2) (.var 3)) .nil))) .nil)) (.cons (.ret (.tup (.cons (.bin .FloorDiv (.var 0) (.var 2)) (.cons (.bin .FloorDiv (.var 1) (.var 2)) .nil)))) .nil)))
def cShare (one dip part : Nat) : C := (.cons (.asg (.tnm 2) (.cal one 1 (.cons (.var 0) (.cons (.lst (.cons (.cint 1) (.cons (.cint 2) (.cons (.cint 3) (.cons (.cint 4) (.cons (.cint 10) (.cons (.var 1) (.cons (.bin .Add (.cint 1) (.cal dip 1 (.cons (.var 0) (.cons (.var 1) .nil)))) .nil)))))))) .nil)))) (.cons (.asg (.tnm 3) (.lst (.cons (.cal dip 1 (.cons (.var 0) (.cons (.bin .Add (.var 2) (.cint 1)) .nil))) (.cons (.cal dip 1 (.cons (.var 0) (.cons (.bin .Add (.var 2) (.cint 1)) .nil))) .nil)))) (.cons (.asg (.tnm 4) (.cal one 1 (.cons (.var 0) (.cons (.bin .Add (.var 3) (.lst (.cons (.cint 0) (.cons (.var 2) (.cons (.bin .Sub (.var 2) (.cint 1)) (.cons (.cint 1) .nil)))))) .nil)))) (.cons (.ret (.cal part 0 (.cons (.var 4) (.cons (.var 2) .nil)))) .nil))))
def muE (x y : Nat) : Nat := if y = 0 then 0 else 2 * (x * y).log2 + (if x < y then 1 else 0) + 1
theorem log2_lt_of {n k : Nat} (h : n < 2 ^ k) (hk : 0 < k) : n.log2 < k := by
  by_cases z : n = 0
  · subst z; simpa using hk
  · exact (Nat.log2_lt z).mpr h
theorem mu_step {x y : Nat} (hy : y ≠ 0) : muE y (x % y) < muE x y := by
  unfold muE
  rw [if_neg hy]
  by_cases hr : x % y = 0
  · rw [if_pos hr]; omega
  · rw [if_neg hr]
    have hlt := Nat.mod_lt x (Nat.pos_of_ne_zero hy)
    rw [if_neg (show ¬ y < x % y by omega)]
    by_cases hxy : x < y
    · rw [if_pos hxy, Nat.mod_eq_of_lt hxy, Nat.mul_comm y x]; omega
    · have hge : y + x % y ≤ x := by
        have h1 := Nat.div_add_mod x y
        have h2 : 1 ≤ x / y := Nat.div_pos (by omega) (by omega)
        have h3 : y * 1 ≤ y * (x / y) := Nat.mul_le_mul_left y h2
        omega
      have hp : 0 < y * (x % y) := Nat.mul_pos (by omega) (by omega)
      have h4 : 2 * (y * (x % y)) ≤ x * y := by
        have : (x % y * 2) * y ≤ x * y := Nat.mul_le_mul_right y (by omega)
        rw [Nat.mul_comm (x % y) 2, Nat.mul_assoc, Nat.mul_comm (x % y) y] at this
        exact this
      have h2 : 2 ^ ((y * (x % y)).log2 + 1) ≤ x * y := by
        have h3 := Nat.log2_self_le (Nat.ne_of_gt hp)
        rw [Nat.pow_succ, Nat.mul_comm]
        exact Nat.le_trans (Nat.mul_le_mul_left 2 h3) h4
      have h6 : x * y ≠ 0 := by
        intro z
        rw [z] at h4
        have := Nat.le_zero.mp h4
        have h7 : y * (x % y) = 0 := by
          generalize y * (x % y) = p at this
          omega
        rw [h7] at hp
        exact absurd hp (Nat.lt_irrefl 0)
      have h5 := (Nat.le_log2 h6).mpr h2
      omega
theorem mu_bound {x y : Nat} (h : x * y < 2 ^ 490) : muE x y < 1000 := by
  unfold muE
  have := log2_lt_of h (by decide)
  split
  · decide
  · split <;> omega
def fr (x : Int) (y : Nat) : P := .tuple [.int (x / ((Nat.gcd x.natAbs y : Nat) : Int)), .int ((y / Nat.gcd x.natAbs y : Nat) : Int)]
theorem fr_scale {x : Int} {y c : Nat} (hc : 0 < c) : fr (x * (c : Int)) (y * c) = fr x y := by
  unfold fr
  have e : Nat.gcd (x * (c : Int)).natAbs (y * c) = Nat.gcd x.natAbs y * c := by
    rw [Int.natAbs_mul, Int.natAbs_natCast, Nat.gcd_mul_right]
  rw [e, Nat.mul_div_mul_right _ _ hc, Int.natCast_mul, Int.mul_ediv_mul_of_pos_left _ _ (by omega)]
theorem gcd_parts {x : Int} {y : Nat} (hy : 0 < y) : ∃ (g : Nat) (a : Int) (b : Nat), 0 < g ∧ x = a * (g : Int) ∧ y = b * g ∧ 0 < b ∧ fr x y = .tuple [.int a, .int (b : Int)] ∧ a = x / ((Nat.gcd x.natAbs y : Nat) : Int) ∧ b = y / Nat.gcd x.natAbs y := by
  have hg : 0 < Nat.gcd x.natAbs y := Nat.gcd_pos_of_pos_right _ hy
  have d1 : ((Nat.gcd x.natAbs y : Nat) : Int) ∣ x := by
    rw [Int.ofNat_dvd_left]
    exact Nat.gcd_dvd_left _ _
  have d2 : Nat.gcd x.natAbs y ∣ y := Nat.gcd_dvd_right _ _
  refine ⟨Nat.gcd x.natAbs y, x / ((Nat.gcd x.natAbs y : Nat) : Int), y / Nat.gcd x.natAbs y, hg, (Int.ediv_mul_cancel d1).symm, (Nat.div_mul_cancel d2).symm, Nat.div_pos (Nat.le_of_dvd hy d2) hg, rfl, rfl, rfl⟩
theorem fr_add {x z a c : Int} {y w b d g h : Nat} (hg : 0 < g) (hh : 0 < h) (ex : x = a * (g : Int)) (ey : y = b * g) (ez : z = c * (h : Int)) (ew : w = d * h) : fr (a * (d : Int) + c * (b : Int)) (b * d) = fr (x * (w : Int) + z * (y : Int)) (y * w) := by
  have e1 : x * (w : Int) + z * (y : Int) = (a * (d : Int) + c * (b : Int)) * ((g * h : Nat) : Int) := by
    subst ex ey ez ew
    simp only [Int.natCast_mul]
    rw [Int.add_mul]
    congr 1
    · simp only [Int.mul_assoc, Int.mul_left_comm, Int.mul_comm]
    · simp only [Int.mul_assoc, Int.mul_left_comm, Int.mul_comm]
  have e2 : y * w = b * d * (g * h) := by
    subst ey ew
    simp only [Nat.mul_assoc, Nat.mul_left_comm, Nat.mul_comm]
  rw [e1, e2, fr_scale (Nat.mul_pos hg hh)]
section
variable (F : FT) (Gc : Nat → Option P)
theorem common_w (a b : Nat) (hab : a * b < 2 ^ 490) (S : Sto) : wpF F Gc 2 2 cCommon [.p (.int (a : Int)), .p (.int (b : Int))] S fun d S' => d = .p (.int ((Nat.gcd a b : Nat) : Int)) ∧ S' = S := by
  refine ⟨rfl, ?_⟩
  refine wps_whl (muE a b) (fun m e s => ∃ x y : Nat, s = S ∧ Nat.gcd x y = Nat.gcd a b ∧ m = muE x y ∧ e = [some (.p (.int (x : Int))), some (.p (.int (y : Int)))]) (fun e s => s = S ∧ ∃ y, e = [some (.p (.int ((Nat.gcd a b : Nat) : Int))), y]) (mu_bound hab) ⟨a, b, rfl, rfl, rfl, rfl⟩ ?_ ?_
  · rintro m e s ⟨x, y, rfl, hgc, rfl, rfl⟩
    refine ⟨fun h => ?_, fun h => ?_⟩
    · have h : (!PyData.eqv (.int (y : Int)) (.int 0)) = true := h
      rw [neI, decide_eq_true_eq] at h
      have hy : y ≠ 0 := by omega
      refine ⟨by omega, .inl rfl, _, mu_step hy, y, x % y, rfl, ?_, rfl, ?_⟩
      · rw [← hgc, Nat.gcd_comm x y, Nat.gcd_rec y x]
        exact Nat.gcd_comm _ _
      · rfl
    · have h : (!PyData.eqv (.int (y : Int)) (.int 0)) = false := h
      rw [neI, decide_eq_false_iff_not] at h
      have hy : y = 0 := by omega
      subst hy
      rw [Nat.gcd_zero_right] at hgc
      subst hgc
      exact ⟨rfl, _, rfl⟩
  · rintro e s ⟨rfl, y, rfl⟩
    exact ⟨rfl, rfl⟩
theorem abs_nat (x : Int) : (if x < 0 then -x else x) = (x.natAbs : Int) := by split <;> omega
theorem part_w (x : Int) (y : Nat) (hy : 0 < y) (hxy : x.natAbs * y < 2 ^ 490) (hl : y.log2 < 9000) (S : Sto) : wpF F Gc 4 2 cPart [.p (.int x), .p (.int (y : Int))] S fun d S' => d = .p (fr x y) ∧ S' = S := by
  refine ⟨rfl, ?_⟩
  show wpSs F Gc (.cons (.whl _ _ _) _) [some (.p (.int x)), some (.p (.int (y : Int))), some (.p (.int (if x < 0 then -x else x))), some (.p (.int (y : Int)))] S _
  rw [abs_nat]
  generalize hg : Nat.gcd x.natAbs y = g
  have g0 : 0 < g := by rw [← hg]; exact Nat.gcd_pos_of_pos_right _ hy
  have gl : g.log2 < 9000 := by
    have : g ≤ y := by rw [← hg]; exact Nat.le_of_dvd hy (Nat.gcd_dvd_right _ _)
    refine log2_lt_of (Nat.lt_of_le_of_lt this ?_) (by decide)
    by_cases z : y = 0
    · omega
    · exact (Nat.log2_lt z).mp hl
  refine wps_whl (muE x.natAbs y) (fun m e s => ∃ u v : Nat, s = S ∧ Nat.gcd u v = g ∧ m = muE u v ∧ e = [some (.p (.int x)), some (.p (.int (y : Int))), some (.p (.int (u : Int))), some (.p (.int (v : Int)))]) (fun e s => s = S ∧ ∃ v, e = [some (.p (.int x)), some (.p (.int (y : Int))), some (.p (.int (g : Int))), v]) (mu_bound hxy) ⟨_, y, rfl, hg, rfl, rfl⟩ ?_ ?_
  · rintro m e s ⟨u, v, rfl, hgc, rfl, rfl⟩
    refine ⟨fun h => ?_, fun h => ?_⟩
    · have h := of_decide_eq_true h
      have h : (0 : Int) < (v : Int) := h
      have hv : v ≠ 0 := by omega
      refine ⟨by omega, .inl rfl, _, mu_step hv, v, u % v, rfl, ?_, rfl, rfl⟩
      rw [← hgc, Nat.gcd_comm u v, Nat.gcd_rec v u]
      exact Nat.gcd_comm _ _
    · have h := of_decide_eq_false h
      have h : ¬ (0 : Int) < (v : Int) := h
      have hv : v = 0 := by omega
      subst hv
      rw [Nat.gcd_zero_right] at hgc
      subst hgc
      exact ⟨rfl, _, rfl⟩
  · rintro e s ⟨rfl, v, rfl⟩
    refine ⟨⟨by omega, .inr gl⟩, ⟨by omega, .inr gl⟩, rfl, ?_, rfl⟩
    unfold fr
    rw [hg]
    rfl
end
section
variable {fs : List DF} {Gc : Nat → Option P} {n common fraction sumOf part one dip share : Nat} {S : Sto} {Q : D × Sto → Prop}
theorem call_part (h : fs[part]? = some ⟨4, 2, cPart⟩) {x : Int} {y : Nat} (hy : 0 < y) (hxy : x.natAbs * y < 2 ^ 490) (hl : y.log2 < 9000) (q : Q (.p (fr x y), S)) : WO (callD (run fs Gc (n + 1)) part 0 [.p (.int x), .p (.int (y : Int))] S) Q :=
  call_of (xs := [.int x, .int (y : Int)]) (Z := fun _ _ => True) (run_w (n := n) (Gc := Gc) h (part_w (run fs Gc n) Gc x y hy hxy hl [])) q
theorem call_fraction (h : fs[common]? = some ⟨2, 2, cCommon⟩) (h2 : fs[fraction]? = some ⟨3, 2, cFraction common⟩) {x : Int} {y : Nat} (hy : 0 < y) (hxy : x.natAbs * y < 2 ^ 490) (hl : y.log2 < 9000) (q : Q (.p (fr x y), S)) : WO (callD (run fs Gc (n + 2)) fraction 0 [.p (.int x), .p (.int (y : Int))] S) Q := by
  have wp : wpF (run fs Gc (n + 1)) Gc 3 2 (cFraction common) [.p (.int x), .p (.int (y : Int))] [] fun d S' => d = .p (fr x y) ∧ S' = [] := by
    have g0 : 0 < Nat.gcd x.natAbs y := Nat.gcd_pos_of_pos_right _ hy
    have gl : (Nat.gcd x.natAbs y).log2 < 9000 := by
      have : Nat.gcd x.natAbs y ≤ y := Nat.le_of_dvd hy (Nat.gcd_dvd_right _ _)
      refine log2_lt_of (Nat.lt_of_le_of_lt this ?_) (by decide)
      exact (Nat.log2_lt (by omega)).mp hl
    refine ⟨rfl, ?_⟩
    show WO (callD (run fs Gc (n + 1)) common 0 [.p (.int (if x < 0 then -x else x)), .p (.int (y : Int))] []) _
    rw [abs_nat]
    refine call_of (xs := [.int (x.natAbs : Int), .int (y : Int)]) (Z := fun _ _ => True) (run_w (n := n) (Gc := Gc) h (common_w (run fs Gc n) Gc x.natAbs y hxy [])) ?_
    exact ⟨⟨by omega, .inr gl⟩, ⟨by omega, .inr gl⟩, rfl, rfl, rfl⟩
  exact call_of (xs := [.int x, .int (y : Int)]) (Z := fun _ _ => True) (run_w (n := n + 1) (Gc := Gc) h2 wp) q
end
end DS
set_option maxRecDepth 100000
set_option maxHeartbeats 4000000
namespace DS
open PySem L2
theorem callD_excl {F : FT} {f mode : Nat} {ds : List D} {S : Sto} {r r' : D × Sto} (hF : ∀ ds S r r', F f ds S = some r → F (f + XN) ds S = some r' → False) (h : callD F f mode ds S = some r) (h2 : callD F (f + XN) mode ds S = some r') : False := by
  unfold callD at h h2
  split at h
  · simp only [Option.bind_eq_some_iff, Option.map_eq_some_iff] at h h2
    obtain ⟨xs, e1, r1, e2, _⟩ := h
    obtain ⟨ys, e3, r2, e4, _⟩ := h2
    rw [e1] at e3
    cases e3
    exact hF _ _ _ _ e2 e4
  · simp only [Option.bind_eq_some_iff] at h h2
    obtain ⟨r1, e2, _⟩ := h
    obtain ⟨r2, e4, _⟩ := h2
    exact hF _ _ _ _ e2 e4
  · rename_i m h1 h2'
    split at h2
    · exact absurd rfl h1
    · exact absurd rfl h2'
    · exact hF _ _ _ _ h h2
section
variable {F : FT} {G : Nat → Option P} (hF : ∀ f ds S r r', F f ds S = some r → F (f + XN) ds S = some r' → False)
include hF
theorem excl (c : C) : (∀ env S r, rxE F G c env S = some r → ∀ d, denE F G c env S = some d → False) ∧ (∀ env S r, rxA F G c env S = some r → ∀ d, denA F G c env S = some d → False) ∧
    (∀ env S r, rxS F G c env S = some r → ∀ d, denS F G c env S = some d → False) ∧ (∀ env S r, rxSs F G c env S = some r → ∀ d, denSs F G c env S = some d → False) := by
  induction c with
  | cons a b ha hb =>
    refine ⟨fun _ _ _ h => (by cases h), fun env S r h d hd => ?_, fun _ _ _ h => (by cases h), fun env S r h d hd => ?_⟩
    · simp only [rxA] at h
      simp only [denA, Option.bind_eq_some_iff, Option.map_eq_some_iff] at hd
      obtain ⟨p, e1, q, e2, _⟩ := hd
      split at h
      · rename_i S1 h1
        exact ha.1 _ _ _ h1 _ e1
      · rw [e1] at h
        exact hb.2.1 _ _ _ h _ e2
    · simp only [rxSs] at h
      simp only [denSs, Option.bind_eq_some_iff] at hd
      obtain ⟨p, e1, e2⟩ := hd
      split at h
      · rename_i S1 h1
        exact ha.2.2.1 _ _ _ h1 _ e1
      · rw [e1] at h
        obtain ⟨f1, en, S1⟩ := p
        cases f1 with
        | nx => exact hb.2.2.2 _ _ _ h _ e2
        | _ => cases h
  | cal f m es _ =>
    refine ⟨fun env S r h d hd => ?_, fun _ _ _ h => (by cases h), fun _ _ _ h => (by cases h), fun _ _ _ h => (by cases h)⟩
    simp only [rxE, Option.bind_eq_some_iff, Option.map_eq_some_iff] at h
    simp only [denE, Option.bind_eq_some_iff] at hd
    obtain ⟨p, e1, q, e2, _⟩ := h
    obtain ⟨p2, e3, e4⟩ := hd
    rw [e1] at e3
    cases e3
    exact callD_excl (hF f) e4 e2
  | cak f m es ks perm _ _ =>
    refine ⟨fun env S r h d hd => ?_, fun _ _ _ h => (by cases h), fun _ _ _ h => (by cases h), fun _ _ _ h => (by cases h)⟩
    simp only [rxE, Option.bind_eq_some_iff, Option.map_eq_some_iff] at h
    simp only [denE, Option.bind_eq_some_iff] at hd
    obtain ⟨p, e1, p1, e5, ds, e6, q, e2, _⟩ := h
    obtain ⟨p2, e3, p3, e7, ds2, e8, e4⟩ := hd
    rw [e1] at e3
    cases e3
    rw [e5] at e7
    cases e7
    rw [e6] at e8
    cases e8
    exact callD_excl (hF f) e4 e2
  | ite c a b hc ha hb =>
    refine ⟨fun env S r h d hd => ?_, fun _ _ _ h => (by cases h), fun _ _ _ h => (by cases h), fun _ _ _ h => (by cases h)⟩
    simp only [rxE, Option.bind_eq_some_iff] at h
    simp only [denE, Option.bind_eq_some_iff] at hd
    obtain ⟨⟨p, S1⟩, e1, e2⟩ := h
    obtain ⟨p2, e3, e4⟩ := hd
    rw [e1] at e3
    cases e3
    cases p with
    | true => exact ha.1 _ _ _ e2 _ e4
    | false => exact hb.1 _ _ _ e2 _ e4
  | tup es ha =>
    refine ⟨fun env S r h d hd => ?_, fun _ _ _ h => (by cases h), fun _ _ _ h => (by cases h), fun _ _ _ h => (by cases h)⟩
    simp only [denE, Option.bind_eq_some_iff] at hd
    obtain ⟨p, e1, _⟩ := hd
    exact ha.2.1 _ _ _ h _ e1
  | lst es ha =>
    refine ⟨fun env S r h d hd => ?_, fun _ _ _ h => (by cases h), fun _ _ _ h => (by cases h), fun _ _ _ h => (by cases h)⟩
    simp only [denE, Option.bind_eq_some_iff] at hd
    obtain ⟨p, e1, _⟩ := hd
    exact ha.2.1 _ _ _ h _ e1
  | rsx => exact ⟨fun _ _ _ h => (by cases h), fun _ _ _ h => (by cases h), fun _ _ _ _ _ h => (by cases h), fun _ _ _ h => (by cases h)⟩
  | ex e he =>
    refine ⟨fun _ _ _ h => (by cases h), fun _ _ _ h => (by cases h), fun env S r h d hd => ?_, fun _ _ _ h => (by cases h)⟩
    obtain ⟨p, e1, _⟩ := Option.map_eq_some_iff.mp (show (rxE F G e env S).map _ = some r from h)
    obtain ⟨q, e2, _⟩ := Option.map_eq_some_iff.mp (show (denE F G e env S).map _ = some d from hd)
    exact he.1 _ _ _ e1 _ e2
  | ret e he =>
    refine ⟨fun _ _ _ h => (by cases h), fun _ _ _ h => (by cases h), fun env S r h d hd => ?_, fun _ _ _ h => (by cases h)⟩
    obtain ⟨p, e1, _⟩ := Option.map_eq_some_iff.mp (show (rxE F G e env S).map _ = some r from h)
    obtain ⟨q, e2, _⟩ := Option.map_eq_some_iff.mp (show (denE F G e env S).map _ = some d from hd)
    exact he.1 _ _ _ e1 _ e2
  | asg t e _ he =>
    refine ⟨fun _ _ _ h => (by cases h), fun _ _ _ h => (by cases h), fun env S r h d hd => ?_, fun _ _ _ h => (by cases h)⟩
    obtain ⟨p, e1, _⟩ := Option.map_eq_some_iff.mp (show (rxE F G e env S).map _ = some r from h)
    obtain ⟨q, e2, _⟩ := Option.bind_eq_some_iff.mp (show (denE F G e env S).bind _ = some d from hd)
    exact he.1 _ _ _ e1 _ e2
  | ifs c a b hc ha hb =>
    refine ⟨fun _ _ _ h => (by cases h), fun _ _ _ h => (by cases h), fun env S r h d hd => ?_, fun _ _ _ h => (by cases h)⟩
    simp only [rxS, Option.bind_eq_some_iff] at h
    simp only [denS, Option.bind_eq_some_iff] at hd
    obtain ⟨⟨p, S1⟩, e1, e2⟩ := h
    obtain ⟨p2, e3, e4⟩ := hd
    rw [e1] at e3
    cases e3
    cases p with
    | true => exact ha.2.2.2 _ _ _ e2 _ e4
    | false => exact hb.2.2.2 _ _ _ e2 _ e4
  | _ => exact ⟨fun _ _ _ h => (by cases h), fun _ _ _ h => (by cases h), fun _ _ _ h => (by cases h), fun _ _ _ h => (by cases h)⟩
end
theorem run_excl {fs : List DF} {Gc : Nat → Option P} (hl : fs.length ≤ XN) : ∀ n f ds S r r', run fs Gc n f ds S = some r → run fs Gc n (f + XN) ds S = some r' → False := by
  intro n
  induction n with
  | zero => intro f ds S r r' h; cases h
  | succ n ih =>
    intro f ds S r r' h h2
    cases hf : fs[f]? with
    | some d =>
      rw [run_at hf] at h
      rw [run_x hf hl] at h2
      simp only [denF] at h
      simp only [rxF] at h2
      split at h
      · rename_i hk
        rw [if_pos hk] at h2
        obtain ⟨p, e1, _⟩ := Option.bind_eq_some_iff.mp h
        obtain ⟨q, e2, _⟩ := Option.map_eq_some_iff.mp h2
        exact (excl (G := Gc) (ih) d.body).2.2.2 _ _ _ e2 _ e1
      · cases h
    | none =>
      have h1 : fs[f + XN]? = none := by
        rw [List.getElem?_eq_none_iff] at hf ⊢
        omega
      have e : run fs Gc (n + 1) (f + XN) ds S = none := by
        show (match fs[f + XN]? with
          | some d => denF (run fs Gc n) Gc d.n d.k d.body ds S
          | none => if XN ≤ f + XN then match fs[f + XN - XN]? with
            | some d => rxF (run fs Gc n) Gc d.n d.k d.body ds S
            | none => none
            else none) = _
        rw [h1, show f + XN - XN = f by omega, hf]
        exact if_pos (by omega)
      rw [e] at h2
      cases h2
section
variable (F : FT) (G : Nat → Option P)
mutual
def xwE : C → DEnv → Sto → (Sto → Prop) → Prop
  | .cal f m es, env, S, Q => wpA F G es env S fun ds S1 => WO (callD F (f + XN) m ds S1) fun r => Q r.2
  | .cak f m es ks perm, env, S, Q => wpA F G es env S fun ds S1 => wpA F G ks env S1 fun es S2 => WO (permD perm (ds ++ es)) fun ds => WO (callD F (f + XN) m ds S2) fun r => Q r.2
  | .ite c a b, env, S, Q => wpE F G c env S fun d S1 => wB d (xwE a env S1 Q) (xwE b env S1 Q)
  | .tup es, env, S, Q => xwA es env S Q
  | .lst es, env, S, Q => xwA es env S Q
  | _, _, _, _ => False
def xwA : C → DEnv → Sto → (Sto → Prop) → Prop
  | .cons a b, env, S, Q => xwE a env S Q ∨ wpE F G a env S fun _ S1 => xwA b env S1 Q
  | _, _, _, _ => False
end
mutual
def xwS : C → DEnv → Sto → (Sto → Prop) → Prop
  | .rsx, _, S, Q => Q S
  | .ex e, env, S, Q => xwE F G e env S Q
  | .asg _ e, env, S, Q => xwE F G e env S Q
  | .ret e, env, S, Q => xwE F G e env S Q
  | .ifs c a b, env, S, Q => wpE F G c env S fun d S1 => wB d (xwSs a env S1 Q) (xwSs b env S1 Q)
  | _, _, _, _ => False
def xwSs : C → DEnv → Sto → (Sto → Prop) → Prop
  | .cons a b, env, S, Q => xwS a env S Q ∨ wpS F G a env S fun f e1 S1 => f = .nx ∧ xwSs b e1 S1 Q
  | _, _, _, _ => False
end
variable (hF : ∀ f ds S r r', F f ds S = some r → F (f + XN) ds S = some r' → False)
include hF
theorem xw_ok (c : C) : (∀ env S Q, xwE F G c env S Q → ∃ S', rxE F G c env S = some S' ∧ Q S') ∧ (∀ env S Q, xwA F G c env S Q → ∃ S', rxA F G c env S = some S' ∧ Q S') ∧
    (∀ env S Q, xwS F G c env S Q → ∃ f e S', rxS F G c env S = some (f, e, S') ∧ Q S') ∧ (∀ env S Q, xwSs F G c env S Q → ∃ f e S', rxSs F G c env S = some (f, e, S') ∧ Q S') := by
  induction c with
  | cons a b ha hb =>
    refine ⟨fun _ _ _ h => h.elim, fun env S Q h => ?_, fun _ _ _ h => h.elim, fun env S Q h => ?_⟩
    · rcases h with h | h
      · obtain ⟨S', e, q⟩ := ha.1 _ _ _ h
        exact ⟨S', by simp only [rxA, e], q⟩
      · obtain ⟨d, S1, e, h⟩ := (wp_ok F G a).1 _ _ _ h
        obtain ⟨S', e2, q⟩ := hb.2.1 _ _ _ h
        have n : rxE F G a env S = none := by
          cases z : rxE F G a env S with
          | none => rfl
          | some r => exact ((excl hF a).1 _ _ _ z _ e).elim
        exact ⟨S', by simp only [rxA, n, e, Option.bind_some, e2], q⟩
    · rcases h with h | h
      · obtain ⟨f, en, S', e, q⟩ := ha.2.2.1 _ _ _ h
        exact ⟨f, en, S', by simp only [rxSs, e], q⟩
      · obtain ⟨f, e1, S1, e, rfl, h⟩ := (wpS_ok F G a).1 _ _ _ h
        obtain ⟨f2, en, S', e2, q⟩ := hb.2.2.2 _ _ _ h
        have n : rxS F G a env S = none := by
          cases z : rxS F G a env S with
          | none => rfl
          | some r => exact ((excl hF a).2.2.1 _ _ _ z _ e).elim
        exact ⟨f2, en, S', by simp only [rxSs, n, e, Option.bind_some, e2], q⟩
  | cal f m es _ =>
    refine ⟨fun env S Q h => ?_, fun _ _ _ h => h.elim, fun _ _ _ h => h.elim, fun _ _ _ h => h.elim⟩
    obtain ⟨ds, S1, e1, h⟩ := (wp_ok F G es).2.1 _ _ _ h
    obtain ⟨r, e2, q⟩ := WO.ex h
    exact ⟨r.2, by simp only [rxE, e1, Option.bind_some, e2, Option.map_some], q⟩
  | cak f m es ks perm _ _ =>
    refine ⟨fun env S Q h => ?_, fun _ _ _ h => h.elim, fun _ _ _ h => h.elim, fun _ _ _ h => h.elim⟩
    obtain ⟨ds, S1, e1, h⟩ := (wp_ok F G es).2.1 _ _ _ h
    obtain ⟨es2, S2, e2, h⟩ := (wp_ok F G ks).2.1 _ _ _ h
    obtain ⟨ds2, e3, h⟩ := WO.ex h
    obtain ⟨r, e4, q⟩ := WO.ex h
    exact ⟨r.2, by simp only [rxE, e1, e2, e3, Option.bind_some, e4, Option.map_some], q⟩
  | ite c a b hc ha hb =>
    refine ⟨fun env S Q h => ?_, fun _ _ _ h => h.elim, fun _ _ _ h => h.elim, fun _ _ _ h => h.elim⟩
    obtain ⟨d1, S1, e1, w⟩ := (wp_ok F G c).1 _ _ _ h
    obtain ⟨v, rfl, w1, w2⟩ := wB.ex w
    cases v with
    | true =>
      obtain ⟨S', e2, q⟩ := ha.1 _ _ _ (w1 rfl)
      exact ⟨S', by simp only [rxE, asB, e1, Option.bind_some, e2], q⟩
    | false =>
      obtain ⟨S', e2, q⟩ := hb.1 _ _ _ (w2 rfl)
      exact ⟨S', by simp only [rxE, asB, e1, Option.bind_some, e2], q⟩
  | tup es ha => exact ⟨fun env S Q h => ha.2.1 _ _ _ h, fun _ _ _ h => h.elim, fun _ _ _ h => h.elim, fun _ _ _ h => h.elim⟩
  | lst es ha => exact ⟨fun env S Q h => ha.2.1 _ _ _ h, fun _ _ _ h => h.elim, fun _ _ _ h => h.elim, fun _ _ _ h => h.elim⟩
  | rsx => exact ⟨fun _ _ _ h => h.elim, fun _ _ _ h => h.elim, fun env S Q h => ⟨_, _, S, rfl, h⟩, fun _ _ _ h => h.elim⟩
  | ex e he =>
    refine ⟨fun _ _ _ h => h.elim, fun _ _ _ h => h.elim, fun env S Q h => ?_, fun _ _ _ h => h.elim⟩
    obtain ⟨S', e1, q⟩ := he.1 _ _ _ h
    exact ⟨.nx, env, S', by simp only [rxS, e1, Option.map_some], q⟩
  | ret e he =>
    refine ⟨fun _ _ _ h => h.elim, fun _ _ _ h => h.elim, fun env S Q h => ?_, fun _ _ _ h => h.elim⟩
    obtain ⟨S', e1, q⟩ := he.1 _ _ _ h
    exact ⟨.nx, env, S', by simp only [rxS, e1, Option.map_some], q⟩
  | asg t e _ he =>
    refine ⟨fun _ _ _ h => h.elim, fun _ _ _ h => h.elim, fun env S Q h => ?_, fun _ _ _ h => h.elim⟩
    obtain ⟨S', e1, q⟩ := he.1 _ _ _ h
    exact ⟨.nx, env, S', by simp only [rxS, e1, Option.map_some], q⟩
  | ifs c a b hc ha hb =>
    refine ⟨fun _ _ _ h => h.elim, fun _ _ _ h => h.elim, fun env S Q h => ?_, fun _ _ _ h => h.elim⟩
    obtain ⟨d1, S1, e1, w⟩ := (wp_ok F G c).1 _ _ _ h
    obtain ⟨v, rfl, w1, w2⟩ := wB.ex w
    cases v with
    | true =>
      obtain ⟨f2, en, S', e2, q⟩ := ha.2.2.2 _ _ _ (w1 rfl)
      exact ⟨f2, en, S', by simp only [rxS, denT, asB, e1, Option.bind_some, e2], q⟩
    | false =>
      obtain ⟨f2, en, S', e2, q⟩ := hb.2.2.2 _ _ _ (w2 rfl)
      exact ⟨f2, en, S', by simp only [rxS, denT, asB, e1, Option.bind_some, e2], q⟩
  | _ => exact ⟨fun _ _ _ h => h.elim, fun _ _ _ h => h.elim, fun _ _ _ h => h.elim, fun _ _ _ h => h.elim⟩
theorem tri_x {b : C} {z : P} {env : DEnv} {S : Sto} {Q : Fl × DEnv × Sto → Prop} (h : xwSs F G b env S fun S' => ∀ e, Q (.rt (.p z), e, S')) : WO (denS F G (.tri b z) env S) Q := by
  obtain ⟨f, e, S', h1, q⟩ := (xw_ok F G hF b).2.2.2 _ _ _ h
  have n : denSs F G b env S = none := by
    cases y : denSs F G b env S with
    | none => rfl
    | some r => exact ((excl hF b).2.2.2 _ _ _ h1 _ y).elim
  exact WO.mk (a := (.rt (.p z), e, S')) (by simp only [denS, n, h1, Option.map_some]) (q e)
omit hF in
theorem tri_n {b : C} {z : P} {env : DEnv} {S : Sto} {Q : Fl × DEnv × Sto → Prop} (h : wpSs F G b env S fun f e S' => Q (f, e, S')) : WO (denS F G (.tri b z) env S) Q := by
  obtain ⟨f, e, S', h1, q⟩ := (wpS_ok F G b).2 _ _ _ h
  exact WO.mk (a := (f, e, S')) (by simp only [denS, h1]) q
theorem tra_x {b : C} {i : Nat} {z : P} {env : DEnv} {S : Sto} {Q : Fl × DEnv × Sto → Prop} (h : xwSs F G b env S fun S' => ∀ e, Q (.rt (.p z), e, S')) : WO (denS F G (.tra b i z) env S) Q := by
  obtain ⟨f, e, S', h1, q⟩ := (xw_ok F G hF b).2.2.2 _ _ _ h
  have n : denSs F G b env S = none := by
    cases y : denSs F G b env S with
    | none => rfl
    | some r => exact ((excl hF b).2.2.2 _ _ _ h1 _ y).elim
  exact WO.mk (a := (.rt (.p z), e, S')) (by simp only [denS, n, h1, Option.map_some]) (q e)
omit hF in
theorem tra_n {b : C} {i : Nat} {z : P} {env : DEnv} {S : Sto} {Q : Fl × DEnv × Sto → Prop} (h : wpSs F G b env S fun f e S' => Q (f, e, S')) : WO (denS F G (.tra b i z) env S) Q := by
  obtain ⟨f, e, S', h1, q⟩ := (wpS_ok F G b).2 _ _ _ h
  exact WO.mk (a := (f, e, S')) (by simp only [denS, h1]) q
end
theorem run_xw {fs : List DF} {Gc : Nat → Option P} {n f : Nat} {d : DF} {ds : List D} {S : Sto} {Q : Sto → Prop} (h : fs[f]? = some d) (hl : fs.length ≤ XN) (hk : ds.length = d.k) (w : xwSs (run fs Gc n) Gc d.body (ds.map some ++ List.replicate (d.n - d.k) none) S Q) :
    ∃ S', run fs Gc (n + 1) (f + XN) ds S = some (.p .none, S') ∧ Q S' := by
  obtain ⟨f1, e, S', h1, q⟩ := (xw_ok _ _ (run_excl hl n) d.body).2.2.2 _ _ _ w
  refine ⟨S', ?_, q⟩
  rw [run_x h hl]
  simp only [rxF, h1, if_pos hk, Option.map_some]
theorem call_xw {fs : List DF} {Gc : Nat → Option P} {n f : Nat} {d : DF} {xs : List P} {S : Sto} {Q : D × Sto → Prop} (h : fs[f]? = some d) (hl : fs.length ≤ XN) (hk : xs.length = d.k) (w : xwSs (run fs Gc n) Gc d.body ((xs.map D.p).map some ++ List.replicate (d.n - d.k) none) [] fun _ => True) (q : Q (.p .none, S)) :
    WO (callD (run fs Gc (n + 1)) (f + XN) 0 (xs.map D.p) S) Q := by
  obtain ⟨S', h1, _⟩ := run_xw (n := n) (Gc := Gc) h hl (by rw [List.length_map]; exact hk) w
  refine WO.mk (a := (.p .none, S)) ?_ q
  simp only [callD, pursD_p, Option.bind_some, h1]
  rfl
end DS
set_option maxRecDepth 100000
set_option maxHeartbeats 4000000
namespace k07
open PySem L2 DS
def tp (i : Nat) : Stmt := PySem.Challenge.pw_fullsense_k07_known_tables.main.body.getD i (.Pass ⟨0, 0, 0, 0⟩)
def c_0 : C := (.cons (.ret (.and (.isi "int" (.var 0)) (.not (.isi "bool" (.var 0))))) .nil)
def s_0 : SD := ⟨"is_integer", "is_integer", tp 5, ["value"], ["value"], ⟨1, 1, c_0⟩⟩
def c_1 : C := (.cons (.ret (.and (.cal 0 0 (.cons (.var 0) .nil)) (.and (.cmp .LtE (.var 1) (.var 0)) (.or (.cmp .Is (.var 2) .cnon) (.cmp .LtE (.var 0) (.var 2)))))) .nil)
def s_1 : SD := ⟨"is_whole", "is_whole", tp 6, ["value", "low", "high"], ["value", "low", "high"], ⟨3, 3, c_1⟩⟩
def c_2 : C := (.cons (.asg (.tnm 1) (.cint 0)) (.cons (.fors (.tnm 2) (.sq (.var 0)) (.cons (.asg (.tnm 1) (.bin .Add (.bin .Mult (.cint 2) (.var 1)) (.var 2))) .nil)) (.cons (.ret (.var 1)) .nil)))
def s_2 : SD := ⟨"number_of", "number_of", tp 8, ["row", "number", "bit"], ["row"], ⟨3, 1, c_2⟩⟩
def c_3 : C := (.cons (.ret (.bi .tup (.cons (.lc (.bin .BitAnd (.bin .RShift (.var 1) (.bin .Sub (.bin .Sub (.var 0) (.cint 1)) (.var 2))) (.cint 1)) (.tnm 2) (.rg1 (.var 0)) .nil [2]) .nil))) .nil)
def s_3 : SD := ⟨"row_of", "row_of", tp 9, ["many", "number", "place"], ["many", "number"], ⟨3, 2, c_3⟩⟩
def c_4 : C := (.cons (.ret (.lc (.cal 3 0 (.cons (.var 0) (.cons (.var 1) .nil))) (.tnm 1) (.rg1 (.bin .LShift (.cint 1) (.var 0))) .nil [1])) .nil)
def s_4 : SD := ⟨"all_rows", "all_rows", tp 10, ["many", "number"], ["many"], ⟨2, 1, c_4⟩⟩
def c_5 : C := (.cons (.ret (.tup (.cons (.cstr "all") (.cons (.cstr "any") (.cons (.cstr "first") (.cons (.cstr "halves") (.cons (.cstr "most") (.cons (.cstr "odd") (.cons (.cstr "pick") (.cons (.cstr "rise") .nil)))))))))) .nil)
def s_5 : SD := ⟨"known_words", "known_words", tp 12, [], [], ⟨0, 0, c_5⟩⟩
def c_6 : C := (.cons (.ifs (.cmp .Eq (.var 0) (.cstr "halves")) (.cons (.ret (.cmp .Eq (.bin .Mod (.bi .int1 (.cons (.var 1) .nil)) (.cint 2)) (.cint 0))) .nil) .nil) (.cons (.ifs (.cmp .Eq (.var 0) (.cstr "most")) (.cons (.ret (.cmp .Eq (.bin .Mod (.bi .int1 (.cons (.var 1) .nil)) (.cint 2)) (.cint 1))) .nil) .nil) (.cons (.ret (.or (.cmp .NotEq (.var 0) (.cstr "pick")) (.cmp .In (.var 1) (.tup (.cons (.cint 3) (.cons (.cint 6) .nil)))))) .nil)))
def s_6 : SD := ⟨"is_told", "is_told", tp 13, ["word", "many"], ["word", "many"], ⟨2, 2, c_6⟩⟩
def c_7 : C := (.cons (.ifs (.cmp .Eq (.bi .len (.cons (.var 0) .nil)) (.cint 3)) (.cons (.ret (.ix (.var 0) (.bin .Add (.cint 1) (.ix (.var 0) (.cint 0))))) .nil) .nil) (.cons (.ret (.ix (.var 0) (.bin .Add (.cint 2) (.cal 2 0 (.cons (.sl (.var 0) .nil (.cint 2)) .nil))))) .nil))
def s_7 : SD := ⟨"picked", "picked", tp 14, ["row"], ["row"], ⟨1, 1, c_7⟩⟩
def c_8 : C := (.cons (.asg (.tnm 1) (.bi .tup (.cons (.bi .srt (.cons (.var 0) .nil)) .nil))) (.cons (.ret (.cmp .In (.var 0) (.tup (.cons (.var 1) (.cons (.rvt (.var 1)) .nil))))) .nil))
def s_8 : SD := ⟨"goes_one_way", "goes_one_way", tp 15, ["row", "own"], ["row"], ⟨2, 1, c_8⟩⟩
def c_9 : C := (.cons (.par [2, 3] (.cons (.bi .len (.cons (.var 1) .nil)) (.cons (.bi .sum (.cons (.var 1) .nil)) .nil))) (.cons (.ifs (.cmp .Eq (.var 0) (.cstr "halves")) (.cons (.asg (.tnm 4) (.bin .FloorDiv (.var 2) (.cint 2))) (.cons (.ret (.bi .int1 (.cons (.bi .any (.cons (.lc (.cmp .Eq (.bin .Add (.ix (.var 1) (.var 5)) (.ix (.var 1) (.bin .Add (.var 4) (.var 5)))) (.cint 2)) (.tnm 5) (.rg1 (.var 4)) .nil [5]) .nil)) .nil))) .nil)) .nil) (.cons (.ifs (.cmp .Eq (.var 0) (.cstr "pick")) (.cons (.ret (.cal 7 0 (.cons (.var 1) .nil))) .nil) .nil) (.cons (.ifs (.cmp .Eq (.var 0) (.cstr "rise")) (.cons (.ret (.bi .int1 (.cons (.cal 8 0 (.cons (.var 1) .nil)) .nil))) .nil) .nil) (.cons (.ifs (.cmp .Eq (.var 0) (.cstr "first")) (.cons (.ret (.ix (.var 1) (.cint 0))) .nil) .nil) (.cons (.ifs (.cmp .Eq (.var 0) (.cstr "odd")) (.cons (.ret (.bin .Mod (.bi .int1 (.cons (.var 3) .nil)) (.cint 2))) .nil) .nil) (.cons (.ifs (.cmp .Eq (.var 0) (.cstr "most")) (.cons (.ret (.bi .int1 (.cons (.cmp .Gt (.bin .Mult (.cint 2) (.var 3)) (.var 2)) .nil))) .nil) .nil) (.cons (.ret (.bi .int1 (.cons (.ite (.cmp .Eq (.var 0) (.cstr "all")) (.cmp .Eq (.var 3) (.var 2)) (.cmp .Gt (.var 3) (.cint 0))) .nil))) .nil))))))))
def s_9 : SD := ⟨"is_one", "is_one", tp 16, ["word", "row", "many", "ones", "half", "place"], ["word", "row"], ⟨6, 2, c_9⟩⟩
def c_10 : C := (.cons (.ifs (.or (.not (.isi "str" (.var 0))) (.or (.cmp .NotIn (.var 0) (.cal 5 0 .nil)) (.not (.cal 1 0 (.cons (.var 1) (.cons (.cint 1) (.cons (.glb 0) .nil))))))) (.cons .rsx .nil) .nil) (.cons (.ifs (.not (.cal 6 0 (.cons (.var 0) (.cons (.var 1) .nil)))) (.cons .rsx .nil) .nil) (.cons (.ret (.bi .tup (.cons (.lc (.cal 9 0 (.cons (.var 0) (.cons (.var 2) .nil))) (.tnm 2) (.sq (.cal 4 0 (.cons (.var 1) .nil))) .nil [2]) .nil))) .nil)))
def s_10 : SD := ⟨"known_table", "known_table", tp 17, ["word", "many", "row"], ["word", "many"], ⟨3, 2, c_10⟩⟩
def c_11 : C := (.cons (.asg (.tnm 1) (.dic [(.inr "great"), (.inr "mixed"), (.inr "turns")] (.cons (.mk (.lst .nil)) (.cons (.bin .Add (.cint 16243) (.bi .len (.cons (.sl (.var 0) .nil (.cint 63)) .nil))) (.cons (.cint 0) .nil))))) (.cons (.fors (.tnm 2) (.sq (.sl (.var 0) .nil (.cint 63))) (.cons (.asg (.tnm 3) (.bin .Add (.bin .Mult (.cint 2) (.bi .abs (.cons (.var 2) .nil))) (.bi .int1 (.cons (.cmp .Lt (.var 2) (.cint 0)) .nil)))) (.cons (.ifs (.cmp .GtE (.var 3) (.bin .Pow (.cint 10) (.cint 16))) (.cons (.ex (.mth .append (.dix (.var 1) (.cstr "great")) (.cons (.var 3) .nil))) .nil) .nil) (.cons (.setd (.var 1) (.cstr "mixed") (.bin .Mod (.bi .int1 (.cons (.bin .Add (.bin .Add (.bin .Mult (.dix (.var 1) (.cstr "mixed")) (.cint 69621)) (.var 3)) (.cint 29)) .nil)) (.cint 4294967291))) .nil)))) (.cons (.ret (.var 1)) .nil)))
def s_11 : SD := ⟨"_law_deck", "_law_deck", tp 19, ["script", "deck", "cell", "own"], ["script"], ⟨4, 1, c_11⟩⟩
def c_12 : C := (.cons (.ifs (.cmp .Lt (.var 1) (.cint 2)) (.cons (.ret (.cint 0)) .nil) .nil) (.cons (.ifs (.cmp .NotEq (.dix (.var 0) (.cstr "great")) (.lst .nil)) (.cons (.asg (.tnm 3) (.mth .pop0 (.dix (.var 0) (.cstr "great")) .nil)) (.cons (.ifs (.cmp .GtE (.var 3) (.var 1)) (.cons (.ex (.mth .append (.dix (.var 0) (.cstr "great")) (.cons (.bin .FloorDiv (.var 3) (.var 1)) .nil))) .nil) .nil) (.cons (.ret (.bin .Mod (.bi .int1 (.cons (.var 3) .nil)) (.var 1))) .nil))) .nil) (.cons (.setd (.var 0) (.cstr "turns") (.bin .Add (.dix (.var 0) (.cstr "turns")) (.cint 1))) (.cons (.asg (.tnm 2) (.bin .Mod (.bi .int1 (.cons (.bin .Add (.dix (.var 0) (.cstr "mixed")) (.bin .Mult (.cint 2654435761) (.dix (.var 0) (.cstr "turns")))) .nil)) (.cint 4294967279))) (.cons (.asg (.tnm 2) (.bin .Mod (.bi .int1 (.cons (.bin .Add (.bin .Add (.bin .Mult (.var 2) (.var 2)) (.bin .Mult (.cint 40692) (.dix (.var 0) (.cstr "turns")))) (.cint 23)) .nil)) (.cint 4294967231))) (.cons (.asg (.tnm 2) (.bin .Mod (.bi .int1 (.cons (.bin .Add (.bin .Mult (.var 2) (.var 2)) (.bin .Mult (.dix (.var 0) (.cstr "mixed")) (.cint 11))) .nil)) (.cint 4294967197))) (.cons (.ret (.bin .Mod (.bi .int1 (.cons (.bin .FloorDiv (.var 2) (.cint 64)) .nil)) (.var 1))) .nil)))))))
def s_12 : SD := ⟨"_law_draw", "_law_draw", tp 20, ["deck", "many", "number", "great"], ["deck", "many"], ⟨4, 2, c_12⟩⟩
def c_13 : C := (.cons (.ret (.ix (.var 1) (.cal 12 1 (.cons (.var 0) (.cons (.bi .len (.cons (.var 1) .nil)) .nil))))) .nil)
def s_13 : SD := ⟨"_law_pick", "_law_pick", tp 21, ["deck", "row"], ["deck", "row"], ⟨2, 2, c_13⟩⟩
def c_14 : C := (.cons (.asg (.tnm 1) (.lst (.cons (.tup .nil) .nil))) (.cons (.fors (.tnm 2) (.rg1 (.var 0)) (.cons (.asg (.tnm 3) (.mk (.lst .nil))) (.cons (.fors (.tnm 4) (.sq (.var 1)) (.cons (.ex (.mth .extend (.var 3) (.cons (.lst (.cons (.bin .Add (.var 4) (.tup (.cons (.cint 0) .nil))) (.cons (.bin .Add (.var 4) (.tup (.cons (.cint 1) .nil))) .nil))) .nil))) .nil)) (.cons (.asg (.tnm 1) (.var 3)) .nil)))) (.cons (.ret (.var 1)) .nil)))
def s_14 : SD := ⟨"_law_rows", "_law_rows", tp 22, ["many", "found", "place", "longer", "row"], ["many"], ⟨5, 1, c_14⟩⟩
def c_15 : C := (.cons (.ret (.cmp .In (.bi .lst (.cons (.var 0) .nil)) (.tup (.cons (.bi .srt (.cons (.var 0) .nil)) (.cons (.rvl (.bi .srt (.cons (.var 0) .nil))) .nil))))) .nil)
def s_15 : SD := ⟨"_law_is_rising", "_law_is_rising", tp 23, ["row"], ["row"], ⟨1, 1, c_15⟩⟩
def c_16 : C := (.cons (.ret (.ite (.cmp .Eq (.bi .len (.cons (.var 0) .nil)) (.cint 3)) (.ix (.var 0) (.bin .Add (.cint 1) (.ix (.var 0) (.cint 0)))) (.ix (.var 0) (.bin .Add (.bin .Add (.cint 2) (.bin .Mult (.cint 2) (.ix (.var 0) (.cint 0)))) (.ix (.var 0) (.cint 1)))))) .nil)
def s_16 : SD := ⟨"_law_picked", "_law_picked", tp 24, ["row"], ["row"], ⟨1, 1, c_16⟩⟩
def c_17 : C := (.cons (.asg (.tnm 2) (.bi .len (.cons (.var 1) .nil))) (.cons (.ifs (.cmp .Eq (.var 0) (.cstr "all")) (.cons (.ret (.cmp .NotIn (.cint 0) (.var 1))) .nil) .nil) (.cons (.ifs (.cmp .Eq (.var 0) (.cstr "any")) (.cons (.ret (.cmp .In (.cint 1) (.var 1))) .nil) .nil) (.cons (.ifs (.cmp .Eq (.var 0) (.cstr "first")) (.cons (.ret (.cmp .Eq (.ix (.var 1) (.cint 0)) (.cint 1))) .nil) .nil) (.cons (.ifs (.cmp .Eq (.var 0) (.cstr "halves")) (.cons (.ret (.cmp .In (.cint 2) (.lc (.bin .Add (.ix (.var 1) (.var 3)) (.ix (.var 1) (.bin .Add (.var 3) (.bin .FloorDiv (.var 2) (.cint 2))))) (.tnm 3) (.rg1 (.bin .FloorDiv (.var 2) (.cint 2))) .nil [3]))) .nil) .nil) (.cons (.ifs (.cmp .Eq (.var 0) (.cstr "most")) (.cons (.ret (.cmp .Gt (.bin .Mult (.cint 2) (.bi .sum (.cons (.var 1) .nil))) (.var 2))) .nil) .nil) (.cons (.ifs (.cmp .Eq (.var 0) (.cstr "odd")) (.cons (.ret (.cmp .Eq (.bin .Mod (.bi .sum (.cons (.var 1) .nil)) (.cint 2)) (.cint 1))) .nil) .nil) (.cons (.ret (.ite (.cmp .Eq (.var 0) (.cstr "pick")) (.cmp .Eq (.cal 16 0 (.cons (.var 1) .nil)) (.cint 1)) (.cal 15 0 (.cons (.var 1) .nil)))) .nil))))))))
def s_17 : SD := ⟨"_law_is_one", "_law_is_one", tp 25, ["word", "row", "many", "place"], ["word", "row"], ⟨4, 2, c_17⟩⟩
def c_18 : C := (.cons (.ifs (.or (.not (.chn .LtE .LtE (.cint 1) (.var 1) (.cint 6))) (.or (.and (.cmp .Eq (.var 0) (.cstr "halves")) (.cmp .Eq (.bin .Mod (.var 1) (.cint 2)) (.cint 1))) (.and (.cmp .Eq (.var 0) (.cstr "most")) (.cmp .Eq (.bin .Mod (.var 1) (.cint 2)) (.cint 0))))) (.cons (.ret (.cstr "unfit")) .nil) .nil) (.cons (.ifs (.and (.cmp .Eq (.var 0) (.cstr "pick")) (.cmp .NotIn (.var 1) (.tup (.cons (.cint 3) (.cons (.cint 6) .nil))))) (.cons (.ret (.cstr "unfit")) .nil) .nil) (.cons (.ret (.bi .tup (.cons (.lc (.bi .int1 (.cons (.cal 17 0 (.cons (.var 0) (.cons (.var 2) .nil))) .nil)) (.tnm 2) (.sq (.cal 14 0 (.cons (.var 1) .nil))) .nil [2]) .nil))) .nil)))
def s_18 : SD := ⟨"_law_due", "_law_due", tp 26, ["word", "many", "row"], ["word", "many"], ⟨3, 2, c_18⟩⟩
def c_19 : C := (.cons (.tri (.cons (.ret (.ite (.var 2) (.cak 10 0 .nil (.cons (.var 1) (.cons (.var 0) .nil)) [1, 0]) (.cal 10 0 (.cons (.var 0) (.cons (.var 1) .nil))))) .nil) (.str "unfit")) .nil)
def s_19 : SD := ⟨"_law_told", "_law_told", tp 27, ["word", "many", "is_named"], ["word", "many", "is_named"], ⟨3, 3, c_19⟩⟩
def c_20 : C := (.cons (.asg (.tnm 1) (.cal 11 2 (.cons (.var 0) .nil))) (.cons (.asg (.tnm 2) (.lst (.cons (.cstr "all") (.cons (.cstr "any") (.cons (.cstr "first") (.cons (.cstr "halves") (.cons (.cstr "most") (.cons (.cstr "odd") (.cons (.cstr "pick") (.cons (.cstr "rise") .nil)))))))))) (.cons (.ifs (.cmp .NotEq (.bi .repr (.cons (.lst (.cons (.cal 5 0 .nil) (.cons (.cal 5 0 .nil) .nil))) .nil)) (.bi .repr (.cons (.bin .Mult (.lst (.cons (.bi .tup (.cons (.var 2) .nil)) .nil)) (.cint 2)) .nil))) (.cons (.ret (.cbl false)) .nil) .nil) (.cons (.fors (.tnm 3) (.sq (.var 2)) (.cons (.fors (.tnm 5) (.sq (.tup (.cons (.cal 12 1 (.cons (.var 1) (.cons (.cint 8) .nil))) (.cons (.bin .Add (.cint 1) (.cal 12 1 (.cons (.var 1) (.cons (.cint 6) .nil)))) (.cons (.bin .Add (.cint 1) (.cal 12 1 (.cons (.var 1) (.cons (.cint 4) .nil)))) .nil))))) (.cons (.asg (.tnm 8) (.cal 18 0 (.cons (.var 3) (.cons (.var 5) .nil)))) (.cons (.ifs (.cmp .NotEq (.bi .repr (.cons (.lst (.cons (.cal 19 0 (.cons (.var 3) (.cons (.var 5) (.cons (.cbl true) .nil)))) (.cons (.cal 19 0 (.cons (.var 3) (.cons (.var 5) (.cons (.cbl false) .nil)))) .nil))) .nil)) (.bi .repr (.cons (.lst (.cons (.var 8) (.cons (.var 8) .nil))) .nil))) (.cons (.ret (.cbl false)) .nil) .nil) .nil))) .nil)) (.cons (.fors (.tnm 4) (.rg1 (.cint 6)) (.cons (.asg (.tnm 6) (.cal 13 1 (.cons (.var 1) (.cons (.lst (.cons .cnon (.cons (.cbl true) (.cons (.cbl false) (.cons (.cstr "3") (.cons (.cstr "") (.cons (.tup (.cons (.cint 3) .nil)) (.cons (.lst (.cons (.cint 3) .nil)) (.cons (.neg (.cint 1)) (.cons (.cint 7) (.cons (.bin .Pow (.cint 10) (.cint 20)) (.cons .dp0 .nil)))))))))))) .nil)))) (.cons (.asg (.tnm 7) (.cal 13 1 (.cons (.var 1) (.cons (.lst (.cons .cnon (.cons (.cstr "") (.cons (.cstr "All") (.cons (.cstr "all ") (.cons (.cstr "even") (.cons (.cint 0) (.cons (.tup (.cons (.cstr "all") .nil)) (.cons (.lst (.cons (.cstr "any") .nil)) (.cons (.cbl true) (.cons .dp0 .nil))))))))))) .nil)))) (.cons (.ifs (.cmp .NotEq (.cal 19 0 (.cons (.cal 13 1 (.cons (.var 1) (.cons (.var 2) .nil))) (.cons (.var 6) (.cons (.cmp .Eq (.bin .Mod (.var 4) (.cint 2)) (.cint 0)) .nil)))) (.cstr "unfit")) (.cons (.ret (.cbl false)) .nil) .nil) (.cons (.ifs (.cmp .NotEq (.cal 19 0 (.cons (.var 7) (.cons (.bin .Add (.cint 1) (.cal 12 1 (.cons (.var 1) (.cons (.cint 6) .nil)))) (.cons (.cmp .Eq (.bin .Mod (.var 4) (.cint 2)) (.cint 0)) .nil)))) (.cstr "unfit")) (.cons (.ret (.cbl false)) .nil) .nil) (.cons (.ifs (.cmp .NotEq (.cal 19 0 (.cons (.var 7) (.cons (.var 6) (.cons (.cbl false) .nil)))) (.cstr "unfit")) (.cons (.ret (.cbl false)) .nil) .nil) .nil)))))) (.cons (.ret (.cbl true)) .nil))))))
def s_20 : SD := ⟨"law", "law", tp 28, ["script", "deck", "words", "word", "turn", "many", "odd", "strange", "due"], ["script"], ⟨9, 1, c_20⟩⟩
def sds : List SD := [s_0, s_1, s_2, s_3, s_4, s_5, s_6, s_7, s_8, s_9, s_10, s_11, s_12, s_13, s_14, s_15, s_16, s_17, s_18, s_19, s_20]
def cns : List Str := ["MAX_BITS"]
end k07
namespace k07
open PySem L2 DS
def Gc : Nat → Option P := fun g => match g with | 0 => some (.int (6)) | _ => none
theorem ck : ∀ s, s ∈ sds → chkD (gi sds cns true []) s = true := by
  have h : sds.all (chkD (gi sds cns true [])) = true := by decide +kernel
  exact fun s hs => List.all_eq_true.mp h s hs
section
variable {K : PySem.W.Frag} {h : Heap} {mg : Str → Option Value}
theorem tab {fa f0 f1 f2 f3 f4 f5 f6 f7 f8 f9 f10 f11 f12 f13 f14 f15 f16 f17 f18 f19 f20 : Addr} (X : K.In h) (G : h.Ns mainGlobals mg) (hfa : mg "law" = some (.ref fa))
    {od0 an0 od1 an1 od2 an2 od3 an3 od4 an4 od5 an5 od6 an6 od7 an7 od8 an8 od9 an9 od10 an10 od11 an11 od12 an12 od13 an13 od14 an14 od15 an15 od16 an16 od17 an17 od18 an18 od19 an19 od20 an20 : Option Addr} {sl0 sl1 sl2 sl3 sl4 sl5 sl6 sl7 sl8 sl9 sl10 sl11 sl12 sl13 sl14 sl15 sl16 sl17 sl18 sl19 sl20 : Array (Option Value)} {oc0 kV0 dc0 pm0 cd0 ct0 oc1 kV1 dc1 pm1 cd1 ct1 oc2 kV2 dc2 pm2 cd2 ct2 oc3 kV3 dc3 pm3 cd3 ct3 oc4 kV4 dc4 pm4 cd4 ct4 oc5 kV5 dc5 pm5 cd5 ct5 oc6 kV6 dc6 pm6 cd6 ct6 oc7 kV7 dc7 pm7 cd7 ct7 oc8 kV8 dc8 pm8 cd8 ct8 oc9 kV9 dc9 pm9 cd9 ct9 oc10 kV10 dc10 pm10 cd10 ct10 oc11 kV11 dc11 pm11 cd11 ct11 oc12 kV12 dc12 pm12 cd12 ct12 oc13 kV13 dc13 pm13 cd13 ct13 oc14 kV14 dc14 pm14 cd14 ct14 oc15 kV15 dc15 pm15 cd15 ct15 oc16 kV16 dc16 pm16 cd16 ct16 oc17 kV17 dc17 pm17 cd17 ct17 oc18 kV18 dc18 pm18 cd18 ct18 oc19 kV19 dc19 pm19 cd19 ct19 oc20 kV20 dc20 pm20 cd20 ct20 : Value}
    (a0 : PySem.W.nsIn K mainGlobals "is_integer" = some (some (.ref f0))) (l0 : K.lookup f0 = some ⟨oc0, od0, .func (PySem.W.fnOf "is_integer" "is_integer" (defArgs s_0.st) (defBody s_0.st) (defScope s_0.st) .none kV0 dc0 pm0 an0 cd0 ct0), sl0⟩) (c0 : PySem.W.codeIn K cd0 "is_integer" = true) (k0 : PySem.W.keepIn K (.ref f0) = true)
    (a1 : PySem.W.nsIn K mainGlobals "is_whole" = some (some (.ref f1))) (l1 : K.lookup f1 = some ⟨oc1, od1, .func (PySem.W.fnOf "is_whole" "is_whole" (defArgs s_1.st) (defBody s_1.st) (defScope s_1.st) .none kV1 dc1 pm1 an1 cd1 ct1), sl1⟩) (c1 : PySem.W.codeIn K cd1 "is_whole" = true) (k1 : PySem.W.keepIn K (.ref f1) = true)
    (a2 : PySem.W.nsIn K mainGlobals "number_of" = some (some (.ref f2))) (l2 : K.lookup f2 = some ⟨oc2, od2, .func (PySem.W.fnOf "number_of" "number_of" (defArgs s_2.st) (defBody s_2.st) (defScope s_2.st) .none kV2 dc2 pm2 an2 cd2 ct2), sl2⟩) (c2 : PySem.W.codeIn K cd2 "number_of" = true) (k2 : PySem.W.keepIn K (.ref f2) = true)
    (a3 : PySem.W.nsIn K mainGlobals "row_of" = some (some (.ref f3))) (l3 : K.lookup f3 = some ⟨oc3, od3, .func (PySem.W.fnOf "row_of" "row_of" (defArgs s_3.st) (defBody s_3.st) (defScope s_3.st) .none kV3 dc3 pm3 an3 cd3 ct3), sl3⟩) (c3 : PySem.W.codeIn K cd3 "row_of" = true) (k3 : PySem.W.keepIn K (.ref f3) = true)
    (a4 : PySem.W.nsIn K mainGlobals "all_rows" = some (some (.ref f4))) (l4 : K.lookup f4 = some ⟨oc4, od4, .func (PySem.W.fnOf "all_rows" "all_rows" (defArgs s_4.st) (defBody s_4.st) (defScope s_4.st) .none kV4 dc4 pm4 an4 cd4 ct4), sl4⟩) (c4 : PySem.W.codeIn K cd4 "all_rows" = true) (k4 : PySem.W.keepIn K (.ref f4) = true)
    (a5 : PySem.W.nsIn K mainGlobals "known_words" = some (some (.ref f5))) (l5 : K.lookup f5 = some ⟨oc5, od5, .func (PySem.W.fnOf "known_words" "known_words" (defArgs s_5.st) (defBody s_5.st) (defScope s_5.st) .none kV5 dc5 pm5 an5 cd5 ct5), sl5⟩) (c5 : PySem.W.codeIn K cd5 "known_words" = true) (k5 : PySem.W.keepIn K (.ref f5) = true)
    (a6 : PySem.W.nsIn K mainGlobals "is_told" = some (some (.ref f6))) (l6 : K.lookup f6 = some ⟨oc6, od6, .func (PySem.W.fnOf "is_told" "is_told" (defArgs s_6.st) (defBody s_6.st) (defScope s_6.st) .none kV6 dc6 pm6 an6 cd6 ct6), sl6⟩) (c6 : PySem.W.codeIn K cd6 "is_told" = true) (k6 : PySem.W.keepIn K (.ref f6) = true)
    (a7 : PySem.W.nsIn K mainGlobals "picked" = some (some (.ref f7))) (l7 : K.lookup f7 = some ⟨oc7, od7, .func (PySem.W.fnOf "picked" "picked" (defArgs s_7.st) (defBody s_7.st) (defScope s_7.st) .none kV7 dc7 pm7 an7 cd7 ct7), sl7⟩) (c7 : PySem.W.codeIn K cd7 "picked" = true) (k7 : PySem.W.keepIn K (.ref f7) = true)
    (a8 : PySem.W.nsIn K mainGlobals "goes_one_way" = some (some (.ref f8))) (l8 : K.lookup f8 = some ⟨oc8, od8, .func (PySem.W.fnOf "goes_one_way" "goes_one_way" (defArgs s_8.st) (defBody s_8.st) (defScope s_8.st) .none kV8 dc8 pm8 an8 cd8 ct8), sl8⟩) (c8 : PySem.W.codeIn K cd8 "goes_one_way" = true) (k8 : PySem.W.keepIn K (.ref f8) = true)
    (a9 : PySem.W.nsIn K mainGlobals "is_one" = some (some (.ref f9))) (l9 : K.lookup f9 = some ⟨oc9, od9, .func (PySem.W.fnOf "is_one" "is_one" (defArgs s_9.st) (defBody s_9.st) (defScope s_9.st) .none kV9 dc9 pm9 an9 cd9 ct9), sl9⟩) (c9 : PySem.W.codeIn K cd9 "is_one" = true) (k9 : PySem.W.keepIn K (.ref f9) = true)
    (a10 : PySem.W.nsIn K mainGlobals "known_table" = some (some (.ref f10))) (l10 : K.lookup f10 = some ⟨oc10, od10, .func (PySem.W.fnOf "known_table" "known_table" (defArgs s_10.st) (defBody s_10.st) (defScope s_10.st) .none kV10 dc10 pm10 an10 cd10 ct10), sl10⟩) (c10 : PySem.W.codeIn K cd10 "known_table" = true) (k10 : PySem.W.keepIn K (.ref f10) = true)
    (a11 : PySem.W.nsIn K mainGlobals "_law_deck" = some (some (.ref f11))) (l11 : K.lookup f11 = some ⟨oc11, od11, .func (PySem.W.fnOf "_law_deck" "_law_deck" (defArgs s_11.st) (defBody s_11.st) (defScope s_11.st) .none kV11 dc11 pm11 an11 cd11 ct11), sl11⟩) (c11 : PySem.W.codeIn K cd11 "_law_deck" = true) (k11 : PySem.W.keepIn K (.ref f11) = true)
    (a12 : PySem.W.nsIn K mainGlobals "_law_draw" = some (some (.ref f12))) (l12 : K.lookup f12 = some ⟨oc12, od12, .func (PySem.W.fnOf "_law_draw" "_law_draw" (defArgs s_12.st) (defBody s_12.st) (defScope s_12.st) .none kV12 dc12 pm12 an12 cd12 ct12), sl12⟩) (c12 : PySem.W.codeIn K cd12 "_law_draw" = true) (k12 : PySem.W.keepIn K (.ref f12) = true)
    (a13 : PySem.W.nsIn K mainGlobals "_law_pick" = some (some (.ref f13))) (l13 : K.lookup f13 = some ⟨oc13, od13, .func (PySem.W.fnOf "_law_pick" "_law_pick" (defArgs s_13.st) (defBody s_13.st) (defScope s_13.st) .none kV13 dc13 pm13 an13 cd13 ct13), sl13⟩) (c13 : PySem.W.codeIn K cd13 "_law_pick" = true) (k13 : PySem.W.keepIn K (.ref f13) = true)
    (a14 : PySem.W.nsIn K mainGlobals "_law_rows" = some (some (.ref f14))) (l14 : K.lookup f14 = some ⟨oc14, od14, .func (PySem.W.fnOf "_law_rows" "_law_rows" (defArgs s_14.st) (defBody s_14.st) (defScope s_14.st) .none kV14 dc14 pm14 an14 cd14 ct14), sl14⟩) (c14 : PySem.W.codeIn K cd14 "_law_rows" = true) (k14 : PySem.W.keepIn K (.ref f14) = true)
    (a15 : PySem.W.nsIn K mainGlobals "_law_is_rising" = some (some (.ref f15))) (l15 : K.lookup f15 = some ⟨oc15, od15, .func (PySem.W.fnOf "_law_is_rising" "_law_is_rising" (defArgs s_15.st) (defBody s_15.st) (defScope s_15.st) .none kV15 dc15 pm15 an15 cd15 ct15), sl15⟩) (c15 : PySem.W.codeIn K cd15 "_law_is_rising" = true) (k15 : PySem.W.keepIn K (.ref f15) = true)
    (a16 : PySem.W.nsIn K mainGlobals "_law_picked" = some (some (.ref f16))) (l16 : K.lookup f16 = some ⟨oc16, od16, .func (PySem.W.fnOf "_law_picked" "_law_picked" (defArgs s_16.st) (defBody s_16.st) (defScope s_16.st) .none kV16 dc16 pm16 an16 cd16 ct16), sl16⟩) (c16 : PySem.W.codeIn K cd16 "_law_picked" = true) (k16 : PySem.W.keepIn K (.ref f16) = true)
    (a17 : PySem.W.nsIn K mainGlobals "_law_is_one" = some (some (.ref f17))) (l17 : K.lookup f17 = some ⟨oc17, od17, .func (PySem.W.fnOf "_law_is_one" "_law_is_one" (defArgs s_17.st) (defBody s_17.st) (defScope s_17.st) .none kV17 dc17 pm17 an17 cd17 ct17), sl17⟩) (c17 : PySem.W.codeIn K cd17 "_law_is_one" = true) (k17 : PySem.W.keepIn K (.ref f17) = true)
    (a18 : PySem.W.nsIn K mainGlobals "_law_due" = some (some (.ref f18))) (l18 : K.lookup f18 = some ⟨oc18, od18, .func (PySem.W.fnOf "_law_due" "_law_due" (defArgs s_18.st) (defBody s_18.st) (defScope s_18.st) .none kV18 dc18 pm18 an18 cd18 ct18), sl18⟩) (c18 : PySem.W.codeIn K cd18 "_law_due" = true) (k18 : PySem.W.keepIn K (.ref f18) = true)
    (a19 : PySem.W.nsIn K mainGlobals "_law_told" = some (some (.ref f19))) (l19 : K.lookup f19 = some ⟨oc19, od19, .func (PySem.W.fnOf "_law_told" "_law_told" (defArgs s_19.st) (defBody s_19.st) (defScope s_19.st) .none kV19 dc19 pm19 an19 cd19 ct19), sl19⟩) (c19 : PySem.W.codeIn K cd19 "_law_told" = true) (k19 : PySem.W.keepIn K (.ref f19) = true)
    (a20 : PySem.W.nsIn K mainGlobals "law" = some (some (.ref f20))) (l20 : K.lookup f20 = some ⟨oc20, od20, .func (PySem.W.fnOf "law" "law" (defArgs s_20.st) (defBody s_20.st) (defScope s_20.st) .none kV20 dc20 pm20 an20 cd20 ct20), sl20⟩) (c20 : PySem.W.codeIn K cd20 "law" = true) (k20 : PySem.W.keepIn K (.ref f20) = true)
    {tk0 : Tok} (g0 : PySem.W.nsIn K mainGlobals "MAX_BITS" = some (some (.int (6) tk0)))
    (z0 : PySem.W.nsIn K mainGlobals "len" = some none) (z1 : PySem.W.nsIn K mainGlobals "int" = some none) (z2 : PySem.W.nsIn K mainGlobals "abs" = some none) (z3 : PySem.W.nsIn K mainGlobals "max" = some none) (z4 : PySem.W.nsIn K mainGlobals "min" = some none) (z5 : PySem.W.nsIn K mainGlobals "sum" = some none) (z6 : PySem.W.nsIn K mainGlobals "any" = some none) (z7 : PySem.W.nsIn K mainGlobals "all" = some none) (z8 : PySem.W.nsIn K mainGlobals "tuple" = some none) (z9 : PySem.W.nsIn K mainGlobals "list" = some none) (z10 : PySem.W.nsIn K mainGlobals "str" = some none) (z11 : PySem.W.nsIn K mainGlobals "repr" = some none) (z12 : PySem.W.nsIn K mainGlobals "sorted" = some none) (z13 : PySem.W.nsIn K mainGlobals "isinstance" = some none) (z14 : PySem.W.nsIn K mainGlobals "range" = some none) (z15 : PySem.W.nsIn K mainGlobals "enumerate" = some none) (z16 : PySem.W.nsIn K mainGlobals "zip" = some none) (z17 : PySem.W.nsIn K mainGlobals "bool" = some none) (z18 : PySem.W.nsIn K mainGlobals "dict" = some none) :
    ∃ (ad : Nat → Addr) (fdo : Nat → FuncData), Tb K mg sds ad fdo ∧ ad 20 = fa ∧ ∀ g x z, cns[g]? = some x → Gc g = some z → ∃ u v, mg x = some u ∧ RelV v u ∧ ∀ U H, RepP U K H z v := by
  have e := hfa.symm.trans (PySem.W.mg_of X G a20)
  cases e
  refine ⟨_, _, tb_of (l := [(f0, PySem.W.fnOf "is_integer" "is_integer" (defArgs s_0.st) (defBody s_0.st) (defScope s_0.st) .none kV0 dc0 pm0 an0 cd0 ct0), (f1, PySem.W.fnOf "is_whole" "is_whole" (defArgs s_1.st) (defBody s_1.st) (defScope s_1.st) .none kV1 dc1 pm1 an1 cd1 ct1), (f2, PySem.W.fnOf "number_of" "number_of" (defArgs s_2.st) (defBody s_2.st) (defScope s_2.st) .none kV2 dc2 pm2 an2 cd2 ct2), (f3, PySem.W.fnOf "row_of" "row_of" (defArgs s_3.st) (defBody s_3.st) (defScope s_3.st) .none kV3 dc3 pm3 an3 cd3 ct3), (f4, PySem.W.fnOf "all_rows" "all_rows" (defArgs s_4.st) (defBody s_4.st) (defScope s_4.st) .none kV4 dc4 pm4 an4 cd4 ct4), (f5, PySem.W.fnOf "known_words" "known_words" (defArgs s_5.st) (defBody s_5.st) (defScope s_5.st) .none kV5 dc5 pm5 an5 cd5 ct5), (f6, PySem.W.fnOf "is_told" "is_told" (defArgs s_6.st) (defBody s_6.st) (defScope s_6.st) .none kV6 dc6 pm6 an6 cd6 ct6), (f7, PySem.W.fnOf "picked" "picked" (defArgs s_7.st) (defBody s_7.st) (defScope s_7.st) .none kV7 dc7 pm7 an7 cd7 ct7), (f8, PySem.W.fnOf "goes_one_way" "goes_one_way" (defArgs s_8.st) (defBody s_8.st) (defScope s_8.st) .none kV8 dc8 pm8 an8 cd8 ct8), (f9, PySem.W.fnOf "is_one" "is_one" (defArgs s_9.st) (defBody s_9.st) (defScope s_9.st) .none kV9 dc9 pm9 an9 cd9 ct9), (f10, PySem.W.fnOf "known_table" "known_table" (defArgs s_10.st) (defBody s_10.st) (defScope s_10.st) .none kV10 dc10 pm10 an10 cd10 ct10), (f11, PySem.W.fnOf "_law_deck" "_law_deck" (defArgs s_11.st) (defBody s_11.st) (defScope s_11.st) .none kV11 dc11 pm11 an11 cd11 ct11), (f12, PySem.W.fnOf "_law_draw" "_law_draw" (defArgs s_12.st) (defBody s_12.st) (defScope s_12.st) .none kV12 dc12 pm12 an12 cd12 ct12), (f13, PySem.W.fnOf "_law_pick" "_law_pick" (defArgs s_13.st) (defBody s_13.st) (defScope s_13.st) .none kV13 dc13 pm13 an13 cd13 ct13), (f14, PySem.W.fnOf "_law_rows" "_law_rows" (defArgs s_14.st) (defBody s_14.st) (defScope s_14.st) .none kV14 dc14 pm14 an14 cd14 ct14), (f15, PySem.W.fnOf "_law_is_rising" "_law_is_rising" (defArgs s_15.st) (defBody s_15.st) (defScope s_15.st) .none kV15 dc15 pm15 an15 cd15 ct15), (f16, PySem.W.fnOf "_law_picked" "_law_picked" (defArgs s_16.st) (defBody s_16.st) (defScope s_16.st) .none kV16 dc16 pm16 an16 cd16 ct16), (f17, PySem.W.fnOf "_law_is_one" "_law_is_one" (defArgs s_17.st) (defBody s_17.st) (defScope s_17.st) .none kV17 dc17 pm17 an17 cd17 ct17), (f18, PySem.W.fnOf "_law_due" "_law_due" (defArgs s_18.st) (defBody s_18.st) (defScope s_18.st) .none kV18 dc18 pm18 an18 cd18 ct18), (f19, PySem.W.fnOf "_law_told" "_law_told" (defArgs s_19.st) (defBody s_19.st) (defScope s_19.st) .none kV19 dc19 pm19 an19 cd19 ct19), (fa, PySem.W.fnOf "law" "law" (defArgs s_20.st) (defBody s_20.st) (defScope s_20.st) .none kV20 dc20 pm20 an20 cd20 ct20)]) (d := PySem.W.fnOf "law" "law" (defArgs s_20.st) (defBody s_20.st) (defScope s_20.st) .none kV20 dc20 pm20 an20 cd20 ct20) ⟨⟨fun_mk l0 c0 k0, PySem.W.mg_of X G a0⟩, ⟨fun_mk l1 c1 k1, PySem.W.mg_of X G a1⟩, ⟨fun_mk l2 c2 k2, PySem.W.mg_of X G a2⟩, ⟨fun_mk l3 c3 k3, PySem.W.mg_of X G a3⟩, ⟨fun_mk l4 c4 k4, PySem.W.mg_of X G a4⟩, ⟨fun_mk l5 c5 k5, PySem.W.mg_of X G a5⟩, ⟨fun_mk l6 c6 k6, PySem.W.mg_of X G a6⟩, ⟨fun_mk l7 c7 k7, PySem.W.mg_of X G a7⟩, ⟨fun_mk l8 c8 k8, PySem.W.mg_of X G a8⟩, ⟨fun_mk l9 c9 k9, PySem.W.mg_of X G a9⟩, ⟨fun_mk l10 c10 k10, PySem.W.mg_of X G a10⟩, ⟨fun_mk l11 c11 k11, PySem.W.mg_of X G a11⟩, ⟨fun_mk l12 c12 k12, PySem.W.mg_of X G a12⟩, ⟨fun_mk l13 c13 k13, PySem.W.mg_of X G a13⟩, ⟨fun_mk l14 c14 k14, PySem.W.mg_of X G a14⟩, ⟨fun_mk l15 c15 k15, PySem.W.mg_of X G a15⟩, ⟨fun_mk l16 c16 k16, PySem.W.mg_of X G a16⟩, ⟨fun_mk l17 c17 k17, PySem.W.mg_of X G a17⟩, ⟨fun_mk l18 c18 k18, PySem.W.mg_of X G a18⟩, ⟨fun_mk l19 c19 k19, PySem.W.mg_of X G a19⟩, ⟨fun_mk l20 c20 k20, PySem.W.mg_of X G a20⟩, trivial⟩ ?_, rfl, fun g x z h hz => by match g, h, hz with | 0, h, hz => (have h : some (Str.ofString "MAX_BITS") = some x := h; cases h; have hz : some (PyData.int (6)) = some z := hz; cases hz; exact ⟨_, L2.V.int (6), PySem.W.mg_of X G g0, ⟨_, rfl⟩, fun _ _ => .int _⟩) | k + 1, h, hz => (simp [cns] at h)⟩
  simp only [List.forall_mem_cons, List.not_mem_nil, false_imp_iff, implies_true, and_true]
  exact ⟨PySem.W.mg_none_of X G z0, PySem.W.mg_none_of X G z1, PySem.W.mg_none_of X G z2, PySem.W.mg_none_of X G z3, PySem.W.mg_none_of X G z4, PySem.W.mg_none_of X G z5, PySem.W.mg_none_of X G z6, PySem.W.mg_none_of X G z7, PySem.W.mg_none_of X G z8, PySem.W.mg_none_of X G z9, PySem.W.mg_none_of X G z10, PySem.W.mg_none_of X G z11, PySem.W.mg_none_of X G z12, PySem.W.mg_none_of X G z13, PySem.W.mg_none_of X G z14, PySem.W.mg_none_of X G z15, PySem.W.mg_none_of X G z16, PySem.W.mg_none_of X G z17, PySem.W.mg_none_of X G z18⟩
end
end k07
namespace k07
open PySem L2 DS
theorem eqv_self_str (a : Str) : (!PyData.eqv (.str a) (.str a)) = false := by simp [PyData.eqv]
def wds : List P := [.str "all", .str "any", .str "first", .str "halves", .str "most", .str "odd", .str "pick", .str "rise"]
def odds : List P := [.none, .bool true, .bool false, .str "3", .str "", .tuple [.int 3], .list [.int 3], .int (-1), .int 7, .int (10 ^ 20), .dict []]
def odW : List P := [.none, .str "", .str "All", .str "all ", .str "even", .int 0, .tuple [.str "all"], .list [.str "any"], .bool true, .dict []]
def unf : P := .str "unfit"
def okRep (x : P) : Bool := eqQ x unf || (isTab 1 x || isTab 2 x || isTab 3 x || isTab 4 x || isTab 5 x || isTab 6 x)
theorem isTab_sm {k : Nat} (hk : k ≤ 6) {x : P} (h : isTab k x = true) : Sm x 3000 1 := by
  have p6 : 2 ^ k ≤ 64 := Nat.le_trans (Nat.pow_le_pow_right (by decide) hk) (by decide)
  unfold isTab at h
  split at h
  · rename_i xs
    rw [Bool.and_eq_true, decide_eq_true_eq] at h
    refine (SmA.all (w := 40) (dp := 0) fun y hy => ?_).tup.wid (by rw [h.1]; omega) (Nat.le_refl _)
    have z := List.all_eq_true.mp h.2 y hy
    split at z
    · rename_i i
      rw [Bool.or_eq_true, decide_eq_true_eq, decide_eq_true_eq] at z
      rcases z with rfl | rfl
      · exact Sm.int (by decide)
      · exact Sm.int (by decide)
    · cases z
  · cases h
theorem unf_sm : Sm unf 3000 1 := ⟨by decide +kernel, by decide +kernel, by decide +kernel, by decide +kernel, by decide +kernel, by decide +kernel⟩
theorem okRep_sm {x : P} (h : okRep x = true) : Sm x 3000 1 := by
  simp only [okRep, Bool.or_eq_true] at h
  rcases h with h | ((((h | h) | h) | h) | h) | h
  · rw [eqQ_eq _ _ h]; exact unf_sm
  · exact isTab_sm (by decide) h
  · exact isTab_sm (by decide) h
  · exact isTab_sm (by decide) h
  · exact isTab_sm (by decide) h
  · exact isTab_sm (by decide) h
  · exact isTab_sm (by decide) h
theorem rep_two {x : P} {w dp : Nat} (h : Sm x w dp) (h1 : w ≤ 3000) (h2 : dp ≤ 10) : ∃ s, biF .repr [.list [x, x]] = some (.str s) :=
  ⟨_, repr_ok (SmA.cons h (SmA.cons h (SmA.nil (w := 0)))).lst (by omega) (by omega)⟩
theorem wds_sm : Sm (.tuple wds) 3000 1 := ⟨by decide +kernel, by decide +kernel, by decide +kernel, by decide +kernel, by decide +kernel, by decide +kernel⟩
def chkDueW (fs : List DF) (Gc : Nat → Option P) (n due told : Nat) (w : P) : Bool :=
  (List.range 8).all fun k => match run fs Gc n due [.p w, .p (.int (k : Int))] [] with
    | some (d, S') => match backD 0 S' d with
      | some (.p x) => chkRun fs Gc n told [w, .int (k : Int), .bool true] x && chkRun fs Gc n told [w, .int (k : Int), .bool false] x && okRep x
      | _ => false
    | none => false
def chkDue (fs : List DF) (Gc : Nat → Option P) (n due told : Nat) : Bool := wds.all (chkDueW fs Gc n due told)
def chkOdd (fs : List DF) (Gc : Nat → Option P) (n told : Nat) : Bool :=
  (wds.all fun w => odds.all fun o => [true, false].all fun b => chkRun fs Gc n told [w, o, .bool b] unf) && (odW.all fun w => (List.range 7).all fun k => decide (k = 0) || [true, false].all fun b => chkRun fs Gc n told [w, .int (k : Int), .bool b] unf) &&
    odW.all fun w => odds.all fun o => chkRun fs Gc n told [w, o, .bool false] unf
section
variable {fs : List DF} {Gc : Nat → Option P} {n due told : Nat}
theorem due_ok (h : chkDue fs Gc n due told = true) {w : P} (hw : w ∈ wds) {v : Int} (h0 : 0 ≤ v) (h1 : v < 8) : ∃ x s, (∀ (S : Sto) (Q : D × Sto → Prop), Q (.p x, S) → WO (callD (run fs Gc n) due 0 [.p w, .p (.int v)] S) Q) ∧
    (∀ (b : Bool) (S : Sto) (Q : D × Sto → Prop), Q (.p x, S) → WO (callD (run fs Gc n) told 0 [.p w, .p (.int v), .p (.bool b)] S) Q) ∧ biF .repr [.list [x, x]] = some (.str s) := by
  have h2 := List.all_eq_true.mp (List.all_eq_true.mp h w hw) v.toNat (List.mem_range.mpr (by omega))
  have hv : ((v.toNat : Nat) : Int) = v := by omega
  rw [hv] at h2
  split at h2
  · rename_i d S' e
    split at h2
    · rename_i x e2
      simp only [Bool.and_eq_true] at h2
      obtain ⟨⟨h3, h4⟩, h5⟩ := h2
      · obtain ⟨s, e3⟩ := rep_two (okRep_sm h5) (by decide) (by decide)
        refine ⟨x, s, fun S Q q => call0 [w, .int v] ⟨d, S', e, x, e2, q⟩, fun b S Q q => ?_, e3⟩
        cases b with
        | true => exact call_run (xs := [w, .int v, .bool true]) h3 q
        | false => exact call_run (xs := [w, .int v, .bool false]) h4 q
    · cases h2
  · cases h2
theorem odd_1 (h : chkOdd fs Gc n told = true) {w o : P} (hw : w ∈ wds) (ho : o ∈ odds) (b : Bool) {S : Sto} {Q : D × Sto → Prop} (q : Q (.p unf, S)) : WO (callD (run fs Gc n) told 0 [.p w, .p o, .p (.bool b)] S) Q := by
  simp only [chkOdd, Bool.and_eq_true] at h
  exact call_run (xs := [w, o, .bool b]) (List.all_eq_true.mp (List.all_eq_true.mp (List.all_eq_true.mp h.1.1 w hw) o ho) b (by cases b <;> simp)) q
theorem odd_2 (h : chkOdd fs Gc n told = true) {w : P} (hw : w ∈ odW) {v : Int} (h0 : 1 ≤ v) (h1 : v < 7) (b : Bool) {S : Sto} {Q : D × Sto → Prop} (q : Q (.p unf, S)) : WO (callD (run fs Gc n) told 0 [.p w, .p (.int v), .p (.bool b)] S) Q := by
  simp only [chkOdd, Bool.and_eq_true] at h
  have z := List.all_eq_true.mp (List.all_eq_true.mp h.1.2 w hw) v.toNat (List.mem_range.mpr (by omega))
  rw [Bool.or_eq_true, decide_eq_true_eq] at z
  rcases z with z | z
  · omega
  · have hv : ((v.toNat : Nat) : Int) = v := by omega
    rw [hv] at z
    exact call_run (xs := [w, .int v, .bool b]) (List.all_eq_true.mp z b (by cases b <;> simp)) q
theorem odd_3 (h : chkOdd fs Gc n told = true) {w o : P} (hw : w ∈ odW) (ho : o ∈ odds) {S : Sto} {Q : D × Sto → Prop} (q : Q (.p unf, S)) : WO (callD (run fs Gc n) told 0 [.p w, .p o, .p (.bool false)] S) Q := by
  simp only [chkOdd, Bool.and_eq_true] at h
  exact call_run (xs := [w, o, .bool false]) (List.all_eq_true.mp (List.all_eq_true.mp h.2 w hw) o ho) q
theorem wp_each {F : FT} {G : Nat → Option P} {t body : C} {env : DEnv} {S1 : Sto} {Q : Fl → DEnv → Sto → Prop} {src : Src} (l : List P) (I : DEnv → Sto → Prop) (hs : ∀ s, srcL s src = l) (hr : ∀ s, isRl s src = true) (h0 : I env S1)
    (step : ∀ a e s, a ∈ l → I e s → WO (bindT t (.p a) e s) fun e1 => wpSs F G body e1 s fun fl e2 s2 => (fl = .nx ∨ fl = .ct) ∧ I e2 s2) (q : ∀ e s, I e s → Q .nx e s) :
    WO (loopG (fun S => isRl S src) (fun S i => atS S src i) (fun x env S => (bindT t (.p x) env S).bind fun e => denSs F G body e S) (lenS S1 src) 0 env S1) fun r => Q r.1 r.2.1 r.2.2 :=
  wp_for (Q := Q) l.length (fun _ e s => I e s) (by rw [lenS_srcL, hs]) h0 (fun e s _ => ⟨by rw [atS_srcL, hs]; simp, hr s⟩) (fun i e s hi hI => ⟨l[i], by rw [atS_srcL, hs]; simp [hi], step _ e s (List.getElem_mem hi) hI⟩) q
end
abbrev env9 (ns : List Int) (x3 x4 x5 x6 x7 x8 : Option D) : DEnv := [some (.s (ns.map PyData.int)), some (.r 1), some (.p (.list wds)), x3, x4, x5, x6, x7, x8]
def QT (ns : List Int) (e2 : DEnv) (s2 : Sto) : Prop := ∃ g m t x3 x4 x5 x6 x7 x8, e2 = env9 ns x3 x4 x5 x6 x7 x8 ∧ s2 = dkS g m t [] ∧ g.length ≤ 63
def QT' (ns : List Int) (w : P) (e2 : DEnv) (s2 : Sto) : Prop := ∃ g m t x4 x5 x6 x7 x8, e2 = env9 ns (some (.p w)) x4 x5 x6 x7 x8 ∧ s2 = dkS g m t [] ∧ g.length ≤ 63
theorem law_w {fs : List DF} {Gc : Nat → Option P} (f11 : fs[11]? = some ⟨4, 1, cDeck⟩) (f12 : fs[12]? = some ⟨4, 2, cDraw⟩) (f13 : fs[13]? = some ⟨2, 2, cPick 12⟩) (kw : chkRun fs Gc 39 5 [] (.tuple wds) = true) (kd : chkDue fs Gc 39 18 19 = true) (ko : chkOdd fs Gc 39 19 = true) (ns : List Int) :
    wpF (run fs Gc 39) Gc 9 1 c_20 [.s (ns.map PyData.int)] [] fun d _ => d = .p (.bool true) := by
  have hro : RestOk [] := rfl
  obtain ⟨sw, hrep⟩ := rep_two wds_sm (by decide) (by decide)
  refine ⟨rfl, ?_⟩
  obtain ⟨d, S', h1, g, m, rfl, rfl, hg⟩ := run_w (fs := fs) (Gc := Gc) (n := 38) f11 (deck_w (run fs Gc 38) Gc ns)
  show WO (callD (run fs Gc 39) 11 2 [.s (ns.map PyData.int)] []) _
  refine WO.mk (a := (D.r 1, dkS g m 0 [])) h1 ?_
  show wpSs (run fs Gc 39) Gc (.cons (.asg (.tnm 2) (.lst _)) _) [some (.s (ns.map PyData.int)), some (.r 1), none, none, none, none, none, none, none] (dkS g m 0 []) _
  refine ⟨rfl, ?_⟩
  show WO (callD (run fs Gc 39) 5 0 ([].map D.p) (dkS g m 0 [])) _
  refine call_run kw ?_
  show WO (callD (run fs Gc 39) 5 0 ([].map D.p) (dkS g m 0 [])) _
  refine call_run kw ?_
  refine ⟨rfl, ?_⟩
  show WO (biF .repr [.list [.tuple wds, .tuple wds]]) _
  refine WO.mk hrep ?_
  show wpE (run fs Gc 39) Gc (.bi .repr (.cons (.bin .Mult (.lst (.cons (.bi .tup (.cons (.var 2) .nil)) .nil)) (.cint 2)) .nil)) _ _ _
  refine ⟨rfl, ?_⟩
  refine ⟨rfl, ⟨⟨by decide, by decide⟩, rfl⟩, ?_⟩
  show WO (biF .repr [.list [.tuple wds, .tuple wds]]) _
  refine WO.mk hrep ?_
  refine ⟨fun h => absurd h (by rw [eqv_self_str]; decide), fun _ => ?_⟩
  show wpSs (run fs Gc 39) Gc (.cons (.fors (.tnm 3) _ _) _) (env9 ns none none none none none none) (dkS g m 0 []) _
  refine wps_each (.it wds) (dkS g m 0 []) (fun x : P => x) wds (fun e s => QT ns e s) (fun R r => r) (fun s => (List.map_id' _).symm) (fun _ => rfl) ⟨g, m, 0, _, _, _, _, _, _, rfl, rfl, hg⟩ ?_ ?_
  · rintro w e s hw ⟨g, m, t, x3, x4, x5, x6, x7, x8, rfl, rfl, hg⟩
    show WO (callD (run fs Gc 39) 12 1 [.r 1, .p (.int 8)] (dkS g m t [])) _
    refine call_draw (n := 38) f12 hro hg (by decide) fun v1 g m t a1 b1 hg => ?_
    show WO (callD (run fs Gc 39) 12 1 [.r 1, .p (.int 6)] (dkS g m t [])) _
    refine call_draw (n := 38) f12 hro hg (by decide) fun v2 g m t a2 b2 hg => ?_
    show WO (callD (run fs Gc 39) 12 1 [.r 1, .p (.int 4)] (dkS g m t [])) _
    refine call_draw (n := 38) f12 hro hg (by decide) fun v3 g m t a3 b3 hg => ?_
    refine ⟨rfl, ?_⟩
    have hz : ∀ e s, QT' ns w e s → wpSs (run fs Gc 39) Gc .nil e s (fun fl e2 s2 => (fl = .nx ∨ fl = .ct) ∧ QT ns e2 s2) := fun e s ⟨g, m, t, x4, x5, x6, x7, x8, h1, h2, hg⟩ => ⟨.inl rfl, g, m, t, _, _, _, _, _, _, h1, h2, hg⟩
    refine wp_each (t := .tnm 5) (Q := fun f e1 S1 => match f with
      | .nx => wpSs (run fs Gc 39) Gc .nil e1 S1 (fun fl e2 s2 => (fl = .nx ∨ fl = .ct) ∧ QT ns e2 s2)
      | f => (f = .nx ∨ f = .ct) ∧ QT ns e1 S1) (src := .it [.int v1, .int (1 + v2), .int (1 + v3)]) (env := env9 ns (some (.p w)) x4 x5 x6 x7 x8) [.int v1, .int (1 + v2), .int (1 + v3)] (fun e s => QT' ns w e s) (fun _ => rfl) (fun _ => rfl) ⟨g, m, t, _, _, _, _, _, rfl, rfl, hg⟩ ?_ hz
    rintro a e s ha ⟨g, m, t, x4, x5, x6, x7, x8, rfl, rfl, hg⟩
    obtain ⟨v, rfl, c0, c1⟩ : ∃ v, a = .int v ∧ 0 ≤ v ∧ v < 8 := by
      simp only [List.mem_cons, List.not_mem_nil, or_false] at ha
      rcases ha with rfl | rfl | rfl
      · exact ⟨_, rfl, by omega, by omega⟩
      · exact ⟨_, rfl, by omega, by omega⟩
      · exact ⟨_, rfl, by omega, by omega⟩
    obtain ⟨x, r, d1, d2, d3⟩ := due_ok kd hw c0 c1
    show WO (callD (run fs Gc 39) 18 0 [.p w, .p (.int v)] (dkS g m t [])) _
    refine d1 _ _ ?_
    show WO (callD (run fs Gc 39) 19 0 [.p w, .p (.int v), .p (.bool true)] (dkS g m t [])) _
    refine d2 _ _ _ ?_
    show WO (callD (run fs Gc 39) 19 0 [.p w, .p (.int v), .p (.bool false)] (dkS g m t [])) _
    refine d2 _ _ _ ?_
    refine ⟨rfl, ?_⟩
    show WO (biF .repr [.list [x, x]]) _
    refine WO.mk d3 ?_
    refine ⟨rfl, ?_⟩
    show WO (biF .repr [.list [x, x]]) _
    refine WO.mk d3 ?_
    refine ⟨fun h => absurd h (by rw [eqv_self_str]; decide), fun _ => ?_⟩
    exact ⟨.inl rfl, g, m, t, _, _, _, _, _, rfl, rfl, hg⟩
  · rintro e s ⟨g, m, t, x3, x4, x5, x6, x7, x8, rfl, rfl, hg⟩
    show wpSs (run fs Gc 39) Gc (.cons (.fors (.tnm 4) (.rg1 (.cint 6)) _) _) (env9 ns x3 x4 x5 x6 x7 x8) (dkS g m t []) _
    refine wps_each (.rg 0 1 6) (dkS g m t []) (fun i : Nat => PyData.int (i : Int)) (List.range 6) (fun e s => QT ns e s) (fun R r => ⟨by decide, r⟩) (fun s => srcL_rg0 s 6) (fun _ => rfl) ⟨g, m, t, _, _, _, _, _, _, rfl, rfl, hg⟩ ?_ ?_
    · rintro i e s hi ⟨g, m, t, x3, x4, x5, x6, x7, x8, rfl, rfl, hg⟩
      refine ⟨rfl, ?_⟩
      refine ⟨rfl, ?_⟩
      refine ⟨by decide, ?_⟩
      refine ⟨rfl, ?_⟩
      show WO (callD (run fs Gc 39) 13 1 [.r 1, .p (.list odds)] (dkS g m t [])) _
      refine call_pick (n := 37) f12 f13 hro hg (.inl ⟨_, rfl⟩) (by decide) (by decide) fun o g m t ho hg => ?_
      refine ⟨rfl, ?_⟩
      refine ⟨rfl, ?_⟩
      refine ⟨rfl, ?_⟩
      show WO (callD (run fs Gc 39) 13 1 [.r 1, .p (.list odW)] (dkS g m t [])) _
      refine call_pick (n := 37) f12 f13 hro hg (.inl ⟨_, rfl⟩) (by decide) (by decide) fun u g m t hu hg => ?_
      show WO (callD (run fs Gc 39) 13 1 [.r 1, .p (.list wds)] (dkS g m t [])) _
      refine call_pick (n := 37) f12 f13 hro hg (.inl ⟨_, rfl⟩) (by decide) (by decide) fun w g m t hw hg => ?_
      refine ⟨by decide, ?_⟩
      show WO (callD (run fs Gc 39) 19 0 [.p w, .p o, .p (.bool _)] (dkS g m t [])) _
      refine odd_1 ko hw ho _ ?_
      refine ⟨fun h => absurd h (by decide), fun _ => ?_⟩
      show WO (callD (run fs Gc 39) 12 1 [.r 1, .p (.int 6)] (dkS g m t [])) _
      refine call_draw (n := 38) f12 hro hg (by decide) fun v g m t a1 b1 hg => ?_
      refine ⟨by decide, ?_⟩
      show WO (callD (run fs Gc 39) 19 0 [.p u, .p (.int (1 + v)), .p (.bool _)] (dkS g m t [])) _
      refine odd_2 ko hu (by omega) (by omega) _ ?_
      refine ⟨fun h => absurd h (by decide), fun _ => ?_⟩
      show WO (callD (run fs Gc 39) 19 0 [.p u, .p o, .p (.bool false)] (dkS g m t [])) _
      refine odd_3 ko hu ho ?_
      refine ⟨fun h => absurd h (by decide), fun _ => ?_⟩
      exact ⟨.inl rfl, g, m, t, _, _, _, _, _, _, rfl, rfl, hg⟩
    · rintro e s ⟨g, m, t, x3, x4, x5, x6, x7, x8, rfl, rfl, hg⟩
      rfl
end k07
namespace k07
open PySem L2 DS
abbrev fs : List DF := sds.map (·.d)
def fl : List DF := [⟨1, 1, c_0⟩, ⟨3, 3, c_1⟩, ⟨3, 1, c_2⟩, ⟨3, 2, c_3⟩, ⟨2, 1, c_4⟩, ⟨0, 0, c_5⟩, ⟨2, 2, c_6⟩, ⟨1, 1, c_7⟩, ⟨2, 1, c_8⟩, ⟨6, 2, c_9⟩, ⟨3, 2, c_10⟩, ⟨4, 1, c_11⟩, ⟨4, 2, c_12⟩, ⟨2, 2, c_13⟩, ⟨5, 1, c_14⟩, ⟨1, 1, c_15⟩, ⟨1, 1, c_16⟩, ⟨4, 2, c_17⟩, ⟨3, 2, c_18⟩, ⟨3, 3, c_19⟩, ⟨9, 1, c_20⟩]
theorem fl_eq : fs = fl := rfl
theorem kw : chkRun fs Gc 39 5 [] (.tuple wds) = true := by rw [fl_eq]; decide +kernel
theorem kd0 : chkDueW fl Gc 39 18 19 (.str "all") = true := by decide +kernel
theorem kd1 : chkDueW fl Gc 39 18 19 (.str "any") = true := by decide +kernel
theorem kd2 : chkDueW fl Gc 39 18 19 (.str "first") = true := by decide +kernel
theorem kd3 : chkDueW fl Gc 39 18 19 (.str "halves") = true := by decide +kernel
theorem kd4 : chkDueW fl Gc 39 18 19 (.str "most") = true := by decide +kernel
theorem kd5 : chkDueW fl Gc 39 18 19 (.str "odd") = true := by decide +kernel
theorem kd6 : chkDueW fl Gc 39 18 19 (.str "pick") = true := by decide +kernel
theorem kd7 : chkDueW fl Gc 39 18 19 (.str "rise") = true := by decide +kernel
theorem kd : chkDue fs Gc 39 18 19 = true := by
  rw [fl_eq]
  refine List.all_eq_true.mpr fun w hw => ?_
  simp only [wds, List.mem_cons, List.not_mem_nil, or_false] at hw
  rcases hw with rfl | rfl | rfl | rfl | rfl | rfl | rfl | rfl
  · exact kd0
  · exact kd1
  · exact kd2
  · exact kd3
  · exact kd4
  · exact kd5
  · exact kd6
  · exact kd7
theorem ko : chkOdd fs Gc 39 19 = true := by rw [fl_eq]; decide +kernel
theorem f20 : fs[20]? = some ⟨9, 1, c_20⟩ := rfl
theorem law_true : ∀ ns : List Int, ns.length ≤ 63 → ∃ S, DS.run (sds.map (·.d)) Gc 40 20 [.s (ns.map PySem.PyData.int)] [] = some (.p (.bool true), S) := fun ns _ => by
  obtain ⟨d, S, h, rfl⟩ := run_w (fs := fs) (Gc := Gc) (n := 39) f20 (law_w rfl rfl rfl kw kd ko ns)
  exact ⟨S, h⟩
end k07
open PySem PySem.W PyProof.Rows
set_option maxRecDepth 100000 in
set_option maxHeartbeats 0 in
theorem PySem.Challenge.cw_fullsense_k07_known_tables_holds : PySem.Challenge.rw_fullsense_k07_known_tables.Holds := by
  w_on; o_law; k_head; (case hw => w_witness2)
  k_fill
  refine DS.law_endX (isi := []) (l := PySem.Challenge.rw_fullsense_k07_known_tables) (sds := k07.sds) (cns := k07.cns) (Gc := k07.Gc) (li := 20) (sl := k07.s_20) (x := "script") (k := 40) rfl rfl ⟨rfl, by decide, by decide⟩ (fun w h Y => PySem.W.kIn_of Y) ?F ?XF (by decide) k07.ck rfl rfl k07.law_true
  case XF =>
    intro w mg h KX G
    refine' DS.ut_of (prog := PySem.Challenge.rw_fullsense_k07_known_tables.prog) (x := "Unfit") (txt := "it does not fit") (qual := "Unfit.__init__") (p1 := ⟨7, 17, 7, 21⟩) (q0 := ⟨8, 8, 8, 13⟩) (q1 := ⟨8, 8, 8, 15⟩) (q2 := ⟨8, 8, 8, 24⟩) (q3 := ⟨8, 25, 8, 42⟩) (q4 := ⟨8, 8, 8, 43⟩) KX G ?aC ?xC ?xD ?iD ?iC ?tI ?lI ?cI ?hcc ?hcd ?hvs ?hfile rfl ?ho ?hsup (by first | rfl | decide +kernel) ?slf ?kC ?eC ?vC ?tC ?cC ?sC (fun z => absurd rfl z) trivial
    (case aC => k_is); (case xC => k_is); (case xD => k_is); (case iD => k_is); (case iC => k_is); (case tI => k_is)
    (case lI => k_is); (case cI => k_is); (case hcc => k_is); (case hcd => k_is); (case hvs => rfl); (case hfile => first | rfl | decide +kernel)
    (case ho => k_is); (case hsup => k_is); (case slf => k_is); (case kC => k_is); (case eC => k_is); (case vC => k_is); (case tC => k_is); (case cC => k_is); (case sC => first | rfl | k_is)
  case F =>
    intro w mg fa h KX G hmg
    refine' k07.tab KX G hmg ?a0 ?l0 ?c0 ?k0 ?a1 ?l1 ?c1 ?k1 ?a2 ?l2 ?c2 ?k2 ?a3 ?l3 ?c3 ?k3 ?a4 ?l4 ?c4 ?k4 ?a5 ?l5 ?c5 ?k5 ?a6 ?l6 ?c6 ?k6 ?a7 ?l7 ?c7 ?k7 ?a8 ?l8 ?c8 ?k8 ?a9 ?l9 ?c9 ?k9 ?a10 ?l10 ?c10 ?k10 ?a11 ?l11 ?c11 ?k11 ?a12 ?l12 ?c12 ?k12 ?a13 ?l13 ?c13 ?k13 ?a14 ?l14 ?c14 ?k14 ?a15 ?l15 ?c15 ?k15 ?a16 ?l16 ?c16 ?k16 ?a17 ?l17 ?c17 ?k17 ?a18 ?l18 ?c18 ?k18 ?a19 ?l19 ?c19 ?k19 ?a20 ?l20 ?c20 ?k20 ?gk0 ?z0 ?z1 ?z2 ?z3 ?z4 ?z5 ?z6 ?z7 ?z8 ?z9 ?z10 ?z11 ?z12 ?z13 ?z14 ?z15 ?z16 ?z17 ?z18
    (case gk0 => k_is)
    (case a0 => k_is); (case l0 => k_is); (case c0 => k_is); (case k0 => k_is)
    (case a1 => k_is); (case l1 => k_is); (case c1 => k_is); (case k1 => k_is)
    (case a2 => k_is); (case l2 => k_is); (case c2 => k_is); (case k2 => k_is)
    (case a3 => k_is); (case l3 => k_is); (case c3 => k_is); (case k3 => k_is)
    (case a4 => k_is); (case l4 => k_is); (case c4 => k_is); (case k4 => k_is)
    (case a5 => k_is); (case l5 => k_is); (case c5 => k_is); (case k5 => k_is)
    (case a6 => k_is); (case l6 => k_is); (case c6 => k_is); (case k6 => k_is)
    (case a7 => k_is); (case l7 => k_is); (case c7 => k_is); (case k7 => k_is)
    (case a8 => k_is); (case l8 => k_is); (case c8 => k_is); (case k8 => k_is)
    (case a9 => k_is); (case l9 => k_is); (case c9 => k_is); (case k9 => k_is)
    (case a10 => k_is); (case l10 => k_is); (case c10 => k_is); (case k10 => k_is)
    (case a11 => k_is); (case l11 => k_is); (case c11 => k_is); (case k11 => k_is)
    (case a12 => k_is); (case l12 => k_is); (case c12 => k_is); (case k12 => k_is)
    (case a13 => k_is); (case l13 => k_is); (case c13 => k_is); (case k13 => k_is)
    (case a14 => k_is); (case l14 => k_is); (case c14 => k_is); (case k14 => k_is)
    (case a15 => k_is); (case l15 => k_is); (case c15 => k_is); (case k15 => k_is)
    (case a16 => k_is); (case l16 => k_is); (case c16 => k_is); (case k16 => k_is)
    (case a17 => k_is); (case l17 => k_is); (case c17 => k_is); (case k17 => k_is)
    (case a18 => k_is); (case l18 => k_is); (case c18 => k_is); (case k18 => k_is)
    (case a19 => k_is); (case l19 => k_is); (case c19 => k_is); (case k19 => k_is)
    (case a20 => k_is); (case l20 => k_is); (case c20 => k_is); (case k20 => k_is)
    (case z0 => k_is); (case z1 => k_is); (case z2 => k_is); (case z3 => k_is); (case z4 => k_is); (case z5 => k_is); (case z6 => k_is); (case z7 => k_is); (case z8 => k_is); (case z9 => k_is); (case z10 => k_is); (case z11 => k_is); (case z12 => k_is); (case z13 => k_is); (case z14 => k_is); (case z15 => k_is); (case z16 => k_is); (case z17 => k_is); (case z18 => k_is)
