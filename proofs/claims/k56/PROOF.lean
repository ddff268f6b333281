import PyProof.Rows.All
import HandS.ForMost
import HandS.Style
import HandS.IsInst
import HandS.Flow
import KE.KDictKeyed
import HandS.TupAny
import HandS.TupMul
import HandS.Wide
import HandS.Deep
import HandS.TupLe
import HandS.More
import KE.KDictDisplayH
import HandS.Zip
import HandS.DictComp
import KE.KDictCopyH
import KE.SortData
import HandS.WordsExc
import HandS.ExcOwn
import HandS.TryOnly
import HandS.EndBits
import PySem.Challenge.RW_pointsfix_k56_whole_conditions_on_lines
set_option Elab.async false
set_option linter.all false
set_option maxRecDepth 100000
set_option maxHeartbeats 2000000
namespace DL
open PySem PySem.Spec PyProof.Rows L2

/-! ### data -/
/-- data: what a value is, without the heap -/
inductive D where
  | non | bl (b : Bool) | int (i : Int) | str (x : Str) | tup (xs : List D) | lst (xs : List D) | dic (ks vs : List D) | dik (ks : List Key) (vs : List D) | fn (a : Addr) | scr (ns : List Int) | tpp (xs : List D)
  deriving Inhabited

/-- the frozen list -/
def SqF (K : PySem.W.Frag) (H : Hp) (a : Addr) (xs : List V) : Prop :=
  (∃ o, H a = some (.frz o (.lst xs))) ∨
    ∃ (o : Obj) (its : Array Value) (n : Nat), K.lookup a = some o ∧ o.cls = .type "list" ∧ o.dict = none ∧ o.data = .seq its n ∧ its.size ≤ sizeLine ∧ Vals xs its.toList
theorem SqF.sq {K : PySem.W.Frag} {H : Hp} {a : Addr} {xs : List V} (h : SqF K H a xs) : SqL K H a xs := by
  rcases h with ⟨o, h⟩ | h
  · exact .inl (.inr ⟨o, h⟩)
  · exact .inr h

abbrev NK := PySem.NestedKey
/-- an entry of a dict: its key, the key's tuple, its value -/
abbrev KE3 := List (NK × Addr × V)
/-- a dict whose keys are tuples, by its entries -/
structure DhOk (w : World) (a : Addr) (kvs : KE3) (h : Heap) : Prop where
  ex : ∃ o es ep, ∃ xs : List (NK × Addr × Value), h.get? a = some o ∧ o.ExactDict ∧ o.data = .dict es ep ∧ es.toList = xs.map (fun x => (⟨x.1.hash w, .ref x.2.1, x.2.2⟩ : DictEntry)) ∧
    Paired (fun (p : NK × Addr × V) (x : NK × Addr × Value) => p.1 = x.1 ∧ p.2.1 = x.2.1 ∧ RelV p.2.2 x.2.2) kvs xs
  nd : (kvs.map (·.1)).Nodup
  dp : ∀ x ∈ kvs, x.1.depth ≤ 8
  sz : kvs.length ≤ sizeLine
  sm : (a == sysModules) = false
def dH (w : World) (a : Addr) (kvs : KE3) : HO := .ext (DhOk w a kvs)

/-- a key by value -/
def keyV : D → Option NK
  | .non => some NestedKey.none
  | .int i => some (NestedKey.num i)
  | .str x => some (NestedKey.text x)
  | .tup xs => (keyVs xs).map NestedKey.tup
  | .tpp xs => (keyVs xs).map NestedKey.tup
  | _ => none
where keyVs : List D → Option (List NK)
  | [] => some []
  | d :: r => match keyV d, keyVs r with
    | some k, some ks => some (k :: ks)
    | _, _ => none
/-- a key that is an int or a text -/
def keyD : Key → D
  | .inl i => .int i
  | .inr x => .str x

/-! ### how the heap bears it -/
section
variable (K : PySem.W.Frag) (w : World) (H : Hp)
mutual
def Rep : D → V → Prop
  | .non, v => v = .non
  | .bl b, v => v = .bl b
  | .int i, v => v = .int i
  | .str x, v => v = .str x
  | .fn a, v => v = .ref a
  | .scr ns, v => ∃ a, v = .ref a ∧ SqF K H a (ns.map V.int)
  | .tup xs, v => ∃ a vs, v = .ref a ∧ SqT K H a vs ∧ Reps xs vs
  | .tpp xs, v => ∃ a vs, v = .ref a ∧ (∃ o, H a = some (.frz o (.tup vs)) ∧ o.dict = none) ∧ Reps xs vs
  | .lst xs, v => ∃ a vs, v = .ref a ∧ (∃ o, H a = some (.frz o (.lst vs))) ∧ Reps xs vs
  | .dic ks ds, v => ∃ a o, v = .ref a ∧ ∃ kvs : KE3, H a = some (.frz o (dH w a kvs)) ∧ keyV.keyVs ks = some (kvs.map (·.1)) ∧ Reps ks (kvs.map fun x => V.ref x.2.1) ∧ Reps ds (kvs.map (·.2.2))
  | .dik ks ds, v => ∃ a o, v = .ref a ∧ ∃ kvs : List (Key × V), H a = some (.frz o (.dK kvs)) ∧ ks = kvs.map (·.1) ∧ Reps ds (kvs.map (·.2))
def Reps : List D → List V → Prop
  | [], vs => vs = []
  | d :: r, vs => ∃ v us, vs = v :: us ∧ Rep d v ∧ Reps r us
end
end

/-- what stands at a mutable address -/
def RepM (K : PySem.W.Frag) (w : World) (H : Hp) (a : Addr) : D → Prop
  | .lst xs => ∃ vs, H a = some (.lst vs) ∧ Reps K w H xs vs
  | .dic ks ds => ∃ kvs : KE3, H a = some (dH w a kvs) ∧ keyV.keyVs ks = some (kvs.map (·.1)) ∧ Reps K w H ks (kvs.map fun x => V.ref x.2.1) ∧ Reps K w H ds (kvs.map (·.2.2))
  | .dik ks ds => ∃ kvs : List (Key × V), H a = some (.dK kvs) ∧ ks = kvs.map (·.1) ∧ Reps K w H ds (kvs.map (·.2))
  | _ => False

section
variable {K : PySem.W.Frag} {w : World} {H H' : Hp}
/-- tuples and what is locked stay -/
structure Le (H H' : Hp) : Prop where
  tup : ∀ a xs, H a = some (.tup xs) → H' a = some (.tup xs)
  frz : ∀ a o u, H a = some (.frz o u) → H' a = some (.frz o u)
theorem Le.refl (H : Hp) : Le H H := ⟨fun _ _ h => h, fun _ _ _ h => h⟩
theorem Le.trans {H1 H2 H3 : Hp} (a : Le H1 H2) (b : Le H2 H3) : Le H1 H3 := ⟨fun x y h => b.tup x y (a.tup x y h), fun x y z h => b.frz x y z (a.frz x y z h)⟩
theorem Le.rd_tup {a : Addr} {xs : List V} (l : Le H H') (h : Rd H a (.tup xs)) : Rd H' a (.tup xs) := by
  rcases h with h | ⟨o, h⟩
  · exact .inl (l.tup a xs h)
  · exact .inr ⟨o, l.frz a o _ h⟩
theorem Le.sqT {a : Addr} {xs : List V} (l : Le H H') (h : SqT K H a xs) : SqT K H' a xs := by
  rcases h with h | h
  · exact .inl (l.rd_tup h)
  · exact .inr h
theorem Le.sqF {a : Addr} {xs : List V} (l : Le H H') (h : SqF K H a xs) : SqF K H' a xs := by
  rcases h with ⟨o, h⟩ | h
  · exact .inl ⟨o, l.frz a o _ h⟩
  · exact .inr h
mutual
theorem Rep.mono (l : Le H H') : ∀ (d : D) (v : V), Rep K w H d v → Rep K w H' d v
  | .non, v, h => h
  | .bl b, v, h => h
  | .int i, v, h => h
  | .str x, v, h => h
  | .fn a, v, h => h
  | .scr ns, v, h => by
    obtain ⟨a, e, h1⟩ := h
    exact ⟨a, e, l.sqF h1⟩
  | .tup xs, v, h => by
    obtain ⟨a, vs, e, h1, h2⟩ := h
    exact ⟨a, vs, e, l.sqT h1, Reps.mono l xs vs h2⟩
  | .tpp xs, v, h => by
    obtain ⟨a, vs, e, ⟨o, h1, h0⟩, h2⟩ := h
    exact ⟨a, vs, e, ⟨o, l.frz a o _ h1, h0⟩, Reps.mono l xs vs h2⟩
  | .lst xs, v, h => by
    obtain ⟨a, vs, e, ⟨o, h1⟩, h2⟩ := h
    exact ⟨a, vs, e, ⟨o, l.frz a o _ h1⟩, Reps.mono l xs vs h2⟩
  | .dic ks ds, v, h => by
    obtain ⟨a, o, e, kvs, h1, h2, h3, h4⟩ := h
    exact ⟨a, o, e, kvs, l.frz a o _ h1, h2, Reps.mono l ks _ h3, Reps.mono l ds _ h4⟩
  | .dik ks ds, v, h => by
    obtain ⟨a, o, e, kvs, h1, h2, h3⟩ := h
    exact ⟨a, o, e, kvs, l.frz a o _ h1, h2, Reps.mono l ds _ h3⟩
theorem Reps.mono (l : Le H H') : ∀ (ds : List D) (vs : List V), Reps K w H ds vs → Reps K w H' ds vs
  | [], vs, h => h
  | d :: r, vs, h => by
    obtain ⟨v, us, e, h1, h2⟩ := h
    exact ⟨v, us, e, Rep.mono l d v h1, Reps.mono l r us h2⟩
end
theorem Reps.length : ∀ {ds : List D} {vs : List V}, Reps K w H ds vs → ds.length = vs.length
  | [], vs, h => by cases (show vs = [] from h); rfl
  | d :: r, vs, h => by
    obtain ⟨v, us, rfl, h1, h2⟩ := h
    simp [Reps.length h2]
theorem Reps.get : ∀ {ds : List D} {vs : List V} {i : Nat} {d : D}, Reps K w H ds vs → ds[i]? = some d → ∃ v, vs[i]? = some v ∧ Rep K w H d v
  | [], _, _, _, _, e => by simp at e
  | d :: r, vs, 0, x, h, e => by
    obtain ⟨v, us, rfl, h1, h2⟩ := h
    simp at e; subst e
    exact ⟨v, rfl, h1⟩
  | d :: r, vs, i + 1, x, h, e => by
    obtain ⟨v, us, rfl, h1, h2⟩ := h
    obtain ⟨u, q1, q2⟩ := Reps.get (i := i) h2 (by simpa using e)
    exact ⟨u, by simpa using q1, q2⟩
theorem Reps.append : ∀ {ds es : List D} {vs us : List V}, Reps K w H ds vs → Reps K w H es us → Reps K w H (ds ++ es) (vs ++ us)
  | [], es, vs, us, h, k => by cases (show vs = [] from h); exact k
  | d :: r, es, vs, us, h, k => by
    obtain ⟨v, vs', rfl, h1, h2⟩ := h
    exact ⟨v, vs' ++ us, rfl, h1, Reps.append h2 k⟩
theorem Reps.take : ∀ {ds : List D} {vs : List V} (n : Nat), Reps K w H ds vs → Reps K w H (ds.take n) (vs.take n)
  | ds, vs, 0, h => rfl
  | [], vs, n + 1, h => by cases (show vs = [] from h); rfl
  | d :: r, vs, n + 1, h => by
    obtain ⟨v, us, rfl, h1, h2⟩ := h
    exact ⟨v, us.take n, rfl, h1, Reps.take n h2⟩
theorem Reps.drop : ∀ {ds : List D} {vs : List V} (n : Nat), Reps K w H ds vs → Reps K w H (ds.drop n) (vs.drop n)
  | ds, vs, 0, h => h
  | [], vs, n + 1, h => by cases (show vs = [] from h); rfl
  | d :: r, vs, n + 1, h => by
    obtain ⟨v, us, rfl, h1, h2⟩ := h
    exact Reps.drop n h2
theorem Reps.set {d : D} {v : V} (hd : Rep K w H d v) : ∀ {ds : List D} {vs : List V} (i : Nat), Reps K w H ds vs → Reps K w H (ds.set i d) (vs.set i v)
  | [], vs, i, h => by cases (show vs = [] from h); rfl
  | e :: r, vs, 0, h => by
    obtain ⟨u, us, rfl, h1, h2⟩ := h
    exact ⟨v, us, rfl, hd, h2⟩
  | e :: r, vs, i + 1, h => by
    obtain ⟨u, us, rfl, h1, h2⟩ := h
    exact ⟨u, us.set i v, rfl, h1, Reps.set hd i h2⟩
theorem Reps.one {d : D} {v : V} (h : Rep K w H d v) : Reps K w H [d] [v] := ⟨v, [], rfl, h, rfl⟩
theorem Reps.snoc {ds : List D} {vs : List V} {d : D} {v : V} (h : Reps K w H ds vs) (hd : Rep K w H d v) : Reps K w H (ds ++ [d]) (vs ++ [v]) := h.append (Reps.one hd)
theorem Reps.reverse : ∀ {ds : List D} {vs : List V}, Reps K w H ds vs → Reps K w H ds.reverse vs.reverse
  | [], vs, h => by cases (show vs = [] from h); rfl
  | d :: r, vs, h => by
    obtain ⟨v, us, rfl, h1, h2⟩ := h
    rw [List.reverse_cons, List.reverse_cons]
    exact (Reps.reverse h2).snoc h1
theorem Reps.dropLast {ds : List D} {vs : List V} (h : Reps K w H ds vs) : Reps K w H ds.dropLast vs.dropLast := by
  rw [List.dropLast_eq_take, List.dropLast_eq_take, h.length]
  exact h.take _
theorem Reps.rep {ds : List D} {vs : List V} (h : Reps K w H ds vs) : ∀ k : Nat, Reps K w H (List.replicate k ds).flatten (List.replicate k vs).flatten
  | 0 => rfl
  | k + 1 => by
    rw [List.replicate_succ, List.replicate_succ, List.flatten_cons, List.flatten_cons]
    exact h.append (Reps.rep h k)
theorem RepM.mono {a : Addr} {d : D} (l : Le H H') (e : H' a = H a) (h : RepM K w H a d) : RepM K w H' a d := by
  cases d with
  | lst xs =>
    obtain ⟨vs, h1, h2⟩ := h
    exact ⟨vs, e.trans h1, Reps.mono l _ _ h2⟩
  | dic ks ds =>
    obtain ⟨kvs, h1, h2, h3, h4⟩ := h
    exact ⟨kvs, e.trans h1, h2, Reps.mono l _ _ h3, Reps.mono l _ _ h4⟩
  | dik ks ds =>
    obtain ⟨kvs, h1, h2, h3⟩ := h
    exact ⟨kvs, e.trans h1, h2, Reps.mono l _ _ h3⟩
  | _ => exact h.elim
/-- what is mutable there is neither a tuple nor locked -/
theorem RepM.at {a : Addr} {d : D} (h : RepM K w H a d) : ∃ u, H a = some u ∧ Mut (some u) := by
  cases d with
  | lst xs => obtain ⟨vs, h1, h2⟩ := h; exact ⟨_, h1, trivial⟩
  | dic ks ds => obtain ⟨kvs, h1, h2, h3, h4⟩ := h; exact ⟨_, h1, trivial⟩
  | dik ks ds => obtain ⟨kvs, h1, h2, h3⟩ := h; exact ⟨_, h1, trivial⟩
  | _ => exact h.elim
/-- a mutable object's stead is another than a tuple's and what is locked: a change there keeps them -/
theorem Le.wr {a : Addr} {o u : HO} (h : H a = some u) (mu : Mut (some u)) : Le H (upd H a o) := by
  refine ⟨fun b xs e => ?_, fun b ob x e => ?_⟩
  · rw [upd_ne (fun z => by subst z; rw [e] at h; cases h; exact mu)]; exact e
  · rw [upd_ne (fun z => by subst z; rw [e] at h; cases h; exact mu)]; exact e
theorem Le.new {a : Addr} {o : HO} (h : H a = none) : Le H (upd H a o) := by
  refine ⟨fun b xs e => ?_, fun b ob x e => ?_⟩ <;> (rw [upd_ne (ne_of_none e h)]; exact e)
/-- frozen -/
theorem RepM.frozen {a : Addr} {d : D} (h : RepM K w H a d) : ∃ u, H a = some u ∧ Mut (some u) ∧ ∀ o, Rep K w (L2.upd H a (.frz o u)) d (.ref a) := by
  cases d with
  | lst xs =>
    obtain ⟨vs, h1, h2⟩ := h
    refine ⟨_, h1, trivial, fun o => ⟨a, vs, rfl, ⟨o, upd_same⟩, Reps.mono (Le.wr h1 trivial) _ _ h2⟩⟩
  | dic ks ds =>
    obtain ⟨kvs, h1, h2, h3, h4⟩ := h
    exact ⟨_, h1, trivial, fun o => ⟨a, o, rfl, kvs, upd_same, h2, Reps.mono (Le.wr h1 trivial) _ _ h3, Reps.mono (Le.wr h1 trivial) _ _ h4⟩⟩
  | dik ks ds =>
    obtain ⟨kvs, h1, h2, h3⟩ := h
    exact ⟨_, h1, trivial, fun o => ⟨a, o, rfl, kvs, upd_same, h2, Reps.mono (Le.wr h1 trivial) _ _ h3⟩⟩
  | _ => exact h.elim
end

/-! ### the frame: what the slots hold -/
/-- a slot: nothing known, data, or a mutable object of its own -/
inductive Sl where
  | un | im (d : D) | mu (d : D)
  deriving Inhabited
abbrev DEnv := List Sl

/-- a is the object of one of the frame's mutable slots -/
def Own (σ : L2.St) (ρ : DEnv) (a : Addr) : Prop := ∃ (i : Nat) (d : D), ρ[i]? = some (.mu d) ∧ σ[i]? = some (some (.ref a))

structure EnvR (K : PySem.W.Frag) (w : World) (σ : L2.St) (ρ : DEnv) (H : Hp) : Prop where
  len : σ.length = ρ.length
  im : ∀ (i : Nat) (d : D), ρ[i]? = some (.im d) → ∃ v, σ[i]? = some (some v) ∧ Rep K w H d v
  mu : ∀ (i : Nat) (d : D), ρ[i]? = some (.mu d) → ∃ a, σ[i]? = some (some (.ref a)) ∧ RepM K w H a d
  ap : ∀ (i j : Nat) (d e : D) (a : Addr), ρ[i]? = some (.mu d) → ρ[j]? = some (.mu e) → σ[i]? = some (some (.ref a)) → σ[j]? = some (some (.ref a)) → i = j

section
variable {K : PySem.W.Frag} {w : World} {H H' H0 H1 H2 : Hp} {σ : L2.St} {ρ ρ' ρ1 ρ2 : DEnv}
theorem EnvR.own_mut (E : EnvR K w σ ρ H) {a : Addr} (h : Own σ ρ a) : ∃ u, H a = some u ∧ Mut (some u) := by
  obtain ⟨i, d, h1, h2⟩ := h
  obtain ⟨b, h3, h4⟩ := E.mu i d h1
  rw [h2] at h3; cases h3
  exact h4.at

/-- from H to H', the slots' contents from ρ to ρ': all but the slots' own objects stays -/
structure Post (K : PySem.W.Frag) (w : World) (σ : L2.St) (ρ : DEnv) (H : Hp) (ρ' : DEnv) (H' : Hp) : Prop where
  env : EnvR K w σ ρ' H'
  frm : ∀ a o, H a = some o → ¬ Own σ ρ a → H' a = some o
  sub : ∀ (i : Nat) (d : D), ρ'[i]? = some (.mu d) → ∃ e, ρ[i]? = some (.mu e)
  dom : ∀ a, H' a = none → H a = none
theorem Post.le (E : EnvR K w σ ρ H) (p : Post K w σ ρ H ρ' H') : Le H H' := by
  refine ⟨fun a xs e => p.frm a _ e fun o => ?_, fun a o u e => p.frm a _ e fun z => ?_⟩
  · obtain ⟨u, h1, h2⟩ := E.own_mut o
    rw [e] at h1; cases h1; exact h2
  · obtain ⟨u, h1, h2⟩ := E.own_mut z
    rw [e] at h1; cases h1; exact h2
theorem Post.own (p : Post K w σ ρ H ρ' H') {a : Addr} (h : Own σ ρ' a) : Own σ ρ a := by
  obtain ⟨i, d, h1, h2⟩ := h
  obtain ⟨e, h3⟩ := p.sub i d h1
  exact ⟨i, e, h3, h2⟩
theorem Post.refl (E : EnvR K w σ ρ H) : Post K w σ ρ H ρ H := ⟨E, fun _ _ h _ => h, fun _ d h => ⟨d, h⟩, fun _ h => h⟩
theorem Post.trans (p : Post K w σ ρ H ρ1 H1) (q : Post K w σ ρ1 H1 ρ2 H2) : Post K w σ ρ H ρ2 H2 :=
  ⟨q.env, fun a o h n => q.frm a o (p.frm a o h n) fun z => n (p.own z), fun i d h => let ⟨e, h1⟩ := q.sub i d h; p.sub i e h1, fun a h => p.dom a (q.dom a h)⟩
/-- a new object beside -/
theorem EnvR.grow (E : EnvR K w σ ρ H) (k : ∀ a o, H a = some o → H' a = some o) : EnvR K w σ ρ H' := by
  have l : Le H H' := ⟨fun a _ h => k a _ h, fun a _ _ h => k a _ h⟩
  refine ⟨E.len, fun i d h => ?_, fun i d h => ?_, E.ap⟩
  · obtain ⟨v, h1, h2⟩ := E.im i d h
    exact ⟨v, h1, Rep.mono l _ _ h2⟩
  · obtain ⟨a, h1, h2⟩ := E.mu i d h
    obtain ⟨u, h3, _⟩ := h2.at
    exact ⟨a, h1, h2.mono l ((k a u h3).trans h3.symm)⟩
theorem Post.grow (E : EnvR K w σ ρ H) (k : ∀ a o, H a = some o → H' a = some o) : Post K w σ ρ H ρ H' :=
  ⟨E.grow k, fun a o h _ => k a o h, fun _ d h => ⟨d, h⟩, fun a h => by
    cases e : H a with
    | none => rfl
    | some o => rw [k a o e] at h; cases h⟩
theorem keep_new {a : Addr} {o : HO} (h : H a = none) : ∀ b u, H b = some u → upd H a o b = some u := fun b u e => by
  rw [upd_ne (ne_of_none e h)]; exact e
end

/-! ### results -/
/-- a result: data; the object of the slot i; a new mutable object -/
inductive RV where
  | val (d : D) | slot (i : Nat) | fresh (d : D)
  deriving Inhabited
/-- a plain tuple is a tuple -/
def wk : D → D
  | .tpp xs => .tup xs
  | d => d
def RV.get (ρ : DEnv) : RV → Option D
  | .val d => some (wk d)
  | .fresh d => some d
  | .slot i => match ρ[i]? with
    | some (.mu d) => some d
    | _ => none
/-- H0: the heap ahead -/
def RepR (K : PySem.W.Frag) (w : World) (σ : L2.St) (H0 H : Hp) : RV → V → Prop
  | .val d, v => Rep K w H d v
  | .slot i, v => σ[i]? = some (some v)
  | .fresh d, v => ∃ a, v = .ref a ∧ H0 a = none ∧ RepM K w H a d
/-- to be read: frozen or not -/
def RepB (K : PySem.W.Frag) (w : World) (H : Hp) : D → V → Prop
  | .lst xs, v => ∃ a vs, v = .ref a ∧ Rd H a (.lst vs) ∧ Reps K w H xs vs
  | .dic ks ds, v => ∃ a, v = .ref a ∧ ∃ kvs : KE3, Rd H a (dH w a kvs) ∧ keyV.keyVs ks = some (kvs.map (·.1)) ∧ Reps K w H ks (kvs.map fun x => V.ref x.2.1) ∧ Reps K w H ds (kvs.map (·.2.2))
  | .dik ks ds, v => ∃ a, v = .ref a ∧ ∃ kvs : List (Key × V), Rd H a (.dK kvs) ∧ ks = kvs.map (·.1) ∧ Reps K w H ds (kvs.map (·.2))
  | d, v => Rep K w H d v
section
variable {K : PySem.W.Frag} {w : World} {H H' H0 H1 H2 : Hp} {σ : L2.St} {ρ ρ' ρ1 ρ2 : DEnv} {d : D} {v : V}
theorem Rep.wk (h : Rep K w H d v) : Rep K w H (wk d) v := by
  cases d with
  | tpp xs =>
    obtain ⟨a, vs, e, ⟨o, h1, h0⟩, h2⟩ := h
    exact ⟨a, vs, e, .inl (.inr ⟨o, h1⟩), h2⟩
  | _ => exact h
theorem Rep.b (h : Rep K w H d v) : RepB K w H d v := by
  cases d with
  | lst xs => obtain ⟨a, vs, e, h1, h2⟩ := h; exact ⟨a, vs, e, .inr h1, h2⟩
  | dic ks ds =>
    obtain ⟨a, o, e, kvs, h1, h2, h3, h4⟩ := h
    exact ⟨a, e, kvs, .inr ⟨o, h1⟩, h2, h3, h4⟩
  | dik ks ds =>
    obtain ⟨a, o, e, kvs, h1, h2, h3⟩ := h
    exact ⟨a, e, kvs, .inr ⟨o, h1⟩, h2, h3⟩
  | _ => exact h
theorem RepM.b {a : Addr} (h : RepM K w H a d) : RepB K w H d (.ref a) := by
  cases d with
  | lst xs => obtain ⟨vs, h1, h2⟩ := h; exact ⟨a, vs, rfl, .inl h1, h2⟩
  | dic ks ds =>
    obtain ⟨kvs, h1, h2, h3, h4⟩ := h
    exact ⟨a, rfl, kvs, .inl h1, h2, h3, h4⟩
  | dik ks ds =>
    obtain ⟨kvs, h1, h2, h3⟩ := h
    exact ⟨a, rfl, kvs, .inl h1, h2, h3⟩
  | _ => exact h.elim
/-- a fresh object is none of the slots' -/
theorem fresh_not_own (E : EnvR K w σ ρ H0) (p : Post K w σ ρ H0 ρ' H') {a : Addr} (h : H0 a = none) : ¬ Own σ ρ' a := fun z => by
  obtain ⟨u, h1, _⟩ := E.own_mut (p.own z)
  rw [h] at h1; cases h1
/-- a result stays one -/
theorem RepR.keep {rv : RV} (E : EnvR K w σ ρ H0) (p : Post K w σ ρ H0 ρ1 H1) (q : Post K w σ ρ1 H1 ρ2 H2) (h : RepR K w σ H0 H1 rv v) : RepR K w σ H0 H2 rv v := by
  cases rv with
  | val d => exact Rep.mono (q.le p.env) _ _ h
  | slot i => exact h
  | fresh d =>
    obtain ⟨a, e, h1, h2⟩ := h
    obtain ⟨u, h3, _⟩ := h2.at
    exact ⟨a, e, h1, h2.mono (q.le p.env) ((q.frm a u h3 (fresh_not_own E p h1)).trans h3.symm)⟩
/-- later: the heap ahead is an elder one -/
theorem RepR.elder {rv : RV} (h0 : ∀ a, H1 a = none → H0 a = none) (h : RepR K w σ H1 H2 rv v) : RepR K w σ H0 H2 rv v := by
  cases rv with
  | val d => exact h
  | slot i => exact h
  | fresh d => obtain ⟨a, e, h1, h2⟩ := h; exact ⟨a, e, h0 a h1, h2⟩
/-- read -/
theorem RepR.b {rv : RV} (E : EnvR K w σ ρ H) (h : RepR K w σ H0 H rv v) (g : rv.get ρ = some d) : RepB K w H d v := by
  cases rv with
  | val d' => cases g; exact Rep.b (Rep.wk h)
  | fresh d' => cases g; obtain ⟨a, e, h1, h2⟩ := h; subst e; exact h2.b
  | slot i =>
    simp only [RV.get] at g
    split at g
    · rename_i d' e
      cases g
      obtain ⟨a, h1, h2⟩ := E.mu i d e
      have h : σ[i]? = some (some v) := h
      rw [h1] at h; cases h
      exact h2.b
    · cases g
end
end DL

set_option Elab.async false
set_option linter.all false
set_option maxRecDepth 100000
set_option maxHeartbeats 2000000
namespace DL
open PySem PySem.Spec PyProof.Rows L2

theorem PE.imp {X : Cx} {e : Expr} {t t' : TE} (h : PE X e t) (k : ∀ σ H Q, t' σ H Q → t σ H Q) : PE X e t' := ⟨fun pins s σ H Q I q => h.run pins s σ H Q I (k σ H Q q)⟩
theorem PT.imp {X : Cx} {e : Expr} {t t' : TT} (h : PT X e t) (k : ∀ σ H Q, t' σ H Q → t σ H Q) : PT X e t' := ⟨fun pins s σ H Q I q => h.run pins s σ H Q I (k σ H Q q)⟩
theorem PW.imp {X : Cx} {e : Expr} {t t' : TT} (h : PW X e t) (k : ∀ σ H Q, t' σ H Q → t σ H Q) : PW X e t' := ⟨fun wh pins s σ H Q I q => h.run wh pins s σ H Q I (k σ H Q q)⟩
theorem PA.imp {X : Cx} {es : List Expr} {t t' : TA} (h : PA X es t) (k : ∀ σ H Q, t' σ H Q → t σ H Q) : PA X es t' := ⟨fun pos pins s σ H Q I q => h.run pos pins s σ H Q I (k σ H Q q)⟩

/-! ### the readings by data -/
abbrev FE := DEnv → Option (RV × DEnv)
abbrev FT := DEnv → Option (Bool × DEnv)
abbrev FA := DEnv → Option (List RV × DEnv)
def RepRs (K : PySem.W.Frag) (w : World) (σ : L2.St) (H0 H : Hp) : List RV → List V → Prop
  | [], vs => vs = []
  | r :: rs, vs => ∃ v us, vs = v :: us ∧ RepR K w σ H0 H r v ∧ RepRs K w σ H0 H rs us
section
variable (K : PySem.W.Frag) (w : World)
def tD (f : FE) : TE := fun σ H Q => ∃ ρ rv ρ', EnvR K w σ ρ H ∧ f ρ = some (rv, ρ') ∧ ∀ v H', Post K w σ ρ H ρ' H' → RepR K w σ H H' rv v → Q v H'
def bD (f : FT) : TT := fun σ H Q => ∃ ρ b ρ', EnvR K w σ ρ H ∧ f ρ = some (b, ρ') ∧ ∀ H', Post K w σ ρ H ρ' H' → Q b H'
def aD (f : FA) : TA := fun σ H Q => ∃ ρ rs ρ', EnvR K w σ ρ H ∧ f ρ = some (rs, ρ') ∧ ∀ vs H', Post K w σ ρ H ρ' H' → RepRs K w σ H H' rs vs → Q vs H'
end
abbrev DE (X : Cx) (e : Expr) (f : FE) : Prop := PE X e (tD X.K X.w f)
abbrev DT (X : Cx) (e : Expr) (f : FT) : Prop := PT X e (bD X.K X.w f)
abbrev DW (X : Cx) (e : Expr) (f : FT) : Prop := PW X e (bD X.K X.w f)
abbrev DA (X : Cx) (es : List Expr) (f : FA) : Prop := PA X es (aD X.K X.w f)

section
variable {K : PySem.W.Frag} {w : World} {H H' H0 H1 H2 : Hp} {σ : L2.St} {ρ ρ' ρ1 ρ2 : DEnv} {d : D} {v : V}
theorem RepR.sig {rv : RV} (h : RepR K w [] H0 H rv v) : RepR K w σ H0 H rv v := by
  cases rv with
  | slot i => have h : ([] : L2.St)[i]? = some (some v) := h; simp at h
  | _ => exact h
theorem RepRs.keep (E : EnvR K w σ ρ H0) (p : Post K w σ ρ H0 ρ1 H1) (q : Post K w σ ρ1 H1 ρ2 H2) : ∀ {rs : List RV} {vs : List V}, RepRs K w σ H0 H1 rs vs → RepRs K w σ H0 H2 rs vs
  | [], _, h => h
  | r :: rs, vs, h => by
    obtain ⟨v, us, e, h1, h2⟩ := h
    exact ⟨v, us, e, h1.keep E p q, RepRs.keep E p q h2⟩
theorem RepRs.elder (h0 : ∀ a, H1 a = none → H0 a = none) : ∀ {rs : List RV} {vs : List V}, RepRs K w σ H1 H2 rs vs → RepRs K w σ H0 H2 rs vs
  | [], _, h => h
  | r :: rs, vs, h => by
    obtain ⟨v, us, e, h1, h2⟩ := h
    exact ⟨v, us, e, h1.elder h0, RepRs.elder h0 h2⟩
def RepBs (K : PySem.W.Frag) (w : World) (H : Hp) : List D → List V → Prop
  | [], vs => vs = []
  | d :: ds, vs => ∃ v us, vs = v :: us ∧ RepB K w H d v ∧ RepBs K w H ds us
def getAll (ρ : DEnv) : List RV → Option (List D)
  | [] => some []
  | r :: rs => match r.get ρ, getAll ρ rs with
    | some d, some ds => some (d :: ds)
    | _, _ => none
theorem RepRs.b (E : EnvR K w σ ρ H) : ∀ {rs : List RV} {vs : List V} {ds : List D}, RepRs K w σ H0 H rs vs → getAll ρ rs = some ds → RepBs K w H ds vs
  | [], vs, ds, h, g => by cases g; exact h
  | r :: rs, vs, ds, h, g => by
    obtain ⟨v, us, e, h1, h2⟩ := h
    simp only [getAll] at g
    split at g
    · rename_i d ds' e1 e2
      cases g
      exact ⟨v, us, e, h1.b E e1, RepRs.b E h2 e2⟩
    · cases g
end

/-! ### names and constants -/
def fVar (i : Nat) : FE := fun ρ => match ρ[i]? with
  | some (.im d) => some (.val d, ρ)
  | some (.mu _) => some (.slot i, ρ)
  | _ => none
def fC (d : D) : FE := fun ρ => some (.val d, ρ)
section
variable {X : Cx}
theorem var_ok {K : PySem.W.Frag} {w : World} {i : Nat} (σ : L2.St) (H : Hp) (Q : VK) (h : tD K w (fVar i) σ H Q) : tVar i σ H Q := by
  obtain ⟨ρ, rv, ρ', E, e, k⟩ := h
  unfold fVar at e
  split at e
  · rename_i d h1
    cases e
    obtain ⟨v, h2, h3⟩ := E.im i d h1
    exact ⟨v, h2, k v H (Post.refl E) h3⟩
  · rename_i d h1
    cases e
    obtain ⟨a, h2, h3⟩ := E.mu i d h1
    exact ⟨_, h2, k _ H (Post.refl E) h2⟩
  · cases e
theorem dv (i : Nat) {x : Str} {pos : Pos} (hN : X.N[i]? = some x := by rfl) (hv : Vis X.env.scope x := by first | exact Or.inl rfl | exact Or.inr (Or.inl rfl) | exact Or.inr (Or.inr rfl)) (hd : (x == ("__debug__" : Str)) = false := by decide)
    (hcd : (x == ("__classdict__" : Str)) = false := by decide) : DE X (.Name x pos) (fVar i) := PE.imp (pe_var hN hv hd hcd) var_ok
theorem c_ok {K : PySem.W.Frag} {w : World} {d : D} {v : V} (r : ∀ H, Rep K w H d v) (σ : L2.St) (H : Hp) (Q : VK) (h : tD K w (fC d) σ H Q) : tC v σ H Q := by
  obtain ⟨ρ, rv, ρ', E, e, k⟩ := h
  cases e
  exact k v H (Post.refl E) (r H)
theorem de_int {i j pos} : DE X (.Constant (.int i) j pos) (fC (.int i)) := PE.imp pe_int (c_ok fun _ => rfl)
theorem de_bl {b j pos} : DE X (.Constant (.bool b) j pos) (fC (.bl b)) := PE.imp pe_bl (c_ok fun _ => rfl)
theorem de_non {j pos} : DE X (.Constant .none j pos) (fC .non) := PE.imp pe_non (c_ok fun _ => rfl)
theorem de_str {x j pos} : DE X (.Constant (.str x) j pos) (fC (.str x)) := PE.imp pe_str (c_ok fun _ => rfl)
/-- a module's constant -/
theorem de_glob {x : Str} {d : D} {v : V} {u : Value} {pos : Pos} (hg : Gl X x) (hm : X.mg x = some u) (r : RelV v u) (h : ∀ H, Rep X.K X.w H d v) (hd : (x == ("__debug__" : Str)) = false := by decide) : DE X (.Name x pos) (fC d) := PE.imp (pe_glob hg hm r hd) (c_ok h)
end

/-! ### locking a result -/
def Frz1 (K : PySem.W.Frag) (t : TE) : TE := fun σ H Q => t σ H fun v H' => Q v H' ∨ ∃ a u, v = .ref a ∧ H' a = some u ∧ Mut (some u) ∧ ∀ o, Q v (upd H' a (.frz o u))
theorem pe_frz {X : Cx} {e : Expr} {t : TE} (h : PE X e t) : PE X e (Frz1 X.K t) := by
  refine ⟨fun pins s σ H Q I q => thn (h.run pins s σ H _ I q) fun u s1 ⟨v, H1, I1, r, q1⟩ => ?_⟩
  rcases q1 with q1 | ⟨a, ob, e, h1, mu, q1⟩
  · exact ⟨v, H1, I1, r, q1⟩
  · obtain ⟨od, I2⟩ := I1.lock h1 mu
    exact ⟨v, _, I2, r, q1 od⟩
def fFrz (f : FE) : FE := fun ρ => match f ρ with
  | some (.val d, ρ') => some (.val d, ρ')
  | some (.fresh d, ρ') => some (.val d, ρ')
  | some (.slot i, ρ') => match ρ'[i]? with
    | some (.mu d) => some (.val d, ρ'.set i (.im d))
    | _ => none
  | none => none
section
variable {K : PySem.W.Frag} {w : World} {H H' H0 H1 H2 : Hp} {σ : L2.St} {ρ ρ' ρ1 ρ2 : DEnv} {d : D} {v : V}
/-- an object that is none of the slots' is changed -/
theorem EnvR.wr (E : EnvR K w σ ρ H) {a : Addr} {u o : HO} (h : H a = some u) (mu : Mut (some u)) (n : ¬ Own σ ρ a) : EnvR K w σ ρ (upd H a o) := by
  have l : Le H (upd H a o) := Le.wr h mu
  refine ⟨E.len, fun i d h => ?_, fun i d h => ?_, E.ap⟩
  · obtain ⟨v, h1, h2⟩ := E.im i d h
    exact ⟨v, h1, Rep.mono l _ _ h2⟩
  · obtain ⟨b, h1, h2⟩ := E.mu i d h
    exact ⟨b, h1, h2.mono l (upd_ne fun z => n ⟨i, d, h, by rw [← z]; exact h1⟩)⟩
/-- a slot's own object is locked -/
theorem EnvR.lock (E : EnvR K w σ ρ H) {i : Nat} {d : D} {a : Addr} {o : HO} (e : ρ[i]? = some (.mu d)) (hs : σ[i]? = some (some (.ref a))) (r : ∀ H', (∀ b, b ≠ a → H' b = H b) → H' a = some o → Rep K w H' d (.ref a)) :
    EnvR K w σ (ρ.set i (.im d)) (upd H a o) := by
  obtain ⟨b, h1, h2⟩ := E.mu i d e
  rw [hs] at h1; cases h1
  obtain ⟨u, h3, mu⟩ := h2.at
  have l : Le H (upd H a o) := Le.wr h3 mu
  have hi : i < ρ.length := (List.getElem?_eq_some_iff.mp e).1
  have back : ∀ {j : Nat} {s : Sl}, (ρ.set i (.im d))[j]? = some s → j ≠ i → ρ[j]? = some s := fun {j s} h n => by
    rwa [List.getElem?_set_ne (Ne.symm n)] at h
  refine ⟨by rw [List.length_set]; exact E.len, fun j c h => ?_, fun j c h => ?_, fun j k c c' b h h' => ?_⟩
  · by_cases hj : j = i
    · subst hj
      rw [List.getElem?_set_self hi] at h
      cases h
      exact ⟨_, hs, r _ (fun b n => upd_ne n) upd_same⟩
    · obtain ⟨v, q1, q2⟩ := E.im j c (back h hj)
      exact ⟨v, q1, Rep.mono l _ _ q2⟩
  · by_cases hj : j = i
    · subst hj
      rw [List.getElem?_set_self hi] at h
      cases h
    · obtain ⟨b, q1, q2⟩ := E.mu j c (back h hj)
      refine ⟨b, q1, q2.mono l (upd_ne fun z => hj (E.ap j i c d a (back h hj) e (by rw [← z]; exact q1) hs))⟩
  · by_cases hj : j = i
    · subst hj; rw [List.getElem?_set_self hi] at h; cases h
    · by_cases hk : k = i
      · subst hk; rw [List.getElem?_set_self hi] at h'; cases h'
      · exact E.ap j k c c' b (back h hj) (back h' hk)
theorem frz_ok {f : FE} (σ : L2.St) (H : Hp) (Q : VK) (h : tD K w (fFrz f) σ H Q) : Frz1 K (tD K w f) σ H Q := by
  obtain ⟨ρ, rv, ρ', E, e, k⟩ := h
  unfold fFrz at e
  split at e
  · rename_i d ρ1 e1
    cases e
    exact ⟨ρ, _, _, E, e1, fun v H' p r => .inl (k v H' p r)⟩
  · rename_i d ρ1 e1
    cases e
    refine ⟨ρ, _, _, E, e1, fun v H' p r => .inr ?_⟩
    obtain ⟨a, ev, h0, m⟩ := r
    obtain ⟨u, h1, mu, fr⟩ := m.frozen
    refine ⟨a, u, ev, h1, mu, fun o => ?_⟩
    have n : ¬ Own σ ρ' a := fresh_not_own E p h0
    refine k v _ ⟨p.env.wr h1 mu n, fun b ob hb hn => ?_, p.sub, fun b hb => ?_⟩ (by subst ev; exact fr o)
    · rw [upd_ne (fun z => by subst z; rw [h0] at hb; cases hb)]
      exact p.frm b ob hb hn
    · by_cases hz : b = a
      · subst hz; exact h0
      · rw [upd_ne hz] at hb; exact p.dom b hb
  · rename_i i ρ1 e1
    split at e
    · rename_i d e2
      cases e
      refine ⟨ρ, _, _, E, e1, fun v H' p r => .inr ?_⟩
      have r : σ[i]? = some (some v) := r
      obtain ⟨a, h1, m⟩ := p.env.mu i d e2
      rw [h1] at r; cases r
      obtain ⟨u, h3, mu, fr⟩ := m.frozen
      refine ⟨a, u, rfl, h3, mu, fun o => ?_⟩
      have hi : i < ρ1.length := (List.getElem?_eq_some_iff.mp e2).1
      have ho : Own σ ρ1 a := ⟨i, d, e2, h1⟩
      refine k _ _ ⟨p.env.lock e2 h1 fun H2 h4 h5 => ?_, fun b ob hb hn => ?_, fun j c hj => ?_, fun b hb => ?_⟩ (fr o)
      · have e3 : H2 = upd H' a (.frz o u) := by
          funext b
          by_cases z : b = a
          · subst z; rw [h5, upd_same]
          · rw [h4 b z, upd_ne z]
        rw [e3]; exact fr o
      · rw [upd_ne (fun z => hn (by subst z; exact p.own ho))]
        exact p.frm b ob hb hn
      · by_cases z : j = i
        · subst z; rw [List.getElem?_set_self hi] at hj; cases hj
        · rw [List.getElem?_set_ne (Ne.symm z)] at hj; exact p.sub j c hj
      · by_cases hz : b = a
        · subst hz; rw [upd_same] at hb; cases hb
        · rw [upd_ne hz] at hb; exact p.dom b hb
    · cases e
  · cases e
end
theorem dfr {X : Cx} {e : Expr} {f : FE} (h : DE X e f) : DE X e (fFrz f) := PE.imp (pe_frz h) frz_ok

/-! ### operators -/
def rD (K : PySem.W.Frag) (w : World) (g : D → D → Option RV) : R2 := fun x y H Q => ∃ dx dy r, RepB K w H dx x ∧ RepB K w H dy y ∧ g dx dy = some r ∧ ∀ v H', (∀ a o, H a = some o → H' a = some o) → RepR K w [] H H' r v → Q v H'
def uD (K : PySem.W.Frag) (w : World) (g : D → Option RV) : V → Hp → VK → Prop := fun x H Q => ∃ dx r, RepB K w H dx x ∧ g dx = some r ∧ ∀ v H', (∀ a o, H a = some o → H' a = some o) → RepR K w [] H H' r v → Q v H'
def cD (K : PySem.W.Frag) (w : World) (g : List D → Option RV) : List V → Hp → VK → Prop := fun xs H Q => ∃ ds r, RepBs K w H ds xs ∧ g ds = some r ∧ ∀ v H', (∀ a o, H a = some o → H' a = some o) → RepR K w [] H H' r v → Q v H'
def fOp (g : D → D → Option RV) (fa fb : FE) : FE := fun ρ => match fa ρ with
  | some (ra, ρ1) => match fb ρ1 with
    | some (rb, ρ2) => match ra.get ρ2, rb.get ρ2 with
      | some x, some y => (g x y).map fun r => (r, ρ2)
      | _, _ => none
    | none => none
  | none => none
def fUn (g : D → Option RV) (fa : FE) : FE := fun ρ => match fa ρ with
  | some (ra, ρ1) => match ra.get ρ1 with
    | some x => (g x).map fun r => (r, ρ1)
    | none => none
  | none => none
def fCall (g : List D → Option RV) (fa : FA) : FE := fun ρ => match fa ρ with
  | some (rs, ρ1) => match getAll ρ1 rs with
    | some xs => (g xs).map fun r => (r, ρ1)
    | none => none
  | none => none
section
variable {K : PySem.W.Frag} {w : World} {H H' H0 H1 H2 : Hp} {σ : L2.St} {ρ ρ' ρ1 ρ2 : DEnv} {d : D} {v : V} {fa fb fc : FE}
theorem op_ok {g : D → D → Option RV} (σ : L2.St) (H : Hp) (Q : VK) (h : tD K w (fOp g fa fb) σ H Q) : tOp (rD K w g) (tD K w fa) (tD K w fb) σ H Q := by
  obtain ⟨ρ, rv, ρ', E, e, k⟩ := h
  unfold fOp at e
  split at e
  · rename_i ra ρ1 e1
    split at e
    · rename_i rb ρ2 e2
      split at e
      · rename_i x y e3 e4
        obtain ⟨r, e5, e6⟩ := Option.map_eq_some_iff.mp e
        cases e6
        refine ⟨ρ, ra, ρ1, E, e1, fun vx H1 p1 r1 => ⟨ρ1, rb, _, p1.env, e2, fun vy H2 p2 r2 => ⟨x, y, _, (r1.keep E p1 p2).b p2.env e3, r2.b p2.env e4, e5, fun v H3 g3 r3 => ?_⟩⟩⟩
        exact k v H3 ((p1.trans p2).trans (Post.grow p2.env g3)) (r3.sig.elder fun a h => p1.dom a (p2.dom a h))
      · cases e
    · cases e
  · cases e
theorem un_ok {g : D → Option RV} (σ : L2.St) (H : Hp) (Q : VK) (h : tD K w (fUn g fa) σ H Q) : tUn (uD K w g) (tD K w fa) σ H Q := by
  obtain ⟨ρ, rv, ρ', E, e, k⟩ := h
  unfold fUn at e
  split at e
  · rename_i ra ρ1 e1
    split at e
    · rename_i x e3
      obtain ⟨r, e5, e6⟩ := Option.map_eq_some_iff.mp e
      cases e6
      exact ⟨ρ, ra, _, E, e1, fun vx H1 p1 r1 => ⟨x, _, r1.b p1.env e3, e5, fun v H3 g3 r3 => k v H3 (p1.trans (Post.grow p1.env g3)) (r3.sig.elder p1.dom)⟩⟩
    · cases e
  · cases e
theorem cb_ok {g : List D → Option RV} {fa : FA} (σ : L2.St) (H : Hp) (Q : VK) (h : tD K w (fCall g fa) σ H Q) : tCB (cD K w g) (aD K w fa) σ H Q := by
  obtain ⟨ρ, rv, ρ', E, e, k⟩ := h
  unfold fCall at e
  split at e
  · rename_i rs ρ1 e1
    split at e
    · rename_i xs e3
      obtain ⟨r, e5, e6⟩ := Option.map_eq_some_iff.mp e
      cases e6
      exact ⟨ρ, rs, _, E, e1, fun vs H1 p1 r1 => ⟨xs, _, r1.b p1.env e3, e5, fun v H3 g3 r3 => k v H3 (p1.trans (Post.grow p1.env g3)) (r3.sig.elder p1.dom)⟩⟩
    · cases e
  · cases e
end
def fNil : FA := fun ρ => some ([], ρ)
def fCons (f : FE) (fr : FA) : FA := fun ρ => match f ρ with
  | some (r, ρ1) => match fr ρ1 with
    | some (rs, ρ2) => some (r :: rs, ρ2)
    | none => none
  | none => none
section
variable {X : Cx} {a b c : Expr} {fa fb fc : FE} {pos : Pos}
theorem da_nil : DA X [] fNil := PA.imp pa_nil fun σ H Q ⟨ρ, rs, ρ', E, e, k⟩ => by
  cases e
  exact k [] H (Post.refl E) rfl
theorem da_cons {es : List Expr} {fr : FA} (ha : DE X a fa) (hr : DA X es fr) (hs : starEach (a :: es) X.env = (false, eval a X.env) :: starEach es X.env := by rfl) : DA X (a :: es) (fCons fa fr) :=
  PA.imp (pa_cons ha hr hs) fun σ H Q ⟨ρ, rs, ρ', E, e, k⟩ => by
    unfold fCons at e
    split at e
    · rename_i r ρ1 e1
      split at e
      · rename_i rs ρ2 e2
        cases e
        refine ⟨ρ, r, ρ1, E, e1, fun v H1 p1 r1 => ⟨ρ1, rs, _, p1.env, e2, fun vs H2 p2 r2 => ?_⟩⟩
        exact k _ H2 (p1.trans p2) ⟨v, vs, rfl, r1.keep E p1 p2, RepRs.elder p1.dom r2⟩
      · cases e
    · cases e
theorem de_op {op : Operator} {g : D → D → Option RV} (ho : OpR X (binaryOp op) (rD X.K X.w g)) (ha : DE X a fa) (hb : DE X b fb) : DE X (.BinOp a op b pos) (fOp g fa fb) := PE.imp (pe_op ho ha hb) op_ok
theorem de_un {op : UnaryOp} {g : D → Option RV} (ho : UnR X (unaryOp op) (uD X.K X.w g)) (ha : DE X a fa) : DE X (.UnaryOp op a pos) (fUn g fa) := PE.imp (pe_un ho ha) un_ok
/-- a comparison gives a truth value -/
def cmpB (g : D → D → Option Bool) : D → D → Option RV := fun x y => (g x y).map fun b => .val (.bl b)
theorem de_cmp {op : CmpOp} {g : D → D → Option Bool} (ho : OpR X (compareOp op) (rD X.K X.w (cmpB g))) (ha : DE X a fa) (hb : DE X b fb) (hm : behindInMarks op b = false) : DE X (.Compare a [op] [b] pos) (fOp (cmpB g) fa fb) := PE.imp (pe_cmpR ho ha hb hm) op_ok
def fB (f : FE) : FT := fun ρ => match f ρ with
  | some (.val (.bl b), ρ1) => some (b, ρ1)
  | _ => none
theorem test_ok {K : PySem.W.Frag} {w : World} {f : FE} (σ : L2.St) (H : Hp) (Q : Bool → Hp → Prop) (h : bD K w (fB f) σ H Q) : tD K w f σ H fun x H' => ∃ k, x = .bl k ∧ Q k H' := by
  obtain ⟨ρ, b, ρ', E, e, k⟩ := h
  unfold fB at e
  split at e
  · rename_i b ρ1 e1
    cases e
    refine ⟨ρ, _, _, E, e1, fun v H' p r => ⟨b, r, k H' p⟩⟩
  · cases e
theorem dt_val (h : DE X a fa) (he : ∀ whole, isTrue a X.env whole = (do let v ← whole; standAt a.pos; holding [v] (truthy v)) := by intro _; rfl) : DT X a (fB fa) := PT.imp (pt_val h he) test_ok
theorem dt_cmp {op : CmpOp} {g : D → D → Option Bool} (ho : OpR X (compareOp op) (rD X.K X.w (cmpB g))) (ha : DE X a fa) (hb : DE X b fb) (hm : behindInMarks op b = false) : DT X (.Compare a [op] [b] pos) (fB (fOp (cmpB g) fa fb)) :=
  PT.imp (pt_cmpR ho ha hb hm) fun σ H Q h => op_ok σ H _ (test_ok σ H Q h)
/-! chains -/
def fChain (g g' : D → D → Option Bool) (fa fb fc : FE) : FE := fun ρ => match fa ρ with
  | some (ra, ρ1) => match fb ρ1 with
    | some (.val y, ρ2) => match ra.get ρ2 with
      | some x => match g x y with
        | some true => match fc ρ2 with
          | some (rc, ρ3) => match rc.get ρ3 with
            | some z => (g' y z).map fun b => (.val (.bl b), ρ3)
            | none => none
          | none => none
        | some false => some (.val (.bl false), ρ2)
        | none => none
      | none => none
    | _ => none
  | none => none
theorem chain_ok {K : PySem.W.Frag} {w : World} {g g' : D → D → Option Bool} (σ : L2.St) (H : Hp) (Q : VK) (h : tD K w (fChain g g' fa fb fc) σ H Q) : tChain (rD K w (cmpB g)) (rD K w (cmpB g')) (tD K w fa) (tD K w fb) (tD K w fc) σ H Q := by
  obtain ⟨ρ, rv, ρ', E, e, k⟩ := h
  unfold fChain at e
  split at e
  · rename_i ra ρ1 e1
    split at e
    · rename_i y ρ2 e2
      split at e
      · rename_i x e3
        split at e
        · rename_i e4
          split at e
          · rename_i rc ρ3 e5
            split at e
            · rename_i z e6
              obtain ⟨bz, e7, e8⟩ := Option.map_eq_some_iff.mp e
              cases e8
              refine ⟨ρ, ra, ρ1, E, e1, fun vx H1 p1 r1 => ⟨ρ1, _, ρ2, p1.env, e2, fun vy H2 p2 r2 => ⟨x, y, _, (r1.keep E p1 p2).b p2.env e3, Rep.b r2, (by show (g x y).map _ = _; rw [e4]; rfl), fun v3 H3 g3 r3 => ?_⟩⟩⟩
              refine ⟨true, r3, ?_⟩
              have p3 : Post K w σ ρ2 H2 ρ2 H3 := Post.grow p2.env g3
              show tD K w fc σ H3 _
              refine ⟨ρ2, rc, _, p3.env, e5, fun vz H4 p4 r4 => ⟨y, z, _, Rep.b (Rep.mono ((p3.le p2.env).trans (p4.le p3.env)) _ _ r2), r4.b p4.env e6, (by show (g' y z).map _ = _; rw [e7]; rfl), fun v5 H5 g5 r5 => ?_⟩⟩
              exact k v5 H5 ((((p1.trans p2).trans p3).trans p4).trans (Post.grow p4.env g5)) r5
            · cases e
          · cases e
        · rename_i e4
          cases e
          refine ⟨ρ, ra, ρ1, E, e1, fun vx H1 p1 r1 => ⟨ρ1, _, ρ', p1.env, e2, fun vy H2 p2 r2 => ⟨x, y, _, (r1.keep E p1 p2).b p2.env e3, Rep.b r2, (by show (g x y).map _ = _; rw [e4]; rfl), fun v3 H3 g3 r3 => ?_⟩⟩⟩
          exact ⟨false, r3, k _ H3 ((p1.trans p2).trans (Post.grow p2.env g3)) rfl⟩
        · cases e
      · cases e
    · cases e
  · cases e
theorem de_chain {op op' : CmpOp} {g g' : D → D → Option Bool} (ho : OpR X (compareOp op) (rD X.K X.w (cmpB g))) (ho' : OpR X (compareOp op') (rD X.K X.w (cmpB g'))) (ha : DE X a fa) (hb : DE X b fb) (hc : DE X c fc)
    (hm : lastMarks [op, op'] [b, c] = false := by with_unfolding_all rfl) : DE X (.Compare a [op, op'] [b, c] pos) (fChain g g' fa fb fc) := PE.imp (pe_chain ho ho' ha hb hc hm) chain_ok
theorem dt_chain {op op' : CmpOp} {g g' : D → D → Option Bool} (ho : OpR X (compareOp op) (rD X.K X.w (cmpB g))) (ho' : OpR X (compareOp op') (rD X.K X.w (cmpB g'))) (ha : DE X a fa) (hb : DE X b fb) (hc : DE X c fc)
    (hm : lastMarks [op, op'] [b, c] = false := by with_unfolding_all rfl) : DT X (.Compare a [op, op'] [b, c] pos) (fB (fChain g g' fa fb fc)) :=
  PT.imp (pt_chain ho ho' ha hb hc hm) fun σ H Q h => chain_ok σ H _ (test_ok σ H Q h)
end
/-! ### and, or, not, if else -/
def fAnd (f g : FT) : FT := fun ρ => match f ρ with
  | some (true, ρ1) => g ρ1
  | some (false, ρ1) => some (false, ρ1)
  | none => none
def fOr (f g : FT) : FT := fun ρ => match f ρ with
  | some (true, ρ1) => some (true, ρ1)
  | some (false, ρ1) => g ρ1
  | none => none
def fNot (f : FT) : FT := fun ρ => match f ρ with
  | some (b, ρ1) => some (!b, ρ1)
  | none => none
def fAndV (f g : FE) : FE := fun ρ => match f ρ with
  | some (.val (.bl true), ρ1) => g ρ1
  | some (.val (.bl false), ρ1) => some (.val (.bl false), ρ1)
  | _ => none
def fOrV (f g : FE) : FE := fun ρ => match f ρ with
  | some (.val (.bl true), ρ1) => some (.val (.bl true), ρ1)
  | some (.val (.bl false), ρ1) => g ρ1
  | _ => none
def fNotV (f : FE) : FE := fun ρ => match f ρ with
  | some (.val (.bl b), ρ1) => some (.val (.bl (!b)), ρ1)
  | _ => none
def fIf (c : FT) (f g : FE) : FE := fun ρ => match c ρ with
  | some (true, ρ1) => f ρ1
  | some (false, ρ1) => g ρ1
  | none => none
section
variable {X : Cx} {a b c : Expr} {rest : List Expr} {fa fb : FE} {ta tb : FT} {pos : Pos}
theorem bD_then {K : PySem.W.Frag} {w : World} {σ : L2.St} {ρ ρ1 ρ' : DEnv} {H H1 : Hp} {b : Bool} {f : FT} {Q : Bool → Hp → Prop} (p1 : Post K w σ ρ H ρ1 H1) (e : f ρ1 = some (b, ρ')) (k : ∀ H', Post K w σ ρ H ρ' H' → Q b H') : bD K w f σ H1 Q :=
  ⟨ρ1, b, ρ', p1.env, e, fun H' p => k H' (p1.trans p)⟩
theorem tD_then {K : PySem.W.Frag} {w : World} {σ : L2.St} {ρ ρ1 ρ' : DEnv} {H H1 : Hp} {rv : RV} {f : FE} {Q : VK} (p1 : Post K w σ ρ H ρ1 H1) (e : f ρ1 = some (rv, ρ')) (k : ∀ v H', Post K w σ ρ H ρ' H' → RepR K w σ H H' rv v → Q v H') : tD K w f σ H1 Q :=
  ⟨ρ1, rv, ρ', p1.env, e, fun v H' p r => k v H' (p1.trans p) (r.elder p1.dom)⟩
theorem dw_and1 (ha : DT X a ta) : DW X (.BoolOp .And [a] pos) ta := pw_and1 ha
theorem dw_or1 (ha : DT X a ta) : DW X (.BoolOp .Or [a] pos) ta := pw_or1 ha
theorem dw_and (ha : DT X a ta) (hb : DW X (.BoolOp .And (b :: rest) pos) tb) : DW X (.BoolOp .And (a :: b :: rest) pos) (fAnd ta tb) := PW.imp (pw_and ha hb) fun σ H Q ⟨ρ, c, ρ', E, e, k⟩ => by
  unfold fAnd at e
  split at e
  · rename_i ρ1 e1
    exact ⟨ρ, true, ρ1, E, e1, fun H1 p1 => bD_then p1 e k⟩
  · rename_i ρ1 e1
    cases e
    exact ⟨ρ, false, _, E, e1, fun H1 p1 => k H1 p1⟩
  · cases e
theorem dw_or (ha : DT X a ta) (hb : DW X (.BoolOp .Or (b :: rest) pos) tb) : DW X (.BoolOp .Or (a :: b :: rest) pos) (fOr ta tb) := PW.imp (pw_or ha hb) fun σ H Q ⟨ρ, c, ρ', E, e, k⟩ => by
  unfold fOr at e
  split at e
  · rename_i ρ1 e1
    cases e
    exact ⟨ρ, true, _, E, e1, fun H1 p1 => k H1 p1⟩
  · rename_i ρ1 e1
    exact ⟨ρ, false, ρ1, E, e1, fun H1 p1 => bD_then p1 e k⟩
  · cases e
theorem dt_bool (h : DW X a ta) : DT X a ta := PW.pt h
theorem dt_not (ha : DT X a ta) : DT X (.UnaryOp .Not a pos) (fNot ta) := PT.imp (pt_not ha) fun σ H Q ⟨ρ, c, ρ', E, e, k⟩ => by
  unfold fNot at e
  split at e
  · rename_i b ρ1 e1
    cases e
    exact ⟨ρ, b, _, E, e1, fun H1 p1 => k H1 p1⟩
  · cases e
theorem de_one {op} (h : DE X a fa) : DE X (.BoolOp op [a] pos) fa := pe_one h
theorem de_and (ha : DE X a fa) (hb : DE X (.BoolOp .And (b :: rest) pos) fb) : DE X (.BoolOp .And (a :: b :: rest) pos) (fAndV fa fb) := PE.imp (pe_and ha hb) fun σ H Q ⟨ρ, c, ρ', E, e, k⟩ => by
  unfold fAndV at e
  split at e
  · rename_i ρ1 e1
    exact ⟨ρ, _, ρ1, E, e1, fun v H1 p1 r1 => ⟨true, r1, tD_then p1 e k⟩⟩
  · rename_i ρ1 e1
    cases e
    exact ⟨ρ, _, _, E, e1, fun v H1 p1 r1 => ⟨false, r1, k _ H1 p1 rfl⟩⟩
  · cases e
theorem de_or (ha : DE X a fa) (hb : DE X (.BoolOp .Or (b :: rest) pos) fb) : DE X (.BoolOp .Or (a :: b :: rest) pos) (fOrV fa fb) := PE.imp (pe_or ha hb) fun σ H Q ⟨ρ, c, ρ', E, e, k⟩ => by
  unfold fOrV at e
  split at e
  · rename_i ρ1 e1
    cases e
    exact ⟨ρ, _, _, E, e1, fun v H1 p1 r1 => ⟨true, r1, k _ H1 p1 rfl⟩⟩
  · rename_i ρ1 e1
    exact ⟨ρ, _, ρ1, E, e1, fun v H1 p1 r1 => ⟨false, r1, tD_then p1 e k⟩⟩
  · cases e
theorem de_not (ha : DE X a fa) : DE X (.UnaryOp .Not a pos) (fNotV fa) := PE.imp (pe_not ha) fun σ H Q ⟨ρ, c, ρ', E, e, k⟩ => by
  unfold fNotV at e
  split at e
  · rename_i b ρ1 e1
    cases e
    exact ⟨ρ, _, _, E, e1, fun v H1 p1 r1 => ⟨b, r1, k _ H1 p1 rfl⟩⟩
  · cases e
theorem de_if (hc : DT X c ta) (ha : DE X a fa) (hb : DE X b fb) : DE X (.IfExp c a b pos) (fIf ta fa fb) := PE.imp (pe_ifExp hc ha hb) fun σ H Q ⟨ρ, rv, ρ', E, e, k⟩ => by
  unfold fIf at e
  split at e
  · rename_i ρ1 e1
    exact ⟨ρ, true, ρ1, E, e1, fun H1 p1 => tD_then p1 e k⟩
  · rename_i ρ1 e1
    exact ⟨ρ, false, ρ1, E, e1, fun H1 p1 => tD_then p1 e k⟩
  · cases e
end
/-! ### displays -/
/-- all of them data -/
def vals : List RV → Option (List D)
  | [] => some []
  | .val d :: rs => match vals rs with
    | some ds => some (d :: ds)
    | none => none
  | _ :: _ => none
theorem RepRs.vals {K : PySem.W.Frag} {w : World} {σ : L2.St} {H0 H : Hp} : ∀ {rs : List RV} {vs : List V} {ds : List D}, RepRs K w σ H0 H rs vs → vals rs = some ds → Reps K w H ds vs
  | [], vs, ds, h, e => by cases e; exact h
  | .val d :: rs, vs, ds, h, e => by
    obtain ⟨v, us, e1, h1, h2⟩ := h
    simp only [DL.vals] at e
    split at e
    · rename_i ds' e2
      cases e
      exact ⟨v, us, e1, h1, RepRs.vals h2 e2⟩
    · cases e
  | .slot i :: rs, vs, ds, h, e => by simp [DL.vals] at e
  | .fresh i :: rs, vs, ds, h, e => by simp [DL.vals] at e
def fTup (fa : FA) : FE := fun ρ => match fa ρ with
  | some (rs, ρ1) => match vals rs with
    | some ds => if ds.length ≤ 1000000 then some (.val (.tup ds), ρ1) else none
    | none => none
  | none => none
def fLst (fa : FA) : FE := fun ρ => match fa ρ with
  | some (rs, ρ1) => match vals rs with
    | some ds => if ds.length ≤ 1000000 then some (.fresh (.lst ds), ρ1) else none
    | none => none
  | none => none
theorem line_of {n : Nat} (h : n ≤ 1000000) : n ≤ sizeLine := Nat.le_trans h (by rw [sizeLine_eq]; decide)
section
variable {X : Cx} {es : List Expr} {fa : FA} {pos : Pos}
theorem de_tup {x1} (h : DA X es fa) : DE X (.Tuple es x1 pos) (fTup fa) := PE.imp (pe_tup h) fun σ H Q ⟨ρ, rv, ρ', E, e, k⟩ => by
  unfold fTup at e
  split at e
  · rename_i rs ρ1 e1
    split at e
    · rename_i ds e2
      split at e
      · rename_i hl
        cases e
        refine ⟨ρ, rs, _, E, e1, fun vs H1 p1 r1 => ?_⟩
        have rr := r1.vals e2
        refine ⟨line_of (by rw [← rr.length]; exact hl), fun p hp => ?_⟩
        have kn := keep_new (o := .tup vs) hp
        refine k _ _ (p1.trans (Post.grow p1.env kn)) ⟨p, vs, rfl, SqT.of upd_same, Reps.mono ?_ _ _ rr⟩
        exact ⟨fun a _ h => kn a _ h, fun a _ _ h => kn a _ h⟩
      · cases e
    · cases e
  · cases e
theorem de_lst (h : DA X es fa) : DE X (.List es pos) (fLst fa) := PE.imp (pe_lst h) fun σ H Q ⟨ρ, rv, ρ', E, e, k⟩ => by
  unfold fLst at e
  split at e
  · rename_i rs ρ1 e1
    split at e
    · rename_i ds e2
      split at e
      · rename_i hl
        cases e
        refine ⟨ρ, rs, _, E, e1, fun vs H1 p1 r1 => ?_⟩
        have rr := r1.vals e2
        refine ⟨line_of (by rw [← rr.length]; exact hl), fun p hp => ?_⟩
        have kn := keep_new (o := .lst vs) hp
        refine k _ _ (p1.trans (Post.grow p1.env kn)) ⟨p, rfl, p1.dom p hp, vs, upd_same, Reps.mono ?_ _ _ rr⟩
        exact ⟨fun a _ h => kn a _ h, fun a _ _ h => kn a _ h⟩
      · cases e
    · cases e
  · cases e
end
end DL

set_option Elab.async false
set_option linter.all false
set_option maxRecDepth 100000
set_option maxHeartbeats 2000000
namespace DL
open PySem PySem.Spec PyProof.Rows L2

/-! ### what the operators give -/
def mulOk (i j : Int) : Bool := decide (i.natAbs.log2 < 64) || decide (j.natAbs.log2 < 64) || decide (i.natAbs.log2 + j.natAbs.log2 < 1000000)
theorem bits_le (x : Int) : Builtin.Int.intBits x ≤ x.natAbs.log2 + 1 := by
  unfold Builtin.Int.intBits
  split <;> omega
theorem mulOk_ok {i j : Int} (h : mulOk i j = true) : IntMulOk i j := by
  unfold mulOk at h
  rw [Bool.or_eq_true, Bool.or_eq_true] at h
  rcases h with (h | h) | h
  · exact .of_left (by have := bits_le i; have := of_decide_eq_true h; omega)
  · exact .of_right (by have := bits_le j; have := of_decide_eq_true h; omega)
  · exact CMulW.ok (show i.natAbs.log2 + j.natAbs.log2 < 1000000 from of_decide_eq_true h)
theorem mulOk_left {i j : Int} (h : i.natAbs < 2 ^ 64) : mulOk i j = true := by
  unfold mulOk
  have : i.natAbs.log2 < 64 := by
    by_cases h0 : i.natAbs = 0
    · rw [h0]; decide
    · exact (Nat.log2_lt h0).mpr h
  rw [decide_eq_true this]; simp
theorem mulOk_right {i j : Int} (h : j.natAbs < 2 ^ 64) : mulOk i j = true := by
  unfold mulOk
  have : j.natAbs.log2 < 64 := by
    by_cases h0 : j.natAbs = 0
    · rw [h0]; decide
    · exact (Nat.log2_lt h0).mpr h
  rw [decide_eq_true this]; simp
theorem log2_le_of {n k : Nat} (h : n < 2 ^ k) : n.log2 ≤ k := by
  by_cases h0 : n = 0
  · rw [h0]; simp
  · exact Nat.le_of_lt ((Nat.log2_lt h0).mpr h)
theorem mulOk_of {i j : Int} {a b : Nat} (ha : i.natAbs < 2 ^ a) (hb : j.natAbs < 2 ^ b) (h : a + b < 1000000) : mulOk i j = true := by
  unfold mulOk
  have h1 := log2_le_of ha
  have h2 := log2_le_of hb
  rw [decide_eq_true (show i.natAbs.log2 + j.natAbs.log2 < 1000000 by omega)]; simp
def divOk (j : Int) : Bool := decide (j ≠ 0) && decide (j.natAbs.log2 < 9000)
theorem divOk_of {j : Int} {a : Nat} (h0 : j ≠ 0) (h : j.natAbs < 2 ^ a) (ha : a < 9000) : divOk j = true := by
  unfold divOk
  have h1 := log2_le_of h
  rw [decide_eq_true h0, decide_eq_true (show j.natAbs.log2 < 9000 by omega)]; rfl
def addD : D → D → Option RV
  | .int i, .int j => some (.val (.int (i + j)))
  | .tup xs, .tup ys => if xs.length + ys.length ≤ 1000000 then some (.val (.tup (xs ++ ys))) else none
  | .lst xs, .lst ys => if xs.length + ys.length ≤ 1000000 then some (.fresh (.lst (xs ++ ys))) else none
  | _, _ => none
def subD : D → D → Option RV
  | .int i, .int j => some (.val (.int (i - j)))
  | _, _ => none
def mulD : D → D → Option RV
  | .int i, .int j => if mulOk i j then some (.val (.int (i * j))) else none
  | .tup xs, .int k => if xs ≠ [] ∧ 2 ≤ k ∧ k ≤ 1000 ∧ xs.length ≤ 1000 then some (.val (.tup (List.replicate k.toNat xs).flatten)) else none
  | .lst xs, .int k => if 0 ≤ k ∧ k ≤ 1000 ∧ xs.length ≤ 1000 then some (.fresh (.lst (List.replicate k.toNat xs).flatten)) else none
  | _, _ => none
def divD : D → D → Option RV
  | .int i, .int j => if divOk j then some (.val (.int (i.fdiv j))) else none
  | _, _ => none
def modD : D → D → Option RV
  | .int i, .int j => if j ≠ 0 then some (.val (.int (i.fmod j))) else none
  | _, _ => none
def negD : D → Option RV
  | .int i => some (.val (.int (-i)))
  | _ => none

theorem kp {H : Hp} : ∀ a o, H a = some o → H a = some o := fun _ _ h => h
theorem le_new {H : Hp} {p : Addr} {o : HO} (hp : H p = none) : Le H (upd H p o) := Le.new hp
section
variable {X : Cx}
theorem dlt {i : Nat} {α : Type} (s : α) : True := trivial
/-- a list that is to be read stands as it was made -/
theorem rd_lst {pins : List (Addr × Obj)} {σ : L2.St} {H : Hp} {s : Shared} {l : Addr} {xs : List V} (I : Inv X pins σ H s) (h : Rd H l (.lst xs)) :
    xs.length ≤ sizeLine ∧ ∃ (its : List Value) (n : Nat), Vals xs its ∧ xs.length = its.length ∧ s.heap.get? l = some { cls := .type "list", data := .seq its.toArray n } := by
  obtain ⟨z, its, n, r, e⟩ := (show ObjOk X.prog X.w H s.heap l (.lst xs) from h.ok I.hok)
  exact ⟨z, its, n, r, r.length, e⟩
theorem op_addD : OpR X (binaryOp .Add) (rD X.K X.w addD) := by
  intro pins s σ H x y v u Q I rx ry ⟨dx, dy, r, bx, by', e, k⟩
  unfold addD at e
  split at e
  · rename_i i j
    cases e
    exact op_add pins s σ H x y v u Q I rx ry ⟨i, j, bx, by', k _ H kp rfl⟩
  · rename_i xs ys
    split at e
    · rename_i hl
      cases e
      obtain ⟨a, vs, e1, h1, h2⟩ := bx
      obtain ⟨b, us, e2, h3, h4⟩ := by'
      have l1 := h2.length
      have l2 := h4.length
      refine op_catA pins s σ H x y v u Q I rx ry ⟨a, b, vs, us, e1, e2, h1, h3, line_of (by omega), fun z => ?_, fun z z2 => ?_, fun z z2 p hp => ?_⟩
      · subst z
        have : xs = [] := List.eq_nil_of_length_eq_zero (by simpa using l1)
        subst this
        exact k _ H kp ⟨b, us, rfl, h3, h4⟩
      · subst z2
        have : ys = [] := List.eq_nil_of_length_eq_zero (by simpa using l2)
        subst this
        exact k _ H kp ⟨a, vs, rfl, h1, by rw [List.append_nil]; exact h2⟩
      · exact k _ _ (keep_new hp) ⟨p, _, rfl, SqT.of upd_same, Reps.mono (le_new hp) _ _ (h2.append h4)⟩
    · cases e
  · rename_i xs ys
    split at e
    · rename_i hl
      cases e
      obtain ⟨a, vs, e1, h1, h2⟩ := bx
      obtain ⟨b, us, e2, h3, h4⟩ := by'
      subst e1 e2
      cases rx
      cases ry
      have l1 := h2.length
      have l2 := h4.length
      obtain ⟨z, its, n, r, hl, e⟩ := rd_lst I h1
      obtain ⟨z2, its2, n2, r2, hl2, e2⟩ := rd_lst I h3
      have hz : vs.length + us.length ≤ sizeLine := line_of (by omega)
      refine PySem.P.add_list e e2 ?_ (by rw [List.size_toArray, List.size_toArray]; omega)
      have ea : its.toArray ++ its2.toArray = (its ++ its2).toArray := by simp
      rw [ea]
      have fr := I.fresh
      exact ⟨.ref _, _, I.lnew (t' := s.toks) (r.append r2) (by rw [List.length_append]; omega), rfl, k _ _ (keep_new fr) ⟨_, rfl, fr, _, upd_same, Reps.mono (le_new fr) _ _ (h2.append h4)⟩⟩
    · cases e
  · cases e
theorem op_subD : OpR X (binaryOp .Sub) (rD X.K X.w subD) := by
  intro pins s σ H x y v u Q I rx ry ⟨dx, dy, r, bx, by', e, k⟩
  unfold subD at e
  split at e
  · rename_i i j
    cases e
    exact op_sub pins s σ H x y v u Q I rx ry ⟨i, j, bx, by', k _ H kp rfl⟩
  · cases e
theorem op_repF {pins : List (Addr × Obj)} {s : Shared} {σ : L2.St} {H : Hp} {l : Addr} {k : Int} {xs : List V} {u : Value} {Q : VK} (I : Inv X pins σ H s) (ry : RelV (.int k) u) (hH : Rd H l (.lst xs)) (h1 : -(2 ^ 63) ≤ k) (h2 : k < 2 ^ 63) (hz : xs.length * k.toNat ≤ sizeLine)
    (q : ∀ p, H p = none → Q (.ref p) (upd H p (.lst (List.replicate k.toNat xs).flatten))) : wpAny (model X.prog X.w) X.A (binaryOp .Mult (.ref l) u) (EP X pins σ Q) X.xe s := by
  obtain ⟨t, rfl⟩ := ry
  obtain ⟨z, its, n, r, hl, e⟩ := rd_lst I hH
  have hlen : its.toArray.size * k.toNat ≤ sizeLine := by rw [List.size_toArray, ← hl]; exact hz
  have hcap : ¬ its.toArray.size * k.toNat > (2 ^ 63 - 1) / 8 := by
    have : (sizeLine : Nat) ≤ (2 ^ 63 - 1) / 8 := by decide
    omega
  have hfit : ¬ (!Builtin.List.listFitsIndex k) = true := by
    rw [fitsIndex_both h1 h2]
    exact Bool.false_ne_true
  have hlong : ¬ Builtin.List.listTooLong (its.toArray.size * k.toNat) = true := by
    rw [notLongL hlen]
    exact Bool.false_ne_true
  have hnew : List.foldl (fun x1 x2 => x1 ++ x2) #[] (List.replicate (if its.toArray.isEmpty = true then 0 else k.toNat) its.toArray) = (List.replicate k.toNat its).flatten.toArray := by
    have f0 : ∀ m : Nat, List.foldl (fun x1 x2 => x1 ++ x2) #[] (List.replicate m its.toArray) = (List.replicate m its).flatten.toArray := fun m => by
      have := foldl_rep its m []
      rw [List.nil_append] at this
      exact this
    rw [f0]
    cases its with
    | nil => simp
    | cons a r' => rw [if_neg (by simp)]
  refine wpAny_binaryOp_repeat_ref (T := "list") (U := "int") (by decide) ⟨_, e, rfl⟩ (fun s' => typeIs_int s' k t) noFill_list_mul F.fills_int_mul F.slot_int_rmul repeat_list F.slot_int_index.lookup
    (call_meets F.slot_int_rmul (typeIs_int s k t) F.entry_int_rmul (F.args_int_rmul_2 _ _) (int___rmul___int_list k t l its.toArray n)
      ⟨e, rfl, ⟨_, e, rfl⟩, call_meets F.slot_list_mul ⟨_, e, rfl⟩ F.entry_list_mul (F.args_list_mul_2 _ _) (AutoListH.list___mul___list_int_3 l its.toArray n k t hfit hcap hlong) ⟨e, ?_⟩⟩)
  rw [hnew]
  exact ⟨.ref _, _, I.lnew (t' := s.toks) (r.rep k.toNat) (by rw [PyProof.Rows.lm_len_rep_flat, Nat.mul_comm]; exact hz), rfl, q _ I.fresh⟩
theorem op_mulD : OpR X (binaryOp .Mult) (rD X.K X.w mulD) := by
  intro pins s σ H x y v u Q I rx ry ⟨dx, dy, r, bx, by', e, k⟩
  unfold mulD at e
  split at e
  · rename_i i j
    split at e
    · rename_i hm
      cases e
      have bx : x = .int i := bx
      have by' : y = .int j := by'
      subst bx by'
      obtain ⟨t, rfl⟩ := rx
      obtain ⟨t', rfl⟩ := ry
      exact mul_int ⟨.int _, H, I.tok _, ⟨_, rfl⟩, k _ H kp rfl⟩ (mulOk_ok hm)
    · cases e
  · rename_i xs m
    split at e
    · rename_i hm
      obtain ⟨h0, h1, h2, h3⟩ := hm
      cases e
      obtain ⟨a, vs, e1, q1, q2⟩ := bx
      have l1 := q2.length
      refine op_repT pins s σ H x y v u Q I rx ry ⟨a, m, vs, e1, by', q1, fun z => h0 ?_, h1, h2, by omega, fun p hp => ?_⟩
      · subst z; exact List.eq_nil_of_length_eq_zero (by simpa using l1)
      · exact k _ _ (keep_new hp) ⟨p, _, rfl, SqT.of upd_same, Reps.mono (le_new hp) _ _ (q2.rep _)⟩
    · cases e
  · rename_i xs m
    split at e
    · rename_i hm
      obtain ⟨h1, h2, h3⟩ := hm
      cases e
      obtain ⟨a, vs, e1, q1, q2⟩ := bx
      have by' : y = .int m := by'
      subst e1 by'
      cases rx
      have l1 := q2.length
      have hz : vs.length * m.toNat ≤ sizeLine := line_of (by
        have : vs.length * m.toNat ≤ 1000 * 1000 := Nat.mul_le_mul (by omega) (by omega)
        omega)
      exact op_repF I ry q1 (by omega) (by omega) hz fun p hp => k _ _ (keep_new hp) ⟨p, rfl, hp, _, upd_same, Reps.mono (le_new hp) _ _ (q2.rep _)⟩
    · cases e
  · cases e
theorem op_divD : OpR X (binaryOp .FloorDiv) (rD X.K X.w divD) := by
  intro pins s σ H x y v u Q I rx ry ⟨dx, dy, r, bx, by', e, k⟩
  unfold divD at e
  split at e
  · rename_i i j
    split at e
    · rename_i hm
      cases e
      have bx : x = .int i := bx
      have by' : y = .int j := by'
      subst bx by'
      obtain ⟨t, rfl⟩ := rx
      obtain ⟨t', rfl⟩ := ry
      unfold divOk at hm
      rw [Bool.and_eq_true] at hm
      exact floordiv_int (of_decide_eq_true hm.1) ⟨.int _, H, I.tok _, ⟨_, rfl⟩, k _ H kp rfl⟩ (.inl (PyProof.noPylong_of_log2 (of_decide_eq_true hm.2)))
    · cases e
  · cases e
theorem op_modD : OpR X (binaryOp .Mod) (rD X.K X.w modD) := by
  intro pins s σ H x y v u Q I rx ry ⟨dx, dy, r, bx, by', e, k⟩
  unfold modD at e
  split at e
  · rename_i i j
    split at e
    · rename_i hm
      cases e
      exact op_modN pins s σ H x y v u Q I rx ry ⟨i, j, bx, by', hm, k _ H kp rfl⟩
    · cases e
  · cases e
theorem un_negD : UnR X (unaryOp .USub) (uD X.K X.w negD) := by
  intro pins s σ H x v Q I rx ⟨dx, r, bx, e, k⟩
  unfold negD at e
  split at e
  · rename_i i
    cases e
    exact un_neg pins s σ H x v Q I rx ⟨i, bx, k _ H kp rfl⟩
  · cases e
end

/-! ### comparisons -/
mutual
def D.py : D → PyData
  | .non => .none
  | .bl b => .bool b
  | .int i => .int i
  | .str x => .str x
  | .tup xs => .tuple (pys xs)
  | .tpp xs => .tuple (pys xs)
  | .lst xs => .list (pys xs)
  | .dic _ _ => .dict []
  | .dik _ _ => .dict []
  | .fn _ => .dict []
  | .scr _ => .dict []
def D.pys : List D → List PyData
  | [] => []
  | d :: r => d.py :: D.pys r
end
/-- may be compared: no dict, no def within, not too deep, its texts fair -/
def D.cmpOk (d : D) : Bool := SeqAt.shaped d.py
section
variable {K : PySem.W.Frag} {w : World} {H : Hp}
mutual
theorem Rep.dp : ∀ (d : D) (v : V), Rep K w H d v → d.py.canLay0 = true → Dp K H v d.py
  | .non, v, h, _ => by cases (show v = .non from h); exact .non
  | .bl b, v, h, _ => by cases (show v = .bl b from h); exact .bl b
  | .int i, v, h, _ => by cases (show v = .int i from h); exact .int i
  | .str x, v, h, _ => by cases (show v = .str x from h); exact .str x
  | .tup xs, v, h, c => by
    obtain ⟨a, vs, e, h1, h2⟩ := h
    subst e
    exact .tup h1 (Reps.dp xs vs h2 c)
  | .tpp xs, v, h, c => by
    obtain ⟨a, vs, e, ⟨o, h1, h0⟩, h2⟩ := h
    subst e
    exact .tup (.inl (.inr ⟨o, h1⟩)) (Reps.dp xs vs h2 c)
  | .lst xs, v, h, c => by
    obtain ⟨a, vs, e, ⟨o, h1⟩, h2⟩ := h
    subst e
    exact .lst (.inl (.inr ⟨o, h1⟩)) (Reps.dp xs vs h2 c)
  | .dic _ _, v, h, c => by cases c
  | .dik _ _, v, h, c => by cases c
  | .fn _, v, h, c => by cases c
  | .scr _, v, h, c => by cases c
theorem Reps.dp : ∀ (ds : List D) (vs : List V), Reps K w H ds vs → PyData.canLayAll0 (D.pys ds) = true → DpAll K H vs (D.pys ds)
  | [], vs, h, _ => by cases (show vs = [] from h); exact .nil
  | d :: r, vs, h, c => by
    obtain ⟨v, us, e, h1, h2⟩ := h
    subst e
    have c : (d.py.canLay0 && PyData.canLayAll0 (D.pys r)) = true := c
    rw [Bool.and_eq_true] at c
    exact .cons (Rep.dp d v h1 c.1) (Reps.dp r us h2 c.2)
end
theorem RepB.dp {d : D} {v : V} (h : RepB K w H d v) (c : d.cmpOk = true) : Dp K H v d.py := by
  have c0 := SeqAt.canLay_of_shaped c
  cases d with
  | lst xs =>
    obtain ⟨a, vs, e, h1, h2⟩ := h
    subst e
    exact .lst (.inl h1) (Reps.dp xs vs h2 c0)
  | dic ks ds => cases c0
  | dik ks ds => cases c0
  | _ => exact Rep.dp (w := w) _ v h c0
end
def eqD (x y : D) : Option Bool := if x.cmpOk && y.cmpOk then some (PyData.eqv x.py y.py) else none
def neD (x y : D) : Option Bool := if x.cmpOk && y.cmpOk then some (!PyData.eqv x.py y.py) else none
/-- the ints of data -/
def intsD : List D → Option (List Int)
  | [] => some []
  | .int i :: r => (intsD r).map (i :: ·)
  | _ :: _ => none
theorem Reps.intsD {K : PySem.W.Frag} {w : World} {H : Hp} : ∀ {ds : List D} {vs : List V} {ns : List Int}, Reps K w H ds vs → DL.intsD ds = some ns → vs = ns.map V.int
  | [], vs, ns, h, e => by cases e; exact h
  | .int i :: r, vs, ns, h, e => by
    obtain ⟨v, us, e1, h1, h2⟩ := h
    obtain ⟨ms, e2, e3⟩ := Option.map_eq_some_iff.mp e
    subst e3 e1
    have h1 : v = .int i := h1
    rw [List.map_cons, h1, Reps.intsD h2 e2]
  | .non :: r, _, _, _, e => by simp [DL.intsD] at e
  | .bl _ :: r, _, _, _, e => by simp [DL.intsD] at e
  | .str _ :: r, _, _, _, e => by simp [DL.intsD] at e
  | .tup _ :: r, _, _, _, e => by simp [DL.intsD] at e
  | .tpp _ :: r, _, _, _, e => by simp [DL.intsD] at e
  | .lst _ :: r, _, _, _, e => by simp [DL.intsD] at e
  | .dic _ _ :: r, _, _, _, e => by simp [DL.intsD] at e
  | .dik _ _ :: r, _, _, _, e => by simp [DL.intsD] at e
  | .fn _ :: r, _, _, _, e => by simp [DL.intsD] at e
  | .scr _ :: r, _, _, _, e => by simp [DL.intsD] at e
def ltD : D → D → Option Bool
  | .int i, .int j => some (decide (i < j))
  | .tup xs, .tup ys => match intsD xs, intsD ys with
    | some ns, some ms => some (HT.lexLt ns ms)
    | _, _ => none
  | _, _ => none
def leD : D → D → Option Bool
  | .int i, .int j => some (decide (i ≤ j))
  | _, _ => none
def gtD : D → D → Option Bool
  | .int i, .int j => some (decide (j < i))
  | _, _ => none
def geD : D → D → Option Bool
  | .int i, .int j => some (decide (j ≤ i))
  | _, _ => none
/-- is None, True, False -/
def isD : D → D → Option Bool
  | .non, .non => some true
  | .fn _, .non => some false
  | .bl _, .non => some false
  | .int _, .non => some false
  | .str _, .non => some false
  | .tup _, .non => some false
  | .lst _, .non => some false
  | .dic _ _, .non => some false
  | .dik _ _, .non => some false
  | .bl a, .bl b => some (decide (a = b))
  | _, _ => none
def isNotD (x y : D) : Option Bool := (isD x y).map (!·)
/-- in a list or a tuple of data -/
def inD (x : D) : D → Option Bool
  | .tup ys => if x.cmpOk && ys.all D.cmpOk && decide (ys.length ≤ 1000000) then some ((D.pys ys).any fun e => PyData.eqv e x.py) else none
  | .lst ys => if x.cmpOk && ys.all D.cmpOk && decide (ys.length ≤ 1000000) then some ((D.pys ys).any fun e => PyData.eqv e x.py) else none
  | _ => none
def notInD (x y : D) : Option Bool := (inD x y).map (!·)
theorem cmp_some {g : D → D → Option Bool} {x y : D} {r : RV} (h : cmpB g x y = some r) : ∃ b, g x y = some b ∧ r = .val (.bl b) := by
  obtain ⟨b, h1, h2⟩ := Option.map_eq_some_iff.mp h
  exact ⟨b, h1, h2.symm⟩
section
variable {X : Cx}
theorem op_eqDD (hu : X.A.units + 64 < cLine) : OpR X (compareOp .Eq) (rD X.K X.w (cmpB eqD)) := by
  intro pins s σ H x y v u Q I rx ry ⟨dx, dy, r, bx, by', e0, k⟩
  obtain ⟨b, e, rfl⟩ := cmp_some e0
  unfold eqD at e
  split at e
  · rename_i hc
    cases e
    rw [Bool.and_eq_true] at hc
    exact op_eqD hu pins s σ H x y v u Q I rx ry ⟨_, _, bx.dp hc.1, by'.dp hc.2, hc.1, hc.2, k _ H kp rfl⟩
  · cases e
theorem op_neDD (hu : X.A.units + 64 < cLine) : OpR X (compareOp .NotEq) (rD X.K X.w (cmpB neD)) := by
  intro pins s σ H x y v u Q I rx ry ⟨dx, dy, r, bx, by', e0, k⟩
  obtain ⟨b, e, rfl⟩ := cmp_some e0
  unfold neD at e
  split at e
  · rename_i hc
    cases e
    rw [Bool.and_eq_true] at hc
    exact op_neD hu pins s σ H x y v u Q I rx ry ⟨_, _, bx.dp hc.1, by'.dp hc.2, hc.1, hc.2, k _ H kp rfl⟩
  · cases e
theorem op_ltDD (hu : X.A.units < cLine) : OpR X (compareOp .Lt) (rD X.K X.w (cmpB ltD)) := by
  intro pins s σ H x y v u Q I rx ry ⟨dx, dy, r, bx, by', e0, k⟩
  obtain ⟨b, e, rfl⟩ := cmp_some e0
  unfold ltD at e
  split at e
  · rename_i i j
    cases e
    exact op_lt pins s σ H x y v u Q I rx ry ⟨i, j, bx, by', k _ H kp rfl⟩
  · rename_i xs ys
    split at e
    · rename_i ns ms e1 e2
      cases e
      obtain ⟨a, vs, ea, h1, h2⟩ := bx
      obtain ⟨b, us, eb, h3, h4⟩ := by'
      rw [h2.intsD e1] at h1
      rw [h4.intsD e2] at h3
      exact op_ltT hu pins s σ H x y v u Q I rx ry ⟨a, b, ns, ms, ea, eb, h1, h3, k _ H kp rfl⟩
    · cases e
  · cases e
theorem op_leDD : OpR X (compareOp .LtE) (rD X.K X.w (cmpB leD)) := by
  intro pins s σ H x y v u Q I rx ry ⟨dx, dy, r, bx, by', e0, k⟩
  obtain ⟨b, e, rfl⟩ := cmp_some e0
  unfold leD at e
  split at e
  · rename_i i j
    cases e
    exact op_le pins s σ H x y v u Q I rx ry ⟨i, j, bx, by', k _ H kp rfl⟩
  · cases e
theorem op_gtDD : OpR X (compareOp .Gt) (rD X.K X.w (cmpB gtD)) := by
  intro pins s σ H x y v u Q I rx ry ⟨dx, dy, r, bx, by', e0, k⟩
  obtain ⟨b, e, rfl⟩ := cmp_some e0
  unfold gtD at e
  split at e
  · rename_i i j
    cases e
    exact op_gt pins s σ H x y v u Q I rx ry ⟨i, j, bx, by', k _ H kp rfl⟩
  · cases e
theorem op_geDD : OpR X (compareOp .GtE) (rD X.K X.w (cmpB geD)) := by
  intro pins s σ H x y v u Q I rx ry ⟨dx, dy, r, bx, by', e0, k⟩
  obtain ⟨b, e, rfl⟩ := cmp_some e0
  unfold geD at e
  split at e
  · rename_i i j
    cases e
    exact op_ge pins s σ H x y v u Q I rx ry ⟨i, j, bx, by', k _ H kp rfl⟩
  · cases e
theorem isD_cases {K : PySem.W.Frag} {w : World} {H : Hp} {dx dy : D} {x y : V} {b : Bool} (bx : RepB K w H dx x) (by' : RepB K w H dy y) (e : isD dx dy = some b) : (y = .non ∧ b = decide (x = .non)) ∨ ∃ p q, x = .bl p ∧ y = .bl q ∧ b = decide (p = q) := by
  unfold isD at e
  split at e <;> cases e
  · exact .inl ⟨by', by rw [show x = V.non from bx]; rfl⟩
  · exact .inl ⟨by', by rw [show x = V.ref _ from bx]; rfl⟩
  · exact .inl ⟨by', by rw [show x = V.bl _ from bx]; rfl⟩
  · exact .inl ⟨by', by rw [show x = V.int _ from bx]; rfl⟩
  · exact .inl ⟨by', by rw [show x = V.str _ from bx]; rfl⟩
  · obtain ⟨a, vs, ex, _⟩ := bx; exact .inl ⟨by', by rw [ex]; rfl⟩
  · obtain ⟨a, vs, ex, _⟩ := bx; exact .inl ⟨by', by rw [ex]; rfl⟩
  · obtain ⟨a, ex, _⟩ := bx; exact .inl ⟨by', by rw [ex]; rfl⟩
  · obtain ⟨a, ex, _⟩ := bx; exact .inl ⟨by', by rw [ex]; rfl⟩
  · exact .inr ⟨_, _, bx, by', rfl⟩
theorem op_isDD : OpR X (compareOp .Is) (rD X.K X.w (cmpB isD)) := by
  intro pins s σ H x y v u Q I rx ry ⟨dx, dy, r, bx, by', e0, k⟩
  obtain ⟨b, e, rfl⟩ := cmp_some e0
  rcases isD_cases bx by' e with ⟨e1, e2⟩ | ⟨p, q, e1, e2, e3⟩
  · subst e2
    exact op_isN pins s σ H x y v u Q I rx ry ⟨e1, k _ H kp rfl⟩
  · subst e3
    exact op_is_bl pins s σ H x y v u Q I rx ry ⟨p, q, e1, e2, k _ H kp rfl⟩
theorem op_isNotDD : OpR X (compareOp .IsNot) (rD X.K X.w (cmpB isNotD)) := by
  intro pins s σ H x y v u Q I rx ry ⟨dx, dy, r, bx, by', e0, k⟩
  obtain ⟨b, en, rfl⟩ := cmp_some e0
  obtain ⟨b', e, e'⟩ := Option.map_eq_some_iff.mp en
  subst e'
  rcases isD_cases bx by' e with ⟨e1, e2⟩ | ⟨p, q, e1, e2, e3⟩
  · subst e2
    exact op_notN pins s σ H x y v u Q I rx ry ⟨e1, k _ H kp rfl⟩
  · subst e3
    exact op_isnot_bl pins s σ H x y v u Q I rx ry ⟨p, q, e1, e2, k _ H kp rfl⟩
end
section
variable {X : Cx}
theorem all_pys {ys : List D} (h : ys.all D.cmpOk = true) : PyData.canLayAll0 (D.pys ys) = true := by
  induction ys with
  | nil => rfl
  | cons d r ih =>
    rw [List.all_cons, Bool.and_eq_true] at h
    show (d.py.canLay0 && PyData.canLayAll0 (D.pys r)) = true
    rw [SeqAt.canLay_of_shaped h.1, ih h.2]; rfl
theorem op_inDD (hu : X.A.units + 65 < cLine) : OpR X (compareOp .In) (rD X.K X.w (cmpB inD)) := by
  intro pins s σ H x y v u Q I rx ry ⟨dx, dy, r, bx, by', e0, k⟩
  obtain ⟨b, e, rfl⟩ := cmp_some e0
  unfold inD at e
  split at e
  · rename_i ys
    split at e
    · rename_i hc
      cases e
      rw [Bool.and_eq_true, Bool.and_eq_true] at hc
      obtain ⟨as, r1⟩ := Dp.reads I _ x v (bx.dp hc.1.1) rx
      obtain ⟨bs, r2⟩ := Dp.reads I (.tuple (D.pys ys)) y u (by obtain ⟨a, vs, e1, h1, h2⟩ := by'; subst e1; exact .tup h1 (Reps.dp _ _ h2 (all_pys hc.1.2))) ry
      exact SeqAt.in_tuple_reads r2 r1 (all_pys hc.1.2) (SeqAt.canLay_of_shaped hc.1.1) (PyProof.Rows.room_in_shaped hc.1.1 hu) ⟨.bl _, H, I, rfl, k _ H kp rfl⟩
    · cases e
  · rename_i ys
    split at e
    · rename_i hc
      cases e
      rw [Bool.and_eq_true, Bool.and_eq_true] at hc
      obtain ⟨as, r1⟩ := Dp.reads I _ x v (bx.dp hc.1.1) rx
      obtain ⟨bs, r2⟩ := Dp.reads I (.list (D.pys ys)) y u (by obtain ⟨a, vs, e1, h1, h2⟩ := by'; subst e1; exact .lst (.inl h1) (Reps.dp _ _ h2 (all_pys hc.1.2))) ry
      exact SeqAt.in_list_reads r2 r1 (all_pys hc.1.2) (SeqAt.canLay_of_shaped hc.1.1) (PyProof.Rows.room_in_shaped hc.1.1 hu) ⟨.bl _, H, I, rfl, k _ H kp rfl⟩
    · cases e
  · cases e
theorem op_notInDD (hu : X.A.units + 65 < cLine) : OpR X (compareOp .NotIn) (rD X.K X.w (cmpB notInD)) := by
  intro pins s σ H x y v u Q I rx ry ⟨dx, dy, r, bx, by', e0, k⟩
  obtain ⟨b, en, rfl⟩ := cmp_some e0
  obtain ⟨b', e, e'⟩ := Option.map_eq_some_iff.mp en
  subst e'
  unfold inD at e
  split at e
  · rename_i ys
    split at e
    · rename_i hc
      cases e
      rw [Bool.and_eq_true, Bool.and_eq_true] at hc
      obtain ⟨as, r1⟩ := Dp.reads I _ x v (bx.dp hc.1.1) rx
      obtain ⟨bs, r2⟩ := Dp.reads I (.tuple (D.pys ys)) y u (by obtain ⟨a, vs, e1, h1, h2⟩ := by'; subst e1; exact .tup h1 (Reps.dp _ _ h2 (all_pys hc.1.2))) ry
      exact SeqAt.notIn_tuple_reads r2 r1 (all_pys hc.1.2) (SeqAt.canLay_of_shaped hc.1.1) (PyProof.Rows.room_in_shaped hc.1.1 hu) ⟨.bl _, H, I, rfl, k _ H kp rfl⟩
    · cases e
  · rename_i ys
    split at e
    · rename_i hc
      cases e
      rw [Bool.and_eq_true, Bool.and_eq_true] at hc
      obtain ⟨as, r1⟩ := Dp.reads I _ x v (bx.dp hc.1.1) rx
      obtain ⟨bs, r2⟩ := Dp.reads I (.list (D.pys ys)) y u (by obtain ⟨a, vs, e1, h1, h2⟩ := by'; subst e1; exact .lst (.inl h1) (Reps.dp _ _ h2 (all_pys hc.1.2))) ry
      exact SeqAt.notIn_list_reads r2 r1 (all_pys hc.1.2) (SeqAt.canLay_of_shaped hc.1.1) (PyProof.Rows.room_in_shaped hc.1.1 hu) ⟨.bl _, H, I, rfl, k _ H kp rfl⟩
    · cases e
  · cases e
end
end DL

set_option Elab.async false
set_option linter.all false
set_option maxRecDepth 100000
set_option maxHeartbeats 2000000
namespace DL
open PySem PySem.Spec PyProof.Rows L2

/-! ### subscripts -/
def ixD : D → D → Option RV
  | .tup xs, .int i => (atI xs i).map .val
  | .lst xs, .int i => (atI xs i).map .val
  | _, _ => none
theorem atI_rep {K : PySem.W.Frag} {w : World} {H : Hp} {xs : List D} {vs : List V} {i : Int} {d : D} (h : Reps K w H xs vs) (e : atI xs i = some d) : ∃ v, atI vs i = some v ∧ Rep K w H d v := by
  unfold atI at e ⊢
  rw [← h.length]
  cases hx : ixN xs.length i with
  | none => rw [hx] at e; cases e
  | some j =>
    rw [hx] at e
    exact h.get e
/-- a slice's parts -/
def cutD (xs : List D) (lo hi : Option Int) : List D := (xs.drop (HT.sIx xs.length 0 lo)).take (HT.sIx xs.length xs.length hi - HT.sIx xs.length 0 lo)
theorem cut_rep {K : PySem.W.Frag} {w : World} {H : Hp} {xs : List D} {vs : List V} (lo hi : Option Int) (h : Reps K w H xs vs) : Reps K w H (cutD xs lo hi) (cutV vs lo hi) := by
  unfold cutD cutV
  rw [h.length]
  exact (h.drop _).take _
def sliceD (lo hi : Option Int) : D → Option RV
  | .tup xs => some (.val (.tup (cutD xs lo hi)))
  | .lst xs => some (.fresh (.lst (cutD xs lo hi)))
  | .scr ns => some (.fresh (.lst (cutD (ns.map .int) lo hi)))
  | _ => none
def revD : D → Option RV
  | .tup xs => some (.val (.tup xs.reverse))
  | .lst xs => some (.fresh (.lst xs.reverse))
  | _ => none
theorem reps_ints {K : PySem.W.Frag} {w : World} {H : Hp} : ∀ ns : List Int, Reps K w H (ns.map .int) (ns.map V.int)
  | [] => rfl
  | n :: r => ⟨V.int n, r.map V.int, rfl, rfl, reps_ints r⟩
section
variable {X : Cx}
theorem ix_D : IxR X (rD X.K X.w ixD) := by
  intro value slice pins s σ H x y v u Q I rx ry ⟨dx, dy, r, bx, by', e, k⟩ hs
  unfold ixD at e
  split at e
  · rename_i xs i
    obtain ⟨d, e1, e2⟩ := Option.map_eq_some_iff.mp e
    subst e2
    obtain ⟨a, vs, ea, h1, h2⟩ := bx
    obtain ⟨w', q1, q2⟩ := atI_rep h2 e1
    exact ix_tup value slice pins s σ H x y v u Q I rx ry ⟨a, vs, i, w', ea, by', h1, q1, k _ H kp q2⟩ hs
  · rename_i xs i
    obtain ⟨d, e1, e2⟩ := Option.map_eq_some_iff.mp e
    subst e2
    obtain ⟨a, vs, ea, h1, h2⟩ := bx
    obtain ⟨w', q1, q2⟩ := atI_rep h2 e1
    exact ix_list value slice pins s σ H x y v u Q I rx ry ⟨a, vs, i, w', ea, by', .inl h1, q1, k _ H kp q2⟩ hs
  · cases e
theorem de_ix {a b : Expr} {fa fb : FE} {pos : Pos} (ha : DE X a fa) (hb : DE X b fb) (hs : PlainIx b) : DE X (.Subscript a b pos) (fOp ixD fa fb) := PE.imp (pe_ix ix_D ha hb hs) op_ok
/-! slices -/
def sD (K : PySem.W.Frag) (w : World) : V → Option Int → Option Int → Hp → VK → Prop := fun x lo hi H Q => ∃ dx r, RepB K w H dx x ∧ sliceD lo hi dx = some r ∧ ∀ v H', (∀ a o, H a = some o → H' a = some o) → RepR K w [] H H' r v → Q v H'
theorem sl_D : SlR X (sD X.K X.w) := by
  intro pins s σ H x v vl vu lo hi sl Q I rx hs pl pu ⟨dx, r, bx, e, k⟩
  unfold sliceD at e
  split at e
  · rename_i xs
    cases e
    obtain ⟨a, vs, ea, h1, h2⟩ := bx
    refine sl_tupA pins s σ H x v vl vu lo hi sl Q I rx hs pl pu ⟨a, vs, ea, h1, fun hw => ?_, fun hw p hp => ?_⟩
    · refine k _ H kp ⟨a, vs, rfl, h1, ?_⟩
      have c := cut_rep lo hi h2
      have e1 : cutV vs lo hi = vs := by
        unfold cutV
        rw [hw.1, hw.2]
        simp
      rw [e1] at c
      exact c
    · exact k _ _ (keep_new hp) ⟨p, _, rfl, SqT.of upd_same, Reps.mono (le_new hp) _ _ (cut_rep lo hi h2)⟩
  · rename_i xs
    cases e
    obtain ⟨a, vs, ea, h1, h2⟩ := bx
    exact sl_list pins s σ H x v vl vu lo hi sl Q I rx hs pl pu ⟨a, vs, ea, .inl h1, fun p hp => k _ _ (keep_new hp) ⟨p, rfl, hp, _, upd_same, Reps.mono (le_new hp) _ _ (cut_rep lo hi h2)⟩⟩
  · rename_i ns
    cases e
    obtain ⟨a, ea, h1⟩ := bx
    exact sl_list pins s σ H x v vl vu lo hi sl Q I rx hs pl pu ⟨a, _, ea, h1.sq, fun p hp => k _ _ (keep_new hp) ⟨p, rfl, hp, _, upd_same, Reps.mono (le_new hp) _ _ (cut_rep lo hi (reps_ints ns))⟩⟩
  · cases e
/-- a part of a slice -/
abbrev FO := DEnv → Option (Option Int × DEnv)
def oD (K : PySem.W.Frag) (w : World) (f : FO) : TO := fun σ H Q => ∃ ρ o ρ', EnvR K w σ ρ H ∧ f ρ = some (o, ρ') ∧ ∀ H', Post K w σ ρ H ρ' H' → Q o H'
abbrev DO (X : Cx) (e : Option Expr) (f : FO) : Prop := PO X e (oD X.K X.w f)
def fNoPart : FO := fun ρ => some (none, ρ)
def fPart (f : FE) : FO := fun ρ => match f ρ with
  | some (.val (.int i), ρ1) => some (some i, ρ1)
  | _ => none
theorem PO.imp {e : Option Expr} {t t' : TO} (h : PO X e t) (k : ∀ σ H Q, t' σ H Q → t σ H Q) : PO X e t' := ⟨fun pins s σ H Q I q => h.run pins s σ H Q I (k σ H Q q)⟩
theorem do_none : DO X none fNoPart := PO.imp po_none fun σ H Q ⟨ρ, o, ρ', E, e, k⟩ => by
  cases e
  exact k H (Post.refl E)
theorem do_some {e : Expr} {f : FE} (h : DE X e f) : DO X (some e) (fPart f) := PO.imp (po_some h) fun σ H Q ⟨ρ, o, ρ', E, e, k⟩ => by
  unfold fPart at e
  split at e
  · rename_i i ρ1 e1
    cases e
    exact ⟨ρ, _, _, E, e1, fun v H1 p r => ⟨i, r, k H1 p⟩⟩
  · cases e
def fSlice (f : FE) (lo hi : FO) : FE := fun ρ => match f ρ with
  | some (ra, ρ1) => match lo ρ1 with
    | some (l, ρ2) => match hi ρ2 with
      | some (u, ρ3) => match ra.get ρ3 with
        | some x => (sliceD l u x).map fun r => (r, ρ3)
        | none => none
      | none => none
    | none => none
  | none => none
theorem de_slice {e : Expr} {lo hi : Option Expr} {f : FE} {fl fh : FO} {p2 pos : Pos} (he : DE X e f) (hl : DO X lo fl) (hu : DO X hi fh) : DE X (.Subscript e (.Slice lo hi none p2) pos) (fSlice f fl fh) :=
  PE.imp (pe_slice sl_D he hl hu) fun σ H Q ⟨ρ, rv, ρ', E, e, k⟩ => by
    unfold fSlice at e
    split at e
    · rename_i ra ρ1 e1
      split at e
      · rename_i l ρ2 e2
        split at e
        · rename_i u ρ3 e3
          split at e
          · rename_i x e4
            obtain ⟨r, e5, e6⟩ := Option.map_eq_some_iff.mp e
            cases e6
            refine ⟨ρ, ra, ρ1, E, e1, fun v H1 p1 r1 => ⟨ρ1, l, ρ2, p1.env, e2, fun H2 p2 => ⟨ρ2, u, _, p2.env, e3, fun H3 p3 => ⟨x, _, (r1.keep E p1 (p2.trans p3)).b p3.env e4, e5, fun v4 H4 g4 r4 => ?_⟩⟩⟩⟩
            exact k v4 H4 (((p1.trans p2).trans p3).trans (Post.grow p3.env g4)) (r4.sig.elder fun a h => p1.dom a (p2.dom a (p3.dom a h)))
          · cases e
        · cases e
      · cases e
    · cases e
/-! [::-1] -/
def sRev : Option Expr → Bool
  | some (.UnaryOp .USub (.Constant (.int 1) _ _) _) => true
  | _ => false
end
end DL
namespace DL
open PySem PySem.Spec PyProof.Rows L2
theorem fm_map {α β : Type} {f : α → Option β} {g : α → β} : ∀ l : List α, (∀ k ∈ l, f k = some (g k)) → l.filterMap f = l.map g
  | [], _ => rfl
  | a :: l, h => by
    rw [List.filterMap_cons, h a List.mem_cons_self, List.map_cons, fm_map l fun k hk => h k (List.mem_cons_of_mem _ hk)]
section
variable {prog : Program} {w : World} {A : Around} {E : Value → Shared → Prop} {s : Shared}
/-- t[::-1] of a tuple of two or more -/
theorem tup_rev {t sl : Addr} {items : Array Value} {vl vu vs : Value} {Q : Value → Shared → Prop} (ht : IsTup s.heap t items) (hs : s.heap.IsSliceOf sl vl vu vs) (pl : IsPart vl none) (pu : IsPart vu none) (ps : IsPart vs (some (-1)))
    (hsz : items.size ≤ sizeLine)
    (h : Q (.ref s.heap.objs.size) { s with heap := s.heap.push { cls := .type "tuple", data := .seq items.reverse } }) : wpAny (model prog w) A (getItem (.ref t) (.ref sl)) Q E s := by
  obtain ⟨os, hos, hcs, hds⟩ := id hs
  have hTs : s.TypeIs (.ref sl) "slice" := ⟨os, hos, hcs⟩
  have htake : sizeOk (.seq items.reverse) := by
    show items.reverse.size ≤ sizeLine
    rw [Array.size_reverse]; exact hsz
  unfold getItem
  try with_reducible refine wpAny_holding ?_
  first | refine wpAny_bind (wpAny_pure ?_) | skip
  refine wpAny_bind (wpAny_sequenceKey ht.typeIs (by decide) ?_)
  refine wpAny_bind (wpAny_callSpecial?_slot (name := Str.ofString "__getitem__") ht.typeIs PyProof.Rows.slot_tuple_getitem
    (wpAny_call_entry PyProof.Rows.slot_tuple_getitem ht.typeIs entry_tuple_getitem ?_ (args_tuple_getitem _ _)))
  show wpAny _ _ (Builtin.Tuple.tupleItemsOf (.ref t) >>= _) _ _ s
  refine wpAny_bind (PyProof.Rows.tupleItemsOf_ ht ?_)
  refine wpAny_bind (wpAny_typeOf hTs ?_)
  rw [if_pos (by decide)]
  refine wpAny_bind ?_
  unfold Builtin.Slice.sliceApplied Builtin.Slice.sliceFields
  refine wpAny_bind (wpAny_bind (wpAny_field hos hds (x := vl) rfl (wpAny_bind (wpAny_field hos hds (x := vu) rfl (wpAny_bind (wpAny_field hos hds (x := vs) rfl (wpAny_pure ?_)))))))
  refine wpAny_bind (HT.slicePart_ ps ?_)
  show wpAny _ _ (if ((-1 : Int) == 0) = true then _ else _) _ _ s
  rw [if_neg (by decide)]
  refine wpAny_bind (HT.slicePart_ pl (wpAny_bind (HT.slicePart_ pu (wpAny_bind (wpAny_pure ?_)))))
  show wpAny _ _ (pure ((items.size : Int) - 1, (-1 : Int), Builtin.Slice.slicePlaces ((items.size : Int) - 1) (-1) (-1))) _ _ s
  have hp : Builtin.Slice.slicePlaces ((items.size : Int) - 1) (-1) (-1) = items.size := by
    unfold Builtin.Slice.slicePlaces
    rw [if_neg (by decide)]
    split
    · rename_i h
      have : ((items.size : Int) - 1 - -1 - 1) / (- -1) + 1 = items.size := by
        rw [show (- -1 : Int) = 1 from rfl, Int.ediv_one]; omega
      rw [this]; simp
    · rename_i h
      have : items.size = 0 := by omega
      rw [this]; rfl
  rw [hp]
  refine wpAny_pure ?_
  show wpAny _ _ (if ((items.size : Int) - 1 == 0 && (-1 : Int) == 1 && items.size == items.size) = true then _ else _) _ _ s
  rw [if_neg (by simp)]
  have hr : (List.filterMap (fun (k : Nat) => items[((items.size : Int) - 1 + (k : Int) * -1).toNat]?) (List.range items.size)).toArray = items.reverse := by
    apply Array.ext'
    rw [Array.toList_reverse]
    apply List.ext_getElem?
    intro i
    have e0 : ∀ k, k < items.size → items[((items.size : Int) - 1 + (k : Int) * -1).toNat]? = some (items.toList.reverse.getD k default) := by
      intro k hk
      have e1 : ((items.size : Int) - 1 + (k : Int) * -1).toNat = items.size - 1 - k := by omega
      rw [e1, Array.getElem?_eq_getElem (by omega)]
      congr 1
      rw [List.getD_eq_getElem?_getD, List.getElem?_reverse (by simpa using hk)]
      simp
      rw [Array.getElem?_eq_getElem (by omega)]
      rfl
    have e2 : List.filterMap (fun (k : Nat) => items[((items.size : Int) - 1 + (k : Int) * -1).toNat]?) (List.range items.size) = (List.range items.size).map fun k => items.toList.reverse.getD k default := by
      exact fm_map _ fun k hk => e0 k (List.mem_range.mp hk)
    show (List.filterMap _ _)[i]? = _
    rw [e2, List.getElem?_map]
    by_cases hi : i < items.size
    · rw [List.getElem?_range hi]
      show some (items.toList.reverse.getD i default) = _
      rw [List.getD_eq_getElem?_getD]
      rw [List.getElem?_eq_getElem (by simpa using hi)]
      rfl
    · rw [List.getElem?_eq_none (by simpa using hi), List.getElem?_eq_none (by simpa using hi)]
      rfl
  rw [hr]
  first
    | exact wpAny_bind (m := Builtin.Tuple.tupleExact _) (wpAny_newObj_type (wpAny_pure ⟨_, rfl, wpAny_pure h⟩) htake)
    | exact wpAny_bind (m := Builtin.Tuple.tupleExact _) (wpAny_newObj_type (wpAny_bind (wpAny_pure (wpAny_pure ⟨_, rfl, wpAny_pure h⟩))) htake)
    | exact wpAny_bind (wpAny_bind (m := Builtin.Tuple.tupleExact _) (wpAny_newObj_type (wpAny_pure (wpAny_pure ⟨_, rfl, wpAny_pure h⟩)) htake))
    | exact wpAny_bind (wpAny_bind (m := Builtin.Tuple.tupleExact _) (wpAny_newObj_type (wpAny_pure ⟨_, rfl, wpAny_pure h⟩) htake))
end
section
variable {X : Cx}
def tRevA (K : PySem.W.Frag) (w : World) (te : TE) : TE := fun σ H Q => te σ H fun x H1 => ∃ dx r, RepB K w H1 dx x ∧ revD dx = some r ∧ ∀ v H', (∀ a o, H1 a = some o → H' a = some o) → RepR K w [] H1 H' r v → Q v H'
/-- e[::-1] -/
theorem pe_revA {e : Expr} {te : TE} {k : Nat} {p1 p2 p3 pos : Pos} (he : PE X e te) : PE X (.Subscript e (.Slice none none (some (.UnaryOp .USub (.Constant (.int 1) k p1) p2)) p3) pos) (tRevA X.K X.w te) := by
  refine ⟨fun pins s σ H Q I h => ?_⟩
  refine Subscript_ (thn (he.run pins s σ H _ I h) fun v s1 ⟨x, H1, I1, r1, q1⟩ => ?_)
  obtain ⟨dx, r, bx, e0, q⟩ := q1
  have hst : PO X (some (.UnaryOp .USub (.Constant (.int 1) k p1) p2)) (tPart (tUn (rU fun i => .int (-i)) (tC (.int 1)))) := po_some (pe_un un_neg pe_int)
  refine wpAny_Slice (thn (po_none.run pins s1 σ H1 (fun o H2 => o = none ∧ H2 = H1) I1 ⟨rfl, rfl⟩) fun vl s2 ⟨l, H2, I2, pl, el, e2⟩ => ?_)
  subst el e2
  refine thn (po_none.run pins s2 σ H2 (fun o H3 => o = none ∧ H3 = H2) I2 ⟨rfl, rfl⟩) fun vu s3 ⟨u, H3, I3, pu, eu, e3⟩ => ?_
  subst eu e3
  refine thn (hst.run pins s3 σ H3 (fun o H4 => o = some (-1) ∧ H4 = H3) I3 ⟨1, rfl, -1, rfl, rfl, rfl⟩) fun vs s4 ⟨o, H4, I4, ps, eo, e4⟩ => ?_
  subst eo e4
  have I5 : Inv X pins σ H4 { s4 with heap := s4.heap.push { cls := .type "slice", data := .fields #[vl, vu, vs] } } := I4.kept (t' := s4.toks) fun b ob q => Heap.get?_push_of_some _ q
  unfold revD at e0
  split at e0
  · rename_i xs
    cases e0
    obtain ⟨a, ws, ea, h1, h2⟩ := bx
    subst ea
    cases r1
    obtain ⟨its, r, ht, hz⟩ := I5.tuple h1
    have hlen := r.length
    show wpAny (model X.prog X.w) X.A (subscriptTail e (.Slice none none (some (.UnaryOp .USub (.Constant (.int 1) k p1) p2)) p3) (.ref a) (.ref s4.heap.objs.size)) (EP X pins σ Q) X.xe { s4 with heap := s4.heap.push { cls := .type "slice", data := .fields #[vl, vu, vs] } }
    refine tail_any (ops := [.ref a, .ref s4.heap.objs.size]) ht.typeIs (PyProof.Rows.slot_tuple_getitem.lookup) ?_ (by with_unfolding_all rfl)
    refine tup_rev ht (Heap.IsSliceOf.new _ vl vu vs) pl pu ps (by rw [List.size_toArray]; omega) ?_
    have fr := I5.fresh
    refine ⟨.ref _, _, I5.laid (t' := s4.toks) (o := .tup ws.reverse) (fun b ob q => Heap.get?_push_of_some _ q) (Nat.le_refl _) ?_, rfl, q _ _ (keep_new fr) ⟨_, _, rfl, SqT.of upd_same, Reps.mono (le_new fr) _ _ h2.reverse⟩⟩
    refine ⟨by rw [List.length_reverse]; exact hz, its.reverse, r.reverse, _, Heap.get?_push_size _ rfl, rfl, 0, ?_⟩
    simp
  · rename_i xs
    cases e0
    obtain ⟨a, ws, ea, h1, h2⟩ := bx
    subst ea
    cases r1
    obtain ⟨its, r, ht, hz⟩ := I5.list (.inl h1)
    have hlen := r.length
    show wpAny (model X.prog X.w) X.A (subscriptTail e (.Slice none none (some (.UnaryOp .USub (.Constant (.int 1) k p1) p2)) p3) (.ref a) (.ref s4.heap.objs.size)) (EP X pins σ Q) X.xe { s4 with heap := s4.heap.push { cls := .type "slice", data := .fields #[vl, vu, vs] } }
    refine tail_any (ops := [.ref a, .ref s4.heap.objs.size]) ht.isList.typeIs (PySem.slot_list_getitem.lookup) ?_ (by with_unfolding_all rfl)
    refine wpAny_getItem_list_slice ht.isList (Heap.IsSliceOf.new _ vl vu vs) pl pu ps (by decide) ?_ (by rw [List.size_toArray]; omega)
    rw [PySem.W.krv_pick]
    have fr := I5.fresh
    refine ⟨.ref _, _, I5.laid (t' := s4.toks) (o := .lst ws.reverse) (fun b ob q => Heap.get?_push_of_some _ q) (Nat.le_refl _) ?_, rfl, q _ _ (keep_new fr) ⟨_, rfl, fr, _, upd_same, Reps.mono (le_new fr) _ _ h2.reverse⟩⟩
    exact ⟨by rw [List.length_reverse]; exact hz, _, 0, r.reverse, Heap.get?_push_size _ rfl⟩
  · cases e0
theorem de_rev {e : Expr} {f : FE} {k : Nat} {p1 p2 p3 pos : Pos} (he : DE X e f) : DE X (.Subscript e (.Slice none none (some (.UnaryOp .USub (.Constant (.int 1) k p1) p2)) p3) pos) (fUn revD f) := PE.imp (pe_revA he) fun σ H Q h => un_ok σ H Q h
end
end DL

set_option Elab.async false
set_option linter.all false
set_option maxRecDepth 100000
set_option maxHeartbeats 2000000
namespace DL
open PySem PySem.Spec PyProof.Rows L2

/-! ### calls of built-in functions -/
section
variable {X : Cx} {e : Expr} {es : List Expr} {fa : FA} {g : List D → Option RV} {x : Str} {p pos : Pos} {id : String}
theorem de_cb (hc : CallR X (.builtin id) (cD X.K X.w g)) (hg : Gl X x) (hm : X.mg x = none) (hv : bootBuiltins x = some (.builtin id)) (ha : DA X (e :: es) fa) (hn : x ≠ "__name__" := by decide) (hdb : (x == ("__debug__" : Str)) = false := by decide)
    (he : starEach (e :: es) X.env = (false, eval e X.env) :: starEach es X.env := by rfl) (hpl : (backTo pos (starEach es X.env)).any (·.1) = false := by rfl) : DE X (.Call (.Name x p) (e :: es) [] pos) (fCall g fa) :=
  PE.imp (pe_callB hc hg hm hv ha hn hdb he hpl) cb_ok
theorem de_ct (hc : CallR X (.type id) (cD X.K X.w g)) (hg : Gl X x) (hm : X.mg x = none) (hv : bootBuiltins x = some (.type id)) (ha : DA X (e :: es) fa) (hn : x ≠ "__name__" := by decide) (hdb : (x == ("__debug__" : Str)) = false := by decide)
    (he : starEach (e :: es) X.env = (false, eval e X.env) :: starEach es X.env := by rfl) (hpl : (backTo pos (starEach es X.env)).any (·.1) = false := by rfl) : DE X (.Call (.Name x p) (e :: es) [] pos) (fCall g fa) :=
  PE.imp (pe_callTy hc hg hm hv ha hn hdb he hpl) cb_ok
end
def bools : List D → Option (List Bool)
  | [] => some []
  | .bl b :: r => match bools r with
    | some bs => some (b :: bs)
    | none => none
  | _ :: _ => none
section
variable {K : PySem.W.Frag} {w : World} {H : Hp}
theorem Reps.bools : ∀ {ds : List D} {vs : List V} {bs : List Bool}, Reps K w H ds vs → DL.bools ds = some bs → vs = bs.map V.bl
  | [], vs, bs, h, e => by cases e; exact h
  | .bl b :: r, vs, bs, h, e => by
    obtain ⟨v, us, e1, h1, h2⟩ := h
    simp only [DL.bools] at e
    split at e
    · rename_i cs e2
      cases e
      subst e1
      have h1 : v = .bl b := h1
      rw [List.map_cons, h1, Reps.bools h2 e2]
    · cases e
  | .non :: r, _, _, _, e => by simp [DL.bools] at e
  | .int _ :: r, _, _, _, e => by simp [DL.bools] at e
  | .str _ :: r, _, _, _, e => by simp [DL.bools] at e
  | .tup _ :: r, _, _, _, e => by simp [DL.bools] at e
  | .tpp _ :: r, _, _, _, e => by simp [DL.bools] at e
  | .lst _ :: r, _, _, _, e => by simp [DL.bools] at e
  | .dic _ _ :: r, _, _, _, e => by simp [DL.bools] at e
  | .dik _ _ :: r, _, _, _, e => by simp [DL.bools] at e
  | .fn _ :: r, _, _, _, e => by simp [DL.bools] at e
  | .scr _ :: r, _, _, _, e => by simp [DL.bools] at e
theorem RepBs.one {d : D} {vs : List V} (h : RepBs K w H [d] vs) : ∃ v, vs = [v] ∧ RepB K w H d v := by
  obtain ⟨v, us, e, h1, h2⟩ := h
  cases (show us = [] from h2)
  exact ⟨v, e, h1⟩
theorem RepBs.two {d e : D} {vs : List V} (h : RepBs K w H [d, e] vs) : ∃ v u, vs = [v, u] ∧ RepB K w H d v ∧ RepB K w H e u := by
  obtain ⟨v, us, e1, h1, h2⟩ := h
  obtain ⟨u, e2, h3⟩ := RepBs.one h2
  subst e2
  exact ⟨v, u, e1, h1, h3⟩
end
def lenD : List D → Option RV
  | [.tup xs] => some (.val (.int xs.length))
  | [.lst xs] => some (.val (.int xs.length))
  | _ => none
def allD : List D → Option RV
  | [.lst xs] => match bools xs with
    | some bs => some (.val (.bl (bs.all id)))
    | none => none
  | _ => none
def anyD : List D → Option RV
  | [.lst xs] => match bools xs with
    | some bs => some (.val (.bl (bs.any id)))
    | none => none
  | _ => none
def absD : List D → Option RV
  | [.int i] => some (.val (.int i.natAbs))
  | _ => none
def intD : List D → Option RV
  | [.int i] => some (.val (.int i))
  | [.bl b] => some (.val (.int (if b then 1 else 0)))
  | _ => none
def minD : List D → Option RV
  | [.int i, .int j] => some (.val (.int (if j < i then j else i)))
  | _ => none
def maxL : List Int → Int
  | [] => 0
  | [x] => x
  | x :: r => if x < maxL r then maxL r else x
theorem maxL_spec : ∀ {ns : List Int}, ns ≠ [] → maxL ns ∈ ns ∧ ∀ y ∈ ns, y ≤ maxL ns
  | [], h => (h rfl).elim
  | [x], _ => ⟨by simp [maxL], by simp [maxL]⟩
  | x :: y :: r, _ => by
    obtain ⟨h1, h2⟩ := maxL_spec (ns := y :: r) (by simp)
    have e : maxL (x :: y :: r) = if x < maxL (y :: r) then maxL (y :: r) else x := rfl
    rw [e]
    split
    · rename_i h
      refine ⟨List.mem_cons_of_mem _ h1, fun z hz => ?_⟩
      rcases List.mem_cons.mp hz with q | q
      · omega
      · exact h2 z q
    · rename_i h
      refine ⟨List.mem_cons_self, fun z hz => ?_⟩
      rcases List.mem_cons.mp hz with q | q
      · omega
      · have := h2 z q; omega
def maxD : List D → Option RV
  | [.lst xs] => match intsD xs with
    | some ns => if ns ≠ [] then some (.val (.int (maxL ns))) else none
    | none => none
  | _ => none
def sumD : List D → Option RV
  | [.lst xs] => match intsD xs with
    | some ns => some (.val (.int ns.sum))
    | none => none
  | _ => none
def tupleD : List D → Option RV
  | [.lst xs] => some (.val (.tpp xs))
  | [.tup xs] => some (.val (.tup xs))
  | _ => none
def listD : List D → Option RV
  | [.lst xs] => some (.fresh (.lst xs))
  | [.tup xs] => some (.fresh (.lst xs))
  | _ => none
section
variable {X : Cx}
theorem cr_len : CallR X (.builtin "len") (cD X.K X.w lenD) := by
  intro pins s σ H xs us Q I r ⟨ds, rv, b, e, k⟩
  unfold lenD at e
  split at e
  · cases e
    obtain ⟨v, e1, a, vs, e2, h1, h2⟩ := b.one
    rw [h2.length] at k
    exact call_len_seq pins s σ H xs us Q I r ⟨a, vs, by rw [e1, e2], .inr h1, k _ H kp rfl⟩
  · cases e
    obtain ⟨v, e1, a, vs, e2, h1, h2⟩ := b.one
    rw [h2.length] at k
    exact call_len_seq pins s σ H xs us Q I r ⟨a, vs, by rw [e1, e2], .inl (.inl h1), k _ H kp rfl⟩
  · cases e
theorem cr_allD (hc : X.calm = true) : CallR X (.builtin "all") (cD X.K X.w allD) := by
  intro pins s σ H xs us Q I r ⟨ds, rv, b, e, k⟩
  unfold allD at e
  split at e
  · split at e
    · rename_i bs eb
      cases e
      obtain ⟨v, e1, a, vs, e2, h1, h2⟩ := b.one
      rw [h2.bools eb] at h1
      exact cr_all hc pins s σ H xs us Q I r ⟨a, bs, by rw [e1, e2], .inl h1, k _ H kp rfl⟩
    · cases e
  · cases e
theorem cr_anyD (hc : X.calm = true) : CallR X (.builtin "any") (cD X.K X.w anyD) := by
  intro pins s σ H xs us Q I r ⟨ds, rv, b, e, k⟩
  unfold anyD at e
  split at e
  · split at e
    · rename_i bs eb
      cases e
      obtain ⟨v, e1, a, vs, e2, h1, h2⟩ := b.one
      rw [h2.bools eb] at h1
      exact cr_any hc pins s σ H xs us Q I r ⟨a, bs, by rw [e1, e2], .inl h1, k _ H kp rfl⟩
    · cases e
  · cases e
theorem cr_absD : CallR X (.builtin "abs") (cD X.K X.w absD) := by
  intro pins s σ H xs us Q I r ⟨ds, rv, b, e, k⟩
  unfold absD at e
  split at e
  · rename_i i
    cases e
    obtain ⟨v, e1, e2⟩ := b.one
    have e2 : v = .int i := e2
    have en : (if i < 0 then -i else i) = (i.natAbs : Int) := by split <;> omega
    rw [← en] at k
    exact call_abs pins s σ H xs us Q I r ⟨i, by rw [e1, e2], k _ H kp rfl⟩
  · cases e
theorem cr_intD : CallR X (.type "int") (cD X.K X.w intD) := by
  intro pins s σ H xs us Q I r ⟨ds, rv, b, e, k⟩
  unfold intD at e
  split at e
  · rename_i i
    cases e
    obtain ⟨v, e1, e2⟩ := b.one
    have e2 : v = .int i := e2
    exact call_int1 pins s σ H xs us Q I r (.inl ⟨i, by rw [e1, e2], k _ H kp rfl⟩)
  · rename_i i
    cases e
    obtain ⟨v, e1, e2⟩ := b.one
    have e2 : v = .bl i := e2
    exact call_int1 pins s σ H xs us Q I r (.inr ⟨i, by rw [e1, e2], k _ H kp rfl⟩)
  · cases e
theorem cr_minD (hc : X.calm = true) : CallR X (.builtin "min") (cD X.K X.w minD) := by
  intro pins s σ H xs us Q I r ⟨ds, rv, b, e, k⟩
  unfold minD at e
  split at e
  · rename_i i j
    cases e
    obtain ⟨v, u, e1, e2, e3⟩ := b.two
    have e2 : v = .int i := e2
    have e3 : u = .int j := e3
    exact call_min2 hc pins s σ H xs us Q I r ⟨i, j, by rw [e1, e2, e3], k _ H kp rfl⟩
  · cases e
theorem cr_maxD (hc : X.calm = true) : CallR X (.builtin "max") (cD X.K X.w maxD) := by
  intro pins s σ H xs us Q I r ⟨ds, rv, b, e, k⟩
  unfold maxD at e
  split at e
  · split at e
    · rename_i ns en
      split at e
      · rename_i hne
        cases e
        obtain ⟨v, e1, a, vs, e2, h1, h2⟩ := b.one
        rw [h2.intsD en] at h1
        have hp : 0 < ns.length := by
          cases ns with
          | nil => exact (hne rfl).elim
          | cons a r => simp
        refine cr_max hc pins s σ H xs us Q I r ⟨a, ns, by rw [e1, e2], .inl h1, hp, fun m hm hle => ?_⟩
        obtain ⟨q1, q2⟩ := maxL_spec hne
        have em : m = maxL ns := by
          have := q2 m hm; have := hle _ q1; omega
        rw [em]
        exact k _ H kp rfl
      · cases e
    · cases e
  · cases e
theorem cr_sumD (hc : X.calm = true) : CallR X (.builtin "sum") (cD X.K X.w sumD) := by
  intro pins s σ H xs us Q I r ⟨ds, rv, b, e, k⟩
  unfold sumD at e
  split at e
  · split at e
    · rename_i ns en
      cases e
      obtain ⟨v, e1, a, vs, e2, h1, h2⟩ := b.one
      rw [h2.intsD en] at h1
      exact cr_sum hc pins s σ H xs us Q I r ⟨a, ns, by rw [e1, e2], .inl h1, k _ H kp rfl⟩
    · cases e
  · cases e
theorem cr_tupleD : CallR X (.type "tuple") (cD X.K X.w tupleD) := by
  intro pins s σ H xs us Q I r ⟨ds, rv, b, e, k⟩
  unfold tupleD at e
  split at e
  · cases e
    obtain ⟨v, e1, a, vs, e2, h1, h2⟩ := b.one
    subst e1 e2
    obtain ⟨u, eu, rx⟩ := vals1 r
    subst eu
    cases rx
    obtain ⟨its, r', pl, hz⟩ := I.list (.inl h1)
    have hlen := r'.length
    refine call_tuple_list pl.isList (fun h' kp' => ?_) (by simp only [List.size_toArray] <;> omega)
    have I1 : Inv X pins σ H { s with heap := h' } := I.kept (t' := s.toks) kp'
    have hl := I1.hok.fresh (Nat.le_refl h'.objs.size)
    have g : (h'.push { cls := .type "tuple", data := .seq its.toArray }).get? h'.objs.size = some { cls := .type "tuple", data := .seq its.toArray } := Heap.get?_push_size _ rfl
    have I2 : Inv X pins σ (upd H h'.objs.size (.frz { cls := .type "tuple", data := .seq its.toArray } (.tup vs))) { s with heap := h'.push { cls := .type "tuple", data := .seq its.toArray } } :=
      I1.laid (t' := s.toks) (fun b o e => Heap.get?_push_of_some _ e) (Nat.le_refl _) ⟨g, hz, its, r', IsTup.new _ _⟩
    exact ⟨.ref h'.objs.size, _, I2, rfl, k _ _ (keep_new hl) ⟨_, vs, rfl, ⟨_, upd_same, rfl⟩, Reps.mono (le_new hl) _ _ h2⟩⟩
  · cases e
    obtain ⟨v, e1, a, vs, e2, h1, h2⟩ := b.one
    exact call_tuple_of pins s σ H xs us Q I r ⟨a, vs, by rw [e1, e2], .inr ⟨h1, k _ H kp ⟨a, vs, rfl, h1, h2⟩⟩⟩
  · cases e
theorem cr_listD : CallR X (.type "list") (cD X.K X.w listD) := by
  intro pins s σ H xs us Q I r ⟨ds, rv, b, e, k⟩
  unfold listD at e
  split at e
  · cases e
    obtain ⟨v, e1, a, vs, e2, h1, h2⟩ := b.one
    exact call_list_of pins s σ H xs us Q I r ⟨a, vs, by rw [e1, e2], .inl (.inl h1), fun l hl => k _ _ (keep_new hl) ⟨l, rfl, hl, vs, upd_same, Reps.mono (le_new hl) _ _ h2⟩⟩
  · cases e
    obtain ⟨v, e1, a, vs, e2, h1, h2⟩ := b.one
    exact call_list_of pins s σ H xs us Q I r ⟨a, vs, by rw [e1, e2], .inr h1, fun l hl => k _ _ (keep_new hl) ⟨l, rfl, hl, vs, upd_same, Reps.mono (le_new hl) _ _ h2⟩⟩
  · cases e
end
/-! ### isinstance -/
def tyD : D → Option String
  | .non => some "NoneType"
  | .bl _ => some "bool"
  | .int _ => some "int"
  | .str _ => some "str"
  | .tup _ => some "tuple"
  | .lst _ => some "list"
  | _ => none
def isiB (T : String) (d : D) : Option Bool := match tyD d with
  | some n => kitB n T
  | none => none
def isiD (T : String) (d : D) : Option RV := (isiB T d).map fun b => .val (.bl b)
def isi2D (T U : String) (d : D) : Option RV := match isiB T d, isiB U d with
  | some b, some c => some (.val (.bl (b || c)))
  | _, _ => none
theorem tyX_of {K : PySem.W.Frag} {w : World} {H : Hp} {d : D} {v : V} {n : String} (b : RepB K w H d v) (e : tyD d = some n) : TyX K H v (.type n) := by
  unfold tyD at e
  split at e <;> cases e
  · cases (show v = .non from b); exact .base .non
  · cases (show v = .bl _ from b); exact .base (.bl _)
  · cases (show v = .int _ from b); exact .base (.int _)
  · cases (show v = .str _ from b); exact .base (.str _)
  · obtain ⟨a, vs, e1, h1, h2⟩ := b
    subst e1
    rcases h1 with (h1 | ⟨o, h1⟩) | ⟨o, its, n, h1, h2, _⟩
    · exact .base (.tup h1)
    · exact .fTuple h1
    · exact .kTuple h1 h2
  · obtain ⟨a, vs, e1, h1, h2⟩ := b
    subst e1
    rcases h1 with h1 | ⟨o, h1⟩
    · exact .base (.lst h1)
    · exact .base (.frz h1)
section
variable {X : Cx} {e : Expr} {f : FE} {p1 p2 p3 p4 p5 pos : Pos} {x y : Str} {T U : String}
theorem de_isi (mi : X.mg "isinstance" = none) (mx : X.mg x = none) (he : DE X e f) (gi : Gl X "isinstance" := by rfl) (gx : Gl X x := by rfl) (hx : bootBuiltins x = some (.type T) := by decide +kernel)
    (hn : x ≠ "__name__" := by decide) (hdb : (x == ("__debug__" : Str)) = false := by decide)
    (hs : starEach [e, .Name x p2] X.env = (false, eval e X.env) :: starEach [.Name x p2] X.env := by rfl) (hs2 : starEach [.Name x p2] X.env = (false, eval (.Name x p2) X.env) :: starEach [] X.env := by rfl)
    (hpl : (backTo pos (starEach [.Name x p2] X.env)).any (·.1) = false := by rfl) :
    DE X (.Call (.Name "isinstance" p1) [e, .Name x p2] [] pos) (fUn (isiD T) f) :=
  PE.imp (pe_callB call_isi gi mi (by decide +kernel) (pa_cons he (pa_cons (pe_bltn (v := .ty T) gx mx hx rfl hn hdb) pa_nil hs2) hs) (by decide) (by decide) hs hpl) fun σ H Q h => by
    obtain ⟨ρ, rv, ρ', E, e, k⟩ := h
    unfold fUn at e
    split at e
    · rename_i ra ρ1 e1
      split at e
      · rename_i d e3
        obtain ⟨r, e5, e6⟩ := Option.map_eq_some_iff.mp e
        cases e6
        obtain ⟨b, e7, e8⟩ := Option.map_eq_some_iff.mp e5
        unfold isiB at e7
        split at e7
        · rename_i n en
          refine ⟨ρ, ra, _, E, e1, fun v H1 p1 r1 => ⟨v, .ty T, .type n, .type T, b, rfl, .ty T, tyX_of (r1.b p1.env e3) en, kit_ty e7, ?_⟩⟩
          subst e8
          exact k _ H1 p1 rfl
        · cases e7
      · cases e
    · cases e
theorem kitAny_two {K : PySem.W.Frag} {a b c : String} {p q : Bool} (h1 : kitB a b = some p) (h2 : kitB a c = some q) : PySem.W.kitAny K (.type a) [.type b, .type c] = some (p || q) := by
  refine kitAny_cons (kit_ty h1) (fun e => ?_) (fun e => by rw [e]; rfl)
  rw [e]
  refine kitAny_cons (kit_ty h2) (fun e2 => ?_) (fun e2 => by rw [e2]; rfl)
  rw [e2]
  exact kitAny_nil
theorem de_isi2 {xc} (mi : X.mg "isinstance" = none) (mx : X.mg x = none) (my : X.mg y = none) (he : DE X e f) (gi : Gl X "isinstance" := by rfl) (gx : Gl X x := by rfl) (gy : Gl X y := by rfl) (hx : bootBuiltins x = some (.type T) := by decide +kernel) (hy : bootBuiltins y = some (.type U) := by decide +kernel)
    (hn : x ≠ "__name__" := by decide) (hdb : (x == ("__debug__" : Str)) = false := by decide) (hn2 : y ≠ "__name__" := by decide) (hdb2 : (y == ("__debug__" : Str)) = false := by decide)
    (hs : starEach [e, .Tuple [.Name x p2, .Name y p3] xc p4] X.env = (false, eval e X.env) :: starEach [.Tuple [.Name x p2, .Name y p3] xc p4] X.env := by rfl) :
    DE X (.Call (.Name "isinstance" p1) [e, .Tuple [.Name x p2, .Name y p3] xc p4] [] pos) (fUn (isi2D T U) f) :=
  PE.imp (pe_callB call_isiT gi mi (by decide +kernel) (pa_cons he (pa_cons (pe_tup (pa_cons (pe_bltn (v := .ty T) gx mx hx rfl hn hdb) (pa_cons (pe_bltn (v := .ty U) gy my hy rfl hn2 hdb2) pa_nil))) pa_nil) hs) (by decide) (by decide) hs) fun σ H Q h => by
    obtain ⟨ρ, rv, ρ', E, e, k⟩ := h
    unfold fUn at e
    split at e
    · rename_i ra ρ1 e1
      split at e
      · rename_i d e3
        obtain ⟨r, e5, e6⟩ := Option.map_eq_some_iff.mp e
        cases e6
        unfold isi2D at e5
        split at e5
        · rename_i b c eb ec
          cases e5
          unfold isiB at eb ec
          split at eb
          · rename_i n en
            rw [en] at ec
            refine ⟨ρ, ra, _, E, e1, fun v H1 p1 r1 => ⟨by show 2 ≤ sizeLine; rw [sizeLine_eq]; decide, fun tp htp => ?_⟩⟩
            have kn := keep_new (o := .tup [V.ty T, V.ty U]) htp
            have p3 := p1.trans (Post.grow p1.env kn)
            have r3 := r1.keep E p1 (Post.grow p1.env kn)
            refine ⟨v, tp, [V.ty T, V.ty U], .type n, [.type T, .type U], b || c, rfl, upd_same, .cons (.ty T) (.cons (.ty U) .nil), tyX_of (r3.b p3.env e3) en, kitAny_two eb ec, k _ _ p3 rfl⟩
          · cases eb
        · cases e5
      · cases e
    · cases e
end
end DL

set_option Elab.async false
set_option linter.all false
set_option maxRecDepth 100000
set_option maxHeartbeats 2000000
namespace DL
open PySem PySem.Spec PyProof.Rows L2

/-! ### statements -/
/-- an exception of the program: Malformed, Refused(reason) -/
inductive Exn where
  | mal | rfd (d : D)
inductive Out where
  | nx (ρ : DEnv) | rt (rv : RV) (ρ : DEnv) | bk (ρ : DEnv) | ct (ρ : DEnv) | ex (x : Exn) (ρ : DEnv)
abbrev FS := DEnv → Option Out
abbrev WD := Exn → L2.St → Hp → Prop

structure PostS (K : PySem.W.Frag) (w : World) (P : List Nat) (σ : L2.St) (ρ : DEnv) (H : Hp) (σ' : L2.St) (ρ' : DEnv) (H' : Hp) : Prop where
  env : EnvR K w σ' ρ' H'
  frm : ∀ a o, H a = some o → ¬ Own σ ρ a → H' a = some o
  own : ∀ a, Own σ' ρ' a → Own σ ρ a ∨ H a = none
  pin : ∀ i ∈ P, σ'[i]? = σ[i]?
  dom : ∀ a, H' a = none → H a = none
section
variable {K : PySem.W.Frag} {w : World} {P : List Nat} {H H' H0 H1 H2 : Hp} {σ σ' σ1 σ2 : L2.St} {ρ ρ' ρ1 ρ2 : DEnv} {d : D} {v : V}
theorem Post.s (p : Post K w σ ρ H ρ' H') : PostS K w P σ ρ H σ ρ' H' := ⟨p.env, p.frm, fun a h => .inl (p.own h), fun _ _ => rfl, p.dom⟩
theorem PostS.refl (E : EnvR K w σ ρ H) : PostS K w P σ ρ H σ ρ H := (Post.refl E).s
theorem PostS.trans (p : PostS K w P σ ρ H σ1 ρ1 H1) (q : PostS K w P σ1 ρ1 H1 σ2 ρ2 H2) : PostS K w P σ ρ H σ2 ρ2 H2 := by
  refine ⟨q.env, fun a o h n => q.frm a o (p.frm a o h n) fun z => ?_, fun a h => ?_, fun i hi => (q.pin i hi).trans (p.pin i hi), fun a h => p.dom a (q.dom a h)⟩
  · rcases p.own a z with z | z
    · exact n z
    · rw [z] at h; cases h
  · rcases q.own a h with h | h
    · exact p.own a h
    · exact .inr (p.dom a h)
theorem PostS.le (E : EnvR K w σ ρ H) (p : PostS K w P σ ρ H σ' ρ' H') : Le H H' := by
  refine ⟨fun a xs e => p.frm a _ e fun o => ?_, fun a o u e => p.frm a _ e fun z => ?_⟩
  · obtain ⟨u, h1, h2⟩ := E.own_mut o
    rw [e] at h1; cases h1; exact h2
  · obtain ⟨u, h1, h2⟩ := E.own_mut z
    rw [e] at h1; cases h1; exact h2
end
/-- what is wanted behind an outcome -/
def OutOk (K : PySem.W.Frag) (w : World) (P : List Nat) (W : WD) (σ : L2.St) (ρ : DEnv) (H : Hp) (D : Ends) : Out → Prop
  | .nx ρ' => ∀ σ' H', PostS K w P σ ρ H σ' ρ' H' → D.nx σ' H'
  | .bk ρ' => ∀ σ' H', PostS K w P σ ρ H σ' ρ' H' → D.bk σ' H'
  | .ct ρ' => ∀ σ' H', PostS K w P σ ρ H σ' ρ' H' → D.ct σ' H'
  | .rt rv ρ' => ∀ v σ' H', PostS K w P σ ρ H σ' ρ' H' → RepR K w σ' H H' rv v → D.rt v H'
  | .ex x ρ' => ∀ σ' H', PostS K w P σ ρ H σ' ρ' H' → W x σ' H'
def sDs (K : PySem.W.Frag) (w : World) (P : List Nat) (W : WD) (f : FS) : TS := fun D σ H => ∃ ρ o, EnvR K w σ ρ H ∧ f ρ = some o ∧ OutOk K w P W σ ρ H D o
abbrev DS (X : Cx) (P : List Nat) (W : WD) (st : Stmt) (f : FS) : Prop := PS X st (sDs X.K X.w P W f)
abbrev DSs (X : Cx) (P : List Nat) (W : WD) (st : List Stmt) (f : FS) : Prop := PSs X st (sDs X.K X.w P W f)
theorem PS.imp {X : Cx} {st : Stmt} {t t' : TS} (h : PS X st t) (k : ∀ D σ H, t' D σ H → t D σ H) : PS X st t' := ⟨fun pins s σ H D I q => h.run pins s σ H D I (k D σ H q)⟩
theorem PSs.imp {X : Cx} {st : List Stmt} {t t' : TS} (h : PSs X st t) (k : ∀ D σ H, t' D σ H → t D σ H) : PSs X st t' := ⟨fun pins s σ H D I q => h.run pins s σ H D I (k D σ H q)⟩
section
variable {K : PySem.W.Frag} {w : World} {P : List Nat} {W : WD} {H H' H0 H1 H2 : Hp} {σ σ' σ1 σ2 : L2.St} {ρ ρ' ρ1 ρ2 : DEnv} {d : D} {v : V} {D : Ends}
theorem OutOk.step {o : Out} (p : PostS K w P σ ρ H σ1 ρ1 H1) (h : OutOk K w P W σ ρ H D o) : OutOk K w P W σ1 ρ1 H1 D o := by
  cases o with
  | nx ρ' => exact fun σ' H' q => h σ' H' (p.trans q)
  | bk ρ' => exact fun σ' H' q => h σ' H' (p.trans q)
  | ct ρ' => exact fun σ' H' q => h σ' H' (p.trans q)
  | rt rv ρ' => exact fun v σ' H' q r => h v σ' H' (p.trans q) (r.elder p.dom)
  | ex x ρ' => exact fun σ' H' q => h σ' H' (p.trans q)
theorem sDs_then {f : FS} {o : Out} (p : PostS K w P σ ρ H σ1 ρ1 H1) (e : f ρ1 = some o) (h : OutOk K w P W σ ρ H D o) : sDs K w P W f D σ1 H1 := ⟨ρ1, o, p.env, e, h.step p⟩
end
def gNext : FS := fun ρ => some (.nx ρ)
def gSeq (f g : FS) : FS := fun ρ => match f ρ with
  | some (.nx ρ1) => g ρ1
  | o => o
def gIf (c : FT) (f g : FS) : FS := fun ρ => match c ρ with
  | some (true, ρ1) => f ρ1
  | some (false, ρ1) => g ρ1
  | none => none
def gRet (f : FE) : FS := fun ρ => match f ρ with
  | some (r, ρ1) => some (.rt r ρ1)
  | none => none
def gDrop (f : FE) : FS := fun ρ => match f ρ with
  | some (_, ρ1) => some (.nx ρ1)
  | none => none
def gSet (i : Nat) (f : FE) : FS := fun ρ => match f ρ with
  | some (.val d, ρ1) => some (.nx (ρ1.set i (.im d)))
  | some (.fresh d, ρ1) => some (.nx (ρ1.set i (.mu d)))
  | _ => none
section
variable {K : PySem.W.Frag} {w : World} {P : List Nat} {W : WD} {H H' H0 H1 H2 : Hp} {σ σ' σ1 σ2 : L2.St} {ρ ρ' ρ1 ρ2 : DEnv} {d : D} {v : V} {D : Ends} {i : Nat}
theorem set_back {α : Type} {l : List α} {x y : α} {j : Nat} (h : (l.set i x)[j]? = some y) (n : j ≠ i) : l[j]? = some y := by
  rwa [List.getElem?_set_ne (Ne.symm n)] at h
/-- a slot is stored: data -/
theorem EnvR.set_im (E : EnvR K w σ ρ H) (r : Rep K w H d v) : EnvR K w (σ.set i (some v)) (ρ.set i (.im d)) H := by
  by_cases hi : i < ρ.length
  · have hi' : i < σ.length := by rw [E.len]; exact hi
    refine ⟨by rw [List.length_set, List.length_set]; exact E.len, fun j c h => ?_, fun j c h => ?_, fun j k c c' b h h' q q' => ?_⟩
    · by_cases hj : j = i
      · subst hj
        rw [List.getElem?_set_self hi] at h; cases h
        exact ⟨v, List.getElem?_set_self hi', r⟩
      · rw [List.getElem?_set_ne (Ne.symm hj)]; exact E.im j c (set_back h hj)
    · by_cases hj : j = i
      · subst hj; rw [List.getElem?_set_self hi] at h; cases h
      · rw [List.getElem?_set_ne (Ne.symm hj)]; exact E.mu j c (set_back h hj)
    · by_cases hj : j = i
      · subst hj; rw [List.getElem?_set_self hi] at h; cases h
      · by_cases hk : k = i
        · subst hk; rw [List.getElem?_set_self hi] at h'; cases h'
        · exact E.ap j k c c' b (set_back h hj) (set_back h' hk) (set_back q hj) (set_back q' hk)
  · rw [List.set_eq_of_length_le (by rw [E.len]; omega), List.set_eq_of_length_le (by omega)]
    exact E
theorem own_set_im (E : EnvR K w σ ρ H) {a : Addr} (h : Own (σ.set i (some v)) (ρ.set i (.im d)) a) : Own σ ρ a := by
  obtain ⟨j, c, h1, h2⟩ := h
  by_cases hj : j = i
  · subst hj
    by_cases hi : j < ρ.length
    · rw [List.getElem?_set_self hi] at h1; cases h1
    · rw [List.getElem?_eq_none (by rw [List.length_set]; omega)] at h1; cases h1
  · exact ⟨j, c, set_back h1 hj, set_back h2 hj⟩
/-- .. a new mutable object -/
theorem EnvR.set_mu {a : Addr} (E : EnvR K w σ ρ H) (r : RepM K w H a d) (n : ¬ Own σ ρ a) : EnvR K w (σ.set i (some (.ref a))) (ρ.set i (.mu d)) H := by
  by_cases hi : i < ρ.length
  · have hi' : i < σ.length := by rw [E.len]; exact hi
    refine ⟨by rw [List.length_set, List.length_set]; exact E.len, fun j c h => ?_, fun j c h => ?_, fun j k c c' b h h' q q' => ?_⟩
    · by_cases hj : j = i
      · subst hj; rw [List.getElem?_set_self hi] at h; cases h
      · rw [List.getElem?_set_ne (Ne.symm hj)]; exact E.im j c (set_back h hj)
    · by_cases hj : j = i
      · subst hj
        rw [List.getElem?_set_self hi] at h; cases h
        exact ⟨a, List.getElem?_set_self hi', r⟩
      · rw [List.getElem?_set_ne (Ne.symm hj)]; exact E.mu j c (set_back h hj)
    · by_cases hj : j = i
      · by_cases hk : k = i
        · rw [hj, hk]
        · subst hj
          rw [List.getElem?_set_self hi'] at q; cases q
          exact (n ⟨k, c', set_back h' hk, set_back q' hk⟩).elim
      · by_cases hk : k = i
        · subst hk
          rw [List.getElem?_set_self hi'] at q'; cases q'
          exact (n ⟨j, c, set_back h hj, set_back q hj⟩).elim
        · exact E.ap j k c c' b (set_back h hj) (set_back h' hk) (set_back q hj) (set_back q' hk)
  · rw [List.set_eq_of_length_le (by rw [E.len]; omega), List.set_eq_of_length_le (by omega)]
    exact E
theorem own_set_mu {a b : Addr} (h : Own (σ.set i (some (.ref b))) (ρ.set i (.mu d)) a) : Own σ ρ a ∨ a = b := by
  obtain ⟨j, c, h1, h2⟩ := h
  by_cases hj : j = i
  · subst hj
    by_cases hi : j < σ.length
    · rw [List.getElem?_set_self hi] at h2; cases h2; exact .inr rfl
    · rw [List.getElem?_eq_none (by rw [List.length_set]; omega)] at h2; cases h2
  · exact .inl ⟨j, c, set_back h1 hj, set_back h2 hj⟩
theorem PostS.set_im (p : PostS K w P σ ρ H σ1 ρ1 H1) (r : Rep K w H1 d v) (hi : i ∉ P) : PostS K w P σ ρ H (σ1.set i (some v)) (ρ1.set i (.im d)) H1 :=
  ⟨p.env.set_im r, p.frm, fun a h => p.own a (own_set_im p.env h), fun j hj => by rw [List.getElem?_set_ne (fun z => hi (by rw [z]; exact hj))]; exact p.pin j hj, p.dom⟩
theorem PostS.set_mu {a : Addr} (p : PostS K w P σ ρ H σ1 ρ1 H1) (r : RepM K w H1 a d) (h0 : H a = none) (n : ¬ Own σ1 ρ1 a) (hi : i ∉ P) : PostS K w P σ ρ H (σ1.set i (some (.ref a))) (ρ1.set i (.mu d)) H1 :=
  ⟨p.env.set_mu r n, p.frm, fun b h => by
    rcases own_set_mu h with h | h
    · exact p.own b h
    · exact .inr (h ▸ h0), fun j hj => by rw [List.getElem?_set_ne (fun z => hi (by rw [z]; exact hj))]; exact p.pin j hj, p.dom⟩
end
section
variable {X : Cx} {P : List Nat} {W : WD} {st : Stmt} {rest : List Stmt} {f g : FS} {fe : FE} {ft : FT} {pos : Pos}
theorem dss_nil : DSs X P W [] gNext := PSs.imp pss_nil fun D σ H ⟨ρ, o, E, e, k⟩ => by
  cases e
  exact k σ H (PostS.refl E)
theorem dss_cons (h1 : DS X P W st f) (h2 : DSs X P W rest g) : DSs X P W (st :: rest) (gSeq f g) := PSs.imp (pss_cons h1 h2) fun D σ H ⟨ρ, o, E, e, k⟩ => by
  unfold gSeq at e
  split at e
  · rename_i ρ1 e1
    exact ⟨ρ, _, E, e1, fun σ1 H1 p1 => sDs_then p1 e k⟩
  · rename_i o' hne
    refine ⟨ρ, o, E, e, ?_⟩
    cases o with
    | nx ρ1 => exact (hne ρ1 e).elim
    | _ => exact k
theorem dss_one (h1 : DS X P W st f) : DSs X P W [st] f := pss_one h1
theorem ds_pass : DS X P W (.Pass pos) gNext := PS.imp ps_pass fun D σ H ⟨ρ, o, E, e, k⟩ => by
  cases e
  exact k σ H (PostS.refl E)
def gBreak : FS := fun ρ => some (.bk ρ)
def gCont : FS := fun ρ => some (.ct ρ)
theorem ds_break : DS X P W (.Break pos) gBreak := PS.imp ps_break fun D σ H ⟨ρ, o, E, e, k⟩ => by
  cases e
  exact k σ H (PostS.refl E)
theorem ds_continue : DS X P W (.Continue pos) gCont := PS.imp ps_continue fun D σ H ⟨ρ, o, E, e, k⟩ => by
  cases e
  exact k σ H (PostS.refl E)
theorem ds_doc {x j pos'} : DS X P W (.Expr (.Constant (.str x) j pos) pos') gNext := PS.imp ps_doc fun D σ H ⟨ρ, o, E, e, k⟩ => by
  cases e
  exact k σ H (PostS.refl E)
/-- a statement that is never reached -/
def gNever : FS := fun _ => none
theorem ds_never : DS X P W st gNever := PS.imp ps_never fun D σ H ⟨ρ, o, E, e, k⟩ => by cases e
theorem ds_if {c : Expr} {a b : List Stmt} (hc : DT X c ft) (ha : DSs X P W a f) (hb : DSs X P W b g) : DS X P W (.If c a b pos) (gIf ft f g) := PS.imp (ps_if hc ha hb) fun D σ H ⟨ρ, o, E, e, k⟩ => by
  unfold gIf at e
  split at e
  · rename_i ρ1 e1
    exact ⟨ρ, true, ρ1, E, e1, fun H1 p1 => sDs_then p1.s e k⟩
  · rename_i ρ1 e1
    exact ⟨ρ, false, ρ1, E, e1, fun H1 p1 => sDs_then p1.s e k⟩
  · cases e
theorem ds_ret {e : Expr} (he : DE X e fe) : DS X P W (.Return (some e) pos) (gRet fe) := PS.imp (ps_ret he) fun D σ H ⟨ρ, o, E, e, k⟩ => by
  unfold gRet at e
  split at e
  · rename_i r ρ1 e1
    cases e
    exact ⟨ρ, r, ρ1, E, e1, fun v H1 p1 r1 => k v σ H1 p1.s r1⟩
  · cases e
def gRetN : FS := fun ρ => some (.rt (.val .non) ρ)
theorem ds_retN : DS X P W (.Return none pos) gRetN := PS.imp ps_retN fun D σ H ⟨ρ, o, E, e, k⟩ => by
  cases e
  exact k .non σ H (PostS.refl E) rfl
theorem ds_expr {e : Expr} (he : DE X e fe) (hs : swapsWith e none pos.line X.env = pure false := by rfl) : DS X P W (.Expr e pos) (gDrop fe) := PS.imp (ps_expr he hs) fun D σ H ⟨ρ, o, E, e, k⟩ => by
  unfold gDrop at e
  split at e
  · rename_i r ρ1 e1
    cases e
    exact ⟨ρ, r, ρ1, E, e1, fun v H1 p1 r1 => k σ H1 p1.s⟩
  · cases e
theorem set_ok {K : PySem.W.Frag} {w : World} {i : Nat} {fe : FE} (hi : i ∉ P) (D : Ends) (σ : L2.St) (H : Hp) (h : sDs K w P W (gSet i fe) D σ H) : tAsg (tD K w fe) (gName i) D σ H := by
  obtain ⟨ρ, o, E, e, k⟩ := h
  unfold gSet at e
  split at e
  · rename_i d ρ1 e1
    cases e
    exact ⟨ρ, _, ρ1, E, e1, fun v H1 p1 r1 => k _ H1 (p1.s.set_im r1 hi)⟩
  · rename_i d ρ1 e1
    cases e
    refine ⟨ρ, _, ρ1, E, e1, fun v H1 p1 r1 => ?_⟩
    obtain ⟨a, e2, h0, m⟩ := r1
    subst e2
    exact k _ H1 (p1.s.set_mu m h0 (fresh_not_own E p1 h0) hi)
  · cases e
theorem ds_set {i : Nat} {x : Str} {e : Expr} {pos' : Pos} (hN : X.N.Nodup) (hi : X.N[i]? = some x) (hx : Loc X.env.scope x) (he : DE X e fe) (hp : i ∉ P := by decide) (hs : swapsWith e (some (.Name x pos')) pos.line X.env = pure false := by rfl)
    (hf : X.fn x = true ∨ X.env.scope.names.lookup x = some .local := by first | exact .inl rfl | exact .inr rfl | assumption) : DS X P W (.Assign [.Name x pos'] e pos) (gSet i fe) := PS.imp (ps_set hN hi hx he hs hf) (set_ok hp)
end
/-! ### targets -/
inductive Pat where
  | nm (i : Nat) | tp (ps : List Pat)
mutual
def Pat.store : Pat → D → DEnv → Option DEnv
  | .nm i, d, ρ => some (ρ.set i (.im d))
  | .tp ps, .tup ds, ρ => Pat.storeL ps ds ρ
  | .tp ps, .tpp ds, ρ => Pat.storeL ps ds ρ
  | .tp _, _, _ => none
def Pat.storeL : List Pat → List D → DEnv → Option DEnv
  | [], [], ρ => some ρ
  | p :: ps, d :: ds, ρ => match Pat.store p d ρ with
    | some ρ1 => Pat.storeL ps ds ρ1
    | none => none
  | _, _, _ => none
end
mutual
def Pat.slots : Pat → List Nat
  | .nm i => [i]
  | .tp ps => Pat.slotsL ps
def Pat.slotsL : List Pat → List Nat
  | [] => []
  | p :: ps => p.slots ++ Pat.slotsL ps
end
structure StoreOk (K : PySem.W.Frag) (w : World) (S : List Nat) (σ : L2.St) (ρ : DEnv) (H : Hp) (σ' : L2.St) (ρ' : DEnv) : Prop where
  env : EnvR K w σ' ρ' H
  own : ∀ a, Own σ' ρ' a → Own σ ρ a
  oth : ∀ i, i ∉ S → σ'[i]? = σ[i]?
  sub : ∀ (i : Nat) (d : D), ρ'[i]? = some (.mu d) → ρ[i]? = some (.mu d)
  len : σ'.length = σ.length
def gD (K : PySem.W.Frag) (w : World) (p : Pat) : TG := fun v σ H Q => ∃ ρ d ρ', EnvR K w σ ρ H ∧ Rep K w H d v ∧ p.store d ρ = some ρ' ∧ ∀ σ', StoreOk K w p.slots σ ρ H σ' ρ' → Q σ' H
def gDL (K : PySem.W.Frag) (w : World) (ps : List Pat) : TGs := fun vs σ H Q => ∃ ρ ds ρ', EnvR K w σ ρ H ∧ Reps K w H ds vs ∧ Pat.storeL ps ds ρ = some ρ' ∧ ∀ σ', StoreOk K w (Pat.slotsL ps) σ ρ H σ' ρ' → Q σ' H
abbrev DG (X : Cx) (tg : Expr) (p : Pat) : Prop := PG X tg (gD X.K X.w p)
abbrev DGs (X : Cx) (tgs : List Expr) (ps : List Pat) : Prop := PGs X tgs (gDL X.K X.w ps)
theorem PG.imp {X : Cx} {tg : Expr} {t t' : TG} (h : PG X tg t) (k : ∀ v σ H Q, t' v σ H Q → t v σ H Q) : PG X tg t' := ⟨fun pins s σ H v u Q I r q => h.run pins s σ H v u Q I r (k v σ H Q q)⟩
theorem PGs.imp {X : Cx} {tg : List Expr} {t t' : TGs} (h : PGs X tg t) (k : ∀ v σ H Q, t' v σ H Q → t v σ H Q) : PGs X tg t' := ⟨fun pins s σ H v u Q I r q => h.run pins s σ H v u Q I r (k v σ H Q q)⟩
section
variable {X : Cx} {e : Expr} {es : List Expr} {p : Pat} {ps : List Pat} {pos : Pos}
theorem StoreOk.trans {K : PySem.W.Frag} {w : World} {S S' : List Nat} {σ σ1 σ2 : L2.St} {ρ ρ1 ρ2 : DEnv} {H : Hp} (a : StoreOk K w S σ ρ H σ1 ρ1) (b : StoreOk K w S' σ1 ρ1 H σ2 ρ2) : StoreOk K w (S ++ S') σ ρ H σ2 ρ2 :=
  ⟨b.env, fun x h => a.own x (b.own x h), fun i hi => (b.oth i fun z => hi (List.mem_append_right _ z)).trans (a.oth i fun z => hi (List.mem_append_left _ z)), fun i d h => a.sub i d (b.sub i d h), b.len.trans a.len⟩
theorem dg_name {i : Nat} {x : Str} (hN : X.N.Nodup) (hi : X.N[i]? = some x) (hx : Loc X.env.scope x) (hf : X.fn x = true ∨ X.env.scope.names.lookup x = some .local := by first | exact .inl rfl | exact .inr rfl | assumption) : DG X (.Name x pos) (.nm i) :=
  PG.imp (pg_name hN hi hx hf) fun v σ H Q ⟨ρ, d, ρ', E, r, e, k⟩ => by
    simp only [Pat.store] at e
    cases e
    exact k _ ⟨E.set_im r, fun a h => own_set_im E h, fun j hj => List.getElem?_set_ne (fun z => hj (by simp [Pat.slots, z])), fun j c hj => by
      by_cases z : j = i
      · subst z
        by_cases hl : j < ρ.length
        · rw [List.getElem?_set_self hl] at hj; cases hj
        · rw [List.getElem?_eq_none (by rw [List.length_set]; omega)] at hj; cases hj
      · exact set_back hj z, List.length_set⟩
theorem dgs_nil : DGs X [] [] := PGs.imp pgs_nil fun vs σ H Q ⟨ρ, ds, ρ', E, r, e, k⟩ => by
  cases ds with
  | nil =>
    simp only [Pat.storeL] at e
    cases e
    exact ⟨r, k σ ⟨E, fun _ h => h, fun _ _ => rfl, fun _ _ h => h, rfl⟩⟩
  | cons d ds => simp [Pat.storeL] at e
theorem dgs_cons (h1 : DG X e p) (h2 : DGs X es ps) (hs : (assignEach (e :: es) X.env).map (·.2) = assign e X.env :: (assignEach es X.env).map (·.2) := by rfl) : DGs X (e :: es) (p :: ps) := PGs.imp (pgs_cons h1 h2 hs) fun vs σ H Q ⟨ρ, ds, ρ', E, r, e, k⟩ => by
  cases ds with
  | nil => simp [Pat.storeL] at e
  | cons d ds =>
    obtain ⟨v, us, e1, r1, r2⟩ := r
    simp only [Pat.storeL] at e
    split at e
    · rename_i ρ1 e2
      refine ⟨v, us, e1, ρ, d, ρ1, E, r1, e2, fun σ1 s1 => ⟨ρ1, ds, ρ', s1.env, r2, e, fun σ2 s2 => ?_⟩⟩
      exact k σ2 (by have := s1.trans s2; simpa [Pat.slotsL] using this)
    · cases e
theorem storeL_len : ∀ {ps : List Pat} {ds : List D} {ρ ρ' : DEnv}, Pat.storeL ps ds ρ = some ρ' → ds.length = ps.length
  | [], [], _, _, _ => rfl
  | [], _ :: _, _, _, e => by simp [Pat.storeL] at e
  | _ :: _, [], _, _, e => by simp [Pat.storeL] at e
  | p :: ps, d :: ds, ρ, ρ', e => by
    simp only [Pat.storeL] at e
    split at e
    · rename_i ρ1 e1
      simp [storeL_len e]
    · cases e
theorem dg_tup {k : Nat} {n : Nat} (hc : X.calm = true) (h : DGs X es ps) (hn : n = ps.length := by rfl) (hl : (assignEach es X.env).length = n := by rfl) (hf : (assignEach es X.env).findIdx? (·.1) = none := by rfl) : DG X (.Tuple es k pos) (.tp ps) :=
  PG.imp (pg_tup hc h hl hf) fun v σ H Q ⟨ρ, d, ρ', E, r, e, k⟩ => by
    cases d with
    | tup ds =>
      simp only [Pat.store] at e
      obtain ⟨a, vs, e1, h1, h2⟩ := r
      refine ⟨a, vs, e1, h1, by rw [hn, ← h2.length]; exact storeL_len e, ρ, ds, ρ', E, h2, e, fun σ' s => k σ' ?_⟩
      simpa [Pat.slots] using s
    | tpp ds =>
      simp only [Pat.store] at e
      obtain ⟨a, vs, e1, ⟨o, h1, h0⟩, h2⟩ := r
      refine ⟨a, vs, e1, .inl (.inr ⟨o, h1⟩), by rw [hn, ← h2.length]; exact storeL_len e, ρ, ds, ρ', E, h2, e, fun σ' s => k σ' ?_⟩
      simpa [Pat.slots] using s
    | _ => simp [Pat.store] at e
end
end DL

set_option Elab.async false
set_option linter.all false
set_option maxRecDepth 100000
set_option maxHeartbeats 2000000
namespace DL
open PySem PySem.Spec PyProof.Rows L2

/-! ### dicts -/
def dfind : List D → List D → NK → Option D
  | k :: ks, d :: ds, n => if keyV k = some n then some d else dfind ks ds n
  | _, _, _ => none
def dset : List D → List D → NK → D → List D
  | k :: ks, d :: ds, n, e => (if keyV k = some n then e else d) :: dset ks ds n e
  | _, _, _, _ => []
/-- the key of a tuple -/
def keyT : D → Option NK
  | .tup xs => match keyV (.tup xs) with
    | some k => if k.depth ≤ 8 then some k else none
    | none => none
  | _ => none
def keyI : D → Option Key
  | .int i => some (.inl i)
  | .str x => some (.inr x)
  | _ => none
def ifind : List Key → List D → Key → Option D
  | k :: ks, d :: ds, n => if k = n then some d else ifind ks ds n
  | _, _, _ => none
def iset : List Key → List D → Key → D → List D
  | k :: ks, d :: ds, n, e => (if k = n then e else d) :: iset ks ds n e
  | _, _, _, _ => []
/-- d[k], where it is there -/
def dgetD : D → D → Option (Option D)
  | .dic ks ds, k => match keyT k with
    | some n => some (dfind ks ds n)
    | none => none
  | .dik ks ds, k => match keyI k with
    | some n => some (ifind ks ds n)
    | none => none
  | _, _ => none
def dputD : D → D → D → Option D
  | .dic ks ds, k, d => match keyT k with
    | some n => if ks.length < 1000000 then some (if (dfind ks ds n).isSome then .dic ks (dset ks ds n d) else .dic (ks ++ [k]) (ds ++ [d])) else none
    | none => none
  | .dik ks ds, k, d => match keyI k with
    | some n => if ks.length < 1000000 then some (if (ifind ks ds n).isSome then .dik ks (iset ks ds n d) else .dik (ks ++ [n]) (ds ++ [d])) else none
    | none => none
  | _, _, _ => none

/-- entries: what stands in the heap -/
abbrev KX3 := List (NK × Addr × Value)
abbrev PrE : KE3 → KX3 → Prop := Paired (fun (p : NK × Addr × V) (x : NK × Addr × Value) => p.1 = x.1 ∧ p.2.1 = x.2.1 ∧ RelV p.2.2 x.2.2)
def kfind (kvs : KE3) (n : NK) : Option V := match kvs with
  | [] => none
  | x :: r => if x.1 = n then some x.2.2 else kfind r n
def kput (kvs : KE3) (n : NK) (q : Addr) (v : V) : KE3 := if (kfind kvs n).isSome then kvs.map (fun x => if x.1 = n then (x.1, x.2.1, v) else x) else kvs ++ [(n, q, v)]
theorem atKey_cons {x : NK × Addr × Value} {xs : KX3} {n : NK} : (atKey (x :: xs) n).map (·.2) = if x.1 = n then some x.2.2 else (atKey xs n).map (·.2) := by
  unfold atKey
  rw [List.find?_cons]
  by_cases h : x.1 = n
  · rw [if_pos h, decide_eq_true h]; rfl
  · rw [if_neg h, decide_eq_false h]
theorem PrE.find {n : NK} : ∀ {kvs : KE3} {xs : KX3}, PrE kvs xs → RelO (kfind kvs n) ((atKey xs n).map (·.2))
  | _, _, .nil => True.intro
  | _, _, .cons (a := p) (b := x) r t => by
    rw [atKey_cons]
    show RelO (if p.1 = n then some p.2.2 else kfind _ n) _
    rw [r.1]
    by_cases h : x.1 = n
    · rw [if_pos h, if_pos h]; exact r.2.2
    · rw [if_neg h, if_neg h]; exact PrE.find t
theorem PrE.map {n : NK} {v : V} {u : Value} (rv : RelV v u) : ∀ {kvs : KE3} {xs : KX3}, PrE kvs xs → PrE (kvs.map (fun x => if x.1 = n then (x.1, x.2.1, v) else x)) (xs.map (putAt n u))
  | _, _, .nil => .nil
  | _, _, .cons (a := p) (b := x) r t => by
    rw [List.map_cons, List.map_cons]
    refine .cons ?_ (PrE.map rv t)
    unfold putAt
    rw [r.1]
    by_cases h : x.1 = n
    · rw [if_pos h, if_pos h]; exact ⟨rfl, r.2.1, rv⟩
    · rw [if_neg h, if_neg h]; exact r
theorem PrE.put {n : NK} {q : Addr} {v : V} {u : Value} (rv : RelV v u) {kvs : KE3} {xs : KX3} (p : PrE kvs xs) : PrE (kput kvs n q v) (storedH xs n q u) := by
  have e : (kfind kvs n).isSome = (atKey xs n).isSome := by
    have := (p.find (n := n)).isSome_eq
    rwa [Option.isSome_map] at this
  unfold kput storedH
  rw [e]
  split
  · exact p.map rv
  · exact Paired.snoc p ⟨rfl, rfl, rv⟩
theorem PrE.keys {kvs : KE3} {xs : KX3} (p : PrE kvs xs) : kvs.map (·.1) = xs.map (·.1) := by
  induction p with
  | nil => rfl
  | cons r t ih => rw [List.map_cons, List.map_cons, r.1, ih]
theorem kput_keys {kvs : KE3} {n : NK} {q : Addr} {v : V} : (kput kvs n q v).map (·.1) = if (kfind kvs n).isSome then kvs.map (·.1) else kvs.map (·.1) ++ [n] := by
  unfold kput
  split
  · rw [List.map_map]
    apply List.map_congr_left
    intro x _
    show (if x.1 = n then (x.1, x.2.1, v) else x).1 = x.1
    split <;> rfl
  · simp
theorem kput_len {kvs : KE3} {n : NK} {q : Addr} {v : V} : (kput kvs n q v).length ≤ kvs.length + 1 := by
  unfold kput
  split
  · rw [List.length_map]; omega
  · simp
section
variable {K : PySem.W.Frag} {w : World} {H : Hp}
theorem keyVs_cons {k : D} {ks : List D} {ns : List NK} (e : keyV.keyVs (k :: ks) = some ns) : ∃ n r, keyV k = some n ∧ keyV.keyVs ks = some r ∧ ns = n :: r := by
  simp only [keyV.keyVs] at e
  split at e
  · rename_i a b e1 e2
    cases e
    exact ⟨a, b, e1, e2, rfl⟩
  · cases e
theorem keyVs_nil {ns : List NK} (e : keyV.keyVs [] = some ns) : ns = [] := by
  simp only [keyV.keyVs] at e
  cases e
  rfl
theorem keyVs_snoc : ∀ {ks : List D} {ns : List NK} {k : D} {n : NK}, keyV.keyVs ks = some ns → keyV k = some n → keyV.keyVs (ks ++ [k]) = some (ns ++ [n])
  | [], ns, k, n, e, e1 => by
    rw [keyVs_nil e]
    show keyV.keyVs [k] = some [n]
    simp only [keyV.keyVs, e1]
  | a :: ks, ns, k, n, e, e1 => by
    obtain ⟨m, r, h1, h2, h3⟩ := keyVs_cons e
    subst h3
    show keyV.keyVs (a :: (ks ++ [k])) = some (m :: (r ++ [n]))
    have ih := keyVs_snoc h2 e1
    simp only [keyV.keyVs, h1, ih]
/-- the entries bear the data -/
structure DicR (K : PySem.W.Frag) (w : World) (H : Hp) (ks ds : List D) (kvs : KE3) : Prop where
  keys : keyV.keyVs ks = some (kvs.map (·.1))
  ks : Reps K w H ks (kvs.map fun x => V.ref x.2.1)
  vs : Reps K w H ds (kvs.map (·.2.2))
theorem DicR.cons {k d : D} {ks ds : List D} {x : NK × Addr × V} {kvs : KE3} (h : DicR K w H (k :: ks) (d :: ds) (x :: kvs)) : keyV k = some x.1 ∧ Rep K w H k (.ref x.2.1) ∧ Rep K w H d x.2.2 ∧ DicR K w H ks ds kvs := by
  obtain ⟨h1, h2, h3⟩ := h
  obtain ⟨n, r, e1, e2, e3⟩ := keyVs_cons h1
  obtain ⟨v, us, e4, h4, h5⟩ := h2
  obtain ⟨v', us', e6, h6, h7⟩ := h3
  rw [List.map_cons] at e3 e4 e6
  cases e3
  cases e4
  cases e6
  exact ⟨e1, h4, h6, e2, h5, h7⟩
theorem DicR.shape {ks ds : List D} {kvs : KE3} (h : DicR K w H ks ds kvs) : (ks = [] ∧ ds = [] ∧ kvs = []) ∨ ∃ k ks' d ds' x kvs', ks = k :: ks' ∧ ds = d :: ds' ∧ kvs = x :: kvs' := by
  have l1 := h.ks.length
  have l2 := h.vs.length
  rw [List.length_map] at l1 l2
  cases kvs with
  | nil => exact .inl ⟨List.eq_nil_of_length_eq_zero l1, List.eq_nil_of_length_eq_zero l2, rfl⟩
  | cons x kvs' =>
    cases ks with
    | nil => simp at l1
    | cons k ks' =>
      cases ds with
      | nil => simp at l2
      | cons d ds' => exact .inr ⟨k, ks', d, ds', x, kvs', rfl, rfl, rfl⟩
theorem DicR.find (n : NK) : ∀ {kvs : KE3} {ks ds : List D}, DicR K w H ks ds kvs → match dfind ks ds n with
    | some d => ∃ v, kfind kvs n = some v ∧ Rep K w H d v
    | none => kfind kvs n = none
  | [], ks, ds, h => by
    rcases h.shape with ⟨rfl, rfl, _⟩ | ⟨k, ks', d, ds', x, kvs', _, _, e⟩
    · rfl
    · cases e
  | x :: kvs, ks, ds, h => by
    rcases h.shape with ⟨_, _, e⟩ | ⟨k, ks', d, ds', x', kvs', rfl, rfl, e⟩
    · cases e
    · cases e
      obtain ⟨h1, h2, h3, h4⟩ := h.cons
      have ih := DicR.find n h4
      show match (if keyV k = some n then some d else dfind ks' ds' n) with
        | some d => ∃ v, (if x.1 = n then some x.2.2 else kfind kvs n) = some v ∧ Rep K w H d v
        | none => (if x.1 = n then some x.2.2 else kfind kvs n) = none
      rw [h1]
      by_cases hx : x.1 = n
      · rw [if_pos (by rw [hx]), if_pos hx]; exact ⟨_, rfl, h3⟩
      · rw [if_neg (fun z => hx (Option.some.inj z)), if_neg hx]; exact ih
theorem DicR.isSome {n : NK} {kvs : KE3} {ks ds : List D} (h : DicR K w H ks ds kvs) : (dfind ks ds n).isSome = (kfind kvs n).isSome := by
  have := h.find n
  cases e : dfind ks ds n with
  | none => rw [e] at this; rw [show kfind kvs n = none from this]; rfl
  | some d => rw [e] at this; obtain ⟨v, h1, _⟩ := this; rw [h1]; rfl
theorem DicR.set {n : NK} {d : D} {v : V} (r : Rep K w H d v) : ∀ {kvs : KE3} {ks ds : List D}, DicR K w H ks ds kvs → DicR K w H ks (dset ks ds n d) (kvs.map (fun x => if x.1 = n then (x.1, x.2.1, v) else x))
  | [], ks, ds, h => by
    rcases h.shape with ⟨rfl, rfl, _⟩ | ⟨k, ks', d, ds', x, kvs', _, _, e⟩
    · exact h
    · cases e
  | x :: kvs, ks, ds, h => by
    rcases h.shape with ⟨_, _, e⟩ | ⟨k, ks', d', ds', x', kvs', rfl, rfl, e⟩
    · cases e
    · cases e
      obtain ⟨h1, h2, h3, h4⟩ := h.cons
      obtain ⟨i1, i2, i3⟩ := DicR.set (n := n) r h4
      have ef : (if x.1 = n then (x.1, x.2.1, v) else x).1 = x.1 := by split <;> rfl
      have eq : (if x.1 = n then (x.1, x.2.1, v) else x).2.1 = x.2.1 := by split <;> rfl
      refine ⟨?_, ?_, ?_⟩
      · rw [List.map_cons, List.map_cons, ef]
        simp only [keyV.keyVs, h1, i1]
      · rw [List.map_cons, List.map_cons, eq]
        exact ⟨_, _, rfl, h2, i2⟩
      · rw [List.map_cons, List.map_cons]
        refine ⟨_, _, rfl, ?_, i3⟩
        rw [h1]
        by_cases hx : x.1 = n
        · rw [if_pos (by rw [hx]), if_pos hx]; exact r
        · rw [if_neg (fun z => hx (Option.some.inj z)), if_neg hx]; exact h3
theorem DicR.put {n : NK} {k d : D} {q : Addr} {v : V} (rk : Rep K w H k (.ref q)) (ek : keyV k = some n) (r : Rep K w H d v) {kvs : KE3} {ks ds : List D} (h : DicR K w H ks ds kvs) :
    ∃ ks' ds', (if (dfind ks ds n).isSome then D.dic ks (dset ks ds n d) else .dic (ks ++ [k]) (ds ++ [d])) = .dic ks' ds' ∧ DicR K w H ks' ds' (kput kvs n q v) := by
  rw [h.isSome]
  unfold kput
  split
  · exact ⟨_, _, rfl, h.set r⟩
  · refine ⟨_, _, rfl, ?_, ?_, ?_⟩
    · rw [List.map_append]; exact keyVs_snoc h.keys ek
    · rw [List.map_append]; exact h.ks.snoc rk
    · rw [List.map_append]; exact h.vs.snoc r
theorem DicR.mono {H' : Hp} {kvs : KE3} {ks ds : List D} (l : Le H H') (h : DicR K w H ks ds kvs) : DicR K w H' ks ds kvs := ⟨h.keys, Reps.mono l _ _ h.ks, Reps.mono l _ _ h.vs⟩
end
/-! the heap -/
section
variable {X : Cx} {pins : List (Addr × Obj)} {σ : L2.St} {H : Hp} {s : Shared}
mutual
theorem nested_of (I : Inv X pins σ H s) : ∀ (d : D) (v : V) (u : Value) (n : NK), Rep X.K X.w H d v → RelV v u → keyV d = some n → NestedIs s.heap n u
  | .non, v, u, n, h, r, e => by
    simp only [keyV] at e
    cases e
    cases (show v = .non from h)
    cases r
    exact .none
  | .int i, v, u, n, h, r, e => by
    simp only [keyV] at e
    cases e
    cases (show v = .int i from h)
    obtain ⟨t, rfl⟩ := r
    exact .int i t
  | .str x, v, u, n, h, r, e => by
    simp only [keyV] at e
    cases e
    cases (show v = .str x from h)
    obtain ⟨t, rfl⟩ := r
    exact .text x t
  | .tup xs, v, u, n, h, r, e => by
    simp only [keyV] at e
    obtain ⟨ns, e1, e2⟩ := Option.map_eq_some_iff.mp e
    subst e2
    obtain ⟨a, vs, e3, h1, h2⟩ := h
    subst e3
    cases r
    obtain ⟨its, r, ⟨o, ho, hc, m, hd⟩, _⟩ := I.tuple h1
    exact .tup ho hc hd (by simpa using nested_all I xs vs its ns h2 r e1)
  | .tpp xs, v, u, n, h, r, e => by
    simp only [keyV] at e
    obtain ⟨ns, e1, e2⟩ := Option.map_eq_some_iff.mp e
    subst e2
    obtain ⟨a, vs, e3, ⟨o', h1, h0⟩, h2⟩ := h
    subst e3
    cases r
    have h1 : SqT X.K H a vs := .inl (.inr ⟨o', h1⟩)
    obtain ⟨its, r, ⟨o, ho, hc, m, hd⟩, _⟩ := I.tuple h1
    exact .tup ho hc hd (by simpa using nested_all I xs vs its ns h2 r e1)
  | .bl _, _, _, _, _, _, e => by simp [keyV] at e
  | .lst _, _, _, _, _, _, e => by simp [keyV] at e
  | .dic _ _, _, _, _, _, _, e => by simp [keyV] at e
  | .dik _ _, _, _, _, _, _, e => by simp [keyV] at e
  | .fn _, _, _, _, _, _, e => by simp [keyV] at e
  | .scr _, _, _, _, _, _, e => by simp [keyV] at e
theorem nested_all (I : Inv X pins σ H s) : ∀ (ds : List D) (vs : List V) (us : List Value) (ns : List NK), Reps X.K X.w H ds vs → Vals vs us → keyV.keyVs ds = some ns → NestedAll s.heap ns us
  | [], vs, us, ns, h, r, e => by
    rw [keyVs_nil e]
    cases (show vs = [] from h)
    cases r
    exact .nil
  | d :: ds, vs, us, ns, h, r, e => by
    obtain ⟨n, m, e1, e2, e3⟩ := keyVs_cons e
    subst e3
    obtain ⟨v, vs', e4, h1, h2⟩ := h
    subst e4
    cases r with
    | cons r1 r2 => exact .cons (nested_of I d v _ n h1 r1 e1) (nested_all I ds vs' _ m h2 r2 e2)
end
theorem keyT_some {d : D} {n : NK} (e : keyT d = some n) : keyV d = some n ∧ n.depth ≤ 8 ∧ ∃ xs, d = .tup xs := by
  unfold keyT at e
  split at e
  · rename_i xs
    split at e
    · rename_i k ek
      split at e
      · rename_i hd
        cases e
        exact ⟨ek, hd, xs, rfl⟩
      · cases e
    · cases e
  · cases e
/-- a key's stead -/
theorem key_is (I : Inv X pins σ H s) {d : D} {v : V} {u : Value} {n : NK} (h : RepB X.K X.w H d v) (r : RelV v u) (e : keyT d = some n) : ∃ q, v = .ref q ∧ u = .ref q ∧ Rep X.K X.w H d (.ref q) ∧ (nestedKind X.prog X.w).is s.heap n q := by
  obtain ⟨e1, hd, xs, rfl⟩ := keyT_some e
  obtain ⟨a, vs, e3, h1, h2⟩ := h
  subst e3
  cases r
  have rr : Rep X.K X.w H (.tup xs) (.ref a) := ⟨a, vs, rfl, h1, h2⟩
  exact ⟨a, rfl, rfl, rr, nested_of I _ _ _ n rr rfl e1, hd⟩
/-- a dict's stead -/
theorem dh_heap (I : Inv X pins σ H s) {a : Addr} {kvs : KE3} {ks ds : List D} (h : Rd H a (dH X.w a kvs)) (r : DicR X.K X.w H ks ds kvs) :
    ∃ xs : KX3, s.heap.DictOfH (nestedKind X.prog X.w) a xs ∧ PrE kvs xs ∧ (a == sysModules) = false ∧ kvs.length ≤ sizeLine ∧ (kvs.map (·.1)).Nodup ∧ ∀ x ∈ kvs, x.1.depth ≤ 8 := by
  obtain ⟨⟨⟨o, es, ep, xs, h1, h2, h3, h4, h5⟩, nd, dp, sz, sm⟩, _⟩ := (show ObjOk X.prog X.w H s.heap a (dH X.w a kvs) from h.ok I.hok)
  refine ⟨xs, ⟨o, es, ep, h1, h2, h3, h4, ?_, by rw [← PrE.keys h5]; exact nd⟩, h5, sm, sz, nd, dp⟩
  -- the keys
  have all : ∀ {kvs : KE3} {xs : KX3} {ks ds : List D}, PrE kvs xs → DicR X.K X.w H ks ds kvs → (∀ x ∈ kvs, x.1.depth ≤ 8) → ∀ x ∈ xs, (nestedKind X.prog X.w).is s.heap x.1 x.2.1 := by
    intro kvs xs ks ds p
    induction p generalizing ks ds with
    | nil => intro _ _ x hx; exact nomatch hx
    | @cons p q ps qs hq t ih =>
      intro r dp x hx
      rcases r.shape with ⟨_, _, e⟩ | ⟨k, ks', d, ds', x', kvs', rfl, rfl, e⟩
      · cases e
      · cases e
        obtain ⟨g1, g2, g3, g4⟩ := r.cons
        rcases List.mem_cons.mp hx with e | hx
        · subst e
          rw [← hq.1, ← hq.2.1]
          exact ⟨nested_of I _ _ _ _ g2 rfl g1, dp p List.mem_cons_self⟩
        · exact ih g4 (fun y hy => dp y (List.mem_cons_of_mem _ hy)) x hx
  exact all h5 r dp
theorem room8 {A : Around} (hu : A.units + 64 < cLine) : (nestedKind X.prog X.w).room A.in1 := by
  show A.in1.units + 8 < cLine
  rw [Around.in1_units]; omega
theorem relO_some {v : V} {o : Option V} {u : Option Value} (r : RelO o u) (e : o = some v) : ∃ x, u = some x ∧ RelV v x := by
  subst e
  cases u with
  | none => exact (r : False).elim
  | some x => exact ⟨x, rfl, r⟩
theorem relO_none {o : Option V} {u : Option Value} (r : RelO o u) (e : o = none) : u = none := by
  subst e
  cases u with
  | none => rfl
  | some x => exact (r : False).elim
end
end DL

set_option Elab.async false
set_option linter.all false
set_option maxRecDepth 100000
set_option maxHeartbeats 2000000
namespace DL
open PySem PySem.Spec PyProof.Rows L2

/-! ### d[k], k in d, d.get(k, x), d[k] = v -/
theorem RepB.dic {K : PySem.W.Frag} {w : World} {H : Hp} {ks ds : List D} {v : V} (h : RepB K w H (.dic ks ds) v) : ∃ a kvs, v = .ref a ∧ Rd H a (dH w a kvs) ∧ DicR K w H ks ds kvs := by
  obtain ⟨a, e, kvs, h1, h2, h3, h4⟩ := h
  exact ⟨a, kvs, e, h1, h2, h3, h4⟩
/-- int keys -/
structure DikR (K : PySem.W.Frag) (w : World) (H : Hp) (ks : List Key) (ds : List D) (kvs : List (Key × V)) : Prop where
  keys : ks = kvs.map (·.1)
  vs : Reps K w H ds (kvs.map (·.2))
theorem RepB.dik {K : PySem.W.Frag} {w : World} {H : Hp} {ks : List Key} {ds : List D} {v : V} (h : RepB K w H (.dik ks ds) v) : ∃ a kvs, v = .ref a ∧ Rd H a (.dK kvs) ∧ DikR K w H ks ds kvs := by
  obtain ⟨a, e, kvs, h1, h2, h3⟩ := h
  exact ⟨a, kvs, e, h1, h2, h3⟩
theorem valV_cons {x : Key × V} {r : List (Key × V)} {n : Key} : valV (x :: r) n = if x.1 = n then some x.2 else valV r n := by
  by_cases h : x.1 = n
  · rw [if_pos h]; exact valV_pos h
  · rw [if_neg h]; exact valV_neg h
section
variable {K : PySem.W.Frag} {w : World} {H : Hp}
theorem DikR.find (n : Key) : ∀ {kvs : List (Key × V)} {ks : List Key} {ds : List D}, DikR K w H ks ds kvs → match ifind ks ds n with
    | some d => ∃ v, valV kvs n = some v ∧ Rep K w H d v
    | none => valV kvs n = none
  | [], ks, ds, h => by
    have := h.keys
    subst this
    rfl
  | x :: kvs, ks, ds, ⟨h1, h2⟩ => by
    subst h1
    cases ds with
    | nil => cases (show _ :: _ = [] from h2)
    | cons d ds =>
      obtain ⟨v, us, e, r1, r2⟩ := h2
      cases e
      have ih := DikR.find n (kvs := kvs) (ks := kvs.map (·.1)) (ds := ds) ⟨rfl, r2⟩
      show match (if x.1 = n then some d else ifind (kvs.map (·.1)) ds n) with
        | some d => ∃ v, valV (x :: kvs) n = some v ∧ Rep K w H d v
        | none => valV (x :: kvs) n = none
      rw [valV_cons]
      by_cases hx : x.1 = n
      · rw [if_pos hx, if_pos hx]; exact ⟨_, rfl, r1⟩
      · rw [if_neg hx, if_neg hx]; exact ih
theorem DikR.isSome {n : Key} {kvs : List (Key × V)} {ks : List Key} {ds : List D} (h : DikR K w H ks ds kvs) : (ifind ks ds n).isSome = (valV kvs n).isSome := by
  have := h.find n
  cases e : ifind ks ds n with
  | none => rw [e] at this; rw [show valV kvs n = none from this]; rfl
  | some d => rw [e] at this; obtain ⟨v, h1, _⟩ := this; rw [h1]; rfl
theorem DikR.set {n : Key} {d : D} {v : V} (r : Rep K w H d v) : ∀ {kvs : List (Key × V)} {ks : List Key} {ds : List D}, DikR K w H ks ds kvs → DikR K w H ks (iset ks ds n d) (kvs.map fun kv => if kv.1 = n then (kv.1, v) else kv)
  | [], ks, ds, h => by
    have := h.keys
    subst this
    exact ⟨rfl, rfl⟩
  | x :: kvs, ks, ds, ⟨h1, h2⟩ => by
    subst h1
    cases ds with
    | nil => cases (show _ :: _ = [] from h2)
    | cons d' ds =>
      obtain ⟨v', us, e, r1, r2⟩ := h2
      cases e
      obtain ⟨i1, i2⟩ := DikR.set (n := n) r (kvs := kvs) (ks := kvs.map (·.1)) (ds := ds) ⟨rfl, r2⟩
      refine ⟨?_, ?_⟩
      · rw [List.map_cons, List.map_cons, List.map_cons, ← i1]
        congr 1
        split <;> rfl
      · rw [List.map_cons, List.map_cons]
        refine ⟨_, _, rfl, ?_, i2⟩
        by_cases hx : x.1 = n
        · rw [if_pos hx, if_pos hx]; exact r
        · rw [if_neg hx, if_neg hx]; exact r1
theorem DikR.put {n : Key} {d : D} {v : V} (r : Rep K w H d v) {kvs : List (Key × V)} {ks : List Key} {ds : List D} (h : DikR K w H ks ds kvs) :
    ∃ ks' ds', (if (ifind ks ds n).isSome then D.dik ks (iset ks ds n d) else .dik (ks ++ [n]) (ds ++ [d])) = .dik ks' ds' ∧ DikR K w H ks' ds' (putK kvs n v) := by
  rw [h.isSome]
  unfold putK
  rw [valV_any]
  split
  · exact ⟨_, _, rfl, h.set r⟩
  · refine ⟨_, _, rfl, ?_, ?_⟩
    · rw [List.map_append, h.keys]; rfl
    · rw [List.map_append]; exact h.vs.snoc r
theorem DikR.mono {H' : Hp} {kvs : List (Key × V)} {ks : List Key} {ds : List D} (l : Le H H') (h : DikR K w H ks ds kvs) : DikR K w H' ks ds kvs := ⟨h.keys, Reps.mono l _ _ h.vs⟩
theorem keyI_some {d : D} {n : Key} (e : keyI d = some n) {v : V} (h : RepB K w H d v) : v = kV n := by
  unfold keyI at e
  split at e <;> cases e
  · exact h
  · exact h
end
section
variable {X : Cx} {pins : List (Addr × Obj)} {σ : L2.St} {H : Hp} {s : Shared}
theorem d_type (I : Inv X pins σ H s) {dx : D} {v : V} {u : Value} (b : RepB X.K X.w H dx v) (r : RelV v u) (hd : (∃ ks ds, dx = .dic ks ds) ∨ ∃ ks ds, dx = .dik ks ds) :
    ∃ a, v = .ref a ∧ u = .ref a ∧ s.TypeIs (.ref a) "dict" ∧ (∀ b, Value.ref a = .ref b → ∃ ob, s.heap.get? b = some ob ∧ ob.dict = none) ∧ (a == sysModules) = false := by
  rcases hd with ⟨ks, ds, rfl⟩ | ⟨ks, ds, rfl⟩
  · obtain ⟨a, kvs, e, h1, h2⟩ := b.dic
    subst e
    cases r
    obtain ⟨xs, ⟨o, es, ep, q1, q2, _⟩, _, sm, _⟩ := dh_heap I h1 h2
    refine ⟨a, rfl, rfl, ⟨o, q1, q2.1⟩, fun b z => ?_, sm⟩
    cases z
    exact ⟨o, q1, q2.2.1⟩
  · obtain ⟨a, kvs, e, h1, h2⟩ := b.dik
    subst e
    cases r
    obtain ⟨z, hd, vs, rel, dd⟩ := dk_rd I.hok h1
    refine ⟨a, rfl, rfl, dd.typeIs, fun b q => ?_, hd⟩
    cases q
    obtain ⟨ob, _, _, h1, h2, _⟩ := dd
    exact ⟨ob, h1, h2.2.1⟩
theorem dget_dict {dx dk : D} {o : Option D} (e : dgetD dx dk = some o) : (∃ ks ds, dx = .dic ks ds) ∨ ∃ ks ds, dx = .dik ks ds := by
  unfold dgetD at e
  split at e
  · exact .inl ⟨_, _, rfl⟩
  · exact .inr ⟨_, _, rfl⟩
  · cases e
/-- d[k], there -/
theorem dd_get {A : Around} {E : Value → Shared → Prop} {Q : Value → Shared → Prop} (hu : A.units + 64 < cLine) (I : Inv X pins σ H s) {dx dk d : D} {x y : V} {v u : Value} (bx : RepB X.K X.w H dx x) (by' : RepB X.K X.w H dk y) (rx : RelV x v) (ry : RelV y u)
    (e : dgetD dx dk = some (some d)) (h : ∀ z w' s', Inv X pins σ H s' → RelV z w' → Rep X.K X.w H d z → Q w' s') : wpAny (model X.prog X.w) A (getItem v u) Q E s := by
  unfold dgetD at e
  split at e
  · split at e
    · rename_i ks ds n en
      have e := Option.some.inj e
      obtain ⟨a, kvs, ea, h1, h2⟩ := bx.dic
      subst ea
      cases rx
      obtain ⟨q, e3, e4, rk, hk⟩ := key_is I by' ry en
      subst e4
      obtain ⟨xs, hm, pe, sm, _⟩ := dh_heap I h1 h2
      have f := h2.find n
      rw [e] at f
      obtain ⟨z, f1, f2⟩ := f
      obtain ⟨w', g1, g2⟩ := relO_some (PrE.find (n := n) pe) f1
      obtain ⟨p, hp, hp2⟩ := Option.map_eq_some_iff.mp g1
      refine wpAny_getItem_heap (room8 hu) hk hm hp ?_
      rw [hp2]
      exact h z w' _ (I.tok _) g2 f2
    · cases e
  · split at e
    · rename_i ks ds n en
      have e := Option.some.inj e
      obtain ⟨a, kvs, ea, h1, h2⟩ := bx.dik
      subst ea
      cases rx
      have ey := keyI_some en by'
      subst ey
      have f := h2.find n
      rw [e] at f
      obtain ⟨z, f1, f2⟩ := f
      obtain ⟨z0, hd, vs, rel, dd⟩ := dk_rd I.hok h1
      obtain ⟨w', hw, rw'⟩ := RelO.some_of (v := z) (o := valueAt vs n) (by rw [← f1]; exact rel.val n)
      exact wpAny_getItem_of (kV_is ry) dd.mapOf hw (h z w' _ (I.tok _) rw' f2)
    · cases e
  · cases e
/-- k in d -/
theorem dd_in {A : Around} {E : Value → Shared → Prop} {Q : Value → Shared → Prop} (hu : A.units + 64 < cLine) (I : Inv X pins σ H s) {dx dk : D} {o : Option D} {x y : V} {v u : Value} (bx : RepB X.K X.w H dx x) (by' : RepB X.K X.w H dk y) (rx : RelV x v) (ry : RelV y u)
    (e : dgetD dx dk = some o) (h : ∀ s', Inv X pins σ H s' → Q (.bool o.isSome) s') : wpAny (model X.prog X.w) A (compareOp .In u v) Q E s := by
  unfold dgetD at e
  split at e
  · split at e
    · rename_i ks ds n en
      have e := Option.some.inj e
      obtain ⟨a, kvs, ea, h1, h2⟩ := bx.dic
      subst ea
      cases rx
      obtain ⟨q, e3, e4, rk, hk⟩ := key_is I by' ry en
      subst e4
      obtain ⟨xs, hm, pe, sm, _⟩ := dh_heap I h1 h2
      have q := (PrE.find (n := n) pe).isSome_eq
      rw [Option.isSome_map] at q
      refine wpAny_in_heap (room8 hu) hk sm hm ?_
      rw [← q, ← h2.isSome, e]
      exact h _ (I.tok _)
    · cases e
  · split at e
    · rename_i ks ds n en
      have e := Option.some.inj e
      obtain ⟨a, kvs, ea, h1, h2⟩ := bx.dik
      subst ea
      cases rx
      have ey := keyI_some en by'
      subst ey
      obtain ⟨z0, hd, vs, rel, dd⟩ := dk_rd I.hok h1
      refine wpAny_in_of (kV_is ry) hd dd.mapOf ?_
      rw [← (rel.val n).isSome_eq, ← h2.isSome, e]
      exact h _ (I.tok _)
    · cases e
  · cases e
theorem dd_notIn {A : Around} {E : Value → Shared → Prop} {Q : Value → Shared → Prop} (hu : A.units + 64 < cLine) (I : Inv X pins σ H s) {dx dk : D} {o : Option D} {x y : V} {v u : Value} (bx : RepB X.K X.w H dx x) (by' : RepB X.K X.w H dk y) (rx : RelV x v) (ry : RelV y u)
    (e : dgetD dx dk = some o) (h : ∀ s', Inv X pins σ H s' → Q (.bool (!o.isSome)) s') : wpAny (model X.prog X.w) A (compareOp .NotIn u v) Q E s := by
  unfold dgetD at e
  split at e
  · split at e
    · rename_i ks ds n en
      have e := Option.some.inj e
      obtain ⟨a, kvs, ea, h1, h2⟩ := bx.dic
      subst ea
      cases rx
      obtain ⟨q, e3, e4, rk, hk⟩ := key_is I by' ry en
      subst e4
      obtain ⟨xs, hm, pe, sm, _⟩ := dh_heap I h1 h2
      have q := (PrE.find (n := n) pe).isSome_eq
      rw [Option.isSome_map] at q
      refine wpAny_notIn_heap (room8 hu) hk sm hm ?_
      rw [← q, ← h2.isSome, e]
      exact h _ (I.tok _)
    · cases e
  · split at e
    · rename_i ks ds n en
      have e := Option.some.inj e
      obtain ⟨a, kvs, ea, h1, h2⟩ := bx.dik
      subst ea
      cases rx
      have ey := keyI_some en by'
      subst ey
      obtain ⟨z0, hd, vs, rel, dd⟩ := dk_rd I.hok h1
      refine wpAny_notIn_of (kV_is ry) hd dd.mapOf ?_
      rw [← (rel.val n).isSome_eq, ← h2.isSome, e]
      exact h _ (I.tok _)
    · cases e
  · cases e
/-- d.get(k, x) -/
theorem dd_get2 {A : Around} {E : Value → Shared → Prop} {Q : Value → Shared → Prop} (hu : A.units + 64 < cLine) (I : Inv X pins σ H s) {dx dk dd0 : D} {o : Option D} {x y z : V} {v u r : Value} (bx : RepB X.K X.w H dx x) (by' : RepB X.K X.w H dk y) (rx : RelV x v) (ry : RelV y u)
    (rz : RelV z r) (bz : Rep X.K X.w H dd0 z) (e : dgetD dx dk = some o) (h : ∀ z' w' s', Inv X pins σ H s' → RelV z' w' → Rep X.K X.w H (o.getD dd0) z' → Q w' s') : wpAny (model X.prog X.w) A (call (.builtin "dict.get") [v, u, r]) Q E s := by
  unfold dgetD at e
  split at e
  · split at e
    · rename_i ks ds n en
      have e := Option.some.inj e
      obtain ⟨a, kvs, ea, h1, h2⟩ := bx.dic
      subst ea
      cases rx
      obtain ⟨q, e3, e4, rk, hk⟩ := key_is I by' ry en
      subst e4
      obtain ⟨xs, hm, pe, sm, _⟩ := dh_heap I h1 h2
      have f := h2.find n
      rw [e] at f
      refine call_meetsIn PySem.F.slot_dict_get hm.typeIs PySem.F.entry_dict_get (PySem.F.args_dict_get_3 _ _ _) (meetsH_dict_get_default (nestedKind X.prog X.w) a q sm r) ⟨room8 hu, n, xs, hk, hm, ?_⟩
      cases o with
      | some d =>
        obtain ⟨z', f1, f2⟩ := f
        obtain ⟨w', g1, g2⟩ := relO_some (PrE.find (n := n) pe) f1
        rw [g1]
        exact h z' w' _ (I.tok _) g2 f2
      | none =>
        have g1 := relO_none (PrE.find (n := n) pe) f
        rw [g1]
        exact h z r _ (I.tok _) rz bz
    · cases e
  · split at e
    · rename_i ks ds n en
      have e := Option.some.inj e
      obtain ⟨a, kvs, ea, h1, h2⟩ := bx.dik
      subst ea
      cases rx
      have ey := keyI_some en by'
      subst ey
      have f := h2.find n
      rw [e] at f
      obtain ⟨z0, hd, vs, rel, dd⟩ := dk_rd I.hok h1
      refine call_meetsIn PySem.F.slot_dict_get dd.typeIs PySem.F.entry_dict_get (PySem.F.args_dict_get_3 _ _ _) (meets_dict_get_default (mixKind X.prog X.w) a (kV_is ry) hd r) ⟨_, dd.mapOf, ?_⟩
      cases o with
      | some d =>
        obtain ⟨z', f1, f2⟩ := f
        obtain ⟨w', g1, g2⟩ := RelO.some_of (v := z') (o := valueAt vs n) (by rw [← f1]; exact rel.val n)
        rw [g1]
        exact h z' w' _ (I.tok _) g2 f2
      | none =>
        have g1 := RelO.none_of (o := valueAt vs n) (by rw [← show valV kvs n = none from f]; exact rel.val n)
        rw [g1]
        exact h z r _ (I.tok _) rz bz
    · cases e
  · cases e
/-- d[k] = v -/
theorem dd_put {A : Around} {E : Value → Shared → Prop} {Q : Unit → Shared → Prop} (hu : A.units + 64 < cLine) (I : Inv X pins σ H s) {dx dk d c : D} {a : Addr} {y z : V} {u r : Value} (m : RepM X.K X.w H a dx) (by' : RepB X.K X.w H dk y) (ry : RelV y u)
    (rz : RelV z r) (bz : Rep X.K X.w H d z) (e : dputD dx dk d = some c) (h : ∀ o s', RepM X.K X.w (upd H a o) a c → Inv X pins σ (upd H a o) s' → Q () s') : wpAny (model X.prog X.w) A (setItem (.ref a) u r) Q E s := by
  unfold dputD at e
  split at e
  · split at e
    · split at e
      · rename_i ks ds _ n en hlen
        have e := Option.some.inj e
        obtain ⟨kvs, h1, h2, h3, h4⟩ := m
        have hr : DicR X.K X.w H ks ds kvs := ⟨h2, h3, h4⟩
        obtain ⟨q, e3, e4, rk, hk⟩ := key_is I by' ry en
        subst e4
        obtain ⟨xs, hm, pe, sm, sz, nd, dp⟩ := dh_heap I (.inl h1) hr
        obtain ⟨ev, hdp, _⟩ := keyT_some en
        have hz : xs.length ≤ sizeLine := by rw [← Paired.length pe]; exact sz
        have hkl : ks.length = kvs.length := by have := h3.length; rwa [List.length_map] at this
        refine wpAny_setItem_heap (hsz := hz) (room8 hu) hk hm fun h' dd' hs => ?_
        obtain ⟨ob, es, ep, hq, g2, g3, g4, _, g5⟩ := dd'
        have le : Le H (upd H a (dH X.w a (kput kvs n q z))) := Le.wr h1 trivial
        obtain ⟨ks', ds', ec, hr'⟩ := DicR.put (K := X.K) (w := X.w) (n := n) rk ev bz hr
        rw [ec] at e
        subst e
        have pe' : PrE (kput kvs n q z) (storedH xs n q r) := PrE.put rz pe
        have ok : DhOk X.w a (kput kvs n q z) h' := by
          refine ⟨⟨ob, es, ep, _, hq, g2, g3, g4, pe'⟩, ?_, fun x hx => ?_, ?_, sm⟩
          · rw [PrE.keys pe']; exact g5
          · have hx' : x.1 ∈ (kput kvs n q z).map (·.1) := List.mem_map.mpr ⟨x, hx, rfl⟩
            rw [kput_keys] at hx'
            split at hx'
            · obtain ⟨x2, m1, m2⟩ := List.mem_map.mp hx'; rw [← m2]; exact dp x2 m1
            · rcases List.mem_append.mp hx' with hx' | hx'
              · obtain ⟨x2, m1, m2⟩ := List.mem_map.mp hx'; rw [← m2]; exact dp x2 m1
              · rw [List.mem_singleton.mp hx']; exact hdp
          · have := kput_len (kvs := kvs) (n := n) (q := q) (v := z)
            have l2 : (1000000 : Nat) < sizeLine := by rw [sizeLine_eq]; decide
            omega
        refine h (dH X.w a (kput kvs n q z)) _ ⟨_, upd_same, hr'.keys, Reps.mono le _ _ hr'.ks, Reps.mono le _ _ hr'.vs⟩ ?_
        refine d_write I (by rw [h1]; exact True.intro) hs ⟨ob, hq⟩ ⟨ok, ⟨ob, hq⟩, fun g1' g2' k1 k2 => ?_⟩
        obtain ⟨⟨o, es, ep, xs, q1, q2⟩, a1, a2, a3, a4⟩ := k1
        exact ⟨⟨o, es, ep, xs, k2 o q1, q2⟩, a1, a2, a3, a4⟩
      · cases e
    · cases e
  · split at e
    · split at e
      · rename_i ks ds _ n en hlen
        have e := Option.some.inj e
        obtain ⟨kvs, h1, h2, h3⟩ := m
        have hr : DikR X.K X.w H ks ds kvs := ⟨h2, h3⟩
        have ey := keyI_some en by'
        subst ey
        have hkl : ks.length = kvs.length := by rw [h2, List.length_map]
        obtain ⟨ks', ds', ec, hr'⟩ := DikR.put (n := n) bz hr
        rw [ec] at e
        subst e
        have le : Le H (upd H a (.dK (putK kvs n z))) := Le.wr h1 trivial
        have l2 : (1000000 : Nat) < sizeLine := by rw [sizeLine_eq]; decide
        refine d_setItem (by omega) I (DPut.k h1 (by omega)) ry rz fun s' I' => h _ s' ⟨_, upd_same, hr'.keys, Reps.mono le _ _ hr'.vs⟩ I'
      · cases e
    · cases e
  · cases e
end
end DL

set_option Elab.async false
set_option linter.all false
set_option maxRecDepth 100000
set_option maxHeartbeats 2000000
namespace DL
open PySem PySem.Spec PyProof.Rows L2

/-! ### subscripts, in: dicts too -/
def ixA (x y : D) : Option RV := match ixD x y with
  | some r => some r
  | none => match dgetD x y with
    | some (some d) => some (.val d)
    | _ => none
def inA (x y : D) : Option Bool := match inD x y with
  | some r => some r
  | none => match dgetD y x with
    | some o => some o.isSome
    | _ => none
def notInA (x y : D) : Option Bool := (inA x y).map (!·)
section
variable {X : Cx}
theorem ix_A (hu : X.A.units + 64 < cLine) : IxR X (rD X.K X.w ixA) := by
  intro value slice pins s σ H x y v u Q I rx ry ⟨dx, dy, r, bx, by', e, k⟩ hs
  unfold ixA at e
  split at e
  · rename_i r' e1
    cases e
    exact ix_D value slice pins s σ H x y v u Q I rx ry ⟨dx, dy, _, bx, by', e1, k⟩ hs
  · split at e
    · rename_i d e2
      cases e
      obtain ⟨a, e3, e4, ty, _⟩ := d_type I bx rx (dget_dict e2)
      subst e4
      refine tail_any ty PySem.F.slot_dict_getitem.lookup ?_ hs
      exact dd_get hu I bx by' rx ry e2 fun z w' s' I' rz rr => ⟨z, H, I', rz, k z H kp rr⟩
    · cases e
theorem de_ixA {a b : Expr} {fa fb : FE} {pos : Pos} (hu : X.A.units + 64 < cLine) (ha : DE X a fa) (hb : DE X b fb) (hs : PlainIx b) : DE X (.Subscript a b pos) (fOp ixA fa fb) := PE.imp (pe_ix (ix_A hu) ha hb hs) op_ok
theorem op_inA (hu : X.A.units + 65 < cLine) : OpR X (compareOp .In) (rD X.K X.w (cmpB inA)) := by
  intro pins s σ H x y v u Q I rx ry ⟨dx, dy, r, bx, by', e0, k⟩
  obtain ⟨b, e, rfl⟩ := cmp_some e0
  unfold inA at e
  split at e
  · rename_i r' e1
    cases e
    exact op_inDD hu pins s σ H x y v u Q I rx ry ⟨dx, dy, _, bx, by', (by show (inD dx dy).map _ = _; rw [e1]; rfl), k⟩
  · split at e
    · rename_i o e2
      cases e
      exact dd_in (by omega) I by' bx ry rx e2 fun s' I' => ⟨.bl _, H, I', rfl, k _ H kp rfl⟩
    · cases e
theorem op_notInA (hu : X.A.units + 65 < cLine) : OpR X (compareOp .NotIn) (rD X.K X.w (cmpB notInA)) := by
  intro pins s σ H x y v u Q I rx ry ⟨dx, dy, r, bx, by', e0, k⟩
  obtain ⟨b, en, rfl⟩ := cmp_some e0
  obtain ⟨b', e, e'⟩ := Option.map_eq_some_iff.mp en
  subst e'
  unfold inA at e
  split at e
  · rename_i r' e1
    cases e
    exact op_notInDD hu pins s σ H x y v u Q I rx ry ⟨dx, dy, _, bx, by', (by show (notInD dx dy).map _ = _; unfold notInD; rw [e1]; rfl), k⟩
  · split at e
    · rename_i o e2
      cases e
      exact dd_notIn (by omega) I by' bx ry rx e2 fun s' I' => ⟨.bl _, H, I', rfl, k _ H kp rfl⟩
    · cases e
end
/-! ### new dicts -/
def fNewT : FE := fun ρ => some (.fresh (.dic [] []), ρ)
def fNewI : FE := fun ρ => some (.fresh (.dik [] []), ρ)
theorem dh_empty {P : Program} {w : World} {H : Hp} (h : Heap) (hb : sysModules < h.objs.size) : ObjOk P w H (h.push { cls := .type "dict", data := .dict #[] }) h.objs.size (dH w h.objs.size []) := by
  have g : (h.push { cls := .type "dict", data := .dict #[] }).get? h.objs.size = some { cls := .type "dict", data := .dict #[] } := Heap.get?_push_size _ rfl
  refine ⟨⟨⟨_, #[], 0, [], g, ⟨rfl, rfl, rfl⟩, rfl, rfl, .nil⟩, List.nodup_nil, (fun _ z => nomatch z), Nat.zero_le _, beq_eq_false_iff_ne.mpr (Ne.symm (Nat.ne_of_lt hb))⟩, ⟨_, g⟩, fun g1' g2' k1 k2 => ?_⟩
  obtain ⟨⟨o, es, ep, xs, q1, q2⟩, a1, a2, a3, a4⟩ := k1
  exact ⟨⟨o, es, ep, xs, k2 o q1, q2⟩, a1, a2, a3, a4⟩
section
variable {X : Cx} {pos : Pos}
theorem de_newT : DE X (.Dict [] [] pos) fNewT := ⟨fun pins s σ H Q I ⟨ρ, rv, ρ', E, e, k⟩ => by
  cases e
  have fr := I.fresh
  refine wpAny_Dict_empty ⟨.ref s.heap.objs.size, _, I.laid (a := s.heap.objs.size) (o := dH X.w s.heap.objs.size []) (t' := s.toks) (fun _ _ q => Heap.get?_push_of_some _ q) (Nat.le_refl _) (dh_empty s.heap I.big), rfl, ?_⟩
  exact k _ _ (Post.grow E (keep_new fr)) ⟨_, rfl, fr, [], upd_same, rfl, rfl, rfl⟩⟩
theorem de_newI : DE X (.Dict [] [] pos) fNewI := PE.imp pe_dnewK fun σ H Q ⟨ρ, rv, ρ', E, e, k⟩ p hp => by
  cases e
  exact k _ _ (Post.grow E (keep_new hp)) ⟨_, rfl, hp, [], upd_same, rfl, rfl⟩
end
/-! ### methods -/
def tyM : D → Option String
  | .lst _ => some "list"
  | .dic _ _ => some "dict"
  | .dik _ _ => some "dict"
  | _ => none
section
variable {X : Cx} {pins : List (Addr × Obj)} {σ : L2.St} {H : Hp} {s : Shared}
theorem tyM_is (I : Inv X pins σ H s) {d : D} {x : V} {v : Value} {T : String} (b : RepB X.K X.w H d x) (r : RelV x v) (e : tyM d = some T) : s.TypeIs v T ∧ ∀ a, v = .ref a → ∃ ob, s.heap.get? a = some ob ∧ ob.dict = none := by
  unfold tyM at e
  split at e <;> cases e
  · obtain ⟨a, vs, e1, h1, h2⟩ := b
    subst e1
    cases r
    obtain ⟨z, its, n, _, _, h⟩ := rd_lst I h1
    refine ⟨⟨_, h, rfl⟩, fun a' e => ?_⟩
    cases e
    exact ⟨_, h, rfl⟩
  · obtain ⟨a, e1, e2, ty, nd, _⟩ := d_type I b r (.inl ⟨_, _, rfl⟩)
    subst e2
    exact ⟨ty, nd⟩
  · obtain ⟨a, e1, e2, ty, nd, _⟩ := d_type I b r (.inr ⟨_, _, rfl⟩)
    subst e2
    exact ⟨ty, nd⟩
end
def tBMD (K : PySem.W.Frag) (w : World) (T : String) (r : V → List V → Hp → VK → Prop) (to : TE) (t : TA) : TE := fun σ H Q => to σ H fun x H1 => (∃ d, RepB K w H1 d x ∧ tyM d = some T) ∧ t σ H1 fun xs H2 => r x xs H2 Q
def tBMD0 (K : PySem.W.Frag) (w : World) (T : String) (r : V → List V → Hp → VK → Prop) (to : TE) : TE := fun σ H Q => to σ H fun x H1 => (∃ d, RepB K w H1 d x ∧ tyM d = some T) ∧ r x [] H1 Q
section
variable {X : Cx} {o e : Expr} {es : List Expr} {to : TE} {t : TA} {name : Str} {apos cpos : Pos} {T id : String} {r : V → List V → Hp → VK → Prop}
theorem pe_bmD0 (pa : PlainAttrs T) (slot : Slot T name id) (hty : typeOf (.builtin id) = pure (.type "method_descriptor")) (hm : MtR X id r) (ho : PE X o to)
    (hbase : attributeBase o name X.env (eval o X.env) = eval o X.env := by rfl) (hline : (apos.endLine == cpos.line) = true := by rfl) : PE X (.Call (.Attribute o name apos) [] [] cpos) (tBMD0 X.K X.w T r to) := by
  refine ⟨fun pins s σ H Q I h => ?_⟩
  refine wpAny_Call_method0_late hbase hline (thn (ho.run pins s σ H _ I h) fun v s1 ⟨x, H1, I1, r1, ⟨d, b, ty⟩, q1⟩ => ?_)
  obtain ⟨h1, h2⟩ := tyM_is I1 b r1 ty
  exact ⟨T, id, pa, slot, hty, h1, h2, Calls.callWith_builtin rfl (PySem.evalArgs_none (hm pins s1 σ H1 x [] v [] Q I1 r1 .nil q1))⟩
theorem pe_bmD (pa : PlainAttrs T) (slot : Slot T name id) (hty : typeOf (.builtin id) = pure (.type "method_descriptor")) (hm : MtR X id r) (ho : PE X o to) (ha : PA X (e :: es) t)
    (hbase : attributeBase o name X.env (eval o X.env) = eval o X.env := by rfl)
    (hfew : ((backTo cpos (starEach (e :: es) X.env)).all (fun x => !x.1) && (backToKw cpos (keywordEach [] X.env)).all (fun x => x.1.isSome)
      && decide ((e :: es).length + ([] : List Keyword).length + (if ([] : List Keyword).isEmpty then 0 else 1) < 30)) = true := by rfl)
    (hline : (apos.endLine == cpos.line) = true := by rfl) (hs : starEach (e :: es) X.env = (false, eval e X.env) :: starEach es X.env := by rfl) (hplain : (backTo cpos (starEach es X.env)).any (·.1) = false := by rfl) :
    PE X (.Call (.Attribute o name apos) (e :: es) [] cpos) (tBMD X.K X.w T r to t) := by
  refine ⟨fun pins s σ H Q I h => ?_⟩
  refine wpAny_Call_method_late hbase hfew hline rfl (thn (ho.run pins s σ H _ I h) fun v s1 ⟨x, H1, I1, r1, ⟨d, b, ty⟩, q1⟩ => ?_)
  obtain ⟨h1, h2⟩ := tyM_is I1 b r1 ty
  refine ⟨T, id, pa, slot, hty, h1, h2, ?_⟩
  have hA := ha.run cpos pins s1 σ H1 _ I1 q1
  rw [hs] at hA ⊢
  refine Calls.callWith_builtin (by show (false || (backTo cpos (starEach es X.env)).any (·.1)) = false; rw [hplain] <;> rfl) (Calls.evalArgs_plain ?_)
  exact thn hA fun us s2 ⟨vs, H2, I2, r2, q2⟩ => hm pins s2 σ H2 x vs v us Q I2 r1 r2 q2
end
/-- a method that changes nothing -/
def mD (K : PySem.W.Frag) (w : World) (g : D → List D → Option RV) : V → List V → Hp → VK → Prop := fun x xs H Q => ∃ d ds r, RepB K w H d x ∧ RepBs K w H ds xs ∧ g d ds = some r ∧ ∀ v H', (∀ a o, H a = some o → H' a = some o) → RepR K w [] H H' r v → Q v H'
def fMeth (T : String) (g : D → List D → Option RV) (fo : FE) (fa : FA) : FE := fun ρ => match fo ρ with
  | some (ro, ρ1) => match ro.get ρ1 with
    | some d1 => if tyM d1 = some T then match fa ρ1 with
      | some (rs, ρ2) => match ro.get ρ2, getAll ρ2 rs with
        | some d, some ds => (g d ds).map fun r => (r, ρ2)
        | _, _ => none
      | none => none
      else none
    | none => none
  | none => none
def dget2D : D → List D → Option RV
  | d, [k, x] => match dgetD d k with
    | some o => some (.val (o.getD x))
    | none => none
  | _, _ => none
section
variable {X : Cx} {o e : Expr} {es : List Expr} {fo : FE} {fa : FA} {name : Str} {apos cpos : Pos} {T id : String} {g : D → List D → Option RV}
theorem de_meth (pa : PlainAttrs T) (slot : Slot T name id) (hty : typeOf (.builtin id) = pure (.type "method_descriptor")) (hm : MtR X id (mD X.K X.w g)) (ho : DE X o fo) (ha : DA X (e :: es) fa)
    (hbase : attributeBase o name X.env (eval o X.env) = eval o X.env := by rfl)
    (hfew : ((backTo cpos (starEach (e :: es) X.env)).all (fun x => !x.1) && (backToKw cpos (keywordEach [] X.env)).all (fun x => x.1.isSome)
      && decide ((e :: es).length + ([] : List Keyword).length + (if ([] : List Keyword).isEmpty then 0 else 1) < 30)) = true := by rfl)
    (hline : (apos.endLine == cpos.line) = true := by rfl) (hs : starEach (e :: es) X.env = (false, eval e X.env) :: starEach es X.env := by rfl) (hplain : (backTo cpos (starEach es X.env)).any (·.1) = false := by rfl) :
    DE X (.Call (.Attribute o name apos) (e :: es) [] cpos) (fMeth T g fo fa) :=
  PE.imp (pe_bmD pa slot hty hm ho ha hbase hfew hline hs hplain) fun σ H Q ⟨ρ, rv, ρ', E, e, k⟩ => by
    unfold fMeth at e
    split at e
    · rename_i ro ρ1 e1
      split at e
      · rename_i d1 e2
        split at e
        · rename_i ty
          split at e
          · rename_i rs ρ2 e3
            split at e
            · rename_i d ds e4 e5
              obtain ⟨r, e6, e7⟩ := Option.map_eq_some_iff.mp e
              cases e7
              refine ⟨ρ, ro, ρ1, E, e1, fun v H1 p1 r1 => ⟨⟨d1, r1.b p1.env e2, ty⟩, ρ1, rs, _, p1.env, e3, fun vs H2 p2 r2 => ⟨d, ds, _, (r1.keep E p1 p2).b p2.env e4, r2.b p2.env e5, e6, fun v3 H3 g3 r3 => ?_⟩⟩⟩
              exact k v3 H3 ((p1.trans p2).trans (Post.grow p2.env g3)) (r3.sig.elder fun a h => p1.dom a (p2.dom a h))
            · cases e
          · cases e
        · cases e
      · cases e
    · cases e
end
/-- d.get(k, x): x data -/
theorem RepBs.val2 {K : PySem.W.Frag} {w : World} {H : Hp} {k x : D} {vs : List V} (h : RepBs K w H [k, x] vs) : ∃ v u, vs = [v, u] ∧ RepB K w H k v ∧ RepB K w H x u := h.two
def isVal : D → Bool
  | .lst _ => false
  | .dic _ _ => false
  | .dik _ _ => false
  | _ => true
theorem RepB.val {K : PySem.W.Frag} {w : World} {H : Hp} {d : D} {v : V} (h : RepB K w H d v) (e : isVal d = true) : Rep K w H d v := by
  cases d <;> first | exact h | cases e
def dgetM : D → List D → Option RV
  | d, [k, x] => if isVal x then match dgetD d k with
    | some o => some (.val (o.getD x))
    | none => none
    else none
  | _, _ => none
section
variable {X : Cx}
theorem mt_get (hu : X.A.units + 64 < cLine) : MtR X "dict.get" (mD X.K X.w dgetM) := by
  intro pins s σ H x xs v us Q I rx rxs ⟨d, ds, r, b, bs, e, k⟩
  unfold dgetM at e
  split at e
  · rename_i kk xx
    split at e
    · rename_i hv
      split at e
      · rename_i o eo
        cases e
        obtain ⟨y, z, e1, b1, b2⟩ := bs.two
        subst e1
        obtain ⟨u1, u2, e2, r1, r2⟩ := vals2 rxs
        subst e2
        exact dd_get2 hu I b b1 rx r1 r2 (b2.val hv) eo fun z' w' s' I' rz rr => ⟨z', H, I', rz, k z' H kp rr⟩
      · cases e
    · cases e
  · cases e
end
/-! ### a slot's object is changed -/
section
variable {K : PySem.W.Frag} {w : World} {H : Hp} {σ : L2.St} {ρ : DEnv}
theorem Post.mut (E : EnvR K w σ ρ H) {i : Nat} {c c' : D} {a : Addr} {o : HO} (e : ρ[i]? = some (.mu c)) (hs : σ[i]? = some (some (.ref a))) (m : RepM K w (upd H a o) a c') : Post K w σ ρ H (ρ.set i (.mu c')) (upd H a o) := by
  obtain ⟨b, h1, h2⟩ := E.mu i c e
  rw [hs] at h1; cases h1
  obtain ⟨u, h3, mu⟩ := h2.at
  have l : Le H (upd H a o) := Le.wr h3 mu
  have hi : i < ρ.length := (List.getElem?_eq_some_iff.mp e).1
  refine ⟨⟨by rw [List.length_set]; exact E.len, fun j d h => ?_, fun j d h => ?_, fun j k d d' b h h' => ?_⟩, fun b ob hb hn => ?_, fun j d h => ?_, fun b hb => ?_⟩
  · by_cases hj : j = i
    · subst hj; rw [List.getElem?_set_self hi] at h; cases h
    · obtain ⟨v, q1, q2⟩ := E.im j d (set_back h hj)
      exact ⟨v, q1, Rep.mono l _ _ q2⟩
  · by_cases hj : j = i
    · subst hj; rw [List.getElem?_set_self hi] at h; cases h; exact ⟨a, hs, m⟩
    · obtain ⟨b, q1, q2⟩ := E.mu j d (set_back h hj)
      exact ⟨b, q1, q2.mono l (upd_ne fun z => hj (E.ap j i d c a (set_back h hj) e (by rw [← z]; exact q1) hs))⟩
  · have g : ∀ {m : Nat} {x : D}, (ρ.set i (.mu c'))[m]? = some (.mu x) → ∃ y, ρ[m]? = some (.mu y) := fun {m x} hm => by
      by_cases hz : m = i
      · subst hz; exact ⟨c, e⟩
      · exact ⟨x, set_back hm hz⟩
    obtain ⟨y, hy⟩ := g h
    obtain ⟨y', hy'⟩ := g h'
    exact E.ap j k y y' b hy hy'
  · rw [upd_ne (fun z => hn (by subst z; exact ⟨i, c, e, hs⟩))]; exact hb
  · by_cases hj : j = i
    · subst hj; exact ⟨c, e⟩
    · exact ⟨d, set_back h hj⟩
  · by_cases hz : b = a
    · subst hz; rw [upd_same] at hb; cases hb
    · rw [upd_ne hz] at hb; exact hb
end
/-- o[k] = v -/
def stD : D → D → D → Option D
  | .lst xs, .int i, d => (ixN xs.length i).map fun j => .lst (xs.set j d)
  | c, k, d => dputD c k d
def rSt (K : PySem.W.Frag) (w : World) : TSet := fun o i v H Q => ∃ a c dk d c', o = .ref a ∧ RepM K w H a c ∧ RepB K w H dk i ∧ Rep K w H d v ∧ stD c dk d = some c' ∧ ∀ ob, RepM K w (upd H a ob) a c' → Q (upd H a ob)
section
variable {X : Cx}
theorem set_D (hu : X.A.units + 64 < cLine) : PSet X (rSt X.K X.w) := by
  intro pins s σ H o i v ov iv u Q I ro ri rv ⟨a, c, dk, d, c', eo, m, bk, bd, e, k⟩
  subst eo
  cases ro
  have dict : dputD c dk d = some c' → wpAny (model X.prog X.w) X.A (setItem (.ref a) iv u) (fun x s' => ∃ H', Inv X pins σ H' s' ∧ Q H') X.xe s := fun e => dd_put hu I m bk ri rv bd e fun ob s' m' I' => ⟨_, I', k ob m'⟩
  unfold stD at e
  split at e
  · rename_i xs j
    obtain ⟨n, e1, e2⟩ := Option.map_eq_some_iff.mp e
    subst e2
    obtain ⟨vs, h1, h2⟩ := m
    rw [h2.length] at e1
    have bk : i = .int j := bk
    exact set_list pins s σ H (.ref a) i v _ iv u _ I rfl ri rv ⟨a, vs, j, n, rfl, bk, h1, e1, k _ ⟨_, upd_same, Reps.mono (Le.wr h1 trivial) _ _ (h2.set bd n)⟩⟩
  · exact dict e
end
def gStore (i : Nat) (fk fv : FE) : FS := fun ρ => match fv ρ with
  | some (.val d, ρ1) => match fk ρ1 with
    | some (rk, ρ2) => match ρ1[i]?, ρ2[i]?, rk.get ρ2 with
      | some (.mu _), some (.mu c), some k => match stD c k d with
        | some c' => some (.nx (ρ2.set i (.mu c')))
        | none => none
      | _, _, _ => none
    | none => none
  | _ => none
section
variable {X : Cx} {P : List Nat} {W : WD} {e ik : Expr} {x : Str} {px pos' pos : Pos} {i : Nat} {fk fv : FE}
theorem ds_store (hu : X.A.units + 64 < cLine) (ho : DE X (.Name x px) (fVar i)) (hk : DE X ik fk) (hv : DE X e fv)
    (ht : ∀ (v : Value), assign ((Expr.Name x px).Subscript ik pos') X.env v = (do
                let ov ← holding [v] (eval (.Name x px) X.env)
                let iv ← holding [v, ov] (eval ik X.env)
                standAt pos'
                holding [v, ov, iv] (setItem ov iv v)
                release [v, ov, iv] []) := by intro _; rfl)
    (h1 : swapsWithSole [.Subscript (.Name x px) ik pos'] e pos.line X.env = pure false := by rfl) (h2 : swappedStores [.Subscript (.Name x px) ik pos'] e X.env = pure none := by rfl)
    (h3 : (assignEach [.Subscript (.Name x px) ik pos'] X.env).map (·.2) = [assign (.Subscript (.Name x px) ik pos') X.env] := by rfl) : DS X P W (.Assign [.Subscript (.Name x px) ik pos'] e pos) (gStore i fk fv) :=
  PS.imp (ps_asg hv (pg_sub ho hk (set_D hu) ht) h1 h2 h3) fun D σ H ⟨ρ, o, E, eo, k⟩ => by
    unfold gStore at eo
    split at eo
    · rename_i d ρ1 e1
      split at eo
      · rename_i rk ρ2 e2
        split at eo
        · rename_i c0 c kd e3 e4 e5
          split at eo
          · rename_i c' e6
            cases eo
            refine ⟨ρ, _, ρ1, E, e1, fun v H1 p1 r1 => ?_⟩
            refine ⟨ρ1, .slot i, ρ1, p1.env, by unfold fVar; rw [e3], fun ov H2 p2 r2 => ?_⟩
            refine ⟨ρ1, rk, ρ2, p2.env, e2, fun kv H3 p3 r3 => ?_⟩
            obtain ⟨a, h1, m⟩ := p3.env.mu i c e4
            have r2 : σ[i]? = some (some ov) := r2
            rw [h1] at r2; cases r2
            have r1' : Rep X.K X.w H3 d v := Rep.mono ((p2.le p1.env).trans (p3.le p2.env)) _ _ r1
            refine ⟨a, c, kd, d, c', rfl, m, r3.b p3.env e5, r1', e6, fun ob m' => k σ _ ?_⟩
            exact (((p1.trans p2).trans p3).trans (Post.mut p3.env e4 h1 m')).s
          · cases eo
        · cases eo
      · cases eo
    · cases eo
end
/-- a method that changes its object -/
def mutR (K : PySem.W.Frag) (w : World) (g : D → List D → Option (D × D)) : V → List V → Hp → VK → Prop := fun x xs H Q => ∃ a c ds r c', x = .ref a ∧ RepM K w H a c ∧ Reps K w H ds xs ∧ g c ds = some (r, c') ∧ ∀ v ob, RepM K w (upd H a ob) a c' → Rep K w (upd H a ob) r v → Q v (upd H a ob)
def appendM : D → List D → Option (D × D)
  | .lst xs, [d] => if xs.length < 1000000 then some (.non, .lst (xs ++ [d])) else none
  | _, _ => none
def popM : D → List D → Option (D × D)
  | .lst xs, [] => match xs[xs.length - 1]? with
    | some d => some (d, .lst xs.dropLast)
    | none => none
  | _, _ => none
def insertM : D → List D → Option (D × D)
  | .lst xs, [.int i, d] => if xs.length < 1000000 ∧ 0 ≤ i ∧ i < 2 ^ 63 then some (.non, .lst (xs.take i.toNat ++ [d] ++ xs.drop i.toNat)) else none
  | _, _ => none
section
variable {X : Cx}
theorem lt_line {n : Nat} (h : n < 1000000) : n < sizeLine := by rw [sizeLine_eq]; omega
theorem mt_appendM : MtR X "list.append" (mutR X.K X.w appendM) := by
  intro pins s σ H x xs v us Q I rx rxs ⟨a, c, ds, r, c', ex, m, rs, e, k⟩
  unfold appendM at e
  split at e
  · rename_i ys d
    split at e
    · rename_i hl
      cases e
      obtain ⟨vs, h1, h2⟩ := m
      obtain ⟨y, us', e1, r1, r2⟩ := rs
      cases (show us' = [] from r2)
      have le : ∀ ob, Le H (upd H a ob) := fun ob => Le.wr h1 trivial
      exact mt_append pins s σ H x xs v us Q I rx rxs ⟨a, vs, y, ex, e1, h1, lt_line (by rw [← h2.length]; exact hl), k _ _ ⟨_, upd_same, Reps.mono (le _) _ _ (h2.snoc r1)⟩ rfl⟩
    · cases e
  · cases e
theorem mt_popM : MtR X "list.pop" (mutR X.K X.w popM) := by
  intro pins s σ H x xs v us Q I rx rxs ⟨a, c, ds, r, c', ex, m, rs, e, k⟩
  unfold popM at e
  split at e
  · rename_i ys
    split at e
    · rename_i d ed
      cases e
      obtain ⟨vs, h1, h2⟩ := m
      have e1 : xs = [] := rs
      have le : ∀ ob, Le H (upd H a ob) := fun ob => Le.wr h1 trivial
      obtain ⟨y, ey, ry⟩ := h2.get ed
      rw [h2.length] at ey
      exact mt_pop pins s σ H x xs v us Q I rx rxs ⟨a, vs, y, ex, e1, h1, ey, k _ _ ⟨_, upd_same, Reps.mono (le _) _ _ h2.dropLast⟩ (Rep.mono (le _) _ _ ry)⟩
    · cases e
  · cases e
theorem mt_insertM : MtR X "list.insert" (mutR X.K X.w insertM) := by
  intro pins s σ H x xs v us Q I rx rxs ⟨a, c, ds, r, c', ex, m, rs, e, k⟩
  unfold insertM at e
  split at e
  · rename_i ys i d
    split at e
    · rename_i hl
      cases e
      obtain ⟨vs, h1, h2⟩ := m
      obtain ⟨yi, us', e1, r1, y, us2, e2, r2, r3⟩ := rs
      cases (show us2 = [] from r3)
      subst e2
      have r1 : yi = .int i := r1
      subst r1
      have le : ∀ ob, Le H (upd H a ob) := fun ob => Le.wr h1 trivial
      exact mt_insert pins s σ H x xs v us Q I rx rxs ⟨a, vs, i, y, ex, e1, h1, lt_line (by rw [← h2.length]; exact hl.1), hl.2.1, hl.2.2, k _ _ ⟨_, upd_same, Reps.mono (le _) _ _ (((h2.take _).append (Reps.one r2)).append (h2.drop _))⟩ rfl⟩
    · cases e
  · cases e
end
def fMut (T : String) (g : D → List D → Option (D × D)) (i : Nat) (fa : FA) : FE := fun ρ => match ρ[i]? with
  | some (.mu c0) => if tyM c0 = some T then match fa ρ with
    | some (rs, ρ2) => match ρ2[i]?, vals rs with
      | some (.mu c), some ds => match g c ds with
        | some (r, c') => some (.val r, ρ2.set i (.mu c'))
        | none => none
      | _, _ => none
    | none => none
    else none
  | _ => none
section
variable {X : Cx} {o e : Expr} {es : List Expr} {i : Nat} {fa : FA} {name : Str} {apos cpos : Pos} {T id : String} {g : D → List D → Option (D × D)}
theorem mut_ok {K : PySem.W.Frag} {w : World} (σ : L2.St) (H : Hp) (Q : VK) (h : tD K w (fMut T g i fa) σ H Q) : tBMD K w T (mutR K w g) (tD K w (fVar i)) (aD K w fa) σ H Q := by
  obtain ⟨ρ, rv, ρ', E, e, k⟩ := h
  unfold fMut at e
  split at e
  · rename_i c0 e1
    split at e
    · rename_i ty
      split at e
      · rename_i rs ρ2 e2
        split at e
        · rename_i c ds e3 e4
          split at e
          · rename_i r c' e5
            cases e
            refine ⟨ρ, .slot i, ρ, E, by unfold fVar; rw [e1], fun v H1 p1 r1 => ?_⟩
            have r1' : σ[i]? = some (some v) := r1
            refine ⟨⟨c0, RepR.b (H0 := H) p1.env r1 (by simp only [RV.get, e1]), ty⟩, ρ, rs, ρ2, p1.env, e2, fun vs H2 p2 r2 => ?_⟩
            obtain ⟨a, h1, m⟩ := p2.env.mu i c e3
            rw [h1] at r1'; cases r1'
            exact ⟨a, c, ds, r, c', rfl, m, r2.vals e4, e5, fun v3 ob m' rr => k v3 _ ((p1.trans p2).trans (Post.mut p2.env e3 h1 m')) rr⟩
          · cases e
        · cases e
      · cases e
    · cases e
  · cases e
theorem de_mut (pa : PlainAttrs T) (slot : Slot T name id) (hty : typeOf (.builtin id) = pure (.type "method_descriptor")) (hm : MtR X id (mutR X.K X.w g)) (ho : DE X o (fVar i)) (ha : DA X (e :: es) fa)
    (hbase : attributeBase o name X.env (eval o X.env) = eval o X.env := by rfl)
    (hfew : ((backTo cpos (starEach (e :: es) X.env)).all (fun x => !x.1) && (backToKw cpos (keywordEach [] X.env)).all (fun x => x.1.isSome)
      && decide ((e :: es).length + ([] : List Keyword).length + (if ([] : List Keyword).isEmpty then 0 else 1) < 30)) = true := by rfl)
    (hline : (apos.endLine == cpos.line) = true := by rfl) (hs : starEach (e :: es) X.env = (false, eval e X.env) :: starEach es X.env := by rfl) (hplain : (backTo cpos (starEach es X.env)).any (·.1) = false := by rfl) :
    DE X (.Call (.Attribute o name apos) (e :: es) [] cpos) (fMut T g i fa) := PE.imp (pe_bmD pa slot hty hm ho ha hbase hfew hline hs hplain) mut_ok
theorem de_mut0 (pa : PlainAttrs T) (slot : Slot T name id) (hty : typeOf (.builtin id) = pure (.type "method_descriptor")) (hm : MtR X id (mutR X.K X.w g)) (ho : DE X o (fVar i))
    (hbase : attributeBase o name X.env (eval o X.env) = eval o X.env := by rfl) (hline : (apos.endLine == cpos.line) = true := by rfl) : DE X (.Call (.Attribute o name apos) [] [] cpos) (fMut T g i fNil) :=
  PE.imp (pe_bmD0 pa slot hty hm ho hbase hline) fun σ H Q h => by
    obtain ⟨ρ, rv, ρ1, E, e1, k1⟩ := mut_ok σ H Q h
    refine ⟨ρ, rv, ρ1, E, e1, fun v H1 p1 r1 => ?_⟩
    obtain ⟨ty, ρ2, rs, ρ3, E2, e2, k2⟩ := k1 v H1 p1 r1
    refine ⟨ty, ?_⟩
    cases e2
    exact k2 [] H1 (Post.refl E2) rfl
end
end DL

set_option Elab.async false
set_option linter.all false
set_option maxRecDepth 100000
set_option maxHeartbeats 2000000
namespace DL
open PySem PySem.Spec PyProof.Rows L2

/-! ### a, b = e; a, b = e1, e2; x op= e -/
def gAsgP (p : Pat) (f : FE) : FS := fun ρ => match f ρ with
  | some (.val d, ρ1) => match p.store d ρ1 with
    | some ρ2 => some (.nx ρ2)
    | none => none
  | _ => none
theorem StoreOk.post {K : PySem.W.Frag} {w : World} {P S : List Nat} {σ0 σ σ' : L2.St} {ρ0 ρ ρ' : DEnv} {H0 H : Hp} (p : PostS K w P σ0 ρ0 H0 σ ρ H) (s : StoreOk K w S σ ρ H σ' ρ') (hp : ∀ i ∈ S, i ∉ P) : PostS K w P σ0 ρ0 H0 σ' ρ' H :=
  ⟨s.env, p.frm, fun a h => p.own a (s.own a h), fun i hi => (s.oth i fun z => hp i z hi).trans (p.pin i hi), p.dom⟩
section
variable {X : Cx} {P : List Nat} {W : WD} {tg e : Expr} {p : Pat} {f : FE} {pos : Pos}
theorem ds_asgP (he : DE X e f) (hg : DG X tg p) (hp : ∀ i ∈ p.slots, i ∉ P := by decide) (h1 : swapsWithSole [tg] e pos.line X.env = pure false := by rfl) (h2 : swappedStores [tg] e X.env = pure none := by rfl)
    (h3 : (assignEach [tg] X.env).map (·.2) = [assign tg X.env] := by rfl) : DS X P W (.Assign [tg] e pos) (gAsgP p f) := PS.imp (ps_asg he hg h1 h2 h3) fun D σ H ⟨ρ, o, E, eo, k⟩ => by
  unfold gAsgP at eo
  split at eo
  · rename_i d ρ1 e1
    split at eo
    · rename_i ρ2 e2
      cases eo
      exact ⟨ρ, _, ρ1, E, e1, fun v H1 p1 r1 => ⟨ρ1, d, ρ2, p1.env, r1, e2, fun σ' s => k σ' H1 (s.post p1.s hp)⟩⟩
    · cases eo
  · cases eo
end
def gPar2 (i j : Nat) (fa : FA) : FS := fun ρ => match fa ρ with
  | some (rs, ρ1) => match rs with
    | [.val x, .val y] => some (.nx ((ρ1.set i (.im x)).set j (.im y)))
    | [.fresh x, .val y] => some (.nx ((ρ1.set i (.mu x)).set j (.im y)))
    | _ => none
  | none => none
def gPar3 (i j l : Nat) (fa : FA) : FS := fun ρ => match fa ρ with
  | some (rs, ρ1) => match vals rs with
    | some [x, y, z] => some (.nx (((ρ1.set i (.im x)).set j (.im y)).set l (.im z)))
    | _ => none
  | none => none
theorem Reps.two {K : PySem.W.Frag} {w : World} {H : Hp} {x y : D} {vs : List V} (h : Reps K w H [x, y] vs) : ∃ v u, vs = [v, u] ∧ Rep K w H x v ∧ Rep K w H y u := by
  obtain ⟨v, us, e, h1, u, us2, e2, h2, h3⟩ := h
  cases (show us2 = [] from h3)
  subst e2
  exact ⟨v, u, e, h1, h2⟩
theorem Reps.three {K : PySem.W.Frag} {w : World} {H : Hp} {x y z : D} {vs : List V} (h : Reps K w H [x, y, z] vs) : ∃ v u t, vs = [v, u, t] ∧ Rep K w H x v ∧ Rep K w H y u ∧ Rep K w H z t := by
  obtain ⟨v, us, e, h1, h2⟩ := h
  obtain ⟨u, t, e2, h3, h4⟩ := Reps.two h2
  subst e2
  exact ⟨v, u, t, e, h1, h3, h4⟩
section
variable {X : Cx} {P : List Nat} {W : WD} {pos : Pos}
theorem ds_par2 {i j : Nat} {x y : Str} {a b : Expr} {fa : FA} {px py pt : Pos} {kt k2 pt2} (hc : X.calm = true) (hN : X.N.Nodup) (hi : X.N[i]? = some x) (hj : X.N[j]? = some y) (hij : i ≠ j) (hx : X.env.scope.names.lookup x = some .local) (hy : X.env.scope.names.lookup y = some .local)
    (ha : DA X [a, b] fa) (hs : swappedStores [.Tuple [.Name x px, .Name y py] kt pt] (.Tuple [a, b] k2 pt2) X.env = pure (some [x, y])) (hpi : i ∉ P := by decide) (hpj : j ∉ P := by decide)
    (hw : swapsWithSole [.Tuple [.Name x px, .Name y py] kt pt] (.Tuple [a, b] k2 pt2) pos.line X.env = pure false := by rfl) :
    DS X P W (.Assign [.Tuple [.Name x px, .Name y py] kt pt] (.Tuple [a, b] k2 pt2) pos) (gPar2 i j fa) := PS.imp (ps_par hc hN hi hj hij hx hy ha hs hw) fun D σ H ⟨ρ, o, E, eo, k⟩ => by
  unfold gPar2 at eo
  split at eo
  · rename_i rs ρ1 e1
    split at eo
    · rename_i x y
      cases eo
      refine ⟨ρ, _, ρ1, E, e1, fun vs H1 p1 r1 => ?_⟩
      obtain ⟨v, u, ev, h1, h2⟩ := (r1.vals (ds := [x, y]) rfl).two
      exact ⟨v, u, ev, k _ H1 ((p1.s.set_im h1 hpi).set_im h2 hpj)⟩
    · rename_i x y
      cases eo
      refine ⟨ρ, _, ρ1, E, e1, fun vs H1 p1 r1 => ?_⟩
      obtain ⟨v, us, ev, ⟨a, ea, h0, m⟩, u, us2, ev2, h2, h3⟩ := r1
      cases (show us2 = [] from h3)
      subst ev2 ea
      exact ⟨_, u, ev, k _ H1 ((p1.s.set_mu m h0 (fresh_not_own E p1 h0) hpi).set_im h2 hpj)⟩
    · cases eo
  · cases eo
theorem ds_par3 {i j l : Nat} {x y z : Str} {a b c : Expr} {fa : FA} {px py pz pt : Pos} {kt k2 pt2} (hc : X.calm = true) (hN : X.N.Nodup) (hi : X.N[i]? = some x) (hj : X.N[j]? = some y) (hl : X.N[l]? = some z) (hij : i ≠ j) (hil : i ≠ l) (hjl : j ≠ l)
    (hx : X.env.scope.names.lookup x = some .local) (hy : X.env.scope.names.lookup y = some .local) (hz : X.env.scope.names.lookup z = some .local)
    (ha : DA X [a, b, c] fa) (hs : swappedStores [.Tuple [.Name x px, .Name y py, .Name z pz] kt pt] (.Tuple [a, b, c] k2 pt2) X.env = pure (some [x, y, z])) (hpi : i ∉ P := by decide) (hpj : j ∉ P := by decide) (hpl : l ∉ P := by decide)
    (hw : swapsWithSole [.Tuple [.Name x px, .Name y py, .Name z pz] kt pt] (.Tuple [a, b, c] k2 pt2) pos.line X.env = pure false := by rfl) :
    DS X P W (.Assign [.Tuple [.Name x px, .Name y py, .Name z pz] kt pt] (.Tuple [a, b, c] k2 pt2) pos) (gPar3 i j l fa) := PS.imp (ps_par3 hc hN hi hj hl hij hil hjl hx hy hz ha hs hw) fun D σ H ⟨ρ, o, E, eo, k⟩ => by
  unfold gPar3 at eo
  split at eo
  · rename_i rs ρ1 e1
    split at eo
    · rename_i x y z e2
      cases eo
      refine ⟨ρ, rs, ρ1, E, e1, fun vs H1 p1 r1 => ?_⟩
      obtain ⟨v, u, t, ev, h1, h2, h3⟩ := (r1.vals e2).three
      exact ⟨v, u, t, ev, k _ H1 (((p1.s.set_im h1 hpi).set_im h2 hpj).set_im h3 hpl)⟩
    · cases eo
  · cases eo
end
/-! x op= e, a local that holds data -/
def pD (K : PySem.W.Frag) (w : World) (g : D → D → Option D) : TIp := fun x y H Q => ∃ dx dy r, Rep K w H dx x ∧ Rep K w H dy y ∧ g dx dy = some r ∧ ∀ v, Rep K w H r v → Q v H
def addP : D → D → Option D
  | .int i, .int j => some (.int (i + j))
  | _, _ => none
def divP : D → D → Option D
  | .int i, .int j => if 0 < j ∧ j < 1073741824 then some (.int (i / j)) else none
  | _, _ => none
def gAug (g : D → D → Option D) (i : Nat) (f : FE) : FS := fun ρ => match ρ[i]? with
  | some (.im x) => match f ρ with
    | some (.val y, ρ1) => match g x y with
      | some r => some (.nx (ρ1.set i (.im r)))
      | none => none
    | _ => none
  | _ => none
section
variable {X : Cx} {P : List Nat} {W : WD} {pos : Pos}
theorem ip_addD : PIp X .Add (pD X.K X.w addP) := by
  intro pins s σ H x y v u Q I rx ry ⟨dx, dy, r, bx, by', e, k⟩
  unfold addP at e
  split at e
  · rename_i i j
    cases e
    exact ip_add pins s σ H x y v u Q I rx ry ⟨i, j, bx, by', k _ rfl⟩
  · cases e
theorem ip_divD : PIp X .FloorDiv (pD X.K X.w divP) := by
  intro pins s σ H x y v u Q I rx ry ⟨dx, dy, r, bx, by', e, k⟩
  unfold divP at e
  split at e
  · rename_i i j
    split at e
    · rename_i hc
      cases e
      exact iop_fdiv pins s σ H x y v u Q I rx ry ⟨i, j, bx, by', hc, k _ rfl⟩
    · cases e
  · cases e
theorem ds_aug {i : Nat} {x : Str} {e : Expr} {f : FE} {op : Operator} {g : D → D → Option D} {pos' : Pos} (hN : X.N.Nodup) (hi : X.N[i]? = some x) (hx : Loc X.env.scope x) (he : DE X e f) (ho : PIp X op (pD X.K X.w g)) (hp : i ∉ P := by decide)
    (hf : X.fn x = true ∨ X.env.scope.names.lookup x = some .local := by first | exact .inl rfl | exact .inr rfl | assumption) : DS X P W (.AugAssign (.Name x pos') op e pos) (gAug g i f) :=
  PS.imp (ps_aug hN hi hx he ho hf) fun D σ H ⟨ρ, o, E, eo, k⟩ => by
    unfold gAug at eo
    split at eo
    · rename_i x e1
      split at eo
      · rename_i y ρ1 e2
        split at eo
        · rename_i r e3
          cases eo
          obtain ⟨v, h1, h2⟩ := E.im i x e1
          exact ⟨v, h1, ρ, _, ρ1, E, e2, fun u H1 p1 r1 => ⟨x, y, r, Rep.mono (p1.le E) _ _ h2, r1, e3, fun z rz => k _ H1 (p1.s.set_im rz hp)⟩⟩
        · cases eo
      · cases eo
    · cases eo
end
/-! ### while -/
def whileN (c : FT) (f : FS) : Nat → FS
  | 0, _ => none
  | n + 1, ρ => match c ρ with
    | some (false, ρ1) => some (.nx ρ1)
    | some (true, ρ1) => match f ρ1 with
      | some (.nx ρ2) => whileN c f n ρ2
      | some (.ct ρ2) => whileN c f n ρ2
      | some (.bk ρ2) => some (.nx ρ2)
      | o => o
    | none => none
open Classical in
noncomputable def gWhile (c : FT) (f : FS) : FS := fun ρ => if h : ∃ n o, whileN c f n ρ = some o then some h.choose_spec.choose else none
theorem gWhile_some {c : FT} {f : FS} {ρ : DEnv} {o : Out} (h : gWhile c f ρ = some o) : ∃ n, whileN c f n ρ = some o := by
  unfold gWhile at h
  split at h
  · rename_i hx
    cases h
    exact ⟨_, hx.choose_spec.choose_spec⟩
  · cases h
theorem whileN_mono {c : FT} {f : FS} {o : Out} : ∀ {n m : Nat} {ρ : DEnv}, n ≤ m → whileN c f n ρ = some o → whileN c f m ρ = some o
  | 0, _, _, _, h => by cases h
  | n + 1, 0, _, hl, _ => by omega
  | n + 1, m + 1, ρ, hl, h => by
    simp only [whileN] at h ⊢
    split at h
    · rename_i ρ1 e1; exact h
    · rename_i ρ1 e1
      split at h
      · rename_i ρ2 e2; exact whileN_mono (by omega) h
      · rename_i ρ2 e2; exact whileN_mono (by omega) h
      · exact h
      · exact h
    · cases h
theorem gWhile_eq {c : FT} {f : FS} {ρ : DEnv} {o : Out} {n : Nat} (h : whileN c f n ρ = some o) : gWhile c f ρ = some o := by
  have hx : ∃ n o, whileN c f n ρ = some o := ⟨n, o, h⟩
  unfold gWhile
  rw [dif_pos hx]
  have h2 := hx.choose_spec.choose_spec
  have a := whileN_mono (Nat.le_max_left n hx.choose) h
  have b := whileN_mono (Nat.le_max_right n hx.choose) h2
  rw [a] at b
  exact b.symm
section
variable {X : Cx} {P : List Nat} {W : WD} {pos : Pos} {c : Expr} {body : List Stmt} {fc : FT} {fb : FS}
theorem ds_while (hp : PassesOwn (model X.prog X.w) X.A X.env X.xe) (hc : DT X c fc) (hb : DSs X P W body fb) : DS X P W (.While c body [] pos) (gWhile fc fb) := PS.imp (ps_while hp hc hb) fun D σ H ⟨ρ, o, E, eo, k⟩ => by
  obtain ⟨n, en⟩ := gWhile_some eo
  refine ⟨fun m σ' H' => ∃ ρ', PostS X.K X.w P σ ρ H σ' ρ' H' ∧ whileN fc fb m ρ' = some o, ⟨n, ρ, PostS.refl E, en⟩, fun m σ1 H1 ⟨ρ1, p1, e1⟩ => ?_⟩
  cases m with
  | zero => cases e1
  | succ m =>
    simp only [whileN] at e1
    split at e1
    · rename_i ρ2 e2
      cases e1
      refine ⟨ρ1, false, ρ2, p1.env, e2, fun H2 p2 => ?_⟩
      refine iteF ?_
      exact k σ1 H2 (p1.trans p2.s)
    · rename_i ρ2 e2
      refine ⟨ρ1, true, ρ2, p1.env, e2, fun H2 p2 => ?_⟩
      refine iteT ?_
      have p12 := p1.trans (p2.s (P := P))
      refine ⟨fun σ' H' => ∃ ρ', PostS X.K X.w P σ ρ H σ' ρ' H' ∧ whileN fc fb m ρ' = some o, fun σ' H' ⟨ρ', q1, q2⟩ => ⟨m, Nat.lt_succ_self m, ρ', q1, q2⟩, ?_⟩
      split at e1
      · rename_i ρ3 e3
        exact ⟨ρ2, _, p12.env, e3, fun σ' H' q => ⟨ρ3, p12.trans q, e1⟩⟩
      · rename_i ρ3 e3
        exact ⟨ρ2, _, p12.env, e3, fun σ' H' q => ⟨ρ3, p12.trans q, e1⟩⟩
      · rename_i ρ3 e3
        cases e1
        exact ⟨ρ2, _, p12.env, e3, fun σ' H' q => k σ' H' (p12.trans q)⟩
      · rename_i h1 h2 h3
        have e1 : fb ρ2 = some o := e1
        refine ⟨ρ2, o, p12.env, e1, ?_⟩
        cases o with
        | nx r => exact (h1 r e1).elim
        | ct r => exact (h2 r e1).elim
        | bk r => exact (h3 r e1).elim
        | rt rv r => exact fun v σ' H' q rr => k v σ' H' (p12.trans q) (rr.elder p12.dom)
        | ex x r => exact fun σ' H' q => k σ' H' (p12.trans q)
    · cases e1
end
/-! ### what is walked -/
abbrev FI := DEnv → Option (List D × DEnv)
/-- the iterator's turns give the items, as long as tuples and what is locked stay -/
structure ItD (K : PySem.W.Frag) (w : World) (J : It) (ds : List D) (H0 : Hp) : Prop where
  go : ∀ i H, Le H0 H → i < ds.length → J.go i H
  yld : ∀ i H x H' d, Le H0 H → ds[i]? = some d → J.yld i H x H' → (∀ a o, H a = some o → H' a = some o) ∧ Rep K w H' d x
  stop : ∀ H, Le H0 H → J.stop ds.length H
def iD (K : PySem.W.Frag) (w : World) (f : FI) : TI := fun σ H R => ∃ ρ ds ρ', EnvR K w σ ρ H ∧ f ρ = some (ds, ρ') ∧ ∀ J H', Post K w σ ρ H ρ' H' → ItD K w J ds H' → R J H'
abbrev DI (X : Cx) (tg e : Expr) (f : FI) : Prop := PI X tg e (iD X.K X.w f)
theorem PI.imp {X : Cx} {tg e : Expr} {t t' : TI} (h : PI X tg e t) (k : ∀ σ H R, t' σ H R → t σ H R) : PI X tg e t' := ⟨fun pins s σ H R I q => h.run pins s σ H R I (k σ H R q)⟩
/-- a turn: store, body -/
def forL (p : Pat) (f : FS) : List D → FS
  | [], ρ => some (.nx ρ)
  | d :: r, ρ => match p.store d ρ with
    | some ρ1 => match f ρ1 with
      | some (.nx ρ2) => forL p f r ρ2
      | some (.ct ρ2) => forL p f r ρ2
      | some (.bk ρ2) => some (.nx ρ2)
      | o => o
    | none => none
def gFor (fi : FI) (p : Pat) (f : FS) : FS := fun ρ => match fi ρ with
  | some (ds, ρ1) => forL p f ds ρ1
  | none => none
section
variable {X : Cx} {P : List Nat} {W : WD} {pos : Pos} {tg iter : Expr} {body : List Stmt} {fi : FI} {p : Pat} {fb : FS}
theorem ds_for (hp : PassesOwn (model X.prog X.w) X.A X.env X.xe) (hc : X.calm = true) (hi : DI X tg iter fi) (hg : DG X tg p) (hb : DSs X P W body fb) (hpp : ∀ i ∈ p.slots, i ∉ P := by decide)
    (hs : ∀ x, foldedSetIterable iter X.env x = pure x := by intro _; rfl) : DS X P W (.For tg iter body [] pos) (gFor fi p fb) := PS.imp (ps_for hp hc hi hg hb hs) fun D σ H ⟨ρ, o, E, eo, k⟩ => by
  unfold gFor at eo
  split at eo
  · rename_i ds ρ1 e1
    refine ⟨ρ, ds, ρ1, E, e1, fun J H1 p1 it => ?_⟩
    refine ⟨fun i m σ' H' => m = ds.length - i ∧ i ≤ ds.length ∧ Le H1 H' ∧ ∃ ρ', PostS X.K X.w P σ ρ H σ' ρ' H' ∧ forL p fb (ds.drop i) ρ' = some o, ⟨ds.length, by simp, Nat.zero_le _, Le.refl H1, ρ1, p1.s, by simpa using eo⟩, ?_⟩
    rintro i m σ2 H2 ⟨rfl, hle, l2, ρ2, p2, e2⟩
    by_cases hlt : i < ds.length
    · refine .inr ⟨it.go i H2 l2 hlt, fun σ' H' => (Le H1 H' ∧ ∃ ρ', PostS X.K X.w P σ ρ H σ' ρ' H' ∧ forL p fb (ds.drop (i + 1)) ρ' = some o), fun σ' H' ⟨l', ρ', q1, q2⟩ => ⟨ds.length - (i + 1), by omega, rfl, hlt, l', ρ', q1, q2⟩, fun x H3 hy => ?_⟩
      have ed : ds[i]? = some ds[i] := List.getElem?_eq_getElem hlt
      obtain ⟨g3, r3⟩ := it.yld i H2 x H3 ds[i] l2 ed hy
      have l3 : Le H1 H3 := l2.trans ⟨fun a _ h => g3 a _ h, fun a _ _ h => g3 a _ h⟩
      have p3 := p2.trans ((Post.grow p2.env g3).s (P := P))
      rw [List.drop_eq_getElem_cons hlt] at e2
      simp only [forL] at e2
      split at e2
      · rename_i ρ4 e4
        refine ⟨ρ2, ds[i], ρ4, p3.env, r3, e4, fun σ4 s4 => ?_⟩
        have p4 := s4.post p3 hpp
        split at e2
        · rename_i ρ5 e5
          exact ⟨ρ4, _, p4.env, e5, fun σ' H' q => ⟨l3.trans (q.le p4.env), ρ5, p4.trans q, e2⟩⟩
        · rename_i ρ5 e5
          exact ⟨ρ4, _, p4.env, e5, fun σ' H' q => ⟨l3.trans (q.le p4.env), ρ5, p4.trans q, e2⟩⟩
        · rename_i ρ5 e5
          cases e2
          exact ⟨ρ4, _, p4.env, e5, fun σ' H' q => k σ' H' (p4.trans q)⟩
        · rename_i h1 h2 h3
          have e2 : fb ρ4 = some o := e2
          refine ⟨ρ4, o, p4.env, e2, ?_⟩
          cases o with
          | nx r => exact (h1 r e2).elim
          | ct r => exact (h2 r e2).elim
          | bk r => exact (h3 r e2).elim
          | rt rv r => exact fun v σ' H' q rr => k v σ' H' (p4.trans q) (rr.elder p4.dom)
          | ex x r => exact fun σ' H' q => k σ' H' (p4.trans q)
      · cases e2
    · have ei : i = ds.length := by omega
      subst ei
      refine .inl ⟨it.stop H2 l2, ?_⟩
      rw [List.drop_length] at e2
      simp only [forL] at e2
      cases e2
      exact k σ2 H2 p2
  · cases eo
end
/-! iterables -/
/-- a list or a tuple of data -/
def fItems (f : FE) : FI := fun ρ => match f ρ with
  | some (.val (.lst ds), ρ1) => some (ds, ρ1)
  | _ => none
def fItemsT (f : FE) : FI := fun ρ => match f ρ with
  | some (.val (.tup ds), ρ1) => some (ds, ρ1)
  | _ => none
section
variable {K : PySem.W.Frag} {w : World}
theorem Rd_inj {X : Cx} {pins : List (Addr × Obj)} {σ : L2.St} {H : Hp} {s : Shared} (I : Inv X pins σ H s) {a : Addr} {xs ys : List V} (h : SqL X.K H a xs) (h' : SqL X.K H a ys) : xs = ys := I.list_inj h h'
end
end DL

set_option Elab.async false
set_option linter.all false
set_option maxRecDepth 100000
set_option maxHeartbeats 2000000
namespace DL
open PySem PySem.Spec PyProof.Rows L2

/-! ### what is walked: lists, tuples, the script's list, the keys of locked dicts -/
section
variable {X : Cx} {pins : List (Addr × Obj)} {σ : L2.St} {H : Hp} {s : Shared} {d : Addr} {o : Obj}
theorem PrE.get {kvs : KE3} {xs : KX3} (p : PrE kvs xs) {i : Nat} {x : NK × Addr × V} (e : kvs[i]? = some x) : ∃ y, xs[i]? = some y ∧ x.1 = y.1 ∧ x.2.1 = y.2.1 := by
  obtain ⟨y, h1, h2⟩ := paired_get p e
  exact ⟨y, h1, h2.1, h2.2.1⟩
theorem frzH (I : Inv X pins σ H s) {kvs : KE3} (h : H d = some (.frz o (dH X.w d kvs))) :
    (d == sysModules) = false ∧ s.heap.get? d = some o ∧ o.ExactDict ∧ ∃ (es : Array DictEntry) (ep : Nat), o.data = .dict es ep ∧ es.size = kvs.length ∧
      ∀ (i : Nat) (x : NK × Addr × V), kvs[i]? = some x → ∃ (en : DictEntry), es[i]? = some en ∧ en.key = .ref x.2.1 := by
  obtain ⟨hd, ⟨⟨o', es, ep, xs, h1, h2, h3, h4, h5⟩, nd, dp, sz, sm⟩, _⟩ := I.hok d _ h
  rw [hd] at h1
  cases h1
  refine ⟨sm, hd, h2, es, ep, h3, ?_, fun i x e => ?_⟩
  · have l1 := congrArg List.length h4
    rw [List.length_map, Array.length_toList] at l1
    have l2 : kvs.length = xs.length := Paired.length h5
    omega
  · obtain ⟨y, e1, e2, e3⟩ := PrE.get h5 e
    have e4 : es.toList[i]? = some ⟨y.1.hash X.w, .ref y.2.1, y.2.2⟩ := by rw [h4, List.getElem?_map, e1]; rfl
    rw [Array.getElem?_toList] at e4
    exact ⟨_, e4, by rw [e3]⟩
end
/-- the keys of the locked dict of tuples -/
def Itkh (w : World) (d : Addr) (o : Obj) (kvs : KE3) : It :=
  ⟨fun i H => H d = some (.frz o (dH w d kvs)) ∧ i < kvs.length, fun i H x H' => H' = H ∧ ∃ y : NK × Addr × V, kvs[i]? = some y ∧ x = .ref y.2.1, fun i H => H d = some (.frz o (dH w d kvs)) ∧ kvs.length ≤ i⟩
section
variable {P : Program} {w : World} {K : PySem.W.Frag} {tg : Expr} {d : Addr} {o : Obj} {es : Array DictEntry} {ep : Nat}
theorem turn_keysH {kvs : KE3} (it : Addr) (hod : o.data = .dict es ep) : Turn P w K tg (Itkh w d o kvs) [it] it (fun i h => h.IsKeyIter it d i kvs.length ep) where
  mem := by simp
  obj := fun i h st b hb => by
    have e : b = it := by simpa using hb
    subst e
    obtain ⟨oi, e, c, dd⟩ := st
    exact ⟨oi, e, fun v z => by rw [dd] at z; cases z⟩
  keep := fun i h h' st k => st.at fun oi e => k it (by simp) oi e
  item := by
    intro X hP hw hK hc i pins s σ H E I hf st hg
    subst hP hw hK
    obtain ⟨hd, hi⟩ := hg
    obtain ⟨f0, f1, f2, f3, f4, f5⟩ := hf it (by simp)
    obtain ⟨hs, hgd, hx, es', ep', hdt, hsz, ent⟩ := frzH I hd
    obtain ⟨rfl, rfl⟩ := dict_ep hod hdt
    obtain ⟨y, hkv⟩ : ∃ p, kvs[i]? = some p := ⟨kvs[i], List.getElem?_eq_getElem hi⟩
    obtain ⟨en, hen, hkey⟩ := ent i y hkv
    refine next_key_item st hgd hdt hsz hen fun h' st' sb => ?_
    have I1 : Inv X pins σ H { s with heap := h' } := I.turned (t' := s.toks) (fun b ob hb e => (sb.2 b hb).trans e) f0 f1 f3 f4 f5
    obtain ⟨oi, e, c, dd⟩ := id st'
    exact ⟨en.key, rfl, go_of (s := { s with heap := h' }) e c dd (by decide) ⟨.ref y.2.1, H, I1, hkey, ⟨rfl, y, hkv, rfl⟩, st', fun b hb => (hf b hb).1⟩⟩
  done := by
    intro X hP hw hK hc i pins s σ H E I hf st hg
    subst hP hw hK
    obtain ⟨hd, hi⟩ := hg
    obtain ⟨f0, f1, f2, f3, f4, f5⟩ := hf it (by simp)
    obtain ⟨hs, hgd, hx, es', ep', hdt, hsz, ent⟩ := frzH I hd
    obtain ⟨rfl, rfl⟩ := dict_ep hod hdt
    exact next_key_end (I.ok.hd hc) st hgd hdt hsz hi fun h' eb => ⟨rfl, I.turned (t' := s.toks) (fun b ob hb e => eb b ob hb e) f0 f1 f3 f4 f5⟩
  self := fun A i s Q E st h => by
    refine wpAny_pyIter_slot st.typeIs PySem.F.slot_dict_keyiterator_iter (wpAny_call_entry PySem.F.slot_dict_keyiterator_iter st.typeIs PySem.F.entry_dict_keyiterator_iter ?_ (PySem.F.args_dict_keyiterator_iter_1 _))
    show wpAny _ _ (ret (.ref it)) _ _ s
    exact wpAny_pure ⟨_, rfl, "dict_keyiterator", _, st.typeIs, PySem.F.slot_dict_keyiterator_next.lookup, h⟩
end
/-- one of four -/
def iAny (K : PySem.W.Frag) (w : World) (te : TE) : TI := fun σ H R => te σ H fun x H1 => ∃ a, x = .ref a ∧
  (((∃ xs, SqL K H1 a xs) ∧ R (Itl K a) H1) ∨ ((∃ xs, SqT K H1 a xs) ∧ R (Itt K a) H1) ∨ (∃ o kvs, H1 a = some (.frz o (.dK kvs)) ∧ R (Itk a o kvs) H1) ∨ ∃ o kvs, H1 a = some (.frz o (dH w a kvs)) ∧ R (Itkh w a o kvs) H1)
theorem pi_anyD {X : Cx} {tg l : Expr} {tl : TE} (hl : PE X l tl) : PI X tg l (iAny X.K X.w tl) := by
  refine ⟨fun pins s σ H R I h => ?_⟩
  refine thn (hl.run pins s σ H _ I h) fun v s1 ⟨x, H1, I1, r1, q1⟩ => ?_
  obtain ⟨a, e, q1⟩ := q1
  subst e
  cases r1
  rcases q1 with ⟨⟨xs, hq⟩, q⟩ | ⟨⟨xs, hq⟩, q⟩ | ⟨o, kvs, hd, q⟩ | ⟨o, kvs, hd, q⟩
  · obtain ⟨its, rv, p, hz⟩ := I1.list hq
    refine wpAny_pyIter_list p.isList ?_
    refine ⟨s1.heap.objs.size, [s1.heap.objs.size], _, _, H1, rfl, I1.kept (t' := s1.toks) fun b o e => Heap.get?_push_of_some _ e, turn_list a _, ⟨_, Heap.get?_push_size _ rfl, rfl, rfl⟩, fun b hb => ?_, q⟩
    have e : b = s1.heap.objs.size := by simpa using hb
    subst e
    exact I1.fpOk (Nat.le_refl _) (I1.hok.fresh (Nat.le_refl _))
  · obtain ⟨its, rv, p, hz⟩ := I1.tuple hq
    refine wpAny_pyIter_tuple (show s1.heap.IsTuple a its.toArray from p) ?_
    refine ⟨s1.heap.objs.size, [s1.heap.objs.size], _, _, H1, rfl, I1.kept (t' := s1.toks) fun b o e => Heap.get?_push_of_some _ e, turn_tuple a _, ⟨_, Heap.get?_push_size _ rfl, rfl, rfl⟩, fun b hb => ?_, q⟩
    have e : b = s1.heap.objs.size := by simpa using hb
    subst e
    exact I1.fpOk (Nat.le_refl _) (I1.hok.fresh (Nat.le_refl _))
  · obtain ⟨hs, hgd, hx, es, ep, vs, hdt, hsz, kv, hm⟩ := I1.frzK hd
    refine iter_keys hs hgd hx hdt (pi_one (tk := s1.toks) I1 _ (turn_keys _ hdt) ⟨_, Heap.get?_push_size _ rfl, rfl, ?_⟩ q)
    rw [hsz] <;> rfl
  · obtain ⟨hs, hgd, hx, es, ep, hdt, hsz, ent⟩ := frzH I1 hd
    refine iter_keys hs hgd hx hdt (pi_one (tk := s1.toks) I1 _ (turn_keysH _ hdt) ⟨_, Heap.get?_push_size _ rfl, rfl, ?_⟩ q)
    rw [hsz] <;> rfl

def itemsD : D → Option (List D)
  | .lst xs => some xs
  | .tup xs => some xs
  | .tpp xs => some xs
  | .scr ns => some (ns.map D.int)
  | .dic ks _ => some ks
  | .dik ks _ => some (ks.map keyD)
  | _ => none
def fItA (f : FE) : FI := fun ρ => match f ρ with
  | some (.val d, ρ1) => match itemsD d with
    | some ds => some (ds, ρ1)
    | none => none
  | _ => none
section
variable {K : PySem.W.Frag} {w : World} {H H' H0 : Hp}
/-- a list's, where the items stay known -/
theorem it_list {a : Addr} {vs : List V} {ds : List D} (hs : SqF K H0 a vs) (r : Reps K w H0 ds vs) : ItD K w (Itl K a) ds H0 where
  go := fun i H l h => by
    have q := (l.sqF hs).sq
    exact ⟨vs, vs[i]'(by rw [← r.length]; exact h), q, List.getElem?_eq_getElem _⟩
  yld := fun i H x H' d l e y => by
    obtain ⟨rfl, y⟩ := y
    obtain ⟨v, e1, e2⟩ := (Reps.mono l _ _ r).get e
    have := y vs (l.sqF hs).sq
    rw [e1] at this; cases this
    exact ⟨fun _ _ h => h, e2⟩
  stop := fun H l => ⟨vs, (l.sqF hs).sq, by rw [r.length]; exact Nat.le_refl _⟩
theorem it_tup {a : Addr} {vs : List V} {ds : List D} (hs : SqT K H0 a vs) (r : Reps K w H0 ds vs) : ItD K w (Itt K a) ds H0 where
  go := fun i H l h => ⟨vs, vs[i]'(by rw [← r.length]; exact h), l.sqT hs, List.getElem?_eq_getElem _⟩
  yld := fun i H x H' d l e y => by
    obtain ⟨rfl, y⟩ := y
    obtain ⟨v, e1, e2⟩ := (Reps.mono l _ _ r).get e
    have := y vs (l.sqT hs)
    rw [e1] at this; cases this
    exact ⟨fun _ _ h => h, e2⟩
  stop := fun H l => ⟨vs, l.sqT hs, by rw [r.length]; exact Nat.le_refl _⟩
theorem it_keys {a : Addr} {o : Obj} {kvs : List (Key × V)} (hd : H0 a = some (.frz o (.dK kvs))) : ItD K w (Itk a o kvs) (kvs.map fun x => keyD x.1) H0 where
  go := fun i H l h => ⟨l.frz _ _ _ hd, by simpa using h⟩
  yld := fun i H x H' d l e y => by
    obtain ⟨rfl, k, v, e1, e2⟩ := y
    rw [List.getElem?_map, e1] at e
    cases e
    refine ⟨fun _ _ h => h, ?_⟩
    subst e2
    cases k with
    | inl j => exact rfl
    | inr j => exact rfl
  stop := fun H l => ⟨l.frz _ _ _ hd, by rw [List.length_map]; exact Nat.le_refl _⟩
theorem it_keysH {a : Addr} {o : Obj} {kvs : KE3} {ks : List D} (hd : H0 a = some (.frz o (dH w a kvs))) (r : Reps K w H0 ks (kvs.map fun x => V.ref x.2.1)) : ItD K w (Itkh w a o kvs) ks H0 where
  go := fun i H l h => ⟨l.frz _ _ _ hd, by have := r.length; rw [List.length_map] at this; omega⟩
  yld := fun i H x H' d l e y => by
    obtain ⟨rfl, y, e1, e2⟩ := y
    obtain ⟨v, e3, e4⟩ := (Reps.mono l _ _ r).get e
    rw [List.getElem?_map, e1] at e3
    cases e3
    exact ⟨fun _ _ h => h, by rw [e2]; exact e4⟩
  stop := fun H l => ⟨l.frz _ _ _ hd, by have := r.length; rw [List.length_map] at this; omega⟩
end
theorem scr_reps {K : PySem.W.Frag} {w : World} {H : Hp} : ∀ ns : List Int, Reps K w H (ns.map D.int) (ns.map V.int)
  | [] => rfl
  | n :: ns => ⟨_, _, rfl, rfl, scr_reps ns⟩
section
variable {X : Cx} {tg e e2 : Expr} {f : FE} {fa : FA} {p pos tpos : Pos} {elts : List Expr} {kk : Nat}
theorem di_seq (he : DE X e f) : DI X tg e (fItA f) := PI.imp (pi_anyD he) fun σ H R ⟨ρ, ds, ρ', E, eo, k⟩ => by
  unfold fItA at eo
  split at eo
  · rename_i d ρ1 e1
    split at eo
    · rename_i ds e2
      cases eo
      refine ⟨ρ, _, _, E, e1, fun v H1 p1 r1 => ?_⟩
      have r1 : Rep X.K X.w H1 d v := r1
      unfold itemsD at e2
      split at e2
      · cases e2
        obtain ⟨a, vs, ev, ⟨o, h1⟩, h2⟩ := r1
        exact ⟨a, ev, .inl ⟨⟨vs, (SqF.sq (.inl ⟨o, h1⟩))⟩, k _ H1 p1 (it_list (.inl ⟨o, h1⟩) h2)⟩⟩
      · cases e2
        obtain ⟨a, vs, ev, h1, h2⟩ := r1
        exact ⟨a, ev, .inr (.inl ⟨⟨vs, h1⟩, k _ H1 p1 (it_tup h1 h2)⟩)⟩
      · cases e2
        obtain ⟨a, vs, ev, ⟨o, h1, h0⟩, h2⟩ := r1
        have h1 : SqT X.K H1 a vs := .inl (.inr ⟨o, h1⟩)
        exact ⟨a, ev, .inr (.inl ⟨⟨vs, h1⟩, k _ H1 p1 (it_tup h1 h2)⟩)⟩
      · rename_i ns
        cases e2
        obtain ⟨a, ev, h1⟩ := r1
        exact ⟨a, ev, .inl ⟨⟨_, h1.sq⟩, k _ H1 p1 (it_list h1 (scr_reps _))⟩⟩
      · cases e2
        obtain ⟨a, o, ev, kvs, h1, h2, h3, h4⟩ := r1
        exact ⟨a, ev, .inr (.inr (.inr ⟨o, kvs, h1, k _ H1 p1 (it_keysH h1 h3)⟩))⟩
      · cases e2
        obtain ⟨a, o, ev, kvs, h1, h2, h3⟩ := r1
        refine ⟨a, ev, .inr (.inr (.inl ⟨o, kvs, h1, k _ H1 p1 ?_⟩))⟩
        subst h2
        rw [List.map_map]
        exact it_keys h1
      · cases e2
    · cases eo
  · cases eo
/-! range -/
def rngL (lo : Int) (n : Nat) : List D := (List.range n).map fun (i : Nat) => .int (lo + i)
theorem it_rng {K : PySem.W.Frag} {w : World} {H0 : Hp} {lo : Int} {n : Nat} : ItD K w (Itr lo n) (rngL lo n) H0 where
  go := fun i H l h => by
    show i < n
    simpa [rngL] using h
  yld := fun i H x H' d l e y => by
    obtain ⟨rfl, rfl⟩ := y
    refine ⟨fun _ _ h => h, ?_⟩
    simp only [rngL, List.getElem?_map, Option.map_eq_some_iff] at e
    obtain ⟨j, e1, e2⟩ := e
    rw [List.getElem?_eq_some_iff] at e1
    obtain ⟨h1, h2⟩ := e1
    rw [List.getElem_range] at h2
    subst h2
    subst e2
    exact rfl
  stop := fun H l => by simp [rngL, Itr]
def fRng1 (fa : FA) : FI := fun ρ => match fa ρ with
  | some (rs, ρ1) => match vals rs with
    | some [.int j] => if j < 2 ^ 62 ∧ -(2 ^ 62) ≤ j then some (rngL 0 j.toNat, ρ1) else none
    | _ => none
  | none => none
def fRng2 (fa : FA) : FI := fun ρ => match fa ρ with
  | some (rs, ρ1) => match vals rs with
    | some [.int i, .int j] => if -(2 ^ 62) ≤ i ∧ i < 2 ^ 62 ∧ -(2 ^ 62) ≤ j ∧ j < 2 ^ 62 then some (rngL i (j - i).toNat, ρ1) else none
    | _ => none
  | none => none
theorem Reps.ints1 {K : PySem.W.Frag} {w : World} {H : Hp} {i : Int} {vs : List V} (h : Reps K w H [.int i] vs) : vs = [.int i] := by
  obtain ⟨v, us, e, h1, h2⟩ := h
  cases (show us = [] from h2)
  cases (show v = .int i from h1)
  exact e
theorem di_rng1 (hm : X.mg "range" = none) (ha : DA X [e] fa) (hg : Gl X "range" := by rfl) (hs : starEach [e] X.env = [(false, eval e X.env)] := by rfl) : DI X tg (.Call (.Name "range" p) [e] [] pos) (fRng1 fa) := PI.imp (pi_range1 hg hm ha hs) fun σ H R ⟨ρ, ds, ρ', E, eo, k⟩ => by
  unfold fRng1 at eo
  split at eo
  · rename_i rs ρ1 e1
    split at eo
    · rename_i j e2
      split at eo
      · rename_i hj
        cases eo
        exact ⟨ρ, rs, _, E, e1, fun vs H1 p1 r1 => ⟨j, Reps.ints1 (r1.vals e2), hj.2, hj.1, k _ H1 p1 it_rng⟩⟩
      · cases eo
    · cases eo
  · cases eo
theorem di_rng2 (hm : X.mg "range" = none) (ha : DA X [e, e2] fa) (hg : Gl X "range" := by rfl) (hs : starEach [e, e2] X.env = [(false, eval e X.env), (false, eval e2 X.env)] := by rfl) (hs2 : starEach [e2] X.env = [(false, eval e2 X.env)] := by rfl) : DI X tg (.Call (.Name "range" p) [e, e2] [] pos) (fRng2 fa) := PI.imp (pi_range2 hg hm ha hs hs2) fun σ H R ⟨ρ, ds, ρ', E, eo, k⟩ => by
  unfold fRng2 at eo
  split at eo
  · rename_i rs ρ1 e1
    split at eo
    · rename_i i j e2
      split at eo
      · rename_i hj
        cases eo
        refine ⟨ρ, rs, _, E, e1, fun vs H1 p1 r1 => ⟨i, j, ?_, hj, k _ H1 p1 it_rng⟩⟩
        obtain ⟨v, u, e3, h1, h2⟩ := (r1.vals e2).two
        cases (show v = .int i from h1)
        cases (show u = .int j from h2)
        exact e3
      · cases eo
    · cases eo
  · cases eo
/-! zip -/
def zipL : List D → List D → List D
  | x :: xs, y :: ys => .tup [x, y] :: zipL xs ys
  | _, _ => []
theorem zipL_len : ∀ {xs ys : List D}, (zipL xs ys).length = min xs.length ys.length
  | [], _ => by simp [zipL]
  | _ :: _, [] => by simp [zipL]
  | x :: xs, y :: ys => by simp only [zipL, List.length_cons, zipL_len (xs := xs) (ys := ys)]; omega
theorem zipL_get : ∀ {xs ys : List D} {i : Nat} {d : D}, (zipL xs ys)[i]? = some d → ∃ x y, xs[i]? = some x ∧ ys[i]? = some y ∧ d = .tup [x, y]
  | [], _, _, _, e => by simp [zipL] at e
  | _ :: _, [], _, _, e => by simp [zipL] at e
  | x :: xs, y :: ys, 0, d, e => by simp [zipL] at e; exact ⟨x, y, rfl, rfl, e.symm⟩
  | x :: xs, y :: ys, i + 1, d, e => by
    obtain ⟨x', y', h1, h2, h3⟩ := zipL_get (i := i) (xs := xs) (ys := ys) (by simpa [zipL] using e)
    exact ⟨x', y', by simpa using h1, by simpa using h2, h3⟩
theorem pair_rep {K : PySem.W.Frag} {w : World} {H : Hp} {T : Addr} {x y : D} {v u : V} (hT : H T = none) (h1 : Rep K w H x v) (h2 : Rep K w H y u) : Rep K w (upd H T (.tup [v, u])) (.tup [x, y]) (.ref T) := by
  have l : Le H (upd H T (.tup [v, u])) := Le.new hT
  exact ⟨T, _, rfl, SqT.of upd_same, _, _, rfl, Rep.mono l _ _ h1, _, _, rfl, Rep.mono l _ _ h2, rfl⟩
theorem it_zipT {K : PySem.W.Frag} {w : World} {H0 : Hp} {a b : Addr} {vs us : List V} {xs ys : List D} (ha : SqT K H0 a vs) (hb : SqT K H0 b us) (ra : Reps K w H0 xs vs) (rb : Reps K w H0 ys us) : ItD K w (RZ.ItzT K a b) (zipL xs ys) H0 where
  go := fun i H l h => by
    rw [zipL_len, ra.length, rb.length] at h
    exact ⟨vs, us, vs[i]'(by omega), us[i]'(by omega), l.sqT ha, l.sqT hb, List.getElem?_eq_getElem _, List.getElem?_eq_getElem _⟩
  yld := fun i H v H' d l e y => by
    obtain ⟨T, x, y, rfl, hT, rfl, q1, q2⟩ := y
    obtain ⟨dx, dy, e1, e2, rfl⟩ := zipL_get e
    obtain ⟨v1, g1, r1⟩ := (Reps.mono l _ _ ra).get e1
    obtain ⟨v2, g2, r2⟩ := (Reps.mono l _ _ rb).get e2
    have c1 := q1 vs (l.sqT ha)
    have c2 := q2 us (l.sqT hb)
    rw [g1] at c1; cases c1
    rw [g2] at c2; cases c2
    exact ⟨keep_new hT, pair_rep hT r1 r2⟩
  stop := fun H l => ⟨vs, us, l.sqT ha, l.sqT hb, by rw [zipL_len, ra.length, rb.length]; omega⟩
theorem it_zip {K : PySem.W.Frag} {w : World} {H0 : Hp} {a b : Addr} {vs us : List V} {xs ys : List D} (ha : SqF K H0 a vs) (hb : SqF K H0 b us) (ra : Reps K w H0 xs vs) (rb : Reps K w H0 ys us) : ItD K w (Itz K a b) (zipL xs ys) H0 where
  go := fun i H l h => by
    rw [zipL_len, ra.length, rb.length] at h
    exact ⟨vs, us, vs[i]'(by omega), us[i]'(by omega), (l.sqF ha).sq, (l.sqF hb).sq, List.getElem?_eq_getElem _, List.getElem?_eq_getElem _⟩
  yld := fun i H v H' d l e y => by
    obtain ⟨T, x, y, rfl, hT, rfl, q1, q2⟩ := y
    obtain ⟨dx, dy, e1, e2, rfl⟩ := zipL_get e
    obtain ⟨v1, g1, r1⟩ := (Reps.mono l _ _ ra).get e1
    obtain ⟨v2, g2, r2⟩ := (Reps.mono l _ _ rb).get e2
    have c1 := q1 vs (l.sqF ha).sq
    have c2 := q2 us (l.sqF hb).sq
    rw [g1] at c1; cases c1
    rw [g2] at c2; cases c2
    exact ⟨keep_new hT, pair_rep hT r1 r2⟩
  stop := fun H l => ⟨vs, us, (l.sqF ha).sq, (l.sqF hb).sq, by rw [zipL_len, ra.length, rb.length]; omega⟩
theorem Reps.wk {K : PySem.W.Frag} {w : World} {H : Hp} : ∀ {ds : List D} {vs : List V}, Reps K w H ds vs → Reps K w H (ds.map wk) vs
  | [], _, h => h
  | d :: ds, vs, ⟨v, us, e, h1, h2⟩ => ⟨v, us, e, Rep.wk h1, Reps.wk h2⟩
def fZip (fa : FA) : FI := fun ρ => match fa ρ with
  | some (rs, ρ1) => match (vals rs).map (List.map wk) with
    | some [.tup xs, .tup ys] => some (zipL xs ys, ρ1)
    | some [.lst xs, .lst ys] => some (zipL xs ys, ρ1)
    | _ => none
  | none => none
theorem di_zip (hm : X.mg "zip" = none) (ha : DA X [e, e2] fa) (hg : Gl X "zip" := by rfl) (hs : starEach [e, e2] X.env = (false, eval e X.env) :: starEach [e2] X.env := by rfl) (hpl : (backTo pos (starEach [e2] X.env)).any (·.1) = false := by rfl) :
    DI X (.Tuple elts kk tpos) (.Call (.Name "zip" p) [e, e2] [] pos) (fZip fa) := PI.imp (RZ.pi_zipA hg hm ha hs hpl) fun σ H R ⟨ρ, ds, ρ', E, eo, k⟩ => by
  unfold fZip at eo
  split at eo
  · rename_i rs ρ1 e1
    split at eo
    · rename_i xs ys e2
      cases eo
      refine ⟨ρ, rs, _, E, e1, fun vs H1 p1 r1 => ?_⟩
      obtain ⟨ds0, e20, e21⟩ := Option.map_eq_some_iff.mp e2
      have r10 := Reps.wk (r1.vals e20)
      rw [e21] at r10
      obtain ⟨v, u, e3, h1, h2⟩ := r10.two
      obtain ⟨a, vs1, e4, h3, h4⟩ := h1
      obtain ⟨b, vs2, e5, h5, h6⟩ := h2
      exact ⟨a, b, vs1, vs2, by rw [e3, e4, e5], .inr ⟨h3, h5, k _ H1 p1 (it_zipT h3 h5 h4 h6)⟩⟩
    · rename_i xs ys e2
      cases eo
      refine ⟨ρ, rs, _, E, e1, fun vs H1 p1 r1 => ?_⟩
      obtain ⟨ds0, e20, e21⟩ := Option.map_eq_some_iff.mp e2
      have r10 := Reps.wk (r1.vals e20)
      rw [e21] at r10
      obtain ⟨v, u, e3, h1, h2⟩ := r10.two
      obtain ⟨a, vs1, e4, ⟨o, h3⟩, h4⟩ := h1
      obtain ⟨b, vs2, e5, ⟨o', h5⟩, h6⟩ := h2
      have f3 : SqF X.K H1 a vs1 := .inl ⟨o, h3⟩
      have f5 : SqF X.K H1 b vs2 := .inl ⟨o', h5⟩
      exact ⟨a, b, vs1, vs2, by rw [e3, e4, e5], .inl ⟨f3.sq, f5.sq, k _ H1 p1 (it_zip f3 f5 h4 h6)⟩⟩
    · cases eo
  · cases eo
end
end DL

set_option Elab.async false
set_option linter.all false
set_option maxRecDepth 100000
set_option maxHeartbeats 2000000
namespace DL
open PySem PySem.Spec PyProof.Rows L2

/-! ### comprehensions -/
def wipeD (ρ : DEnv) : List Nat → DEnv
  | [] => ρ
  | v :: vs => (wipeD ρ vs).set v .un
def keepIm : Option Sl → Sl
  | some (.im d) => .im d
  | _ => .un
def resD (ρ0 ρ : DEnv) : List Nat → DEnv
  | [] => ρ
  | v :: vs => (resD ρ0 ρ vs).set v (keepIm ρ0[v]?)
section
variable {K : PySem.W.Frag} {w : World} {H H' H0 H1 H2 : Hp} {σ σ' : L2.St} {ρ ρ' ρ0 ρ1 ρ2 : DEnv} {d : D} {v : V}
/-- a slot is forgotten in both -/
theorem EnvR.wipe1 (E : EnvR K w σ ρ H) (i : Nat) : EnvR K w (σ.set i none) (ρ.set i .un) H := by
  have back : ∀ {j : Nat} {s : Sl}, (ρ.set i .un)[j]? = some s → s ≠ .un → j ≠ i ∧ ρ[j]? = some s := fun {j s} h n => by
    by_cases z : j = i
    · subst z
      by_cases hl : j < ρ.length
      · rw [List.getElem?_set_self hl] at h; exact (n (Option.some.inj h).symm).elim
      · rw [List.getElem?_eq_none (by rw [List.length_set]; omega)] at h; cases h
    · exact ⟨z, set_back h z⟩
  refine ⟨by rw [List.length_set, List.length_set]; exact E.len, fun j c h => ?_, fun j c h => ?_, fun j k c c' b h h' q q' => ?_⟩
  · obtain ⟨z, h1⟩ := back h (by intro e; cases e)
    rw [List.getElem?_set_ne (Ne.symm z)]; exact E.im j c h1
  · obtain ⟨z, h1⟩ := back h (by intro e; cases e)
    rw [List.getElem?_set_ne (Ne.symm z)]; exact E.mu j c h1
  · obtain ⟨z, h1⟩ := back h (by intro e; cases e)
    obtain ⟨z', h2⟩ := back h' (by intro e; cases e)
    exact E.ap j k c c' b h1 h2 (set_back q z) (set_back q' z')
theorem EnvR.wipes (E : EnvR K w σ ρ H) : ∀ vs : List Nat, EnvR K w (wipe σ vs) (wipeD ρ vs) H
  | [] => E
  | v :: vs => (EnvR.wipes E vs).wipe1 v
theorem EnvR.unwipe {vs : List Nat} (E : EnvR K w (wipe σ vs) ρ H) : EnvR K w σ ρ H := by
  refine ⟨by rw [← E.len, wipe_length], fun j c h => ?_, fun j c h => ?_, fun j k c c' b h h' q q' => ?_⟩
  · obtain ⟨v, h1, h2⟩ := E.im j c h
    exact ⟨v, (wipe_some h1).1, h2⟩
  · obtain ⟨v, h1, h2⟩ := E.mu j c h
    exact ⟨v, (wipe_some h1).1, h2⟩
  · obtain ⟨a, h1, _⟩ := E.mu j c h
    obtain ⟨a', h2, _⟩ := E.mu k c' h'
    have e1 := (wipe_some h1).1
    have e2 := (wipe_some h2).1
    rw [q] at e1; cases e1
    rw [q'] at e2; cases e2
    exact E.ap j k c c' _ h h' h1 h2
theorem wipeD_mu {i : Nat} {d : D} : ∀ {vs : List Nat}, (wipeD ρ vs)[i]? = some (.mu d) → ρ[i]? = some (.mu d) ∧ i ∉ vs
  | [], h => ⟨h, by simp⟩
  | v :: vs, h => by
    unfold wipeD at h
    by_cases z : i = v
    · subst z
      by_cases hl : i < (wipeD ρ vs).length
      · rw [List.getElem?_set_self hl] at h; cases h
      · rw [List.getElem?_eq_none (by rw [List.length_set]; omega)] at h; cases h
    · obtain ⟨h1, h2⟩ := wipeD_mu (set_back h z)
      exact ⟨h1, by simp only [List.mem_cons, not_or]; exact ⟨z, h2⟩⟩
theorem own_wipe {vs : List Nat} {a : Addr} (h : Own (wipe σ vs) (wipeD ρ vs) a) : Own σ ρ a := by
  obtain ⟨i, d, h1, h2⟩ := h
  exact ⟨i, d, (wipeD_mu h1).1, (wipe_some h2).1⟩
theorem own_unwipe {vs : List Nat} {a : Addr} (h : Own (wipe σ vs) ρ a) : Own σ ρ a := by
  obtain ⟨i, d, h1, h2⟩ := h
  exact ⟨i, d, h1, (wipe_some h2).1⟩
/-- a slot's data told again -/
theorem EnvR.tell (E : EnvR K w σ ρ H) {i : Nat} {s : Sl} (h : s = .un ∨ ∃ d v, s = .im d ∧ σ[i]? = some (some v) ∧ Rep K w H d v) : EnvR K w σ (ρ.set i s) H := by
  have nm : ∀ {j : Nat} {c : D}, (ρ.set i s)[j]? = some (.mu c) → ρ[j]? = some (.mu c) := fun {j c} q => by
    by_cases z : j = i
    · subst z
      by_cases hl : j < ρ.length
      · rw [List.getElem?_set_self hl] at q
        rcases h with h | ⟨d, v, h, _⟩ <;> (rw [h] at q; cases q)
      · rw [List.getElem?_eq_none (by rw [List.length_set]; omega)] at q; cases q
    · exact set_back q z
  refine ⟨by rw [List.length_set]; exact E.len, fun j c q => ?_, fun j c q => E.mu j c (nm q), fun j k c c' b q q' => E.ap j k c c' b (nm q) (nm q')⟩
  by_cases z : j = i
  · subst z
    by_cases hl : j < ρ.length
    · rw [List.getElem?_set_self hl] at q
      rcases h with h | ⟨d, v, h, h1, h2⟩
      · rw [h] at q; cases q
      · rw [h] at q; cases q; exact ⟨v, h1, h2⟩
    · rw [List.getElem?_eq_none (by rw [List.length_set]; omega)] at q; cases q
  · exact E.im j c (set_back q z)
theorem EnvR.res (E0 : EnvR K w σ ρ0 H0) (l : Le H0 H) (E : EnvR K w σ ρ H) : ∀ vs : List Nat, EnvR K w σ (resD ρ0 ρ vs) H
  | [] => E
  | v :: vs => by
    refine (EnvR.res E0 l E vs).tell ?_
    cases e : ρ0[v]? with
    | none => exact .inl rfl
    | some s =>
      cases s with
      | un => exact .inl rfl
      | mu d => exact .inl rfl
      | im d =>
        obtain ⟨u, h1, h2⟩ := E0.im v d e
        exact .inr ⟨d, u, rfl, h1, Rep.mono l _ _ h2⟩
theorem resD_mu {i : Nat} {d : D} : ∀ {vs : List Nat}, (resD ρ0 ρ vs)[i]? = some (.mu d) → ρ[i]? = some (.mu d)
  | [], h => h
  | v :: vs, h => by
    unfold resD at h
    by_cases z : i = v
    · subst z
      by_cases hl : i < (resD ρ0 ρ vs).length
      · rw [List.getElem?_set_self hl] at h
        have h := Option.some.inj h
        unfold keepIm at h
        split at h <;> cases h
      · rw [List.getElem?_eq_none (by rw [List.length_set]; omega)] at h; cases h
    · exact resD_mu (set_back h z)
theorem wipe_get {i : Nat} : ∀ {vs : List Nat}, i ∉ vs → (wipe σ vs)[i]? = σ[i]?
  | [], _ => rfl
  | v :: vs, h => by
    simp only [List.mem_cons, not_or] at h
    unfold wipe
    rw [List.getElem?_set_ne (Ne.symm h.1)]
    exact wipe_get h.2
theorem wipe_in {i : Nat} (hl : i < σ.length) : ∀ {vs : List Nat}, i ∈ vs → (wipe σ vs)[i]? = some none
  | v :: vs, h => by
    unfold wipe
    by_cases z : v = i
    · subst z
      rw [List.getElem?_set_self (by rw [wipe_length]; exact hl)]
    · rw [List.getElem?_set_ne z]
      rcases List.mem_cons.mp h with h | h
      · exact (z h.symm).elim
      · exact wipe_in hl h
theorem wipe_eq {vs S : List Nat} (hl : σ'.length = σ.length) (h : ∀ i, i ∉ S → σ'[i]? = (wipe σ vs)[i]?) (hs : ∀ i ∈ S, i ∈ vs) : wipe σ' vs = wipe σ vs := by
  apply List.ext_getElem?
  intro i
  by_cases hi : i ∈ vs
  · by_cases hl' : i < σ.length
    · rw [wipe_in hl' hi, wipe_in (by omega) hi]
    · rw [List.getElem?_eq_none (by rw [wipe_length]; omega), List.getElem?_eq_none (by rw [wipe_length]; omega)]
  · rw [wipe_get hi]
    exact h i (fun z => hi (hs i z))
end
/-- from the block's begin to a turn -/
structure TurnOk (K : PySem.W.Frag) (w : World) (σ : L2.St) (vs : List Nat) (ρ : DEnv) (H : Hp) (ρ' : DEnv) (H' : Hp) : Prop where
  env : EnvR K w (wipe σ vs) ρ' H'
  frm : ∀ a o, H a = some o → ¬ Own σ ρ a → H' a = some o
  own : ∀ a, Own (wipe σ vs) ρ' a → Own σ ρ a
  sub : ∀ (i : Nat) (d : D), ρ'[i]? = some (.mu d) → ∃ e, ρ[i]? = some (.mu e)
  dom : ∀ a, H' a = none → H a = none
section
variable {K : PySem.W.Frag} {w : World} {H H' H0 H1 H2 : Hp} {σ σ' : L2.St} {ρ ρ' ρ0 ρ1 ρ2 : DEnv} {d : D} {v : V} {vs : List Nat}
theorem TurnOk.post (E : EnvR K w σ ρ H) (t : TurnOk K w σ vs ρ H ρ' H') : Post K w σ ρ H (resD ρ ρ' vs) H' := by
  have l : Le H H' := by
    refine ⟨fun a xs e => t.frm a _ e fun o => ?_, fun a o u e => t.frm a _ e fun z => ?_⟩
    · obtain ⟨u, h1, h2⟩ := E.own_mut o
      rw [e] at h1; cases h1; exact h2
    · obtain ⟨u, h1, h2⟩ := E.own_mut z
      rw [e] at h1; cases h1; exact h2
  exact ⟨EnvR.res E l t.env.unwipe vs, t.frm, fun i d h => t.sub i d (resD_mu h), t.dom⟩
theorem TurnOk.start (E : EnvR K w σ ρ H) : TurnOk K w σ vs ρ H (wipeD ρ vs) H :=
  ⟨E.wipes vs, fun _ _ h _ => h, fun a h => own_wipe h, fun i d h => ⟨d, (wipeD_mu h).1⟩, fun _ h => h⟩
/-- the iterator's new tuples -/
theorem TurnOk.grow (t : TurnOk K w σ vs ρ H ρ1 H1) (k : ∀ a o, H1 a = some o → H2 a = some o) : TurnOk K w σ vs ρ H ρ1 H2 :=
  ⟨t.env.grow k, fun a o h n => k a o (t.frm a o h n), t.own, t.sub, fun a h => t.dom a (by
    cases e : H1 a with
    | none => rfl
    | some o => rw [k a o e] at h; cases h)⟩
/-- a turn's end -/
theorem TurnOk.turn {S : List Nat} {σ2 : L2.St} (t : TurnOk K w σ vs ρ H ρ1 H1) (s : StoreOk K w S (wipe σ vs) ρ1 H1 σ2 ρ2) (hw : wipe σ2 vs = wipe σ vs) (p : Post K w σ2 ρ2 H1 ρ' H') : TurnOk K w σ vs ρ H (wipeD ρ' vs) H' := by
  refine ⟨by rw [← hw]; exact p.env.wipes vs, fun a o h n => p.frm a o (t.frm a o h n) fun z => n (t.own a (s.own a z)), fun a h => ?_, fun i d h => ?_, fun a h => t.dom a (p.dom a h)⟩
  · rw [← hw] at h
    exact t.own a (s.own a (p.own (own_wipe h)))
  · obtain ⟨e, h1⟩ := p.sub i d (wipeD_mu h).1
    exact t.sub i e (s.sub i e h1)
/-- the new object changes -/
theorem TurnOk.put {a : Addr} {u o : HO} (t : TurnOk K w σ vs ρ H ρ1 H1) (h0 : H a = none) (h : H1 a = some u) (mu : Mut (some u)) (n : ¬ Own (wipe σ vs) ρ1 a) : TurnOk K w σ vs ρ H ρ1 (upd H1 a o) :=
  ⟨t.env.wr h mu n, fun b ob hb hn => by rw [upd_ne (fun z => by subst z; rw [h0] at hb; cases hb)]; exact t.frm b ob hb hn, t.own, t.sub, fun b hb => by
    by_cases z : b = a
    · subst z; exact h0
    · rw [upd_ne z] at hb; exact t.dom b hb⟩
end
abbrev DTs (X : Cx) (ifs : List Expr) (f : FT) : Prop := PTs X ifs (bD X.K X.w f)
def fYes : FT := fun ρ => some (true, ρ)
theorem dts_nil {X : Cx} : DTs X [] fYes := ⟨fun _ _ _ H _ I ⟨ρ, b, ρ', E, e, k⟩ => by
  cases e
  exact wpAny_tests_nil ⟨H, I, k H (Post.refl E)⟩⟩
theorem dts_one {X : Cx} {c : Expr} {f : FT} (h : DT X c f) : DTs X [c] f := ⟨fun _ _ _ H Q I hw => wpAny_tests_one (h.run _ _ _ H Q I hw)⟩
def lcL (p : Pat) (ft : FT) (fe : FE) (vs : List Nat) : List D → DEnv → Option (List D × DEnv)
  | [], ρ => some ([], ρ)
  | d :: r, ρ => match p.store d ρ with
    | some ρ1 => match ft ρ1 with
      | some (true, ρ2) => match fe ρ2 with
        | some (.val y, ρ3) => match lcL p ft fe vs r (wipeD ρ3 vs) with
          | some (ys, ρ4) => some (y :: ys, ρ4)
          | none => none
        | _ => none
      | some (false, ρ2) => lcL p ft fe vs r (wipeD ρ2 vs)
      | none => none
    | none => none
def fLc (fi : FI) (p : Pat) (ft : FT) (fe : FE) (vs : List Nat) : FE := fun ρ => match fi ρ with
  | some (ds, ρ1) => match lcL p ft fe vs ds (wipeD ρ1 vs) with
    | some (ys, ρ2) => if ds.length ≤ 1000000 then some (.fresh (.lst ys), resD ρ1 ρ2 vs) else none
    | none => none
  | none => none
theorem lcL_len {p : Pat} {ft : FT} {fe : FE} {vs : List Nat} : ∀ {ds : List D} {ρ ρ' : DEnv} {ys : List D}, lcL p ft fe vs ds ρ = some (ys, ρ') → ys.length ≤ ds.length
  | [], _, _, _, e => by cases e; exact Nat.le_refl _
  | d :: r, ρ, ρ', ys, e => by
    simp only [lcL] at e
    split at e
    · split at e
      · split at e
        · split at e
          · rename_i ys' ρ4 e4
            cases e
            have := lcL_len e4
            simp; omega
          · cases e
        · cases e
      · have := lcL_len e
        simp; omega
      · cases e
    · cases e
section
variable {K : PySem.W.Frag} {w : World} {σ : L2.St} {H : Hp} {Q : VK} {fi : FI} {p : Pat} {ft : FT} {fe : FE} {vs : List Nat}
theorem lc_ok (hp : ∀ i ∈ p.slots, i ∈ vs) (h : tD K w (fLc fi p ft fe vs) σ H Q) : tLc (iD K w fi) (gD K w p) (bD K w ft) (tD K w fe) vs σ H Q := by
  obtain ⟨ρ, rv, ρ', E, e, k⟩ := h
  unfold fLc at e
  split at e
  · rename_i ds ρ1 e1
    split at e
    · rename_i ys ρ2 e2
      split at e
      · rename_i hlen
        cases e
        refine ⟨ρ, ds, ρ1, E, e1, fun J H1 p1 it L hL => ?_⟩
        -- the invariant
        refine ⟨fun i m H' => m = ds.length - i ∧ i ≤ ds.length ∧ Le H1 H' ∧ ∃ ρi acc us zs, TurnOk K w σ vs ρ1 H1 ρi H' ∧ ¬ Own (wipe σ vs) ρi L ∧ H' L = some (.lst us) ∧ Reps K w H' acc us ∧ acc.length ≤ i ∧ lcL p ft fe vs (ds.drop i) ρi = some (zs, ρ2) ∧ ys = acc ++ zs, ?_, ?_⟩
        · have kn := keep_new (o := .lst []) hL
          refine ⟨ds.length, by simp, Nat.zero_le _, ⟨fun a _ h => kn a _ h, fun a _ _ h => kn a _ h⟩, wipeD ρ1 vs, [], [], ys, (TurnOk.start p1.env).grow kn, fun z => ?_, upd_same, rfl, Nat.le_refl _, by simpa using e2, rfl⟩
          obtain ⟨u, h1, _⟩ := p1.env.own_mut (own_wipe z)
          rw [hL] at h1; cases h1
        · rintro i m H2 ⟨rfl, hle, l2, ρi, acc, us, zs, t, nL, hL2, ra, hacc, el, ey⟩
          by_cases hlt : i < ds.length
          · refine .inr ⟨it.go i H2 l2 hlt, fun H' => (Le H1 H' ∧ ∃ ρi acc us zs, TurnOk K w σ vs ρ1 H1 ρi H' ∧ ¬ Own (wipe σ vs) ρi L ∧ H' L = some (.lst us) ∧ Reps K w H' acc us ∧ acc.length ≤ i + 1 ∧ lcL p ft fe vs (ds.drop (i + 1)) ρi = some (zs, ρ2) ∧ ys = acc ++ zs),
              fun H' ⟨l', q⟩ => ⟨ds.length - (i + 1), by omega, rfl, hlt, l', q⟩, fun x H3 hy => ?_⟩
            have ed : ds[i]? = some ds[i] := List.getElem?_eq_getElem hlt
            obtain ⟨g3, r3⟩ := it.yld i H2 x H3 ds[i] l2 ed hy
            have l23 : Le H2 H3 := ⟨fun a _ h => g3 a _ h, fun a _ _ h => g3 a _ h⟩
            have t3 := t.grow g3
            have hL3 := g3 L _ hL2
            rw [List.drop_eq_getElem_cons hlt] at el
            simp only [lcL] at el
            split at el
            · rename_i ρ3 e3
              refine ⟨ρi, ds[i], ρ3, t3.env, r3, e3, fun σ3 s3 => ?_⟩
              have hw : wipe σ3 vs = wipe σ vs := wipe_eq (by rw [s3.len, wipe_length]) s3.oth hp
              refine ⟨hw, ?_⟩
              split at el
              · rename_i ρ4 e4
                split at el
                · rename_i y ρ5 e5
                  split at el
                  · rename_i zs' ρ6 e6
                    cases el
                    refine ⟨ρ3, true, ρ4, s3.env, e4, fun H4 p4 => ?_⟩
                    refine iteT ?_
                    refine ⟨ρ4, _, ρ5, p4.env, e5, fun v5 H5 p5 r5 => ?_⟩
                    have p45 := p4.trans p5
                    have nL3 : ¬ Own σ3 ρ3 L := fun z => nL (s3.own L z)
                    have hL5 := p45.frm L _ hL3 nL3
                    have l35 : Le H3 H5 := p45.le s3.env
                    have r5 : Rep K w H5 y v5 := r5
                    have t5 := t3.turn s3 hw p45
                    have nL5 : ¬ Own (wipe σ vs) (wipeD ρ5 vs) L := fun z => nL3 (p45.own (own_wipe (by rw [hw]; exact z)))
                    have lw : Le H5 (upd H5 L (.lst (us ++ [v5]))) := Le.wr hL5 trivial
                    refine ⟨us, hL5, ?_, ?_, wipeD ρ5 vs, acc ++ [y], us ++ [v5], zs', t5.put hL hL5 trivial nL5, nL5, upd_same, ?_, ?_, e6, ?_⟩
                    · rw [← ra.length]; have := line_of (n := acc.length + 1) (by omega); omega
                    · exact ((l2.trans l23).trans l35).trans lw
                    · exact Reps.mono lw _ _ ((Reps.mono (l23.trans l35) _ _ ra).snoc r5)
                    · simp; omega
                    · rw [ey]; simp
                  · cases el
                · cases el
              · rename_i ρ4 e4
                refine ⟨ρ3, false, ρ4, s3.env, e4, fun H4 p4 => ?_⟩
                refine iteF ?_
                have nL3 : ¬ Own σ3 ρ3 L := fun z => nL (s3.own L z)
                have l34 : Le H3 H4 := p4.le s3.env
                have t4 := t3.turn s3 hw p4
                have nL4 : ¬ Own (wipe σ vs) (wipeD ρ4 vs) L := fun z => nL3 (p4.own (own_wipe (by rw [hw]; exact z)))
                exact ⟨(l2.trans l23).trans l34, wipeD ρ4 vs, acc, us, zs, t4, nL4, p4.frm L _ hL3 nL3, Reps.mono (l23.trans l34) _ _ ra, by omega, el, ey⟩
              · cases el
            · cases el
          · have ei : i = ds.length := by omega
            subst ei
            refine .inl ⟨it.stop H2 l2, ?_⟩
            rw [List.drop_length] at el
            simp only [lcL] at el
            cases el
            rw [List.append_nil] at ey
            subst ey
            exact k _ H2 (p1.trans (t.post p1.env)) ⟨L, rfl, p1.dom L hL, us, hL2, ra⟩
      · cases e
    · cases e
  · cases e
end
end DL

set_option Elab.async false
set_option linter.all false
set_option maxRecDepth 100000
set_option maxHeartbeats 2000000
namespace DL
open PySem PySem.Spec PyProof.Rows L2

section
variable {X : Cx}
theorem de_lc {elt tg iter : Expr} {ifs : List Expr} {scope : Scope} {own : List (Str × Nat)} {pos : Pos} {fi : FI} {p : Pat} {ft : FT} {fe : FE} (hc : X.calm = true) (hN : X.N.Nodup) (hi : DI X tg iter fi) (ok : BlkOk X.N X.env.scope scope own)
    (hg : ∀ (s : Shared) (H : Hp) (C : Addr) (cl : List (Str × Addr)) (fp : List Addr), DG (X.blk s H scope (compEnvC scope cl C X.env) fp) tg p) (ht : ∀ (s : Shared) (H : Hp) (C : Addr) (cl : List (Str × Addr)) (fp : List Addr), DTs (X.blk s H scope (compEnvC scope cl C X.env) fp) ifs ft)
    (he : ∀ (s : Shared) (H : Hp) (C : Addr) (cl : List (Str × Addr)) (fp : List Addr), DE (X.blk s H scope (compEnvC scope cl C X.env) fp) elt fe) (hp : ∀ i ∈ p.slots, i ∈ own.map (·.2) := by decide) (hs : ∀ x, foldedSetIterable iter X.env x = pure x := by intro _; rfl) :
    DE X (.ListComp elt [⟨tg, iter, ifs, 0⟩] scope pos) (fLc fi p ft fe (own.map (·.2))) := PE.imp (pe_lc hc hN hi ok hg ht he hs) fun σ H Q h => lc_ok hp h
/-- behind a statement a slot's object is locked -/
def gFz (i : Nat) (f : FS) : FS := fun ρ => match f ρ with
  | some (.nx ρ1) => match ρ1[i]? with
    | some (.mu d) => some (.nx (ρ1.set i (.im d)))
    | _ => none
  | o => o
theorem ps_fzD {st : Stmt} {t : TS} (h : PS X st t) : PS X st fun D σ H => t { D with nx := fun σ' H' => ∃ a u, H' a = some u ∧ Mut (some u) ∧ ∀ o, D.nx σ' (upd H' a (.frz o u)) } σ H := by
  refine ⟨fun pins s σ H D I q => thn (h.run pins s σ H _ I q) fun f s1 q1 => ?_⟩
  cases f with
  | next =>
    obtain ⟨σ1, H1, I1, a, u, h1, mu, k⟩ := q1
    obtain ⟨od, I2⟩ := I1.lock h1 mu
    exact ⟨σ1, _, I2, k od⟩
  | brk => exact q1
  | cont => exact q1
  | ret v => exact q1
theorem ds_fz {P : List Nat} {W : WD} {st : Stmt} {f : FS} (i : Nat) (h : DS X P W st f) : DS X P W st (gFz i f) := PS.imp (ps_fzD h) fun D σ H ⟨ρ, o, E, e, k⟩ => by
  unfold gFz at e
  split at e
  · rename_i ρ1 e1
    split at e
    · rename_i d e2
      cases e
      refine ⟨ρ, _, E, e1, fun σ1 H1 p1 => ?_⟩
      obtain ⟨a, h1, m⟩ := p1.env.mu i d e2
      obtain ⟨u, h3, mu, fr⟩ := m.frozen
      refine ⟨a, u, h3, mu, fun ob => k σ1 _ ?_⟩
      have ho : Own σ1 ρ1 a := ⟨i, d, e2, h1⟩
      refine p1.trans (Post.s (P := P) ⟨p1.env.lock e2 h1 fun H2 h4 h5 => ?_, fun b ob' hb hn => ?_, fun j c hj => ?_, fun b hb => ?_⟩)
      · have e3 : H2 = upd H1 a (.frz ob u) := by
          funext b
          by_cases z : b = a
          · subst z; rw [h5, upd_same]
          · rw [h4 b z, upd_ne z]
        rw [e3]; exact fr ob
      · rw [upd_ne (fun z => hn (by subst z; exact ho))]; exact hb
      · by_cases z : j = i
        · subst z
          rw [List.getElem?_set_self (List.getElem?_eq_some_iff.mp e2).1] at hj; cases hj
        · rw [List.getElem?_set_ne (Ne.symm z)] at hj; exact ⟨c, hj⟩
      · by_cases hz : b = a
        · subst hz; rw [upd_same] at hb; cases hb
        · rw [upd_ne hz] at hb; exact hb
    · cases e
  · rename_i o' hne
    refine ⟨ρ, o, E, e, ?_⟩
    cases o with
    | nx ρ1 => exact (hne ρ1 e).elim
    | _ => exact k
theorem ds_setLc {P : List Nat} {W : WD} {i : Nat} {y : Str} {py : Pos} {elt tg iter : Expr} {ifs : List Expr} {scope : Scope} {own : List (Str × Nat)} {pos spos : Pos} {fi : FI} {p : Pat} {ft : FT} {fe : FE} (hc : X.calm = true) (hN : X.N.Nodup) (hy : X.N[i]? = some y) (hyl : X.env.scope.names.lookup y = some .local)
    (hsw : swapsWith (.ListComp elt [⟨tg, iter, ifs, 0⟩] scope pos) (some (.Name y py)) spos.line X.env = pure true) (hi : DI X tg iter fi) (ok : BlkOk X.N X.env.scope scope own)
    (hg : ∀ (s : Shared) (H : Hp) (C : Addr) (cl : List (Str × Addr)) (fp : List Addr), DG (X.blk s H scope (compEnvC scope cl C X.env) fp) tg p) (ht : ∀ (s : Shared) (H : Hp) (C : Addr) (cl : List (Str × Addr)) (fp : List Addr), DTs (X.blk s H scope (compEnvC scope cl C X.env) fp) ifs ft)
    (he : ∀ (s : Shared) (H : Hp) (C : Addr) (cl : List (Str × Addr)) (fp : List Addr), DE (X.blk s H scope (compEnvC scope cl C X.env) fp) elt fe) (hp : ∀ i ∈ p.slots, i ∈ own.map (·.2) := by decide) (hP : i ∉ P := by decide) (hs : ∀ x, foldedSetIterable iter X.env x = pure x := by intro _; rfl) :
    DS X P W (.Assign [.Name y py] (.ListComp elt [⟨tg, iter, ifs, 0⟩] scope pos) spos) (gSet i (fLc fi p ft fe (own.map (·.2)))) := PS.imp (ps_setLc hc hN hy hyl hsw hi ok hg ht he hs) fun D σ H h => lc_ok hp (set_ok hP D σ H h)
end
/-! ### {k: v for ..}, the keys tuples -/
def dputT : D → D → D → Option D
  | .dic ks ds, k, d => match keyT k with
    | some n => if ks.length < 1000000 then some (if (dfind ks ds n).isSome then .dic ks (dset ks ds n d) else .dic (ks ++ [k]) (ds ++ [d])) else none
    | none => none
  | _, _, _ => none
section
variable {X : Cx} {pins : List (Addr × Obj)} {σ : L2.St} {H : Hp} {s : Shared}
theorem dd_dictSet {A : Around} {E : Value → Shared → Prop} {Q : Unit → Shared → Prop} (hu : A.units + 64 < cLine) (I : Inv X pins σ H s) {dx dk d c : D} {a : Addr} {y z : V} {u r : Value} (m : RepM X.K X.w H a dx) (by' : RepB X.K X.w H dk y) (ry : RelV y u)
    (rz : RelV z r) (bz : Rep X.K X.w H d z) (e : dputT dx dk d = some c) (h : ∀ o s', RepM X.K X.w (upd H a o) a c → Inv X pins σ (upd H a o) s' → Q () s') : wpAny (model X.prog X.w) A (dictSet a u r) Q E s := by
  unfold dputT at e
  split at e
  · split at e
    · split at e
      · rename_i ks ds _ n en hlen
        have e := Option.some.inj e
        obtain ⟨kvs, h1, h2, h3, h4⟩ := m
        have hr : DicR X.K X.w H ks ds kvs := ⟨h2, h3, h4⟩
        obtain ⟨q, e3, e4, rk, hk⟩ := key_is I by' ry en
        subst e4
        obtain ⟨xs, hm, pe, sm, sz, nd, dp⟩ := dh_heap I (.inl h1) hr
        obtain ⟨ev, hdp, _⟩ := keyT_some en
        have hz : xs.length ≤ sizeLine := by rw [← Paired.length pe]; exact sz
        have hkl : ks.length = kvs.length := by have := h3.length; rwa [List.length_map] at this
        refine wpAny_dictSet_heap (hsz := hz) (show A.units + 8 < cLine by omega) hk hm fun h' dd' hs => ?_
        obtain ⟨ob, es, ep, hq, g2, g3, g4, _, g5⟩ := dd'
        have le : Le H (upd H a (dH X.w a (kput kvs n q z))) := Le.wr h1 trivial
        obtain ⟨ks', ds', ec, hr'⟩ := DicR.put (K := X.K) (w := X.w) (n := n) rk ev bz hr
        rw [ec] at e
        subst e
        have pe' : PrE (kput kvs n q z) (storedH xs n q r) := PrE.put rz pe
        have ok : DhOk X.w a (kput kvs n q z) h' := by
          refine ⟨⟨ob, es, ep, _, hq, g2, g3, g4, pe'⟩, ?_, fun x hx => ?_, ?_, sm⟩
          · rw [PrE.keys pe']; exact g5
          · have hx' : x.1 ∈ (kput kvs n q z).map (·.1) := List.mem_map.mpr ⟨x, hx, rfl⟩
            rw [kput_keys] at hx'
            split at hx'
            · obtain ⟨x2, m1, m2⟩ := List.mem_map.mp hx'; rw [← m2]; exact dp x2 m1
            · rcases List.mem_append.mp hx' with hx' | hx'
              · obtain ⟨x2, m1, m2⟩ := List.mem_map.mp hx'; rw [← m2]; exact dp x2 m1
              · rw [List.mem_singleton.mp hx']; exact hdp
          · have := kput_len (kvs := kvs) (n := n) (q := q) (v := z)
            have l2 : (1000000 : Nat) < sizeLine := by rw [sizeLine_eq]; decide
            omega
        refine h (dH X.w a (kput kvs n q z)) _ ⟨_, upd_same, hr'.keys, Reps.mono le _ _ hr'.ks, Reps.mono le _ _ hr'.vs⟩ ?_
        refine d_write I (by rw [h1]; exact True.intro) hs ⟨ob, hq⟩ ⟨ok, ⟨ob, hq⟩, fun g1' g2' k1 k2 => ?_⟩
        obtain ⟨⟨o, es, ep, xs, q1, q2⟩, a1, a2, a3, a4⟩ := k1
        exact ⟨⟨o, es, ep, xs, k2 o q1, q2⟩, a1, a2, a3, a4⟩
      · cases e
    · cases e
  · cases e
end
section
variable {X : Cx}
def tDcD (K : PySem.W.Frag) (w : World) (wi : TI) (g : TG) (tt : TT) (tk tv : TE) (vs : List Nat) : TE := fun σ H Q => wi σ H fun J H1 => ∀ D, H1 D = none → ∃ W : Nat → Nat → Hp → Prop, (∃ m, W 0 m (upd H1 D (dH w D []))) ∧ ∀ i m H, W i m H →
  (J.stop i H ∧ Q (.ref D) H) ∨ (J.go i H ∧ ∃ Nx : Hp → Prop, (∀ H', Nx H' → ∃ m', m' < m ∧ W (i + 1) m' H') ∧ ∀ x H', J.yld i H x H' → g x (wipe σ vs) H' fun σ2 H2 => wipe σ2 vs = wipe σ vs ∧ tt σ2 H2 fun b H3 =>
    if b = true then tk σ2 H3 fun y H4 => tv σ2 H4 fun z H5 => ∃ c dk dd c', RepM K w H5 D c ∧ RepB K w H5 dk y ∧ Rep K w H5 dd z ∧ dputT c dk dd = some c' ∧ ∀ ob, RepM K w (upd H5 D ob) D c' → Nx (upd H5 D ob) else Nx H3)
theorem dc_coreD {pins : List (Addr × Obj)} {s : Shared} {σ : L2.St} {H : Hp} {Q : VK} {kx vx tg iter : Expr} {ifs : List Expr} {scope : Scope} {own : List (Str × Nat)} {pos pos' : Pos} {wi : TI} {g : TG} {tt : TT} {tk tv : TE} {use : Option (Value → Sem Unit)} {Qf : Value → Shared → Prop}
    (hu : X.A.units + 64 < cLine) (hc : X.calm = true) (hN : X.N.Nodup) (I : Inv X pins σ H s) (hi : PI X tg iter wi) (ok : BlkOk X.N X.env.scope scope own)
    (hg : ∀ (s : Shared) (H : Hp) (C : Addr) (cl : List (Str × Addr)) (fp : List Addr), PG (X.blk s H scope (compEnvC scope cl C X.env) fp) tg g) (ht : ∀ (s : Shared) (H : Hp) (C : Addr) (cl : List (Str × Addr)) (fp : List Addr), PTs (X.blk s H scope (compEnvC scope cl C X.env) fp) ifs tt)
    (hk : ∀ (s : Shared) (H : Hp) (C : Addr) (cl : List (Str × Addr)) (fp : List Addr), PE (X.blk s H scope (compEnvC scope cl C X.env) fp) kx tk)
    (he : ∀ (s : Shared) (H : Hp) (C : Addr) (cl : List (Str × Addr)) (fp : List Addr), PE (X.blk s H scope (compEnvC scope cl C X.env) fp) vx tv) (hs : ∀ x, foldedSetIterable iter X.env x = pure x)
    (h : tDcD X.K X.w wi g tt tk tv (own.map (·.2)) σ H Q)
    (hRR : ∀ D C s' m H', Inv X pins σ H' s' → Q (.ref D) H' → s'.heap.Ns C m → FpOk X pins H' C → compPost (model X.prog X.w) X.A X.xe use Qf (.ref D) C (.ok .next) s') :
    wpAny (model X.prog X.w) X.A (comprehension (.DictComp kx vx [⟨tg, iter, ifs, 0⟩] scope pos) scope X.env pos' newDict false (eval iter X.env) use) Qf X.xe s := by
  have hfree : ∀ y ∈ scope.names, y.2 = .free → ∃ c, X.env.cells.lookup y.1 = some c := fun y hy e => by
    rcases ok.free y hy e with k | k
    · exact I.ok.has _ (.inl k)
    · exact I.ok.has _ (.inr k)
  refine wpAny_comprehension_free (use := use) rfl hs (closure_ok hfree) ok.kind (fun y hy e => by rw [ok.uniq y hy, e])
    (thn (hi.run pins s σ H _ I h) fun xv s1 hx => thn hx fun itv s2 h2 => ?_)
  obtain ⟨it, fp, tn, J, H2, e, I2, T, st2, f2, q⟩ := h2
  subst e
  refine wpAny_newObj_type (newEnv_comp ?_)
  generalize hD : s2.heap.objs.size = D
  have hDn : H2 D = none := I2.hok.fresh (Nat.le_of_eq hD)
  obtain ⟨W, ⟨m0, w0⟩, turn⟩ := q D hDn
  -- the new list
  generalize hs3 : ({ s2 with heap := s2.heap.push { cls := .type "dict", data := .dict #[] } } : Shared) = s3
  have I3 : Inv X pins σ (upd H2 D (dH X.w D [])) s3 := by
    rw [← hs3]
    refine I2.laid (t' := s2.toks) (fun b o e => Heap.get?_push_of_some _ e) (Nat.le_of_eq hD) ?_
    rw [← hD]
    exact dh_empty s2.heap I2.big
  have h3 : s3.heap = s2.heap.push { cls := .type "dict", data := .dict #[] } := by rw [← hs3]
  have sz : ∀ b ∈ fp, b < s2.heap.objs.size := fun b hb => by
    obtain ⟨o, e, _⟩ := T.obj _ _ st2 b hb
    exact Heap.lt_size e
  have f3 : ∀ b ∈ fp, FpOk X pins (upd H2 D (dH X.w D [])) b ∧ b < s3.heap.objs.size := fun b hb => by
    have hlt := sz b hb
    refine ⟨⟨?_, (f2 b hb).2⟩, by rw [h3, Heap.size_push]; exact Nat.lt_succ_of_lt hlt⟩
    rw [upd_ne (by rw [← hD]; exact Nat.ne_of_lt hlt)]
    exact (f2 b hb).1
  have st3 : tn 0 s3.heap := T.keep _ _ _ st2 fun b _ o e => by rw [h3]; exact Heap.get?_push_of_some _ e
  have I4 := block_start I3 ok hN f3
  have pg := hg s3 (upd H2 D (dH X.w D [])) s3.heap.objs.size (cellsFrom (s3.heap.objs.size + 1) scope.names (cloFrom X.env.cells scope.names [])) fp
  have pt := ht s3 (upd H2 D (dH X.w D [])) s3.heap.objs.size (cellsFrom (s3.heap.objs.size + 1) scope.names (cloFrom X.env.cells scope.names [])) fp
  have pk := hk s3 (upd H2 D (dH X.w D [])) s3.heap.objs.size (cellsFrom (s3.heap.objs.size + 1) scope.names (cloFrom X.env.cells scope.names [])) fp
  have pe := he s3 (upd H2 D (dH X.w D [])) s3.heap.objs.size (cellsFrom (s3.heap.objs.size + 1) scope.names (cloFrom X.env.cells scope.names [])) fp
  show codeAny _ _ (.compStart (.DictComp kx vx [⟨tg, iter, ifs, 0⟩] scope pos) 0 (.ref it) (.ref D) (compEnvC scope (cellsFrom (s3.heap.objs.size + 1) scope.names (cloFrom X.env.cells scope.names [])) s3.heap.objs.size X.env)) (compPost (model X.prog X.w) X.A X.xe use Qf (.ref D) s3.heap.objs.size) { s3 with heap := pushCells (s3.heap.push { cls := .type "dict", data := .dict #[] }) scope.names }
  have nfp : ∀ b ∈ fp, (upd H2 D (dH X.w D [])) b = none := fun b hb => (f3 b hb).1.1
  generalize hce : compEnvC scope (cellsFrom (s3.heap.objs.size + 1) scope.names (cloFrom X.env.cells scope.names [])) s3.heap.objs.size X.env = ce at I4 pg pt pk pe ⊢
  have cL : ce.locals = s3.heap.objs.size := by subst hce; rfl
  generalize hH3 : upd H2 D (dH X.w D []) = H3 at I3 I4 pg pt pk pe w0 nfp f3
  generalize hs4 : ({ s3 with heap := pushCells (s3.heap.push { cls := .type "dict", data := .dict #[] }) scope.names } : Shared) = s4 at I4 ⊢
  have st4 : tn 0 s4.heap := T.keep _ _ _ st3 fun b _ o e => by rw [← hs4]; exact pushCells_keeps _ _ _ _ (Heap.get?_push_of_some _ e)
  have stat : ∀ {σ' : L2.St} {H' : Hp} {s' : Shared}, Inv (X.blk s3 H3 scope ce fp) [] σ' H' s' → (∀ b ∈ fp, H' b = none) → ∀ b ∈ fp, FpOk (X.blk s3 H3 scope ce fp) [] H' b := fun {σ' H' s'} I' hn b hb =>
    ⟨hn b hb, (I'.ok.exf b hb).1, I'.ok.exfs b hb, .inl hb, fun x c e => (I'.ok.exf b hb).2 x c e, fun p hp => absurd (show p ∈ ([] : List (Addr × Obj)) ++ [] from hp) (by simp)⟩
  have loop : codeAny (model X.prog X.w) X.A (.compLoop (.DictComp kx vx [⟨tg, iter, ifs, 0⟩] scope pos) 0 (.ref it) (.ref D) ce) (compPost (model X.prog X.w) X.A X.xe use Qf (.ref D) s3.heap.objs.size) s4 := by
    refine compLoop_anyD (fun n s' => ∃ i H', Inv (X.blk s3 H3 scope ce fp) [] (wipe σ (own.map (·.2))) H' s' ∧ tn i s'.heap ∧ (∀ b ∈ fp, H' b = none) ∧ W i n H') ?_ m0 ⟨0, H3, I4, st4, nfp, w0⟩
    rintro n s5 ⟨i, H5, I5, st5, n5, w5⟩
    rcases turn i n H5 w5 with ⟨stop, qq⟩ | ⟨go, Nx, hNx, step⟩
    · have td := T.done (X.blk s3 H3 scope ce fp) rfl rfl rfl hc i [] s5 _ H5 (fun _ _ => False) I5 (stat I5 n5) st5 stop
      refine thnF td fun r s6 ⟨hr, I6⟩ => ?_
      subst hr
      -- back in the def's context
      have I7 : Inv X pins σ H5 s6 := I3.call' (ch := fp) I6.os I6.base I6.hok I6.bare fun b hb => ⟨(f3 b hb).1.2.2.2.1, (f3 b hb).1.2.1, (f3 b hb).1.2.2.2.2.1, (f3 b hb).1.2.2.2.2.2⟩
      have nC : H5 s3.heap.objs.size = none := by
        have z : H5 ce.locals = none := I6.free
        rw [cL] at z
        exact z
      obtain ⟨m, hn, _⟩ := I6.loc
      have hn : s6.heap.Ns ce.locals m := hn
      rw [cL] at hn
      exact hRR D s3.heap.objs.size s6 m H5 I7 qq hn (I3.fpOk (Nat.le_refl _) nC)
    · have ti := T.item (X.blk s3 H3 scope ce fp) rfl rfl rfl hc i [] s5 _ H5 (fun _ _ => False) I5 (stat I5 n5) st5 go
      refine thnF ti fun r s6 ⟨u, hr, h6⟩ => ?_
      subst hr
      refine thnF h6 fun _ s7 ⟨x, H7, I7, r7, y7, st7, n7⟩ => ?_
      have I7' := I7.pinned (stat I7 n7) (T.obj _ _ st7)
      refine thnF (pg.run _ s7 _ H7 x u _ I7' r7 (step x H7 y7)) fun _ s8 ⟨σ8, H8, I8, hw8, q8⟩ => ?_
      refine thnF (pt.run _ s8 σ8 H8 _ I8 q8) fun b s9 ⟨H9, I9, q9⟩ => ?_
      -- the turn's end
      have fin : ∀ {s' : Shared} {H' : Hp}, Inv (X.blk s3 H3 scope ce fp) ([] ++ pinsAt fp s7.heap) σ8 H' s' → Nx H' → ∃ m, m < n ∧ ∃ i H', Inv (X.blk s3 H3 scope ce fp) [] (wipe σ (own.map (·.2))) H' s' ∧ tn i s'.heap ∧ (∀ b ∈ fp, H' b = none) ∧ W i m H' := fun {s' H'} I' nx => by
        obtain ⟨m', hm, w'⟩ := hNx H' nx
        have pin' : ∀ b ∈ fp, ∀ o, s7.heap.get? b = some o → s'.heap.get? b = some o ∧ H' b = none := fun b hb o e =>
          let z := I'.pin (b, o) (List.mem_append_right _ (List.mem_append_right _ (mem_pinsAt hb e)))
          ⟨z.1, z.2.1⟩
        have hl : (wipe σ (own.map (·.2))).length = σ8.length := by rw [← hw8, wipe_length]
        refine ⟨m', hm, i + 1, H', (I'.unpinned (pins := [])).weak hl (fun j v e => ?_), T.keep _ _ _ st7 fun b hb o e => (pin' b hb o e).1, fun b hb => ?_, w'⟩
        · rw [← hw8] at e
          exact (wipe_some e).1
        · obtain ⟨o, e, _⟩ := T.obj _ _ st7 b hb
          exact (pin' b hb o e).2
      cases b with
      | false =>
        simp only [Bool.false_eq_true, if_false] at q9 ⊢
        exact fin I9 q9
      | true =>
        simp only [if_true] at q9 ⊢
        refine thnF (pk.run _ s9 σ8 H9 _ I9 q9) fun z s10 ⟨yk, H10, I10, r10, q10⟩ => ?_
        refine thnF (pe.run _ s10 σ8 H10 _ I10 q10) fun z2 s11 ⟨yv, H11, I11, r11, c, dk, dd, c', m11, bk, bz, ep, nx⟩ => ?_
        exact dd_dictSet (X := X.blk s3 H3 scope ce fp) hu I11 m11 bk r10 r11 bz ep fun ob s12 m12 I12 => fin I12 (nx ob m12)
  exact codeAny_compStart_dict loop (T.self X.A 0 _ _ _ st4 loop)
/-- as a value -/
theorem pe_dcD {kx vx tg iter : Expr} {ifs : List Expr} {scope : Scope} {own : List (Str × Nat)} {pos : Pos} {wi : TI} {g : TG} {tt : TT} {tk tv : TE} (hu : X.A.units + 64 < cLine) (hc : X.calm = true) (hN : X.N.Nodup) (hi : PI X tg iter wi) (ok : BlkOk X.N X.env.scope scope own)
    (hg : ∀ (s : Shared) (H : Hp) (C : Addr) (cl : List (Str × Addr)) (fp : List Addr), PG (X.blk s H scope (compEnvC scope cl C X.env) fp) tg g) (ht : ∀ (s : Shared) (H : Hp) (C : Addr) (cl : List (Str × Addr)) (fp : List Addr), PTs (X.blk s H scope (compEnvC scope cl C X.env) fp) ifs tt)
    (hk : ∀ (s : Shared) (H : Hp) (C : Addr) (cl : List (Str × Addr)) (fp : List Addr), PE (X.blk s H scope (compEnvC scope cl C X.env) fp) kx tk)
    (he : ∀ (s : Shared) (H : Hp) (C : Addr) (cl : List (Str × Addr)) (fp : List Addr), PE (X.blk s H scope (compEnvC scope cl C X.env) fp) vx tv) (hs : ∀ x, foldedSetIterable iter X.env x = pure x := by intro _; rfl) :
    PE X (.DictComp kx vx [⟨tg, iter, ifs, 0⟩] scope pos) (tDcD X.K X.w wi g tt tk tv (own.map (·.2))) := by
  refine ⟨fun pins s σ H Q I h => ?_⟩
  rw [arm_eval_DictComp]
  refine dc_coreD hu hc hN I hi ok hg ht hk he hs h fun D C s' m H' I' q hn f => ⟨m, hn, fun h'' sb => ?_⟩
  obtain ⟨f0, f1, f2, f3, f4, f5⟩ := f
  exact ⟨.ref D, H', I'.turned (t' := s'.toks) (fun b o hb e => (sb.2 b hb).trans e) f0 f1 f3 f4 f5, rfl, q⟩
end
def dcL (p : Pat) (ft : FT) (fk fv : FE) (vs : List Nat) : List D → D → DEnv → Option (D × DEnv)
  | [], c, ρ => some (c, ρ)
  | d :: r, c, ρ => match p.store d ρ with
    | some ρ1 => match ft ρ1 with
      | some (true, ρ2) => match fk ρ2 with
        | some (.val k, ρ3) => match fv ρ3 with
          | some (.val y, ρ4) => match dputT c k y with
            | some c' => dcL p ft fk fv vs r c' (wipeD ρ4 vs)
            | none => none
          | _ => none
        | _ => none
      | some (false, ρ2) => dcL p ft fk fv vs r c (wipeD ρ2 vs)
      | none => none
    | none => none
def fDc (fi : FI) (p : Pat) (ft : FT) (fk fv : FE) (vs : List Nat) : FE := fun ρ => match fi ρ with
  | some (ds, ρ1) => match dcL p ft fk fv vs ds (.dic [] []) (wipeD ρ1 vs) with
    | some (c, ρ2) => some (.fresh c, resD ρ1 ρ2 vs)
    | none => none
  | none => none
section
variable {K : PySem.W.Frag} {w : World} {σ : L2.St} {H : Hp} {Q : VK} {fi : FI} {p : Pat} {ft : FT} {fk fv : FE} {vs : List Nat}
theorem dc_ok (hp : ∀ i ∈ p.slots, i ∈ vs) (h : tD K w (fDc fi p ft fk fv vs) σ H Q) : tDcD K w (iD K w fi) (gD K w p) (bD K w ft) (tD K w fk) (tD K w fv) vs σ H Q := by
  obtain ⟨ρ, rv, ρ', E, e, k⟩ := h
  unfold fDc at e
  split at e
  · rename_i ds ρ1 e1
    split at e
    · rename_i c ρ2 e2
      cases e
      refine ⟨ρ, ds, ρ1, E, e1, fun J H1 p1 it L hL => ?_⟩
      refine ⟨fun i m H' => m = ds.length - i ∧ i ≤ ds.length ∧ Le H1 H' ∧ ∃ ρi acc, TurnOk K w σ vs ρ1 H1 ρi H' ∧ ¬ Own (wipe σ vs) ρi L ∧ RepM K w H' L acc ∧ dcL p ft fk fv vs (ds.drop i) acc ρi = some (c, ρ2), ?_, ?_⟩
      · have kn := keep_new (o := dH w L []) hL
        refine ⟨ds.length, by simp, Nat.zero_le _, ⟨fun a _ h => kn a _ h, fun a _ _ h => kn a _ h⟩, wipeD ρ1 vs, .dic [] [], (TurnOk.start p1.env).grow kn, fun z => ?_, ⟨[], upd_same, rfl, rfl, rfl⟩, by simpa using e2⟩
        obtain ⟨u, h1, _⟩ := p1.env.own_mut (own_wipe z)
        rw [hL] at h1; cases h1
      · rintro i m H2 ⟨rfl, hle, l2, ρi, acc, t, nL, mL, el⟩
        by_cases hlt : i < ds.length
        · refine .inr ⟨it.go i H2 l2 hlt, fun H' => (Le H1 H' ∧ ∃ ρi acc, TurnOk K w σ vs ρ1 H1 ρi H' ∧ ¬ Own (wipe σ vs) ρi L ∧ RepM K w H' L acc ∧ dcL p ft fk fv vs (ds.drop (i + 1)) acc ρi = some (c, ρ2)),
            fun H' ⟨l', q⟩ => ⟨ds.length - (i + 1), by omega, rfl, hlt, l', q⟩, fun x H3 hy => ?_⟩
          have ed : ds[i]? = some ds[i] := List.getElem?_eq_getElem hlt
          obtain ⟨g3, r3⟩ := it.yld i H2 x H3 ds[i] l2 ed hy
          have l23 : Le H2 H3 := ⟨fun a _ h => g3 a _ h, fun a _ _ h => g3 a _ h⟩
          have t3 := t.grow g3
          obtain ⟨uL, hL2, muL⟩ := mL.at
          have hL3 := g3 L _ hL2
          rw [List.drop_eq_getElem_cons hlt] at el
          simp only [dcL] at el
          split at el
          · rename_i ρ3 e3
            refine ⟨ρi, ds[i], ρ3, t3.env, r3, e3, fun σ3 s3 => ?_⟩
            have hw : wipe σ3 vs = wipe σ vs := wipe_eq (by rw [s3.len, wipe_length]) s3.oth hp
            refine ⟨hw, ?_⟩
            have nL3 : ¬ Own σ3 ρ3 L := fun z => nL (s3.own L z)
            split at el
            · rename_i ρ4 e4
              split at el
              · rename_i dk ρ5 e5
                split at el
                · rename_i dy ρ6 e6
                  split at el
                  · rename_i c' e7
                    refine ⟨ρ3, true, ρ4, s3.env, e4, fun H4 p4 => ?_⟩
                    refine iteT ?_
                    refine ⟨ρ4, _, ρ5, p4.env, e5, fun v5 H5 p5 r5 => ?_⟩
                    refine ⟨ρ5, _, ρ6, p5.env, e6, fun v6 H6 p6 r6 => ?_⟩
                    have r5 : Rep K w H5 dk v5 := r5
                    have r6 : Rep K w H6 dy v6 := r6
                    have p46 := (p4.trans p5).trans p6
                    have hL6 := p46.frm L _ hL3 nL3
                    have l36 : Le H3 H6 := p46.le s3.env
                    have m6 : RepM K w H6 L acc := mL.mono (l23.trans l36) (hL6.trans hL2.symm)
                    have t6 := t3.turn s3 hw p46
                    have nL6 : ¬ Own (wipe σ vs) (wipeD ρ6 vs) L := fun z => nL3 (p46.own (own_wipe (by rw [hw]; exact z)))
                    refine ⟨acc, dk, dy, c', m6, Rep.b (Rep.mono (p6.le p5.env) _ _ r5), r6, e7, fun ob m7 => ?_⟩
                    have lw : Le H6 (upd H6 L ob) := Le.wr hL6 muL
                    exact ⟨((l2.trans l23).trans l36).trans lw, wipeD ρ6 vs, c', t6.put hL hL6 muL nL6, nL6, m7, el⟩
                  · cases el
                · cases el
              · cases el
            · rename_i ρ4 e4
              refine ⟨ρ3, false, ρ4, s3.env, e4, fun H4 p4 => ?_⟩
              refine iteF ?_
              have l34 : Le H3 H4 := p4.le s3.env
              have t4 := t3.turn s3 hw p4
              have nL4 : ¬ Own (wipe σ vs) (wipeD ρ4 vs) L := fun z => nL3 (p4.own (own_wipe (by rw [hw]; exact z)))
              exact ⟨(l2.trans l23).trans l34, wipeD ρ4 vs, acc, t4, nL4, mL.mono (l23.trans l34) ((p4.frm L _ hL3 nL3).trans hL2.symm), el⟩
            · cases el
          · cases el
        · have ei : i = ds.length := by omega
          subst ei
          refine .inl ⟨it.stop H2 l2, ?_⟩
          rw [List.drop_length] at el
          simp only [dcL] at el
          cases el
          exact k _ H2 (p1.trans (t.post p1.env)) ⟨L, rfl, p1.dom L hL, mL⟩
    · cases e
  · cases e
end
theorem de_dcT {X : Cx} {kx vx tg iter : Expr} {ifs : List Expr} {scope : Scope} {own : List (Str × Nat)} {pos : Pos} {fi : FI} {p : Pat} {ft : FT} {fk fv : FE} (hu : X.A.units + 64 < cLine) (hc : X.calm = true) (hN : X.N.Nodup) (hi : DI X tg iter fi) (ok : BlkOk X.N X.env.scope scope own)
    (hg : ∀ (s : Shared) (H : Hp) (C : Addr) (cl : List (Str × Addr)) (fp : List Addr), DG (X.blk s H scope (compEnvC scope cl C X.env) fp) tg p) (ht : ∀ (s : Shared) (H : Hp) (C : Addr) (cl : List (Str × Addr)) (fp : List Addr), DTs (X.blk s H scope (compEnvC scope cl C X.env) fp) ifs ft)
    (hk : ∀ (s : Shared) (H : Hp) (C : Addr) (cl : List (Str × Addr)) (fp : List Addr), DE (X.blk s H scope (compEnvC scope cl C X.env) fp) kx fk)
    (he : ∀ (s : Shared) (H : Hp) (C : Addr) (cl : List (Str × Addr)) (fp : List Addr), DE (X.blk s H scope (compEnvC scope cl C X.env) fp) vx fv) (hp : ∀ i ∈ p.slots, i ∈ own.map (·.2) := by decide) (hs : ∀ x, foldedSetIterable iter X.env x = pure x := by intro _; rfl) :
    DE X (.DictComp kx vx [⟨tg, iter, ifs, 0⟩] scope pos) (fDc fi p ft fk fv (own.map (·.2))) := PE.imp (pe_dcD hu hc hN hi ok hg ht hk he hs) fun σ H Q h => dc_ok hp h
end DL

set_option Elab.async false
set_option linter.all false
set_option maxRecDepth 100000
set_option maxHeartbeats 2000000
namespace DL
open PySem PySem.Spec PyProof.Rows L2

/-! ### list(d), sorted(..), dict(..), {k: v} -/
theorem refs_pr : ∀ {kvs : KE3} {xs : KX3}, PrE kvs xs → Vals (kvs.map fun x => V.ref x.2.1) (xs.map fun x => Value.ref x.2.1)
  | _, _, .nil => .nil
  | _, _, .cons (a := p) (b := x) r t => by
    rw [List.map_cons, List.map_cons]
    refine .cons ?_ (refs_pr t)
    rw [r.2.1]
    exact rfl
section
variable {X : Cx} {pins : List (Addr × Obj)} {σ : L2.St} {H : Hp} {s : Shared}
/-- the collected keys of a dict -/
theorem keys_acc {d : Addr} {xs : KX3} {kvs : KE3} (hm : s.heap.DictOfH (nestedKind X.prog X.w) d xs) (pe : PrE kvs xs) : ∃ es ep, s.heap.DictRaw d es ep ∧ es.size = xs.length ∧
    ∀ acc : Array Value, ItemsOf (fun i v => ∃ hi : i < es.size, v = es[i].key) acc es.size → Vals (kvs.map fun x => V.ref x.2.1) acc.toList := by
  obtain ⟨es, ep, hr, hz, hx⟩ := hm.raw
  refine ⟨es, ep, hr, hz, fun acc ha => ?_⟩
  have e : acc.toList = xs.map fun x => Value.ref x.2.1 := by
    apply List.ext_getElem?
    intro i
    rw [List.getElem?_map, Array.getElem?_toList]
    by_cases hi : i < es.size
    · obtain ⟨y, e1, e2, e3⟩ := hx i hi
      have ha' : i < acc.size := by rw [ha.1]; exact hi
      obtain ⟨hi', e4⟩ := ha.2 i acc[i] (by simp [ha'])
      rw [e1, Array.getElem?_eq_getElem ha', e4, e2]
      rfl
    · rw [Array.getElem?_eq_none (by rw [ha.1]; omega), List.getElem?_eq_none (by omega)]
      rfl
  rw [e]
  exact refs_pr pe
end
def listA : List D → Option RV
  | [.lst xs] => some (.fresh (.lst xs))
  | [.tup xs] => some (.fresh (.lst xs))
  | [.dic ks _] => some (.fresh (.lst ks))
  | [.dik ks _] => some (.fresh (.lst (ks.map keyD)))
  | _ => none
theorem keyD_reps {K : PySem.W.Frag} {w : World} {H : Hp} : ∀ ks : List Key, Reps K w H (ks.map keyD) (ks.map kV)
  | [] => rfl
  | .inl i :: ks => ⟨_, _, rfl, rfl, keyD_reps ks⟩
  | .inr i :: ks => ⟨_, _, rfl, rfl, keyD_reps ks⟩
theorem cr_listA {X : Cx} (hc : X.calm = true) : CallR X (.type "list") (cD X.K X.w listA) := by
  intro pins s σ H xs us Q I r ⟨ds, rv, b, e, k⟩
  unfold listA at e
  split at e
  · exact cr_listD pins s σ H xs us Q I r ⟨_, rv, b, e, k⟩
  · exact cr_listD pins s σ H xs us Q I r ⟨_, rv, b, e, k⟩
  · cases e
    obtain ⟨v, e1, b1⟩ := b.one
    obtain ⟨a, kvs, e2, h1, h2⟩ := b1.dic
    subst e1 e2
    obtain ⟨u, eu, rx⟩ := vals1 r
    subst eu
    cases rx
    obtain ⟨ys, hm, pe, sm, sz, nd, dp⟩ := dh_heap I h1 h2
    obtain ⟨es, ep, hr, hz, hv⟩ := keys_acc (X := X) hm pe
    have hl : kvs.length = ys.length := Paired.length pe
    refine PySem.W.kdl_call (KdlSrc.rawDict (es := es) (ep := ep) sm) (I.ok.hd hc) hr (by omega) fun h' tk acc c' hk hD hacc => ?_
    have hn := I.hok.fresh (Nat.le_refl s.heap.objs.size)
    refine ⟨.ref s.heap.objs.size, _, I.laid (a := s.heap.objs.size) (o := .lst (kvs.map fun x => V.ref x.2.1)) (t' := tk) hk (Nat.le_refl _) ⟨by rw [List.length_map]; exact sz, acc.toList, c', hv acc hacc, by rw [Array.toArray_toList]; exact hD⟩, rfl, ?_⟩
    exact k _ _ (keep_new hn) ⟨_, rfl, hn, _, upd_same, Reps.mono (le_new hn) _ _ h2.ks⟩
  · rename_i ks ds
    cases e
    obtain ⟨v, e1, b1⟩ := b.one
    obtain ⟨a, kvs, e2, h1, h2⟩ := b1.dik
    refine call_listD hc pins s σ H xs us Q I r ⟨a, kvs, by rw [e1, e2], h1, fun p hp => ?_⟩
    refine k _ _ (keep_new hp) ⟨_, rfl, hp, _, upd_same, ?_⟩
    have e3 := keyD_reps (K := X.K) (w := X.w) (H := upd H p (.lst (kvs.map fun kv => kV kv.1))) ks
    have e4 : ks.map kV = kvs.map (fun kv => kV kv.1) := by rw [h2.keys, List.map_map]; rfl
    rw [e4] at e3
    exact e3
  · cases e
/-! sorted -/
mutual
def encD : D → PyData
  | .int i => .int i
  | .bl b => .bool b
  | .str x => .str x
  | .tup xs => .tuple (encDs xs)
  | .tpp xs => .tuple (encDs xs)
  | _ => .none
def encDs : List D → List PyData
  | [] => []
  | d :: r => encD d :: encDs r
end
mutual
def flatD : D → Bool
  | .int _ => true
  | .bl _ => true
  | .str _ => true
  | .non => true
  | .tup xs => flatDs xs
  | .tpp xs => flatDs xs
  | _ => false
def flatDs : List D → Bool
  | [] => true
  | d :: r => flatD d && flatDs r
end
section
variable {X : Cx} {pins : List (Addr × Obj)} {σ : L2.St} {H : Hp} {s : Shared}
mutual
theorem reads_of (I : Inv X pins σ H s) : ∀ (d : D) (v : V) (u : Value), Rep X.K X.w H d v → RelV v u → flatD d = true → Reads s.heap u (encD d) []
  | .non, v, u, h, r, _ => by
    cases (show v = .non from h)
    cases r
    exact .none
  | .bl b, v, u, h, r, _ => by
    cases (show v = .bl b from h)
    cases r
    exact .bool b
  | .int i, v, u, h, r, _ => by
    cases (show v = .int i from h)
    obtain ⟨t, rfl⟩ := r
    exact .int i t
  | .str x, v, u, h, r, _ => by
    cases (show v = .str x from h)
    obtain ⟨t, rfl⟩ := r
    exact .str x t
  | .tup xs, v, u, h, r, e => by
    obtain ⟨a, vs, e3, h1, h2⟩ := h
    subst e3
    cases r
    obtain ⟨its, r, ⟨o, ho, hc, m, hd⟩, _⟩ := I.tuple h1
    exact .tuple ho hc hd (by simpa using reads_all I xs vs its h2 r (by simpa [flatD] using e))
  | .tpp xs, v, u, h, r, e => by
    obtain ⟨a, vs, e3, ⟨o', h1, h0⟩, h2⟩ := h
    subst e3
    cases r
    have h1 : SqT X.K H a vs := .inl (.inr ⟨o', h1⟩)
    obtain ⟨its, r, ⟨o, ho, hc, m, hd⟩, _⟩ := I.tuple h1
    exact .tuple ho hc hd (by simpa using reads_all I xs vs its h2 r (by simpa [flatD] using e))
  | .lst _, _, _, _, _, e => by simp [flatD] at e
  | .dic _ _, _, _, _, _, e => by simp [flatD] at e
  | .dik _ _, _, _, _, _, e => by simp [flatD] at e
  | .fn _, _, _, _, _, e => by simp [flatD] at e
  | .scr _, _, _, _, _, e => by simp [flatD] at e
theorem reads_all (I : Inv X pins σ H s) : ∀ (ds : List D) (vs : List V) (us : List Value), Reps X.K X.w H ds vs → Vals vs us → flatDs ds = true → ReadsAll s.heap us (encDs ds) []
  | [], vs, us, h, r, e => by
    cases (show vs = [] from h)
    cases r
    exact .nil
  | d :: ds, vs, us, h, r, e => by
    obtain ⟨v, vs', e4, h1, h2⟩ := h
    subst e4
    simp only [flatDs, Bool.and_eq_true] at e
    cases r with
    | cons r1 r2 => exact .cons (as := []) (bs := []) (reads_of I d v _ h1 r1 e.1) (reads_all I ds vs' _ h2 r2 e.2)
end
end
def depthD (d : D) : Nat := (encD d).depth
def sortableB (ds : List PyData) : Bool := (ds.all fun d => match d with
    | .tuple (_ :: _) => true
    | _ => false) || ds.all fun d => match d with
    | .none => false
    | .tuple _ => false
    | _ => true
theorem sortable_of {ds : List PyData} (h : sortableB ds = true) : PySem.W.Sortable ds := by
  unfold sortableB at h
  rw [Bool.or_eq_true, List.all_eq_true, List.all_eq_true] at h
  rcases h with h | h
  · refine .inl fun d hd => ?_
    have := h d hd
    split at this
    · exact ⟨_, _, rfl⟩
    · cases this
  · refine .inr fun d hd => ?_
    have := h d hd
    refine ⟨fun e => by subst e; exact absurd this (by simp), fun xs e => by subst e; exact absurd this (by simp)⟩
def okSort (ds : List D) : Bool := ds.all flatD && (ds.all fun x => ds.all fun y => PySem.W.alike (encD x) (encD y)) && sortableB (ds.map encD) && (ds.all fun d => decide (depthD d ≤ 8)) && decide (ds.length ≤ 1000000)
def sortL (ds : List D) : List D := ds.mergeSort (PySem.W.dataLe false encD)
def sortedA : List D → Option RV
  | [.lst xs] => if okSort xs then some (.fresh (.lst (sortL xs))) else none
  | [.dic ks _] => if okSort ks then some (.fresh (.lst (sortL ks))) else none
  | [.dik ks _] => if okSort (ks.map keyD) then some (.fresh (.lst (sortL (ks.map keyD)))) else none
  | _ => none
theorem eachIs_rep {K : PySem.W.Frag} {w : World} {H : Hp} : ∀ {ds : List D} {vs : List V} {us : List Value}, Reps K w H ds vs → Vals vs us → PySem.W.EachIs (fun u d => ∃ v, RelV v u ∧ Rep K w H d v) us ds
  | [], vs, us, h, r => by
    cases (show vs = [] from h)
    cases r
    exact .nil
  | d :: ds, vs, us, h, r => by
    obtain ⟨v, vs', e4, h1, h2⟩ := h
    subst e4
    cases r with
    | cons r1 r2 => exact .cons ⟨v, r1, h1⟩ (eachIs_rep h2 r2)
theorem rep_eachIs {K : PySem.W.Frag} {w : World} {H : Hp} : ∀ {ds : List D} {us : List Value}, PySem.W.EachIs (fun u d => ∃ v, RelV v u ∧ Rep K w H d v) us ds → ∃ vs, Reps K w H ds vs ∧ Vals vs us
  | _, _, .nil => ⟨[], rfl, .nil⟩
  | _, _, .cons ⟨v, r1, h1⟩ t => by
    obtain ⟨vs, h2, r2⟩ := rep_eachIs t
    exact ⟨v :: vs, ⟨v, vs, rfl, h1, h2⟩, .cons r1 r2⟩
theorem eachIs_mem {α β : Type} {R S : α → β → Prop} : ∀ {as : List α} {bs : List β}, PySem.W.EachIs R as bs → (∀ a b, b ∈ bs → R a b → S a b) → PySem.W.EachIs S as bs
  | _, _, .nil, _ => .nil
  | _, _, .cons h t, k => .cons (k _ _ List.mem_cons_self h) (eachIs_mem t fun a b hb r => k a b (List.mem_cons_of_mem _ hb) r)
section
variable {X : Cx} {pins : List (Addr × Obj)} {σ : L2.St} {H : Hp} {s : Shared} {E : Value → Shared → Prop} {Q : VK}
/-- the new list is laid and sorted -/
theorem sort_tail (hu : X.A.units + 64 < cLine) (I : Inv X pins σ H s) {ds : List D} {vs : List V} {us : List Value} (rd : Reps X.K X.w H ds vs) (rv : Vals vs us) (ok : okSort ds = true)
    (k : ∀ v H', (∀ a o, H a = some o → H' a = some o) → RepR X.K X.w [] H H' (.fresh (.lst (sortL ds))) v → Q v H') :
    wpAny (model X.prog X.w) X.A.in1 (do let l ← newList us; let _ ← holding [l] (call (.builtin "list.sort") [l] []); ret l) (fun f s' => ∃ v, f = .done (.ret v) ∧ EP X pins σ Q v s') E s := by
  unfold okSort at ok
  simp only [Bool.and_eq_true, List.all_eq_true, decide_eq_true_eq] at ok
  obtain ⟨⟨⟨⟨ok1, ok2⟩, ok3⟩, ok4⟩, ok5⟩ := ok
  have hl : us.length = ds.length := by rw [rd.length, rv.length]
  have hsz : us.length ≤ sizeLine := by rw [hl]; exact line_of ok5
  refine wpAny_bind (wpAny_newList ?_ hsz)
  have hoL : (s.heap.push (seqObj "list" us.toArray 0)).get? s.heap.objs.size = some (seqObj "list" us.toArray 0) := Heap.get?_push_size _ rfl
  show wpAny _ _ _ _ _ { s with heap := s.heap.push (seqObj "list" us.toArray 0) }
  have hn := I.hok.fresh (Nat.le_refl s.heap.objs.size)
  have kp : ∀ b o, s.heap.get? b = some o → (s.heap.push (seqObj "list" us.toArray 0)).get? b = some o := fun b o e => Heap.get?_push_of_some _ e
  have I1 : Inv X pins σ H { s with heap := s.heap.push (seqObj "list" us.toArray 0) } := I.kept (t' := s.toks) kp
  have er := eachIs_rep rd rv
  have al : PySem.W.AllAlike (ds.map encD) := by
    intro a ha b hb
    obtain ⟨x, hx, rfl⟩ := List.mem_map.mp ha
    obtain ⟨y, hy, rfl⟩ := List.mem_map.mp hb
    exact ok2 x hx y hy
  refine wpAny_bind (wpAny_holding (PySem.W.list_sort_data (R := fun u d => ∃ v, RelV v u ∧ Rep X.K X.w H d v) (enc := encD) (bs := ds) hoL er (eachIs_mem er fun u d hd ⟨v, r1, r2⟩ => ⟨[], reads_of I1 d v u r2 r1 (ok1 d hd), by simp⟩) al (sortable_of ok3) (line_of ok5)
    (fun b hb => by have := ok4 b hb; unfold depthD at this; rw [Around.in1_units]; omega) fun out ho eo => ?_))
  obtain ⟨ws, h2, r2⟩ := rep_eachIs eo
  obtain ⟨c, hc⟩ := sortedHeap_at (vs := us) (out := out.toArray) hoL
  have hlen : ws.length ≤ sizeLine := by rw [r2.length, ho]; exact line_of ok5
  refine wpAny_pure ⟨_, rfl, .ref s.heap.objs.size, upd H s.heap.objs.size (.lst ws), I.laid (t' := s.toks) (fun b u e => ?_) (Nat.le_refl _) ⟨hlen, out, c, r2, hc⟩, rfl, ?_⟩
  · have hb : b < s.heap.objs.size := Heap.lt_size e
    rw [PyProof.Rows.sortedHeap_old (Nat.ne_of_lt hb) (by rw [size_push']; exact Nat.lt_succ_of_lt hb)]
    exact Heap.get?_push_of_some _ e
  · exact k _ _ (keep_new hn) ⟨_, rfl, hn, ws, upd_same, Reps.mono (le_new hn) _ _ h2⟩
end

theorem cr_sortedA {X : Cx} (hu : X.A.units + 64 < cLine) (hc : X.calm = true) : CallR X (.builtin "sorted") (cD X.K X.w sortedA) := by
  intro pins s σ H xs us Q I r ⟨ds, rv, b, e, k⟩
  unfold sortedA at e
  split at e
  · split at e
    · rename_i ok
      cases e
      obtain ⟨v, e1, a, vs, e2, h1, h2⟩ := b.one
      subst e1 e2
      obtain ⟨u, eu, rx⟩ := vals1 r
      subst eu
      cases rx
      have hs : SqL X.K H a vs := .inl h1
      obtain ⟨its, rvv, hl, hz⟩ := I.list hs
      refine Calls.call_function_entry PyProof.Rows.kind_sorted PyProof.Rows.plain_sorted PyProof.Rows.entry_sorted (PyProof.Rows.args_sorted1 _) ?_
      unfold Builtin.«sorted»
      refine wpAny_bind (m := checkCount "sorted" 1 1 _) (wpAny_pure ?_)
      refine wpAny_bind (PyProof.Rows.collect_list hl.isList ?_ (by rw [← rvv.length]; exact hz))
      have kp : ∀ b o, s.heap.get? b = some o → ((s.heap.push (seqObj "list" #[] 0)).update s.heap.objs.size (Obj.mapSeq (· ++ its.toArray))).get? b = some o := fun b o e => by
        rw [Heap.get?_update_ne _ _ _ _ (Nat.ne_of_lt (Heap.lt_size e))]
        exact Heap.get?_push_of_some _ e
      exact sort_tail hu (I.kept (t' := s.toks) kp) h2 rvv ok k
    · cases e
  · split at e
    · rename_i ok
      cases e
      obtain ⟨v, e1, b1⟩ := b.one
      obtain ⟨a, kvs, e2, h1, h2⟩ := b1.dic
      subst e1 e2
      obtain ⟨u, eu, rx⟩ := vals1 r
      subst eu
      cases rx
      obtain ⟨ys, hm, pe, sm, sz, nd, dp⟩ := dh_heap I h1 h2
      obtain ⟨es, ep, hr, hz, hv⟩ := keys_acc (X := X) hm pe
      have hl : kvs.length = ys.length := Paired.length pe
      refine Calls.call_function_entry PyProof.Rows.kind_sorted PyProof.Rows.plain_sorted PyProof.Rows.entry_sorted (PyProof.Rows.args_sorted1 _) ?_
      unfold Builtin.«sorted»
      refine wpAny_bind (m := checkCount "sorted" 1 1 _) (wpAny_pure ?_)
      refine wpAny_bind (PySem.W.kdu_collect (A := X.A.in1) (KdlSrc.rawDict (es := es) (ep := ep) sm) (I.ok.hd hc) hr (by omega) fun h' tk acc hk hacc => ?_)
      exact sort_tail hu (I.kept hk) h2.ks (hv acc hacc) ok k
    · cases e
  · split at e
    · rename_i ks ds0 ok
      cases e
      obtain ⟨v, e1, b1⟩ := b.one
      obtain ⟨a, kvs, e2, h1, h2⟩ := b1.dik
      subst e1 e2
      obtain ⟨u, eu, rx⟩ := vals1 r
      subst eu
      cases rx
      obtain ⟨z, lo, vs, rel, dd⟩ := dk_rd I.hok h1
      obtain ⟨ep, hat⟩ := dd.dictAt
      refine Calls.call_function_entry PyProof.Rows.kind_sorted PyProof.Rows.plain_sorted PyProof.Rows.entry_sorted (PyProof.Rows.args_sorted1 _) ?_
      unfold Builtin.«sorted»
      refine wpAny_bind (m := checkCount "sorted" 1 1 _) (wpAny_pure ?_)
      refine wpAny_bind (PySem.W.kdu_collect (A := X.A.in1) (PySem.W.kdl_dict (knd := mixKind X.prog X.w) (kvs := vs) (ep := ep) lo) (I.ok.hd hc) hat (by rw [← rel.length]; exact z) fun h' tk acc hk hacc => ?_)
      have hv : Vals (vs.map fun p => kV p.1) acc.toList := keys_at (by rw [Array.length_toList]; exact hacc.1) fun j v e => hacc.2 j v (by rw [← Array.getElem?_toList]; exact e)
      have e4 : ks.map kV = vs.map (fun p => kV p.1) := by
        have e := congrArg (List.map kV) rel.keys
        rw [List.map_map, List.map_map] at e
        rw [h2.keys, List.map_map]
        exact e
      rw [← e4] at hv
      exact sort_tail hu (I.kept hk) (keyD_reps ks) hv ok k
    · cases e
  · cases e
/-! dict(d), dict of pairs -/
def hashOk (w : World) (ks : List D) : Prop := match keyV.keyVs ks with
  | some ns => (ns.map fun n => n.hash w).Nodup
  | none => False
def dictP : List D → D → Option D
  | [], c => some c
  | .tup [k, v] :: r, c => match dputT c k v with
    | some c' => dictP r c'
    | none => none
  | _ :: _, _ => none
open Classical in
noncomputable def dictA (w : World) : List D → Option RV
  | [.dic ks ds] => if hashOk w ks then some (.fresh (.dic ks ds)) else none
  | [.tpp ps] => if ps.length ≤ 1000000 then match dictP ps (.dic [] []) with
    | some c => some (.fresh c)
    | none => none
    else none
  | _ => none
/-- a dict just built -/
theorem dh_ok {P : Program} {w : World} {H : Hp} {h' : Heap} {p : Addr} {xs : KX3} {kvs : KE3} (dd : h'.DictOfH (nestedKind P w) p xs) (pe : PrE kvs xs) (dp : ∀ x ∈ kvs, x.1.depth ≤ 8) (sz : kvs.length ≤ sizeLine) (sm : (p == sysModules) = false) : ObjOk P w H h' p (dH w p kvs) := by
  obtain ⟨ob, es, ep, hq, g2, g3, g4, _, g5⟩ := dd
  refine ⟨⟨⟨ob, es, ep, xs, hq, g2, g3, g4, pe⟩, by rw [PrE.keys pe]; exact g5, dp, sz, sm⟩, ⟨ob, hq⟩, fun g1' g2' k1 k2 => ?_⟩
  obtain ⟨⟨o, es, ep, xs, q1, q2⟩, a1, a2, a3, a4⟩ := k1
  exact ⟨⟨o, es, ep, xs, k2 o q1, q2⟩, a1, a2, a3, a4⟩
section
variable {prog : Program} {w : World} {A : Around} {E : Value → Shared → Prop} {s : Shared}
theorem call_dict_copyT {o : Addr} {ys : KX3} {Q : Value → Shared → Prop} (hu : A.units + 64 < cLine) (hoS : (o == sysModules) = false) (ho : s.heap.DictOfH (nestedKind prog w) o ys) (hty : ∀ x ∈ ys, s.TypeIs (.ref x.2.1) "tuple") (hap : (ys.map fun x => x.1.hash w).Nodup) (hsz : ys.length ≤ sizeLine)
    (hst : (s.heap.push { cls := .type "dict", data := .dict #[] }).DictOfH (nestedKind prog w) o ys)
    (h : ∀ h', h'.DictOfH (nestedKind prog w) s.heap.objs.size ys → Heap.SameBut s.heap.objs.size (s.heap.push { cls := .type "dict", data := .dict #[] }) h' → Q (.ref s.heap.objs.size) { s with heap := h' }) :
    wpAny (model prog w) A (call (.type "dict") [.ref o]) Q E s := by
  refine callType_codes (Q₁ := fun obj s₁ => obj = .ref s.heap.objs.size ∧ s₁ = { s with heap := s.heap.push { cls := .type "dict", data := .dict #[] } }) PySem.F.kt_called_dict (PySem.F.kt_typeCall_dict_1 _) PySem.F.entry_dict_init (kt_code_dict_new _ ⟨rfl, rfl⟩) ?_
  rintro obj s₁ ⟨rfl, rfl⟩
  have hnew : (s.heap.push { cls := .type "dict", data := .dict #[] }).DictOfH (nestedKind prog w) s.heap.objs.size [] := Heap.DictOfH.new s.heap
  have hdo : s.heap.objs.size ≠ o := by
    obtain ⟨_, _, _, hg, _⟩ := ho
    exact fun e => absurd (Heap.lt_size hg) (by rw [e]; exact Nat.lt_irrefl _)
  refine ⟨hnew.typeIs, PySem.F.args_dict_init_2 _ _, ?_⟩
  unfold Builtin.«dict.__init__»
  refine wpAny_bind ?_
  unfold Builtin.Dict.selfAndRest
  refine wpAny_bind (wpAny_notOrdered_dict hnew.typeIs ?_)
  show wpAny _ _ (pure (s.heap.objs.size, [Value.ref o])) _ _ _
  refine wpAny_pure ?_
  show wpAny _ _ (Builtin.Dict.updateFrom "dict.__init__" s.heap.objs.size (.ref o) [] .none) _ _ _
  refine updateFrom_dictH (A := A.in1) (knd := nestedKind prog w) .none (show A.in1.in1.units + 8 < cLine by rw [Around.in1_units, Around.in1_units]; omega) hdo hoS hnew hst (.inr ⟨fun x hx => ?_, hap⟩) (by simpa using hsz) fun h' hd' _ hs' => ?_
  · obtain ⟨ob, h1, h2⟩ := hty x hx
    exact ⟨ob, Heap.get?_push_of_some _ h1, h2⟩
  · rw [storedAllH_nil_of_nodup ys ho.nodup] at hd'
    exact ⟨rfl, h h' hd' hs'⟩
end

/-- several entries put -/
def kputs (acc : KE3) (ps : KE3) : KE3 := ps.foldl (fun acc x => kput acc x.1 x.2.1 x.2.2) acc
theorem PrE.puts : ∀ {ps : KE3} {qs : KX3} {kvs : KE3} {xs : KX3}, PrE ps qs → PrE kvs xs → PrE (kputs kvs ps) (storedAllH xs qs)
  | _, _, _, _, .nil, h => h
  | _, _, kvs, xs, .cons (a := p) (b := x) r t, h => by
    show PrE (kputs (kput kvs p.1 p.2.1 p.2.2) _) (storedAllH (storedH xs x.1 x.2.1 x.2.2) _)
    refine PrE.puts t ?_
    have := PrE.put (n := x.1) (q := x.2.1) r.2.2 h
    rw [r.1, r.2.1]
    exact this
theorem PrE.nil' : PrE [] [] := .nil
/-- pairs told by their entries -/
inductive PrP (K : PySem.W.Frag) (w : World) (H : Hp) : List D → KE3 → Prop
  | nil : PrP K w H [] []
  | cons {k v : D} {n : NK} {q : Addr} {x : V} {r : List D} {ps : KE3} : keyT k = some n → Rep K w H k (.ref q) → Rep K w H v x → PrP K w H r ps → PrP K w H (.tup [k, v] :: r) ((n, q, x) :: ps)
theorem dputT_put {K : PySem.W.Frag} {w : World} {H : Hp} {ks ds : List D} {kvs : KE3} {k v c : D} {n : NK} {q : Addr} {x : V} (hr : DicR K w H ks ds kvs) (ek : keyT k = some n) (rk : Rep K w H k (.ref q)) (rv : Rep K w H v x) (e : dputT (.dic ks ds) k v = some c) :
    ∃ ks' ds', c = .dic ks' ds' ∧ DicR K w H ks' ds' (kput kvs n q x) ∧ ks.length < 1000000 := by
  simp only [dputT, ek] at e
  split at e
  · rename_i hl
    obtain ⟨ks', ds', ec, hr'⟩ := DicR.put (K := K) (w := w) (n := n) rk (keyT_some ek).1 rv hr
    rw [ec] at e
    exact ⟨ks', ds', (Option.some.inj e).symm, hr', hl⟩
  · cases e
theorem dictP_puts {K : PySem.W.Frag} {w : World} {H : Hp} : ∀ {ps : List D} {qs : KE3} {ks ds : List D} {kvs : KE3} {c : D}, PrP K w H ps qs → DicR K w H ks ds kvs → dictP ps (.dic ks ds) = some c → ∃ ks' ds', c = .dic ks' ds' ∧ DicR K w H ks' ds' (kputs kvs qs)
  | _, _, ks, ds, kvs, c, .nil, hr, e => by
    simp only [dictP] at e
    cases e
    exact ⟨ks, ds, rfl, hr⟩
  | _, _, ks, ds, kvs, c, .cons (k := k) (v := v) ek rk rv t, hr, e => by
    simp only [dictP] at e
    split at e
    · rename_i c' e1
      obtain ⟨ks', ds', e2, hr', _⟩ := dputT_put hr ek rk rv e1
      subst e2
      exact dictP_puts (kvs := kput kvs _ _ _) t hr' e
    · cases e
theorem kputs_depth : ∀ {qs kvs : KE3}, (∀ x ∈ qs, x.1.depth ≤ 8) → (∀ x ∈ kvs, x.1.depth ≤ 8) → ∀ x ∈ kputs kvs qs, x.1.depth ≤ 8
  | [], _, _, h => h
  | q :: qs, kvs, h1, h => by
    refine kputs_depth (qs := qs) (kvs := kput kvs q.1 q.2.1 q.2.2) (fun x hx => h1 x (List.mem_cons_of_mem _ hx)) fun x hx => ?_
    have hx' : x.1 ∈ (kput kvs q.1 q.2.1 q.2.2).map (·.1) := List.mem_map.mpr ⟨x, hx, rfl⟩
    rw [kput_keys] at hx'
    split at hx'
    · obtain ⟨x2, m1, m2⟩ := List.mem_map.mp hx'; rw [← m2]; exact h x2 m1
    · rcases List.mem_append.mp hx' with hx' | hx'
      · obtain ⟨x2, m1, m2⟩ := List.mem_map.mp hx'; rw [← m2]; exact h x2 m1
      · rw [List.mem_singleton.mp hx']; exact h1 q List.mem_cons_self
theorem kputs_len : ∀ {qs kvs : KE3}, (kputs kvs qs).length ≤ kvs.length + qs.length
  | [], kvs => Nat.le_refl _
  | q :: qs, kvs => by
    have := kputs_len (qs := qs) (kvs := kput kvs q.1 q.2.1 q.2.2)
    have h2 := kput_len (kvs := kvs) (n := q.1) (q := q.2.1) (v := q.2.2)
    show (kputs (kput kvs q.1 q.2.1 q.2.2) qs).length ≤ _
    rw [List.length_cons]; omega
theorem PrP.depth {K : PySem.W.Frag} {w : World} {H : Hp} : ∀ {ps : List D} {qs : KE3}, PrP K w H ps qs → ∀ x ∈ qs, x.1.depth ≤ 8
  | _, _, .nil, x, hx => nomatch hx
  | _, _, .cons ek rk rv t, x, hx => by
    rcases List.mem_cons.mp hx with e | hx
    · subst e; exact (keyT_some ek).2.1
    · exact PrP.depth t x hx
theorem PrP.len {K : PySem.W.Frag} {w : World} {H : Hp} : ∀ {ps : List D} {qs : KE3}, PrP K w H ps qs → ps.length = qs.length
  | _, _, .nil => rfl
  | _, _, .cons ek rk rv t => by simp [PrP.len t]
/-- the shape of the pairs, where dictP goes through -/
theorem dictP_shape {K : PySem.W.Frag} {w : World} {H : Hp} : ∀ {ps : List D} {vs : List V} {ks ds : List D} {c : D}, Reps K w H ps vs → dictP ps (.dic ks ds) = some c → ∃ qs : KE3, PrP K w H ps qs ∧
    Paired (fun (x : NK × Addr × V) (v : V) => ∃ a, v = .ref a ∧ SqT K H a [V.ref x.2.1, x.2.2]) qs vs
  | [], vs, ks, ds, c, r, e => by
    cases (show vs = [] from r)
    exact ⟨[], .nil, .nil⟩
  | d :: ps, vs, ks, ds, c, r, e => by
    unfold dictP at e
    split at e
    · rename_i e0; cases e0
    · rename_i k v r' e0
      cases e0
      split at e
      · rename_i c' e1
        obtain ⟨x, us, e2, ⟨a, ys, e3, h1, h2⟩, h3⟩ := r
        obtain ⟨y1, y2, e4, h4, h5⟩ := h2.two
        subst e4
        have e1' := e1
        simp only [dputT] at e1'
        split at e1'
        · rename_i n en
          split at e1'
          · obtain ⟨_, _, xs, ex⟩ := keyT_some en
            subst ex
            obtain ⟨q, zs, eq, h6, h7⟩ := h4
            subst eq
            have sh : ∃ ks' ds', c' = .dic ks' ds' := by
              have e1' := Option.some.inj e1'
              split at e1' <;> exact ⟨_, _, e1'.symm⟩
            obtain ⟨ks', ds', ec⟩ := sh
            subst ec
            obtain ⟨qs, p1, p2⟩ := dictP_shape h3 e
            subst e2
            exact ⟨(n, q, y2) :: qs, .cons en ⟨q, zs, rfl, h6, h7⟩ h5 p1, .cons ⟨a, e3, h1⟩ p2⟩
          · cases e1'
        · cases e1'
      · cases e
    · cases e
section
variable {X : Cx}
theorem cr_dictA (hu : X.A.units + 64 < cLine) (hc : X.calm = true) : CallR X (.type "dict") (cD X.K X.w (dictA X.w)) := by
  intro pins s σ H xs us Q I r ⟨ds, rv, b, e, k⟩
  unfold dictA at e
  have hn := I.hok.fresh (Nat.le_refl s.heap.objs.size)
  have hsm : (s.heap.objs.size == sysModules) = false := beq_eq_false_iff_ne.mpr (Nat.ne_of_gt I.big)
  split at e
  · split at e
    · rename_i ks ds0 ok
      cases e
      obtain ⟨v, e1, b1⟩ := b.one
      obtain ⟨a, kvs, e2, h1, h2⟩ := b1.dic
      subst e1 e2
      obtain ⟨u, eu, rx⟩ := vals1 r
      subst eu
      cases rx
      obtain ⟨ys, hm, pe, sm, sz, nd, dp⟩ := dh_heap I h1 h2
      have hl : kvs.length = ys.length := Paired.length pe
      unfold hashOk at ok
      rw [h2.keys] at ok
      have ok : ((kvs.map (·.1)).map fun n => n.hash X.w).Nodup := ok
      rw [PrE.keys pe, List.map_map] at ok
      have hm2 : (s.heap.push { cls := .type "dict", data := .dict #[] }).DictOfH (nestedKind X.prog X.w) a ys := by
        obtain ⟨o, es, ep, g1, g2, g3, g4, g5, g6⟩ := hm
        exact ⟨o, es, ep, Heap.get?_push_of_some _ g1, g2, g3, g4, fun x hx => nestedKind_stays.stays (fun b o _ _ e _ => Heap.get?_push_of_some _ e) (g5 x hx), g6⟩
      refine call_dict_copyT hu sm hm (keyed_apart nestedKind_stays hm) ok (by omega) hm2 fun h' hd' hs => ?_
      refine ⟨.ref s.heap.objs.size, _, I.laid (a := s.heap.objs.size) (o := dH X.w s.heap.objs.size kvs) (t' := s.toks) (fun b u e => (hs.2 b (Nat.ne_of_lt (Heap.lt_size e))).trans (Heap.get?_push_of_some _ e)) (Nat.le_refl _) (dh_ok hd' pe dp sz hsm), rfl, ?_⟩
      have le : Le H (upd H s.heap.objs.size (dH X.w s.heap.objs.size kvs)) := Le.new hn
      exact k _ _ (keep_new hn) ⟨_, rfl, hn, kvs, upd_same, h2.keys, Reps.mono le _ _ h2.ks, Reps.mono le _ _ h2.vs⟩
    · cases e
  · split at e
    · rename_i ps hlen
      split at e
      · rename_i c ec
        cases e
        obtain ⟨v, e1, a, vs, e2, ⟨o, h1f, h0⟩, h2⟩ := b.one
        have h1 : SqT X.K H a vs := .inl (.inr ⟨o, h1f⟩)
        subst e1 e2
        obtain ⟨u, eu, rx⟩ := vals1 r
        subst eu
        cases rx
        obtain ⟨qs, pp, pv⟩ := dictP_shape h2 ec
        obtain ⟨its, rvv, tup, hz⟩ := I.tuple h1
        -- what stands in the heap
        have key : ∀ {ps : List D} {qs : KE3} {vs : List V} {its : List Value}, PrP X.K X.w H ps qs → Paired (fun (x : NK × Addr × V) (v : V) => ∃ a, v = .ref a ∧ SqT X.K H a [V.ref x.2.1, x.2.2]) qs vs → Vals vs its →
            ∃ xs : KX3, PrE qs xs ∧ xs.length = its.length ∧ (∀ x ∈ xs, (nestedKind X.prog X.w).is s.heap x.1 x.2.1) ∧ ∀ (j : Nat) (y : NK × Addr × Value), xs[j]? = some y → ∃ T : Addr, its[j]? = some (Value.ref T) ∧ s.heap.IsTuple T #[Value.ref y.2.1, y.2.2] := by
          intro ps qs vs its pp
          induction pp generalizing vs its with
          | nil =>
            intro pv rv
            cases pv
            cases rv
            exact ⟨[], .nil, rfl, (fun _ hx => nomatch hx), fun j y e => by simp at e⟩
          | @cons k v n q x r ps' ek rk rx t ih =>
            intro pv rv
            cases pv with
            | cons hq tq =>
              obtain ⟨T, eT, hT⟩ := hq
              subst eT
              cases rv with
              | cons r1 r2 =>
                cases r1
                obtain ⟨xs, p1, p2, p3, p4⟩ := ih tq r2
                obtain ⟨its', rv', tup', _⟩ := I.tuple hT
                obtain ⟨w1, w2, ew, g1, g2⟩ := rv'.two
                subst ew
                cases g1
                refine ⟨(n, q, w2) :: xs, .cons ⟨rfl, rfl, g2⟩ p1, by simp [p2], fun y hy => ?_, fun j y e => ?_⟩
                · rcases List.mem_cons.mp hy with e | hy
                  · subst e
                    obtain ⟨q', e3, e4, _, hk⟩ := key_is I (Rep.b rk) (show RelV (V.ref q) (Value.ref q) from rfl) ek
                    cases e4
                    exact hk
                  · exact p3 y hy
                · cases j with
                  | zero =>
                    simp only [List.getElem?_cons_zero, Option.some.injEq] at e
                    subst e
                    exact ⟨T, rfl, tup'⟩
                  | succ j =>
                    obtain ⟨T', q1, q2⟩ := p4 j y (by simpa using e)
                    exact ⟨T', by simpa using q1, q2⟩
        obtain ⟨xs, p1, p2, p3, p4⟩ := key pp pv rvv
        let Ts : Nat → Addr := fun j => match its[j]? with
          | some (.ref T) => T
          | _ => 0
        have hl0 : qs.length = xs.length := Paired.length p1
        have hl1 := pp.len
        have hTs : ∀ j y, xs[j]? = some y → its[j]? = some (.ref (Ts j)) ∧ s.heap.IsTuple (Ts j) #[Value.ref y.2.1, y.2.2] := fun j y e => by
          obtain ⟨T, q1, q2⟩ := p4 j y e
          have : Ts j = T := by simp only [Ts, q1]
          rw [this]
          exact ⟨q1, q2⟩
        have P := PairArg.tuple (prog := X.prog) (w := X.w) a its.toArray Ts (xs.map fun y => (Value.ref y.2.1, y.2.2))
        refine call_dict_pairsH (knd := nestedKind X.prog X.w) (ps := xs) P (I.ok.hd hc) (show X.A.in1.in1.units + 8 < cLine by rw [Around.in1_units, Around.in1_units]; omega) ⟨?_, ?_⟩ ⟨by simp, fun i key v rel => ?_⟩ (fun h' hk x hx => ?_) ?_ fun h' tk hd' hk => ?_
        · obtain ⟨hg, _⟩ := I.hok a _ h1f
          obtain ⟨o', ho', hc', n', hd'⟩ := tup
          rw [hg] at ho'
          cases ho'
          exact ⟨_, n', hg, hc', h0, by simpa using hd'⟩
        · refine ⟨by simp [p2], fun j k v e => ?_⟩
          rw [List.getElem?_map] at e
          cases ex : xs[j]? with
          | none => rw [ex] at e; cases e
          | some y =>
            rw [ex] at e
            cases e
            obtain ⟨q1, q2⟩ := hTs j y ex
            exact ⟨by simpa using q1, .inl q2⟩
        · rw [PairRel, List.getElem?_map] at rel
          cases ex : xs[i]? with
          | none => rw [ex] at rel; cases rel
          | some y =>
            rw [ex] at rel
            cases rel
            exact ⟨y.1, y.2.1, rfl, rfl⟩
        · exact nestedKind_stays.stays (fun b o vs m e q => hk b o (Nat.ne_of_lt (Heap.lt_size e)) (fun z => nomatch z) e) (p3 x hx)
        · rw [List.length_map]; have := line_of hlen; omega
        · obtain ⟨ks', ds', e5, hr'⟩ := dictP_puts pp (⟨rfl, rfl, rfl⟩ : DicR X.K X.w H [] [] []) ec
          subst e5
          have pe := PrE.puts p1 (PrE.nil' : PrE [] [])
          have hk' : ∀ b o, s.heap.get? b = some o → h'.get? b = some o := fun b o e => hk b o (fun z => nomatch z) e
          have sz : (kputs [] qs).length ≤ sizeLine := by
            have := kputs_len (qs := qs) (kvs := [])
            have l2 := line_of hlen
            rw [List.length_nil] at this
            omega
          refine ⟨.ref s.heap.objs.size, _, I.laid (a := s.heap.objs.size) (o := dH X.w s.heap.objs.size (kputs [] qs)) (t' := tk) hk' (Nat.le_refl _) (dh_ok hd' pe (kputs_depth pp.depth (fun _ z => nomatch z)) sz hsm), rfl, ?_⟩
          have le : Le H (upd H s.heap.objs.size (dH X.w s.heap.objs.size (kputs [] qs))) := Le.new hn
          exact k _ _ (keep_new hn) ⟨_, rfl, hn, _, upd_same, hr'.keys, Reps.mono le _ _ hr'.ks, Reps.mono le _ _ hr'.vs⟩
      · cases e
    · cases e
  · cases e
end
end DL

set_option Elab.async false
set_option linter.all false
set_option maxRecDepth 100000
set_option maxHeartbeats 2000000
namespace DL
open PySem PySem.Spec PyProof.Rows L2

/-! ### defs -/
inductive FR where
  | ok (rv : RV) (ms : List D) | ex (x : Exn) (ms : List D)
abbrev FD := List D → Option FR
def slotOf : Bool → D → Sl
  | true, d => .mu d
  | false, d => .im d
def args0 : List Bool → List D → DEnv
  | k :: ks, d :: ds => slotOf k d :: args0 ks ds
  | _, _ => []
section
variable (K : PySem.W.Frag) (w : World) (H : Hp)
def RepA : List Bool → List D → List V → Prop
  | [], [], [] => True
  | true :: ks, d :: ds, v :: vs => (∃ a, v = .ref a ∧ RepM K w H a d) ∧ RepA ks ds vs
  | false :: ks, d :: ds, v :: vs => Rep K w H d v ∧ RepA ks ds vs
  | _, _, _ => False
def RepMs : List Addr → List D → Prop
  | [], [] => True
  | a :: as, d :: ds => RepM K w H a d ∧ RepMs as ds
  | _, _ => False
end
def mutA : List Bool → List V → List Addr
  | true :: ks, .ref a :: vs => a :: mutA ks vs
  | _ :: ks, _ :: vs => mutA ks vs
  | _, _ => []
def mutIx : List Bool → Nat → List Nat
  | [], _ => []
  | true :: ks, n => n :: mutIx ks (n + 1)
  | false :: ks, n => mutIx ks (n + 1)
structure PostF (K : PySem.W.Frag) (w : World) (H H' : Hp) (as : List Addr) (ms : List D) : Prop where
  frm : ∀ a o, H a = some o → a ∉ as → H' a = some o
  mu : RepMs K w H' as ms
  dom : ∀ a, H' a = none → H a = none
/-- the wish about an exception; the classes at C.1, C.2 -/
def wX (K : PySem.W.Frag) (w : World) (C : Addr × Addr) (E : XK) : Exn → Hp → Prop
  | .mal, H => E (.ref C.1) none H
  | .rfd d, H => ∀ (dd : Addr) (v : V), H dd = some (.xd [(("reason" : Str), v)]) → Rep K w H d v → E (.ref C.2) (some dd) H
/-- the wish about an exception, in a body -/
def wd (K : PySem.W.Frag) (w : World) (C : Addr × Addr) (W' : WX) : WD := fun x σ H => wX K w C (fun cls d H => W' cls d σ H) x H
/-- a def's promise: nothing is raised -/
def sp0 (K : PySem.W.Frag) (w : World) (ks : List Bool) (g : FD) : Sp := fun vs H Q _ => ∃ ds, RepA K w H ks ds vs ∧ (mutA ks vs).Nodup ∧ ∃ rv ms, g ds = some (.ok rv ms) ∧ ∀ v H', PostF K w H H' (mutA ks vs) ms → RepR K w [] H H' rv v → Q v H'
/-- .. or one may be -/
def spX (K : PySem.W.Frag) (w : World) (C : Addr × Addr) (ks : List Bool) (g : FD) : Sp := fun vs H Q E => ∃ ds, RepA K w H ks ds vs ∧ (mutA ks vs).Nodup ∧ ∃ r, g ds = some r ∧ match r with
  | .ok rv ms => ∀ v H', PostF K w H H' (mutA ks vs) ms → RepR K w [] H H' rv v → Q v H'
  | .ex x ms => ∀ H', PostF K w H H' (mutA ks vs) ms → wX K w C E x H'
def backs (ρ : DEnv) : List Nat → Option (List D)
  | [] => some []
  | i :: is => match ρ[i]? with
    | some (.mu d) => match backs ρ is with
      | some ds => some (d :: ds)
      | none => none
    | _ => none
/-- a result that leaves the def -/
def outV (P : List Nat) (ρ : DEnv) : RV → Option RV
  | .val d => some (.val d)
  | .fresh d => some (.fresh d)
  | .slot i => if i ∈ P then none else match ρ[i]? with
    | some (.mu d) => some (.fresh d)
    | _ => none
def runF (ks : List Bool) (n : Nat) (f : FS) : FD := fun ds => match f (args0 ks ds ++ List.replicate (n - ks.length) .un) with
  | some (.rt rv ρ') => match outV (mutIx ks 0) ρ' rv, backs ρ' (mutIx ks 0) with
    | some r, some ms => some (.ok r ms)
    | _, _ => none
  | some (.nx ρ') => match backs ρ' (mutIx ks 0) with
    | some ms => some (.ok (.val .non) ms)
    | none => none
  | some (.ex x ρ') => match backs ρ' (mutIx ks 0) with
    | some ms => some (.ex x ms)
    | none => none
  | _ => none
section
variable {K : PySem.W.Frag} {w : World} {H H' H0 H1 H2 : Hp} {σ σ' : L2.St} {ρ ρ' : DEnv}
theorem RepA.len : ∀ {ks : List Bool} {ds : List D} {vs : List V}, RepA K w H ks ds vs → ds.length = ks.length ∧ vs.length = ks.length
  | [], [], [], _ => ⟨rfl, rfl⟩
  | true :: ks, d :: ds, v :: vs, h => by obtain ⟨a, b⟩ := RepA.len h.2; simp [a, b]
  | false :: ks, d :: ds, v :: vs, h => by obtain ⟨a, b⟩ := RepA.len h.2; simp [a, b]
theorem args0_len : ∀ {ks : List Bool} {ds : List D}, ds.length = ks.length → (args0 ks ds).length = ks.length
  | [], [], _ => rfl
  | k :: ks, d :: ds, h => by simp [args0, args0_len (ks := ks) (ds := ds) (by simpa using h)]
  | [], _ :: _, h => by simp at h
  | _ :: _, [], h => by simp at h
theorem RepA.im : ∀ {ks : List Bool} {ds : List D} {vs : List V} {i : Nat} {d : D}, RepA K w H ks ds vs → (args0 ks ds)[i]? = some (.im d) → ∃ v, vs[i]? = some v ∧ Rep K w H d v
  | [], [], [], _, _, _, e => by simp [args0] at e
  | true :: ks, c :: ds, v :: vs, 0, d, h, e => by simp [args0, slotOf] at e
  | false :: ks, c :: ds, v :: vs, 0, d, h, e => by simp [args0, slotOf] at e; subst e; exact ⟨v, rfl, h.1⟩
  | true :: ks, c :: ds, v :: vs, i + 1, d, h, e => by
    obtain ⟨u, h1, h2⟩ := RepA.im (i := i) h.2 (by simpa [args0] using e)
    exact ⟨u, by simpa using h1, h2⟩
  | false :: ks, c :: ds, v :: vs, i + 1, d, h, e => by
    obtain ⟨u, h1, h2⟩ := RepA.im (i := i) h.2 (by simpa [args0] using e)
    exact ⟨u, by simpa using h1, h2⟩
theorem RepA.mu : ∀ {ks : List Bool} {ds : List D} {vs : List V} {i : Nat} {d : D}, RepA K w H ks ds vs → (args0 ks ds)[i]? = some (.mu d) → ∃ a, vs[i]? = some (.ref a) ∧ RepM K w H a d ∧ a ∈ mutA ks vs
  | [], [], [], _, _, _, e => by simp [args0] at e
  | false :: ks, c :: ds, v :: vs, 0, d, h, e => by simp [args0, slotOf] at e
  | true :: ks, c :: ds, v :: vs, 0, d, h, e => by
    simp [args0, slotOf] at e; subst e
    obtain ⟨⟨a, e, m⟩, _⟩ := h
    subst e
    exact ⟨a, rfl, m, by simp [mutA]⟩
  | true :: ks, c :: ds, v :: vs, i + 1, d, h, e => by
    obtain ⟨a, h1, h2, h3⟩ := RepA.mu (i := i) h.2 (by simpa [args0] using e)
    obtain ⟨⟨b, e, m⟩, _⟩ := h
    subst e
    exact ⟨a, by simpa using h1, h2, by simp [mutA, h3]⟩
  | false :: ks, c :: ds, v :: vs, i + 1, d, h, e => by
    obtain ⟨a, h1, h2, h3⟩ := RepA.mu (i := i) h.2 (by simpa [args0] using e)
    refine ⟨a, by simpa using h1, h2, ?_⟩
    cases v <;> simpa [mutA] using h3
theorem mutA_inj : ∀ {ks : List Bool} {ds : List D} {vs : List V} {i j : Nat} {d e : D} {a : Addr}, RepA K w H ks ds vs → (mutA ks vs).Nodup → (args0 ks ds)[i]? = some (.mu d) → (args0 ks ds)[j]? = some (.mu e) → vs[i]? = some (.ref a) → vs[j]? = some (.ref a) → i = j
  | [], [], [], _, _, _, _, _, _, _, e, _, _, _ => by simp [args0] at e
  | k :: ks, c :: ds, v :: vs, 0, 0, _, _, _, _, _, _, _, _, _ => rfl
  | true :: ks, c :: ds, v :: vs, 0, j + 1, d, e, a, h, nd, h1, h2, h3, h4 => by
    obtain ⟨b, q1, q2, q3⟩ := RepA.mu (i := j) h.2 (by simpa [args0] using h2)
    rw [show vs[j]? = some (.ref a) from by simpa using h4] at q1
    cases q1
    simp only [List.getElem?_cons_zero, Option.some.injEq] at h3
    subst h3
    simp only [mutA, List.nodup_cons] at nd
    exact (nd.1 q3).elim
  | true :: ks, c :: ds, v :: vs, i + 1, 0, d, e, a, h, nd, h1, h2, h3, h4 => by
    obtain ⟨b, q1, q2, q3⟩ := RepA.mu (i := i) h.2 (by simpa [args0] using h1)
    rw [show vs[i]? = some (.ref a) from by simpa using h3] at q1
    cases q1
    simp only [List.getElem?_cons_zero, Option.some.injEq] at h4
    subst h4
    simp only [mutA, List.nodup_cons] at nd
    exact (nd.1 q3).elim
  | false :: ks, c :: ds, v :: vs, 0, j + 1, d, e, a, h, nd, h1, h2, h3, h4 => by simp [args0, slotOf] at h1
  | false :: ks, c :: ds, v :: vs, i + 1, 0, d, e, a, h, nd, h1, h2, h3, h4 => by simp [args0, slotOf] at h2
  | true :: ks, c :: ds, v :: vs, i + 1, j + 1, d, e, a, h, nd, h1, h2, h3, h4 => by
    obtain ⟨⟨b, eb, m⟩, hr⟩ := h
    subst eb
    simp only [mutA, List.nodup_cons] at nd
    exact congrArg (· + 1) (mutA_inj (i := i) (j := j) hr nd.2 (by simpa [args0] using h1) (by simpa [args0] using h2) (by simpa using h3) (by simpa using h4))
  | false :: ks, c :: ds, v :: vs, i + 1, j + 1, d, e, a, h, nd, h1, h2, h3, h4 => by
    have nd' : (mutA ks vs).Nodup := by cases v <;> simpa [mutA] using nd
    exact congrArg (· + 1) (mutA_inj (i := i) (j := j) h.2 nd' (by simpa [args0] using h1) (by simpa [args0] using h2) (by simpa using h3) (by simpa using h4))
theorem start_get {N : List Str} {vs : List V} {i : Nat} {v : V} (h : vs[i]? = some v) : (L2.start N vs)[i]? = some (some v) := by
  unfold L2.start
  have hl := (List.getElem?_eq_some_iff.mp h).1
  rw [List.getElem?_append_left (by simpa using hl), List.getElem?_map, h]
  rfl
theorem env0_get {ks : List Bool} {ds : List D} {n i : Nat} {s : Sl} (h : (args0 ks ds ++ List.replicate n .un)[i]? = some s) (hs : s ≠ .un) : (args0 ks ds)[i]? = some s := by
  by_cases hl : i < (args0 ks ds).length
  · rwa [List.getElem?_append_left hl] at h
  · rw [List.getElem?_append_right (by omega), List.getElem?_replicate] at h
    split at h
    · cases h; exact (hs rfl).elim
    · cases h
theorem env_start {ks : List Bool} {ds : List D} {vs : List V} {N : List Str} (h : RepA K w H ks ds vs) (nd : (mutA ks vs).Nodup) (hN : ks.length ≤ N.length) : EnvR K w (L2.start N vs) (args0 ks ds ++ List.replicate (N.length - ks.length) .un) H := by
  obtain ⟨l1, l2⟩ := h.len
  refine ⟨?_, fun i d e => ?_, fun i d e => ?_, fun i j d e a q1 q2 q3 q4 => ?_⟩
  · unfold L2.start
    rw [List.length_append, List.length_append, List.length_map, List.length_replicate, List.length_replicate, args0_len l1, l2]
  · obtain ⟨v, h1, h2⟩ := h.im (env0_get e (by intro z; cases z))
    exact ⟨v, start_get h1, h2⟩
  · obtain ⟨a, h1, h2, _⟩ := h.mu (env0_get e (by intro z; cases z))
    exact ⟨a, start_get h1, h2⟩
  · have q1 := env0_get q1 (by intro z; cases z)
    have q2 := env0_get q2 (by intro z; cases z)
    obtain ⟨b, h1, _, _⟩ := h.mu q1
    obtain ⟨b', h2, _, _⟩ := h.mu q2
    rw [start_get h1] at q3
    rw [start_get h2] at q4
    cases q3
    cases q4
    exact mutA_inj h nd q1 q2 h1 h2
theorem own_start {ks : List Bool} {ds : List D} {vs : List V} {N : List Str} {n : Nat} {a : Addr} (h : RepA K w H ks ds vs) (o : Own (L2.start N vs) (args0 ks ds ++ List.replicate n .un) a) : a ∈ mutA ks vs := by
  obtain ⟨i, d, h1, h2⟩ := o
  obtain ⟨b, q1, _, q3⟩ := h.mu (env0_get h1 (by intro z; cases z))
  rw [start_get q1] at h2
  cases h2
  exact q3
theorem backs_rep : ∀ {ks : List Bool} {ds : List D} {vs : List V} {n : Nat} {ms : List D}, RepA K w H ks ds vs → (∀ i v, vs[i]? = some v → σ[n + i]? = some (some v)) → (∀ i ∈ mutIx ks n, σ'[i]? = σ[i]?) → EnvR K w σ' ρ' H' → backs ρ' (mutIx ks n) = some ms → RepMs K w H' (mutA ks vs) ms
  | [], [], [], n, ms, _, _, _, _, e => by simp [mutIx, backs] at e; subst e; trivial
  | false :: ks, d :: ds, v :: vs, n, ms, h, hg, hp, E, e => by
    have r := backs_rep (n := n + 1) (ms := ms) h.2 (fun i v h => by have := hg (i + 1) v (by simpa using h); rwa [show n + (i + 1) = n + 1 + i by omega] at this) (fun i hi => hp i (by simpa [mutIx] using hi)) E (by simpa [mutIx] using e)
    cases v <;> simpa [mutA] using r
  | true :: ks, d :: ds, v :: vs, n, ms, h, hg, hp, E, e => by
    obtain ⟨⟨a, ea, m⟩, hr⟩ := h
    subst ea
    simp only [mutIx, backs] at e
    split at e
    · rename_i c e1
      split at e
      · rename_i ms' e2
        cases e
        have r := backs_rep (n := n + 1) (ms := ms') hr (fun i v h => by have := hg (i + 1) v (by simpa using h); rwa [show n + (i + 1) = n + 1 + i by omega] at this) (fun i hi => hp i (by simp [mutIx, hi])) E e2
        obtain ⟨b, q1, q2⟩ := E.mu n c e1
        have := hp n (by simp [mutIx])
        have g0 := hg 0 _ rfl
        rw [Nat.add_zero] at g0
        rw [q1, g0] at this
        cases this
        exact ⟨q2, r⟩
      · cases e
    · cases e
/-- what a body leaves -/
theorem post_of {ks : List Bool} {ds : List D} {vs : List V} {N : List Str} {ms : List D} (h : RepA K w H ks ds vs) (p : PostS K w (mutIx ks 0) (L2.start N vs) (args0 ks ds ++ List.replicate (N.length - ks.length) .un) H σ' ρ' H') (e : backs ρ' (mutIx ks 0) = some ms) : PostF K w H H' (mutA ks vs) ms :=
  ⟨fun a o ha hn => p.frm a o ha fun z => hn (own_start h z), backs_rep h (fun i v hv => by rw [Nat.zero_add]; exact start_get hv) p.pin p.env e, p.dom⟩
theorem backs_mu : ∀ {is : List Nat} {ms : List D}, backs ρ is = some ms → ∀ i ∈ is, ∃ d, ρ[i]? = some (.mu d)
  | [], _, _, _, hi => nomatch hi
  | j :: is, ms, e, i, hi => by
    simp only [backs] at e
    split at e
    · rename_i d e1
      split at e
      · rename_i ds e2
        rcases List.mem_cons.mp hi with z | hi
        · subst z; exact ⟨d, e1⟩
        · exact backs_mu e2 i hi
      · cases e
    · cases e
theorem mutIx_of : ∀ {ks : List Bool} {ds : List D} {n i : Nat} {d : D}, (args0 ks ds)[i]? = some (.mu d) → n + i ∈ mutIx ks n
  | [], ds, n, i, d, e => by simp [args0] at e
  | k :: ks, [], n, i, d, e => by simp [args0] at e
  | true :: ks, c :: ds, n, 0, d, e => by simp [mutIx]
  | false :: ks, c :: ds, n, 0, d, e => by simp [args0, slotOf] at e
  | true :: ks, c :: ds, n, i + 1, d, e => by
    have := mutIx_of (n := n + 1) (i := i) (ks := ks) (ds := ds) (d := d) (by simpa [args0] using e)
    rw [show n + (i + 1) = n + 1 + i by omega]
    simp [mutIx, this]
  | false :: ks, c :: ds, n, i + 1, d, e => by
    have := mutIx_of (n := n + 1) (i := i) (ks := ks) (ds := ds) (d := d) (by simpa [args0] using e)
    rw [show n + (i + 1) = n + 1 + i by omega]
    simpa [mutIx] using this
theorem out_rep {ks : List Bool} {ds : List D} {vs : List V} {N : List Str} {ms : List D} {rv r : RV} {v : V} (h : RepA K w H ks ds vs) (p : PostS K w (mutIx ks 0) (L2.start N vs) (args0 ks ds ++ List.replicate (N.length - ks.length) .un) H σ' ρ' H') (eb : backs ρ' (mutIx ks 0) = some ms)
    (e : outV (mutIx ks 0) ρ' rv = some r) (rr : RepR K w σ' H H' rv v) : RepR K w [] H H' r v := by
  cases rv with
  | val d => cases e; exact rr
  | fresh d => cases e; exact rr
  | slot i =>
    simp only [outV] at e
    split at e
    · cases e
    · rename_i hi
      split at e
      · rename_i d e1
        cases e
        have rr : σ'[i]? = some (some v) := rr
        obtain ⟨a, h1, m⟩ := p.env.mu i d e1
        rw [h1] at rr; cases rr
        refine ⟨a, rfl, ?_, m⟩
        rcases p.own a ⟨i, d, e1, h1⟩ with z | z
        · -- one of the parameters' objects: its slot still holds it
          obtain ⟨j, c, q1, q2⟩ := z
          have hj : j ∈ mutIx ks 0 := by
            have := mutIx_of (n := 0) (env0_get q1 (by intro z; cases z))
            rwa [Nat.zero_add] at this
          obtain ⟨c', q3⟩ := backs_mu eb j hj
          have q4 := p.pin j hj
          rw [q2] at q4
          exact (hi (p.env.ap i j d c' a e1 q3 h1 q4 ▸ hj)).elim
        · exact z
      · cases e
end
/-! a def holds its promise -/
section
variable {P : Program} {w : World} {K : PySem.W.Frag} {mg : Str → Option Value} {base : Heap}
def W0 : WD := fun _ _ _ => False
theorem fn_ok {x qual : Str} {st : Stmt} {f : Addr} {fd : FuncData} {N ps : List Str} {k : Nat} {ks : List Bool} {fb : FS} (F : Fun K x qual st f fd) (S : FnScope N ps (defScope st)) (hl : ks.length = ps.length)
    (hbody : ∀ (cdv : Value) (A : Around) (outer : List Env) (s : Shared) (H : Hp) (E : XK), Room k (A.deeper (envOfC qual (defScope st) s.heap.objs.size f cdv)) →
      DSs (cxOf CX0 P w K mg base N qual (defScope st) f cdv A outer s H E).nox (mutIx ks 0) W0 (defBody st) fb) : FnOk P w K mg base CX0 (k + 1) f fd ps (sp0 K w ks (runF ks N.length fb)) := by
  have hN : ks.length ≤ N.length := by
    have e := congrArg List.length S.pre
    rw [List.length_take] at e
    omega
  refine F.ok S (fun vs H Q E ⟨ds, ra, _⟩ => by rw [ra.len.2, hl]) (fun cdv A outer s H vs Q E hr h => ⟨sDs K w (mutIx ks 0) W0 fb, hbody cdv A outer s H E hr, ?_⟩)
  obtain ⟨ds, ra, nd, rv, ms, e, k⟩ := h
  unfold runF at e
  split at e
  · rename_i rv0 ρ' e1
    split at e
    · rename_i r ms0 e2 e3
      cases e
      exact ⟨_, _, env_start ra nd hN, e1, fun v σ' H' p rr => k v H' (post_of ra p e3) (out_rep ra p e3 e2 rr)⟩
    · cases e
  · rename_i ρ' e1
    split at e
    · rename_i ms0 e3
      cases e
      exact ⟨_, _, env_start ra nd hN, e1, fun σ' H' p => k .non H' (post_of ra p e3) rfl⟩
    · cases e
  · split at e <;> cases e
  · cases e
/-- .. one that may raise -/
theorem fn_okX {x qual : Str} {st : Stmt} {f : Addr} {fd : FuncData} {N ps : List Str} {k : Nat} {ks : List Bool} {fb : FS} {C : Addr × Addr} (F : Fun K x qual st f fd) (S : FnScope N ps (defScope st)) (hl : ks.length = ps.length)
    (hbody : ∀ (cdv : Value) (A : Around) (outer : List Env) (s : Shared) (H : Hp) (E : XK), Room k (A.deeper (envOfC qual (defScope st) s.heap.objs.size f cdv)) →
      DSs (cxOf (L2.CX P w) P w K mg base N qual (defScope st) f cdv A outer s H E) (mutIx ks 0) (wd K w C fun cls d _ H => E cls d H) (defBody st) fb) : FnOk P w K mg base (L2.CX P w) (k + 1) f fd ps (spX K w C ks (runF ks N.length fb)) := by
  have hN : ks.length ≤ N.length := by
    have e := congrArg List.length S.pre
    rw [List.length_take] at e
    omega
  refine F.okX S (fun vs H Q E ⟨ds, ra, _⟩ => by rw [ra.len.2, hl]) (fun cdv A outer s H vs Q E hr h => ⟨sDs K w (mutIx ks 0) (wd K w C fun cls d _ H => E cls d H) fb, hbody cdv A outer s H E hr, ?_⟩)
  obtain ⟨ds, ra, nd, r, e, k⟩ := h
  unfold runF at e
  split at e
  · rename_i rv0 ρ' e1
    split at e
    · rename_i r ms0 e2 e3
      cases e
      exact ⟨_, _, env_start ra nd hN, e1, fun v σ' H' p rr => k v H' (post_of ra p e3) (out_rep ra p e3 e2 rr)⟩
    · cases e
  · rename_i ρ' e1
    split at e
    · rename_i ms0 e3
      cases e
      exact ⟨_, _, env_start ra nd hN, e1, fun σ' H' p => k .non H' (post_of ra p e3) rfl⟩
    · cases e
  · rename_i x ρ' e1
    split at e
    · rename_i ms0 e3
      cases e
      exact ⟨_, _, env_start ra nd hN, e1, fun σ' H' p => k H' (post_of ra p e3)⟩
    · cases e
  · cases e
end
end DL

set_option Elab.async false
set_option linter.all false
set_option maxRecDepth 100000
set_option maxHeartbeats 2000000
namespace DL
open PySem PySem.Spec PyProof.Rows L2

/-! ### calls of defs -/
def argsD (ρ : DEnv) : List Bool → List RV → Option (List D × List Nat)
  | [], [] => some ([], [])
  | false :: ks, .val d :: rs => match argsD ρ ks rs with
    | some (ds, is) => some (d :: ds, is)
    | none => none
  | true :: ks, .slot i :: rs => match ρ[i]?, argsD ρ ks rs with
    | some (.mu d), some (ds, is) => if i ∈ is then none else some (d :: ds, i :: is)
    | _, _ => none
  | _, _ => none
def setMs (ρ : DEnv) : List Nat → List D → DEnv
  | i :: is, d :: ds => (setMs ρ is ds).set i (.mu d)
  | _, _ => ρ
section
variable {K : PySem.W.Frag} {w : World} {H H' H0 H1 H2 : Hp} {σ σ' : L2.St} {ρ ρ' ρ1 : DEnv}
/-- the objects of the slots -/
def Al (σ : L2.St) : List Nat → List Addr → Prop
  | [], [] => True
  | i :: is, a :: as => σ[i]? = some (some (.ref a)) ∧ Al σ is as
  | _, _ => False
theorem args_rep (E : EnvR K w σ ρ H) : ∀ {ks : List Bool} {rs : List RV} {vs : List V} {ds : List D} {is : List Nat}, RepRs K w σ H0 H rs vs → argsD ρ ks rs = some (ds, is) →
    RepA K w H ks ds vs ∧ Al σ is (mutA ks vs) ∧ (∀ i ∈ is, ∃ d, ρ[i]? = some (.mu d)) ∧ is.Nodup
  | [], [], vs, ds, is, h, e => by
    cases (show vs = [] from h)
    simp [argsD] at e
    obtain ⟨rfl, rfl⟩ := e
    exact ⟨trivial, trivial, (fun _ z => nomatch z), List.nodup_nil⟩
  | false :: ks, .val d :: rs, vs, ds, is, h, e => by
    obtain ⟨v, us, e1, h1, h2⟩ := h
    subst e1
    simp only [argsD] at e
    split at e
    · rename_i ds' is' e2
      cases e
      obtain ⟨a1, a2, a3, a4⟩ := args_rep E h2 e2
      refine ⟨⟨h1, a1⟩, ?_, a3, a4⟩
      cases v <;> simpa [mutA] using a2
    · cases e
  | true :: ks, .slot i :: rs, vs, ds, is, h, e => by
    obtain ⟨v, us, e1, h1, h2⟩ := h
    subst e1
    simp only [argsD] at e
    split at e
    · rename_i d ds' is' e3 e2
      split at e
      · cases e
      · rename_i hi
        cases e
        obtain ⟨a1, a2, a3, a4⟩ := args_rep E h2 e2
        have h1 : σ[i]? = some (some v) := h1
        obtain ⟨a, q1, q2⟩ := E.mu i d e3
        rw [q1] at h1; cases h1
        refine ⟨⟨⟨a, rfl, q2⟩, a1⟩, ⟨q1, a2⟩, fun j hj => ?_, List.nodup_cons.mpr ⟨hi, a4⟩⟩
        rcases List.mem_cons.mp hj with z | hj
        · subst z; exact ⟨d, e3⟩
        · exact a3 j hj
    · cases e
  | [], _ :: _, _, _, _, _, e => by simp [argsD] at e
  | false :: _, [], _, _, _, _, e => by simp [argsD] at e
  | true :: _, [], _, _, _, _, e => by simp [argsD] at e
  | false :: _, .slot _ :: _, _, _, _, _, e => by simp [argsD] at e
  | false :: _, .fresh _ :: _, _, _, _, _, e => by simp [argsD] at e
  | true :: _, .val _ :: _, _, _, _, _, e => by simp [argsD] at e
  | true :: _, .fresh _ :: _, _, _, _, _, e => by simp [argsD] at e
theorem Al.mem : ∀ {is : List Nat} {as : List Addr} {a : Addr}, Al σ is as → a ∈ as → ∃ i ∈ is, σ[i]? = some (some (.ref a))
  | [], [], _, _, h => nomatch h
  | i :: is, b :: as, a, h, hm => by
    rcases List.mem_cons.mp hm with z | hm
    · subst z; exact ⟨i, List.mem_cons_self, h.1⟩
    · obtain ⟨j, h1, h2⟩ := Al.mem h.2 hm
      exact ⟨j, List.mem_cons_of_mem _ h1, h2⟩
theorem Al.of : ∀ {is : List Nat} {as : List Addr} {i : Nat}, Al σ is as → i ∈ is → ∃ a ∈ as, σ[i]? = some (some (.ref a))
  | [], [], _, _, h => nomatch h
  | i :: is, b :: as, j, h, hm => by
    rcases List.mem_cons.mp hm with z | hm
    · subst z; exact ⟨b, List.mem_cons_self, h.1⟩
    · obtain ⟨a, h1, h2⟩ := Al.of h.2 hm
      exact ⟨a, List.mem_cons_of_mem _ h1, h2⟩
theorem Al.nodup (E : EnvR K w σ ρ H) : ∀ {is : List Nat} {as : List Addr}, Al σ is as → (∀ i ∈ is, ∃ d, ρ[i]? = some (.mu d)) → is.Nodup → as.Nodup
  | [], [], _, _, _ => List.nodup_nil
  | i :: is, a :: as, h, hm, hn => by
    rw [List.nodup_cons] at hn ⊢
    refine ⟨fun ha => ?_, Al.nodup E h.2 (fun j hj => hm j (List.mem_cons_of_mem _ hj)) hn.2⟩
    obtain ⟨j, h1, h2⟩ := h.2.mem ha
    obtain ⟨d, q1⟩ := hm i List.mem_cons_self
    obtain ⟨e, q2⟩ := hm j (List.mem_cons_of_mem _ h1)
    exact hn.1 (E.ap i j d e a q1 q2 h.1 h2 ▸ h1)
theorem Al.owned : ∀ {is : List Nat} {as : List Addr} {a : Addr}, Al σ is as → (∀ i ∈ is, ∃ d, ρ[i]? = some (.mu d)) → a ∈ as → Own σ ρ a := fun h hm ha => by
  obtain ⟨i, h1, h2⟩ := h.mem ha
  obtain ⟨d, q⟩ := hm i h1
  exact ⟨i, d, q, h2⟩
theorem setMs_len : ∀ {is : List Nat} {ms : List D}, (setMs ρ is ms).length = ρ.length
  | [], _ => rfl
  | _ :: _, [] => rfl
  | i :: is, d :: ms => by simp [setMs, setMs_len (is := is) (ms := ms)]
theorem setMs_im : ∀ {is : List Nat} {ms : List D} {j : Nat} {c : D}, (setMs ρ is ms)[j]? = some (.im c) → ρ[j]? = some (.im c)
  | [], _, _, _, h => h
  | _ :: _, [], _, _, h => h
  | i :: is, d :: ms, j, c, h => by
    unfold setMs at h
    by_cases z : j = i
    · subst z
      by_cases hl : j < (setMs ρ is ms).length
      · rw [List.getElem?_set_self hl] at h; cases h
      · rw [List.getElem?_eq_none (by rw [List.length_set]; omega)] at h; cases h
    · exact setMs_im (set_back h z)
theorem setMs_mu : ∀ {is : List Nat} {ms : List D} {as : List Addr} {j : Nat} {c : D}, Al σ is as → RepMs K w H as ms → (setMs ρ is ms)[j]? = some (.mu c) → (∃ a ∈ as, σ[j]? = some (some (.ref a)) ∧ RepM K w H a c) ∨ (ρ[j]? = some (.mu c) ∧ j ∉ is)
  | [], ms, [], _, _, _, _, h => .inr ⟨h, by simp⟩
  | i :: is, d :: ms, a :: as, j, c, al, rm, h => by
    unfold setMs at h
    by_cases z : j = i
    · subst z
      by_cases hl : j < (setMs ρ is ms).length
      · rw [List.getElem?_set_self hl] at h; cases h
        exact .inl ⟨a, List.mem_cons_self, al.1, rm.1⟩
      · rw [List.getElem?_eq_none (by rw [List.length_set]; omega)] at h; cases h
    · rcases setMs_mu al.2 rm.2 (set_back h z) with ⟨b, h1, h2, h3⟩ | ⟨h1, h2⟩
      · exact .inl ⟨b, List.mem_cons_of_mem _ h1, h2, h3⟩
      · exact .inr ⟨h1, by simp only [List.mem_cons, not_or]; exact ⟨z, h2⟩⟩
  | i :: is, [], a :: as, _, _, _, rm, _ => rm.elim
/-- behind a call -/
theorem post_call {is : List Nat} {as : List Addr} {ms : List D} (E : EnvR K w σ ρ H) (al : Al σ is as) (hm : ∀ i ∈ is, ∃ d, ρ[i]? = some (.mu d)) (p : PostF K w H H' as ms) : Post K w σ ρ H (setMs ρ is ms) H' := by
  have frm : ∀ a o, H a = some o → ¬ Own σ ρ a → H' a = some o := fun a o h n => p.frm a o h fun z => n (al.owned hm z)
  have l : Le H H' := by
    refine ⟨fun a xs e => frm a _ e fun o => ?_, fun a o u e => frm a _ e fun z => ?_⟩
    · obtain ⟨u, h1, h2⟩ := E.own_mut o
      rw [e] at h1; cases h1; exact h2
    · obtain ⟨u, h1, h2⟩ := E.own_mut z
      rw [e] at h1; cases h1; exact h2
  have sub : ∀ (j : Nat) (c : D), (setMs ρ is ms)[j]? = some (.mu c) → ∃ e, ρ[j]? = some (.mu e) := fun j c h => by
    by_cases hj : j ∈ is
    · exact hm j hj
    · rcases setMs_mu al p.mu h with ⟨a, h1, h2, h3⟩ | ⟨h1, h2⟩
      · -- another slot with the object: the same slot
        obtain ⟨k, k1, k2⟩ := al.mem h1
        by_cases hl : ∃ e, ρ[j]? = some (.mu e)
        · exact hl
        · exfalso
          -- the slot's own content was written: j is among is
          have : ∀ {is : List Nat} {ms : List D}, (setMs ρ is ms)[j]? = some (.mu c) → j ∈ is ∨ ∃ e, ρ[j]? = some (.mu e) := by
            intro is
            induction is with
            | nil => intro ms h; exact .inr ⟨c, h⟩
            | cons i is ih =>
              intro ms h
              cases ms with
              | nil => exact .inr ⟨c, h⟩
              | cons d ms =>
                unfold setMs at h
                by_cases z : j = i
                · exact .inl (z ▸ List.mem_cons_self)
                · rcases ih (set_back h z) with q | q
                  · exact .inl (List.mem_cons_of_mem _ q)
                  · exact .inr q
          rcases this h with q | q
          · exact hj q
          · exact hl q
      · exact ⟨c, h1⟩
  refine ⟨⟨by rw [setMs_len]; exact E.len, fun j c h => ?_, fun j c h => ?_, fun j k c c' b h h' q q' => ?_⟩, frm, sub, p.dom⟩
  · obtain ⟨v, h1, h2⟩ := E.im j c (setMs_im h)
    exact ⟨v, h1, Rep.mono l _ _ h2⟩
  · rcases setMs_mu al p.mu h with ⟨a, h1, h2, h3⟩ | ⟨h1, h2⟩
    · exact ⟨a, h2, h3⟩
    · obtain ⟨a, q1, q2⟩ := E.mu j c h1
      obtain ⟨u, q3, _⟩ := q2.at
      refine ⟨a, q1, q2.mono l ((p.frm a u q3 fun z => ?_).trans q3.symm)⟩
      obtain ⟨i, k1, k2⟩ := al.mem z
      obtain ⟨d, k3⟩ := hm i k1
      exact h2 (E.ap j i c d a h1 k3 q1 k2 ▸ k1)
  · obtain ⟨e, h1⟩ := sub j c h
    obtain ⟨e', h2⟩ := sub k c' h'
    exact E.ap j k e e' b h1 h2 q q'
end
/-- f(..) -/
def fCallF (ks : List Bool) (g : FD) (fa : FA) : FE := fun ρ => match fa ρ with
  | some (rs, ρ1) => match argsD ρ1 ks rs with
    | some (ds, is) => match g ds with
      | some (.ok rv ms) => match rv with
        | .slot _ => none
        | rv => some (rv, setMs ρ1 is ms)
      | _ => none
    | none => none
  | none => none
theorem Post.dom' {K : PySem.W.Frag} {w : World} {H H' : Hp} {σ : L2.St} {ρ ρ' : DEnv} (p : Post K w σ ρ H ρ' H') : ∀ a, H' a = none → H a = none := p.dom
section
variable {X : Cx} {k : Nat} {f : Addr} {fd : FuncData} {ps : List Str} {ks : List Bool} {g : FD} {x : Str} {p pos : Pos} {e : Expr} {es : List Expr} {fa : FA}
theorem call_ok {K : PySem.W.Frag} {w : World} (σ : L2.St) (H : Hp) (Q : VK) (h : tD K w (fCallF ks g fa) σ H Q) : tCall (sp0 K w ks g) [] E0 (aD K w fa) σ H Q := by
  obtain ⟨ρ, rv, ρ', E, e, k⟩ := h
  unfold fCallF at e
  split at e
  · rename_i rs ρ1 e1
    split at e
    · rename_i ds is e2
      split at e
      · rename_i rv0 ms e3
        refine ⟨ρ, rs, ρ1, E, e1, fun vs H1 p1 r1 => ?_⟩
        obtain ⟨a1, a2, a3, a4⟩ := args_rep p1.env r1 e2
        rw [List.append_nil]
        refine ⟨ds, a1, a2.nodup p1.env a3 a4, rv0, ms, e3, fun v H2 p2 r2 => ?_⟩
        have p12 := p1.trans (post_call p1.env a2 a3 p2)
        split at e
        · cases e
        · cases e
          exact k v H2 p12 (r2.sig.elder p1.dom)
      · cases e
    · cases e
  · cases e
theorem de_call (F : FnOk X.prog X.w X.K X.mg X.base CX0 k f fd ps (sp0 X.K X.w ks g)) (hr : Room k X.A) (hm : X.mg x = some (.ref f)) (hk : PySem.W.keepIn X.K (.ref f) = true) (hb : Binds X.K fd ps []) (ha : DA X (e :: es) fa) (hg : Gl X x := by rfl) (hdb : (x == ("__debug__" : Str)) = false := by decide)
    (he : starEach (e :: es) X.env = (false, eval e X.env) :: starEach es X.env := by rfl) (hpl : (backTo pos (starEach es X.env)).any (·.1) = false := by rfl) : DE X (.Call (.Name x p) (e :: es) [] pos) (fCallF ks g fa) :=
  PE.imp (pe_call F hr hg hm hk hb .nil pass0 ha hdb he hpl) call_ok
end
/-! ### what may raise -/
inductive RX where
  | ok (rv : RV) (ρ : DEnv) | ex (x : Exn) (ρ : DEnv)
inductive RXs where
  | ok (rs : List RV) (ρ : DEnv) | ex (x : Exn) (ρ : DEnv)
abbrev FX := DEnv → Option RX
abbrev FXs := DEnv → Option RXs
section
variable (K : PySem.W.Frag) (w : World) (W : WD)
def tX (f : FX) : TE := fun σ H Q => ∃ ρ r, EnvR K w σ ρ H ∧ f ρ = some r ∧ match r with
  | .ok rv ρ' => ∀ v H', Post K w σ ρ H ρ' H' → RepR K w σ H H' rv v → Q v H'
  | .ex x ρ' => ∀ H', Post K w σ ρ H ρ' H' → W x σ H'
def aX (f : FXs) : TA := fun σ H Q => ∃ ρ r, EnvR K w σ ρ H ∧ f ρ = some r ∧ match r with
  | .ok rs ρ' => ∀ vs H', Post K w σ ρ H ρ' H' → RepRs K w σ H H' rs vs → Q vs H'
  | .ex x ρ' => ∀ H', Post K w σ ρ H ρ' H' → W x σ H'
end
abbrev DX (X : Cx) (W : WD) (e : Expr) (f : FX) : Prop := PE X e (tX X.K X.w W f)
abbrev DAX (X : Cx) (W : WD) (es : List Expr) (f : FXs) : Prop := PA X es (aX X.K X.w W f)
def xOf (f : FE) : FX := fun ρ => match f ρ with
  | some (rv, ρ1) => some (.ok rv ρ1)
  | none => none
def xNil : FXs := fun ρ => some (.ok [] ρ)
def xCons (f : FX) (fr : FXs) : FXs := fun ρ => match f ρ with
  | some (.ok r ρ1) => match fr ρ1 with
    | some (.ok rs ρ2) => some (.ok (r :: rs) ρ2)
    | some (.ex x ρ2) => some (.ex x ρ2)
    | none => none
  | some (.ex x ρ1) => some (.ex x ρ1)
  | none => none
def xTup (fa : FXs) : FX := fun ρ => match fa ρ with
  | some (.ok rs ρ1) => match vals rs with
    | some ds => if ds.length ≤ 1000000 then some (.ok (.val (.tup ds)) ρ1) else none
    | none => none
  | some (.ex x ρ1) => some (.ex x ρ1)
  | none => none
def xIf (c : FT) (f g : FX) : FX := fun ρ => match c ρ with
  | some (true, ρ1) => f ρ1
  | some (false, ρ1) => g ρ1
  | none => none
/-- a def that does not raise, its argument may -/
def xCallF (ks : List Bool) (g : FD) (fa : FXs) : FX := fun ρ => match fa ρ with
  | some (.ok rs ρ1) => match argsD ρ1 ks rs with
    | some (ds, is) => match g ds with
      | some (.ok rv ms) => match rv with
        | .slot _ => none
        | rv => some (.ok rv (setMs ρ1 is ms))
      | _ => none
    | none => none
  | some (.ex x ρ1) => some (.ex x ρ1)
  | none => none
/-- a def that may raise -/
def xCallX (ks : List Bool) (g : FD) (fa : FXs) : FX := fun ρ => match fa ρ with
  | some (.ok rs ρ1) => match argsD ρ1 ks rs with
    | some (ds, is) => match g ds with
      | some (.ok rv ms) => match rv with
        | .slot _ => none
        | rv => some (.ok rv (setMs ρ1 is ms))
      | some (.ex x ms) => some (.ex x (setMs ρ1 is ms))
      | none => none
    | none => none
  | some (.ex x ρ1) => some (.ex x ρ1)
  | none => none
def gRetX (f : FX) : FS := fun ρ => match f ρ with
  | some (.ok r ρ1) => some (.rt r ρ1)
  | some (.ex x ρ1) => some (.ex x ρ1)
  | none => none
def gDropX (f : FX) : FS := fun ρ => match f ρ with
  | some (.ok _ ρ1) => some (.nx ρ1)
  | some (.ex x ρ1) => some (.ex x ρ1)
  | none => none
section
variable {X : Cx} {W : WD} {P : List Nat} {e c a b : Expr} {es : List Expr} {fe : FE} {f g : FX} {fr : FXs} {ft : FT} {pos : Pos}
theorem dx_of (h : DE X e fe) : DX X W e (xOf fe) := PE.imp h fun σ H Q ⟨ρ, r, E, eo, k⟩ => by
  unfold xOf at eo
  split at eo
  · rename_i rv ρ1 e1
    cases eo
    exact ⟨ρ, rv, ρ1, E, e1, k⟩
  · cases eo
theorem dax_nil : DAX X W [] xNil := PA.imp pa_nil fun σ H Q ⟨ρ, r, E, e, k⟩ => by
  cases e
  exact k [] H (Post.refl E) rfl
theorem dax_cons (ha : DX X W e f) (hr : DAX X W es fr) (hs : starEach (e :: es) X.env = (false, eval e X.env) :: starEach es X.env := by rfl) : DAX X W (e :: es) (xCons f fr) := PA.imp (pa_cons ha hr hs) fun σ H Q ⟨ρ, r, E, eo, k⟩ => by
  unfold xCons at eo
  split at eo
  · rename_i r0 ρ1 e1
    split at eo
    · rename_i rs ρ2 e2
      cases eo
      refine ⟨ρ, _, E, e1, fun v H1 p1 r1 => ⟨ρ1, _, p1.env, e2, fun vs H2 p2 r2 => ?_⟩⟩
      exact k _ H2 (p1.trans p2) ⟨v, vs, rfl, r1.keep E p1 p2, RepRs.elder p1.dom r2⟩
    · rename_i x ρ2 e2
      cases eo
      exact ⟨ρ, _, E, e1, fun v H1 p1 r1 => ⟨ρ1, _, p1.env, e2, fun H2 p2 => k H2 (p1.trans p2)⟩⟩
    · cases eo
  · rename_i x ρ1 e1
    cases eo
    exact ⟨ρ, _, E, e1, k⟩
  · cases eo
theorem dx_tup {x1} (h : DAX X W es fr) : DX X W (.Tuple es x1 pos) (xTup fr) := PE.imp (pe_tup h) fun σ H Q ⟨ρ, r, E, e, k⟩ => by
  unfold xTup at e
  split at e
  · rename_i rs ρ1 e1
    split at e
    · rename_i ds e2
      split at e
      · rename_i hl
        cases e
        refine ⟨ρ, _, E, e1, fun vs H1 p1 r1 => ?_⟩
        have rr := r1.vals e2
        refine ⟨line_of (by rw [← rr.length]; exact hl), fun p hp => ?_⟩
        have kn := keep_new (o := .tup vs) hp
        refine k _ _ (p1.trans (Post.grow p1.env kn)) ⟨p, vs, rfl, SqT.of upd_same, Reps.mono ?_ _ _ rr⟩
        exact ⟨fun a _ h => kn a _ h, fun a _ _ h => kn a _ h⟩
      · cases e
    · cases e
  · rename_i x ρ1 e1
    cases e
    exact ⟨ρ, _, E, e1, k⟩
  · cases e
theorem dx_if (hc : DT X c ft) (ha : DX X W a f) (hb : DX X W b g) : DX X W (.IfExp c a b pos) (xIf ft f g) := PE.imp (pe_ifExp hc ha hb) fun σ H Q ⟨ρ, r, E, e, k⟩ => by
  unfold xIf at e
  split at e
  · rename_i ρ1 e1
    refine ⟨ρ, true, ρ1, E, e1, fun H1 p1 => ⟨ρ1, r, p1.env, e, ?_⟩⟩
    cases r with
    | ok rv ρ' => exact fun v H' p rr => k v H' (p1.trans p) (rr.elder p1.dom)
    | ex x ρ' => exact fun H' p => k H' (p1.trans p)
  · rename_i ρ1 e1
    refine ⟨ρ, false, ρ1, E, e1, fun H1 p1 => ⟨ρ1, r, p1.env, e, ?_⟩⟩
    cases r with
    | ok rv ρ' => exact fun v H' p rr => k v H' (p1.trans p) (rr.elder p1.dom)
    | ex x ρ' => exact fun H' p => k H' (p1.trans p)
  · cases e
theorem dx_call {k : Nat} {fA : Addr} {fd : FuncData} {ps : List Str} {ks : List Bool} {gf : FD} {x : Str} {p : Pos} (F : FnOk X.prog X.w X.K X.mg X.base CX0 k fA fd ps (sp0 X.K X.w ks gf)) (hr : Room k X.A) (hm : X.mg x = some (.ref fA)) (hk : PySem.W.keepIn X.K (.ref fA) = true) (hb : Binds X.K fd ps []) (ha : DAX X W (e :: es) fr) (hg : Gl X x := by rfl) (hdb : (x == ("__debug__" : Str)) = false := by decide)
    (he : starEach (e :: es) X.env = (false, eval e X.env) :: starEach es X.env := by rfl) (hpl : (backTo pos (starEach es X.env)).any (·.1) = false := by rfl) : DX X W (.Call (.Name x p) (e :: es) [] pos) (xCallF ks gf fr) :=
  PE.imp (pe_call F hr hg hm hk hb .nil pass0 ha hdb he hpl) fun σ H Q ⟨ρ, r, E, eo, k⟩ => by
    unfold xCallF at eo
    split at eo
    · rename_i rs ρ1 e1
      split at eo
      · rename_i ds is e2
        split at eo
        · rename_i rv0 ms e3
          refine ⟨ρ, _, E, e1, fun vs H1 p1 r1 => ?_⟩
          obtain ⟨a1, a2, a3, a4⟩ := args_rep p1.env r1 e2
          rw [List.append_nil]
          refine ⟨ds, a1, a2.nodup p1.env a3 a4, rv0, ms, e3, fun v H2 p2 r2 => ?_⟩
          have p12 := p1.trans (post_call p1.env a2 a3 p2)
          split at eo
          · cases eo
          · cases eo
            exact k v H2 p12 (r2.sig.elder p1.dom)
        · cases eo
      · cases eo
    · rename_i x ρ1 e1
      cases eo
      exact ⟨ρ, _, E, e1, k⟩
    · cases eo
theorem dx_callX {C : Addr × Addr} {W' : WX} {k : Nat} {fA : Addr} {fd : FuncData} {ps : List Str} {ks : List Bool} {gf : FD} {x : Str} {p : Pos} (F : FnOk X.prog X.w X.K X.mg X.base (L2.CX X.prog X.w) k fA fd ps (spX X.K X.w C ks gf)) (hr : Room k X.A) (hm : X.mg x = some (.ref fA)) (hk : PySem.W.keepIn X.K (.ref fA) = true) (hb : Binds X.K fd ps []) (tk : Takes X W')
    (ha : DAX X (wd X.K X.w C W') (e :: es) fr) (hg : Gl X x := by rfl) (hdb : (x == ("__debug__" : Str)) = false := by decide)
    (he : starEach (e :: es) X.env = (false, eval e X.env) :: starEach es X.env := by rfl) (hpl : (backTo pos (starEach es X.env)).any (·.1) = false := by rfl) : DX X (wd X.K X.w C W') (.Call (.Name x p) (e :: es) [] pos) (xCallX ks gf fr) :=
  PE.imp (pe_callS F hr hg hm hk hb (fun σ => passAt tk σ) ha hdb he hpl) fun σ H Q ⟨ρ, r, E, eo, k⟩ => by
    unfold xCallX at eo
    split at eo
    · rename_i rs ρ1 e1
      split at eo
      · rename_i ds is e2
        refine ⟨ρ, _, E, e1, fun vs H1 p1 r1 => ?_⟩
        obtain ⟨a1, a2, a3, a4⟩ := args_rep p1.env r1 e2
        split at eo
        · rename_i rv0 ms e3
          refine ⟨ds, a1, a2.nodup p1.env a3 a4, _, e3, fun v H2 p2 r2 => ?_⟩
          have p12 := p1.trans (post_call p1.env a2 a3 p2)
          split at eo
          · cases eo
          · cases eo
            exact k v H2 p12 (r2.sig.elder p1.dom)
        · rename_i x ms e3
          cases eo
          exact ⟨ds, a1, a2.nodup p1.env a3 a4, _, e3, fun H2 p2 => k H2 (p1.trans (post_call p1.env a2 a3 p2))⟩
        · cases eo
      · cases eo
    · rename_i x ρ1 e1
      cases eo
      exact ⟨ρ, _, E, e1, k⟩
    · cases eo
theorem ds_retX (he : DX X W e f) : DS X P W (.Return (some e) pos) (gRetX f) := PS.imp (ps_ret he) fun D σ H ⟨ρ, o, E, eo, k⟩ => by
  unfold gRetX at eo
  split at eo
  · rename_i r ρ1 e1
    cases eo
    exact ⟨ρ, _, E, e1, fun v H1 p1 r1 => k v σ H1 p1.s r1⟩
  · rename_i x ρ1 e1
    cases eo
    exact ⟨ρ, _, E, e1, fun H1 p1 => k σ H1 p1.s⟩
  · cases eo
theorem ds_exprX (he : DX X W e f) (hs : swapsWith e none pos.line X.env = pure false := by rfl) : DS X P W (.Expr e pos) (gDropX f) := PS.imp (ps_expr he hs) fun D σ H ⟨ρ, o, E, eo, k⟩ => by
  unfold gDropX at eo
  split at eo
  · rename_i r ρ1 e1
    cases eo
    exact ⟨ρ, _, E, e1, fun v H1 p1 r1 => k σ H1 p1.s⟩
  · rename_i x ρ1 e1
    cases eo
    exact ⟨ρ, _, E, e1, fun H1 p1 => k σ H1 p1.s⟩
  · cases eo
end
end DL

set_option Elab.async false
set_option linter.all false
set_option maxRecDepth 100000
set_option maxHeartbeats 2000000
namespace DL
open PySem PySem.Spec PyProof.Rows L2

/-! ### raise Malformed('..'), try .. except Malformed -/
def gRaise (x : Exn) : FS := fun ρ => some (.ex x ρ)
section
variable {X : Cx} {P : List Nat} {C : Addr × Addr} {W' : WX} {bmB : List Value} {B newId initId : String} {x m : Str} {j : Nat} {p p2 pos pos2 : Pos}
theorem ds_raiseM (hc : X.calm = true) (tk : Takes X W') (F : ExcBaseFacts B newId initId bmB) (q : PySem.W.excIn X.K C.1 bmB newId = true) (gC : X.mg x = some (.ref C.1)) (kC : PySem.W.keepIn X.K (.ref C.1) = true) (h1 : PySem.W.subIn X.K (.ref C.1) (.type "BaseException") = some true) (h2 : PySem.W.typeIn X.K (.ref C.1) = some (.type "type"))
    (hg : Gl X x := by rfl) (hdb : (x == ("__debug__" : Str)) = false := by decide) : DS X P (wd X.K X.w C W') (.Raise (some (.Call (.Name x p) [.Constant (.str m) j p2] [] pos)) none pos2) (gRaise .mal) :=
  PS.imp (ps_raise hc tk (pmk_own F q gC kC (raises_own h1 h2) hg hdb)) fun D σ H ⟨ρ, o, E, e, k⟩ => by
    cases e
    exact k σ H (PostS.refl E)
end
def gTryM (fb fs : FS) : FS := fun ρ => match fb ρ with
  | some (.ex .mal ρ1) => fs ρ1
  | some (.ex (.rfd _) _) => none
  | o => o
section
variable {X : Cx} {P : List Nat} {W : WD} {C : Addr × Addr} {x : Str} {c : Value} {body suite : List Stmt} {b₀ : Stmt} {np pos pos' : Pos} {fb fs : FS}
theorem ds_tryM (hc : Names X x c) (hm : PySem.W.exmOne X.K (.ref C.1) c = some true) (hb : ∀ (W' : WX) (pn : List (Addr × Obj)) (xe : Value → Shared → Prop), Takes (X.tr pn xe) W' → DSs (X.tr pn xe) P (wd X.K X.w C W') body fb)
    (hsu : ∀ (a : Addr) (pn : List (Addr × Obj)), DSs (X.suite a pn) P W (b₀ :: suite) fs) (hs : X.stack = X.env :: X.outer := by rfl) (hf : X.env.frame = some X.env.locals := by rfl) :
    DS X P W (.Try body [.ExceptHandler (some (.Name x np)) none (b₀ :: suite) pos'] [] [] pos) (gTryM fb fs) :=
  PS.imp (ps_try_only (tb := fun W' => sDs X.K X.w P (wd X.K X.w C W') fb) (ts := fun _ _ _ => sDs X.K X.w P W fs) (Wout := fun _ _ _ _ => False) hs hf hc takes0 (fun W' pn xe tk _ => hb W' pn xe tk) (fun a oe cls d pn _ _ => hsu a _)) fun D σ H ⟨ρ, o, E, e, k⟩ => by
    unfold gTryM at e
    split at e
    · rename_i ρ1 e1
      refine ⟨ρ, _, E, e1, fun σ1 H1 p1 => ?_⟩
      exact ⟨true, hm, fun _ a _ => sDs_then p1 e k, fun z => by cases z⟩
    · cases e
    · rename_i h1 h2
      refine ⟨ρ, o, E, e, ?_⟩
      cases o with
      | ex x ρ1 =>
        cases x with
        | mal => exact (h1 ρ1 e).elim
        | rfd d => exact (h2 d ρ1 e).elim
      | _ => exact k
end
/-! ### a chain of three -/
def tChain3 (r1 r2 r3 : R2) (ta tb tc td : TE) : TE := fun σ H Q => ta σ H fun x H1 => tb σ H1 fun y H2 => r1 x y H2 fun z H3 => ∃ k, z = .bl k ∧
  (if k = true then tc σ H3 fun u H4 => r2 y u H4 fun z2 H5 => ∃ k2, z2 = .bl k2 ∧ (if k2 = true then td σ H5 fun t H6 => r3 u t H6 Q else Q (.bl false) H5) else Q (.bl false) H3)
section
variable {X : Cx} {a b c d : Expr} {pos : Pos} {ta tb tc td : TE}
theorem pe_chain3 {op1 op2 op3 : CmpOp} {r1 r2 r3 : R2} (h1 : OpR X (compareOp op1) r1) (h2 : OpR X (compareOp op2) r2) (h3 : OpR X (compareOp op3) r3) (ha : PE X a ta) (hb : PE X b tb) (hc : PE X c tc) (hd : PE X d td)
    (hm : lastMarks [op1, op2, op3] [b, c, d] = false := by with_unfolding_all rfl) : PE X (.Compare a [op1, op2, op3] [b, c, d] pos) (tChain3 r1 r2 r3 ta tb tc td) := by
  refine ⟨fun pins s σ H Q I h => ?_⟩
  refine Compare_chain (thn (ha.run pins s σ H _ I h) fun v s1 ⟨x, H1, I1, q1, g1⟩ => chain_link (thn (hb.run pins s1 σ H1 _ I1 g1) fun u s2 ⟨y, H2, I2, q2, g2⟩ =>
    thn (h1 pins s2 σ H2 x y v u _ I2 q1 q2 g2) fun e1 s3 ⟨z, H3, I3, q3, k, ek, g3⟩ => ?_)) hm
  subst ek
  cases q3
  refine wpAny_truthy_bool ?_
  cases k with
  | false => exact ite_ff ⟨.bl false, H3, I3, rfl, g3⟩
  | true =>
    refine ite_tt (chain_link (thn (hc.run pins s3 σ H3 _ I3 g3) fun w' s4 ⟨z', H4, I4, q4, g4⟩ => thn (h2 pins s4 σ H4 y z' u w' _ I4 q2 q4 g4) fun e2 s5 ⟨z2, H5, I5, q5, k2, ek2, g5⟩ => ?_))
    subst ek2
    cases q5
    refine wpAny_truthy_bool ?_
    cases k2 with
    | false => exact ite_ff ⟨.bl false, H5, I5, rfl, g5⟩
    | true => exact ite_tt (chain_last (thn (hd.run pins s5 σ H5 _ I5 g5) fun w2 s6 ⟨z6, H6, I6, q6, g6⟩ => h3 pins s6 σ H6 z' z6 w' w2 Q I6 q4 q6 g6))
end
/-- the middle terms are ints -/
def fChain3 (g1 g2 g3 : D → D → Option Bool) (fa fb fc fd : FE) : FE := fun ρ => match fa ρ with
  | some (ra, ρ1) => match fb ρ1 with
    | some (.val (.int y), ρ2) => match ra.get ρ2 with
      | some x => match g1 x (.int y) with
        | some true => match fc ρ2 with
          | some (.val (.int u), ρ3) => match g2 (.int y) (.int u) with
            | some true => match fd ρ3 with
              | some (rd, ρ4) => match rd.get ρ4 with
                | some t => (g3 (.int u) t).map fun b => (.val (.bl b), ρ4)
                | none => none
              | none => none
            | some false => some (.val (.bl false), ρ3)
            | none => none
          | _ => none
        | some false => some (.val (.bl false), ρ2)
        | none => none
      | none => none
    | _ => none
  | none => none
section
variable {X : Cx} {a b c d : Expr} {pos : Pos} {fa fb fc fd : FE}
theorem de_chain3 {op1 op2 op3 : CmpOp} {g1 g2 g3 : D → D → Option Bool} (h1 : OpR X (compareOp op1) (rD X.K X.w (cmpB g1))) (h2 : OpR X (compareOp op2) (rD X.K X.w (cmpB g2))) (h3 : OpR X (compareOp op3) (rD X.K X.w (cmpB g3))) (ha : DE X a fa) (hb : DE X b fb) (hc : DE X c fc) (hd : DE X d fd)
    (hm : lastMarks [op1, op2, op3] [b, c, d] = false := by with_unfolding_all rfl) : DE X (.Compare a [op1, op2, op3] [b, c, d] pos) (fChain3 g1 g2 g3 fa fb fc fd) := PE.imp (pe_chain3 h1 h2 h3 ha hb hc hd hm) fun σ H Q ⟨ρ, rv, ρ', E, e, k⟩ => by
  unfold fChain3 at e
  split at e
  · rename_i ra ρ1 e1
    split at e
    · rename_i y ρ2 e2
      split at e
      · rename_i x e3
        split at e
        · rename_i e4
          split at e
          · rename_i u ρ3 e5
            split at e
            · rename_i e6
              split at e
              · rename_i rd ρ4 e7
                split at e
                · rename_i t e8
                  obtain ⟨bz, e9, e10⟩ := Option.map_eq_some_iff.mp e
                  cases e10
                  refine ⟨ρ, ra, ρ1, E, e1, fun vx H1 p1 r1 => ⟨ρ1, _, ρ2, p1.env, e2, fun vy H2 p2 r2 => ⟨x, .int y, _, (r1.keep E p1 p2).b p2.env e3, r2, (by show (g1 x (.int y)).map _ = _; rw [e4]; rfl), fun v3 H3 k3 r3 => ?_⟩⟩⟩
                  refine ⟨true, r3, ?_⟩
                  have p3 : Post X.K X.w σ ρ2 H2 ρ2 H3 := Post.grow p2.env k3
                  have p123 := (p1.trans p2).trans p3
                  show tD X.K X.w fc σ H3 _
                  refine ⟨ρ2, _, ρ3, p3.env, e5, fun vu H4 p4 r4 => ⟨.int y, .int u, _, r2, r4, (by show (g2 _ _).map _ = _; rw [e6]; rfl), fun v5 H5 k5 r5 => ?_⟩⟩
                  refine ⟨true, r5, ?_⟩
                  have p5 : Post X.K X.w σ ρ3 H4 ρ3 H5 := Post.grow p4.env k5
                  show tD X.K X.w fd σ H5 _
                  refine ⟨ρ3, rd, _, p5.env, e7, fun vt H6 p6 r6 => ⟨.int u, t, _, r4, r6.b p6.env e8, (by show (g3 _ _).map _ = _; rw [e9]; rfl), fun v7 H7 k7 r7 => ?_⟩⟩
                  exact k v7 H7 ((((p123.trans p4).trans p5).trans p6).trans (Post.grow p6.env k7)) r7
                · cases e
              · cases e
            · rename_i e6
              cases e
              refine ⟨ρ, ra, ρ1, E, e1, fun vx H1 p1 r1 => ⟨ρ1, _, ρ2, p1.env, e2, fun vy H2 p2 r2 => ⟨x, .int y, _, (r1.keep E p1 p2).b p2.env e3, r2, (by show (g1 x (.int y)).map _ = _; rw [e4]; rfl), fun v3 H3 k3 r3 => ?_⟩⟩⟩
              refine ⟨true, r3, ?_⟩
              have p3 : Post X.K X.w σ ρ2 H2 ρ2 H3 := Post.grow p2.env k3
              have p123 := (p1.trans p2).trans p3
              show tD X.K X.w fc σ H3 _
              refine ⟨ρ2, _, ρ', p3.env, e5, fun vu H4 p4 r4 => ⟨.int y, .int u, _, r2, r4, (by show (g2 _ _).map _ = _; rw [e6]; rfl), fun v5 H5 k5 r5 => ?_⟩⟩
              exact ⟨false, r5, k _ H5 ((p123.trans p4).trans (Post.grow p4.env k5)) rfl⟩
            · cases e
          · cases e
        · rename_i e4
          cases e
          refine ⟨ρ, ra, ρ1, E, e1, fun vx H1 p1 r1 => ⟨ρ1, _, ρ', p1.env, e2, fun vy H2 p2 r2 => ⟨x, .int y, _, (r1.keep E p1 p2).b p2.env e3, r2, (by show (g1 x (.int y)).map _ = _; rw [e4]; rfl), fun v3 H3 k3 r3 => ?_⟩⟩⟩
          exact ⟨false, r3, k _ H3 ((p1.trans p2).trans (Post.grow p2.env k3)) rfl⟩
        · cases e
      · cases e
    · cases e
  · cases e
end
/-! ### dict(x), the tuple told as plain -/
def getAllS (ρ : DEnv) : List RV → Option (List D)
  | [] => some []
  | .val d :: rs => match getAllS ρ rs with
    | some ds => some (d :: ds)
    | none => none
  | _ :: _ => none
def fCallS (g : List D → Option RV) (fa : FA) : FE := fun ρ => match fa ρ with
  | some (rs, ρ1) => match vals rs with
    | some xs => (g xs).map fun r => (r, ρ1)
    | none => none
  | none => none
theorem Reps.bs {K : PySem.W.Frag} {w : World} {H : Hp} : ∀ {ds : List D} {vs : List V}, Reps K w H ds vs → RepBs K w H ds vs
  | [], _, h => h
  | d :: ds, vs, ⟨v, us, e, h1, h2⟩ => ⟨v, us, e, Rep.b h1, Reps.bs h2⟩
theorem cbS_ok {K : PySem.W.Frag} {w : World} {g : List D → Option RV} {fa : FA} (σ : L2.St) (H : Hp) (Q : VK) (h : tD K w (fCallS g fa) σ H Q) : tCB (cD K w g) (aD K w fa) σ H Q := by
  obtain ⟨ρ, rv, ρ', E, e, k⟩ := h
  unfold fCallS at e
  split at e
  · rename_i rs ρ1 e1
    split at e
    · rename_i xs e3
      obtain ⟨r, e5, e6⟩ := Option.map_eq_some_iff.mp e
      cases e6
      exact ⟨ρ, rs, _, E, e1, fun vs H1 p1 r1 => ⟨xs, _, Reps.bs (r1.vals e3), e5, fun v H3 g3 r3 => k v H3 (p1.trans (Post.grow p1.env g3)) (r3.sig.elder p1.dom)⟩⟩
    · cases e
  · cases e
section
variable {X : Cx} {e : Expr} {es : List Expr} {fa : FA} {g : List D → Option RV} {x : Str} {p pos : Pos} {id : String}
theorem de_ctS (hc : CallR X (.type id) (cD X.K X.w g)) (hg : Gl X x) (hm : X.mg x = none) (hv : bootBuiltins x = some (.type id)) (ha : DA X (e :: es) fa) (hn : x ≠ "__name__" := by decide) (hdb : (x == ("__debug__" : Str)) = false := by decide)
    (he : starEach (e :: es) X.env = (false, eval e X.env) :: starEach es X.env := by rfl) (hpl : (backTo pos (starEach es X.env)).any (·.1) = false := by rfl) : DE X (.Call (.Name x p) (e :: es) [] pos) (fCallS g fa) :=
  PE.imp (pe_callTy hc hg hm hv ha hn hdb he hpl) cbS_ok
end
/-! ### {k: v}, k a tuple -/
def fDis1 (fk fv : FE) : FE := fun ρ => match fk ρ with
  | some (.val k, ρ1) => match fv ρ1 with
    | some (.val d, ρ2) => match keyT k with
      | some _ => some (.fresh (.dic [k] [d]), ρ2)
      | none => none
    | _ => none
  | _ => none
section
variable {X : Cx} {k v : Expr} {fk fv : FE} {pos : Pos}
theorem de_dis1 (hu : X.A.units + 64 < cLine) (hk : DE X k fk) (hv : DE X v fv) : DE X (.Dict [some k] [v] pos) (fDis1 fk fv) := by
  refine ⟨fun pins s σ H Q I ⟨ρ, rv, ρ', E, e, kq⟩ => ?_⟩
  unfold fDis1 at e
  split at e
  · rename_i dk ρ1 e1
    split at e
    · rename_i dv ρ2 e2
      split at e
      · rename_i n en
        cases e
        have hn := I.hok.fresh (Nat.le_refl s.heap.objs.size)
        have hsm : (s.heap.objs.size == sysModules) = false := beq_eq_false_iff_ne.mpr (Nat.ne_of_gt I.big)
        have kn0 := keep_new (o := dH X.w s.heap.objs.size []) hn
        have I1 := I.laid (a := s.heap.objs.size) (o := dH X.w s.heap.objs.size []) (h' := s.heap.push { cls := .type "dict", data := .dict #[] }) (t' := s.toks) (fun _ _ q => Heap.get?_push_of_some _ q) (Nat.le_refl _) (dh_empty s.heap I.big)
        have E1 : EnvR X.K X.w σ ρ (upd H s.heap.objs.size (dH X.w s.heap.objs.size [])) := E.grow kn0
        have nO : ¬ Own σ ρ s.heap.objs.size := fun z => by
          obtain ⟨u, h1, _⟩ := E.own_mut z
          rw [hn] at h1; cases h1
        rw [arm_eval_Dict, zip_pairTrees [some k] [v] X.env pos rfl rfl, dictDisplay_pairs _ (by simp [pairTrees]) (by simp [pairTrees])]
        refine wpAny_bind (wpAny_standAt (wpAny_bind (wpAny_subDictH (knd := nestedKind X.prog X.w) (Q := fun d s' => wpAny (model X.prog X.w) X.A (pure (Value.ref d)) (EP X pins σ Q) X.xe s') (show X.A.units + 8 < cLine by omega) (by simp [pairTrees]) ?_)))
        refine pairTrees_cons_walk (thn (hk.run pins _ σ _ (fun y H2 => Post X.K X.w σ ρ (upd H s.heap.objs.size (dH X.w s.heap.objs.size [])) ρ1 H2 ∧ Rep X.K X.w H2 dk y) I1 ⟨ρ, _, ρ1, E1, e1, fun kv H2 p2 r2 => ⟨p2, r2⟩⟩) fun u s2 ⟨yk, H2, I2, rk, p2, bk⟩ => ?_)
        refine thn (hv.run pins s2 σ H2 (fun y H3 => Post X.K X.w σ ρ1 H2 ρ' H3 ∧ Rep X.K X.w H3 dv y) I2 ⟨ρ1, _, ρ', p2.env, e2, fun kv H3 p3 r3 => ⟨p3, r3⟩⟩) fun u2 s3 ⟨yv, H3, I3, rv3, p3, bv⟩ => ?_
        refine pairTrees_nil_walk ?_
        have p23 := p2.trans p3
        have hp3 : H3 s.heap.objs.size = some (dH X.w s.heap.objs.size []) := p23.frm _ _ upd_same nO
        have nO3 : ¬ Own σ ρ' s.heap.objs.size := fun z => nO (p23.own z)
        have bk3 : Rep X.K X.w H3 dk yk := Rep.mono (p3.le p2.env) _ _ bk
        obtain ⟨q, eq1, eq2, rkq, hkq⟩ := key_is I3 (Rep.b bk3) rk en
        subst eq2
        obtain ⟨xs0, hm0, pe0, sm0, _⟩ := dh_heap I3 (.inl hp3) (⟨rfl, rfl, rfl⟩ : DicR X.K X.w H3 [] [] [])
        cases pe0
        refine ⟨[(n, q, u2)], ⟨rfl, rfl, hkq, trivial⟩, hm0, fun h' tk hd' hs => wpAny_pure ?_⟩
        have pe : PrE (kput [] n q yv) (storedH [] n q u2) := PrE.put rv3 PrE.nil'
        have le : Le H3 (upd H3 s.heap.objs.size (dH X.w s.heap.objs.size (kput [] n q yv))) := Le.wr hp3 trivial
        obtain ⟨ev, hdp, _⟩ := keyT_some en
        have ok : ObjOk X.prog X.w (upd H3 s.heap.objs.size (dH X.w s.heap.objs.size (kput [] n q yv))) h' s.heap.objs.size (dH X.w s.heap.objs.size (kput [] n q yv)) := dh_ok hd' pe (fun x hx => by
          have hx : x ∈ [(n, q, yv)] := hx
          rw [List.mem_singleton.mp hx]; exact hdp) (show 1 ≤ sizeLine by rw [sizeLine_eq]; decide) hsm
        refine ⟨.ref s.heap.objs.size, upd H3 s.heap.objs.size (dH X.w s.heap.objs.size (kput [] n q yv)), d_write I3 (by rw [hp3]; exact True.intro) hs (let ⟨o, _, _, h, _⟩ := hd'; ⟨o, h⟩) ok, rfl, ?_⟩
        have p03 := (Post.grow E kn0).trans p23
        refine kq _ _ ⟨p03.env.wr hp3 trivial nO3, fun b ob hb hbn => ?_, p03.sub, fun b hb => ?_⟩ ⟨_, rfl, hn, kput [] n q yv, upd_same, ?_, ?_, ?_⟩
        · rw [upd_ne (fun z => by subst z; rw [hn] at hb; cases hb)]
          exact p03.frm b ob hb hbn
        · by_cases hz : b = s.heap.objs.size
          · subst hz; exact hn
          · rw [upd_ne hz] at hb; exact p03.dom b hb
        · show keyV.keyVs [dk] = some [n]
          simp only [keyV.keyVs, ev]
        · exact ⟨_, _, rfl, Rep.mono le _ _ rkq, rfl⟩
        · exact ⟨_, _, rfl, Rep.mono le _ _ bv, rfl⟩
      · cases e
    · cases e
  · cases e
end
end DL
namespace DL
open PySem PySem.Spec PyProof.Rows L2
theorem sqF_of {K : PySem.W.Frag} {H : Hp} {a : Addr} {xs : List V} (hO : ∀ b, H b = none ∨ ∃ o xs, H b = some (.frz o (.lst xs))) (h : SqL K H a xs) : SqF K H a xs := by
  rcases h with (h | h) | h
  · rcases hO a with z | ⟨o, ys, z⟩
    · rw [z] at h; cases h
    · rw [z] at h; cases h
  · exact .inl h
  · exact .inr h
end DL

set_option Elab.async false
set_option linter.all false
set_option maxRecDepth 100000
set_option maxHeartbeats 2000000
namespace DL
open PySem PySem.Spec PyProof.Rows L2

/-! ### the mirrors told by what is wanted behind them -/
def We (f : FE) (ρ : DEnv) (Q : RV → DEnv → Prop) : Prop := ∃ r ρ', f ρ = some (r, ρ') ∧ Q r ρ'
def Wt (f : FT) (ρ : DEnv) (Q : Bool → DEnv → Prop) : Prop := ∃ r ρ', f ρ = some (r, ρ') ∧ Q r ρ'
def Wa (f : FA) (ρ : DEnv) (Q : List RV → DEnv → Prop) : Prop := ∃ r ρ', f ρ = some (r, ρ') ∧ Q r ρ'
def Wo (f : FO) (ρ : DEnv) (Q : Option Int → DEnv → Prop) : Prop := ∃ r ρ', f ρ = some (r, ρ') ∧ Q r ρ'
def Wi (f : FI) (ρ : DEnv) (Q : List D → DEnv → Prop) : Prop := ∃ r ρ', f ρ = some (r, ρ') ∧ Q r ρ'
def Wp (f : FS) (ρ : DEnv) (Q : Out → Prop) : Prop := ∃ o, f ρ = some o ∧ Q o
def Wf (g : FD) (ds : List D) (Q : FR → Prop) : Prop := ∃ r, g ds = some r ∧ Q r
section
variable {ρ : DEnv} {Q : RV → DEnv → Prop} {Qt : Bool → DEnv → Prop} {Qa : List RV → DEnv → Prop} {Qp : Out → Prop} {Qo : Option Int → DEnv → Prop} {Qi : List D → DEnv → Prop}
theorem We.mono {f : FE} {Q' : RV → DEnv → Prop} (h : We f ρ Q) (k : ∀ r ρ', Q r ρ' → Q' r ρ') : We f ρ Q' := let ⟨r, ρ', e, q⟩ := h; ⟨r, ρ', e, k _ _ q⟩
theorem Wp.mono {f : FS} {Q' : Out → Prop} (h : Wp f ρ Qp) (k : ∀ o, Qp o → Q' o) : Wp f ρ Q' := let ⟨o, e, q⟩ := h; ⟨o, e, k _ q⟩
theorem Wf.mono {g : FD} {ds : List D} {Q Q' : FR → Prop} (h : Wf g ds Q) (k : ∀ o, Q o → Q' o) : Wf g ds Q' := let ⟨o, e, q⟩ := h; ⟨o, e, k _ q⟩
/-! expressions -/
theorem we_im {i : Nat} {d : D} (h : ρ[i]? = some (.im d)) (k : Q (.val d) ρ) : We (fVar i) ρ Q := ⟨_, _, by unfold fVar; rw [h], k⟩
theorem we_mu {i : Nat} {d : D} (h : ρ[i]? = some (.mu d)) (k : Q (.slot i) ρ) : We (fVar i) ρ Q := ⟨_, _, by unfold fVar; rw [h], k⟩
theorem we_c {d : D} (k : Q (.val d) ρ) : We (fC d) ρ Q := ⟨_, _, rfl, k⟩
theorem we_op {g : D → D → Option RV} {fa fb : FE} (h : We fa ρ fun ra ρ1 => We fb ρ1 fun rb ρ2 => ∃ x y r, ra.get ρ2 = some x ∧ rb.get ρ2 = some y ∧ g x y = some r ∧ Q r ρ2) : We (fOp g fa fb) ρ Q := by
  obtain ⟨ra, ρ1, e1, rb, ρ2, e2, x, y, r, e3, e4, e5, q⟩ := h
  refine ⟨r, ρ2, ?_, q⟩
  unfold fOp
  rw [e1]
  simp only
  rw [e2]
  simp only
  rw [e3, e4]
  simp only
  rw [e5]
  rfl
theorem we_un {g : D → Option RV} {fa : FE} (h : We fa ρ fun ra ρ1 => ∃ x r, ra.get ρ1 = some x ∧ g x = some r ∧ Q r ρ1) : We (fUn g fa) ρ Q := by
  obtain ⟨ra, ρ1, e1, x, r, e3, e5, q⟩ := h
  refine ⟨r, ρ1, ?_, q⟩
  unfold fUn
  rw [e1]
  simp only
  rw [e3]
  simp only
  rw [e5]
  rfl
theorem we_cb {g : List D → Option RV} {fa : FA} (h : Wa fa ρ fun rs ρ1 => ∃ xs r, getAll ρ1 rs = some xs ∧ g xs = some r ∧ Q r ρ1) : We (fCall g fa) ρ Q := by
  obtain ⟨rs, ρ1, e1, xs, r, e3, e5, q⟩ := h
  refine ⟨r, ρ1, ?_, q⟩
  unfold fCall
  rw [e1]
  simp only
  rw [e3]
  simp only
  rw [e5]
  rfl
theorem we_cbS {g : List D → Option RV} {fa : FA} (h : Wa fa ρ fun rs ρ1 => ∃ xs r, vals rs = some xs ∧ g xs = some r ∧ Q r ρ1) : We (fCallS g fa) ρ Q := by
  obtain ⟨rs, ρ1, e1, xs, r, e3, e5, q⟩ := h
  refine ⟨r, ρ1, ?_, q⟩
  unfold fCallS
  rw [e1]
  simp only
  rw [e3]
  simp only
  rw [e5]
  rfl
theorem we_frzV {f : FE} (h : We f ρ fun r ρ1 => (∃ d, r = .val d ∧ Q (.val d) ρ1) ∨ (∃ d, r = .fresh d ∧ Q (.val d) ρ1) ∨ ∃ i d, r = .slot i ∧ ρ1[i]? = some (.mu d) ∧ Q (.val d) (ρ1.set i (.im d))) : We (fFrz f) ρ Q := by
  obtain ⟨r, ρ1, e, h⟩ := h
  rcases h with ⟨d, rfl, q⟩ | ⟨d, rfl, q⟩ | ⟨i, d, rfl, e2, q⟩
  · exact ⟨_, _, by unfold fFrz; rw [e], q⟩
  · exact ⟨_, _, by unfold fFrz; rw [e], q⟩
  · exact ⟨_, _, by unfold fFrz; rw [e]; simp only; rw [e2], q⟩
theorem wa_nil (k : Qa [] ρ) : Wa fNil ρ Qa := ⟨_, _, rfl, k⟩
theorem wa_cons {f : FE} {fr : FA} (h : We f ρ fun r ρ1 => Wa fr ρ1 fun rs ρ2 => Qa (r :: rs) ρ2) : Wa (fCons f fr) ρ Qa := by
  obtain ⟨r, ρ1, e1, rs, ρ2, e2, q⟩ := h
  refine ⟨_, _, ?_, q⟩
  unfold fCons
  rw [e1]
  simp only
  rw [e2]
theorem we_tup {fa : FA} (h : Wa fa ρ fun rs ρ1 => ∃ ds, vals rs = some ds ∧ ds.length ≤ 1000000 ∧ Q (.val (.tup ds)) ρ1) : We (fTup fa) ρ Q := by
  obtain ⟨rs, ρ1, e1, ds, e2, hl, q⟩ := h
  refine ⟨_, _, ?_, q⟩
  unfold fTup
  rw [e1]
  simp only
  rw [e2]
  simp only
  rw [if_pos hl]
theorem we_lst {fa : FA} (h : Wa fa ρ fun rs ρ1 => ∃ ds, vals rs = some ds ∧ ds.length ≤ 1000000 ∧ Q (.fresh (.lst ds)) ρ1) : We (fLst fa) ρ Q := by
  obtain ⟨rs, ρ1, e1, ds, e2, hl, q⟩ := h
  refine ⟨_, _, ?_, q⟩
  unfold fLst
  rw [e1]
  simp only
  rw [e2]
  simp only
  rw [if_pos hl]
theorem we_newT (k : Q (.fresh (.dic [] [])) ρ) : We fNewT ρ Q := ⟨_, _, rfl, k⟩
theorem we_dis1 {fk fv : FE} (h : We fk ρ fun r ρ1 => ∃ dk, r = .val dk ∧ We fv ρ1 fun r2 ρ2 => ∃ dv n, r2 = .val dv ∧ keyT dk = some n ∧ Q (.fresh (.dic [dk] [dv])) ρ2) : We (fDis1 fk fv) ρ Q := by
  obtain ⟨r, ρ1, e1, dk, rfl, r2, ρ2, e2, dv, n, rfl, e3, q⟩ := h
  refine ⟨_, _, ?_, q⟩
  unfold fDis1
  rw [e1]
  simp only
  rw [e2]
  simp only
  rw [e3]
theorem we_meth {T : String} {g : D → List D → Option RV} {fo : FE} {fa : FA} (h : We fo ρ fun ro ρ1 => ∃ x0, ro.get ρ1 = some x0 ∧ tyM x0 = some T ∧ Wa fa ρ1 fun rs ρ2 => ∃ x xs r, ro.get ρ2 = some x ∧ getAll ρ2 rs = some xs ∧ g x xs = some r ∧ Q r ρ2) : We (fMeth T g fo fa) ρ Q := by
  obtain ⟨ro, ρ1, e1, x0, e0, ty, rs, ρ2, e2, x, xs, r, e3, e4, e5, q⟩ := h
  refine ⟨r, ρ2, ?_, q⟩
  unfold fMeth
  simp [e1, e0, ty, e2, e3, e4, e5]
theorem we_mut {T : String} {g : D → List D → Option (D × D)} {i : Nat} {fa : FA} {c0 : D} (h0 : ρ[i]? = some (.mu c0)) (ty : tyM c0 = some T) (h : Wa fa ρ fun rs ρ2 => ∃ c ds r c', ρ2[i]? = some (.mu c) ∧ vals rs = some ds ∧ g c ds = some (r, c') ∧ Q (.val r) (ρ2.set i (.mu c'))) : We (fMut T g i fa) ρ Q := by
  obtain ⟨rs, ρ2, e2, c, ds, r, c', e3, e4, e5, q⟩ := h
  refine ⟨_, _, ?_, q⟩
  unfold fMut
  simp [h0, ty, e2, e3, e4, e5]
theorem we_if {c : FT} {f g : FE} (h : Wt c ρ fun b ρ1 => (b = true → We f ρ1 Q) ∧ (b = false → We g ρ1 Q)) : We (fIf c f g) ρ Q := by
  obtain ⟨b, ρ1, e, h1, h2⟩ := h
  cases b with
  | true => obtain ⟨r, ρ2, e2, q⟩ := h1 rfl; exact ⟨r, ρ2, by unfold fIf; rw [e]; exact e2, q⟩
  | false => obtain ⟨r, ρ2, e2, q⟩ := h2 rfl; exact ⟨r, ρ2, by unfold fIf; rw [e]; exact e2, q⟩
theorem we_and {f g : FE} (h : We f ρ fun r ρ1 => ∃ b, r = .val (.bl b) ∧ (b = true → We g ρ1 Q) ∧ (b = false → Q (.val (.bl false)) ρ1)) : We (fAndV f g) ρ Q := by
  obtain ⟨r, ρ1, e, b, rfl, h1, h2⟩ := h
  cases b with
  | true => obtain ⟨r, ρ2, e2, q⟩ := h1 rfl; exact ⟨r, ρ2, by unfold fAndV; rw [e]; exact e2, q⟩
  | false => exact ⟨_, _, by unfold fAndV; rw [e], h2 rfl⟩
theorem we_or {f g : FE} (h : We f ρ fun r ρ1 => ∃ b, r = .val (.bl b) ∧ (b = true → Q (.val (.bl true)) ρ1) ∧ (b = false → We g ρ1 Q)) : We (fOrV f g) ρ Q := by
  obtain ⟨r, ρ1, e, b, rfl, h1, h2⟩ := h
  cases b with
  | false => obtain ⟨r, ρ2, e2, q⟩ := h2 rfl; exact ⟨r, ρ2, by unfold fOrV; rw [e]; exact e2, q⟩
  | true => exact ⟨_, _, by unfold fOrV; rw [e], h1 rfl⟩
theorem we_not {f : FE} (h : We f ρ fun r ρ1 => ∃ b, r = .val (.bl b) ∧ Q (.val (.bl (!b))) ρ1) : We (fNotV f) ρ Q := by
  obtain ⟨r, ρ1, e, b, rfl, q⟩ := h
  exact ⟨_, _, by unfold fNotV; rw [e], q⟩
theorem we_chain {g g' : D → D → Option Bool} {fa fb fc : FE} (h : We fa ρ fun ra ρ1 => We fb ρ1 fun rb ρ2 => ∃ y x b, rb = .val y ∧ ra.get ρ2 = some x ∧ g x y = some b ∧ (b = true → We fc ρ2 fun rc ρ3 => ∃ z c, rc.get ρ3 = some z ∧ g' y z = some c ∧ Q (.val (.bl c)) ρ3) ∧ (b = false → Q (.val (.bl false)) ρ2)) : We (fChain g g' fa fb fc) ρ Q := by
  obtain ⟨ra, ρ1, e1, rb, ρ2, e2, y, x, b, rfl, e3, e4, h1, h2⟩ := h
  cases b with
  | true =>
    obtain ⟨rc, ρ3, e5, z, c, e6, e7, q⟩ := h1 rfl
    exact ⟨_, _, by unfold fChain; simp [e1, e2, e3, e4, e5, e6, e7], q⟩
  | false => exact ⟨_, _, by unfold fChain; simp [e1, e2, e3, e4], h2 rfl⟩
theorem we_chain3 {g1 g2 g3 : D → D → Option Bool} {fa fb fc fd : FE} (h : We fa ρ fun ra ρ1 => We fb ρ1 fun rb ρ2 => ∃ y x b, rb = .val (.int y) ∧ ra.get ρ2 = some x ∧ g1 x (.int y) = some b ∧ (b = true → We fc ρ2 fun rc ρ3 => ∃ u c, rc = .val (.int u) ∧ g2 (.int y) (.int u) = some c ∧
    (c = true → We fd ρ3 fun rd ρ4 => ∃ t e, rd.get ρ4 = some t ∧ g3 (.int u) t = some e ∧ Q (.val (.bl e)) ρ4) ∧ (c = false → Q (.val (.bl false)) ρ3)) ∧ (b = false → Q (.val (.bl false)) ρ2)) : We (fChain3 g1 g2 g3 fa fb fc fd) ρ Q := by
  obtain ⟨ra, ρ1, e1, rb, ρ2, e2, y, x, b, rfl, e3, e4, h1, h2⟩ := h
  cases b with
  | false => exact ⟨_, _, by unfold fChain3; simp [e1, e2, e3, e4], h2 rfl⟩
  | true =>
    obtain ⟨rc, ρ3, e5, u, c, rfl, e6, h3, h4⟩ := h1 rfl
    cases c with
    | false => exact ⟨_, _, by unfold fChain3; simp [e1, e2, e3, e4, e5, e6], h4 rfl⟩
    | true =>
      obtain ⟨rd, ρ4, e7, t, e, e8, e9, q⟩ := h3 rfl
      exact ⟨_, _, by unfold fChain3; simp [e1, e2, e3, e4, e5, e6, e7, e8, e9], q⟩
theorem wo_none (k : Qo none ρ) : Wo fNoPart ρ Qo := ⟨_, _, rfl, k⟩
theorem wo_some {f : FE} (h : We f ρ fun r ρ1 => ∃ i, r = .val (.int i) ∧ Qo (some i) ρ1) : Wo (fPart f) ρ Qo := by
  obtain ⟨r, ρ1, e, i, rfl, q⟩ := h
  refine ⟨_, _, ?_, q⟩
  unfold fPart
  simp [e]
theorem we_slice {f : FE} {lo hi : FO} (h : We f ρ fun ra ρ1 => Wo lo ρ1 fun l ρ2 => Wo hi ρ2 fun u ρ3 => ∃ x r, ra.get ρ3 = some x ∧ sliceD l u x = some r ∧ Q r ρ3) : We (fSlice f lo hi) ρ Q := by
  obtain ⟨ra, ρ1, e1, l, ρ2, e2, u, ρ3, e3, x, r, e4, e5, q⟩ := h
  exact ⟨r, ρ3, by unfold fSlice; simp [e1, e2, e3, e4, e5], q⟩
theorem we_call {ks : List Bool} {g : FD} {fa : FA} (h : Wa fa ρ fun rs ρ1 => ∃ ds is, argsD ρ1 ks rs = some (ds, is) ∧ Wf g ds fun r => ∃ rv ms, r = .ok rv ms ∧ (∀ i, rv ≠ .slot i) ∧ Q rv (setMs ρ1 is ms)) : We (fCallF ks g fa) ρ Q := by
  obtain ⟨rs, ρ1, e1, ds, is, e2, r, e3, rv, ms, rfl, hs, q⟩ := h
  refine ⟨rv, _, ?_, q⟩
  unfold fCallF
  rw [e1]
  simp only
  rw [e2]
  simp only
  rw [e3]
  simp only
/-! tests -/
theorem wt_b {f : FE} (h : We f ρ fun r ρ1 => ∃ b, r = .val (.bl b) ∧ Qt b ρ1) : Wt (fB f) ρ Qt := by
  obtain ⟨r, ρ1, e, b, rfl, q⟩ := h
  exact ⟨_, _, by unfold fB; rw [e], q⟩
theorem wt_and {f g : FT} (h : Wt f ρ fun b ρ1 => (b = true → Wt g ρ1 Qt) ∧ (b = false → Qt false ρ1)) : Wt (fAnd f g) ρ Qt := by
  obtain ⟨b, ρ1, e, h1, h2⟩ := h
  cases b with
  | true => obtain ⟨r, ρ2, e2, q⟩ := h1 rfl; exact ⟨r, ρ2, by unfold fAnd; rw [e]; exact e2, q⟩
  | false => exact ⟨_, _, by unfold fAnd; rw [e], h2 rfl⟩
theorem wt_or {f g : FT} (h : Wt f ρ fun b ρ1 => (b = true → Qt true ρ1) ∧ (b = false → Wt g ρ1 Qt)) : Wt (fOr f g) ρ Qt := by
  obtain ⟨b, ρ1, e, h1, h2⟩ := h
  cases b with
  | false => obtain ⟨r, ρ2, e2, q⟩ := h2 rfl; exact ⟨r, ρ2, by unfold fOr; rw [e]; exact e2, q⟩
  | true => exact ⟨_, _, by unfold fOr; rw [e], h1 rfl⟩
theorem wt_not {f : FT} (h : Wt f ρ fun b ρ1 => Qt (!b) ρ1) : Wt (fNot f) ρ Qt := by
  obtain ⟨b, ρ1, e, q⟩ := h
  exact ⟨_, _, by unfold fNot; rw [e], q⟩
theorem wt_yes (k : Qt true ρ) : Wt fYes ρ Qt := ⟨_, _, rfl, k⟩
/-! statements -/
theorem wp_next (k : Qp (.nx ρ)) : Wp gNext ρ Qp := ⟨_, rfl, k⟩
theorem wp_break (k : Qp (.bk ρ)) : Wp gBreak ρ Qp := ⟨_, rfl, k⟩
theorem wp_cont (k : Qp (.ct ρ)) : Wp gCont ρ Qp := ⟨_, rfl, k⟩
theorem wp_raise {x : Exn} (k : Qp (.ex x ρ)) : Wp (gRaise x) ρ Qp := ⟨_, rfl, k⟩
theorem wp_retN (k : Qp (.rt (.val .non) ρ)) : Wp gRetN ρ Qp := ⟨_, rfl, k⟩
/-- what is wanted behind the first of two -/
def thenP (g : FS) (Q : Out → Prop) : Out → Prop
  | .nx ρ => Wp g ρ Q
  | o => Q o
theorem wp_seq {f g : FS} (h : Wp f ρ (thenP g Qp)) : Wp (gSeq f g) ρ Qp := by
  obtain ⟨o, e, q⟩ := h
  cases o with
  | nx ρ1 => obtain ⟨o2, e2, q2⟩ := q; exact ⟨o2, by unfold gSeq; rw [e]; exact e2, q2⟩
  | rt rv ρ1 => exact ⟨_, by unfold gSeq; rw [e], q⟩
  | bk ρ1 => exact ⟨_, by unfold gSeq; rw [e], q⟩
  | ct ρ1 => exact ⟨_, by unfold gSeq; rw [e], q⟩
  | ex x ρ1 => exact ⟨_, by unfold gSeq; rw [e], q⟩
theorem wp_if {c : FT} {f g : FS} (h : Wt c ρ fun b ρ1 => (b = true → Wp f ρ1 Qp) ∧ (b = false → Wp g ρ1 Qp)) : Wp (gIf c f g) ρ Qp := by
  obtain ⟨b, ρ1, e, h1, h2⟩ := h
  cases b with
  | true => obtain ⟨o, e2, q⟩ := h1 rfl; exact ⟨o, by unfold gIf; rw [e]; exact e2, q⟩
  | false => obtain ⟨o, e2, q⟩ := h2 rfl; exact ⟨o, by unfold gIf; rw [e]; exact e2, q⟩
theorem wp_ret {f : FE} (h : We f ρ fun r ρ1 => Qp (.rt r ρ1)) : Wp (gRet f) ρ Qp := by
  obtain ⟨r, ρ1, e, q⟩ := h
  exact ⟨_, by unfold gRet; rw [e], q⟩
theorem wp_drop {f : FE} (h : We f ρ fun r ρ1 => Qp (.nx ρ1)) : Wp (gDrop f) ρ Qp := by
  obtain ⟨r, ρ1, e, q⟩ := h
  exact ⟨_, by unfold gDrop; rw [e], q⟩
theorem wp_set {i : Nat} {f : FE} (h : We f ρ fun r ρ1 => (∃ d, r = .val d ∧ Qp (.nx (ρ1.set i (.im d)))) ∨ ∃ d, r = .fresh d ∧ Qp (.nx (ρ1.set i (.mu d)))) : Wp (gSet i f) ρ Qp := by
  obtain ⟨r, ρ1, e, h⟩ := h
  rcases h with ⟨d, rfl, q⟩ | ⟨d, rfl, q⟩
  · exact ⟨_, by unfold gSet; rw [e], q⟩
  · exact ⟨_, by unfold gSet; rw [e], q⟩
theorem wp_store {i : Nat} {fk fv : FE} (h : We fv ρ fun r ρ1 => ∃ d c0, r = .val d ∧ ρ1[i]? = some (.mu c0) ∧ We fk ρ1 fun rk ρ2 => ∃ c k c', ρ2[i]? = some (.mu c) ∧ rk.get ρ2 = some k ∧ stD c k d = some c' ∧ Qp (.nx (ρ2.set i (.mu c')))) : Wp (gStore i fk fv) ρ Qp := by
  obtain ⟨r, ρ1, e1, d, c0, rfl, e0, rk, ρ2, e2, c, k, c', e3, e4, e5, q⟩ := h
  exact ⟨_, by unfold gStore; simp [e1, e0, e2, e3, e4, e5], q⟩
theorem wp_asgP {p : Pat} {f : FE} (h : We f ρ fun r ρ1 => ∃ d ρ2, r = .val d ∧ p.store d ρ1 = some ρ2 ∧ Qp (.nx ρ2)) : Wp (gAsgP p f) ρ Qp := by
  obtain ⟨r, ρ1, e, d, ρ2, rfl, e2, q⟩ := h
  exact ⟨_, by unfold gAsgP; rw [e]; simp only; rw [e2], q⟩
theorem wp_par2 {i j : Nat} {fa : FA} (h : Wa fa ρ fun rs ρ1 => (∃ x y, rs = [.val x, .val y] ∧ Qp (.nx ((ρ1.set i (.im x)).set j (.im y)))) ∨ ∃ x y, rs = [.fresh x, .val y] ∧ Qp (.nx ((ρ1.set i (.mu x)).set j (.im y)))) : Wp (gPar2 i j fa) ρ Qp := by
  obtain ⟨rs, ρ1, e, h⟩ := h
  rcases h with ⟨x, y, rfl, q⟩ | ⟨x, y, rfl, q⟩
  · exact ⟨_, by unfold gPar2; rw [e], q⟩
  · exact ⟨_, by unfold gPar2; rw [e], q⟩
theorem wp_par3 {i j l : Nat} {fa : FA} (h : Wa fa ρ fun rs ρ1 => ∃ x y z, vals rs = some [x, y, z] ∧ Qp (.nx (((ρ1.set i (.im x)).set j (.im y)).set l (.im z)))) : Wp (gPar3 i j l fa) ρ Qp := by
  obtain ⟨rs, ρ1, e, x, y, z, e2, q⟩ := h
  exact ⟨_, by unfold gPar3; rw [e]; simp only; rw [e2], q⟩
theorem wp_fz {i : Nat} {f : FS} (h : Wp f ρ fun o => ∃ ρ1 d, o = .nx ρ1 ∧ ρ1[i]? = some (.mu d) ∧ Qp (.nx (ρ1.set i (.im d)))) : Wp (gFz i f) ρ Qp := by
  obtain ⟨o, e, ρ1, d, rfl, e2, q⟩ := h
  exact ⟨_, by unfold gFz; rw [e]; simp only; rw [e2], q⟩
/-! walks -/
theorem wi_seq {f : FE} (h : We f ρ fun r ρ1 => ∃ d ds, r = .val d ∧ itemsD d = some ds ∧ Qi ds ρ1) : Wi (fItA f) ρ Qi := by
  obtain ⟨r, ρ1, e, d, ds, rfl, e2, q⟩ := h
  exact ⟨_, _, by unfold fItA; rw [e]; simp only; rw [e2], q⟩
theorem wi_rng1 {fa : FA} (h : Wa fa ρ fun rs ρ1 => ∃ j : Int, vals rs = some [.int j] ∧ j < 2 ^ 62 ∧ -(2 ^ 62) ≤ j ∧ Qi (rngL 0 j.toNat) ρ1) : Wi (fRng1 fa) ρ Qi := by
  obtain ⟨rs, ρ1, e, j, e2, h1, h2, q⟩ := h
  refine ⟨_, _, ?_, q⟩
  unfold fRng1
  rw [e]
  simp only
  rw [e2]
  simp only
  rw [if_pos ⟨h1, h2⟩]
theorem wi_rng2 {fa : FA} (h : Wa fa ρ fun rs ρ1 => ∃ i j : Int, vals rs = some [.int i, .int j] ∧ (-(2 ^ 62) ≤ i ∧ i < 2 ^ 62 ∧ -(2 ^ 62) ≤ j ∧ j < 2 ^ 62) ∧ Qi (rngL i (j - i).toNat) ρ1) : Wi (fRng2 fa) ρ Qi := by
  obtain ⟨rs, ρ1, e, i, j, e2, h1, q⟩ := h
  refine ⟨_, _, ?_, q⟩
  unfold fRng2
  rw [e]
  simp only
  rw [e2]
  simp only
  rw [if_pos h1]
theorem wi_zipT {fa : FA} (h : Wa fa ρ fun rs ρ1 => ∃ xs ys, (vals rs).map (List.map wk) = some [.tup xs, .tup ys] ∧ Qi (zipL xs ys) ρ1) : Wi (fZip fa) ρ Qi := by
  obtain ⟨rs, ρ1, e, xs, ys, e2, q⟩ := h
  refine ⟨_, _, ?_, q⟩
  unfold fZip
  rw [e]
  simp only
  rw [e2]
/-- what is wanted behind a turn -/
def turnP (I : DEnv → Prop) (Q : Out → Prop) : Out → Prop
  | .nx ρ => I ρ
  | .ct ρ => I ρ
  | .bk ρ => Q (.nx ρ)
  | o => Q o
theorem forL_ok {p : Pat} {f : FS} {I : List D → DEnv → Prop} (step : ∀ d r ρ, I (d :: r) ρ → ∃ ρ1, p.store d ρ = some ρ1 ∧ Wp f ρ1 (turnP (I r) Qp)) (done : ∀ ρ, I [] ρ → Qp (.nx ρ)) : ∀ (ds : List D) (ρ : DEnv), I ds ρ → ∃ o, forL p f ds ρ = some o ∧ Qp o
  | [], ρ, h => ⟨_, rfl, done ρ h⟩
  | d :: r, ρ, h => by
    obtain ⟨ρ1, e1, o, e2, q⟩ := step d r ρ h
    simp only [forL]
    rw [e1]
    simp only
    rw [e2]
    cases o with
    | nx ρ2 => exact forL_ok step done r ρ2 q
    | ct ρ2 => exact forL_ok step done r ρ2 q
    | bk ρ2 => exact ⟨_, rfl, q⟩
    | rt rv ρ2 => exact ⟨_, rfl, q⟩
    | ex x ρ2 => exact ⟨_, rfl, q⟩
theorem wp_for {fi : FI} {p : Pat} {f : FS} (I : List D → DEnv → Prop) (hi : Wi fi ρ I) (step : ∀ d r ρ, I (d :: r) ρ → ∃ ρ1, p.store d ρ = some ρ1 ∧ Wp f ρ1 (turnP (I r) Qp)) (done : ∀ ρ, I [] ρ → Qp (.nx ρ)) : Wp (gFor fi p f) ρ Qp := by
  obtain ⟨ds, ρ1, e, h⟩ := hi
  obtain ⟨o, e2, q⟩ := forL_ok step done ds ρ1 h
  exact ⟨o, by unfold gFor; rw [e]; exact e2, q⟩
theorem wp_while {c : FT} {f : FS} (I : Nat → DEnv → Prop) (h0 : ∃ m, I m ρ) (step : ∀ m ρ, I m ρ → Wt c ρ fun b ρ1 => (b = true → Wp f ρ1 (turnP (fun ρ2 => ∃ k, k < m ∧ I k ρ2) Qp)) ∧ (b = false → Qp (.nx ρ1))) : Wp (gWhile c f) ρ Qp := by
  have key : ∀ m ρ, I m ρ → ∃ n o, whileN c f n ρ = some o ∧ Qp o := by
    intro m
    induction m using Nat.strongRecOn with
    | ind m ih =>
      intro ρ h
      obtain ⟨b, ρ1, e, h1, h2⟩ := step m ρ h
      cases b with
      | false => exact ⟨1, .nx ρ1, by simp only [whileN, e], h2 rfl⟩
      | true =>
        obtain ⟨o, e2, q⟩ := h1 rfl
        cases o with
        | nx ρ2 =>
          obtain ⟨k, hk, i2⟩ := q
          obtain ⟨n, o, e3, q3⟩ := ih k hk ρ2 i2
          exact ⟨n + 1, o, by simp only [whileN, e, e2]; exact e3, q3⟩
        | ct ρ2 =>
          obtain ⟨k, hk, i2⟩ := q
          obtain ⟨n, o, e3, q3⟩ := ih k hk ρ2 i2
          exact ⟨n + 1, o, by simp only [whileN, e, e2]; exact e3, q3⟩
        | bk ρ2 => exact ⟨1, .nx ρ2, by simp only [whileN, e, e2], q⟩
        | rt rv ρ2 => exact ⟨1, .rt rv ρ2, by simp only [whileN, e, e2], q⟩
        | ex x ρ2 => exact ⟨1, .ex x ρ2, by simp only [whileN, e, e2], q⟩
  obtain ⟨m, hm⟩ := h0
  obtain ⟨n, o, e, q⟩ := key m ρ hm
  exact ⟨o, gWhile_eq e, q⟩
theorem lcL_ok {p : Pat} {ft : FT} {fe : FE} {vs : List Nat} {I : List D → List D → DEnv → Prop} {Qz : List D → DEnv → Prop} (step : ∀ d r acc ρ, I (d :: r) acc ρ → ∃ ρ1, p.store d ρ = some ρ1 ∧ Wt ft ρ1 fun b ρ2 => (b = true → We fe ρ2 fun rv ρ3 => ∃ y, rv = .val y ∧ I r (acc ++ [y]) (wipeD ρ3 vs)) ∧ (b = false → I r acc (wipeD ρ2 vs)))
    (done : ∀ acc ρ, I [] acc ρ → Qz acc ρ) : ∀ (ds acc : List D) (ρ : DEnv), I ds acc ρ → ∃ ys ρ', lcL p ft fe vs ds ρ = some (ys, ρ') ∧ Qz (acc ++ ys) ρ'
  | [], acc, ρ, h => ⟨[], ρ, rfl, by rw [List.append_nil]; exact done acc ρ h⟩
  | d :: r, acc, ρ, h => by
    obtain ⟨ρ1, e1, b, ρ2, e2, h1, h2⟩ := step d r acc ρ h
    simp only [lcL]
    rw [e1]
    simp only
    rw [e2]
    cases b with
    | true =>
      obtain ⟨rv, ρ3, e3, y, rfl, i3⟩ := h1 rfl
      obtain ⟨ys, ρ4, e4, q⟩ := lcL_ok step done r (acc ++ [y]) _ i3
      refine ⟨y :: ys, ρ4, ?_, by simpa using q⟩
      simp only
      rw [e3]
      simp only
      rw [e4]
    | false =>
      obtain ⟨ys, ρ4, e4, q⟩ := lcL_ok step done r acc _ (h2 rfl)
      exact ⟨ys, ρ4, e4, q⟩
theorem we_lc {fi : FI} {p : Pat} {ft : FT} {fe : FE} {vs : List Nat} (I : DEnv → List D → List D → DEnv → Prop) (hi : Wi fi ρ fun ds ρ1 => ds.length ≤ 1000000 ∧ I ρ1 ds [] (wipeD ρ1 vs))
    (step : ∀ ρ0 d r acc ρ, I ρ0 (d :: r) acc ρ → ∃ ρ1, p.store d ρ = some ρ1 ∧ Wt ft ρ1 fun b ρ2 => (b = true → We fe ρ2 fun rv ρ3 => ∃ y, rv = .val y ∧ I ρ0 r (acc ++ [y]) (wipeD ρ3 vs)) ∧ (b = false → I ρ0 r acc (wipeD ρ2 vs)))
    (done : ∀ ρ0 acc ρ, I ρ0 [] acc ρ → Q (.fresh (.lst acc)) (resD ρ0 ρ vs)) : We (fLc fi p ft fe vs) ρ Q := by
  obtain ⟨ds, ρ1, e, hl, h⟩ := hi
  obtain ⟨ys, ρ2, e2, q⟩ := lcL_ok (Qz := fun acc ρ => Q (.fresh (.lst acc)) (resD ρ1 ρ vs)) (step ρ1) (done ρ1) ds [] _ h
  rw [List.nil_append] at q
  refine ⟨_, _, ?_, q⟩
  unfold fLc
  rw [e]
  simp only
  rw [e2]
  simp only
  rw [if_pos hl]
theorem dcL_ok {p : Pat} {ft : FT} {fk fv : FE} {vs : List Nat} {I : List D → D → DEnv → Prop} {Qz : D → DEnv → Prop} (step : ∀ d r c ρ, I (d :: r) c ρ → ∃ ρ1, p.store d ρ = some ρ1 ∧ Wt ft ρ1 fun b ρ2 => (b = true → We fk ρ2 fun rk ρ3 => ∃ k, rk = .val k ∧ We fv ρ3 fun rv ρ4 => ∃ y c', rv = .val y ∧ dputT c k y = some c' ∧ I r c' (wipeD ρ4 vs)) ∧ (b = false → I r c (wipeD ρ2 vs)))
    (done : ∀ c ρ, I [] c ρ → Qz c ρ) : ∀ (ds : List D) (c : D) (ρ : DEnv), I ds c ρ → ∃ c' ρ', dcL p ft fk fv vs ds c ρ = some (c', ρ') ∧ Qz c' ρ'
  | [], c, ρ, h => ⟨c, ρ, rfl, done c ρ h⟩
  | d :: r, c, ρ, h => by
    obtain ⟨ρ1, e1, b, ρ2, e2, h1, h2⟩ := step d r c ρ h
    simp only [dcL]
    rw [e1]
    simp only
    rw [e2]
    cases b with
    | true =>
      obtain ⟨rk, ρ3, e3, k, rfl, rv, ρ4, e4, y, c', rfl, e5, i3⟩ := h1 rfl
      obtain ⟨c2, ρ5, e6, q⟩ := dcL_ok step done r c' _ i3
      refine ⟨c2, ρ5, ?_, q⟩
      simp only
      rw [e3]
      simp only
      rw [e4]
      simp only
      rw [e5]
      exact e6
    | false =>
      obtain ⟨c2, ρ4, e4, q⟩ := dcL_ok step done r c _ (h2 rfl)
      exact ⟨c2, ρ4, e4, q⟩
theorem we_dc {fi : FI} {p : Pat} {ft : FT} {fk fv : FE} {vs : List Nat} (I : DEnv → List D → D → DEnv → Prop) (hi : Wi fi ρ fun ds ρ1 => I ρ1 ds (.dic [] []) (wipeD ρ1 vs))
    (step : ∀ ρ0 d r c ρ, I ρ0 (d :: r) c ρ → ∃ ρ1, p.store d ρ = some ρ1 ∧ Wt ft ρ1 fun b ρ2 => (b = true → We fk ρ2 fun rk ρ3 => ∃ k, rk = .val k ∧ We fv ρ3 fun rv ρ4 => ∃ y c', rv = .val y ∧ dputT c k y = some c' ∧ I ρ0 r c' (wipeD ρ4 vs)) ∧ (b = false → I ρ0 r c (wipeD ρ2 vs)))
    (done : ∀ ρ0 c ρ, I ρ0 [] c ρ → Q (.fresh c) (resD ρ0 ρ vs)) : We (fDc fi p ft fk fv vs) ρ Q := by
  obtain ⟨ds, ρ1, e, h⟩ := hi
  obtain ⟨c, ρ2, e2, q⟩ := dcL_ok (Qz := fun c ρ => Q (.fresh c) (resD ρ1 ρ vs)) (step ρ1) (done ρ1) ds _ _ h
  refine ⟨_, _, ?_, q⟩
  unfold fDc
  rw [e]
  simp only
  rw [e2]
/-! defs -/
/-- what a body is to end with -/
def endP (ks : List Bool) (Q : FR → Prop) : Out → Prop
  | .rt rv ρ' => ∃ r ms, outV (mutIx ks 0) ρ' rv = some r ∧ backs ρ' (mutIx ks 0) = some ms ∧ Q (.ok r ms)
  | .nx ρ' => ∃ ms, backs ρ' (mutIx ks 0) = some ms ∧ Q (.ok (.val .non) ms)
  | .ex x ρ' => ∃ ms, backs ρ' (mutIx ks 0) = some ms ∧ Q (.ex x ms)
  | _ => False
theorem wf_run {ks : List Bool} {n : Nat} {f : FS} {ds : List D} {Q : FR → Prop} (h : Wp f (args0 ks ds ++ List.replicate (n - ks.length) .un) (endP ks Q)) : Wf (runF ks n f) ds Q := by
  obtain ⟨o, e, q⟩ := h
  cases o with
  | rt rv ρ' => obtain ⟨r, ms, e1, e2, q⟩ := q; exact ⟨_, by unfold runF; rw [e]; simp only; rw [e1, e2], q⟩
  | nx ρ' => obtain ⟨ms, e2, q⟩ := q; exact ⟨_, by unfold runF; rw [e]; simp only; rw [e2], q⟩
  | ex x ρ' => obtain ⟨ms, e2, q⟩ := q; exact ⟨_, by unfold runF; rw [e]; simp only; rw [e2], q⟩
  | bk ρ' => exact q.elim
  | ct ρ' => exact q.elim
theorem wf_eq {g : FD} {ds : List D} {r : FR} (h : Wf g ds (· = r)) : g ds = some r := by
  obtain ⟨o, e, rfl⟩ := h
  exact e
theorem wf_of {g : FD} {ds : List D} {r : FR} {Q : FR → Prop} (h : g ds = some r) (q : Q r) : Wf g ds Q := ⟨r, h, q⟩
/-! what may raise -/
def Wx (f : FX) (ρ : DEnv) (Q : RX → Prop) : Prop := ∃ r, f ρ = some r ∧ Q r
def Wxs (f : FXs) (ρ : DEnv) (Q : RXs → Prop) : Prop := ∃ r, f ρ = some r ∧ Q r
variable {Qx : RX → Prop} {Qxs : RXs → Prop}
theorem wx_of {f : FE} (h : We f ρ fun r ρ1 => Qx (.ok r ρ1)) : Wx (xOf f) ρ Qx := by
  obtain ⟨r, ρ1, e, q⟩ := h
  exact ⟨_, by unfold xOf; rw [e], q⟩
theorem wxs_nil (k : Qxs (.ok [] ρ)) : Wxs xNil ρ Qxs := ⟨_, rfl, k⟩
theorem wxs_cons {f : FX} {fr : FXs} (h : Wx f ρ fun r => match r with
    | .ok r ρ1 => Wxs fr ρ1 fun rs => match rs with
      | .ok rs ρ2 => Qxs (.ok (r :: rs) ρ2)
      | .ex x ρ2 => Qxs (.ex x ρ2)
    | .ex x ρ1 => Qxs (.ex x ρ1)) : Wxs (xCons f fr) ρ Qxs := by
  obtain ⟨r, e, h⟩ := h
  cases r with
  | ok r ρ1 =>
    obtain ⟨rs, e2, h⟩ := h
    cases rs with
    | ok rs ρ2 => exact ⟨_, by unfold xCons; rw [e]; simp only; rw [e2], h⟩
    | ex x ρ2 => exact ⟨_, by unfold xCons; rw [e]; simp only; rw [e2], h⟩
  | ex x ρ1 => exact ⟨_, by unfold xCons; rw [e], h⟩
theorem wx_tup {fa : FXs} (h : Wxs fa ρ fun r => match r with
    | .ok rs ρ1 => ∃ ds, vals rs = some ds ∧ ds.length ≤ 1000000 ∧ Qx (.ok (.val (.tup ds)) ρ1)
    | .ex x ρ1 => Qx (.ex x ρ1)) : Wx (xTup fa) ρ Qx := by
  obtain ⟨r, e, h⟩ := h
  cases r with
  | ok rs ρ1 =>
    obtain ⟨ds, e2, hl, q⟩ := h
    exact ⟨_, by unfold xTup; rw [e]; simp only; rw [e2]; simp only; rw [if_pos hl], q⟩
  | ex x ρ1 => exact ⟨_, by unfold xTup; rw [e], h⟩
theorem wx_if {c : FT} {f g : FX} (h : Wt c ρ fun b ρ1 => (b = true → Wx f ρ1 Qx) ∧ (b = false → Wx g ρ1 Qx)) : Wx (xIf c f g) ρ Qx := by
  obtain ⟨b, ρ1, e, h1, h2⟩ := h
  cases b with
  | true => obtain ⟨o, e2, q⟩ := h1 rfl; exact ⟨o, by unfold xIf; rw [e]; exact e2, q⟩
  | false => obtain ⟨o, e2, q⟩ := h2 rfl; exact ⟨o, by unfold xIf; rw [e]; exact e2, q⟩
theorem wx_call {ks : List Bool} {g : FD} {fa : FXs} (h : Wxs fa ρ fun r => match r with
    | .ok rs ρ1 => ∃ ds is, argsD ρ1 ks rs = some (ds, is) ∧ Wf g ds fun r => ∃ rv ms, r = .ok rv ms ∧ (∀ i, rv ≠ .slot i) ∧ Qx (.ok rv (setMs ρ1 is ms))
    | .ex x ρ1 => Qx (.ex x ρ1)) : Wx (xCallF ks g fa) ρ Qx := by
  obtain ⟨r, e, h⟩ := h
  cases r with
  | ok rs ρ1 =>
    obtain ⟨ds, is, e2, r, e3, rv, ms, rfl, hs, q⟩ := h
    refine ⟨_, ?_, q⟩
    unfold xCallF
    rw [e]
    simp only
    rw [e2]
    simp only
    rw [e3]
    simp only
  | ex x ρ1 => exact ⟨_, by unfold xCallF; rw [e], h⟩
theorem wx_callX {ks : List Bool} {g : FD} {fa : FXs} (h : Wxs fa ρ fun r => match r with
    | .ok rs ρ1 => ∃ ds is, argsD ρ1 ks rs = some (ds, is) ∧ Wf g ds fun r => match r with
      | .ok rv ms => (∀ i, rv ≠ .slot i) ∧ Qx (.ok rv (setMs ρ1 is ms))
      | .ex x ms => Qx (.ex x (setMs ρ1 is ms))
    | .ex x ρ1 => Qx (.ex x ρ1)) : Wx (xCallX ks g fa) ρ Qx := by
  obtain ⟨r, e, h⟩ := h
  cases r with
  | ok rs ρ1 =>
    obtain ⟨ds, is, e2, r, e3, q⟩ := h
    cases r with
    | ok rv ms =>
      obtain ⟨hs, q⟩ := q
      refine ⟨_, ?_, q⟩
      unfold xCallX
      rw [e]
      simp only
      rw [e2]
      simp only
      rw [e3]
      simp only
    | ex x ms =>
      refine ⟨_, ?_, q⟩
      unfold xCallX
      rw [e]
      simp only
      rw [e2]
      simp only
      rw [e3]
  | ex x ρ1 => exact ⟨_, by unfold xCallX; rw [e], h⟩
theorem wp_retX {f : FX} (h : Wx f ρ fun r => match r with
    | .ok r ρ1 => Qp (.rt r ρ1)
    | .ex x ρ1 => Qp (.ex x ρ1)) : Wp (gRetX f) ρ Qp := by
  obtain ⟨r, e, q⟩ := h
  cases r with
  | ok r ρ1 => exact ⟨_, by unfold gRetX; rw [e], q⟩
  | ex x ρ1 => exact ⟨_, by unfold gRetX; rw [e], q⟩
theorem wp_dropX {f : FX} (h : Wx f ρ fun r => match r with
    | .ok r ρ1 => Qp (.nx ρ1)
    | .ex x ρ1 => Qp (.ex x ρ1)) : Wp (gDropX f) ρ Qp := by
  obtain ⟨r, e, q⟩ := h
  cases r with
  | ok r ρ1 => exact ⟨_, by unfold gDropX; rw [e], q⟩
  | ex x ρ1 => exact ⟨_, by unfold gDropX; rw [e], q⟩
theorem wp_tryM {fb fs : FS} (h : Wp fb ρ fun o => match o with
    | .ex .mal ρ1 => Wp fs ρ1 Qp
    | .ex (.rfd _) _ => False
    | o => Qp o) : Wp (gTryM fb fs) ρ Qp := by
  obtain ⟨o, e, q⟩ := h
  cases o with
  | ex x ρ1 =>
    cases x with
    | mal => obtain ⟨o2, e2, q2⟩ := q; exact ⟨o2, by unfold gTryM; rw [e]; exact e2, q2⟩
    | rfd d => exact q.elim
  | nx ρ1 => exact ⟨_, by unfold gTryM; rw [e], q⟩
  | rt rv ρ1 => exact ⟨_, by unfold gTryM; rw [e], q⟩
  | bk ρ1 => exact ⟨_, by unfold gTryM; rw [e], q⟩
  | ct ρ1 => exact ⟨_, by unfold gTryM; rw [e], q⟩
theorem end_rt {ks : List Bool} {Q : FR → Prop} {rv : RV} (h : ∃ r ms, outV (mutIx ks 0) ρ rv = some r ∧ backs ρ (mutIx ks 0) = some ms ∧ Q (.ok r ms)) : endP ks Q (.rt rv ρ) := h
theorem end_nx {ks : List Bool} {Q : FR → Prop} (h : ∃ ms, backs ρ (mutIx ks 0) = some ms ∧ Q (.ok (.val .non) ms)) : endP ks Q (.nx ρ) := h
theorem end_ex {ks : List Bool} {Q : FR → Prop} {x : Exn} (h : ∃ ms, backs ρ (mutIx ks 0) = some ms ∧ Q (.ex x ms)) : endP ks Q (.ex x ρ) := h
theorem then_nx {g : FS} (h : Wp g ρ Qp) : thenP g Qp (.nx ρ) := h
theorem then_rt {g : FS} {rv : RV} (h : Qp (.rt rv ρ)) : thenP g Qp (.rt rv ρ) := h
theorem then_ex {g : FS} {x : Exn} (h : Qp (.ex x ρ)) : thenP g Qp (.ex x ρ) := h
theorem turn_nx {I : DEnv → Prop} (h : I ρ) : turnP I Qp (.nx ρ) := h
theorem turn_rt {I : DEnv → Prop} {rv : RV} (h : Qp (.rt rv ρ)) : turnP I Qp (.rt rv ρ) := h
theorem divD_int {i j : Int} (h : divOk j = true) : divD (.int i) (.int j) = some (.val (.int (i.fdiv j))) := by simp [divD, h]
theorem modD_int {i j : Int} (h : j ≠ 0) : modD (.int i) (.int j) = some (.val (.int (i.fmod j))) := by simp [modD, h]
theorem mulOk_r {i j : Int} (h : j.natAbs.log2 < 64) : mulOk i j = true := by simp [mulOk, h]
theorem mulOk_l {i j : Int} (h : i.natAbs.log2 < 64) : mulOk i j = true := by simp [mulOk, h]
theorem mulD_int {i j : Int} (h : mulOk i j = true) : mulD (.int i) (.int j) = some (.val (.int (i * j))) := by simp [mulD, h]
theorem log2_lt {n : Nat} (h : n < 2 ^ 64) : n.log2 < 64 := by
  by_cases z : n = 0
  · subst z; decide
  · exact (Nat.log2_lt z).mpr h
theorem mulOk_small {i j : Int} (h1 : -(2 ^ 63) < j) (h2 : j < 2 ^ 63) : mulOk i j = true := mulOk_r (log2_lt (by omega))
theorem mulOk_smallL {i j : Int} (h1 : -(2 ^ 63) < i) (h2 : i < 2 ^ 63) : mulOk i j = true := mulOk_l (log2_lt (by omega))
theorem divOk_small {j : Int} (h0 : j ≠ 0) (h1 : -(2 ^ 63) < j) (h2 : j < 2 ^ 63) : divOk j = true := by
  have := log2_lt (n := j.natAbs) (by omega)
  simp [divOk, h0]
  omega
theorem bt {c A B : Prop} [Decidable c] (h1 : c → A) (h2 : ¬ c → B) : (decide c = true → A) ∧ (decide c = false → B) := ⟨fun h => h1 (of_decide_eq_true h), fun h => h2 (of_decide_eq_false h)⟩
theorem b1 {A B : Prop} (h : A) : (true = true → A) ∧ (true = false → B) := ⟨fun _ => h, fun z => Bool.noConfusion z⟩
theorem b0 {A B : Prop} (h : B) : (false = true → A) ∧ (false = false → B) := ⟨fun z => Bool.noConfusion z, fun _ => h⟩
theorem ev_args {ks : List Bool} {rs : List RV} {ds : List D} {is : List Nat} {Pz : List D → List Nat → Prop} (h : argsD ρ ks rs = some (ds, is)) (k : Pz ds is) : ∃ ds is, argsD ρ ks rs = some (ds, is) ∧ Pz ds is := ⟨ds, is, h, k⟩
theorem ev_par3 {rs : List RV} {x y z : D} {Pz : D → D → D → Prop} (h : vals rs = some [x, y, z]) (k : Pz x y z) : ∃ x y z, vals rs = some [x, y, z] ∧ Pz x y z := ⟨x, y, z, h, k⟩
theorem ev_fun {g : FD} {ds : List D} {rv : RV} {ms : List D} {Pz : RV → List D → Prop} (h : g ds = some (.ok rv ms)) (hs : ∀ i, rv ≠ .slot i) (k : Pz rv ms) : Wf g ds fun r => ∃ rv ms, r = .ok rv ms ∧ (∀ i, rv ≠ .slot i) ∧ Pz rv ms := ⟨_, h, rv, ms, rfl, hs, k⟩
theorem ev_funV {g : FD} {ds : List D} {d : D} {ms : List D} {Pz : RV → List D → Prop} (h : g ds = some (.ok (.val d) ms)) (k : Pz (.val d) ms) : Wf g ds fun r => ∃ rv ms, r = .ok rv ms ∧ (∀ i, rv ≠ .slot i) ∧ Pz rv ms := ⟨_, h, _, ms, rfl, (fun _ z => by cases z), k⟩
theorem ev_funF {g : FD} {ds : List D} {d : D} {ms : List D} {Pz : RV → List D → Prop} (h : g ds = some (.ok (.fresh d) ms)) (k : Pz (.fresh d) ms) : Wf g ds fun r => ∃ rv ms, r = .ok rv ms ∧ (∀ i, rv ≠ .slot i) ∧ Pz rv ms := ⟨_, h, _, ms, rfl, (fun _ z => by cases z), k⟩
theorem ev_len {rs : List RV} {ds : List D} {Pz : List D → Prop} (h : vals rs = some ds) (hl : Nat.ble ds.length 1000000 = true) (k : Pz ds) : ∃ ds, vals rs = some ds ∧ ds.length ≤ 1000000 ∧ Pz ds := ⟨ds, h, Nat.le_of_ble_eq_true hl, k⟩
end
end DL

set_option Elab.async false
set_option linter.all false
set_option maxRecDepth 100000
set_option maxHeartbeats 2000000
namespace DL
open PySem PySem.Spec PyProof.Rows L2

/-! ### pure expressions: the value, the slots as they were -/
def Ev (f : FE) (ρ : DEnv) (d : D) : Prop := f ρ = some (.val d, ρ)
def Eva (f : FA) (ρ : DEnv) (ds : List D) : Prop := f ρ = some (ds.map .val, ρ)
section
variable {ρ : DEnv} {Q : RV → DEnv → Prop} {Qa : List RV → DEnv → Prop}
theorem we_ev {f : FE} {d : D} (h : Ev f ρ d) (k : Q (.val d) ρ) : We f ρ Q := ⟨_, _, h, k⟩
theorem wa_ev {f : FA} {ds : List D} (h : Eva f ρ ds) (k : Qa (ds.map .val) ρ) : Wa f ρ Qa := ⟨_, _, h, k⟩
theorem Ev.im {i : Nat} {d : D} (h : ρ[i]? = some (.im d)) : Ev (fVar i) ρ d := by unfold Ev fVar; rw [h]
theorem Ev.c {d : D} : Ev (fC d) ρ d := rfl
theorem Eva.nil : Eva fNil ρ [] := rfl
theorem Eva.cons {f : FE} {fr : FA} {d : D} {ds : List D} (h : Ev f ρ d) (hr : Eva fr ρ ds) : Eva (fCons f fr) ρ (d :: ds) := by
  unfold Eva fCons
  rw [show f ρ = _ from h]
  simp only
  rw [show fr ρ = _ from hr]
  rfl
theorem vals_val : ∀ ds : List D, vals (ds.map .val) = some ds
  | [] => rfl
  | d :: r => by simp [vals, vals_val r]
theorem getAll_val : ∀ ds : List D, getAll ρ (ds.map .val) = some (ds.map wk)
  | [] => rfl
  | d :: r => by simp [getAll, RV.get, getAll_val r]
theorem argsD_val : ∀ ds : List D, argsD ρ (List.replicate ds.length false) (ds.map .val) = some (ds, [])
  | [] => rfl
  | d :: r => by
    rw [List.length_cons, List.replicate_succ, List.map_cons]
    simp [argsD, argsD_val r]
theorem Ev.op {g : D → D → Option RV} {fa fb : FE} {x y r : D} (ha : Ev fa ρ x) (hb : Ev fb ρ y) (e : g (wk x) (wk y) = some (.val r)) : Ev (fOp g fa fb) ρ r := by
  unfold Ev fOp
  rw [show fa ρ = _ from ha]
  simp only
  rw [show fb ρ = _ from hb]
  simp only [RV.get]
  rw [e]
  rfl
theorem Ev.un {g : D → Option RV} {fa : FE} {x r : D} (ha : Ev fa ρ x) (e : g (wk x) = some (.val r)) : Ev (fUn g fa) ρ r := by
  unfold Ev fUn
  rw [show fa ρ = _ from ha]
  simp only [RV.get]
  rw [e]
  rfl
theorem Ev.tup {fa : FA} {ds : List D} (h : Eva fa ρ ds) (hl : Nat.ble ds.length 1000000 = true) : Ev (fTup fa) ρ (.tup ds) := by
  unfold Ev fTup
  rw [show fa ρ = _ from h]
  simp only
  rw [vals_val]
  simp only
  rw [if_pos (Nat.le_of_ble_eq_true hl)]
theorem Ev.lst {fa : FA} {ds : List D} (h : Eva fa ρ ds) (hl : Nat.ble ds.length 1000000 = true) : Ev (fFrz (fLst fa)) ρ (.lst ds) := by
  unfold Ev fFrz fLst
  rw [show fa ρ = _ from h]
  simp only
  rw [vals_val]
  simp only
  rw [if_pos (Nat.le_of_ble_eq_true hl)]
theorem Ev.frz {f : FE} {d : D} (h : f ρ = some (.fresh d, ρ)) : Ev (fFrz f) ρ d := by
  unfold Ev fFrz
  rw [h]
theorem Ev.cb {g : List D → Option RV} {fa : FA} {ds : List D} {r : D} (h : Eva fa ρ ds) (e : g (ds.map wk) = some (.val r)) : Ev (fCall g fa) ρ r := by
  unfold Ev fCall
  rw [show fa ρ = _ from h]
  simp only
  rw [getAll_val]
  simp only
  rw [e]
  rfl
theorem Ev.call {ks : List Bool} {g : FD} {fa : FA} {ds : List D} {d : D} (h : Eva fa ρ ds) (hk : ks = List.replicate ds.length false) (e : g ds = some (.ok (.val d) [])) : Ev (fCallF ks g fa) ρ d := by
  subst hk
  unfold Ev fCallF
  rw [show fa ρ = _ from h]
  simp only
  rw [argsD_val]
  simp only
  rw [e]
  simp only
  rfl
theorem Ev.frzV {f : FE} {d : D} (h : Ev f ρ d) : Ev (fFrz f) ρ d := by
  unfold Ev fFrz
  rw [show f ρ = _ from h]
/-- a test of a pure value -/
theorem wt_ev {f : FE} {b : Bool} {Qt : Bool → DEnv → Prop} (h : Ev f ρ (.bl b)) (k : Qt b ρ) : Wt (fB f) ρ Qt := wt_b (we_ev h ⟨b, rfl, k⟩)
end
end DL

set_option Elab.async false
set_option linter.all false
set_option maxRecDepth 100000
set_option maxHeartbeats 2000000
namespace MB
open PySem PySem.Spec PyProof.Rows L2 DL

/-! ### dicts from pairs of whole numbers to whole numbers -/
abbrev P2 := Int × Int
abbrev AL := List (P2 × Int)
def kD (k : P2) : D := .tup [.int k.1, .int k.2]
def nk (k : P2) : NK := .tup [.num k.1, .num k.2]
theorem keyV_kD (k : P2) : keyV (kD k) = some (nk k) := by simp [keyV, keyV.keyVs, kD, nk]
theorem nk_inj {a b : P2} (h : nk a = nk b) : a = b := by
  simp only [nk, NestedKey.tup.injEq, List.cons.injEq, NestedKey.num.injEq] at h
  exact Prod.ext h.1 h.2.1
theorem nk_depth (k : P2) : (nk k).depth ≤ 8 := Nat.le_of_ble_eq_true rfl
theorem keyT_kD (k : P2) : keyT (kD k) = some (nk k) := by
  show (match keyV (kD k) with
    | some n => if n.depth ≤ 8 then some n else none
    | none => none) = some (nk k)
  rw [keyV_kD]
  simp only
  rw [if_pos (nk_depth k)]
def dicE (l : AL) : D := .dic (l.map fun x => kD x.1) (l.map fun x => .int x.2)
def sumE (l : AL) : D := .tpp (l.map fun x => .tup [kD x.1, .int x.2])
def look : AL → P2 → Option Int
  | [], _ => none
  | x :: r, k => if x.1 = k then some x.2 else look r k
def cf (l : AL) (k : P2) : Int := (look l k).getD 0
def put (l : AL) (k : P2) (v : Int) : AL := if (look l k).isSome then l.map (fun x => if x.1 = k then (x.1, v) else x) else l ++ [(k, v)]
theorem dfind_E : ∀ (l : AL) (k : P2), dfind (l.map fun x => kD x.1) (l.map fun x => D.int x.2) (nk k) = (look l k).map D.int
  | [], _ => rfl
  | x :: r, k => by
    show (if keyV (kD x.1) = some (nk k) then some (D.int x.2) else dfind (r.map fun x => kD x.1) (r.map fun x => D.int x.2) (nk k)) = _
    rw [keyV_kD]
    by_cases h : x.1 = k
    · rw [if_pos (by rw [h])]; simp [look, h]
    · rw [if_neg (fun z => h (nk_inj (Option.some.inj z))), dfind_E r k]; simp [look, h]
theorem dset_E (v : Int) : ∀ (l : AL) (k : P2), dset (l.map fun x => kD x.1) (l.map fun x => D.int x.2) (nk k) (.int v) = (l.map fun x => if x.1 = k then (x.1, v) else x).map fun x => D.int x.2
  | [], _ => rfl
  | x :: r, k => by
    show (if keyV (kD x.1) = some (nk k) then D.int v else D.int x.2) :: dset (r.map fun x => kD x.1) (r.map fun x => D.int x.2) (nk k) (.int v) = _
    rw [keyV_kD, dset_E v r k, List.map_cons, List.map_cons]
    congr 1
    by_cases h : x.1 = k
    · rw [if_pos (by rw [h]), if_pos h]
    · rw [if_neg (fun z => h (nk_inj (Option.some.inj z))), if_neg h]
theorem put_some {l : AL} {k : P2} {v : Int} (h : (look l k).isSome = true) : put l k v = l.map (fun x => if x.1 = k then (x.1, v) else x) := by
  unfold put; rw [if_pos h]
theorem put_none {l : AL} {k : P2} {v : Int} (h : ¬ (look l k).isSome = true) : put l k v = l ++ [(k, v)] := by
  unfold put; rw [if_neg h]
theorem put_keys {l : AL} {k : P2} {v : Int} : (put l k v).map (·.1) = if (look l k).isSome then l.map (·.1) else l.map (·.1) ++ [k] := by
  by_cases h : (look l k).isSome = true
  · rw [put_some h, if_pos h, List.map_map]
    apply List.map_congr_left
    intro x _
    show (if x.1 = k then (x.1, v) else x).1 = x.1
    split <;> rfl
  · rw [put_none h, if_neg h]; simp
theorem putT_E {l : AL} {k : P2} {v : Int} (hl : l.length < 1000000) : dputT (dicE l) (kD k) (.int v) = some (dicE (put l k v)) := by
  unfold dicE
  simp only [dputT, keyT_kD, List.length_map]
  rw [if_pos hl, dfind_E, Option.isSome_map]
  by_cases h : (look l k).isSome = true
  · rw [if_pos h, dset_E, put_some h]
    congr 2
    rw [List.map_map]
    apply List.map_congr_left
    intro x _
    show kD x.1 = kD (if x.1 = k then (x.1, v) else x).1
    split <;> rfl
  · rw [if_neg h, put_none h]; simp
theorem putD_E {l : AL} {k : P2} {v : Int} (hl : l.length < 1000000) : dputD (dicE l) (kD k) (.int v) = some (dicE (put l k v)) := by
  rw [← putT_E hl]
  rfl
theorem stD_E {l : AL} {k : P2} {v : Int} (hl : l.length < 1000000) : stD (dicE l) (kD k) (.int v) = some (dicE (put l k v)) := by
  rw [← putD_E hl]
  rfl
theorem getD_E (l : AL) (k : P2) : dgetD (dicE l) (kD k) = some ((look l k).map D.int) := by
  unfold dicE
  simp only [dgetD, keyT_kD, dfind_E]
theorem ixA_E {l : AL} {k : P2} {v : Int} (h : look l k = some v) : ixA (dicE l) (kD k) = some (.val (.int v)) := by
  have e : ixD (dicE l) (kD k) = none := rfl
  unfold ixA
  rw [e]
  simp only
  rw [getD_E, h]
  rfl
theorem getM_E (l : AL) (k : P2) (d : Int) : dgetM (dicE l) [kD k, .int d] = some (.val (.int ((look l k).getD d))) := by
  simp only [dgetM, isVal, if_true, getD_E]
  cases look l k <;> rfl
/-! what a dict says of every function of its keys -/
def S (l : AL) (F : P2 → Int) : Int := (l.map fun x => x.2 * F x.1).sum
theorem S_nil (F : P2 → Int) : S [] F = 0 := rfl
theorem S_cons (x : P2 × Int) (l : AL) (F : P2 → Int) : S (x :: l) F = x.2 * F x.1 + S l F := by simp [S]
theorem S_append (l m : AL) (F : P2 → Int) : S (l ++ m) F = S l F + S m F := by simp [S]
theorem look_none {l : AL} {k : P2} : look l k = none ↔ k ∉ l.map (·.1) := by
  induction l with
  | nil => simp [look]
  | cons x r ih =>
    unfold look
    by_cases h : x.1 = k
    · simp [h]
    · rw [if_neg h, ih]
      simp [Ne.symm h]
theorem look_mem {l : AL} {k : P2} {v : Int} (h : look l k = some v) : (k, v) ∈ l := by
  induction l with
  | nil => cases h
  | cons x r ih =>
    unfold look at h
    by_cases e : x.1 = k
    · rw [if_pos e] at h; cases h; rw [← e]; exact List.mem_cons_self
    · rw [if_neg e] at h; exact List.mem_cons_of_mem _ (ih h)
theorem look_of {l : AL} {k : P2} {v : Int} (nd : (l.map (·.1)).Nodup) (h : (k, v) ∈ l) : look l k = some v := by
  induction l with
  | nil => cases h
  | cons x r ih =>
    rw [List.map_cons, List.nodup_cons] at nd
    unfold look
    rcases List.mem_cons.mp h with e | h
    · subst e; rw [if_pos rfl]
    · rw [if_neg (fun e => nd.1 (by rw [e]; exact List.mem_map.mpr ⟨(k, v), h, rfl⟩))]
      exact ih nd.2 h
theorem S_set {k : P2} {v : Int} {F : P2 → Int} : ∀ {l : AL}, (l.map (·.1)).Nodup → (look l k).isSome = true → S (l.map (fun x => if x.1 = k then (x.1, v) else x)) F = S l F + (v - cf l k) * F k
  | [], _, h => by cases h
  | x :: r, nd, h => by
    rw [List.map_cons, List.nodup_cons] at nd
    rw [List.map_cons, S_cons, S_cons]
    by_cases e : x.1 = k
    · have hr : r.map (fun x => if x.1 = k then (x.1, v) else x) = r := by
        have : ∀ y ∈ r, (fun x : P2 × Int => if x.1 = k then (x.1, v) else x) y = y := fun y hy => if_neg fun z => nd.1 (by rw [e, ← z]; exact List.mem_map.mpr ⟨y, hy, rfl⟩)
        rw [List.map_congr_left this, List.map_id']
      rw [hr, if_pos e]
      have hc : cf (x :: r) k = x.2 := by simp [cf, look, e]
      rw [hc, e, Int.sub_mul]
      show v * F k + S r F = x.2 * F k + S r F + (v * F k - x.2 * F k)
      omega
    · have hc : cf (x :: r) k = cf r k := by simp [cf, look, e]
      have hl : (look r k).isSome = true := by
        have := h
        simpa [look, e] using this
      rw [if_neg e, S_set nd.2 hl, hc]
      omega
theorem S_put {l : AL} {k : P2} {v : Int} (nd : (l.map (·.1)).Nodup) (F : P2 → Int) : S (put l k v) F = S l F + (v - cf l k) * F k := by
  by_cases h : (look l k).isSome = true
  · rw [put_some h, S_set nd h]
  · rw [put_none h, S_append]
    have hc : cf l k = 0 := by
      unfold cf
      cases e : look l k with
      | none => rfl
      | some x => rw [e] at h; exact (h rfl).elim
    rw [hc, S_cons, S_nil, Int.sub_zero]
    show S l F + (v * F k + 0) = S l F + v * F k
    rw [Int.add_zero]
theorem put_nodup {l : AL} {k : P2} {v : Int} (nd : (l.map (·.1)).Nodup) : ((put l k v).map (·.1)).Nodup := by
  rw [put_keys]
  split
  · exact nd
  · rename_i h
    rw [List.nodup_append]
    refine ⟨nd, by simp, fun a ha b hb => ?_⟩
    rw [List.mem_singleton.mp hb]
    rintro rfl
    have : look l a = none := by
      cases e : look l a with
      | none => rfl
      | some x => rw [e] at h; exact (h rfl).elim
    exact (look_none.mp this) ha
theorem put_mem {l : AL} {k p : P2} {v : Int} (h : p ∈ (put l k v).map (·.1)) : p ∈ l.map (·.1) ∨ p = k := by
  rw [put_keys] at h
  split at h
  · exact .inl h
  · rcases List.mem_append.mp h with h | h
    · exact .inl h
    · exact .inr (List.mem_singleton.mp h)
/-- the coefficient is what the dict says of the key's own function -/
def dl (k : P2) : P2 → Int := fun p => if p = k then 1 else 0
theorem S_dl {k : P2} : ∀ {l : AL}, (l.map (·.1)).Nodup → S l (dl k) = cf l k
  | [], _ => rfl
  | x :: r, nd => by
    rw [List.map_cons, List.nodup_cons] at nd
    rw [S_cons, S_dl nd.2]
    by_cases e : x.1 = k
    · have h0 : cf r k = 0 := by
        unfold cf
        rw [look_none.mpr (e ▸ nd.1)]
        rfl
      have hc : cf (x :: r) k = x.2 := by simp [cf, look, e]
      rw [h0, hc]
      simp [dl, e]
    · have hc : cf (x :: r) k = cf r k := by simp [cf, look, e]
      rw [hc]
      simp [dl, e]
theorem S_congr {l : AL} {F G : P2 → Int} (h : ∀ x ∈ l, F x.1 = G x.1) : S l F = S l G := by
  unfold S
  congr 1
  apply List.map_congr_left
  intro x hx
  rw [h x hx]
theorem S_mul {l : AL} {F : P2 → Int} {c : Int} : S l (fun k => c * F k) = c * S l F := by
  induction l with
  | nil => simp [S]
  | cons x r ih => rw [S_cons, S_cons, ih, Int.mul_add, Int.mul_left_comm]
theorem S_add {l : AL} {F G : P2 → Int} : S l (fun k => F k + G k) = S l F + S l G := by
  induction l with
  | nil => simp [S]
  | cons x r ih => rw [S_cons, S_cons, S_cons, ih, Int.mul_add]; omega
theorem S_zero {l : AL} : S l (fun _ => 0) = 0 := by
  induction l with
  | nil => rfl
  | cons x r ih => rw [S_cons, ih]; simp
/-- two sums change places -/
theorem S_swap {f g : AL} {F : P2 → P2 → Int} : S f (fun k => S g (fun p => F k p)) = S g (fun p => S f (fun k => F k p)) := by
  induction f with
  | nil => simp only [S_nil]; exact S_zero.symm
  | cons x r ih =>
    rw [S_cons, ih, ← S_mul, ← S_add]
    apply S_congr
    intro y _
    rw [S_cons]
/-! sums over 0 .. n - 1 -/
def sumN : Nat → (Nat → Int) → Int
  | 0, _ => 0
  | n + 1, g => sumN n g + g n
theorem sumN_congr {n : Nat} {g h : Nat → Int} (e : ∀ i, i < n → g i = h i) : sumN n g = sumN n h := by
  induction n with
  | zero => rfl
  | succ n ih => simp only [sumN]; rw [ih fun i hi => e i (by omega), e n (by omega)]
theorem sumN_add {n : Nat} {g h : Nat → Int} : sumN n (fun i => g i + h i) = sumN n g + sumN n h := by
  induction n with
  | zero => rfl
  | succ n ih => simp only [sumN, ih]; omega
theorem sumN_mul {n : Nat} {g : Nat → Int} {c : Int} : sumN n (fun i => c * g i) = c * sumN n g := by
  induction n with
  | zero => simp [sumN]
  | succ n ih => simp only [sumN, ih, Int.mul_add]
theorem sumN_zero {n : Nat} : sumN n (fun _ => 0) = 0 := by
  induction n with
  | zero => rfl
  | succ n ih => simp only [sumN, ih]; rfl
theorem sumN_swap {n m : Nat} {g : Nat → Nat → Int} : sumN n (fun i => sumN m (fun j => g i j)) = sumN m (fun j => sumN n (fun i => g i j)) := by
  induction n with
  | zero => simp only [sumN]; exact sumN_zero.symm
  | succ n ih => simp only [sumN, ih, sumN_add]
theorem sumN_single {n q : Nat} {g : Nat → Int} (h : q < n) : sumN n (fun i => if i = q then g i else 0) = g q := by
  induction n with
  | zero => omega
  | succ n ih =>
    simp only [sumN]
    by_cases e : q = n
    · subst e
      have : sumN q (fun i => if i = q then g i else 0) = 0 := by
        rw [sumN_congr (h := fun _ => 0) fun i hi => if_neg (by omega)]
        exact sumN_zero
      rw [this, if_pos rfl]; omega
    · rw [ih (by omega), if_neg (fun z => e z.symm)]; omega
theorem S_sumN {l : AL} {n : Nat} {g : P2 → Nat → Int} : S l (fun k => sumN n (g k)) = sumN n (fun i => S l (fun k => g k i)) := by
  induction n with
  | zero => simp only [sumN]; exact S_zero
  | succ n ih => simp only [sumN]; rw [S_add, ih]
/-- the first of a row -/
theorem sumN_first {n : Nat} {g : Nat → Int} : sumN (n + 1) g = g 0 + sumN n (fun i => g (i + 1)) := by
  induction n with
  | zero => simp [sumN]
  | succ n ih =>
    have : sumN (n + 1 + 1) g = sumN (n + 1) g + g (n + 1) := rfl
    rw [this, ih]
    simp only [sumN]
    omega
/-- shifted into a wide range -/
theorem sumN_up {N s : Nat} : ∀ {m : Nat} {g : Nat → Int}, s + m ≤ N → sumN m (fun i => g (s + i)) = sumN N (fun X => if s ≤ X ∧ X < s + m then g X else 0)
  | 0, g, _ => by
    rw [sumN_congr (n := N) (h := fun _ => 0) fun i _ => if_neg (by omega), sumN_zero]; rfl
  | m + 1, g, h => by
    have ih := sumN_up (m := m) (g := g) (s := s) (N := N) (by omega)
    simp only [sumN]
    rw [ih, ← sumN_single (n := N) (q := s + m) (g := g) (by omega), ← sumN_add]
    apply sumN_congr
    intro X hX
    by_cases a : X = s + m
    · rw [if_pos a, if_neg (by omega), if_pos (by omega)]; omega
    · rw [if_neg a]
      by_cases b : s ≤ X ∧ X < s + m
      · rw [if_pos b, if_pos (by omega)]; omega
      · rw [if_neg b, if_neg (by omega)]; omega
/-- .. downwards -/
theorem sumN_down {N e : Nat} : ∀ {m : Nat} {g : Nat → Int}, m ≤ e + 1 → e < N → sumN m (fun i => g (e - i)) = sumN N (fun X => if e + 1 ≤ X + m ∧ X ≤ e then g X else 0)
  | 0, g, _, _ => by
    rw [sumN_congr (n := N) (h := fun _ => 0) fun i _ => if_neg (by omega), sumN_zero]; rfl
  | m + 1, g, h, he => by
    have ih := sumN_down (m := m) (g := g) (e := e) (N := N) (by omega) he
    simp only [sumN]
    rw [ih, ← sumN_single (n := N) (q := e - m) (g := g) (by omega), ← sumN_add]
    apply sumN_congr
    intro X hX
    by_cases a : X = e - m
    · rw [if_pos a, if_neg (by omega), if_pos (by omega)]; omega
    · rw [if_neg a]
      by_cases b : e + 1 ≤ X + m ∧ X ≤ e
      · rw [if_pos b, if_pos (by omega)]; omega
      · rw [if_neg b, if_neg (by omega)]; omega
/-- counting a range -/
theorem sumN_count {n : Nat} {lo hi : Int} (h0 : 0 ≤ lo) (h1 : hi < n) : sumN n (fun i => if lo ≤ (i : Int) ∧ (i : Int) ≤ hi then 1 else 0) = max 0 (hi - lo + 1) := by
  have key : ∀ m : Nat, sumN m (fun i => if lo ≤ (i : Int) ∧ (i : Int) ≤ hi then 1 else 0) = max 0 (min hi ((m : Int) - 1) - lo + 1) := by
    intro m
    induction m with
    | zero => simp only [sumN]; omega
    | succ m ih =>
      simp only [sumN]
      rw [ih]
      split <;> omega
  rw [key n]
  omega
/-! the same by the parts -/
theorem getM_P (l : AL) (a b d : Int) : dgetM (dicE l) [.tup [.int a, .int b], .int d] = some (.val (.int ((look l (a, b)).getD d))) := getM_E l (a, b) d
theorem ixA_P {l : AL} {a b v : Int} (h : look l (a, b) = some v) : ixA (dicE l) (.tup [.int a, .int b]) = some (.val (.int v)) := ixA_E (k := (a, b)) h
theorem stD_P {l : AL} {a b v : Int} (hl : l.length < 1000000) : stD (dicE l) (.tup [.int a, .int b]) (.int v) = some (dicE (put l (a, b) v)) := stD_E (k := (a, b)) hl
theorem putT_P {l : AL} {a b v : Int} (hl : l.length < 1000000) : dputT (dicE l) (.tup [.int a, .int b]) (.int v) = some (dicE (put l (a, b) v)) := putT_E (k := (a, b)) hl
/-! few keys -/
theorem nodup_lt : ∀ (n : Nat) (l : List Nat), l.Nodup → (∀ x ∈ l, x < n) → l.length ≤ n
  | 0, l, _, h => by
    cases l with
    | nil => exact Nat.le_refl _
    | cons x r => exact absurd (h x List.mem_cons_self) (by omega)
  | n + 1, l, nd, h => by
    by_cases hn : n ∈ l
    · have h1 := nodup_lt n (l.erase n) (nd.erase n) fun x hx => by
        have h2 := h x (List.mem_of_mem_erase hx)
        have h3 : x ≠ n := by
          rintro rfl
          exact (List.Nodup.not_mem_erase nd) hx
        omega
      rw [List.length_erase_of_mem hn] at h1
      omega
    · have h1 := nodup_lt n l nd fun x hx => by
        have h2 := h x hx
        have h3 : x ≠ n := by rintro rfl; exact hn hx
        omega
      omega
theorem rngL_succ (lo : Int) (n : Nat) : rngL lo (n + 1) = .int lo :: rngL (lo + 1) n := by
  unfold rngL
  rw [List.range_succ_eq_map, List.map_cons, List.map_map]
  congr 1
  · show D.int (lo + ((0 : Nat) : Int)) = _
    simp
  · apply List.map_congr_left
    intro i _
    show D.int (lo + ((i + 1 : Nat) : Int)) = D.int (lo + 1 + (i : Int))
    congr 1
    omega
theorem rngL_zero (lo : Int) : rngL lo 0 = [] := rfl
end MB

set_option Elab.async false
set_option linter.all false
set_option maxRecDepth 100000
set_option maxHeartbeats 2000000
namespace MB
open PySem

/-! ### products of conditions -/
/-- the condition (a, b) is one of the space of dimension n -/
def Vk (n : Int) (k : P2) : Prop := 0 ≤ k.2 ∧ k.2 ≤ k.1 ∧ k.1 ≤ n - 1
def U (n : Int) (k1 k2 : P2) (F : P2 → Int) : Int :=
  sumN 16 fun p => if (k1.1 + k2.2 ≤ (p : Int) ∧ k1.2 + k2.1 ≤ (p : Int)) ∧ (p : Int) ≤ k1.1 + k2.1 ∧ (p : Int) ≤ n - 1 then F ((p : Int), k1.1 + k1.2 + k2.1 + k2.2 - (p : Int)) else 0
theorem U_comm (n : Int) (k1 k2 : P2) (F : P2 → Int) : U n k1 k2 F = U n k2 k1 F := by
  unfold U
  apply sumN_congr
  intro p _
  have e : k1.1 + k1.2 + k2.1 + k2.2 - (p : Int) = k2.1 + k2.2 + k1.1 + k1.2 - (p : Int) := by omega
  rw [e]
  by_cases h : (k1.1 + k2.2 ≤ (p : Int) ∧ k1.2 + k2.1 ≤ (p : Int)) ∧ (p : Int) ≤ k1.1 + k2.1 ∧ (p : Int) ≤ n - 1
  · rw [if_pos h, if_pos (by omega)]
  · rw [if_neg h, if_neg (by omega)]
/-! the program's way: raised, then grown -/
def R (n : Int) (F : P2 → Int) : P2 → Int := fun k => if k.1 + 1 ≤ n - 1 then F (k.1 + 1, k.2 + 1) else 0
def Rd (n : Int) : Nat → (P2 → Int) → (P2 → Int)
  | 0, F => F
  | d + 1, F => Rd n d (R n F)
def G (n c : Int) (F : P2 → Int) : P2 → Int := fun k => sumN (c + 1).toNat fun i => if k.1 + (i : Int) ≤ n - 1 ∧ k.2 + c - (i : Int) ≤ k.1 then F (k.1 + (i : Int), k.2 + c - (i : Int)) else 0
theorem Rd_eq (n : Int) : ∀ (d : Nat) (F : P2 → Int) (k : P2), k.1 ≤ n - 1 → Rd n d F k = if k.1 + (d : Int) ≤ n - 1 then F (k.1 + (d : Int), k.2 + (d : Int)) else 0
  | 0, F, k, h => by
    rw [if_pos (by simpa using h)]
    show F k = F (k.1 + 0, k.2 + 0)
    rw [Int.add_zero, Int.add_zero]
  | d + 1, F, k, h => by
    show Rd n d (R n F) k = _
    rw [Rd_eq n d (R n F) k h]
    unfold R
    by_cases h1 : k.1 + (d : Int) ≤ n - 1
    · rw [if_pos h1]
      have e1 : k.1 + (d : Int) + 1 = k.1 + ((d + 1 : Nat) : Int) := by omega
      have e2 : k.2 + (d : Int) + 1 = k.2 + ((d + 1 : Nat) : Int) := by omega
      rw [e1, e2]
    · rw [if_neg h1, if_neg (by omega)]
theorem T_eq {n : Int} (hn : n ≤ 8) {k o : P2} (hk : Vk n k) (ho : Vk n o) (F : P2 → Int) : Rd n o.2.toNat (G n (o.1 - o.2) F) k = U n k o F := by
  obtain ⟨k1, k2, k3⟩ := hk
  obtain ⟨o1, o2, o3⟩ := ho
  rw [Rd_eq n _ _ k k3]
  have ed : ((o.2.toNat : Nat) : Int) = o.2 := by omega
  rw [ed]
  unfold U
  by_cases h : k.1 + o.2 ≤ n - 1
  · rw [if_pos h]
    unfold G
    have hs : sumN (o.1 - o.2 + 1).toNat (fun i => if k.1 + o.2 + (i : Int) ≤ n - 1 ∧ k.2 + o.2 + (o.1 - o.2) - (i : Int) ≤ k.1 + o.2 then F (k.1 + o.2 + (i : Int), k.2 + o.2 + (o.1 - o.2) - (i : Int)) else 0) =
        sumN (o.1 - o.2 + 1).toNat (fun i => (fun X : Nat => if (X : Int) ≤ n - 1 ∧ k.2 + o.1 + k.1 + o.2 - (X : Int) ≤ k.1 + o.2 then F ((X : Int), k.2 + o.1 + k.1 + o.2 - (X : Int)) else 0) ((k.1 + o.2).toNat + i)) := by
      apply sumN_congr
      intro i _
      have e1 : (((k.1 + o.2).toNat + i : Nat) : Int) = k.1 + o.2 + (i : Int) := by omega
      simp only [e1]
      have e2 : k.2 + o.2 + (o.1 - o.2) - (i : Int) = k.2 + o.1 + k.1 + o.2 - (k.1 + o.2 + (i : Int)) := by omega
      rw [e2]
    show sumN _ _ = _
    rw [hs]
    refine (sumN_up (N := 16) (s := (k.1 + o.2).toNat) (m := (o.1 - o.2 + 1).toNat) (g := fun X : Nat => if (X : Int) ≤ n - 1 ∧ k.2 + o.1 + k.1 + o.2 - (X : Int) ≤ k.1 + o.2 then F ((X : Int), k.2 + o.1 + k.1 + o.2 - (X : Int)) else 0) (by omega)).trans ?_
    apply sumN_congr
    intro X _
    have e3 : k.1 + k.2 + o.1 + o.2 - (X : Int) = k.2 + o.1 + k.1 + o.2 - (X : Int) := by omega
    rw [e3]
    by_cases c : (k.1 + o.2 ≤ (X : Int) ∧ k.2 + o.1 ≤ (X : Int)) ∧ (X : Int) ≤ k.1 + o.1 ∧ (X : Int) ≤ n - 1
    · rw [if_pos c, if_pos (by omega), if_pos (by omega)]
    · rw [if_neg c]
      by_cases c2 : (k.1 + o.2).toNat ≤ X ∧ X < (k.1 + o.2).toNat + (o.1 - o.2 + 1).toNat
      · rw [if_pos c2, if_neg (by omega)]
      · rw [if_neg c2]
  · rw [if_neg h, sumN_congr (h := fun _ => 0) fun p _ => if_neg (by omega), sumN_zero]
/-! the law's way: alternating polynomials -/
/-- one term: x, y and what it gives -/
def J1 (n x y : Int) (F : P2 → Int) : Int := if x < y then (if y - 1 ≤ n - 1 then -F (y - 1, x) else 0) else if x > y ∧ x - 1 ≤ n - 1 then F (x - 1, y) else 0
def J (n : Int) (kf kg : P2) (F : P2 → Int) : Int := sumN (kf.1 - kf.2 + 1).toNat fun i => J1 n (kg.1 + 1 + kf.1 - (i : Int)) (kg.2 + kf.2 + (i : Int)) F
theorem U_up (n : Int) (k1 k2 : P2) (F : P2 → Int) : U n k1 k2 F =
    sumN 17 fun X => if 1 ≤ (X : Int) ∧ (k1.1 + k2.2 ≤ (X : Int) - 1 ∧ k1.2 + k2.1 ≤ (X : Int) - 1) ∧ (X : Int) - 1 ≤ k1.1 + k2.1 ∧ (X : Int) - 1 ≤ n - 1 then F ((X : Int) - 1, k1.1 + k1.2 + k2.1 + k2.2 - ((X : Int) - 1)) else 0 := by
  rw [sumN_first, if_neg (by simp), Int.zero_add]
  unfold U
  apply sumN_congr
  intro p _
  have e : ((p + 1 : Nat) : Int) - 1 = (p : Int) := by omega
  rw [e]
  by_cases h : (k1.1 + k2.2 ≤ (p : Int) ∧ k1.2 + k2.1 ≤ (p : Int)) ∧ (p : Int) ≤ k1.1 + k2.1 ∧ (p : Int) ≤ n - 1
  · rw [if_pos h, if_pos ⟨by omega, h⟩]
  · rw [if_neg h, if_neg (fun z => h z.2)]
theorem J_eq {n : Int} (hn : n ≤ 8) {kf kg : P2} (hf : Vk n kf) (hg : Vk n kg) (F : P2 → Int) : J n kf kg F = U n kf kg F := by
  obtain ⟨f1, f2, f3⟩ := hf
  obtain ⟨g1, g2, g3⟩ := hg
  rw [U_up]
  let H : Nat → Int := fun X => if kf.1 + kf.2 + kg.1 + kg.2 + 1 - (X : Int) < (X : Int) ∧ (X : Int) - 1 ≤ n - 1 then F ((X : Int) - 1, kf.1 + kf.2 + kg.1 + kg.2 + 1 - (X : Int)) else 0
  have hP : J n kf kg F = sumN (kf.1 - kf.2 + 1).toNat (fun i => H ((kg.1 + 1 + kf.1).toNat - i)) + (-1) * sumN (kf.1 - kf.2 + 1).toNat (fun i => H ((kg.2 + kf.2).toNat + i)) := by
    rw [← sumN_mul, ← sumN_add]
    unfold J
    apply sumN_congr
    intro i hi
    have e1 : (((kg.1 + 1 + kf.1).toNat - i : Nat) : Int) = kg.1 + 1 + kf.1 - (i : Int) := by omega
    have e2 : (((kg.2 + kf.2).toNat + i : Nat) : Int) = kg.2 + kf.2 + (i : Int) := by omega
    simp only [H, e1, e2]
    have e3 : kf.1 + kf.2 + kg.1 + kg.2 + 1 - (kg.1 + 1 + kf.1 - (i : Int)) = kg.2 + kf.2 + (i : Int) := by omega
    have e4 : kf.1 + kf.2 + kg.1 + kg.2 + 1 - (kg.2 + kf.2 + (i : Int)) = kg.1 + 1 + kf.1 - (i : Int) := by omega
    rw [e3, e4]
    generalize kg.1 + 1 + kf.1 - (i : Int) = x
    generalize kg.2 + kf.2 + (i : Int) = y
    unfold J1
    by_cases c : x < y
    · rw [if_pos c, if_neg (by omega : ¬ (y < x ∧ x - 1 ≤ n - 1))]
      by_cases c2 : y - 1 ≤ n - 1
      · rw [if_pos c2, if_pos ⟨c, c2⟩]; omega
      · rw [if_neg c2, if_neg (fun z => c2 z.2)]; omega
    · rw [if_neg c, if_neg (fun z : x < y ∧ y - 1 ≤ n - 1 => c z.1)]
      by_cases c2 : x > y ∧ x - 1 ≤ n - 1
      · rw [if_pos c2]; omega
      · rw [if_neg c2]; omega
  rw [hP, sumN_down (N := 17) (e := (kg.1 + 1 + kf.1).toNat) (by omega) (by omega), sumN_up (N := 17) (s := (kg.2 + kf.2).toNat) (by omega), ← sumN_mul, ← sumN_add]
  apply sumN_congr
  intro X hX
  simp only [H]
  have t1 : ((kf.1 - kf.2 + 1).toNat : Int) = kf.1 - kf.2 + 1 := by omega
  have t2 : ((kg.1 + 1 + kf.1).toNat : Int) = kg.1 + 1 + kf.1 := by omega
  have t3 : ((kg.2 + kf.2).toNat : Int) = kg.2 + kf.2 := by omega
  generalize (kf.1 - kf.2 + 1).toNat = t at t1 ⊢
  generalize (kg.1 + 1 + kf.1).toNat = u at t2 ⊢
  generalize (kg.2 + kf.2).toNat = v at t3 ⊢
  have e5 : kf.1 + kf.2 + kg.1 + kg.2 - ((X : Int) - 1) = kf.1 + kf.2 + kg.1 + kg.2 + 1 - (X : Int) := by omega
  rw [e5]
  by_cases c : kf.1 + kf.2 + kg.1 + kg.2 + 1 - (X : Int) < (X : Int) ∧ (X : Int) - 1 ≤ n - 1
  · rw [if_pos c]
    by_cases c1 : u + 1 ≤ X + t ∧ X ≤ u
    · rw [if_pos c1]
      by_cases c2 : v ≤ X ∧ X < v + t
      · rw [if_pos c2, if_neg (by omega)]; omega
      · rw [if_neg c2, if_pos (by omega)]; omega
    · rw [if_neg c1]
      by_cases c2 : v ≤ X ∧ X < v + t
      · exfalso; omega
      · rw [if_neg c2, if_neg (by omega)]; omega
  · have hU : ¬ (1 ≤ (X : Int) ∧ (kf.1 + kg.2 ≤ (X : Int) - 1 ∧ kf.2 + kg.1 ≤ (X : Int) - 1) ∧ (X : Int) - 1 ≤ kf.1 + kg.1 ∧ (X : Int) - 1 ≤ n - 1) := by omega
    rw [if_neg c, if_neg hU]
    split <;> split <;> omega
/-! three factors -/
theorem ite_and {p q : Prop} [Decidable p] [Decidable q] {x : Int} : (if p then (if q then x else 0) else 0) = if p ∧ q then x else 0 := by
  by_cases a : p
  · by_cases b : q
    · rw [if_pos a, if_pos b, if_pos ⟨a, b⟩]
    · rw [if_pos a, if_neg b, if_neg fun z => b z.2]
  · rw [if_neg a, if_neg fun z => a z.1]
theorem ite_sum {p : Prop} [Decidable p] {n : Nat} {g : Nat → Int} : (if p then sumN n g else 0) = sumN n fun i => if p then g i else 0 := by
  by_cases a : p
  · rw [if_pos a]; exact sumN_congr fun i _ => (if_pos a).symm
  · rw [if_neg a, sumN_congr (h := fun _ => 0) fun i _ => if_neg a, sumN_zero]
theorem U_assoc {n : Int} (hn : n ≤ 8) {k1 k2 k3 : P2} (h1 : Vk n k1) (h2 : Vk n k2) (h3 : Vk n k3) (F : P2 → Int) : U n k1 k2 (fun m => U n m k3 F) = U n k2 k3 (fun m => U n k1 m F) := by
  obtain ⟨a1, a2, a3⟩ := h1
  obtain ⟨b1, b2, b3⟩ := h2
  obtain ⟨c1, c2, c3⟩ := h3
  let V : Nat → Int := fun p => F ((p : Int), k1.1 + k1.2 + k2.1 + k2.2 + k3.1 + k3.2 - (p : Int))
  have hL : U n k1 k2 (fun m => U n m k3 F) = sumN 16 fun p => V p * sumN 16 fun m => if max (max (k1.1 + k2.2) (k1.2 + k2.1)) (max (k1.1 + k1.2 + k2.1 + k2.2 + k3.1 - (p : Int)) ((p : Int) - k3.1)) ≤ (m : Int) ∧ (m : Int) ≤ (if (p : Int) ≤ n - 1 then min (k1.1 + k2.1) ((p : Int) - k3.2) else -1) then 1 else 0 := by
    unfold U
    have : ∀ m : Nat, m < 16 → (if (k1.1 + k2.2 ≤ (m : Int) ∧ k1.2 + k2.1 ≤ (m : Int)) ∧ (m : Int) ≤ k1.1 + k2.1 ∧ (m : Int) ≤ n - 1 then (sumN 16 fun p => if ((m : Int) + k3.2 ≤ (p : Int) ∧ k1.1 + k1.2 + k2.1 + k2.2 - (m : Int) + k3.1 ≤ (p : Int)) ∧ (p : Int) ≤ (m : Int) + k3.1 ∧ (p : Int) ≤ n - 1 then F ((p : Int), (m : Int) + (k1.1 + k1.2 + k2.1 + k2.2 - (m : Int)) + k3.1 + k3.2 - (p : Int)) else 0) else 0) =
        sumN 16 fun p => V p * (if max (max (k1.1 + k2.2) (k1.2 + k2.1)) (max (k1.1 + k1.2 + k2.1 + k2.2 + k3.1 - (p : Int)) ((p : Int) - k3.1)) ≤ (m : Int) ∧ (m : Int) ≤ (if (p : Int) ≤ n - 1 then min (k1.1 + k2.1) ((p : Int) - k3.2) else -1) then 1 else 0) := by
      intro m _
      rw [ite_sum]
      apply sumN_congr
      intro p _
      rw [ite_and]
      have e : (m : Int) + (k1.1 + k1.2 + k2.1 + k2.2 - (m : Int)) + k3.1 + k3.2 - (p : Int) = k1.1 + k1.2 + k2.1 + k2.2 + k3.1 + k3.2 - (p : Int) := by omega
      rw [e]
      by_cases q : max (max (k1.1 + k2.2) (k1.2 + k2.1)) (max (k1.1 + k1.2 + k2.1 + k2.2 + k3.1 - (p : Int)) ((p : Int) - k3.1)) ≤ (m : Int) ∧ (m : Int) ≤ (if (p : Int) ≤ n - 1 then min (k1.1 + k2.1) ((p : Int) - k3.2) else -1)
      · rw [if_pos q, Int.mul_one, if_pos]
        obtain ⟨q1, q2⟩ := q
        split at q2 <;> omega
      · rw [if_neg q, Int.mul_zero, if_neg]
        intro z
        apply q
        rw [if_pos z.2.2.2]
        omega
    rw [sumN_congr this, sumN_swap]
    apply sumN_congr
    intro p _
    rw [sumN_mul]
  have hR : U n k2 k3 (fun m => U n k1 m F) = sumN 16 fun p => V p * sumN 16 fun m => if max (max (k2.1 + k3.2) (k2.2 + k3.1)) (max (k1.1 + k2.1 + k2.2 + k3.1 + k3.2 - (p : Int)) ((p : Int) - k1.1)) ≤ (m : Int) ∧ (m : Int) ≤ (if (p : Int) ≤ n - 1 then min (k2.1 + k3.1) ((p : Int) - k1.2) else -1) then 1 else 0 := by
    unfold U
    have : ∀ m : Nat, m < 16 → (if (k2.1 + k3.2 ≤ (m : Int) ∧ k2.2 + k3.1 ≤ (m : Int)) ∧ (m : Int) ≤ k2.1 + k3.1 ∧ (m : Int) ≤ n - 1 then (sumN 16 fun p => if (k1.1 + (k2.1 + k2.2 + k3.1 + k3.2 - (m : Int)) ≤ (p : Int) ∧ k1.2 + (m : Int) ≤ (p : Int)) ∧ (p : Int) ≤ k1.1 + (m : Int) ∧ (p : Int) ≤ n - 1 then F ((p : Int), k1.1 + k1.2 + (m : Int) + (k2.1 + k2.2 + k3.1 + k3.2 - (m : Int)) - (p : Int)) else 0) else 0) =
        sumN 16 fun p => V p * (if max (max (k2.1 + k3.2) (k2.2 + k3.1)) (max (k1.1 + k2.1 + k2.2 + k3.1 + k3.2 - (p : Int)) ((p : Int) - k1.1)) ≤ (m : Int) ∧ (m : Int) ≤ (if (p : Int) ≤ n - 1 then min (k2.1 + k3.1) ((p : Int) - k1.2) else -1) then 1 else 0) := by
      intro m _
      rw [ite_sum]
      apply sumN_congr
      intro p _
      rw [ite_and]
      have e : k1.1 + k1.2 + (m : Int) + (k2.1 + k2.2 + k3.1 + k3.2 - (m : Int)) - (p : Int) = k1.1 + k1.2 + k2.1 + k2.2 + k3.1 + k3.2 - (p : Int) := by omega
      rw [e]
      by_cases q : max (max (k2.1 + k3.2) (k2.2 + k3.1)) (max (k1.1 + k2.1 + k2.2 + k3.1 + k3.2 - (p : Int)) ((p : Int) - k1.1)) ≤ (m : Int) ∧ (m : Int) ≤ (if (p : Int) ≤ n - 1 then min (k2.1 + k3.1) ((p : Int) - k1.2) else -1)
      · rw [if_pos q, Int.mul_one, if_pos]
        obtain ⟨q1, q2⟩ := q
        split at q2 <;> omega
      · rw [if_neg q, Int.mul_zero, if_neg]
        intro z
        apply q
        rw [if_pos z.2.2.2]
        omega
    rw [sumN_congr this, sumN_swap]
    apply sumN_congr
    intro p _
    rw [sumN_mul]
  rw [hL, hR]
  apply sumN_congr
  intro p _
  congr 1
  rw [sumN_count (by omega) (by split <;> omega), sumN_count (by omega) (by split <;> omega)]
  by_cases c : (p : Int) ≤ n - 1
  · rw [if_pos c, if_pos c]
    omega
  · rw [if_neg c, if_neg c]
    omega
/-! a dict of the space n -/
structure Vd (n : Int) (l : AL) : Prop where
  nd : (l.map (·.1)).Nodup
  ks : ∀ k ∈ l.map (·.1), Vk n k
theorem Vd.nil (n : Int) : Vd n [] := ⟨List.nodup_nil, fun _ h => nomatch h⟩
theorem Vd.put {n : Int} {l : AL} {k : P2} {v : Int} (h : Vd n l) (hk : Vk n k) : Vd n (put l k v) := ⟨put_nodup h.nd, fun p hp => by
  rcases put_mem hp with q | q
  · exact h.ks p q
  · rw [q]; exact hk⟩
theorem map_nodup {α β : Type} {f : α → β} : ∀ {l : List α}, l.Nodup → (∀ a ∈ l, ∀ b ∈ l, f a = f b → a = b) → (l.map f).Nodup
  | [], _, _ => List.nodup_nil
  | x :: r, nd, inj => by
    rw [List.nodup_cons] at nd
    rw [List.map_cons, List.nodup_cons]
    refine ⟨fun h => ?_, map_nodup nd.2 fun a ha b hb => inj a (List.mem_cons_of_mem _ ha) b (List.mem_cons_of_mem _ hb)⟩
    obtain ⟨y, hy, e⟩ := List.mem_map.mp h
    have := inj y (List.mem_cons_of_mem _ hy) x List.mem_cons_self e
    exact nd.1 (this ▸ hy)
theorem Vd.len {n : Int} {l : AL} (hn : n ≤ 8) (h : Vd n l) : l.length ≤ 64 := by
  have h1 := nodup_lt 64 ((l.map (·.1)).map fun k : P2 => k.1.toNat * 8 + k.2.toNat) (map_nodup h.nd fun a ha b hb e => by
    obtain ⟨a1, a2, a3⟩ := h.ks a ha
    obtain ⟨b1, b2, b3⟩ := h.ks b hb
    have e : a.1.toNat * 8 + a.2.toNat = b.1.toNat * 8 + b.2.toNat := e
    refine Prod.ext ?_ ?_ <;> omega) fun x hx => by
    obtain ⟨k, hk, e⟩ := List.mem_map.mp hx
    obtain ⟨a1, a2, a3⟩ := h.ks k hk
    have e : k.1.toNat * 8 + k.2.toNat = x := e
    omega
  simpa using h1
end MB

set_option Elab.async false
set_option linter.all false
set_option maxRecDepth 100000
set_option maxHeartbeats 2000000
namespace MB
open PySem PySem.Spec PyProof.Rows L2 DL
/-! the hashes of the small keys differ -/
def hk (i : Nat) : Int := reduceHash (Builtin.Tuple.tupleHashOf [hashInt ((i / 8 : Nat) : Int), hashInt ((i % 8 : Nat) : Int)])
theorem hk_eq (w : World) (k : P2) (h : 0 ≤ k.1 ∧ k.1 < 8 ∧ 0 ≤ k.2 ∧ k.2 < 8) : (nk k).hash w = hk (k.1.toNat * 8 + k.2.toNat) := by
  have e1 : (((k.1.toNat * 8 + k.2.toNat) / 8 : Nat) : Int) = k.1 := by omega
  have e2 : (((k.1.toNat * 8 + k.2.toNat) % 8 : Nat) : Int) = k.2 := by omega
  unfold hk
  rw [e1, e2]
  simp [nk, NestedKey.hash, NestedKey.hashes]
theorem hk_nodup : ((List.range 64).map hk).Nodup := by decide +kernel
theorem map_inj_of {α β : Type} {f : α → β} : ∀ {l : List α}, (l.map f).Nodup → ∀ {a b : α}, a ∈ l → b ∈ l → f a = f b → a = b
  | [], _, _, _, h, _, _ => nomatch h
  | x :: r, nd, a, b, ha, hb, e => by
    rw [List.map_cons, List.nodup_cons] at nd
    rcases List.mem_cons.mp ha with ea | ha
    · rcases List.mem_cons.mp hb with eb | hb
      · rw [ea, eb]
      · exact (nd.1 (by rw [← ea, e]; exact List.mem_map.mpr ⟨b, hb, rfl⟩)).elim
    · rcases List.mem_cons.mp hb with eb | hb
      · exact (nd.1 (by rw [← eb, ← e]; exact List.mem_map.mpr ⟨a, ha, rfl⟩)).elim
      · exact map_inj_of nd.2 ha hb e
theorem hk_inj {i j : Nat} (hi : i < 64) (hj : j < 64) (e : hk i = hk j) : i = j := map_inj_of hk_nodup (by simpa using hi) (by simpa using hj) e
theorem keyVs_E : ∀ l : AL, keyV.keyVs (l.map fun x => kD x.1) = some (l.map fun x => nk x.1)
  | [] => rfl
  | x :: r => by
    rw [List.map_cons, List.map_cons]
    simp only [keyV.keyVs, keyV_kD, keyVs_E r]
theorem hash_ok (w : World) (l : AL) (n : Int) (hn : n ≤ 8) (h : Vd n l) : hashOk w (l.map fun x => kD x.1) := by
  unfold hashOk
  rw [keyVs_E]
  show ((l.map fun x => nk x.1).map fun n => n.hash w).Nodup
  rw [List.map_map]
  have e : (l.map ((fun n => n.hash w) ∘ fun x : P2 × Int => nk x.1)) = (l.map (·.1)).map fun k : P2 => (nk k).hash w := by rw [List.map_map]; rfl
  rw [e]
  refine map_nodup h.nd fun a ha b hb e => ?_
  obtain ⟨a1, a2, a3⟩ := h.ks a ha
  obtain ⟨b1, b2, b3⟩ := h.ks b hb
  rw [hk_eq w a ⟨by omega, by omega, by omega, by omega⟩, hk_eq w b ⟨by omega, by omega, by omega, by omega⟩] at e
  have := hk_inj (by omega) (by omega) e
  refine Prod.ext ?_ ?_ <;> omega
theorem dict_copy (w : World) (l : AL) (n : Int) (hn : n ≤ 8) (h : Vd n l) : dictA w [dicE l] = some (.fresh (dicE l)) := by
  unfold dictA dicE
  exact if_pos (hash_ok w l n hn h)
end MB

set_option Elab.async false
set_option linter.all false
set_option maxRecDepth 100000
set_option maxHeartbeats 4000000
namespace K56
open PySem PySem.Spec PyProof.Rows L2 DL
def topS (i : Nat) : Stmt := PySem.Challenge.pw_pointsfix_k56_whole_conditions_on_lines.main.body.getD i (.Pass ⟨0, 0, 0, 0⟩)
theorem u65 {k : Nat} {A : Around} (r : Room k A) : A.units + 65 < cLine := by have := r.un; omega
structure Txt (K : PySem.W.Frag) (mg : Str → Option Value) (fa : Nat → Addr) (fd : Nat → FuncData) (C : Addr × Addr) : Prop where
  F_d0_is_integer : Fun K "is_integer" "is_integer" (topS 4) (fa 0) (fd 0)
  g_d0_is_integer : mg "is_integer" = some (.ref (fa 0))
  F_d1_is_space : Fun K "is_space" "is_space" (topS 9) (fa 1) (fd 1)
  g_d1_is_space : mg "is_space" = some (.ref (fa 1))
  F_d2_is_condition : Fun K "is_condition" "is_condition" (topS 10) (fa 2) (fd 2)
  g_d2_is_condition : mg "is_condition" = some (.ref (fa 2))
  F_d3_is_condition_sum : Fun K "is_condition_sum" "is_condition_sum" (topS 11) (fa 3) (fd 3)
  g_d3_is_condition_sum : mg "is_condition_sum" = some (.ref (fa 3))
  F_d4_check_sums : Fun K "check_sums" "check_sums" (topS 12) (fa 4) (fd 4)
  g_d4_check_sums : mg "check_sums" = some (.ref (fa 4))
  F_d5_shown : Fun K "shown" "shown" (topS 13) (fa 5) (fd 5)
  g_d5_shown : mg "shown" = some (.ref (fa 5))
  F_d6_put : Fun K "put" "put" (topS 14) (fa 6) (fd 6)
  g_d6_put : mg "put" = some (.ref (fa 6))
  F_d7_grown : Fun K "grown" "grown" (topS 15) (fa 7) (fd 7)
  g_d7_grown : mg "grown" = some (.ref (fa 7))
  F_d8_raised : Fun K "raised" "raised" (topS 16) (fa 8) (fd 8)
  g_d8_raised : mg "raised" = some (.ref (fa 8))
  F_d9_times_condition : Fun K "times_condition" "times_condition" (topS 17) (fa 9) (fd 9)
  g_d9_times_condition : mg "times_condition" = some (.ref (fa 9))
  F_d10_product_of : Fun K "product_of" "product_of" (topS 18) (fa 10) (fd 10)
  g_d10_product_of : mg "product_of" = some (.ref (fa 10))
  F_d11_condition_product : Fun K "condition_product" "condition_product" (topS 19) (fa 11) (fd 11)
  g_d11_condition_product : mg "condition_product" = some (.ref (fa 11))
  F_d12_condition_number : Fun K "condition_number" "condition_number" (topS 20) (fa 12) (fd 12)
  g_d12_condition_number : mg "condition_number" = some (.ref (fa 12))
  F_d13_lines_fulfilling : Fun K "lines_fulfilling" "lines_fulfilling" (topS 21) (fa 13) (fd 13)
  g_d13_lines_fulfilling : mg "lines_fulfilling" = some (.ref (fa 13))
  F_d14_law_state : Fun K "_law_state" "_law_state" (topS 23) (fa 14) (fd 14)
  g_d14_law_state : mg "_law_state" = some (.ref (fa 14))
  F_d15_law_take : Fun K "_law_take" "_law_take" (topS 24) (fa 15) (fd 15)
  g_d15_law_take : mg "_law_take" = some (.ref (fa 15))
  F_d16_law_odd : Fun K "_law_odd" "_law_odd" (topS 25) (fa 16) (fd 16)
  g_d16_law_odd : mg "_law_odd" = some (.ref (fa 16))
  F_d17_law_honest : Fun K "_law_honest" "_law_honest" (topS 26) (fa 17) (fd 17)
  g_d17_law_honest : mg "_law_honest" = some (.ref (fa 17))
  F_d18_law_says : Fun K "_law_says" "_law_says" (topS 27) (fa 18) (fd 18)
  g_d18_law_says : mg "_law_says" = some (.ref (fa 18))
  F_d19_law_is_whole : Fun K "_law_is_whole" "_law_is_whole" (topS 28) (fa 19) (fd 19)
  g_d19_law_is_whole : mg "_law_is_whole" = some (.ref (fa 19))
  F_d20_law_same : Fun K "_law_same" "_law_same" (topS 29) (fa 20) (fd 20)
  g_d20_law_same : mg "_law_same" = some (.ref (fa 20))
  F_d21_law_is_condition : Fun K "_law_is_condition" "_law_is_condition" (topS 30) (fa 21) (fd 21)
  g_d21_law_is_condition : mg "_law_is_condition" = some (.ref (fa 21))
  F_d22_law_is_sum : Fun K "_law_is_sum" "_law_is_sum" (topS 31) (fa 22) (fd 22)
  g_d22_law_is_sum : mg "_law_is_sum" = some (.ref (fa 22))
  F_d23_law_joined : Fun K "_law_joined" "_law_joined" (topS 32) (fa 23) (fd 23)
  g_d23_law_joined : mg "_law_joined" = some (.ref (fa 23))
  F_d24_law_shown : Fun K "_law_shown" "_law_shown" (topS 33) (fa 24) (fd 24)
  g_d24_law_shown : mg "_law_shown" = some (.ref (fa 24))
  F_d25_law_dict : Fun K "_law_dict" "_law_dict" (topS 34) (fa 25) (fd 25)
  g_d25_law_dict : mg "_law_dict" = some (.ref (fa 25))
  F_d26_law_drawn_sum : Fun K "_law_drawn_sum" "_law_drawn_sum" (topS 35) (fa 26) (fd 26)
  g_d26_law_drawn_sum : mg "_law_drawn_sum" = some (.ref (fa 26))
  F_d27_law_told : Fun K "_law_told" "_law_told" (topS 36) (fa 27) (fd 27)
  g_d27_law_told : mg "_law_told" = some (.ref (fa 27))
  F_d28_law_factorial : Fun K "_law_factorial" "_law_factorial" (topS 37) (fa 28) (fd 28)
  g_d28_law_factorial : mg "_law_factorial" = some (.ref (fa 28))
  F_d29_law : Fun K "law" "law" (topS 38) (fa 29) (fd 29)
  g_d29_law : mg "law" = some (.ref (fa 29))
  n_abs : mg "abs" = none
  n_all : mg "all" = none
  n_bool : mg "bool" = none
  n_dict : mg "dict" = none
  n_int : mg "int" = none
  n_isinstance : mg "isinstance" = none
  n_len : mg "len" = none
  n_list : mg "list" = none
  n_min : mg "min" = none
  n_range : mg "range" = none
  n_sorted : mg "sorted" = none
  n_str : mg "str" = none
  n_tuple : mg "tuple" = none
  n_zip : mg "zip" = none
  c_LEAST_SPACE : ∃ t, mg "LEAST_SPACE" = some (.int 2 t)
  c_MOST_SPACE : ∃ t, mg "MOST_SPACE" = some (.int 8 t)
  c_MOST_LISTED : ∃ t, mg "MOST_LISTED" = some (.int 20 t)
  gM : mg "Malformed" = some (.ref C.1)
  xM : PySem.W.excIn K C.1 [.type "ValueError", .type "Exception", .type "BaseException", .type "object"] "ValueError.__new__" = true
  kM : PySem.W.keepIn K (.ref C.1) = true
  bM : PySem.W.subIn K (.ref C.1) (.type "BaseException") = some true
  tM : PySem.W.typeIn K (.ref C.1) = some (.type "type")
  eM : PySem.W.exmOne K (.ref C.1) (.ref C.1) = some true
/-! is_integer -/
noncomputable def m_d0_is_integer (w : World) : FS :=
  (gRet (fAndV (fUn (isiD "int") (fVar 0)) (fNotV (fUn (isiD "bool") (fVar 0)))))
noncomputable def F_d0_is_integer (w : World) : FD := runF [false] 1 (m_d0_is_integer w)
theorem sc_d0_is_integer : FnScope ["value"] ["value"] (defScope (topS 4)) := ⟨rfl, rfl, rfl, by decide +kernel, rfl, by decide +kernel, by decide +kernel⟩
theorem bd_d0_is_integer {K : PySem.W.Frag} {mg : Str → Option Value} {fa : Nat → Addr} {fd : Nat → FuncData} {C : Addr × Addr} (T : Txt K mg fa fd C) : Binds K (fd 0) ["value"] [] := T.F_d0_is_integer.binds fun _ _ _ _ _ _ us hl => match us, hl with | [_], _ => rfl
theorem ok_d0_is_integer {P : Program} {w : World} {K : PySem.W.Frag} {mg : Str → Option Value} {base : Heap} {fa : Nat → Addr} {fd : Nat → FuncData} {C : Addr × Addr} (T : Txt K mg fa fd C) : FnOk P w K mg base CX0 1 (fa 0) (fd 0) ["value"] (sp0 K w [false] (F_d0_is_integer w)) := by
    exact fn_ok T.F_d0_is_integer sc_d0_is_integer rfl (fun cdv A outer s H E hr =>
    (dss_one (ds_ret (de_and (de_isi (T := "int") T.n_isinstance T.n_int (dv 0)) (de_one (de_not (de_isi (T := "bool") T.n_isinstance T.n_bool (dv 0))))))))
/-! shown -/
noncomputable def m_d5_shown (w : World) : FS :=
  (gRet (fCall tupleD (fCons (fLc (fItA (fFrz (fCall sortedA (fCons (fVar 0) fNil)))) (.nm 1) (fB (fOp (cmpB neD) (fOp ixA (fVar 0) (fVar 1)) (fC (.int 0)))) (fTup (fCons (fVar 1) (fCons (fOp ixA (fVar 0) (fVar 1)) fNil))) [1]) fNil)))
noncomputable def F_d5_shown (w : World) : FD := runF [false] 2 (m_d5_shown w)
theorem sc_d5_shown : FnScope ["items", "own"] ["items"] (defScope (topS 13)) := ⟨rfl, rfl, rfl, by decide +kernel, rfl, by decide +kernel, by decide +kernel⟩
theorem bd_d5_shown {K : PySem.W.Frag} {mg : Str → Option Value} {fa : Nat → Addr} {fd : Nat → FuncData} {C : Addr × Addr} (T : Txt K mg fa fd C) : Binds K (fd 5) ["items"] [] := T.F_d5_shown.binds fun _ _ _ _ _ _ us hl => match us, hl with | [_], _ => rfl
theorem ok_d5_shown {P : Program} {w : World} {K : PySem.W.Frag} {mg : Str → Option Value} {base : Heap} {fa : Nat → Addr} {fd : Nat → FuncData} {C : Addr × Addr} (T : Txt K mg fa fd C) : FnOk P w K mg base CX0 1 (fa 5) (fd 5) ["items"] (sp0 K w [false] (F_d5_shown w)) := by
    exact fn_ok T.F_d5_shown sc_d5_shown rfl (fun cdv A outer s H E hr =>
    (dss_one (ds_ret (de_ct cr_tupleD rfl T.n_tuple (by decide +kernel) (da_cons (de_lc (own := [("own", 1)]) rfl sc_d5_shown.nd (di_seq (dfr (de_cb (cr_sortedA hr.units rfl) rfl T.n_sorted (by decide +kernel) (da_cons (dv 0) da_nil)))) (blkOk_by (N := ["items", "own"]) (sc := (defScope (topS 13))) (by decide +kernel)) (fun _ _ _ _ _ => (dg_name (i := 1) sc_d5_shown.nd rfl (by first | exact Or.inl rfl | exact Or.inr rfl))) (fun _ _ _ _ _ => (dts_one (dt_cmp (op_neDD hr.units) (de_ixA hr.units (dv 0) (dv 1) (by intro _ _; rfl)) de_int (nomark _)))) (fun _ _ _ _ _ => (de_tup (da_cons (dv 1) (da_cons (de_ixA hr.units (dv 0) (dv 1) (by intro _ _; rfl)) da_nil))))) da_nil)))))
/-! put -/
noncomputable def m_d6_put (w : World) : FS :=
  (gStore 0 (fVar 1) (fOp addD (fMeth "dict" dgetM (fVar 0) (fCons (fVar 1) (fCons (fC (.int 0)) fNil))) (fVar 2)))
noncomputable def F_d6_put (w : World) : FD := runF [true, false, false] 3 (m_d6_put w)
theorem sc_d6_put : FnScope ["items", "own", "c"] ["items", "own", "c"] (defScope (topS 14)) := ⟨rfl, rfl, rfl, by decide +kernel, rfl, by decide +kernel, by decide +kernel⟩
theorem bd_d6_put {K : PySem.W.Frag} {mg : Str → Option Value} {fa : Nat → Addr} {fd : Nat → FuncData} {C : Addr × Addr} (T : Txt K mg fa fd C) : Binds K (fd 6) ["items", "own", "c"] [] := T.F_d6_put.binds fun _ _ _ _ _ _ us hl => match us, hl with | [_, _, _], _ => rfl
theorem ok_d6_put {P : Program} {w : World} {K : PySem.W.Frag} {mg : Str → Option Value} {base : Heap} {fa : Nat → Addr} {fd : Nat → FuncData} {C : Addr × Addr} (T : Txt K mg fa fd C) : FnOk P w K mg base CX0 1 (fa 6) (fd 6) ["items", "own", "c"] (sp0 K w [true, false, false] (F_d6_put w)) := by
    exact fn_ok T.F_d6_put sc_d6_put rfl (fun cdv A outer s H E hr =>
    (dss_one (ds_store hr.units (dv 0) (dv 1) (de_op op_addD (de_meth PySem.F.plainAttrs_dict PySem.F.slot_dict_get PySem.F.type_dict_get (mt_get hr.units) (dv 0) (da_cons (dv 1) (da_cons de_int da_nil))) (dv 2)))))
/-! raised -/
noncomputable def m_d8_raised (w : World) : FS :=
  (gRet (fFrz (fDc (fItA (fVar 1)) (.tp [(.nm 2), (.nm 3)]) (fB (fOp (cmpB leD) (fOp addD (fVar 2) (fC (.int 1))) (fOp subD (fVar 0) (fC (.int 1))))) (fTup (fCons (fOp addD (fVar 2) (fC (.int 1))) (fCons (fOp addD (fVar 3) (fC (.int 1))) fNil))) (fOp ixA (fVar 1) (fTup (fCons (fVar 2) (fCons (fVar 3) fNil)))) [2, 3])))
noncomputable def F_d8_raised (w : World) : FD := runF [false, false] 4 (m_d8_raised w)
theorem sc_d8_raised : FnScope ["n", "items", "a", "b"] ["n", "items"] (defScope (topS 16)) := ⟨rfl, rfl, rfl, by decide +kernel, rfl, by decide +kernel, by decide +kernel⟩
theorem bd_d8_raised {K : PySem.W.Frag} {mg : Str → Option Value} {fa : Nat → Addr} {fd : Nat → FuncData} {C : Addr × Addr} (T : Txt K mg fa fd C) : Binds K (fd 8) ["n", "items"] [] := T.F_d8_raised.binds fun _ _ _ _ _ _ us hl => match us, hl with | [_, _], _ => rfl
theorem ok_d8_raised {P : Program} {w : World} {K : PySem.W.Frag} {mg : Str → Option Value} {base : Heap} {fa : Nat → Addr} {fd : Nat → FuncData} {C : Addr × Addr} (T : Txt K mg fa fd C) : FnOk P w K mg base CX0 1 (fa 8) (fd 8) ["n", "items"] (sp0 K w [false, false] (F_d8_raised w)) := by
    exact fn_ok T.F_d8_raised sc_d8_raised rfl (fun cdv A outer s H E hr =>
    (dss_one (ds_ret (dfr (de_dcT (own := [("a", 2), ("b", 3)]) hr.units rfl sc_d8_raised.nd (di_seq (dv 1)) (blkOk_by (N := ["n", "items", "a", "b"]) (sc := (defScope (topS 16))) (by decide +kernel)) (fun _ _ _ _ _ => (dg_tup rfl (dgs_cons (dg_name (i := 2) sc_d8_raised.nd rfl (by first | exact Or.inl rfl | exact Or.inr rfl)) (dgs_cons (dg_name (i := 3) sc_d8_raised.nd rfl (by first | exact Or.inl rfl | exact Or.inr rfl)) dgs_nil)))) (fun _ _ _ _ _ => (dts_one (dt_cmp op_leDD (de_op op_addD (dv 2) de_int) (de_op op_subD (dv 0) de_int) (nomark _)))) (fun _ _ _ _ _ => (de_tup (da_cons (de_op op_addD (dv 2) de_int) (da_cons (de_op op_addD (dv 3) de_int) da_nil)))) (fun _ _ _ _ _ => (de_ixA hr.units (dv 1) (de_tup (da_cons (dv 2) (da_cons (dv 3) da_nil))) (by intro _ _; rfl))))))))
/-! _law_state -/
noncomputable def m_d14_law_state (w : World) : FS :=
  (gSeq (gSet 1 (fC (.int 0)))
  (gSeq (gSet 2 (fC (.int 1)))
  (gSeq (gFor (fItA (fFrz (fSlice (fVar 0) fNoPart (fPart (fC (.int 63)))))) (.nm 3) (gSeq (gSet 1 (fOp addD (fOp mulD (fVar 1) (fC (.int 1000003))) (fCall absD (fCons (fVar 3) fNil))))
  (gSet 2 (fOp modD (fCall intD (fCons (fOp addD (fOp mulD (fVar 2) (fC (.int 48271))) (fVar 3)) fNil)) (fC (.int 2147483647))))))
  (gRet (fLst (fCons (fVar 1) (fCons (fVar 2) fNil)))))))
noncomputable def F_d14_law_state (w : World) : FD := runF [false] 4 (m_d14_law_state w)
theorem sc_d14_law_state : FnScope ["script", "seed", "total", "cell"] ["script"] (defScope (topS 23)) := ⟨rfl, rfl, rfl, by decide +kernel, rfl, by decide +kernel, by decide +kernel⟩
theorem bd_d14_law_state {K : PySem.W.Frag} {mg : Str → Option Value} {fa : Nat → Addr} {fd : Nat → FuncData} {C : Addr × Addr} (T : Txt K mg fa fd C) : Binds K (fd 14) ["script"] [] := T.F_d14_law_state.binds fun _ _ _ _ _ _ us hl => match us, hl with | [_], _ => rfl
theorem ok_d14_law_state {P : Program} {w : World} {K : PySem.W.Frag} {mg : Str → Option Value} {base : Heap} {fa : Nat → Addr} {fd : Nat → FuncData} {C : Addr × Addr} (T : Txt K mg fa fd C) : FnOk P w K mg base CX0 1 (fa 14) (fd 14) ["script"] (sp0 K w [false] (F_d14_law_state w)) := by
    exact fn_ok T.F_d14_law_state sc_d14_law_state rfl (fun cdv A outer s H E hr =>
    (dss_cons (ds_set (i := 1) sc_d14_law_state.nd rfl (by first | exact Or.inl rfl | exact Or.inr rfl) de_int)
    (dss_cons (ds_set (i := 2) sc_d14_law_state.nd rfl (by first | exact Or.inl rfl | exact Or.inr rfl) de_int)
    (dss_cons (ds_for PassesOwn.never rfl (di_seq (dfr (de_slice (dv 0) do_none (do_some de_int)))) (dg_name (i := 3) sc_d14_law_state.nd rfl (by first | exact Or.inl rfl | exact Or.inr rfl)) (dss_cons (ds_set (i := 1) sc_d14_law_state.nd rfl (by first | exact Or.inl rfl | exact Or.inr rfl) (de_op op_addD (de_op op_mulD (dv 1) de_int) (de_cb cr_absD rfl T.n_abs (by decide +kernel) (da_cons (dv 3) da_nil))))
    (dss_one (ds_set (i := 2) sc_d14_law_state.nd rfl (by first | exact Or.inl rfl | exact Or.inr rfl) (de_op op_modD (de_ct cr_intD rfl T.n_int (by decide +kernel) (da_cons (de_op op_addD (de_op op_mulD (dv 2) de_int) (dv 3)) da_nil)) de_int)))))
    (dss_one (ds_ret (de_lst (da_cons (dv 1) (da_cons (dv 2) da_nil)))))))))
/-! _law_take -/
noncomputable def m_d15_law_take (w : World) : FS :=
  (gSeq (gIf (fB (fOp (cmpB gtD) (fOp ixA (fVar 0) (fC (.int 0))) (fC (.int 0)))) (gSeq (gSet 2 (fOp modD (fCall intD (fCons (fOp ixA (fVar 0) (fC (.int 0))) fNil)) (fVar 1)))
  (gSeq (gStore 0 (fC (.int 0)) (fOp divD (fOp ixA (fVar 0) (fC (.int 0))) (fVar 1)))
  (gRet (fVar 2)))) gNext)
  (gSeq (gStore 0 (fC (.int 1)) (fOp modD (fCall intD (fCons (fOp addD (fOp mulD (fOp ixA (fVar 0) (fC (.int 1))) (fC (.int 48271))) (fC (.int 11))) fNil)) (fC (.int 2147483647))))
  (gRet (fOp modD (fCall intD (fCons (fOp divD (fOp ixA (fVar 0) (fC (.int 1))) (fC (.int 7))) fNil)) (fVar 1)))))
noncomputable def F_d15_law_take (w : World) : FD := runF [true, false] 3 (m_d15_law_take w)
theorem sc_d15_law_take : FnScope ["state", "m", "value"] ["state", "m"] (defScope (topS 24)) := ⟨rfl, rfl, rfl, by decide +kernel, rfl, by decide +kernel, by decide +kernel⟩
theorem bd_d15_law_take {K : PySem.W.Frag} {mg : Str → Option Value} {fa : Nat → Addr} {fd : Nat → FuncData} {C : Addr × Addr} (T : Txt K mg fa fd C) : Binds K (fd 15) ["state", "m"] [] := T.F_d15_law_take.binds fun _ _ _ _ _ _ us hl => match us, hl with | [_, _], _ => rfl
theorem ok_d15_law_take {P : Program} {w : World} {K : PySem.W.Frag} {mg : Str → Option Value} {base : Heap} {fa : Nat → Addr} {fd : Nat → FuncData} {C : Addr × Addr} (T : Txt K mg fa fd C) : FnOk P w K mg base CX0 1 (fa 15) (fd 15) ["state", "m"] (sp0 K w [true, false] (F_d15_law_take w)) := by
    exact fn_ok T.F_d15_law_take sc_d15_law_take rfl (fun cdv A outer s H E hr =>
    (dss_cons (ds_if (dt_cmp op_gtDD (de_ixA hr.units (dv 0) de_int (by intro _ _; rfl)) de_int (nomark _)) (dss_cons (ds_set (i := 2) sc_d15_law_take.nd rfl (by first | exact Or.inl rfl | exact Or.inr rfl) (de_op op_modD (de_ct cr_intD rfl T.n_int (by decide +kernel) (da_cons (de_ixA hr.units (dv 0) de_int (by intro _ _; rfl)) da_nil)) (dv 1)))
    (dss_cons (ds_store hr.units (dv 0) de_int (de_op op_divD (de_ixA hr.units (dv 0) de_int (by intro _ _; rfl)) (dv 1)))
    (dss_one (ds_ret (dv 2))))) dss_nil)
    (dss_cons (ds_store hr.units (dv 0) de_int (de_op op_modD (de_ct cr_intD rfl T.n_int (by decide +kernel) (da_cons (de_op op_addD (de_op op_mulD (de_ixA hr.units (dv 0) de_int (by intro _ _; rfl)) de_int) de_int) da_nil)) de_int))
    (dss_one (ds_ret (de_op op_modD (de_ct cr_intD rfl T.n_int (by decide +kernel) (da_cons (de_op op_divD (de_ixA hr.units (dv 0) de_int (by intro _ _; rfl)) de_int) da_nil)) (dv 1)))))))
/-! _law_says -/
noncomputable def m_d18_law_says (w : World) : FS :=
  (gRet (fAndV (fUn (isiD "bool") (fVar 0)) (fOp (cmpB eqD) (fVar 0) (fVar 1))))
noncomputable def F_d18_law_says (w : World) : FD := runF [false, false] 2 (m_d18_law_says w)
theorem sc_d18_law_says : FnScope ["value", "due"] ["value", "due"] (defScope (topS 27)) := ⟨rfl, rfl, rfl, by decide +kernel, rfl, by decide +kernel, by decide +kernel⟩
theorem bd_d18_law_says {K : PySem.W.Frag} {mg : Str → Option Value} {fa : Nat → Addr} {fd : Nat → FuncData} {C : Addr × Addr} (T : Txt K mg fa fd C) : Binds K (fd 18) ["value", "due"] [] := T.F_d18_law_says.binds fun _ _ _ _ _ _ us hl => match us, hl with | [_, _], _ => rfl
theorem ok_d18_law_says {P : Program} {w : World} {K : PySem.W.Frag} {mg : Str → Option Value} {base : Heap} {fa : Nat → Addr} {fd : Nat → FuncData} {C : Addr × Addr} (T : Txt K mg fa fd C) : FnOk P w K mg base CX0 1 (fa 18) (fd 18) ["value", "due"] (sp0 K w [false, false] (F_d18_law_says w)) := by
    exact fn_ok T.F_d18_law_says sc_d18_law_says rfl (fun cdv A outer s H E hr =>
    (dss_one (ds_ret (de_and (de_isi (T := "bool") T.n_isinstance T.n_bool (dv 0)) (de_one (de_cmp (op_eqDD hr.units) (dv 0) (dv 1) (nomark _)))))))
/-! _law_is_whole -/
noncomputable def m_d19_law_is_whole (w : World) : FS :=
  (gRet (fAndV (fUn (isiD "int") (fVar 0)) (fNotV (fUn (isiD "bool") (fVar 0)))))
noncomputable def F_d19_law_is_whole (w : World) : FD := runF [false] 1 (m_d19_law_is_whole w)
theorem sc_d19_law_is_whole : FnScope ["value"] ["value"] (defScope (topS 28)) := ⟨rfl, rfl, rfl, by decide +kernel, rfl, by decide +kernel, by decide +kernel⟩
theorem bd_d19_law_is_whole {K : PySem.W.Frag} {mg : Str → Option Value} {fa : Nat → Addr} {fd : Nat → FuncData} {C : Addr × Addr} (T : Txt K mg fa fd C) : Binds K (fd 19) ["value"] [] := T.F_d19_law_is_whole.binds fun _ _ _ _ _ _ us hl => match us, hl with | [_], _ => rfl
theorem ok_d19_law_is_whole {P : Program} {w : World} {K : PySem.W.Frag} {mg : Str → Option Value} {base : Heap} {fa : Nat → Addr} {fd : Nat → FuncData} {C : Addr × Addr} (T : Txt K mg fa fd C) : FnOk P w K mg base CX0 1 (fa 19) (fd 19) ["value"] (sp0 K w [false] (F_d19_law_is_whole w)) := by
    exact fn_ok T.F_d19_law_is_whole sc_d19_law_is_whole rfl (fun cdv A outer s H E hr =>
    (dss_one (ds_ret (de_and (de_isi (T := "int") T.n_isinstance T.n_int (dv 0)) (de_one (de_not (de_isi (T := "bool") T.n_isinstance T.n_bool (dv 0))))))))
/-! _law_joined -/
noncomputable def m_d23_law_joined (w : World) : FS :=
  (gSeq (gSet 3 fNewT)
  (gSeq (gFor (fItA (fVar 1)) (.nm 4) (gSeq (gAsgP (.tp [(.nm 5), (.nm 6)]) (fVar 4))
  (gFor (fItA (fVar 2)) (.nm 7) (gSeq (gAsgP (.tp [(.nm 8), (.nm 9)]) (fVar 7))
  (gFor (fRng1 (fCons (fOp addD (fOp subD (fVar 5) (fVar 6)) (fC (.int 1))) fNil)) (.nm 10) (gSeq (gPar2 11 12 (fCons (fOp subD (fOp addD (fOp addD (fVar 8) (fC (.int 1))) (fVar 5)) (fVar 10)) (fCons (fOp addD (fOp addD (fVar 9) (fVar 6)) (fVar 10)) fNil)))
  (gSeq (gSet 13 (fC (.int 1)))
  (gSeq (gIf (fB (fOp (cmpB ltD) (fVar 11) (fVar 12))) (gPar3 11 12 13 (fCons (fVar 12) (fCons (fVar 11) (fCons (fUn negD (fC (.int 1))) fNil)))) gNext)
  (gIf (fAnd (fB (fOp (cmpB gtD) (fVar 11) (fVar 12))) (fB (fOp (cmpB leD) (fOp subD (fVar 11) (fC (.int 1))) (fOp subD (fVar 0) (fC (.int 1)))))) (gStore 3 (fTup (fCons (fOp subD (fVar 11) (fC (.int 1))) (fCons (fVar 12) fNil))) (fOp addD (fMeth "dict" dgetM (fVar 3) (fCons (fTup (fCons (fOp subD (fVar 11) (fC (.int 1))) (fCons (fVar 12) fNil))) (fCons (fC (.int 0)) fNil))) (fOp mulD (fOp mulD (fVar 13) (fOp ixA (fVar 1) (fVar 4))) (fOp ixA (fVar 2) (fVar 7))))) gNext)))))))))
  (gRet (fFrz (fVar 3)))))
noncomputable def F_d23_law_joined (w : World) : FD := runF [false, false, false] 14 (m_d23_law_joined w)
theorem sc_d23_law_joined : FnScope ["n", "f", "g", "found", "key", "c", "d", "own", "a", "b", "i", "x", "y", "sign"] ["n", "f", "g"] (defScope (topS 32)) := ⟨rfl, rfl, rfl, by decide +kernel, rfl, by decide +kernel, by decide +kernel⟩
theorem bd_d23_law_joined {K : PySem.W.Frag} {mg : Str → Option Value} {fa : Nat → Addr} {fd : Nat → FuncData} {C : Addr × Addr} (T : Txt K mg fa fd C) : Binds K (fd 23) ["n", "f", "g"] [] := T.F_d23_law_joined.binds fun _ _ _ _ _ _ us hl => match us, hl with | [_, _, _], _ => rfl
theorem ok_d23_law_joined {P : Program} {w : World} {K : PySem.W.Frag} {mg : Str → Option Value} {base : Heap} {fa : Nat → Addr} {fd : Nat → FuncData} {C : Addr × Addr} (T : Txt K mg fa fd C) : FnOk P w K mg base CX0 1 (fa 23) (fd 23) ["n", "f", "g"] (sp0 K w [false, false, false] (F_d23_law_joined w)) := by
    exact fn_ok T.F_d23_law_joined sc_d23_law_joined rfl (fun cdv A outer s H E hr =>
    (dss_cons (ds_set (i := 3) sc_d23_law_joined.nd rfl (by first | exact Or.inl rfl | exact Or.inr rfl) de_newT)
    (dss_cons (ds_for PassesOwn.never rfl (di_seq (dv 1)) (dg_name (i := 4) sc_d23_law_joined.nd rfl (by first | exact Or.inl rfl | exact Or.inr rfl)) (dss_cons (ds_asgP (dv 4) (dg_tup rfl (dgs_cons (dg_name (i := 5) sc_d23_law_joined.nd rfl (by first | exact Or.inl rfl | exact Or.inr rfl)) (dgs_cons (dg_name (i := 6) sc_d23_law_joined.nd rfl (by first | exact Or.inl rfl | exact Or.inr rfl)) dgs_nil))))
    (dss_one (ds_for PassesOwn.never rfl (di_seq (dv 2)) (dg_name (i := 7) sc_d23_law_joined.nd rfl (by first | exact Or.inl rfl | exact Or.inr rfl)) (dss_cons (ds_asgP (dv 7) (dg_tup rfl (dgs_cons (dg_name (i := 8) sc_d23_law_joined.nd rfl (by first | exact Or.inl rfl | exact Or.inr rfl)) (dgs_cons (dg_name (i := 9) sc_d23_law_joined.nd rfl (by first | exact Or.inl rfl | exact Or.inr rfl)) dgs_nil))))
    (dss_one (ds_for PassesOwn.never rfl (di_rng1 T.n_range (da_cons (de_op op_addD (de_op op_subD (dv 5) (dv 6)) de_int) da_nil)) (dg_name (i := 10) sc_d23_law_joined.nd rfl (by first | exact Or.inl rfl | exact Or.inr rfl)) (dss_cons (ds_par2 (i := 11) (j := 12) rfl sc_d23_law_joined.nd rfl rfl (by decide) rfl rfl (da_cons (de_op op_subD (de_op op_addD (de_op op_addD (dv 8) de_int) (dv 5)) (dv 10)) (da_cons (de_op op_addD (de_op op_addD (dv 9) (dv 6)) (dv 10)) da_nil)) rfl)
    (dss_cons (ds_set (i := 13) sc_d23_law_joined.nd rfl (by first | exact Or.inl rfl | exact Or.inr rfl) de_int)
    (dss_cons (ds_if (dt_cmp (op_ltDD hr.units0) (dv 11) (dv 12) (nomark _)) (dss_one (ds_par3 (i := 11) (j := 12) (l := 13) rfl sc_d23_law_joined.nd rfl rfl rfl (by decide) (by decide) (by decide) rfl rfl rfl (da_cons (dv 12) (da_cons (dv 11) (da_cons (de_un un_negD de_int) da_nil))) rfl)) dss_nil)
    (dss_one (ds_if (dt_bool (dw_and (dt_cmp op_gtDD (dv 11) (dv 12) (nomark _)) (dw_and1 (dt_cmp op_leDD (de_op op_subD (dv 11) de_int) (de_op op_subD (dv 0) de_int) (nomark _))))) (dss_one (ds_store hr.units (dv 3) (de_tup (da_cons (de_op op_subD (dv 11) de_int) (da_cons (dv 12) da_nil))) (de_op op_addD (de_meth PySem.F.plainAttrs_dict PySem.F.slot_dict_get PySem.F.type_dict_get (mt_get hr.units) (dv 3) (da_cons (de_tup (da_cons (de_op op_subD (dv 11) de_int) (da_cons (dv 12) da_nil))) (da_cons de_int da_nil))) (de_op op_mulD (de_op op_mulD (dv 13) (de_ixA hr.units (dv 1) (dv 4) (by intro _ _; rfl))) (de_ixA hr.units (dv 2) (dv 7) (by intro _ _; rfl)))))) dss_nil))))))))))))
    (dss_one (ds_ret (dfr (dv 3)))))))
/-! _law_shown -/
noncomputable def m_d24_law_shown (w : World) : FS :=
  (gRet (fCall tupleD (fCons (fLc (fItA (fFrz (fCall sortedA (fCons (fVar 0) fNil)))) (.nm 1) (fB (fOp (cmpB neD) (fOp ixA (fVar 0) (fVar 1)) (fC (.int 0)))) (fTup (fCons (fVar 1) (fCons (fOp ixA (fVar 0) (fVar 1)) fNil))) [1]) fNil)))
noncomputable def F_d24_law_shown (w : World) : FD := runF [false] 2 (m_d24_law_shown w)
theorem sc_d24_law_shown : FnScope ["f", "key"] ["f"] (defScope (topS 33)) := ⟨rfl, rfl, rfl, by decide +kernel, rfl, by decide +kernel, by decide +kernel⟩
theorem bd_d24_law_shown {K : PySem.W.Frag} {mg : Str → Option Value} {fa : Nat → Addr} {fd : Nat → FuncData} {C : Addr × Addr} (T : Txt K mg fa fd C) : Binds K (fd 24) ["f"] [] := T.F_d24_law_shown.binds fun _ _ _ _ _ _ us hl => match us, hl with | [_], _ => rfl
theorem ok_d24_law_shown {P : Program} {w : World} {K : PySem.W.Frag} {mg : Str → Option Value} {base : Heap} {fa : Nat → Addr} {fd : Nat → FuncData} {C : Addr × Addr} (T : Txt K mg fa fd C) : FnOk P w K mg base CX0 1 (fa 24) (fd 24) ["f"] (sp0 K w [false] (F_d24_law_shown w)) := by
    exact fn_ok T.F_d24_law_shown sc_d24_law_shown rfl (fun cdv A outer s H E hr =>
    (dss_one (ds_ret (de_ct cr_tupleD rfl T.n_tuple (by decide +kernel) (da_cons (de_lc (own := [("key", 1)]) rfl sc_d24_law_shown.nd (di_seq (dfr (de_cb (cr_sortedA hr.units rfl) rfl T.n_sorted (by decide +kernel) (da_cons (dv 0) da_nil)))) (blkOk_by (N := ["f", "key"]) (sc := (defScope (topS 33))) (by decide +kernel)) (fun _ _ _ _ _ => (dg_name (i := 1) sc_d24_law_shown.nd rfl (by first | exact Or.inl rfl | exact Or.inr rfl))) (fun _ _ _ _ _ => (dts_one (dt_cmp (op_neDD hr.units) (de_ixA hr.units (dv 0) (dv 1) (by intro _ _; rfl)) de_int (nomark _)))) (fun _ _ _ _ _ => (de_tup (da_cons (dv 1) (da_cons (de_ixA hr.units (dv 0) (dv 1) (by intro _ _; rfl)) da_nil))))) da_nil)))))
/-! _law_dict -/
noncomputable def m_d25_law_dict (w : World) : FS :=
  (gSeq (gSet 1 fNewT)
  (gSeq (gFor (fItA (fVar 0)) (.tp [(.nm 2), (.nm 3)]) (gStore 1 (fVar 2) (fVar 3)))
  (gRet (fFrz (fVar 1)))))
noncomputable def F_d25_law_dict (w : World) : FD := runF [false] 4 (m_d25_law_dict w)
theorem sc_d25_law_dict : FnScope ["f", "found", "key", "c"] ["f"] (defScope (topS 34)) := ⟨rfl, rfl, rfl, by decide +kernel, rfl, by decide +kernel, by decide +kernel⟩
theorem bd_d25_law_dict {K : PySem.W.Frag} {mg : Str → Option Value} {fa : Nat → Addr} {fd : Nat → FuncData} {C : Addr × Addr} (T : Txt K mg fa fd C) : Binds K (fd 25) ["f"] [] := T.F_d25_law_dict.binds fun _ _ _ _ _ _ us hl => match us, hl with | [_], _ => rfl
theorem ok_d25_law_dict {P : Program} {w : World} {K : PySem.W.Frag} {mg : Str → Option Value} {base : Heap} {fa : Nat → Addr} {fd : Nat → FuncData} {C : Addr × Addr} (T : Txt K mg fa fd C) : FnOk P w K mg base CX0 1 (fa 25) (fd 25) ["f"] (sp0 K w [false] (F_d25_law_dict w)) := by
    exact fn_ok T.F_d25_law_dict sc_d25_law_dict rfl (fun cdv A outer s H E hr =>
    (dss_cons (ds_set (i := 1) sc_d25_law_dict.nd rfl (by first | exact Or.inl rfl | exact Or.inr rfl) de_newT)
    (dss_cons (ds_for PassesOwn.never rfl (di_seq (dv 0)) (dg_tup rfl (dgs_cons (dg_name (i := 2) sc_d25_law_dict.nd rfl (by first | exact Or.inl rfl | exact Or.inr rfl)) (dgs_cons (dg_name (i := 3) sc_d25_law_dict.nd rfl (by first | exact Or.inl rfl | exact Or.inr rfl)) dgs_nil))) (dss_one (ds_store hr.units (dv 1) (dv 2) (dv 3))))
    (dss_one (ds_ret (dfr (dv 1)))))))
/-! _law_factorial -/
noncomputable def m_d28_law_factorial (w : World) : FS :=
  (gSeq (gSet 1 (fC (.int 1)))
  (gSeq (gFor (fRng2 (fCons (fC (.int 2)) (fCons (fOp addD (fVar 0) (fC (.int 1))) fNil))) (.nm 2) (gSet 1 (fOp mulD (fVar 1) (fVar 2))))
  (gRet (fVar 1))))
noncomputable def F_d28_law_factorial (w : World) : FD := runF [false] 3 (m_d28_law_factorial w)
theorem sc_d28_law_factorial : FnScope ["n", "total", "k"] ["n"] (defScope (topS 37)) := ⟨rfl, rfl, rfl, by decide +kernel, rfl, by decide +kernel, by decide +kernel⟩
theorem bd_d28_law_factorial {K : PySem.W.Frag} {mg : Str → Option Value} {fa : Nat → Addr} {fd : Nat → FuncData} {C : Addr × Addr} (T : Txt K mg fa fd C) : Binds K (fd 28) ["n"] [] := T.F_d28_law_factorial.binds fun _ _ _ _ _ _ us hl => match us, hl with | [_], _ => rfl
theorem ok_d28_law_factorial {P : Program} {w : World} {K : PySem.W.Frag} {mg : Str → Option Value} {base : Heap} {fa : Nat → Addr} {fd : Nat → FuncData} {C : Addr × Addr} (T : Txt K mg fa fd C) : FnOk P w K mg base CX0 1 (fa 28) (fd 28) ["n"] (sp0 K w [false] (F_d28_law_factorial w)) := by
    exact fn_ok T.F_d28_law_factorial sc_d28_law_factorial rfl (fun cdv A outer s H E hr =>
    (dss_cons (ds_set (i := 1) sc_d28_law_factorial.nd rfl (by first | exact Or.inl rfl | exact Or.inr rfl) de_int)
    (dss_cons (ds_for PassesOwn.never rfl (di_rng2 T.n_range (da_cons de_int (da_cons (de_op op_addD (dv 0) de_int) da_nil))) (dg_name (i := 2) sc_d28_law_factorial.nd rfl (by first | exact Or.inl rfl | exact Or.inr rfl)) (dss_one (ds_set (i := 1) sc_d28_law_factorial.nd rfl (by first | exact Or.inl rfl | exact Or.inr rfl) (de_op op_mulD (dv 1) (dv 2)))))
    (dss_one (ds_ret (dv 1))))))
/-! is_space -/
noncomputable def m_d1_is_space (w : World) : FS :=
  (gRet (fAndV (fCallF [false] (F_d0_is_integer w) (fCons (fVar 0) fNil)) (fChain leD leD (fC (.int 2)) (fVar 0) (fC (.int 8)))))
noncomputable def F_d1_is_space (w : World) : FD := runF [false] 1 (m_d1_is_space w)
theorem sc_d1_is_space : FnScope ["n"] ["n"] (defScope (topS 9)) := ⟨rfl, rfl, rfl, by decide +kernel, rfl, by decide +kernel, by decide +kernel⟩
theorem bd_d1_is_space {K : PySem.W.Frag} {mg : Str → Option Value} {fa : Nat → Addr} {fd : Nat → FuncData} {C : Addr × Addr} (T : Txt K mg fa fd C) : Binds K (fd 1) ["n"] [] := T.F_d1_is_space.binds fun _ _ _ _ _ _ us hl => match us, hl with | [_], _ => rfl
theorem ok_d1_is_space {P : Program} {w : World} {K : PySem.W.Frag} {mg : Str → Option Value} {base : Heap} {fa : Nat → Addr} {fd : Nat → FuncData} {C : Addr × Addr} (T : Txt K mg fa fd C) : FnOk P w K mg base CX0 2 (fa 1) (fd 1) ["n"] (sp0 K w [false] (F_d1_is_space w)) := by
    obtain ⟨t_LEAST_SPACE, h_LEAST_SPACE⟩ := T.c_LEAST_SPACE
    obtain ⟨t_MOST_SPACE, h_MOST_SPACE⟩ := T.c_MOST_SPACE
    exact fn_ok T.F_d1_is_space sc_d1_is_space rfl (fun cdv A outer s H E hr =>
    (dss_one (ds_ret (de_and (de_call (ok_d0_is_integer T) (hr.mono (by decide)) T.g_d0_is_integer T.F_d0_is_integer.kp (bd_d0_is_integer T) (da_cons (dv 0) da_nil)) (de_one (de_chain op_leDD op_leDD (de_glob (d := .int 2) (v := .int 2) rfl h_LEAST_SPACE ⟨_, rfl⟩ (fun _ => rfl)) (dv 0) (de_glob (d := .int 8) (v := .int 8) rfl h_MOST_SPACE ⟨_, rfl⟩ (fun _ => rfl))))))))
/-! is_condition -/
noncomputable def m_d2_is_condition (w : World) : FS :=
  (gSeq (gIf (fOr (fNot (fB (fUn (isiD "tuple") (fVar 1)))) (fOr (fB (fOp (cmpB neD) (fCall lenD (fCons (fVar 1) fNil)) (fC (.int 2)))) (fNot (fB (fCall allD (fCons (fLc (fItA (fVar 1)) (.nm 2) fYes (fCallF [false] (F_d0_is_integer w) (fCons (fVar 2) fNil)) [2]) fNil)))))) (gRet (fC (.bl false))) gNext)
  (gRet (fChain3 geD geD geD (fOp subD (fVar 0) (fC (.int 1))) (fOp ixA (fVar 1) (fC (.int 0))) (fOp ixA (fVar 1) (fC (.int 1))) (fC (.int 0)))))
noncomputable def F_d2_is_condition (w : World) : FD := runF [false, false] 3 (m_d2_is_condition w)
theorem sc_d2_is_condition : FnScope ["n", "value", "x"] ["n", "value"] (defScope (topS 10)) := ⟨rfl, rfl, rfl, by decide +kernel, rfl, by decide +kernel, by decide +kernel⟩
theorem bd_d2_is_condition {K : PySem.W.Frag} {mg : Str → Option Value} {fa : Nat → Addr} {fd : Nat → FuncData} {C : Addr × Addr} (T : Txt K mg fa fd C) : Binds K (fd 2) ["n", "value"] [] := T.F_d2_is_condition.binds fun _ _ _ _ _ _ us hl => match us, hl with | [_, _], _ => rfl
theorem ok_d2_is_condition {P : Program} {w : World} {K : PySem.W.Frag} {mg : Str → Option Value} {base : Heap} {fa : Nat → Addr} {fd : Nat → FuncData} {C : Addr × Addr} (T : Txt K mg fa fd C) : FnOk P w K mg base CX0 2 (fa 2) (fd 2) ["n", "value"] (sp0 K w [false, false] (F_d2_is_condition w)) := by
    exact fn_ok T.F_d2_is_condition sc_d2_is_condition rfl (fun cdv A outer s H E hr =>
    (dss_cons (ds_if (dt_bool (dw_or (dt_not (dt_val (de_isi (T := "tuple") T.n_isinstance T.n_tuple (dv 1)))) (dw_or (dt_cmp (op_neDD hr.units) (de_cb cr_len rfl T.n_len (by decide +kernel) (da_cons (dv 1) da_nil)) de_int (nomark _)) (dw_or1 (dt_not (dt_val (de_cb (cr_allD rfl) rfl T.n_all (by decide +kernel) (da_cons (de_lc (own := [("x", 2)]) rfl sc_d2_is_condition.nd (di_seq (dv 1)) (blkOk_by (N := ["n", "value", "x"]) (sc := (defScope (topS 10))) (by decide +kernel)) (fun _ _ _ _ _ => (dg_name (i := 2) sc_d2_is_condition.nd rfl (by first | exact Or.inl rfl | exact Or.inr rfl))) (fun _ _ _ _ _ => dts_nil) (fun _ _ _ _ _ => (de_call (ok_d0_is_integer T) (hr.mono (by decide)) T.g_d0_is_integer T.F_d0_is_integer.kp (bd_d0_is_integer T) (da_cons (dv 2) da_nil)))) da_nil)))))))) (dss_one (ds_ret de_bl)) dss_nil)
    (dss_one (ds_ret (de_chain3 op_geDD op_geDD op_geDD (de_op op_subD (dv 0) de_int) (de_ixA hr.units (dv 1) de_int (by intro _ _; rfl)) (de_ixA hr.units (dv 1) de_int (by intro _ _; rfl)) de_int)))))
/-! grown -/
noncomputable def m_d7_grown (w : World) : FS :=
  (gSeq (gSet 3 fNewT)
  (gSeq (gFor (fItA (fVar 1)) (.tp [(.nm 4), (.nm 5)]) (gFor (fRng1 (fCons (fOp addD (fVar 2) (fC (.int 1))) fNil)) (.nm 6) (gIf (fAnd (fB (fOp (cmpB leD) (fOp addD (fVar 4) (fVar 6)) (fOp subD (fVar 0) (fC (.int 1))))) (fB (fOp (cmpB leD) (fOp subD (fOp addD (fVar 5) (fVar 2)) (fVar 6)) (fVar 4)))) (gDrop (fCallF [true, false, false] (F_d6_put w) (fCons (fVar 3) (fCons (fTup (fCons (fOp addD (fVar 4) (fVar 6)) (fCons (fOp subD (fOp addD (fVar 5) (fVar 2)) (fVar 6)) fNil))) (fCons (fOp ixA (fVar 1) (fTup (fCons (fVar 4) (fCons (fVar 5) fNil)))) fNil))))) gNext)))
  (gRet (fFrz (fVar 3)))))
noncomputable def F_d7_grown (w : World) : FD := runF [false, false, false] 7 (m_d7_grown w)
theorem sc_d7_grown : FnScope ["n", "items", "c", "found", "a", "b", "i"] ["n", "items", "c"] (defScope (topS 15)) := ⟨rfl, rfl, rfl, by decide +kernel, rfl, by decide +kernel, by decide +kernel⟩
theorem bd_d7_grown {K : PySem.W.Frag} {mg : Str → Option Value} {fa : Nat → Addr} {fd : Nat → FuncData} {C : Addr × Addr} (T : Txt K mg fa fd C) : Binds K (fd 7) ["n", "items", "c"] [] := T.F_d7_grown.binds fun _ _ _ _ _ _ us hl => match us, hl with | [_, _, _], _ => rfl
theorem ok_d7_grown {P : Program} {w : World} {K : PySem.W.Frag} {mg : Str → Option Value} {base : Heap} {fa : Nat → Addr} {fd : Nat → FuncData} {C : Addr × Addr} (T : Txt K mg fa fd C) : FnOk P w K mg base CX0 2 (fa 7) (fd 7) ["n", "items", "c"] (sp0 K w [false, false, false] (F_d7_grown w)) := by
    exact fn_ok T.F_d7_grown sc_d7_grown rfl (fun cdv A outer s H E hr =>
    (dss_cons (ds_set (i := 3) sc_d7_grown.nd rfl (by first | exact Or.inl rfl | exact Or.inr rfl) de_newT)
    (dss_cons (ds_for PassesOwn.never rfl (di_seq (dv 1)) (dg_tup rfl (dgs_cons (dg_name (i := 4) sc_d7_grown.nd rfl (by first | exact Or.inl rfl | exact Or.inr rfl)) (dgs_cons (dg_name (i := 5) sc_d7_grown.nd rfl (by first | exact Or.inl rfl | exact Or.inr rfl)) dgs_nil))) (dss_one (ds_for PassesOwn.never rfl (di_rng1 T.n_range (da_cons (de_op op_addD (dv 2) de_int) da_nil)) (dg_name (i := 6) sc_d7_grown.nd rfl (by first | exact Or.inl rfl | exact Or.inr rfl)) (dss_one (ds_if (dt_bool (dw_and (dt_cmp op_leDD (de_op op_addD (dv 4) (dv 6)) (de_op op_subD (dv 0) de_int) (nomark _)) (dw_and1 (dt_cmp op_leDD (de_op op_subD (de_op op_addD (dv 5) (dv 2)) (dv 6)) (dv 4) (nomark _))))) (dss_one (ds_expr (de_call (ok_d6_put T) (hr.mono (by decide)) T.g_d6_put T.F_d6_put.kp (bd_d6_put T) (da_cons (dv 3) (da_cons (de_tup (da_cons (de_op op_addD (dv 4) (dv 6)) (da_cons (de_op op_subD (de_op op_addD (dv 5) (dv 2)) (dv 6)) da_nil))) (da_cons (de_ixA hr.units (dv 1) (de_tup (da_cons (dv 4) (da_cons (dv 5) da_nil))) (by intro _ _; rfl)) da_nil)))))) dss_nil)))))
    (dss_one (ds_ret (dfr (dv 3)))))))
/-! _law_is_condition -/
noncomputable def m_d21_law_is_condition (w : World) : FS :=
  (gRet (fAndV (fUn (isiD "tuple") (fVar 1)) (fAndV (fOp (cmpB eqD) (fCall lenD (fCons (fVar 1) fNil)) (fC (.int 2))) (fAndV (fCall allD (fCons (fLc (fItA (fVar 1)) (.nm 2) fYes (fCallF [false] (F_d19_law_is_whole w) (fCons (fVar 2) fNil)) [2]) fNil)) (fChain3 geD geD geD (fOp subD (fVar 0) (fC (.int 1))) (fOp ixA (fVar 1) (fC (.int 0))) (fOp ixA (fVar 1) (fC (.int 1))) (fC (.int 0)))))))
noncomputable def F_d21_law_is_condition (w : World) : FD := runF [false, false] 3 (m_d21_law_is_condition w)
theorem sc_d21_law_is_condition : FnScope ["n", "value", "x"] ["n", "value"] (defScope (topS 30)) := ⟨rfl, rfl, rfl, by decide +kernel, rfl, by decide +kernel, by decide +kernel⟩
theorem bd_d21_law_is_condition {K : PySem.W.Frag} {mg : Str → Option Value} {fa : Nat → Addr} {fd : Nat → FuncData} {C : Addr × Addr} (T : Txt K mg fa fd C) : Binds K (fd 21) ["n", "value"] [] := T.F_d21_law_is_condition.binds fun _ _ _ _ _ _ us hl => match us, hl with | [_, _], _ => rfl
theorem ok_d21_law_is_condition {P : Program} {w : World} {K : PySem.W.Frag} {mg : Str → Option Value} {base : Heap} {fa : Nat → Addr} {fd : Nat → FuncData} {C : Addr × Addr} (T : Txt K mg fa fd C) : FnOk P w K mg base CX0 2 (fa 21) (fd 21) ["n", "value"] (sp0 K w [false, false] (F_d21_law_is_condition w)) := by
    exact fn_ok T.F_d21_law_is_condition sc_d21_law_is_condition rfl (fun cdv A outer s H E hr =>
    (dss_one (ds_ret (de_and (de_isi (T := "tuple") T.n_isinstance T.n_tuple (dv 1)) (de_and (de_cmp (op_eqDD hr.units) (de_cb cr_len rfl T.n_len (by decide +kernel) (da_cons (dv 1) da_nil)) de_int (nomark _)) (de_and (de_cb (cr_allD rfl) rfl T.n_all (by decide +kernel) (da_cons (de_lc (own := [("x", 2)]) rfl sc_d21_law_is_condition.nd (di_seq (dv 1)) (blkOk_by (N := ["n", "value", "x"]) (sc := (defScope (topS 30))) (by decide +kernel)) (fun _ _ _ _ _ => (dg_name (i := 2) sc_d21_law_is_condition.nd rfl (by first | exact Or.inl rfl | exact Or.inr rfl))) (fun _ _ _ _ _ => dts_nil) (fun _ _ _ _ _ => (de_call (ok_d19_law_is_whole T) (hr.mono (by decide)) T.g_d19_law_is_whole T.F_d19_law_is_whole.kp (bd_d19_law_is_whole T) (da_cons (dv 2) da_nil)))) da_nil)) (de_one (de_chain3 op_geDD op_geDD op_geDD (de_op op_subD (dv 0) de_int) (de_ixA hr.units (dv 1) de_int (by intro _ _; rfl)) (de_ixA hr.units (dv 1) de_int (by intro _ _; rfl)) de_int))))))))
/-! _law_drawn_sum -/
noncomputable def m_d26_law_drawn_sum (w : World) : FS :=
  (gSeq (gSet 2 fNewT)
  (gSeq (gFor (fRng1 (fCons (fCallF [true, false] (F_d15_law_take w) (fCons (fVar 0) (fCons (fC (.int 4)) fNil))) fNil)) (.nm 3) (gSeq (gSet 4 (fCallF [true, false] (F_d15_law_take w) (fCons (fVar 0) (fCons (fVar 1) fNil))))
  (gStore 2 (fTup (fCons (fVar 4) (fCons (fCallF [true, false] (F_d15_law_take w) (fCons (fVar 0) (fCons (fOp addD (fVar 4) (fC (.int 1))) fNil))) fNil))) (fOp ixA (fLst (fCons (fC (.int 1)) (fCons (fC (.int 2)) (fCons (fUn negD (fC (.int 1))) (fCons (fC (.int 3)) (fCons (fUn negD (fC (.int 2))) fNil)))))) (fCallF [true, false] (F_d15_law_take w) (fCons (fVar 0) (fCons (fC (.int 5)) fNil)))))))
  (gRet (fFrz (fVar 2)))))
noncomputable def F_d26_law_drawn_sum (w : World) : FD := runF [true, false] 5 (m_d26_law_drawn_sum w)
theorem sc_d26_law_drawn_sum : FnScope ["state", "n", "found", "turn", "a"] ["state", "n"] (defScope (topS 35)) := ⟨rfl, rfl, rfl, by decide +kernel, rfl, by decide +kernel, by decide +kernel⟩
theorem bd_d26_law_drawn_sum {K : PySem.W.Frag} {mg : Str → Option Value} {fa : Nat → Addr} {fd : Nat → FuncData} {C : Addr × Addr} (T : Txt K mg fa fd C) : Binds K (fd 26) ["state", "n"] [] := T.F_d26_law_drawn_sum.binds fun _ _ _ _ _ _ us hl => match us, hl with | [_, _], _ => rfl
theorem ok_d26_law_drawn_sum {P : Program} {w : World} {K : PySem.W.Frag} {mg : Str → Option Value} {base : Heap} {fa : Nat → Addr} {fd : Nat → FuncData} {C : Addr × Addr} (T : Txt K mg fa fd C) : FnOk P w K mg base CX0 2 (fa 26) (fd 26) ["state", "n"] (sp0 K w [true, false] (F_d26_law_drawn_sum w)) := by
    exact fn_ok T.F_d26_law_drawn_sum sc_d26_law_drawn_sum rfl (fun cdv A outer s H E hr =>
    (dss_cons (ds_set (i := 2) sc_d26_law_drawn_sum.nd rfl (by first | exact Or.inl rfl | exact Or.inr rfl) de_newT)
    (dss_cons (ds_for PassesOwn.never rfl (di_rng1 T.n_range (da_cons (de_call (ok_d15_law_take T) (hr.mono (by decide)) T.g_d15_law_take T.F_d15_law_take.kp (bd_d15_law_take T) (da_cons (dv 0) (da_cons de_int da_nil))) da_nil)) (dg_name (i := 3) sc_d26_law_drawn_sum.nd rfl (by first | exact Or.inl rfl | exact Or.inr rfl)) (dss_cons (ds_set (i := 4) sc_d26_law_drawn_sum.nd rfl (by first | exact Or.inl rfl | exact Or.inr rfl) (de_call (ok_d15_law_take T) (hr.mono (by decide)) T.g_d15_law_take T.F_d15_law_take.kp (bd_d15_law_take T) (da_cons (dv 0) (da_cons (dv 1) da_nil))))
    (dss_one (ds_store hr.units (dv 2) (de_tup (da_cons (dv 4) (da_cons (de_call (ok_d15_law_take T) (hr.mono (by decide)) T.g_d15_law_take T.F_d15_law_take.kp (bd_d15_law_take T) (da_cons (dv 0) (da_cons (de_op op_addD (dv 4) de_int) da_nil))) da_nil))) (de_ixA hr.units (de_lst (da_cons de_int (da_cons de_int (da_cons (de_un un_negD de_int) (da_cons de_int (da_cons (de_un un_negD de_int) da_nil)))))) (de_call (ok_d15_law_take T) (hr.mono (by decide)) T.g_d15_law_take T.F_d15_law_take.kp (bd_d15_law_take T) (da_cons (dv 0) (da_cons de_int da_nil))) (by intro _ _; rfl))))))
    (dss_one (ds_ret (dfr (dv 2)))))))
/-! is_condition_sum -/
noncomputable def m_d3_is_condition_sum (w : World) : FS :=
  (gSeq (gIf (fOr (fNot (fB (fCallF [false] (F_d1_is_space w) (fCons (fVar 0) fNil)))) (fNot (fB (fUn (isiD "tuple") (fVar 1))))) (gRet (fC (.bl false))) gNext)
  (gSeq (gFor (fItA (fVar 1)) (.nm 2) (gSeq (gIf (fOr (fNot (fB (fUn (isiD "tuple") (fVar 2)))) (fOr (fB (fOp (cmpB neD) (fCall lenD (fCons (fVar 2) fNil)) (fC (.int 2)))) (fNot (fB (fCallF [false, false] (F_d2_is_condition w) (fCons (fVar 0) (fCons (fOp ixA (fVar 2) (fC (.int 0))) fNil))))))) (gRet (fC (.bl false))) gNext)
  (gIf (fOr (fNot (fB (fCallF [false] (F_d0_is_integer w) (fCons (fOp ixA (fVar 2) (fC (.int 1))) fNil)))) (fB (fOp (cmpB eqD) (fOp ixA (fVar 2) (fC (.int 1))) (fC (.int 0))))) (gRet (fC (.bl false))) gNext)))
  (gRet (fCall allD (fCons (fLc (fZip (fCons (fVar 1) (fCons (fFrz (fSlice (fVar 1) (fPart (fC (.int 1))) fNoPart)) fNil))) (.tp [(.nm 3), (.nm 4)]) fYes (fOp (cmpB ltD) (fOp ixA (fVar 3) (fC (.int 0))) (fOp ixA (fVar 4) (fC (.int 0)))) [3, 4]) fNil)))))
noncomputable def F_d3_is_condition_sum (w : World) : FD := runF [false, false] 5 (m_d3_is_condition_sum w)
theorem sc_d3_is_condition_sum : FnScope ["n", "value", "pair", "one", "two"] ["n", "value"] (defScope (topS 11)) := ⟨rfl, rfl, rfl, by decide +kernel, rfl, by decide +kernel, by decide +kernel⟩
theorem bd_d3_is_condition_sum {K : PySem.W.Frag} {mg : Str → Option Value} {fa : Nat → Addr} {fd : Nat → FuncData} {C : Addr × Addr} (T : Txt K mg fa fd C) : Binds K (fd 3) ["n", "value"] [] := T.F_d3_is_condition_sum.binds fun _ _ _ _ _ _ us hl => match us, hl with | [_, _], _ => rfl
theorem ok_d3_is_condition_sum {P : Program} {w : World} {K : PySem.W.Frag} {mg : Str → Option Value} {base : Heap} {fa : Nat → Addr} {fd : Nat → FuncData} {C : Addr × Addr} (T : Txt K mg fa fd C) : FnOk P w K mg base CX0 3 (fa 3) (fd 3) ["n", "value"] (sp0 K w [false, false] (F_d3_is_condition_sum w)) := by
    exact fn_ok T.F_d3_is_condition_sum sc_d3_is_condition_sum rfl (fun cdv A outer s H E hr =>
    (dss_cons (ds_if (dt_bool (dw_or (dt_not (dt_val (de_call (ok_d1_is_space T) (hr.mono (by decide)) T.g_d1_is_space T.F_d1_is_space.kp (bd_d1_is_space T) (da_cons (dv 0) da_nil)))) (dw_or1 (dt_not (dt_val (de_isi (T := "tuple") T.n_isinstance T.n_tuple (dv 1))))))) (dss_one (ds_ret de_bl)) dss_nil)
    (dss_cons (ds_for PassesOwn.never rfl (di_seq (dv 1)) (dg_name (i := 2) sc_d3_is_condition_sum.nd rfl (by first | exact Or.inl rfl | exact Or.inr rfl)) (dss_cons (ds_if (dt_bool (dw_or (dt_not (dt_val (de_isi (T := "tuple") T.n_isinstance T.n_tuple (dv 2)))) (dw_or (dt_cmp (op_neDD hr.units) (de_cb cr_len rfl T.n_len (by decide +kernel) (da_cons (dv 2) da_nil)) de_int (nomark _)) (dw_or1 (dt_not (dt_val (de_call (ok_d2_is_condition T) (hr.mono (by decide)) T.g_d2_is_condition T.F_d2_is_condition.kp (bd_d2_is_condition T) (da_cons (dv 0) (da_cons (de_ixA hr.units (dv 2) de_int (by intro _ _; rfl)) da_nil))))))))) (dss_one (ds_ret de_bl)) dss_nil)
    (dss_one (ds_if (dt_bool (dw_or (dt_not (dt_val (de_call (ok_d0_is_integer T) (hr.mono (by decide)) T.g_d0_is_integer T.F_d0_is_integer.kp (bd_d0_is_integer T) (da_cons (de_ixA hr.units (dv 2) de_int (by intro _ _; rfl)) da_nil)))) (dw_or1 (dt_cmp (op_eqDD hr.units) (de_ixA hr.units (dv 2) de_int (by intro _ _; rfl)) de_int (nomark _))))) (dss_one (ds_ret de_bl)) dss_nil))))
    (dss_one (ds_ret (de_cb (cr_allD rfl) rfl T.n_all (by decide +kernel) (da_cons (de_lc (own := [("one", 3), ("two", 4)]) rfl sc_d3_is_condition_sum.nd (di_zip T.n_zip (da_cons (dv 1) (da_cons (dfr (de_slice (dv 1) (do_some de_int) do_none)) da_nil))) (blkOk_by (N := ["n", "value", "pair", "one", "two"]) (sc := (defScope (topS 11))) (by decide +kernel)) (fun _ _ _ _ _ => (dg_tup rfl (dgs_cons (dg_name (i := 3) sc_d3_is_condition_sum.nd rfl (by first | exact Or.inl rfl | exact Or.inr rfl)) (dgs_cons (dg_name (i := 4) sc_d3_is_condition_sum.nd rfl (by first | exact Or.inl rfl | exact Or.inr rfl)) dgs_nil)))) (fun _ _ _ _ _ => dts_nil) (fun _ _ _ _ _ => (de_cmp (op_ltDD hr.units0) (de_ixA hr.units (dv 3) de_int (by intro _ _; rfl)) (de_ixA hr.units (dv 4) de_int (by intro _ _; rfl)) (nomark _)))) da_nil)))))))
/-! times_condition -/
noncomputable def m_d9_times_condition (w : World) : FS :=
  (gSeq (gSet 3 (fFrz (fCallS (dictA w) (fCons (fVar 1) fNil))))
  (gSeq (gFor (fRng1 (fCons (fOp ixA (fVar 2) (fC (.int 1))) fNil)) (.nm 4) (gSet 3 (fCallF [false, false] (F_d8_raised w) (fCons (fVar 0) (fCons (fVar 3) fNil)))))
  (gRet (fCallF [false, false, false] (F_d7_grown w) (fCons (fVar 0) (fCons (fVar 3) (fCons (fOp subD (fOp ixA (fVar 2) (fC (.int 0))) (fOp ixA (fVar 2) (fC (.int 1)))) fNil)))))))
noncomputable def F_d9_times_condition (w : World) : FD := runF [false, false, false] 5 (m_d9_times_condition w)
theorem sc_d9_times_condition : FnScope ["n", "items", "own", "found", "_"] ["n", "items", "own"] (defScope (topS 17)) := ⟨rfl, rfl, rfl, by decide +kernel, rfl, by decide +kernel, by decide +kernel⟩
theorem bd_d9_times_condition {K : PySem.W.Frag} {mg : Str → Option Value} {fa : Nat → Addr} {fd : Nat → FuncData} {C : Addr × Addr} (T : Txt K mg fa fd C) : Binds K (fd 9) ["n", "items", "own"] [] := T.F_d9_times_condition.binds fun _ _ _ _ _ _ us hl => match us, hl with | [_, _, _], _ => rfl
theorem ok_d9_times_condition {P : Program} {w : World} {K : PySem.W.Frag} {mg : Str → Option Value} {base : Heap} {fa : Nat → Addr} {fd : Nat → FuncData} {C : Addr × Addr} (T : Txt K mg fa fd C) : FnOk P w K mg base CX0 3 (fa 9) (fd 9) ["n", "items", "own"] (sp0 K w [false, false, false] (F_d9_times_condition w)) := by
    exact fn_ok T.F_d9_times_condition sc_d9_times_condition rfl (fun cdv A outer s H E hr =>
    (dss_cons (ds_set (i := 3) sc_d9_times_condition.nd rfl (by first | exact Or.inl rfl | exact Or.inr rfl) (dfr (de_ctS (cr_dictA hr.units rfl) rfl T.n_dict (by decide +kernel) (da_cons (dv 1) da_nil))))
    (dss_cons (ds_for PassesOwn.never rfl (di_rng1 T.n_range (da_cons (de_ixA hr.units (dv 2) de_int (by intro _ _; rfl)) da_nil)) (dg_name (i := 4) sc_d9_times_condition.nd rfl (by first | exact Or.inl rfl | exact Or.inr rfl)) (dss_one (ds_set (i := 3) sc_d9_times_condition.nd rfl (by first | exact Or.inl rfl | exact Or.inr rfl) (de_call (ok_d8_raised T) (hr.mono (by decide)) T.g_d8_raised T.F_d8_raised.kp (bd_d8_raised T) (da_cons (dv 0) (da_cons (dv 3) da_nil))))))
    (dss_one (ds_ret (de_call (ok_d7_grown T) (hr.mono (by decide)) T.g_d7_grown T.F_d7_grown.kp (bd_d7_grown T) (da_cons (dv 0) (da_cons (dv 3) (da_cons (de_op op_subD (de_ixA hr.units (dv 2) de_int (by intro _ _; rfl)) (de_ixA hr.units (dv 2) de_int (by intro _ _; rfl))) da_nil)))))))))
/-! _law_is_sum -/
noncomputable def m_d22_law_is_sum (w : World) : FS :=
  (gSeq (gIf (fOr (fNot (fB (fCallF [false] (F_d19_law_is_whole w) (fCons (fVar 0) fNil)))) (fOr (fNot (fB (fChain leD leD (fC (.int 2)) (fVar 0) (fC (.int 8))))) (fNot (fB (fUn (isiD "tuple") (fVar 1)))))) (gRet (fC (.bl false))) gNext)
  (gSeq (gFor (fRng1 (fCons (fCall lenD (fCons (fVar 1) fNil)) fNil)) (.nm 2) (gSeq (gSet 3 (fOp ixA (fVar 1) (fVar 2)))
  (gSeq (gIf (fOr (fNot (fB (fUn (isiD "tuple") (fVar 3)))) (fOr (fB (fOp (cmpB neD) (fCall lenD (fCons (fVar 3) fNil)) (fC (.int 2)))) (fOr (fNot (fB (fCallF [false, false] (F_d21_law_is_condition w) (fCons (fVar 0) (fCons (fOp ixA (fVar 3) (fC (.int 0))) fNil))))) (fOr (fNot (fB (fCallF [false] (F_d19_law_is_whole w) (fCons (fOp ixA (fVar 3) (fC (.int 1))) fNil)))) (fB (fOp (cmpB eqD) (fOp ixA (fVar 3) (fC (.int 1))) (fC (.int 0)))))))) (gRet (fC (.bl false))) gNext)
  (gIf (fAnd (fB (fOp (cmpB gtD) (fVar 2) (fC (.int 0)))) (fNot (fB (fOp (cmpB ltD) (fOp ixA (fOp ixA (fVar 1) (fOp subD (fVar 2) (fC (.int 1)))) (fC (.int 0))) (fOp ixA (fVar 3) (fC (.int 0))))))) (gRet (fC (.bl false))) gNext))))
  (gRet (fC (.bl true)))))
noncomputable def F_d22_law_is_sum (w : World) : FD := runF [false, false] 4 (m_d22_law_is_sum w)
theorem sc_d22_law_is_sum : FnScope ["n", "value", "k", "own"] ["n", "value"] (defScope (topS 31)) := ⟨rfl, rfl, rfl, by decide +kernel, rfl, by decide +kernel, by decide +kernel⟩
theorem bd_d22_law_is_sum {K : PySem.W.Frag} {mg : Str → Option Value} {fa : Nat → Addr} {fd : Nat → FuncData} {C : Addr × Addr} (T : Txt K mg fa fd C) : Binds K (fd 22) ["n", "value"] [] := T.F_d22_law_is_sum.binds fun _ _ _ _ _ _ us hl => match us, hl with | [_, _], _ => rfl
theorem ok_d22_law_is_sum {P : Program} {w : World} {K : PySem.W.Frag} {mg : Str → Option Value} {base : Heap} {fa : Nat → Addr} {fd : Nat → FuncData} {C : Addr × Addr} (T : Txt K mg fa fd C) : FnOk P w K mg base CX0 3 (fa 22) (fd 22) ["n", "value"] (sp0 K w [false, false] (F_d22_law_is_sum w)) := by
    exact fn_ok T.F_d22_law_is_sum sc_d22_law_is_sum rfl (fun cdv A outer s H E hr =>
    (dss_cons (ds_if (dt_bool (dw_or (dt_not (dt_val (de_call (ok_d19_law_is_whole T) (hr.mono (by decide)) T.g_d19_law_is_whole T.F_d19_law_is_whole.kp (bd_d19_law_is_whole T) (da_cons (dv 0) da_nil)))) (dw_or (dt_not (dt_chain op_leDD op_leDD de_int (dv 0) de_int)) (dw_or1 (dt_not (dt_val (de_isi (T := "tuple") T.n_isinstance T.n_tuple (dv 1)))))))) (dss_one (ds_ret de_bl)) dss_nil)
    (dss_cons (ds_for PassesOwn.never rfl (di_rng1 T.n_range (da_cons (de_cb cr_len rfl T.n_len (by decide +kernel) (da_cons (dv 1) da_nil)) da_nil)) (dg_name (i := 2) sc_d22_law_is_sum.nd rfl (by first | exact Or.inl rfl | exact Or.inr rfl)) (dss_cons (ds_set (i := 3) sc_d22_law_is_sum.nd rfl (by first | exact Or.inl rfl | exact Or.inr rfl) (de_ixA hr.units (dv 1) (dv 2) (by intro _ _; rfl)))
    (dss_cons (ds_if (dt_bool (dw_or (dt_not (dt_val (de_isi (T := "tuple") T.n_isinstance T.n_tuple (dv 3)))) (dw_or (dt_cmp (op_neDD hr.units) (de_cb cr_len rfl T.n_len (by decide +kernel) (da_cons (dv 3) da_nil)) de_int (nomark _)) (dw_or (dt_not (dt_val (de_call (ok_d21_law_is_condition T) (hr.mono (by decide)) T.g_d21_law_is_condition T.F_d21_law_is_condition.kp (bd_d21_law_is_condition T) (da_cons (dv 0) (da_cons (de_ixA hr.units (dv 3) de_int (by intro _ _; rfl)) da_nil))))) (dw_or (dt_not (dt_val (de_call (ok_d19_law_is_whole T) (hr.mono (by decide)) T.g_d19_law_is_whole T.F_d19_law_is_whole.kp (bd_d19_law_is_whole T) (da_cons (de_ixA hr.units (dv 3) de_int (by intro _ _; rfl)) da_nil)))) (dw_or1 (dt_cmp (op_eqDD hr.units) (de_ixA hr.units (dv 3) de_int (by intro _ _; rfl)) de_int (nomark _)))))))) (dss_one (ds_ret de_bl)) dss_nil)
    (dss_one (ds_if (dt_bool (dw_and (dt_cmp op_gtDD (dv 2) de_int (nomark _)) (dw_and1 (dt_not (dt_cmp (op_ltDD hr.units0) (de_ixA hr.units (de_ixA hr.units (dv 1) (de_op op_subD (dv 2) de_int) (by intro _ _; rfl)) de_int (by intro _ _; rfl)) (de_ixA hr.units (dv 3) de_int (by intro _ _; rfl)) (nomark _)))))) (dss_one (ds_ret de_bl)) dss_nil)))))
    (dss_one (ds_ret de_bl)))))
/-! check_sums -/
noncomputable def m_d4_check_sums (w : World) : FS :=
  (gIf (fOr (fNot (fB (fCallF [false, false] (F_d3_is_condition_sum w) (fCons (fVar 0) (fCons (fVar 1) fNil))))) (fNot (fB (fCallF [false, false] (F_d3_is_condition_sum w) (fCons (fVar 0) (fCons (fVar 2) fNil)))))) (gRaise .mal) gNext)
noncomputable def F_d4_check_sums (w : World) : FD := runF [false, false, false] 3 (m_d4_check_sums w)
theorem sc_d4_check_sums : FnScope ["n", "f", "g"] ["n", "f", "g"] (defScope (topS 12)) := ⟨rfl, rfl, rfl, by decide +kernel, rfl, by decide +kernel, by decide +kernel⟩
theorem bd_d4_check_sums {K : PySem.W.Frag} {mg : Str → Option Value} {fa : Nat → Addr} {fd : Nat → FuncData} {C : Addr × Addr} (T : Txt K mg fa fd C) : Binds K (fd 4) ["n", "f", "g"] [] := T.F_d4_check_sums.binds fun _ _ _ _ _ _ us hl => match us, hl with | [_, _, _], _ => rfl
theorem ok_d4_check_sums {P : Program} {w : World} {K : PySem.W.Frag} {mg : Str → Option Value} {base : Heap} {fa : Nat → Addr} {fd : Nat → FuncData} {C : Addr × Addr} (T : Txt K mg fa fd C) : FnOk P w K mg base (L2.CX P w) 4 (fa 4) (fd 4) ["n", "f", "g"] (spX K w C [false, false, false] (F_d4_check_sums w)) := by
    exact fn_okX T.F_d4_check_sums sc_d4_check_sums rfl (fun cdv A outer s H E hr =>
    (dss_one (ds_if (dt_bool (dw_or (dt_not (dt_val (de_call (ok_d3_is_condition_sum T) (hr.mono (by decide)) T.g_d3_is_condition_sum T.F_d3_is_condition_sum.kp (bd_d3_is_condition_sum T) (da_cons (dv 0) (da_cons (dv 1) da_nil))))) (dw_or1 (dt_not (dt_val (de_call (ok_d3_is_condition_sum T) (hr.mono (by decide)) T.g_d3_is_condition_sum T.F_d3_is_condition_sum.kp (bd_d3_is_condition_sum T) (da_cons (dv 0) (da_cons (dv 2) da_nil)))))))) (dss_one (ds_raiseM rfl (takes_of rfl rfl rfl rfl) PySem.F.excBase_ValueError T.xM T.gM T.kM T.bM T.tM)) dss_nil)))
/-! product_of -/
noncomputable def m_d10_product_of (w : World) : FS :=
  (gSeq (gSet 3 fNewT)
  (gSeq (gFor (fItA (fVar 2)) (.nm 4) (gSeq (gSet 5 (fCallF [false, false, false] (F_d9_times_condition w) (fCons (fVar 0) (fCons (fVar 1) (fCons (fVar 4) fNil)))))
  (gFor (fItA (fVar 5)) (.nm 6) (gDrop (fCallF [true, false, false] (F_d6_put w) (fCons (fVar 3) (fCons (fVar 6) (fCons (fOp mulD (fOp ixA (fVar 2) (fVar 4)) (fOp ixA (fVar 5) (fVar 6))) fNil))))))))
  (gRet (fFrz (fVar 3)))))
noncomputable def F_d10_product_of (w : World) : FD := runF [false, false, false] 7 (m_d10_product_of w)
theorem sc_d10_product_of : FnScope ["n", "one", "two", "found", "own", "made", "key"] ["n", "one", "two"] (defScope (topS 18)) := ⟨rfl, rfl, rfl, by decide +kernel, rfl, by decide +kernel, by decide +kernel⟩
theorem bd_d10_product_of {K : PySem.W.Frag} {mg : Str → Option Value} {fa : Nat → Addr} {fd : Nat → FuncData} {C : Addr × Addr} (T : Txt K mg fa fd C) : Binds K (fd 10) ["n", "one", "two"] [] := T.F_d10_product_of.binds fun _ _ _ _ _ _ us hl => match us, hl with | [_, _, _], _ => rfl
theorem ok_d10_product_of {P : Program} {w : World} {K : PySem.W.Frag} {mg : Str → Option Value} {base : Heap} {fa : Nat → Addr} {fd : Nat → FuncData} {C : Addr × Addr} (T : Txt K mg fa fd C) : FnOk P w K mg base CX0 4 (fa 10) (fd 10) ["n", "one", "two"] (sp0 K w [false, false, false] (F_d10_product_of w)) := by
    exact fn_ok T.F_d10_product_of sc_d10_product_of rfl (fun cdv A outer s H E hr =>
    (dss_cons (ds_set (i := 3) sc_d10_product_of.nd rfl (by first | exact Or.inl rfl | exact Or.inr rfl) de_newT)
    (dss_cons (ds_for PassesOwn.never rfl (di_seq (dv 2)) (dg_name (i := 4) sc_d10_product_of.nd rfl (by first | exact Or.inl rfl | exact Or.inr rfl)) (dss_cons (ds_set (i := 5) sc_d10_product_of.nd rfl (by first | exact Or.inl rfl | exact Or.inr rfl) (de_call (ok_d9_times_condition T) (hr.mono (by decide)) T.g_d9_times_condition T.F_d9_times_condition.kp (bd_d9_times_condition T) (da_cons (dv 0) (da_cons (dv 1) (da_cons (dv 4) da_nil)))))
    (dss_one (ds_for PassesOwn.never rfl (di_seq (dv 5)) (dg_name (i := 6) sc_d10_product_of.nd rfl (by first | exact Or.inl rfl | exact Or.inr rfl)) (dss_one (ds_expr (de_call (ok_d6_put T) (hr.mono (by decide)) T.g_d6_put T.F_d6_put.kp (bd_d6_put T) (da_cons (dv 3) (da_cons (dv 6) (da_cons (de_op op_mulD (de_ixA hr.units (dv 2) (dv 4) (by intro _ _; rfl)) (de_ixA hr.units (dv 5) (dv 6) (by intro _ _; rfl))) da_nil))))))))))
    (dss_one (ds_ret (dfr (dv 3)))))))
/-! lines_fulfilling -/
noncomputable def m_d13_lines_fulfilling (w : World) : FS :=
  (gSeq (gIf (fOr (fNot (fB (fCallF [false] (F_d1_is_space w) (fCons (fVar 0) fNil)))) (fOr (fNot (fB (fUn (isiD "tuple") (fVar 1)))) (fB (fOp (cmpB gtD) (fCall lenD (fCons (fVar 1) fNil)) (fC (.int 20)))))) (gRaise .mal) gNext)
  (gSeq (gIf (fNot (fB (fCall allD (fCons (fLc (fItA (fVar 1)) (.nm 2) fYes (fCallF [false, false] (F_d2_is_condition w) (fCons (fVar 0) (fCons (fVar 2) fNil))) [2]) fNil)))) (gRaise .mal) gNext)
  (gSeq (gSet 3 (fFrz (fDis1 (fTup (fCons (fC (.int 0)) (fCons (fC (.int 0)) fNil))) (fC (.int 1)))))
  (gSeq (gFor (fItA (fVar 1)) (.nm 2) (gSet 3 (fCallF [false, false, false] (F_d9_times_condition w) (fCons (fVar 0) (fCons (fVar 3) (fCons (fVar 2) fNil))))))
  (gRet (fMeth "dict" dgetM (fVar 3) (fCons (fTup (fCons (fOp subD (fVar 0) (fC (.int 1))) (fCons (fOp subD (fVar 0) (fC (.int 1))) fNil))) (fCons (fC (.int 0)) fNil))))))))
noncomputable def F_d13_lines_fulfilling (w : World) : FD := runF [false, false] 4 (m_d13_lines_fulfilling w)
theorem sc_d13_lines_fulfilling : FnScope ["n", "rows", "own", "items"] ["n", "rows"] (defScope (topS 21)) := ⟨rfl, rfl, rfl, by decide +kernel, rfl, by decide +kernel, by decide +kernel⟩
theorem bd_d13_lines_fulfilling {K : PySem.W.Frag} {mg : Str → Option Value} {fa : Nat → Addr} {fd : Nat → FuncData} {C : Addr × Addr} (T : Txt K mg fa fd C) : Binds K (fd 13) ["n", "rows"] [] := T.F_d13_lines_fulfilling.binds fun _ _ _ _ _ _ us hl => match us, hl with | [_, _], _ => rfl
theorem ok_d13_lines_fulfilling {P : Program} {w : World} {K : PySem.W.Frag} {mg : Str → Option Value} {base : Heap} {fa : Nat → Addr} {fd : Nat → FuncData} {C : Addr × Addr} (T : Txt K mg fa fd C) : FnOk P w K mg base (L2.CX P w) 4 (fa 13) (fd 13) ["n", "rows"] (spX K w C [false, false] (F_d13_lines_fulfilling w)) := by
    obtain ⟨t_MOST_LISTED, h_MOST_LISTED⟩ := T.c_MOST_LISTED
    exact fn_okX T.F_d13_lines_fulfilling sc_d13_lines_fulfilling rfl (fun cdv A outer s H E hr =>
    (dss_cons (ds_if (dt_bool (dw_or (dt_not (dt_val (de_call (ok_d1_is_space T) (hr.mono (by decide)) T.g_d1_is_space T.F_d1_is_space.kp (bd_d1_is_space T) (da_cons (dv 0) da_nil)))) (dw_or (dt_not (dt_val (de_isi (T := "tuple") T.n_isinstance T.n_tuple (dv 1)))) (dw_or1 (dt_cmp op_gtDD (de_cb cr_len rfl T.n_len (by decide +kernel) (da_cons (dv 1) da_nil)) (de_glob (d := .int 20) (v := .int 20) rfl h_MOST_LISTED ⟨_, rfl⟩ (fun _ => rfl)) (nomark _)))))) (dss_one (ds_raiseM rfl (takes_of rfl rfl rfl rfl) PySem.F.excBase_ValueError T.xM T.gM T.kM T.bM T.tM)) dss_nil)
    (dss_cons (ds_if (dt_not (dt_val (de_cb (cr_allD rfl) rfl T.n_all (by decide +kernel) (da_cons (de_lc (own := [("own", 2)]) rfl sc_d13_lines_fulfilling.nd (di_seq (dv 1)) (blkOk_by (N := ["n", "rows", "own", "items"]) (sc := (defScope (topS 21))) (by decide +kernel)) (fun _ _ _ _ _ => (dg_name (i := 2) sc_d13_lines_fulfilling.nd rfl (by first | exact Or.inl rfl | exact Or.inr rfl))) (fun _ _ _ _ _ => dts_nil) (fun _ _ _ _ _ => (de_call (ok_d2_is_condition T) (hr.mono (by decide)) T.g_d2_is_condition T.F_d2_is_condition.kp (bd_d2_is_condition T) (da_cons (dv 0) (da_cons (dv 2) da_nil))))) da_nil)))) (dss_one (ds_raiseM rfl (takes_of rfl rfl rfl rfl) PySem.F.excBase_ValueError T.xM T.gM T.kM T.bM T.tM)) dss_nil)
    (dss_cons (ds_set (i := 3) sc_d13_lines_fulfilling.nd rfl (by first | exact Or.inl rfl | exact Or.inr rfl) (dfr (de_dis1 hr.units (de_tup (da_cons de_int (da_cons de_int da_nil))) de_int)))
    (dss_cons (ds_for (passes_of rfl) rfl (di_seq (dv 1)) (dg_name (i := 2) sc_d13_lines_fulfilling.nd rfl (by first | exact Or.inl rfl | exact Or.inr rfl)) (dss_one (ds_set (i := 3) sc_d13_lines_fulfilling.nd rfl (by first | exact Or.inl rfl | exact Or.inr rfl) (de_call (ok_d9_times_condition T) (hr.mono (by decide)) T.g_d9_times_condition T.F_d9_times_condition.kp (bd_d9_times_condition T) (da_cons (dv 0) (da_cons (dv 3) (da_cons (dv 2) da_nil)))))))
    (dss_one (ds_ret (de_meth PySem.F.plainAttrs_dict PySem.F.slot_dict_get PySem.F.type_dict_get (mt_get hr.units) (dv 3) (da_cons (de_tup (da_cons (de_op op_subD (dv 0) de_int) (da_cons (de_op op_subD (dv 0) de_int) da_nil))) (da_cons de_int da_nil))))))))))
/-! condition_product -/
noncomputable def m_d11_condition_product (w : World) : FS :=
  (gSeq (gDropX (xCallX [false, false, false] (F_d4_check_sums w) (xCons (xOf (fVar 0)) (xCons (xOf (fVar 1)) (xCons (xOf (fVar 2)) xNil)))))
  (gRet (fCallF [false] (F_d5_shown w) (fCons (fCallF [false, false, false] (F_d10_product_of w) (fCons (fVar 0) (fCons (fFrz (fCallS (dictA w) (fCons (fVar 1) fNil))) (fCons (fFrz (fCallS (dictA w) (fCons (fVar 2) fNil))) fNil)))) fNil))))
noncomputable def F_d11_condition_product (w : World) : FD := runF [false, false, false] 3 (m_d11_condition_product w)
theorem sc_d11_condition_product : FnScope ["n", "f", "g"] ["n", "f", "g"] (defScope (topS 19)) := ⟨rfl, rfl, rfl, by decide +kernel, rfl, by decide +kernel, by decide +kernel⟩
theorem bd_d11_condition_product {K : PySem.W.Frag} {mg : Str → Option Value} {fa : Nat → Addr} {fd : Nat → FuncData} {C : Addr × Addr} (T : Txt K mg fa fd C) : Binds K (fd 11) ["n", "f", "g"] [] := T.F_d11_condition_product.binds fun _ _ _ _ _ _ us hl => match us, hl with | [_, _, _], _ => rfl
theorem ok_d11_condition_product {P : Program} {w : World} {K : PySem.W.Frag} {mg : Str → Option Value} {base : Heap} {fa : Nat → Addr} {fd : Nat → FuncData} {C : Addr × Addr} (T : Txt K mg fa fd C) : FnOk P w K mg base (L2.CX P w) 5 (fa 11) (fd 11) ["n", "f", "g"] (spX K w C [false, false, false] (F_d11_condition_product w)) := by
    exact fn_okX T.F_d11_condition_product sc_d11_condition_product rfl (fun cdv A outer s H E hr =>
    (dss_cons (ds_exprX (dx_callX (ok_d4_check_sums T) (hr.mono (by decide)) T.g_d4_check_sums T.F_d4_check_sums.kp (bd_d4_check_sums T) (takes_of rfl rfl rfl rfl) (dax_cons (dx_of (dv 0)) (dax_cons (dx_of (dv 1)) (dax_cons (dx_of (dv 2)) dax_nil)))))
    (dss_one (ds_ret (de_call (ok_d5_shown T) (hr.mono (by decide)) T.g_d5_shown T.F_d5_shown.kp (bd_d5_shown T) (da_cons (de_call (ok_d10_product_of T) (hr.mono (by decide)) T.g_d10_product_of T.F_d10_product_of.kp (bd_d10_product_of T) (da_cons (dv 0) (da_cons (dfr (de_ctS (cr_dictA hr.units rfl) rfl T.n_dict (by decide +kernel) (da_cons (dv 1) da_nil))) (da_cons (dfr (de_ctS (cr_dictA hr.units rfl) rfl T.n_dict (by decide +kernel) (da_cons (dv 2) da_nil))) da_nil)))) da_nil))))))
/-! condition_number -/
noncomputable def m_d12_condition_number (w : World) : FS :=
  (gSeq (gDropX (xCallX [false, false, false] (F_d4_check_sums w) (xCons (xOf (fVar 0)) (xCons (xOf (fVar 1)) (xCons (xOf (fVar 1)) xNil)))))
  (gRet (fMeth "dict" dgetM (fCallS (dictA w) (fCons (fVar 1) fNil)) (fCons (fTup (fCons (fOp subD (fVar 0) (fC (.int 1))) (fCons (fOp subD (fVar 0) (fC (.int 1))) fNil))) (fCons (fC (.int 0)) fNil)))))
noncomputable def F_d12_condition_number (w : World) : FD := runF [false, false] 2 (m_d12_condition_number w)
theorem sc_d12_condition_number : FnScope ["n", "f"] ["n", "f"] (defScope (topS 20)) := ⟨rfl, rfl, rfl, by decide +kernel, rfl, by decide +kernel, by decide +kernel⟩
theorem bd_d12_condition_number {K : PySem.W.Frag} {mg : Str → Option Value} {fa : Nat → Addr} {fd : Nat → FuncData} {C : Addr × Addr} (T : Txt K mg fa fd C) : Binds K (fd 12) ["n", "f"] [] := T.F_d12_condition_number.binds fun _ _ _ _ _ _ us hl => match us, hl with | [_, _], _ => rfl
theorem ok_d12_condition_number {P : Program} {w : World} {K : PySem.W.Frag} {mg : Str → Option Value} {base : Heap} {fa : Nat → Addr} {fd : Nat → FuncData} {C : Addr × Addr} (T : Txt K mg fa fd C) : FnOk P w K mg base (L2.CX P w) 5 (fa 12) (fd 12) ["n", "f"] (spX K w C [false, false] (F_d12_condition_number w)) := by
    exact fn_okX T.F_d12_condition_number sc_d12_condition_number rfl (fun cdv A outer s H E hr =>
    (dss_cons (ds_exprX (dx_callX (ok_d4_check_sums T) (hr.mono (by decide)) T.g_d4_check_sums T.F_d4_check_sums.kp (bd_d4_check_sums T) (takes_of rfl rfl rfl rfl) (dax_cons (dx_of (dv 0)) (dax_cons (dx_of (dv 1)) (dax_cons (dx_of (dv 1)) dax_nil)))))
    (dss_one (ds_ret (de_meth PySem.F.plainAttrs_dict PySem.F.slot_dict_get PySem.F.type_dict_get (mt_get hr.units) (de_ctS (cr_dictA hr.units rfl) rfl T.n_dict (by decide +kernel) (da_cons (dv 1) da_nil)) (da_cons (de_tup (da_cons (de_op op_subD (dv 0) de_int) (da_cons (de_op op_subD (dv 0) de_int) da_nil))) (da_cons de_int da_nil)))))))
/-! _law_odd -/
noncomputable def m_d16_law_odd (w : World) (self : FD) : FS :=
  (gSeq (gIf (fB (fOp (cmpB eqD) (fVar 0) (fC (.str "a word that nothing else is")))) (gRet (fC (.bl true))) gNext)
  (gRet (fAndV (fUn (isi2D "tuple" "list") (fVar 0)) (fOp (cmpB gtD) (fCall lenD (fCons (fLc (fItA (fVar 0)) (.nm 1) (fB (fCallF [false] self (fCons (fVar 1) fNil))) (fVar 1) [1]) fNil)) (fC (.int 0))))))
noncomputable def F_d16_law_odd_n (w : World) : Nat → FD
  | 0 => fun _ => none
  | k + 1 => runF [false] 2 (m_d16_law_odd w (F_d16_law_odd_n w k))
noncomputable def F_d16_law_odd (w : World) : FD := F_d16_law_odd_n w 12
theorem sc_d16_law_odd : FnScope ["value", "item"] ["value"] (defScope (topS 25)) := ⟨rfl, rfl, rfl, by decide +kernel, rfl, by decide +kernel, by decide +kernel⟩
theorem bd_d16_law_odd {K : PySem.W.Frag} {mg : Str → Option Value} {fa : Nat → Addr} {fd : Nat → FuncData} {C : Addr × Addr} (T : Txt K mg fa fd C) : Binds K (fd 16) ["value"] [] := T.F_d16_law_odd.binds fun _ _ _ _ _ _ us hl => match us, hl with | [_], _ => rfl
theorem okn_d16_law_odd {P : Program} {w : World} {K : PySem.W.Frag} {mg : Str → Option Value} {base : Heap} {fa : Nat → Addr} {fd : Nat → FuncData} {C : Addr × Addr} (T : Txt K mg fa fd C) : ∀ n : Nat, FnOk P w K mg base CX0 (0 + n) (fa 16) (fd 16) ["value"] (sp0 K w [false] (F_d16_law_odd_n w n))
  | 0 => ⟨(fun vs H Q E ⟨ds, a, b, rv, ms, e, _⟩ => by cases e), (fun A outer s H args us vs Q E hr he hb hv ⟨ds, a, b, rv, ms, e, _⟩ => by cases e)⟩
  | n + 1 => by
    have ih := okn_d16_law_odd (P := P) (w := w) (base := base) T n
    exact fn_ok T.F_d16_law_odd sc_d16_law_odd rfl (fun cdv A outer s H E hr =>
    (dss_cons (ds_if (dt_cmp (op_eqDD hr.units) (dv 0) de_str (nomark _)) (dss_one (ds_ret de_bl)) dss_nil)
    (dss_one (ds_ret (de_and (de_isi2 (T := "tuple") (U := "list") T.n_isinstance T.n_tuple T.n_list (dv 0)) (de_one (de_cmp op_gtDD (de_cb cr_len rfl T.n_len (by decide +kernel) (da_cons (de_lc (own := [("item", 1)]) rfl sc_d16_law_odd.nd (di_seq (dv 0)) (blkOk_by (N := ["value", "item"]) (sc := (defScope (topS 25))) (by decide +kernel)) (fun _ _ _ _ _ => (dg_name (i := 1) sc_d16_law_odd.nd rfl (by first | exact Or.inl rfl | exact Or.inr rfl))) (fun _ _ _ _ _ => (dts_one (dt_val (de_call ih hr T.g_d16_law_odd T.F_d16_law_odd.kp (bd_d16_law_odd T) (da_cons (dv 1) da_nil))))) (fun _ _ _ _ _ => (dv 1))) da_nil)) de_int (nomark _))))))))
theorem ok_d16_law_odd {P : Program} {w : World} {K : PySem.W.Frag} {mg : Str → Option Value} {base : Heap} {fa : Nat → Addr} {fd : Nat → FuncData} {C : Addr × Addr} (T : Txt K mg fa fd C) : FnOk P w K mg base CX0 12 (fa 16) (fd 16) ["value"] (sp0 K w [false] (F_d16_law_odd w)) := okn_d16_law_odd T 12
/-! _law_honest -/
noncomputable def m_d17_law_honest (w : World) : FS :=
  (gRet (fIf (fB (fCallF [false] (F_d16_law_odd w) (fCons (fVar 0) fNil))) (fC (.str "odd")) (fVar 0)))
noncomputable def F_d17_law_honest (w : World) : FD := runF [false] 1 (m_d17_law_honest w)
theorem sc_d17_law_honest : FnScope ["value"] ["value"] (defScope (topS 26)) := ⟨rfl, rfl, rfl, by decide +kernel, rfl, by decide +kernel, by decide +kernel⟩
theorem bd_d17_law_honest {K : PySem.W.Frag} {mg : Str → Option Value} {fa : Nat → Addr} {fd : Nat → FuncData} {C : Addr × Addr} (T : Txt K mg fa fd C) : Binds K (fd 17) ["value"] [] := T.F_d17_law_honest.binds fun _ _ _ _ _ _ us hl => match us, hl with | [_], _ => rfl
theorem ok_d17_law_honest {P : Program} {w : World} {K : PySem.W.Frag} {mg : Str → Option Value} {base : Heap} {fa : Nat → Addr} {fd : Nat → FuncData} {C : Addr × Addr} (T : Txt K mg fa fd C) : FnOk P w K mg base CX0 13 (fa 17) (fd 17) ["value"] (sp0 K w [false] (F_d17_law_honest w)) := by
    exact fn_ok T.F_d17_law_honest sc_d17_law_honest rfl (fun cdv A outer s H E hr =>
    (dss_one (ds_ret (de_if (dt_val (de_call (ok_d16_law_odd T) (hr.mono (by decide)) T.g_d16_law_odd T.F_d16_law_odd.kp (bd_d16_law_odd T) (da_cons (dv 0) da_nil))) de_str (dv 0)))))
/-! _law_same -/
noncomputable def m_d20_law_same (w : World) (self : FD) : FS :=
  (gSeq (gIf (fB (fUn (isiD "bool") (fVar 1))) (gRet (fAndV (fUn (isiD "bool") (fVar 0)) (fOp (cmpB eqD) (fVar 0) (fVar 1)))) gNext)
  (gSeq (gIf (fB (fUn (isiD "tuple") (fVar 1))) (gRet (fAndV (fUn (isiD "tuple") (fVar 0)) (fAndV (fOp (cmpB eqD) (fCall lenD (fCons (fVar 0) fNil)) (fCall lenD (fCons (fVar 1) fNil))) (fCall allD (fCons (fLc (fRng1 (fCons (fCall lenD (fCons (fVar 1) fNil)) fNil)) (.nm 2) fYes (fCallF [false, false] self (fCons (fOp ixA (fVar 0) (fVar 2)) (fCons (fOp ixA (fVar 1) (fVar 2)) fNil))) [2]) fNil))))) gNext)
  (gSeq (gIf (fB (fUn (isiD "str") (fVar 1))) (gRet (fAndV (fUn (isiD "str") (fVar 0)) (fOp (cmpB eqD) (fVar 0) (fVar 1)))) gNext)
  (gSeq (gIf (fB (fOp (cmpB isD) (fVar 1) (fC .non))) (gRet (fOp (cmpB isD) (fVar 0) (fC .non))) gNext)
  (gRet (fAndV (fCallF [false] (F_d19_law_is_whole w) (fCons (fVar 0) fNil)) (fOp (cmpB eqD) (fVar 0) (fVar 1))))))))
noncomputable def F_d20_law_same_n (w : World) : Nat → FD
  | 0 => fun _ => none
  | k + 1 => runF [false, false] 3 (m_d20_law_same w (F_d20_law_same_n w k))
noncomputable def F_d20_law_same (w : World) : FD := F_d20_law_same_n w 12
theorem sc_d20_law_same : FnScope ["one", "two", "k"] ["one", "two"] (defScope (topS 29)) := ⟨rfl, rfl, rfl, by decide +kernel, rfl, by decide +kernel, by decide +kernel⟩
theorem bd_d20_law_same {K : PySem.W.Frag} {mg : Str → Option Value} {fa : Nat → Addr} {fd : Nat → FuncData} {C : Addr × Addr} (T : Txt K mg fa fd C) : Binds K (fd 20) ["one", "two"] [] := T.F_d20_law_same.binds fun _ _ _ _ _ _ us hl => match us, hl with | [_, _], _ => rfl
theorem okn_d20_law_same {P : Program} {w : World} {K : PySem.W.Frag} {mg : Str → Option Value} {base : Heap} {fa : Nat → Addr} {fd : Nat → FuncData} {C : Addr × Addr} (T : Txt K mg fa fd C) : ∀ n : Nat, FnOk P w K mg base CX0 (1 + n) (fa 20) (fd 20) ["one", "two"] (sp0 K w [false, false] (F_d20_law_same_n w n))
  | 0 => ⟨(fun vs H Q E ⟨ds, a, b, rv, ms, e, _⟩ => by cases e), (fun A outer s H args us vs Q E hr he hb hv ⟨ds, a, b, rv, ms, e, _⟩ => by cases e)⟩
  | n + 1 => by
    have ih := okn_d20_law_same (P := P) (w := w) (base := base) T n
    exact fn_ok T.F_d20_law_same sc_d20_law_same rfl (fun cdv A outer s H E hr =>
    (dss_cons (ds_if (dt_val (de_isi (T := "bool") T.n_isinstance T.n_bool (dv 1))) (dss_one (ds_ret (de_and (de_isi (T := "bool") T.n_isinstance T.n_bool (dv 0)) (de_one (de_cmp (op_eqDD hr.units) (dv 0) (dv 1) (nomark _)))))) dss_nil)
    (dss_cons (ds_if (dt_val (de_isi (T := "tuple") T.n_isinstance T.n_tuple (dv 1))) (dss_one (ds_ret (de_and (de_isi (T := "tuple") T.n_isinstance T.n_tuple (dv 0)) (de_and (de_cmp (op_eqDD hr.units) (de_cb cr_len rfl T.n_len (by decide +kernel) (da_cons (dv 0) da_nil)) (de_cb cr_len rfl T.n_len (by decide +kernel) (da_cons (dv 1) da_nil)) (nomark _)) (de_one (de_cb (cr_allD rfl) rfl T.n_all (by decide +kernel) (da_cons (de_lc (own := [("k", 2)]) rfl sc_d20_law_same.nd (di_rng1 T.n_range (da_cons (de_cb cr_len rfl T.n_len (by decide +kernel) (da_cons (dv 1) da_nil)) da_nil)) (blkOk_by (N := ["one", "two", "k"]) (sc := (defScope (topS 29))) (by decide +kernel)) (fun _ _ _ _ _ => (dg_name (i := 2) sc_d20_law_same.nd rfl (by first | exact Or.inl rfl | exact Or.inr rfl))) (fun _ _ _ _ _ => dts_nil) (fun _ _ _ _ _ => (de_call ih hr T.g_d20_law_same T.F_d20_law_same.kp (bd_d20_law_same T) (da_cons (de_ixA hr.units (dv 0) (dv 2) (by intro _ _; rfl)) (da_cons (de_ixA hr.units (dv 1) (dv 2) (by intro _ _; rfl)) da_nil))))) da_nil))))))) dss_nil)
    (dss_cons (ds_if (dt_val (de_isi (T := "str") T.n_isinstance T.n_str (dv 1))) (dss_one (ds_ret (de_and (de_isi (T := "str") T.n_isinstance T.n_str (dv 0)) (de_one (de_cmp (op_eqDD hr.units) (dv 0) (dv 1) (nomark _)))))) dss_nil)
    (dss_cons (ds_if (dt_cmp op_isDD (dv 1) de_non (nomark _)) (dss_one (ds_ret (de_cmp op_isDD (dv 0) de_non (nomark _)))) dss_nil)
    (dss_one (ds_ret (de_and (de_call (ok_d19_law_is_whole T) (hr.mono (Nat.le_trans (by decide) (Nat.le_add_right _ _))) T.g_d19_law_is_whole T.F_d19_law_is_whole.kp (bd_d19_law_is_whole T) (da_cons (dv 0) da_nil)) (de_one (de_cmp (op_eqDD hr.units) (dv 0) (dv 1) (nomark _)))))))))))
theorem ok_d20_law_same {P : Program} {w : World} {K : PySem.W.Frag} {mg : Str → Option Value} {base : Heap} {fa : Nat → Addr} {fd : Nat → FuncData} {C : Addr × Addr} (T : Txt K mg fa fd C) : FnOk P w K mg base CX0 13 (fa 20) (fd 20) ["one", "two"] (sp0 K w [false, false] (F_d20_law_same w)) := okn_d20_law_same T 12
/-! _law_told -/
noncomputable def m_d27_law_told (w : World) : FS :=
  (gTryM (gSeq (gIf (fB (fOp (cmpB eqD) (fVar 0) (fC (.int 0)))) (gRetX (xTup (xCons (xOf (fC (.str "told"))) (xCons (xCallF [false] (F_d17_law_honest w) (xCons (xCallX [false, false, false] (F_d11_condition_product w) (xCons (xOf (fVar 1)) (xCons (xOf (fVar 2)) (xCons (xOf (fVar 3)) xNil)))) xNil)) xNil)))) gNext)
  (gRetX (xTup (xCons (xOf (fC (.str "told"))) (xCons (xCallF [false] (F_d17_law_honest w) (xCons (xIf (fB (fOp (cmpB eqD) (fVar 0) (fC (.int 1)))) (xCallX [false, false] (F_d12_condition_number w) (xCons (xOf (fVar 1)) (xCons (xOf (fVar 2)) xNil))) (xCallX [false, false] (F_d13_lines_fulfilling w) (xCons (xOf (fVar 1)) (xCons (xOf (fVar 2)) xNil)))) xNil)) xNil))))) (gRet (fTup (fCons (fC (.str "malformed")) (fCons (fC .non) fNil)))))
noncomputable def F_d27_law_told (w : World) : FD := runF [false, false, false, false] 4 (m_d27_law_told w)
theorem sc_d27_law_told : FnScope ["which", "n", "f", "g"] ["which", "n", "f", "g"] (defScope (topS 36)) := ⟨rfl, rfl, rfl, by decide +kernel, rfl, by decide +kernel, by decide +kernel⟩
theorem bd_d27_law_told {K : PySem.W.Frag} {mg : Str → Option Value} {fa : Nat → Addr} {fd : Nat → FuncData} {C : Addr × Addr} (T : Txt K mg fa fd C) : Binds K (fd 27) ["which", "n", "f", "g"] [] := T.F_d27_law_told.binds fun _ _ _ _ _ _ us hl => match us, hl with | [_, _, _, _], _ => rfl
theorem ok_d27_law_told {P : Program} {w : World} {K : PySem.W.Frag} {mg : Str → Option Value} {base : Heap} {fa : Nat → Addr} {fd : Nat → FuncData} {C : Addr × Addr} (T : Txt K mg fa fd C) : FnOk P w K mg base CX0 14 (fa 27) (fd 27) ["which", "n", "f", "g"] (sp0 K w [false, false, false, false] (F_d27_law_told w)) := by
    exact fn_ok T.F_d27_law_told sc_d27_law_told rfl (fun cdv A outer s H E hr =>
    (dss_one (ds_tryM (C := C) ⟨rfl, by decide, Or.inl T.gM⟩ T.eM (fun W' pn xe tk => (dss_cons (ds_if (dt_cmp (op_eqDD hr.units) (dv 0) de_int (nomark _)) (dss_one (ds_retX (dx_tup (dax_cons (dx_of de_str) (dax_cons (dx_call (ok_d17_law_honest T) (hr.mono (by decide)) T.g_d17_law_honest T.F_d17_law_honest.kp (bd_d17_law_honest T) (dax_cons (dx_callX (ok_d11_condition_product T) (hr.mono (by decide)) T.g_d11_condition_product T.F_d11_condition_product.kp (bd_d11_condition_product T) tk (dax_cons (dx_of (dv 1)) (dax_cons (dx_of (dv 2)) (dax_cons (dx_of (dv 3)) dax_nil)))) dax_nil)) dax_nil))))) dss_nil)
    (dss_one (ds_retX (dx_tup (dax_cons (dx_of de_str) (dax_cons (dx_call (ok_d17_law_honest T) (hr.mono (by decide)) T.g_d17_law_honest T.F_d17_law_honest.kp (bd_d17_law_honest T) (dax_cons (dx_if (dt_cmp (op_eqDD hr.units) (dv 0) de_int (nomark _)) (dx_callX (ok_d12_condition_number T) (hr.mono (by decide)) T.g_d12_condition_number T.F_d12_condition_number.kp (bd_d12_condition_number T) tk (dax_cons (dx_of (dv 1)) (dax_cons (dx_of (dv 2)) dax_nil))) (dx_callX (ok_d13_lines_fulfilling T) (hr.mono (by decide)) T.g_d13_lines_fulfilling T.F_d13_lines_fulfilling.kp (bd_d13_lines_fulfilling T) tk (dax_cons (dx_of (dv 1)) (dax_cons (dx_of (dv 2)) dax_nil)))) dax_nil)) dax_nil))))))) (fun _ _ => (dss_one (ds_ret (de_tup (da_cons de_str (da_cons de_non da_nil)))))))))
/-! law -/
noncomputable def m_d29_law (w : World) : FS :=
  (gSeq (gSet 1 (fCallF [false] (F_d14_law_state w) (fCons (fVar 0) fNil)))
  (gSeq (gFor (fRng1 (fCons (fC (.int 3)) fNil)) (.nm 2) (gSeq (gSet 3 (fOp addD (fC (.int 2)) (fCallF [true, false] (F_d15_law_take w) (fCons (fVar 1) (fCons (fC (.int 7)) fNil)))))
  (gSeq (gPar3 4 5 6 (fCons (fCallF [true, false] (F_d26_law_drawn_sum w) (fCons (fVar 1) (fCons (fVar 3) fNil))) (fCons (fCallF [true, false] (F_d26_law_drawn_sum w) (fCons (fVar 1) (fCons (fVar 3) fNil))) (fCons (fCallF [true, false] (F_d26_law_drawn_sum w) (fCons (fVar 1) (fCons (fVar 3) fNil))) fNil))))
  (gSeq (gPar2 7 8 (fCons (fCallF [false] (F_d24_law_shown w) (fCons (fVar 4) fNil)) (fCons (fCallF [false] (F_d24_law_shown w) (fCons (fVar 5) fNil)) fNil)))
  (gSeq (gSet 9 (fCallF [false] (F_d24_law_shown w) (fCons (fCallF [false, false, false] (F_d23_law_joined w) (fCons (fVar 3) (fCons (fVar 4) (fCons (fVar 5) fNil)))) fNil)))
  (gSeq (gIf (fOr (fB (fOp (cmpB neD) (fCallF [false] (F_d24_law_shown w) (fCons (fCallF [false, false, false] (F_d23_law_joined w) (fCons (fVar 3) (fCons (fVar 5) (fCons (fVar 4) fNil)))) fNil)) (fVar 9))) (fB (fOp (cmpB neD) (fCallF [false] (F_d24_law_shown w) (fCons (fCallF [false, false, false] (F_d23_law_joined w) (fCons (fVar 3) (fCons (fCallF [false, false, false] (F_d23_law_joined w) (fCons (fVar 3) (fCons (fVar 4) (fCons (fVar 5) fNil)))) (fCons (fVar 6) fNil)))) fNil)) (fCallF [false] (F_d24_law_shown w) (fCons (fCallF [false, false, false] (F_d23_law_joined w) (fCons (fVar 3) (fCons (fVar 4) (fCons (fCallF [false, false, false] (F_d23_law_joined w) (fCons (fVar 3) (fCons (fVar 5) (fCons (fVar 6) fNil)))) fNil)))) fNil))))) (gRet (fC (.bl false))) gNext)
  (gSeq (gIf (fOr (fNot (fB (fCallF [false, false] (F_d20_law_same w) (fCons (fCallF [false, false, false, false] (F_d27_law_told w) (fCons (fC (.int 0)) (fCons (fVar 3) (fCons (fVar 7) (fCons (fVar 8) fNil))))) (fCons (fTup (fCons (fC (.str "told")) (fCons (fVar 9) fNil))) fNil))))) (fNot (fB (fCallF [false, false] (F_d20_law_same w) (fCons (fCallF [false, false, false, false] (F_d27_law_told w) (fCons (fC (.int 0)) (fCons (fVar 3) (fCons (fVar 8) (fCons (fVar 7) fNil))))) (fCons (fTup (fCons (fC (.str "told")) (fCons (fVar 9) fNil))) fNil)))))) (gRet (fC (.bl false))) gNext)
  (gSeq (gFor (fItA (fTup (fCons (fVar 7) (fCons (fVar 8) (fCons (fVar 9) fNil))))) (.nm 10) (gIf (fNot (fB (fCallF [false, false] (F_d20_law_same w) (fCons (fCallF [false, false, false, false] (F_d27_law_told w) (fCons (fC (.int 1)) (fCons (fVar 3) (fCons (fVar 10) (fCons (fC .non) fNil))))) (fCons (fTup (fCons (fC (.str "told")) (fCons (fMeth "dict" dgetM (fCallF [false] (F_d25_law_dict w) (fCons (fVar 10) fNil)) (fCons (fTup (fCons (fOp subD (fVar 3) (fC (.int 1))) (fCons (fOp subD (fVar 3) (fC (.int 1))) fNil))) (fCons (fC (.int 0)) fNil))) fNil))) fNil))))) (gRet (fC (.bl false))) gNext))
  (gSeq (gPar2 11 12 (fCons (fLst fNil) (fCons (fFrz (fDis1 (fTup (fCons (fC (.int 0)) (fCons (fC (.int 0)) fNil))) (fC (.int 1)))) fNil)))
  (gSeq (gFor (fRng1 (fCons (fCallF [true, false] (F_d15_law_take w) (fCons (fVar 1) (fCons (fC (.int 8)) fNil))) fNil)) (.nm 13) (gSeq (gSet 14 (fCallF [true, false] (F_d15_law_take w) (fCons (fVar 1) (fCons (fCall minD (fCons (fVar 3) (fCons (fC (.int 3)) fNil))) fNil))))
  (gSeq (gDrop (fMut "list" appendM 11 (fCons (fTup (fCons (fVar 14) (fCons (fCallF [true, false] (F_d15_law_take w) (fCons (fVar 1) (fCons (fOp addD (fVar 14) (fC (.int 1))) fNil))) fNil))) fNil)))
  (gSet 12 (fCallF [false, false, false] (F_d23_law_joined w) (fCons (fVar 3) (fCons (fVar 12) (fCons (fFrz (fDis1 (fOp ixA (fVar 11) (fUn negD (fC (.int 1)))) (fC (.int 1)))) fNil))))))))
  (gSeq (gIf (fNot (fB (fCallF [false, false] (F_d20_law_same w) (fCons (fCallF [false, false, false, false] (F_d27_law_told w) (fCons (fC (.int 2)) (fCons (fVar 3) (fCons (fCall tupleD (fCons (fVar 11) fNil)) (fCons (fC .non) fNil))))) (fCons (fTup (fCons (fC (.str "told")) (fCons (fMeth "dict" dgetM (fVar 12) (fCons (fTup (fCons (fOp subD (fVar 3) (fC (.int 1))) (fCons (fOp subD (fVar 3) (fC (.int 1))) fNil))) (fCons (fC (.int 0)) fNil))) fNil))) fNil))))) (gRet (fC (.bl false))) gNext)
  (gSeq (gSet 15 (fOp divD (fCallF [false] (F_d28_law_factorial w) (fCons (fOp subD (fOp mulD (fC (.int 2)) (fVar 3)) (fC (.int 2))) fNil)) (fOp mulD (fCallF [false] (F_d28_law_factorial w) (fCons (fVar 3) fNil)) (fCallF [false] (F_d28_law_factorial w) (fCons (fOp subD (fVar 3) (fC (.int 1))) fNil)))))
  (gSeq (gIf (fNot (fB (fCallF [false, false] (F_d20_law_same w) (fCons (fCallF [false, false, false, false] (F_d27_law_told w) (fCons (fC (.int 2)) (fCons (fVar 3) (fCons (fOp mulD (fTup (fCons (fTup (fCons (fC (.int 1)) (fCons (fC (.int 0)) fNil))) fNil)) (fOp subD (fOp mulD (fC (.int 2)) (fVar 3)) (fC (.int 2)))) (fCons (fC .non) fNil))))) (fCons (fTup (fCons (fC (.str "told")) (fCons (fVar 15) fNil))) fNil))))) (gRet (fC (.bl false))) gNext)
  (gSeq (gSet 16 (fFrz (fLst (fCons (fVar 7) (fCons (fVar 9) (fCons (fFrz (fCall listA (fCons (fVar 7) fNil))) (fCons (fFrz (fOp addD (fVar 7) (fSlice (fVar 7) (fPart (fUn negD (fC (.int 1)))) fNoPart))) (fCons (fFrz (fUn revD (fVar 7))) (fCons (fTup (fCons (fTup (fCons (fTup (fCons (fC (.int 0)) (fCons (fC (.int 0)) fNil))) (fCons (fC (.int 0)) fNil))) fNil)) (fCons (fTup (fCons (fTup (fCons (fTup (fCons (fC (.int 0)) (fCons (fC (.int 0)) fNil))) (fCons (fC (.bl true)) fNil))) fNil)) (fCons (fTup (fCons (fTup (fCons (fTup (fCons (fVar 3) (fCons (fC (.int 0)) fNil))) (fCons (fC (.int 1)) fNil))) fNil)) (fCons (fTup (fCons (fTup (fCons (fTup (fCons (fC (.int 0)) (fCons (fC (.int 1)) fNil))) (fCons (fC (.int 1)) fNil))) fNil)) (fCons (fTup (fCons (fTup (fCons (fTup (fCons (fC (.int 1)) (fCons (fUn negD (fC (.int 1))) fNil))) (fCons (fC (.int 1)) fNil))) fNil)) fNil)))))))))))))
  (gSeq (gSet 16 (fFrz (fOp addD (fVar 16) (fLst (fCons (fTup (fCons (fTup (fCons (fTup (fCons (fC (.int 0)) (fCons (fC (.int 0)) fNil))) fNil)) fNil)) (fCons (fTup (fCons (fTup (fCons (fC (.int 0)) (fCons (fC (.int 0)) fNil))) (fCons (fC (.int 1)) fNil))) (fCons (fC .non) (fCons (fC (.int 5)) (fCons (fTup (fCons (fTup (fCons (fTup (fCons (fC (.int 0)) (fCons (fC (.int 0)) fNil))) (fCons (fC (.int 1)) (fCons (fC (.int 1)) fNil)))) fNil)) (fCons (fTup (fCons (fFrz (fLst (fCons (fTup (fCons (fC (.int 0)) (fCons (fC (.int 0)) fNil))) (fCons (fC (.int 1)) fNil)))) fNil)) (fCons (fTup (fCons (fTup (fCons (fTup (fCons (fC (.int 0)) (fCons (fC (.int 0)) fNil))) (fCons (fC (.str "1")) fNil))) fNil)) (fCons (fTup (fCons (fTup (fCons (fTup (fCons (fC (.int 0)) (fCons (fC (.int 0)) (fCons (fC (.int 0)) fNil)))) (fCons (fC (.int 1)) fNil))) fNil)) fNil))))))))))))
  (gSeq (gFor (fItA (fVar 16)) (.nm 17) (gSeq (gSet 18 (fCallF [false, false] (F_d22_law_is_sum w) (fCons (fVar 3) (fCons (fVar 17) fNil))))
  (gSeq (gIf (fNot (fB (fCallF [false, false] (F_d18_law_says w) (fCons (fCallF [false, false] (F_d3_is_condition_sum w) (fCons (fVar 3) (fCons (fVar 17) fNil))) (fCons (fVar 18) fNil))))) (gRet (fC (.bl false))) gNext)
  (gIf (fAnd (fNot (fB (fVar 18))) (fOr (fB (fOp (cmpB neD) (fOp ixA (fCallF [false, false, false, false] (F_d27_law_told w) (fCons (fC (.int 0)) (fCons (fVar 3) (fCons (fVar 17) (fCons (fVar 7) fNil))))) (fC (.int 0))) (fC (.str "malformed")))) (fOr (fB (fOp (cmpB neD) (fOp ixA (fCallF [false, false, false, false] (F_d27_law_told w) (fCons (fC (.int 0)) (fCons (fVar 3) (fCons (fVar 7) (fCons (fVar 17) fNil))))) (fC (.int 0))) (fC (.str "malformed")))) (fB (fOp (cmpB neD) (fOp ixA (fCallF [false, false, false, false] (F_d27_law_told w) (fCons (fC (.int 1)) (fCons (fVar 3) (fCons (fVar 17) (fCons (fC .non) fNil))))) (fC (.int 0))) (fC (.str "malformed"))))))) (gRet (fC (.bl false))) gNext))))
  (gFor (fItA (fFrz (fLst (fCons (fC .non) (fCons (fC (.int 5)) (fCons (fFrz (fLst (fCons (fTup (fCons (fC (.int 1)) (fCons (fC (.int 0)) fNil))) fNil))) (fCons (fTup (fCons (fTup (fCons (fVar 3) (fCons (fC (.int 0)) fNil))) fNil)) (fCons (fTup (fCons (fTup (fCons (fC (.int 0)) (fCons (fC (.int 1)) fNil))) fNil)) (fCons (fTup (fCons (fTup (fCons (fC (.int 1)) (fCons (fC (.int 0)) (fCons (fC (.int 0)) fNil)))) fNil)) (fCons (fOp mulD (fTup (fCons (fTup (fCons (fC (.int 0)) (fCons (fC (.int 0)) fNil))) fNil)) (fC (.int 21))) (fCons (fTup (fCons (fTup (fCons (fC (.bl true)) (fCons (fC (.int 0)) fNil))) fNil)) (fCons (fTup (fCons (fC (.int 1)) (fCons (fC (.int 0)) fNil))) (fCons (fTup (fCons (fTup (fCons (fUn negD (fC (.int 1))) (fCons (fUn negD (fC (.int 1))) fNil))) fNil)) fNil))))))))))))) (.nm 19) (gIf (fB (fOp (cmpB neD) (fOp ixA (fCallF [false, false, false, false] (F_d27_law_told w) (fCons (fC (.int 2)) (fCons (fVar 3) (fCons (fVar 19) (fCons (fC .non) fNil))))) (fC (.int 0))) (fC (.str "malformed")))) (gRet (fC (.bl false))) gNext))))))))))))))))))
  (gSeq (gFor (fItA (fFrz (fLst (fCons (fC (.int 1)) (fCons (fC (.int 9)) (fCons (fC (.int 0)) (fCons (fC .non) (fCons (fC (.bl true)) (fCons (fC (.str "3")) fNil))))))))) (.nm 19) (gIf (fOr (fB (fOp (cmpB isNotD) (fCallF [false, false] (F_d3_is_condition_sum w) (fCons (fVar 19) (fCons (fTup fNil) fNil))) (fC (.bl false)))) (fB (fOp (cmpB neD) (fLc (fRng1 (fCons (fC (.int 3)) fNil)) (.nm 20) fYes (fOp ixA (fCallF [false, false, false, false] (F_d27_law_told w) (fCons (fVar 20) (fCons (fVar 19) (fCons (fTup fNil) (fCons (fTup fNil) fNil))))) (fC (.int 0))) [20]) (fOp mulD (fLst (fCons (fC (.str "malformed")) fNil)) (fC (.int 3)))))) (gRet (fC (.bl false))) gNext))
  (gRet (fC (.bl true))))))
noncomputable def F_d29_law (w : World) : FD := runF [false] 21 (m_d29_law w)
theorem sc_d29_law : FnScope ["script", "state", "turn", "n", "f", "g", "h", "one", "two", "both", "own", "rows", "product", "step", "a", "due", "tries", "value", "good", "bad", "which"] ["script"] (defScope (topS 38)) := ⟨rfl, rfl, rfl, by decide +kernel, rfl, by decide +kernel, by decide +kernel⟩
theorem bd_d29_law {K : PySem.W.Frag} {mg : Str → Option Value} {fa : Nat → Addr} {fd : Nat → FuncData} {C : Addr × Addr} (T : Txt K mg fa fd C) : Binds K (fd 29) ["script"] [] := T.F_d29_law.binds fun _ _ _ _ _ _ us hl => match us, hl with | [_], _ => rfl
theorem ok_d29_law {P : Program} {w : World} {K : PySem.W.Frag} {mg : Str → Option Value} {base : Heap} {fa : Nat → Addr} {fd : Nat → FuncData} {C : Addr × Addr} (T : Txt K mg fa fd C) : FnOk P w K mg base CX0 15 (fa 29) (fd 29) ["script"] (sp0 K w [false] (F_d29_law w)) := by
    exact fn_ok T.F_d29_law sc_d29_law rfl (fun cdv A outer s H E hr =>
    (dss_cons (ds_set (i := 1) sc_d29_law.nd rfl (by first | exact Or.inl rfl | exact Or.inr rfl) (de_call (ok_d14_law_state T) (hr.mono (by decide)) T.g_d14_law_state T.F_d14_law_state.kp (bd_d14_law_state T) (da_cons (dv 0) da_nil)))
    (dss_cons (ds_for PassesOwn.never rfl (di_rng1 T.n_range (da_cons de_int da_nil)) (dg_name (i := 2) sc_d29_law.nd rfl (by first | exact Or.inl rfl | exact Or.inr rfl)) (dss_cons (ds_set (i := 3) sc_d29_law.nd rfl (by first | exact Or.inl rfl | exact Or.inr rfl) (de_op op_addD de_int (de_call (ok_d15_law_take T) (hr.mono (by decide)) T.g_d15_law_take T.F_d15_law_take.kp (bd_d15_law_take T) (da_cons (dv 1) (da_cons de_int da_nil)))))
    (dss_cons (ds_par3 (i := 4) (j := 5) (l := 6) rfl sc_d29_law.nd rfl rfl rfl (by decide) (by decide) (by decide) rfl rfl rfl (da_cons (de_call (ok_d26_law_drawn_sum T) (hr.mono (by decide)) T.g_d26_law_drawn_sum T.F_d26_law_drawn_sum.kp (bd_d26_law_drawn_sum T) (da_cons (dv 1) (da_cons (dv 3) da_nil))) (da_cons (de_call (ok_d26_law_drawn_sum T) (hr.mono (by decide)) T.g_d26_law_drawn_sum T.F_d26_law_drawn_sum.kp (bd_d26_law_drawn_sum T) (da_cons (dv 1) (da_cons (dv 3) da_nil))) (da_cons (de_call (ok_d26_law_drawn_sum T) (hr.mono (by decide)) T.g_d26_law_drawn_sum T.F_d26_law_drawn_sum.kp (bd_d26_law_drawn_sum T) (da_cons (dv 1) (da_cons (dv 3) da_nil))) da_nil))) rfl)
    (dss_cons (ds_par2 (i := 7) (j := 8) rfl sc_d29_law.nd rfl rfl (by decide) rfl rfl (da_cons (de_call (ok_d24_law_shown T) (hr.mono (by decide)) T.g_d24_law_shown T.F_d24_law_shown.kp (bd_d24_law_shown T) (da_cons (dv 4) da_nil)) (da_cons (de_call (ok_d24_law_shown T) (hr.mono (by decide)) T.g_d24_law_shown T.F_d24_law_shown.kp (bd_d24_law_shown T) (da_cons (dv 5) da_nil)) da_nil)) rfl)
    (dss_cons (ds_set (i := 9) sc_d29_law.nd rfl (by first | exact Or.inl rfl | exact Or.inr rfl) (de_call (ok_d24_law_shown T) (hr.mono (by decide)) T.g_d24_law_shown T.F_d24_law_shown.kp (bd_d24_law_shown T) (da_cons (de_call (ok_d23_law_joined T) (hr.mono (by decide)) T.g_d23_law_joined T.F_d23_law_joined.kp (bd_d23_law_joined T) (da_cons (dv 3) (da_cons (dv 4) (da_cons (dv 5) da_nil)))) da_nil)))
    (dss_cons (ds_if (dt_bool (dw_or (dt_cmp (op_neDD hr.units) (de_call (ok_d24_law_shown T) (hr.mono (by decide)) T.g_d24_law_shown T.F_d24_law_shown.kp (bd_d24_law_shown T) (da_cons (de_call (ok_d23_law_joined T) (hr.mono (by decide)) T.g_d23_law_joined T.F_d23_law_joined.kp (bd_d23_law_joined T) (da_cons (dv 3) (da_cons (dv 5) (da_cons (dv 4) da_nil)))) da_nil)) (dv 9) (nomark _)) (dw_or1 (dt_cmp (op_neDD hr.units) (de_call (ok_d24_law_shown T) (hr.mono (by decide)) T.g_d24_law_shown T.F_d24_law_shown.kp (bd_d24_law_shown T) (da_cons (de_call (ok_d23_law_joined T) (hr.mono (by decide)) T.g_d23_law_joined T.F_d23_law_joined.kp (bd_d23_law_joined T) (da_cons (dv 3) (da_cons (de_call (ok_d23_law_joined T) (hr.mono (by decide)) T.g_d23_law_joined T.F_d23_law_joined.kp (bd_d23_law_joined T) (da_cons (dv 3) (da_cons (dv 4) (da_cons (dv 5) da_nil)))) (da_cons (dv 6) da_nil)))) da_nil)) (de_call (ok_d24_law_shown T) (hr.mono (by decide)) T.g_d24_law_shown T.F_d24_law_shown.kp (bd_d24_law_shown T) (da_cons (de_call (ok_d23_law_joined T) (hr.mono (by decide)) T.g_d23_law_joined T.F_d23_law_joined.kp (bd_d23_law_joined T) (da_cons (dv 3) (da_cons (dv 4) (da_cons (de_call (ok_d23_law_joined T) (hr.mono (by decide)) T.g_d23_law_joined T.F_d23_law_joined.kp (bd_d23_law_joined T) (da_cons (dv 3) (da_cons (dv 5) (da_cons (dv 6) da_nil)))) da_nil)))) da_nil)) (nomark _))))) (dss_one (ds_ret de_bl)) dss_nil)
    (dss_cons (ds_if (dt_bool (dw_or (dt_not (dt_val (de_call (ok_d20_law_same T) (hr.mono (by decide)) T.g_d20_law_same T.F_d20_law_same.kp (bd_d20_law_same T) (da_cons (de_call (ok_d27_law_told T) (hr.mono (by decide)) T.g_d27_law_told T.F_d27_law_told.kp (bd_d27_law_told T) (da_cons de_int (da_cons (dv 3) (da_cons (dv 7) (da_cons (dv 8) da_nil))))) (da_cons (de_tup (da_cons de_str (da_cons (dv 9) da_nil))) da_nil))))) (dw_or1 (dt_not (dt_val (de_call (ok_d20_law_same T) (hr.mono (by decide)) T.g_d20_law_same T.F_d20_law_same.kp (bd_d20_law_same T) (da_cons (de_call (ok_d27_law_told T) (hr.mono (by decide)) T.g_d27_law_told T.F_d27_law_told.kp (bd_d27_law_told T) (da_cons de_int (da_cons (dv 3) (da_cons (dv 8) (da_cons (dv 7) da_nil))))) (da_cons (de_tup (da_cons de_str (da_cons (dv 9) da_nil))) da_nil)))))))) (dss_one (ds_ret de_bl)) dss_nil)
    (dss_cons (ds_for PassesOwn.never rfl (di_seq (de_tup (da_cons (dv 7) (da_cons (dv 8) (da_cons (dv 9) da_nil))))) (dg_name (i := 10) sc_d29_law.nd rfl (by first | exact Or.inl rfl | exact Or.inr rfl)) (dss_one (ds_if (dt_not (dt_val (de_call (ok_d20_law_same T) (hr.mono (by decide)) T.g_d20_law_same T.F_d20_law_same.kp (bd_d20_law_same T) (da_cons (de_call (ok_d27_law_told T) (hr.mono (by decide)) T.g_d27_law_told T.F_d27_law_told.kp (bd_d27_law_told T) (da_cons de_int (da_cons (dv 3) (da_cons (dv 10) (da_cons de_non da_nil))))) (da_cons (de_tup (da_cons de_str (da_cons (de_meth PySem.F.plainAttrs_dict PySem.F.slot_dict_get PySem.F.type_dict_get (mt_get hr.units) (de_call (ok_d25_law_dict T) (hr.mono (by decide)) T.g_d25_law_dict T.F_d25_law_dict.kp (bd_d25_law_dict T) (da_cons (dv 10) da_nil)) (da_cons (de_tup (da_cons (de_op op_subD (dv 3) de_int) (da_cons (de_op op_subD (dv 3) de_int) da_nil))) (da_cons de_int da_nil))) da_nil))) da_nil))))) (dss_one (ds_ret de_bl)) dss_nil)))
    (dss_cons (ds_par2 (i := 11) (j := 12) rfl sc_d29_law.nd rfl rfl (by decide) rfl rfl (da_cons (de_lst da_nil) (da_cons (dfr (de_dis1 hr.units (de_tup (da_cons de_int (da_cons de_int da_nil))) de_int)) da_nil)) rfl)
    (dss_cons (ds_for PassesOwn.never rfl (di_rng1 T.n_range (da_cons (de_call (ok_d15_law_take T) (hr.mono (by decide)) T.g_d15_law_take T.F_d15_law_take.kp (bd_d15_law_take T) (da_cons (dv 1) (da_cons de_int da_nil))) da_nil)) (dg_name (i := 13) sc_d29_law.nd rfl (by first | exact Or.inl rfl | exact Or.inr rfl)) (dss_cons (ds_set (i := 14) sc_d29_law.nd rfl (by first | exact Or.inl rfl | exact Or.inr rfl) (de_call (ok_d15_law_take T) (hr.mono (by decide)) T.g_d15_law_take T.F_d15_law_take.kp (bd_d15_law_take T) (da_cons (dv 1) (da_cons (de_cb (cr_minD rfl) rfl T.n_min (by decide +kernel) (da_cons (dv 3) (da_cons de_int da_nil))) da_nil))))
    (dss_cons (ds_expr (de_mut PySem.F.plainAttrs_list PySem.F.slot_list_append PySem.F.type_list_append mt_appendM (dv 11) (da_cons (de_tup (da_cons (dv 14) (da_cons (de_call (ok_d15_law_take T) (hr.mono (by decide)) T.g_d15_law_take T.F_d15_law_take.kp (bd_d15_law_take T) (da_cons (dv 1) (da_cons (de_op op_addD (dv 14) de_int) da_nil))) da_nil))) da_nil)))
    (dss_one (ds_set (i := 12) sc_d29_law.nd rfl (by first | exact Or.inl rfl | exact Or.inr rfl) (de_call (ok_d23_law_joined T) (hr.mono (by decide)) T.g_d23_law_joined T.F_d23_law_joined.kp (bd_d23_law_joined T) (da_cons (dv 3) (da_cons (dv 12) (da_cons (dfr (de_dis1 hr.units (de_ixA hr.units (dv 11) (de_un un_negD de_int) (by intro _ _; rfl)) de_int)) da_nil)))))))))
    (dss_cons (ds_if (dt_not (dt_val (de_call (ok_d20_law_same T) (hr.mono (by decide)) T.g_d20_law_same T.F_d20_law_same.kp (bd_d20_law_same T) (da_cons (de_call (ok_d27_law_told T) (hr.mono (by decide)) T.g_d27_law_told T.F_d27_law_told.kp (bd_d27_law_told T) (da_cons de_int (da_cons (dv 3) (da_cons (de_ct cr_tupleD rfl T.n_tuple (by decide +kernel) (da_cons (dv 11) da_nil)) (da_cons de_non da_nil))))) (da_cons (de_tup (da_cons de_str (da_cons (de_meth PySem.F.plainAttrs_dict PySem.F.slot_dict_get PySem.F.type_dict_get (mt_get hr.units) (dv 12) (da_cons (de_tup (da_cons (de_op op_subD (dv 3) de_int) (da_cons (de_op op_subD (dv 3) de_int) da_nil))) (da_cons de_int da_nil))) da_nil))) da_nil))))) (dss_one (ds_ret de_bl)) dss_nil)
    (dss_cons (ds_set (i := 15) sc_d29_law.nd rfl (by first | exact Or.inl rfl | exact Or.inr rfl) (de_op op_divD (de_call (ok_d28_law_factorial T) (hr.mono (by decide)) T.g_d28_law_factorial T.F_d28_law_factorial.kp (bd_d28_law_factorial T) (da_cons (de_op op_subD (de_op op_mulD de_int (dv 3)) de_int) da_nil)) (de_op op_mulD (de_call (ok_d28_law_factorial T) (hr.mono (by decide)) T.g_d28_law_factorial T.F_d28_law_factorial.kp (bd_d28_law_factorial T) (da_cons (dv 3) da_nil)) (de_call (ok_d28_law_factorial T) (hr.mono (by decide)) T.g_d28_law_factorial T.F_d28_law_factorial.kp (bd_d28_law_factorial T) (da_cons (de_op op_subD (dv 3) de_int) da_nil)))))
    (dss_cons (ds_if (dt_not (dt_val (de_call (ok_d20_law_same T) (hr.mono (by decide)) T.g_d20_law_same T.F_d20_law_same.kp (bd_d20_law_same T) (da_cons (de_call (ok_d27_law_told T) (hr.mono (by decide)) T.g_d27_law_told T.F_d27_law_told.kp (bd_d27_law_told T) (da_cons de_int (da_cons (dv 3) (da_cons (de_op op_mulD (de_tup (da_cons (de_tup (da_cons de_int (da_cons de_int da_nil))) da_nil)) (de_op op_subD (de_op op_mulD de_int (dv 3)) de_int)) (da_cons de_non da_nil))))) (da_cons (de_tup (da_cons de_str (da_cons (dv 15) da_nil))) da_nil))))) (dss_one (ds_ret de_bl)) dss_nil)
    (dss_cons (ds_set (i := 16) sc_d29_law.nd rfl (by first | exact Or.inl rfl | exact Or.inr rfl) (dfr (de_lst (da_cons (dv 7) (da_cons (dv 9) (da_cons (dfr (de_ct (cr_listA rfl) rfl T.n_list (by decide +kernel) (da_cons (dv 7) da_nil))) (da_cons (dfr (de_op op_addD (dv 7) (de_slice (dv 7) (do_some (de_un un_negD de_int)) do_none))) (da_cons (dfr (de_rev (dv 7))) (da_cons (de_tup (da_cons (de_tup (da_cons (de_tup (da_cons de_int (da_cons de_int da_nil))) (da_cons de_int da_nil))) da_nil)) (da_cons (de_tup (da_cons (de_tup (da_cons (de_tup (da_cons de_int (da_cons de_int da_nil))) (da_cons de_bl da_nil))) da_nil)) (da_cons (de_tup (da_cons (de_tup (da_cons (de_tup (da_cons (dv 3) (da_cons de_int da_nil))) (da_cons de_int da_nil))) da_nil)) (da_cons (de_tup (da_cons (de_tup (da_cons (de_tup (da_cons de_int (da_cons de_int da_nil))) (da_cons de_int da_nil))) da_nil)) (da_cons (de_tup (da_cons (de_tup (da_cons (de_tup (da_cons de_int (da_cons (de_un un_negD de_int) da_nil))) (da_cons de_int da_nil))) da_nil)) da_nil)))))))))))))
    (dss_cons (ds_set (i := 16) sc_d29_law.nd rfl (by first | exact Or.inl rfl | exact Or.inr rfl) (dfr (de_op op_addD (dv 16) (de_lst (da_cons (de_tup (da_cons (de_tup (da_cons (de_tup (da_cons de_int (da_cons de_int da_nil))) da_nil)) da_nil)) (da_cons (de_tup (da_cons (de_tup (da_cons de_int (da_cons de_int da_nil))) (da_cons de_int da_nil))) (da_cons de_non (da_cons de_int (da_cons (de_tup (da_cons (de_tup (da_cons (de_tup (da_cons de_int (da_cons de_int da_nil))) (da_cons de_int (da_cons de_int da_nil)))) da_nil)) (da_cons (de_tup (da_cons (dfr (de_lst (da_cons (de_tup (da_cons de_int (da_cons de_int da_nil))) (da_cons de_int da_nil)))) da_nil)) (da_cons (de_tup (da_cons (de_tup (da_cons (de_tup (da_cons de_int (da_cons de_int da_nil))) (da_cons de_str da_nil))) da_nil)) (da_cons (de_tup (da_cons (de_tup (da_cons (de_tup (da_cons de_int (da_cons de_int (da_cons de_int da_nil)))) (da_cons de_int da_nil))) da_nil)) da_nil))))))))))))
    (dss_cons (ds_for PassesOwn.never rfl (di_seq (dv 16)) (dg_name (i := 17) sc_d29_law.nd rfl (by first | exact Or.inl rfl | exact Or.inr rfl)) (dss_cons (ds_set (i := 18) sc_d29_law.nd rfl (by first | exact Or.inl rfl | exact Or.inr rfl) (de_call (ok_d22_law_is_sum T) (hr.mono (by decide)) T.g_d22_law_is_sum T.F_d22_law_is_sum.kp (bd_d22_law_is_sum T) (da_cons (dv 3) (da_cons (dv 17) da_nil))))
    (dss_cons (ds_if (dt_not (dt_val (de_call (ok_d18_law_says T) (hr.mono (by decide)) T.g_d18_law_says T.F_d18_law_says.kp (bd_d18_law_says T) (da_cons (de_call (ok_d3_is_condition_sum T) (hr.mono (by decide)) T.g_d3_is_condition_sum T.F_d3_is_condition_sum.kp (bd_d3_is_condition_sum T) (da_cons (dv 3) (da_cons (dv 17) da_nil))) (da_cons (dv 18) da_nil))))) (dss_one (ds_ret de_bl)) dss_nil)
    (dss_one (ds_if (dt_bool (dw_and (dt_not (dt_val (dv 18))) (dw_and1 (dt_bool (dw_or (dt_cmp (op_neDD hr.units) (de_ixA hr.units (de_call (ok_d27_law_told T) (hr.mono (by decide)) T.g_d27_law_told T.F_d27_law_told.kp (bd_d27_law_told T) (da_cons de_int (da_cons (dv 3) (da_cons (dv 17) (da_cons (dv 7) da_nil))))) de_int (by intro _ _; rfl)) de_str (nomark _)) (dw_or (dt_cmp (op_neDD hr.units) (de_ixA hr.units (de_call (ok_d27_law_told T) (hr.mono (by decide)) T.g_d27_law_told T.F_d27_law_told.kp (bd_d27_law_told T) (da_cons de_int (da_cons (dv 3) (da_cons (dv 7) (da_cons (dv 17) da_nil))))) de_int (by intro _ _; rfl)) de_str (nomark _)) (dw_or1 (dt_cmp (op_neDD hr.units) (de_ixA hr.units (de_call (ok_d27_law_told T) (hr.mono (by decide)) T.g_d27_law_told T.F_d27_law_told.kp (bd_d27_law_told T) (da_cons de_int (da_cons (dv 3) (da_cons (dv 17) (da_cons de_non da_nil))))) de_int (by intro _ _; rfl)) de_str (nomark _))))))))) (dss_one (ds_ret de_bl)) dss_nil)))))
    (dss_one (ds_for PassesOwn.never rfl (di_seq (dfr (de_lst (da_cons de_non (da_cons de_int (da_cons (dfr (de_lst (da_cons (de_tup (da_cons de_int (da_cons de_int da_nil))) da_nil))) (da_cons (de_tup (da_cons (de_tup (da_cons (dv 3) (da_cons de_int da_nil))) da_nil)) (da_cons (de_tup (da_cons (de_tup (da_cons de_int (da_cons de_int da_nil))) da_nil)) (da_cons (de_tup (da_cons (de_tup (da_cons de_int (da_cons de_int (da_cons de_int da_nil)))) da_nil)) (da_cons (de_op op_mulD (de_tup (da_cons (de_tup (da_cons de_int (da_cons de_int da_nil))) da_nil)) de_int) (da_cons (de_tup (da_cons (de_tup (da_cons de_bl (da_cons de_int da_nil))) da_nil)) (da_cons (de_tup (da_cons de_int (da_cons de_int da_nil))) (da_cons (de_tup (da_cons (de_tup (da_cons (de_un un_negD de_int) (da_cons (de_un un_negD de_int) da_nil))) da_nil)) da_nil))))))))))))) (dg_name (i := 19) sc_d29_law.nd rfl (by first | exact Or.inl rfl | exact Or.inr rfl)) (dss_one (ds_if (dt_cmp (op_neDD hr.units) (de_ixA hr.units (de_call (ok_d27_law_told T) (hr.mono (by decide)) T.g_d27_law_told T.F_d27_law_told.kp (bd_d27_law_told T) (da_cons de_int (da_cons (dv 3) (da_cons (dv 19) (da_cons de_non da_nil))))) de_int (by intro _ _; rfl)) de_str (nomark _)) (dss_one (ds_ret de_bl)) dss_nil))))))))))))))))))))
    (dss_cons (ds_for PassesOwn.never rfl (di_seq (dfr (de_lst (da_cons de_int (da_cons de_int (da_cons de_int (da_cons de_non (da_cons de_bl (da_cons de_str da_nil))))))))) (dg_name (i := 19) sc_d29_law.nd rfl (by first | exact Or.inl rfl | exact Or.inr rfl)) (dss_one (ds_if (dt_bool (dw_or (dt_cmp op_isNotDD (de_call (ok_d3_is_condition_sum T) (hr.mono (by decide)) T.g_d3_is_condition_sum T.F_d3_is_condition_sum.kp (bd_d3_is_condition_sum T) (da_cons (dv 19) (da_cons (de_tup da_nil) da_nil))) de_bl (nomark _)) (dw_or1 (dt_cmp (op_neDD hr.units) (de_lc (own := [("which", 20)]) rfl sc_d29_law.nd (di_rng1 T.n_range (da_cons de_int da_nil)) (blkOk_by (N := ["script", "state", "turn", "n", "f", "g", "h", "one", "two", "both", "own", "rows", "product", "step", "a", "due", "tries", "value", "good", "bad", "which"]) (sc := (defScope (topS 38))) (by decide +kernel)) (fun _ _ _ _ _ => (dg_name (i := 20) sc_d29_law.nd rfl (by first | exact Or.inl rfl | exact Or.inr rfl))) (fun _ _ _ _ _ => dts_nil) (fun _ _ _ _ _ => (de_ixA hr.units (de_call (ok_d27_law_told T) (hr.mono (by decide)) T.g_d27_law_told T.F_d27_law_told.kp (bd_d27_law_told T) (da_cons (dv 20) (da_cons (dv 19) (da_cons (de_tup da_nil) (da_cons (de_tup da_nil) da_nil))))) de_int (by intro _ _; rfl)))) (de_op op_mulD (de_lst (da_cons de_str da_nil)) de_int) (nomark _))))) (dss_one (ds_ret de_bl)) dss_nil)))
    (dss_one (ds_ret de_bl))))))
end K56

set_option Elab.async false
set_option linter.all false
set_option maxRecDepth 100000
set_option maxHeartbeats 2000000
namespace K56
open PySem PySem.Spec PyProof.Rows L2 DL MB
variable (w : World)
theorem is_integer_int (i : Int) : F_d0_is_integer w [.int i] = some (.ok (.val (.bl true)) []) := by
  apply wf_eq
  unfold F_d0_is_integer m_d0_is_integer
  refine wf_run ?_
  repeat' (first | refine ⟨_, _, _, rfl, rfl, MB.getM_P _ _ _ _, ?_⟩ | refine we_im rfl ?_ | refine we_mu rfl ?_ | refine we_op ?_ | refine we_un ?_ | refine we_cb ?_ | refine we_cbS ?_ | refine we_frzV ?_ | refine wa_nil ?_ | refine wa_cons ?_ | refine we_tup ?_ | refine we_lst ?_ | refine we_newT ?_ | refine we_dis1 ?_ | refine we_meth ?_ | refine we_if ?_ | refine we_and ?_ | refine we_or ?_ | refine we_not ?_ | refine we_chain ?_ | refine we_chain3 ?_ | refine wo_none ?_ | refine wo_some ?_ | refine we_slice ?_ | refine we_call ?_ | refine we_c ?_ | refine wt_b ?_ | refine wt_and ?_ | refine wt_or ?_ | refine wt_not ?_ | refine wt_yes ?_ | refine wp_seq ?_ | refine wp_if ?_ | refine wp_ret ?_ | refine wp_drop ?_ | refine wp_set ?_ | refine wp_store ?_ | refine wp_asgP ?_ | refine wp_par2 ?_ | refine wp_par3 ?_ | refine wp_next ?_ | refine wp_raise ?_ | refine wp_retN ?_ | refine wx_of ?_ | refine wxs_nil ?_ | refine wxs_cons ?_ | refine wx_tup ?_ | refine wx_if ?_ | refine wx_call ?_ | refine wx_callX ?_ | refine wp_retX ?_ | refine wp_dropX ?_ | refine ev_len rfl rfl ?_ | refine ⟨_, _, _, rfl, rfl, rfl, ?_⟩ | refine ⟨_, _, rfl, rfl, ?_⟩ | refine ⟨_, rfl, rfl, ?_⟩ | refine ⟨_, rfl, ?_⟩ | refine .inl ⟨_, rfl, ?_⟩ | refine .inr (.inl ⟨_, rfl, ?_⟩) | refine .inr (.inr ⟨_, _, rfl, rfl, ?_⟩) | refine .inr ⟨_, rfl, ?_⟩ | refine ⟨_, rfl, by first | decide | (simp; done), ?_⟩ | refine ev_args rfl ?_ | refine .inl ⟨_, _, rfl, ?_⟩ | refine .inr ⟨_, _, rfl, ?_⟩ | refine ev_par3 rfl ?_ | refine end_rt ⟨_, _, rfl, rfl, ?_⟩ | refine end_nx ⟨_, rfl, ?_⟩ | refine end_ex ⟨_, rfl, ?_⟩ | refine then_nx ?_ | refine then_rt ?_ | refine then_ex ?_ | refine turn_nx ?_ | refine turn_rt ?_ | refine b1 ?_ | refine b0 ?_ | refine ⟨_, _, _, rfl, rfl, mulD_int (mulOk_small (by decide) (by decide)), ?_⟩ | refine ⟨_, _, _, rfl, rfl, MB.ixA_P (by assumption), ?_⟩ | refine ⟨_, _, _, rfl, rfl, MB.stD_P (by first | assumption | omega), ?_⟩ | fail)
  rfl
def takeV (s : Int × Int) (m : Int) : Int := if 0 < s.1 then s.1.fmod m else (((s.2 * 48271 + 11).fmod 2147483647).fdiv 7).fmod m
def takeS (s : Int × Int) (m : Int) : Int × Int := if 0 < s.1 then (s.1.fdiv m, s.2) else (s.1, (s.2 * 48271 + 11).fmod 2147483647)
def stE (s : Int × Int) : D := .lst [.int s.1, .int s.2]
theorem take_ok (s : Int × Int) (m : Int) (hm : 0 < m) (hm2 : m < 1000) : F_d15_law_take w [stE s, .int m] = some (.ok (.val (.int (takeV s m))) [stE (takeS s m)]) := by
  obtain ⟨a, b⟩ := s
  apply wf_eq
  unfold F_d15_law_take m_d15_law_take stE takeV takeS
  refine wf_run ?_
  repeat' (first | refine ⟨_, _, _, rfl, rfl, MB.getM_P _ _ _ _, ?_⟩ | refine we_im rfl ?_ | refine we_mu rfl ?_ | refine we_op ?_ | refine we_un ?_ | refine we_cb ?_ | refine we_cbS ?_ | refine we_frzV ?_ | refine wa_nil ?_ | refine wa_cons ?_ | refine we_tup ?_ | refine we_lst ?_ | refine we_newT ?_ | refine we_dis1 ?_ | refine we_meth ?_ | refine we_if ?_ | refine we_and ?_ | refine we_or ?_ | refine we_not ?_ | refine we_chain ?_ | refine we_chain3 ?_ | refine wo_none ?_ | refine wo_some ?_ | refine we_slice ?_ | refine we_call ?_ | refine we_c ?_ | refine wt_b ?_ | refine wt_and ?_ | refine wt_or ?_ | refine wt_not ?_ | refine wt_yes ?_ | refine wp_seq ?_ | refine wp_if ?_ | refine wp_ret ?_ | refine wp_drop ?_ | refine wp_set ?_ | refine wp_store ?_ | refine wp_asgP ?_ | refine wp_par2 ?_ | refine wp_par3 ?_ | refine wp_next ?_ | refine wp_raise ?_ | refine wp_retN ?_ | refine wx_of ?_ | refine wxs_nil ?_ | refine wxs_cons ?_ | refine wx_tup ?_ | refine wx_if ?_ | refine wx_call ?_ | refine wx_callX ?_ | refine wp_retX ?_ | refine wp_dropX ?_ | refine ev_len rfl rfl ?_ | refine ⟨_, _, _, rfl, rfl, rfl, ?_⟩ | refine ⟨_, _, rfl, rfl, ?_⟩ | refine ⟨_, rfl, rfl, ?_⟩ | refine ⟨_, rfl, ?_⟩ | refine .inl ⟨_, rfl, ?_⟩ | refine .inr (.inl ⟨_, rfl, ?_⟩) | refine .inr (.inr ⟨_, _, rfl, rfl, ?_⟩) | refine .inr ⟨_, rfl, ?_⟩ | refine ⟨_, rfl, by first | decide | (simp; done), ?_⟩ | refine ev_args rfl ?_ | refine .inl ⟨_, _, rfl, ?_⟩ | refine .inr ⟨_, _, rfl, ?_⟩ | refine ev_par3 rfl ?_ | refine end_rt ⟨_, _, rfl, rfl, ?_⟩ | refine end_nx ⟨_, rfl, ?_⟩ | refine end_ex ⟨_, rfl, ?_⟩ | refine then_nx ?_ | refine then_rt ?_ | refine then_ex ?_ | refine turn_nx ?_ | refine turn_rt ?_ | refine b1 ?_ | refine b0 ?_ | refine ⟨_, _, _, rfl, rfl, mulD_int (mulOk_small (by decide) (by decide)), ?_⟩ | refine ⟨_, _, _, rfl, rfl, MB.ixA_P (by assumption), ?_⟩ | refine ⟨_, _, _, rfl, rfl, MB.stD_P (by first | assumption | omega), ?_⟩ | fail)
  refine bt (fun h => ?_) (fun h => ?_)
  · repeat' (first | refine ⟨_, _, _, rfl, rfl, MB.getM_P _ _ _ _, ?_⟩ | refine we_im rfl ?_ | refine we_mu rfl ?_ | refine we_op ?_ | refine we_un ?_ | refine we_cb ?_ | refine we_cbS ?_ | refine we_frzV ?_ | refine wa_nil ?_ | refine wa_cons ?_ | refine we_tup ?_ | refine we_lst ?_ | refine we_newT ?_ | refine we_dis1 ?_ | refine we_meth ?_ | refine we_if ?_ | refine we_and ?_ | refine we_or ?_ | refine we_not ?_ | refine we_chain ?_ | refine we_chain3 ?_ | refine wo_none ?_ | refine wo_some ?_ | refine we_slice ?_ | refine we_call ?_ | refine we_c ?_ | refine wt_b ?_ | refine wt_and ?_ | refine wt_or ?_ | refine wt_not ?_ | refine wt_yes ?_ | refine wp_seq ?_ | refine wp_if ?_ | refine wp_ret ?_ | refine wp_drop ?_ | refine wp_set ?_ | refine wp_store ?_ | refine wp_asgP ?_ | refine wp_par2 ?_ | refine wp_par3 ?_ | refine wp_next ?_ | refine wp_raise ?_ | refine wp_retN ?_ | refine wx_of ?_ | refine wxs_nil ?_ | refine wxs_cons ?_ | refine wx_tup ?_ | refine wx_if ?_ | refine wx_call ?_ | refine wx_callX ?_ | refine wp_retX ?_ | refine wp_dropX ?_ | refine ev_len rfl rfl ?_ | refine ⟨_, _, _, rfl, rfl, rfl, ?_⟩ | refine ⟨_, _, rfl, rfl, ?_⟩ | refine ⟨_, rfl, rfl, ?_⟩ | refine ⟨_, rfl, ?_⟩ | refine .inl ⟨_, rfl, ?_⟩ | refine .inr (.inl ⟨_, rfl, ?_⟩) | refine .inr (.inr ⟨_, _, rfl, rfl, ?_⟩) | refine .inr ⟨_, rfl, ?_⟩ | refine ⟨_, rfl, by first | decide | (simp; done), ?_⟩ | refine ev_args rfl ?_ | refine .inl ⟨_, _, rfl, ?_⟩ | refine .inr ⟨_, _, rfl, ?_⟩ | refine ev_par3 rfl ?_ | refine end_rt ⟨_, _, rfl, rfl, ?_⟩ | refine end_nx ⟨_, rfl, ?_⟩ | refine end_ex ⟨_, rfl, ?_⟩ | refine then_nx ?_ | refine then_rt ?_ | refine then_ex ?_ | refine turn_nx ?_ | refine turn_rt ?_ | refine b1 ?_ | refine b0 ?_ | refine ⟨_, _, _, rfl, rfl, mulD_int (mulOk_small (by decide) (by decide)), ?_⟩ | refine ⟨_, _, _, rfl, rfl, MB.ixA_P (by assumption), ?_⟩ | refine ⟨_, _, _, rfl, rfl, MB.stD_P (by first | assumption | omega), ?_⟩ | fail)
    refine ⟨_, _, _, rfl, rfl, modD_int (by omega), ?_⟩
    repeat' (first | refine ⟨_, _, _, rfl, rfl, MB.getM_P _ _ _ _, ?_⟩ | refine we_im rfl ?_ | refine we_mu rfl ?_ | refine we_op ?_ | refine we_un ?_ | refine we_cb ?_ | refine we_cbS ?_ | refine we_frzV ?_ | refine wa_nil ?_ | refine wa_cons ?_ | refine we_tup ?_ | refine we_lst ?_ | refine we_newT ?_ | refine we_dis1 ?_ | refine we_meth ?_ | refine we_if ?_ | refine we_and ?_ | refine we_or ?_ | refine we_not ?_ | refine we_chain ?_ | refine we_chain3 ?_ | refine wo_none ?_ | refine wo_some ?_ | refine we_slice ?_ | refine we_call ?_ | refine we_c ?_ | refine wt_b ?_ | refine wt_and ?_ | refine wt_or ?_ | refine wt_not ?_ | refine wt_yes ?_ | refine wp_seq ?_ | refine wp_if ?_ | refine wp_ret ?_ | refine wp_drop ?_ | refine wp_set ?_ | refine wp_store ?_ | refine wp_asgP ?_ | refine wp_par2 ?_ | refine wp_par3 ?_ | refine wp_next ?_ | refine wp_raise ?_ | refine wp_retN ?_ | refine wx_of ?_ | refine wxs_nil ?_ | refine wxs_cons ?_ | refine wx_tup ?_ | refine wx_if ?_ | refine wx_call ?_ | refine wx_callX ?_ | refine wp_retX ?_ | refine wp_dropX ?_ | refine ev_len rfl rfl ?_ | refine ⟨_, _, _, rfl, rfl, rfl, ?_⟩ | refine ⟨_, _, rfl, rfl, ?_⟩ | refine ⟨_, rfl, rfl, ?_⟩ | refine ⟨_, rfl, ?_⟩ | refine .inl ⟨_, rfl, ?_⟩ | refine .inr (.inl ⟨_, rfl, ?_⟩) | refine .inr (.inr ⟨_, _, rfl, rfl, ?_⟩) | refine .inr ⟨_, rfl, ?_⟩ | refine ⟨_, rfl, by first | decide | (simp; done), ?_⟩ | refine ev_args rfl ?_ | refine .inl ⟨_, _, rfl, ?_⟩ | refine .inr ⟨_, _, rfl, ?_⟩ | refine ev_par3 rfl ?_ | refine end_rt ⟨_, _, rfl, rfl, ?_⟩ | refine end_nx ⟨_, rfl, ?_⟩ | refine end_ex ⟨_, rfl, ?_⟩ | refine then_nx ?_ | refine then_rt ?_ | refine then_ex ?_ | refine turn_nx ?_ | refine turn_rt ?_ | refine b1 ?_ | refine b0 ?_ | refine ⟨_, _, _, rfl, rfl, mulD_int (mulOk_small (by decide) (by decide)), ?_⟩ | refine ⟨_, _, _, rfl, rfl, MB.ixA_P (by assumption), ?_⟩ | refine ⟨_, _, _, rfl, rfl, MB.stD_P (by first | assumption | omega), ?_⟩ | fail)
    refine ⟨_, _, _, rfl, rfl, divD_int (divOk_small (by omega) (by omega) (by omega)), ?_⟩
    repeat' (first | refine ⟨_, _, _, rfl, rfl, MB.getM_P _ _ _ _, ?_⟩ | refine we_im rfl ?_ | refine we_mu rfl ?_ | refine we_op ?_ | refine we_un ?_ | refine we_cb ?_ | refine we_cbS ?_ | refine we_frzV ?_ | refine wa_nil ?_ | refine wa_cons ?_ | refine we_tup ?_ | refine we_lst ?_ | refine we_newT ?_ | refine we_dis1 ?_ | refine we_meth ?_ | refine we_if ?_ | refine we_and ?_ | refine we_or ?_ | refine we_not ?_ | refine we_chain ?_ | refine we_chain3 ?_ | refine wo_none ?_ | refine wo_some ?_ | refine we_slice ?_ | refine we_call ?_ | refine we_c ?_ | refine wt_b ?_ | refine wt_and ?_ | refine wt_or ?_ | refine wt_not ?_ | refine wt_yes ?_ | refine wp_seq ?_ | refine wp_if ?_ | refine wp_ret ?_ | refine wp_drop ?_ | refine wp_set ?_ | refine wp_store ?_ | refine wp_asgP ?_ | refine wp_par2 ?_ | refine wp_par3 ?_ | refine wp_next ?_ | refine wp_raise ?_ | refine wp_retN ?_ | refine wx_of ?_ | refine wxs_nil ?_ | refine wxs_cons ?_ | refine wx_tup ?_ | refine wx_if ?_ | refine wx_call ?_ | refine wx_callX ?_ | refine wp_retX ?_ | refine wp_dropX ?_ | refine ev_len rfl rfl ?_ | refine ⟨_, _, _, rfl, rfl, rfl, ?_⟩ | refine ⟨_, _, rfl, rfl, ?_⟩ | refine ⟨_, rfl, rfl, ?_⟩ | refine ⟨_, rfl, ?_⟩ | refine .inl ⟨_, rfl, ?_⟩ | refine .inr (.inl ⟨_, rfl, ?_⟩) | refine .inr (.inr ⟨_, _, rfl, rfl, ?_⟩) | refine .inr ⟨_, rfl, ?_⟩ | refine ⟨_, rfl, by first | decide | (simp; done), ?_⟩ | refine ev_args rfl ?_ | refine .inl ⟨_, _, rfl, ?_⟩ | refine .inr ⟨_, _, rfl, ?_⟩ | refine ev_par3 rfl ?_ | refine end_rt ⟨_, _, rfl, rfl, ?_⟩ | refine end_nx ⟨_, rfl, ?_⟩ | refine end_ex ⟨_, rfl, ?_⟩ | refine then_nx ?_ | refine then_rt ?_ | refine then_ex ?_ | refine turn_nx ?_ | refine turn_rt ?_ | refine b1 ?_ | refine b0 ?_ | refine ⟨_, _, _, rfl, rfl, mulD_int (mulOk_small (by decide) (by decide)), ?_⟩ | refine ⟨_, _, _, rfl, rfl, MB.ixA_P (by assumption), ?_⟩ | refine ⟨_, _, _, rfl, rfl, MB.stD_P (by first | assumption | omega), ?_⟩ | fail)
    simp [h]
  · repeat' (first | refine ⟨_, _, _, rfl, rfl, MB.getM_P _ _ _ _, ?_⟩ | refine we_im rfl ?_ | refine we_mu rfl ?_ | refine we_op ?_ | refine we_un ?_ | refine we_cb ?_ | refine we_cbS ?_ | refine we_frzV ?_ | refine wa_nil ?_ | refine wa_cons ?_ | refine we_tup ?_ | refine we_lst ?_ | refine we_newT ?_ | refine we_dis1 ?_ | refine we_meth ?_ | refine we_if ?_ | refine we_and ?_ | refine we_or ?_ | refine we_not ?_ | refine we_chain ?_ | refine we_chain3 ?_ | refine wo_none ?_ | refine wo_some ?_ | refine we_slice ?_ | refine we_call ?_ | refine we_c ?_ | refine wt_b ?_ | refine wt_and ?_ | refine wt_or ?_ | refine wt_not ?_ | refine wt_yes ?_ | refine wp_seq ?_ | refine wp_if ?_ | refine wp_ret ?_ | refine wp_drop ?_ | refine wp_set ?_ | refine wp_store ?_ | refine wp_asgP ?_ | refine wp_par2 ?_ | refine wp_par3 ?_ | refine wp_next ?_ | refine wp_raise ?_ | refine wp_retN ?_ | refine wx_of ?_ | refine wxs_nil ?_ | refine wxs_cons ?_ | refine wx_tup ?_ | refine wx_if ?_ | refine wx_call ?_ | refine wx_callX ?_ | refine wp_retX ?_ | refine wp_dropX ?_ | refine ev_len rfl rfl ?_ | refine ⟨_, _, _, rfl, rfl, rfl, ?_⟩ | refine ⟨_, _, rfl, rfl, ?_⟩ | refine ⟨_, rfl, rfl, ?_⟩ | refine ⟨_, rfl, ?_⟩ | refine .inl ⟨_, rfl, ?_⟩ | refine .inr (.inl ⟨_, rfl, ?_⟩) | refine .inr (.inr ⟨_, _, rfl, rfl, ?_⟩) | refine .inr ⟨_, rfl, ?_⟩ | refine ⟨_, rfl, by first | decide | (simp; done), ?_⟩ | refine ev_args rfl ?_ | refine .inl ⟨_, _, rfl, ?_⟩ | refine .inr ⟨_, _, rfl, ?_⟩ | refine ev_par3 rfl ?_ | refine end_rt ⟨_, _, rfl, rfl, ?_⟩ | refine end_nx ⟨_, rfl, ?_⟩ | refine end_ex ⟨_, rfl, ?_⟩ | refine then_nx ?_ | refine then_rt ?_ | refine then_ex ?_ | refine turn_nx ?_ | refine turn_rt ?_ | refine b1 ?_ | refine b0 ?_ | refine ⟨_, _, _, rfl, rfl, mulD_int (mulOk_small (by decide) (by decide)), ?_⟩ | refine ⟨_, _, _, rfl, rfl, MB.ixA_P (by assumption), ?_⟩ | refine ⟨_, _, _, rfl, rfl, MB.stD_P (by first | assumption | omega), ?_⟩ | fail)
    refine ⟨_, _, _, rfl, rfl, modD_int (by omega), ?_⟩
    repeat' (first | refine ⟨_, _, _, rfl, rfl, MB.getM_P _ _ _ _, ?_⟩ | refine we_im rfl ?_ | refine we_mu rfl ?_ | refine we_op ?_ | refine we_un ?_ | refine we_cb ?_ | refine we_cbS ?_ | refine we_frzV ?_ | refine wa_nil ?_ | refine wa_cons ?_ | refine we_tup ?_ | refine we_lst ?_ | refine we_newT ?_ | refine we_dis1 ?_ | refine we_meth ?_ | refine we_if ?_ | refine we_and ?_ | refine we_or ?_ | refine we_not ?_ | refine we_chain ?_ | refine we_chain3 ?_ | refine wo_none ?_ | refine wo_some ?_ | refine we_slice ?_ | refine we_call ?_ | refine we_c ?_ | refine wt_b ?_ | refine wt_and ?_ | refine wt_or ?_ | refine wt_not ?_ | refine wt_yes ?_ | refine wp_seq ?_ | refine wp_if ?_ | refine wp_ret ?_ | refine wp_drop ?_ | refine wp_set ?_ | refine wp_store ?_ | refine wp_asgP ?_ | refine wp_par2 ?_ | refine wp_par3 ?_ | refine wp_next ?_ | refine wp_raise ?_ | refine wp_retN ?_ | refine wx_of ?_ | refine wxs_nil ?_ | refine wxs_cons ?_ | refine wx_tup ?_ | refine wx_if ?_ | refine wx_call ?_ | refine wx_callX ?_ | refine wp_retX ?_ | refine wp_dropX ?_ | refine ev_len rfl rfl ?_ | refine ⟨_, _, _, rfl, rfl, rfl, ?_⟩ | refine ⟨_, _, rfl, rfl, ?_⟩ | refine ⟨_, rfl, rfl, ?_⟩ | refine ⟨_, rfl, ?_⟩ | refine .inl ⟨_, rfl, ?_⟩ | refine .inr (.inl ⟨_, rfl, ?_⟩) | refine .inr (.inr ⟨_, _, rfl, rfl, ?_⟩) | refine .inr ⟨_, rfl, ?_⟩ | refine ⟨_, rfl, by first | decide | (simp; done), ?_⟩ | refine ev_args rfl ?_ | refine .inl ⟨_, _, rfl, ?_⟩ | refine .inr ⟨_, _, rfl, ?_⟩ | refine ev_par3 rfl ?_ | refine end_rt ⟨_, _, rfl, rfl, ?_⟩ | refine end_nx ⟨_, rfl, ?_⟩ | refine end_ex ⟨_, rfl, ?_⟩ | refine then_nx ?_ | refine then_rt ?_ | refine then_ex ?_ | refine turn_nx ?_ | refine turn_rt ?_ | refine b1 ?_ | refine b0 ?_ | refine ⟨_, _, _, rfl, rfl, mulD_int (mulOk_small (by decide) (by decide)), ?_⟩ | refine ⟨_, _, _, rfl, rfl, MB.ixA_P (by assumption), ?_⟩ | refine ⟨_, _, _, rfl, rfl, MB.stD_P (by first | assumption | omega), ?_⟩ | fail)
    simp [h]
theorem takeV_bd (s : Int × Int) (m : Int) (hm : 0 < m) : 0 ≤ takeV s m ∧ takeV s m < m := by
  unfold takeV
  split <;> exact ⟨Int.fmod_nonneg_of_pos _ hm, Int.fmod_lt_of_pos _ hm⟩
/-! put, raised, grown -/
theorem put_ok (l : AL) (a b c : Int) (hl : l.length < 1000000) : F_d6_put w [dicE l, .tup [.int a, .int b], .int c] = some (.ok (.val .non) [dicE (put l (a, b) (cf l (a, b) + c))]) := by
  apply wf_eq
  unfold F_d6_put m_d6_put
  refine wf_run ?_
  repeat' (first | refine ⟨_, _, _, rfl, rfl, MB.getM_P _ _ _ _, ?_⟩ | refine we_im rfl ?_ | refine we_mu rfl ?_ | refine we_op ?_ | refine we_un ?_ | refine we_cb ?_ | refine we_cbS ?_ | refine we_frzV ?_ | refine wa_nil ?_ | refine wa_cons ?_ | refine we_tup ?_ | refine we_lst ?_ | refine we_newT ?_ | refine we_dis1 ?_ | refine we_meth ?_ | refine we_if ?_ | refine we_and ?_ | refine we_or ?_ | refine we_not ?_ | refine we_chain ?_ | refine we_chain3 ?_ | refine wo_none ?_ | refine wo_some ?_ | refine we_slice ?_ | refine we_call ?_ | refine we_c ?_ | refine wt_b ?_ | refine wt_and ?_ | refine wt_or ?_ | refine wt_not ?_ | refine wt_yes ?_ | refine wp_seq ?_ | refine wp_if ?_ | refine wp_ret ?_ | refine wp_drop ?_ | refine wp_set ?_ | refine wp_store ?_ | refine wp_asgP ?_ | refine wp_par2 ?_ | refine wp_par3 ?_ | refine wp_next ?_ | refine wp_raise ?_ | refine wp_retN ?_ | refine wx_of ?_ | refine wxs_nil ?_ | refine wxs_cons ?_ | refine wx_tup ?_ | refine wx_if ?_ | refine wx_call ?_ | refine wx_callX ?_ | refine wp_retX ?_ | refine wp_dropX ?_ | refine ev_len rfl rfl ?_ | refine ⟨_, _, _, rfl, rfl, rfl, ?_⟩ | refine ⟨_, _, rfl, rfl, ?_⟩ | refine ⟨_, rfl, rfl, ?_⟩ | refine ⟨_, rfl, ?_⟩ | refine .inl ⟨_, rfl, ?_⟩ | refine .inr (.inl ⟨_, rfl, ?_⟩) | refine .inr (.inr ⟨_, _, rfl, rfl, ?_⟩) | refine .inr ⟨_, rfl, ?_⟩ | refine ⟨_, rfl, by first | decide | (simp; done), ?_⟩ | refine ev_args rfl ?_ | refine .inl ⟨_, _, rfl, ?_⟩ | refine .inr ⟨_, _, rfl, ?_⟩ | refine ev_par3 rfl ?_ | refine end_rt ⟨_, _, rfl, rfl, ?_⟩ | refine end_nx ⟨_, rfl, ?_⟩ | refine end_ex ⟨_, rfl, ?_⟩ | refine then_nx ?_ | refine then_rt ?_ | refine then_ex ?_ | refine turn_nx ?_ | refine turn_rt ?_ | refine b1 ?_ | refine b0 ?_ | refine ⟨_, _, _, rfl, rfl, mulD_int (mulOk_small (by decide) (by decide)), ?_⟩ | refine ⟨_, _, _, rfl, rfl, MB.ixA_P (by assumption), ?_⟩ | refine ⟨_, _, _, rfl, rfl, MB.stD_P (by first | assumption | omega), ?_⟩ | fail)
  rfl
theorem S_putadd {l : AL} {k : P2} {c : Int} (nd : (l.map (·.1)).Nodup) (F : P2 → Int) : S (put l k (cf l k + c)) F = S l F + c * F k := by
  rw [S_put nd]
  congr 2
  omega
theorem raised_ok (n : Int) (hn : n ≤ 8) (l : AL) (h : Vd n l) : ∃ l', F_d8_raised w [.int n, dicE l] = some (.ok (.val (dicE l')) []) ∧ Vd n l' ∧ ∀ F, S l' F = S l (R n F) := by
  suffices hs : Wf (F_d8_raised w) [.int n, dicE l] (fun r => ∃ l', r = .ok (.val (dicE l')) [] ∧ Vd n l' ∧ ∀ F, S l' F = S l (R n F)) by
    obtain ⟨r, e, l', rfl, h1, h2⟩ := hs
    exact ⟨l', e, h1, h2⟩
  unfold F_d8_raised m_d8_raised
  refine wf_run (wp_ret (we_frzV (we_dc (fun ρ0 rem c ρ => ρ0 = [.im (.int n), .im (dicE l), .un, .un] ∧ ρ = [.im (.int n), .im (dicE l), .un, .un] ∧ ∃ (r : AL) (acc : AL), rem = r.map (fun x => kD x.1) ∧ (∃ p, l = p ++ r) ∧ c = dicE acc ∧ Vd n acc ∧ acc.length + r.length ≤ l.length ∧ (∀ k ∈ acc.map (·.1), ∀ x ∈ r, k ≠ (x.1.1 + 1, x.1.2 + 1)) ∧ ∀ F, S acc F + S r (R n F) = S l (R n F)) ?_ ?_ ?_)))
  · refine wi_seq (we_im rfl ⟨_, _, rfl, rfl, ?_⟩)
    exact ⟨rfl, rfl, l, [], rfl, ⟨[], rfl⟩, rfl, Vd.nil n, by simp, (fun _ z => nomatch z), fun F => by simp [S_nil]⟩
  · rintro ρ0 d r c ρ ⟨rfl, rfl, r', acc, e1, ⟨p, e2⟩, rfl, va, hlen, hnew, hS⟩
    cases r' with
    | nil => cases e1
    | cons x r' =>
      cases e1
      obtain ⟨⟨a, b⟩, v⟩ := x
      refine ⟨_, rfl, ?_⟩
      have hlk : look l (a, b) = some v := look_of h.nd (by rw [e2]; simp)
      have hv : Vk n (a, b) := h.ks _ (by rw [e2]; simp)
      have hl64 := h.len hn
      repeat' (first | refine ⟨_, _, _, rfl, rfl, MB.getM_P _ _ _ _, ?_⟩ | refine we_im rfl ?_ | refine we_mu rfl ?_ | refine we_op ?_ | refine we_un ?_ | refine we_cb ?_ | refine we_cbS ?_ | refine we_frzV ?_ | refine wa_nil ?_ | refine wa_cons ?_ | refine we_tup ?_ | refine we_lst ?_ | refine we_newT ?_ | refine we_dis1 ?_ | refine we_meth ?_ | refine we_if ?_ | refine we_and ?_ | refine we_or ?_ | refine we_not ?_ | refine we_chain ?_ | refine we_chain3 ?_ | refine wo_none ?_ | refine wo_some ?_ | refine we_slice ?_ | refine we_call ?_ | refine we_c ?_ | refine wt_b ?_ | refine wt_and ?_ | refine wt_or ?_ | refine wt_not ?_ | refine wt_yes ?_ | refine wp_seq ?_ | refine wp_if ?_ | refine wp_ret ?_ | refine wp_drop ?_ | refine wp_set ?_ | refine wp_store ?_ | refine wp_asgP ?_ | refine wp_par2 ?_ | refine wp_par3 ?_ | refine wp_next ?_ | refine wp_raise ?_ | refine wp_retN ?_ | refine wx_of ?_ | refine wxs_nil ?_ | refine wxs_cons ?_ | refine wx_tup ?_ | refine wx_if ?_ | refine wx_call ?_ | refine wx_callX ?_ | refine wp_retX ?_ | refine wp_dropX ?_ | refine ev_len rfl rfl ?_ | refine ⟨_, _, _, rfl, rfl, rfl, ?_⟩ | refine ⟨_, _, rfl, rfl, ?_⟩ | refine ⟨_, rfl, rfl, ?_⟩ | refine ⟨_, rfl, ?_⟩ | refine .inl ⟨_, rfl, ?_⟩ | refine .inr (.inl ⟨_, rfl, ?_⟩) | refine .inr (.inr ⟨_, _, rfl, rfl, ?_⟩) | refine .inr ⟨_, rfl, ?_⟩ | refine ⟨_, rfl, by first | decide | (simp; done), ?_⟩ | refine ev_args rfl ?_ | refine .inl ⟨_, _, rfl, ?_⟩ | refine .inr ⟨_, _, rfl, ?_⟩ | refine ev_par3 rfl ?_ | refine end_rt ⟨_, _, rfl, rfl, ?_⟩ | refine end_nx ⟨_, rfl, ?_⟩ | refine end_ex ⟨_, rfl, ?_⟩ | refine then_nx ?_ | refine then_rt ?_ | refine then_ex ?_ | refine turn_nx ?_ | refine turn_rt ?_ | refine b1 ?_ | refine b0 ?_ | refine ⟨_, _, _, rfl, rfl, mulD_int (mulOk_small (by decide) (by decide)), ?_⟩ | refine ⟨_, _, _, rfl, rfl, MB.ixA_P (by assumption), ?_⟩ | refine ⟨_, _, _, rfl, rfl, MB.stD_P (by first | assumption | omega), ?_⟩ | fail)
      refine bt (fun hc => ?_) (fun hc => ?_)
      · repeat' (first | refine ⟨_, _, _, rfl, rfl, MB.getM_P _ _ _ _, ?_⟩ | refine we_im rfl ?_ | refine we_mu rfl ?_ | refine we_op ?_ | refine we_un ?_ | refine we_cb ?_ | refine we_cbS ?_ | refine we_frzV ?_ | refine wa_nil ?_ | refine wa_cons ?_ | refine we_tup ?_ | refine we_lst ?_ | refine we_newT ?_ | refine we_dis1 ?_ | refine we_meth ?_ | refine we_if ?_ | refine we_and ?_ | refine we_or ?_ | refine we_not ?_ | refine we_chain ?_ | refine we_chain3 ?_ | refine wo_none ?_ | refine wo_some ?_ | refine we_slice ?_ | refine we_call ?_ | refine we_c ?_ | refine wt_b ?_ | refine wt_and ?_ | refine wt_or ?_ | refine wt_not ?_ | refine wt_yes ?_ | refine wp_seq ?_ | refine wp_if ?_ | refine wp_ret ?_ | refine wp_drop ?_ | refine wp_set ?_ | refine wp_store ?_ | refine wp_asgP ?_ | refine wp_par2 ?_ | refine wp_par3 ?_ | refine wp_next ?_ | refine wp_raise ?_ | refine wp_retN ?_ | refine wx_of ?_ | refine wxs_nil ?_ | refine wxs_cons ?_ | refine wx_tup ?_ | refine wx_if ?_ | refine wx_call ?_ | refine wx_callX ?_ | refine wp_retX ?_ | refine wp_dropX ?_ | refine ev_len rfl rfl ?_ | refine ⟨_, _, _, rfl, rfl, rfl, ?_⟩ | refine ⟨_, _, rfl, rfl, ?_⟩ | refine ⟨_, rfl, rfl, ?_⟩ | refine ⟨_, rfl, ?_⟩ | refine .inl ⟨_, rfl, ?_⟩ | refine .inr (.inl ⟨_, rfl, ?_⟩) | refine .inr (.inr ⟨_, _, rfl, rfl, ?_⟩) | refine .inr ⟨_, rfl, ?_⟩ | refine ⟨_, rfl, by first | decide | (simp; done), ?_⟩ | refine ev_args rfl ?_ | refine .inl ⟨_, _, rfl, ?_⟩ | refine .inr ⟨_, _, rfl, ?_⟩ | refine ev_par3 rfl ?_ | refine end_rt ⟨_, _, rfl, rfl, ?_⟩ | refine end_nx ⟨_, rfl, ?_⟩ | refine end_ex ⟨_, rfl, ?_⟩ | refine then_nx ?_ | refine then_rt ?_ | refine then_ex ?_ | refine turn_nx ?_ | refine turn_rt ?_ | refine b1 ?_ | refine b0 ?_ | refine ⟨_, _, _, rfl, rfl, mulD_int (mulOk_small (by decide) (by decide)), ?_⟩ | refine ⟨_, _, _, rfl, rfl, MB.ixA_P (by assumption), ?_⟩ | refine ⟨_, _, _, rfl, rfl, MB.stD_P (by first | assumption | omega), ?_⟩ | fail)
        refine ⟨_, _, rfl, putT_P (by simp at hlen; omega), rfl, rfl, r', _, rfl, ⟨p ++ [((a, b), v)], by simp [e2]⟩, rfl, va.put ⟨by simp; have := hv.1; simp at this; omega, by simp; have := hv.2.1; simp at this; omega, by simpa using hc⟩, ?_, ?_, ?_⟩
        · have hn0 : look acc (a + 1, b + 1) = none := look_none.mpr fun z => hnew _ z ((a, b), v) List.mem_cons_self rfl
          rw [put_none (by rw [hn0]; simp)]
          simp at hlen ⊢
          omega
        · intro k hk x hx
          rcases put_mem hk with q | q
          · exact hnew k q x (List.mem_cons_of_mem _ hx)
          · rw [q]
            intro z
            have z1 := congrArg Prod.fst z
            have z2 := congrArg Prod.snd z
            simp at z1 z2
            have nd := h.nd
            rw [e2, List.map_append, List.nodup_append] at nd
            have nd2 := nd.2.1
            rw [List.map_cons, List.nodup_cons] at nd2
            exact nd2.1 (by
              have : (a, b) = x.1 := Prod.ext z1 z2
              show (a, b) ∈ _
              rw [this]
              exact List.mem_map.mpr ⟨x, hx, rfl⟩)
        · intro F
          have hn0 : look acc (a + 1, b + 1) = none := look_none.mpr fun z => hnew _ z ((a, b), v) List.mem_cons_self rfl
          rw [S_put va.nd]
          have hc0 : cf acc (a + 1, b + 1) = 0 := by unfold cf; rw [hn0]; rfl
          rw [hc0, ← hS F, S_cons]
          have : R n F (a, b) = F (a + 1, b + 1) := if_pos (by simpa using hc)
          show S acc F + (v - 0) * F (a + 1, b + 1) + S r' (R n F) = S acc F + (v * R n F (a, b) + S r' (R n F))
          rw [this, Int.sub_zero]
          omega
      · refine ⟨rfl, rfl, r', acc, rfl, ⟨p ++ [((a, b), v)], by simp [e2]⟩, rfl, va, by simp at hlen ⊢; omega, fun k hk x hx => hnew k hk x (List.mem_cons_of_mem _ hx), fun F => ?_⟩
        rw [← hS F, S_cons]
        have : R n F (a, b) = 0 := if_neg (by simpa using hc)
        show _ = S acc F + (v * R n F (a, b) + S r' (R n F))
        rw [this]
        omega
  · rintro ρ0 c ρ ⟨rfl, rfl, r', acc, e1, _, rfl, va, hlen, hnew, hS⟩
    have : r' = [] := by cases r' with
      | nil => rfl
      | cons x r => cases e1
    subst this
    repeat' (first | refine ⟨_, _, _, rfl, rfl, MB.getM_P _ _ _ _, ?_⟩ | refine we_im rfl ?_ | refine we_mu rfl ?_ | refine we_op ?_ | refine we_un ?_ | refine we_cb ?_ | refine we_cbS ?_ | refine we_frzV ?_ | refine wa_nil ?_ | refine wa_cons ?_ | refine we_tup ?_ | refine we_lst ?_ | refine we_newT ?_ | refine we_dis1 ?_ | refine we_meth ?_ | refine we_if ?_ | refine we_and ?_ | refine we_or ?_ | refine we_not ?_ | refine we_chain ?_ | refine we_chain3 ?_ | refine wo_none ?_ | refine wo_some ?_ | refine we_slice ?_ | refine we_call ?_ | refine we_c ?_ | refine wt_b ?_ | refine wt_and ?_ | refine wt_or ?_ | refine wt_not ?_ | refine wt_yes ?_ | refine wp_seq ?_ | refine wp_if ?_ | refine wp_ret ?_ | refine wp_drop ?_ | refine wp_set ?_ | refine wp_store ?_ | refine wp_asgP ?_ | refine wp_par2 ?_ | refine wp_par3 ?_ | refine wp_next ?_ | refine wp_raise ?_ | refine wp_retN ?_ | refine wx_of ?_ | refine wxs_nil ?_ | refine wxs_cons ?_ | refine wx_tup ?_ | refine wx_if ?_ | refine wx_call ?_ | refine wx_callX ?_ | refine wp_retX ?_ | refine wp_dropX ?_ | refine ev_len rfl rfl ?_ | refine ⟨_, _, _, rfl, rfl, rfl, ?_⟩ | refine ⟨_, _, rfl, rfl, ?_⟩ | refine ⟨_, rfl, rfl, ?_⟩ | refine ⟨_, rfl, ?_⟩ | refine .inl ⟨_, rfl, ?_⟩ | refine .inr (.inl ⟨_, rfl, ?_⟩) | refine .inr (.inr ⟨_, _, rfl, rfl, ?_⟩) | refine .inr ⟨_, rfl, ?_⟩ | refine ⟨_, rfl, by first | decide | (simp; done), ?_⟩ | refine ev_args rfl ?_ | refine .inl ⟨_, _, rfl, ?_⟩ | refine .inr ⟨_, _, rfl, ?_⟩ | refine ev_par3 rfl ?_ | refine end_rt ⟨_, _, rfl, rfl, ?_⟩ | refine end_nx ⟨_, rfl, ?_⟩ | refine end_ex ⟨_, rfl, ?_⟩ | refine then_nx ?_ | refine then_rt ?_ | refine then_ex ?_ | refine turn_nx ?_ | refine turn_rt ?_ | refine b1 ?_ | refine b0 ?_ | refine ⟨_, _, _, rfl, rfl, mulD_int (mulOk_small (by decide) (by decide)), ?_⟩ | refine ⟨_, _, _, rfl, rfl, MB.ixA_P (by assumption), ?_⟩ | refine ⟨_, _, _, rfl, rfl, MB.stD_P (by first | assumption | omega), ?_⟩ | fail)
    exact ⟨va, fun F => by rw [← hS F, S_nil]; omega⟩
end K56

set_option Elab.async false
set_option linter.all false
set_option maxRecDepth 100000
set_option maxHeartbeats 2000000
namespace K56
open PySem PySem.Spec PyProof.Rows L2 DL MB
variable (w : World)
/-- a loop over 0 .. m - 1 -/
theorem rng_cons {j m : Nat} {d : D} {r : List D} (e : d :: r = rngL (j : Int) m) : ∃ m', m = m' + 1 ∧ d = .int j ∧ r = rngL ((j + 1 : Nat) : Int) m' := by
  cases m with
  | zero => rw [rngL_zero] at e; cases e
  | succ m' =>
    rw [rngL_succ] at e
    cases e
    exact ⟨m', rfl, rfl, by rw [show ((j : Int) + 1) = ((j + 1 : Nat) : Int) by omega]⟩
theorem rng_nil {j m : Nat} (e : ([] : List D) = rngL (j : Int) m) : m = 0 := by
  cases m with
  | zero => rfl
  | succ m' => rw [rngL_succ] at e; cases e
theorem grown_ok (n : Int) (hn : n ≤ 8) (c : Int) (hc : 0 ≤ c) (hc8 : c < 100) (l : AL) (h : Vd n l) : ∃ l', F_d7_grown w [.int n, dicE l, .int c] = some (.ok (.val (dicE l')) []) ∧ Vd n l' ∧ ∀ F, S l' F = S l (G n c F) := by
  suffices hs : Wf (F_d7_grown w) [.int n, dicE l, .int c] (fun r => ∃ l', r = .ok (.val (dicE l')) [] ∧ Vd n l' ∧ ∀ F, S l' F = S l (G n c F)) by
    obtain ⟨r, e, l', rfl, h1, h2⟩ := hs
    exact ⟨l', e, h1, h2⟩
  unfold F_d7_grown m_d7_grown
  refine wf_run (wp_seq (wp_set (we_newT (.inr ⟨_, rfl, then_nx ?_⟩))))
  refine wp_seq (wp_for (fun rem ρ => ∃ (r acc : AL) (s4 s5 s6 : Sl), ρ = [.im (.int n), .im (dicE l), .im (.int c), .mu (dicE acc), s4, s5, s6] ∧ rem = r.map (fun x => kD x.1) ∧ (∃ p, l = p ++ r) ∧ Vd n acc ∧ ∀ F, S acc F + S r (G n c F) = S l (G n c F)) ?_ ?_ ?_)
  · refine wi_seq (we_im rfl ⟨_, _, rfl, rfl, ?_⟩)
    exact ⟨l, [], .un, .un, .un, rfl, rfl, ⟨[], rfl⟩, Vd.nil n, fun F => by simp [S_nil]⟩
  · rintro d r ρ ⟨r', acc, s4, s5, s6, rfl, e1, ⟨p, e2⟩, va, hS⟩
    cases r' with
    | nil => cases e1
    | cons x r' =>
      cases e1
      obtain ⟨⟨a, b⟩, v⟩ := x
      have hlk : look l (a, b) = some v := look_of h.nd (by rw [e2]; simp)
      have hv : Vk n (a, b) := h.ks _ (by rw [e2]; simp)
      obtain ⟨v1, v2, v3⟩ := hv
      simp only at v1 v2 v3
      refine ⟨_, rfl, ?_⟩
      refine wp_for (fun rem ρ => ∃ (j m : Nat) (ac : AL) (s6 : Sl), ρ = [.im (.int n), .im (dicE l), .im (.int c), .mu (dicE ac), .im (.int a), .im (.int b), s6] ∧ rem = rngL (j : Int) m ∧ j + m = (c + 1).toNat ∧ Vd n ac ∧
          ∀ F, S ac F = S acc F + v * sumN j (fun i => if a + (i : Int) ≤ n - 1 ∧ b + c - (i : Int) ≤ a then F (a + (i : Int), b + c - (i : Int)) else 0)) ?_ ?_ ?_
      · refine wi_rng1 ?_
        repeat' (first | refine ⟨_, _, _, rfl, rfl, MB.getM_P _ _ _ _, ?_⟩ | refine we_im rfl ?_ | refine we_mu rfl ?_ | refine we_op ?_ | refine we_un ?_ | refine we_cb ?_ | refine we_cbS ?_ | refine we_frzV ?_ | refine wa_nil ?_ | refine wa_cons ?_ | refine we_tup ?_ | refine we_lst ?_ | refine we_newT ?_ | refine we_dis1 ?_ | refine we_meth ?_ | refine we_if ?_ | refine we_and ?_ | refine we_or ?_ | refine we_not ?_ | refine we_chain ?_ | refine we_chain3 ?_ | refine wo_none ?_ | refine wo_some ?_ | refine we_slice ?_ | refine we_call ?_ | refine we_c ?_ | refine wt_b ?_ | refine wt_and ?_ | refine wt_or ?_ | refine wt_not ?_ | refine wt_yes ?_ | refine wp_seq ?_ | refine wp_if ?_ | refine wp_ret ?_ | refine wp_drop ?_ | refine wp_set ?_ | refine wp_store ?_ | refine wp_asgP ?_ | refine wp_par2 ?_ | refine wp_par3 ?_ | refine wp_next ?_ | refine wp_raise ?_ | refine wp_retN ?_ | refine wx_of ?_ | refine wxs_nil ?_ | refine wxs_cons ?_ | refine wx_tup ?_ | refine wx_if ?_ | refine wx_call ?_ | refine wx_callX ?_ | refine wp_retX ?_ | refine wp_dropX ?_ | refine ev_len rfl rfl ?_ | refine ⟨_, _, _, rfl, rfl, rfl, ?_⟩ | refine ⟨_, _, rfl, rfl, ?_⟩ | refine ⟨_, rfl, rfl, ?_⟩ | refine ⟨_, rfl, ?_⟩ | refine .inl ⟨_, rfl, ?_⟩ | refine .inr (.inl ⟨_, rfl, ?_⟩) | refine .inr (.inr ⟨_, _, rfl, rfl, ?_⟩) | refine .inr ⟨_, rfl, ?_⟩ | refine ⟨_, rfl, by first | decide | (simp; done), ?_⟩ | refine ev_args rfl ?_ | refine .inl ⟨_, _, rfl, ?_⟩ | refine .inr ⟨_, _, rfl, ?_⟩ | refine ev_par3 rfl ?_ | refine end_rt ⟨_, _, rfl, rfl, ?_⟩ | refine end_nx ⟨_, rfl, ?_⟩ | refine end_ex ⟨_, rfl, ?_⟩ | refine then_nx ?_ | refine then_rt ?_ | refine then_ex ?_ | refine turn_nx ?_ | refine turn_rt ?_ | refine b1 ?_ | refine b0 ?_ | refine ⟨_, _, _, rfl, rfl, mulD_int (mulOk_small (by decide) (by decide)), ?_⟩ | refine ⟨_, _, _, rfl, rfl, MB.ixA_P (by assumption), ?_⟩ | refine ⟨_, _, _, rfl, rfl, MB.stD_P (by first | assumption | omega), ?_⟩ | fail)
        refine ⟨by omega, by omega, 0, (c + 1).toNat, acc, s6, rfl, rfl, by omega, va, fun F => by simp [sumN]⟩
      · rintro d2 r2 ρ ⟨j, m, ac, s6', rfl, e3, hj, vac, hS2⟩
        obtain ⟨m', rfl, rfl, rfl⟩ := rng_cons e3
        have hl64 := vac.len hn
        refine ⟨_, rfl, ?_⟩
        repeat' (first | refine ⟨_, _, _, rfl, rfl, MB.getM_P _ _ _ _, ?_⟩ | refine we_im rfl ?_ | refine we_mu rfl ?_ | refine we_op ?_ | refine we_un ?_ | refine we_cb ?_ | refine we_cbS ?_ | refine we_frzV ?_ | refine wa_nil ?_ | refine wa_cons ?_ | refine we_tup ?_ | refine we_lst ?_ | refine we_newT ?_ | refine we_dis1 ?_ | refine we_meth ?_ | refine we_if ?_ | refine we_and ?_ | refine we_or ?_ | refine we_not ?_ | refine we_chain ?_ | refine we_chain3 ?_ | refine wo_none ?_ | refine wo_some ?_ | refine we_slice ?_ | refine we_call ?_ | refine we_c ?_ | refine wt_b ?_ | refine wt_and ?_ | refine wt_or ?_ | refine wt_not ?_ | refine wt_yes ?_ | refine wp_seq ?_ | refine wp_if ?_ | refine wp_ret ?_ | refine wp_drop ?_ | refine wp_set ?_ | refine wp_store ?_ | refine wp_asgP ?_ | refine wp_par2 ?_ | refine wp_par3 ?_ | refine wp_next ?_ | refine wp_raise ?_ | refine wp_retN ?_ | refine wx_of ?_ | refine wxs_nil ?_ | refine wxs_cons ?_ | refine wx_tup ?_ | refine wx_if ?_ | refine wx_call ?_ | refine wx_callX ?_ | refine wp_retX ?_ | refine wp_dropX ?_ | refine ev_len rfl rfl ?_ | refine ⟨_, _, _, rfl, rfl, rfl, ?_⟩ | refine ⟨_, _, rfl, rfl, ?_⟩ | refine ⟨_, rfl, rfl, ?_⟩ | refine ⟨_, rfl, ?_⟩ | refine .inl ⟨_, rfl, ?_⟩ | refine .inr (.inl ⟨_, rfl, ?_⟩) | refine .inr (.inr ⟨_, _, rfl, rfl, ?_⟩) | refine .inr ⟨_, rfl, ?_⟩ | refine ⟨_, rfl, by first | decide | (simp; done), ?_⟩ | refine ev_args rfl ?_ | refine .inl ⟨_, _, rfl, ?_⟩ | refine .inr ⟨_, _, rfl, ?_⟩ | refine ev_par3 rfl ?_ | refine end_rt ⟨_, _, rfl, rfl, ?_⟩ | refine end_nx ⟨_, rfl, ?_⟩ | refine end_ex ⟨_, rfl, ?_⟩ | refine then_nx ?_ | refine then_rt ?_ | refine then_ex ?_ | refine turn_nx ?_ | refine turn_rt ?_ | refine b1 ?_ | refine b0 ?_ | refine ⟨_, _, _, rfl, rfl, mulD_int (mulOk_small (by decide) (by decide)), ?_⟩ | refine ⟨_, _, _, rfl, rfl, MB.ixA_P (by assumption), ?_⟩ | refine ⟨_, _, _, rfl, rfl, MB.stD_P (by first | assumption | omega), ?_⟩ | fail)
        refine bt (fun q1 => ?_) (fun q1 => ?_)
        · repeat' (first | refine ⟨_, _, _, rfl, rfl, MB.getM_P _ _ _ _, ?_⟩ | refine we_im rfl ?_ | refine we_mu rfl ?_ | refine we_op ?_ | refine we_un ?_ | refine we_cb ?_ | refine we_cbS ?_ | refine we_frzV ?_ | refine wa_nil ?_ | refine wa_cons ?_ | refine we_tup ?_ | refine we_lst ?_ | refine we_newT ?_ | refine we_dis1 ?_ | refine we_meth ?_ | refine we_if ?_ | refine we_and ?_ | refine we_or ?_ | refine we_not ?_ | refine we_chain ?_ | refine we_chain3 ?_ | refine wo_none ?_ | refine wo_some ?_ | refine we_slice ?_ | refine we_call ?_ | refine we_c ?_ | refine wt_b ?_ | refine wt_and ?_ | refine wt_or ?_ | refine wt_not ?_ | refine wt_yes ?_ | refine wp_seq ?_ | refine wp_if ?_ | refine wp_ret ?_ | refine wp_drop ?_ | refine wp_set ?_ | refine wp_store ?_ | refine wp_asgP ?_ | refine wp_par2 ?_ | refine wp_par3 ?_ | refine wp_next ?_ | refine wp_raise ?_ | refine wp_retN ?_ | refine wx_of ?_ | refine wxs_nil ?_ | refine wxs_cons ?_ | refine wx_tup ?_ | refine wx_if ?_ | refine wx_call ?_ | refine wx_callX ?_ | refine wp_retX ?_ | refine wp_dropX ?_ | refine ev_len rfl rfl ?_ | refine ⟨_, _, _, rfl, rfl, rfl, ?_⟩ | refine ⟨_, _, rfl, rfl, ?_⟩ | refine ⟨_, rfl, rfl, ?_⟩ | refine ⟨_, rfl, ?_⟩ | refine .inl ⟨_, rfl, ?_⟩ | refine .inr (.inl ⟨_, rfl, ?_⟩) | refine .inr (.inr ⟨_, _, rfl, rfl, ?_⟩) | refine .inr ⟨_, rfl, ?_⟩ | refine ⟨_, rfl, by first | decide | (simp; done), ?_⟩ | refine ev_args rfl ?_ | refine .inl ⟨_, _, rfl, ?_⟩ | refine .inr ⟨_, _, rfl, ?_⟩ | refine ev_par3 rfl ?_ | refine end_rt ⟨_, _, rfl, rfl, ?_⟩ | refine end_nx ⟨_, rfl, ?_⟩ | refine end_ex ⟨_, rfl, ?_⟩ | refine then_nx ?_ | refine then_rt ?_ | refine then_ex ?_ | refine turn_nx ?_ | refine turn_rt ?_ | refine b1 ?_ | refine b0 ?_ | refine ⟨_, _, _, rfl, rfl, mulD_int (mulOk_small (by decide) (by decide)), ?_⟩ | refine ⟨_, _, _, rfl, rfl, MB.ixA_P (by assumption), ?_⟩ | refine ⟨_, _, _, rfl, rfl, MB.stD_P (by first | assumption | omega), ?_⟩ | fail)
          refine bt (fun q2 => ?_) (fun q2 => ?_)
          · repeat' (first | refine ⟨_, _, _, rfl, rfl, MB.getM_P _ _ _ _, ?_⟩ | refine we_im rfl ?_ | refine we_mu rfl ?_ | refine we_op ?_ | refine we_un ?_ | refine we_cb ?_ | refine we_cbS ?_ | refine we_frzV ?_ | refine wa_nil ?_ | refine wa_cons ?_ | refine we_tup ?_ | refine we_lst ?_ | refine we_newT ?_ | refine we_dis1 ?_ | refine we_meth ?_ | refine we_if ?_ | refine we_and ?_ | refine we_or ?_ | refine we_not ?_ | refine we_chain ?_ | refine we_chain3 ?_ | refine wo_none ?_ | refine wo_some ?_ | refine we_slice ?_ | refine we_call ?_ | refine we_c ?_ | refine wt_b ?_ | refine wt_and ?_ | refine wt_or ?_ | refine wt_not ?_ | refine wt_yes ?_ | refine wp_seq ?_ | refine wp_if ?_ | refine wp_ret ?_ | refine wp_drop ?_ | refine wp_set ?_ | refine wp_store ?_ | refine wp_asgP ?_ | refine wp_par2 ?_ | refine wp_par3 ?_ | refine wp_next ?_ | refine wp_raise ?_ | refine wp_retN ?_ | refine wx_of ?_ | refine wxs_nil ?_ | refine wxs_cons ?_ | refine wx_tup ?_ | refine wx_if ?_ | refine wx_call ?_ | refine wx_callX ?_ | refine wp_retX ?_ | refine wp_dropX ?_ | refine ev_len rfl rfl ?_ | refine ⟨_, _, _, rfl, rfl, rfl, ?_⟩ | refine ⟨_, _, rfl, rfl, ?_⟩ | refine ⟨_, rfl, rfl, ?_⟩ | refine ⟨_, rfl, ?_⟩ | refine .inl ⟨_, rfl, ?_⟩ | refine .inr (.inl ⟨_, rfl, ?_⟩) | refine .inr (.inr ⟨_, _, rfl, rfl, ?_⟩) | refine .inr ⟨_, rfl, ?_⟩ | refine ⟨_, rfl, by first | decide | (simp; done), ?_⟩ | refine ev_args rfl ?_ | refine .inl ⟨_, _, rfl, ?_⟩ | refine .inr ⟨_, _, rfl, ?_⟩ | refine ev_par3 rfl ?_ | refine end_rt ⟨_, _, rfl, rfl, ?_⟩ | refine end_nx ⟨_, rfl, ?_⟩ | refine end_ex ⟨_, rfl, ?_⟩ | refine then_nx ?_ | refine then_rt ?_ | refine then_ex ?_ | refine turn_nx ?_ | refine turn_rt ?_ | refine b1 ?_ | refine b0 ?_ | refine ⟨_, _, _, rfl, rfl, mulD_int (mulOk_small (by decide) (by decide)), ?_⟩ | refine ⟨_, _, _, rfl, rfl, MB.ixA_P (by assumption), ?_⟩ | refine ⟨_, _, _, rfl, rfl, MB.stD_P (by first | assumption | omega), ?_⟩ | fail)
            refine ev_funV (put_ok w ac _ _ _ (by omega)) ?_
            repeat' (first | refine ⟨_, _, _, rfl, rfl, MB.getM_P _ _ _ _, ?_⟩ | refine we_im rfl ?_ | refine we_mu rfl ?_ | refine we_op ?_ | refine we_un ?_ | refine we_cb ?_ | refine we_cbS ?_ | refine we_frzV ?_ | refine wa_nil ?_ | refine wa_cons ?_ | refine we_tup ?_ | refine we_lst ?_ | refine we_newT ?_ | refine we_dis1 ?_ | refine we_meth ?_ | refine we_if ?_ | refine we_and ?_ | refine we_or ?_ | refine we_not ?_ | refine we_chain ?_ | refine we_chain3 ?_ | refine wo_none ?_ | refine wo_some ?_ | refine we_slice ?_ | refine we_call ?_ | refine we_c ?_ | refine wt_b ?_ | refine wt_and ?_ | refine wt_or ?_ | refine wt_not ?_ | refine wt_yes ?_ | refine wp_seq ?_ | refine wp_if ?_ | refine wp_ret ?_ | refine wp_drop ?_ | refine wp_set ?_ | refine wp_store ?_ | refine wp_asgP ?_ | refine wp_par2 ?_ | refine wp_par3 ?_ | refine wp_next ?_ | refine wp_raise ?_ | refine wp_retN ?_ | refine wx_of ?_ | refine wxs_nil ?_ | refine wxs_cons ?_ | refine wx_tup ?_ | refine wx_if ?_ | refine wx_call ?_ | refine wx_callX ?_ | refine wp_retX ?_ | refine wp_dropX ?_ | refine ev_len rfl rfl ?_ | refine ⟨_, _, _, rfl, rfl, rfl, ?_⟩ | refine ⟨_, _, rfl, rfl, ?_⟩ | refine ⟨_, rfl, rfl, ?_⟩ | refine ⟨_, rfl, ?_⟩ | refine .inl ⟨_, rfl, ?_⟩ | refine .inr (.inl ⟨_, rfl, ?_⟩) | refine .inr (.inr ⟨_, _, rfl, rfl, ?_⟩) | refine .inr ⟨_, rfl, ?_⟩ | refine ⟨_, rfl, by first | decide | (simp; done), ?_⟩ | refine ev_args rfl ?_ | refine .inl ⟨_, _, rfl, ?_⟩ | refine .inr ⟨_, _, rfl, ?_⟩ | refine ev_par3 rfl ?_ | refine end_rt ⟨_, _, rfl, rfl, ?_⟩ | refine end_nx ⟨_, rfl, ?_⟩ | refine end_ex ⟨_, rfl, ?_⟩ | refine then_nx ?_ | refine then_rt ?_ | refine then_ex ?_ | refine turn_nx ?_ | refine turn_rt ?_ | refine b1 ?_ | refine b0 ?_ | refine ⟨_, _, _, rfl, rfl, mulD_int (mulOk_small (by decide) (by decide)), ?_⟩ | refine ⟨_, _, _, rfl, rfl, MB.ixA_P (by assumption), ?_⟩ | refine ⟨_, _, _, rfl, rfl, MB.stD_P (by first | assumption | omega), ?_⟩ | fail)
            refine ⟨j + 1, m', put ac _ _, .im (.int j), rfl, rfl, by omega, vac.put ⟨by simp; omega, by simp; omega, by simp; omega⟩, fun F => ?_⟩
            rw [S_putadd vac.nd, hS2 F]
            simp only [sumN]
            rw [if_pos ⟨q1, q2⟩, Int.mul_add]
            omega
          · repeat' (first | refine ⟨_, _, _, rfl, rfl, MB.getM_P _ _ _ _, ?_⟩ | refine we_im rfl ?_ | refine we_mu rfl ?_ | refine we_op ?_ | refine we_un ?_ | refine we_cb ?_ | refine we_cbS ?_ | refine we_frzV ?_ | refine wa_nil ?_ | refine wa_cons ?_ | refine we_tup ?_ | refine we_lst ?_ | refine we_newT ?_ | refine we_dis1 ?_ | refine we_meth ?_ | refine we_if ?_ | refine we_and ?_ | refine we_or ?_ | refine we_not ?_ | refine we_chain ?_ | refine we_chain3 ?_ | refine wo_none ?_ | refine wo_some ?_ | refine we_slice ?_ | refine we_call ?_ | refine we_c ?_ | refine wt_b ?_ | refine wt_and ?_ | refine wt_or ?_ | refine wt_not ?_ | refine wt_yes ?_ | refine wp_seq ?_ | refine wp_if ?_ | refine wp_ret ?_ | refine wp_drop ?_ | refine wp_set ?_ | refine wp_store ?_ | refine wp_asgP ?_ | refine wp_par2 ?_ | refine wp_par3 ?_ | refine wp_next ?_ | refine wp_raise ?_ | refine wp_retN ?_ | refine wx_of ?_ | refine wxs_nil ?_ | refine wxs_cons ?_ | refine wx_tup ?_ | refine wx_if ?_ | refine wx_call ?_ | refine wx_callX ?_ | refine wp_retX ?_ | refine wp_dropX ?_ | refine ev_len rfl rfl ?_ | refine ⟨_, _, _, rfl, rfl, rfl, ?_⟩ | refine ⟨_, _, rfl, rfl, ?_⟩ | refine ⟨_, rfl, rfl, ?_⟩ | refine ⟨_, rfl, ?_⟩ | refine .inl ⟨_, rfl, ?_⟩ | refine .inr (.inl ⟨_, rfl, ?_⟩) | refine .inr (.inr ⟨_, _, rfl, rfl, ?_⟩) | refine .inr ⟨_, rfl, ?_⟩ | refine ⟨_, rfl, by first | decide | (simp; done), ?_⟩ | refine ev_args rfl ?_ | refine .inl ⟨_, _, rfl, ?_⟩ | refine .inr ⟨_, _, rfl, ?_⟩ | refine ev_par3 rfl ?_ | refine end_rt ⟨_, _, rfl, rfl, ?_⟩ | refine end_nx ⟨_, rfl, ?_⟩ | refine end_ex ⟨_, rfl, ?_⟩ | refine then_nx ?_ | refine then_rt ?_ | refine then_ex ?_ | refine turn_nx ?_ | refine turn_rt ?_ | refine b1 ?_ | refine b0 ?_ | refine ⟨_, _, _, rfl, rfl, mulD_int (mulOk_small (by decide) (by decide)), ?_⟩ | refine ⟨_, _, _, rfl, rfl, MB.ixA_P (by assumption), ?_⟩ | refine ⟨_, _, _, rfl, rfl, MB.stD_P (by first | assumption | omega), ?_⟩ | fail)
            refine ⟨j + 1, m', ac, .im (.int j), rfl, rfl, by omega, vac, fun F => ?_⟩
            rw [hS2 F]
            simp only [sumN]
            rw [if_neg (fun z => q2 z.2), Int.add_zero]
        · repeat' (first | refine ⟨_, _, _, rfl, rfl, MB.getM_P _ _ _ _, ?_⟩ | refine we_im rfl ?_ | refine we_mu rfl ?_ | refine we_op ?_ | refine we_un ?_ | refine we_cb ?_ | refine we_cbS ?_ | refine we_frzV ?_ | refine wa_nil ?_ | refine wa_cons ?_ | refine we_tup ?_ | refine we_lst ?_ | refine we_newT ?_ | refine we_dis1 ?_ | refine we_meth ?_ | refine we_if ?_ | refine we_and ?_ | refine we_or ?_ | refine we_not ?_ | refine we_chain ?_ | refine we_chain3 ?_ | refine wo_none ?_ | refine wo_some ?_ | refine we_slice ?_ | refine we_call ?_ | refine we_c ?_ | refine wt_b ?_ | refine wt_and ?_ | refine wt_or ?_ | refine wt_not ?_ | refine wt_yes ?_ | refine wp_seq ?_ | refine wp_if ?_ | refine wp_ret ?_ | refine wp_drop ?_ | refine wp_set ?_ | refine wp_store ?_ | refine wp_asgP ?_ | refine wp_par2 ?_ | refine wp_par3 ?_ | refine wp_next ?_ | refine wp_raise ?_ | refine wp_retN ?_ | refine wx_of ?_ | refine wxs_nil ?_ | refine wxs_cons ?_ | refine wx_tup ?_ | refine wx_if ?_ | refine wx_call ?_ | refine wx_callX ?_ | refine wp_retX ?_ | refine wp_dropX ?_ | refine ev_len rfl rfl ?_ | refine ⟨_, _, _, rfl, rfl, rfl, ?_⟩ | refine ⟨_, _, rfl, rfl, ?_⟩ | refine ⟨_, rfl, rfl, ?_⟩ | refine ⟨_, rfl, ?_⟩ | refine .inl ⟨_, rfl, ?_⟩ | refine .inr (.inl ⟨_, rfl, ?_⟩) | refine .inr (.inr ⟨_, _, rfl, rfl, ?_⟩) | refine .inr ⟨_, rfl, ?_⟩ | refine ⟨_, rfl, by first | decide | (simp; done), ?_⟩ | refine ev_args rfl ?_ | refine .inl ⟨_, _, rfl, ?_⟩ | refine .inr ⟨_, _, rfl, ?_⟩ | refine ev_par3 rfl ?_ | refine end_rt ⟨_, _, rfl, rfl, ?_⟩ | refine end_nx ⟨_, rfl, ?_⟩ | refine end_ex ⟨_, rfl, ?_⟩ | refine then_nx ?_ | refine then_rt ?_ | refine then_ex ?_ | refine turn_nx ?_ | refine turn_rt ?_ | refine b1 ?_ | refine b0 ?_ | refine ⟨_, _, _, rfl, rfl, mulD_int (mulOk_small (by decide) (by decide)), ?_⟩ | refine ⟨_, _, _, rfl, rfl, MB.ixA_P (by assumption), ?_⟩ | refine ⟨_, _, _, rfl, rfl, MB.stD_P (by first | assumption | omega), ?_⟩ | fail)
          refine ⟨j + 1, m', ac, .im (.int j), rfl, rfl, by omega, vac, fun F => ?_⟩
          rw [hS2 F]
          simp only [sumN]
          rw [if_neg (fun z => q1 z.1), Int.add_zero]
      · rintro ρ ⟨j, m, ac, s6', rfl, e3, hj, vac, hS2⟩
        have := rng_nil e3
        subst this
        refine turn_nx ⟨r', ac, _, _, _, rfl, rfl, ⟨p ++ [((a, b), v)], by simp [e2]⟩, vac, fun F => ?_⟩
        rw [← hS F, hS2 F, S_cons]
        show _ = S acc F + (v * G n c F (a, b) + S r' (G n c F))
        have hjj : j = (c + 1).toNat := by omega
        subst hjj
        have hG : G n c F (a, b) = sumN (c + 1).toNat (fun i => if a + (i : Int) ≤ n - 1 ∧ b + c - (i : Int) ≤ a then F (a + (i : Int), b + c - (i : Int)) else 0) := rfl
        rw [hG]
        omega
  · rintro ρ ⟨r', acc, s4, s5, s6, rfl, e1, ⟨p, e2⟩, va, hS⟩
    have : r' = [] := by cases r' with
      | nil => rfl
      | cons x r => cases e1
    subst this
    repeat' (first | refine ⟨_, _, _, rfl, rfl, MB.getM_P _ _ _ _, ?_⟩ | refine we_im rfl ?_ | refine we_mu rfl ?_ | refine we_op ?_ | refine we_un ?_ | refine we_cb ?_ | refine we_cbS ?_ | refine we_frzV ?_ | refine wa_nil ?_ | refine wa_cons ?_ | refine we_tup ?_ | refine we_lst ?_ | refine we_newT ?_ | refine we_dis1 ?_ | refine we_meth ?_ | refine we_if ?_ | refine we_and ?_ | refine we_or ?_ | refine we_not ?_ | refine we_chain ?_ | refine we_chain3 ?_ | refine wo_none ?_ | refine wo_some ?_ | refine we_slice ?_ | refine we_call ?_ | refine we_c ?_ | refine wt_b ?_ | refine wt_and ?_ | refine wt_or ?_ | refine wt_not ?_ | refine wt_yes ?_ | refine wp_seq ?_ | refine wp_if ?_ | refine wp_ret ?_ | refine wp_drop ?_ | refine wp_set ?_ | refine wp_store ?_ | refine wp_asgP ?_ | refine wp_par2 ?_ | refine wp_par3 ?_ | refine wp_next ?_ | refine wp_raise ?_ | refine wp_retN ?_ | refine wx_of ?_ | refine wxs_nil ?_ | refine wxs_cons ?_ | refine wx_tup ?_ | refine wx_if ?_ | refine wx_call ?_ | refine wx_callX ?_ | refine wp_retX ?_ | refine wp_dropX ?_ | refine ev_len rfl rfl ?_ | refine ⟨_, _, _, rfl, rfl, rfl, ?_⟩ | refine ⟨_, _, rfl, rfl, ?_⟩ | refine ⟨_, rfl, rfl, ?_⟩ | refine ⟨_, rfl, ?_⟩ | refine .inl ⟨_, rfl, ?_⟩ | refine .inr (.inl ⟨_, rfl, ?_⟩) | refine .inr (.inr ⟨_, _, rfl, rfl, ?_⟩) | refine .inr ⟨_, rfl, ?_⟩ | refine ⟨_, rfl, by first | decide | (simp; done), ?_⟩ | refine ev_args rfl ?_ | refine .inl ⟨_, _, rfl, ?_⟩ | refine .inr ⟨_, _, rfl, ?_⟩ | refine ev_par3 rfl ?_ | refine end_rt ⟨_, _, rfl, rfl, ?_⟩ | refine end_nx ⟨_, rfl, ?_⟩ | refine end_ex ⟨_, rfl, ?_⟩ | refine then_nx ?_ | refine then_rt ?_ | refine then_ex ?_ | refine turn_nx ?_ | refine turn_rt ?_ | refine b1 ?_ | refine b0 ?_ | refine ⟨_, _, _, rfl, rfl, mulD_int (mulOk_small (by decide) (by decide)), ?_⟩ | refine ⟨_, _, _, rfl, rfl, MB.ixA_P (by assumption), ?_⟩ | refine ⟨_, _, _, rfl, rfl, MB.stD_P (by first | assumption | omega), ?_⟩ | fail)
    exact ⟨va, fun F => by rw [← hS F, S_nil]; omega⟩
/-! times_condition -/
theorem times_ok (n : Int) (hn : n ≤ 8) (l : AL) (h : Vd n l) (o : P2) (ho : Vk n o) : ∃ l', F_d9_times_condition w [.int n, dicE l, kD o] = some (.ok (.val (dicE l')) []) ∧ Vd n l' ∧ ∀ F, S l' F = S l (fun k => U n k o F) := by
  suffices hs : Wf (F_d9_times_condition w) [.int n, dicE l, kD o] (fun r => ∃ l', r = .ok (.val (dicE l')) [] ∧ Vd n l' ∧ ∀ F, S l' F = S l (fun k => U n k o F)) by
    obtain ⟨r, e, l', rfl, h1, h2⟩ := hs
    exact ⟨l', e, h1, h2⟩
  obtain ⟨c, d⟩ := o
  obtain ⟨o1, o2, o3⟩ := ho
  simp only at o1 o2 o3
  unfold F_d9_times_condition m_d9_times_condition
  refine wf_run (wp_seq (wp_set (we_frzV (we_cbS (wa_cons (we_im rfl (wa_nil ⟨_, _, rfl, MB.dict_copy w l n hn h, .inr (.inl ⟨_, rfl, .inl ⟨_, rfl, then_nx ?_⟩⟩)⟩)))))))
  refine wp_seq (wp_for (fun rem ρ => ∃ (j m : Nat) (ac : AL) (s4 : Sl), ρ = [.im (.int n), .im (dicE l), .im (kD (c, d)), .im (dicE ac), s4] ∧ rem = rngL (j : Int) m ∧ j + m = d.toNat ∧ Vd n ac ∧ ∀ F, S ac F = S l (Rd n j F)) ?_ ?_ ?_)
  · refine wi_rng1 ?_
    repeat' (first | refine ⟨_, _, _, rfl, rfl, MB.getM_P _ _ _ _, ?_⟩ | refine we_im rfl ?_ | refine we_mu rfl ?_ | refine we_op ?_ | refine we_un ?_ | refine we_cb ?_ | refine we_cbS ?_ | refine we_frzV ?_ | refine wa_nil ?_ | refine wa_cons ?_ | refine we_tup ?_ | refine we_lst ?_ | refine we_newT ?_ | refine we_dis1 ?_ | refine we_meth ?_ | refine we_if ?_ | refine we_and ?_ | refine we_or ?_ | refine we_not ?_ | refine we_chain ?_ | refine we_chain3 ?_ | refine wo_none ?_ | refine wo_some ?_ | refine we_slice ?_ | refine we_call ?_ | refine we_c ?_ | refine wt_b ?_ | refine wt_and ?_ | refine wt_or ?_ | refine wt_not ?_ | refine wt_yes ?_ | refine wp_seq ?_ | refine wp_if ?_ | refine wp_ret ?_ | refine wp_drop ?_ | refine wp_set ?_ | refine wp_store ?_ | refine wp_asgP ?_ | refine wp_par2 ?_ | refine wp_par3 ?_ | refine wp_next ?_ | refine wp_raise ?_ | refine wp_retN ?_ | refine wx_of ?_ | refine wxs_nil ?_ | refine wxs_cons ?_ | refine wx_tup ?_ | refine wx_if ?_ | refine wx_call ?_ | refine wx_callX ?_ | refine wp_retX ?_ | refine wp_dropX ?_ | refine ev_len rfl rfl ?_ | refine ⟨_, _, _, rfl, rfl, rfl, ?_⟩ | refine ⟨_, _, rfl, rfl, ?_⟩ | refine ⟨_, rfl, rfl, ?_⟩ | refine ⟨_, rfl, ?_⟩ | refine .inl ⟨_, rfl, ?_⟩ | refine .inr (.inl ⟨_, rfl, ?_⟩) | refine .inr (.inr ⟨_, _, rfl, rfl, ?_⟩) | refine .inr ⟨_, rfl, ?_⟩ | refine ⟨_, rfl, by first | decide | (simp; done), ?_⟩ | refine ev_args rfl ?_ | refine .inl ⟨_, _, rfl, ?_⟩ | refine .inr ⟨_, _, rfl, ?_⟩ | refine ev_par3 rfl ?_ | refine end_rt ⟨_, _, rfl, rfl, ?_⟩ | refine end_nx ⟨_, rfl, ?_⟩ | refine end_ex ⟨_, rfl, ?_⟩ | refine then_nx ?_ | refine then_rt ?_ | refine then_ex ?_ | refine turn_nx ?_ | refine turn_rt ?_ | refine b1 ?_ | refine b0 ?_ | refine ⟨_, _, _, rfl, rfl, mulD_int (mulOk_small (by decide) (by decide)), ?_⟩ | refine ⟨_, _, _, rfl, rfl, MB.ixA_P (by assumption), ?_⟩ | refine ⟨_, _, _, rfl, rfl, MB.stD_P (by first | assumption | omega), ?_⟩ | fail)
    exact ⟨by omega, by omega, 0, d.toNat, l, .un, rfl, rfl, by omega, h, fun F => rfl⟩
  · rintro d2 r2 ρ ⟨j, m, ac, s4, rfl, e3, hj, vac, hS2⟩
    obtain ⟨m', rfl, rfl, rfl⟩ := rng_cons e3
    refine ⟨_, rfl, ?_⟩
    repeat' (first | refine ⟨_, _, _, rfl, rfl, MB.getM_P _ _ _ _, ?_⟩ | refine we_im rfl ?_ | refine we_mu rfl ?_ | refine we_op ?_ | refine we_un ?_ | refine we_cb ?_ | refine we_cbS ?_ | refine we_frzV ?_ | refine wa_nil ?_ | refine wa_cons ?_ | refine we_tup ?_ | refine we_lst ?_ | refine we_newT ?_ | refine we_dis1 ?_ | refine we_meth ?_ | refine we_if ?_ | refine we_and ?_ | refine we_or ?_ | refine we_not ?_ | refine we_chain ?_ | refine we_chain3 ?_ | refine wo_none ?_ | refine wo_some ?_ | refine we_slice ?_ | refine we_call ?_ | refine we_c ?_ | refine wt_b ?_ | refine wt_and ?_ | refine wt_or ?_ | refine wt_not ?_ | refine wt_yes ?_ | refine wp_seq ?_ | refine wp_if ?_ | refine wp_ret ?_ | refine wp_drop ?_ | refine wp_set ?_ | refine wp_store ?_ | refine wp_asgP ?_ | refine wp_par2 ?_ | refine wp_par3 ?_ | refine wp_next ?_ | refine wp_raise ?_ | refine wp_retN ?_ | refine wx_of ?_ | refine wxs_nil ?_ | refine wxs_cons ?_ | refine wx_tup ?_ | refine wx_if ?_ | refine wx_call ?_ | refine wx_callX ?_ | refine wp_retX ?_ | refine wp_dropX ?_ | refine ev_len rfl rfl ?_ | refine ⟨_, _, _, rfl, rfl, rfl, ?_⟩ | refine ⟨_, _, rfl, rfl, ?_⟩ | refine ⟨_, rfl, rfl, ?_⟩ | refine ⟨_, rfl, ?_⟩ | refine .inl ⟨_, rfl, ?_⟩ | refine .inr (.inl ⟨_, rfl, ?_⟩) | refine .inr (.inr ⟨_, _, rfl, rfl, ?_⟩) | refine .inr ⟨_, rfl, ?_⟩ | refine ⟨_, rfl, by first | decide | (simp; done), ?_⟩ | refine ev_args rfl ?_ | refine .inl ⟨_, _, rfl, ?_⟩ | refine .inr ⟨_, _, rfl, ?_⟩ | refine ev_par3 rfl ?_ | refine end_rt ⟨_, _, rfl, rfl, ?_⟩ | refine end_nx ⟨_, rfl, ?_⟩ | refine end_ex ⟨_, rfl, ?_⟩ | refine then_nx ?_ | refine then_rt ?_ | refine then_ex ?_ | refine turn_nx ?_ | refine turn_rt ?_ | refine b1 ?_ | refine b0 ?_ | refine ⟨_, _, _, rfl, rfl, mulD_int (mulOk_small (by decide) (by decide)), ?_⟩ | refine ⟨_, _, _, rfl, rfl, MB.ixA_P (by assumption), ?_⟩ | refine ⟨_, _, _, rfl, rfl, MB.stD_P (by first | assumption | omega), ?_⟩ | fail)
    obtain ⟨ac', e4, vac', hS3⟩ := raised_ok w n hn ac vac
    refine ev_funV e4 ?_
    repeat' (first | refine ⟨_, _, _, rfl, rfl, MB.getM_P _ _ _ _, ?_⟩ | refine we_im rfl ?_ | refine we_mu rfl ?_ | refine we_op ?_ | refine we_un ?_ | refine we_cb ?_ | refine we_cbS ?_ | refine we_frzV ?_ | refine wa_nil ?_ | refine wa_cons ?_ | refine we_tup ?_ | refine we_lst ?_ | refine we_newT ?_ | refine we_dis1 ?_ | refine we_meth ?_ | refine we_if ?_ | refine we_and ?_ | refine we_or ?_ | refine we_not ?_ | refine we_chain ?_ | refine we_chain3 ?_ | refine wo_none ?_ | refine wo_some ?_ | refine we_slice ?_ | refine we_call ?_ | refine we_c ?_ | refine wt_b ?_ | refine wt_and ?_ | refine wt_or ?_ | refine wt_not ?_ | refine wt_yes ?_ | refine wp_seq ?_ | refine wp_if ?_ | refine wp_ret ?_ | refine wp_drop ?_ | refine wp_set ?_ | refine wp_store ?_ | refine wp_asgP ?_ | refine wp_par2 ?_ | refine wp_par3 ?_ | refine wp_next ?_ | refine wp_raise ?_ | refine wp_retN ?_ | refine wx_of ?_ | refine wxs_nil ?_ | refine wxs_cons ?_ | refine wx_tup ?_ | refine wx_if ?_ | refine wx_call ?_ | refine wx_callX ?_ | refine wp_retX ?_ | refine wp_dropX ?_ | refine ev_len rfl rfl ?_ | refine ⟨_, _, _, rfl, rfl, rfl, ?_⟩ | refine ⟨_, _, rfl, rfl, ?_⟩ | refine ⟨_, rfl, rfl, ?_⟩ | refine ⟨_, rfl, ?_⟩ | refine .inl ⟨_, rfl, ?_⟩ | refine .inr (.inl ⟨_, rfl, ?_⟩) | refine .inr (.inr ⟨_, _, rfl, rfl, ?_⟩) | refine .inr ⟨_, rfl, ?_⟩ | refine ⟨_, rfl, by first | decide | (simp; done), ?_⟩ | refine ev_args rfl ?_ | refine .inl ⟨_, _, rfl, ?_⟩ | refine .inr ⟨_, _, rfl, ?_⟩ | refine ev_par3 rfl ?_ | refine end_rt ⟨_, _, rfl, rfl, ?_⟩ | refine end_nx ⟨_, rfl, ?_⟩ | refine end_ex ⟨_, rfl, ?_⟩ | refine then_nx ?_ | refine then_rt ?_ | refine then_ex ?_ | refine turn_nx ?_ | refine turn_rt ?_ | refine b1 ?_ | refine b0 ?_ | refine ⟨_, _, _, rfl, rfl, mulD_int (mulOk_small (by decide) (by decide)), ?_⟩ | refine ⟨_, _, _, rfl, rfl, MB.ixA_P (by assumption), ?_⟩ | refine ⟨_, _, _, rfl, rfl, MB.stD_P (by first | assumption | omega), ?_⟩ | fail)
    refine ⟨j + 1, m', ac', .im (.int j), rfl, rfl, by omega, vac', fun F => ?_⟩
    rw [hS3 F, hS2]
    rfl
  · rintro ρ ⟨j, m, ac, s4, rfl, e3, hj, vac, hS2⟩
    have := rng_nil e3
    subst this
    repeat' (first | refine ⟨_, _, _, rfl, rfl, MB.getM_P _ _ _ _, ?_⟩ | refine we_im rfl ?_ | refine we_mu rfl ?_ | refine we_op ?_ | refine we_un ?_ | refine we_cb ?_ | refine we_cbS ?_ | refine we_frzV ?_ | refine wa_nil ?_ | refine wa_cons ?_ | refine we_tup ?_ | refine we_lst ?_ | refine we_newT ?_ | refine we_dis1 ?_ | refine we_meth ?_ | refine we_if ?_ | refine we_and ?_ | refine we_or ?_ | refine we_not ?_ | refine we_chain ?_ | refine we_chain3 ?_ | refine wo_none ?_ | refine wo_some ?_ | refine we_slice ?_ | refine we_call ?_ | refine we_c ?_ | refine wt_b ?_ | refine wt_and ?_ | refine wt_or ?_ | refine wt_not ?_ | refine wt_yes ?_ | refine wp_seq ?_ | refine wp_if ?_ | refine wp_ret ?_ | refine wp_drop ?_ | refine wp_set ?_ | refine wp_store ?_ | refine wp_asgP ?_ | refine wp_par2 ?_ | refine wp_par3 ?_ | refine wp_next ?_ | refine wp_raise ?_ | refine wp_retN ?_ | refine wx_of ?_ | refine wxs_nil ?_ | refine wxs_cons ?_ | refine wx_tup ?_ | refine wx_if ?_ | refine wx_call ?_ | refine wx_callX ?_ | refine wp_retX ?_ | refine wp_dropX ?_ | refine ev_len rfl rfl ?_ | refine ⟨_, _, _, rfl, rfl, rfl, ?_⟩ | refine ⟨_, _, rfl, rfl, ?_⟩ | refine ⟨_, rfl, rfl, ?_⟩ | refine ⟨_, rfl, ?_⟩ | refine .inl ⟨_, rfl, ?_⟩ | refine .inr (.inl ⟨_, rfl, ?_⟩) | refine .inr (.inr ⟨_, _, rfl, rfl, ?_⟩) | refine .inr ⟨_, rfl, ?_⟩ | refine ⟨_, rfl, by first | decide | (simp; done), ?_⟩ | refine ev_args rfl ?_ | refine .inl ⟨_, _, rfl, ?_⟩ | refine .inr ⟨_, _, rfl, ?_⟩ | refine ev_par3 rfl ?_ | refine end_rt ⟨_, _, rfl, rfl, ?_⟩ | refine end_nx ⟨_, rfl, ?_⟩ | refine end_ex ⟨_, rfl, ?_⟩ | refine then_nx ?_ | refine then_rt ?_ | refine then_ex ?_ | refine turn_nx ?_ | refine turn_rt ?_ | refine b1 ?_ | refine b0 ?_ | refine ⟨_, _, _, rfl, rfl, mulD_int (mulOk_small (by decide) (by decide)), ?_⟩ | refine ⟨_, _, _, rfl, rfl, MB.ixA_P (by assumption), ?_⟩ | refine ⟨_, _, _, rfl, rfl, MB.stD_P (by first | assumption | omega), ?_⟩ | fail)
    obtain ⟨l', e4, vl', hS3⟩ := grown_ok w n hn (c - d) (by omega) (by omega) ac vac
    refine ev_funV e4 ?_
    repeat' (first | refine ⟨_, _, _, rfl, rfl, MB.getM_P _ _ _ _, ?_⟩ | refine we_im rfl ?_ | refine we_mu rfl ?_ | refine we_op ?_ | refine we_un ?_ | refine we_cb ?_ | refine we_cbS ?_ | refine we_frzV ?_ | refine wa_nil ?_ | refine wa_cons ?_ | refine we_tup ?_ | refine we_lst ?_ | refine we_newT ?_ | refine we_dis1 ?_ | refine we_meth ?_ | refine we_if ?_ | refine we_and ?_ | refine we_or ?_ | refine we_not ?_ | refine we_chain ?_ | refine we_chain3 ?_ | refine wo_none ?_ | refine wo_some ?_ | refine we_slice ?_ | refine we_call ?_ | refine we_c ?_ | refine wt_b ?_ | refine wt_and ?_ | refine wt_or ?_ | refine wt_not ?_ | refine wt_yes ?_ | refine wp_seq ?_ | refine wp_if ?_ | refine wp_ret ?_ | refine wp_drop ?_ | refine wp_set ?_ | refine wp_store ?_ | refine wp_asgP ?_ | refine wp_par2 ?_ | refine wp_par3 ?_ | refine wp_next ?_ | refine wp_raise ?_ | refine wp_retN ?_ | refine wx_of ?_ | refine wxs_nil ?_ | refine wxs_cons ?_ | refine wx_tup ?_ | refine wx_if ?_ | refine wx_call ?_ | refine wx_callX ?_ | refine wp_retX ?_ | refine wp_dropX ?_ | refine ev_len rfl rfl ?_ | refine ⟨_, _, _, rfl, rfl, rfl, ?_⟩ | refine ⟨_, _, rfl, rfl, ?_⟩ | refine ⟨_, rfl, rfl, ?_⟩ | refine ⟨_, rfl, ?_⟩ | refine .inl ⟨_, rfl, ?_⟩ | refine .inr (.inl ⟨_, rfl, ?_⟩) | refine .inr (.inr ⟨_, _, rfl, rfl, ?_⟩) | refine .inr ⟨_, rfl, ?_⟩ | refine ⟨_, rfl, by first | decide | (simp; done), ?_⟩ | refine ev_args rfl ?_ | refine .inl ⟨_, _, rfl, ?_⟩ | refine .inr ⟨_, _, rfl, ?_⟩ | refine ev_par3 rfl ?_ | refine end_rt ⟨_, _, rfl, rfl, ?_⟩ | refine end_nx ⟨_, rfl, ?_⟩ | refine end_ex ⟨_, rfl, ?_⟩ | refine then_nx ?_ | refine then_rt ?_ | refine then_ex ?_ | refine turn_nx ?_ | refine turn_rt ?_ | refine b1 ?_ | refine b0 ?_ | refine ⟨_, _, _, rfl, rfl, mulD_int (mulOk_small (by decide) (by decide)), ?_⟩ | refine ⟨_, _, _, rfl, rfl, MB.ixA_P (by assumption), ?_⟩ | refine ⟨_, _, _, rfl, rfl, MB.stD_P (by first | assumption | omega), ?_⟩ | fail)
    refine ⟨vl', fun F => ?_⟩
    rw [hS3 F, hS2]
    apply S_congr
    intro x hx
    have hj2 : j = d.toNat := by omega
    subst hj2
    exact T_eq hn (h.ks _ (List.mem_map.mpr ⟨x, hx, rfl⟩)) (show Vk n (c, d) from ⟨o1, o2, o3⟩) F
end K56

set_option Elab.async false
set_option linter.all false
set_option maxRecDepth 100000
set_option maxHeartbeats 4000000
namespace K56
open PySem PySem.Spec PyProof.Rows L2 DL MB
variable (w : World)
/-- small values -/
def Sm (l : AL) : Prop := ∀ x ∈ l, -(2 ^ 62) < x.2 ∧ x.2 < 2 ^ 62
theorem sgn_mul {s v : Int} (hs : s = 1 ∨ s = -1) (h : -(2 ^ 62) < v ∧ v < 2 ^ 62) : -(2 ^ 63) < s * v ∧ s * v < 2 ^ 63 := by
  rcases hs with rfl | rfl <;> omega
theorem joined_ok (n : Int) (hn : n ≤ 8) (f g : AL) (hf : Vd n f) (hg : Vd n g) (sm : Sm f ∨ Sm g) : ∃ l', F_d23_law_joined w [.int n, dicE f, dicE g] = some (.ok (.val (dicE l')) []) ∧ Vd n l' ∧ ∀ F, S l' F = S f (fun kf => S g (fun kg => J n kf kg F)) := by
  suffices hs : Wf (F_d23_law_joined w) [.int n, dicE f, dicE g] (fun r => ∃ l', r = .ok (.val (dicE l')) [] ∧ Vd n l' ∧ ∀ F, S l' F = S f (fun kf => S g (fun kg => J n kf kg F))) by
    obtain ⟨r, e, l', rfl, h1, h2⟩ := hs
    exact ⟨l', e, h1, h2⟩
  unfold F_d23_law_joined m_d23_law_joined
  refine wf_run (wp_seq (wp_set (we_newT (.inr ⟨_, rfl, then_nx ?_⟩))))
  refine wp_seq (wp_for (fun rem ρ => ∃ (r acc : AL) (s4 s5 s6 s7 s8 s9 s10 s11 s12 s13 : Sl), ρ = [.im (.int n), .im (dicE f), .im (dicE g), .mu (dicE acc), s4, s5, s6, s7, s8, s9, s10, s11, s12, s13] ∧ rem = r.map (fun x => kD x.1) ∧ (∃ p, f = p ++ r) ∧ Vd n acc ∧
      ∀ F, S acc F + S r (fun kf => S g (fun kg => J n kf kg F)) = S f (fun kf => S g (fun kg => J n kf kg F))) ?_ ?_ ?_)
  · refine wi_seq (we_im rfl ⟨_, _, rfl, rfl, ?_⟩)
    exact ⟨f, [], .un, .un, .un, .un, .un, .un, .un, .un, .un, .un, rfl, rfl, ⟨[], rfl⟩, Vd.nil n, fun F => by simp [S_nil]⟩
  · rintro d r ρ ⟨r', acc, s4, s5, s6, s7, s8, s9, s10, s11, s12, s13, rfl, e1, ⟨p, e2⟩, va, hS⟩
    cases r' with
    | nil => cases e1
    | cons x r' =>
      cases e1
      obtain ⟨⟨c, d⟩, vf⟩ := x
      have hlk : look f (c, d) = some vf := look_of hf.nd (by rw [e2]; simp)
      have hv : Vk n (c, d) := hf.ks _ (by rw [e2]; simp)
      have smf : Sm f → -(2 ^ 62) < vf ∧ vf < 2 ^ 62 := fun h => h ((c, d), vf) (by rw [e2]; simp)
      obtain ⟨v1, v2, v3⟩ := hv
      simp only at v1 v2 v3
      refine ⟨_, rfl, wp_seq (wp_asgP (we_im rfl ⟨_, _, rfl, rfl, then_nx ?_⟩))⟩
      refine wp_for (fun rem ρ => ∃ (rg ac : AL) (s7 s8 s9 s10 s11 s12 s13 : Sl), ρ = [.im (.int n), .im (dicE f), .im (dicE g), .mu (dicE ac), .im (kD (c, d)), .im (.int c), .im (.int d), s7, s8, s9, s10, s11, s12, s13] ∧ rem = rg.map (fun x => kD x.1) ∧ (∃ p, g = p ++ rg) ∧ Vd n ac ∧
          ∀ F, S ac F + vf * S rg (fun kg => J n (c, d) kg F) = S acc F + vf * S g (fun kg => J n (c, d) kg F)) ?_ ?_ ?_
      · refine wi_seq (we_im rfl ⟨_, _, rfl, rfl, ?_⟩)
        exact ⟨g, acc, _, _, _, _, _, _, _, rfl, rfl, ⟨[], rfl⟩, va, fun F => rfl⟩
      · rintro d2 r2 ρ ⟨rg, ac, t7, t8, t9, t10, t11, t12, t13, rfl, e3, ⟨pg, e4⟩, vac, hS2⟩
        cases rg with
        | nil => cases e3
        | cons y rg =>
          cases e3
          obtain ⟨⟨a, b⟩, vg⟩ := y
          have hlg : look g (a, b) = some vg := look_of hg.nd (by rw [e4]; simp)
          have hvg : Vk n (a, b) := hg.ks _ (by rw [e4]; simp)
          have smg : Sm g → -(2 ^ 62) < vg ∧ vg < 2 ^ 62 := fun h => h ((a, b), vg) (by rw [e4]; simp)
          obtain ⟨u1, u2, u3⟩ := hvg
          simp only at u1 u2 u3
          have mok : ∀ s : Int, s = 1 ∨ s = -1 → mulOk (s * vf) vg = true := fun s hs => by
            rcases sm with h | h
            · have := sgn_mul hs (smf h); exact mulOk_smallL this.1 this.2
            · have := smg h; exact mulOk_small (by omega) (by omega)
          refine ⟨_, rfl, wp_seq (wp_asgP (we_im rfl ⟨_, _, rfl, rfl, then_nx ?_⟩))⟩
          refine wp_for (fun rem ρ => ∃ (j m : Nat) (ad : AL) (s10 s11 s12 s13 : Sl), ρ = [.im (.int n), .im (dicE f), .im (dicE g), .mu (dicE ad), .im (kD (c, d)), .im (.int c), .im (.int d), .im (kD (a, b)), .im (.int a), .im (.int b), s10, s11, s12, s13] ∧ rem = rngL (j : Int) m ∧ j + m = (c - d + 1).toNat ∧ Vd n ad ∧
              ∀ F, S ad F = S ac F + vf * vg * sumN j (fun i => J1 n (a + 1 + c - (i : Int)) (b + d + (i : Int)) F)) ?_ ?_ ?_
          · refine wi_rng1 ?_
            repeat' (first | refine ⟨_, _, _, rfl, rfl, MB.getM_P _ _ _ _, ?_⟩ | refine we_im rfl ?_ | refine we_mu rfl ?_ | refine we_op ?_ | refine we_un ?_ | refine we_cb ?_ | refine we_cbS ?_ | refine we_frzV ?_ | refine wa_nil ?_ | refine wa_cons ?_ | refine we_tup ?_ | refine we_lst ?_ | refine we_newT ?_ | refine we_dis1 ?_ | refine we_meth ?_ | refine we_if ?_ | refine we_and ?_ | refine we_or ?_ | refine we_not ?_ | refine we_chain ?_ | refine we_chain3 ?_ | refine wo_none ?_ | refine wo_some ?_ | refine we_slice ?_ | refine we_call ?_ | refine we_c ?_ | refine wt_b ?_ | refine wt_and ?_ | refine wt_or ?_ | refine wt_not ?_ | refine wt_yes ?_ | refine wp_seq ?_ | refine wp_if ?_ | refine wp_ret ?_ | refine wp_drop ?_ | refine wp_set ?_ | refine wp_store ?_ | refine wp_asgP ?_ | refine wp_par2 ?_ | refine wp_par3 ?_ | refine wp_next ?_ | refine wp_raise ?_ | refine wp_retN ?_ | refine wx_of ?_ | refine wxs_nil ?_ | refine wxs_cons ?_ | refine wx_tup ?_ | refine wx_if ?_ | refine wx_call ?_ | refine wx_callX ?_ | refine wp_retX ?_ | refine wp_dropX ?_ | refine ev_len rfl rfl ?_ | refine ⟨_, _, _, rfl, rfl, rfl, ?_⟩ | refine ⟨_, _, rfl, rfl, ?_⟩ | refine ⟨_, rfl, rfl, ?_⟩ | refine ⟨_, rfl, ?_⟩ | refine .inl ⟨_, rfl, ?_⟩ | refine .inr (.inl ⟨_, rfl, ?_⟩) | refine .inr (.inr ⟨_, _, rfl, rfl, ?_⟩) | refine .inr ⟨_, rfl, ?_⟩ | refine ⟨_, rfl, by first | decide | (simp; done), ?_⟩ | refine ev_args rfl ?_ | refine .inl ⟨_, _, rfl, ?_⟩ | refine .inr ⟨_, _, rfl, ?_⟩ | refine ev_par3 rfl ?_ | refine end_rt ⟨_, _, rfl, rfl, ?_⟩ | refine end_nx ⟨_, rfl, ?_⟩ | refine end_ex ⟨_, rfl, ?_⟩ | refine then_nx ?_ | refine then_rt ?_ | refine then_ex ?_ | refine turn_nx ?_ | refine turn_rt ?_ | refine b1 ?_ | refine b0 ?_ | refine ⟨_, _, _, rfl, rfl, mulD_int (mulOk_small (by decide) (by decide)), ?_⟩ | refine ⟨_, _, _, rfl, rfl, MB.ixA_P (by assumption), ?_⟩ | refine ⟨_, _, _, rfl, rfl, MB.stD_P (by first | assumption | omega), ?_⟩ | fail)
            exact ⟨by omega, by omega, 0, (c - d + 1).toNat, ac, _, _, _, _, rfl, rfl, by omega, vac, fun F => by simp [sumN]⟩
          · rintro d3 r3 ρ ⟨j, m, ad, q10, q11, q12, q13, rfl, e5, hj, vad, hS3⟩
            obtain ⟨m', rfl, rfl, rfl⟩ := rng_cons e5
            have hl64 := vad.len hn
            refine ⟨_, rfl, ?_⟩
            repeat' (first | refine ⟨_, _, _, rfl, rfl, MB.getM_P _ _ _ _, ?_⟩ | refine we_im rfl ?_ | refine we_mu rfl ?_ | refine we_op ?_ | refine we_un ?_ | refine we_cb ?_ | refine we_cbS ?_ | refine we_frzV ?_ | refine wa_nil ?_ | refine wa_cons ?_ | refine we_tup ?_ | refine we_lst ?_ | refine we_newT ?_ | refine we_dis1 ?_ | refine we_meth ?_ | refine we_if ?_ | refine we_and ?_ | refine we_or ?_ | refine we_not ?_ | refine we_chain ?_ | refine we_chain3 ?_ | refine wo_none ?_ | refine wo_some ?_ | refine we_slice ?_ | refine we_call ?_ | refine we_c ?_ | refine wt_b ?_ | refine wt_and ?_ | refine wt_or ?_ | refine wt_not ?_ | refine wt_yes ?_ | refine wp_seq ?_ | refine wp_if ?_ | refine wp_ret ?_ | refine wp_drop ?_ | refine wp_set ?_ | refine wp_store ?_ | refine wp_asgP ?_ | refine wp_par2 ?_ | refine wp_par3 ?_ | refine wp_next ?_ | refine wp_raise ?_ | refine wp_retN ?_ | refine wx_of ?_ | refine wxs_nil ?_ | refine wxs_cons ?_ | refine wx_tup ?_ | refine wx_if ?_ | refine wx_call ?_ | refine wx_callX ?_ | refine wp_retX ?_ | refine wp_dropX ?_ | refine ev_len rfl rfl ?_ | refine ⟨_, _, _, rfl, rfl, rfl, ?_⟩ | refine ⟨_, _, rfl, rfl, ?_⟩ | refine ⟨_, rfl, rfl, ?_⟩ | refine ⟨_, rfl, ?_⟩ | refine .inl ⟨_, rfl, ?_⟩ | refine .inr (.inl ⟨_, rfl, ?_⟩) | refine .inr (.inr ⟨_, _, rfl, rfl, ?_⟩) | refine .inr ⟨_, rfl, ?_⟩ | refine ⟨_, rfl, by first | decide | (simp; done), ?_⟩ | refine ev_args rfl ?_ | refine .inl ⟨_, _, rfl, ?_⟩ | refine .inr ⟨_, _, rfl, ?_⟩ | refine ev_par3 rfl ?_ | refine end_rt ⟨_, _, rfl, rfl, ?_⟩ | refine end_nx ⟨_, rfl, ?_⟩ | refine end_ex ⟨_, rfl, ?_⟩ | refine then_nx ?_ | refine then_rt ?_ | refine then_ex ?_ | refine turn_nx ?_ | refine turn_rt ?_ | refine b1 ?_ | refine b0 ?_ | refine ⟨_, _, _, rfl, rfl, mulD_int (mulOk_small (by decide) (by decide)), ?_⟩ | refine ⟨_, _, _, rfl, rfl, MB.ixA_P (by assumption), ?_⟩ | refine ⟨_, _, _, rfl, rfl, MB.stD_P (by first | assumption | omega), ?_⟩ | fail)
            refine bt (fun c1 => ?_) (fun c1 => ?_)
            · repeat' (first | refine ⟨_, _, _, rfl, rfl, MB.getM_P _ _ _ _, ?_⟩ | refine we_im rfl ?_ | refine we_mu rfl ?_ | refine we_op ?_ | refine we_un ?_ | refine we_cb ?_ | refine we_cbS ?_ | refine we_frzV ?_ | refine wa_nil ?_ | refine wa_cons ?_ | refine we_tup ?_ | refine we_lst ?_ | refine we_newT ?_ | refine we_dis1 ?_ | refine we_meth ?_ | refine we_if ?_ | refine we_and ?_ | refine we_or ?_ | refine we_not ?_ | refine we_chain ?_ | refine we_chain3 ?_ | refine wo_none ?_ | refine wo_some ?_ | refine we_slice ?_ | refine we_call ?_ | refine we_c ?_ | refine wt_b ?_ | refine wt_and ?_ | refine wt_or ?_ | refine wt_not ?_ | refine wt_yes ?_ | refine wp_seq ?_ | refine wp_if ?_ | refine wp_ret ?_ | refine wp_drop ?_ | refine wp_set ?_ | refine wp_store ?_ | refine wp_asgP ?_ | refine wp_par2 ?_ | refine wp_par3 ?_ | refine wp_next ?_ | refine wp_raise ?_ | refine wp_retN ?_ | refine wx_of ?_ | refine wxs_nil ?_ | refine wxs_cons ?_ | refine wx_tup ?_ | refine wx_if ?_ | refine wx_call ?_ | refine wx_callX ?_ | refine wp_retX ?_ | refine wp_dropX ?_ | refine ev_len rfl rfl ?_ | refine ⟨_, _, _, rfl, rfl, rfl, ?_⟩ | refine ⟨_, _, rfl, rfl, ?_⟩ | refine ⟨_, rfl, rfl, ?_⟩ | refine ⟨_, rfl, ?_⟩ | refine .inl ⟨_, rfl, ?_⟩ | refine .inr (.inl ⟨_, rfl, ?_⟩) | refine .inr (.inr ⟨_, _, rfl, rfl, ?_⟩) | refine .inr ⟨_, rfl, ?_⟩ | refine ⟨_, rfl, by first | decide | (simp; done), ?_⟩ | refine ev_args rfl ?_ | refine .inl ⟨_, _, rfl, ?_⟩ | refine .inr ⟨_, _, rfl, ?_⟩ | refine ev_par3 rfl ?_ | refine end_rt ⟨_, _, rfl, rfl, ?_⟩ | refine end_nx ⟨_, rfl, ?_⟩ | refine end_ex ⟨_, rfl, ?_⟩ | refine then_nx ?_ | refine then_rt ?_ | refine then_ex ?_ | refine turn_nx ?_ | refine turn_rt ?_ | refine b1 ?_ | refine b0 ?_ | refine ⟨_, _, _, rfl, rfl, mulD_int (mulOk_small (by decide) (by decide)), ?_⟩ | refine ⟨_, _, _, rfl, rfl, MB.ixA_P (by assumption), ?_⟩ | refine ⟨_, _, _, rfl, rfl, MB.stD_P (by first | assumption | omega), ?_⟩ | fail)
              refine bt (fun c2 => ?_) (fun c2 => ?_)
              · repeat' (first | refine ⟨_, _, _, rfl, rfl, MB.getM_P _ _ _ _, ?_⟩ | refine we_im rfl ?_ | refine we_mu rfl ?_ | refine we_op ?_ | refine we_un ?_ | refine we_cb ?_ | refine we_cbS ?_ | refine we_frzV ?_ | refine wa_nil ?_ | refine wa_cons ?_ | refine we_tup ?_ | refine we_lst ?_ | refine we_newT ?_ | refine we_dis1 ?_ | refine we_meth ?_ | refine we_if ?_ | refine we_and ?_ | refine we_or ?_ | refine we_not ?_ | refine we_chain ?_ | refine we_chain3 ?_ | refine wo_none ?_ | refine wo_some ?_ | refine we_slice ?_ | refine we_call ?_ | refine we_c ?_ | refine wt_b ?_ | refine wt_and ?_ | refine wt_or ?_ | refine wt_not ?_ | refine wt_yes ?_ | refine wp_seq ?_ | refine wp_if ?_ | refine wp_ret ?_ | refine wp_drop ?_ | refine wp_set ?_ | refine wp_store ?_ | refine wp_asgP ?_ | refine wp_par2 ?_ | refine wp_par3 ?_ | refine wp_next ?_ | refine wp_raise ?_ | refine wp_retN ?_ | refine wx_of ?_ | refine wxs_nil ?_ | refine wxs_cons ?_ | refine wx_tup ?_ | refine wx_if ?_ | refine wx_call ?_ | refine wx_callX ?_ | refine wp_retX ?_ | refine wp_dropX ?_ | refine ev_len rfl rfl ?_ | refine ⟨_, _, _, rfl, rfl, rfl, ?_⟩ | refine ⟨_, _, rfl, rfl, ?_⟩ | refine ⟨_, rfl, rfl, ?_⟩ | refine ⟨_, rfl, ?_⟩ | refine .inl ⟨_, rfl, ?_⟩ | refine .inr (.inl ⟨_, rfl, ?_⟩) | refine .inr (.inr ⟨_, _, rfl, rfl, ?_⟩) | refine .inr ⟨_, rfl, ?_⟩ | refine ⟨_, rfl, by first | decide | (simp; done), ?_⟩ | refine ev_args rfl ?_ | refine .inl ⟨_, _, rfl, ?_⟩ | refine .inr ⟨_, _, rfl, ?_⟩ | refine ev_par3 rfl ?_ | refine end_rt ⟨_, _, rfl, rfl, ?_⟩ | refine end_nx ⟨_, rfl, ?_⟩ | refine end_ex ⟨_, rfl, ?_⟩ | refine then_nx ?_ | refine then_rt ?_ | refine then_ex ?_ | refine turn_nx ?_ | refine turn_rt ?_ | refine b1 ?_ | refine b0 ?_ | refine ⟨_, _, _, rfl, rfl, mulD_int (mulOk_small (by decide) (by decide)), ?_⟩ | refine ⟨_, _, _, rfl, rfl, MB.ixA_P (by assumption), ?_⟩ | refine ⟨_, _, _, rfl, rfl, MB.stD_P (by first | assumption | omega), ?_⟩ | fail)
                refine bt (fun c3 => ?_) (fun c3 => ?_)
                · repeat' (first | refine ⟨_, _, _, rfl, rfl, MB.getM_P _ _ _ _, ?_⟩ | refine we_im rfl ?_ | refine we_mu rfl ?_ | refine we_op ?_ | refine we_un ?_ | refine we_cb ?_ | refine we_cbS ?_ | refine we_frzV ?_ | refine wa_nil ?_ | refine wa_cons ?_ | refine we_tup ?_ | refine we_lst ?_ | refine we_newT ?_ | refine we_dis1 ?_ | refine we_meth ?_ | refine we_if ?_ | refine we_and ?_ | refine we_or ?_ | refine we_not ?_ | refine we_chain ?_ | refine we_chain3 ?_ | refine wo_none ?_ | refine wo_some ?_ | refine we_slice ?_ | refine we_call ?_ | refine we_c ?_ | refine wt_b ?_ | refine wt_and ?_ | refine wt_or ?_ | refine wt_not ?_ | refine wt_yes ?_ | refine wp_seq ?_ | refine wp_if ?_ | refine wp_ret ?_ | refine wp_drop ?_ | refine wp_set ?_ | refine wp_store ?_ | refine wp_asgP ?_ | refine wp_par2 ?_ | refine wp_par3 ?_ | refine wp_next ?_ | refine wp_raise ?_ | refine wp_retN ?_ | refine wx_of ?_ | refine wxs_nil ?_ | refine wxs_cons ?_ | refine wx_tup ?_ | refine wx_if ?_ | refine wx_call ?_ | refine wx_callX ?_ | refine wp_retX ?_ | refine wp_dropX ?_ | refine ev_len rfl rfl ?_ | refine ⟨_, _, _, rfl, rfl, rfl, ?_⟩ | refine ⟨_, _, rfl, rfl, ?_⟩ | refine ⟨_, rfl, rfl, ?_⟩ | refine ⟨_, rfl, ?_⟩ | refine .inl ⟨_, rfl, ?_⟩ | refine .inr (.inl ⟨_, rfl, ?_⟩) | refine .inr (.inr ⟨_, _, rfl, rfl, ?_⟩) | refine .inr ⟨_, rfl, ?_⟩ | refine ⟨_, rfl, by first | decide | (simp; done), ?_⟩ | refine ev_args rfl ?_ | refine .inl ⟨_, _, rfl, ?_⟩ | refine .inr ⟨_, _, rfl, ?_⟩ | refine ev_par3 rfl ?_ | refine end_rt ⟨_, _, rfl, rfl, ?_⟩ | refine end_nx ⟨_, rfl, ?_⟩ | refine end_ex ⟨_, rfl, ?_⟩ | refine then_nx ?_ | refine then_rt ?_ | refine then_ex ?_ | refine turn_nx ?_ | refine turn_rt ?_ | refine b1 ?_ | refine b0 ?_ | refine ⟨_, _, _, rfl, rfl, mulD_int (mulOk_small (by decide) (by decide)), ?_⟩ | refine ⟨_, _, _, rfl, rfl, MB.ixA_P (by assumption), ?_⟩ | refine ⟨_, _, _, rfl, rfl, MB.stD_P (by first | assumption | omega), ?_⟩ | fail)
                  refine ⟨_, _, _, rfl, rfl, mulD_int (mok (-1) (.inr rfl)), ?_⟩
                  repeat' (first | refine ⟨_, _, _, rfl, rfl, MB.getM_P _ _ _ _, ?_⟩ | refine we_im rfl ?_ | refine we_mu rfl ?_ | refine we_op ?_ | refine we_un ?_ | refine we_cb ?_ | refine we_cbS ?_ | refine we_frzV ?_ | refine wa_nil ?_ | refine wa_cons ?_ | refine we_tup ?_ | refine we_lst ?_ | refine we_newT ?_ | refine we_dis1 ?_ | refine we_meth ?_ | refine we_if ?_ | refine we_and ?_ | refine we_or ?_ | refine we_not ?_ | refine we_chain ?_ | refine we_chain3 ?_ | refine wo_none ?_ | refine wo_some ?_ | refine we_slice ?_ | refine we_call ?_ | refine we_c ?_ | refine wt_b ?_ | refine wt_and ?_ | refine wt_or ?_ | refine wt_not ?_ | refine wt_yes ?_ | refine wp_seq ?_ | refine wp_if ?_ | refine wp_ret ?_ | refine wp_drop ?_ | refine wp_set ?_ | refine wp_store ?_ | refine wp_asgP ?_ | refine wp_par2 ?_ | refine wp_par3 ?_ | refine wp_next ?_ | refine wp_raise ?_ | refine wp_retN ?_ | refine wx_of ?_ | refine wxs_nil ?_ | refine wxs_cons ?_ | refine wx_tup ?_ | refine wx_if ?_ | refine wx_call ?_ | refine wx_callX ?_ | refine wp_retX ?_ | refine wp_dropX ?_ | refine ev_len rfl rfl ?_ | refine ⟨_, _, _, rfl, rfl, rfl, ?_⟩ | refine ⟨_, _, rfl, rfl, ?_⟩ | refine ⟨_, rfl, rfl, ?_⟩ | refine ⟨_, rfl, ?_⟩ | refine .inl ⟨_, rfl, ?_⟩ | refine .inr (.inl ⟨_, rfl, ?_⟩) | refine .inr (.inr ⟨_, _, rfl, rfl, ?_⟩) | refine .inr ⟨_, rfl, ?_⟩ | refine ⟨_, rfl, by first | decide | (simp; done), ?_⟩ | refine ev_args rfl ?_ | refine .inl ⟨_, _, rfl, ?_⟩ | refine .inr ⟨_, _, rfl, ?_⟩ | refine ev_par3 rfl ?_ | refine end_rt ⟨_, _, rfl, rfl, ?_⟩ | refine end_nx ⟨_, rfl, ?_⟩ | refine end_ex ⟨_, rfl, ?_⟩ | refine then_nx ?_ | refine then_rt ?_ | refine then_ex ?_ | refine turn_nx ?_ | refine turn_rt ?_ | refine b1 ?_ | refine b0 ?_ | refine ⟨_, _, _, rfl, rfl, mulD_int (mulOk_small (by decide) (by decide)), ?_⟩ | refine ⟨_, _, _, rfl, rfl, MB.ixA_P (by assumption), ?_⟩ | refine ⟨_, _, _, rfl, rfl, MB.stD_P (by first | assumption | omega), ?_⟩ | fail)
                  refine ⟨j + 1, m', put ad _ (cf ad _ + -1 * vf * vg), _, _, _, _, rfl, rfl, by omega, vad.put ⟨by simp; omega, by simp; omega, by simp; omega⟩, fun F => ?_⟩
                  rw [S_putadd vad.nd, hS3 F]
                  simp only [sumN, J1]
                  rw [if_pos c1, if_pos (by omega), Int.mul_add, Int.mul_neg, Int.neg_mul, Int.one_mul, Int.neg_mul, Int.neg_mul]
                  omega
                · repeat' (first | refine ⟨_, _, _, rfl, rfl, MB.getM_P _ _ _ _, ?_⟩ | refine we_im rfl ?_ | refine we_mu rfl ?_ | refine we_op ?_ | refine we_un ?_ | refine we_cb ?_ | refine we_cbS ?_ | refine we_frzV ?_ | refine wa_nil ?_ | refine wa_cons ?_ | refine we_tup ?_ | refine we_lst ?_ | refine we_newT ?_ | refine we_dis1 ?_ | refine we_meth ?_ | refine we_if ?_ | refine we_and ?_ | refine we_or ?_ | refine we_not ?_ | refine we_chain ?_ | refine we_chain3 ?_ | refine wo_none ?_ | refine wo_some ?_ | refine we_slice ?_ | refine we_call ?_ | refine we_c ?_ | refine wt_b ?_ | refine wt_and ?_ | refine wt_or ?_ | refine wt_not ?_ | refine wt_yes ?_ | refine wp_seq ?_ | refine wp_if ?_ | refine wp_ret ?_ | refine wp_drop ?_ | refine wp_set ?_ | refine wp_store ?_ | refine wp_asgP ?_ | refine wp_par2 ?_ | refine wp_par3 ?_ | refine wp_next ?_ | refine wp_raise ?_ | refine wp_retN ?_ | refine wx_of ?_ | refine wxs_nil ?_ | refine wxs_cons ?_ | refine wx_tup ?_ | refine wx_if ?_ | refine wx_call ?_ | refine wx_callX ?_ | refine wp_retX ?_ | refine wp_dropX ?_ | refine ev_len rfl rfl ?_ | refine ⟨_, _, _, rfl, rfl, rfl, ?_⟩ | refine ⟨_, _, rfl, rfl, ?_⟩ | refine ⟨_, rfl, rfl, ?_⟩ | refine ⟨_, rfl, ?_⟩ | refine .inl ⟨_, rfl, ?_⟩ | refine .inr (.inl ⟨_, rfl, ?_⟩) | refine .inr (.inr ⟨_, _, rfl, rfl, ?_⟩) | refine .inr ⟨_, rfl, ?_⟩ | refine ⟨_, rfl, by first | decide | (simp; done), ?_⟩ | refine ev_args rfl ?_ | refine .inl ⟨_, _, rfl, ?_⟩ | refine .inr ⟨_, _, rfl, ?_⟩ | refine ev_par3 rfl ?_ | refine end_rt ⟨_, _, rfl, rfl, ?_⟩ | refine end_nx ⟨_, rfl, ?_⟩ | refine end_ex ⟨_, rfl, ?_⟩ | refine then_nx ?_ | refine then_rt ?_ | refine then_ex ?_ | refine turn_nx ?_ | refine turn_rt ?_ | refine b1 ?_ | refine b0 ?_ | refine ⟨_, _, _, rfl, rfl, mulD_int (mulOk_small (by decide) (by decide)), ?_⟩ | refine ⟨_, _, _, rfl, rfl, MB.ixA_P (by assumption), ?_⟩ | refine ⟨_, _, _, rfl, rfl, MB.stD_P (by first | assumption | omega), ?_⟩ | fail)
                  refine ⟨j + 1, m', ad, _, _, _, _, rfl, rfl, by omega, vad, fun F => ?_⟩
                  rw [hS3 F]
                  simp only [sumN, J1]
                  rw [if_pos c1, if_neg (by omega), Int.add_zero]
              · exfalso; omega
            · repeat' (first | refine ⟨_, _, _, rfl, rfl, MB.getM_P _ _ _ _, ?_⟩ | refine we_im rfl ?_ | refine we_mu rfl ?_ | refine we_op ?_ | refine we_un ?_ | refine we_cb ?_ | refine we_cbS ?_ | refine we_frzV ?_ | refine wa_nil ?_ | refine wa_cons ?_ | refine we_tup ?_ | refine we_lst ?_ | refine we_newT ?_ | refine we_dis1 ?_ | refine we_meth ?_ | refine we_if ?_ | refine we_and ?_ | refine we_or ?_ | refine we_not ?_ | refine we_chain ?_ | refine we_chain3 ?_ | refine wo_none ?_ | refine wo_some ?_ | refine we_slice ?_ | refine we_call ?_ | refine we_c ?_ | refine wt_b ?_ | refine wt_and ?_ | refine wt_or ?_ | refine wt_not ?_ | refine wt_yes ?_ | refine wp_seq ?_ | refine wp_if ?_ | refine wp_ret ?_ | refine wp_drop ?_ | refine wp_set ?_ | refine wp_store ?_ | refine wp_asgP ?_ | refine wp_par2 ?_ | refine wp_par3 ?_ | refine wp_next ?_ | refine wp_raise ?_ | refine wp_retN ?_ | refine wx_of ?_ | refine wxs_nil ?_ | refine wxs_cons ?_ | refine wx_tup ?_ | refine wx_if ?_ | refine wx_call ?_ | refine wx_callX ?_ | refine wp_retX ?_ | refine wp_dropX ?_ | refine ev_len rfl rfl ?_ | refine ⟨_, _, _, rfl, rfl, rfl, ?_⟩ | refine ⟨_, _, rfl, rfl, ?_⟩ | refine ⟨_, rfl, rfl, ?_⟩ | refine ⟨_, rfl, ?_⟩ | refine .inl ⟨_, rfl, ?_⟩ | refine .inr (.inl ⟨_, rfl, ?_⟩) | refine .inr (.inr ⟨_, _, rfl, rfl, ?_⟩) | refine .inr ⟨_, rfl, ?_⟩ | refine ⟨_, rfl, by first | decide | (simp; done), ?_⟩ | refine ev_args rfl ?_ | refine .inl ⟨_, _, rfl, ?_⟩ | refine .inr ⟨_, _, rfl, ?_⟩ | refine ev_par3 rfl ?_ | refine end_rt ⟨_, _, rfl, rfl, ?_⟩ | refine end_nx ⟨_, rfl, ?_⟩ | refine end_ex ⟨_, rfl, ?_⟩ | refine then_nx ?_ | refine then_rt ?_ | refine then_ex ?_ | refine turn_nx ?_ | refine turn_rt ?_ | refine b1 ?_ | refine b0 ?_ | refine ⟨_, _, _, rfl, rfl, mulD_int (mulOk_small (by decide) (by decide)), ?_⟩ | refine ⟨_, _, _, rfl, rfl, MB.ixA_P (by assumption), ?_⟩ | refine ⟨_, _, _, rfl, rfl, MB.stD_P (by first | assumption | omega), ?_⟩ | fail)
              refine bt (fun c2 => ?_) (fun c2 => ?_)
              · repeat' (first | refine ⟨_, _, _, rfl, rfl, MB.getM_P _ _ _ _, ?_⟩ | refine we_im rfl ?_ | refine we_mu rfl ?_ | refine we_op ?_ | refine we_un ?_ | refine we_cb ?_ | refine we_cbS ?_ | refine we_frzV ?_ | refine wa_nil ?_ | refine wa_cons ?_ | refine we_tup ?_ | refine we_lst ?_ | refine we_newT ?_ | refine we_dis1 ?_ | refine we_meth ?_ | refine we_if ?_ | refine we_and ?_ | refine we_or ?_ | refine we_not ?_ | refine we_chain ?_ | refine we_chain3 ?_ | refine wo_none ?_ | refine wo_some ?_ | refine we_slice ?_ | refine we_call ?_ | refine we_c ?_ | refine wt_b ?_ | refine wt_and ?_ | refine wt_or ?_ | refine wt_not ?_ | refine wt_yes ?_ | refine wp_seq ?_ | refine wp_if ?_ | refine wp_ret ?_ | refine wp_drop ?_ | refine wp_set ?_ | refine wp_store ?_ | refine wp_asgP ?_ | refine wp_par2 ?_ | refine wp_par3 ?_ | refine wp_next ?_ | refine wp_raise ?_ | refine wp_retN ?_ | refine wx_of ?_ | refine wxs_nil ?_ | refine wxs_cons ?_ | refine wx_tup ?_ | refine wx_if ?_ | refine wx_call ?_ | refine wx_callX ?_ | refine wp_retX ?_ | refine wp_dropX ?_ | refine ev_len rfl rfl ?_ | refine ⟨_, _, _, rfl, rfl, rfl, ?_⟩ | refine ⟨_, _, rfl, rfl, ?_⟩ | refine ⟨_, rfl, rfl, ?_⟩ | refine ⟨_, rfl, ?_⟩ | refine .inl ⟨_, rfl, ?_⟩ | refine .inr (.inl ⟨_, rfl, ?_⟩) | refine .inr (.inr ⟨_, _, rfl, rfl, ?_⟩) | refine .inr ⟨_, rfl, ?_⟩ | refine ⟨_, rfl, by first | decide | (simp; done), ?_⟩ | refine ev_args rfl ?_ | refine .inl ⟨_, _, rfl, ?_⟩ | refine .inr ⟨_, _, rfl, ?_⟩ | refine ev_par3 rfl ?_ | refine end_rt ⟨_, _, rfl, rfl, ?_⟩ | refine end_nx ⟨_, rfl, ?_⟩ | refine end_ex ⟨_, rfl, ?_⟩ | refine then_nx ?_ | refine then_rt ?_ | refine then_ex ?_ | refine turn_nx ?_ | refine turn_rt ?_ | refine b1 ?_ | refine b0 ?_ | refine ⟨_, _, _, rfl, rfl, mulD_int (mulOk_small (by decide) (by decide)), ?_⟩ | refine ⟨_, _, _, rfl, rfl, MB.ixA_P (by assumption), ?_⟩ | refine ⟨_, _, _, rfl, rfl, MB.stD_P (by first | assumption | omega), ?_⟩ | fail)
                refine bt (fun c3 => ?_) (fun c3 => ?_)
                · repeat' (first | refine ⟨_, _, _, rfl, rfl, MB.getM_P _ _ _ _, ?_⟩ | refine we_im rfl ?_ | refine we_mu rfl ?_ | refine we_op ?_ | refine we_un ?_ | refine we_cb ?_ | refine we_cbS ?_ | refine we_frzV ?_ | refine wa_nil ?_ | refine wa_cons ?_ | refine we_tup ?_ | refine we_lst ?_ | refine we_newT ?_ | refine we_dis1 ?_ | refine we_meth ?_ | refine we_if ?_ | refine we_and ?_ | refine we_or ?_ | refine we_not ?_ | refine we_chain ?_ | refine we_chain3 ?_ | refine wo_none ?_ | refine wo_some ?_ | refine we_slice ?_ | refine we_call ?_ | refine we_c ?_ | refine wt_b ?_ | refine wt_and ?_ | refine wt_or ?_ | refine wt_not ?_ | refine wt_yes ?_ | refine wp_seq ?_ | refine wp_if ?_ | refine wp_ret ?_ | refine wp_drop ?_ | refine wp_set ?_ | refine wp_store ?_ | refine wp_asgP ?_ | refine wp_par2 ?_ | refine wp_par3 ?_ | refine wp_next ?_ | refine wp_raise ?_ | refine wp_retN ?_ | refine wx_of ?_ | refine wxs_nil ?_ | refine wxs_cons ?_ | refine wx_tup ?_ | refine wx_if ?_ | refine wx_call ?_ | refine wx_callX ?_ | refine wp_retX ?_ | refine wp_dropX ?_ | refine ev_len rfl rfl ?_ | refine ⟨_, _, _, rfl, rfl, rfl, ?_⟩ | refine ⟨_, _, rfl, rfl, ?_⟩ | refine ⟨_, rfl, rfl, ?_⟩ | refine ⟨_, rfl, ?_⟩ | refine .inl ⟨_, rfl, ?_⟩ | refine .inr (.inl ⟨_, rfl, ?_⟩) | refine .inr (.inr ⟨_, _, rfl, rfl, ?_⟩) | refine .inr ⟨_, rfl, ?_⟩ | refine ⟨_, rfl, by first | decide | (simp; done), ?_⟩ | refine ev_args rfl ?_ | refine .inl ⟨_, _, rfl, ?_⟩ | refine .inr ⟨_, _, rfl, ?_⟩ | refine ev_par3 rfl ?_ | refine end_rt ⟨_, _, rfl, rfl, ?_⟩ | refine end_nx ⟨_, rfl, ?_⟩ | refine end_ex ⟨_, rfl, ?_⟩ | refine then_nx ?_ | refine then_rt ?_ | refine then_ex ?_ | refine turn_nx ?_ | refine turn_rt ?_ | refine b1 ?_ | refine b0 ?_ | refine ⟨_, _, _, rfl, rfl, mulD_int (mulOk_small (by decide) (by decide)), ?_⟩ | refine ⟨_, _, _, rfl, rfl, MB.ixA_P (by assumption), ?_⟩ | refine ⟨_, _, _, rfl, rfl, MB.stD_P (by first | assumption | omega), ?_⟩ | fail)
                  refine ⟨_, _, _, rfl, rfl, mulD_int (mok 1 (.inl rfl)), ?_⟩
                  repeat' (first | refine ⟨_, _, _, rfl, rfl, MB.getM_P _ _ _ _, ?_⟩ | refine we_im rfl ?_ | refine we_mu rfl ?_ | refine we_op ?_ | refine we_un ?_ | refine we_cb ?_ | refine we_cbS ?_ | refine we_frzV ?_ | refine wa_nil ?_ | refine wa_cons ?_ | refine we_tup ?_ | refine we_lst ?_ | refine we_newT ?_ | refine we_dis1 ?_ | refine we_meth ?_ | refine we_if ?_ | refine we_and ?_ | refine we_or ?_ | refine we_not ?_ | refine we_chain ?_ | refine we_chain3 ?_ | refine wo_none ?_ | refine wo_some ?_ | refine we_slice ?_ | refine we_call ?_ | refine we_c ?_ | refine wt_b ?_ | refine wt_and ?_ | refine wt_or ?_ | refine wt_not ?_ | refine wt_yes ?_ | refine wp_seq ?_ | refine wp_if ?_ | refine wp_ret ?_ | refine wp_drop ?_ | refine wp_set ?_ | refine wp_store ?_ | refine wp_asgP ?_ | refine wp_par2 ?_ | refine wp_par3 ?_ | refine wp_next ?_ | refine wp_raise ?_ | refine wp_retN ?_ | refine wx_of ?_ | refine wxs_nil ?_ | refine wxs_cons ?_ | refine wx_tup ?_ | refine wx_if ?_ | refine wx_call ?_ | refine wx_callX ?_ | refine wp_retX ?_ | refine wp_dropX ?_ | refine ev_len rfl rfl ?_ | refine ⟨_, _, _, rfl, rfl, rfl, ?_⟩ | refine ⟨_, _, rfl, rfl, ?_⟩ | refine ⟨_, rfl, rfl, ?_⟩ | refine ⟨_, rfl, ?_⟩ | refine .inl ⟨_, rfl, ?_⟩ | refine .inr (.inl ⟨_, rfl, ?_⟩) | refine .inr (.inr ⟨_, _, rfl, rfl, ?_⟩) | refine .inr ⟨_, rfl, ?_⟩ | refine ⟨_, rfl, by first | decide | (simp; done), ?_⟩ | refine ev_args rfl ?_ | refine .inl ⟨_, _, rfl, ?_⟩ | refine .inr ⟨_, _, rfl, ?_⟩ | refine ev_par3 rfl ?_ | refine end_rt ⟨_, _, rfl, rfl, ?_⟩ | refine end_nx ⟨_, rfl, ?_⟩ | refine end_ex ⟨_, rfl, ?_⟩ | refine then_nx ?_ | refine then_rt ?_ | refine then_ex ?_ | refine turn_nx ?_ | refine turn_rt ?_ | refine b1 ?_ | refine b0 ?_ | refine ⟨_, _, _, rfl, rfl, mulD_int (mulOk_small (by decide) (by decide)), ?_⟩ | refine ⟨_, _, _, rfl, rfl, MB.ixA_P (by assumption), ?_⟩ | refine ⟨_, _, _, rfl, rfl, MB.stD_P (by first | assumption | omega), ?_⟩ | fail)
                  refine ⟨j + 1, m', put ad _ (cf ad _ + 1 * vf * vg), _, _, _, _, rfl, rfl, by omega, vad.put ⟨by simp; omega, by simp; omega, by simp; omega⟩, fun F => ?_⟩
                  rw [S_putadd vad.nd, hS3 F]
                  simp only [sumN, J1]
                  rw [if_neg c1, if_pos (by omega), Int.mul_add, Int.one_mul]
                  omega
                · repeat' (first | refine ⟨_, _, _, rfl, rfl, MB.getM_P _ _ _ _, ?_⟩ | refine we_im rfl ?_ | refine we_mu rfl ?_ | refine we_op ?_ | refine we_un ?_ | refine we_cb ?_ | refine we_cbS ?_ | refine we_frzV ?_ | refine wa_nil ?_ | refine wa_cons ?_ | refine we_tup ?_ | refine we_lst ?_ | refine we_newT ?_ | refine we_dis1 ?_ | refine we_meth ?_ | refine we_if ?_ | refine we_and ?_ | refine we_or ?_ | refine we_not ?_ | refine we_chain ?_ | refine we_chain3 ?_ | refine wo_none ?_ | refine wo_some ?_ | refine we_slice ?_ | refine we_call ?_ | refine we_c ?_ | refine wt_b ?_ | refine wt_and ?_ | refine wt_or ?_ | refine wt_not ?_ | refine wt_yes ?_ | refine wp_seq ?_ | refine wp_if ?_ | refine wp_ret ?_ | refine wp_drop ?_ | refine wp_set ?_ | refine wp_store ?_ | refine wp_asgP ?_ | refine wp_par2 ?_ | refine wp_par3 ?_ | refine wp_next ?_ | refine wp_raise ?_ | refine wp_retN ?_ | refine wx_of ?_ | refine wxs_nil ?_ | refine wxs_cons ?_ | refine wx_tup ?_ | refine wx_if ?_ | refine wx_call ?_ | refine wx_callX ?_ | refine wp_retX ?_ | refine wp_dropX ?_ | refine ev_len rfl rfl ?_ | refine ⟨_, _, _, rfl, rfl, rfl, ?_⟩ | refine ⟨_, _, rfl, rfl, ?_⟩ | refine ⟨_, rfl, rfl, ?_⟩ | refine ⟨_, rfl, ?_⟩ | refine .inl ⟨_, rfl, ?_⟩ | refine .inr (.inl ⟨_, rfl, ?_⟩) | refine .inr (.inr ⟨_, _, rfl, rfl, ?_⟩) | refine .inr ⟨_, rfl, ?_⟩ | refine ⟨_, rfl, by first | decide | (simp; done), ?_⟩ | refine ev_args rfl ?_ | refine .inl ⟨_, _, rfl, ?_⟩ | refine .inr ⟨_, _, rfl, ?_⟩ | refine ev_par3 rfl ?_ | refine end_rt ⟨_, _, rfl, rfl, ?_⟩ | refine end_nx ⟨_, rfl, ?_⟩ | refine end_ex ⟨_, rfl, ?_⟩ | refine then_nx ?_ | refine then_rt ?_ | refine then_ex ?_ | refine turn_nx ?_ | refine turn_rt ?_ | refine b1 ?_ | refine b0 ?_ | refine ⟨_, _, _, rfl, rfl, mulD_int (mulOk_small (by decide) (by decide)), ?_⟩ | refine ⟨_, _, _, rfl, rfl, MB.ixA_P (by assumption), ?_⟩ | refine ⟨_, _, _, rfl, rfl, MB.stD_P (by first | assumption | omega), ?_⟩ | fail)
                  refine ⟨j + 1, m', ad, _, _, _, _, rfl, rfl, by omega, vad, fun F => ?_⟩
                  rw [hS3 F]
                  simp only [sumN, J1]
                  rw [if_neg c1, if_neg (by omega), Int.add_zero]
              · repeat' (first | refine ⟨_, _, _, rfl, rfl, MB.getM_P _ _ _ _, ?_⟩ | refine we_im rfl ?_ | refine we_mu rfl ?_ | refine we_op ?_ | refine we_un ?_ | refine we_cb ?_ | refine we_cbS ?_ | refine we_frzV ?_ | refine wa_nil ?_ | refine wa_cons ?_ | refine we_tup ?_ | refine we_lst ?_ | refine we_newT ?_ | refine we_dis1 ?_ | refine we_meth ?_ | refine we_if ?_ | refine we_and ?_ | refine we_or ?_ | refine we_not ?_ | refine we_chain ?_ | refine we_chain3 ?_ | refine wo_none ?_ | refine wo_some ?_ | refine we_slice ?_ | refine we_call ?_ | refine we_c ?_ | refine wt_b ?_ | refine wt_and ?_ | refine wt_or ?_ | refine wt_not ?_ | refine wt_yes ?_ | refine wp_seq ?_ | refine wp_if ?_ | refine wp_ret ?_ | refine wp_drop ?_ | refine wp_set ?_ | refine wp_store ?_ | refine wp_asgP ?_ | refine wp_par2 ?_ | refine wp_par3 ?_ | refine wp_next ?_ | refine wp_raise ?_ | refine wp_retN ?_ | refine wx_of ?_ | refine wxs_nil ?_ | refine wxs_cons ?_ | refine wx_tup ?_ | refine wx_if ?_ | refine wx_call ?_ | refine wx_callX ?_ | refine wp_retX ?_ | refine wp_dropX ?_ | refine ev_len rfl rfl ?_ | refine ⟨_, _, _, rfl, rfl, rfl, ?_⟩ | refine ⟨_, _, rfl, rfl, ?_⟩ | refine ⟨_, rfl, rfl, ?_⟩ | refine ⟨_, rfl, ?_⟩ | refine .inl ⟨_, rfl, ?_⟩ | refine .inr (.inl ⟨_, rfl, ?_⟩) | refine .inr (.inr ⟨_, _, rfl, rfl, ?_⟩) | refine .inr ⟨_, rfl, ?_⟩ | refine ⟨_, rfl, by first | decide | (simp; done), ?_⟩ | refine ev_args rfl ?_ | refine .inl ⟨_, _, rfl, ?_⟩ | refine .inr ⟨_, _, rfl, ?_⟩ | refine ev_par3 rfl ?_ | refine end_rt ⟨_, _, rfl, rfl, ?_⟩ | refine end_nx ⟨_, rfl, ?_⟩ | refine end_ex ⟨_, rfl, ?_⟩ | refine then_nx ?_ | refine then_rt ?_ | refine then_ex ?_ | refine turn_nx ?_ | refine turn_rt ?_ | refine b1 ?_ | refine b0 ?_ | refine ⟨_, _, _, rfl, rfl, mulD_int (mulOk_small (by decide) (by decide)), ?_⟩ | refine ⟨_, _, _, rfl, rfl, MB.ixA_P (by assumption), ?_⟩ | refine ⟨_, _, _, rfl, rfl, MB.stD_P (by first | assumption | omega), ?_⟩ | fail)
                refine ⟨j + 1, m', ad, _, _, _, _, rfl, rfl, by omega, vad, fun F => ?_⟩
                rw [hS3 F]
                simp only [sumN, J1]
                rw [if_neg c1, if_neg (by omega), Int.add_zero]
          · rintro ρ ⟨j, m, ad, q10, q11, q12, q13, rfl, e5, hj, vad, hS3⟩
            have := rng_nil e5
            subst this
            refine turn_nx ⟨rg, ad, _, _, _, _, _, _, _, rfl, rfl, ⟨pg ++ [((a, b), vg)], by simp [e4]⟩, vad, fun F => ?_⟩
            rw [← hS2 F, hS3 F, S_cons]
            have hJ : J n (c, d) (a, b) F = sumN (c - d + 1).toNat (fun i => J1 n (a + 1 + c - (i : Int)) (b + d + (i : Int)) F) := rfl
            have hjj : j = (c - d + 1).toNat := by omega
            subst hjj
            show _ = S ac F + vf * (vg * J n (c, d) (a, b) F + S rg (fun kg => J n (c, d) kg F))
            rw [hJ, Int.mul_add, Int.mul_assoc]
            omega
      · rintro ρ ⟨rg, ac, t7, t8, t9, t10, t11, t12, t13, rfl, e3, ⟨pg, e4⟩, vac, hS2⟩
        have : rg = [] := by cases rg with
          | nil => rfl
          | cons x r => cases e3
        subst this
        refine turn_nx ⟨r', ac, _, _, _, _, _, _, _, _, _, _, rfl, rfl, ⟨p ++ [((c, d), vf)], by simp [e2]⟩, vac, fun F => ?_⟩
        have h2 := hS2 F
        rw [S_nil] at h2
        rw [← hS F, S_cons]
        show _ = S acc F + (vf * S g (fun kg => J n (c, d) kg F) + S r' _)
        omega
  · rintro ρ ⟨r', acc, s4, s5, s6, s7, s8, s9, s10, s11, s12, s13, rfl, e1, ⟨p, e2⟩, va, hS⟩
    have : r' = [] := by cases r' with
      | nil => rfl
      | cons x r => cases e1
    subst this
    repeat' (first | refine ⟨_, _, _, rfl, rfl, MB.getM_P _ _ _ _, ?_⟩ | refine we_im rfl ?_ | refine we_mu rfl ?_ | refine we_op ?_ | refine we_un ?_ | refine we_cb ?_ | refine we_cbS ?_ | refine we_frzV ?_ | refine wa_nil ?_ | refine wa_cons ?_ | refine we_tup ?_ | refine we_lst ?_ | refine we_newT ?_ | refine we_dis1 ?_ | refine we_meth ?_ | refine we_if ?_ | refine we_and ?_ | refine we_or ?_ | refine we_not ?_ | refine we_chain ?_ | refine we_chain3 ?_ | refine wo_none ?_ | refine wo_some ?_ | refine we_slice ?_ | refine we_call ?_ | refine we_c ?_ | refine wt_b ?_ | refine wt_and ?_ | refine wt_or ?_ | refine wt_not ?_ | refine wt_yes ?_ | refine wp_seq ?_ | refine wp_if ?_ | refine wp_ret ?_ | refine wp_drop ?_ | refine wp_set ?_ | refine wp_store ?_ | refine wp_asgP ?_ | refine wp_par2 ?_ | refine wp_par3 ?_ | refine wp_next ?_ | refine wp_raise ?_ | refine wp_retN ?_ | refine wx_of ?_ | refine wxs_nil ?_ | refine wxs_cons ?_ | refine wx_tup ?_ | refine wx_if ?_ | refine wx_call ?_ | refine wx_callX ?_ | refine wp_retX ?_ | refine wp_dropX ?_ | refine ev_len rfl rfl ?_ | refine ⟨_, _, _, rfl, rfl, rfl, ?_⟩ | refine ⟨_, _, rfl, rfl, ?_⟩ | refine ⟨_, rfl, rfl, ?_⟩ | refine ⟨_, rfl, ?_⟩ | refine .inl ⟨_, rfl, ?_⟩ | refine .inr (.inl ⟨_, rfl, ?_⟩) | refine .inr (.inr ⟨_, _, rfl, rfl, ?_⟩) | refine .inr ⟨_, rfl, ?_⟩ | refine ⟨_, rfl, by first | decide | (simp; done), ?_⟩ | refine ev_args rfl ?_ | refine .inl ⟨_, _, rfl, ?_⟩ | refine .inr ⟨_, _, rfl, ?_⟩ | refine ev_par3 rfl ?_ | refine end_rt ⟨_, _, rfl, rfl, ?_⟩ | refine end_nx ⟨_, rfl, ?_⟩ | refine end_ex ⟨_, rfl, ?_⟩ | refine then_nx ?_ | refine then_rt ?_ | refine then_ex ?_ | refine turn_nx ?_ | refine turn_rt ?_ | refine b1 ?_ | refine b0 ?_ | refine ⟨_, _, _, rfl, rfl, mulD_int (mulOk_small (by decide) (by decide)), ?_⟩ | refine ⟨_, _, _, rfl, rfl, MB.ixA_P (by assumption), ?_⟩ | refine ⟨_, _, _, rfl, rfl, MB.stD_P (by first | assumption | omega), ?_⟩ | fail)
    exact ⟨va, fun F => by rw [← hS F, S_nil]; omega⟩
end K56

set_option Elab.async false
set_option linter.all false
set_option maxRecDepth 100000
set_option maxHeartbeats 4000000
namespace K56
open PySem PySem.Spec PyProof.Rows L2 DL MB
variable (w : World)
theorem eqD_int (a b : Int) : eqD (.int a) (.int b) = some (decide (a = b)) := by
  show (if SeqAt.shaped (D.int a).py && SeqAt.shaped (D.int b).py then some (PyData.eqv (D.int a).py (D.int b).py) else none) = _
  have e1 : SeqAt.shaped (D.int a).py = true := rfl
  have e2 : SeqAt.shaped (D.int b).py = true := rfl
  rw [e1, e2]
  simp [D.py, PyData.eqv]
  rfl
theorem leP_spec (a b : P2) : PySem.W.dataLe false DL.encD (kD a) (kD b) = decide (a.1 < b.1 ∨ (a.1 = b.1 ∧ a.2 ≤ b.2)) := by
  have e : ∀ k : P2, PySem.W.keyToks (DL.encD (kD k)) = [.inl 1, .inl k.1, .inl 1, .inl k.2, .inl 0] := fun k => by
    simp [DL.encD, DL.encDs, kD, PySem.W.keyToks, PySem.W.keyToksAll]
  show (!lexLt itemOrd (PySem.W.keyToks (DL.encD (kD b))) (PySem.W.keyToks (DL.encD (kD a)))) = _
  rw [e, e]
  rw [lex_cons (O := itemOrd), lex_cons (O := itemOrd), lex_cons (O := itemOrd), lex_cons (O := itemOrd), lex_cons (O := itemOrd), lex_irrefl (O := itemOrd)]
  have i1 : ∀ x y : Int, itemOrd.blt (.inl x) (.inl y) = decide (x < y) := fun _ _ => rfl
  rw [i1, i1, i1, i1, i1, i1]
  by_cases c1 : b.1 < a.1
  · simp [c1, show ¬ (a.1 < b.1) by omega, show ¬ (a.1 = b.1) by omega]
  · by_cases c2 : a.1 < b.1
    · simp [c1, c2]
    · have c3 : a.1 = b.1 := by omega
      by_cases c4 : b.2 < a.2
      · simp [c3, c4, show ¬ (a.2 ≤ b.2) by omega]
      · simp [c3, c4, show a.2 ≤ b.2 by omega]
theorem neD_int (a b : Int) : neD (.int a) (.int b) = some (!decide (a = b)) := by
  have h := eqD_int a b
  unfold eqD at h
  unfold neD
  split at h
  · rename_i c
    rw [if_pos c]
    exact congrArg some (congrArg not (Option.some.inj h))
  · cases h
theorem cmp_neD (a b : Int) : cmpB neD (.int a) (.int b) = some (.val (.bl (!decide (a = b)))) := by
  unfold cmpB
  rw [neD_int]
  rfl
theorem cmp_eqD (a b : Int) : cmpB eqD (.int a) (.int b) = some (.val (.bl (decide (a = b)))) := by
  unfold cmpB
  rw [eqD_int]
  rfl
/-! shown -/
def leP (a b : P2) : Bool := decide (a.1 < b.1 ∨ (a.1 = b.1 ∧ a.2 ≤ b.2))
def sortP (ks : List P2) : List P2 := ks.mergeSort leP
theorem sortL_E (ks : List P2) : sortL (ks.map kD) = (sortP ks).map kD := by
  unfold sortL sortP
  rw [List.map_mergeSort (s := PySem.W.dataLe false DL.encD)]
  intro a _ b _
  exact (leP_spec a b).symm
theorem okSort_E (ks : List P2) (h : ks.length ≤ 1000000) : okSort (ks.map kD) = true := by
  unfold okSort
  simp only [Bool.and_eq_true, List.all_eq_true, decide_eq_true_eq, List.length_map]
  refine ⟨⟨⟨⟨fun d hd => ?_, fun d hd e he => ?_⟩, ?_⟩, fun d hd => ?_⟩, h⟩
  · obtain ⟨k, _, rfl⟩ := List.mem_map.mp hd; rfl
  · obtain ⟨k, _, rfl⟩ := List.mem_map.mp hd
    obtain ⟨k2, _, rfl⟩ := List.mem_map.mp he
    rfl
  · unfold sortableB
    rw [Bool.or_eq_true]
    refine .inl ?_
    rw [List.all_eq_true]
    intro d hd
    obtain ⟨x, hx, rfl⟩ := List.mem_map.mp hd
    obtain ⟨k, _, rfl⟩ := List.mem_map.mp hx
    rfl
  · obtain ⟨k, _, rfl⟩ := List.mem_map.mp hd
    exact Nat.le_of_ble_eq_true rfl
/-- what is shown of a dict -/
def shL (l : AL) : AL := ((sortP (l.map (·.1))).filter fun k => !decide (cf l k = 0)).map fun k => (k, cf l k)
theorem sortP_mem {ks : List P2} {k : P2} : k ∈ sortP ks ↔ k ∈ ks := (List.mergeSort_perm ks leP).mem_iff
theorem look_some {l : AL} {k : P2} (h : k ∈ l.map (·.1)) : look l k = some (cf l k) := by
  unfold cf
  cases e : look l k with
  | none => exact (look_none.mp e h).elim
  | some v => rfl
theorem comp_ok {l : AL} (h : l.length ≤ 1000000) {s1 : Sl} {Q : RV → DEnv → Prop} (k : Q (.fresh (.lst ((shL l).map fun x => .tup [kD x.1, .int x.2]))) (resD [.im (dicE l), s1] [.im (dicE l), .un] [1])) :
    We (fLc (fItA (fFrz (fCall sortedA (fCons (fVar 0) fNil)))) (.nm 1) (fB (fOp (cmpB neD) (fOp ixA (fVar 0) (fVar 1)) (fC (.int 0)))) (fTup (fCons (fVar 1) (fCons (fOp ixA (fVar 0) (fVar 1)) fNil))) [1]) [.im (dicE l), s1] Q := by
  have hl : (l.map (·.1)).length ≤ 1000000 := by simpa using h
  have hs : sortedA [dicE l] = some (RV.fresh (.lst ((sortP (l.map (·.1))).map kD))) := by
    have e : dicE l = .dic ((l.map (·.1)).map kD) (l.map fun x => .int x.2) := by unfold dicE; rw [List.map_map]; rfl
    rw [e]
    show (if okSort ((l.map (·.1)).map kD) then some (RV.fresh (.lst (sortL ((l.map (·.1)).map kD)))) else none) = _
    rw [if_pos (okSort_E _ hl), sortL_E]
  have hlen : (sortP (l.map (·.1))).length = l.length := by
    unfold sortP
    rw [(List.mergeSort_perm _ leP).length_eq, List.length_map]
  refine we_lc (fun ρ0 rem acc ρ => ρ0 = [.im (dicE l), s1] ∧ ρ = [.im (dicE l), .un] ∧ ∃ p r : List P2, sortP (l.map (·.1)) = p ++ r ∧ rem = r.map kD ∧ acc = ((p.filter fun k => !decide (cf l k = 0)).map fun k => (k, cf l k)).map fun x : P2 × Int => .tup [kD x.1, .int x.2]) ?_ ?_ ?_
  · refine wi_seq (we_frzV (we_cb (wa_cons (we_im rfl (wa_nil ⟨_, _, rfl, hs, .inr (.inl ⟨_, rfl, _, _, rfl, rfl, ?_⟩)⟩)))))
    exact ⟨by rw [List.length_map, hlen]; exact h, rfl, rfl, [], _, rfl, rfl, rfl⟩
  · rintro ρ0 d r acc ρ ⟨rfl, rfl, p, r', e1, e2, rfl⟩
    cases r' with
    | nil => cases e2
    | cons x r' =>
      cases e2
      have hx : look l x = some (cf l x) := look_some (sortP_mem.mp (by rw [e1]; simp))
      obtain ⟨a, b⟩ := x
      refine ⟨_, rfl, ?_⟩
      refine wt_b (we_op (we_op (we_im rfl (we_im rfl ⟨_, _, _, rfl, rfl, ixA_P hx, we_c ⟨_, _, _, rfl, rfl, cmp_neD _ _, ⟨_, rfl, ?_⟩⟩⟩))))
      refine ⟨fun hb => ?_, fun hb => ?_⟩
      · refine we_tup (wa_cons (we_im rfl (wa_cons (we_op (we_im rfl (we_im rfl ⟨_, _, _, rfl, rfl, ixA_P hx, wa_nil ⟨_, rfl, Nat.le_of_ble_eq_true rfl, _, rfl, rfl, rfl, p ++ [(a, b)], r', by simp [e1], rfl, ?_⟩⟩))))))
        rw [List.filter_append, List.map_append, List.map_append]
        congr 1
        simp only [List.filter_cons, hb]
        rfl
      · refine ⟨rfl, rfl, p ++ [(a, b)], r', by simp [e1], rfl, ?_⟩
        rw [List.filter_append]
        simp only [List.filter_cons, hb]
        simp
  · rintro ρ0 acc ρ ⟨rfl, rfl, p, r', e1, e2, rfl⟩
    have : r' = [] := by cases r' with
      | nil => rfl
      | cons x r => cases e2
    subst this
    rw [List.append_nil] at e1
    unfold shL at k
    rw [e1] at k
    exact k
theorem shown_ok (l : AL) (h : l.length ≤ 1000000) : F_d5_shown w [dicE l] = some (.ok (.val (sumE (shL l))) []) := by
  apply wf_eq
  unfold F_d5_shown m_d5_shown
  refine wf_run (wp_ret (we_cb (wa_cons (comp_ok h (wa_nil ⟨_, _, rfl, rfl, ?_⟩)))))
  repeat' (first | refine ⟨_, _, _, rfl, rfl, MB.getM_P _ _ _ _, ?_⟩ | refine we_im rfl ?_ | refine we_mu rfl ?_ | refine we_op ?_ | refine we_un ?_ | refine we_cb ?_ | refine we_cbS ?_ | refine we_frzV ?_ | refine wa_nil ?_ | refine wa_cons ?_ | refine we_tup ?_ | refine we_lst ?_ | refine we_newT ?_ | refine we_dis1 ?_ | refine we_meth ?_ | refine we_if ?_ | refine we_and ?_ | refine we_or ?_ | refine we_not ?_ | refine we_chain ?_ | refine we_chain3 ?_ | refine wo_none ?_ | refine wo_some ?_ | refine we_slice ?_ | refine we_call ?_ | refine we_c ?_ | refine wt_b ?_ | refine wt_and ?_ | refine wt_or ?_ | refine wt_not ?_ | refine wt_yes ?_ | refine wp_seq ?_ | refine wp_if ?_ | refine wp_ret ?_ | refine wp_drop ?_ | refine wp_set ?_ | refine wp_store ?_ | refine wp_asgP ?_ | refine wp_par2 ?_ | refine wp_par3 ?_ | refine wp_next ?_ | refine wp_raise ?_ | refine wp_retN ?_ | refine wx_of ?_ | refine wxs_nil ?_ | refine wxs_cons ?_ | refine wx_tup ?_ | refine wx_if ?_ | refine wx_call ?_ | refine wx_callX ?_ | refine wp_retX ?_ | refine wp_dropX ?_ | refine ev_len rfl rfl ?_ | refine ⟨_, _, _, rfl, rfl, rfl, ?_⟩ | refine ⟨_, _, rfl, rfl, ?_⟩ | refine ⟨_, rfl, rfl, ?_⟩ | refine ⟨_, rfl, ?_⟩ | refine .inl ⟨_, rfl, ?_⟩ | refine .inr (.inl ⟨_, rfl, ?_⟩) | refine .inr (.inr ⟨_, _, rfl, rfl, ?_⟩) | refine .inr ⟨_, rfl, ?_⟩ | refine ⟨_, rfl, by first | decide | (simp; done), ?_⟩ | refine ev_args rfl ?_ | refine .inl ⟨_, _, rfl, ?_⟩ | refine .inr ⟨_, _, rfl, ?_⟩ | refine ev_par3 rfl ?_ | refine end_rt ⟨_, _, rfl, rfl, ?_⟩ | refine end_nx ⟨_, rfl, ?_⟩ | refine end_ex ⟨_, rfl, ?_⟩ | refine then_nx ?_ | refine then_rt ?_ | refine then_ex ?_ | refine turn_nx ?_ | refine turn_rt ?_ | refine b1 ?_ | refine b0 ?_ | refine ⟨_, _, _, rfl, rfl, mulD_int (mulOk_small (by decide) (by decide)), ?_⟩ | refine ⟨_, _, _, rfl, rfl, MB.ixA_P (by assumption), ?_⟩ | refine ⟨_, _, _, rfl, rfl, MB.stD_P (by first | assumption | omega), ?_⟩ | fail)
  rfl
theorem law_shown_ok (l : AL) (h : l.length ≤ 1000000) : F_d24_law_shown w [dicE l] = some (.ok (.val (sumE (shL l))) []) := by
  apply wf_eq
  unfold F_d24_law_shown m_d24_law_shown
  refine wf_run (wp_ret (we_cb (wa_cons (comp_ok h (wa_nil ⟨_, _, rfl, rfl, ?_⟩)))))
  repeat' (first | refine ⟨_, _, _, rfl, rfl, MB.getM_P _ _ _ _, ?_⟩ | refine we_im rfl ?_ | refine we_mu rfl ?_ | refine we_op ?_ | refine we_un ?_ | refine we_cb ?_ | refine we_cbS ?_ | refine we_frzV ?_ | refine wa_nil ?_ | refine wa_cons ?_ | refine we_tup ?_ | refine we_lst ?_ | refine we_newT ?_ | refine we_dis1 ?_ | refine we_meth ?_ | refine we_if ?_ | refine we_and ?_ | refine we_or ?_ | refine we_not ?_ | refine we_chain ?_ | refine we_chain3 ?_ | refine wo_none ?_ | refine wo_some ?_ | refine we_slice ?_ | refine we_call ?_ | refine we_c ?_ | refine wt_b ?_ | refine wt_and ?_ | refine wt_or ?_ | refine wt_not ?_ | refine wt_yes ?_ | refine wp_seq ?_ | refine wp_if ?_ | refine wp_ret ?_ | refine wp_drop ?_ | refine wp_set ?_ | refine wp_store ?_ | refine wp_asgP ?_ | refine wp_par2 ?_ | refine wp_par3 ?_ | refine wp_next ?_ | refine wp_raise ?_ | refine wp_retN ?_ | refine wx_of ?_ | refine wxs_nil ?_ | refine wxs_cons ?_ | refine wx_tup ?_ | refine wx_if ?_ | refine wx_call ?_ | refine wx_callX ?_ | refine wp_retX ?_ | refine wp_dropX ?_ | refine ev_len rfl rfl ?_ | refine ⟨_, _, _, rfl, rfl, rfl, ?_⟩ | refine ⟨_, _, rfl, rfl, ?_⟩ | refine ⟨_, rfl, rfl, ?_⟩ | refine ⟨_, rfl, ?_⟩ | refine .inl ⟨_, rfl, ?_⟩ | refine .inr (.inl ⟨_, rfl, ?_⟩) | refine .inr (.inr ⟨_, _, rfl, rfl, ?_⟩) | refine .inr ⟨_, rfl, ?_⟩ | refine ⟨_, rfl, by first | decide | (simp; done), ?_⟩ | refine ev_args rfl ?_ | refine .inl ⟨_, _, rfl, ?_⟩ | refine .inr ⟨_, _, rfl, ?_⟩ | refine ev_par3 rfl ?_ | refine end_rt ⟨_, _, rfl, rfl, ?_⟩ | refine end_nx ⟨_, rfl, ?_⟩ | refine end_ex ⟨_, rfl, ?_⟩ | refine then_nx ?_ | refine then_rt ?_ | refine then_ex ?_ | refine turn_nx ?_ | refine turn_rt ?_ | refine b1 ?_ | refine b0 ?_ | refine ⟨_, _, _, rfl, rfl, mulD_int (mulOk_small (by decide) (by decide)), ?_⟩ | refine ⟨_, _, _, rfl, rfl, MB.ixA_P (by assumption), ?_⟩ | refine ⟨_, _, _, rfl, rfl, MB.stD_P (by first | assumption | omega), ?_⟩ | fail)
  rfl
end K56

set_option Elab.async false
set_option linter.all false
set_option maxRecDepth 100000
set_option maxHeartbeats 4000000
namespace K56
open PySem PySem.Spec PyProof.Rows L2 DL MB
variable (w : World)
/-! product_of -/
theorem product_ok (n : Int) (hn : n ≤ 8) (f g : AL) (hf : Vd n f) (hg : Vd n g) (sm : Sm g) : ∃ l', F_d10_product_of w [.int n, dicE f, dicE g] = some (.ok (.val (dicE l')) []) ∧ Vd n l' ∧ ∀ F, S l' F = S g (fun o => S f (fun k => U n k o F)) := by
  suffices hs : Wf (F_d10_product_of w) [.int n, dicE f, dicE g] (fun r => ∃ l', r = .ok (.val (dicE l')) [] ∧ Vd n l' ∧ ∀ F, S l' F = S g (fun o => S f (fun k => U n k o F))) by
    obtain ⟨r, e, l', rfl, h1, h2⟩ := hs
    exact ⟨l', e, h1, h2⟩
  unfold F_d10_product_of m_d10_product_of
  refine wf_run (wp_seq (wp_set (we_newT (.inr ⟨_, rfl, then_nx ?_⟩))))
  refine wp_seq (wp_for (fun rem ρ => ∃ (r acc : AL) (s4 s5 s6 : Sl), ρ = [.im (.int n), .im (dicE f), .im (dicE g), .mu (dicE acc), s4, s5, s6] ∧ rem = r.map (fun x => kD x.1) ∧ (∃ p, g = p ++ r) ∧ Vd n acc ∧
      ∀ F, S acc F + S r (fun o => S f (fun k => U n k o F)) = S g (fun o => S f (fun k => U n k o F))) ?_ ?_ ?_)
  · refine wi_seq (we_im rfl ⟨_, _, rfl, rfl, ?_⟩)
    exact ⟨g, [], .un, .un, .un, rfl, rfl, ⟨[], rfl⟩, Vd.nil n, fun F => by simp [S_nil]⟩
  · rintro d r ρ ⟨r', acc, s4, s5, s6, rfl, e1, ⟨p, e2⟩, va, hS⟩
    cases r' with
    | nil => cases e1
    | cons x r' =>
      cases e1
      obtain ⟨⟨c, d⟩, vg⟩ := x
      have hlk : look g (c, d) = some vg := look_of hg.nd (by rw [e2]; simp)
      have hv : Vk n (c, d) := hg.ks _ (by rw [e2]; simp)
      have smg : -(2 ^ 62) < vg ∧ vg < 2 ^ 62 := sm ((c, d), vg) (by rw [e2]; simp)
      obtain ⟨made, e3, vm, hSm⟩ := times_ok w n hn f hf (c, d) hv
      refine ⟨_, rfl, wp_seq (wp_set (we_call (wa_cons (we_im rfl (wa_cons (we_im rfl (wa_cons (we_im rfl (wa_nil (ev_args rfl (ev_funV e3 (.inl ⟨_, rfl, then_nx ?_⟩))))))))))))⟩
      refine wp_for (fun rem ρ => ∃ (rm ac : AL) (s6 : Sl), ρ = [.im (.int n), .im (dicE f), .im (dicE g), .mu (dicE ac), .im (kD (c, d)), .im (dicE made), s6] ∧ rem = rm.map (fun x => kD x.1) ∧ (∃ p, made = p ++ rm) ∧ Vd n ac ∧
          ∀ F, S ac F + vg * S rm F = S acc F + vg * S made F) ?_ ?_ ?_
      · refine wi_seq (we_im rfl ⟨_, _, rfl, rfl, ?_⟩)
        exact ⟨made, acc, _, rfl, rfl, ⟨[], rfl⟩, va, fun F => rfl⟩
      · rintro d2 r2 ρ ⟨rm, ac, t6, rfl, e4, ⟨pm, e5⟩, vac, hS2⟩
        cases rm with
        | nil => cases e4
        | cons y rm =>
          cases e4
          obtain ⟨⟨a, b⟩, vm'⟩ := y
          have hlm : look made (a, b) = some vm' := look_of vm.nd (by rw [e5]; simp)
          have hvm : Vk n (a, b) := vm.ks _ (by rw [e5]; simp)
          have hl64 := vac.len hn
          refine ⟨_, rfl, ?_⟩
          refine wp_drop (we_call (wa_cons (we_mu rfl (wa_cons (we_im rfl (wa_cons (we_op (we_op (we_im rfl (we_im rfl ⟨_, _, _, rfl, rfl, ixA_P hlk, we_op (we_im rfl (we_im rfl ⟨_, _, _, rfl, rfl, ixA_P hlm,
            ⟨_, _, _, rfl, rfl, mulD_int (mulOk_smallL (by omega) (by omega)), wa_nil (ev_args rfl (ev_funV (put_ok w ac a b _ (by omega)) (turn_nx ?_)))⟩⟩))⟩))))))))))
          refine ⟨rm, put ac (a, b) (cf ac (a, b) + vg * vm'), _, rfl, rfl, ⟨pm ++ [((a, b), vm')], by simp [e5]⟩, vac.put hvm, fun F => ?_⟩
          rw [← hS2 F, S_putadd vac.nd, S_cons, Int.mul_add, Int.mul_assoc]
          show S ac F + vg * (vm' * F (a, b)) + vg * S rm F = S ac F + (vg * (vm' * F (a, b)) + vg * S rm F)
          omega
      · rintro ρ ⟨rm, ac, t6, rfl, e4, ⟨pm, e5⟩, vac, hS2⟩
        have : rm = [] := by cases rm with
          | nil => rfl
          | cons x r => cases e4
        subst this
        refine turn_nx ⟨r', ac, _, _, _, rfl, rfl, ⟨p ++ [((c, d), vg)], by simp [e2]⟩, vac, fun F => ?_⟩
        have h2 := hS2 F
        rw [S_nil, hSm F] at h2
        rw [← hS F, S_cons]
        show _ = S acc F + (vg * S f (fun k => U n k (c, d) F) + S r' _)
        omega
  · rintro ρ ⟨r', acc, s4, s5, s6, rfl, e1, ⟨p, e2⟩, va, hS⟩
    have : r' = [] := by cases r' with
      | nil => rfl
      | cons x r => cases e1
    subst this
    repeat' (first | refine ⟨_, _, _, rfl, rfl, MB.getM_P _ _ _ _, ?_⟩ | refine we_im rfl ?_ | refine we_mu rfl ?_ | refine we_op ?_ | refine we_un ?_ | refine we_cb ?_ | refine we_cbS ?_ | refine we_frzV ?_ | refine wa_nil ?_ | refine wa_cons ?_ | refine we_tup ?_ | refine we_lst ?_ | refine we_newT ?_ | refine we_dis1 ?_ | refine we_meth ?_ | refine we_if ?_ | refine we_and ?_ | refine we_or ?_ | refine we_not ?_ | refine we_chain ?_ | refine we_chain3 ?_ | refine wo_none ?_ | refine wo_some ?_ | refine we_slice ?_ | refine we_call ?_ | refine we_c ?_ | refine wt_b ?_ | refine wt_and ?_ | refine wt_or ?_ | refine wt_not ?_ | refine wt_yes ?_ | refine wp_seq ?_ | refine wp_if ?_ | refine wp_ret ?_ | refine wp_drop ?_ | refine wp_set ?_ | refine wp_store ?_ | refine wp_asgP ?_ | refine wp_par2 ?_ | refine wp_par3 ?_ | refine wp_next ?_ | refine wp_raise ?_ | refine wp_retN ?_ | refine wx_of ?_ | refine wxs_nil ?_ | refine wxs_cons ?_ | refine wx_tup ?_ | refine wx_if ?_ | refine wx_call ?_ | refine wx_callX ?_ | refine wp_retX ?_ | refine wp_dropX ?_ | refine ev_len rfl rfl ?_ | refine ⟨_, _, _, rfl, rfl, rfl, ?_⟩ | refine ⟨_, _, rfl, rfl, ?_⟩ | refine ⟨_, rfl, rfl, ?_⟩ | refine ⟨_, rfl, ?_⟩ | refine .inl ⟨_, rfl, ?_⟩ | refine .inr (.inl ⟨_, rfl, ?_⟩) | refine .inr (.inr ⟨_, _, rfl, rfl, ?_⟩) | refine .inr ⟨_, rfl, ?_⟩ | refine ⟨_, rfl, by first | decide | (simp; done), ?_⟩ | refine ev_args rfl ?_ | refine .inl ⟨_, _, rfl, ?_⟩ | refine .inr ⟨_, _, rfl, ?_⟩ | refine ev_par3 rfl ?_ | refine end_rt ⟨_, _, rfl, rfl, ?_⟩ | refine end_nx ⟨_, rfl, ?_⟩ | refine end_ex ⟨_, rfl, ?_⟩ | refine then_nx ?_ | refine then_rt ?_ | refine then_ex ?_ | refine turn_nx ?_ | refine turn_rt ?_ | refine b1 ?_ | refine b0 ?_ | refine ⟨_, _, _, rfl, rfl, mulD_int (mulOk_small (by decide) (by decide)), ?_⟩ | refine ⟨_, _, _, rfl, rfl, MB.ixA_P (by assumption), ?_⟩ | refine ⟨_, _, _, rfl, rfl, MB.stD_P (by first | assumption | omega), ?_⟩ | fail)
    exact ⟨va, fun F => by rw [← hS F, S_nil]; omega⟩
/-! dict(f) of a sum, the law's own -/
theorem put_new {l : AL} {k : P2} {v : Int} (h : k ∉ l.map (·.1)) : put l k v = l ++ [(k, v)] := put_none (by rw [look_none.mpr h]; simp)
theorem dictP_E : ∀ (l acc : AL), ((acc ++ l).map (·.1)).Nodup → (acc ++ l).length ≤ 1000000 → dictP (l.map fun x => .tup [kD x.1, .int x.2]) (dicE acc) = some (dicE (acc ++ l))
  | [], acc, _, _ => by simp [dictP]
  | x :: r, acc, nd, hl => by
    have hk : x.1 ∉ acc.map (·.1) := by
      rw [List.map_append, List.nodup_append] at nd
      exact fun h => nd.2.2 _ h x.1 (by simp) rfl
    have e := putT_E (l := acc) (k := x.1) (v := x.2) (by simp at hl; omega)
    rw [put_new hk] at e
    rw [List.map_cons]
    simp only [dictP]
    rw [e]
    simp only
    have e2 : acc ++ x :: r = acc ++ [(x.1, x.2)] ++ r := by simp
    rw [e2] at nd hl ⊢
    exact dictP_E r _ nd hl
theorem dict_sum (n : Int) (hn : n ≤ 8) (l : AL) (h : Vd n l) : dictA w [sumE l] = some (.fresh (dicE l)) := by
  have hl := h.len hn
  unfold dictA sumE
  show (if _ then (match dictP _ (.dic [] []) with
    | some c => some (RV.fresh c)
    | none => none) else none) = _
  rw [if_pos (by simp; omega)]
  have := dictP_E l [] (by simpa using h.nd) (by simp; omega)
  have e0 : dicE ([] : AL) = .dic [] [] := rfl
  rw [e0] at this
  rw [this]
  rfl
theorem law_dict_ok (n : Int) (hn : n ≤ 8) (l : AL) (h : Vd n l) : F_d25_law_dict w [sumE l] = some (.ok (.val (dicE l)) []) := by
  have hl := h.len hn
  apply wf_eq
  unfold F_d25_law_dict m_d25_law_dict
  refine wf_run (wp_seq (wp_set (we_newT (.inr ⟨_, rfl, then_nx ?_⟩))))
  refine wp_seq (wp_for (fun rem ρ => ∃ (p r : AL) (s2 s3 : Sl), ρ = [.im (sumE l), .mu (dicE p), s2, s3] ∧ rem = r.map (fun x => .tup [kD x.1, .int x.2]) ∧ l = p ++ r) ?_ ?_ ?_)
  · refine wi_seq (we_im rfl ⟨_, _, rfl, rfl, ?_⟩)
    exact ⟨[], l, .un, .un, rfl, rfl, rfl⟩
  · rintro d r ρ ⟨p, r', s2, s3, rfl, e1, e2⟩
    cases r' with
    | nil => cases e1
    | cons x r' =>
      cases e1
      have hk : x.1 ∉ p.map (·.1) := by
        have nd := h.nd
        rw [e2, List.map_append, List.nodup_append] at nd
        exact fun h => nd.2.2 _ h x.1 (by simp) rfl
      have hpl : p.length < 1000000 := by rw [e2] at hl; simp at hl; omega
      obtain ⟨⟨a, b⟩, v⟩ := x
      refine ⟨_, rfl, wp_store (we_im rfl ⟨_, _, rfl, rfl, we_im rfl ⟨_, _, _, rfl, rfl, stD_P hpl, turn_nx ?_⟩⟩)⟩
      exact ⟨p ++ [((a, b), v)], r', _, _, by rw [put_new hk]; rfl, rfl, by rw [e2]; simp⟩
  · rintro ρ ⟨p, r', s2, s3, rfl, e1, e2⟩
    have : r' = [] := by cases r' with
      | nil => rfl
      | cons x r => cases e1
    subst this
    rw [List.append_nil] at e2
    subst e2
    repeat' (first | refine ⟨_, _, _, rfl, rfl, MB.getM_P _ _ _ _, ?_⟩ | refine we_im rfl ?_ | refine we_mu rfl ?_ | refine we_op ?_ | refine we_un ?_ | refine we_cb ?_ | refine we_cbS ?_ | refine we_frzV ?_ | refine wa_nil ?_ | refine wa_cons ?_ | refine we_tup ?_ | refine we_lst ?_ | refine we_newT ?_ | refine we_dis1 ?_ | refine we_meth ?_ | refine we_if ?_ | refine we_and ?_ | refine we_or ?_ | refine we_not ?_ | refine we_chain ?_ | refine we_chain3 ?_ | refine wo_none ?_ | refine wo_some ?_ | refine we_slice ?_ | refine we_call ?_ | refine we_c ?_ | refine wt_b ?_ | refine wt_and ?_ | refine wt_or ?_ | refine wt_not ?_ | refine wt_yes ?_ | refine wp_seq ?_ | refine wp_if ?_ | refine wp_ret ?_ | refine wp_drop ?_ | refine wp_set ?_ | refine wp_store ?_ | refine wp_asgP ?_ | refine wp_par2 ?_ | refine wp_par3 ?_ | refine wp_next ?_ | refine wp_raise ?_ | refine wp_retN ?_ | refine wx_of ?_ | refine wxs_nil ?_ | refine wxs_cons ?_ | refine wx_tup ?_ | refine wx_if ?_ | refine wx_call ?_ | refine wx_callX ?_ | refine wp_retX ?_ | refine wp_dropX ?_ | refine ev_len rfl rfl ?_ | refine ⟨_, _, _, rfl, rfl, rfl, ?_⟩ | refine ⟨_, _, rfl, rfl, ?_⟩ | refine ⟨_, rfl, rfl, ?_⟩ | refine ⟨_, rfl, ?_⟩ | refine .inl ⟨_, rfl, ?_⟩ | refine .inr (.inl ⟨_, rfl, ?_⟩) | refine .inr (.inr ⟨_, _, rfl, rfl, ?_⟩) | refine .inr ⟨_, rfl, ?_⟩ | refine ⟨_, rfl, by first | decide | (simp; done), ?_⟩ | refine ev_args rfl ?_ | refine .inl ⟨_, _, rfl, ?_⟩ | refine .inr ⟨_, _, rfl, ?_⟩ | refine ev_par3 rfl ?_ | refine end_rt ⟨_, _, rfl, rfl, ?_⟩ | refine end_nx ⟨_, rfl, ?_⟩ | refine end_ex ⟨_, rfl, ?_⟩ | refine then_nx ?_ | refine then_rt ?_ | refine then_ex ?_ | refine turn_nx ?_ | refine turn_rt ?_ | refine b1 ?_ | refine b0 ?_ | refine ⟨_, _, _, rfl, rfl, mulD_int (mulOk_small (by decide) (by decide)), ?_⟩ | refine ⟨_, _, _, rfl, rfl, MB.ixA_P (by assumption), ?_⟩ | refine ⟨_, _, _, rfl, rfl, MB.stD_P (by first | assumption | omega), ?_⟩ | fail)
    rfl
/-! factorial -/
def fac : Nat → Int
  | 0 => 1
  | n + 1 => fac n * ((n + 1 : Nat) : Int)
theorem factorial_ok (n : Nat) (h : n ≤ 20) : F_d28_law_factorial w [.int n] = some (.ok (.val (.int (fac n))) []) := by
  apply wf_eq
  unfold F_d28_law_factorial m_d28_law_factorial
  refine wf_run (wp_seq (wp_set (we_c (.inl ⟨_, rfl, then_nx ?_⟩))))
  refine wp_seq (wp_for (fun rem ρ => ∃ (j m : Nat) (s2 : Sl), ρ = [.im (.int n), .im (.int (fac j)), s2] ∧ rem = rngL ((j : Int) + 1) m ∧ (j + m = n ∨ (n = 0 ∧ m = 0 ∧ j = 1))) ?_ ?_ ?_)
  · refine wi_rng2 (wa_cons (we_c (wa_cons (we_op (we_im rfl (we_c ⟨_, _, _, rfl, rfl, rfl, wa_nil ⟨_, _, rfl, ⟨by omega, by omega, by omega, by omega⟩, ?_⟩⟩))))))
    exact ⟨1, ((n : Int) + 1 - 2).toNat, .un, rfl, rfl, by omega⟩
  · rintro d r ρ ⟨j, m, s2, rfl, e1, hj⟩
    cases m with
    | zero => rw [rngL_zero] at e1; cases e1
    | succ m =>
      rw [rngL_succ] at e1
      cases e1
      refine ⟨_, rfl, wp_set (we_op (we_im rfl (we_im rfl ⟨_, _, _, rfl, rfl, mulD_int (mulOk_small (by omega) (by omega)), .inl ⟨_, rfl, turn_nx ?_⟩⟩)))⟩
      refine ⟨j + 1, m, .im (.int ((j : Int) + 1)), ?_, ?_, by omega⟩
      · simp only [fac]
        rw [show ((j + 1 : Nat) : Int) = (j : Int) + 1 by omega]
        rfl
      · rw [show ((j + 1 : Nat) : Int) + 1 = (j : Int) + 1 + 1 by omega]
  · rintro ρ ⟨j, m, s2, rfl, e1, hj⟩
    cases m with
    | succ m => rw [rngL_succ] at e1; cases e1
    | zero =>
      repeat' (first | refine ⟨_, _, _, rfl, rfl, MB.getM_P _ _ _ _, ?_⟩ | refine we_im rfl ?_ | refine we_mu rfl ?_ | refine we_op ?_ | refine we_un ?_ | refine we_cb ?_ | refine we_cbS ?_ | refine we_frzV ?_ | refine wa_nil ?_ | refine wa_cons ?_ | refine we_tup ?_ | refine we_lst ?_ | refine we_newT ?_ | refine we_dis1 ?_ | refine we_meth ?_ | refine we_if ?_ | refine we_and ?_ | refine we_or ?_ | refine we_not ?_ | refine we_chain ?_ | refine we_chain3 ?_ | refine wo_none ?_ | refine wo_some ?_ | refine we_slice ?_ | refine we_call ?_ | refine we_c ?_ | refine wt_b ?_ | refine wt_and ?_ | refine wt_or ?_ | refine wt_not ?_ | refine wt_yes ?_ | refine wp_seq ?_ | refine wp_if ?_ | refine wp_ret ?_ | refine wp_drop ?_ | refine wp_set ?_ | refine wp_store ?_ | refine wp_asgP ?_ | refine wp_par2 ?_ | refine wp_par3 ?_ | refine wp_next ?_ | refine wp_raise ?_ | refine wp_retN ?_ | refine wx_of ?_ | refine wxs_nil ?_ | refine wxs_cons ?_ | refine wx_tup ?_ | refine wx_if ?_ | refine wx_call ?_ | refine wx_callX ?_ | refine wp_retX ?_ | refine wp_dropX ?_ | refine ev_len rfl rfl ?_ | refine ⟨_, _, _, rfl, rfl, rfl, ?_⟩ | refine ⟨_, _, rfl, rfl, ?_⟩ | refine ⟨_, rfl, rfl, ?_⟩ | refine ⟨_, rfl, ?_⟩ | refine .inl ⟨_, rfl, ?_⟩ | refine .inr (.inl ⟨_, rfl, ?_⟩) | refine .inr (.inr ⟨_, _, rfl, rfl, ?_⟩) | refine .inr ⟨_, rfl, ?_⟩ | refine ⟨_, rfl, by first | decide | (simp; done), ?_⟩ | refine ev_args rfl ?_ | refine .inl ⟨_, _, rfl, ?_⟩ | refine .inr ⟨_, _, rfl, ?_⟩ | refine ev_par3 rfl ?_ | refine end_rt ⟨_, _, rfl, rfl, ?_⟩ | refine end_nx ⟨_, rfl, ?_⟩ | refine end_ex ⟨_, rfl, ?_⟩ | refine then_nx ?_ | refine then_rt ?_ | refine then_ex ?_ | refine turn_nx ?_ | refine turn_rt ?_ | refine b1 ?_ | refine b0 ?_ | refine ⟨_, _, _, rfl, rfl, mulD_int (mulOk_small (by decide) (by decide)), ?_⟩ | refine ⟨_, _, _, rfl, rfl, MB.ixA_P (by assumption), ?_⟩ | refine ⟨_, _, _, rfl, rfl, MB.stD_P (by first | assumption | omega), ?_⟩ | fail)
      have : fac j = fac n := by
        rcases hj with h | ⟨h1, _, h2⟩
        · rw [show j = n by omega]
        · subst h1 h2; rfl
      rw [this]
end K56

set_option Elab.async false
set_option linter.all false
set_option maxRecDepth 100000
set_option maxHeartbeats 4000000
namespace K56
open PySem PySem.Spec PyProof.Rows L2 DL MB
variable (w : World)
/-! the script's state -/
theorem state_ok (ns : List Int) : ∃ s : Int × Int, F_d14_law_state w [.scr ns] = some (.ok (.fresh (stE s)) []) := by
  suffices hs : Wf (F_d14_law_state w) [.scr ns] (fun r => ∃ s : Int × Int, r = .ok (.fresh (stE s)) []) by
    obtain ⟨r, e, s, rfl⟩ := hs
    exact ⟨s, e⟩
  unfold F_d14_law_state m_d14_law_state
  refine wf_run (wp_seq (wp_set (we_c (.inl ⟨_, rfl, then_nx ?_⟩))))
  refine wp_seq (wp_set (we_c (.inl ⟨_, rfl, then_nx ?_⟩)))
  refine wp_seq (wp_for (fun rem ρ => ∃ (a b : Int) (s3 : Sl) (r : List Int), ρ = [.im (.scr ns), .im (.int a), .im (.int b), s3] ∧ rem = r.map D.int) ?_ ?_ ?_)
  · refine wi_seq (we_frzV (we_slice (we_im rfl (wo_none (wo_some (we_c ⟨_, rfl, _, _, rfl, rfl, .inr (.inl ⟨_, rfl, _, _, rfl, rfl, ?_⟩)⟩))))))
    refine ⟨0, 1, .un, (ns.drop (HT.sIx ns.length 0 none)).take (HT.sIx ns.length ns.length (some 63) - HT.sIx ns.length 0 none), rfl, ?_⟩
    show DL.cutD (ns.map .int) none (some 63) = _
    unfold DL.cutD
    rw [List.length_map, List.map_take, List.map_drop]
  · rintro d r ρ ⟨a, b, s3, r', rfl, e1⟩
    cases r' with
    | nil => cases e1
    | cons x r' =>
      cases e1
      refine ⟨_, rfl, ?_⟩
      repeat' (first | refine ⟨_, _, _, rfl, rfl, MB.getM_P _ _ _ _, ?_⟩ | refine we_im rfl ?_ | refine we_mu rfl ?_ | refine we_op ?_ | refine we_un ?_ | refine we_cb ?_ | refine we_cbS ?_ | refine we_frzV ?_ | refine wa_nil ?_ | refine wa_cons ?_ | refine we_tup ?_ | refine we_lst ?_ | refine we_newT ?_ | refine we_dis1 ?_ | refine we_meth ?_ | refine we_if ?_ | refine we_and ?_ | refine we_or ?_ | refine we_not ?_ | refine we_chain ?_ | refine we_chain3 ?_ | refine wo_none ?_ | refine wo_some ?_ | refine we_slice ?_ | refine we_call ?_ | refine we_c ?_ | refine wt_b ?_ | refine wt_and ?_ | refine wt_or ?_ | refine wt_not ?_ | refine wt_yes ?_ | refine wp_seq ?_ | refine wp_if ?_ | refine wp_ret ?_ | refine wp_drop ?_ | refine wp_set ?_ | refine wp_store ?_ | refine wp_asgP ?_ | refine wp_par2 ?_ | refine wp_par3 ?_ | refine wp_next ?_ | refine wp_raise ?_ | refine wp_retN ?_ | refine wx_of ?_ | refine wxs_nil ?_ | refine wxs_cons ?_ | refine wx_tup ?_ | refine wx_if ?_ | refine wx_call ?_ | refine wx_callX ?_ | refine wp_retX ?_ | refine wp_dropX ?_ | refine ev_len rfl rfl ?_ | refine ⟨_, _, _, rfl, rfl, rfl, ?_⟩ | refine ⟨_, _, rfl, rfl, ?_⟩ | refine ⟨_, rfl, rfl, ?_⟩ | refine ⟨_, rfl, ?_⟩ | refine .inl ⟨_, rfl, ?_⟩ | refine .inr (.inl ⟨_, rfl, ?_⟩) | refine .inr (.inr ⟨_, _, rfl, rfl, ?_⟩) | refine .inr ⟨_, rfl, ?_⟩ | refine ⟨_, rfl, by first | decide | (simp; done), ?_⟩ | refine ev_args rfl ?_ | refine .inl ⟨_, _, rfl, ?_⟩ | refine .inr ⟨_, _, rfl, ?_⟩ | refine ev_par3 rfl ?_ | refine end_rt ⟨_, _, rfl, rfl, ?_⟩ | refine end_nx ⟨_, rfl, ?_⟩ | refine end_ex ⟨_, rfl, ?_⟩ | refine then_nx ?_ | refine then_rt ?_ | refine then_ex ?_ | refine turn_nx ?_ | refine turn_rt ?_ | refine b1 ?_ | refine b0 ?_ | refine ⟨_, _, _, rfl, rfl, mulD_int (mulOk_small (by decide) (by decide)), ?_⟩ | refine ⟨_, _, _, rfl, rfl, MB.ixA_P (by assumption), ?_⟩ | refine ⟨_, _, _, rfl, rfl, MB.stD_P (by first | assumption | omega), ?_⟩ | fail)
      exact ⟨_, _, _, r', rfl, rfl⟩
  · rintro ρ ⟨a, b, s3, r', rfl, e1⟩
    repeat' (first | refine ⟨_, _, _, rfl, rfl, MB.getM_P _ _ _ _, ?_⟩ | refine we_im rfl ?_ | refine we_mu rfl ?_ | refine we_op ?_ | refine we_un ?_ | refine we_cb ?_ | refine we_cbS ?_ | refine we_frzV ?_ | refine wa_nil ?_ | refine wa_cons ?_ | refine we_tup ?_ | refine we_lst ?_ | refine we_newT ?_ | refine we_dis1 ?_ | refine we_meth ?_ | refine we_if ?_ | refine we_and ?_ | refine we_or ?_ | refine we_not ?_ | refine we_chain ?_ | refine we_chain3 ?_ | refine wo_none ?_ | refine wo_some ?_ | refine we_slice ?_ | refine we_call ?_ | refine we_c ?_ | refine wt_b ?_ | refine wt_and ?_ | refine wt_or ?_ | refine wt_not ?_ | refine wt_yes ?_ | refine wp_seq ?_ | refine wp_if ?_ | refine wp_ret ?_ | refine wp_drop ?_ | refine wp_set ?_ | refine wp_store ?_ | refine wp_asgP ?_ | refine wp_par2 ?_ | refine wp_par3 ?_ | refine wp_next ?_ | refine wp_raise ?_ | refine wp_retN ?_ | refine wx_of ?_ | refine wxs_nil ?_ | refine wxs_cons ?_ | refine wx_tup ?_ | refine wx_if ?_ | refine wx_call ?_ | refine wx_callX ?_ | refine wp_retX ?_ | refine wp_dropX ?_ | refine ev_len rfl rfl ?_ | refine ⟨_, _, _, rfl, rfl, rfl, ?_⟩ | refine ⟨_, _, rfl, rfl, ?_⟩ | refine ⟨_, rfl, rfl, ?_⟩ | refine ⟨_, rfl, ?_⟩ | refine .inl ⟨_, rfl, ?_⟩ | refine .inr (.inl ⟨_, rfl, ?_⟩) | refine .inr (.inr ⟨_, _, rfl, rfl, ?_⟩) | refine .inr ⟨_, rfl, ?_⟩ | refine ⟨_, rfl, by first | decide | (simp; done), ?_⟩ | refine ev_args rfl ?_ | refine .inl ⟨_, _, rfl, ?_⟩ | refine .inr ⟨_, _, rfl, ?_⟩ | refine ev_par3 rfl ?_ | refine end_rt ⟨_, _, rfl, rfl, ?_⟩ | refine end_nx ⟨_, rfl, ?_⟩ | refine end_ex ⟨_, rfl, ?_⟩ | refine then_nx ?_ | refine then_rt ?_ | refine then_ex ?_ | refine turn_nx ?_ | refine turn_rt ?_ | refine b1 ?_ | refine b0 ?_ | refine ⟨_, _, _, rfl, rfl, mulD_int (mulOk_small (by decide) (by decide)), ?_⟩ | refine ⟨_, _, _, rfl, rfl, MB.ixA_P (by assumption), ?_⟩ | refine ⟨_, _, _, rfl, rfl, MB.stD_P (by first | assumption | omega), ?_⟩ | fail)
    exact ⟨(a, b), rfl⟩
/-! a drawn sum -/
theorem draw_val (k : Int) (h : 0 ≤ k ∧ k < 5) : ∃ v : Int, atI ([.int 1, .int 2, .int (-1), .int 3, .int (-2)] : List D) k = some (.int v) ∧ -3 ≤ v ∧ v ≤ 3 := by
  have : k = 0 ∨ k = 1 ∨ k = 2 ∨ k = 3 ∨ k = 4 := by omega
  rcases this with rfl | rfl | rfl | rfl | rfl
  · exact ⟨1, rfl, by omega, by omega⟩
  · exact ⟨2, rfl, by omega, by omega⟩
  · exact ⟨-1, rfl, by omega, by omega⟩
  · exact ⟨3, rfl, by omega, by omega⟩
  · exact ⟨-2, rfl, by omega, by omega⟩
def Sm3 (l : AL) : Prop := ∀ x ∈ l, -3 ≤ x.2 ∧ x.2 ≤ 3
theorem Sm3.put {l : AL} {k : P2} {v : Int} (h : Sm3 l) (hv : -3 ≤ v ∧ v ≤ 3) : Sm3 (put l k v) := by
  intro x hx
  unfold MB.put at hx
  split at hx
  · obtain ⟨y, hy, e⟩ := List.mem_map.mp hx
    split at e
    · rw [← e]; exact hv
    · rw [← e]; exact h y hy
  · rcases List.mem_append.mp hx with hx | hx
    · exact h x hx
    · rw [List.mem_singleton.mp hx]; exact hv
theorem Sm3.sm {l : AL} (h : Sm3 l) : Sm l := fun x hx => by have := h x hx; omega
theorem drawn_ok (s : Int × Int) (n : Int) (hn0 : 2 ≤ n) (hn : n ≤ 8) : ∃ s' l, F_d26_law_drawn_sum w [stE s, .int n] = some (.ok (.val (dicE l)) [stE s']) ∧ Vd n l ∧ Sm3 l := by
  suffices hs : Wf (F_d26_law_drawn_sum w) [stE s, .int n] (fun r => ∃ s' l, r = .ok (.val (dicE l)) [stE s'] ∧ Vd n l ∧ Sm3 l) by
    obtain ⟨r, e, s', l, rfl, h1, h2⟩ := hs
    exact ⟨s', l, e, h1, h2⟩
  unfold F_d26_law_drawn_sum m_d26_law_drawn_sum
  refine wf_run (wp_seq (wp_set (we_newT (.inr ⟨_, rfl, then_nx ?_⟩))))
  have b4 := takeV_bd s 4 (by omega)
  refine wp_seq (wp_for (fun rem ρ => ∃ (j m : Nat) (t : Int × Int) (l : AL) (s3 s4 : Sl), ρ = [.mu (stE t), .im (.int n), .mu (dicE l), s3, s4] ∧ rem = rngL (j : Int) m ∧ Vd n l ∧ Sm3 l) ?_ ?_ ?_)
  · refine wi_rng1 (wa_cons (we_call (wa_cons (we_mu rfl (wa_cons (we_c (wa_nil (ev_args rfl (ev_funV (take_ok w s 4 (by omega) (by omega)) (wa_nil ⟨_, rfl, by omega, by omega, ?_⟩))))))))))
    exact ⟨0, _, takeS s 4, [], .un, .un, rfl, rfl, Vd.nil n, fun _ h => nomatch h⟩
  · rintro d r ρ ⟨j, m, t, l, s3, s4, rfl, e1, vl, sl⟩
    obtain ⟨m', rfl, rfl, rfl⟩ := rng_cons e1
    have bn := takeV_bd t n (by omega)
    have b5 := takeV_bd (takeS t n) 5 (by omega)
    have ba := takeV_bd (takeS (takeS t n) 5) (takeV t n + 1) (by omega)
    obtain ⟨v, hv, hv1⟩ := draw_val _ b5
    have hl64 := vl.len hn
    refine ⟨_, rfl, ?_⟩
    have hix : ixA (.lst [.int 1, .int 2, .int (-1), .int 3, .int (-2)]) (.int (takeV (takeS t n) 5)) = some (.val (.int v)) := by
      have e : ixD (.lst [.int 1, .int 2, .int (-1), .int 3, .int (-2)]) (.int (takeV (takeS t n) 5)) = some (.val (.int v)) := by
        show Option.map RV.val (atI _ _) = _
        rw [hv]
        rfl
      unfold ixA
      rw [e]
    repeat' (first | refine ⟨_, _, _, rfl, rfl, MB.getM_P _ _ _ _, ?_⟩ | refine we_im rfl ?_ | refine we_mu rfl ?_ | refine we_op ?_ | refine we_un ?_ | refine we_cb ?_ | refine we_cbS ?_ | refine we_frzV ?_ | refine wa_nil ?_ | refine wa_cons ?_ | refine we_tup ?_ | refine we_lst ?_ | refine we_newT ?_ | refine we_dis1 ?_ | refine we_meth ?_ | refine we_if ?_ | refine we_and ?_ | refine we_or ?_ | refine we_not ?_ | refine we_chain ?_ | refine we_chain3 ?_ | refine wo_none ?_ | refine wo_some ?_ | refine we_slice ?_ | refine we_call ?_ | refine we_c ?_ | refine wt_b ?_ | refine wt_and ?_ | refine wt_or ?_ | refine wt_not ?_ | refine wt_yes ?_ | refine wp_seq ?_ | refine wp_if ?_ | refine wp_ret ?_ | refine wp_drop ?_ | refine wp_set ?_ | refine wp_store ?_ | refine wp_asgP ?_ | refine wp_par2 ?_ | refine wp_par3 ?_ | refine wp_next ?_ | refine wp_raise ?_ | refine wp_retN ?_ | refine wx_of ?_ | refine wxs_nil ?_ | refine wxs_cons ?_ | refine wx_tup ?_ | refine wx_if ?_ | refine wx_call ?_ | refine wx_callX ?_ | refine wp_retX ?_ | refine wp_dropX ?_ | refine ev_len rfl rfl ?_ | refine ⟨_, _, _, rfl, rfl, rfl, ?_⟩ | refine ⟨_, _, rfl, rfl, ?_⟩ | refine ⟨_, rfl, rfl, ?_⟩ | refine ⟨_, rfl, ?_⟩ | refine .inl ⟨_, rfl, ?_⟩ | refine .inr (.inl ⟨_, rfl, ?_⟩) | refine .inr (.inr ⟨_, _, rfl, rfl, ?_⟩) | refine .inr ⟨_, rfl, ?_⟩ | refine ⟨_, rfl, by first | decide | (simp; done), ?_⟩ | refine ev_args rfl ?_ | refine .inl ⟨_, _, rfl, ?_⟩ | refine .inr ⟨_, _, rfl, ?_⟩ | refine ev_par3 rfl ?_ | refine end_rt ⟨_, _, rfl, rfl, ?_⟩ | refine end_nx ⟨_, rfl, ?_⟩ | refine end_ex ⟨_, rfl, ?_⟩ | refine then_nx ?_ | refine then_rt ?_ | refine then_ex ?_ | refine turn_nx ?_ | refine turn_rt ?_ | refine b1 ?_ | refine b0 ?_ | refine ⟨_, _, _, rfl, rfl, mulD_int (mulOk_small (by decide) (by decide)), ?_⟩ | refine ⟨_, _, _, rfl, rfl, MB.ixA_P (by assumption), ?_⟩ | refine ⟨_, _, _, rfl, rfl, MB.stD_P (by first | assumption | omega), ?_⟩ | fail)
    refine ev_funV (take_ok w t n (by omega) (by omega)) ?_
    repeat' (first | refine ⟨_, _, _, rfl, rfl, MB.getM_P _ _ _ _, ?_⟩ | refine we_im rfl ?_ | refine we_mu rfl ?_ | refine we_op ?_ | refine we_un ?_ | refine we_cb ?_ | refine we_cbS ?_ | refine we_frzV ?_ | refine wa_nil ?_ | refine wa_cons ?_ | refine we_tup ?_ | refine we_lst ?_ | refine we_newT ?_ | refine we_dis1 ?_ | refine we_meth ?_ | refine we_if ?_ | refine we_and ?_ | refine we_or ?_ | refine we_not ?_ | refine we_chain ?_ | refine we_chain3 ?_ | refine wo_none ?_ | refine wo_some ?_ | refine we_slice ?_ | refine we_call ?_ | refine we_c ?_ | refine wt_b ?_ | refine wt_and ?_ | refine wt_or ?_ | refine wt_not ?_ | refine wt_yes ?_ | refine wp_seq ?_ | refine wp_if ?_ | refine wp_ret ?_ | refine wp_drop ?_ | refine wp_set ?_ | refine wp_store ?_ | refine wp_asgP ?_ | refine wp_par2 ?_ | refine wp_par3 ?_ | refine wp_next ?_ | refine wp_raise ?_ | refine wp_retN ?_ | refine wx_of ?_ | refine wxs_nil ?_ | refine wxs_cons ?_ | refine wx_tup ?_ | refine wx_if ?_ | refine wx_call ?_ | refine wx_callX ?_ | refine wp_retX ?_ | refine wp_dropX ?_ | refine ev_len rfl rfl ?_ | refine ⟨_, _, _, rfl, rfl, rfl, ?_⟩ | refine ⟨_, _, rfl, rfl, ?_⟩ | refine ⟨_, rfl, rfl, ?_⟩ | refine ⟨_, rfl, ?_⟩ | refine .inl ⟨_, rfl, ?_⟩ | refine .inr (.inl ⟨_, rfl, ?_⟩) | refine .inr (.inr ⟨_, _, rfl, rfl, ?_⟩) | refine .inr ⟨_, rfl, ?_⟩ | refine ⟨_, rfl, by first | decide | (simp; done), ?_⟩ | refine ev_args rfl ?_ | refine .inl ⟨_, _, rfl, ?_⟩ | refine .inr ⟨_, _, rfl, ?_⟩ | refine ev_par3 rfl ?_ | refine end_rt ⟨_, _, rfl, rfl, ?_⟩ | refine end_nx ⟨_, rfl, ?_⟩ | refine end_ex ⟨_, rfl, ?_⟩ | refine then_nx ?_ | refine then_rt ?_ | refine then_ex ?_ | refine turn_nx ?_ | refine turn_rt ?_ | refine b1 ?_ | refine b0 ?_ | refine ⟨_, _, _, rfl, rfl, mulD_int (mulOk_small (by decide) (by decide)), ?_⟩ | refine ⟨_, _, _, rfl, rfl, MB.ixA_P (by assumption), ?_⟩ | refine ⟨_, _, _, rfl, rfl, MB.stD_P (by first | assumption | omega), ?_⟩ | fail)
    refine ev_funV (take_ok w (takeS t n) 5 (by omega) (by omega)) ?_
    refine ⟨_, _, _, rfl, rfl, hix, ?_⟩
    repeat' (first | refine ⟨_, _, _, rfl, rfl, MB.getM_P _ _ _ _, ?_⟩ | refine we_im rfl ?_ | refine we_mu rfl ?_ | refine we_op ?_ | refine we_un ?_ | refine we_cb ?_ | refine we_cbS ?_ | refine we_frzV ?_ | refine wa_nil ?_ | refine wa_cons ?_ | refine we_tup ?_ | refine we_lst ?_ | refine we_newT ?_ | refine we_dis1 ?_ | refine we_meth ?_ | refine we_if ?_ | refine we_and ?_ | refine we_or ?_ | refine we_not ?_ | refine we_chain ?_ | refine we_chain3 ?_ | refine wo_none ?_ | refine wo_some ?_ | refine we_slice ?_ | refine we_call ?_ | refine we_c ?_ | refine wt_b ?_ | refine wt_and ?_ | refine wt_or ?_ | refine wt_not ?_ | refine wt_yes ?_ | refine wp_seq ?_ | refine wp_if ?_ | refine wp_ret ?_ | refine wp_drop ?_ | refine wp_set ?_ | refine wp_store ?_ | refine wp_asgP ?_ | refine wp_par2 ?_ | refine wp_par3 ?_ | refine wp_next ?_ | refine wp_raise ?_ | refine wp_retN ?_ | refine wx_of ?_ | refine wxs_nil ?_ | refine wxs_cons ?_ | refine wx_tup ?_ | refine wx_if ?_ | refine wx_call ?_ | refine wx_callX ?_ | refine wp_retX ?_ | refine wp_dropX ?_ | refine ev_len rfl rfl ?_ | refine ⟨_, _, _, rfl, rfl, rfl, ?_⟩ | refine ⟨_, _, rfl, rfl, ?_⟩ | refine ⟨_, rfl, rfl, ?_⟩ | refine ⟨_, rfl, ?_⟩ | refine .inl ⟨_, rfl, ?_⟩ | refine .inr (.inl ⟨_, rfl, ?_⟩) | refine .inr (.inr ⟨_, _, rfl, rfl, ?_⟩) | refine .inr ⟨_, rfl, ?_⟩ | refine ⟨_, rfl, by first | decide | (simp; done), ?_⟩ | refine ev_args rfl ?_ | refine .inl ⟨_, _, rfl, ?_⟩ | refine .inr ⟨_, _, rfl, ?_⟩ | refine ev_par3 rfl ?_ | refine end_rt ⟨_, _, rfl, rfl, ?_⟩ | refine end_nx ⟨_, rfl, ?_⟩ | refine end_ex ⟨_, rfl, ?_⟩ | refine then_nx ?_ | refine then_rt ?_ | refine then_ex ?_ | refine turn_nx ?_ | refine turn_rt ?_ | refine b1 ?_ | refine b0 ?_ | refine ⟨_, _, _, rfl, rfl, mulD_int (mulOk_small (by decide) (by decide)), ?_⟩ | refine ⟨_, _, _, rfl, rfl, MB.ixA_P (by assumption), ?_⟩ | refine ⟨_, _, _, rfl, rfl, MB.stD_P (by first | assumption | omega), ?_⟩ | fail)
    refine ev_funV (take_ok w (takeS (takeS t n) 5) (takeV t n + 1) (by omega) (by omega)) ?_
    repeat' (first | refine ⟨_, _, _, rfl, rfl, MB.getM_P _ _ _ _, ?_⟩ | refine we_im rfl ?_ | refine we_mu rfl ?_ | refine we_op ?_ | refine we_un ?_ | refine we_cb ?_ | refine we_cbS ?_ | refine we_frzV ?_ | refine wa_nil ?_ | refine wa_cons ?_ | refine we_tup ?_ | refine we_lst ?_ | refine we_newT ?_ | refine we_dis1 ?_ | refine we_meth ?_ | refine we_if ?_ | refine we_and ?_ | refine we_or ?_ | refine we_not ?_ | refine we_chain ?_ | refine we_chain3 ?_ | refine wo_none ?_ | refine wo_some ?_ | refine we_slice ?_ | refine we_call ?_ | refine we_c ?_ | refine wt_b ?_ | refine wt_and ?_ | refine wt_or ?_ | refine wt_not ?_ | refine wt_yes ?_ | refine wp_seq ?_ | refine wp_if ?_ | refine wp_ret ?_ | refine wp_drop ?_ | refine wp_set ?_ | refine wp_store ?_ | refine wp_asgP ?_ | refine wp_par2 ?_ | refine wp_par3 ?_ | refine wp_next ?_ | refine wp_raise ?_ | refine wp_retN ?_ | refine wx_of ?_ | refine wxs_nil ?_ | refine wxs_cons ?_ | refine wx_tup ?_ | refine wx_if ?_ | refine wx_call ?_ | refine wx_callX ?_ | refine wp_retX ?_ | refine wp_dropX ?_ | refine ev_len rfl rfl ?_ | refine ⟨_, _, _, rfl, rfl, rfl, ?_⟩ | refine ⟨_, _, rfl, rfl, ?_⟩ | refine ⟨_, rfl, rfl, ?_⟩ | refine ⟨_, rfl, ?_⟩ | refine .inl ⟨_, rfl, ?_⟩ | refine .inr (.inl ⟨_, rfl, ?_⟩) | refine .inr (.inr ⟨_, _, rfl, rfl, ?_⟩) | refine .inr ⟨_, rfl, ?_⟩ | refine ⟨_, rfl, by first | decide | (simp; done), ?_⟩ | refine ev_args rfl ?_ | refine .inl ⟨_, _, rfl, ?_⟩ | refine .inr ⟨_, _, rfl, ?_⟩ | refine ev_par3 rfl ?_ | refine end_rt ⟨_, _, rfl, rfl, ?_⟩ | refine end_nx ⟨_, rfl, ?_⟩ | refine end_ex ⟨_, rfl, ?_⟩ | refine then_nx ?_ | refine then_rt ?_ | refine then_ex ?_ | refine turn_nx ?_ | refine turn_rt ?_ | refine b1 ?_ | refine b0 ?_ | refine ⟨_, _, _, rfl, rfl, mulD_int (mulOk_small (by decide) (by decide)), ?_⟩ | refine ⟨_, _, _, rfl, rfl, MB.ixA_P (by assumption), ?_⟩ | refine ⟨_, _, _, rfl, rfl, MB.stD_P (by first | assumption | omega), ?_⟩ | fail)
    exact ⟨j + 1, m', _, put l (takeV t n, takeV (takeS (takeS t n) 5) (takeV t n + 1)) v, _, _, rfl, rfl, vl.put ⟨by simp; omega, by simp; omega, by simp; omega⟩, sl.put hv1⟩
  · rintro ρ ⟨j, m, t, l, s3, s4, rfl, e1, vl, sl⟩
    refine then_nx (wp_ret (we_frzV (we_mu rfl (.inr (.inr ⟨_, _, rfl, rfl, end_rt ⟨_, _, rfl, rfl, ?_⟩⟩)))))
    exact ⟨t, l, rfl, vl, sl⟩
end K56

set_option Elab.async false
set_option linter.all false
set_option maxRecDepth 100000
set_option maxHeartbeats 4000000
namespace K56
open PySem PySem.Spec PyProof.Rows L2 DL MB
variable (w : World)
/-! conditions among plain data -/
def isT : D → Bool
  | .tup _ => true
  | _ => false
def isW : D → Bool
  | .int _ => true
  | _ => false
mutual
def plD : D → Bool
  | .non => true
  | .bl _ => true
  | .int _ => true
  | .str _ => true
  | .tup xs => decide (xs.length ≤ 1000000) && plDs xs
  | .lst xs => plDs xs
  | _ => false
def plDs : List D → Bool
  | [] => true
  | d :: r => plD d && plDs r
end
theorem plDs_mem : ∀ {xs : List D}, plDs xs = true → ∀ x ∈ xs, plD x = true
  | [], _, _, h => nomatch h
  | d :: r, h, x, hx => by
    simp only [plDs, Bool.and_eq_true] at h
    rcases List.mem_cons.mp hx with rfl | hx
    · exact h.1
    · exact plDs_mem h.2 x hx
theorem is_integer_pl (d : D) (h : plD d = true) : F_d0_is_integer w [d] = some (.ok (.val (.bl (isW d))) []) := by
  cases d <;> first
    | (exfalso; simp [plD] at h; done)
    | (apply wf_eq
       unfold F_d0_is_integer m_d0_is_integer
       refine wf_run ?_
       repeat' (first | refine ⟨_, _, _, rfl, rfl, MB.getM_P _ _ _ _, ?_⟩ | refine we_im rfl ?_ | refine we_mu rfl ?_ | refine we_op ?_ | refine we_un ?_ | refine we_cb ?_ | refine we_cbS ?_ | refine we_frzV ?_ | refine wa_nil ?_ | refine wa_cons ?_ | refine we_tup ?_ | refine we_lst ?_ | refine we_newT ?_ | refine we_dis1 ?_ | refine we_meth ?_ | refine we_if ?_ | refine we_and ?_ | refine we_or ?_ | refine we_not ?_ | refine we_chain ?_ | refine we_chain3 ?_ | refine wo_none ?_ | refine wo_some ?_ | refine we_slice ?_ | refine we_call ?_ | refine we_c ?_ | refine wt_b ?_ | refine wt_and ?_ | refine wt_or ?_ | refine wt_not ?_ | refine wt_yes ?_ | refine wp_seq ?_ | refine wp_if ?_ | refine wp_ret ?_ | refine wp_drop ?_ | refine wp_set ?_ | refine wp_store ?_ | refine wp_asgP ?_ | refine wp_par2 ?_ | refine wp_par3 ?_ | refine wp_next ?_ | refine wp_raise ?_ | refine wp_retN ?_ | refine wx_of ?_ | refine wxs_nil ?_ | refine wxs_cons ?_ | refine wx_tup ?_ | refine wx_if ?_ | refine wx_call ?_ | refine wx_callX ?_ | refine wp_retX ?_ | refine wp_dropX ?_ | refine ev_len rfl rfl ?_ | refine ⟨_, _, _, rfl, rfl, rfl, ?_⟩ | refine ⟨_, _, rfl, rfl, ?_⟩ | refine ⟨_, rfl, rfl, ?_⟩ | refine ⟨_, rfl, ?_⟩ | refine .inl ⟨_, rfl, ?_⟩ | refine .inr (.inl ⟨_, rfl, ?_⟩) | refine .inr (.inr ⟨_, _, rfl, rfl, ?_⟩) | refine .inr ⟨_, rfl, ?_⟩ | refine ⟨_, rfl, by first | decide | (simp; done), ?_⟩ | refine ev_args rfl ?_ | refine .inl ⟨_, _, rfl, ?_⟩ | refine .inr ⟨_, _, rfl, ?_⟩ | refine ev_par3 rfl ?_ | refine end_rt ⟨_, _, rfl, rfl, ?_⟩ | refine end_nx ⟨_, rfl, ?_⟩ | refine end_ex ⟨_, rfl, ?_⟩ | refine then_nx ?_ | refine then_rt ?_ | refine then_ex ?_ | refine turn_nx ?_ | refine turn_rt ?_ | refine b1 ?_ | refine b0 ?_ | refine ⟨_, _, _, rfl, rfl, mulD_int (mulOk_small (by decide) (by decide)), ?_⟩ | refine ⟨_, _, _, rfl, rfl, MB.ixA_P (by assumption), ?_⟩ | refine ⟨_, _, _, rfl, rfl, MB.stD_P (by first | assumption | omega), ?_⟩ | fail)
       rfl)
theorem law_is_whole_pl (d : D) (h : plD d = true) : F_d19_law_is_whole w [d] = some (.ok (.val (.bl (isW d))) []) := by
  cases d <;> first
    | (exfalso; simp [plD] at h; done)
    | (apply wf_eq
       unfold F_d19_law_is_whole m_d19_law_is_whole
       refine wf_run ?_
       repeat' (first | refine ⟨_, _, _, rfl, rfl, MB.getM_P _ _ _ _, ?_⟩ | refine we_im rfl ?_ | refine we_mu rfl ?_ | refine we_op ?_ | refine we_un ?_ | refine we_cb ?_ | refine we_cbS ?_ | refine we_frzV ?_ | refine wa_nil ?_ | refine wa_cons ?_ | refine we_tup ?_ | refine we_lst ?_ | refine we_newT ?_ | refine we_dis1 ?_ | refine we_meth ?_ | refine we_if ?_ | refine we_and ?_ | refine we_or ?_ | refine we_not ?_ | refine we_chain ?_ | refine we_chain3 ?_ | refine wo_none ?_ | refine wo_some ?_ | refine we_slice ?_ | refine we_call ?_ | refine we_c ?_ | refine wt_b ?_ | refine wt_and ?_ | refine wt_or ?_ | refine wt_not ?_ | refine wt_yes ?_ | refine wp_seq ?_ | refine wp_if ?_ | refine wp_ret ?_ | refine wp_drop ?_ | refine wp_set ?_ | refine wp_store ?_ | refine wp_asgP ?_ | refine wp_par2 ?_ | refine wp_par3 ?_ | refine wp_next ?_ | refine wp_raise ?_ | refine wp_retN ?_ | refine wx_of ?_ | refine wxs_nil ?_ | refine wxs_cons ?_ | refine wx_tup ?_ | refine wx_if ?_ | refine wx_call ?_ | refine wx_callX ?_ | refine wp_retX ?_ | refine wp_dropX ?_ | refine ev_len rfl rfl ?_ | refine ⟨_, _, _, rfl, rfl, rfl, ?_⟩ | refine ⟨_, _, rfl, rfl, ?_⟩ | refine ⟨_, rfl, rfl, ?_⟩ | refine ⟨_, rfl, ?_⟩ | refine .inl ⟨_, rfl, ?_⟩ | refine .inr (.inl ⟨_, rfl, ?_⟩) | refine .inr (.inr ⟨_, _, rfl, rfl, ?_⟩) | refine .inr ⟨_, rfl, ?_⟩ | refine ⟨_, rfl, by first | decide | (simp; done), ?_⟩ | refine ev_args rfl ?_ | refine .inl ⟨_, _, rfl, ?_⟩ | refine .inr ⟨_, _, rfl, ?_⟩ | refine ev_par3 rfl ?_ | refine end_rt ⟨_, _, rfl, rfl, ?_⟩ | refine end_nx ⟨_, rfl, ?_⟩ | refine end_ex ⟨_, rfl, ?_⟩ | refine then_nx ?_ | refine then_rt ?_ | refine then_ex ?_ | refine turn_nx ?_ | refine turn_rt ?_ | refine b1 ?_ | refine b0 ?_ | refine ⟨_, _, _, rfl, rfl, mulD_int (mulOk_small (by decide) (by decide)), ?_⟩ | refine ⟨_, _, _, rfl, rfl, MB.ixA_P (by assumption), ?_⟩ | refine ⟨_, _, _, rfl, rfl, MB.stD_P (by first | assumption | omega), ?_⟩ | fail)
       rfl)
theorem bools_map (B : D → Bool) : ∀ xs : List D, bools (xs.map fun x => .bl (B x)) = some (xs.map B)
  | [] => rfl
  | x :: r => by simp [bools, bools_map B r]
theorem lc_all {g : FD} {B : D → Bool} {xs : List D} (hl : xs.length ≤ 1000000) (hg : ∀ x ∈ xs, g [x] = some (.ok (.val (.bl (B x))) [])) {a d : D} {s : Sl} {Q : RV → DEnv → Prop} (hi : itemsD d = some xs) (k : Q (.fresh (.lst (xs.map fun x => .bl (B x)))) [.im a, .im d, keepIm (some s)]) :
    We (fLc (fItA (fVar 1)) (.nm 2) fYes (fCallF [false] g (fCons (fVar 2) fNil)) [2]) [.im a, .im d, s] Q := by
  refine we_lc (fun ρ0 rem acc ρ => ρ0 = [.im a, .im d, s] ∧ ρ = [.im a, .im d, .un] ∧ ∃ p, xs = p ++ rem ∧ acc = p.map fun x => .bl (B x)) ?_ ?_ ?_
  · exact wi_seq (we_im rfl ⟨_, _, rfl, hi, hl, rfl, rfl, [], rfl, rfl⟩)
  · rintro ρ0 x r acc ρ ⟨rfl, rfl, p, e1, rfl⟩
    refine ⟨_, rfl, wt_yes ⟨fun _ => ?_, fun h => nomatch h⟩⟩
    refine we_call (wa_cons (we_im rfl (wa_nil (ev_args rfl (ev_funV (hg x (by rw [e1]; simp)) ?_)))))
    exact ⟨_, rfl, rfl, rfl, p ++ [x], by simp [e1], by simp⟩
  · rintro ρ0 acc ρ ⟨rfl, rfl, p, e1, rfl⟩
    rw [List.append_nil] at e1
    subst e1
    exact k
def condL (n : Int) (xs : List D) : Bool := match intsD xs with
  | some [a, b] => decide (a ≤ n - 1) && (decide (b ≤ a) && decide (0 ≤ b))
  | _ => false
def condB (n : Int) : D → Bool
  | .tup xs => condL n xs
  | _ => false
theorem intsD_len : ∀ {xs : List D} {ns : List Int}, intsD xs = some ns → ns.length = xs.length
  | [], ns, e => by cases e; rfl
  | .int i :: r, ns, e => by
    obtain ⟨ms, e2, e3⟩ := Option.map_eq_some_iff.mp e
    subst e3
    simp [intsD_len e2]
  | .non :: r, _, e => by simp [DL.intsD] at e
  | .bl _ :: r, _, e => by simp [DL.intsD] at e
  | .str _ :: r, _, e => by simp [DL.intsD] at e
  | .tup _ :: r, _, e => by simp [DL.intsD] at e
  | .tpp _ :: r, _, e => by simp [DL.intsD] at e
  | .lst _ :: r, _, e => by simp [DL.intsD] at e
  | .dic _ _ :: r, _, e => by simp [DL.intsD] at e
  | .dik _ _ :: r, _, e => by simp [DL.intsD] at e
  | .fn _ :: r, _, e => by simp [DL.intsD] at e
  | .scr _ :: r, _, e => by simp [DL.intsD] at e
theorem condL_len {n : Int} {xs : List D} (h : xs.length ≠ 2) : condL n xs = false := by
  unfold condL
  split
  · rename_i a b e
    exact (h (intsD_len e).symm).elim
  · rfl
theorem isW_ex {x : D} (h : isW x = true) : ∃ a, x = .int a := by
  cases x <;> first | exact ⟨_, rfl⟩ | (exfalso; simp [isW] at h; done)
theorem condL_not {n : Int} {x y : D} (h : (isW x && isW y) = false) : condL n [x, y] = false := by
  unfold condL
  split
  · rename_i a b e
    exfalso
    cases x <;> try (simp [intsD] at e; done)
    cases y <;> try (simp [intsD] at e; done)
    simp [isW] at h
  · rfl
theorem len2 {xs : List D} (h : xs.length = 2) : ∃ x y, xs = [x, y] := by
  match xs, h with
  | [x, y], _ => exact ⟨x, y, rfl⟩
theorem is_condition_tup (n : Int) (xs : List D) (hl : xs.length ≤ 1000000) (h : plDs xs = true) : F_d2_is_condition w [.int n, .tup xs] = some (.ok (.val (.bl (condL n xs))) []) := by
  apply wf_eq
  unfold F_d2_is_condition m_d2_is_condition
  refine wf_run (wp_seq (wp_if ?_))
  have ha := fun x hx => is_integer_pl w x (plDs_mem h x hx)
  by_cases h2 : xs.length = 2
  · obtain ⟨x, y, rfl⟩ := len2 h2
    refine wt_or (wt_not (wt_b (we_un (we_im rfl ⟨_, _, rfl, rfl, _, rfl, b0 ?_⟩))))
    refine wt_or (wt_b (we_op (we_cb (wa_cons (we_im rfl (wa_nil ⟨_, _, rfl, rfl, we_c ⟨_, _, _, rfl, rfl, cmp_neD _ _, _, rfl, b0 ?_⟩⟩))))))
    refine wt_not (wt_b (we_cb (wa_cons (lc_all hl ha rfl (wa_nil ⟨_, _, rfl, rfl, _, rfl, ?_⟩)))))
    have e : (List.all [isW x, isW y] id) = (isW x && isW y) := by simp
    show (_ : Prop) ∧ _
    cases hw : (isW x && isW y) with
    | false =>
      rw [show ([isW x, isW y] : List Bool).all id = false by rw [e]; exact hw]
      refine b1 ?_
      repeat' (first | refine ⟨_, _, _, rfl, rfl, MB.getM_P _ _ _ _, ?_⟩ | refine we_im rfl ?_ | refine we_mu rfl ?_ | refine we_op ?_ | refine we_un ?_ | refine we_cb ?_ | refine we_cbS ?_ | refine we_frzV ?_ | refine wa_nil ?_ | refine wa_cons ?_ | refine we_tup ?_ | refine we_lst ?_ | refine we_newT ?_ | refine we_dis1 ?_ | refine we_meth ?_ | refine we_if ?_ | refine we_and ?_ | refine we_or ?_ | refine we_not ?_ | refine we_chain ?_ | refine we_chain3 ?_ | refine wo_none ?_ | refine wo_some ?_ | refine we_slice ?_ | refine we_call ?_ | refine we_c ?_ | refine wt_b ?_ | refine wt_and ?_ | refine wt_or ?_ | refine wt_not ?_ | refine wt_yes ?_ | refine wp_seq ?_ | refine wp_if ?_ | refine wp_ret ?_ | refine wp_drop ?_ | refine wp_set ?_ | refine wp_store ?_ | refine wp_asgP ?_ | refine wp_par2 ?_ | refine wp_par3 ?_ | refine wp_next ?_ | refine wp_raise ?_ | refine wp_retN ?_ | refine wx_of ?_ | refine wxs_nil ?_ | refine wxs_cons ?_ | refine wx_tup ?_ | refine wx_if ?_ | refine wx_call ?_ | refine wx_callX ?_ | refine wp_retX ?_ | refine wp_dropX ?_ | refine ev_len rfl rfl ?_ | refine ⟨_, _, _, rfl, rfl, rfl, ?_⟩ | refine ⟨_, _, rfl, rfl, ?_⟩ | refine ⟨_, rfl, rfl, ?_⟩ | refine ⟨_, rfl, ?_⟩ | refine .inl ⟨_, rfl, ?_⟩ | refine .inr (.inl ⟨_, rfl, ?_⟩) | refine .inr (.inr ⟨_, _, rfl, rfl, ?_⟩) | refine .inr ⟨_, rfl, ?_⟩ | refine ⟨_, rfl, by first | decide | (simp; done), ?_⟩ | refine ev_args rfl ?_ | refine .inl ⟨_, _, rfl, ?_⟩ | refine .inr ⟨_, _, rfl, ?_⟩ | refine ev_par3 rfl ?_ | refine end_rt ⟨_, _, rfl, rfl, ?_⟩ | refine end_nx ⟨_, rfl, ?_⟩ | refine end_ex ⟨_, rfl, ?_⟩ | refine then_nx ?_ | refine then_rt ?_ | refine then_ex ?_ | refine turn_nx ?_ | refine turn_rt ?_ | refine b1 ?_ | refine b0 ?_ | refine ⟨_, _, _, rfl, rfl, mulD_int (mulOk_small (by decide) (by decide)), ?_⟩ | refine ⟨_, _, _, rfl, rfl, MB.ixA_P (by assumption), ?_⟩ | refine ⟨_, _, _, rfl, rfl, MB.stD_P (by first | assumption | omega), ?_⟩ | fail)
      rw [condL_not hw]
    | true =>
      rw [show ([isW x, isW y] : List Bool).all id = true by rw [e]; exact hw]
      refine b0 ?_
      obtain ⟨a, rfl⟩ := isW_ex (Bool.and_eq_true _ _ ▸ hw).1
      obtain ⟨b, rfl⟩ := isW_ex (Bool.and_eq_true _ _ ▸ hw).2
      repeat' (first | refine ⟨_, _, _, rfl, rfl, MB.getM_P _ _ _ _, ?_⟩ | refine we_im rfl ?_ | refine we_mu rfl ?_ | refine we_op ?_ | refine we_un ?_ | refine we_cb ?_ | refine we_cbS ?_ | refine we_frzV ?_ | refine wa_nil ?_ | refine wa_cons ?_ | refine we_tup ?_ | refine we_lst ?_ | refine we_newT ?_ | refine we_dis1 ?_ | refine we_meth ?_ | refine we_if ?_ | refine we_and ?_ | refine we_or ?_ | refine we_not ?_ | refine we_chain ?_ | refine we_chain3 ?_ | refine wo_none ?_ | refine wo_some ?_ | refine we_slice ?_ | refine we_call ?_ | refine we_c ?_ | refine wt_b ?_ | refine wt_and ?_ | refine wt_or ?_ | refine wt_not ?_ | refine wt_yes ?_ | refine wp_seq ?_ | refine wp_if ?_ | refine wp_ret ?_ | refine wp_drop ?_ | refine wp_set ?_ | refine wp_store ?_ | refine wp_asgP ?_ | refine wp_par2 ?_ | refine wp_par3 ?_ | refine wp_next ?_ | refine wp_raise ?_ | refine wp_retN ?_ | refine wx_of ?_ | refine wxs_nil ?_ | refine wxs_cons ?_ | refine wx_tup ?_ | refine wx_if ?_ | refine wx_call ?_ | refine wx_callX ?_ | refine wp_retX ?_ | refine wp_dropX ?_ | refine ev_len rfl rfl ?_ | refine ⟨_, _, _, rfl, rfl, rfl, ?_⟩ | refine ⟨_, _, rfl, rfl, ?_⟩ | refine ⟨_, rfl, rfl, ?_⟩ | refine ⟨_, rfl, ?_⟩ | refine .inl ⟨_, rfl, ?_⟩ | refine .inr (.inl ⟨_, rfl, ?_⟩) | refine .inr (.inr ⟨_, _, rfl, rfl, ?_⟩) | refine .inr ⟨_, rfl, ?_⟩ | refine ⟨_, rfl, by first | decide | (simp; done), ?_⟩ | refine ev_args rfl ?_ | refine .inl ⟨_, _, rfl, ?_⟩ | refine .inr ⟨_, _, rfl, ?_⟩ | refine ev_par3 rfl ?_ | refine end_rt ⟨_, _, rfl, rfl, ?_⟩ | refine end_nx ⟨_, rfl, ?_⟩ | refine end_ex ⟨_, rfl, ?_⟩ | refine then_nx ?_ | refine then_rt ?_ | refine then_ex ?_ | refine turn_nx ?_ | refine turn_rt ?_ | refine b1 ?_ | refine b0 ?_ | refine ⟨_, _, _, rfl, rfl, mulD_int (mulOk_small (by decide) (by decide)), ?_⟩ | refine ⟨_, _, _, rfl, rfl, MB.ixA_P (by assumption), ?_⟩ | refine ⟨_, _, _, rfl, rfl, MB.stD_P (by first | assumption | omega), ?_⟩ | fail)
      refine bt (fun h1 => ?_) (fun h1 => ?_)
      · repeat' (first | refine ⟨_, _, _, rfl, rfl, MB.getM_P _ _ _ _, ?_⟩ | refine we_im rfl ?_ | refine we_mu rfl ?_ | refine we_op ?_ | refine we_un ?_ | refine we_cb ?_ | refine we_cbS ?_ | refine we_frzV ?_ | refine wa_nil ?_ | refine wa_cons ?_ | refine we_tup ?_ | refine we_lst ?_ | refine we_newT ?_ | refine we_dis1 ?_ | refine we_meth ?_ | refine we_if ?_ | refine we_and ?_ | refine we_or ?_ | refine we_not ?_ | refine we_chain ?_ | refine we_chain3 ?_ | refine wo_none ?_ | refine wo_some ?_ | refine we_slice ?_ | refine we_call ?_ | refine we_c ?_ | refine wt_b ?_ | refine wt_and ?_ | refine wt_or ?_ | refine wt_not ?_ | refine wt_yes ?_ | refine wp_seq ?_ | refine wp_if ?_ | refine wp_ret ?_ | refine wp_drop ?_ | refine wp_set ?_ | refine wp_store ?_ | refine wp_asgP ?_ | refine wp_par2 ?_ | refine wp_par3 ?_ | refine wp_next ?_ | refine wp_raise ?_ | refine wp_retN ?_ | refine wx_of ?_ | refine wxs_nil ?_ | refine wxs_cons ?_ | refine wx_tup ?_ | refine wx_if ?_ | refine wx_call ?_ | refine wx_callX ?_ | refine wp_retX ?_ | refine wp_dropX ?_ | refine ev_len rfl rfl ?_ | refine ⟨_, _, _, rfl, rfl, rfl, ?_⟩ | refine ⟨_, _, rfl, rfl, ?_⟩ | refine ⟨_, rfl, rfl, ?_⟩ | refine ⟨_, rfl, ?_⟩ | refine .inl ⟨_, rfl, ?_⟩ | refine .inr (.inl ⟨_, rfl, ?_⟩) | refine .inr (.inr ⟨_, _, rfl, rfl, ?_⟩) | refine .inr ⟨_, rfl, ?_⟩ | refine ⟨_, rfl, by first | decide | (simp; done), ?_⟩ | refine ev_args rfl ?_ | refine .inl ⟨_, _, rfl, ?_⟩ | refine .inr ⟨_, _, rfl, ?_⟩ | refine ev_par3 rfl ?_ | refine end_rt ⟨_, _, rfl, rfl, ?_⟩ | refine end_nx ⟨_, rfl, ?_⟩ | refine end_ex ⟨_, rfl, ?_⟩ | refine then_nx ?_ | refine then_rt ?_ | refine then_ex ?_ | refine turn_nx ?_ | refine turn_rt ?_ | refine b1 ?_ | refine b0 ?_ | refine ⟨_, _, _, rfl, rfl, mulD_int (mulOk_small (by decide) (by decide)), ?_⟩ | refine ⟨_, _, _, rfl, rfl, MB.ixA_P (by assumption), ?_⟩ | refine ⟨_, _, _, rfl, rfl, MB.stD_P (by first | assumption | omega), ?_⟩ | fail)
        refine bt (fun h2 => ?_) (fun h2 => ?_)
        · repeat' (first | refine ⟨_, _, _, rfl, rfl, MB.getM_P _ _ _ _, ?_⟩ | refine we_im rfl ?_ | refine we_mu rfl ?_ | refine we_op ?_ | refine we_un ?_ | refine we_cb ?_ | refine we_cbS ?_ | refine we_frzV ?_ | refine wa_nil ?_ | refine wa_cons ?_ | refine we_tup ?_ | refine we_lst ?_ | refine we_newT ?_ | refine we_dis1 ?_ | refine we_meth ?_ | refine we_if ?_ | refine we_and ?_ | refine we_or ?_ | refine we_not ?_ | refine we_chain ?_ | refine we_chain3 ?_ | refine wo_none ?_ | refine wo_some ?_ | refine we_slice ?_ | refine we_call ?_ | refine we_c ?_ | refine wt_b ?_ | refine wt_and ?_ | refine wt_or ?_ | refine wt_not ?_ | refine wt_yes ?_ | refine wp_seq ?_ | refine wp_if ?_ | refine wp_ret ?_ | refine wp_drop ?_ | refine wp_set ?_ | refine wp_store ?_ | refine wp_asgP ?_ | refine wp_par2 ?_ | refine wp_par3 ?_ | refine wp_next ?_ | refine wp_raise ?_ | refine wp_retN ?_ | refine wx_of ?_ | refine wxs_nil ?_ | refine wxs_cons ?_ | refine wx_tup ?_ | refine wx_if ?_ | refine wx_call ?_ | refine wx_callX ?_ | refine wp_retX ?_ | refine wp_dropX ?_ | refine ev_len rfl rfl ?_ | refine ⟨_, _, _, rfl, rfl, rfl, ?_⟩ | refine ⟨_, _, rfl, rfl, ?_⟩ | refine ⟨_, rfl, rfl, ?_⟩ | refine ⟨_, rfl, ?_⟩ | refine .inl ⟨_, rfl, ?_⟩ | refine .inr (.inl ⟨_, rfl, ?_⟩) | refine .inr (.inr ⟨_, _, rfl, rfl, ?_⟩) | refine .inr ⟨_, rfl, ?_⟩ | refine ⟨_, rfl, by first | decide | (simp; done), ?_⟩ | refine ev_args rfl ?_ | refine .inl ⟨_, _, rfl, ?_⟩ | refine .inr ⟨_, _, rfl, ?_⟩ | refine ev_par3 rfl ?_ | refine end_rt ⟨_, _, rfl, rfl, ?_⟩ | refine end_nx ⟨_, rfl, ?_⟩ | refine end_ex ⟨_, rfl, ?_⟩ | refine then_nx ?_ | refine then_rt ?_ | refine then_ex ?_ | refine turn_nx ?_ | refine turn_rt ?_ | refine b1 ?_ | refine b0 ?_ | refine ⟨_, _, _, rfl, rfl, mulD_int (mulOk_small (by decide) (by decide)), ?_⟩ | refine ⟨_, _, _, rfl, rfl, MB.ixA_P (by assumption), ?_⟩ | refine ⟨_, _, _, rfl, rfl, MB.stD_P (by first | assumption | omega), ?_⟩ | fail)
          show FR.ok (.val (.bl (decide ((0:Int) ≤ b)))) [] = .ok (.val (.bl (decide (a ≤ n - 1) && (decide (b ≤ a) && decide (0 ≤ b))))) []
          rw [decide_eq_true h1, decide_eq_true h2]
          rfl
        · repeat' (first | refine ⟨_, _, _, rfl, rfl, MB.getM_P _ _ _ _, ?_⟩ | refine we_im rfl ?_ | refine we_mu rfl ?_ | refine we_op ?_ | refine we_un ?_ | refine we_cb ?_ | refine we_cbS ?_ | refine we_frzV ?_ | refine wa_nil ?_ | refine wa_cons ?_ | refine we_tup ?_ | refine we_lst ?_ | refine we_newT ?_ | refine we_dis1 ?_ | refine we_meth ?_ | refine we_if ?_ | refine we_and ?_ | refine we_or ?_ | refine we_not ?_ | refine we_chain ?_ | refine we_chain3 ?_ | refine wo_none ?_ | refine wo_some ?_ | refine we_slice ?_ | refine we_call ?_ | refine we_c ?_ | refine wt_b ?_ | refine wt_and ?_ | refine wt_or ?_ | refine wt_not ?_ | refine wt_yes ?_ | refine wp_seq ?_ | refine wp_if ?_ | refine wp_ret ?_ | refine wp_drop ?_ | refine wp_set ?_ | refine wp_store ?_ | refine wp_asgP ?_ | refine wp_par2 ?_ | refine wp_par3 ?_ | refine wp_next ?_ | refine wp_raise ?_ | refine wp_retN ?_ | refine wx_of ?_ | refine wxs_nil ?_ | refine wxs_cons ?_ | refine wx_tup ?_ | refine wx_if ?_ | refine wx_call ?_ | refine wx_callX ?_ | refine wp_retX ?_ | refine wp_dropX ?_ | refine ev_len rfl rfl ?_ | refine ⟨_, _, _, rfl, rfl, rfl, ?_⟩ | refine ⟨_, _, rfl, rfl, ?_⟩ | refine ⟨_, rfl, rfl, ?_⟩ | refine ⟨_, rfl, ?_⟩ | refine .inl ⟨_, rfl, ?_⟩ | refine .inr (.inl ⟨_, rfl, ?_⟩) | refine .inr (.inr ⟨_, _, rfl, rfl, ?_⟩) | refine .inr ⟨_, rfl, ?_⟩ | refine ⟨_, rfl, by first | decide | (simp; done), ?_⟩ | refine ev_args rfl ?_ | refine .inl ⟨_, _, rfl, ?_⟩ | refine .inr ⟨_, _, rfl, ?_⟩ | refine ev_par3 rfl ?_ | refine end_rt ⟨_, _, rfl, rfl, ?_⟩ | refine end_nx ⟨_, rfl, ?_⟩ | refine end_ex ⟨_, rfl, ?_⟩ | refine then_nx ?_ | refine then_rt ?_ | refine then_ex ?_ | refine turn_nx ?_ | refine turn_rt ?_ | refine b1 ?_ | refine b0 ?_ | refine ⟨_, _, _, rfl, rfl, mulD_int (mulOk_small (by decide) (by decide)), ?_⟩ | refine ⟨_, _, _, rfl, rfl, MB.ixA_P (by assumption), ?_⟩ | refine ⟨_, _, _, rfl, rfl, MB.stD_P (by first | assumption | omega), ?_⟩ | fail)
          show FR.ok (.val (.bl false)) [] = .ok (.val (.bl (decide (a ≤ n - 1) && (decide (b ≤ a) && decide (0 ≤ b))))) []
          rw [decide_eq_false h2, Bool.false_and, Bool.and_false]
      · repeat' (first | refine ⟨_, _, _, rfl, rfl, MB.getM_P _ _ _ _, ?_⟩ | refine we_im rfl ?_ | refine we_mu rfl ?_ | refine we_op ?_ | refine we_un ?_ | refine we_cb ?_ | refine we_cbS ?_ | refine we_frzV ?_ | refine wa_nil ?_ | refine wa_cons ?_ | refine we_tup ?_ | refine we_lst ?_ | refine we_newT ?_ | refine we_dis1 ?_ | refine we_meth ?_ | refine we_if ?_ | refine we_and ?_ | refine we_or ?_ | refine we_not ?_ | refine we_chain ?_ | refine we_chain3 ?_ | refine wo_none ?_ | refine wo_some ?_ | refine we_slice ?_ | refine we_call ?_ | refine we_c ?_ | refine wt_b ?_ | refine wt_and ?_ | refine wt_or ?_ | refine wt_not ?_ | refine wt_yes ?_ | refine wp_seq ?_ | refine wp_if ?_ | refine wp_ret ?_ | refine wp_drop ?_ | refine wp_set ?_ | refine wp_store ?_ | refine wp_asgP ?_ | refine wp_par2 ?_ | refine wp_par3 ?_ | refine wp_next ?_ | refine wp_raise ?_ | refine wp_retN ?_ | refine wx_of ?_ | refine wxs_nil ?_ | refine wxs_cons ?_ | refine wx_tup ?_ | refine wx_if ?_ | refine wx_call ?_ | refine wx_callX ?_ | refine wp_retX ?_ | refine wp_dropX ?_ | refine ev_len rfl rfl ?_ | refine ⟨_, _, _, rfl, rfl, rfl, ?_⟩ | refine ⟨_, _, rfl, rfl, ?_⟩ | refine ⟨_, rfl, rfl, ?_⟩ | refine ⟨_, rfl, ?_⟩ | refine .inl ⟨_, rfl, ?_⟩ | refine .inr (.inl ⟨_, rfl, ?_⟩) | refine .inr (.inr ⟨_, _, rfl, rfl, ?_⟩) | refine .inr ⟨_, rfl, ?_⟩ | refine ⟨_, rfl, by first | decide | (simp; done), ?_⟩ | refine ev_args rfl ?_ | refine .inl ⟨_, _, rfl, ?_⟩ | refine .inr ⟨_, _, rfl, ?_⟩ | refine ev_par3 rfl ?_ | refine end_rt ⟨_, _, rfl, rfl, ?_⟩ | refine end_nx ⟨_, rfl, ?_⟩ | refine end_ex ⟨_, rfl, ?_⟩ | refine then_nx ?_ | refine then_rt ?_ | refine then_ex ?_ | refine turn_nx ?_ | refine turn_rt ?_ | refine b1 ?_ | refine b0 ?_ | refine ⟨_, _, _, rfl, rfl, mulD_int (mulOk_small (by decide) (by decide)), ?_⟩ | refine ⟨_, _, _, rfl, rfl, MB.ixA_P (by assumption), ?_⟩ | refine ⟨_, _, _, rfl, rfl, MB.stD_P (by first | assumption | omega), ?_⟩ | fail)
        show FR.ok (.val (.bl false)) [] = .ok (.val (.bl (decide (a ≤ n - 1) && (decide (b ≤ a) && decide (0 ≤ b))))) []
        rw [decide_eq_false h1, Bool.false_and]
  · refine wt_or (wt_not (wt_b (we_un (we_im rfl ⟨_, _, rfl, rfl, _, rfl, b0 ?_⟩))))
    refine wt_or (wt_b (we_op (we_cb (wa_cons (we_im rfl (wa_nil ⟨_, _, rfl, rfl, we_c ⟨_, _, _, rfl, rfl, cmp_neD _ _, _, rfl, ?_⟩⟩))))))
    rw [show (!decide ((xs.length : Int) = 2)) = true by simp; omega]
    refine b1 ?_
    repeat' (first | refine ⟨_, _, _, rfl, rfl, MB.getM_P _ _ _ _, ?_⟩ | refine we_im rfl ?_ | refine we_mu rfl ?_ | refine we_op ?_ | refine we_un ?_ | refine we_cb ?_ | refine we_cbS ?_ | refine we_frzV ?_ | refine wa_nil ?_ | refine wa_cons ?_ | refine we_tup ?_ | refine we_lst ?_ | refine we_newT ?_ | refine we_dis1 ?_ | refine we_meth ?_ | refine we_if ?_ | refine we_and ?_ | refine we_or ?_ | refine we_not ?_ | refine we_chain ?_ | refine we_chain3 ?_ | refine wo_none ?_ | refine wo_some ?_ | refine we_slice ?_ | refine we_call ?_ | refine we_c ?_ | refine wt_b ?_ | refine wt_and ?_ | refine wt_or ?_ | refine wt_not ?_ | refine wt_yes ?_ | refine wp_seq ?_ | refine wp_if ?_ | refine wp_ret ?_ | refine wp_drop ?_ | refine wp_set ?_ | refine wp_store ?_ | refine wp_asgP ?_ | refine wp_par2 ?_ | refine wp_par3 ?_ | refine wp_next ?_ | refine wp_raise ?_ | refine wp_retN ?_ | refine wx_of ?_ | refine wxs_nil ?_ | refine wxs_cons ?_ | refine wx_tup ?_ | refine wx_if ?_ | refine wx_call ?_ | refine wx_callX ?_ | refine wp_retX ?_ | refine wp_dropX ?_ | refine ev_len rfl rfl ?_ | refine ⟨_, _, _, rfl, rfl, rfl, ?_⟩ | refine ⟨_, _, rfl, rfl, ?_⟩ | refine ⟨_, rfl, rfl, ?_⟩ | refine ⟨_, rfl, ?_⟩ | refine .inl ⟨_, rfl, ?_⟩ | refine .inr (.inl ⟨_, rfl, ?_⟩) | refine .inr (.inr ⟨_, _, rfl, rfl, ?_⟩) | refine .inr ⟨_, rfl, ?_⟩ | refine ⟨_, rfl, by first | decide | (simp; done), ?_⟩ | refine ev_args rfl ?_ | refine .inl ⟨_, _, rfl, ?_⟩ | refine .inr ⟨_, _, rfl, ?_⟩ | refine ev_par3 rfl ?_ | refine end_rt ⟨_, _, rfl, rfl, ?_⟩ | refine end_nx ⟨_, rfl, ?_⟩ | refine end_ex ⟨_, rfl, ?_⟩ | refine then_nx ?_ | refine then_rt ?_ | refine then_ex ?_ | refine turn_nx ?_ | refine turn_rt ?_ | refine b1 ?_ | refine b0 ?_ | refine ⟨_, _, _, rfl, rfl, mulD_int (mulOk_small (by decide) (by decide)), ?_⟩ | refine ⟨_, _, _, rfl, rfl, MB.ixA_P (by assumption), ?_⟩ | refine ⟨_, _, _, rfl, rfl, MB.stD_P (by first | assumption | omega), ?_⟩ | fail)
    rw [condL_len h2]
theorem law_is_condition_tup (n : Int) (xs : List D) (hl : xs.length ≤ 1000000) (h : plDs xs = true) : F_d21_law_is_condition w [.int n, .tup xs] = some (.ok (.val (.bl (condL n xs))) []) := by
  apply wf_eq
  unfold F_d21_law_is_condition m_d21_law_is_condition
  refine wf_run (wp_ret ?_)
  have ha := fun x hx => law_is_whole_pl w x (plDs_mem h x hx)
  refine we_and (we_un (we_im rfl ⟨_, _, rfl, rfl, _, rfl, b1 ?_⟩))
  by_cases h2 : xs.length = 2
  · obtain ⟨x, y, rfl⟩ := len2 h2
    refine we_and (we_op (we_cb (wa_cons (we_im rfl (wa_nil ⟨_, _, rfl, rfl, we_c ⟨_, _, _, rfl, rfl, cmp_eqD _ _, _, rfl, b1 ?_⟩⟩)))))
    refine we_and (we_cb (wa_cons (lc_all hl ha rfl (wa_nil ⟨_, _, rfl, rfl, _, rfl, ?_⟩))))
    have e : (List.all [isW x, isW y] id) = (isW x && isW y) := by simp
    show (_ : Prop) ∧ _
    cases hw : (isW x && isW y) with
    | false =>
      rw [show ([isW x, isW y] : List Bool).all id = false by rw [e]; exact hw]
      refine b0 ?_
      repeat' (first | refine ⟨_, _, _, rfl, rfl, MB.getM_P _ _ _ _, ?_⟩ | refine we_im rfl ?_ | refine we_mu rfl ?_ | refine we_op ?_ | refine we_un ?_ | refine we_cb ?_ | refine we_cbS ?_ | refine we_frzV ?_ | refine wa_nil ?_ | refine wa_cons ?_ | refine we_tup ?_ | refine we_lst ?_ | refine we_newT ?_ | refine we_dis1 ?_ | refine we_meth ?_ | refine we_if ?_ | refine we_and ?_ | refine we_or ?_ | refine we_not ?_ | refine we_chain ?_ | refine we_chain3 ?_ | refine wo_none ?_ | refine wo_some ?_ | refine we_slice ?_ | refine we_call ?_ | refine we_c ?_ | refine wt_b ?_ | refine wt_and ?_ | refine wt_or ?_ | refine wt_not ?_ | refine wt_yes ?_ | refine wp_seq ?_ | refine wp_if ?_ | refine wp_ret ?_ | refine wp_drop ?_ | refine wp_set ?_ | refine wp_store ?_ | refine wp_asgP ?_ | refine wp_par2 ?_ | refine wp_par3 ?_ | refine wp_next ?_ | refine wp_raise ?_ | refine wp_retN ?_ | refine wx_of ?_ | refine wxs_nil ?_ | refine wxs_cons ?_ | refine wx_tup ?_ | refine wx_if ?_ | refine wx_call ?_ | refine wx_callX ?_ | refine wp_retX ?_ | refine wp_dropX ?_ | refine ev_len rfl rfl ?_ | refine ⟨_, _, _, rfl, rfl, rfl, ?_⟩ | refine ⟨_, _, rfl, rfl, ?_⟩ | refine ⟨_, rfl, rfl, ?_⟩ | refine ⟨_, rfl, ?_⟩ | refine .inl ⟨_, rfl, ?_⟩ | refine .inr (.inl ⟨_, rfl, ?_⟩) | refine .inr (.inr ⟨_, _, rfl, rfl, ?_⟩) | refine .inr ⟨_, rfl, ?_⟩ | refine ⟨_, rfl, by first | decide | (simp; done), ?_⟩ | refine ev_args rfl ?_ | refine .inl ⟨_, _, rfl, ?_⟩ | refine .inr ⟨_, _, rfl, ?_⟩ | refine ev_par3 rfl ?_ | refine end_rt ⟨_, _, rfl, rfl, ?_⟩ | refine end_nx ⟨_, rfl, ?_⟩ | refine end_ex ⟨_, rfl, ?_⟩ | refine then_nx ?_ | refine then_rt ?_ | refine then_ex ?_ | refine turn_nx ?_ | refine turn_rt ?_ | refine b1 ?_ | refine b0 ?_ | refine ⟨_, _, _, rfl, rfl, mulD_int (mulOk_small (by decide) (by decide)), ?_⟩ | refine ⟨_, _, _, rfl, rfl, MB.ixA_P (by assumption), ?_⟩ | refine ⟨_, _, _, rfl, rfl, MB.stD_P (by first | assumption | omega), ?_⟩ | fail)
      rw [condL_not hw]
    | true =>
      rw [show ([isW x, isW y] : List Bool).all id = true by rw [e]; exact hw]
      refine b1 ?_
      obtain ⟨a, rfl⟩ := isW_ex (Bool.and_eq_true _ _ ▸ hw).1
      obtain ⟨b, rfl⟩ := isW_ex (Bool.and_eq_true _ _ ▸ hw).2
      repeat' (first | refine ⟨_, _, _, rfl, rfl, MB.getM_P _ _ _ _, ?_⟩ | refine we_im rfl ?_ | refine we_mu rfl ?_ | refine we_op ?_ | refine we_un ?_ | refine we_cb ?_ | refine we_cbS ?_ | refine we_frzV ?_ | refine wa_nil ?_ | refine wa_cons ?_ | refine we_tup ?_ | refine we_lst ?_ | refine we_newT ?_ | refine we_dis1 ?_ | refine we_meth ?_ | refine we_if ?_ | refine we_and ?_ | refine we_or ?_ | refine we_not ?_ | refine we_chain ?_ | refine we_chain3 ?_ | refine wo_none ?_ | refine wo_some ?_ | refine we_slice ?_ | refine we_call ?_ | refine we_c ?_ | refine wt_b ?_ | refine wt_and ?_ | refine wt_or ?_ | refine wt_not ?_ | refine wt_yes ?_ | refine wp_seq ?_ | refine wp_if ?_ | refine wp_ret ?_ | refine wp_drop ?_ | refine wp_set ?_ | refine wp_store ?_ | refine wp_asgP ?_ | refine wp_par2 ?_ | refine wp_par3 ?_ | refine wp_next ?_ | refine wp_raise ?_ | refine wp_retN ?_ | refine wx_of ?_ | refine wxs_nil ?_ | refine wxs_cons ?_ | refine wx_tup ?_ | refine wx_if ?_ | refine wx_call ?_ | refine wx_callX ?_ | refine wp_retX ?_ | refine wp_dropX ?_ | refine ev_len rfl rfl ?_ | refine ⟨_, _, _, rfl, rfl, rfl, ?_⟩ | refine ⟨_, _, rfl, rfl, ?_⟩ | refine ⟨_, rfl, rfl, ?_⟩ | refine ⟨_, rfl, ?_⟩ | refine .inl ⟨_, rfl, ?_⟩ | refine .inr (.inl ⟨_, rfl, ?_⟩) | refine .inr (.inr ⟨_, _, rfl, rfl, ?_⟩) | refine .inr ⟨_, rfl, ?_⟩ | refine ⟨_, rfl, by first | decide | (simp; done), ?_⟩ | refine ev_args rfl ?_ | refine .inl ⟨_, _, rfl, ?_⟩ | refine .inr ⟨_, _, rfl, ?_⟩ | refine ev_par3 rfl ?_ | refine end_rt ⟨_, _, rfl, rfl, ?_⟩ | refine end_nx ⟨_, rfl, ?_⟩ | refine end_ex ⟨_, rfl, ?_⟩ | refine then_nx ?_ | refine then_rt ?_ | refine then_ex ?_ | refine turn_nx ?_ | refine turn_rt ?_ | refine b1 ?_ | refine b0 ?_ | refine ⟨_, _, _, rfl, rfl, mulD_int (mulOk_small (by decide) (by decide)), ?_⟩ | refine ⟨_, _, _, rfl, rfl, MB.ixA_P (by assumption), ?_⟩ | refine ⟨_, _, _, rfl, rfl, MB.stD_P (by first | assumption | omega), ?_⟩ | fail)
      refine bt (fun h1 => ?_) (fun h1 => ?_)
      · repeat' (first | refine ⟨_, _, _, rfl, rfl, MB.getM_P _ _ _ _, ?_⟩ | refine we_im rfl ?_ | refine we_mu rfl ?_ | refine we_op ?_ | refine we_un ?_ | refine we_cb ?_ | refine we_cbS ?_ | refine we_frzV ?_ | refine wa_nil ?_ | refine wa_cons ?_ | refine we_tup ?_ | refine we_lst ?_ | refine we_newT ?_ | refine we_dis1 ?_ | refine we_meth ?_ | refine we_if ?_ | refine we_and ?_ | refine we_or ?_ | refine we_not ?_ | refine we_chain ?_ | refine we_chain3 ?_ | refine wo_none ?_ | refine wo_some ?_ | refine we_slice ?_ | refine we_call ?_ | refine we_c ?_ | refine wt_b ?_ | refine wt_and ?_ | refine wt_or ?_ | refine wt_not ?_ | refine wt_yes ?_ | refine wp_seq ?_ | refine wp_if ?_ | refine wp_ret ?_ | refine wp_drop ?_ | refine wp_set ?_ | refine wp_store ?_ | refine wp_asgP ?_ | refine wp_par2 ?_ | refine wp_par3 ?_ | refine wp_next ?_ | refine wp_raise ?_ | refine wp_retN ?_ | refine wx_of ?_ | refine wxs_nil ?_ | refine wxs_cons ?_ | refine wx_tup ?_ | refine wx_if ?_ | refine wx_call ?_ | refine wx_callX ?_ | refine wp_retX ?_ | refine wp_dropX ?_ | refine ev_len rfl rfl ?_ | refine ⟨_, _, _, rfl, rfl, rfl, ?_⟩ | refine ⟨_, _, rfl, rfl, ?_⟩ | refine ⟨_, rfl, rfl, ?_⟩ | refine ⟨_, rfl, ?_⟩ | refine .inl ⟨_, rfl, ?_⟩ | refine .inr (.inl ⟨_, rfl, ?_⟩) | refine .inr (.inr ⟨_, _, rfl, rfl, ?_⟩) | refine .inr ⟨_, rfl, ?_⟩ | refine ⟨_, rfl, by first | decide | (simp; done), ?_⟩ | refine ev_args rfl ?_ | refine .inl ⟨_, _, rfl, ?_⟩ | refine .inr ⟨_, _, rfl, ?_⟩ | refine ev_par3 rfl ?_ | refine end_rt ⟨_, _, rfl, rfl, ?_⟩ | refine end_nx ⟨_, rfl, ?_⟩ | refine end_ex ⟨_, rfl, ?_⟩ | refine then_nx ?_ | refine then_rt ?_ | refine then_ex ?_ | refine turn_nx ?_ | refine turn_rt ?_ | refine b1 ?_ | refine b0 ?_ | refine ⟨_, _, _, rfl, rfl, mulD_int (mulOk_small (by decide) (by decide)), ?_⟩ | refine ⟨_, _, _, rfl, rfl, MB.ixA_P (by assumption), ?_⟩ | refine ⟨_, _, _, rfl, rfl, MB.stD_P (by first | assumption | omega), ?_⟩ | fail)
        refine bt (fun h2 => ?_) (fun h2 => ?_)
        · repeat' (first | refine ⟨_, _, _, rfl, rfl, MB.getM_P _ _ _ _, ?_⟩ | refine we_im rfl ?_ | refine we_mu rfl ?_ | refine we_op ?_ | refine we_un ?_ | refine we_cb ?_ | refine we_cbS ?_ | refine we_frzV ?_ | refine wa_nil ?_ | refine wa_cons ?_ | refine we_tup ?_ | refine we_lst ?_ | refine we_newT ?_ | refine we_dis1 ?_ | refine we_meth ?_ | refine we_if ?_ | refine we_and ?_ | refine we_or ?_ | refine we_not ?_ | refine we_chain ?_ | refine we_chain3 ?_ | refine wo_none ?_ | refine wo_some ?_ | refine we_slice ?_ | refine we_call ?_ | refine we_c ?_ | refine wt_b ?_ | refine wt_and ?_ | refine wt_or ?_ | refine wt_not ?_ | refine wt_yes ?_ | refine wp_seq ?_ | refine wp_if ?_ | refine wp_ret ?_ | refine wp_drop ?_ | refine wp_set ?_ | refine wp_store ?_ | refine wp_asgP ?_ | refine wp_par2 ?_ | refine wp_par3 ?_ | refine wp_next ?_ | refine wp_raise ?_ | refine wp_retN ?_ | refine wx_of ?_ | refine wxs_nil ?_ | refine wxs_cons ?_ | refine wx_tup ?_ | refine wx_if ?_ | refine wx_call ?_ | refine wx_callX ?_ | refine wp_retX ?_ | refine wp_dropX ?_ | refine ev_len rfl rfl ?_ | refine ⟨_, _, _, rfl, rfl, rfl, ?_⟩ | refine ⟨_, _, rfl, rfl, ?_⟩ | refine ⟨_, rfl, rfl, ?_⟩ | refine ⟨_, rfl, ?_⟩ | refine .inl ⟨_, rfl, ?_⟩ | refine .inr (.inl ⟨_, rfl, ?_⟩) | refine .inr (.inr ⟨_, _, rfl, rfl, ?_⟩) | refine .inr ⟨_, rfl, ?_⟩ | refine ⟨_, rfl, by first | decide | (simp; done), ?_⟩ | refine ev_args rfl ?_ | refine .inl ⟨_, _, rfl, ?_⟩ | refine .inr ⟨_, _, rfl, ?_⟩ | refine ev_par3 rfl ?_ | refine end_rt ⟨_, _, rfl, rfl, ?_⟩ | refine end_nx ⟨_, rfl, ?_⟩ | refine end_ex ⟨_, rfl, ?_⟩ | refine then_nx ?_ | refine then_rt ?_ | refine then_ex ?_ | refine turn_nx ?_ | refine turn_rt ?_ | refine b1 ?_ | refine b0 ?_ | refine ⟨_, _, _, rfl, rfl, mulD_int (mulOk_small (by decide) (by decide)), ?_⟩ | refine ⟨_, _, _, rfl, rfl, MB.ixA_P (by assumption), ?_⟩ | refine ⟨_, _, _, rfl, rfl, MB.stD_P (by first | assumption | omega), ?_⟩ | fail)
          show FR.ok (.val (.bl (decide ((0:Int) ≤ b)))) [] = .ok (.val (.bl (decide (a ≤ n - 1) && (decide (b ≤ a) && decide (0 ≤ b))))) []
          rw [decide_eq_true h1, decide_eq_true h2]
          rfl
        · repeat' (first | refine ⟨_, _, _, rfl, rfl, MB.getM_P _ _ _ _, ?_⟩ | refine we_im rfl ?_ | refine we_mu rfl ?_ | refine we_op ?_ | refine we_un ?_ | refine we_cb ?_ | refine we_cbS ?_ | refine we_frzV ?_ | refine wa_nil ?_ | refine wa_cons ?_ | refine we_tup ?_ | refine we_lst ?_ | refine we_newT ?_ | refine we_dis1 ?_ | refine we_meth ?_ | refine we_if ?_ | refine we_and ?_ | refine we_or ?_ | refine we_not ?_ | refine we_chain ?_ | refine we_chain3 ?_ | refine wo_none ?_ | refine wo_some ?_ | refine we_slice ?_ | refine we_call ?_ | refine we_c ?_ | refine wt_b ?_ | refine wt_and ?_ | refine wt_or ?_ | refine wt_not ?_ | refine wt_yes ?_ | refine wp_seq ?_ | refine wp_if ?_ | refine wp_ret ?_ | refine wp_drop ?_ | refine wp_set ?_ | refine wp_store ?_ | refine wp_asgP ?_ | refine wp_par2 ?_ | refine wp_par3 ?_ | refine wp_next ?_ | refine wp_raise ?_ | refine wp_retN ?_ | refine wx_of ?_ | refine wxs_nil ?_ | refine wxs_cons ?_ | refine wx_tup ?_ | refine wx_if ?_ | refine wx_call ?_ | refine wx_callX ?_ | refine wp_retX ?_ | refine wp_dropX ?_ | refine ev_len rfl rfl ?_ | refine ⟨_, _, _, rfl, rfl, rfl, ?_⟩ | refine ⟨_, _, rfl, rfl, ?_⟩ | refine ⟨_, rfl, rfl, ?_⟩ | refine ⟨_, rfl, ?_⟩ | refine .inl ⟨_, rfl, ?_⟩ | refine .inr (.inl ⟨_, rfl, ?_⟩) | refine .inr (.inr ⟨_, _, rfl, rfl, ?_⟩) | refine .inr ⟨_, rfl, ?_⟩ | refine ⟨_, rfl, by first | decide | (simp; done), ?_⟩ | refine ev_args rfl ?_ | refine .inl ⟨_, _, rfl, ?_⟩ | refine .inr ⟨_, _, rfl, ?_⟩ | refine ev_par3 rfl ?_ | refine end_rt ⟨_, _, rfl, rfl, ?_⟩ | refine end_nx ⟨_, rfl, ?_⟩ | refine end_ex ⟨_, rfl, ?_⟩ | refine then_nx ?_ | refine then_rt ?_ | refine then_ex ?_ | refine turn_nx ?_ | refine turn_rt ?_ | refine b1 ?_ | refine b0 ?_ | refine ⟨_, _, _, rfl, rfl, mulD_int (mulOk_small (by decide) (by decide)), ?_⟩ | refine ⟨_, _, _, rfl, rfl, MB.ixA_P (by assumption), ?_⟩ | refine ⟨_, _, _, rfl, rfl, MB.stD_P (by first | assumption | omega), ?_⟩ | fail)
          show FR.ok (.val (.bl false)) [] = .ok (.val (.bl (decide (a ≤ n - 1) && (decide (b ≤ a) && decide (0 ≤ b))))) []
          rw [decide_eq_false h2, Bool.false_and, Bool.and_false]
      · repeat' (first | refine ⟨_, _, _, rfl, rfl, MB.getM_P _ _ _ _, ?_⟩ | refine we_im rfl ?_ | refine we_mu rfl ?_ | refine we_op ?_ | refine we_un ?_ | refine we_cb ?_ | refine we_cbS ?_ | refine we_frzV ?_ | refine wa_nil ?_ | refine wa_cons ?_ | refine we_tup ?_ | refine we_lst ?_ | refine we_newT ?_ | refine we_dis1 ?_ | refine we_meth ?_ | refine we_if ?_ | refine we_and ?_ | refine we_or ?_ | refine we_not ?_ | refine we_chain ?_ | refine we_chain3 ?_ | refine wo_none ?_ | refine wo_some ?_ | refine we_slice ?_ | refine we_call ?_ | refine we_c ?_ | refine wt_b ?_ | refine wt_and ?_ | refine wt_or ?_ | refine wt_not ?_ | refine wt_yes ?_ | refine wp_seq ?_ | refine wp_if ?_ | refine wp_ret ?_ | refine wp_drop ?_ | refine wp_set ?_ | refine wp_store ?_ | refine wp_asgP ?_ | refine wp_par2 ?_ | refine wp_par3 ?_ | refine wp_next ?_ | refine wp_raise ?_ | refine wp_retN ?_ | refine wx_of ?_ | refine wxs_nil ?_ | refine wxs_cons ?_ | refine wx_tup ?_ | refine wx_if ?_ | refine wx_call ?_ | refine wx_callX ?_ | refine wp_retX ?_ | refine wp_dropX ?_ | refine ev_len rfl rfl ?_ | refine ⟨_, _, _, rfl, rfl, rfl, ?_⟩ | refine ⟨_, _, rfl, rfl, ?_⟩ | refine ⟨_, rfl, rfl, ?_⟩ | refine ⟨_, rfl, ?_⟩ | refine .inl ⟨_, rfl, ?_⟩ | refine .inr (.inl ⟨_, rfl, ?_⟩) | refine .inr (.inr ⟨_, _, rfl, rfl, ?_⟩) | refine .inr ⟨_, rfl, ?_⟩ | refine ⟨_, rfl, by first | decide | (simp; done), ?_⟩ | refine ev_args rfl ?_ | refine .inl ⟨_, _, rfl, ?_⟩ | refine .inr ⟨_, _, rfl, ?_⟩ | refine ev_par3 rfl ?_ | refine end_rt ⟨_, _, rfl, rfl, ?_⟩ | refine end_nx ⟨_, rfl, ?_⟩ | refine end_ex ⟨_, rfl, ?_⟩ | refine then_nx ?_ | refine then_rt ?_ | refine then_ex ?_ | refine turn_nx ?_ | refine turn_rt ?_ | refine b1 ?_ | refine b0 ?_ | refine ⟨_, _, _, rfl, rfl, mulD_int (mulOk_small (by decide) (by decide)), ?_⟩ | refine ⟨_, _, _, rfl, rfl, MB.ixA_P (by assumption), ?_⟩ | refine ⟨_, _, _, rfl, rfl, MB.stD_P (by first | assumption | omega), ?_⟩ | fail)
        show FR.ok (.val (.bl false)) [] = .ok (.val (.bl (decide (a ≤ n - 1) && (decide (b ≤ a) && decide (0 ≤ b))))) []
        rw [decide_eq_false h1, Bool.false_and]
  · refine we_and (we_op (we_cb (wa_cons (we_im rfl (wa_nil ⟨_, _, rfl, rfl, we_c ⟨_, _, _, rfl, rfl, cmp_eqD _ _, _, rfl, ?_⟩⟩)))))
    rw [show (decide ((xs.length : Int) = 2)) = false by simp; omega]
    refine b0 ?_
    repeat' (first | refine ⟨_, _, _, rfl, rfl, MB.getM_P _ _ _ _, ?_⟩ | refine we_im rfl ?_ | refine we_mu rfl ?_ | refine we_op ?_ | refine we_un ?_ | refine we_cb ?_ | refine we_cbS ?_ | refine we_frzV ?_ | refine wa_nil ?_ | refine wa_cons ?_ | refine we_tup ?_ | refine we_lst ?_ | refine we_newT ?_ | refine we_dis1 ?_ | refine we_meth ?_ | refine we_if ?_ | refine we_and ?_ | refine we_or ?_ | refine we_not ?_ | refine we_chain ?_ | refine we_chain3 ?_ | refine wo_none ?_ | refine wo_some ?_ | refine we_slice ?_ | refine we_call ?_ | refine we_c ?_ | refine wt_b ?_ | refine wt_and ?_ | refine wt_or ?_ | refine wt_not ?_ | refine wt_yes ?_ | refine wp_seq ?_ | refine wp_if ?_ | refine wp_ret ?_ | refine wp_drop ?_ | refine wp_set ?_ | refine wp_store ?_ | refine wp_asgP ?_ | refine wp_par2 ?_ | refine wp_par3 ?_ | refine wp_next ?_ | refine wp_raise ?_ | refine wp_retN ?_ | refine wx_of ?_ | refine wxs_nil ?_ | refine wxs_cons ?_ | refine wx_tup ?_ | refine wx_if ?_ | refine wx_call ?_ | refine wx_callX ?_ | refine wp_retX ?_ | refine wp_dropX ?_ | refine ev_len rfl rfl ?_ | refine ⟨_, _, _, rfl, rfl, rfl, ?_⟩ | refine ⟨_, _, rfl, rfl, ?_⟩ | refine ⟨_, rfl, rfl, ?_⟩ | refine ⟨_, rfl, ?_⟩ | refine .inl ⟨_, rfl, ?_⟩ | refine .inr (.inl ⟨_, rfl, ?_⟩) | refine .inr (.inr ⟨_, _, rfl, rfl, ?_⟩) | refine .inr ⟨_, rfl, ?_⟩ | refine ⟨_, rfl, by first | decide | (simp; done), ?_⟩ | refine ev_args rfl ?_ | refine .inl ⟨_, _, rfl, ?_⟩ | refine .inr ⟨_, _, rfl, ?_⟩ | refine ev_par3 rfl ?_ | refine end_rt ⟨_, _, rfl, rfl, ?_⟩ | refine end_nx ⟨_, rfl, ?_⟩ | refine end_ex ⟨_, rfl, ?_⟩ | refine then_nx ?_ | refine then_rt ?_ | refine then_ex ?_ | refine turn_nx ?_ | refine turn_rt ?_ | refine b1 ?_ | refine b0 ?_ | refine ⟨_, _, _, rfl, rfl, mulD_int (mulOk_small (by decide) (by decide)), ?_⟩ | refine ⟨_, _, _, rfl, rfl, MB.ixA_P (by assumption), ?_⟩ | refine ⟨_, _, _, rfl, rfl, MB.stD_P (by first | assumption | omega), ?_⟩ | fail)
    rw [condL_len h2]
theorem condB_not {n : Int} {d : D} (h : isT d = false) : condB n d = false := by
  cases d <;> first | rfl | (exfalso; simp [isT] at h; done)
theorem plD_tup {xs : List D} (h : plD (.tup xs) = true) : xs.length ≤ 1000000 ∧ plDs xs = true := by
  simpa [plD] using h
theorem is_condition_ok (n : Int) (d : D) (h : plD d = true) : F_d2_is_condition w [.int n, d] = some (.ok (.val (.bl (condB n d))) []) := by
  cases d <;> first
    | (exfalso; simp [plD] at h; done)
    | exact is_condition_tup w n _ (plD_tup h).1 (plD_tup h).2
    | (apply wf_eq
       unfold F_d2_is_condition m_d2_is_condition
       refine wf_run ?_
       repeat' (first | refine ⟨_, _, _, rfl, rfl, MB.getM_P _ _ _ _, ?_⟩ | refine we_im rfl ?_ | refine we_mu rfl ?_ | refine we_op ?_ | refine we_un ?_ | refine we_cb ?_ | refine we_cbS ?_ | refine we_frzV ?_ | refine wa_nil ?_ | refine wa_cons ?_ | refine we_tup ?_ | refine we_lst ?_ | refine we_newT ?_ | refine we_dis1 ?_ | refine we_meth ?_ | refine we_if ?_ | refine we_and ?_ | refine we_or ?_ | refine we_not ?_ | refine we_chain ?_ | refine we_chain3 ?_ | refine wo_none ?_ | refine wo_some ?_ | refine we_slice ?_ | refine we_call ?_ | refine we_c ?_ | refine wt_b ?_ | refine wt_and ?_ | refine wt_or ?_ | refine wt_not ?_ | refine wt_yes ?_ | refine wp_seq ?_ | refine wp_if ?_ | refine wp_ret ?_ | refine wp_drop ?_ | refine wp_set ?_ | refine wp_store ?_ | refine wp_asgP ?_ | refine wp_par2 ?_ | refine wp_par3 ?_ | refine wp_next ?_ | refine wp_raise ?_ | refine wp_retN ?_ | refine wx_of ?_ | refine wxs_nil ?_ | refine wxs_cons ?_ | refine wx_tup ?_ | refine wx_if ?_ | refine wx_call ?_ | refine wx_callX ?_ | refine wp_retX ?_ | refine wp_dropX ?_ | refine ev_len rfl rfl ?_ | refine ⟨_, _, _, rfl, rfl, rfl, ?_⟩ | refine ⟨_, _, rfl, rfl, ?_⟩ | refine ⟨_, rfl, rfl, ?_⟩ | refine ⟨_, rfl, ?_⟩ | refine .inl ⟨_, rfl, ?_⟩ | refine .inr (.inl ⟨_, rfl, ?_⟩) | refine .inr (.inr ⟨_, _, rfl, rfl, ?_⟩) | refine .inr ⟨_, rfl, ?_⟩ | refine ⟨_, rfl, by first | decide | (simp; done), ?_⟩ | refine ev_args rfl ?_ | refine .inl ⟨_, _, rfl, ?_⟩ | refine .inr ⟨_, _, rfl, ?_⟩ | refine ev_par3 rfl ?_ | refine end_rt ⟨_, _, rfl, rfl, ?_⟩ | refine end_nx ⟨_, rfl, ?_⟩ | refine end_ex ⟨_, rfl, ?_⟩ | refine then_nx ?_ | refine then_rt ?_ | refine then_ex ?_ | refine turn_nx ?_ | refine turn_rt ?_ | refine b1 ?_ | refine b0 ?_ | refine ⟨_, _, _, rfl, rfl, mulD_int (mulOk_small (by decide) (by decide)), ?_⟩ | refine ⟨_, _, _, rfl, rfl, MB.ixA_P (by assumption), ?_⟩ | refine ⟨_, _, _, rfl, rfl, MB.stD_P (by first | assumption | omega), ?_⟩ | fail)
       rfl)
theorem law_is_condition_ok (n : Int) (d : D) (h : plD d = true) : F_d21_law_is_condition w [.int n, d] = some (.ok (.val (.bl (condB n d))) []) := by
  cases d <;> first
    | (exfalso; simp [plD] at h; done)
    | exact law_is_condition_tup w n _ (plD_tup h).1 (plD_tup h).2
    | (apply wf_eq
       unfold F_d21_law_is_condition m_d21_law_is_condition
       refine wf_run ?_
       repeat' (first | refine ⟨_, _, _, rfl, rfl, MB.getM_P _ _ _ _, ?_⟩ | refine we_im rfl ?_ | refine we_mu rfl ?_ | refine we_op ?_ | refine we_un ?_ | refine we_cb ?_ | refine we_cbS ?_ | refine we_frzV ?_ | refine wa_nil ?_ | refine wa_cons ?_ | refine we_tup ?_ | refine we_lst ?_ | refine we_newT ?_ | refine we_dis1 ?_ | refine we_meth ?_ | refine we_if ?_ | refine we_and ?_ | refine we_or ?_ | refine we_not ?_ | refine we_chain ?_ | refine we_chain3 ?_ | refine wo_none ?_ | refine wo_some ?_ | refine we_slice ?_ | refine we_call ?_ | refine we_c ?_ | refine wt_b ?_ | refine wt_and ?_ | refine wt_or ?_ | refine wt_not ?_ | refine wt_yes ?_ | refine wp_seq ?_ | refine wp_if ?_ | refine wp_ret ?_ | refine wp_drop ?_ | refine wp_set ?_ | refine wp_store ?_ | refine wp_asgP ?_ | refine wp_par2 ?_ | refine wp_par3 ?_ | refine wp_next ?_ | refine wp_raise ?_ | refine wp_retN ?_ | refine wx_of ?_ | refine wxs_nil ?_ | refine wxs_cons ?_ | refine wx_tup ?_ | refine wx_if ?_ | refine wx_call ?_ | refine wx_callX ?_ | refine wp_retX ?_ | refine wp_dropX ?_ | refine ev_len rfl rfl ?_ | refine ⟨_, _, _, rfl, rfl, rfl, ?_⟩ | refine ⟨_, _, rfl, rfl, ?_⟩ | refine ⟨_, rfl, rfl, ?_⟩ | refine ⟨_, rfl, ?_⟩ | refine .inl ⟨_, rfl, ?_⟩ | refine .inr (.inl ⟨_, rfl, ?_⟩) | refine .inr (.inr ⟨_, _, rfl, rfl, ?_⟩) | refine .inr ⟨_, rfl, ?_⟩ | refine ⟨_, rfl, by first | decide | (simp; done), ?_⟩ | refine ev_args rfl ?_ | refine .inl ⟨_, _, rfl, ?_⟩ | refine .inr ⟨_, _, rfl, ?_⟩ | refine ev_par3 rfl ?_ | refine end_rt ⟨_, _, rfl, rfl, ?_⟩ | refine end_nx ⟨_, rfl, ?_⟩ | refine end_ex ⟨_, rfl, ?_⟩ | refine then_nx ?_ | refine then_rt ?_ | refine then_ex ?_ | refine turn_nx ?_ | refine turn_rt ?_ | refine b1 ?_ | refine b0 ?_ | refine ⟨_, _, _, rfl, rfl, mulD_int (mulOk_small (by decide) (by decide)), ?_⟩ | refine ⟨_, _, _, rfl, rfl, MB.ixA_P (by assumption), ?_⟩ | refine ⟨_, _, _, rfl, rfl, MB.stD_P (by first | assumption | omega), ?_⟩ | fail)
       rfl)
end K56

set_option Elab.async false
set_option linter.all false
set_option maxRecDepth 100000
set_option maxHeartbeats 4000000
namespace K56
open PySem PySem.Spec PyProof.Rows L2 DL MB
variable (w : World)
/-! sums among plain data -/
def nzD : D → Bool
  | .int v => !decide (v = 0)
  | _ => false
def pairL (n : Int) : List D → Bool
  | [x, y] => condB n x && (isW y && nzD y)
  | _ => false
def pairB (n : Int) : D → Bool
  | .tup xs => pairL n xs
  | _ => false
theorem pairL_len {n : Int} {xs : List D} (h : xs.length ≠ 2) : pairL n xs = false := by
  unfold pairL
  split
  · exact (h rfl).elim
  · rfl
def pE (x : P2 × Int) : D := .tup [kD x.1, .int x.2]
def ltB : D → D → Bool
  | .tup (x :: _), .tup (y :: _) => (ltD x y).getD false
  | _, _ => false
def srt : List D → Bool
  | x :: y :: r => ltB x y && srt (y :: r)
  | _ => true
theorem condB_ex {n : Int} {d : D} (h : condB n d = true) : ∃ k : P2, d = kD k ∧ Vk n k := by
  cases d with
  | tup xs =>
    simp only [condB, condL] at h
    split at h
    · rename_i a b e
      have hl := intsD_len e
      obtain ⟨x, y, rfl⟩ := len2 hl.symm
      cases x <;> try (simp [intsD] at e; done)
      cases y <;> try (simp [intsD] at e; done)
      simp [intsD] at e
      obtain ⟨rfl, rfl⟩ := e
      simp at h
      exact ⟨(_, _), rfl, by simp [Vk]; omega⟩
    · cases h
  | _ => cases h
theorem pairB_ex {n : Int} {d : D} (h : pairB n d = true) : ∃ x : P2 × Int, d = pE x ∧ Vk n x.1 ∧ x.2 ≠ 0 := by
  cases d with
  | tup xs =>
    simp only [pairB, pairL] at h
    split at h
    · rename_i x y
      simp only [Bool.and_eq_true] at h
      obtain ⟨k, rfl, hk⟩ := condB_ex h.1
      obtain ⟨v, rfl⟩ := isW_ex h.2.1
      exact ⟨(k, v), rfl, hk, by simpa [nzD] using h.2.2⟩
    · cases h
  | _ => cases h
theorem pairs_ex {n : Int} : ∀ {xs : List D}, xs.all (pairB n) = true → ∃ l : AL, xs = l.map pE ∧ ∀ x ∈ l, Vk n x.1 ∧ x.2 ≠ 0
  | [], _ => ⟨[], rfl, fun _ h => nomatch h⟩
  | d :: r, h => by
    simp only [List.all_cons, Bool.and_eq_true] at h
    obtain ⟨x, rfl, hx⟩ := pairB_ex h.1
    obtain ⟨l, rfl, hl⟩ := pairs_ex h.2
    refine ⟨x :: l, rfl, fun y hy => ?_⟩
    rcases List.mem_cons.mp hy with rfl | hy
    · exact hx
    · exact hl y hy
def ltP (a b : P2) : Bool := HT.lexLt [a.1, a.2] [b.1, b.2]
theorem ltD_kD (a b : P2) : ltD (kD a) (kD b) = some (ltP a b) := rfl
theorem ltB_pE (x y : P2 × Int) : ltB (pE x) (pE y) = ltP x.1 y.1 := rfl
/-! the turn's test of a pair -/
theorem srt_snoc : ∀ (q : List D) (z x : D), srt (q ++ [z, x]) = (srt (q ++ [z]) && ltB z x)
  | [], z, x => by simp [srt]
  | [a], z, x => by simp [srt]
  | a :: b :: r, z, x => by
    have := srt_snoc (b :: r) z x
    simp only [List.cons_append] at this ⊢
    simp only [srt]
    rw [this, Bool.and_assoc]
theorem srt_bad : ∀ (q r : List D) (z x : D), ltB z x = false → srt (q ++ z :: x :: r) = false
  | [], r, z, x, h => by simp [srt, h]
  | [a], r, z, x, h => by simp [srt, h]
  | a :: b :: q, r, z, x, h => by
    have := srt_bad (b :: q) r z x h
    simp only [List.cons_append] at this ⊢
    simp only [srt]
    rw [this, Bool.and_false]
end K56

set_option Elab.async false
set_option linter.all false
set_option maxRecDepth 100000
set_option maxHeartbeats 4000000
namespace K56
open PySem PySem.Spec PyProof.Rows L2 DL MB
variable (w : World)
def spB : D → Bool
  | .int n => decide (2 ≤ n) && decide (n ≤ 8)
  | _ => false
theorem is_space_ok (d : D) (h : plD d = true) : F_d1_is_space w [d] = some (.ok (.val (.bl (spB d))) []) := by
  cases d with
  | int n =>
    apply wf_eq
    unfold F_d1_is_space m_d1_is_space
    refine wf_run (wp_ret (we_and (we_call (wa_cons (we_im rfl (wa_nil (ev_args rfl (ev_funV (is_integer_pl w (.int n) rfl) ⟨_, rfl, b1 ?_⟩))))))))
    refine we_chain (we_c (we_im rfl ⟨_, _, _, rfl, rfl, rfl, ?_⟩))
    refine bt (fun h1 => ?_) (fun h1 => ?_)
    · repeat' (first | refine ⟨_, _, _, rfl, rfl, MB.getM_P _ _ _ _, ?_⟩ | refine we_im rfl ?_ | refine we_mu rfl ?_ | refine we_op ?_ | refine we_un ?_ | refine we_cb ?_ | refine we_cbS ?_ | refine we_frzV ?_ | refine wa_nil ?_ | refine wa_cons ?_ | refine we_tup ?_ | refine we_lst ?_ | refine we_newT ?_ | refine we_dis1 ?_ | refine we_meth ?_ | refine we_if ?_ | refine we_and ?_ | refine we_or ?_ | refine we_not ?_ | refine we_chain ?_ | refine we_chain3 ?_ | refine wo_none ?_ | refine wo_some ?_ | refine we_slice ?_ | refine we_call ?_ | refine we_c ?_ | refine wt_b ?_ | refine wt_and ?_ | refine wt_or ?_ | refine wt_not ?_ | refine wt_yes ?_ | refine wp_seq ?_ | refine wp_if ?_ | refine wp_ret ?_ | refine wp_drop ?_ | refine wp_set ?_ | refine wp_store ?_ | refine wp_asgP ?_ | refine wp_par2 ?_ | refine wp_par3 ?_ | refine wp_next ?_ | refine wp_raise ?_ | refine wp_retN ?_ | refine wx_of ?_ | refine wxs_nil ?_ | refine wxs_cons ?_ | refine wx_tup ?_ | refine wx_if ?_ | refine wx_call ?_ | refine wx_callX ?_ | refine wp_retX ?_ | refine wp_dropX ?_ | refine ev_len rfl rfl ?_ | refine ⟨_, _, _, rfl, rfl, rfl, ?_⟩ | refine ⟨_, _, rfl, rfl, ?_⟩ | refine ⟨_, rfl, rfl, ?_⟩ | refine ⟨_, rfl, ?_⟩ | refine .inl ⟨_, rfl, ?_⟩ | refine .inr (.inl ⟨_, rfl, ?_⟩) | refine .inr (.inr ⟨_, _, rfl, rfl, ?_⟩) | refine .inr ⟨_, rfl, ?_⟩ | refine ⟨_, rfl, by first | decide | (simp; done), ?_⟩ | refine ev_args rfl ?_ | refine .inl ⟨_, _, rfl, ?_⟩ | refine .inr ⟨_, _, rfl, ?_⟩ | refine ev_par3 rfl ?_ | refine end_rt ⟨_, _, rfl, rfl, ?_⟩ | refine end_nx ⟨_, rfl, ?_⟩ | refine end_ex ⟨_, rfl, ?_⟩ | refine then_nx ?_ | refine then_rt ?_ | refine then_ex ?_ | refine turn_nx ?_ | refine turn_rt ?_ | refine b1 ?_ | refine b0 ?_ | refine ⟨_, _, _, rfl, rfl, mulD_int (mulOk_small (by decide) (by decide)), ?_⟩ | refine ⟨_, _, _, rfl, rfl, MB.ixA_P (by assumption), ?_⟩ | refine ⟨_, _, _, rfl, rfl, MB.stD_P (by first | assumption | omega), ?_⟩ | fail)
      show FR.ok (.val (.bl (decide (n ≤ 8)))) [] = .ok (.val (.bl (decide (2 ≤ n) && decide (n ≤ 8)))) []
      rw [decide_eq_true h1]; rfl
    · repeat' (first | refine ⟨_, _, _, rfl, rfl, MB.getM_P _ _ _ _, ?_⟩ | refine we_im rfl ?_ | refine we_mu rfl ?_ | refine we_op ?_ | refine we_un ?_ | refine we_cb ?_ | refine we_cbS ?_ | refine we_frzV ?_ | refine wa_nil ?_ | refine wa_cons ?_ | refine we_tup ?_ | refine we_lst ?_ | refine we_newT ?_ | refine we_dis1 ?_ | refine we_meth ?_ | refine we_if ?_ | refine we_and ?_ | refine we_or ?_ | refine we_not ?_ | refine we_chain ?_ | refine we_chain3 ?_ | refine wo_none ?_ | refine wo_some ?_ | refine we_slice ?_ | refine we_call ?_ | refine we_c ?_ | refine wt_b ?_ | refine wt_and ?_ | refine wt_or ?_ | refine wt_not ?_ | refine wt_yes ?_ | refine wp_seq ?_ | refine wp_if ?_ | refine wp_ret ?_ | refine wp_drop ?_ | refine wp_set ?_ | refine wp_store ?_ | refine wp_asgP ?_ | refine wp_par2 ?_ | refine wp_par3 ?_ | refine wp_next ?_ | refine wp_raise ?_ | refine wp_retN ?_ | refine wx_of ?_ | refine wxs_nil ?_ | refine wxs_cons ?_ | refine wx_tup ?_ | refine wx_if ?_ | refine wx_call ?_ | refine wx_callX ?_ | refine wp_retX ?_ | refine wp_dropX ?_ | refine ev_len rfl rfl ?_ | refine ⟨_, _, _, rfl, rfl, rfl, ?_⟩ | refine ⟨_, _, rfl, rfl, ?_⟩ | refine ⟨_, rfl, rfl, ?_⟩ | refine ⟨_, rfl, ?_⟩ | refine .inl ⟨_, rfl, ?_⟩ | refine .inr (.inl ⟨_, rfl, ?_⟩) | refine .inr (.inr ⟨_, _, rfl, rfl, ?_⟩) | refine .inr ⟨_, rfl, ?_⟩ | refine ⟨_, rfl, by first | decide | (simp; done), ?_⟩ | refine ev_args rfl ?_ | refine .inl ⟨_, _, rfl, ?_⟩ | refine .inr ⟨_, _, rfl, ?_⟩ | refine ev_par3 rfl ?_ | refine end_rt ⟨_, _, rfl, rfl, ?_⟩ | refine end_nx ⟨_, rfl, ?_⟩ | refine end_ex ⟨_, rfl, ?_⟩ | refine then_nx ?_ | refine then_rt ?_ | refine then_ex ?_ | refine turn_nx ?_ | refine turn_rt ?_ | refine b1 ?_ | refine b0 ?_ | refine ⟨_, _, _, rfl, rfl, mulD_int (mulOk_small (by decide) (by decide)), ?_⟩ | refine ⟨_, _, _, rfl, rfl, MB.ixA_P (by assumption), ?_⟩ | refine ⟨_, _, _, rfl, rfl, MB.stD_P (by first | assumption | omega), ?_⟩ | fail)
      show FR.ok (.val (.bl false)) [] = .ok (.val (.bl (decide (2 ≤ n) && decide (n ≤ 8)))) []
      rw [decide_eq_false h1]; rfl
  | _ => first
    | (exfalso; simp [plD] at h; done)
    | (apply wf_eq
       unfold F_d1_is_space m_d1_is_space
       refine wf_run (wp_ret (we_and (we_call (wa_cons (we_im rfl (wa_nil (ev_args rfl (ev_funV (is_integer_pl w _ h) ⟨_, rfl, b0 ?_⟩))))))))
       repeat' (first | refine ⟨_, _, _, rfl, rfl, MB.getM_P _ _ _ _, ?_⟩ | refine we_im rfl ?_ | refine we_mu rfl ?_ | refine we_op ?_ | refine we_un ?_ | refine we_cb ?_ | refine we_cbS ?_ | refine we_frzV ?_ | refine wa_nil ?_ | refine wa_cons ?_ | refine we_tup ?_ | refine we_lst ?_ | refine we_newT ?_ | refine we_dis1 ?_ | refine we_meth ?_ | refine we_if ?_ | refine we_and ?_ | refine we_or ?_ | refine we_not ?_ | refine we_chain ?_ | refine we_chain3 ?_ | refine wo_none ?_ | refine wo_some ?_ | refine we_slice ?_ | refine we_call ?_ | refine we_c ?_ | refine wt_b ?_ | refine wt_and ?_ | refine wt_or ?_ | refine wt_not ?_ | refine wt_yes ?_ | refine wp_seq ?_ | refine wp_if ?_ | refine wp_ret ?_ | refine wp_drop ?_ | refine wp_set ?_ | refine wp_store ?_ | refine wp_asgP ?_ | refine wp_par2 ?_ | refine wp_par3 ?_ | refine wp_next ?_ | refine wp_raise ?_ | refine wp_retN ?_ | refine wx_of ?_ | refine wxs_nil ?_ | refine wxs_cons ?_ | refine wx_tup ?_ | refine wx_if ?_ | refine wx_call ?_ | refine wx_callX ?_ | refine wp_retX ?_ | refine wp_dropX ?_ | refine ev_len rfl rfl ?_ | refine ⟨_, _, _, rfl, rfl, rfl, ?_⟩ | refine ⟨_, _, rfl, rfl, ?_⟩ | refine ⟨_, rfl, rfl, ?_⟩ | refine ⟨_, rfl, ?_⟩ | refine .inl ⟨_, rfl, ?_⟩ | refine .inr (.inl ⟨_, rfl, ?_⟩) | refine .inr (.inr ⟨_, _, rfl, rfl, ?_⟩) | refine .inr ⟨_, rfl, ?_⟩ | refine ⟨_, rfl, by first | decide | (simp; done), ?_⟩ | refine ev_args rfl ?_ | refine .inl ⟨_, _, rfl, ?_⟩ | refine .inr ⟨_, _, rfl, ?_⟩ | refine ev_par3 rfl ?_ | refine end_rt ⟨_, _, rfl, rfl, ?_⟩ | refine end_nx ⟨_, rfl, ?_⟩ | refine end_ex ⟨_, rfl, ?_⟩ | refine then_nx ?_ | refine then_rt ?_ | refine then_ex ?_ | refine turn_nx ?_ | refine turn_rt ?_ | refine b1 ?_ | refine b0 ?_ | refine ⟨_, _, _, rfl, rfl, mulD_int (mulOk_small (by decide) (by decide)), ?_⟩ | refine ⟨_, _, _, rfl, rfl, MB.ixA_P (by assumption), ?_⟩ | refine ⟨_, _, _, rfl, rfl, MB.stD_P (by first | assumption | omega), ?_⟩ | fail)
       rfl)
/-- a pair's test, the program's -/
theorem turn_pair (n : Int) (xs : List D) (pl : plDs xs = true) {d x : D} {s3 s4 : Sl} {Q : Out → Prop} (e : x = .tup xs)
    (k1 : pairL n xs = true → Q (.nx [.im (.int n), .im d, .im x, s3, s4]))
    (k0 : pairL n xs = false → ∃ ρ, Q (.rt (.val (.bl false)) ρ) ∧ ρ = [.im (.int n), .im d, .im x, s3, s4]) :
    Wp (gSeq (gIf (fOr (fNot (fB (fUn (isiD "tuple") (fVar 2)))) (fOr (fB (fOp (cmpB neD) (fCall lenD (fCons (fVar 2) fNil)) (fC (.int 2)))) (fNot (fB (fCallF [false, false] (F_d2_is_condition w) (fCons (fVar 0) (fCons (fOp ixA (fVar 2) (fC (.int 0))) fNil))))))) (gRet (fC (.bl false))) gNext)
  (gIf (fOr (fNot (fB (fCallF [false] (F_d0_is_integer w) (fCons (fOp ixA (fVar 2) (fC (.int 1))) fNil)))) (fB (fOp (cmpB eqD) (fOp ixA (fVar 2) (fC (.int 1))) (fC (.int 0))))) (gRet (fC (.bl false))) gNext)) [.im (.int n), .im d, .im x, s3, s4] Q := by
  subst e
  refine wp_seq (wp_if (wt_or (wt_not (wt_b (we_un (we_im rfl ⟨_, _, rfl, rfl, _, rfl, b0 ?_⟩))))))
  refine wt_or (wt_b (we_op (we_cb (wa_cons (we_im rfl (wa_nil ⟨_, _, rfl, rfl, we_c ⟨_, _, _, rfl, rfl, cmp_neD _ _, _, rfl, ?_⟩⟩))))))
  by_cases h2 : xs.length = 2
  · obtain ⟨x, y, rfl⟩ := len2 h2
    have px := plDs_mem pl x (by simp)
    have py := plDs_mem pl y (by simp)
    rw [show (!decide (((([x, y] : List D).length : Nat) : Int) = 2)) = false from rfl]
    refine b0 (wt_not (wt_b (we_call (wa_cons (we_im rfl (wa_cons (we_op (we_im rfl (we_c ⟨_, _, _, rfl, rfl, rfl, wa_nil (ev_args rfl (ev_funV (is_condition_ok w n x px) ?_))⟩)))))))))
    refine ⟨_, rfl, ?_⟩
    cases hx : condB n x with
    | false =>
      refine b1 (wp_ret (we_c (then_rt ?_)))
      obtain ⟨ρ, q, rfl⟩ := k0 (by simp [pairL, hx])
      exact q
    | true =>
      refine b0 (wp_next (then_nx ?_))
      refine wp_if (wt_or (wt_not (wt_b (we_call (wa_cons (we_op (we_im rfl (we_c ⟨_, _, _, rfl, rfl, rfl, wa_nil (ev_args rfl (ev_funV (is_integer_pl w y py) ?_))⟩))))))))
      refine ⟨_, rfl, ?_⟩
      cases hy : isW y with
      | false =>
        refine b1 (b1 (wp_ret (we_c ?_)))
        obtain ⟨ρ, q, rfl⟩ := k0 (by simp [pairL, hx, hy])
        exact q
      | true =>
        obtain ⟨v, rfl⟩ := isW_ex hy
        refine b0 (wt_b (we_op (we_op (we_im rfl (we_c ⟨_, _, _, rfl, rfl, rfl, we_c ⟨_, _, _, rfl, rfl, cmp_eqD _ _, _, rfl, ?_⟩⟩)))))
        refine bt (fun h => ?_) (fun h => ?_)
        · refine wp_ret (we_c ?_)
          obtain ⟨ρ, q, rfl⟩ := k0 (by simp [pairL, hx, hy, nzD, h])
          exact q
        · exact wp_next (k1 (by simp [pairL, hx, hy, nzD, h]))
  · rw [show (!decide ((xs.length : Int) = 2)) = true by simp; omega]
    refine b1 (b1 (wp_ret (we_c (then_rt ?_))))
    obtain ⟨ρ, q, rfl⟩ := k0 (pairL_len h2)
    exact q
def sumB (n : Int) (xs : List D) : Bool := xs.all (pairB n) && srt xs
theorem sumB_bad {n : Int} {xs : List D} {x : D} (hx : x ∈ xs) (h : pairB n x = false) : sumB n xs = false := by
  unfold sumB
  rw [Bool.and_eq_false_iff]
  left
  rw [List.all_eq_false]
  exact ⟨x, hx, by simp [h]⟩
theorem not_tup {n : Int} {x : D} (pl : plD x = true) (h : isT x = false) : pairB n x = false ∧ isiD "tuple" (wk x) = some (.val (.bl false)) ∧ wk x = x := by
  cases x <;> first | exact ⟨rfl, rfl, rfl⟩ | (exfalso; simp [isT, plD] at h pl; done)
theorem isT_ex {x : D} (h : isT x = true) : ∃ xs, x = .tup xs := by
  cases x <;> first | exact ⟨_, rfl⟩ | (exfalso; simp [isT] at h; done)
theorem cut1 (xs : List D) : DL.cutD xs (some 1) none = xs.tail := by
  unfold DL.cutD
  have e : HT.sIx xs.length 0 (some 1) = min 1 xs.length := HT.sIx_nat xs.length 0 1
  rw [e, HT.sIx_none]
  cases xs with
  | nil => rfl
  | cons x r =>
    rw [show min 1 (x :: r).length = 1 by simp]
    simp
theorem bools_bl : ∀ bs : List Bool, bools (bs.map D.bl) = some bs
  | [] => rfl
  | b :: r => by simp [bools, bools_bl r]
theorem zip_ok (n : Int) (d : D) (l : AL) (hl : l.length ≤ 1000000) (hwk : wk d = .tup (l.map pE)) {s2 : Sl} {Q : RV → DEnv → Prop} (k : ∀ ρ, Q (.val (.bl (srt (l.map pE)))) ρ) :
    We (fCall allD (fCons (fLc (fZip (fCons (fVar 1) (fCons (fFrz (fSlice (fVar 1) (fPart (fC (.int 1))) fNoPart)) fNil))) (.tp [(.nm 3), (.nm 4)]) fYes (fOp (cmpB ltD) (fOp ixA (fVar 3) (fC (.int 0))) (fOp ixA (fVar 4) (fC (.int 0)))) [3, 4]) fNil)) [.im (.int n), .im d, s2, .un, .un] Q := by
  have hsl : sliceD (some 1) none (wk d) = some (.val (.tup (l.tail.map pE))) := by
    rw [hwk]
    show some (RV.val (.tup (DL.cutD _ _ _))) = _
    rw [cut1, List.map_tail]
  have hv : (vals [.val d, .val (.tup (l.tail.map pE))]).map (List.map wk) = some [.tup (l.map pE), .tup (l.tail.map pE)] := by
    show some [wk d, _] = _
    rw [hwk]
    rfl
  refine we_cb (wa_cons (we_lc (fun ρ0 rem acc ρ => ρ0 = [.im (.int n), .im d, s2, .un, .un] ∧ ρ = [.im (.int n), .im d, s2, .un, .un] ∧ ∃ (r : AL) (bs : List Bool), rem = zipL (r.map pE) (r.tail.map pE) ∧ acc = bs.map D.bl ∧ (bs.all id && srt (r.map pE)) = srt (l.map pE)) ?_ ?_ ?_))
  · refine wi_zipT (wa_cons (we_im rfl (wa_cons (we_frzV (we_slice (we_im rfl (wo_some (we_c ⟨_, rfl, wo_none ⟨_, _, rfl, hsl, .inl ⟨_, rfl, wa_nil ⟨_, _, hv, ?_⟩⟩⟩⟩))))))))
    refine ⟨?_, rfl, rfl, l, [], rfl, rfl, by simp⟩
    rw [zipL_len]
    simp
    omega
  · rintro ρ0 x r acc ρ ⟨rfl, rfl, r', bs, e1, rfl, hb⟩
    match r', e1, hb with
    | [], e1, hb => cases e1
    | [a], e1, hb => cases e1
    | a :: b :: r', e1, hb =>
      cases e1
      refine ⟨_, rfl, wt_yes ⟨fun _ => ?_, fun h => nomatch h⟩⟩
      refine we_op (we_op (we_im rfl (we_c ⟨_, _, _, rfl, rfl, rfl, we_op (we_im rfl (we_c ⟨_, _, _, rfl, rfl, rfl, ⟨_, _, _, rfl, rfl, rfl, _, rfl, rfl, rfl, b :: r', bs ++ [ltP a.1 b.1], rfl, by simp; rfl, ?_⟩⟩))⟩)))
      rw [← hb]
      simp only [List.all_append, List.map_cons, srt, ltB_pE]
      simp [Bool.and_assoc]
  · rintro ρ0 acc ρ ⟨rfl, rfl, r', bs, e1, rfl, hb⟩
    refine wa_nil ⟨_, _, rfl, ?_, k _⟩
    have hs : srt (r'.map pE) = true := by
      match r', e1 with
      | [], _ => rfl
      | [a], _ => rfl
      | a :: b :: r', e1 => cases e1
    rw [hs, Bool.and_true] at hb
    show (match bools (bs.map D.bl) with
    | some bs => some (RV.val (.bl (bs.all id)))
    | none => none) = _
    rw [bools_bl]
    simp only
    rw [hb]
theorem is_sum_tup (n : Int) (hn : 2 ≤ n ∧ n ≤ 8) (d : D) (xs : List D) (hd : d = .tup xs ∨ d = .tpp xs) (pl : plD (.tup xs) = true) : F_d3_is_condition_sum w [.int n, d] = some (.ok (.val (.bl (sumB n xs))) []) := by
  have hit : itemsD d = some xs := by rcases hd with rfl | rfl <;> rfl
  have hwk : wk d = .tup xs := by rcases hd with rfl | rfl <;> rfl
  have hty : isiD "tuple" (wk d) = some (.val (.bl true)) := by rw [hwk]; rfl
  obtain ⟨hl, pls⟩ := plD_tup pl
  apply wf_eq
  unfold F_d3_is_condition_sum m_d3_is_condition_sum
  have hsp : spB (.int n) = true := by simp [spB, hn]
  refine wf_run (wp_seq (wp_if (wt_or (wt_not (wt_b (we_call (wa_cons (we_im rfl (wa_nil (ev_args rfl (ev_funV (is_space_ok w (.int n) rfl) ⟨_, rfl, ?_⟩)))))))))))
  rw [hsp]
  refine b0 (wt_not (wt_b (we_un (we_im rfl ⟨_, _, rfl, hty, _, rfl, b0 (wp_next (then_nx ?_))⟩))))
  refine wp_seq (wp_for (fun rem ρ => ∃ (p : List D) (s2 : Sl), ρ = [.im (.int n), .im d, s2, .un, .un] ∧ xs = p ++ rem ∧ p.all (pairB n) = true) ?_ ?_ ?_)
  · exact wi_seq (we_im rfl ⟨_, _, rfl, hit, [], .un, rfl, rfl, rfl⟩)
  · rintro x r ρ ⟨p, s2, rfl, e1, hp⟩
    have hx : x ∈ xs := by rw [e1]; simp
    refine ⟨_, rfl, ?_⟩
    cases ht : isT x with
    | false =>
      obtain ⟨h1, h2, h3⟩ := not_tup (n := n) (plDs_mem pls x hx) ht
      refine wp_seq (wp_if (wt_or (wt_not (wt_b (we_un (we_im rfl ⟨_, _, rfl, h2, _, rfl, b1 (b1 (wp_ret (we_c (then_rt (turn_rt (then_rt (end_rt ⟨_, _, rfl, rfl, ?_⟩)))))))⟩))))))
      rw [sumB_bad hx h1]
    | true =>
      obtain ⟨ys, rfl⟩ := isT_ex ht
      refine turn_pair w n ys (plD_tup (plDs_mem pls _ hx)).2 rfl (fun h => ?_) (fun h => ?_)
      · exact turn_nx ⟨p ++ [.tup ys], _, rfl, by simp [e1], by simp [hp, pairB, h]⟩
      · refine ⟨_, turn_rt (then_rt (end_rt ⟨_, _, rfl, rfl, ?_⟩)), rfl⟩
        rw [sumB_bad hx h]
  · rintro ρ ⟨p, s2, rfl, e1, hp⟩
    rw [List.append_nil] at e1
    subst e1
    obtain ⟨l, rfl, hl2⟩ := pairs_ex hp
    refine then_nx (wp_ret (zip_ok n d l (by simpa using hl) hwk (fun ρ => ?_)))
    refine end_rt ⟨_, _, rfl, rfl, ?_⟩
    unfold sumB
    rw [hp, Bool.true_and]
/-- what both hold of a value -/
def sumV (n : Int) : D → Bool
  | .tup xs => sumB n xs
  | .tpp xs => sumB n xs
  | _ => false
/-- outside of the space's dimensions, or no tuple -/
theorem is_sum_not (nd d : D) (hp : plD nd = true) (pl : plD (wk d) = true) (h : (spB nd && isT (wk d)) = false) : F_d3_is_condition_sum w [nd, d] = some (.ok (.val (.bl false)) []) := by
  have hw : wk nd = nd := by cases nd <;> first | rfl | (exfalso; simp [plD] at hp; done)
  apply wf_eq
  unfold F_d3_is_condition_sum m_d3_is_condition_sum
  refine wf_run (wp_seq (wp_if (wt_or (wt_not (wt_b (we_call (wa_cons (we_im rfl (wa_nil (ev_args rfl (ev_funV (is_space_ok w nd hp) ⟨_, rfl, ?_⟩)))))))))))
  cases hs : spB nd with
  | false => exact b1 (b1 (wp_ret (we_c (then_rt (end_rt ⟨_, _, rfl, rfl, rfl⟩)))))
  | true =>
    rw [hs, Bool.true_and] at h
    obtain ⟨_, h2, _⟩ := not_tup (n := 0) pl h
    have h3 : isiD "tuple" (wk d) = some (.val (.bl false)) := by
      have : wk (wk d) = wk d := by cases d <;> rfl
      rw [this] at h2; exact h2
    exact b0 (wt_not (wt_b (we_un (we_im rfl ⟨_, _, rfl, h3, _, rfl, b1 (wp_ret (we_c (then_rt (end_rt ⟨_, _, rfl, rfl, rfl⟩))))⟩))))
theorem is_sum_ok (n : Int) (hn : 2 ≤ n ∧ n ≤ 8) (d : D) (pl : plD (wk d) = true) : F_d3_is_condition_sum w [.int n, d] = some (.ok (.val (.bl (sumV n d))) []) := by
  cases d with
  | tup xs => exact is_sum_tup w n hn _ xs (.inl rfl) pl
  | tpp xs => exact is_sum_tup w n hn _ xs (.inr rfl) pl
  | _ => exact is_sum_not w (.int n) _ rfl pl (by simp [wk, isT])
end K56

set_option Elab.async false
set_option linter.all false
set_option maxRecDepth 100000
set_option maxHeartbeats 4000000
namespace K56
open PySem PySem.Spec PyProof.Rows L2 DL MB
variable (w : World)
/-! the law's own test of a sum -/
theorem law_turn_pair (n : Int) (xs : List D) (pl : plDs xs = true) {d : D} {x : D} {k : Int} {g : FS} {Q : Out → Prop} (e : x = .tup xs)
    (k1 : pairL n xs = true → Wp g [.im (.int n), .im d, .im (.int k), .im x] Q)
    (k0 : pairL n xs = false → ∃ ρ, Q (.rt (.val (.bl false)) ρ) ∧ ρ = [.im (.int n), .im d, .im (.int k), .im x]) :
    Wp (gSeq (gIf (fOr (fNot (fB (fUn (isiD "tuple") (fVar 3)))) (fOr (fB (fOp (cmpB neD) (fCall lenD (fCons (fVar 3) fNil)) (fC (.int 2)))) (fOr (fNot (fB (fCallF [false, false] (F_d21_law_is_condition w) (fCons (fVar 0) (fCons (fOp ixA (fVar 3) (fC (.int 0))) fNil))))) (fOr (fNot (fB (fCallF [false] (F_d19_law_is_whole w) (fCons (fOp ixA (fVar 3) (fC (.int 1))) fNil)))) (fB (fOp (cmpB eqD) (fOp ixA (fVar 3) (fC (.int 1))) (fC (.int 0)))))))) (gRet (fC (.bl false))) gNext) g) [.im (.int n), .im d, .im (.int k), .im x] Q := by
  subst e
  refine wp_seq (wp_if (wt_or (wt_not (wt_b (we_un (we_im rfl ⟨_, _, rfl, rfl, _, rfl, b0 ?_⟩))))))
  refine wt_or (wt_b (we_op (we_cb (wa_cons (we_im rfl (wa_nil ⟨_, _, rfl, rfl, we_c ⟨_, _, _, rfl, rfl, cmp_neD _ _, _, rfl, ?_⟩⟩))))))
  by_cases h2 : xs.length = 2
  · obtain ⟨x, y, rfl⟩ := len2 h2
    have px := plDs_mem pl x (by simp)
    have py := plDs_mem pl y (by simp)
    rw [show (!decide (((([x, y] : List D).length : Nat) : Int) = 2)) = false from rfl]
    refine b0 (wt_or (wt_not (wt_b (we_call (wa_cons (we_im rfl (wa_cons (we_op (we_im rfl (we_c ⟨_, _, _, rfl, rfl, rfl, wa_nil (ev_args rfl (ev_funV (law_is_condition_ok w n x px) ?_))⟩))))))))))
    refine ⟨_, rfl, ?_⟩
    cases hx : condB n x with
    | false =>
      refine b1 (b1 (wp_ret (we_c (then_rt ?_))))
      obtain ⟨ρ, q, rfl⟩ := k0 (by simp [pairL, hx])
      exact q
    | true =>
      refine b0 (wt_or (wt_not (wt_b (we_call (wa_cons (we_op (we_im rfl (we_c ⟨_, _, _, rfl, rfl, rfl, wa_nil (ev_args rfl (ev_funV (law_is_whole_pl w y py) ?_))⟩))))))))
      refine ⟨_, rfl, ?_⟩
      cases hy : isW y with
      | false =>
        refine b1 (b1 (wp_ret (we_c (then_rt ?_))))
        obtain ⟨ρ, q, rfl⟩ := k0 (by simp [pairL, hx, hy])
        exact q
      | true =>
        obtain ⟨v, rfl⟩ := isW_ex hy
        refine b0 (wt_b (we_op (we_op (we_im rfl (we_c ⟨_, _, _, rfl, rfl, rfl, we_c ⟨_, _, _, rfl, rfl, cmp_eqD _ _, _, rfl, ?_⟩⟩)))))
        refine bt (fun h => ?_) (fun h => ?_)
        · refine wp_ret (we_c (then_rt ?_))
          obtain ⟨ρ, q, rfl⟩ := k0 (by simp [pairL, hx, hy, nzD, h])
          exact q
        · exact wp_next (then_nx (k1 (by simp [pairL, hx, hy, nzD, h])))
  · rw [show (!decide ((xs.length : Int) = 2)) = true by simp; omega]
    refine b1 (b1 (wp_ret (we_c (then_rt ?_))))
    obtain ⟨ρ, q, rfl⟩ := k0 (pairL_len h2)
    exact q
theorem sumB_srt {n : Int} {q r : List D} {z x : D} (h : ltB z x = false) : sumB n (q ++ z :: x :: r) = false := by
  unfold sumB
  rw [srt_bad q r z x h, Bool.and_false]
theorem ixA_at {d : D} {xs : List D} (hwk : wk d = .tup xs) {j : Nat} {x : D} (h : xs[j]? = some x) : ixA (wk d) (.int (j : Int)) = some (.val x) := by
  rw [hwk]
  have e : ixD (.tup xs) (.int (j : Int)) = some (.val x) := by
    show Option.map RV.val (atI xs (j : Int)) = _
    rw [atI_nat h]
    rfl
  unfold ixA
  rw [e]
theorem cmp_ltP (a b : P2) : cmpB ltD (kD a) (kD b) = some (.val (.bl (ltP a b))) := rfl
theorem law_is_sum_tup (n : Int) (hn : 2 ≤ n ∧ n ≤ 8) (d : D) (xs : List D) (hd : d = .tup xs ∨ d = .tpp xs) (pl : plD (.tup xs) = true) : F_d22_law_is_sum w [.int n, d] = some (.ok (.val (.bl (sumB n xs))) []) := by
  have hwk : wk d = .tup xs := by rcases hd with rfl | rfl <;> rfl
  have hty : isiD "tuple" (wk d) = some (.val (.bl true)) := by rw [hwk]; rfl
  have hlen : lenD [wk d] = some (.val (.int xs.length)) := by rw [hwk]; rfl
  obtain ⟨hl, pls⟩ := plD_tup pl
  apply wf_eq
  unfold F_d22_law_is_sum m_d22_law_is_sum
  refine wf_run (wp_seq (wp_if (wt_or (wt_not (wt_b (we_call (wa_cons (we_im rfl (wa_nil (ev_args rfl (ev_funV (law_is_whole_pl w (.int n) rfl) ⟨_, rfl, b0 ?_⟩)))))))))))
  refine wt_or (wt_not (wt_b (we_chain (we_c (we_im rfl ⟨_, _, _, rfl, rfl, rfl, ?_⟩)))))
  refine bt (fun _ => ?_) (fun h => (h hn.1).elim)
  refine we_c ⟨_, _, rfl, rfl, _, rfl, ?_⟩
  rw [show decide (n ≤ 8) = true by simp [hn.2]]
  refine b0 (wt_not (wt_b (we_un (we_im rfl ⟨_, _, rfl, hty, _, rfl, b0 (wp_next (then_nx ?_))⟩))))
  refine wp_seq (wp_for (fun rem ρ => ∃ (p r : List D) (s2 s3 : Sl), ρ = [.im (.int n), .im d, s2, s3] ∧ rem = rngL (p.length : Int) r.length ∧ xs = p ++ r ∧ p.all (pairB n) = true ∧ srt p = true) ?_ ?_ ?_)
  · refine wi_rng1 (wa_cons (we_cb (wa_cons (we_im rfl (wa_nil ⟨_, _, rfl, hlen, wa_nil ⟨_, rfl, by omega, by omega, [], xs, .un, .un, rfl, rfl, rfl, rfl, rfl⟩⟩)))))
  · rintro x r ρ ⟨p, r', s2, s3, rfl, e0, e1, hp, hs⟩
    cases r' with
    | nil => cases e0
    | cons x' r' =>
      rw [List.length_cons, rngL_succ] at e0
      cases e0
      have hx : x' ∈ xs := by rw [e1]; simp
      have hix := ixA_at (d := d) hwk (j := p.length) (x := x') (by rw [e1]; simp)
      refine ⟨_, rfl, wp_seq (wp_set (we_op (we_im rfl (we_im rfl ⟨_, _, _, rfl, rfl, hix, .inl ⟨_, rfl, then_nx ?_⟩⟩))))⟩
      cases ht : isT x' with
      | false =>
        obtain ⟨h1, h2, h3⟩ := not_tup (n := n) (plDs_mem pls x' hx) ht
        refine wp_seq (wp_if (wt_or (wt_not (wt_b (we_un (we_im rfl ⟨_, _, rfl, h2, _, rfl, b1 (b1 (wp_ret (we_c (then_rt (turn_rt (then_rt (end_rt ⟨_, _, rfl, rfl, ?_⟩)))))))⟩))))))
        rw [sumB_bad hx h1]
      | true =>
        obtain ⟨ys, rfl⟩ := isT_ex ht
        refine law_turn_pair w n ys (plD_tup (plDs_mem pls _ hx)).2 rfl (fun h => ?_) (fun h => ?_)
        · refine wp_if (wt_and (wt_b (we_op (we_im rfl (we_c ⟨_, _, _, rfl, rfl, rfl, _, rfl, ?_⟩)))))
          refine bt (fun hk => ?_) (fun hk => ?_)
          · obtain ⟨q, z, rfl⟩ : ∃ q z, p = q ++ [z] := by
              rcases List.eq_nil_or_concat p with h0 | ⟨q, z, h0⟩
              · subst h0; simp at hk
              · exact ⟨q, z, by simpa using h0⟩
            have hzB : pairB n z = true := by simp only [List.all_append, List.all_cons, Bool.and_eq_true] at hp; exact hp.2.1
            obtain ⟨zx, rfl, _⟩ := pairB_ex hzB
            obtain ⟨ox, he, _⟩ := pairB_ex (n := n) (d := .tup ys) h
            have hiz : ixA (wk d) (.int (((q ++ [pE zx]).length : Nat) - 1 : Int)) = some (.val (pE zx)) := by
              have e9 : (((q ++ [pE zx]).length : Nat) - 1 : Int) = ((q.length : Nat) : Int) := by simp
              rw [e9]
              exact ixA_at hwk (by rw [e1]; simp)
            rw [he] at e1 ⊢
            refine wt_not (wt_b (we_op (we_op (we_op (we_im rfl (we_op (we_im rfl (we_c ⟨_, _, _, rfl, rfl, rfl, ⟨_, _, _, rfl, rfl, hiz, we_c ⟨_, _, _, rfl, rfl, rfl, we_op (we_im rfl (we_c ⟨_, _, _, rfl, rfl, rfl, ⟨_, _, _, rfl, rfl, cmp_ltP zx.1 ox.1, _, rfl, ?_⟩⟩))⟩⟩⟩))))))))
            cases hb : ltP zx.1 ox.1 with
            | true =>
              refine b0 (wp_next (turn_nx ?_))
              refine ⟨q ++ [pE zx] ++ [pE ox], r', _, _, rfl, by rw [show (((q ++ [pE zx] ++ [pE ox]).length : Nat) : Int) = (((q ++ [pE zx]).length : Nat) : Int) + 1 by simp; omega], by simp [e1], ?_, ?_⟩
              · rw [List.all_append, hp, ← he]
                simp [pairB, h]
              · rw [List.append_assoc]
                show srt (q ++ [pE zx, pE ox]) = true
                rw [srt_snoc, hs, ltB_pE, hb]
                rfl
            | false =>
              refine b1 (wp_ret (we_c (turn_rt (then_rt (end_rt ⟨_, _, rfl, rfl, ?_⟩)))))
              rw [e1, List.append_assoc]
              show _ = FR.ok (.val (.bl (sumB n (q ++ pE zx :: pE ox :: r')))) []
              rw [sumB_srt (by rw [ltB_pE]; exact hb)]
          · have : p = [] := by cases p with
              | nil => rfl
              | cons a b => exact (hk (by simp)).elim
            subst this
            refine b0 (wp_next (turn_nx ?_))
            exact ⟨[.tup ys], r', _, _, rfl, rfl, by simp [e1], by simp [pairB, h], rfl⟩
        · refine ⟨_, turn_rt (then_rt (end_rt ⟨_, _, rfl, rfl, ?_⟩)), rfl⟩
          rw [sumB_bad hx h]
  · rintro ρ ⟨p, r', s2, s3, rfl, e0, e1, hp, hs⟩
    have : r' = [] := by cases r' with
      | nil => rfl
      | cons a b => rw [List.length_cons, rngL_succ] at e0; cases e0
    subst this
    rw [List.append_nil] at e1
    subst e1
    refine then_nx (wp_ret (we_c (end_rt ⟨_, _, rfl, rfl, ?_⟩)))
    unfold sumB
    rw [hp, hs]
    rfl
theorem law_is_sum_ok (n : Int) (hn : 2 ≤ n ∧ n ≤ 8) (d : D) (pl : plD (wk d) = true) : F_d22_law_is_sum w [.int n, d] = some (.ok (.val (.bl (sumV n d))) []) := by
  have other : isT (wk d) = false → F_d22_law_is_sum w [.int n, d] = some (.ok (.val (.bl false)) []) := fun ht => by
    obtain ⟨_, h2, _⟩ := not_tup (n := 0) pl ht
    have h3 : isiD "tuple" (wk d) = some (.val (.bl false)) := by
      have : wk (wk d) = wk d := by cases d <;> rfl
      rw [this] at h2; exact h2
    apply wf_eq
    unfold F_d22_law_is_sum m_d22_law_is_sum
    refine wf_run (wp_seq (wp_if (wt_or (wt_not (wt_b (we_call (wa_cons (we_im rfl (wa_nil (ev_args rfl (ev_funV (law_is_whole_pl w (.int n) rfl) ⟨_, rfl, b0 ?_⟩)))))))))))
    refine wt_or (wt_not (wt_b (we_chain (we_c (we_im rfl ⟨_, _, _, rfl, rfl, rfl, ?_⟩)))))
    refine bt (fun _ => ?_) (fun h => (h hn.1).elim)
    refine we_c ⟨_, _, rfl, rfl, _, rfl, ?_⟩
    rw [show decide (n ≤ 8) = true by simp [hn.2]]
    exact b0 (wt_not (wt_b (we_un (we_im rfl ⟨_, _, rfl, h3, _, rfl, b1 (wp_ret (we_c (then_rt (end_rt ⟨_, _, rfl, rfl, rfl⟩))))⟩))))
  cases d with
  | tup xs => exact law_is_sum_tup w n hn _ xs (.inl rfl) pl
  | tpp xs => exact law_is_sum_tup w n hn _ xs (.inr rfl) pl
  | _ => exact other rfl
end K56

set_option Elab.async false
set_option linter.all false
set_option maxRecDepth 100000
set_option maxHeartbeats 4000000
namespace K56
open PySem PySem.Spec PyProof.Rows L2 DL MB
variable (w : World)
def sumD (nd d : D) : Bool := match nd with
  | .int n => spB (.int n) && sumV n d
  | _ => false
theorem is_sum_any (nd d : D) (hp : plD nd = true) (pl : plD (wk d) = true) : F_d3_is_condition_sum w [nd, d] = some (.ok (.val (.bl (sumD nd d))) []) := by
  cases hs : spB nd && isT (wk d) with
  | false =>
    rw [is_sum_not w nd d hp pl hs]
    have : sumD nd d = false := by
      rw [Bool.and_eq_false_iff] at hs
      rcases hs with hs | hs
      · cases nd <;> first | rfl | (simp only [sumD]; rw [hs]; rfl)
      · cases nd <;> first | rfl | (cases d <;> first | (exfalso; simp [isT, wk] at hs; done) | (simp [sumD, sumV]; done))
    rw [this]
  | true =>
    rw [Bool.and_eq_true] at hs
    cases nd with
    | int n =>
      have hn : 2 ≤ n ∧ n ≤ 8 := by simpa [spB] using hs.1
      rw [is_sum_ok w n hn d pl]
      simp [sumD, hs.1]
    | _ => exact absurd hs.1 (by simp [spB])
theorem check_ok (nd f g : D) (hp : plD nd = true) (pf : plD (wk f) = true) (pg : plD (wk g) = true) : F_d4_check_sums w [nd, f, g] = some (if sumD nd f && sumD nd g then .ok (.val .non) [] else .ex .mal []) := by
  apply wf_eq
  unfold F_d4_check_sums m_d4_check_sums
  refine wf_run (wp_if (wt_or (wt_not (wt_b (we_call (wa_cons (we_im rfl (wa_cons (we_im rfl (wa_nil (ev_args rfl (ev_funV (is_sum_any w nd f hp pf) ⟨_, rfl, ?_⟩))))))))))))
  cases hf : sumD nd f with
  | false => exact b1 (b1 (wp_raise (end_ex ⟨_, rfl, rfl⟩)))
  | true =>
    refine b0 (wt_not (wt_b (we_call (wa_cons (we_im rfl (wa_cons (we_im rfl (wa_nil (ev_args rfl (ev_funV (is_sum_any w nd g hp pg) ⟨_, rfl, ?_⟩))))))))))
    cases hg : sumD nd g with
    | false => exact b1 (wp_raise (end_ex ⟨_, rfl, rfl⟩))
    | true => exact b0 (wp_next (end_nx ⟨_, rfl, rfl⟩))
theorem product_mal (nd f g : D) (hp : plD nd = true) (pf : plD (wk f) = true) (pg : plD (wk g) = true) (h : (sumD nd f && sumD nd g) = false) : F_d11_condition_product w [nd, f, g] = some (.ex .mal []) := by
  apply wf_eq
  unfold F_d11_condition_product m_d11_condition_product
  have hc := check_ok w nd f g hp pf pg
  rw [h] at hc
  refine wf_run (wp_seq (wp_dropX (wx_callX (wxs_cons (wx_of (we_im rfl (wxs_cons (wx_of (we_im rfl (wxs_cons (wx_of (we_im rfl (wxs_nil ⟨_, _, rfl, _, hc, ?_⟩)))))))))))))
  exact then_ex (end_ex ⟨_, rfl, rfl⟩)
theorem number_mal (nd f : D) (hp : plD nd = true) (pf : plD (wk f) = true) (h : sumD nd f = false) : F_d12_condition_number w [nd, f] = some (.ex .mal []) := by
  apply wf_eq
  unfold F_d12_condition_number m_d12_condition_number
  have hc := check_ok w nd f f hp pf pf
  rw [h] at hc
  refine wf_run (wp_seq (wp_dropX (wx_callX (wxs_cons (wx_of (we_im rfl (wxs_cons (wx_of (we_im rfl (wxs_cons (wx_of (we_im rfl (wxs_nil ⟨_, _, rfl, _, hc, ?_⟩)))))))))))))
  exact then_ex (end_ex ⟨_, rfl, rfl⟩)
theorem sumE_eq (l : AL) : sumE l = .tpp (l.map pE) := rfl
theorem plDs_pE : ∀ l : AL, plDs (l.map pE) = true
  | [] => rfl
  | x :: r => by
    simp only [List.map_cons, plDs, plDs_pE r, Bool.and_true]
    rfl
theorem plD_sum {l : AL} (h : l.length ≤ 1000000) : plD (wk (sumE l)) = true := by
  show plD (.tup (l.map pE)) = true
  simp [plD, plDs_pE, h]
theorem product_good (n : Int) (hn : n ≤ 8) (f g : AL) (hf : Vd n f) (hg : Vd n g) (sm : Sm g) (h : (sumD (.int n) (sumE f) && sumD (.int n) (sumE g)) = true) : ∃ l', F_d11_condition_product w [.int n, sumE f, sumE g] = some (.ok (.val (sumE (shL l'))) []) ∧ Vd n l' ∧ ∀ F, S l' F = S g (fun o => S f (fun k => U n k o F)) := by
  obtain ⟨l', e, v, hS⟩ := product_ok w n hn f g hf hg sm
  refine ⟨l', ?_, v, hS⟩
  apply wf_eq
  unfold F_d11_condition_product m_d11_condition_product
  have hc := check_ok w (.int n) (sumE f) (sumE g) rfl (plD_sum (by have := hf.len hn; omega)) (plD_sum (by have := hg.len hn; omega))
  rw [h] at hc
  refine wf_run (wp_seq (wp_dropX (wx_callX (wxs_cons (wx_of (we_im rfl (wxs_cons (wx_of (we_im rfl (wxs_cons (wx_of (we_im rfl (wxs_nil ⟨_, _, rfl, _, hc, ⟨(fun _ z => nomatch z), then_nx ?_⟩⟩)))))))))))))
  refine wp_ret (we_call (wa_cons (we_call (wa_cons (we_im rfl (wa_cons (we_frzV (we_cbS (wa_cons (we_im rfl (wa_nil ⟨_, _, rfl, dict_sum w n hn f hf, .inr (.inl ⟨_, rfl, ?_⟩)⟩)))))))))))
  refine wa_cons (we_frzV (we_cbS (wa_cons (we_im rfl (wa_nil ⟨_, _, rfl, dict_sum w n hn g hg, .inr (.inl ⟨_, rfl, ?_⟩)⟩)))))
  refine wa_nil (ev_args rfl (ev_funV e ?_))
  refine wa_nil (ev_args rfl (ev_funV (shown_ok w l' (by have := v.len hn; omega)) ?_))
  exact end_rt ⟨_, _, rfl, rfl, rfl⟩
theorem number_good (n : Int) (hn : n ≤ 8) (f : AL) (hf : Vd n f) (h : sumD (.int n) (sumE f) = true) : F_d12_condition_number w [.int n, sumE f] = some (.ok (.val (.int (cf f (n - 1, n - 1)))) []) := by
  apply wf_eq
  unfold F_d12_condition_number m_d12_condition_number
  have hc := check_ok w (.int n) (sumE f) (sumE f) rfl (plD_sum (by have := hf.len hn; omega)) (plD_sum (by have := hf.len hn; omega))
  rw [h] at hc
  refine wf_run (wp_seq (wp_dropX (wx_callX (wxs_cons (wx_of (we_im rfl (wxs_cons (wx_of (we_im rfl (wxs_cons (wx_of (we_im rfl (wxs_nil ⟨_, _, rfl, _, hc, ⟨(fun _ z => nomatch z), then_nx ?_⟩⟩)))))))))))))
  refine wp_ret (we_meth (we_cbS (wa_cons (we_im rfl (wa_nil ⟨_, _, rfl, dict_sum w n hn f hf, ⟨_, rfl, rfl, ?_⟩⟩)))))
  repeat' (first | refine ⟨_, _, _, rfl, rfl, MB.getM_P _ _ _ _, ?_⟩ | refine we_im rfl ?_ | refine we_mu rfl ?_ | refine we_op ?_ | refine we_un ?_ | refine we_cb ?_ | refine we_cbS ?_ | refine we_frzV ?_ | refine wa_nil ?_ | refine wa_cons ?_ | refine we_tup ?_ | refine we_lst ?_ | refine we_newT ?_ | refine we_dis1 ?_ | refine we_meth ?_ | refine we_if ?_ | refine we_and ?_ | refine we_or ?_ | refine we_not ?_ | refine we_chain ?_ | refine we_chain3 ?_ | refine wo_none ?_ | refine wo_some ?_ | refine we_slice ?_ | refine we_call ?_ | refine we_c ?_ | refine wt_b ?_ | refine wt_and ?_ | refine wt_or ?_ | refine wt_not ?_ | refine wt_yes ?_ | refine wp_seq ?_ | refine wp_if ?_ | refine wp_ret ?_ | refine wp_drop ?_ | refine wp_set ?_ | refine wp_store ?_ | refine wp_asgP ?_ | refine wp_par2 ?_ | refine wp_par3 ?_ | refine wp_next ?_ | refine wp_raise ?_ | refine wp_retN ?_ | refine wx_of ?_ | refine wxs_nil ?_ | refine wxs_cons ?_ | refine wx_tup ?_ | refine wx_if ?_ | refine wx_call ?_ | refine wx_callX ?_ | refine wp_retX ?_ | refine wp_dropX ?_ | refine ev_len rfl rfl ?_ | refine ⟨_, _, _, rfl, rfl, rfl, ?_⟩ | refine ⟨_, _, rfl, rfl, ?_⟩ | refine ⟨_, rfl, rfl, ?_⟩ | refine ⟨_, rfl, ?_⟩ | refine .inl ⟨_, rfl, ?_⟩ | refine .inr (.inl ⟨_, rfl, ?_⟩) | refine .inr (.inr ⟨_, _, rfl, rfl, ?_⟩) | refine .inr ⟨_, rfl, ?_⟩ | refine ⟨_, rfl, by first | decide | (simp; done), ?_⟩ | refine ev_args rfl ?_ | refine .inl ⟨_, _, rfl, ?_⟩ | refine .inr ⟨_, _, rfl, ?_⟩ | refine ev_par3 rfl ?_ | refine end_rt ⟨_, _, rfl, rfl, ?_⟩ | refine end_nx ⟨_, rfl, ?_⟩ | refine end_ex ⟨_, rfl, ?_⟩ | refine then_nx ?_ | refine then_rt ?_ | refine then_ex ?_ | refine turn_nx ?_ | refine turn_rt ?_ | refine b1 ?_ | refine b0 ?_ | refine ⟨_, _, _, rfl, rfl, mulD_int (mulOk_small (by decide) (by decide)), ?_⟩ | refine ⟨_, _, _, rfl, rfl, MB.ixA_P (by assumption), ?_⟩ | refine ⟨_, _, _, rfl, rfl, MB.stD_P (by first | assumption | omega), ?_⟩ | fail)
  rfl
end K56

set_option Elab.async false
set_option linter.all false
set_option maxRecDepth 100000
set_option maxHeartbeats 4000000
namespace K56
open PySem PySem.Spec PyProof.Rows L2 DL MB
variable (w : World)
/-! lines_fulfilling -/
def lenT : D → Nat
  | .tup xs => xs.length
  | _ => 0
def rowsB (nd d : D) : Bool := match nd, wk d with
  | .int n, .tup xs => spB (.int n) && (decide (xs.length ≤ 20) && xs.all (condB n))
  | _, _ => false
theorem lc_conds (n : Int) {xs : List D} (hl : xs.length ≤ 1000000) (pl : plDs xs = true) {d : D} {s : Sl} {Q : RV → DEnv → Prop} (hi : itemsD d = some xs) (k : Q (.fresh (.lst (xs.map fun x => .bl (condB n x)))) [.im (.int n), .im d, keepIm (some s), .un]) :
    We (fLc (fItA (fVar 1)) (.nm 2) fYes (fCallF [false, false] (F_d2_is_condition w) (fCons (fVar 0) (fCons (fVar 2) fNil))) [2]) [.im (.int n), .im d, s, .un] Q := by
  refine we_lc (fun ρ0 rem acc ρ => ρ0 = [.im (.int n), .im d, s, .un] ∧ ρ = [.im (.int n), .im d, .un, .un] ∧ ∃ p, xs = p ++ rem ∧ acc = p.map fun x => .bl (condB n x)) ?_ ?_ ?_
  · exact wi_seq (we_im rfl ⟨_, _, rfl, hi, hl, rfl, rfl, [], rfl, rfl⟩)
  · rintro ρ0 x r acc ρ ⟨rfl, rfl, p, e1, rfl⟩
    refine ⟨_, rfl, wt_yes ⟨fun _ => ?_, fun h => nomatch h⟩⟩
    refine we_call (wa_cons (we_im rfl (wa_cons (we_im rfl (wa_nil (ev_args rfl (ev_funV (is_condition_ok w n x (plDs_mem pl x (by rw [e1]; simp))) ?_)))))))
    exact ⟨_, rfl, rfl, rfl, p ++ [x], by simp [e1], by simp⟩
  · rintro ρ0 acc ρ ⟨rfl, rfl, p, e1, rfl⟩
    rw [List.append_nil] at e1
    subst e1
    exact k
def Lf (n : Int) : List P2 → (P2 → Int) → Int
  | [], F => F (0, 0)
  | o :: r, F => Lf n r (fun k => U n k o F)
theorem all_bools (B : D → Bool) (xs : List D) : allD [.lst (xs.map fun x => .bl (B x))] = some (.val (.bl (xs.all B))) := by
  show (match bools (xs.map fun x => .bl (B x)) with
    | some bs => some (RV.val (.bl (bs.all id)))
    | none => none) = _
  rw [bools_map B xs]
  simp [List.all_map]
theorem lines_mal (nd d : D) (hp : plD nd = true) (pl : plD (wk d) = true) (h : rowsB nd d = false) : F_d13_lines_fulfilling w [nd, d] = some (.ex .mal []) := by
  have hw : wk nd = nd := by cases nd <;> first | rfl | (exfalso; simp [plD] at hp; done)
  apply wf_eq
  unfold F_d13_lines_fulfilling m_d13_lines_fulfilling
  refine wf_run (wp_seq (wp_if (wt_or (wt_not (wt_b (we_call (wa_cons (we_im rfl (wa_nil (ev_args rfl (ev_funV (is_space_ok w nd hp) ⟨_, rfl, ?_⟩)))))))))))
  cases hs : spB nd with
  | false => exact b1 (b1 (wp_raise (then_ex (end_ex ⟨_, rfl, rfl⟩))))
  | true =>
    refine b0 (wt_or (wt_not (wt_b (we_un (we_im rfl ?_)))))
    cases ht : isT (wk d) with
    | false =>
      obtain ⟨_, h2, _⟩ := not_tup (n := 0) pl ht
      have h3 : isiD "tuple" (wk d) = some (.val (.bl false)) := by
        have : wk (wk d) = wk d := by cases d <;> rfl
        rw [this] at h2; exact h2
      exact ⟨_, _, rfl, h3, _, rfl, b1 (b1 (wp_raise (then_ex (end_ex ⟨_, rfl, rfl⟩))))⟩
    | true =>
      obtain ⟨xs, hx⟩ := isT_ex ht
      have hit : itemsD d = some xs := by cases d <;> simp [wk] at hx <;> subst hx <;> rfl
      have h3 : isiD "tuple" (wk d) = some (.val (.bl true)) := by rw [hx]; rfl
      have hlen : lenD [wk d] = some (.val (.int xs.length)) := by rw [hx]; rfl
      rw [hx] at pl
      obtain ⟨hl, pls⟩ := plD_tup pl
      cases nd with
      | int n =>
        simp only [rowsB, hx, hs, Bool.true_and] at h
        refine ⟨_, _, rfl, h3, _, rfl, b0 (wt_b (we_op (we_cb (wa_cons (we_im rfl (wa_nil ⟨_, _, rfl, hlen, we_c ⟨_, _, _, rfl, rfl, rfl, _, rfl, ?_⟩⟩))))))⟩
        refine bt (fun h20 => ?_) (fun h20 => ?_)
        · exact wp_raise (then_ex (end_ex ⟨_, rfl, rfl⟩))
        · refine wp_next (then_nx (wp_seq (wp_if (wt_not (wt_b (we_cb (wa_cons (lc_conds w n hl pls hit (wa_nil ⟨_, _, rfl, all_bools _ _, _, rfl, ?_⟩)))))))))
          have : xs.all (condB n) = false := by
            rw [show decide (xs.length ≤ 20) = true by simp; omega, Bool.true_and] at h
            exact h
          rw [this]
          exact b1 (wp_raise (then_ex (end_ex ⟨_, rfl, rfl⟩)))
      | _ => exact absurd hs (by simp [spB])
theorem lines_good (n : Int) (hn : 2 ≤ n ∧ n ≤ 8) (d : D) (ks : List P2) (hd : d = .tup (ks.map kD) ∨ d = .tpp (ks.map kD)) (h20 : ks.length ≤ 20) (hv : ∀ k ∈ ks, Vk n k) : ∃ l, F_d13_lines_fulfilling w [.int n, d] = some (.ok (.val (.int (cf l (n - 1, n - 1)))) []) ∧ Vd n l ∧ ∀ F, S l F = Lf n ks.reverse F := by
  have hx : wk d = .tup (ks.map kD) := by rcases hd with rfl | rfl <;> rfl
  have hit : itemsD d = some (ks.map kD) := by rcases hd with rfl | rfl <;> rfl
  have h3 : isiD "tuple" (wk d) = some (.val (.bl true)) := by rw [hx]; rfl
  have hlen : lenD [wk d] = some (.val (.int (ks.map kD).length)) := by rw [hx]; rfl
  have pls : ∀ ks : List P2, plDs (ks.map kD) = true := fun ks => by
    induction ks with
    | nil => rfl
    | cons a r ih => simp only [List.map_cons, plDs, ih, Bool.and_true]; rfl
  have hall : (ks.map kD).all (condB n) = true := by
    rw [List.all_eq_true]
    intro x hx
    obtain ⟨k, hk, rfl⟩ := List.mem_map.mp hx
    have := hv k hk
    simp [condB, condL, kD, intsD, Vk] at this ⊢
    omega
  suffices hs : Wf (F_d13_lines_fulfilling w) [.int n, d] (fun r => ∃ l, r = .ok (.val (.int (cf l (n - 1, n - 1)))) [] ∧ Vd n l ∧ ∀ F, S l F = Lf n ks.reverse F) by
    obtain ⟨r, e, l', rfl, h1, h2⟩ := hs
    exact ⟨l', e, h1, h2⟩
  unfold F_d13_lines_fulfilling m_d13_lines_fulfilling
  have hsp : spB (.int n) = true := by simp [spB, hn]
  refine wf_run (wp_seq (wp_if (wt_or (wt_not (wt_b (we_call (wa_cons (we_im rfl (wa_nil (ev_args rfl (ev_funV (is_space_ok w (.int n) rfl) ⟨_, rfl, ?_⟩)))))))))))
  rw [hsp]
  refine b0 (wt_or (wt_not (wt_b (we_un (we_im rfl ⟨_, _, rfl, h3, _, rfl, b0 (wt_b (we_op (we_cb (wa_cons (we_im rfl (wa_nil ⟨_, _, rfl, hlen, we_c ⟨_, _, _, rfl, rfl, rfl, _, rfl, ?_⟩⟩))))))⟩)))))
  refine bt (fun h => ?_) (fun _ => ?_)
  · simp at h; omega
  refine wp_next (then_nx (wp_seq (wp_if (wt_not (wt_b (we_cb (wa_cons (lc_conds w n (by simp; omega) (pls ks) hit (wa_nil ⟨_, _, rfl, all_bools _ _, _, rfl, ?_⟩)))))))))
  rw [hall]
  refine b0 (wp_next (then_nx (wp_seq (wp_set (we_frzV (we_dis1 (we_tup (wa_cons (we_c (wa_cons (we_c (wa_nil ⟨_, rfl, by decide, ?_⟩))))))))))))
  refine ⟨_, rfl, we_c ⟨_, _, rfl, keyT_kD (0, 0), .inr (.inl ⟨_, rfl, .inl ⟨_, rfl, then_nx ?_⟩⟩)⟩⟩
  refine wp_seq (wp_for (fun rem ρ => ∃ (p r : List P2) (l : AL) (s2 : Sl), ρ = [.im (.int n), .im d, s2, .im (dicE l)] ∧ rem = r.map kD ∧ ks = p ++ r ∧ Vd n l ∧ ∀ F, S l F = Lf n p.reverse F) ?_ ?_ ?_)
  · refine wi_seq (we_im rfl ⟨_, _, rfl, hit, [], ks, [((0, 0), 1)], _, rfl, rfl, rfl, ?_, ?_⟩)
    · exact (Vd.nil n).put (k := (0, 0)) (v := 1) ⟨by simp, by simp, by simp; omega⟩
    · intro F
      simp [S_cons, S_nil, Lf]
  · rintro x r ρ ⟨p, r', l, s2, rfl, e0, e1, v, hS⟩
    cases r' with
    | nil => cases e0
    | cons o r' =>
      cases e0
      obtain ⟨l', e, v', hS'⟩ := times_ok w n hn.2 l v o (hv o (by rw [e1]; simp))
      refine ⟨_, rfl, wp_set (we_call (wa_cons (we_im rfl (wa_cons (we_im rfl (wa_cons (we_im rfl (wa_nil (ev_args rfl (ev_funV e (.inl ⟨_, rfl, turn_nx ?_⟩)))))))))))⟩
      refine ⟨p ++ [o], r', l', _, rfl, rfl, by simp [e1], v', fun F => ?_⟩
      rw [hS' F, hS, List.reverse_append]
      rfl
  · rintro ρ ⟨p, r', l, s2, rfl, e0, e1, v, hS⟩
    have : r' = [] := by cases r' with
      | nil => rfl
      | cons x r => cases e0
    subst this
    rw [List.append_nil] at e1
    subst e1
    refine then_nx (wp_ret (we_meth (we_im rfl ⟨_, rfl, rfl, ?_⟩)))
    refine wa_cons (we_tup (wa_cons (we_op (we_im rfl (we_c ⟨_, _, _, rfl, rfl, rfl, ?_⟩)))))
    refine wa_cons (we_op (we_im rfl (we_c ⟨_, _, _, rfl, rfl, rfl, wa_nil ⟨_, rfl, Nat.le_of_ble_eq_true rfl, ?_⟩⟩)))
    refine wa_cons (we_c (wa_nil ⟨_, _, _, rfl, rfl, getM_P _ _ _ _, ?_⟩))
    exact end_rt ⟨_, _, rfl, rfl, l, rfl, v, hS⟩
end K56

set_option Elab.async false
set_option linter.all false
set_option maxRecDepth 100000
set_option maxHeartbeats 4000000
namespace K56
open PySem PySem.Spec PyProof.Rows L2 DL MB
variable (w : World)
/-! nothing odd in a result -/
abbrev oddW : D := .str (Str.ofString "a word that nothing else is")
theorem oddW_ok : oddW.cmpOk = true := by decide +kernel
theorem eq_oddW (d : D) (h : d.cmpOk = true) (e : PyData.eqv d.py oddW.py = false) : cmpB eqD d oddW = some (.val (.bl false)) := by
  unfold cmpB eqD
  rw [h, oddW_ok, e]
  rfl
theorem odd_int (k : Nat) (v : Int) : F_d16_law_odd_n w (k + 1) [.int v] = some (.ok (.val (.bl false)) []) := by
  apply wf_eq
  simp only [F_d16_law_odd_n]
  unfold m_d16_law_odd
  refine wf_run (wp_seq (wp_if (wt_b (we_op (we_im rfl (we_c ⟨_, _, _, rfl, rfl, eq_oddW (.int v) rfl (by simp [D.py, PyData.eqv]), _, rfl, b0 (wp_next (then_nx ?_))⟩))))))
  repeat' (first | refine ⟨_, _, _, rfl, rfl, MB.getM_P _ _ _ _, ?_⟩ | refine we_im rfl ?_ | refine we_mu rfl ?_ | refine we_op ?_ | refine we_un ?_ | refine we_cb ?_ | refine we_cbS ?_ | refine we_frzV ?_ | refine wa_nil ?_ | refine wa_cons ?_ | refine we_tup ?_ | refine we_lst ?_ | refine we_newT ?_ | refine we_dis1 ?_ | refine we_meth ?_ | refine we_if ?_ | refine we_and ?_ | refine we_or ?_ | refine we_not ?_ | refine we_chain ?_ | refine we_chain3 ?_ | refine wo_none ?_ | refine wo_some ?_ | refine we_slice ?_ | refine we_call ?_ | refine we_c ?_ | refine wt_b ?_ | refine wt_and ?_ | refine wt_or ?_ | refine wt_not ?_ | refine wt_yes ?_ | refine wp_seq ?_ | refine wp_if ?_ | refine wp_ret ?_ | refine wp_drop ?_ | refine wp_set ?_ | refine wp_store ?_ | refine wp_asgP ?_ | refine wp_par2 ?_ | refine wp_par3 ?_ | refine wp_next ?_ | refine wp_raise ?_ | refine wp_retN ?_ | refine wx_of ?_ | refine wxs_nil ?_ | refine wxs_cons ?_ | refine wx_tup ?_ | refine wx_if ?_ | refine wx_call ?_ | refine wx_callX ?_ | refine wp_retX ?_ | refine wp_dropX ?_ | refine ev_len rfl rfl ?_ | refine ⟨_, _, _, rfl, rfl, rfl, ?_⟩ | refine ⟨_, _, rfl, rfl, ?_⟩ | refine ⟨_, rfl, rfl, ?_⟩ | refine ⟨_, rfl, ?_⟩ | refine .inl ⟨_, rfl, ?_⟩ | refine .inr (.inl ⟨_, rfl, ?_⟩) | refine .inr (.inr ⟨_, _, rfl, rfl, ?_⟩) | refine .inr ⟨_, rfl, ?_⟩ | refine ⟨_, rfl, by first | decide | (simp; done), ?_⟩ | refine ev_args rfl ?_ | refine .inl ⟨_, _, rfl, ?_⟩ | refine .inr ⟨_, _, rfl, ?_⟩ | refine ev_par3 rfl ?_ | refine end_rt ⟨_, _, rfl, rfl, ?_⟩ | refine end_nx ⟨_, rfl, ?_⟩ | refine end_ex ⟨_, rfl, ?_⟩ | refine then_nx ?_ | refine then_rt ?_ | refine then_ex ?_ | refine turn_nx ?_ | refine turn_rt ?_ | refine b1 ?_ | refine b0 ?_ | refine ⟨_, _, _, rfl, rfl, mulD_int (mulOk_small (by decide) (by decide)), ?_⟩ | refine ⟨_, _, _, rfl, rfl, MB.ixA_P (by assumption), ?_⟩ | refine ⟨_, _, _, rfl, rfl, MB.stD_P (by first | assumption | omega), ?_⟩ | fail)
  rfl
theorem odd_tup (k : Nat) (d : D) (xs : List D) (hd : d = .tup xs ∨ d = .tpp xs) (hl : xs.length ≤ 1000000) (h : (D.tup xs).cmpOk = true) (hx : ∀ x ∈ xs, F_d16_law_odd_n w k [x] = some (.ok (.val (.bl false)) [])) : F_d16_law_odd_n w (k + 1) [d] = some (.ok (.val (.bl false)) []) := by
  have hwk : wk d = .tup xs := by rcases hd with rfl | rfl <;> rfl
  have hit : itemsD d = some xs := by rcases hd with rfl | rfl <;> rfl
  have he : cmpB eqD (wk d) oddW = some (.val (.bl false)) := by rw [hwk]; exact eq_oddW _ h (by simp [D.py, PyData.eqv]; try rfl)
  have hty : isi2D "tuple" "list" (wk d) = some (.val (.bl true)) := by rw [hwk]; rfl
  apply wf_eq
  simp only [F_d16_law_odd_n]
  unfold m_d16_law_odd
  refine wf_run (wp_seq (wp_if (wt_b (we_op (we_im rfl (we_c ⟨_, _, _, rfl, rfl, he, _, rfl, b0 (wp_next (then_nx ?_))⟩))))))
  refine wp_ret (we_and (we_un (we_im rfl ⟨_, _, rfl, hty, _, rfl, b1 ?_⟩)))
  refine we_op (we_cb (wa_cons (we_lc (fun ρ0 rem acc ρ => ρ0 = [.im d, .un] ∧ ρ = [.im d, .un] ∧ (∃ p, xs = p ++ rem) ∧ acc = []) ?_ ?_ ?_)))
  · exact wi_seq (we_im rfl ⟨_, _, rfl, hit, hl, rfl, rfl, ⟨[], rfl⟩, rfl⟩)
  · rintro ρ0 x r acc ρ ⟨rfl, rfl, ⟨p, e1⟩, rfl⟩
    refine ⟨_, rfl, wt_b (we_call (wa_cons (we_im rfl (wa_nil (ev_args rfl (ev_funV (hx x (by rw [e1]; simp)) ⟨_, rfl, b0 ⟨rfl, rfl, ⟨p ++ [x], by simp [e1]⟩, rfl⟩⟩))))))⟩
  · rintro ρ0 acc ρ ⟨rfl, rfl, ⟨p, e1⟩, rfl⟩
    repeat' (first | refine ⟨_, _, _, rfl, rfl, MB.getM_P _ _ _ _, ?_⟩ | refine we_im rfl ?_ | refine we_mu rfl ?_ | refine we_op ?_ | refine we_un ?_ | refine we_cb ?_ | refine we_cbS ?_ | refine we_frzV ?_ | refine wa_nil ?_ | refine wa_cons ?_ | refine we_tup ?_ | refine we_lst ?_ | refine we_newT ?_ | refine we_dis1 ?_ | refine we_meth ?_ | refine we_if ?_ | refine we_and ?_ | refine we_or ?_ | refine we_not ?_ | refine we_chain ?_ | refine we_chain3 ?_ | refine wo_none ?_ | refine wo_some ?_ | refine we_slice ?_ | refine we_call ?_ | refine we_c ?_ | refine wt_b ?_ | refine wt_and ?_ | refine wt_or ?_ | refine wt_not ?_ | refine wt_yes ?_ | refine wp_seq ?_ | refine wp_if ?_ | refine wp_ret ?_ | refine wp_drop ?_ | refine wp_set ?_ | refine wp_store ?_ | refine wp_asgP ?_ | refine wp_par2 ?_ | refine wp_par3 ?_ | refine wp_next ?_ | refine wp_raise ?_ | refine wp_retN ?_ | refine wx_of ?_ | refine wxs_nil ?_ | refine wxs_cons ?_ | refine wx_tup ?_ | refine wx_if ?_ | refine wx_call ?_ | refine wx_callX ?_ | refine wp_retX ?_ | refine wp_dropX ?_ | refine ev_len rfl rfl ?_ | refine ⟨_, _, _, rfl, rfl, rfl, ?_⟩ | refine ⟨_, _, rfl, rfl, ?_⟩ | refine ⟨_, rfl, rfl, ?_⟩ | refine ⟨_, rfl, ?_⟩ | refine .inl ⟨_, rfl, ?_⟩ | refine .inr (.inl ⟨_, rfl, ?_⟩) | refine .inr (.inr ⟨_, _, rfl, rfl, ?_⟩) | refine .inr ⟨_, rfl, ?_⟩ | refine ⟨_, rfl, by first | decide | (simp; done), ?_⟩ | refine ev_args rfl ?_ | refine .inl ⟨_, _, rfl, ?_⟩ | refine .inr ⟨_, _, rfl, ?_⟩ | refine ev_par3 rfl ?_ | refine end_rt ⟨_, _, rfl, rfl, ?_⟩ | refine end_nx ⟨_, rfl, ?_⟩ | refine end_ex ⟨_, rfl, ?_⟩ | refine then_nx ?_ | refine then_rt ?_ | refine then_ex ?_ | refine turn_nx ?_ | refine turn_rt ?_ | refine b1 ?_ | refine b0 ?_ | refine ⟨_, _, _, rfl, rfl, mulD_int (mulOk_small (by decide) (by decide)), ?_⟩ | refine ⟨_, _, _, rfl, rfl, MB.ixA_P (by assumption), ?_⟩ | refine ⟨_, _, _, rfl, rfl, MB.stD_P (by first | assumption | omega), ?_⟩ | fail)
    rfl
theorem shaped_sum (l : AL) : (D.tup (l.map pE)).cmpOk = true := by
  have h1 : ∀ l : AL, PyData.canLayAll0 (D.pys (l.map pE)) = true := fun l => by
    induction l with
    | nil => rfl
    | cons x r ih => simp only [List.map_cons, D.pys, PyData.canLayAll0, ih, Bool.and_true]; rfl
  have h2 : ∀ l : AL, PyData.depthAll (D.pys (l.map pE)) ≤ 3 := fun l => by
    induction l with
    | nil => simp [D.pys, PyData.depthAll]
    | cons x r ih =>
      simp only [List.map_cons, D.pys, PyData.depthAll]
      refine Nat.max_le.mpr ⟨?_, ih⟩
      exact Nat.le_of_ble_eq_true rfl
  unfold D.cmpOk SeqAt.shaped
  simp only [D.py, PyData.canLay0, PyData.depth, h1, Bool.true_and, decide_eq_true_eq]
  have := h2 l
  omega
theorem cmpOk_kD (k : P2) : (kD k).cmpOk = true := by cases k; rfl
theorem cmpOk_pE (x : P2 × Int) : (pE x).cmpOk = true := by obtain ⟨⟨a, b⟩, v⟩ := x; rfl
theorem odd_pE (k : Nat) (x : P2 × Int) : F_d16_law_odd_n w (k + 3) [pE x] = some (.ok (.val (.bl false)) []) := by
  refine odd_tup w (k + 2) _ [kD x.1, .int x.2] (.inl rfl) (by simp) (cmpOk_pE x) (fun y hy => ?_)
  rcases List.mem_cons.mp hy with rfl | hy
  · refine odd_tup w (k + 1) _ [.int x.1.1, .int x.1.2] (.inl rfl) (by simp) (cmpOk_kD _) (fun y hy => ?_)
    rcases List.mem_cons.mp hy with rfl | hy
    · exact odd_int w k _
    · rcases List.mem_cons.mp hy with rfl | hy
      · exact odd_int w k _
      · exact nomatch hy
  · rcases List.mem_cons.mp hy with rfl | hy
    · exact odd_int w (k + 1) _
    · exact nomatch hy
theorem odd_sum (l : AL) (hl : l.length ≤ 1000000) : F_d16_law_odd w [sumE l] = some (.ok (.val (.bl false)) []) := by
  refine odd_tup w 11 _ (l.map pE) (.inr rfl) (by simpa using hl) (shaped_sum l) (fun y hy => ?_)
  obtain ⟨x, _, rfl⟩ := List.mem_map.mp hy
  exact odd_pE w 8 x
theorem honest_int (v : Int) : F_d17_law_honest w [.int v] = some (.ok (.val (.int v)) []) := by
  apply wf_eq
  unfold F_d17_law_honest m_d17_law_honest
  refine wf_run (wp_ret (we_if (wt_b (we_call (wa_cons (we_im rfl (wa_nil (ev_args rfl (ev_funV (odd_int w 11 v) ⟨_, rfl, b0 ?_⟩)))))))))
  repeat' (first | refine ⟨_, _, _, rfl, rfl, MB.getM_P _ _ _ _, ?_⟩ | refine we_im rfl ?_ | refine we_mu rfl ?_ | refine we_op ?_ | refine we_un ?_ | refine we_cb ?_ | refine we_cbS ?_ | refine we_frzV ?_ | refine wa_nil ?_ | refine wa_cons ?_ | refine we_tup ?_ | refine we_lst ?_ | refine we_newT ?_ | refine we_dis1 ?_ | refine we_meth ?_ | refine we_if ?_ | refine we_and ?_ | refine we_or ?_ | refine we_not ?_ | refine we_chain ?_ | refine we_chain3 ?_ | refine wo_none ?_ | refine wo_some ?_ | refine we_slice ?_ | refine we_call ?_ | refine we_c ?_ | refine wt_b ?_ | refine wt_and ?_ | refine wt_or ?_ | refine wt_not ?_ | refine wt_yes ?_ | refine wp_seq ?_ | refine wp_if ?_ | refine wp_ret ?_ | refine wp_drop ?_ | refine wp_set ?_ | refine wp_store ?_ | refine wp_asgP ?_ | refine wp_par2 ?_ | refine wp_par3 ?_ | refine wp_next ?_ | refine wp_raise ?_ | refine wp_retN ?_ | refine wx_of ?_ | refine wxs_nil ?_ | refine wxs_cons ?_ | refine wx_tup ?_ | refine wx_if ?_ | refine wx_call ?_ | refine wx_callX ?_ | refine wp_retX ?_ | refine wp_dropX ?_ | refine ev_len rfl rfl ?_ | refine ⟨_, _, _, rfl, rfl, rfl, ?_⟩ | refine ⟨_, _, rfl, rfl, ?_⟩ | refine ⟨_, rfl, rfl, ?_⟩ | refine ⟨_, rfl, ?_⟩ | refine .inl ⟨_, rfl, ?_⟩ | refine .inr (.inl ⟨_, rfl, ?_⟩) | refine .inr (.inr ⟨_, _, rfl, rfl, ?_⟩) | refine .inr ⟨_, rfl, ?_⟩ | refine ⟨_, rfl, by first | decide | (simp; done), ?_⟩ | refine ev_args rfl ?_ | refine .inl ⟨_, _, rfl, ?_⟩ | refine .inr ⟨_, _, rfl, ?_⟩ | refine ev_par3 rfl ?_ | refine end_rt ⟨_, _, rfl, rfl, ?_⟩ | refine end_nx ⟨_, rfl, ?_⟩ | refine end_ex ⟨_, rfl, ?_⟩ | refine then_nx ?_ | refine then_rt ?_ | refine then_ex ?_ | refine turn_nx ?_ | refine turn_rt ?_ | refine b1 ?_ | refine b0 ?_ | refine ⟨_, _, _, rfl, rfl, mulD_int (mulOk_small (by decide) (by decide)), ?_⟩ | refine ⟨_, _, _, rfl, rfl, MB.ixA_P (by assumption), ?_⟩ | refine ⟨_, _, _, rfl, rfl, MB.stD_P (by first | assumption | omega), ?_⟩ | fail)
  rfl
theorem honest_sum (l : AL) (hl : l.length ≤ 1000000) : F_d17_law_honest w [sumE l] = some (.ok (.val (sumE l)) []) := by
  apply wf_eq
  unfold F_d17_law_honest m_d17_law_honest
  refine wf_run (wp_ret (we_if (wt_b (we_call (wa_cons (we_im rfl (wa_nil (ev_args rfl (ev_funV (odd_sum w l hl) ⟨_, rfl, b0 ?_⟩)))))))))
  repeat' (first | refine ⟨_, _, _, rfl, rfl, MB.getM_P _ _ _ _, ?_⟩ | refine we_im rfl ?_ | refine we_mu rfl ?_ | refine we_op ?_ | refine we_un ?_ | refine we_cb ?_ | refine we_cbS ?_ | refine we_frzV ?_ | refine wa_nil ?_ | refine wa_cons ?_ | refine we_tup ?_ | refine we_lst ?_ | refine we_newT ?_ | refine we_dis1 ?_ | refine we_meth ?_ | refine we_if ?_ | refine we_and ?_ | refine we_or ?_ | refine we_not ?_ | refine we_chain ?_ | refine we_chain3 ?_ | refine wo_none ?_ | refine wo_some ?_ | refine we_slice ?_ | refine we_call ?_ | refine we_c ?_ | refine wt_b ?_ | refine wt_and ?_ | refine wt_or ?_ | refine wt_not ?_ | refine wt_yes ?_ | refine wp_seq ?_ | refine wp_if ?_ | refine wp_ret ?_ | refine wp_drop ?_ | refine wp_set ?_ | refine wp_store ?_ | refine wp_asgP ?_ | refine wp_par2 ?_ | refine wp_par3 ?_ | refine wp_next ?_ | refine wp_raise ?_ | refine wp_retN ?_ | refine wx_of ?_ | refine wxs_nil ?_ | refine wxs_cons ?_ | refine wx_tup ?_ | refine wx_if ?_ | refine wx_call ?_ | refine wx_callX ?_ | refine wp_retX ?_ | refine wp_dropX ?_ | refine ev_len rfl rfl ?_ | refine ⟨_, _, _, rfl, rfl, rfl, ?_⟩ | refine ⟨_, _, rfl, rfl, ?_⟩ | refine ⟨_, rfl, rfl, ?_⟩ | refine ⟨_, rfl, ?_⟩ | refine .inl ⟨_, rfl, ?_⟩ | refine .inr (.inl ⟨_, rfl, ?_⟩) | refine .inr (.inr ⟨_, _, rfl, rfl, ?_⟩) | refine .inr ⟨_, rfl, ?_⟩ | refine ⟨_, rfl, by first | decide | (simp; done), ?_⟩ | refine ev_args rfl ?_ | refine .inl ⟨_, _, rfl, ?_⟩ | refine .inr ⟨_, _, rfl, ?_⟩ | refine ev_par3 rfl ?_ | refine end_rt ⟨_, _, rfl, rfl, ?_⟩ | refine end_nx ⟨_, rfl, ?_⟩ | refine end_ex ⟨_, rfl, ?_⟩ | refine then_nx ?_ | refine then_rt ?_ | refine then_ex ?_ | refine turn_nx ?_ | refine turn_rt ?_ | refine b1 ?_ | refine b0 ?_ | refine ⟨_, _, _, rfl, rfl, mulD_int (mulOk_small (by decide) (by decide)), ?_⟩ | refine ⟨_, _, _, rfl, rfl, MB.ixA_P (by assumption), ?_⟩ | refine ⟨_, _, _, rfl, rfl, MB.stD_P (by first | assumption | omega), ?_⟩ | fail)
  rfl
end K56

set_option Elab.async false
set_option linter.all false
set_option maxRecDepth 100000
set_option maxHeartbeats 4000000
namespace K56
open PySem PySem.Spec PyProof.Rows L2 DL MB
variable (w : World)
/-! the same -/
theorem same_int (k : Nat) (v : Int) : F_d20_law_same_n w (k + 1) [.int v, .int v] = some (.ok (.val (.bl true)) []) := by
  apply wf_eq
  simp only [F_d20_law_same_n]
  unfold m_d20_law_same
  refine wf_run (wp_seq (wp_if (wt_b (we_un (we_im rfl ⟨_, _, rfl, rfl, _, rfl, b0 (wp_next (then_nx ?_))⟩)))))
  refine wp_seq (wp_if (wt_b (we_un (we_im rfl ⟨_, _, rfl, rfl, _, rfl, b0 (wp_next (then_nx ?_))⟩))))
  refine wp_seq (wp_if (wt_b (we_un (we_im rfl ⟨_, _, rfl, rfl, _, rfl, b0 (wp_next (then_nx ?_))⟩))))
  refine wp_seq (wp_if (wt_b (we_op (we_im rfl (we_c ⟨_, _, _, rfl, rfl, rfl, _, rfl, b0 (wp_next (then_nx ?_))⟩)))))
  refine wp_ret (we_and (we_call (wa_cons (we_im rfl (wa_nil (ev_args rfl (ev_funV (law_is_whole_pl w (.int v) rfl) ⟨_, rfl, b1 ?_⟩)))))))
  refine we_op (we_im rfl (we_im rfl ⟨_, _, _, rfl, rfl, cmp_eqD v v, end_rt ⟨_, _, rfl, rfl, ?_⟩⟩))
  simp
theorem same_told (k : Nat) : F_d20_law_same_n w (k + 1) [.str "told", .str "told"] = some (.ok (.val (.bl true)) []) := by
  have he : cmpB eqD (.str "told") (.str "told") = some (.val (.bl true)) := by
    unfold cmpB eqD
    rw [show (D.str (Str.ofString "told")).cmpOk = true by decide +kernel]
    simp [D.py, PyData.eqv]
  apply wf_eq
  simp only [F_d20_law_same_n]
  unfold m_d20_law_same
  refine wf_run (wp_seq (wp_if (wt_b (we_un (we_im rfl ⟨_, _, rfl, rfl, _, rfl, b0 (wp_next (then_nx ?_))⟩)))))
  refine wp_seq (wp_if (wt_b (we_un (we_im rfl ⟨_, _, rfl, rfl, _, rfl, b0 (wp_next (then_nx ?_))⟩))))
  refine wp_seq (wp_if (wt_b (we_un (we_im rfl ⟨_, _, rfl, rfl, _, rfl, b1 ?_⟩))))
  refine wp_ret (we_and (we_un (we_im rfl ⟨_, _, rfl, rfl, _, rfl, b1 ?_⟩)))
  exact we_op (we_im rfl (we_im rfl ⟨_, _, _, rfl, rfl, he, then_rt (end_rt ⟨_, _, rfl, rfl, rfl⟩)⟩))
theorem same_tup (k : Nat) (a b : D) (xs ys : List D) (ha : wk a = .tup xs) (hb : wk b = .tup ys) (hl : xs.length ≤ 1000000) (hxy : xs.length = ys.length)
    (h : ∀ (i : Nat) (x y : D), xs[i]? = some x → ys[i]? = some y → F_d20_law_same_n w k [x, y] = some (.ok (.val (.bl true)) [])) : F_d20_law_same_n w (k + 1) [a, b] = some (.ok (.val (.bl true)) []) := by
  have h1 : isiD "bool" (wk b) = some (.val (.bl false)) := by rw [hb]; rfl
  have h2 : isiD "tuple" (wk b) = some (.val (.bl true)) := by rw [hb]; rfl
  have h3 : isiD "tuple" (wk a) = some (.val (.bl true)) := by rw [ha]; rfl
  have l1 : lenD [wk a] = some (.val (.int xs.length)) := by rw [ha]; rfl
  have l2 : lenD [wk b] = some (.val (.int ys.length)) := by rw [hb]; rfl
  apply wf_eq
  simp only [F_d20_law_same_n]
  unfold m_d20_law_same
  refine wf_run (wp_seq (wp_if (wt_b (we_un (we_im rfl ⟨_, _, rfl, h1, _, rfl, b0 (wp_next (then_nx ?_))⟩)))))
  refine wp_seq (wp_if (wt_b (we_un (we_im rfl ⟨_, _, rfl, h2, _, rfl, b1 ?_⟩))))
  refine wp_ret (we_and (we_un (we_im rfl ⟨_, _, rfl, h3, _, rfl, b1 ?_⟩)))
  refine we_and (we_op (we_cb (wa_cons (we_im rfl (wa_nil ⟨_, _, rfl, l1, we_cb (wa_cons (we_im rfl (wa_nil ⟨_, _, rfl, l2, _, _, _, rfl, rfl, cmp_eqD _ _, _, rfl, ?_⟩)))⟩)))))
  rw [show decide ((xs.length : Int) = ys.length) = true by simp [hxy]]
  refine b1 (we_cb (wa_cons (we_lc (fun ρ0 rem acc ρ => ρ0 = [.im a, .im b, .un] ∧ ρ = [.im a, .im b, .un] ∧ ∃ (j m : Nat) (bs : List Bool), rem = rngL (j : Int) m ∧ j + m = ys.length ∧ acc = bs.map D.bl ∧ bs.all id = true) ?_ ?_ ?_)))
  · refine wi_rng1 (wa_cons (we_cb (wa_cons (we_im rfl (wa_nil ⟨_, _, rfl, l2, wa_nil ⟨_, rfl, by omega, by omega, ?_, rfl, rfl, 0, ys.length, [], rfl, by omega, rfl, rfl⟩⟩)))))
    simp [rngL]
    omega
  · rintro ρ0 x r acc ρ ⟨rfl, rfl, j, m, bs, e1, e2, rfl, e3⟩
    cases m with
    | zero => cases e1
    | succ m =>
      rw [rngL_succ] at e1
      cases e1
      have hx := ixA_at (d := a) ha (j := j) (List.getElem?_eq_getElem (by omega))
      have hy := ixA_at (d := b) hb (j := j) (List.getElem?_eq_getElem (by omega))
      refine ⟨_, rfl, wt_yes ⟨fun _ => ?_, fun h => nomatch h⟩⟩
      refine we_call (wa_cons (we_op (we_im rfl (we_im rfl ⟨_, _, _, rfl, rfl, hx, wa_cons (we_op (we_im rfl (we_im rfl ⟨_, _, _, rfl, rfl, hy, wa_nil (ev_args rfl (ev_funV (h j _ _ (List.getElem?_eq_getElem (by omega)) (List.getElem?_eq_getElem (by omega))) ?_))⟩)))⟩))))
      exact ⟨_, rfl, rfl, rfl, j + 1, m, bs ++ [true], by rw [show ((j + 1 : Nat) : Int) = (j : Int) + 1 by omega], by omega, by simp, by simp [e3]⟩
  · rintro ρ0 acc ρ ⟨rfl, rfl, j, m, bs, e1, e2, rfl, e3⟩
    have hall : allD [.lst (bs.map D.bl)] = some (.val (.bl true)) := by
      show (match bools (bs.map D.bl) with
        | some bs => some (RV.val (.bl (bs.all id)))
        | none => none) = _
      rw [bools_bl]
      simp only
      rw [e3]
    exact wa_nil ⟨_, _, rfl, hall, then_rt (end_rt ⟨_, _, rfl, rfl, rfl⟩)⟩
end K56

set_option Elab.async false
set_option linter.all false
set_option maxRecDepth 100000
set_option maxHeartbeats 4000000
namespace K56
open PySem PySem.Spec PyProof.Rows L2 DL MB
variable (w : World)
/-! told -/
def toldD (d : D) : D := .tup [.str "told", d]
def malD : D := .tup [.str "malformed", .non]
theorem told0_good (nd f g : D) (m : AL) (hm : m.length ≤ 1000000) (h : F_d11_condition_product w [nd, f, g] = some (.ok (.val (sumE m)) [])) : F_d27_law_told w [.int 0, nd, f, g] = some (.ok (.val (toldD (sumE m))) []) := by
  apply wf_eq
  unfold F_d27_law_told m_d27_law_told
  refine wf_run (wp_tryM ?_)
  refine wp_seq (wp_if (wt_b (we_op (we_im rfl (we_c ⟨_, _, _, rfl, rfl, cmp_eqD 0 0, _, rfl, b1 ?_⟩)))))
  refine wp_retX (wx_tup (wxs_cons (wx_of (we_c (wxs_cons (wx_call (wxs_cons (wx_callX (wxs_cons (wx_of (we_im rfl (wxs_cons (wx_of (we_im rfl (wxs_cons (wx_of (we_im rfl (wxs_nil ⟨_, _, rfl, _, h, ⟨(fun _ z => nomatch z), ?_⟩⟩))))))))))))))))))
  refine wxs_nil ?_
  refine ⟨_, _, rfl, ev_funV (honest_sum w m hm) (wxs_nil ⟨_, rfl, Nat.le_of_ble_eq_true rfl, ?_⟩)⟩
  exact then_rt (end_rt ⟨_, _, rfl, rfl, rfl⟩)
theorem told0_mal (nd f g : D) (h : F_d11_condition_product w [nd, f, g] = some (.ex .mal [])) : F_d27_law_told w [.int 0, nd, f, g] = some (.ok (.val malD) []) := by
  apply wf_eq
  unfold F_d27_law_told m_d27_law_told
  refine wf_run (wp_tryM ?_)
  refine wp_seq (wp_if (wt_b (we_op (we_im rfl (we_c ⟨_, _, _, rfl, rfl, cmp_eqD 0 0, _, rfl, b1 ?_⟩)))))
  refine wp_retX (wx_tup (wxs_cons (wx_of (we_c (wxs_cons (wx_call (wxs_cons (wx_callX (wxs_cons (wx_of (we_im rfl (wxs_cons (wx_of (we_im rfl (wxs_cons (wx_of (we_im rfl (wxs_nil ⟨_, _, rfl, _, h, ?_⟩))))))))))))))))))
  exact then_ex (wp_ret (we_tup (wa_cons (we_c (wa_cons (we_c (wa_nil ⟨_, rfl, Nat.le_of_ble_eq_true rfl, end_rt ⟨_, _, rfl, rfl, rfl⟩⟩)))))))
theorem told1_good (nd f g : D) (v : Int) (h : F_d12_condition_number w [nd, f] = some (.ok (.val (.int v)) [])) : F_d27_law_told w [.int 1, nd, f, g] = some (.ok (.val (toldD (.int v))) []) := by
  apply wf_eq
  unfold F_d27_law_told m_d27_law_told
  refine wf_run (wp_tryM ?_)
  refine wp_seq (wp_if (wt_b (we_op (we_im rfl (we_c ⟨_, _, _, rfl, rfl, cmp_eqD 1 0, _, rfl, b0 (wp_next (then_nx ?_))⟩)))))
  refine wp_retX (wx_tup (wxs_cons (wx_of (we_c (wxs_cons (wx_call (wxs_cons (wx_if (wt_b (we_op (we_im rfl (we_c ⟨_, _, _, rfl, rfl, cmp_eqD 1 1, _, rfl, b1 ?_⟩))))))))))))
  refine wx_callX (wxs_cons (wx_of (we_im rfl (wxs_cons (wx_of (we_im rfl (wxs_nil ⟨_, _, rfl, _, h, ⟨(fun _ z => nomatch z), ?_⟩⟩)))))))
  refine wxs_nil ?_
  refine ⟨_, _, rfl, ev_funV (honest_int w v) (wxs_nil ⟨_, rfl, Nat.le_of_ble_eq_true rfl, ?_⟩)⟩
  exact end_rt ⟨_, _, rfl, rfl, rfl⟩
theorem told1_mal (nd f g : D) (h : F_d12_condition_number w [nd, f] = some (.ex .mal [])) : F_d27_law_told w [.int 1, nd, f, g] = some (.ok (.val malD) []) := by
  apply wf_eq
  unfold F_d27_law_told m_d27_law_told
  refine wf_run (wp_tryM ?_)
  refine wp_seq (wp_if (wt_b (we_op (we_im rfl (we_c ⟨_, _, _, rfl, rfl, cmp_eqD 1 0, _, rfl, b0 (wp_next (then_nx ?_))⟩)))))
  refine wp_retX (wx_tup (wxs_cons (wx_of (we_c (wxs_cons (wx_call (wxs_cons (wx_if (wt_b (we_op (we_im rfl (we_c ⟨_, _, _, rfl, rfl, cmp_eqD 1 1, _, rfl, b1 ?_⟩))))))))))))
  refine wx_callX (wxs_cons (wx_of (we_im rfl (wxs_cons (wx_of (we_im rfl (wxs_nil ⟨_, _, rfl, _, h, ?_⟩)))))))
  exact wp_ret (we_tup (wa_cons (we_c (wa_cons (we_c (wa_nil ⟨_, rfl, Nat.le_of_ble_eq_true rfl, end_rt ⟨_, _, rfl, rfl, rfl⟩⟩))))))
theorem told2_good (nd f g : D) (v : Int) (h : F_d13_lines_fulfilling w [nd, f] = some (.ok (.val (.int v)) [])) : F_d27_law_told w [.int 2, nd, f, g] = some (.ok (.val (toldD (.int v))) []) := by
  apply wf_eq
  unfold F_d27_law_told m_d27_law_told
  refine wf_run (wp_tryM ?_)
  refine wp_seq (wp_if (wt_b (we_op (we_im rfl (we_c ⟨_, _, _, rfl, rfl, cmp_eqD 2 0, _, rfl, b0 (wp_next (then_nx ?_))⟩)))))
  refine wp_retX (wx_tup (wxs_cons (wx_of (we_c (wxs_cons (wx_call (wxs_cons (wx_if (wt_b (we_op (we_im rfl (we_c ⟨_, _, _, rfl, rfl, cmp_eqD 2 1, _, rfl, b0 ?_⟩))))))))))))
  refine wx_callX (wxs_cons (wx_of (we_im rfl (wxs_cons (wx_of (we_im rfl (wxs_nil ⟨_, _, rfl, _, h, ⟨(fun _ z => nomatch z), ?_⟩⟩)))))))
  refine wxs_nil ?_
  refine ⟨_, _, rfl, ev_funV (honest_int w v) (wxs_nil ⟨_, rfl, Nat.le_of_ble_eq_true rfl, ?_⟩)⟩
  exact end_rt ⟨_, _, rfl, rfl, rfl⟩
theorem told2_mal (nd f g : D) (h : F_d13_lines_fulfilling w [nd, f] = some (.ex .mal [])) : F_d27_law_told w [.int 2, nd, f, g] = some (.ok (.val malD) []) := by
  apply wf_eq
  unfold F_d27_law_told m_d27_law_told
  refine wf_run (wp_tryM ?_)
  refine wp_seq (wp_if (wt_b (we_op (we_im rfl (we_c ⟨_, _, _, rfl, rfl, cmp_eqD 2 0, _, rfl, b0 (wp_next (then_nx ?_))⟩)))))
  refine wp_retX (wx_tup (wxs_cons (wx_of (we_c (wxs_cons (wx_call (wxs_cons (wx_if (wt_b (we_op (we_im rfl (we_c ⟨_, _, _, rfl, rfl, cmp_eqD 2 1, _, rfl, b0 ?_⟩))))))))))))
  refine wx_callX (wxs_cons (wx_of (we_im rfl (wxs_cons (wx_of (we_im rfl (wxs_nil ⟨_, _, rfl, _, h, ?_⟩)))))))
  exact wp_ret (we_tup (wa_cons (we_c (wa_cons (we_c (wa_nil ⟨_, rfl, Nat.le_of_ble_eq_true rfl, end_rt ⟨_, _, rfl, rfl, rfl⟩⟩))))))
end K56

set_option Elab.async false
set_option linter.all false
set_option maxRecDepth 100000
set_option maxHeartbeats 4000000
namespace K56
open PySem PySem.Spec PyProof.Rows L2 DL MB
/-! what is shown depends on the coefficients alone -/
theorem leP_trans (a b c : P2) (h1 : leP a b = true) (h2 : leP b c = true) : leP a c = true := by
  simp [leP] at *; omega
theorem leP_total (a b : P2) : (leP a b || leP b a) = true := by
  simp [leP]; omega
theorem leP_anti (a b : P2) (h1 : leP a b = true) (h2 : leP b a = true) : a = b := by
  simp [leP] at *
  obtain ⟨a1, a2⟩ := a
  obtain ⟨b1, b2⟩ := b
  simp at *
  omega
/-- the keys shown -/
def shK (l : AL) : List P2 := (sortP (l.map (·.1))).filter fun k => !decide (cf l k = 0)
theorem shL_def (l : AL) : shL l = (shK l).map fun k => (k, cf l k) := rfl
theorem cf_none {l : AL} {k : P2} (h : k ∉ l.map (·.1)) : cf l k = 0 := by
  unfold cf
  rw [look_none.mpr h]
  rfl
theorem shK_mem {l : AL} {k : P2} : k ∈ shK l ↔ cf l k ≠ 0 := by
  unfold shK
  rw [List.mem_filter, sortP_mem]
  constructor
  · rintro ⟨_, h⟩; simpa using h
  · intro h
    refine ⟨Classical.byContradiction fun z => h (cf_none z), by simpa using h⟩
theorem shK_sorted (l : AL) : (shK l).Pairwise (fun a b => leP a b = true) :=
  (List.pairwise_mergeSort leP_trans leP_total _).filter _
theorem shK_nodup {l : AL} (nd : (l.map (·.1)).Nodup) : (shK l).Nodup := by
  have h : (sortP (l.map (·.1))).Nodup := (List.mergeSort_perm _ _).nodup_iff.mpr nd
  exact List.Pairwise.filter _ h
theorem shL_ext {l m : AL} (nl : (l.map (·.1)).Nodup) (nm : (m.map (·.1)).Nodup) (h : ∀ k, cf l k = cf m k) : shL l = shL m := by
  have e : shK l = shK m := by
    refine List.Perm.eq_of_pairwise (fun a b _ _ => leP_anti a b) (shK_sorted l) (shK_sorted m) ?_
    rw [List.perm_ext_iff_of_nodup (shK_nodup nl) (shK_nodup nm)]
    intro k
    rw [shK_mem, shK_mem, h]
  rw [shL_def, shL_def, e]
  exact List.map_congr_left fun k _ => by rw [h]
/-- the shown has the same coefficients -/
theorem shL_keys (l : AL) : (shL l).map (·.1) = shK l := by
  rw [shL_def, List.map_map]
  exact List.map_id _
theorem look_map {g : P2 → Int} : ∀ {ks : List P2} {k : P2}, look (ks.map fun k => (k, g k)) k = if k ∈ ks then some (g k) else none
  | [], k => rfl
  | a :: r, k => by
    by_cases h : a = k
    · subst h
      simp [look]
    · have h2 : ¬ k = a := fun e => h e.symm
      simp [look, h, h2, look_map (ks := r)]
theorem cf_shL (l : AL) (k : P2) : cf (shL l) k = cf l k := by
  show ((look (shL l) k).getD 0) = _
  rw [shL_def, look_map]
  by_cases h : k ∈ shK l
  · rw [if_pos h]; rfl
  · rw [if_neg h]
    have := mt shK_mem.mpr h
    simp at this
    rw [this]; rfl
end K56

set_option Elab.async false
set_option linter.all false
set_option maxRecDepth 100000
set_option maxHeartbeats 4000000
namespace K56
open PySem PySem.Spec PyProof.Rows L2 DL MB
/-! the shown is a sum -/
theorem Vd.sh {n : Int} {l : AL} (h : Vd n l) : Vd n (shL l) where
  nd := by rw [shL_keys]; exact shK_nodup h.nd
  ks := fun k hk => by
    rw [shL_keys] at hk
    unfold shK at hk
    rw [List.mem_filter, sortP_mem] at hk
    exact h.ks k hk.1
theorem ltP_of {a b : P2} (h : leP a b = true) (ne : a ≠ b) : ltP a b = true := by
  have hab : a.1 < b.1 ∨ (a.1 = b.1 ∧ a.2 ≤ b.2) := by simpa [leP] using h
  unfold ltP
  rw [HT.lexLt_cons, HT.lexLt_cons]
  by_cases e : a.1 = b.1
  · rw [if_pos e]
    have : a.2 ≠ b.2 := fun e2 => ne (Prod.ext e e2)
    rw [if_neg this]
    simp
    omega
  · rw [if_neg e]
    simp
    omega
theorem srt_pairs : ∀ {l : AL}, l.Pairwise (fun x y => ltP x.1 y.1 = true) → srt (l.map pE) = true
  | [], _ => rfl
  | [a], _ => rfl
  | a :: b :: r, h => by
    rw [List.pairwise_cons] at h
    simp only [List.map_cons, srt, ltB_pE, Bool.and_eq_true]
    exact ⟨h.1 b List.mem_cons_self, srt_pairs (l := b :: r) h.2⟩
theorem shL_srt {l : AL} (nd : (l.map (·.1)).Nodup) : srt ((shL l).map pE) = true := by
  apply srt_pairs
  rw [shL_def, List.pairwise_map]
  exact ((shK_sorted l).and (shK_nodup nd)).imp fun h => ltP_of h.1 h.2
theorem pairB_pE {n : Int} {x : P2 × Int} (h : Vk n x.1) (hz : x.2 ≠ 0) : pairB n (pE x) = true := by
  obtain ⟨⟨a, b⟩, v⟩ := x
  obtain ⟨h1, h2, h3⟩ := h
  simp at h1 h2 h3 hz
  simp [pairB, pairL, pE, condB, condL, kD, intsD, isW, nzD, hz]
  omega
theorem sum_sh {n : Int} {l : AL} (h : Vd n l) : sumV n (sumE (shL l)) = true := by
  show sumB n ((shL l).map pE) = true
  unfold sumB
  rw [shL_srt h.nd, Bool.and_true, List.all_eq_true]
  intro d hd
  obtain ⟨x, hx, rfl⟩ := List.mem_map.mp hd
  have hk : x.1 ∈ (shL l).map (·.1) := List.mem_map_of_mem hx
  refine pairB_pE ((K56.Vd.sh h).ks _ hk) ?_
  rw [shL_def] at hx
  obtain ⟨k, hk2, rfl⟩ := List.mem_map.mp hx
  exact shK_mem.mp hk2
end K56

set_option Elab.async false
set_option linter.all false
set_option maxRecDepth 100000
set_option maxHeartbeats 4000000
namespace K56
open PySem PySem.Spec PyProof.Rows L2 DL MB
variable (w : World)
/-! products, commutative and associative -/
def Pr (n : Int) (l f g : AL) : Prop := ∀ F, S l F = S f (fun k => S g (fun p => U n k p F))
theorem mem_ks {n : Int} {l : AL} (h : Vd n l) {x : P2 × Int} (hx : x ∈ l) : Vk n x.1 := h.ks _ (List.mem_map_of_mem hx)
theorem joined_pr (n : Int) (hn : n ≤ 8) (f g : AL) (hf : Vd n f) (hg : Vd n g) (sm : Sm f ∨ Sm g) : ∃ l', F_d23_law_joined w [.int n, dicE f, dicE g] = some (.ok (.val (dicE l')) []) ∧ Vd n l' ∧ Pr n l' f g := by
  obtain ⟨l', e, v, h⟩ := joined_ok w n hn f g hf hg sm
  refine ⟨l', e, v, fun F => ?_⟩
  rw [h F]
  exact S_congr fun x hx => S_congr fun y hy => J_eq hn (mem_ks hf hx) (mem_ks hg hy) F
theorem Pr.comm {n : Int} {l f g : AL} (h : Pr n l f g) : Pr n l g f := fun F => by
  rw [h F, S_swap]
  exact S_congr fun y _ => S_congr fun x _ => U_comm n _ _ F
theorem Pr.cf {n : Int} {l m f g : AL} (h : Pr n l f g) (h2 : Pr n m f g) (vl : Vd n l) (vm : Vd n m) (k : P2) : MB.cf l k = MB.cf m k := by
  rw [← S_dl vl.nd, ← S_dl vm.nd, h, h2]
theorem U_S (n : Int) (k p : P2) (h : AL) (G : P2 → P2 → Int) : U n k p (fun m => S h (G m)) = S h (fun q => U n k p (fun m => G m q)) := by
  unfold U
  rw [S_sumN]
  refine sumN_congr fun i _ => ?_
  split
  · rfl
  · exact S_zero.symm
theorem Pr.assoc {n : Int} (hn : n ≤ 8) {f g h fg gh l m : AL} (vf : Vd n f) (vg : Vd n g) (vh : Vd n h) (h1 : Pr n fg f g) (h2 : Pr n gh g h) (h3 : Pr n l fg h) (h4 : Pr n m f gh) (F : P2 → Int) : S l F = S m F := by
  rw [h3 F, h4 F, h1]
  refine S_congr fun x hx => ?_
  rw [h2]
  refine S_congr fun y hy => ?_
  rw [U_S]
  exact S_congr fun z hz => U_assoc hn (mem_ks vf hx) (mem_ks vg hy) (mem_ks vh hz) F
end K56

set_option Elab.async false
set_option linter.all false
set_option maxRecDepth 100000
set_option maxHeartbeats 4000000
namespace K56
open PySem PySem.Spec PyProof.Rows L2 DL MB
theorem cat_ok : ∀ m : Nat, m < 7 → Lf ((m + 2 : Nat) : Int) (List.replicate (2 * m + 2) (1, 0)) (dl (((m + 1 : Nat) : Int), ((m + 1 : Nat) : Int))) = (fac (2 * m + 2)).fdiv (fac (m + 2) * fac (m + 1)) := by
  decide +kernel
end K56

set_option Elab.async false
set_option linter.all false
set_option maxRecDepth 100000
set_option maxHeartbeats 4000000
namespace K56
open PySem PySem.Spec PyProof.Rows L2 DL MB
variable (w : World)
theorem says_ok (b : Bool) : F_d18_law_says w [.bl b, .bl b] = some (.ok (.val (.bl true)) []) := by
  have he : cmpB eqD (.bl b) (.bl b) = some (.val (.bl true)) := by cases b <;> (unfold cmpB eqD; simp [D.cmpOk, SeqAt.shaped, D.py, PyData.canLay0, PyData.depth, PyData.eqv])
  apply wf_eq
  unfold F_d18_law_says m_d18_law_says
  refine wf_run (wp_ret (we_and (we_un (we_im rfl ⟨_, _, rfl, rfl, _, rfl, b1 ?_⟩))))
  exact we_op (we_im rfl (we_im rfl ⟨_, _, _, rfl, rfl, he, end_rt ⟨_, _, rfl, rfl, rfl⟩⟩))
/-- the first item of malD is the word -/
theorem ne_mal : cmpB neD (.str "malformed") (.str "malformed") = some (.val (.bl false)) := by
  unfold cmpB neD
  rw [show (D.str (Str.ofString "malformed")).cmpOk = true by decide +kernel]
  simp [D.py, PyData.eqv]
end K56

set_option Elab.async false
set_option linter.all false
set_option maxRecDepth 100000
set_option maxHeartbeats 4000000
namespace K56
open PySem PySem.Spec PyProof.Rows L2 DL MB
variable (w : World)
/-! the turn, statement by statement -/
theorem Sm3.sm' {l : AL} (h : Sm3 l) : Sm l := h.sm
theorem lw {n : Int} {l : AL} (h : Vd n l) (hn : n ≤ 8) : l.length ≤ 1000000 := by have := h.len hn; omega
theorem ne_sum (l m : AL) (e : l = m) : cmpB neD (.tup (l.map pE)) (.tup (m.map pE)) = some (.val (.bl false)) := by
  subst e
  unfold cmpB neD
  have h := shaped_sum l
  rw [h]
  have h2 : PyData.canLay0 (D.tup (l.map pE)).py = true := SeqAt.canLay_of_shaped h
  simp only [Bool.and_self, if_true, Option.map_some]
  rw [SeqAt.eqv_refl _ h2]
  rfl
end K56

set_option Elab.async false
set_option linter.all false
set_option maxRecDepth 100000
set_option maxHeartbeats 4000000
namespace K56
open PySem PySem.Spec PyProof.Rows L2 DL MB
variable (w : World)
section
variable {sc : D} {s : Int × Int} {x2 x3 x4 x5 x6 x7 x8 x9 x10 x11 x12 x13 x14 x15 x16 x17 x18 x19 x20 : Sl} {Q : Out → Prop}
theorem st1 (k : Q (.nx [.im sc, .mu (stE (takeS s 7)), x2, .im (.int (2 + takeV s 7)), x4, x5, x6, x7, x8, x9, x10, x11, x12, x13, x14, x15, x16, x17, x18, x19, x20])) :
    Wp (gSet 3 (fOp addD (fC (.int 2)) (fCallF [true, false] (F_d15_law_take w) (fCons (fVar 1) (fCons (fC (.int 7)) fNil))))) [.im sc, .mu (stE s), x2, x3, x4, x5, x6, x7, x8, x9, x10, x11, x12, x13, x14, x15, x16, x17, x18, x19, x20] Q := by
  refine wp_set (we_op (we_c (we_call (wa_cons (we_mu rfl (wa_cons (we_c (wa_nil (ev_args rfl (ev_funV (take_ok w s 7 (by omega) (by omega)) ?_))))))))))
  exact ⟨_, _, _, rfl, rfl, rfl, .inl ⟨_, rfl, k⟩⟩
theorem st2 (n : Int) (hn0 : 2 ≤ n) (hn : n ≤ 8) (k : ∀ s' f g h, Vd n f → Vd n g → Vd n h → Sm3 f → Sm3 g → Sm3 h → Q (.nx [.im sc, .mu (stE s'), x2, .im (.int n), .im (dicE f), .im (dicE g), .im (dicE h), x7, x8, x9, x10, x11, x12, x13, x14, x15, x16, x17, x18, x19, x20])) :
    Wp (gPar3 4 5 6 (fCons (fCallF [true, false] (F_d26_law_drawn_sum w) (fCons (fVar 1) (fCons (fVar 3) fNil))) (fCons (fCallF [true, false] (F_d26_law_drawn_sum w) (fCons (fVar 1) (fCons (fVar 3) fNil))) (fCons (fCallF [true, false] (F_d26_law_drawn_sum w) (fCons (fVar 1) (fCons (fVar 3) fNil))) fNil)))) [.im sc, .mu (stE s), x2, .im (.int n), x4, x5, x6, x7, x8, x9, x10, x11, x12, x13, x14, x15, x16, x17, x18, x19, x20] Q := by
  obtain ⟨s1, f, e1, v1, m1⟩ := drawn_ok w s n hn0 hn
  obtain ⟨s2, g, e2, v2, m2⟩ := drawn_ok w s1 n hn0 hn
  obtain ⟨s3, h, e3, v3, m3⟩ := drawn_ok w s2 n hn0 hn
  refine wp_par3 (wa_cons (we_call (wa_cons (we_mu rfl (wa_cons (we_im rfl (wa_nil (ev_args rfl (ev_funV e1 ?_)))))))))
  refine wa_cons (we_call (wa_cons (we_mu rfl (wa_cons (we_im rfl (wa_nil (ev_args rfl (ev_funV e2 ?_))))))))
  refine wa_cons (we_call (wa_cons (we_mu rfl (wa_cons (we_im rfl (wa_nil (ev_args rfl (ev_funV e3 ?_))))))))
  exact wa_nil (ev_par3 rfl (k s3 f g h v1 v2 v3 m1 m2 m3))
theorem st3 (f g : AL) {mu : Sl} {n3 : Sl} (hf : f.length ≤ 1000000) (hg : g.length ≤ 1000000) (k : Q (.nx [.im sc, mu, x2, n3, .im (dicE f), .im (dicE g), x6, .im (sumE (shL f)), .im (sumE (shL g)), x9, x10, x11, x12, x13, x14, x15, x16, x17, x18, x19, x20])) :
    Wp (gPar2 7 8 (fCons (fCallF [false] (F_d24_law_shown w) (fCons (fVar 4) fNil)) (fCons (fCallF [false] (F_d24_law_shown w) (fCons (fVar 5) fNil)) fNil))) [.im sc, mu, x2, n3, .im (dicE f), .im (dicE g), x6, x7, x8, x9, x10, x11, x12, x13, x14, x15, x16, x17, x18, x19, x20] Q := by
  refine wp_par2 (wa_cons (we_call (wa_cons (we_im rfl (wa_nil (ev_args rfl (ev_funV (law_shown_ok w f hf) ?_)))))))
  refine wa_cons (we_call (wa_cons (we_im rfl (wa_nil (ev_args rfl (ev_funV (law_shown_ok w g hg) ?_))))))
  exact wa_nil (.inl ⟨_, _, rfl, k⟩)
end
end K56

set_option Elab.async false
set_option linter.all false
set_option maxRecDepth 100000
set_option maxHeartbeats 4000000
namespace K56
open PySem PySem.Spec PyProof.Rows L2 DL MB
variable (w : World)
section
variable {sc : D} {s : Int × Int} {x2 x3 x4 x5 x6 x7 x8 x9 x10 x11 x12 x13 x14 x15 x16 x17 x18 x19 x20 : Sl} {Q : Out → Prop}
/-- joined, then shown -/
theorem ev_sj {n : Int} (hn : n ≤ 8) {f g l' : AL} {ρ : DEnv} {P : RV → DEnv → Prop} {fa fb : FE}
    (e : F_d23_law_joined w [.int n, dicE f, dicE g] = some (.ok (.val (dicE l')) [])) (v : Vd n l') (hn3 : ρ[3]? = some (.im (.int n)))
    (ha : We fa ρ fun r ρ1 => r = .val (dicE f) ∧ We fb ρ1 fun r ρ2 => r = .val (dicE g) ∧ P (.val (sumE (shL l'))) ρ2) :
    We (fCallF [false] (F_d24_law_shown w) (fCons (fCallF [false, false, false] (F_d23_law_joined w) (fCons (fVar 3) (fCons fa (fCons fb fNil)))) fNil)) ρ P := by
  refine we_call (wa_cons (we_call (wa_cons (we_im hn3 (wa_cons (ha.mono ?_))))))
  rintro r ρ1 ⟨rfl, h2⟩
  refine wa_cons (h2.mono ?_)
  rintro r ρ2 ⟨rfl, h3⟩
  refine wa_nil (ev_args rfl (ev_funV e ?_))
  refine wa_nil (ev_args rfl (ev_funV (law_shown_ok w l' (lw v hn)) ?_))
  exact h3
theorem st4 {n : Int} (hn : n ≤ 8) (f g l : AL) {mu : Sl} (e : F_d23_law_joined w [.int n, dicE f, dicE g] = some (.ok (.val (dicE l)) [])) (v : Vd n l) (k : Q (.nx [.im sc, mu, x2, .im (.int n), .im (dicE f), .im (dicE g), x6, x7, x8, .im (sumE (shL l)), x10, x11, x12, x13, x14, x15, x16, x17, x18, x19, x20])) :
    Wp (gSet 9 (fCallF [false] (F_d24_law_shown w) (fCons (fCallF [false, false, false] (F_d23_law_joined w) (fCons (fVar 3) (fCons (fVar 4) (fCons (fVar 5) fNil)))) fNil))) [.im sc, mu, x2, .im (.int n), .im (dicE f), .im (dicE g), x6, x7, x8, x9, x10, x11, x12, x13, x14, x15, x16, x17, x18, x19, x20] Q := by
  refine wp_set (ev_sj w hn e v rfl (we_im rfl ⟨rfl, we_im rfl ⟨rfl, .inl ⟨_, rfl, k⟩⟩⟩))
theorem st5 {n : Int} (hn : n ≤ 8) (f g h l : AL) {mu : Sl} (vf : Vd n f) (vg : Vd n g) (vh : Vd n h) (mf : Sm f) (mg : Sm g) (mh : Sm h) (vl : Vd n l) (pl : Pr n l f g)
    (el : F_d23_law_joined w [.int n, dicE f, dicE g] = some (.ok (.val (dicE l)) []))
    (k : Q (.nx [.im sc, mu, x2, .im (.int n), .im (dicE f), .im (dicE g), .im (dicE h), x7, x8, .im (sumE (shL l)), x10, x11, x12, x13, x14, x15, x16, x17, x18, x19, x20])) :
    Wp (gIf (fOr (fB (fOp (cmpB neD) (fCallF [false] (F_d24_law_shown w) (fCons (fCallF [false, false, false] (F_d23_law_joined w) (fCons (fVar 3) (fCons (fVar 5) (fCons (fVar 4) fNil)))) fNil)) (fVar 9))) (fB (fOp (cmpB neD) (fCallF [false] (F_d24_law_shown w) (fCons (fCallF [false, false, false] (F_d23_law_joined w) (fCons (fVar 3) (fCons (fCallF [false, false, false] (F_d23_law_joined w) (fCons (fVar 3) (fCons (fVar 4) (fCons (fVar 5) fNil)))) (fCons (fVar 6) fNil)))) fNil)) (fCallF [false] (F_d24_law_shown w) (fCons (fCallF [false, false, false] (F_d23_law_joined w) (fCons (fVar 3) (fCons (fVar 4) (fCons (fCallF [false, false, false] (F_d23_law_joined w) (fCons (fVar 3) (fCons (fVar 5) (fCons (fVar 6) fNil)))) fNil)))) fNil))))) (gRet (fC (.bl false))) gNext)
     [.im sc, mu, x2, .im (.int n), .im (dicE f), .im (dicE g), .im (dicE h), x7, x8, .im (sumE (shL l)), x10, x11, x12, x13, x14, x15, x16, x17, x18, x19, x20] Q := by
  obtain ⟨l2, e2, v2, p2⟩ := joined_pr w n hn g f vg vf (.inl mg)
  obtain ⟨gh, e3, v3, p3⟩ := joined_pr w n hn g h vg vh (.inl mg)
  obtain ⟨lh, e4, v4, p4⟩ := joined_pr w n hn l h vl vh (.inr mh)
  obtain ⟨fg, e5, v5, p5⟩ := joined_pr w n hn f gh vf v3 (.inl mf)
  have q1 : shL l2 = shL l := shL_ext v2.nd vl.nd (p2.cf pl.comm v2 vl)
  have q2 : shL lh = shL fg := shL_ext v4.nd v5.nd fun k => by
    rw [← S_dl v4.nd, ← S_dl v5.nd]
    exact Pr.assoc hn vf vg vh pl p3 p4 p5 _
  refine wp_if (wt_or (wt_b (we_op (ev_sj w hn e2 v2 rfl (we_im rfl ⟨rfl, we_im rfl ⟨rfl, we_im rfl ⟨_, _, _, rfl, rfl, ne_sum _ _ q1, _, rfl, b0 ?_⟩⟩⟩)))))
  refine wt_b (we_op (ev_sj w hn e4 v4 rfl (we_call (wa_cons (we_im rfl (wa_cons (we_im rfl (wa_cons (we_im rfl (wa_nil (ev_args rfl (ev_funV el ⟨rfl, ?_⟩))))))))))))
  refine we_im rfl ⟨rfl, ?_⟩
  refine ev_sj w hn e5 v5 rfl (we_im rfl ⟨rfl, ?_⟩)
  refine we_call (wa_cons (we_im rfl (wa_cons (we_im rfl (wa_cons (we_im rfl (wa_nil (ev_args rfl (ev_funV e3 ⟨rfl, ?_⟩)))))))))
  exact ⟨_, _, _, rfl, rfl, ne_sum _ _ q2, _, rfl, b0 (wp_next k)⟩
end
end K56

set_option Elab.async false
set_option linter.all false
set_option maxRecDepth 100000
set_option maxHeartbeats 4000000
namespace K56
open PySem PySem.Spec PyProof.Rows L2 DL MB
variable (w : World)
theorem same_pE (k : Nat) (x : P2 × Int) : F_d20_law_same_n w (k + 3) [pE x, pE x] = some (.ok (.val (.bl true)) []) := by
  refine same_tup w (k + 2) _ _ [kD x.1, .int x.2] [kD x.1, .int x.2] rfl rfl (by simp) rfl (fun i a b ha hb => ?_)
  rw [ha] at hb
  cases hb
  match i, ha with
  | 0, ha =>
    cases ha
    refine same_tup w (k + 1) _ _ [.int x.1.1, .int x.1.2] [.int x.1.1, .int x.1.2] rfl rfl (by simp) rfl (fun i a b ha hb => ?_)
    rw [ha] at hb
    cases hb
    match i, ha with
    | 0, ha => cases ha; exact same_int w k _
    | 1, ha => cases ha; exact same_int w k _
  | 1, ha => cases ha; exact same_int w (k + 1) _
theorem same_sum (k : Nat) (m : AL) (hm : m.length ≤ 1000000) : F_d20_law_same_n w (k + 4) [sumE m, sumE m] = some (.ok (.val (.bl true)) []) := by
  refine same_tup w (k + 3) _ _ (m.map pE) (m.map pE) rfl rfl (by simpa using hm) rfl (fun i a b ha hb => ?_)
  rw [ha] at hb
  cases hb
  have : a ∈ m.map pE := List.mem_of_getElem? ha
  obtain ⟨x, _, rfl⟩ := List.mem_map.mp this
  exact same_pE w k x
theorem same_toldS (m : AL) (hm : m.length ≤ 1000000) : F_d20_law_same w [toldD (sumE m), toldD (sumE m)] = some (.ok (.val (.bl true)) []) := by
  refine same_tup w 11 _ _ [.str "told", sumE m] [.str "told", sumE m] rfl rfl (by simp) rfl (fun i a b ha hb => ?_)
  rw [ha] at hb
  cases hb
  match i, ha with
  | 0, ha => cases ha; exact same_told w 10
  | 1, ha => cases ha; exact same_sum w 7 m hm
theorem same_toldI (v : Int) : F_d20_law_same w [toldD (.int v), toldD (.int v)] = some (.ok (.val (.bl true)) []) := by
  refine same_tup w 11 _ _ [.str "told", .int v] [.str "told", .int v] rfl rfl (by simp) rfl (fun i a b ha hb => ?_)
  rw [ha] at hb
  cases hb
  match i, ha with
  | 0, ha => cases ha; exact same_told w 10
  | 1, ha => cases ha; exact same_int w 10 v
theorem Sm.sh {l : AL} (h : Sm l) : Sm (shL l) := fun x hx => by
  rw [shL_def] at hx
  obtain ⟨k, hk, rfl⟩ := List.mem_map.mp hx
  have : k ∈ l.map (·.1) := Classical.byContradiction fun z => shK_mem.mp hk (cf_none z)
  exact h _ (look_mem (look_some this))
theorem sum_filter {g : P2 → Int} {p : P2 → Bool} (h : ∀ k, p k = false → g k = 0) : ∀ ks : List P2, ((ks.filter p).map g).sum = (ks.map g).sum
  | [] => rfl
  | a :: r => by
    cases hp : p a with
    | true => rw [List.filter_cons_of_pos hp]; simp [sum_filter h r]
    | false => rw [List.filter_cons_of_neg (by simp [hp])]; simp [sum_filter h r, h a hp]
theorem sum_perm {a b : List Int} (h : a.Perm b) : a.sum = b.sum := by
  induction h with
  | nil => rfl
  | cons x _ ih => simp [ih]
  | swap x y l => simp; omega
  | trans _ _ h1 h2 => exact h1.trans h2
theorem S_sh {a : AL} (nd : (a.map (·.1)).Nodup) (F : P2 → Int) : S (shL a) F = S a F := by
  unfold S
  rw [shL_def, List.map_map]
  show ((shK a).map fun k => cf a k * F k).sum = _
  unfold shK
  rw [sum_filter (g := fun k => cf a k * F k) (fun k hk => by
    have : cf a k = 0 := by simpa using hk
    simp [this])]
  have e1 : ((sortP (a.map (·.1))).map fun k => cf a k * F k).sum = ((a.map (·.1)).map fun k => cf a k * F k).sum := sum_perm ((List.mergeSort_perm _ _).map _)
  rw [e1, List.map_map]
  congr 1
  refine List.map_congr_left fun x hx => ?_
  show cf a x.1 * F x.1 = x.2 * F x.1
  have : look a x.1 = some x.2 := look_of nd hx
  unfold cf
  rw [this]
  rfl
/-- the program's product, of what is shown, is the shown product -/
theorem prog_pr {n : Int} (hn0 : 2 ≤ n) (hn : n ≤ 8) {f g l : AL} (vf : Vd n f) (vg : Vd n g) (vl : Vd n l) (mg : Sm g) (pl : Pr n l f g) : F_d11_condition_product w [.int n, sumE (shL f), sumE (shL g)] = some (.ok (.val (sumE (shL l))) []) := by
  have hsp : spB (.int n) = true := by simp [spB, hn0, hn]
  have h : (sumD (.int n) (sumE (shL f)) && sumD (.int n) (sumE (shL g))) = true := by
    simp only [sumD, hsp, sum_sh vf, sum_sh vg, Bool.and_self]
  obtain ⟨l', e, v, hS⟩ := product_good w n hn (shL f) (shL g) (K56.Vd.sh vf) (K56.Vd.sh vg) (K56.Sm.sh mg) h
  rw [e]
  have : shL l' = shL l := shL_ext v.nd vl.nd fun k => by
    rw [← S_dl v.nd, ← S_dl vl.nd, hS, pl]
    rw [S_sh vg.nd, S_swap, S_sh vf.nd]
  rw [this]
end K56

set_option Elab.async false
set_option linter.all false
set_option maxRecDepth 100000
set_option maxHeartbeats 4000000
namespace K56
open PySem PySem.Spec PyProof.Rows L2 DL MB
variable (w : World)
section
variable {ρ : DEnv} {Q : Out → Prop}
theorem ev_same {fa fb : FE} {d : D} (ha : Ev fa ρ (toldD d)) (hb : Ev fb ρ (toldD d)) (t : F_d20_law_same w [toldD d, toldD d] = some (.ok (.val (.bl true)) [])) : Ev (fCallF [false, false] (F_d20_law_same w) (fCons fa (fCons fb fNil))) ρ (.bl true) :=
  Ev.call (.cons ha (.cons hb .nil)) rfl t
theorem ev_told {z : Int} {fn fa fb : FE} {nd a b r : D} (hn : Ev fn ρ nd) (ha : Ev fa ρ a) (hb : Ev fb ρ b) (t : F_d27_law_told w [.int z, nd, a, b] = some (.ok (.val r) [])) : Ev (fCallF [false, false, false, false] (F_d27_law_told w) (fCons (fC (.int z)) (fCons fn (fCons fa (fCons fb fNil))))) ρ r :=
  Ev.call (.cons .c (.cons hn (.cons ha (.cons hb .nil)))) rfl t
theorem ev_toldD {f : FE} {d : D} (h : Ev f ρ d) : Ev (fTup (fCons (fC (.str "told")) (fCons f fNil))) ρ (toldD d) := Ev.tup (.cons .c (.cons h .nil)) rfl
theorem st6 {n : Int} (hn0 : 2 ≤ n) (hn : n ≤ 8) {f g l : AL} (vf : Vd n f) (vg : Vd n g) (vl : Vd n l) (mf : Sm f) (mg : Sm g) (pl : Pr n l f g)
    (h3 : ρ[3]? = some (.im (.int n))) (h7 : ρ[7]? = some (.im (sumE (shL f)))) (h8 : ρ[8]? = some (.im (sumE (shL g)))) (h9 : ρ[9]? = some (.im (sumE (shL l)))) (k : Q (.nx ρ)) :
    Wp (gIf (fOr (fNot (fB (fCallF [false, false] (F_d20_law_same w) (fCons (fCallF [false, false, false, false] (F_d27_law_told w) (fCons (fC (.int 0)) (fCons (fVar 3) (fCons (fVar 7) (fCons (fVar 8) fNil))))) (fCons (fTup (fCons (fC (.str "told")) (fCons (fVar 9) fNil))) fNil))))) (fNot (fB (fCallF [false, false] (F_d20_law_same w) (fCons (fCallF [false, false, false, false] (F_d27_law_told w) (fCons (fC (.int 0)) (fCons (fVar 3) (fCons (fVar 8) (fCons (fVar 7) fNil))))) (fCons (fTup (fCons (fC (.str "told")) (fCons (fVar 9) fNil))) fNil)))))) (gRet (fC (.bl false))) gNext) ρ Q := by
  have hm : (shL l).length ≤ 1000000 := lw (K56.Vd.sh vl) hn
  have e1 := told0_good w (.int n) (sumE (shL f)) (sumE (shL g)) (shL l) hm (prog_pr w hn0 hn vf vg vl mg pl)
  have e2 := told0_good w (.int n) (sumE (shL g)) (sumE (shL f)) (shL l) hm (prog_pr w hn0 hn vg vf vl mf pl.comm)
  have t := same_toldS w (shL l) hm
  refine wp_if (wt_or (wt_not (wt_ev (ev_same w (ev_told w (.im h3) (.im h7) (.im h8) e1) (ev_toldD (.im h9)) t) ?_)))
  refine b0 (wt_not (wt_ev (ev_same w (ev_told w (.im h3) (.im h8) (.im h7) e2) (ev_toldD (.im h9)) t) ?_))
  exact b0 (wp_next k)
theorem Ev.get {l : AL} {k : P2} {fo fk : FE} (ho : Ev fo ρ (dicE l)) (hk : Ev fk ρ (kD k)) : Ev (fMeth "dict" dgetM fo (fCons fk (fCons (fC (.int 0)) fNil))) ρ (.int (cf l k)) := by
  unfold Ev fMeth
  rw [show fo ρ = _ from ho]
  simp only [RV.get]
  rw [show tyM (wk (dicE l)) = some "dict" from rfl]
  simp only [if_true]
  rw [show fCons fk (fCons (fC (.int 0)) fNil) ρ = some ([kD k, .int 0].map .val, ρ) from Eva.cons hk (Eva.cons .c .nil)]
  simp only
  rw [getAll_val]
  simp only [List.map_cons, List.map_nil]
  rw [show dgetM (wk (dicE l)) [wk (kD k), wk (.int 0)] = _ from getM_E l k 0]
  rfl
theorem Ev.sub1 {f : FE} {n : Int} (h : Ev f ρ (.int n)) : Ev (fOp subD f (fC (.int 1))) ρ (.int (n - 1)) := Ev.op h .c rfl
theorem Ev.topk {n : Int} (h : Ev (fVar 3) ρ (.int n)) : Ev (fTup (fCons (fOp subD (fVar 3) (fC (.int 1))) (fCons (fOp subD (fVar 3) (fC (.int 1))) fNil))) ρ (kD (n - 1, n - 1)) := Ev.tup (.cons (Ev.sub1 h) (.cons (Ev.sub1 h) .nil)) rfl
/-- the loop over one, two, both: one turn -/
theorem st7 {n : Int} (hn0 : 2 ≤ n) (hn : n ≤ 8) {f : AL} (vf : Vd n f)
    (h3 : ρ[3]? = some (.im (.int n))) (h10 : ρ[10]? = some (.im (sumE (shL f)))) (k : Q (.nx ρ)) :
    Wp (gIf (fNot (fB (fCallF [false, false] (F_d20_law_same w) (fCons (fCallF [false, false, false, false] (F_d27_law_told w) (fCons (fC (.int 1)) (fCons (fVar 3) (fCons (fVar 10) (fCons (fC .non) fNil))))) (fCons (fTup (fCons (fC (.str "told")) (fCons (fMeth "dict" dgetM (fCallF [false] (F_d25_law_dict w) (fCons (fVar 10) fNil)) (fCons (fTup (fCons (fOp subD (fVar 3) (fC (.int 1))) (fCons (fOp subD (fVar 3) (fC (.int 1))) fNil))) (fCons (fC (.int 0)) fNil))) fNil))) fNil))))) (gRet (fC (.bl false))) gNext) ρ Q := by
  have vs := K56.Vd.sh vf
  have hsp : spB (.int n) = true := by simp [spB, hn0, hn]
  have hs : sumD (.int n) (sumE (shL f)) = true := by simp only [sumD, hsp, sum_sh vf, Bool.and_self]
  have e1 := told1_good w (.int n) (sumE (shL f)) .non _ (number_good w n hn (shL f) vs hs)
  refine wp_if (wt_not (wt_ev (ev_same w (ev_told w (.im h3) (.im h10) .c e1) (ev_toldD (Ev.get (Ev.call (.cons (.im h10) .nil) rfl (law_dict_ok w n hn (shL f) vs)) (Ev.topk (.im h3)))) (same_toldI w _)) ?_))
  exact b0 (wp_next k)
end
end K56

set_option Elab.async false
set_option linter.all false
set_option maxRecDepth 100000
set_option maxHeartbeats 4000000
namespace K56
open PySem PySem.Spec PyProof.Rows L2 DL MB
variable (w : World)
theorem min_ok (a b : Int) : minD [.int a, .int b] = some (.val (.int (if b < a then b else a))) := rfl
section
variable {sc1 : Sl} {x2 x4 x5 x6 x7 x8 x9 x10 x11 x12 x13 x14 x15 x16 x17 x18 x19 x20 : Sl} {mu : Sl} {n3 : Sl} {Q : Out → Prop}
theorem st8 (k : Q (.nx [sc1, mu, x2, n3, x4, x5, x6, x7, x8, x9, x10, .mu (.lst []), .im (dicE [((0, 0), 1)]), x13, x14, x15, x16, x17, x18, x19, x20])) :
    Wp (gPar2 11 12 (fCons (fLst fNil) (fCons (fFrz (fDis1 (fTup (fCons (fC (.int 0)) (fCons (fC (.int 0)) fNil))) (fC (.int 1)))) fNil))) [sc1, mu, x2, n3, x4, x5, x6, x7, x8, x9, x10, x11, x12, x13, x14, x15, x16, x17, x18, x19, x20] Q := by
  refine wp_par2 (wa_cons (we_lst (wa_nil (ev_len rfl rfl ?_))))
  refine wa_cons (we_frzV (we_dis1 (we_ev (Ev.tup (.cons .c (.cons .c .nil)) rfl) ⟨_, rfl, we_c ⟨_, _, rfl, keyT_kD (0, 0), .inr (.inl ⟨_, rfl, wa_nil (.inr ⟨_, _, rfl, k⟩)⟩)⟩⟩)))
theorem Lf_snoc (n : Int) (ks : List P2) (o : P2) (F : P2 → Int) : Lf n (ks ++ [o]).reverse F = Lf n ks.reverse (fun k => U n k o F) := by
  rw [List.reverse_append]; rfl
theorem st9 {n : Int} (hn0 : 2 ≤ n) (hn : n ≤ 8) {s : Int × Int}
    (k : ∀ (s' : Int × Int) (ks : List P2) (p : AL) (x13 x14 : Sl), Vd n p → (∀ F, S p F = Lf n ks.reverse F) → ks.length ≤ 7 → (∀ o ∈ ks, Vk n o) → Q (.nx [sc1, .mu (stE s'), x2, .im (.int n), x4, x5, x6, x7, x8, x9, x10, .mu (.lst (ks.map kD)), .im (dicE p), x13, x14, x15, x16, x17, x18, x19, x20])) :
    Wp (gFor (fRng1 (fCons (fCallF [true, false] (F_d15_law_take w) (fCons (fVar 1) (fCons (fC (.int 8)) fNil))) fNil)) (.nm 13) (gSeq (gSet 14 (fCallF [true, false] (F_d15_law_take w) (fCons (fVar 1) (fCons (fCall minD (fCons (fVar 3) (fCons (fC (.int 3)) fNil))) fNil))))
  (gSeq (gDrop (fMut "list" appendM 11 (fCons (fTup (fCons (fVar 14) (fCons (fCallF [true, false] (F_d15_law_take w) (fCons (fVar 1) (fCons (fOp addD (fVar 14) (fC (.int 1))) fNil))) fNil))) fNil)))
  (gSet 12 (fCallF [false, false, false] (F_d23_law_joined w) (fCons (fVar 3) (fCons (fVar 12) (fCons (fFrz (fDis1 (fOp ixA (fVar 11) (fUn negD (fC (.int 1)))) (fC (.int 1)))) fNil))))))))
    [sc1, .mu (stE s), x2, .im (.int n), x4, x5, x6, x7, x8, x9, x10, .mu (.lst []), .im (dicE [((0, 0), 1)]), x13, x14, x15, x16, x17, x18, x19, x20] Q := by
  have b8 := takeV_bd s 8 (by omega)
  refine wp_for (fun rem ρ => ∃ (j m : Nat) (s' : Int × Int) (ks : List P2) (p : AL) (x13 x14 : Sl), rem = rngL (j : Int) m ∧ j + m ≤ 7 ∧ ks.length = j ∧ Vd n p ∧ (∀ F, S p F = Lf n ks.reverse F) ∧ (∀ o ∈ ks, Vk n o) ∧
      ρ = [sc1, .mu (stE s'), x2, .im (.int n), x4, x5, x6, x7, x8, x9, x10, .mu (.lst (ks.map kD)), .im (dicE p), x13, x14, x15, x16, x17, x18, x19, x20]) ?_ ?_ ?_
  · refine wi_rng1 (wa_cons (we_call (wa_cons (we_mu rfl (wa_cons (we_c (wa_nil (ev_args rfl (ev_funV (take_ok w s 8 (by omega) (by omega)) (wa_nil ⟨_, rfl, by omega, by omega, ?_⟩))))))))))
    refine ⟨0, _, _, [], [((0, 0), 1)], _, _, rfl, by omega, rfl, ?_, fun F => by simp [S_cons, S_nil, Lf], fun _ h => (nomatch h), rfl⟩
    exact (Vd.nil n).put (k := (0, 0)) (v := 1) ⟨by simp, by simp, by simp; omega⟩
  · rintro d r ρ ⟨j, m, s', ks, p, x13, x14, e1, hj, hk, vp, hS, hks, rfl⟩
    obtain ⟨m', rfl, rfl, rfl⟩ := rng_cons e1
    have bm : 0 < (if (3 : Int) < n then (3 : Int) else n) ∧ (if (3 : Int) < n then (3 : Int) else n) < 1000 ∧ (if (3 : Int) < n then (3 : Int) else n) ≤ n := by split <;> omega
    have ba := takeV_bd s' (if (3 : Int) < n then (3 : Int) else n) bm.1
    have bb := takeV_bd (takeS s' (if (3 : Int) < n then (3 : Int) else n)) (takeV s' (if (3 : Int) < n then (3 : Int) else n) + 1) (by omega)
    refine ⟨_, rfl, ?_⟩
    refine wp_seq ?_
    refine wp_set ?_
    refine we_call ?_
    refine wa_cons ?_
    refine we_mu rfl ?_
    refine wa_cons ?_
    refine we_cb ?_
    refine wa_cons ?_
    refine we_im rfl ?_
    refine wa_cons ?_
    refine we_c ?_
    refine wa_nil ?_
    refine ⟨_, _, rfl, min_ok _ _, ?_⟩
    refine wa_nil ?_
    refine ev_args rfl ?_
    refine ev_funV (take_ok w s' _ bm.1 bm.2.1) ?_
    refine .inl ⟨_, rfl, then_nx ?_⟩
    generalize takeV s' (if (3 : Int) < n then (3 : Int) else n) = a at ba bb ⊢
    generalize takeS s' (if (3 : Int) < n then (3 : Int) else n) = t at bb ⊢
    have hap : appendM (.lst (ks.map kD)) [.tup [.int a, .int (takeV t (a + 1))]] = some (.non, .lst ((ks ++ [(a, takeV t (a + 1))]).map kD)) := by
      show (if _ then _ else _) = _
      rw [if_pos (by simp; omega)]
      simp [kD]
    refine wp_seq ?_
    refine wp_drop ?_
    refine we_mut rfl rfl ?_
    refine wa_cons ?_
    refine we_tup ?_
    refine wa_cons ?_
    refine we_im rfl ?_
    refine wa_cons ?_
    refine we_call ?_
    refine wa_cons ?_
    refine we_mu rfl ?_
    refine wa_cons ?_
    refine we_op ?_
    refine we_im rfl ?_
    refine we_c ?_
    refine ⟨_, _, _, rfl, rfl, rfl, ?_⟩
    refine wa_nil ?_
    refine ev_args rfl ?_
    refine ev_funV (take_ok w t (a + 1) (by omega) (by omega)) ?_
    refine wa_nil ?_
    refine ev_len rfl rfl ?_
    refine wa_nil ?_
    refine ⟨_, _, _, _, rfl, rfl, hap, then_nx ?_⟩
    generalize takeV t (a + 1) = b at bb hap ⊢
    have vo : Vk n (a, b) := ⟨bb.1, by simp; omega, by simp; omega⟩
    have vO : Vd n [((a, b), (1 : Int))] := (Vd.nil n).put (k := (a, b)) (v := 1) vo
    obtain ⟨l', e, v', pr⟩ := joined_pr w n hn p [((a, b), 1)] vp vO (.inr fun x hx => by rw [List.mem_singleton.mp hx]; simp)
    have hix : ixA (.lst ((ks ++ [(a, b)]).map kD)) (.int (-1)) = some (.val (kD (a, b))) := by
      have e : ixD (.lst ((ks ++ [(a, b)]).map kD)) (.int (-1)) = some (.val (kD (a, b))) := by
        show Option.map RV.val (atI _ _) = _
        rw [List.map_append, List.map_singleton, atI_last]
        rfl
      unfold ixA
      rw [e]
    refine wp_set ?_
    refine we_call ?_
    refine wa_cons ?_
    refine we_im rfl ?_
    refine wa_cons ?_
    refine we_im rfl ?_
    refine wa_cons ?_
    refine we_frzV ?_
    refine we_dis1 ?_
    refine we_op ?_
    refine we_mu rfl ?_
    refine we_un ?_
    refine we_c ?_
    refine ⟨_, _, rfl, rfl, ?_⟩
    refine ⟨_, _, _, rfl, rfl, hix, _, rfl, ?_⟩
    refine we_c ?_
    refine ⟨_, _, rfl, keyT_kD (a, b), .inr (.inl ⟨_, rfl, ?_⟩)⟩
    refine wa_nil ?_
    refine ev_args rfl ?_
    refine ev_funV e ?_
    refine .inl ⟨_, rfl, turn_nx ?_⟩
    refine ⟨j + 1, m', _, ks ++ [(a, b)], l', _, _, rfl, by omega, by simp [hk], v', fun F => ?_, ?_, rfl⟩
    · rw [pr F, Lf_snoc, ← hS]
      refine S_congr fun x _ => ?_
      rw [S_cons, S_nil]
      simp
    · intro o ho
      rcases List.mem_append.mp ho with ho | ho
      · exact hks o ho
      · rw [List.mem_singleton.mp ho]; exact vo
  · rintro ρ ⟨j, m, s', ks, p, x13, x14, e1, hj, hk, vp, hS, hks, rfl⟩
    exact k s' ks p x13 x14 vp hS (by omega) hks
end
end K56

set_option Elab.async false
set_option linter.all false
set_option maxRecDepth 100000
set_option maxHeartbeats 4000000
namespace K56
open PySem PySem.Spec PyProof.Rows L2 DL MB
variable (w : World)
section
variable {ρ : DEnv} {Q : Out → Prop}
theorem Ev.tupleOf {i : Nat} {xs : List D} (h : ρ[i]? = some (.mu (.lst xs))) : Ev (fCall tupleD (fCons (fVar i) fNil)) ρ (.tpp xs) := by
  unfold Ev fCall fCons fVar fNil
  simp [h, getAll, RV.get, tupleD]
theorem ks_plDs : ∀ ks : List P2, plDs (ks.map kD) = true
  | [] => rfl
  | k :: r => by simp only [List.map_cons, plDs, ks_plDs r, Bool.and_true]; rfl
theorem st10 {n : Int} (hn0 : 2 ≤ n) (hn : n ≤ 8) {ks : List P2} {p : AL} (vp : Vd n p) (hS : ∀ F, S p F = Lf n ks.reverse F) (hl : ks.length ≤ 20) (hv : ∀ o ∈ ks, Vk n o)
    (h3 : ρ[3]? = some (.im (.int n))) (h11 : ρ[11]? = some (.mu (.lst (ks.map kD)))) (h12 : ρ[12]? = some (.im (dicE p))) (k : Q (.nx ρ)) :
    Wp (gIf (fNot (fB (fCallF [false, false] (F_d20_law_same w) (fCons (fCallF [false, false, false, false] (F_d27_law_told w) (fCons (fC (.int 2)) (fCons (fVar 3) (fCons (fCall tupleD (fCons (fVar 11) fNil)) (fCons (fC .non) fNil))))) (fCons (fTup (fCons (fC (.str "told")) (fCons (fMeth "dict" dgetM (fVar 12) (fCons (fTup (fCons (fOp subD (fVar 3) (fC (.int 1))) (fCons (fOp subD (fVar 3) (fC (.int 1))) fNil))) (fCons (fC (.int 0)) fNil))) fNil))) fNil))))) (gRet (fC (.bl false))) gNext) ρ Q := by
  obtain ⟨l, e, vl, hl2⟩ := lines_good w n ⟨hn0, hn⟩ (.tpp (ks.map kD)) ks (.inr rfl) hl hv
  have hc : cf l (n - 1, n - 1) = cf p (n - 1, n - 1) := by rw [← S_dl vl.nd, ← S_dl vp.nd, hl2, hS]
  rw [hc] at e
  have e1 := told2_good w (.int n) _ .non _ e
  refine wp_if (wt_not (wt_ev (ev_same w (ev_told w (.im h3) (Ev.tupleOf h11) .c e1) (ev_toldD (Ev.get (.im h12) (Ev.topk (.im h3)))) (same_toldI w _)) ?_))
  exact b0 (wp_next k)
theorem fac_bd : ∀ m : Nat, m < 7 → -(2 ^ 63) < fac (m + 2) ∧ fac (m + 2) < 2 ^ 63 ∧ fac (m + 2) * fac (m + 1) ≠ 0 ∧ -(2 ^ 63) < fac (m + 2) * fac (m + 1) ∧ fac (m + 2) * fac (m + 1) < 2 ^ 63 := by decide +kernel
theorem st11 {m : Nat} (hm : m < 7) (h3 : ρ[3]? = some (.im (.int ((m + 2 : Nat) : Int)))) (k : Q (.nx (ρ.set 15 (.im (.int ((fac (2 * m + 2)).fdiv (fac (m + 2) * fac (m + 1)))))))) :
    Wp (gSet 15 (fOp divD (fCallF [false] (F_d28_law_factorial w) (fCons (fOp subD (fOp mulD (fC (.int 2)) (fVar 3)) (fC (.int 2))) fNil)) (fOp mulD (fCallF [false] (F_d28_law_factorial w) (fCons (fVar 3) fNil)) (fCallF [false] (F_d28_law_factorial w) (fCons (fOp subD (fVar 3) (fC (.int 1))) fNil))))) ρ Q := by
  obtain ⟨b1, b2, b3, b4, b5⟩ := fac_bd m hm
  have v : Ev (fVar 3) ρ (.int ((m + 2 : Nat) : Int)) := .im h3
  have e2 : Ev (fOp subD (fOp mulD (fC (.int 2)) (fVar 3)) (fC (.int 2))) ρ (.int ((2 * m + 2 : Nat) : Int)) := by
    refine Ev.op (Ev.op .c v (mulD_int (mulOk_smallL (by decide) (by decide)))) .c ?_
    show some (RV.val (.int _)) = _
    congr 3
    omega
  have e3 : Ev (fOp subD (fVar 3) (fC (.int 1))) ρ (.int ((m + 1 : Nat) : Int)) := by
    refine Ev.op v .c ?_
    show some (RV.val (.int _)) = _
    congr 3
    omega
  have f1 := Ev.call (.cons e2 .nil) (ks := [false]) rfl (factorial_ok w (2 * m + 2) (by omega))
  have f2 := Ev.call (.cons v .nil) (ks := [false]) rfl (factorial_ok w (m + 2) (by omega))
  have f3 := Ev.call (.cons e3 .nil) (ks := [false]) rfl (factorial_ok w (m + 1) (by omega))
  exact wp_set (we_ev (Ev.op f1 (Ev.op f2 f3 (mulD_int (mulOk_smallL b1 b2))) (divD_int (divOk_small b3 b4 b5))) (.inl ⟨_, rfl, k⟩))
theorem rep_kD : ∀ q : Nat, (List.replicate q [kD (1, 0)]).flatten = (List.replicate q ((1, 0) : P2)).map kD
  | 0 => rfl
  | q + 1 => by rw [List.replicate_succ, List.replicate_succ, List.flatten_cons, rep_kD q]; rfl
theorem st12 {m : Nat} (hm : m < 7) (h3 : ρ[3]? = some (.im (.int ((m + 2 : Nat) : Int)))) (h15 : ρ[15]? = some (.im (.int ((fac (2 * m + 2)).fdiv (fac (m + 2) * fac (m + 1)))))) (k : Q (.nx ρ)) :
    Wp (gIf (fNot (fB (fCallF [false, false] (F_d20_law_same w) (fCons (fCallF [false, false, false, false] (F_d27_law_told w) (fCons (fC (.int 2)) (fCons (fVar 3) (fCons (fOp mulD (fTup (fCons (fTup (fCons (fC (.int 1)) (fCons (fC (.int 0)) fNil))) fNil)) (fOp subD (fOp mulD (fC (.int 2)) (fVar 3)) (fC (.int 2)))) (fCons (fC .non) fNil))))) (fCons (fTup (fCons (fC (.str "told")) (fCons (fVar 15) fNil))) fNil))))) (gRet (fC (.bl false))) gNext) ρ Q := by
  have v : Ev (fVar 3) ρ (.int ((m + 2 : Nat) : Int)) := .im h3
  have e2 : Ev (fOp subD (fOp mulD (fC (.int 2)) (fVar 3)) (fC (.int 2))) ρ (.int ((2 * m + 2 : Nat) : Int)) := by
    refine Ev.op (Ev.op .c v (mulD_int (mulOk_smallL (by decide) (by decide)))) .c ?_
    show some (RV.val (.int _)) = _
    congr 3
    omega
  have e4 : Ev (fOp mulD (fTup (fCons (fTup (fCons (fC (.int 1)) (fCons (fC (.int 0)) fNil))) fNil)) (fOp subD (fOp mulD (fC (.int 2)) (fVar 3)) (fC (.int 2)))) ρ (.tup ((List.replicate (2 * m + 2) ((1, 0) : P2)).map kD)) := by
    refine Ev.op (x := .tup [kD (1, 0)]) (Ev.tup (.cons (Ev.tup (.cons .c (.cons .c .nil)) rfl) .nil) rfl) e2 ?_
    show (if _ then _ else _) = _
    rw [if_pos ⟨by simp, by omega, by omega, by simp⟩]
    rw [show (((2 * m + 2 : Nat) : Int)).toNat = 2 * m + 2 by omega, rep_kD]
  obtain ⟨l, e, vl, hl2⟩ := lines_good w ((m + 2 : Nat) : Int) ⟨by omega, by omega⟩ (.tup ((List.replicate (2 * m + 2) ((1, 0) : P2)).map kD)) (List.replicate (2 * m + 2) (1, 0)) (.inl rfl) (by simp; omega) (fun o ho => by
    rw [List.eq_of_mem_replicate ho]
    exact ⟨by simp, by simp, by simp; omega⟩)
  have hc : cf l (((m + 2 : Nat) : Int) - 1, ((m + 2 : Nat) : Int) - 1) = (fac (2 * m + 2)).fdiv (fac (m + 2) * fac (m + 1)) := by
    rw [← S_dl vl.nd, hl2, List.reverse_replicate, show ((m + 2 : Nat) : Int) - 1 = ((m + 1 : Nat) : Int) by omega]
    exact cat_ok m hm
  rw [hc] at e
  have e1 := told2_good w _ _ .non _ e
  refine wp_if (wt_not (wt_ev (ev_same w (ev_told w v e4 .c e1) (ev_toldD (.im h15)) (same_toldI w _)) ?_))
  exact b0 (wp_next k)
end
end K56

set_option Elab.async false
set_option linter.all false
set_option maxRecDepth 100000
set_option maxHeartbeats 4000000
namespace K56
open PySem PySem.Spec PyProof.Rows L2 DL MB
variable (w : World)
section
variable {ρ : DEnv} {Q : Out → Prop}
theorem plDs_iff {xs : List D} : plDs xs = true ↔ ∀ x ∈ xs, plD x = true := by
  refine ⟨plDs_mem, fun h => ?_⟩
  induction xs with
  | nil => rfl
  | cons a r ih => simp only [plDs, Bool.and_eq_true]; exact ⟨h a List.mem_cons_self, ih fun x hx => h x (List.mem_cons_of_mem _ hx)⟩
theorem cut_mem {xs : List D} {lo hi : Option Int} {x : D} (h : x ∈ DL.cutD xs lo hi) : x ∈ xs := List.mem_of_mem_drop (List.mem_of_mem_take h)
theorem cut_len (xs : List D) (lo hi : Option Int) : (DL.cutD xs lo hi).length ≤ xs.length := by
  unfold DL.cutD
  simp only [List.length_take, List.length_drop]
  omega
theorem Ev.listOf {f : FE} {d : D} {xs : List D} (h : Ev f ρ d) (hd : wk d = .tup xs) : Ev (fFrz (fCall listA (fCons f fNil))) ρ (.lst xs) := by
  refine Ev.frz ?_
  unfold fCall
  rw [show fCons f fNil ρ = _ from Eva.cons h .nil]
  simp only
  rw [getAll_val]
  simp only [List.map_cons, List.map_nil, hd]
  rfl
theorem Ev.lastOf {f : FE} {d : D} {xs : List D} (h : Ev f ρ d) (hd : wk d = .tup xs) : Ev (fSlice f (fPart (fUn negD (fC (.int 1)))) fNoPart) ρ (.tup (DL.cutD xs (some (-1)) none)) := by
  have hp : fPart (fUn negD (fC (.int 1))) ρ = some (some (-1), ρ) := rfl
  have hn : fNoPart ρ = some (none, ρ) := rfl
  unfold Ev fSlice
  rw [show f ρ = _ from h]
  simp only [hp, hn, RV.get, hd]
  rfl
/-- a value of the tries -/
def Try (v : D) : Prop := plD (wk v) = true
theorem st13 {n : Int} (hn : n ≤ 8) {f l : AL} (vf : Vd n f) (vl : Vd n l)
    (h3 : ρ[3]? = some (.im (.int n))) (h7 : ρ[7]? = some (.im (sumE (shL f)))) (h9 : ρ[9]? = some (.im (sumE (shL l)))) (k : ∀ vs : List D, vs.length = 10 → (∀ v ∈ vs, Try v) → Q (.nx (ρ.set 16 (.im (.lst vs))))) :
    Wp (gSet 16 (fFrz (fLst (fCons (fVar 7) (fCons (fVar 9) (fCons (fFrz (fCall listA (fCons (fVar 7) fNil))) (fCons (fFrz (fOp addD (fVar 7) (fSlice (fVar 7) (fPart (fUn negD (fC (.int 1)))) fNoPart))) (fCons (fFrz (fUn revD (fVar 7))) (fCons (fTup (fCons (fTup (fCons (fTup (fCons (fC (.int 0)) (fCons (fC (.int 0)) fNil))) (fCons (fC (.int 0)) fNil))) fNil)) (fCons (fTup (fCons (fTup (fCons (fTup (fCons (fC (.int 0)) (fCons (fC (.int 0)) fNil))) (fCons (fC (.bl true)) fNil))) fNil)) (fCons (fTup (fCons (fTup (fCons (fTup (fCons (fVar 3) (fCons (fC (.int 0)) fNil))) (fCons (fC (.int 1)) fNil))) fNil)) (fCons (fTup (fCons (fTup (fCons (fTup (fCons (fC (.int 0)) (fCons (fC (.int 1)) fNil))) (fCons (fC (.int 1)) fNil))) fNil)) (fCons (fTup (fCons (fTup (fCons (fTup (fCons (fC (.int 1)) (fCons (fUn negD (fC (.int 1))) fNil))) (fCons (fC (.int 1)) fNil))) fNil)) fNil))))))))))))) ρ Q := by
  have lf := MB.Vd.len (n := n) hn (K56.Vd.sh vf)
  have ll := MB.Vd.len (n := n) hn (K56.Vd.sh vl)
  have w7 : wk (sumE (shL f)) = .tup ((shL f).map pE) := rfl
  have v7 : Ev (fVar 7) ρ (sumE (shL f)) := .im h7
  have c := cut_len ((shL f).map pE) (some (-1)) none
  have p7 := plDs_pE (shL f)
  have e4 : Ev (fFrz (fOp addD (fVar 7) (fSlice (fVar 7) (fPart (fUn negD (fC (.int 1)))) fNoPart))) ρ (.tup ((shL f).map pE ++ DL.cutD ((shL f).map pE) (some (-1)) none)) := by
    refine Ev.frzV (Ev.op v7 (Ev.lastOf v7 w7) ?_)
    show (if _ then _ else _) = _
    rw [if_pos (by simp at c ⊢; omega)]
    rfl
  have e5 : Ev (fFrz (fUn revD (fVar 7))) ρ (.tup ((shL f).map pE).reverse) := Ev.frzV (Ev.un v7 rfl)
  have q : ∀ {a b v : D} {fa fb fv : FE}, Ev fa ρ a → Ev fb ρ b → Ev fv ρ v → Ev (fTup (fCons (fTup (fCons (fTup (fCons fa (fCons fb fNil))) (fCons fv fNil))) fNil)) ρ (.tup [.tup [.tup [a, b], v]]) := fun ha hb hv => Ev.tup (.cons (Ev.tup (.cons (Ev.tup (.cons ha (.cons hb .nil)) rfl) (.cons hv .nil)) rfl) .nil) rfl
  refine wp_set (we_ev (Ev.lst (.cons v7 (.cons (.im h9) (.cons (Ev.listOf v7 w7) (.cons e4 (.cons e5 (.cons (q .c .c .c) (.cons (q .c .c .c) (.cons (q (.im h3) .c .c) (.cons (q .c .c .c) (.cons (q .c (Ev.un .c rfl) .c) .nil)))))))))) rfl) (.inl ⟨_, rfl, k _ rfl ?_⟩))
  simp only [List.forall_mem_cons]
  refine ⟨?_, ?_, ?_, ?_, ?_, rfl, rfl, rfl, rfl, rfl, fun _ h => nomatch h⟩
  · exact plD_sum (by omega)
  · exact plD_sum (by omega)
  · exact p7
  · show plD (.tup _) = true
    simp only [plD, Bool.and_eq_true, decide_eq_true_eq]
    refine ⟨by simp at c ⊢; omega, plDs_iff.mpr fun x hx => ?_⟩
    rcases List.mem_append.mp hx with hx | hx
    · exact plDs_mem p7 x hx
    · exact plDs_mem p7 x (cut_mem hx)
  · show plD (.tup _) = true
    simp only [plD, Bool.and_eq_true, decide_eq_true_eq]
    refine ⟨by simp; omega, plDs_iff.mpr fun x hx => plDs_mem p7 x (List.mem_reverse.mp hx)⟩
theorem st14 {vs : List D} (hl : vs.length = 10) (hv : ∀ v ∈ vs, Try v) (h16 : ρ[16]? = some (.im (.lst vs))) (k : ∀ us : List D, us.length = 18 → (∀ v ∈ us, Try v) → Q (.nx (ρ.set 16 (.im (.lst us))))) :
    Wp (gSet 16 (fFrz (fOp addD (fVar 16) (fLst (fCons (fTup (fCons (fTup (fCons (fTup (fCons (fC (.int 0)) (fCons (fC (.int 0)) fNil))) fNil)) fNil)) (fCons (fTup (fCons (fTup (fCons (fC (.int 0)) (fCons (fC (.int 0)) fNil))) (fCons (fC (.int 1)) fNil))) (fCons (fC .non) (fCons (fC (.int 5)) (fCons (fTup (fCons (fTup (fCons (fTup (fCons (fC (.int 0)) (fCons (fC (.int 0)) fNil))) (fCons (fC (.int 1)) (fCons (fC (.int 1)) fNil)))) fNil)) (fCons (fTup (fCons (fFrz (fLst (fCons (fTup (fCons (fC (.int 0)) (fCons (fC (.int 0)) fNil))) (fCons (fC (.int 1)) fNil)))) fNil)) (fCons (fTup (fCons (fTup (fCons (fTup (fCons (fC (.int 0)) (fCons (fC (.int 0)) fNil))) (fCons (fC (.str "1")) fNil))) fNil)) (fCons (fTup (fCons (fTup (fCons (fTup (fCons (fC (.int 0)) (fCons (fC (.int 0)) (fCons (fC (.int 0)) fNil)))) (fCons (fC (.int 1)) fNil))) fNil)) fNil)))))))))))) ρ Q := by
  let us : List D := [.tup [.tup [.tup [.int 0, .int 0]]], .tup [.tup [.int 0, .int 0], .int 1], .non, .int 5, .tup [.tup [.tup [.int 0, .int 0], .int 1, .int 1]], .tup [.lst [.tup [.int 0, .int 0], .int 1]], .tup [.tup [.tup [.int 0, .int 0], .str "1"]], .tup [.tup [.tup [.int 0, .int 0, .int 0], .int 1]]]
  have e : ∀ fa : FA, fa ρ = some (us.map .val, ρ) → Ev (fFrz (fOp addD (fVar 16) (fLst fa))) ρ (.lst (vs ++ us)) := fun fa h => by
    refine Ev.frz ?_
    unfold fOp fVar fLst
    rw [h16]
    simp only [h, vals_val, RV.get]
    rw [if_pos (by decide)]
    simp only [wk]
    have : addD (.lst vs) (.lst us) = some (.fresh (.lst (vs ++ us))) := by
      show (if _ then _ else _) = _
      rw [if_pos (by rw [hl]; decide)]
    rw [this]
    rfl
  refine wp_set (we_ev (e _ rfl) (.inl ⟨_, rfl, k _ (by rw [List.length_append, hl]; rfl) fun v h => ?_⟩))
  rcases List.mem_append.mp h with h | h
  · exact hv v h
  · have hu : ∀ v ∈ us, Try v := by
      simp only [us, List.forall_mem_cons]
      exact ⟨rfl, rfl, rfl, rfl, rfl, rfl, rfl, rfl, fun _ h => nomatch h⟩
    exact hu v h
theorem ix_mal {f : FE} (h : Ev f ρ malD) : Ev (fOp (cmpB neD) (fOp ixA f (fC (.int 0))) (fC (.str "malformed"))) ρ (.bl false) := Ev.op (Ev.op h .c (r := .str "malformed") rfl) .c ne_mal
theorem st15b {n : Int} (hn0 : 2 ≤ n) (hn : n ≤ 8) {f : AL} (vf : Vd n f) {v : D} (hv : Try v)
    (h3 : ρ[3]? = some (.im (.int n))) (h7 : ρ[7]? = some (.im (sumE (shL f)))) (h17 : ρ[17]? = some (.im v)) (h18 : ρ[18]? = some (.im (.bl (sumV n v)))) (k : Q (.nx ρ)) :
    Wp (gSeq (gIf (fNot (fB (fCallF [false, false] (F_d18_law_says w) (fCons (fCallF [false, false] (F_d3_is_condition_sum w) (fCons (fVar 3) (fCons (fVar 17) fNil))) (fCons (fVar 18) fNil))))) (gRet (fC (.bl false))) gNext)
  (gIf (fAnd (fNot (fB (fVar 18))) (fOr (fB (fOp (cmpB neD) (fOp ixA (fCallF [false, false, false, false] (F_d27_law_told w) (fCons (fC (.int 0)) (fCons (fVar 3) (fCons (fVar 17) (fCons (fVar 7) fNil))))) (fC (.int 0))) (fC (.str "malformed")))) (fOr (fB (fOp (cmpB neD) (fOp ixA (fCallF [false, false, false, false] (F_d27_law_told w) (fCons (fC (.int 0)) (fCons (fVar 3) (fCons (fVar 7) (fCons (fVar 17) fNil))))) (fC (.int 0))) (fC (.str "malformed")))) (fB (fOp (cmpB neD) (fOp ixA (fCallF [false, false, false, false] (F_d27_law_told w) (fCons (fC (.int 1)) (fCons (fVar 3) (fCons (fVar 17) (fCons (fC .non) fNil))))) (fC (.int 0))) (fC (.str "malformed"))))))) (gRet (fC (.bl false))) gNext)) ρ Q := by
  have lf := MB.Vd.len (n := n) hn (K56.Vd.sh vf)
  have pf : plD (wk (sumE (shL f))) = true := plD_sum (by omega)
  refine wp_seq (wp_if (wt_not (wt_ev (Ev.call (.cons (Ev.call (.cons (.im h3) (.cons (.im h17) .nil)) rfl (is_sum_ok w n ⟨hn0, hn⟩ v hv)) (.cons (.im h18) .nil)) rfl (says_ok w _)) (b0 (wp_next (then_nx ?_))))))
  refine wp_if (wt_and (wt_not (wt_ev (.im h18) ?_)))
  cases hs : sumV n v with
  | true => exact b0 (b0 (wp_next k))
  | false =>
    have h0 : sumD (.int n) v = false := by simp [sumD, hs]
    have m1 := told0_mal w _ _ _ (product_mal w (.int n) v (sumE (shL f)) rfl hv pf (by rw [h0, Bool.false_and]))
    have m2 := told0_mal w _ _ _ (product_mal w (.int n) (sumE (shL f)) v rfl pf hv (by rw [h0, Bool.and_false]))
    have m3 := told1_mal w _ _ .non (number_mal w (.int n) v rfl hv h0)
    refine b1 (wt_or (wt_ev (ix_mal (ev_told w (.im h3) (.im h17) (.im h7) m1)) (b0 ?_)))
    refine wt_or (wt_ev (ix_mal (ev_told w (.im h3) (.im h7) (.im h17) m2)) (b0 ?_))
    exact wt_ev (ix_mal (ev_told w (.im h3) (.im h17) .c m3)) (b0 (wp_next k))
/-- the loop over the bad rows: one turn -/
theorem st16b {n : Int} {v : D} (hv : plD (wk v) = true) (hr : rowsB (.int n) v = false)
    (h3 : ρ[3]? = some (.im (.int n))) (h19 : ρ[19]? = some (.im v)) (k : Q (.nx ρ)) :
    Wp (gIf (fB (fOp (cmpB neD) (fOp ixA (fCallF [false, false, false, false] (F_d27_law_told w) (fCons (fC (.int 2)) (fCons (fVar 3) (fCons (fVar 19) (fCons (fC .non) fNil))))) (fC (.int 0))) (fC (.str "malformed")))) (gRet (fC (.bl false))) gNext) ρ Q := by
  have m1 := told2_mal w _ _ .non (lines_mal w (.int n) v rfl hv hr)
  exact wp_if (wt_ev (ix_mal (ev_told w (.im h3) (.im h19) .c m1)) (b0 (wp_next k)))
def bads (n : Int) : List D := [.non, .int 5, .lst [.tup [.int 1, .int 0]], .tup [.tup [.int n, .int 0]], .tup [.tup [.int 0, .int 1]], .tup [.tup [.int 1, .int 0, .int 0]], .tup (List.replicate 21 (.tup [.int 0, .int 0])), .tup [.tup [.bl true, .int 0]], .tup [.int 1, .int 0], .tup [.tup [.int (-1), .int (-1)]]]
theorem bads_ok {n : Int} : ∀ v ∈ bads n, plD (wk v) = true ∧ rowsB (.int n) v = false := by
  unfold bads
  simp only [List.forall_mem_cons]
  refine ⟨⟨rfl, rfl⟩, ⟨rfl, rfl⟩, ⟨rfl, rfl⟩, ⟨rfl, ?_⟩, ⟨rfl, ?_⟩, ⟨rfl, ?_⟩, ⟨rfl, ?_⟩, ⟨rfl, ?_⟩, ⟨rfl, ?_⟩, ⟨rfl, ?_⟩, fun _ h => nomatch h⟩
  · simp [rowsB, wk, condB, condL, intsD]
    omega
  all_goals simp [rowsB, wk, condB, condL, intsD]
theorem bads_ev {n : Int} (h3 : ρ[3]? = some (.im (.int n))) : Ev (fFrz (fLst (fCons (fC .non) (fCons (fC (.int 5)) (fCons (fFrz (fLst (fCons (fTup (fCons (fC (.int 1)) (fCons (fC (.int 0)) fNil))) fNil))) (fCons (fTup (fCons (fTup (fCons (fVar 3) (fCons (fC (.int 0)) fNil))) fNil)) (fCons (fTup (fCons (fTup (fCons (fC (.int 0)) (fCons (fC (.int 1)) fNil))) fNil)) (fCons (fTup (fCons (fTup (fCons (fC (.int 1)) (fCons (fC (.int 0)) (fCons (fC (.int 0)) fNil)))) fNil)) (fCons (fOp mulD (fTup (fCons (fTup (fCons (fC (.int 0)) (fCons (fC (.int 0)) fNil))) fNil)) (fC (.int 21))) (fCons (fTup (fCons (fTup (fCons (fC (.bl true)) (fCons (fC (.int 0)) fNil))) fNil)) (fCons (fTup (fCons (fC (.int 1)) (fCons (fC (.int 0)) fNil))) (fCons (fTup (fCons (fTup (fCons (fUn negD (fC (.int 1))) (fCons (fUn negD (fC (.int 1))) fNil))) fNil)) fNil)))))))))))) ρ (.lst (bads n)) := by
  have t2 : ∀ {a b : D} {fa fb : FE}, Ev fa ρ a → Ev fb ρ b → Ev (fTup (fCons fa (fCons fb fNil))) ρ (.tup [a, b]) := fun ha hb => Ev.tup (.cons ha (.cons hb .nil)) rfl
  have t1 : ∀ {a : D} {fa : FE}, Ev fa ρ a → Ev (fTup (fCons fa fNil)) ρ (.tup [a]) := fun ha => Ev.tup (.cons ha .nil) rfl
  refine Ev.lst (.cons .c (.cons .c (.cons (Ev.lst (.cons (t2 .c .c) .nil) rfl) (.cons (t1 (t2 (.im h3) .c)) (.cons (t1 (t2 .c .c)) (.cons (t1 (Ev.tup (.cons .c (.cons .c (.cons .c .nil))) rfl)) (.cons (Ev.op (t1 (t2 .c .c)) .c ?_) (.cons (t1 (t2 .c .c)) (.cons (t2 .c .c) (.cons (t1 (t2 (Ev.un .c rfl) (Ev.un .c rfl))) .nil)))))))))) rfl
  rfl
end
end K56

set_option Elab.async false
set_option linter.all false
set_option maxRecDepth 100000
set_option maxHeartbeats 8000000
namespace K56
open PySem PySem.Spec PyProof.Rows L2 DL MB
variable (w : World)
theorem dim_nat (s : Int × Int) : ∃ m : Nat, m < 7 ∧ 2 + takeV s 7 = ((m + 2 : Nat) : Int) := by
  have b := takeV_bd s 7 (by omega)
  exact ⟨(takeV s 7).toNat, by omega, by omega⟩
def lastB : List D := [.int 1, .int 9, .int 0, .non, .bl true, .str "3"]
theorem lastB_ok : ∀ v ∈ lastB, plD v = true ∧ spB v = false ∧ sumD v (.tup []) = false ∧ rowsB v (.tup []) = false := by
  unfold lastB
  simp only [List.forall_mem_cons]
  exact ⟨⟨rfl, rfl, rfl, rfl⟩, ⟨rfl, rfl, rfl, rfl⟩, ⟨rfl, rfl, rfl, rfl⟩, ⟨rfl, rfl, rfl, rfl⟩, ⟨rfl, rfl, rfl, rfl⟩, ⟨rfl, rfl, rfl, rfl⟩, fun _ h => nomatch h⟩
theorem ne_mal3 : cmpB neD (.lst [.str "malformed", .str "malformed", .str "malformed"]) (.lst [.str "malformed", .str "malformed", .str "malformed"]) = some (.val (.bl false)) := by
  unfold cmpB neD
  rw [show (D.lst [.str "malformed", .str "malformed", .str "malformed"]).cmpOk = true by decide +kernel]
  rw [show PyData.eqv (D.lst [.str "malformed", .str "malformed", .str "malformed"]).py (D.lst [.str "malformed", .str "malformed", .str "malformed"]).py = true by decide +kernel]
  rfl
theorem last_ok {v : D} (hv : v ∈ lastB) {ρ : DEnv} {Q : Out → Prop} (hl : ρ.length = 21) (h19 : ρ[19]? = some (.im v)) (k : ∀ x, Q (.nx (ρ.set 20 x))) :
    Wp (gIf (fOr (fB (fOp (cmpB isNotD) (fCallF [false, false] (F_d3_is_condition_sum w) (fCons (fVar 19) (fCons (fTup fNil) fNil))) (fC (.bl false)))) (fB (fOp (cmpB neD) (fLc (fRng1 (fCons (fC (.int 3)) fNil)) (.nm 20) fYes (fOp ixA (fCallF [false, false, false, false] (F_d27_law_told w) (fCons (fVar 20) (fCons (fVar 19) (fCons (fTup fNil) (fCons (fTup fNil) fNil))))) (fC (.int 0))) [20]) (fOp mulD (fLst (fCons (fC (.str "malformed")) fNil)) (fC (.int 3)))))) (gRet (fC (.bl false))) gNext) ρ Q := by
  obtain ⟨hp, hsp, hs, hr⟩ := lastB_ok v hv
  have e1 := is_sum_any w v (.tup []) hp rfl
  rw [hs] at e1
  have m0 := told0_mal w _ _ _ (product_mal w v (.tup []) (.tup []) hp rfl rfl (by rw [hs]; rfl))
  have m1 := told1_mal w _ _ (.tup []) (number_mal w v (.tup []) hp rfl hs)
  have m2 := told2_mal w _ _ (.tup []) (lines_mal w v (.tup []) hp rfl hr)
  have tE : ∀ {ρ : DEnv}, Ev (fTup fNil) ρ (.tup []) := Ev.tup .nil rfl
  refine wp_if (wt_or (wt_ev (Ev.op (Ev.call (.cons (.im h19) (.cons tE .nil)) rfl e1) .c rfl) (b0 ?_)))
  have tt : ∀ {ρ : DEnv} {j : Nat}, j < 3 → ρ[19]? = some (.im v) → ρ[20]? = some (.im (.int j)) → Ev (fOp ixA (fCallF [false, false, false, false] (F_d27_law_told w) (fCons (fVar 20) (fCons (fVar 19) (fCons (fTup fNil) (fCons (fTup fNil) fNil))))) (fC (.int 0))) ρ (.str "malformed") := by
    intro ρ j hj q19 q20
    refine Ev.op (Ev.call (.cons (.im q20) (.cons (.im q19) (.cons tE (.cons tE .nil)))) rfl (d := malD) ?_) .c rfl
    match j, hj with
    | 0, _ => exact m0
    | 1, _ => exact m1
    | 2, _ => exact m2
  refine wt_b (we_op (we_lc (fun ρ0 rem acc ρ' => ρ0 = ρ ∧ ρ' = ρ.set 20 .un ∧ ∃ (j m : Nat), rem = rngL (j : Int) m ∧ j + m = 3 ∧ acc = List.replicate j (.str "malformed")) ?_ ?_ ?_))
  · exact wi_rng1 (wa_cons (we_c (wa_nil ⟨_, rfl, by omega, by omega, by decide, rfl, rfl, 0, 3, rfl, rfl, rfl⟩)))
  · rintro ρ0 d r acc ρ' ⟨rfl, rfl, j, m, e, hj, rfl⟩
    obtain ⟨m', rfl, rfl, rfl⟩ := rng_cons e
    refine ⟨_, rfl, wt_yes ⟨fun _ => ?_, fun h => nomatch h⟩⟩
    refine we_ev (tt (j := j) (by omega) ?_ ?_) ⟨_, rfl, rfl, ?_, j + 1, m', rfl, by omega, by rw [List.replicate_succ']⟩
    · rw [List.set_set, List.getElem?_set_ne (by decide), h19]
    · rw [List.set_set, List.getElem?_set_self (by omega)]
    · simp only [wipeD, List.set_set]
  · rintro ρ0 acc ρ' ⟨rfl, rfl, j, m, e, hj, rfl⟩
    have := rng_nil e
    subst this
    obtain rfl : j = 3 := by omega
    refine we_op (we_lst (wa_cons (we_c (wa_nil (ev_len rfl rfl (we_c ⟨_, _, _, rfl, rfl, rfl, ?_⟩))))))
    refine ⟨_, _, _, rfl, rfl, ne_mal3, _, rfl, b0 (wp_next ?_)⟩
    simp only [resD, List.set_set]
    exact k _
end K56

set_option Elab.async false
set_option linter.all false
set_option maxRecDepth 100000
set_option maxHeartbeats 8000000
namespace K56
open PySem PySem.Spec PyProof.Rows L2 DL MB
variable (w : World)
theorem law_ok (ns : List Int) : F_d29_law w [.scr ns] = some (.ok (.val (.bl true)) []) := by
  apply wf_eq
  unfold F_d29_law m_d29_law
  obtain ⟨s0, e0⟩ := state_ok w ns
  refine wf_run (wp_seq (wp_set (we_call (wa_cons (we_im rfl (wa_nil (ev_args rfl (ev_funF e0 (.inr ⟨_, rfl, then_nx ?_⟩)))))))))
  refine wp_seq (wp_for (fun rem ρ => ∃ (s : Int × Int) (x2 x3 x4 x5 x6 x7 x8 x9 x10 x11 x12 x13 x14 x15 x16 x17 x18 x19 x20 : Sl), ρ = [.im (.scr ns), .mu (stE s), x2, x3, x4, x5, x6, x7, x8, x9, x10, x11, x12, x13, x14, x15, x16, x17, x18, x19, x20]) ?_ ?_ ?_)
  · exact wi_rng1 (wa_cons (we_c (wa_nil ⟨_, rfl, by omega, by omega, s0, _, _, _, _, _, _, _, _, _, _, _, _, _, _, _, _, _, _, _, rfl⟩)))
  · rintro d r ρ ⟨s, x2, x3, x4, x5, x6, x7, x8, x9, x10, x11, x12, x13, x14, x15, x16, x17, x18, x19, x20, rfl⟩
    refine ⟨_, rfl, ?_⟩
    obtain ⟨m, hm, hd⟩ := dim_nat s
    have hn0 : 2 ≤ ((m + 2 : Nat) : Int) := by omega
    have hn : ((m + 2 : Nat) : Int) ≤ 8 := by omega
    refine wp_seq (st1 w (then_nx ?_))
    rw [hd]
    refine wp_seq (st2 w _ hn0 hn fun s1 f g h vf vg vh mf mg mh => then_nx ?_)
    obtain ⟨l, el, vl, pl⟩ := joined_pr w _ hn f g vf vg (.inl mf.sm)
    refine wp_seq (st3 w f g (lw vf hn) (lw vg hn) (then_nx ?_))
    refine wp_seq (st4 w hn f g l el vl (then_nx ?_))
    refine wp_seq (st5 w hn f g h l vf vg vh mf.sm mg.sm mh.sm vl pl el (then_nx ?_))
    refine wp_seq (st6 w hn0 hn vf vg vl mf.sm mg.sm pl rfl rfl rfl rfl (then_nx ?_))
    refine wp_seq (wp_for (fun rem ρ => ∃ (r : List AL) (x10 : Sl), rem = r.map (fun f => sumE (shL f)) ∧ (∀ f ∈ r, Vd ((m + 2 : Nat) : Int) f) ∧
      ρ = [.im (.scr ns), .mu (stE s1), .im d, .im (.int ((m + 2 : Nat) : Int)), .im (dicE f), .im (dicE g), .im (dicE h), .im (sumE (shL f)), .im (sumE (shL g)), .im (sumE (shL l)), x10, x11, x12, x13, x14, x15, x16, x17, x18, x19, x20]) ?_ ?_ ?_)
    · refine wi_seq (we_ev (Ev.tup (.cons (.im rfl) (.cons (.im rfl) (.cons (.im rfl) .nil))) rfl) ⟨_, _, rfl, rfl, [f, g, l], _, rfl, ?_, rfl⟩)
      simp only [List.forall_mem_cons]
      exact ⟨vf, vg, vl, fun _ h => nomatch h⟩
    · rintro d1 r1 ρ ⟨r', y10, e1, hv, rfl⟩
      cases r' with
      | nil => cases e1
      | cons f1 r' =>
        cases e1
        refine ⟨_, rfl, st7 w hn0 hn (hv f1 List.mem_cons_self) rfl rfl (turn_nx ?_)⟩
        exact ⟨r', _, rfl, fun f hf => hv f (List.mem_cons_of_mem _ hf), rfl⟩
    · rintro ρ ⟨r', y10, e1, hv, rfl⟩
      refine then_nx (wp_seq (st8 (then_nx ?_)))
      refine wp_seq (st9 w hn0 hn fun s2 ks p y13 y14 vp hS hl hv => then_nx ?_)
      refine wp_seq (st10 w hn0 hn vp hS (by omega) hv rfl rfl rfl (then_nx ?_))
      refine wp_seq (st11 w hm rfl (then_nx ?_))
      refine wp_seq (st12 w hm rfl rfl (then_nx ?_))
      refine wp_seq (st13 hn vf vl rfl rfl rfl fun vs hvl hvt => then_nx ?_)
      refine wp_seq (st14 hvl hvt rfl fun us hul hut => then_nx ?_)
      refine wp_seq (wp_for (fun rem ρ => ∃ (x17 x18 : Sl), (∀ v ∈ rem, Try v) ∧
        ρ = [.im (.scr ns), .mu (stE s2), .im d, .im (.int ((m + 2 : Nat) : Int)), .im (dicE f), .im (dicE g), .im (dicE h), .im (sumE (shL f)), .im (sumE (shL g)), .im (sumE (shL l)), y10, .mu (.lst (ks.map kD)), .im (dicE p), y13, y14, .im (.int ((fac (2 * m + 2)).fdiv (fac (m + 2) * fac (m + 1)))), .im (.lst us), x17, x18, x19, x20]) ?_ ?_ ?_)
      · exact wi_seq (we_im rfl ⟨_, _, rfl, rfl, _, _, hut, rfl⟩)
      · rintro v r2 ρ ⟨y17, y18, ht, rfl⟩
        have hv1 := ht v List.mem_cons_self
        refine ⟨_, rfl, wp_seq (wp_set (we_ev (Ev.call (.cons (.im rfl) (.cons (.im rfl) .nil)) rfl (law_is_sum_ok w _ ⟨hn0, hn⟩ v hv1)) (.inl ⟨_, rfl, then_nx ?_⟩)))⟩
        refine st15b w hn0 hn vf hv1 rfl rfl rfl rfl (turn_nx ?_)
        exact ⟨_, _, fun v hv => ht v (List.mem_cons_of_mem _ hv), rfl⟩
      · rintro ρ ⟨y17, y18, ht, rfl⟩
        refine then_nx (wp_for (fun rem ρ => ∃ (x19 : Sl), (∀ v ∈ rem, plD (wk v) = true ∧ rowsB (.int ((m + 2 : Nat) : Int)) v = false) ∧
          ρ = [.im (.scr ns), .mu (stE s2), .im d, .im (.int ((m + 2 : Nat) : Int)), .im (dicE f), .im (dicE g), .im (dicE h), .im (sumE (shL f)), .im (sumE (shL g)), .im (sumE (shL l)), y10, .mu (.lst (ks.map kD)), .im (dicE p), y13, y14, .im (.int ((fac (2 * m + 2)).fdiv (fac (m + 2) * fac (m + 1)))), .im (.lst us), y17, y18, x19, x20]) ?_ ?_ ?_)
        · exact wi_seq (we_ev (bads_ev rfl) ⟨_, _, rfl, rfl, _, bads_ok, rfl⟩)
        · rintro v r2 ρ ⟨y19, ht, rfl⟩
          have hv1 := ht v List.mem_cons_self
          refine ⟨_, rfl, st16b w hv1.1 hv1.2 rfl rfl (turn_nx ?_)⟩
          exact ⟨_, fun v hv => ht v (List.mem_cons_of_mem _ hv), rfl⟩
        · rintro ρ ⟨y19, ht, rfl⟩
          exact turn_nx ⟨_, _, _, _, _, _, _, _, _, _, _, _, _, _, _, _, _, _, _, _, rfl⟩
  · rintro ρ ⟨s, x2, x3, x4, x5, x6, x7, x8, x9, x10, x11, x12, x13, x14, x15, x16, x17, x18, x19, x20, rfl⟩
    refine then_nx (wp_seq (wp_for (fun rem ρ => ∃ (x19 x20 : Sl), (∀ v ∈ rem, v ∈ lastB) ∧
      ρ = [.im (.scr ns), .mu (stE s), x2, x3, x4, x5, x6, x7, x8, x9, x10, x11, x12, x13, x14, x15, x16, x17, x18, x19, x20]) ?_ ?_ ?_))
    · refine wi_seq (we_ev (Ev.lst (.cons .c (.cons .c (.cons .c (.cons .c (.cons .c (.cons .c .nil)))))) rfl) ⟨_, _, rfl, rfl, _, _, fun v hv => hv, rfl⟩)
    · rintro v r2 ρ ⟨y19, y20, ht, rfl⟩
      refine ⟨_, rfl, last_ok w (ht v List.mem_cons_self) rfl rfl fun x => turn_nx ?_⟩
      exact ⟨_, _, fun v hv => ht v (List.mem_cons_of_mem _ hv), rfl⟩
    · rintro ρ ⟨y19, y20, ht, rfl⟩
      exact then_nx (wp_ret (we_c (end_rt ⟨_, _, rfl, rfl, rfl⟩)))
theorem answer (w : World) (ns : List Int) (h : ns.length ≤ 63) (hb : ∀ z ∈ ns, Builtin.Int.intBits z ≤ 1048576) : K56.F_d29_law w [.scr ns] = some (.ok (.val (.bl true)) []) := law_ok w ns
end K56

set_option Elab.async false
set_option linter.all false
set_option maxRecDepth 100000
set_option maxHeartbeats 8000000
namespace K56
open PySem PySem.Spec PyProof.Rows L2 DL
theorem exm_self {K : PySem.W.Frag} {S : Addr} (h1 : PySem.W.subIn K (.ref S) (.type "BaseException") = some true) (h2 : PySem.W.isClsIn K S = true) (h3 : PySem.W.typeIn K (.ref S) = some (.type "type")) (h4 : PySem.W.subIn K (.ref S) (.ref S) = some true) :
    PySem.W.exmOne K (.ref S) (.ref S) = some true := by
  have e1 : (PySem.W.subIn K (.ref S) (.type "BaseException") == some true) = true := by rw [h1] <;> rfl
  have e2 : ((PySem.W.clsIn K S).isSome && PySem.W.typeIn K (.ref S) == some (.type "type")) = true := by
    have h2' : (PySem.W.clsIn K S).isSome = true := h2
    rw [h2', h3] <;> rfl
  show (if (PySem.W.subIn K (.ref S) (.type "BaseException") == some true) = true then (if ((PySem.W.clsIn K S).isSome && PySem.W.typeIn K (.ref S) == some (.type "type")) = true then PySem.W.subIn K (.ref S) (.ref S) else none) else none) = some true
  rw [if_pos e1, if_pos e2]
  exact h4
theorem all_mk {l : PySem.W.OpenLaw} {w : World} {K : PySem.W.Frag} {h : Heap} {mg : Str → Option Value} {fa0 C : Addr} {f0 f1 f2 f3 f4 f5 f6 f7 f8 f9 f10 f11 f12 f13 f14 f15 f16 f17 f18 f19 f20 f21 f22 f23 f24 f25 f26 f27 f28 f29 : Addr} (X : K.In h) (G : h.Ns mainGlobals mg) (hfa : mg "law" = some (.ref fa0))
    {od0 od1 od2 od3 od4 od5 od6 od7 od8 od9 od10 od11 od12 od13 od14 od15 od16 od17 od18 od19 od20 od21 od22 od23 od24 od25 od26 od27 od28 od29 an0 an1 an2 an3 an4 an5 an6 an7 an8 an9 an10 an11 an12 an13 an14 an15 an16 an17 an18 an19 an20 an21 an22 an23 an24 an25 an26 an27 an28 an29 : Option Addr} {sl0 sl1 sl2 sl3 sl4 sl5 sl6 sl7 sl8 sl9 sl10 sl11 sl12 sl13 sl14 sl15 sl16 sl17 sl18 sl19 sl20 sl21 sl22 sl23 sl24 sl25 sl26 sl27 sl28 sl29 : Array (Option Value)} {oc0 oc1 oc2 oc3 oc4 oc5 oc6 oc7 oc8 oc9 oc10 oc11 oc12 oc13 oc14 oc15 oc16 oc17 oc18 oc19 oc20 oc21 oc22 oc23 oc24 oc25 oc26 oc27 oc28 oc29 kV0 kV1 kV2 kV3 kV4 kV5 kV6 kV7 kV8 kV9 kV10 kV11 kV12 kV13 kV14 kV15 kV16 kV17 kV18 kV19 kV20 kV21 kV22 kV23 kV24 kV25 kV26 kV27 kV28 kV29 dc0 dc1 dc2 dc3 dc4 dc5 dc6 dc7 dc8 dc9 dc10 dc11 dc12 dc13 dc14 dc15 dc16 dc17 dc18 dc19 dc20 dc21 dc22 dc23 dc24 dc25 dc26 dc27 dc28 dc29 pm0 pm1 pm2 pm3 pm4 pm5 pm6 pm7 pm8 pm9 pm10 pm11 pm12 pm13 pm14 pm15 pm16 pm17 pm18 pm19 pm20 pm21 pm22 pm23 pm24 pm25 pm26 pm27 pm28 pm29 cd0 cd1 cd2 cd3 cd4 cd5 cd6 cd7 cd8 cd9 cd10 cd11 cd12 cd13 cd14 cd15 cd16 cd17 cd18 cd19 cd20 cd21 cd22 cd23 cd24 cd25 cd26 cd27 cd28 cd29 ct0 ct1 ct2 ct3 ct4 ct5 ct6 ct7 ct8 ct9 ct10 ct11 ct12 ct13 ct14 ct15 ct16 ct17 ct18 ct19 ct20 ct21 ct22 ct23 ct24 ct25 ct26 ct27 ct28 ct29 : Value} {t0 t1 t2 : Tok}
    (a0 : PySem.W.nsIn K mainGlobals "is_integer" = some (some (.ref f0))) (l0 : K.lookup f0 = some ⟨oc0, od0, .func (PySem.W.fnOf "is_integer" "is_integer" (defArgs (topS 4)) (defBody (topS 4)) (defScope (topS 4)) .none kV0 dc0 pm0 an0 cd0 ct0), sl0⟩) (c0 : PySem.W.codeIn K cd0 "is_integer" = true) (k0 : PySem.W.keepIn K (.ref f0) = true)
    (a1 : PySem.W.nsIn K mainGlobals "is_space" = some (some (.ref f1))) (l1 : K.lookup f1 = some ⟨oc1, od1, .func (PySem.W.fnOf "is_space" "is_space" (defArgs (topS 9)) (defBody (topS 9)) (defScope (topS 9)) .none kV1 dc1 pm1 an1 cd1 ct1), sl1⟩) (c1 : PySem.W.codeIn K cd1 "is_space" = true) (k1 : PySem.W.keepIn K (.ref f1) = true)
    (a2 : PySem.W.nsIn K mainGlobals "is_condition" = some (some (.ref f2))) (l2 : K.lookup f2 = some ⟨oc2, od2, .func (PySem.W.fnOf "is_condition" "is_condition" (defArgs (topS 10)) (defBody (topS 10)) (defScope (topS 10)) .none kV2 dc2 pm2 an2 cd2 ct2), sl2⟩) (c2 : PySem.W.codeIn K cd2 "is_condition" = true) (k2 : PySem.W.keepIn K (.ref f2) = true)
    (a3 : PySem.W.nsIn K mainGlobals "is_condition_sum" = some (some (.ref f3))) (l3 : K.lookup f3 = some ⟨oc3, od3, .func (PySem.W.fnOf "is_condition_sum" "is_condition_sum" (defArgs (topS 11)) (defBody (topS 11)) (defScope (topS 11)) .none kV3 dc3 pm3 an3 cd3 ct3), sl3⟩) (c3 : PySem.W.codeIn K cd3 "is_condition_sum" = true) (k3 : PySem.W.keepIn K (.ref f3) = true)
    (a4 : PySem.W.nsIn K mainGlobals "check_sums" = some (some (.ref f4))) (l4 : K.lookup f4 = some ⟨oc4, od4, .func (PySem.W.fnOf "check_sums" "check_sums" (defArgs (topS 12)) (defBody (topS 12)) (defScope (topS 12)) .none kV4 dc4 pm4 an4 cd4 ct4), sl4⟩) (c4 : PySem.W.codeIn K cd4 "check_sums" = true) (k4 : PySem.W.keepIn K (.ref f4) = true)
    (a5 : PySem.W.nsIn K mainGlobals "shown" = some (some (.ref f5))) (l5 : K.lookup f5 = some ⟨oc5, od5, .func (PySem.W.fnOf "shown" "shown" (defArgs (topS 13)) (defBody (topS 13)) (defScope (topS 13)) .none kV5 dc5 pm5 an5 cd5 ct5), sl5⟩) (c5 : PySem.W.codeIn K cd5 "shown" = true) (k5 : PySem.W.keepIn K (.ref f5) = true)
    (a6 : PySem.W.nsIn K mainGlobals "put" = some (some (.ref f6))) (l6 : K.lookup f6 = some ⟨oc6, od6, .func (PySem.W.fnOf "put" "put" (defArgs (topS 14)) (defBody (topS 14)) (defScope (topS 14)) .none kV6 dc6 pm6 an6 cd6 ct6), sl6⟩) (c6 : PySem.W.codeIn K cd6 "put" = true) (k6 : PySem.W.keepIn K (.ref f6) = true)
    (a7 : PySem.W.nsIn K mainGlobals "grown" = some (some (.ref f7))) (l7 : K.lookup f7 = some ⟨oc7, od7, .func (PySem.W.fnOf "grown" "grown" (defArgs (topS 15)) (defBody (topS 15)) (defScope (topS 15)) .none kV7 dc7 pm7 an7 cd7 ct7), sl7⟩) (c7 : PySem.W.codeIn K cd7 "grown" = true) (k7 : PySem.W.keepIn K (.ref f7) = true)
    (a8 : PySem.W.nsIn K mainGlobals "raised" = some (some (.ref f8))) (l8 : K.lookup f8 = some ⟨oc8, od8, .func (PySem.W.fnOf "raised" "raised" (defArgs (topS 16)) (defBody (topS 16)) (defScope (topS 16)) .none kV8 dc8 pm8 an8 cd8 ct8), sl8⟩) (c8 : PySem.W.codeIn K cd8 "raised" = true) (k8 : PySem.W.keepIn K (.ref f8) = true)
    (a9 : PySem.W.nsIn K mainGlobals "times_condition" = some (some (.ref f9))) (l9 : K.lookup f9 = some ⟨oc9, od9, .func (PySem.W.fnOf "times_condition" "times_condition" (defArgs (topS 17)) (defBody (topS 17)) (defScope (topS 17)) .none kV9 dc9 pm9 an9 cd9 ct9), sl9⟩) (c9 : PySem.W.codeIn K cd9 "times_condition" = true) (k9 : PySem.W.keepIn K (.ref f9) = true)
    (a10 : PySem.W.nsIn K mainGlobals "product_of" = some (some (.ref f10))) (l10 : K.lookup f10 = some ⟨oc10, od10, .func (PySem.W.fnOf "product_of" "product_of" (defArgs (topS 18)) (defBody (topS 18)) (defScope (topS 18)) .none kV10 dc10 pm10 an10 cd10 ct10), sl10⟩) (c10 : PySem.W.codeIn K cd10 "product_of" = true) (k10 : PySem.W.keepIn K (.ref f10) = true)
    (a11 : PySem.W.nsIn K mainGlobals "condition_product" = some (some (.ref f11))) (l11 : K.lookup f11 = some ⟨oc11, od11, .func (PySem.W.fnOf "condition_product" "condition_product" (defArgs (topS 19)) (defBody (topS 19)) (defScope (topS 19)) .none kV11 dc11 pm11 an11 cd11 ct11), sl11⟩) (c11 : PySem.W.codeIn K cd11 "condition_product" = true) (k11 : PySem.W.keepIn K (.ref f11) = true)
    (a12 : PySem.W.nsIn K mainGlobals "condition_number" = some (some (.ref f12))) (l12 : K.lookup f12 = some ⟨oc12, od12, .func (PySem.W.fnOf "condition_number" "condition_number" (defArgs (topS 20)) (defBody (topS 20)) (defScope (topS 20)) .none kV12 dc12 pm12 an12 cd12 ct12), sl12⟩) (c12 : PySem.W.codeIn K cd12 "condition_number" = true) (k12 : PySem.W.keepIn K (.ref f12) = true)
    (a13 : PySem.W.nsIn K mainGlobals "lines_fulfilling" = some (some (.ref f13))) (l13 : K.lookup f13 = some ⟨oc13, od13, .func (PySem.W.fnOf "lines_fulfilling" "lines_fulfilling" (defArgs (topS 21)) (defBody (topS 21)) (defScope (topS 21)) .none kV13 dc13 pm13 an13 cd13 ct13), sl13⟩) (c13 : PySem.W.codeIn K cd13 "lines_fulfilling" = true) (k13 : PySem.W.keepIn K (.ref f13) = true)
    (a14 : PySem.W.nsIn K mainGlobals "_law_state" = some (some (.ref f14))) (l14 : K.lookup f14 = some ⟨oc14, od14, .func (PySem.W.fnOf "_law_state" "_law_state" (defArgs (topS 23)) (defBody (topS 23)) (defScope (topS 23)) .none kV14 dc14 pm14 an14 cd14 ct14), sl14⟩) (c14 : PySem.W.codeIn K cd14 "_law_state" = true) (k14 : PySem.W.keepIn K (.ref f14) = true)
    (a15 : PySem.W.nsIn K mainGlobals "_law_take" = some (some (.ref f15))) (l15 : K.lookup f15 = some ⟨oc15, od15, .func (PySem.W.fnOf "_law_take" "_law_take" (defArgs (topS 24)) (defBody (topS 24)) (defScope (topS 24)) .none kV15 dc15 pm15 an15 cd15 ct15), sl15⟩) (c15 : PySem.W.codeIn K cd15 "_law_take" = true) (k15 : PySem.W.keepIn K (.ref f15) = true)
    (a16 : PySem.W.nsIn K mainGlobals "_law_odd" = some (some (.ref f16))) (l16 : K.lookup f16 = some ⟨oc16, od16, .func (PySem.W.fnOf "_law_odd" "_law_odd" (defArgs (topS 25)) (defBody (topS 25)) (defScope (topS 25)) .none kV16 dc16 pm16 an16 cd16 ct16), sl16⟩) (c16 : PySem.W.codeIn K cd16 "_law_odd" = true) (k16 : PySem.W.keepIn K (.ref f16) = true)
    (a17 : PySem.W.nsIn K mainGlobals "_law_honest" = some (some (.ref f17))) (l17 : K.lookup f17 = some ⟨oc17, od17, .func (PySem.W.fnOf "_law_honest" "_law_honest" (defArgs (topS 26)) (defBody (topS 26)) (defScope (topS 26)) .none kV17 dc17 pm17 an17 cd17 ct17), sl17⟩) (c17 : PySem.W.codeIn K cd17 "_law_honest" = true) (k17 : PySem.W.keepIn K (.ref f17) = true)
    (a18 : PySem.W.nsIn K mainGlobals "_law_says" = some (some (.ref f18))) (l18 : K.lookup f18 = some ⟨oc18, od18, .func (PySem.W.fnOf "_law_says" "_law_says" (defArgs (topS 27)) (defBody (topS 27)) (defScope (topS 27)) .none kV18 dc18 pm18 an18 cd18 ct18), sl18⟩) (c18 : PySem.W.codeIn K cd18 "_law_says" = true) (k18 : PySem.W.keepIn K (.ref f18) = true)
    (a19 : PySem.W.nsIn K mainGlobals "_law_is_whole" = some (some (.ref f19))) (l19 : K.lookup f19 = some ⟨oc19, od19, .func (PySem.W.fnOf "_law_is_whole" "_law_is_whole" (defArgs (topS 28)) (defBody (topS 28)) (defScope (topS 28)) .none kV19 dc19 pm19 an19 cd19 ct19), sl19⟩) (c19 : PySem.W.codeIn K cd19 "_law_is_whole" = true) (k19 : PySem.W.keepIn K (.ref f19) = true)
    (a20 : PySem.W.nsIn K mainGlobals "_law_same" = some (some (.ref f20))) (l20 : K.lookup f20 = some ⟨oc20, od20, .func (PySem.W.fnOf "_law_same" "_law_same" (defArgs (topS 29)) (defBody (topS 29)) (defScope (topS 29)) .none kV20 dc20 pm20 an20 cd20 ct20), sl20⟩) (c20 : PySem.W.codeIn K cd20 "_law_same" = true) (k20 : PySem.W.keepIn K (.ref f20) = true)
    (a21 : PySem.W.nsIn K mainGlobals "_law_is_condition" = some (some (.ref f21))) (l21 : K.lookup f21 = some ⟨oc21, od21, .func (PySem.W.fnOf "_law_is_condition" "_law_is_condition" (defArgs (topS 30)) (defBody (topS 30)) (defScope (topS 30)) .none kV21 dc21 pm21 an21 cd21 ct21), sl21⟩) (c21 : PySem.W.codeIn K cd21 "_law_is_condition" = true) (k21 : PySem.W.keepIn K (.ref f21) = true)
    (a22 : PySem.W.nsIn K mainGlobals "_law_is_sum" = some (some (.ref f22))) (l22 : K.lookup f22 = some ⟨oc22, od22, .func (PySem.W.fnOf "_law_is_sum" "_law_is_sum" (defArgs (topS 31)) (defBody (topS 31)) (defScope (topS 31)) .none kV22 dc22 pm22 an22 cd22 ct22), sl22⟩) (c22 : PySem.W.codeIn K cd22 "_law_is_sum" = true) (k22 : PySem.W.keepIn K (.ref f22) = true)
    (a23 : PySem.W.nsIn K mainGlobals "_law_joined" = some (some (.ref f23))) (l23 : K.lookup f23 = some ⟨oc23, od23, .func (PySem.W.fnOf "_law_joined" "_law_joined" (defArgs (topS 32)) (defBody (topS 32)) (defScope (topS 32)) .none kV23 dc23 pm23 an23 cd23 ct23), sl23⟩) (c23 : PySem.W.codeIn K cd23 "_law_joined" = true) (k23 : PySem.W.keepIn K (.ref f23) = true)
    (a24 : PySem.W.nsIn K mainGlobals "_law_shown" = some (some (.ref f24))) (l24 : K.lookup f24 = some ⟨oc24, od24, .func (PySem.W.fnOf "_law_shown" "_law_shown" (defArgs (topS 33)) (defBody (topS 33)) (defScope (topS 33)) .none kV24 dc24 pm24 an24 cd24 ct24), sl24⟩) (c24 : PySem.W.codeIn K cd24 "_law_shown" = true) (k24 : PySem.W.keepIn K (.ref f24) = true)
    (a25 : PySem.W.nsIn K mainGlobals "_law_dict" = some (some (.ref f25))) (l25 : K.lookup f25 = some ⟨oc25, od25, .func (PySem.W.fnOf "_law_dict" "_law_dict" (defArgs (topS 34)) (defBody (topS 34)) (defScope (topS 34)) .none kV25 dc25 pm25 an25 cd25 ct25), sl25⟩) (c25 : PySem.W.codeIn K cd25 "_law_dict" = true) (k25 : PySem.W.keepIn K (.ref f25) = true)
    (a26 : PySem.W.nsIn K mainGlobals "_law_drawn_sum" = some (some (.ref f26))) (l26 : K.lookup f26 = some ⟨oc26, od26, .func (PySem.W.fnOf "_law_drawn_sum" "_law_drawn_sum" (defArgs (topS 35)) (defBody (topS 35)) (defScope (topS 35)) .none kV26 dc26 pm26 an26 cd26 ct26), sl26⟩) (c26 : PySem.W.codeIn K cd26 "_law_drawn_sum" = true) (k26 : PySem.W.keepIn K (.ref f26) = true)
    (a27 : PySem.W.nsIn K mainGlobals "_law_told" = some (some (.ref f27))) (l27 : K.lookup f27 = some ⟨oc27, od27, .func (PySem.W.fnOf "_law_told" "_law_told" (defArgs (topS 36)) (defBody (topS 36)) (defScope (topS 36)) .none kV27 dc27 pm27 an27 cd27 ct27), sl27⟩) (c27 : PySem.W.codeIn K cd27 "_law_told" = true) (k27 : PySem.W.keepIn K (.ref f27) = true)
    (a28 : PySem.W.nsIn K mainGlobals "_law_factorial" = some (some (.ref f28))) (l28 : K.lookup f28 = some ⟨oc28, od28, .func (PySem.W.fnOf "_law_factorial" "_law_factorial" (defArgs (topS 37)) (defBody (topS 37)) (defScope (topS 37)) .none kV28 dc28 pm28 an28 cd28 ct28), sl28⟩) (c28 : PySem.W.codeIn K cd28 "_law_factorial" = true) (k28 : PySem.W.keepIn K (.ref f28) = true)
    (a29 : PySem.W.nsIn K mainGlobals "law" = some (some (.ref f29))) (l29 : K.lookup f29 = some ⟨oc29, od29, .func (PySem.W.fnOf "law" "law" (defArgs (topS 38)) (defBody (topS 38)) (defScope (topS 38)) .none kV29 dc29 pm29 an29 cd29 ct29), sl29⟩) (c29 : PySem.W.codeIn K cd29 "law" = true) (k29 : PySem.W.keepIn K (.ref f29) = true)
    (z0 : PySem.W.nsIn K mainGlobals "abs" = some none)
    (z1 : PySem.W.nsIn K mainGlobals "all" = some none)
    (z2 : PySem.W.nsIn K mainGlobals "bool" = some none)
    (z3 : PySem.W.nsIn K mainGlobals "dict" = some none)
    (z4 : PySem.W.nsIn K mainGlobals "int" = some none)
    (z5 : PySem.W.nsIn K mainGlobals "isinstance" = some none)
    (z6 : PySem.W.nsIn K mainGlobals "len" = some none)
    (z7 : PySem.W.nsIn K mainGlobals "list" = some none)
    (z8 : PySem.W.nsIn K mainGlobals "min" = some none)
    (z9 : PySem.W.nsIn K mainGlobals "range" = some none)
    (z10 : PySem.W.nsIn K mainGlobals "sorted" = some none)
    (z11 : PySem.W.nsIn K mainGlobals "str" = some none)
    (z12 : PySem.W.nsIn K mainGlobals "tuple" = some none)
    (z13 : PySem.W.nsIn K mainGlobals "zip" = some none)
    (q0 : PySem.W.nsIn K mainGlobals "LEAST_SPACE" = some (some (.int 2 t0)))
    (q1 : PySem.W.nsIn K mainGlobals "MOST_SPACE" = some (some (.int 8 t1)))
    (q2 : PySem.W.nsIn K mainGlobals "MOST_LISTED" = some (some (.int 20 t2)))
    (aC : PySem.W.nsIn K mainGlobals "Malformed" = some (some (.ref C))) (xM : PySem.W.excIn K C [.type "ValueError", .type "Exception", .type "BaseException", .type "object"] "ValueError.__new__" = true) (kC : PySem.W.keepIn K (.ref C) = true) (eC : PySem.W.subIn K (.ref C) (.type "BaseException") = some true) (tC : PySem.W.typeIn K (.ref C) = some (.type "type")) (iC : PySem.W.isClsIn K C = true) (sC : PySem.W.subIn K (.ref C) (.ref C) = some true)
    : ∃ fd : FuncData, (∀ (s : Shared) (v : Value), BindsTo s fd ⟨[v], []⟩ [("script", v)]) ∧ ∀ base : Heap, K.In base → base.Ns mainGlobals mg → FnOk l.prog w K mg base CX0 15 fa0 fd ["script"] (sp0 K w [false] (F_d29_law w)) := by
  have e := hfa.symm.trans (PySem.W.mg_of X G a29)
  cases e
  have T : Txt K mg (fun i => match i with | 0 => f0 | 1 => f1 | 2 => f2 | 3 => f3 | 4 => f4 | 5 => f5 | 6 => f6 | 7 => f7 | 8 => f8 | 9 => f9 | 10 => f10 | 11 => f11 | 12 => f12 | 13 => f13 | 14 => f14 | 15 => f15 | 16 => f16 | 17 => f17 | 18 => f18 | 19 => f19 | 20 => f20 | 21 => f21 | 22 => f22 | 23 => f23 | 24 => f24 | 25 => f25 | 26 => f26 | 27 => f27 | 28 => f28 | _ => fa0) (fun i => match i with | 0 => PySem.W.fnOf "is_integer" "is_integer" (defArgs (topS 4)) (defBody (topS 4)) (defScope (topS 4)) .none kV0 dc0 pm0 an0 cd0 ct0 | 1 => PySem.W.fnOf "is_space" "is_space" (defArgs (topS 9)) (defBody (topS 9)) (defScope (topS 9)) .none kV1 dc1 pm1 an1 cd1 ct1 | 2 => PySem.W.fnOf "is_condition" "is_condition" (defArgs (topS 10)) (defBody (topS 10)) (defScope (topS 10)) .none kV2 dc2 pm2 an2 cd2 ct2 | 3 => PySem.W.fnOf "is_condition_sum" "is_condition_sum" (defArgs (topS 11)) (defBody (topS 11)) (defScope (topS 11)) .none kV3 dc3 pm3 an3 cd3 ct3 | 4 => PySem.W.fnOf "check_sums" "check_sums" (defArgs (topS 12)) (defBody (topS 12)) (defScope (topS 12)) .none kV4 dc4 pm4 an4 cd4 ct4 | 5 => PySem.W.fnOf "shown" "shown" (defArgs (topS 13)) (defBody (topS 13)) (defScope (topS 13)) .none kV5 dc5 pm5 an5 cd5 ct5 | 6 => PySem.W.fnOf "put" "put" (defArgs (topS 14)) (defBody (topS 14)) (defScope (topS 14)) .none kV6 dc6 pm6 an6 cd6 ct6 | 7 => PySem.W.fnOf "grown" "grown" (defArgs (topS 15)) (defBody (topS 15)) (defScope (topS 15)) .none kV7 dc7 pm7 an7 cd7 ct7 | 8 => PySem.W.fnOf "raised" "raised" (defArgs (topS 16)) (defBody (topS 16)) (defScope (topS 16)) .none kV8 dc8 pm8 an8 cd8 ct8 | 9 => PySem.W.fnOf "times_condition" "times_condition" (defArgs (topS 17)) (defBody (topS 17)) (defScope (topS 17)) .none kV9 dc9 pm9 an9 cd9 ct9 | 10 => PySem.W.fnOf "product_of" "product_of" (defArgs (topS 18)) (defBody (topS 18)) (defScope (topS 18)) .none kV10 dc10 pm10 an10 cd10 ct10 | 11 => PySem.W.fnOf "condition_product" "condition_product" (defArgs (topS 19)) (defBody (topS 19)) (defScope (topS 19)) .none kV11 dc11 pm11 an11 cd11 ct11 | 12 => PySem.W.fnOf "condition_number" "condition_number" (defArgs (topS 20)) (defBody (topS 20)) (defScope (topS 20)) .none kV12 dc12 pm12 an12 cd12 ct12 | 13 => PySem.W.fnOf "lines_fulfilling" "lines_fulfilling" (defArgs (topS 21)) (defBody (topS 21)) (defScope (topS 21)) .none kV13 dc13 pm13 an13 cd13 ct13 | 14 => PySem.W.fnOf "_law_state" "_law_state" (defArgs (topS 23)) (defBody (topS 23)) (defScope (topS 23)) .none kV14 dc14 pm14 an14 cd14 ct14 | 15 => PySem.W.fnOf "_law_take" "_law_take" (defArgs (topS 24)) (defBody (topS 24)) (defScope (topS 24)) .none kV15 dc15 pm15 an15 cd15 ct15 | 16 => PySem.W.fnOf "_law_odd" "_law_odd" (defArgs (topS 25)) (defBody (topS 25)) (defScope (topS 25)) .none kV16 dc16 pm16 an16 cd16 ct16 | 17 => PySem.W.fnOf "_law_honest" "_law_honest" (defArgs (topS 26)) (defBody (topS 26)) (defScope (topS 26)) .none kV17 dc17 pm17 an17 cd17 ct17 | 18 => PySem.W.fnOf "_law_says" "_law_says" (defArgs (topS 27)) (defBody (topS 27)) (defScope (topS 27)) .none kV18 dc18 pm18 an18 cd18 ct18 | 19 => PySem.W.fnOf "_law_is_whole" "_law_is_whole" (defArgs (topS 28)) (defBody (topS 28)) (defScope (topS 28)) .none kV19 dc19 pm19 an19 cd19 ct19 | 20 => PySem.W.fnOf "_law_same" "_law_same" (defArgs (topS 29)) (defBody (topS 29)) (defScope (topS 29)) .none kV20 dc20 pm20 an20 cd20 ct20 | 21 => PySem.W.fnOf "_law_is_condition" "_law_is_condition" (defArgs (topS 30)) (defBody (topS 30)) (defScope (topS 30)) .none kV21 dc21 pm21 an21 cd21 ct21 | 22 => PySem.W.fnOf "_law_is_sum" "_law_is_sum" (defArgs (topS 31)) (defBody (topS 31)) (defScope (topS 31)) .none kV22 dc22 pm22 an22 cd22 ct22 | 23 => PySem.W.fnOf "_law_joined" "_law_joined" (defArgs (topS 32)) (defBody (topS 32)) (defScope (topS 32)) .none kV23 dc23 pm23 an23 cd23 ct23 | 24 => PySem.W.fnOf "_law_shown" "_law_shown" (defArgs (topS 33)) (defBody (topS 33)) (defScope (topS 33)) .none kV24 dc24 pm24 an24 cd24 ct24 | 25 => PySem.W.fnOf "_law_dict" "_law_dict" (defArgs (topS 34)) (defBody (topS 34)) (defScope (topS 34)) .none kV25 dc25 pm25 an25 cd25 ct25 | 26 => PySem.W.fnOf "_law_drawn_sum" "_law_drawn_sum" (defArgs (topS 35)) (defBody (topS 35)) (defScope (topS 35)) .none kV26 dc26 pm26 an26 cd26 ct26 | 27 => PySem.W.fnOf "_law_told" "_law_told" (defArgs (topS 36)) (defBody (topS 36)) (defScope (topS 36)) .none kV27 dc27 pm27 an27 cd27 ct27 | 28 => PySem.W.fnOf "_law_factorial" "_law_factorial" (defArgs (topS 37)) (defBody (topS 37)) (defScope (topS 37)) .none kV28 dc28 pm28 an28 cd28 ct28 | _ => PySem.W.fnOf "law" "law" (defArgs (topS 38)) (defBody (topS 38)) (defScope (topS 38)) .none kV29 dc29 pm29 an29 cd29 ct29) (C, 0) := {
    F_d0_is_integer := fun_mk (st := topS 4) l0 c0 k0, g_d0_is_integer := PySem.W.mg_of X G a0,
    F_d1_is_space := fun_mk (st := topS 9) l1 c1 k1, g_d1_is_space := PySem.W.mg_of X G a1,
    F_d2_is_condition := fun_mk (st := topS 10) l2 c2 k2, g_d2_is_condition := PySem.W.mg_of X G a2,
    F_d3_is_condition_sum := fun_mk (st := topS 11) l3 c3 k3, g_d3_is_condition_sum := PySem.W.mg_of X G a3,
    F_d4_check_sums := fun_mk (st := topS 12) l4 c4 k4, g_d4_check_sums := PySem.W.mg_of X G a4,
    F_d5_shown := fun_mk (st := topS 13) l5 c5 k5, g_d5_shown := PySem.W.mg_of X G a5,
    F_d6_put := fun_mk (st := topS 14) l6 c6 k6, g_d6_put := PySem.W.mg_of X G a6,
    F_d7_grown := fun_mk (st := topS 15) l7 c7 k7, g_d7_grown := PySem.W.mg_of X G a7,
    F_d8_raised := fun_mk (st := topS 16) l8 c8 k8, g_d8_raised := PySem.W.mg_of X G a8,
    F_d9_times_condition := fun_mk (st := topS 17) l9 c9 k9, g_d9_times_condition := PySem.W.mg_of X G a9,
    F_d10_product_of := fun_mk (st := topS 18) l10 c10 k10, g_d10_product_of := PySem.W.mg_of X G a10,
    F_d11_condition_product := fun_mk (st := topS 19) l11 c11 k11, g_d11_condition_product := PySem.W.mg_of X G a11,
    F_d12_condition_number := fun_mk (st := topS 20) l12 c12 k12, g_d12_condition_number := PySem.W.mg_of X G a12,
    F_d13_lines_fulfilling := fun_mk (st := topS 21) l13 c13 k13, g_d13_lines_fulfilling := PySem.W.mg_of X G a13,
    F_d14_law_state := fun_mk (st := topS 23) l14 c14 k14, g_d14_law_state := PySem.W.mg_of X G a14,
    F_d15_law_take := fun_mk (st := topS 24) l15 c15 k15, g_d15_law_take := PySem.W.mg_of X G a15,
    F_d16_law_odd := fun_mk (st := topS 25) l16 c16 k16, g_d16_law_odd := PySem.W.mg_of X G a16,
    F_d17_law_honest := fun_mk (st := topS 26) l17 c17 k17, g_d17_law_honest := PySem.W.mg_of X G a17,
    F_d18_law_says := fun_mk (st := topS 27) l18 c18 k18, g_d18_law_says := PySem.W.mg_of X G a18,
    F_d19_law_is_whole := fun_mk (st := topS 28) l19 c19 k19, g_d19_law_is_whole := PySem.W.mg_of X G a19,
    F_d20_law_same := fun_mk (st := topS 29) l20 c20 k20, g_d20_law_same := PySem.W.mg_of X G a20,
    F_d21_law_is_condition := fun_mk (st := topS 30) l21 c21 k21, g_d21_law_is_condition := PySem.W.mg_of X G a21,
    F_d22_law_is_sum := fun_mk (st := topS 31) l22 c22 k22, g_d22_law_is_sum := PySem.W.mg_of X G a22,
    F_d23_law_joined := fun_mk (st := topS 32) l23 c23 k23, g_d23_law_joined := PySem.W.mg_of X G a23,
    F_d24_law_shown := fun_mk (st := topS 33) l24 c24 k24, g_d24_law_shown := PySem.W.mg_of X G a24,
    F_d25_law_dict := fun_mk (st := topS 34) l25 c25 k25, g_d25_law_dict := PySem.W.mg_of X G a25,
    F_d26_law_drawn_sum := fun_mk (st := topS 35) l26 c26 k26, g_d26_law_drawn_sum := PySem.W.mg_of X G a26,
    F_d27_law_told := fun_mk (st := topS 36) l27 c27 k27, g_d27_law_told := PySem.W.mg_of X G a27,
    F_d28_law_factorial := fun_mk (st := topS 37) l28 c28 k28, g_d28_law_factorial := PySem.W.mg_of X G a28,
    F_d29_law := fun_mk (st := topS 38) l29 c29 k29, g_d29_law := PySem.W.mg_of X G a29,
    n_abs := PySem.W.mg_none_of X G z0,
    n_all := PySem.W.mg_none_of X G z1,
    n_bool := PySem.W.mg_none_of X G z2,
    n_dict := PySem.W.mg_none_of X G z3,
    n_int := PySem.W.mg_none_of X G z4,
    n_isinstance := PySem.W.mg_none_of X G z5,
    n_len := PySem.W.mg_none_of X G z6,
    n_list := PySem.W.mg_none_of X G z7,
    n_min := PySem.W.mg_none_of X G z8,
    n_range := PySem.W.mg_none_of X G z9,
    n_sorted := PySem.W.mg_none_of X G z10,
    n_str := PySem.W.mg_none_of X G z11,
    n_tuple := PySem.W.mg_none_of X G z12,
    n_zip := PySem.W.mg_none_of X G z13,
    c_LEAST_SPACE := ⟨_, PySem.W.mg_of X G q0⟩,
    c_MOST_SPACE := ⟨_, PySem.W.mg_of X G q1⟩,
    c_MOST_LISTED := ⟨_, PySem.W.mg_of X G q2⟩,
    gM := PySem.W.mg_of X G aC, xM := xM, kM := kC, bM := eC, tM := tC, eM := exm_self eC iC tC sC }
  exact ⟨_, fun s v => .of_eq rfl, fun base _ _ => ok_d29_law (P := l.prog) (w := w) (base := base) T⟩
end K56

set_option Elab.async false
set_option linter.all false
set_option maxRecDepth 100000
set_option maxHeartbeats 0
open PySem PySem.W PyProof.Rows
theorem PySem.Challenge.cw_pointsfix_k56_whole_conditions_on_lines_holds : PySem.Challenge.rw_pointsfix_k56_whole_conditions_on_lines.Holds := by
  w_on; o_law; k_head; (case hw => w_witness2)
  k_fill
  refine L2.walk_ofB (l := PySem.Challenge.rw_pointsfix_k56_whole_conditions_on_lines) (n := 63) (k := 15) (x := "script") (CX := fun _ => L2.CX0) (sp := fun w => DL.sp0 _ w [false] (K56.F_d29_law w)) rfl (by decide) rfl ⟨rfl, by decide, by decide⟩ (fun w h Y => PySem.W.kIn_of Y) ?F
    (fun w H a ns hl hb hO hS => ⟨[.scr ns], ⟨⟨a, rfl, DL.sqF_of hO hS⟩, trivial⟩, List.nodup_nil, .val (.bl true), [], K56.answer w ns hl hb, fun v H' _ r => r⟩) (fun _ _ _ _ _ h => h)
  case F =>
    intro w mg fa h KX G hmg
    refine' K56.all_mk KX G hmg ?a0 ?l0 ?c0 ?k0 ?a1 ?l1 ?c1 ?k1 ?a2 ?l2 ?c2 ?k2 ?a3 ?l3 ?c3 ?k3 ?a4 ?l4 ?c4 ?k4 ?a5 ?l5 ?c5 ?k5 ?a6 ?l6 ?c6 ?k6 ?a7 ?l7 ?c7 ?k7 ?a8 ?l8 ?c8 ?k8 ?a9 ?l9 ?c9 ?k9 ?a10 ?l10 ?c10 ?k10 ?a11 ?l11 ?c11 ?k11 ?a12 ?l12 ?c12 ?k12 ?a13 ?l13 ?c13 ?k13 ?a14 ?l14 ?c14 ?k14 ?a15 ?l15 ?c15 ?k15 ?a16 ?l16 ?c16 ?k16 ?a17 ?l17 ?c17 ?k17 ?a18 ?l18 ?c18 ?k18 ?a19 ?l19 ?c19 ?k19 ?a20 ?l20 ?c20 ?k20 ?a21 ?l21 ?c21 ?k21 ?a22 ?l22 ?c22 ?k22 ?a23 ?l23 ?c23 ?k23 ?a24 ?l24 ?c24 ?k24 ?a25 ?l25 ?c25 ?k25 ?a26 ?l26 ?c26 ?k26 ?a27 ?l27 ?c27 ?k27 ?a28 ?l28 ?c28 ?k28 ?a29 ?l29 ?c29 ?k29 ?z0 ?z1 ?z2 ?z3 ?z4 ?z5 ?z6 ?z7 ?z8 ?z9 ?z10 ?z11 ?z12 ?z13 ?q0 ?q1 ?q2 ?aC ?xM ?kC ?eC ?tC ?iC ?sC
    (case a0 => k_is)
    (case l0 => k_is)
    (case c0 => k_is)
    (case k0 => k_is)
    (case a1 => k_is)
    (case l1 => k_is)
    (case c1 => k_is)
    (case k1 => k_is)
    (case a2 => k_is)
    (case l2 => k_is)
    (case c2 => k_is)
    (case k2 => k_is)
    (case a3 => k_is)
    (case l3 => k_is)
    (case c3 => k_is)
    (case k3 => k_is)
    (case a4 => k_is)
    (case l4 => k_is)
    (case c4 => k_is)
    (case k4 => k_is)
    (case a5 => k_is)
    (case l5 => k_is)
    (case c5 => k_is)
    (case k5 => k_is)
    (case a6 => k_is)
    (case l6 => k_is)
    (case c6 => k_is)
    (case k6 => k_is)
    (case a7 => k_is)
    (case l7 => k_is)
    (case c7 => k_is)
    (case k7 => k_is)
    (case a8 => k_is)
    (case l8 => k_is)
    (case c8 => k_is)
    (case k8 => k_is)
    (case a9 => k_is)
    (case l9 => k_is)
    (case c9 => k_is)
    (case k9 => k_is)
    (case a10 => k_is)
    (case l10 => k_is)
    (case c10 => k_is)
    (case k10 => k_is)
    (case a11 => k_is)
    (case l11 => k_is)
    (case c11 => k_is)
    (case k11 => k_is)
    (case a12 => k_is)
    (case l12 => k_is)
    (case c12 => k_is)
    (case k12 => k_is)
    (case a13 => k_is)
    (case l13 => k_is)
    (case c13 => k_is)
    (case k13 => k_is)
    (case a14 => k_is)
    (case l14 => k_is)
    (case c14 => k_is)
    (case k14 => k_is)
    (case a15 => k_is)
    (case l15 => k_is)
    (case c15 => k_is)
    (case k15 => k_is)
    (case a16 => k_is)
    (case l16 => k_is)
    (case c16 => k_is)
    (case k16 => k_is)
    (case a17 => k_is)
    (case l17 => k_is)
    (case c17 => k_is)
    (case k17 => k_is)
    (case a18 => k_is)
    (case l18 => k_is)
    (case c18 => k_is)
    (case k18 => k_is)
    (case a19 => k_is)
    (case l19 => k_is)
    (case c19 => k_is)
    (case k19 => k_is)
    (case a20 => k_is)
    (case l20 => k_is)
    (case c20 => k_is)
    (case k20 => k_is)
    (case a21 => k_is)
    (case l21 => k_is)
    (case c21 => k_is)
    (case k21 => k_is)
    (case a22 => k_is)
    (case l22 => k_is)
    (case c22 => k_is)
    (case k22 => k_is)
    (case a23 => k_is)
    (case l23 => k_is)
    (case c23 => k_is)
    (case k23 => k_is)
    (case a24 => k_is)
    (case l24 => k_is)
    (case c24 => k_is)
    (case k24 => k_is)
    (case a25 => k_is)
    (case l25 => k_is)
    (case c25 => k_is)
    (case k25 => k_is)
    (case a26 => k_is)
    (case l26 => k_is)
    (case c26 => k_is)
    (case k26 => k_is)
    (case a27 => k_is)
    (case l27 => k_is)
    (case c27 => k_is)
    (case k27 => k_is)
    (case a28 => k_is)
    (case l28 => k_is)
    (case c28 => k_is)
    (case k28 => k_is)
    (case a29 => k_is)
    (case l29 => k_is)
    (case c29 => k_is)
    (case k29 => k_is)
    (case z0 => k_is)
    (case z1 => k_is)
    (case z2 => k_is)
    (case z3 => k_is)
    (case z4 => k_is)
    (case z5 => k_is)
    (case z6 => k_is)
    (case z7 => k_is)
    (case z8 => k_is)
    (case z9 => k_is)
    (case z10 => k_is)
    (case z11 => k_is)
    (case z12 => k_is)
    (case z13 => k_is)
    (case q0 => k_is)
    (case q1 => k_is)
    (case q2 => k_is)
    (case aC => k_is)
    (case xM => k_exc)
    (case kC => k_is)
    (case eC => k_is)
    (case tC => k_is)
    (case iC => k_is)
    (case sC => first | rfl | k_is)

