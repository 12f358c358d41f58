import PyProof.Rows.All
import Wide.All
import OpenK.AllK
import Wide.FinOn
import HandS.ForMost
import HandS.ForExc
import HandS.Walk
import HandS.Wide
import HandS.Deep
import HandS.Flow
import HandS.IsInst
import HandS.SetKeys
import HandS.TupAny
import HandS.Conv
import HandS.Rev
import HandS.Zip
import HandS.Small
import HandS.TryElse
import HandS.WordsExc
import HandS.ExcOwn
import HandS.TupSets
import KE.KSortTupG
import PySem.Challenge.RW_fieldrows_k51_offset
set_option Elab.async false
set_option linter.all false
set_option maxRecDepth 100000
open PySem PySem.Spec PyProof.Rows L2
open PySem PySem.Spec PyProof.Rows L2
namespace PI

/-! # data, store, results -/
/-- a value as the small machine has it: tuples by what stands in them, objects by a place in the store -/
inductive D where
  | non | bl (b : Bool) | int (i : Int) | str (x : Str) | tup (ds : List D) | obj (n : Nat) | wl (ds : List D) | wd (kvs : List (Str × Str))
mutual
def D.beq : D → D → Bool
  | .non, .non => true
  | .bl a, .bl b => a == b
  | .int a, .int b => a == b
  | .str a, .str b => a == b
  | .tup a, .tup b => D.beqs a b
  | .obj a, .obj b => a == b
  | .wl a, .wl b => D.beqs a b
  | .wd a, .wd b => decide (a = b)
  | _, _ => false
def D.beqs : List D → List D → Bool
  | [], [] => true
  | a :: r, b :: s => D.beq a b && D.beqs r s
  | _, _ => false
end
mutual
theorem D.beq_eq : ∀ {a b : D}, D.beq a b = true → a = b
  | .non, b, h => by cases b <;> simp_all [D.beq]
  | .bl x, b, h => by cases b <;> simp_all [D.beq]
  | .int x, b, h => by cases b <;> simp_all [D.beq]
  | .str x, b, h => by cases b <;> simp_all [D.beq]
  | .tup x, b, h => by
    cases b <;> simp only [D.beq, Bool.false_eq_true] at h
    rw [D.beqs_eq h]
  | .obj x, b, h => by cases b <;> simp_all [D.beq]
  | .wl x, b, h => by
    cases b <;> simp only [D.beq, Bool.false_eq_true] at h
    rw [D.beqs_eq h]
  | .wd x, b, h => by cases b <;> simp_all [D.beq]
theorem D.beqs_eq : ∀ {a b : List D}, D.beqs a b = true → a = b
  | [], [], _ => rfl
  | [], _ :: _, h => by simp [D.beqs] at h
  | _ :: _, [], h => by simp [D.beqs] at h
  | a :: r, b :: s, h => by
    simp only [D.beqs, Bool.and_eq_true] at h
    rw [D.beq_eq h.1, D.beqs_eq h.2]
end
mutual
theorem D.beq_refl : ∀ a : D, D.beq a a = true
  | .non => rfl
  | .bl x => by simp [D.beq]
  | .int x => by simp [D.beq]
  | .str x => by simp [D.beq]
  | .tup x => by simp only [D.beq]; exact D.beqs_refl x
  | .obj x => by simp [D.beq]
  | .wl x => by simp only [D.beq]; exact D.beqs_refl x
  | .wd x => by simp [D.beq]
theorem D.beqs_refl : ∀ a : List D, D.beqs a a = true
  | [] => rfl
  | a :: r => by simp only [D.beqs, Bool.and_eq_true]; exact ⟨D.beq_refl a, D.beqs_refl r⟩
end
instance : DecidableEq D := fun a b => decidable_of_iff (D.beq a b = true) ⟨D.beq_eq, fun h => h ▸ D.beq_refl a⟩

inductive Cell where
  | lst (ds : List D)
  | dic (lk : Bool) (kvs : List (D × D))
  | ins (c : Nat) (fs : List (Str × D))
  | exn (c : Nat)
abbrev Store := List Cell
inductive Res (α : Type) where
  | ok (a : α) (s : Store) | er (c : Nat) (s : Store) | bad
def M (α : Type) := Store → Res α
def M.pur {α : Type} (a : α) : M α := fun s => .ok a s
def M.bnd {α β : Type} (x : M α) (f : α → M β) : M β := fun s => match x s with
  | .ok a s' => f a s'
  | .er c s' => .er c s'
  | .bad => .bad
instance : Monad M where
  pure := M.pur
  bind := M.bnd
def bad {α : Type} : M α := fun _ => .bad
def er {α : Type} (c : Nat) : M α := fun s => .er c s
/-- a look at the store, a change of it -/
def getS : M Store := fun s => .ok s s
def setS (s' : Store) : M Unit := fun _ => .ok () s'
def alloc (c : Cell) : M D := fun s => .ok (.obj s.length) (s ++ [c])
def grd (p : Prop) [Decidable p] : M Unit := fun s => if p then .ok () s else .bad
def opt {α : Type} : Option α → M α
  | some a => pure a
  | none => bad
theorem pure_def {α : Type} (a : α) (s : Store) : (pure a : M α) s = .ok a s := rfl
theorem bind_def {α β : Type} (x : M α) (f : α → M β) (s : Store) : (x >>= f) s = match x s with
  | .ok a s' => f a s'
  | .er c s' => .er c s'
  | .bad => .bad := rfl
theorem M.assoc {α β γ : Type} (m : M α) (f : α → M β) (g : β → M γ) : (m >>= f) >>= g = m >>= fun a => f a >>= g := by
  funext s
  simp only [bind_def]
  cases m s <;> rfl
theorem M.pureb {α β : Type} (a : α) (f : α → M β) : (pure a >>= f) = f a := rfl
theorem M.badb {α β : Type} (f : α → M β) : ((bad : M α) >>= f) = bad := rfl
theorem bind_ok {α β : Type} {x : M α} {f : α → M β} {s s' : Store} {a : α} (h : x s = .ok a s') : (x >>= f) s = f a s' := by
  rw [bind_def, h]

/-! # values and the heap -/
def FzL (K : PySem.W.Frag) (H : Hp) (a : Addr) (vs : List V) : Prop :=
  (∃ o, H a = some (.frz o (.lst vs))) ∨
    ∃ (o : Obj) (its : Array Value) (n : Nat), K.lookup a = some o ∧ o.cls = .type "list" ∧ o.dict = none ∧ o.data = .seq its n ∧ its.size ≤ sizeLine ∧ Vals vs its.toList
theorem FzL.seq {K : PySem.W.Frag} {H : Hp} {a : Addr} {vs : List V} (h : FzL K H a vs) : SqL K H a vs := by
  rcases h with ⟨o, h⟩ | h
  · exact .inl (.inr ⟨o, h⟩)
  · exact .inr h
/-- a dict of texts in the written part -/
def WrD (P : Program) (w : World) (K : PySem.W.Frag) (a : Addr) (kvs : List (Str × Str)) : Prop :=
  ∀ h : Heap, K.In h → (a == sysModules) = false ∧ ∃ vs, KV (kvs.map fun kv => ((.inr kv.1 : Key), V.str kv.2)) vs ∧ h.DictOf (mixKind P w) a vs

/-- what is fixed through a law -/
structure Sig where
  P : Program
  w : World
  K : PySem.W.Frag
  C : Nat → Addr
  X : Nat → Addr

section
variable (G : Sig) (F : List Addr) (H : Hp)
mutual
def Rep : D → V → Prop
  | .non, v => v = .non
  | .bl b, v => v = .bl b
  | .int i, v => v = .int i
  | .str x, v => v = .str x
  | .tup ds, v => ∃ a vs, v = .ref a ∧ SqT G.K H a vs ∧ RepL ds vs
  | .obj n, v => ∃ a, v = .ref a ∧ F[n]? = some a
  | .wl ds, v => ∃ a vs, v = .ref a ∧ FzL G.K H a vs ∧ RepL ds vs
  | .wd kvs, v => ∃ a, v = .ref a ∧ WrD G.P G.w G.K a kvs
def RepL : List D → List V → Prop
  | [], vs => vs = []
  | d :: ds, vs => ∃ v r, vs = v :: r ∧ Rep d v ∧ RepL ds r
end
def keyD : Key → D
  | .inl i => .int i
  | .inr x => .str x
abbrev RepKV (k : List (D × D)) (ws : List (Key × V)) : Prop := Paired (fun p q => p.1 = keyD q.1 ∧ Rep G F H p.2 q.2) k ws
abbrev RepTV (k : List (D × D)) (ws : List (List Key × V)) : Prop := Paired (fun p q => p.1 = .tup (q.1.map keyD) ∧ Rep G F H p.2 q.2) k ws
def DicOk (u : HO) (k : List (D × D)) : Prop := ∃ ws, u = .dK ws ∧ RepKV G F H k ws
def CellOk (a : Addr) : Cell → Prop
  | .lst ds => ∃ vs, H a = some (.lst vs) ∧ RepL G F H ds vs
  | .dic false k => ∃ u, H a = some u ∧ DicOk G F H u k
  | .dic true k => ∃ o u, H a = some (.frz o u) ∧ DicOk G F H u k
  | .ins c fs => ∃ dx ws, H a = some (.ins (G.C c) dx ws) ∧ Paired (fun p q => p.1 = q.1 ∧ Rep G F H p.2 q.2) fs ws
  | .exn _ => False
end
structure SR (G : Sig) (F : List Addr) (H : Hp) (st : Store) : Prop where
  len : F.length = st.length
  nd : F.Nodup
  tr : ∀ a ∈ F, H a ≠ none
  ok : ∀ (n : Nat) (a : Addr) (c : Cell), F[n]? = some a → st[n]? = some c → CellOk G F H a c
structure Ext (G : Sig) (F : List Addr) (H : Hp) (F' : List Addr) (H' : Hp) : Prop where
  pre : ∃ t, F' = F ++ t
  tup : ∀ a vs, SqT G.K H a vs → SqT G.K H' a vs
  fz : ∀ a vs, FzL G.K H a vs → FzL G.K H' a vs
  frz : ∀ a o u, H a = some (.frz o u) → H' a = some (.frz o u)
  tr : ∀ a, H a ≠ none → H' a ≠ none
  fr : ∀ a, H a ≠ none → a ∉ F → H' a = H a ∧ a ∉ F'

section
variable {G : Sig} {F F' F2 : List Addr} {H H' H2 : Hp} {st st' : Store}
theorem Ext.refl : Ext G F H F H := ⟨⟨[], by simp⟩, fun _ _ h => h, fun _ _ h => h, fun _ _ _ h => h, fun _ h => h, fun _ _ n => ⟨rfl, n⟩⟩
theorem Ext.trans (a : Ext G F H F' H') (b : Ext G F' H' F2 H2) : Ext G F H F2 H2 := by
  have ga := a.fr
  have gb := b.fr
  obtain ⟨t, rfl⟩ := a.pre
  obtain ⟨u, rfl⟩ := b.pre
  exact ⟨⟨t ++ u, by simp⟩, fun x vs h => b.tup x vs (a.tup x vs h), fun x vs h => b.fz x vs (a.fz x vs h), fun x o u h => b.frz x o u (a.frz x o u h), fun x h => b.tr x (a.tr x h), fun x h n => let z := ga x h n; let y := gb x (by rw [z.1]; exact h) z.2; ⟨y.1.trans z.1, y.2⟩⟩
/-- what the rows lean on -/
structure ExtR (G : Sig) (F : List Addr) (H : Hp) (F' : List Addr) (H' : Hp) : Prop where
  pre : ∃ t, F' = F ++ t
  tup : ∀ a vs, SqT G.K H a vs → SqT G.K H' a vs
  fz : ∀ a vs, FzL G.K H a vs → FzL G.K H' a vs
theorem Ext.r (e : Ext G F H F' H') : ExtR G F H F' H' := ⟨e.pre, e.tup, e.fz⟩
theorem ExtR.at (e : ExtR G F H F' H') {n : Nat} {a : Addr} (h : F[n]? = some a) : F'[n]? = some a := by
  obtain ⟨t, rfl⟩ := e.pre
  rw [List.getElem?_append_left (List.getElem?_eq_some_iff.mp h).1]
  exact h
theorem Ext.at (e : Ext G F H F' H') {n : Nat} {a : Addr} (h : F[n]? = some a) : F'[n]? = some a := e.r.at h
mutual
theorem Rep.monoR (e : ExtR G F H F' H') : ∀ {d : D} {v : V}, Rep G F H d v → Rep G F' H' d v
  | .non, _, h => h
  | .bl _, _, h => h
  | .int _, _, h => h
  | .str _, _, h => h
  | .tup ds, v, h => by
    rw [Rep] at h ⊢
    obtain ⟨a, vs, rfl, h1, h2⟩ := h
    exact ⟨a, vs, rfl, e.tup a vs h1, RepL.monoR e h2⟩
  | .obj n, v, h => by
    rw [Rep] at h ⊢
    obtain ⟨a, rfl, h1⟩ := h
    exact ⟨a, rfl, e.at h1⟩
  | .wl ds, v, h => by
    rw [Rep] at h ⊢
    obtain ⟨a, vs, rfl, h1, h2⟩ := h
    exact ⟨a, vs, rfl, e.fz a vs h1, RepL.monoR e h2⟩
  | .wd _, _, h => h
theorem RepL.monoR (e : ExtR G F H F' H') : ∀ {ds : List D} {vs : List V}, RepL G F H ds vs → RepL G F' H' ds vs
  | [], _, h => h
  | d :: ds, vs, h => by
    rw [RepL] at h ⊢
    obtain ⟨v, r, rfl, h1, h2⟩ := h
    exact ⟨v, r, rfl, Rep.monoR e h1, RepL.monoR e h2⟩
end
theorem Rep.mono (e : Ext G F H F' H') {d : D} {v : V} (h : Rep G F H d v) : Rep G F' H' d v := h.monoR e.r
theorem RepL.mono (e : Ext G F H F' H') {d : List D} {v : List V} (h : RepL G F H d v) : RepL G F' H' d v := h.monoR e.r
theorem RepL.cons {d : D} {ds : List D} {v : V} {vs : List V} (h : Rep G F H d v) (t : RepL G F H ds vs) : RepL G F H (d :: ds) (v :: vs) := by
  rw [RepL]; exact ⟨v, vs, rfl, h, t⟩
theorem RepL.nil : RepL G F H [] [] := by rw [RepL]
theorem RepL.length : ∀ {ds : List D} {vs : List V}, RepL G F H ds vs → vs.length = ds.length
  | [], _, h => by rw [RepL] at h; subst h; rfl
  | d :: ds, vs, h => by
    rw [RepL] at h
    obtain ⟨v, r, rfl, h1, h2⟩ := h
    simp [RepL.length h2]
theorem RepL.append : ∀ {ds es : List D} {vs ws : List V}, RepL G F H ds vs → RepL G F H es ws → RepL G F H (ds ++ es) (vs ++ ws)
  | [], _, _, _, h, t => by rw [RepL] at h; subst h; exact t
  | d :: ds, es, vs, ws, h, t => by
    rw [RepL] at h
    obtain ⟨v, r, rfl, h1, h2⟩ := h
    exact RepL.cons h1 (RepL.append h2 t)
theorem RepL.get : ∀ {ds : List D} {vs : List V} {i : Nat} {d : D}, RepL G F H ds vs → ds[i]? = some d → ∃ v, vs[i]? = some v ∧ Rep G F H d v
  | [], _, _, _, _, e => by simp at e
  | d :: ds, vs, i, d', h, e => by
    rw [RepL] at h
    obtain ⟨v, r, rfl, h1, h2⟩ := h
    cases i with
    | zero => simp at e; subst e; exact ⟨v, rfl, h1⟩
    | succ i => simpa using RepL.get h2 (i := i) (by simpa using e)
theorem RepL.getV : ∀ {ds : List D} {vs : List V} {i : Nat} {v : V}, RepL G F H ds vs → vs[i]? = some v → ∃ d, ds[i]? = some d ∧ Rep G F H d v := fun {ds vs i v} h e => by
  have hl := h.length
  have hi := (List.getElem?_eq_some_iff.mp e).1
  obtain ⟨w, e2, r⟩ := h.get (i := i) (d := ds[i]'(by omega)) (by simp)
  rw [e] at e2; cases e2
  exact ⟨_, by simp, r⟩
theorem RepL.take : ∀ {ds : List D} {vs : List V} (n : Nat), RepL G F H ds vs → RepL G F H (ds.take n) (vs.take n)
  | [], _, n, h => by rw [RepL] at h; subst h; simp [RepL]
  | d :: ds, vs, 0, h => by simp [RepL]
  | d :: ds, vs, n + 1, h => by
    rw [RepL] at h
    obtain ⟨v, r, rfl, h1, h2⟩ := h
    exact RepL.cons h1 (RepL.take n h2)
theorem RepL.drop : ∀ {ds : List D} {vs : List V} (n : Nat), RepL G F H ds vs → RepL G F H (ds.drop n) (vs.drop n)
  | [], _, n, h => by rw [RepL] at h; subst h; simp [RepL]
  | d :: ds, vs, 0, h => h
  | d :: ds, vs, n + 1, h => by
    rw [RepL] at h
    obtain ⟨v, r, rfl, h1, h2⟩ := h
    exact RepL.drop n h2
theorem RepL.set {d : D} {v : V} (q : Rep G F H d v) : ∀ {ds : List D} {vs : List V} (i : Nat), RepL G F H ds vs → RepL G F H (ds.set i d) (vs.set i v)
  | [], _, _, h => by rw [RepL] at h; subst h; simp [RepL]
  | e :: ds, vs, i, h => by
    rw [RepL] at h
    obtain ⟨w, r, rfl, h1, h2⟩ := h
    cases i with
    | zero => exact RepL.cons q h2
    | succ i => exact RepL.cons h1 (RepL.set q i h2)
theorem RepL.eraseIdx : ∀ {ds : List D} {vs : List V} (i : Nat), RepL G F H ds vs → RepL G F H (ds.eraseIdx i) (vs.eraseIdx i)
  | [], _, _, h => by rw [RepL] at h; subst h; simp [RepL]
  | e :: ds, vs, i, h => by
    rw [RepL] at h
    obtain ⟨w, r, rfl, h1, h2⟩ := h
    cases i with
    | zero => exact h2
    | succ i => exact RepL.cons h1 (RepL.eraseIdx i h2)
theorem RepL.dropLast : ∀ {ds : List D} {vs : List V}, RepL G F H ds vs → RepL G F H ds.dropLast vs.dropLast := fun {ds vs} h => by
  rw [List.dropLast_eq_take, List.dropLast_eq_take, h.length]
  exact h.take _
theorem Paired.imp {α β : Type} {R S : α → β → Prop} (f : ∀ a b, R a b → S a b) : ∀ {xs : List α} {ys : List β}, Paired R xs ys → Paired S xs ys
  | _, _, .nil => .nil
  | _, _, .cons r t => .cons (f _ _ r) (Paired.imp f t)
theorem DicOk.monoR (e : ExtR G F H F' H') {u : HO} {k : List (D × D)} (h : DicOk G F H u k) : DicOk G F' H' u k := by
  obtain ⟨ws, rfl, h⟩ := h
  exact ⟨ws, rfl, Paired.imp (fun p q z => ⟨z.1, z.2.monoR e⟩) h⟩
theorem DicOk.mono (e : Ext G F H F' H') {u : HO} {k : List (D × D)} (h : DicOk G F H u k) : DicOk G F' H' u k := h.monoR e.r
/-- a cell stands as it stood where its own object does -/
theorem CellOk.monoR (e : ExtR G F H F' H') {a : Addr} {c : Cell} (h : CellOk G F H a c) (hs : H' a = H a) : CellOk G F' H' a c := by
  cases c with
  | lst ds => obtain ⟨vs, h1, h2⟩ := h; exact ⟨vs, hs.trans h1, h2.monoR e⟩
  | dic lk k =>
    cases lk with
    | false => obtain ⟨u, h1, h2⟩ := h; exact ⟨u, hs.trans h1, h2.monoR e⟩
    | true => obtain ⟨o, u, h1, h2⟩ := h; exact ⟨o, u, hs.trans h1, h2.monoR e⟩
  | ins c fs => obtain ⟨dx, ws, h1, h2⟩ := h; exact ⟨dx, ws, hs.trans h1, Paired.imp (fun p q z => ⟨z.1, z.2.monoR e⟩) h2⟩
  | exn c => exact h
theorem CellOk.mono (e : Ext G F H F' H') {a : Addr} {c : Cell} (h : CellOk G F H a c) (hs : H' a = H a) : CellOk G F' H' a c := h.monoR e.r hs
/-- a new address is none of ours -/
theorem SR.fresh (s : SR G F H st) {p : Addr} (hp : H p = none) : p ∉ F := fun hm => s.tr p hm hp
theorem sqT_upd {K : PySem.W.Frag} {H : Hp} {p a : Addr} {o : HO} {vs : List V} (hp : H p = none) (h : SqT K H a vs) : SqT K (upd H p o) a vs := by
  rcases h with (h | ⟨ob, h⟩) | h
  · exact .inl (.inl (by rw [upd_ne (ne_of_none h hp)]; exact h))
  · exact .inl (.inr ⟨ob, by rw [upd_ne (ne_of_none h hp)]; exact h⟩)
  · exact .inr h
theorem fzL_upd {K : PySem.W.Frag} {H : Hp} {p a : Addr} {o : HO} {vs : List V} (hp : H p = none) (h : FzL K H a vs) : FzL K (upd H p o) a vs := by
  rcases h with ⟨ob, h⟩ | h
  · exact .inl ⟨ob, by rw [upd_ne (ne_of_none h hp)]; exact h⟩
  · exact .inr h
/-- something new that the store doesn't have -/
theorem Ext.new {p : Addr} {o : HO} (hp : H p = none) : Ext G F H F (upd H p o) :=
  ⟨⟨[], by simp⟩, fun _ _ h => sqT_upd hp h, fun _ _ h => fzL_upd hp h, fun a o u h => by rw [upd_ne (ne_of_none h hp)]; exact h, fun a h => by
    by_cases e : a = p
    · subst e; rw [upd_same]; exact fun z => nomatch z
    · rw [upd_ne e]; exact h, fun a h n => ⟨upd_ne (fun e => h (e ▸ hp)), n⟩⟩
theorem SR.new (s : SR G F H st) {p : Addr} {o : HO} (hp : H p = none) : SR G F (upd H p o) st :=
  ⟨s.len, s.nd, fun a h => (Ext.new (G := G) (F := F) hp).tr a (s.tr a h), fun n a c h1 h2 => (s.ok n a c h1 h2).mono (Ext.new hp) (by
    rw [upd_ne]
    intro e
    exact s.fresh hp (e ▸ List.mem_of_getElem? h1))⟩
/-- .. and that the store gets -/
theorem Ext.laid {p : Addr} {o : HO} (hp : H p = none) : Ext G F H (F ++ [p]) (upd H p o) :=
  ⟨⟨[p], rfl⟩, (Ext.new (G := G) (F := F) hp).tup, (Ext.new (G := G) (F := F) hp).fz, (Ext.new (G := G) (F := F) hp).frz, (Ext.new (G := G) (F := F) hp).tr, fun a h n => ⟨upd_ne (fun e => h (e ▸ hp)), fun z => (List.mem_append.mp z).elim n fun z => h ((List.mem_singleton.mp z) ▸ hp)⟩⟩
theorem SR.laid (s : SR G F H st) {p : Addr} {o : HO} {c : Cell} (hp : H p = none) (hc : CellOk G (F ++ [p]) (upd H p o) p c) : SR G (F ++ [p]) (upd H p o) (st ++ [c]) := by
  have e := Ext.laid (G := G) (F := F) (o := o) hp
  refine ⟨by simp [s.len], ?_, fun a h => ?_, fun n a c' h1 h2 => ?_⟩
  · rw [List.nodup_append]
    exact ⟨s.nd, by simp, fun a ha b hb => by
      rw [List.mem_singleton.mp hb]
      intro z
      exact s.fresh hp (z ▸ ha)⟩
  · rcases List.mem_append.mp h with h | h
    · exact e.tr a (s.tr a h)
    · rw [List.mem_singleton.mp h, upd_same]; exact fun z => nomatch z
  · by_cases hn : n < F.length
    · rw [List.getElem?_append_left hn] at h1
      rw [List.getElem?_append_left (by rw [← s.len]; exact hn)] at h2
      refine (s.ok n a c' h1 h2).mono e ?_
      rw [upd_ne]
      intro z
      exact s.fresh hp (z ▸ List.mem_of_getElem? h1)
    · have hn' : n = F.length := by
        have := (List.getElem?_eq_some_iff.mp h1).1
        simp at this
        omega
      subst hn'
      rw [List.getElem?_append_right (Nat.le_refl _)] at h1
      rw [s.len, List.getElem?_append_right (Nat.le_refl _)] at h2
      simp at h1 h2
      subst h1 h2
      exact hc
/-- an object of the store is changed -/
theorem Ext.wrote {a : Addr} {o u : HO} {n : Nat} (hn : F[n]? = some a) (hu : H a = some u) (mu : Mut (some u)) : Ext G F H F (upd H a o) := by
  refine ⟨⟨[], by simp⟩, fun b vs h => ?_, fun b vs h => ?_, fun b ob x h => by rw [upd_ne (fun z => by rw [z, hu] at h; cases h; exact mu)]; exact h, fun b h => ?_, fun b h nb => ⟨upd_ne fun e => nb (e ▸ List.mem_of_getElem? hn), nb⟩⟩
  · rcases h with (h | ⟨ob, h⟩) | h
    · exact .inl (.inl (by rw [upd_ne (fun z => by rw [z, hu] at h; cases h; exact mu)]; exact h))
    · exact .inl (.inr ⟨ob, by rw [upd_ne (fun z => by rw [z, hu] at h; cases h; exact mu)]; exact h⟩)
    · exact .inr h
  · rcases h with ⟨ob, h⟩ | h
    · exact .inl ⟨ob, by rw [upd_ne (fun z => by rw [z, hu] at h; cases h; exact mu)]; exact h⟩
    · exact .inr h
  · by_cases e : b = a
    · subst e; rw [upd_same]; exact fun z => nomatch z
    · rw [upd_ne e]; exact h
theorem SR.wrote (s : SR G F H st) {n : Nat} {a : Addr} {o u : HO} {c : Cell} (hn : F[n]? = some a) (hu : H a = some u) (mu : Mut (some u)) (hc : CellOk G F (upd H a o) a c) : SR G F (upd H a o) (st.set n c) := by
  have e := Ext.wrote (G := G) (F := F) (o := o) hn hu mu
  refine ⟨by simp [s.len], s.nd, fun b h => e.tr b (s.tr b h), fun m b c' h1 h2 => ?_⟩
  by_cases hm : m = n
  · subst hm
    rw [hn] at h1; cases h1
    have hlt : m < st.length := by rw [← s.len]; exact (List.getElem?_eq_some_iff.mp hn).1
    rw [List.getElem?_set_self hlt] at h2
    cases h2
    exact hc
  · rw [List.getElem?_set_ne (Ne.symm hm)] at h2
    refine (s.ok m b c' h1 h2).mono e (upd_ne ?_)
    intro z
    subst z
    exact hm (nodup_at s.nd h1 hn)
where
  nodup_at {l : List Addr} (h : l.Nodup) {i j : Nat} {x : Addr} (a : l[i]? = some x) (b : l[j]? = some x) : i = j := by
    obtain ⟨h1, e1⟩ := List.getElem?_eq_some_iff.mp a
    obtain ⟨h2, e2⟩ := List.getElem?_eq_some_iff.mp b
    exact (List.getElem_inj h).mp (e1.trans e2.symm)
theorem SR.cell (s : SR G F H st) {n : Nat} {a : Addr} (h : F[n]? = some a) : ∃ c, st[n]? = some c ∧ CellOk G F H a c := by
  have hlt : n < st.length := by rw [← s.len]; exact (List.getElem?_eq_some_iff.mp h).1
  exact ⟨st[n], by simp [hlt], s.ok n a _ h (by simp [hlt])⟩
end

/-! # what is wanted of a computation -/
abbrev Rho := List (Option D)
def RhoR (G : Sig) (F : List Addr) (H : Hp) (ρ : Rho) (σ : L2.St) : Prop := ρ.length = σ.length ∧ ∀ (i : Nat) (d : D), ρ[i]? = some (some d) → ∃ v, σ[i]? = some (some v) ∧ Rep G F H d v
theorem RhoR.mono {G : Sig} {F F' : List Addr} {H H' : Hp} {ρ : Rho} {σ : L2.St} (e : Ext G F H F' H') (h : RhoR G F H ρ σ) : RhoR G F' H' ρ σ :=
  ⟨h.1, fun i d q => let ⟨v, h1, h2⟩ := h.2 i d q; ⟨v, h1, h2.mono e⟩⟩
theorem RhoR.set {G : Sig} {F : List Addr} {H : Hp} {ρ : Rho} {σ : L2.St} (h : RhoR G F H ρ σ) (i : Nat) {d : D} {v : V} (r : Rep G F H d v) : RhoR G F H (ρ.set i (some d)) (σ.set i (some v)) := by
  refine ⟨by simp [h.1], fun j e q => ?_⟩
  by_cases hj : i = j
  · subst hj
    have hl : i < ρ.length := by have := (List.getElem?_eq_some_iff.mp q).1; simpa using this
    rw [List.getElem?_set_self hl] at q
    cases q
    exact ⟨v, by rw [List.getElem?_set_self (by rw [← h.1]; exact hl)], r⟩
  · rw [List.getElem?_set_ne hj] at q ⊢
    exact h.2 j e q
theorem RhoR.unset {G : Sig} {F : List Addr} {H : Hp} {ρ : Rho} {σ : L2.St} (h : RhoR G F H ρ σ) (i : Nat) (x : Option V) : RhoR G F H (ρ.set i none) (σ.set i x) := by
  refine ⟨by simp [h.1], fun j e q => ?_⟩
  by_cases hj : i = j
  · subst hj
    have hl : i < ρ.length := by have := (List.getElem?_eq_some_iff.mp q).1; simpa using this
    rw [List.getElem?_set_self hl] at q
    cases q
  · rw [List.getElem?_set_ne hj] at q ⊢
    exact h.2 j e q

/-- from the heap H and the store st: m comes to R, or an exception to W -/
def WP {α : Type} (G : Sig) (W : Nat → List Addr → Hp → Store → Prop) (m : M α) (R : α → List Addr → Hp → Store → Prop) (F : List Addr) (H : Hp) (st : Store) : Prop :=
  match m st with
  | .ok a st' => ∀ F' H', Ext G F H F' H' → SR G F' H' st' → R a F' H' st'
  | .er c st' => ∀ F' H', Ext G F H F' H' → SR G F' H' st' → W c F' H' st'
  | .bad => False
section
variable {α β : Type} {G : Sig} {F : List Addr} {H : Hp} {st : Store} {W W' : Nat → List Addr → Hp → Store → Prop}
theorem WP.imp {m : M α} {R R' : α → List Addr → Hp → Store → Prop} (h : WP G W m R F H st) (f : ∀ a F' H' st', Ext G F H F' H' → SR G F' H' st' → R a F' H' st' → R' a F' H' st') : WP G W m R' F H st := by
  unfold WP at *
  split <;> rename_i q <;> rw [q] at h
  · exact fun F' H' e s => f _ _ _ _ e s (h F' H' e s)
  · exact h
  · exact h
theorem WP.impW {m : M α} {R : α → List Addr → Hp → Store → Prop} (h : WP G W m R F H st) (f : ∀ c F' H' st', Ext G F H F' H' → SR G F' H' st' → W c F' H' st' → W' c F' H' st') : WP G W' m R F H st := by
  unfold WP at *
  split <;> rename_i q <;> rw [q] at h
  · exact h
  · exact fun F' H' e s => f _ _ _ _ e s (h F' H' e s)
  · exact h
theorem WP.bind {m : M α} {k : α → M β} {R : β → List Addr → Hp → Store → Prop} (h : WP G W (m >>= k) R F H st) : WP G W m (fun a F1 H1 st1 => WP G W (k a) R F1 H1 st1) F H st := by
  unfold WP at *
  rw [bind_def] at h
  cases q : m st with
  | ok a st1 =>
    rw [q] at h
    dsimp only at h ⊢
    intro F1 H1 e1 s1
    cases q2 : k a st1 with
    | ok b st2 => rw [q2] at h; exact fun F2 H2 e2 s2 => h F2 H2 (e1.trans e2) s2
    | er c st2 => rw [q2] at h; exact fun F2 H2 e2 s2 => h F2 H2 (e1.trans e2) s2
    | bad => rw [q2] at h; exact h
  | er c st1 => rw [q] at h; exact h
  | bad => rw [q] at h; exact h
theorem WP.pur {a : α} {R : α → List Addr → Hp → Store → Prop} (h : WP G W (pure a) R F H st) (s : SR G F H st) : R a F H st := h F H Ext.refl s
theorem WP.noBad {R : α → List Addr → Hp → Store → Prop} (h : WP G W bad R F H st) : False := h
theorem WP.grd {p : Prop} [Decidable p] {R : Unit → List Addr → Hp → Store → Prop} (h : WP G W (grd p) R F H st) (s : SR G F H st) : p ∧ R () F H st := by
  unfold WP PI.grd at h
  by_cases q : p
  · rw [if_pos q] at h; exact ⟨q, h F H Ext.refl s⟩
  · rw [if_neg q] at h; exact h.elim
theorem WP.grdb {p : Prop} [Decidable p] {k : Unit → M β} {R : β → List Addr → Hp → Store → Prop} (h : WP G W (PI.grd p >>= k) R F H st) (s : SR G F H st) : p ∧ WP G W (k ()) R F H st := h.bind.grd s
end
end PI

open PySem PySem.Spec PyProof.Rows L2
namespace PI

/-! # the language -/
/-- a target: a name's slot, or a tuple of slots -/
inductive Tg where
  | nm (i : Nat) | tp (is : List Nat)
  deriving DecidableEq
def Tg.slots : Tg → List Nat
  | .nm i => [i]
  | .tp is => is
/-- built-ins by values -/
inductive Bf where
  | len | int | str | abs | min2 | max2 | repr
  deriving DecidableEq
/-- built-ins that use up a row of values -/
inductive Sf where
  | tuple | list | sum | any | all | sorted | max | min | dict | join (sep : Str)
  deriving DecidableEq
/-- methods of built-in classes -/
inductive Me where
  | append | extend | pop | popAt | insert | remove | index | get | setdefault | dpop | update | split | startswith | isdigit | count | join
  deriving DecidableEq
/-- classes that isinstance asks for -/
inductive Ty where
  | int | bool | str | tuple | list | dict | cls (n : Nat)
  deriving DecidableEq
inductive E where
  | cst (d : D) | var (i : Nat) | nil | cons (e es : E)
  | tup (es : E) | lst (es : E) | dic
  | bin (o : Operator) (a b : E) | neg (a : E) | cmp (o : CmpOp) (a b : E) | chn (o o' : CmpOp) (a b c : E)
  | and (a b : E) | or (a b : E) | not (a : E) | ife (c a b : E)
  | idx (a i : E) | slc (a lo hi : E)
  | cal (f : Nat) (es : E) | bif (f : Bf) (es : E) | seq (f : Sf) (a : E) | sortk (a : E) (f : Nat) | met (m : Me) (o es : E)
  | att (o : E) (f : Str) | mcl (m : Str) (o es : E) | new (c : Nat) (es : E)
  | lc (t : Tg) (own : List Nat) (it c e : E) | isi (o : E) (t : Ty)
  | rng (es : E) | enm (e : E) | zip (a b : E) | rev (e : E) | its (e : E) | vls (e : E)
  deriving DecidableEq
/-- what an except clause's suite does -/
inductive Hd where
  | ret (d : D) | set (i : Nat) (d : D) | pass
  deriving DecidableEq
inductive S where
  | skip | sq (a b : S) | asg (t : Tg) (e : E) | par (is : List Nat) (es : E) | ass (o i v : E) | asf (o : E) (f : Str) (v : E)
  | aug (i : Nat) (o : Operator) (e : E) | auf (o : E) (f : Str) (op : Operator) (e : E)
  | exp (e : E) | ite (c : E) (a b : S) | whl (c : E) (b : S) | for (t : Tg) (it : E) (b : S) | ret (e : E) | rai (c : Nat)
  | try (b : S) (c : Nat) (h : Hd) (o : S) | cont
  deriving DecidableEq

/-! # data for == -/
mutual
def pd : D → Option PyData
  | .non => some .none
  | .bl b => some (.bool b)
  | .int i => some (.int i)
  | .str x => some (.str x)
  | .tup ds => (pds ds).map PyData.tuple
  | .wl ds => (pds ds).map PyData.list
  | .obj _ => none
  | .wd _ => none
def pds : List D → Option (List PyData)
  | [] => some []
  | d :: ds => (pd d).bind fun x => (pds ds).map fun xs => x :: xs
end
/-- a list of the store by what stands in it -/
def rd (s : Store) (d : D) : Option PyData := match d with
  | .obj n => match s[n]? with
    | some (.lst ds) => (pds ds).map PyData.list
    | _ => none
  | d => pd d

/-! # what operations come to -/
def SZ : Nat := 16777216
def lexS (x y : Str) : Bool := decide (x.cps.toList < y.cps.toList)
def getC (n : Nat) : M Cell := fun s => match s[n]? with
  | some c => .ok c s
  | none => .bad
def setC (n : Nat) (c : Cell) : M Unit := fun s => .ok () (s.set n c)
/-- what stands in a list or a tuple, a dict's keys -/
def row (d : D) : M (List D) := match d with
  | .tup ds => pure ds
  | .wl ds => pure ds
  | .obj n => do
    match ← getC n with
    | .lst ds => pure ds
    | _ => bad
  | _ => bad
/-- a list's, a tuple's, a dict's row (its keys) -/
inductive Rk where
  | l | t | d
  deriving DecidableEq
def rowK (d : D) : M (Rk × List D) := match d with
  | .tup ds => pure (.t, ds)
  | .wl ds => pure (.l, ds)
  | .obj n => do
    match ← getC n with
    | .lst ds => pure (.l, ds)
    | .dic false kvs => pure (.d, kvs.map (·.1))
    | _ => bad
  | _ => bad
def lookD (kvs : List (D × D)) (k : D) : Option D := (kvs.find? fun p => decide (p.1 = k)).map (·.2)
def putD (kvs : List (D × D)) (k v : D) : List (D × D) := if (kvs.any fun p => decide (p.1 = k)) = true then kvs.map fun p => if p.1 = k then (p.1, v) else p else kvs ++ [(k, v)]
def flatK : D → Bool
  | .int _ => true
  | .str _ => true
  | _ => false
/-- a key of one kind -/
def kindK : D → Nat
  | .int _ => 1
  | .str _ => 1
  | _ => 0
def keyOk (kvs : List (D × D)) (k : D) : Bool := kindK k != 0 && kvs.all fun p => kindK p.1 == kindK k
def binM (o : Operator) (a b : D) : M D := match o, a, b with
  | .Add, .int i, .int j => pure (.int (i + j))
  | .Add, .str x, .str y => do grd (x.length + y.length ≤ SZ); pure (.str (x ++ y))
  | .Add, .tup x, .tup y => do grd (x.length + y.length ≤ SZ); pure (.tup (x ++ y))
  | .Add, .obj n, .obj m => do
    match ← getC n, ← getC m with
    | .lst x, .lst y => do grd (x.length + y.length ≤ SZ); alloc (.lst (x ++ y))
    | _, _ => bad
  | .Sub, .int i, .int j => pure (.int (i - j))
  | .Mult, .int i, .int j => do grd (i.natAbs.log2 + j.natAbs.log2 < 1000000); pure (.int (i * j))
  | .Mod, .int i, .int j => do grd (0 < j); pure (.int (i % j))
  | .FloorDiv, .int i, .int j => do grd (0 < j ∧ j.natAbs.log2 < 9000); pure (.int (i / j))
  | .Pow, .int i, .int j => do grd (0 ≤ j ∧ j ≤ 1000000 ∧ i.natAbs < 2 ^ 64); pure (.int (i ^ j.toNat))
  | _, _, _ => bad
def inL (lv : Nat) (a : D) (ds : List D) : M D := match pd a, pds ds with
  | some x, some xs => do
    grd (x.canLay0 = true ∧ PyData.canLayAll0 xs = true ∧ x.depth + 1 ≤ 200 + 16 * lv)
    pure (.bl (xs.any fun z => PyData.eqv z x))
  | _, _ => bad
def inM (lv : Nat) (a b : D) : M D := match b with
  | .str z => match a with
    | .str ⟨⟨[c]⟩⟩ => pure (.bl (decide (c ∈ z.cps.toList)))
    | _ => bad
  | .tup ds => inL lv a ds
  | .wl ds => inL lv a ds
  | .wd kvs => match a with
    | .str x => pure (.bl (kvs.lookup x).isSome)
    | _ => bad
  | .obj n => do
    match ← getC n with
    | .lst ds => inL lv a ds
    | .dic _ kvs => do grd (keyOk kvs a = true); pure (.bl (lookD kvs a).isSome)
    | _ => bad
  | _ => bad
def notM (m : M D) : M D := do
  match ← m with
  | .bl b => pure (.bl (!b))
  | _ => bad
def lenL (s : Store) (d : D) : Option Nat := match d with
  | .obj n => match s[n]? with
    | some (.lst ds) => some ds.length
    | _ => none
  | .wl ds => some ds.length
  | _ => none
def eqP (lv : Nat) (a b : D) : M D := do
  let s ← getS
  match rd s a, rd s b with
  | some x, some y => do
    grd (x.canLay0 = true ∧ y.canLay0 = true ∧ min x.depth y.depth ≤ 200 + 16 * lv)
    pure (.bl (PyData.eqv x y))
  | _, _ => bad
/-- lists of another length, empty lists: their items are not asked -/
def eqM (lv : Nat) (a b : D) : M D := do
  let s ← getS
  match lenL s a, lenL s b with
  | some m, some n => if m ≠ n then pure (.bl false) else if m = 0 then pure (.bl true) else eqP lv a b
  | _, _ => eqP lv a b
def cmpM (lv : Nat) (o : CmpOp) (a b : D) : M D := match o with
  | .Eq => eqM lv a b
  | .NotEq => notM (eqM lv a b)
  | .Lt => match a, b with
    | .int i, .int j => pure (.bl (decide (i < j)))
    | .str x, .str y => pure (.bl (lexS x y))
    | _, _ => bad
  | .LtE => match a, b with
    | .int i, .int j => pure (.bl (decide (i ≤ j)))
    | .str x, .str y => pure (.bl (!lexS y x))
    | _, _ => bad
  | .Gt => match a, b with
    | .int i, .int j => pure (.bl (decide (j < i)))
    | .str x, .str y => pure (.bl (lexS y x))
    | _, _ => bad
  | .GtE => match a, b with
    | .int i, .int j => pure (.bl (decide (j ≤ i)))
    | .str x, .str y => pure (.bl (!lexS x y))
    | _, _ => bad
  | .Is => match b with
    | .non => pure (.bl (decide (a = .non)))
    | _ => bad
  | .IsNot => match b with
    | .non => pure (.bl (!decide (a = .non)))
    | _ => bad
  | .In => inM lv a b
  | .NotIn => notM (inM lv a b)
def truM (d : D) : M Bool := match d with
  | .non => pure false
  | .bl b => pure b
  | .int i => pure (i != 0)
  | .str x => do grd (x.length ≤ SZ); pure ((x.length : Int) != 0)
  | .tup ds => pure (!ds.isEmpty)
  | .wl ds => pure (!ds.isEmpty)
  | .obj n => do
    match ← getC n with
    | .lst ds => pure (!ds.isEmpty)
    | _ => bad
  | _ => bad
def idxM (a k : D) : M D := match a with
  | .tup ds => match k with
    | .int i => opt (atI ds i)
    | _ => bad
  | .wl ds => match k with
    | .int i => opt (atI ds i)
    | _ => bad
  | .str z => match k with
    | .int i => do grd (z.length ≤ SZ); let c ← opt (atI z.cps.toList i); pure (.str ⟨#[c]⟩)
    | _ => bad
  | .wd kvs => match k with
    | .str x => opt ((kvs.lookup x).map .str)
    | _ => bad
  | .obj n => do
    match ← getC n with
    | .lst ds => match k with
      | .int i => opt (atI ds i)
      | _ => bad
    | .dic _ kvs => do grd (keyOk kvs k = true); opt (lookD kvs k)
    | _ => bad
  | _ => bad
def ndx : D → M (Option Int)
  | .int i => pure (some i)
  | _ => bad
def cutD (xs : List D) (lo hi : Option Int) : List D := (xs.drop (HT.sIx xs.length 0 lo)).take (HT.sIx xs.length xs.length hi - HT.sIx xs.length 0 lo)
def slcM (a : D) (lo hi : Option Int) : M D := match a with
  | .tup ds => pure (.tup (cutD ds lo hi))
  | .wl ds => alloc (.lst (cutD ds lo hi))
  | .str z => do grd (z.length ≤ SZ); pure (.str (cutS z lo hi))
  | .obj n => do
    match ← getC n with
    | .lst ds => alloc (.lst (cutD ds lo hi))
    | _ => bad
  | _ => bad
def negM (a : D) : M D := match a with
  | .int i => pure (.int (-i))
  | _ => bad
def lenM (a : D) : M D := match a with
  | .str z => do grd (z.length ≤ SZ); pure (.int z.length)
  | .tup ds => pure (.int ds.length)
  | .wl ds => pure (.int ds.length)
  | .obj n => do
    match ← getC n with
    | .lst ds => pure (.int ds.length)
    | .dic _ kvs => pure (.int kvs.length)
    | _ => bad
  | _ => bad
def intM (a : D) : M D := match a with
  | .int i => pure (.int i)
  | .bl b => pure (.int (if b then 1 else 0))
  | .str x => do grd (x.length ≤ 640); let n ← opt (PySem.intText? x); pure (.int n)
  | _ => bad
def strM (a : D) : M D := match a with
  | .int i => do grd (i.natAbs.log2 < 1920); pure (.str (toString i))
  | _ => bad
def absM (a : D) : M D := match a with
  | .int i => pure (.int (if i < 0 then -i else i))
  | _ => bad
def minM (a b : D) : M D := match a, b with
  | .int i, .int j => pure (.int (if j < i then j else i))
  | _, _ => bad
def maxM (a b : D) : M D := match a, b with
  | .int i, .int j => pure (.int (if j > i then j else i))
  | _, _ => bad
def on1 (f : D → M D) (ds : List D) : M D := match ds with
  | [a] => f a
  | _ => bad
def on2 (f : D → D → M D) (ds : List D) : M D := match ds with
  | [a, b] => f a b
  | _ => bad
def bifM : Bf → List D → M D
  | .len => on1 lenM
  | .int => on1 intM
  | .str => on1 strM
  | .abs => on1 absM
  | .min2 => on2 minM
  | .max2 => on2 maxM
  | .repr => fun _ => bad
def intsD : List D → Option (List Int)
  | [] => some []
  | .int i :: r => (intsD r).map (i :: ·)
  | _ => none
def blsD : List D → Option (List Bool)
  | [] => some []
  | .bl i :: r => (blsD r).map (i :: ·)
  | _ => none
def strsD : List D → Option (List Str)
  | [] => some []
  | .str i :: r => (strsD r).map (i :: ·)
  | _ => none
/-- tuples of ints and texts, as sort keys -/
def tkey : List D → Option (List (Int ⊕ List Nat))
  | [] => some []
  | .int i :: r => (tkey r).map (.inl i :: ·)
  | .str x :: r => (tkey r).map (.inr x.cps.toList :: ·)
  | _ => none
def tshp : List D → List Bool
  | [] => []
  | .str _ :: r => true :: tshp r
  | _ :: r => false :: tshp r
def tupsD : List D → Option (List (List D))
  | [] => some []
  | .tup t :: r => (tupsD r).map (t :: ·)
  | _ => none
def tlt (a b : List D) : Bool := PyProof.Rows.lexLt PyProof.Rows.itemOrd ((tkey a).getD []) ((tkey b).getD [])
def seqM (f : Sf) (w : Rk × List D) : M D := match f with
  | .tuple => do grd (w.1 ≠ .d); pure (.tup w.2)
  | .list => alloc (.lst w.2)
  | .sum => do grd (w.1 = .l); let ns ← opt (intsD w.2); pure (.int ns.sum)
  | .any => do grd (w.1 = .l); let bs ← opt (blsD w.2); pure (.bl (bs.any id))
  | .all => do grd (w.1 = .l); let bs ← opt (blsD w.2); pure (.bl (bs.all id))
  | .sorted => do
    grd (w.1 = .l)
    match strsD w.2 with
    | some xs => do grd (w.2.length < 64); alloc (.lst ((xs.mergeSort fun a b => !lexS b a).map .str))
    | none => match intsD w.2 with
      | some ns => do grd (w.2.length < 64); alloc (.lst ((ns.mergeSort fun a b => decide (a ≤ b)).map .int))
      | none => match tupsD w.2 with
        | some ts => do
          grd (∀ t ∈ ts, t ≠ [] ∧ (tkey t).isSome = true ∧ tshp t = tshp (ts.headD []))
          alloc (.lst ((ts.mergeSort fun a b => !tlt b a).map .tup))
        | none => bad
  | .join sep => do grd (w.1 ≠ .d); let xs ← opt (strsD w.2); grd ((xs.map (·.length)).sum + xs.length * sep.length ≤ SZ); pure (.str (Txt.join sep xs))
  | _ => bad
def lstM (o : D) : M (Nat × List D) := match o with
  | .obj n => do
    match ← getC n with
    | .lst xs => pure (n, xs)
    | _ => bad
  | _ => bad
def appM (o d : D) : M D := do
  let w ← lstM o
  grd (w.2.length < SZ)
  setC w.1 (.lst (w.2 ++ [d]))
  pure .non
def extM (o d : D) : M D := do
  let w ← lstM o
  let z ← lstM d
  grd (w.2.length + z.2.length ≤ SZ)
  setC w.1 (.lst (w.2 ++ z.2))
  pure .non
def popM (o : D) : M D := do
  let w ← lstM o
  let d ← opt w.2[w.2.length - 1]?
  setC w.1 (.lst w.2.dropLast)
  pure d
/-- the first place of what is equal -/
def firstEq (x : PyData) : List PyData → Nat → Option Nat
  | [], _ => none
  | z :: zs, k => if PyData.eqv z x = true then some k else firstEq x zs (k + 1)
def idxOfM (o d : D) : M D := do
  let w ← lstM o
  match pd d, pds w.2 with
  | some x, some xs => do
    grd (x.canLay0 = true ∧ PyData.canLayAll0 xs = true ∧ x.depth ≤ 64 ∧ PyData.depthAll xs + 1 ≤ 64)
    let j ← opt (firstEq x xs 0)
    pure (.int (j : Nat))
  | _, _ => bad
def getM (o k d : D) : M D := match o with
  | .obj n => do
    match ← getC n with
    | .dic _ kvs => do grd (keyOk kvs k = true); pure ((lookD kvs k).getD d)
    | _ => bad
  | _ => bad
def sdfM (o k d : D) : M D := match o with
  | .obj n => do
    match ← getC n with
    | .dic false kvs => do
      grd (keyOk kvs k = true ∧ kvs.length < SZ)
      match lookD kvs k with
      | some v => pure v
      | none => do setC n (.dic false (putD kvs k d)); pure d
    | _ => bad
  | _ => bad
def swM (a b : D) : M D := match a, b with
  | .str x, .str y => pure (.bl (Txt.startswith x y))
  | _, _ => bad
def splM (a b : D) : M D := match a, b with
  | .str x, .str y => do grd ((y.length == 0) = false ∧ x.length + 2 ≤ SZ); alloc (.lst ((Txt.split x y).map .str))
  | _, _ => bad
def digM (a : D) : M D := match a with
  | .str x => pure (.bl (Txt.isdigit x))
  | _ => bad
def metM (m : Me) (o : D) (ds : List D) : M D := match m with
  | .append => on1 (appM o) ds
  | .extend => on1 (extM o) ds
  | .pop => popM o
  | .index => on1 (idxOfM o) ds
  | .get => on2 (getM o) ds
  | .setdefault => on2 (sdfM o) ds
  | .startswith => on1 (swM o) ds
  | .split => on1 (splM o) ds
  | .isdigit => digM o
  | _ => bad
def tyM (m : Me) (o : D) : M Unit := match m, o with
  | .append, .obj n => do
    match ← getC n with
    | .lst _ => pure ()
    | _ => bad
  | .extend, .obj n => do
    match ← getC n with
    | .lst _ => pure ()
    | _ => bad
  | .pop, .obj n => do
    match ← getC n with
    | .lst _ => pure ()
    | _ => bad
  | .index, .obj n => do
    match ← getC n with
    | .lst _ => pure ()
    | _ => bad
  | .get, .obj n => do
    match ← getC n with
    | .dic _ _ => pure ()
    | _ => bad
  | .setdefault, .obj n => do
    match ← getC n with
    | .dic false _ => pure ()
    | _ => bad
  | .startswith, .str _ => pure ()
  | .isdigit, .str _ => pure ()
  | .split, .str _ => pure ()
  | _, _ => bad
def isiM (d : D) (t : Ty) : M D := match d with
  | .non => pure (.bl false)
  | .bl _ => pure (.bl (decide (t = .bool) || decide (t = .int)))
  | .int _ => pure (.bl (decide (t = .int)))
  | .str _ => pure (.bl (decide (t = .str)))
  | .tup _ => pure (.bl (decide (t = .tuple)))
  | .obj n => do
    match ← getC n with
    | .lst _ => pure (.bl (decide (t = .list)))
    | .dic _ _ => pure (.bl (decide (t = .dict)))
    | _ => bad
  | _ => bad

/-! # what is walked -/
inductive Gd where
  | no | ls (n : Nat) (ds : List D) | di (n : Nat) (kvs : List (D × D)) | two (a b : Gd)
instance : DecidableEq Cell := fun a b => match a, b with
  | .lst x, .lst y => decidable_of_iff (x = y) ⟨fun h => h ▸ rfl, fun h => by cases h; rfl⟩
  | .dic l x, .dic m y => decidable_of_iff (l = m ∧ x = y) ⟨fun h => by rw [h.1, h.2], fun h => by cases h; exact ⟨rfl, rfl⟩⟩
  | .ins l x, .ins m y => decidable_of_iff (l = m ∧ x = y) ⟨fun h => by rw [h.1, h.2], fun h => by cases h; exact ⟨rfl, rfl⟩⟩
  | .exn x, .exn y => decidable_of_iff (x = y) ⟨fun h => h ▸ rfl, fun h => by cases h; rfl⟩
  | .lst _, .dic _ _ => isFalse fun h => nomatch h
  | .lst _, .ins _ _ => isFalse fun h => nomatch h
  | .lst _, .exn _ => isFalse fun h => nomatch h
  | .dic _ _, .lst _ => isFalse fun h => nomatch h
  | .dic _ _, .ins _ _ => isFalse fun h => nomatch h
  | .dic _ _, .exn _ => isFalse fun h => nomatch h
  | .ins _ _, .lst _ => isFalse fun h => nomatch h
  | .ins _ _, .dic _ _ => isFalse fun h => nomatch h
  | .ins _ _, .exn _ => isFalse fun h => nomatch h
  | .exn _, .lst _ => isFalse fun h => nomatch h
  | .exn _, .dic _ _ => isFalse fun h => nomatch h
  | .exn _, .ins _ _ => isFalse fun h => nomatch h
def Gd.ok : Gd → Store → Prop
  | .no, _ => True
  | .ls n ds, s => s[n]? = some (.lst ds)
  | .di n kvs, s => s[n]? = some (.dic true kvs)
  | .two a b, s => a.ok s ∧ b.ok s
instance Gd.dec : ∀ (g : Gd) (s : Store), Decidable (g.ok s)
  | .no, _ => isTrue trivial
  | .ls n ds, s => inferInstanceAs (Decidable (s[n]? = some (.lst ds)))
  | .di n kvs, s => inferInstanceAs (Decidable (s[n]? = some (.dic true kvs)))
  | .two a b, s => have := Gd.dec a s; have := Gd.dec b s; inferInstanceAs (Decidable (a.ok s ∧ b.ok s))
def chk (g : Gd) : M Unit := fun s => if g.ok s then .ok () s else .bad
def lockG : Gd → M Unit
  | .di n kvs => do
    match ← getC n with
    | .dic false k => do grd (k = kvs); setC n (.dic true kvs)
    | _ => bad
  | _ => pure ()
def openG : Gd → M Unit
  | .di n kvs => do
    match ← getC n with
    | .dic true k => do grd (k = kvs); setC n (.dic false kvs)
    | _ => bad
  | _ => pure ()
/-- a list or a tuple, walked -/
def walkM (d : D) : M (List D × Gd) := match d with
  | .tup ds => pure (ds, .no)
  | .wl ds => pure (ds, .no)
  | .str z => pure (z.cps.toList.map fun c => .str ⟨#[c]⟩, .no)
  | .obj n => do
    match ← getC n with
    | .lst ds => pure (ds, .ls n ds)
    | .dic _ kvs => pure (kvs.map (·.1), .di n kvs)
    | _ => bad
  | _ => bad
/-- a row that is walked backwards, or with another: a list (0) or a tuple (1) -/
def walkA (d : D) : M (Nat × List D × Gd) := match d with
  | .tup ds => pure (1, ds, .no)
  | .wl ds => pure (0, ds, .no)
  | .obj n => do
    match ← getC n with
    | .lst ds => pure (0, ds, .ls n ds)
    | _ => bad
  | _ => bad
/-- what enumerate walks: lists alone -/
def walkL (d : D) : M (List D × Gd) := match d with
  | .wl ds => pure (ds, .no)
  | .obj n => do
    match ← getC n with
    | .lst ds => pure (ds, .ls n ds)
    | _ => bad
  | _ => bad
def small (i : Int) : Prop := -(2 ^ 62) ≤ i ∧ i < 2 ^ 62
instance (i : Int) : Decidable (small i) := inferInstanceAs (Decidable (_ ∧ _))
def rngM (ds : List D) : M (List D × Gd) := match ds with
  | [.int j] => do grd (small j); pure ((List.range j.toNat).map fun (k : Nat) => .int (k : Int), .no)
  | [.int i, .int j] => do grd (small i ∧ small j); pure ((List.range (j - i).toNat).map fun (k : Nat) => .int (i + (k : Int)), .no)
  | _ => bad
/-- the target takes a value -/
def setL : List Nat → List D → Rho → Option Rho
  | [], [], ρ => some ρ
  | i :: is, d :: ds, ρ => setL is ds (ρ.set i (some d))
  | _, _, _ => none
def bindT (t : Tg) (d : D) (ρ : Rho) : M Rho := match t with
  | .nm i => pure (ρ.set i (some d))
  | .tp is => do let ds ← row d; opt (setL is ds ρ)
def wipeR (ρ : Rho) (vs : List Nat) : Rho := vs.foldr (fun v r => r.set v none) ρ
/-- a comprehension's turns -/
def lcL (t : Tg) (c : Rho → M Bool) (e : Rho → M D) (g : Gd) (ρ : Rho) : List D → M (List D)
  | [] => do chk g; pure []
  | x :: xs => do
    chk g
    let ρ' ← bindT t x ρ
    let k ← c ρ'
    if k = true then do
      let d ← e ρ'
      let r ← lcL t c e g ρ xs
      pure (d :: r)
    else lcL t c e g ρ xs
/-- nothing is raised -/
def nox {α : Type} (m : M α) : M α := fun s => match m s with
  | .er _ _ => .bad
  | r => r

/-! # expressions -/
def blM (d : D) : M Bool := match d with
  | .bl b => pure b
  | _ => bad
/-- all readings of an expression: a value, values, a test, a slice's end, a row used up, what is walked -/
structure Sem where
  v : Rho → M D
  s : Rho → M (List D)
  t : Rho → M Bool
  o : Rho → M (Option Int)
  r : Rho → M (Rk × List D)
  i : Rho → M (List D × Gd)
def Sem.of (v : Rho → M D) : Sem where
  v := v
  s := fun _ => bad
  t := fun ρ => do let d ← v ρ; truM d
  o := fun ρ => do let d ← v ρ; ndx d
  r := fun ρ => do let d ← v ρ; rowK d
  i := fun ρ => do let d ← v ρ; walkM d
/-- a comparison -/
def Sem.tst (v : Rho → M D) : Sem := { Sem.of v with t := fun ρ => do let d ← v ρ; blM d }
/-- a list comprehension -/
def lcM (t : Tg) (own : List Nat) (it : Rho → M (List D × Gd)) (c : Rho → M Bool) (e : Rho → M D) (ρ : Rho) : M (List D) := do
  let w ← it ρ
  lockG w.2
  grd (w.1.length ≤ SZ)
  let ds ← nox (lcL t c e w.2 (wipeR ρ own) w.1)
  openG w.2
  pure ds
def keysM (k : List D → M D) : List D → M (List Str)
  | [] => pure []
  | d :: ds => do
    match ← k [d] with
    | .str x => do let xs ← keysM k ds; pure (x :: xs)
    | _ => bad
/-- sorted by a key that is a text -/
def sortM (k : List D → M D) (ds : List D) : M D := do
  let ks ← nox (keysM k ds)
  grd (ds.length < 64)
  alloc (.lst (((ks.zip ds).mergeSort fun a b => !lexS b.1 a.1).map (·.2)))
def insM (d : D) : M (Nat × Nat × List (Str × D)) := match d with
  | .obj n => do
    match ← getC n with
    | .ins c fs => pure (n, c, fs)
    | _ => bad
  | _ => bad
def dicM (d : D) : M (Nat × List (D × D)) := match d with
  | .obj n => do
    match ← getC n with
    | .dic _ kvs => pure (n, kvs)
    | _ => bad
  | _ => bad
section
variable (lv : Nat) (cl mk : Nat → List D → M D) (mt : Nat → Str → Option (Option Nat))
def sem : E → Sem
  | .cst d => .of fun _ => pure d
  | .var i => .of fun ρ => match ρ[i]? with
    | some (some d) => pure d
    | _ => bad
  | .nil => ⟨fun _ => bad, fun _ => pure [], fun _ => pure true, fun _ => pure none, fun _ => bad, fun _ => bad⟩
  | .cons e es => ⟨fun _ => bad, fun ρ => do let d ← (sem e).v ρ; let ds ← (sem es).s ρ; pure (d :: ds), fun _ => bad, fun _ => bad, fun _ => bad, fun _ => bad⟩
  | .tup es => .of fun ρ => do let ds ← (sem es).s ρ; grd (ds.length ≤ SZ); pure (.tup ds)
  | .lst es => .of fun ρ => do let ds ← (sem es).s ρ; grd (ds.length ≤ SZ); alloc (.lst ds)
  | .dic => .of fun _ => alloc (.dic false [])
  | .bin o a b => .of fun ρ => do let x ← (sem a).v ρ; let y ← (sem b).v ρ; binM o x y
  | .neg a => .of fun ρ => do let x ← (sem a).v ρ; negM x
  | .cmp o a b => .tst fun ρ => do let x ← (sem a).v ρ; let y ← (sem b).v ρ; cmpM lv o x y
  | .chn o o' a b c => .tst fun ρ => do
    let x ← (sem a).v ρ
    let y ← (sem b).v ρ
    let z ← cmpM lv o x y
    let k ← blM z
    if k = true then do let w ← (sem c).v ρ; cmpM lv o' y w else pure (.bl false)
  | .and a b => { Sem.of fun ρ => do let x ← (sem a).v ρ; let k ← blM x; if k = true then (sem b).v ρ else pure (.bl false) with
      t := fun ρ => do let k ← (sem a).t ρ; if k = true then (sem b).t ρ else pure false }
  | .or a b => { Sem.of fun ρ => do let x ← (sem a).v ρ; let k ← blM x; if k = true then pure (.bl true) else (sem b).v ρ with
      t := fun ρ => do let k ← (sem a).t ρ; if k = true then pure true else (sem b).t ρ }
  | .not a => { Sem.of fun ρ => do let x ← (sem a).v ρ; let c ← blM x; pure (.bl (!c)) with
      t := fun ρ => do let c ← (sem a).t ρ; pure (!c) }
  | .ife c a b => .of fun ρ => do let k ← (sem c).t ρ; if k = true then (sem a).v ρ else (sem b).v ρ
  | .idx a i => .of fun ρ => do let x ← (sem a).v ρ; let y ← (sem i).v ρ; idxM x y
  | .slc a lo hi => .of fun ρ => do let x ← (sem a).v ρ; let l ← (sem lo).o ρ; let h ← (sem hi).o ρ; slcM x l h
  | .cal f es => .of fun ρ => do let ds ← (sem es).s ρ; cl f ds
  | .bif f es => .of fun ρ => do let ds ← (sem es).s ρ; bifM f ds
  | .seq f a => .of fun ρ => do let w ← (sem a).r ρ; seqM f w
  | .sortk a f => .of fun ρ => do let w ← (sem a).r ρ; sortM (cl f) w.2
  | .met m o es => .of fun ρ => do let x ← (sem o).v ρ; tyM m x; let ds ← (sem es).s ρ; metM m x ds
  | .att o f => .of fun ρ => do let x ← (sem o).v ρ; let w ← insM x; grd (mt w.2.1 f = some none); opt (w.2.2.lookup f)
  | .mcl m o es => .of fun ρ => do let x ← (sem o).v ρ; let w ← insM x; let f ← opt ((mt w.2.1 m).bind id); grd (w.2.2.lookup m = none); let ds ← (sem es).s ρ; cl f (x :: ds)
  | .new c es => .of fun ρ => do let ds ← (sem es).s ρ; mk c ds
  | .lc t own it c e => { Sem.of fun ρ => do let ds ← lcM t own (sem it).i (sem c).t (sem e).v ρ; alloc (.lst ds) with
      r := fun ρ => do let ds ← lcM t own (sem it).i (sem c).t (sem e).v ρ; pure (.l, ds) }
  | .isi o t => .of fun ρ => do let x ← (sem o).v ρ; isiM x t
  | .rng es => { Sem.of (fun _ => bad) with i := fun ρ => do let ds ← (sem es).s ρ; rngM ds }
  | .enm e => { Sem.of (fun _ => bad) with i := fun ρ => do let d ← (sem e).v ρ; let w ← walkL d; pure (w.1.mapIdx fun k x => .tup [.int k, x], w.2) }
  | .zip a b => { Sem.of (fun _ => bad) with i := fun ρ => do
      let x ← (sem a).v ρ
      let y ← (sem b).v ρ
      let w ← walkA x
      let z ← walkA y
      grd (w.1 = z.1)
      pure (w.2.1.zipWith (fun p q => .tup [p, q]) z.2.1, .two w.2.2 z.2.2) }
  | .rev e => { Sem.of (fun _ => bad) with i := fun ρ => do let d ← (sem e).v ρ; let w ← walkA d; pure (w.2.1.reverse, w.2.2) }
  | .its e => { Sem.of (fun _ => bad) with i := fun ρ => do let d ← (sem e).v ρ; let w ← dicM d; pure (w.2.map fun p => .tup [p.1, p.2], .di w.1 w.2) }
  | .vls e => { Sem.of (fun _ => bad) with i := fun ρ => do let d ← (sem e).v ρ; let w ← dicM d; pure (w.2.map (·.2), .di w.1 w.2) }
end

/-! # statements -/
inductive Fl where
  | nx (ρ : Rho) | rt (d : D) | ct (ρ : Rho) | er (c : Nat) (ρ : Rho)
/-- an expression within a statement: what it raises is the statement's end -/
def tryE {α : Type} (ρ : Rho) (m : M α) (k : α → M Fl) : M Fl := fun s => match m s with
  | .ok a s' => k a s'
  | .er c s' => .ok (.er c ρ) s'
  | .bad => .bad
def Fl.then (f : Fl) (k : Rho → M Fl) : M Fl := match f with
  | .nx ρ => k ρ
  | f => pure f
def forL (t : Tg) (b : Rho → M Fl) (g : Gd) : List D → Rho → M Fl
  | [], ρ => do chk g; pure (.nx ρ)
  | x :: xs, ρ => do
    chk g
    let ρ' ← bindT t x ρ
    match ← b ρ' with
    | .nx ρ2 => forL t b g xs ρ2
    | .ct ρ2 => forL t b g xs ρ2
    | f => pure f
def whl (c : Rho → M Bool) (b : Rho → M Fl) : Nat → Rho → M Fl
  | 0, _ => bad
  | n + 1, ρ => tryE ρ (c ρ) fun k => if k = true then do
      match ← b ρ with
      | .nx ρ2 => whl c b n ρ2
      | .ct ρ2 => whl c b n ρ2
      | f => pure f
    else pure (.nx ρ)
def assM (o i v : D) : M Unit := match o with
  | .obj n => do
    match ← getC n with
    | .lst ds => match i with
      | .int k => do let j ← opt (ixN ds.length k); setC n (.lst (ds.set j v))
      | _ => bad
    | .dic false kvs => do grd (keyOk kvs i = true ∧ kvs.length < SZ); setC n (.dic false (putD kvs i v))
    | _ => bad
  | _ => bad
def putA (f : Str) (v : D) : List (Str × D) → List (Str × D)
  | [] => [(f, v)]
  | (g, x) :: r => if g = f then (g, v) :: r else (g, x) :: putA f v r
def asfM (mt : Nat → Str → Option (Option Nat)) (o : D) (f : Str) (v : D) : M Unit := do
  let w ← insM o
  grd (mt w.2.1 f = some none ∧ w.2.2.length < 1000)
  setC w.1 (.ins w.2.1 (putA f v w.2.2))
/-- name op= value: ints alone -/
def augM (o : Operator) (a b : D) : M D := match o, a, b with
  | .Add, .int i, .int j => pure (.int (i + j))
  | .Sub, .int i, .int j => pure (.int (i - j))
  | _, _, _ => bad
def aufM (o : D) (c : Nat) (f : Str) (v : D) : M Unit := do
  let w ← insM o
  grd (w.2.1 = c ∧ w.2.2.length < 1000)
  setC w.1 (.ins w.2.1 (putA f v w.2.2))
def setLs (ρ : Rho) (is : List Nat) (ds : List D) : Option Rho := if is.Nodup then setL is ds ρ else none
section
variable (lv : Nat) (cl mk : Nat → List D → M D) (mt : Nat → Str → Option (Option Nat)) (sub : Nat → Nat → Option Bool) (N : Nat)
def ex : S → Rho → M Fl
  | .skip, ρ => pure (.nx ρ)
  | .sq a b, ρ => do let f ← ex a ρ; f.then fun ρ => ex b ρ
  | .asg t e, ρ => tryE ρ ((sem lv cl mk mt e).v ρ) fun d => do let ρ' ← bindT t d ρ; pure (.nx ρ')
  | .par is es, ρ => tryE ρ ((sem lv cl mk mt es).s ρ) fun ds => do let ρ' ← opt (setLs ρ is ds); pure (.nx ρ')
  | .ass o i v, ρ => tryE ρ (do let z ← (sem lv cl mk mt v).v ρ; let x ← (sem lv cl mk mt o).v ρ; let y ← (sem lv cl mk mt i).v ρ; assM x y z) fun _ => pure (.nx ρ)
  | .asf o f v, ρ => tryE ρ (do let z ← (sem lv cl mk mt v).v ρ; let x ← (sem lv cl mk mt o).v ρ; asfM mt x f z) fun _ => pure (.nx ρ)
  | .aug i o e, ρ => match ρ[i]? with
    | some (some x) => tryE ρ (do let y ← (sem lv cl mk mt e).v ρ; augM o x y) fun z => pure (.nx (ρ.set i (some z)))
    | _ => bad
  | .auf o f op e, ρ => tryE ρ (do
      let x ← (sem lv cl mk mt o).v ρ
      let w ← insM x
      grd (mt w.2.1 f = some none)
      let y ← opt (w.2.2.lookup f)
      let z ← (sem lv cl mk mt e).v ρ
      let r ← augM op y z
      aufM x w.2.1 f r) fun _ => pure (.nx ρ)
  | .exp e, ρ => tryE ρ ((sem lv cl mk mt e).v ρ) fun _ => pure (.nx ρ)
  | .ite c a b, ρ => tryE ρ ((sem lv cl mk mt c).t ρ) fun k => if k = true then ex a ρ else ex b ρ
  | .whl c b, ρ => whl (sem lv cl mk mt c).t (ex b) N ρ
  | .for t it b, ρ => tryE ρ ((sem lv cl mk mt it).i ρ) fun w => do
      lockG w.2
      match ← forL t (ex b) w.2 w.1 ρ with
      | .er c ρ' => pure (.er c ρ')
      | f => do openG w.2; pure f
  | .ret e, ρ => tryE ρ ((sem lv cl mk mt e).v ρ) fun d => pure (.rt d)
  | .rai c, ρ => pure (.er c ρ)
  | .try b c h o, ρ => do
    match ← ex b ρ with
    | .er c' ρ' => (match sub c' c with
      | some true => (match h with
        | .ret d => pure (.rt d)
        | .set i d => pure (.nx (ρ'.set i (some d)))
        | .pass => pure (.nx ρ'))
      | some false => pure (.er c' ρ')
      | none => bad)
    | f => f.then fun ρ => ex o ρ
  | .cont, ρ => pure (.ct ρ)
end

/-! # programs -/
/-- how a def's end is tidied: not; or all that it made is let go, as nothing leads to it; or all but one new list -/
inductive Rm where
  | any | gc | new
  deriving DecidableEq
structure Def where
  np : Nat
  ns : Nat
  rm : Rm
  body : S
structure Prog where
  get : Nat → Option Def
  mt : Nat → Str → Option (Option Nat)
  ini : Nat → Option Nat
  sub : Nat → Nat → Option Bool
  N : Nat
mutual
def D.under (n : Nat) : D → Bool
  | .tup ds => D.unders n ds
  | .wl ds => D.unders n ds
  | .obj k => decide (k < n)
  | _ => true
def D.unders (n : Nat) : List D → Bool
  | [] => true
  | d :: ds => D.under n d && D.unders n ds
end
def Cell.under (n : Nat) : Cell → Bool
  | .lst ds => D.unders n ds
  | .dic _ kvs => kvs.all fun p => p.1.under n && p.2.under n
  | .ins _ fs => fs.all fun p => p.2.under n
  | .exn _ => true
def Tidy (n : Nat) (s s' : Store) : Prop := n = s.length ∧ ∀ i < n, s'[i]? = s[i]? ∨ ∃ c, s'[i]? = some c ∧ c.under n = true
open Classical in
/-- a call's end -/
noncomputable def fin (r : Rm) (s : Store) (d : D) (s' : Store) : Res D := match r with
  | .any => .ok d s'
  | .gc => if Tidy s.length s s' ∧ d.under s.length = true then .ok d (s'.take s.length) else .bad
  | .new => match d with
    | .obj n => match s'[n]? with
      | some c => if s.length ≤ n ∧ Tidy s.length s s' ∧ c.under s.length = true then .ok (.obj s.length) (s'.take s.length ++ [c]) else .bad
      | none => .bad
    | _ => .bad
noncomputable def finE (r : Rm) (s : Store) (c : Nat) (s' : Store) : Res D := .er c s'
def startR (ds : List D) (n : Nat) : Rho := ds.map some ++ List.replicate (n - ds.length) none
noncomputable def runDef (lv : Nat) (cl mk : Nat → List D → M D) (P : Prog) (d : Def) (ds : List D) : M D := fun s =>
  if ds.length = d.np then
    match ex lv cl mk P.mt P.sub P.N d.body (startR ds d.ns) s with
    | .ok (.rt r) s' => fin d.rm s r s'
    | .ok (.nx _) s' => fin d.rm s .non s'
    | .ok (.er c _) s' => .er c s'
    | _ => .bad
  else .bad
/-- a new instance, by a level below -/
def mkM (P : Prog) (cl : Nat → List D → M D) (c : Nat) (ds : List D) : M D := do
  let f ← opt (P.ini c)
  let x ← alloc (.ins c [])
  let r ← cl f (x :: ds)
  match r with
  | .non => pure x
  | _ => bad
noncomputable def call (P : Prog) : Nat → Nat → List D → M D
  | 0 => fun _ _ => bad
  | n + 1 => fun f ds => match P.get f with
    | some d => runDef n (call P n) (mkM P (match n with
      | 0 => fun _ _ => bad
      | m + 1 => call P m)) P d ds
    | none => bad
end PI

open PySem PySem.Spec PyProof.Rows L2
namespace PI

/-! # from the text to the small language -/
structure Cc where
  N : List Str
  fn : List (Str × Nat)
  cn : List (Str × D)
  cs : List (Str × Nat)
  xs : List (Str × Nat)
  mn : List Str
def isVis (sc : Scope) (x : Str) : Bool := match sc.names.lookup x with
  | some .local => true
  | some .cell => true
  | some .free => true
  | _ => false
def isGl (sc : Scope) (x : Str) : Bool := match sc.names.lookup x with
  | some .globalImplicit => true
  | _ => false
/-- a name that is stored here; bs: the scope of the comprehension, where one runs -/
def isSto (sc : Scope) (bs : Option Scope) (x : Str) : Bool := match sc.names.lookup x with
  | some .local => true
  | some .cell => (match bs with
    | none => true
    | some b => decide (b.names.lookup x = some .cell))
  | _ => false
def okName (x : Str) : Bool := !(x == ("__debug__" : Str)) && !(x == ("__classdict__" : Str)) && decide (x ≠ ("__name__" : Str))
def slot (N : List Str) (x : Str) : Option Nat := if x ∈ N then some (N.idxOf x) else none
def slotOf (c : Cc) (sc : Scope) (bs : Option Scope) : Expr → Option Nat
  | .Name x _ => if isSto sc bs x then slot c.N x else none
  | _ => none
def tgC (c : Cc) (sc : Scope) (bs : Option Scope) : Expr → Option Tg
  | .Name x p => (slotOf c sc bs (.Name x p)).map .nm
  | .Tuple es _ _ => (es.mapM (slotOf c sc bs)).map .tp
  | _ => none
def abOk : Expr → Bool
  | .Call (.Name _ _) [] [] _ => false
  | _ => true
def notIf : Expr → Bool
  | .IfExp _ _ _ _ => false
  | _ => true
def cL (f : Expr → Option E) : List Expr → Option E
  | [] => some .nil
  | e :: r => do let x ← f e; let y ← cL f r; some (.cons x y)
def cB (k : E → E → E) (f : Expr → Option E) : List Expr → Option E
  | [] => none
  | [a] => if notIf a then f a else none
  | a :: r => if notIf a then do let x ← f a; let y ← cB k f r; some (k x y) else none
def cO (f : Expr → Option E) : Option Expr → Option E
  | none => some .nil
  | some e => f e
/-- a comprehension's test -/
def cIf (f : Expr → Option E) : List Expr → Option E
  | [] => some .nil
  | [q] => if notIf q then f q else none
  | _ => none
def sname (x : Str) (s : String) : Bool := x == Str.ofString s
def ownOf (N : List Str) : List (Str × NameKind) → List (Str × Nat)
  | [] => []
  | (x, .local) :: r => if x ∈ N then (x, N.idxOf x) :: ownOf N r else ownOf N r
  | (x, .cell) :: r => if x ∈ N then (x, N.idxOf x) :: ownOf N r else ownOf N r
  | _ :: r => ownOf N r
def tyC (c : Cc) (sc : Scope) : Expr → Option Ty
  | .Name x _ => if isGl sc x then
      (if sname x "int" then some .int else if sname x "bool" then some .bool else if sname x "str" then some .str else if sname x "tuple" then some .tuple
        else if sname x "list" then some .list else if sname x "dict" then some .dict else none) else none
  | _ => none
def biC (x : Str) (es : E) (k : Nat) : Option E :=
  if k = 1 then
    if sname x "len" then some (.bif .len es) else if sname x "int" then some (.bif .int es) else if sname x "str" then some (.bif .str es) else if sname x "abs" then some (.bif .abs es) else none
  else if k = 2 then
    if sname x "min" then some (.bif .min2 es) else if sname x "max" then some (.bif .max2 es) else none
  else none
def sqC (x : Str) : Option Sf :=
  if sname x "tuple" then some .tuple else if sname x "list" then some .list else if sname x "sum" then some .sum else if sname x "any" then some .any else if sname x "all" then some .all
  else if sname x "sorted" then some .sorted else none
def meC (x : Str) (k : Nat) : Option Me :=
  if k = 0 then (if sname x "pop" then some .pop else if sname x "isdigit" then some .isdigit else none)
  else if k = 1 then (if sname x "append" then some .append else if sname x "extend" then some .extend else if sname x "split" then some .split else if sname x "startswith" then some .startswith
    else if sname x "index" then some .index else none)
  else if k = 2 then (if sname x "get" then some .get else if sname x "setdefault" then some .setdefault else none)
  else none
/-- what a for or a comprehension walks -/
def cIt (sc : Scope) (f : Expr → Option E) : Expr → Option E
  | .Call (.Name x p) args [] pos =>
    if isGl sc x && sname x "range" then
      (match args with
       | [a] => (cL f [a]).map .rng
       | [a, b] => (cL f [a, b]).map .rng
       | _ => none)
    else if isGl sc x && sname x "enumerate" then
      (match args with
       | [a] => (f a).map .enm
       | _ => none)
    else if isGl sc x && sname x "zip" then
      (match args with
       | [a, b] => do let x ← f a; let y ← f b; some (.zip x y)
       | _ => none)
    else if isGl sc x && sname x "reversed" then
      (match args with
       | [a] => (f a).map .rev
       | _ => none)
    else f (.Call (.Name x p) args [] pos)
  | .Call (.Attribute o m ap) [] [] pos =>
    if sname m "items" then (if abOk o && ap.endLine == pos.line then (f o).map .its else none)
    else if sname m "values" then (if abOk o && ap.endLine == pos.line then (f o).map .vls else none)
    else f (.Call (.Attribute o m ap) [] [] pos)
  | e => f e
/-- only a tuple takes what enumerate, zip, items give -/
def tgIt : E → Tg → Bool
  | .enm _, .tp _ => true
  | .zip _ _, .tp _ => true
  | .its _, .tp _ => true
  | .enm _, _ => false
  | .zip _ _, _ => false
  | .its _, _ => false
  | _, _ => true
def cE (c : Cc) : Nat → Scope → Option Scope → Expr → Option E
  | 0, _, _, _ => none
  | n + 1, sc, bs, e => match e with
    | .Constant (.int i) _ _ => some (.cst (.int i))
    | .Constant (.str x) _ _ => some (.cst (.str x))
    | .Constant (.bool b) _ _ => some (.cst (.bl b))
    | .Constant .none _ _ => some (.cst .non)
    | .Name x _ => if okName x then (if isVis sc x then (slot c.N x).map .var else if isGl sc x then (c.cn.lookup x).map .cst else none) else none
    | .Tuple es _ _ => (cL (cE c n sc bs) es).map .tup
    | .List es _ => (cL (cE c n sc bs) es).map .lst
    | .Dict [] [] _ => some .dic
    | .BinOp a o b _ => do let x ← cE c n sc bs a; let y ← cE c n sc bs b; some (.bin o x y)
    | .UnaryOp .USub a _ => (cE c n sc bs a).map .neg
    | .UnaryOp .Not a _ => if notIf a then (cE c n sc bs a).map .not else none
    | .BoolOp .And es _ => if es.length ≥ 2 then cB .and (cE c n sc bs) es else none
    | .BoolOp .Or es _ => if es.length ≥ 2 then cB .or (cE c n sc bs) es else none
    | .Compare a [o] [b] _ => do let x ← cE c n sc bs a; let y ← cE c n sc bs b; some (.cmp o x y)
    | .Compare a [o, o'] [b, d] _ => do let x ← cE c n sc bs a; let y ← cE c n sc bs b; let z ← cE c n sc bs d; some (.chn o o' x y z)
    | .IfExp t a b _ => if notIf t then do let z ← cE c n sc bs t; let x ← cE c n sc bs a; let y ← cE c n sc bs b; some (.ife z x y) else none
    | .Subscript a (.Slice lo hi none _) _ => do let x ← cE c n sc bs a; let l ← cO (cE c n sc bs) lo; let h ← cO (cE c n sc bs) hi; some (.slc x l h)
    | .Subscript a i _ => do let x ← cE c n sc bs a; let y ← cE c n sc bs i; some (.idx x y)
    | .Attribute o f _ => if abOk o then (cE c n sc bs o).map fun x => .att x f else none
    | .ListComp elt [⟨tg, it, ifs, 0⟩] scope _ =>
      let own := ownOf c.N scope.names
      if blkC c.N sc scope own then do
        let i ← cIt sc (cE c n sc bs) it
        let t ← tgC c (relS scope sc) (some scope) tg
        let q ← cIf (cE c n (relS scope sc) (some scope)) ifs
        let x ← cE c n (relS scope sc) (some scope) elt
        if tgIt i t && t.slots.all (fun k => decide (k ∈ own.map (·.2))) then some (.lc t (own.map (·.2)) i q x) else none
      else none
    | .Call (.Name f _) args kws pos => if okName f && isGl sc f then
        (match kws with
        | [] => (match c.fn.lookup f with
          | some k => (cL (cE c n sc bs) args).map (.cal k)
          | none => (match c.cs.lookup f with
            | some k => (cL (cE c n sc bs) args).map (.new k)
            | none => if sname f "isinstance" then (match args with
                | [a, t] => do let x ← cE c n sc bs a; let t ← tyC c sc t; some (.isi x t)
                | _ => none)
              else (match sqC f with
                | some s => (match args with
                  | [a] => (cE c n sc bs a).map (.seq s)
                  | _ => none)
                | none => do let es ← cL (cE c n sc bs) args; biC f es args.length)))
        | _ => none) else none
    | .Call (.Attribute o m ap) args [] pos => if abOk o && ap.endLine == pos.line then
        (if m ∈ c.mn then (if args.length < 30 then do let x ← cE c n sc bs o; let es ← cL (cE c n sc bs) args; some (.mcl m x es) else none)
        else if sname m "join" then (match o, args with
          | .Constant (.str s) _ _, [a] => (cE c n sc bs a).map (.seq (.join s))
          | _, _ => none)
        else do let k ← meC m args.length; let x ← cE c n sc bs o; let es ← cL (cE c n sc bs) args; some (.met k x es)) else none
    | _ => none

/-- x = [..] kept in its place, or not -/
def swOf (sc : Scope) (x : Str) (p : Pos) (v : Expr) : Bool := match v with
  | .ListComp _ _ scope pos => decide (sc.names.lookup x = some .local) && p.line == pos.line && !(scope.names.any fun y => y.1 == x && (y.2 == .local || y.2 == .cell))
  | _ => true
def cSs (f : Stmt → Option S) : List Stmt → Option S
  | [] => some .skip
  | [s] => f s
  | s :: r => do let a ← f s; let b ← cSs f r; some (.sq a b)
def hdC (c : Cc) (sc : Scope) : List Stmt → Option Hd
  | [.Return (some (.Constant (.bool b) _ _)) _] => some (.ret (.bl b))
  | [.Return (some (.Constant .none _ _)) _] => some (.ret .non)
  | [.Pass _] => some .pass
  | [.Assign [.Name x p] (.Constant (.bool b) _ _) _] => do let i ← slotOf c sc none (.Name x p); some (.set i (.bl b))
  | _ => none
def isTupE : Expr → Bool
  | .Tuple _ _ _ => true
  | _ => false
def cS (c : Cc) (sc : Scope) : Nat → Stmt → Option S
  | 0, _ => none
  | n + 1, s => match s with
    | .Pass _ => some .skip
    | .Continue _ => some .cont
    | .Expr e _ => (match e with
      | .ListComp _ _ _ _ => none
      | e => (cE c n sc none e).map .exp)
    | .Return none _ => some (.ret (.cst .non))
    | .Return (some e) _ => (cE c n sc none e).map .ret
    | .Assign [.Name x p] v _ => if swOf sc x p v then do let i ← slotOf c sc none (.Name x p); let y ← cE c n sc none v; some (.asg (.nm i) y) else none
    | .Assign [.Tuple ts _ _] v _ => if isTupE v then none else do let t ← ts.mapM (slotOf c sc none); let y ← cE c n sc none v; some (.asg (.tp t) y)
    | .Assign [.Attribute o f _] v _ => do let x ← cE c n sc none o; let y ← cE c n sc none v; some (.asf x f y)
    | .Assign [.Subscript o i _] v _ => (match i with
      | .Slice _ _ _ _ => none
      | i => do let x ← cE c n sc none o; let k ← cE c n sc none i; let y ← cE c n sc none v; some (.ass x k y))
    | .AugAssign (.Name x p) o e _ => do let i ← slotOf c sc none (.Name x p); let y ← cE c n sc none e; some (.aug i o y)
    | .AugAssign (.Attribute o f _) op e _ => do let x ← cE c n sc none o; let y ← cE c n sc none e; some (.auf x f op y)
    | .If t a b _ => if notIf t then do let q ← cE c n sc none t; let x ← cSs (cS c sc n) a; let y ← cSs (cS c sc n) b; some (.ite q x y) else none
    | .While t b [] _ => if notIf t then do let q ← cE c n sc none t; let x ← cSs (cS c sc n) b; some (.whl q x) else none
    | .For tg it b [] _ => do
      let i ← cIt sc (cE c n sc none) it
      let t ← tgC c sc none tg
      let x ← cSs (cS c sc n) b
      if tgIt i t then some (.for t i x) else none
    | .Raise (some (.Call (.Name x _) [.Constant (.str _) _ _] [] _)) none _ => if isGl sc x && okName x then (c.xs.lookup x).map .rai else none
    | .Try b [.ExceptHandler (some (.Name x _)) none h _] o [] _ => if isGl sc x && okName x then do
        let y ← cSs (cS c sc n) b
        let k ← c.xs.lookup x
        let hd ← hdC c sc h
        let z ← cSs (cS c sc n) o
        some (.try y k hd z) else none
    | _ => none
def cBody (c : Cc) (sc : Scope) (b : List Stmt) : Option S := cSs (cS c sc 60) b
end PI

open PySem PySem.Spec PyProof.Rows L2
namespace PI

/-! # the readings of the small language -/
abbrev sg (X : Cx) (C Xn : Nat → Addr) : Sig := ⟨X.prog, X.w, X.K, C, Xn⟩
abbrev WV (G : Sig) (W : WX) (σ : L2.St) : Nat → List Addr → Hp → Store → Prop := fun c _ H' _ => W (.ref (G.X c)) none σ H'
def tV (G : Sig) (W : WX) (m : Rho → M D) : TE := fun σ H Q => ∃ F ρ st, SR G F H st ∧ RhoR G F H ρ σ ∧ WP G (WV G W σ) (m ρ) (fun d F' H' _ => ∀ v, Rep G F' H' d v → Q v H') F H st
def tAs (G : Sig) (W : WX) (m : Rho → M (List D)) : TA := fun σ H Q => ∃ F ρ st, SR G F H st ∧ RhoR G F H ρ σ ∧ WP G (WV G W σ) (m ρ) (fun d F' H' _ => ∀ v, RepL G F' H' d v → Q v H') F H st
def tTs (G : Sig) (W : WX) (m : Rho → M Bool) : TT := fun σ H Q => ∃ F ρ st, SR G F H st ∧ RhoR G F H ρ σ ∧ WP G (WV G W σ) (m ρ) (fun b F' H' _ => Q b H') F H st
def tOs (G : Sig) (W : WX) (m : Rho → M (Option Int)) : TO := fun σ H Q => ∃ F ρ st, SR G F H st ∧ RhoR G F H ρ σ ∧ WP G (WV G W σ) (m ρ) (fun b F' H' _ => Q b H') F H st
/-- a row of values, held by a list or a tuple -/
def RowV (G : Sig) (F : List Addr) (H : Hp) (ds : List D) (v : V) : Prop := ∃ a vs, v = .ref a ∧ (SqL G.K H a vs ∨ SqT G.K H a vs) ∧ RepL G F H ds vs
def tRs (G : Sig) (W : WX) (m : Rho → M (List D)) : TE := fun σ H Q => ∃ F ρ st, SR G F H st ∧ RhoR G F H ρ σ ∧ WP G (WV G W σ) (m ρ) (fun ds F' H' _ => ∀ v, RowV G F' H' ds v → Q v H') F H st

section
variable {X : Cx} {e : Expr}
theorem PE.imp {t t' : TE} (h : PE X e t) (f : ∀ σ H Q, t' σ H Q → t σ H Q) : PE X e t' := ⟨fun pins s σ H Q I q => h.run pins s σ H Q I (f σ H Q q)⟩
theorem PT.imp {t t' : TT} (h : PT X e t) (f : ∀ σ H Q, t' σ H Q → t σ H Q) : PT X e t' := ⟨fun pins s σ H Q I q => h.run pins s σ H Q I (f σ H Q q)⟩
theorem PW.imp {t t' : TT} (h : PW X e t) (f : ∀ σ H Q, t' σ H Q → t σ H Q) : PW X e t' := ⟨fun wh pins s σ H Q I q => h.run wh pins s σ H Q I (f σ H Q q)⟩
theorem PA.imp {es : List Expr} {t t' : TA} (h : PA X es t) (f : ∀ σ H Q, t' σ H Q → t σ H Q) : PA X es t' := ⟨fun pos pins s σ H Q I q => h.run pos pins s σ H Q I (f σ H Q q)⟩
theorem PS.imp {st : Stmt} {t t' : TS} (h : PS X st t) (f : ∀ D σ H, t' D σ H → t D σ H) : PS X st t' := ⟨fun pins s σ H D I q => h.run pins s σ H D I (f D σ H q)⟩
theorem PSs.imp {st : List Stmt} {t t' : TS} (h : PSs X st t) (f : ∀ D σ H, t' D σ H → t D σ H) : PSs X st t' := ⟨fun pins s σ H D I q => h.run pins s σ H D I (f D σ H q)⟩
end

section
variable {G : Sig} {W : WX} {F : List Addr} {H : Hp} {st : Store} {ρ : Rho} {σ : L2.St} {α : Type}
/-- the first part of a computation -/
theorem seqV {m : Rho → M D} {k : D → M α} {R : α → List Addr → Hp → Store → Prop} {Q : VK} (s : SR G F H st) (r : RhoR G F H ρ σ) (h : WP G (WV G W σ) (m ρ >>= k) R F H st)
    (f : ∀ a F1 H1 st1 v, Ext G F H F1 H1 → SR G F1 H1 st1 → RhoR G F1 H1 ρ σ → Rep G F1 H1 a v → WP G (WV G W σ) (k a) R F1 H1 st1 → Q v H1) : tV G W m σ H Q :=
  ⟨F, ρ, st, s, r, h.bind.imp fun a F1 H1 st1 e s1 q v rv => f a F1 H1 st1 v e s1 (r.mono e) rv q⟩
theorem seqA {m : Rho → M (List D)} {k : List D → M α} {R : α → List Addr → Hp → Store → Prop} {Q : List V → Hp → Prop} (s : SR G F H st) (r : RhoR G F H ρ σ) (h : WP G (WV G W σ) (m ρ >>= k) R F H st)
    (f : ∀ a F1 H1 st1 v, Ext G F H F1 H1 → SR G F1 H1 st1 → RhoR G F1 H1 ρ σ → RepL G F1 H1 a v → WP G (WV G W σ) (k a) R F1 H1 st1 → Q v H1) : tAs G W m σ H Q :=
  ⟨F, ρ, st, s, r, h.bind.imp fun a F1 H1 st1 e s1 q v rv => f a F1 H1 st1 v e s1 (r.mono e) rv q⟩
theorem seqR {m : Rho → M (List D)} {k : List D → M α} {R : α → List Addr → Hp → Store → Prop} {Q : VK} (s : SR G F H st) (r : RhoR G F H ρ σ) (h : WP G (WV G W σ) (m ρ >>= k) R F H st)
    (f : ∀ a F1 H1 st1 v, Ext G F H F1 H1 → SR G F1 H1 st1 → RhoR G F1 H1 ρ σ → RowV G F1 H1 a v → WP G (WV G W σ) (k a) R F1 H1 st1 → Q v H1) : tRs G W m σ H Q :=
  ⟨F, ρ, st, s, r, h.bind.imp fun a F1 H1 st1 e s1 q v rv => f a F1 H1 st1 v e s1 (r.mono e) rv q⟩
theorem seqT {m : Rho → M Bool} {k : Bool → M α} {R : α → List Addr → Hp → Store → Prop} {Q : Bool → Hp → Prop} (s : SR G F H st) (r : RhoR G F H ρ σ) (h : WP G (WV G W σ) (m ρ >>= k) R F H st)
    (f : ∀ a F1 H1 st1, Ext G F H F1 H1 → SR G F1 H1 st1 → RhoR G F1 H1 ρ σ → WP G (WV G W σ) (k a) R F1 H1 st1 → Q a H1) : tTs G W m σ H Q :=
  ⟨F, ρ, st, s, r, h.bind.imp fun a F1 H1 st1 e s1 q => f a F1 H1 st1 e s1 (r.mono e) q⟩
theorem seqO {m : Rho → M (Option Int)} {k : Option Int → M α} {R : α → List Addr → Hp → Store → Prop} {Q : Option Int → Hp → Prop} (s : SR G F H st) (r : RhoR G F H ρ σ) (h : WP G (WV G W σ) (m ρ >>= k) R F H st)
    (f : ∀ a F1 H1 st1, Ext G F H F1 H1 → SR G F1 H1 st1 → RhoR G F1 H1 ρ σ → WP G (WV G W σ) (k a) R F1 H1 st1 → Q a H1) : tOs G W m σ H Q :=
  ⟨F, ρ, st, s, r, h.bind.imp fun a F1 H1 st1 e s1 q => f a F1 H1 st1 e s1 (r.mono e) q⟩
/-- the whole of it -/
theorem endV {m : Rho → M D} {Q : VK} (s : SR G F H st) (r : RhoR G F H ρ σ) (h : WP G (WV G W σ) (m ρ) (fun d F' H' _ => ∀ v, Rep G F' H' d v → Q v H') F H st) : tV G W m σ H Q := ⟨F, ρ, st, s, r, h⟩

/-- looks at a cell -/
theorem WP.cell {n : Nat} {k : Cell → M α} {W : Nat → List Addr → Hp → Store → Prop} {R : α → List Addr → Hp → Store → Prop} (s : SR G F H st) (h : WP G W (getC n >>= k) R F H st) :
    ∃ a c, F[n]? = some a ∧ st[n]? = some c ∧ CellOk G F H a c ∧ WP G W (k c) R F H st := by
  have h2 := h.bind
  unfold WP getC at h2
  cases q : st[n]? with
  | none => rw [q] at h2; exact h2.elim
  | some c =>
    rw [q] at h2
    have hlt : n < F.length := by rw [s.len]; exact (List.getElem?_eq_some_iff.mp q).1
    exact ⟨F[n], c, by simp [hlt], rfl, s.ok n _ c (by simp [hlt]) q, h2 F H Ext.refl s⟩
theorem WP.optb {o : Option α} {β : Type} {k : α → M β} {W : Nat → List Addr → Hp → Store → Prop} {R : β → List Addr → Hp → Store → Prop} (s : SR G F H st) (h : WP G W (opt o >>= k) R F H st) : ∃ a, o = some a ∧ WP G W (k a) R F H st := by
  cases o with
  | none => exact (h.bind : False).elim
  | some a => exact ⟨a, rfl, h⟩
theorem WP.opte {o : Option α} {W : Nat → List Addr → Hp → Store → Prop} {R : α → List Addr → Hp → Store → Prop} (s : SR G F H st) (h : WP G W (opt o) R F H st) : ∃ a, o = some a ∧ R a F H st := by
  cases o with
  | none => exact (h : False).elim
  | some a => exact ⟨a, rfl, WP.pur h s⟩
/-- a new object of the store -/
theorem WP.allocd {c : Cell} {W : Nat → List Addr → Hp → Store → Prop} {R : D → List Addr → Hp → Store → Prop} (s : SR G F H st) (h : WP G W (alloc c) R F H st) {p : Addr} {o : HO} (hp : H p = none) (hc : CellOk G (F ++ [p]) (upd H p o) p c) :
    R (.obj st.length) (F ++ [p]) (upd H p o) (st ++ [c]) ∧ Rep G (F ++ [p]) (upd H p o) (.obj st.length) (.ref p) :=
  ⟨h (F ++ [p]) (upd H p o) (Ext.laid hp) (s.laid hp hc), by rw [Rep]; exact ⟨p, rfl, by rw [← s.len, List.getElem?_append_right (Nat.le_refl _)]; simp⟩⟩
/-- a list of it -/
theorem WP.allocL {ds : List D} {vs : List V} {W : Nat → List Addr → Hp → Store → Prop} {Q : VK} (s : SR G F H st) (h : WP G W (alloc (.lst ds)) (fun d F' H' _ => ∀ v, Rep G F' H' d v → Q v H') F H st) (r : RepL G F H ds vs) {p : Addr} (hp : H p = none) :
    Q (.ref p) (upd H p (.lst vs)) := by
  obtain ⟨h1, h2⟩ := WP.allocd (o := .lst vs) s h hp ⟨vs, upd_same, r.mono (Ext.laid hp)⟩
  exact h1 _ h2
/-- an object of the store changed -/
theorem WP.setd {n : Nat} {a : Addr} {o u : HO} {c : Cell} {k : Unit → M α} {W : Nat → List Addr → Hp → Store → Prop} {R : α → List Addr → Hp → Store → Prop} (s : SR G F H st) (h : WP G W (setC n c >>= k) R F H st) (hn : F[n]? = some a) (hu : H a = some u) (mu : Mut (some u))
    (hc : CellOk G F (upd H a o) a c) : Ext G F H F (upd H a o) ∧ SR G F (upd H a o) (st.set n c) ∧ WP G W (k ()) R F (upd H a o) (st.set n c) :=
  ⟨Ext.wrote hn hu mu, s.wrote hn hu mu hc, h.bind F (upd H a o) (Ext.wrote hn hu mu) (s.wrote hn hu mu hc)⟩
end

/-! # operators -/
def rM2 (G : Sig) (op : D → D → M D) : R2 := fun x y H Q => ∃ F st a b W, SR G F H st ∧ Rep G F H a x ∧ Rep G F H b y ∧ WP G W (op a b) (fun d F' H' _ => ∀ v, Rep G F' H' d v → Q v H') F H st
section
variable {X : Cx} {C Xn : Nat → Addr} {W : WX} {a b i : Expr} {pos : Pos} {ma mb : Rho → M D}
theorem tOp_of {G : Sig} {op : D → D → M D} {σ : L2.St} {H : Hp} {Q : VK} (h : tV G W (fun ρ => do let x ← ma ρ; let y ← mb ρ; op x y) σ H Q) : L2.tOp (rM2 G op) (tV G W ma) (tV G W mb) σ H Q := by
  obtain ⟨F, ρ, st, s, r, h⟩ := h
  exact seqV s r h fun x F1 H1 st1 v e1 s1 r1 rx h1 => seqV s1 r1 h1 fun y F2 H2 st2 w e2 s2 r2 ry h2 => ⟨F2, st2, x, y, _, s2, rx.mono e2, ry, h2⟩
theorem pe_binI {o : Operator} {op : D → D → M D} (ho : OpR X (binaryOp o) (rM2 (sg X C Xn) op)) (ha : PE X a (tV (sg X C Xn) W ma)) (hb : PE X b (tV (sg X C Xn) W mb)) :
    PE X (.BinOp a o b pos) (tV (sg X C Xn) W fun ρ => do let x ← ma ρ; let y ← mb ρ; op x y) := PE.imp (pe_op ho ha hb) fun _ _ _ => tOp_of
theorem pe_cmpI {o : CmpOp} {op : D → D → M D} (ho : OpR X (compareOp o) (rM2 (sg X C Xn) op)) (ha : PE X a (tV (sg X C Xn) W ma)) (hb : PE X b (tV (sg X C Xn) W mb)) (hm : behindInMarks o b = false) :
    PE X (.Compare a [o] [b] pos) (tV (sg X C Xn) W fun ρ => do let x ← ma ρ; let y ← mb ρ; op x y) := PE.imp (pe_cmpR ho ha hb hm) fun _ _ _ => tOp_of

theorem SZ_eq : SZ = sizeLine := by rw [sizeLine_eq]; rfl
theorem rep_int {G : Sig} {F : List Addr} {H : Hp} {i : Int} {v : V} (h : Rep G F H (.int i) v) : v = .int i := h
theorem rep_str {G : Sig} {F : List Addr} {H : Hp} {i : Str} {v : V} (h : Rep G F H (.str i) v) : v = .str i := h
theorem rep_bl {G : Sig} {F : List Addr} {H : Hp} {i : Bool} {v : V} (h : Rep G F H (.bl i) v) : v = .bl i := h
theorem rep_non {G : Sig} {F : List Addr} {H : Hp} {v : V} (h : Rep G F H .non v) : v = .non := h
theorem rep_tup {G : Sig} {F : List Addr} {H : Hp} {ds : List D} {v : V} (h : Rep G F H (.tup ds) v) : ∃ a vs, v = .ref a ∧ SqT G.K H a vs ∧ RepL G F H ds vs := by rw [Rep] at h; exact h
theorem rep_obj {G : Sig} {F : List Addr} {H : Hp} {n : Nat} {v : V} (h : Rep G F H (.obj n) v) : ∃ a, v = .ref a ∧ F[n]? = some a := by rw [Rep] at h; exact h
theorem rep_wl {G : Sig} {F : List Addr} {H : Hp} {ds : List D} {v : V} (h : Rep G F H (.wl ds) v) : ∃ a vs, v = .ref a ∧ FzL G.K H a vs ∧ RepL G F H ds vs := by rw [Rep] at h; exact h
theorem rep_tup' {G : Sig} {F : List Addr} {H : Hp} {ds : List D} {a : Addr} {vs : List V} (h : SqT G.K H a vs) (r : RepL G F H ds vs) : Rep G F H (.tup ds) (.ref a) := by rw [Rep]; exact ⟨a, vs, rfl, h, r⟩
theorem RepL.ne_nil {G : Sig} {F : List Addr} {H : Hp} {ds : List D} {vs : List V} (r : RepL G F H ds vs) (h : ds ≠ []) : vs ≠ [] := fun z => by
  subst z
  have := r.length
  cases ds with
  | nil => exact h rfl
  | cons _ _ => simp at this
/-- a new tuple -/
theorem tupQ {G : Sig} {F : List Addr} {H : Hp} {st : Store} {W : Nat → List Addr → Hp → Store → Prop} {ds : List D} {vs : List V} {Q : VK} (s : SR G F H st) (h : WP G W (pure (.tup ds)) (fun d F' H' _ => ∀ v, Rep G F' H' d v → Q v H') F H st) (r : RepL G F H ds vs) {p : Addr} (hp : H p = none) : Q (.ref p) (upd H p (.tup vs)) := by
  have e := Ext.new (G := G) (F := F) (o := .tup vs) hp
  exact h F _ e (s.new hp) _ (rep_tup' (.inl (.inl upd_same)) (r.mono e))

theorem op_binI (o : Operator) : OpR X (binaryOp o) (rM2 (sg X C Xn) (binM o)) := by
  intro pins s σ H x y v u Q I rx ry ⟨F, st, a, b, W, sr, ra, rb, h⟩
  unfold binM at h
  split at h
  · cases rep_int ra; cases rep_int rb
    exact op_add pins s σ H _ _ v u Q I rx ry ⟨_, _, rfl, rfl, h.pur sr _ rfl⟩
  · cases rep_str ra; cases rep_str rb
    obtain ⟨hz, h⟩ := h.grdb sr
    exact op_add_str pins s σ H _ _ v u Q I rx ry ⟨_, _, rfl, rfl, by rw [← SZ_eq]; exact hz, h.pur sr _ rfl⟩
  · obtain ⟨p, vs, rfl, t1, r1⟩ := rep_tup ra
    obtain ⟨q, ws, rfl, t2, r2⟩ := rep_tup rb
    obtain ⟨hz, h⟩ := h.grdb sr
    refine op_catA pins s σ H _ _ v u Q I rx ry ⟨p, q, vs, ws, rfl, rfl, t1, t2, by rw [r1.length, r2.length, ← SZ_eq]; exact hz, fun e => ?_, fun _ e => ?_, fun _ _ p' hp => ?_⟩
    · subst e
      have e2 : _ = [] := List.eq_nil_of_length_eq_zero (by simpa using r1.length.symm)
      subst e2
      exact h.pur sr _ (rep_tup' t2 r2)
    · subst e
      have e2 : _ = [] := List.eq_nil_of_length_eq_zero (by simpa using r2.length.symm)
      subst e2
      have h := h.pur sr
      rw [List.append_nil] at h
      exact h _ (rep_tup' t1 r1)
    · exact tupQ sr h (r1.append r2) hp
  · obtain ⟨p, rfl, f1⟩ := rep_obj ra
    obtain ⟨q, rfl, f2⟩ := rep_obj rb
    obtain ⟨a1, c1, f3, g1, k1, h⟩ := WP.cell sr h
    obtain ⟨a2, c2, f4, g2, k2, h⟩ := WP.cell sr h
    rw [f1] at f3; cases f3
    rw [f2] at f4; cases f4
    split at h
    · obtain ⟨vs, k1, r1⟩ := k1
      obtain ⟨ws, k2, r2⟩ := k2
      obtain ⟨hz, h⟩ := h.grdb sr
      exact op_cat pins s σ H _ _ v u Q I rx ry ⟨p, q, vs, ws, rfl, rfl, k1, k2, by rw [r1.length, r2.length, ← SZ_eq]; exact hz, fun p' hp => WP.allocL sr h (r1.append r2) hp⟩
    · exact h.elim
  · cases rep_int ra; cases rep_int rb
    exact op_sub pins s σ H _ _ v u Q I rx ry ⟨_, _, rfl, rfl, h.pur sr _ rfl⟩
  · cases rep_int ra; cases rep_int rb
    obtain ⟨hz, h⟩ := h.grdb sr
    exact op_mulW pins s σ H _ _ v u Q I rx ry ⟨_, _, rfl, rfl, hz, h.pur sr _ rfl⟩
  · cases rep_int ra; cases rep_int rb
    obtain ⟨hz, h⟩ := h.grdb sr
    exact op_mod pins s σ H _ _ v u Q I rx ry ⟨_, _, rfl, rfl, hz, h.pur sr _ rfl⟩
  · cases rep_int ra; cases rep_int rb
    obtain ⟨hz, h⟩ := h.grdb sr
    exact op_fdivW pins s σ H _ _ v u Q I rx ry ⟨_, _, rfl, rfl, hz, h.pur sr _ rfl⟩
  · cases rep_int ra; cases rep_int rb
    obtain ⟨hz, h⟩ := h.grdb sr
    exact op_pow pins s σ H _ _ v u Q I rx ry ⟨_, _, rfl, rfl, hz, h.pur sr _ rfl⟩
  · exact h.elim
end
end PI

open PySem PySem.Spec PyProof.Rows L2
namespace PI

/-! # data for == over the heap -/
section
variable {G : Sig} {F : List Addr} {H : Hp} {st : Store}
mutual
theorem dp_of : ∀ {d : D} {x : PyData} {v : V}, pd d = some x → Rep G F H d v → Dp G.K H v x
  | .non, x, v, e, h => by cases rep_non h; cases e; exact .non
  | .bl b, x, v, e, h => by cases rep_bl h; cases e; exact .bl b
  | .int i, x, v, e, h => by cases rep_int h; cases e; exact .int i
  | .str i, x, v, e, h => by cases rep_str h; cases e; exact .str i
  | .tup ds, x, v, e, h => by
    obtain ⟨a, vs, rfl, t, r⟩ := rep_tup h
    rw [pd] at e
    obtain ⟨xs, e1, rfl⟩ := Option.map_eq_some_iff.mp e
    exact .tup t (dps_of e1 r)
  | .wl ds, x, v, e, h => by
    obtain ⟨a, vs, rfl, t, r⟩ := rep_wl h
    rw [pd] at e
    obtain ⟨xs, e1, rfl⟩ := Option.map_eq_some_iff.mp e
    exact .lst t.seq (dps_of e1 r)
  | .obj n, x, v, e, h => by rw [pd] at e; cases e
  | .wd n, x, v, e, h => by rw [pd] at e; cases e
theorem dps_of : ∀ {ds : List D} {xs : List PyData} {vs : List V}, pds ds = some xs → RepL G F H ds vs → DpAll G.K H vs xs
  | [], xs, vs, e, h => by rw [RepL] at h; subst h; cases e; exact .nil
  | d :: ds, xs, vs, e, h => by
    rw [RepL] at h
    obtain ⟨v, r, rfl, h1, h2⟩ := h
    rw [pds] at e
    obtain ⟨x, e1, e2⟩ := Option.bind_eq_some_iff.mp e
    obtain ⟨ys, e3, rfl⟩ := Option.map_eq_some_iff.mp e2
    exact .cons (dp_of e1 h1) (dps_of e3 h2)
end
theorem dp_rd {d : D} {x : PyData} {v : V} (s : SR G F H st) (e : rd st d = some x) (h : Rep G F H d v) : Dp G.K H v x := by
  cases d with
  | obj n =>
    obtain ⟨a, rfl, f⟩ := rep_obj h
    obtain ⟨c, g, k⟩ := s.cell f
    rw [rd, g] at e
    cases c with
    | lst ds =>
      obtain ⟨xs, e1, rfl⟩ := Option.map_eq_some_iff.mp e
      obtain ⟨vs, k1, k2⟩ := k
      exact .lst (.inl (.inl k1)) (dps_of e1 k2)
    | _ => cases e
  | _ => exact dp_of (by simpa [rd] using e) h
end

section
variable {α : Type} {G : Sig} {F : List Addr} {H : Hp} {st : Store} {W : Nat → List Addr → Hp → Store → Prop} {lv : Nat} {a b : D}
theorem WP.eqb {k : D → M α} {R : α → List Addr → Hp → Store → Prop} (s : SR G F H st) (h : WP G W (eqP lv a b >>= k) R F H st) :
    ∃ x y, rd st a = some x ∧ rd st b = some y ∧ x.canLay0 = true ∧ y.canLay0 = true ∧ min x.depth y.depth ≤ 200 + 16 * lv ∧ WP G W (k (.bl (PyData.eqv x y))) R F H st := by
  have e : eqP lv a b st = (match rd st a, rd st b with
    | some x, some y => do
      PI.grd (x.canLay0 = true ∧ y.canLay0 = true ∧ min x.depth y.depth ≤ 200 + 16 * lv)
      pure (D.bl (PyData.eqv x y))
    | _, _ => (bad : M D)) st := rfl
  unfold WP at h
  rw [bind_def, e] at h
  cases e1 : rd st a with
  | none => rw [e1] at h; exact h.elim
  | some x =>
    cases e2 : rd st b with
    | none => rw [e1, e2] at h; exact h.elim
    | some y =>
      rw [e1, e2] at h
      dsimp only at h
      rw [bind_def] at h
      by_cases q : x.canLay0 = true ∧ y.canLay0 = true ∧ min x.depth y.depth ≤ 200 + 16 * lv
      · simp only [PI.grd, if_pos q] at h
        exact ⟨x, y, rfl, rfl, q.1, q.2.1, q.2.2, h⟩
      · simp only [PI.grd, if_neg q] at h
theorem bind_pure {m : M α} : (m >>= pure) = m := by
  funext s
  rw [bind_def]
  cases m s <;> rfl
theorem WP.eqpe {R : D → List Addr → Hp → Store → Prop} (s : SR G F H st) (h : WP G W (eqP lv a b) R F H st) :
    ∃ x y, rd st a = some x ∧ rd st b = some y ∧ x.canLay0 = true ∧ y.canLay0 = true ∧ min x.depth y.depth ≤ 200 + 16 * lv ∧ R (.bl (PyData.eqv x y)) F H st := by
  rw [← bind_pure (m := eqP lv a b)] at h
  obtain ⟨x, y, h1, h2, h3, h4, h5, h6⟩ := WP.eqb s h
  exact ⟨x, y, h1, h2, h3, h4, h5, h6.pur s⟩
theorem lenL_rep {d : D} {v : V} {n : Nat} (s : SR G F H st) (r : Rep G F H d v) (h : lenL st d = some n) : ∃ p vs, v = .ref p ∧ SqL G.K H p vs ∧ vs.length = n := by
  unfold lenL at h
  split at h
  · obtain ⟨p, rfl, f⟩ := rep_obj r
    obtain ⟨c, g, k⟩ := s.cell f
    rw [g] at h
    cases c with
    | lst ds =>
      obtain ⟨vs, k1, k2⟩ := k
      cases h
      exact ⟨p, vs, rfl, .inl (.inl k1), k2.length⟩
    | _ => cases h
  · obtain ⟨p, vs, rfl, t, r2⟩ := rep_wl r
    cases h
    exact ⟨p, vs, rfl, t.seq, r2.length⟩
  · cases h
theorem WP.eqe {R : D → List Addr → Hp → Store → Prop} {v w : V} (s : SR G F H st) (ra : Rep G F H a v) (rb : Rep G F H b w) (h : WP G W (eqM lv a b) R F H st) :
    (∃ x y, rd st a = some x ∧ rd st b = some y ∧ x.canLay0 = true ∧ y.canLay0 = true ∧ min x.depth y.depth ≤ 200 + 16 * lv ∧ R (.bl (PyData.eqv x y)) F H st) ∨
    ∃ p q vs ws, v = .ref p ∧ w = .ref q ∧ SqL G.K H p vs ∧ SqL G.K H q ws ∧ ((vs.length ≠ ws.length ∧ R (.bl false) F H st) ∨ (vs.length = 0 ∧ ws.length = 0 ∧ R (.bl true) F H st)) := by
  have e : eqM lv a b st = (match lenL st a, lenL st b with
    | some m, some n => if m ≠ n then pure (D.bl false) else if m = 0 then pure (D.bl true) else eqP lv a b
    | _, _ => (eqP lv a b : M D)) st := rfl
  have h2 : WP G W (match lenL st a, lenL st b with
    | some m, some n => if m ≠ n then pure (D.bl false) else if m = 0 then pure (D.bl true) else eqP lv a b
    | _, _ => (eqP lv a b : M D)) R F H st := by
    unfold WP at h ⊢
    rw [e] at h
    exact h
  cases e1 : lenL st a with
  | none => rw [e1] at h2; exact .inl (WP.eqpe s h2)
  | some m =>
    cases e2 : lenL st b with
    | none => rw [e1, e2] at h2; exact .inl (WP.eqpe s h2)
    | some n =>
      rw [e1, e2] at h2
      dsimp only at h2
      obtain ⟨p, vs, rfl, t1, l1⟩ := lenL_rep s ra e1
      obtain ⟨q, ws, rfl, t2, l2⟩ := lenL_rep s rb e2
      by_cases q1 : m ≠ n
      · rw [if_pos q1] at h2
        exact .inr ⟨p, q, vs, ws, rfl, rfl, t1, t2, .inl ⟨by rw [l1, l2]; exact q1, h2.pur s⟩⟩
      · rw [if_neg q1] at h2
        by_cases q2 : m = 0
        · rw [if_pos q2] at h2
          exact .inr ⟨p, q, vs, ws, rfl, rfl, t1, t2, .inr ⟨by omega, by omega, h2.pur s⟩⟩
        · rw [if_neg q2] at h2
          exact .inl (WP.eqpe s h2)
theorem WP.not_out {m : M D} {R : D → List Addr → Hp → Store → Prop} (h : WP G W (notM m) R F H st) : WP G W m (fun d F' H' st' => WP G W (match d with
    | .bl b => pure (.bl (!b))
    | _ => bad) R F' H' st') F H st := h.bind
end

section
variable {X : Cx} {C Xn : Nat → Addr} {lv : Nat}
theorem room_le {n : Nat} (hr : Room lv X.A) (h : n ≤ 200 + 16 * lv) : X.A.units + n < cLine := by
  have := hr.un
  omega
theorem op_eqI (hr : Room lv X.A) : OpR X (compareOp .Eq) (rM2 (sg X C Xn) (eqM lv)) := by
  intro pins s σ H x y v u Q I rx ry ⟨F, st, a, b, W, sr, ra, rb, h⟩
  rcases WP.eqe sr ra rb h with ⟨d, e, h1, h2, h3, h4, h5, h6⟩ | ⟨p, q, vs, ws, rfl, rfl, t1, t2, alt⟩
  · obtain ⟨as, r1⟩ := Dp.reads I d x v (dp_rd sr h1 ra) rx
    obtain ⟨bs, r2⟩ := Dp.reads I e y u (dp_rd sr h2 rb) ry
    exact SeqAt.compareEq_reads r1 r2 h3 h4 (room_le hr h5) ⟨.bl _, H, I, rfl, h6 _ rfl⟩
  · cases (show v = Value.ref p from rx)
    cases (show u = Value.ref q from ry)
    obtain ⟨i1, r1, l1, _⟩ := I.list t1
    obtain ⟨i2, r2, l2, _⟩ := I.list t2
    have e1 := r1.length
    have e2 := r2.length
    rcases alt with ⟨hne, hq⟩ | ⟨z1, z2, hq⟩
    · exact SeqAt.eq_list_lengthsAt l1.isList l2.isList (by simp only [List.size_toArray, bne_iff_ne, ne_eq]; omega) (by have := hr.un; omega) ⟨.bl _, H, I, rfl, hq _ rfl⟩
    · have n1 : i1 = [] := List.eq_nil_of_length_eq_zero (by omega)
      have n2 : i2 = [] := List.eq_nil_of_length_eq_zero (by omega)
      subst n1 n2
      exact SeqAt.eq_listAt (e := fun _ => true) l1.isList l2.isList rfl (by have := hr.un; omega) (fun j h1 h2 => absurd h1 (Nat.not_lt_zero j)) ⟨.bl true, H, I, rfl, hq _ rfl⟩
theorem op_neI (hr : Room lv X.A) : OpR X (compareOp .NotEq) (rM2 (sg X C Xn) fun a b => notM (eqM lv a b)) := by
  intro pins s σ H x y v u Q I rx ry ⟨F, st, a, b, W, sr, ra, rb, h⟩
  rcases WP.eqe sr ra rb h.not_out with ⟨d, e, h1, h2, h3, h4, h5, h6⟩ | ⟨p, q, vs, ws, rfl, rfl, t1, t2, alt⟩
  · obtain ⟨as, r1⟩ := Dp.reads I d x v (dp_rd sr h1 ra) rx
    obtain ⟨bs, r2⟩ := Dp.reads I e y u (dp_rd sr h2 rb) ry
    exact SeqAt.compareNe_reads r1 r2 h3 h4 (room_le hr h5) ⟨.bl _, H, I, rfl, h6.pur sr _ rfl⟩
  · cases (show v = Value.ref p from rx)
    cases (show u = Value.ref q from ry)
    obtain ⟨i1, r1, l1, _⟩ := I.list t1
    obtain ⟨i2, r2, l2, _⟩ := I.list t2
    have e1 := r1.length
    have e2 := r2.length
    rcases alt with ⟨hne, hq⟩ | ⟨z1, z2, hq⟩
    · exact SeqAt.RcNeAt.lists_lengths l1.isList l2.isList (by simp only [List.size_toArray, bne_iff_ne, ne_eq]; omega) (by have := hr.un; omega) _ _ _ _ ⟨.bl _, H, I, rfl, hq.pur sr _ rfl⟩
    · have n1 : i1 = [] := List.eq_nil_of_length_eq_zero (by omega)
      have n2 : i2 = [] := List.eq_nil_of_length_eq_zero (by omega)
      subst n1 n2
      exact SeqAt.RcNeAt.lists (e := fun _ => true) l1.isList l2.isList rfl (by have := hr.un; omega) (fun j h1 h2 => absurd h1 (Nat.not_lt_zero j)) _ _ _ _ ⟨.bl false, H, I, rfl, hq.pur sr _ rfl⟩

/-! # in -/
theorem WP.inLe {G : Sig} {F : List Addr} {H : Hp} {st : Store} {W : Nat → List Addr → Hp → Store → Prop} {a : D} {ds : List D} {R : D → List Addr → Hp → Store → Prop} (s : SR G F H st) (h : WP G W (inL lv a ds) R F H st) :
    ∃ x xs, pd a = some x ∧ pds ds = some xs ∧ x.canLay0 = true ∧ PyData.canLayAll0 xs = true ∧ x.depth + 1 ≤ 200 + 16 * lv ∧ R (.bl (xs.any fun z => PyData.eqv z x)) F H st := by
  unfold inL at h
  cases e1 : pd a with
  | none => rw [e1] at h; exact h.elim
  | some x =>
    cases e2 : pds ds with
    | none => rw [e1, e2] at h; exact h.elim
    | some xs =>
      rw [e1, e2] at h
      obtain ⟨⟨q1, q2, q3⟩, h⟩ := h.grdb s
      exact ⟨x, xs, rfl, rfl, q1, q2, q3, h.pur s⟩
theorem room_in {xs : List PyData} {x : PyData} (hr : Room lv X.A) (h : x.depth + 1 ≤ 200 + 16 * lv) : X.A.units + 1 + min (PyData.depthAll xs) x.depth < cLine := by
  have := hr.un
  have := Nat.min_le_right (PyData.depthAll xs) x.depth
  omega
theorem pd_of_pds {ds : List D} {xs : List PyData} (h : pds ds = some xs) : pd (.tup ds) = some (.tuple xs) ∧ pd (.wl ds) = some (.list xs) := by
  constructor <;> (rw [pd, h]; rfl)
/-- x in y: one sign in a text, data in a list or a tuple, a key in a dict -/
theorem lookKV {G : Sig} {F : List Addr} {H : Hp} {k : Key} : ∀ {kvs : List (D × D)} {ws : List (Key × V)}, RepKV G F H kvs ws →
    (lookD kvs (keyD k) = none ∧ valV ws k = none) ∨ ∃ d v, lookD kvs (keyD k) = some d ∧ valV ws k = some v ∧ Rep G F H d v
  | _, _, .nil => .inl ⟨rfl, rfl⟩
  | (kd, d) :: kvs, (k', v) :: ws, .cons r t => by
    obtain ⟨e, r⟩ := r
    simp only at e
    subst e
    have inj : keyD k' = keyD k ↔ k' = k := by
      cases k' <;> cases k <;> simp [keyD]
    by_cases h : k' = k
    · subst h
      exact .inr ⟨d, v, by simp [lookD], by simp [valV], r⟩
    · have ih := lookKV (k := k) t
      have h2 : ¬ keyD k' = keyD k := fun z => h (inj.mp z)
      have e1 : lookD ((keyD k', d) :: kvs) (keyD k) = lookD kvs (keyD k) := by simp [lookD, List.find?_cons, h2]
      have e2 : valV ((k', v) :: ws) k = valV ws k := by simp [valV, List.find?_cons, h]
      rw [e1, e2]
      exact ih
theorem keyOk_K {kvs : List (D × D)} {k : D} (h : keyOk kvs k = true) (hk : kindK k = 1) : ∃ q : Key, k = keyD q := by
  cases k with
  | int i => exact ⟨.inl i, rfl⟩
  | str x => exact ⟨.inr x, rfl⟩
  | _ => cases hk
/-- the dict of a cell -/
theorem DicOk.rd {G : Sig} {F : List Addr} {H : Hp} {a : Addr} {lk : Bool} {kvs : List (D × D)} (h : CellOk G F H a (.dic lk kvs)) : ∃ u, Rd H a u ∧ DicOk G F H u kvs := by
  cases lk with
  | false => obtain ⟨u, h1, h2⟩ := h; exact ⟨u, .inl h1, h2⟩
  | true => obtain ⟨o, u, h1, h2⟩ := h; exact ⟨u, .inr ⟨o, h1⟩, h2⟩
theorem keyOk_one {kvs : List (D × D)} {k : D} (h : keyOk kvs k = true) : kindK k = 1 := by
  unfold keyOk at h
  simp only [Bool.and_eq_true, bne_iff_ne, ne_eq] at h
  cases k <;> first | rfl | exact absurd rfl h.1
/-- a key that is an int or a text: the dict is one of such keys -/
theorem DicOk.one {kvs : List (D × D)} {k : D} (h : keyOk kvs k = true) {G : Sig} {F : List Addr} {H : Hp} {u : HO} (d : DicOk G F H u kvs) : ∃ (ws : List (Key × V)) (q : Key), u = .dK ws ∧ RepKV G F H kvs ws ∧ k = keyD q := by
  obtain ⟨q, hq⟩ := keyOk_K h (keyOk_one h)
  obtain ⟨ws, e, r⟩ := d
  exact ⟨ws, q, e, r, hq⟩
theorem rep_key {G : Sig} {F : List Addr} {H : Hp} {q : Key} {v : V} (h : Rep G F H (keyD q) v) : v = kV q := by
  cases q with
  | inl i => exact rep_int h
  | inr x => exact rep_str h
/-- what a dict has under a key -/
theorem dget_of {G : Sig} {F : List Addr} {H : Hp} {a : Addr} {lk : Bool} {kvs : List (D × D)} {k : D} {y : V} (c : CellOk G F H a (.dic lk kvs)) (h : keyOk kvs k = true) (r : Rep G F H k y) :
    (lookD kvs k = none ∧ DGet H a y none) ∨ ∃ d v, lookD kvs k = some d ∧ DGet H a y (some v) ∧ Rep G F H d v := by
  obtain ⟨u, hu, d⟩ := DicOk.rd c
  obtain ⟨ws, q, rfl, rk, rfl⟩ := d.one h
  obtain rfl := rep_key r
  rcases lookKV (k := q) rk with ⟨h1, h2⟩ | ⟨d, v, h1, h2, h3⟩
  · exact .inl ⟨h1, .inl ⟨ws, q, hu, rfl, h2.symm⟩⟩
  · exact .inr ⟨d, v, h1, .inl ⟨ws, q, hu, rfl, h2.symm⟩, h3⟩

theorem WP.inMe {G : Sig} {F : List Addr} {H : Hp} {st : Store} {W : Nat → List Addr → Hp → Store → Prop} {a b : D} {R : D → List Addr → Hp → Store → Prop} (s : SR G F H st) (h : WP G W (inM lv a b) R F H st) {v w : V} (ra : Rep G F H a v) (rb : Rep G F H b w) :
    (∃ c z, v = .str ⟨#[c]⟩ ∧ w = .str z ∧ R (.bl (decide (c ∈ z.cps.toList))) F H st) ∨
    (∃ x xs, Dp G.K H v x ∧ (Dp G.K H w (.list xs) ∨ Dp G.K H w (.tuple xs)) ∧ x.canLay0 = true ∧ PyData.canLayAll0 xs = true ∧ x.depth + 1 ≤ 200 + 16 * lv ∧ R (.bl (xs.any fun z => PyData.eqv z x)) F H st) ∨
    (∃ p o, w = .ref p ∧ DGet H p v o ∧ R (.bl o.isSome) F H st) ∨
    (∃ p kvs x, w = .ref p ∧ v = .str x ∧ WrD G.P G.w G.K p kvs ∧ R (.bl (kvs.lookup x).isSome) F H st) := by
  unfold inM at h
  split at h
  · split at h
    · exact .inl ⟨_, _, rep_str ra, rep_str rb, h.pur s⟩
    · exact h.elim
  · obtain ⟨x, xs, h1, h2, h3, h4, h5, h6⟩ := WP.inLe s h
    exact .inr (.inl ⟨x, xs, dp_of h1 ra, .inr (dp_of (pd_of_pds h2).1 rb), h3, h4, h5, h6⟩)
  · obtain ⟨x, xs, h1, h2, h3, h4, h5, h6⟩ := WP.inLe s h
    exact .inr (.inl ⟨x, xs, dp_of h1 ra, .inl (dp_of (pd_of_pds h2).2 rb), h3, h4, h5, h6⟩)
  · split at h
    · rw [Rep] at rb
      obtain ⟨p, rfl, hw⟩ := rb
      exact .inr (.inr (.inr ⟨p, _, _, rfl, rep_str ra, hw, h.pur s⟩))
    · exact h.elim
  · obtain ⟨p, rfl, f⟩ := rep_obj rb
    obtain ⟨p', c, f2, g, k, h⟩ := WP.cell s h
    rw [f] at f2; cases f2
    cases c with
    | lst ds =>
      obtain ⟨x, xs, h1, h2, h3, h4, h5, h6⟩ := WP.inLe s h
      obtain ⟨vs, k1, k2⟩ := k
      exact .inr (.inl ⟨x, xs, dp_of h1 ra, .inl (.lst (.inl (.inl k1)) (dps_of h2 k2)), h3, h4, h5, h6⟩)
    | dic lk kvs =>
      obtain ⟨q, h⟩ := h.grdb s
      rcases dget_of k q ra with ⟨h1, h2⟩ | ⟨d, v', h1, h2, _⟩
      · rw [h1] at h
        exact .inr (.inr (.inl ⟨p, none, rfl, h2, h.pur s⟩))
      · rw [h1] at h
        exact .inr (.inr (.inl ⟨p, some v', rfl, h2, h.pur s⟩))
    | _ => exact h.elim
  · exact h.elim
/-- a text's dict of the written part, asked -/
theorem lookS {x : Str} : ∀ {kvs : List (Str × Str)}, valV (kvs.map fun kv => ((.inr kv.1 : Key), V.str kv.2)) (.inr x) = (kvs.lookup x).map V.str
  | [] => rfl
  | (k, v) :: r => by
    have ih := lookS (x := x) (kvs := r)
    unfold valV at ih ⊢
    rw [List.map_cons, List.find?_cons, List.lookup_cons]
    by_cases h : k = x
    · subst h
      simp
    · have h1 : decide ((Sum.inr k : Key) = Sum.inr x) = false := decide_eq_false fun z => h (Sum.inr.inj z)
      have h2 : (x == k) = false := beq_eq_false_iff_ne.mpr (Ne.symm h)
      simp only [h1, h2]
      exact ih
theorem op_inI (hr : Room lv X.A) : OpR X (compareOp .In) (rM2 (sg X C Xn) (inM lv)) := by
  intro pins s σ H x y v u Q I rx ry ⟨F, st, a, b, W, sr, ra, rb, h⟩
  rcases WP.inMe sr h ra rb with ⟨c, z, rfl, rfl, q⟩ | ⟨d, ds, h1, h2, h3, h4, h5, q⟩ | ⟨p, o, rfl, h1, q⟩ | ⟨p, kvs, z, rfl, rfl, h1, q⟩
  · exact op_in_sign pins s σ H _ _ v u Q I rx ry ⟨c, z, rfl, rfl, q _ rfl⟩
  · obtain ⟨as, r1⟩ := Dp.reads I d x v h1 rx
    rcases h2 with h2 | h2
    · obtain ⟨bs, r2⟩ := Dp.reads I (.list ds) y u h2 ry
      exact SeqAt.in_list_reads r2 r1 h4 h3 (room_in hr h5) ⟨.bl _, H, I, rfl, q _ rfl⟩
    · obtain ⟨bs, r2⟩ := Dp.reads I (.tuple ds) y u h2 ry
      exact SeqAt.in_tuple_reads r2 r1 h4 h3 (room_in hr h5) ⟨.bl _, H, I, rfl, q _ rfl⟩
  · cases (show u = Value.ref p from ry)
    exact d_in (hu_of hr) I h1 rx fun s' I' => ⟨.bl _, H, I', rfl, q _ rfl⟩
  · cases (show u = Value.ref p from ry)
    obtain ⟨t, rfl⟩ := rx
    obtain ⟨hs, vs, kv, dd⟩ := h1 s.heap I.kIn
    refine wpAny_in_of (kV_is (k := .inr z) ⟨t, rfl⟩) hs dd.mapOf ?_
    rw [← (kv.val (.inr z)).isSome_eq, lookS, Option.isSome_map]
    exact ⟨.bl _, H, I.tok _, rfl, q _ rfl⟩
theorem op_ninI (hr : Room lv X.A) : OpR X (compareOp .NotIn) (rM2 (sg X C Xn) fun a b => notM (inM lv a b)) := by
  intro pins s σ H x y v u Q I rx ry ⟨F, st, a, b, W, sr, ra, rb, h⟩
  rcases WP.inMe sr h.not_out ra rb with ⟨c, z, rfl, rfl, q⟩ | ⟨d, ds, h1, h2, h3, h4, h5, q⟩ | ⟨p, o, rfl, h1, q⟩ | ⟨p, kvs, z, rfl, rfl, h1, q⟩
  · exact op_notIn_sign pins s σ H _ _ v u Q I rx ry ⟨c, z, rfl, rfl, q.pur sr _ rfl⟩
  · obtain ⟨as, r1⟩ := Dp.reads I d x v h1 rx
    rcases h2 with h2 | h2
    · obtain ⟨bs, r2⟩ := Dp.reads I (.list ds) y u h2 ry
      exact SeqAt.notIn_list_reads r2 r1 h4 h3 (room_in hr h5) ⟨.bl _, H, I, rfl, q.pur sr _ rfl⟩
    · obtain ⟨bs, r2⟩ := Dp.reads I (.tuple ds) y u h2 ry
      exact SeqAt.notIn_tuple_reads r2 r1 h4 h3 (room_in hr h5) ⟨.bl _, H, I, rfl, q.pur sr _ rfl⟩
  · cases (show u = Value.ref p from ry)
    exact d_notIn (hu_of hr) I h1 rx fun s' I' => ⟨.bl _, H, I', rfl, q.pur sr _ rfl⟩
  · cases (show u = Value.ref p from ry)
    obtain ⟨t, rfl⟩ := rx
    obtain ⟨hs, vs, kv, dd⟩ := h1 s.heap I.kIn
    refine wpAny_notIn_of (kV_is (k := .inr z) ⟨t, rfl⟩) hs dd.mapOf ?_
    rw [← (kv.val (.inr z)).isSome_eq, lookS, Option.isSome_map]
    exact ⟨.bl _, H, I.tok _, rfl, q.pur sr _ rfl⟩

/-! # all comparisons -/
theorem OpR.imp {f : Value → Value → PySem.Sem Value} {r r' : R2} (h : OpR X f r) (i : ∀ x y H Q, r' x y H Q → r x y H Q) : OpR X f r' := fun pins s σ H x y v u Q I rx ry q => h pins s σ H x y v u Q I rx ry (i x y H Q q)
theorem op_cmpI (hr : Room lv X.A) (o : CmpOp) : OpR X (compareOp o) (rM2 (sg X C Xn) (cmpM lv o)) := by
  cases o with
  | Eq => exact op_eqI hr
  | NotEq => exact op_neI hr
  | In => exact op_inI hr
  | NotIn => exact op_ninI hr
  | Is =>
    intro pins s σ H x y v u Q I rx ry ⟨F, st, a, b, W, sr, ra, rb, h⟩
    unfold cmpM at h
    dsimp only at h
    split at h
    · cases rep_non rb
      refine op_isN pins s σ H _ _ v u Q I rx ry ⟨rfl, ?_⟩
      have h := h.pur sr
      cases a with
      | non => cases rep_non ra; exact h _ rfl
      | bl _ => cases rep_bl ra; exact h _ rfl
      | int _ => cases rep_int ra; exact h _ rfl
      | str _ => cases rep_str ra; exact h _ rfl
      | tup _ => obtain ⟨p, vs, rfl, _⟩ := rep_tup ra; exact h _ rfl
      | obj _ => obtain ⟨p, rfl, _⟩ := rep_obj ra; exact h _ rfl
      | wl _ => obtain ⟨p, vs, rfl, _⟩ := rep_wl ra; exact h _ rfl
      | wd _ => rw [Rep] at ra; obtain ⟨p, rfl, _⟩ := ra; exact h _ rfl
    · exact h.elim
  | IsNot =>
    intro pins s σ H x y v u Q I rx ry ⟨F, st, a, b, W, sr, ra, rb, h⟩
    unfold cmpM at h
    dsimp only at h
    split at h
    · cases rep_non rb
      refine op_notN pins s σ H _ _ v u Q I rx ry ⟨rfl, ?_⟩
      have h := h.pur sr
      cases a with
      | non => cases rep_non ra; exact h _ rfl
      | bl _ => cases rep_bl ra; exact h _ rfl
      | int _ => cases rep_int ra; exact h _ rfl
      | str _ => cases rep_str ra; exact h _ rfl
      | tup _ => obtain ⟨p, vs, rfl, _⟩ := rep_tup ra; exact h _ rfl
      | obj _ => obtain ⟨p, rfl, _⟩ := rep_obj ra; exact h _ rfl
      | wl _ => obtain ⟨p, vs, rfl, _⟩ := rep_wl ra; exact h _ rfl
      | wd _ => rw [Rep] at ra; obtain ⟨p, rfl, _⟩ := ra; exact h _ rfl
    · exact h.elim
  | Lt =>
    intro pins s σ H x y v u Q I rx ry ⟨F, st, a, b, W, sr, ra, rb, h⟩
    unfold cmpM at h
    dsimp only at h
    split at h
    · cases rep_int ra; cases rep_int rb; exact op_lt pins s σ H _ _ v u Q I rx ry ⟨_, _, rfl, rfl, h.pur sr _ rfl⟩
    · cases rep_str ra; cases rep_str rb; exact op_lt_str pins s σ H _ _ v u Q I rx ry ⟨_, _, rfl, rfl, h.pur sr _ rfl⟩
    · exact h.elim
  | LtE =>
    intro pins s σ H x y v u Q I rx ry ⟨F, st, a, b, W, sr, ra, rb, h⟩
    unfold cmpM at h
    dsimp only at h
    split at h
    · cases rep_int ra; cases rep_int rb; exact op_le pins s σ H _ _ v u Q I rx ry ⟨_, _, rfl, rfl, h.pur sr _ rfl⟩
    · cases rep_str ra; cases rep_str rb; exact op_le_str pins s σ H _ _ v u Q I rx ry ⟨_, _, rfl, rfl, h.pur sr _ rfl⟩
    · exact h.elim
  | Gt =>
    intro pins s σ H x y v u Q I rx ry ⟨F, st, a, b, W, sr, ra, rb, h⟩
    unfold cmpM at h
    dsimp only at h
    split at h
    · cases rep_int ra; cases rep_int rb; exact op_gt pins s σ H _ _ v u Q I rx ry ⟨_, _, rfl, rfl, h.pur sr _ rfl⟩
    · cases rep_str ra; cases rep_str rb; exact op_gt_str pins s σ H _ _ v u Q I rx ry ⟨_, _, rfl, rfl, h.pur sr _ rfl⟩
    · exact h.elim
  | GtE =>
    intro pins s σ H x y v u Q I rx ry ⟨F, st, a, b, W, sr, ra, rb, h⟩
    unfold cmpM at h
    dsimp only at h
    split at h
    · cases rep_int ra; cases rep_int rb; exact op_ge pins s σ H _ _ v u Q I rx ry ⟨_, _, rfl, rfl, h.pur sr _ rfl⟩
    · cases rep_str ra; cases rep_str rb; exact op_ge_str pins s σ H _ _ v u Q I rx ry ⟨_, _, rfl, rfl, h.pur sr _ rfl⟩
    · exact h.elim
end
end PI

open PySem PySem.Spec PyProof.Rows L2
namespace PI
section
variable {G : Sig} {F : List Addr} {H : Hp} {st : Store} {α : Type} {W : Nat → List Addr → Hp → Store → Prop}
theorem atI_rep {ds : List D} {vs : List V} {i : Int} {d : D} (r : RepL G F H ds vs) (h : atI ds i = some d) : ∃ v, atI vs i = some v ∧ Rep G F H d v := by
  unfold atI at h ⊢
  rw [r.length]
  obtain ⟨j, h1, h2⟩ := Option.bind_eq_some_iff.mp h
  obtain ⟨v, h3, h4⟩ := r.get h2
  exact ⟨v, by rw [h1]; exact h3, h4⟩
theorem RepL.cut {ds : List D} {vs : List V} (r : RepL G F H ds vs) (lo hi : Option Int) : RepL G F H (cutD ds lo hi) (cutV vs lo hi) := by
  unfold cutD cutV
  rw [r.length]
  exact (r.drop _).take _
theorem rep_wd {kvs : List (Str × Str)} {v : V} (h : Rep G F H (.wd kvs) v) : ∃ a, v = .ref a ∧ WrD G.P G.w G.K a kvs := by rw [Rep] at h; exact h
theorem repL_ints : ∀ {ds : List D} {ns : List Int} {vs : List V}, intsD ds = some ns → RepL G F H ds vs → vs = ns.map V.int
  | [], ns, vs, e, r => by cases e; rw [RepL] at r; exact r
  | d :: ds, ns, vs, e, r => by
    rw [RepL] at r
    obtain ⟨v, w, rfl, h1, h2⟩ := r
    cases d with
    | int i =>
      rw [intsD] at e
      obtain ⟨ms, e1, rfl⟩ := Option.map_eq_some_iff.mp e
      cases rep_int h1
      rw [repL_ints e1 h2]
      rfl
    | _ => cases e
theorem repL_bls : ∀ {ds : List D} {ns : List Bool} {vs : List V}, blsD ds = some ns → RepL G F H ds vs → vs = ns.map V.bl
  | [], ns, vs, e, r => by cases e; rw [RepL] at r; exact r
  | d :: ds, ns, vs, e, r => by
    rw [RepL] at r
    obtain ⟨v, w, rfl, h1, h2⟩ := r
    cases d with
    | bl i =>
      rw [blsD] at e
      obtain ⟨ms, e1, rfl⟩ := Option.map_eq_some_iff.mp e
      cases rep_bl h1
      rw [repL_bls e1 h2]
      rfl
    | _ => cases e
theorem repL_strs : ∀ {ds : List D} {ns : List Str} {vs : List V}, strsD ds = some ns → RepL G F H ds vs → vs = ns.map V.str
  | [], ns, vs, e, r => by cases e; rw [RepL] at r; exact r
  | d :: ds, ns, vs, e, r => by
    rw [RepL] at r
    obtain ⟨v, w, rfl, h1, h2⟩ := r
    cases d with
    | str i =>
      rw [strsD] at e
      obtain ⟨ms, e1, rfl⟩ := Option.map_eq_some_iff.mp e
      cases rep_str h1
      rw [repL_strs e1 h2]
      rfl
    | _ => cases e
theorem repL_of_ints : ∀ (ns : List Int), RepL G F H (ns.map D.int) (ns.map V.int)
  | [] => RepL.nil
  | n :: r => RepL.cons (by rw [Rep]) (repL_of_ints r)
theorem repL_of_strs : ∀ (ns : List Str), RepL G F H (ns.map D.str) (ns.map V.str)
  | [] => RepL.nil
  | n :: r => RepL.cons (by rw [Rep]) (repL_of_strs r)
end

section
variable {X : Cx} {C Xn : Nat → Addr} {lv : Nat}
/-! # a[i] -/
theorem IxR.impI {r r' : R2} (h : IxR X r) (i : ∀ x y H Q, r' x y H Q → r x y H Q) : IxR X r' := fun value slice pins s σ H x y v u Q I rx ry q hs => h value slice pins s σ H x y v u Q I rx ry (i x y H Q q) hs
theorem ix_dict (hr : Room lv X.A) : IxR X (fun x y H Q => ∃ a v, x = .ref a ∧ DGet H a y (some v) ∧ Q v H) := by
  intro value slice pins s σ H x y v u Q I rx ry h hs
  obtain ⟨a, z, rfl, g, q⟩ := h
  cases (show v = Value.ref a from rx)
  exact tail_any (dict_typeIs I g) PySem.F.slot_dict_getitem.lookup (d_getItem (hu_of hr) I g ry fun w' s' I' rw' => ⟨z, H, I', rw', q⟩) hs
theorem ix_wd (hr : Room lv X.A) : IxR X (fun x y H Q => ∃ a kvs z w, x = .ref a ∧ y = .str z ∧ WrD X.prog X.w X.K a kvs ∧ kvs.lookup z = some w ∧ Q (.str w) H) := by
  intro value slice pins s σ H x y v u Q I rx ry h hs
  obtain ⟨a, kvs, z, w, rfl, rfl, hw, e, q⟩ := h
  cases (show v = Value.ref a from rx)
  obtain ⟨t, rfl⟩ := ry
  obtain ⟨hs', vs, kv, dd⟩ := hw s.heap I.kIn
  obtain ⟨w', hw', rw'⟩ := RelO.some_of (v := V.str w) (o := valueAt vs (.inr z)) (by
    have := kv.val (.inr z)
    rw [lookS, e] at this
    exact this)
  exact tail_any dd.typeIs PySem.F.slot_dict_getitem.lookup (wpAny_getItem_of (kV_is (k := .inr z) ⟨t, rfl⟩) dd.mapOf hw' ⟨.str w, H, I.tok _, rw', q⟩) hs
theorem ix_I (hr : Room lv X.A) : IxR X (rM2 (sg X C Xn) idxM) := by
  intro value slice pins s σ H x y v u Q I rx ry ⟨F, st, a, b, W, sr, ra, rb, h⟩ hs
  unfold idxM at h
  split at h
  · obtain ⟨p, vs, rfl, t, r⟩ := rep_tup ra
    split at h
    · cases rep_int rb
      obtain ⟨d, e, h⟩ := WP.opte sr h
      obtain ⟨w, e2, rw'⟩ := atI_rep r e
      exact ix_tup value slice pins s σ H _ _ v u Q I rx ry ⟨p, vs, _, w, rfl, rfl, t, e2, h w rw'⟩ hs
    · exact h.elim
  · obtain ⟨p, vs, rfl, t, r⟩ := rep_wl ra
    split at h
    · cases rep_int rb
      obtain ⟨d, e, h⟩ := WP.opte sr h
      obtain ⟨w, e2, rw'⟩ := atI_rep r e
      exact ix_list value slice pins s σ H _ _ v u Q I rx ry ⟨p, vs, _, w, rfl, rfl, t.seq, e2, h w rw'⟩ hs
    · exact h.elim
  · cases rep_str ra
    split at h
    · cases rep_int rb
      obtain ⟨hz, h⟩ := h.grdb sr
      obtain ⟨c, e, h⟩ := WP.optb sr h
      exact ix_str value slice pins s σ H _ _ v u Q I rx ry ⟨_, _, c, rfl, rfl, by rw [← SZ_eq]; exact hz, e, h.pur sr _ rfl⟩ hs
    · exact h.elim
  · obtain ⟨p, rfl, hw⟩ := rep_wd ra
    split at h
    · cases rep_str rb
      obtain ⟨d, e, h⟩ := WP.opte sr h
      obtain ⟨w, e2, rfl⟩ := Option.map_eq_some_iff.mp e
      exact ix_wd hr value slice pins s σ H _ _ v u Q I rx ry ⟨p, _, _, w, rfl, rfl, hw, e2, h _ rfl⟩ hs
    · exact h.elim
  · obtain ⟨p, rfl, f⟩ := rep_obj ra
    obtain ⟨p', c, f2, g, k, h⟩ := WP.cell sr h
    rw [f] at f2; cases f2
    cases c with
    | lst ds =>
      obtain ⟨vs, k1, r⟩ := k
      dsimp only at h
      split at h
      · cases rep_int rb
        obtain ⟨d, e, h⟩ := WP.opte sr h
        obtain ⟨w, e2, rw'⟩ := atI_rep r e
        exact ix_list value slice pins s σ H _ _ v u Q I rx ry ⟨p, vs, _, w, rfl, rfl, .inl (.inl k1), e2, h w rw'⟩ hs
      · exact h.elim
    | dic lk kvs =>
      obtain ⟨q, h⟩ := h.grdb sr
      obtain ⟨d, e, h⟩ := WP.opte sr h
      rcases dget_of k q rb with ⟨h1, _⟩ | ⟨d', w, h1, h2, h3⟩
      · rw [h1] at e; cases e
      · rw [h1] at e; cases e
        exact ix_dict hr value slice pins s σ H _ _ v u Q I rx ry ⟨p, w, rfl, h2, h w h3⟩ hs
    | _ => exact h.elim
  · exact h.elim
/-! # a[i:j] -/
def rSI (G : Sig) : V → Option Int → Option Int → Hp → VK → Prop := fun x lo hi H Q => ∃ F st a W, SR G F H st ∧ Rep G F H a x ∧ WP G W (slcM a lo hi) (fun d F' H' _ => ∀ v, Rep G F' H' d v → Q v H') F H st
theorem cut_whole {ds : List D} {lo hi : Option Int} (h : HT.sIx ds.length 0 lo = 0 ∧ HT.sIx ds.length ds.length hi = ds.length) : cutD ds lo hi = ds := by
  unfold cutD
  rw [h.1, h.2]
  simp
theorem sl_I : SlR X (rSI (sg X C Xn)) := by
  intro pins s σ H x v vl vu lo hi sl Q I rx hs pl pu ⟨F, st, a, W, sr, ra, h⟩
  unfold slcM at h
  split at h
  · obtain ⟨p, vs, rfl, t, r⟩ := rep_tup ra
    refine sl_tupA pins s σ H _ v vl vu lo hi sl Q I rx hs pl pu ⟨p, vs, rfl, t, fun hw => ?_, fun _ q hq => tupQ sr h (r.cut lo hi) hq⟩
    rw [r.length] at hw
    rw [cut_whole hw] at h
    exact h.pur sr _ (rep_tup' t r)
  · obtain ⟨p, vs, rfl, t, r⟩ := rep_wl ra
    exact sl_list pins s σ H _ v vl vu lo hi sl Q I rx hs pl pu ⟨p, vs, rfl, t.seq, fun q hq => WP.allocL sr h (r.cut lo hi) hq⟩
  · cases rep_str ra
    obtain ⟨hz, h⟩ := h.grdb sr
    exact sl_str pins s σ H _ v vl vu lo hi sl Q I rx hs pl pu ⟨_, rfl, by rw [← SZ_eq]; exact hz, h.pur sr _ rfl⟩
  · obtain ⟨p, rfl, f⟩ := rep_obj ra
    obtain ⟨p', c, f2, g, k, h⟩ := WP.cell sr h
    rw [f] at f2; cases f2
    cases c with
    | lst ds =>
      obtain ⟨vs, k1, r⟩ := k
      exact sl_list pins s σ H _ v vl vu lo hi sl Q I rx hs pl pu ⟨p, vs, rfl, .inl (.inl k1), fun q hq => WP.allocL sr h (r.cut lo hi) hq⟩
    | _ => exact h.elim
  · exact h.elim
/-! # truth, minus -/
def rTI (G : Sig) : V → Hp → (Bool → Hp → Prop) → Prop := fun x H Q => ∃ F st a W, SR G F H st ∧ Rep G F H a x ∧ WP G W (truM a) (fun b _ H' _ => Q b H') F H st
theorem isEmptyL {G : Sig} {F : List Addr} {H : Hp} {ds : List D} {vs : List V} (r : RepL G F H ds vs) : vs.isEmpty = ds.isEmpty := by
  have := r.length
  cases ds <;> cases vs <;> simp_all
theorem tru_I {x : V} {H : Hp} {Q : Bool → Hp → Prop} (h : rTI (sg X C Xn) x H Q) : ∃ k, TruV X.K x H k ∧ Q k H := by
  obtain ⟨F, st, a, W, sr, ra, h⟩ := h
  unfold truM at h
  split at h
  · cases rep_non ra; exact ⟨false, rfl, h.pur sr⟩
  · cases rep_bl ra; exact ⟨_, rfl, h.pur sr⟩
  · cases rep_int ra; exact ⟨_, rfl, h.pur sr⟩
  · cases rep_str ra
    obtain ⟨hz, h⟩ := h.grdb sr
    exact ⟨_, ⟨by rw [← SZ_eq]; exact hz, rfl⟩, h.pur sr⟩
  · obtain ⟨p, vs, rfl, t, r⟩ := rep_tup ra
    exact ⟨_, .inr (.inl ⟨vs, t, by rw [isEmptyL r]⟩), h.pur sr⟩
  · obtain ⟨p, vs, rfl, t, r⟩ := rep_wl ra
    exact ⟨_, .inl ⟨vs, t.seq, by rw [isEmptyL r]⟩, h.pur sr⟩
  · obtain ⟨p, rfl, f⟩ := rep_obj ra
    obtain ⟨p', c, f2, g, k, h⟩ := WP.cell sr h
    rw [f] at f2; cases f2
    cases c with
    | lst ds =>
      obtain ⟨vs, k1, r⟩ := k
      exact ⟨_, .inl ⟨vs, .inl (.inl k1), by rw [isEmptyL r]⟩, h.pur sr⟩
    | _ => exact h.elim
  · exact h.elim
def rM1 (G : Sig) (op : D → M D) : V → Hp → VK → Prop := fun x H Q => ∃ F st a W, SR G F H st ∧ Rep G F H a x ∧ WP G W (op a) (fun d F' H' _ => ∀ v, Rep G F' H' d v → Q v H') F H st
theorem un_negI : UnR X (unaryOp .USub) (rM1 (sg X C Xn) negM) := by
  intro pins s σ H x v Q I rx ⟨F, st, a, W, sr, ra, h⟩
  unfold negM at h
  split at h
  · cases rep_int ra
    exact un_neg pins s σ H _ v Q I rx ⟨_, rfl, h.pur sr _ rfl⟩
  · exact h.elim

/-! # built-ins by values -/
def rML (G : Sig) (op : List D → M D) : List V → Hp → VK → Prop := fun xs H Q => ∃ F st ds W, SR G F H st ∧ RepL G F H ds xs ∧ WP G W (op ds) (fun d F' H' _ => ∀ v, Rep G F' H' d v → Q v H') F H st
theorem repL1 {G : Sig} {F : List Addr} {H : Hp} {a : D} {vs : List V} (r : RepL G F H [a] vs) : ∃ v, vs = [v] ∧ Rep G F H a v := by
  rw [RepL] at r
  obtain ⟨v, w, rfl, h1, h2⟩ := r
  rw [RepL] at h2
  subst h2
  exact ⟨v, rfl, h1⟩
theorem repL2 {G : Sig} {F : List Addr} {H : Hp} {a b : D} {vs : List V} (r : RepL G F H [a, b] vs) : ∃ v w, vs = [v, w] ∧ Rep G F H a v ∧ Rep G F H b w := by
  rw [RepL] at r
  obtain ⟨v, w, rfl, h1, h2⟩ := r
  obtain ⟨w', rfl, h3⟩ := repL1 h2
  exact ⟨v, w', rfl, h1, h3⟩
theorem CallR.impI {f : Value} {r r' : List V → Hp → VK → Prop} (h : CallR X f r) (i : ∀ x H Q, r' x H Q → r x H Q) : CallR X f r' := fun pins s σ H xs us Q I rx q => h pins s σ H xs us Q I rx (i xs H Q q)
theorem on1_out {G : Sig} {W : Nat → List Addr → Hp → Store → Prop} {F : List Addr} {H : Hp} {st : Store} {f : D → M D} {ds : List D} {R : D → List Addr → Hp → Store → Prop} {xs : List V} (h : WP G W (on1 f ds) R F H st) (r : RepL G F H ds xs) :
    ∃ a x, xs = [x] ∧ Rep G F H a x ∧ WP G W (f a) R F H st := by
  unfold on1 at h
  split at h
  · obtain ⟨x, rfl, ra⟩ := repL1 r
    exact ⟨_, x, rfl, ra, h⟩
  · exact h.elim
theorem on2_out {G : Sig} {W : Nat → List Addr → Hp → Store → Prop} {F : List Addr} {H : Hp} {st : Store} {f : D → D → M D} {ds : List D} {R : D → List Addr → Hp → Store → Prop} {xs : List V} (h : WP G W (on2 f ds) R F H st) (r : RepL G F H ds xs) :
    ∃ a b x y, xs = [x, y] ∧ Rep G F H a x ∧ Rep G F H b y ∧ WP G W (f a b) R F H st := by
  unfold on2 at h
  split at h
  · obtain ⟨x, y, rfl, ra, rb⟩ := repL2 r
    exact ⟨_, _, x, y, rfl, ra, rb, h⟩
  · exact h.elim
theorem call_lenI : CallR X (.builtin "len") (rML (sg X C Xn) (on1 lenM)) := by
  intro pins s σ H xs us Q I r ⟨F, st, ds, W, sr, rl, h⟩
  obtain ⟨a, x, rfl, ra, h⟩ := on1_out h rl
  unfold lenM at h
  split at h
  · cases rep_str ra
    obtain ⟨hz, h⟩ := h.grdb sr
    exact L2.call_len pins s σ H _ us Q I r ⟨_, _, rfl, ⟨by rw [← SZ_eq]; exact hz, rfl⟩, h.pur sr _ rfl⟩
  · obtain ⟨p, vs, rfl, t, r2⟩ := rep_tup ra
    exact L2.call_len pins s σ H _ us Q I r ⟨_, _, rfl, .inr ⟨vs, t, r2.length.symm⟩, h.pur sr _ rfl⟩
  · obtain ⟨p, vs, rfl, t, r2⟩ := rep_wl ra
    exact L2.call_len pins s σ H _ us Q I r ⟨_, _, rfl, .inl ⟨vs, t.seq, r2.length.symm⟩, h.pur sr _ rfl⟩
  · obtain ⟨p, rfl, f⟩ := rep_obj ra
    obtain ⟨p', c, f2, g, k, h⟩ := WP.cell sr h
    rw [f] at f2; cases f2
    cases c with
    | lst ds =>
      obtain ⟨vs, k1, r2⟩ := k
      exact L2.call_len pins s σ H _ us Q I r ⟨_, _, rfl, .inl ⟨vs, .inl (.inl k1), r2.length.symm⟩, h.pur sr _ rfl⟩
    | dic lk kvs =>
      obtain ⟨u, hu, ws, rfl, rk⟩ := DicOk.rd k
      obtain ⟨w, rfl, rw'⟩ := vals1 r
      cases (show w = Value.ref p from rw')
      exact d_len I hu fun t s' I' => ⟨.int kvs.length, H, I', ⟨t, by rw [Paired.length rk]⟩, h.pur sr _ rfl⟩
    | _ => exact h.elim
  · exact h.elim
theorem call_intI : CallR X (.type "int") (rML (sg X C Xn) (on1 intM)) := by
  intro pins s σ H xs us Q I r ⟨F, st, ds, W, sr, rl, h⟩
  obtain ⟨a, x, rfl, ra, h⟩ := on1_out h rl
  unfold intM at h
  split at h
  · cases rep_int ra
    exact call_int1 pins s σ H _ us Q I r (.inl ⟨_, rfl, h.pur sr _ rfl⟩)
  · cases rep_bl ra
    exact call_int1 pins s σ H _ us Q I r (.inr ⟨_, rfl, h.pur sr _ rfl⟩)
  · cases rep_str ra
    obtain ⟨hz, h⟩ := h.grdb sr
    obtain ⟨n, e, h⟩ := WP.optb sr h
    exact call_int_str pins s σ H _ us Q I r ⟨_, n, rfl, e, hz, h.pur sr _ rfl⟩
  · exact h.elim
theorem call_strI : CallR X (.type "str") (rML (sg X C Xn) (on1 strM)) := by
  intro pins s σ H xs us Q I r ⟨F, st, ds, W, sr, rl, h⟩
  obtain ⟨a, x, rfl, ra, h⟩ := on1_out h rl
  unfold strM at h
  split at h
  · cases rep_int ra
    obtain ⟨hz, h⟩ := h.grdb sr
    exact call_str_int pins s σ H _ us Q I r ⟨_, rfl, hz, h.pur sr _ rfl⟩
  · exact h.elim
theorem call_absI : CallR X (.builtin "abs") (rML (sg X C Xn) (on1 absM)) := by
  intro pins s σ H xs us Q I r ⟨F, st, ds, W, sr, rl, h⟩
  obtain ⟨a, x, rfl, ra, h⟩ := on1_out h rl
  unfold absM at h
  split at h
  · cases rep_int ra
    exact call_abs pins s σ H _ us Q I r ⟨_, rfl, h.pur sr _ rfl⟩
  · exact h.elim
theorem call_minI (hc : X.calm = true) : CallR X (.builtin "min") (rML (sg X C Xn) (on2 minM)) := by
  intro pins s σ H xs us Q I r ⟨F, st, ds, W, sr, rl, h⟩
  obtain ⟨a, b, x, y, rfl, ra, rb, h⟩ := on2_out h rl
  unfold minM at h
  split at h
  · cases rep_int ra; cases rep_int rb
    exact call_min2 hc pins s σ H _ us Q I r ⟨_, _, rfl, h.pur sr _ rfl⟩
  · exact h.elim
theorem call_maxI (hc : X.calm = true) : CallR X (.builtin "max") (rML (sg X C Xn) (on2 maxM)) := by
  intro pins s σ H xs us Q I r ⟨F, st, ds, W, sr, rl, h⟩
  obtain ⟨a, b, x, y, rfl, ra, rb, h⟩ := on2_out h rl
  unfold maxM at h
  split at h
  · cases rep_int ra; cases rep_int rb
    exact call_max2 hc pins s σ H _ us Q I r ⟨_, _, rfl, h.pur sr _ rfl⟩
  · exact h.elim
end
end PI

open PySem PySem.Spec PyProof.Rows L2
namespace PI

/-! # texts in order -/
theorem lexS_irrefl (x : Str) : lexS x x = false := by
  unfold lexS
  exact decide_eq_false (List.lt_irrefl _)
theorem lexS_trans {x y z : Str} (h : lexS x y = true) (k : lexS y z = true) : lexS x z = true := by
  unfold lexS at *
  exact decide_eq_true (List.lt_trans (of_decide_eq_true h) (of_decide_eq_true k))
theorem lexS_tri {x y : Str} (h : lexS x y = false) (k : lexS y x = false) : x = y := by
  unfold lexS at *
  have h1 : ¬ x.cps.toList < y.cps.toList := of_decide_eq_false h
  have h2 : ¬ y.cps.toList < x.cps.toList := of_decide_eq_false k
  have e : x.cps.toList = y.cps.toList := List.le_antisymm (List.not_lt.mp h2) (List.not_lt.mp h1)
  cases x; cases y
  simp only [Str.mk.injEq]
  exact Array.toList_inj.mp e
theorem lexS_le_trans {x y z : Str} (h : lexS y x = false) (k : lexS z y = false) : lexS z x = false := by
  cases q : lexS z x with
  | false => rfl
  | true =>
    cases q2 : lexS y z with
    | true => rw [lexS_trans q2 q] at h; cases h
    | false =>
      have e := lexS_tri k q2
      subst e
      rw [q] at h; cases h
theorem sortedS_pw : ∀ {ys : List Str}, sortedS ys = true → ys.Pairwise fun a b => (!lexS b a) = true
  | [], _ => .nil
  | x :: r, h => by
    have go : ∀ (x : Str) (r : List Str), risingS x r = true → (x :: r).Pairwise fun a b => (!lexS b a) = true := by
      intro x r
      induction r generalizing x with
      | nil => intro _; simp
      | cons y r ih =>
        intro h
        unfold risingS at h
        rw [Bool.and_eq_true, ltCps_eq] at h
        have h1 : lexS y x = false := by
          unfold lexS
          simpa using h.1
        have h2 := ih y h.2
        refine List.pairwise_cons.mpr ⟨fun z hz => ?_, h2⟩
        rcases List.mem_cons.mp hz with e | hz
        · rw [e, h1]; rfl
        · have h3 := (List.pairwise_cons.mp h2).1 z hz
          rw [lexS_le_trans (y := y) h1 (by simpa using h3)]; rfl
    exact go x r h
theorem sortS_uniq {ys xs : List Str} (hp : ys.Perm xs) (hs : ys.Pairwise fun a b => (!lexS b a) = true) : ys = xs.mergeSort fun a b => !lexS b a := by
  refine List.Perm.eq_of_pairwise (le := fun a b => (!lexS b a) = true) (fun a b _ _ h1 h2 => ?_) hs ?_ (hp.trans (List.mergeSort_perm _ _).symm)
  · exact lexS_tri (by simpa using h2) (by simpa using h1)
  · have := List.pairwise_mergeSort (le := fun a b => !lexS b a) (fun a b c h1 h2 => by
      rw [Bool.not_eq_true'] at *
      exact lexS_le_trans h1 h2) (fun a b => by
      rw [Bool.or_eq_true, Bool.not_eq_true', Bool.not_eq_true']
      cases q : lexS b a with
      | false => exact .inl rfl
      | true =>
        refine .inr ?_
        cases q2 : lexS a b with
        | false => rfl
        | true => have := lexS_trans q q2; rw [lexS_irrefl] at this; cases this) xs
    exact this
theorem sortI_uniq {ys xs : List Int} (hp : ys.Perm xs) (hs : ys.Pairwise (· ≤ ·)) : ys = xs.mergeSort fun a b => decide (a ≤ b) := by
  refine List.Perm.eq_of_pairwise (le := fun a b => a ≤ b) (fun a b _ _ h1 h2 => Int.le_antisymm h1 h2) hs ?_ (hp.trans (List.mergeSort_perm _ _).symm)
  have := List.pairwise_mergeSort (le := fun (a b : Int) => decide (a ≤ b)) (fun a b c h1 h2 => by simp at *; omega) (fun a b => by simp; omega) xs
  exact this.imp fun h => by simpa using h

/-! # a row used up -/
def RowK (G : Sig) (F : List Addr) (H : Hp) (w : Rk × List D) (v : V) : Prop := match w.1 with
  | .l => ∃ a vs, v = .ref a ∧ SqL G.K H a vs ∧ RepL G F H w.2 vs
  | .t => ∃ a vs, v = .ref a ∧ SqT G.K H a vs ∧ RepL G F H w.2 vs
  | .d => ∃ a ws kvs, v = .ref a ∧ H a = some (.dK ws) ∧ RepKV G F H kvs ws ∧ w.2 = kvs.map (·.1)
def tRk (G : Sig) (W : WX) (m : Rho → M (Rk × List D)) : TE := fun σ H Q => ∃ F ρ st, SR G F H st ∧ RhoR G F H ρ σ ∧ WP G (WV G W σ) (m ρ) (fun w F' H' _ => ∀ v, RowK G F' H' w v → Q v H') F H st
def rSq (G : Sig) (op : Rk × List D → M D) : List V → Hp → VK → Prop := fun xs H Q => ∃ F st w v W, SR G F H st ∧ xs = [v] ∧ RowK G F H w v ∧ WP G W (op w) (fun d F' H' _ => ∀ v, Rep G F' H' d v → Q v H') F H st
section
variable {X : Cx} {C Xn : Nat → Addr} {lv : Nat} {W : WX} {e : Expr}
theorem row_of {G : Sig} {F : List Addr} {H : Hp} {st : Store} {W : Nat → List Addr → Hp → Store → Prop} {d : D} {v : V} {R : Rk × List D → List Addr → Hp → Store → Prop} (s : SR G F H st) (r : Rep G F H d v) (h : WP G W (rowK d) R F H st) :
    ∃ w, RowK G F H w v ∧ R w F H st := by
  unfold rowK at h
  split at h
  · obtain ⟨p, vs, rfl, t, r⟩ := rep_tup r
    exact ⟨(.t, _), ⟨p, vs, rfl, t, r⟩, h.pur s⟩
  · obtain ⟨p, vs, rfl, t, r⟩ := rep_wl r
    exact ⟨(.l, _), ⟨p, vs, rfl, t.seq, r⟩, h.pur s⟩
  · obtain ⟨p, rfl, f⟩ := rep_obj r
    obtain ⟨p', c, f2, g, k, h⟩ := WP.cell s h
    rw [f] at f2; cases f2
    cases c with
    | lst ds =>
      obtain ⟨vs, k1, r2⟩ := k
      exact ⟨(.l, _), ⟨p, vs, rfl, .inl (.inl k1), r2⟩, h.pur s⟩
    | dic lk kvs =>
      cases lk with
      | false =>
        obtain ⟨u, k1, ws, rfl, rk⟩ := k
        exact ⟨(.d, _), ⟨p, ws, kvs, rfl, k1, rk, rfl⟩, h.pur s⟩
      | true => exact h.elim
    | _ => exact h.elim
  · exact h.elim
/-- a value, used up -/
theorem tRk_of {G : Sig} {m : Rho → M D} {σ : L2.St} {H : Hp} {Q : VK} (h : tRk G W (fun ρ => do let d ← m ρ; rowK d) σ H Q) : tV G W m σ H Q := by
  obtain ⟨F, ρ, st, s, r, h⟩ := h
  exact seqV s r h fun d F1 H1 st1 v e1 s1 r1 rd h1 => by
    obtain ⟨w, h2, h3⟩ := row_of s1 rd h1
    exact h3 v h2
theorem seqK {α : Type} {G : Sig} {F : List Addr} {H : Hp} {st : Store} {ρ : Rho} {σ : L2.St} {m : Rho → M (Rk × List D)} {k : Rk × List D → M α} {R : α → List Addr → Hp → Store → Prop} {Q : VK} (s : SR G F H st) (r : RhoR G F H ρ σ) (h : WP G (WV G W σ) (m ρ >>= k) R F H st)
    (f : ∀ a F1 H1 st1 v, Ext G F H F1 H1 → SR G F1 H1 st1 → RhoR G F1 H1 ρ σ → RowK G F1 H1 a v → WP G (WV G W σ) (k a) R F1 H1 st1 → Q v H1) : tRk G W m σ H Q :=
  ⟨F, ρ, st, s, r, h.bind.imp fun a F1 H1 st1 e s1 q v rv => f a F1 H1 st1 v e s1 (r.mono e) rv q⟩

theorem call_tupleI : CallR X (.type "tuple") (rSq (sg X C Xn) (seqM .tuple)) := by
  intro pins s σ H xs us Q I r h0
  obtain ⟨F, st, w, v, W, sr, rfl, rk, h⟩ := h0
  unfold seqM at h
  dsimp only at h
  obtain ⟨hk, h⟩ := h.grdb sr
  obtain ⟨k, ds⟩ := w
  cases k with
  | l =>
    obtain ⟨a, vs, rfl, t, rl⟩ := rk
    exact call_tuple_of pins s σ H _ us Q I r ⟨a, vs, rfl, .inl ⟨t, fun p hp => tupQ sr h rl hp⟩⟩
  | t =>
    obtain ⟨a, vs, rfl, t, rl⟩ := rk
    exact call_tuple_of pins s σ H _ us Q I r ⟨a, vs, rfl, .inr ⟨t, h.pur sr _ (rep_tup' t rl)⟩⟩
  | d => exact absurd rfl hk
theorem keys_rep {G : Sig} {F : List Addr} {H : Hp} : ∀ {kvs : List (D × D)} {ws : List (Key × V)}, RepKV G F H kvs ws → RepL G F H (kvs.map (·.1)) (ws.map fun kv => kV kv.1)
  | _, _, .nil => RepL.nil
  | (kd, d) :: kvs, (k, v) :: ws, .cons r t => by
    refine RepL.cons ?_ (keys_rep t)
    have e : kd = keyD k := r.1
    rw [e]
    cases k <;> rfl
theorem call_listI (hc : X.calm = true) : CallR X (.type "list") (rSq (sg X C Xn) (seqM .list)) := by
  intro pins s σ H xs us Q I r h0
  obtain ⟨F, st, w, v, W, sr, rfl, rk, h⟩ := h0
  unfold seqM at h
  dsimp only at h
  obtain ⟨k, ds⟩ := w
  cases k with
  | l =>
    obtain ⟨a, vs, rfl, t, rl⟩ := rk
    exact call_list_of pins s σ H _ us Q I r ⟨a, vs, rfl, .inl t, fun p hp => WP.allocL sr h rl hp⟩
  | t =>
    obtain ⟨a, vs, rfl, t, rl⟩ := rk
    exact call_list_of pins s σ H _ us Q I r ⟨a, vs, rfl, .inr t, fun p hp => WP.allocL sr h rl hp⟩
  | d =>
    obtain ⟨a, ws, kvs, rfl, t, rl, e⟩ := rk
    dsimp only at e
    subst e
    exact call_list_dK hc pins s σ H _ us Q I r ⟨a, ws, rfl, t, fun p hp => WP.allocL sr h (keys_rep rl) hp⟩
theorem rowL {G : Sig} {F : List Addr} {H : Hp} {w : Rk × List D} {v : V} (rk : RowK G F H w v) (h : w.1 = .l) : ∃ a vs, v = .ref a ∧ SqL G.K H a vs ∧ RepL G F H w.2 vs := by
  obtain ⟨k, ds⟩ := w
  cases (show k = .l from h)
  exact rk
theorem call_sumI (hc : X.calm = true) : CallR X (.builtin "sum") (rSq (sg X C Xn) (seqM .sum)) := by
  intro pins s σ H xs us Q I r h0
  obtain ⟨F, st, w, v, W, sr, rfl, rk, h⟩ := h0
  unfold seqM at h
  dsimp only at h
  obtain ⟨hk, h⟩ := h.grdb sr
  obtain ⟨ns, e, h⟩ := WP.optb sr h
  obtain ⟨a, vs, rfl, t, rl⟩ := rowL rk hk
  rw [repL_ints e rl] at t
  exact cr_sum hc pins s σ H _ us Q I r ⟨a, ns, rfl, t, h.pur sr _ rfl⟩
theorem call_anyI (hc : X.calm = true) : CallR X (.builtin "any") (rSq (sg X C Xn) (seqM .any)) := by
  intro pins s σ H xs us Q I r h0
  obtain ⟨F, st, w, v, W, sr, rfl, rk, h⟩ := h0
  unfold seqM at h
  dsimp only at h
  obtain ⟨hk, h⟩ := h.grdb sr
  obtain ⟨ns, e, h⟩ := WP.optb sr h
  obtain ⟨a, vs, rfl, t, rl⟩ := rowL rk hk
  rw [repL_bls e rl] at t
  exact cr_any hc pins s σ H _ us Q I r ⟨a, ns, rfl, t, h.pur sr _ rfl⟩
theorem call_allI (hc : X.calm = true) : CallR X (.builtin "all") (rSq (sg X C Xn) (seqM .all)) := by
  intro pins s σ H xs us Q I r h0
  obtain ⟨F, st, w, v, W, sr, rfl, rk, h⟩ := h0
  unfold seqM at h
  dsimp only at h
  obtain ⟨hk, h⟩ := h.grdb sr
  obtain ⟨ns, e, h⟩ := WP.optb sr h
  obtain ⟨a, vs, rfl, t, rl⟩ := rowL rk hk
  rw [repL_bls e rl] at t
  exact cr_all hc pins s σ H _ us Q I r ⟨a, ns, rfl, t, h.pur sr _ rfl⟩
theorem strsD_len : ∀ {ds : List D} {xs : List Str}, strsD ds = some xs → xs.length = ds.length
  | [], xs, e => by cases e; rfl
  | d :: ds, xs, e => by
    cases d with
    | str i =>
      rw [strsD] at e
      obtain ⟨ms, e1, rfl⟩ := Option.map_eq_some_iff.mp e
      simp [strsD_len e1]
    | _ => cases e
theorem intsD_len : ∀ {ds : List D} {xs : List Int}, intsD ds = some xs → xs.length = ds.length
  | [], xs, e => by cases e; rfl
  | d :: ds, xs, e => by
    cases d with
    | int i =>
      rw [intsD] at e
      obtain ⟨ms, e1, rfl⟩ := Option.map_eq_some_iff.mp e
      simp [intsD_len e1]
    | _ => cases e
/-! # tuples of ints and texts, sorted -/
theorem str_eq {x y : Str} (h : x.cps.toList = y.cps.toList) : x = y := by
  cases x; cases y
  simp only [PySem.Str.mk.injEq]
  exact Array.toList_inj.mp h
theorem tkey_inj : ∀ {a b : List D} {k : List (Int ⊕ List Nat)}, tkey a = some k → tkey b = some k → a = b
  | [], [], _, _, _ => rfl
  | [], d :: b, k, h1, h2 => by
    cases h1
    cases d <;> simp [tkey] at h2
  | d :: a, [], k, h1, h2 => by
    cases h2
    cases d <;> simp [tkey] at h1
  | d :: a, e :: b, k, h1, h2 => by
    cases d with
    | int i =>
      obtain ⟨ka, e1, rfl⟩ := Option.map_eq_some_iff.mp h1
      cases e with
      | int j =>
        obtain ⟨kb, e2, e3⟩ := Option.map_eq_some_iff.mp h2
        cases e3
        rw [tkey_inj e1 e2]
      | str y =>
        obtain ⟨kb, e2, e3⟩ := Option.map_eq_some_iff.mp h2
        cases e3
      | _ => cases h2
    | str x =>
      obtain ⟨ka, e1, rfl⟩ := Option.map_eq_some_iff.mp h1
      cases e with
      | int j =>
        obtain ⟨kb, e2, e3⟩ := Option.map_eq_some_iff.mp h2
        cases e3
      | str y =>
        obtain ⟨kb, e2, e3⟩ := Option.map_eq_some_iff.mp h2
        injection e3 with e4 e5
        injection e4 with e4
        subst e5
        rw [tkey_inj e1 e2, str_eq e4]
      | _ => cases h2
    | _ => cases h1
theorem tlt_asymm {a b : List D} (h : tlt a b = true) : tlt b a = false := by
  unfold tlt at *
  cases q : lexLt itemOrd ((tkey b).getD []) ((tkey a).getD []) with
  | false => rfl
  | true =>
    have := (PyProof.Rows.listOrd itemOrd).trans _ _ _ h q
    have z := (PyProof.Rows.listOrd itemOrd).irrefl ((tkey a).getD [])
    rw [this] at z; cases z
theorem tlt_negTrans {a b c : List D} (h1 : tlt b a = false) (h2 : tlt c b = false) : tlt c a = false := by
  cases q : tlt c a with
  | false => rfl
  | true =>
    unfold tlt at *
    rcases (PyProof.Rows.listOrd itemOrd).negTrans _ ((tkey b).getD []) _ q with z | z
    · rw [show (PyProof.Rows.listOrd itemOrd).blt ((tkey c).getD []) ((tkey b).getD []) = lexLt itemOrd ((tkey c).getD []) ((tkey b).getD []) from rfl, h2] at z; cases z
    · rw [show (PyProof.Rows.listOrd itemOrd).blt ((tkey b).getD []) ((tkey a).getD []) = lexLt itemOrd ((tkey b).getD []) ((tkey a).getD []) from rfl, h1] at z; cases z
theorem sortT_uniq {ys xs : List (List D)} (hk : ∀ t ∈ xs, (tkey t).isSome = true) (hp : ys.Perm xs) (hs : ys.Pairwise fun a b => (!tlt b a) = true) : ys = xs.mergeSort fun a b => !tlt b a := by
  refine List.Perm.eq_of_pairwise (le := fun a b => (!tlt b a) = true) (fun a b ha hb h1 h2 => ?_) hs ?_ (hp.trans (List.mergeSort_perm _ _).symm)
  · obtain ⟨ka, ea⟩ := Option.isSome_iff_exists.mp (hk a (hp.mem_iff.mp ha))
    obtain ⟨kb, eb⟩ := Option.isSome_iff_exists.mp (hk b ((List.mergeSort_perm _ _).mem_iff.mp hb))
    have e : ka = kb := by
      have z1 : lexLt itemOrd kb ka = false := by have : tlt b a = false := by simpa using h1
                                                  unfold tlt at this; rw [ea, eb] at this; exact this
      have z2 : lexLt itemOrd ka kb = false := by have : tlt a b = false := by simpa using h2
                                                  unfold tlt at this; rw [ea, eb] at this; exact this
      exact (PyProof.Rows.listOrd itemOrd).total _ _ z2 z1
    subst e
    exact tkey_inj ea eb
  · have := List.pairwise_mergeSort (le := fun a b => !tlt b a) (fun a b c h1 h2 => by
      have z1 : tlt b a = false := by simpa using h1
      have z2 : tlt c b = false := by simpa using h2
      simp [tlt_negTrans z1 z2]) (fun a b => by
      cases q : tlt b a with
      | false => simp
      | true => simp [tlt_asymm q]) xs
    exact this
theorem rep_perm {G : Sig} {F : List Addr} {H : Hp} {vs ws : List V} (p : ws.Perm vs) : ∀ {ds : List D}, RepL G F H ds vs → ∃ es, es.Perm ds ∧ RepL G F H es ws := by
  have unc : ∀ {ds : List D} {v : V} {vs : List V}, RepL G F H ds (v :: vs) → ∃ d es, ds = d :: es ∧ Rep G F H d v ∧ RepL G F H es vs := by
    intro ds v vs h
    cases ds with
    | nil => rw [RepL] at h; cases h
    | cons d es =>
      rw [RepL] at h
      obtain ⟨v', r, e, h1, h2⟩ := h
      cases e
      exact ⟨d, es, rfl, h1, h2⟩
  induction p with
  | nil => intro ds h; exact ⟨ds, .refl _, h⟩
  | cons x p ih =>
    intro ds h
    obtain ⟨d, es, rfl, h1, h2⟩ := unc h
    obtain ⟨fs, p1, r1⟩ := ih h2
    exact ⟨d :: fs, p1.cons d, RepL.cons h1 r1⟩
  | swap x y l =>
    intro ds h
    obtain ⟨d, es, rfl, h1, h2⟩ := unc h
    obtain ⟨e, fs, rfl, h3, h4⟩ := unc h2
    exact ⟨e :: d :: fs, List.Perm.swap _ _ _, RepL.cons h3 (RepL.cons h1 h4)⟩
  | trans p q ih1 ih2 =>
    intro ds h
    obtain ⟨es, p1, r1⟩ := ih2 h
    obtain ⟨fs, p2, r2⟩ := ih1 r1
    exact ⟨fs, p2.trans p1, r2⟩
theorem tup_items {G : Sig} {F : List Addr} {H : Hp} {shape : Nat → Bool} : ∀ {t : List D} {ws : List V} {its : List Value} {k : List (Int ⊕ List Nat)} {i : Nat}, RepL G F H t ws → Vals ws its → tkey t = some k → (∀ j, shape (i + j) = ((tshp t)[j]?).getD false) → PyProof.Rows.tupItems shape i its = some k
  | [], ws, its, k, i, r, rv, hk, hs => by
    rw [RepL] at r
    subst r
    cases rv
    cases hk
    rfl
  | d :: t, ws, its, k, i, r, rv, hk, hs => by
    rw [RepL] at r
    obtain ⟨v, w, rfl, h1, h2⟩ := r
    cases rv with
    | cons ru rt =>
      cases d with
      | int n =>
        obtain ⟨kt, e1, rfl⟩ := Option.map_eq_some_iff.mp hk
        cases rep_int h1
        obtain ⟨tk, rfl⟩ := ru
        have h0 : shape i = false := by simpa [tshp] using hs 0
        have ih := tup_items (shape := shape) (i := i + 1) h2 rt e1 (fun j => by
          have := hs (j + 1)
          rw [show i + (j + 1) = i + 1 + j by omega] at this
          rw [this]; simp [tshp])
        simp only [PyProof.Rows.tupItems, h0, Bool.false_eq_true, if_false, ih, Option.map_some]
      | str x =>
        obtain ⟨kt, e1, rfl⟩ := Option.map_eq_some_iff.mp hk
        cases rep_str h1
        obtain ⟨tk, rfl⟩ := ru
        have h0 : shape i = true := by simpa [tshp] using hs 0
        have ih := tup_items (shape := shape) (i := i + 1) h2 rt e1 (fun j => by
          have := hs (j + 1)
          rw [show i + (j + 1) = i + 1 + j by omega] at this
          rw [this]; simp [tshp])
        simp only [PyProof.Rows.tupItems, h0, if_true, ih, Option.map_some]
      | _ => cases hk
/-- one tuple, as a sort key -/
theorem tup_key {X : Cx} {C Xn : Nat → Addr} {pins : List (Addr × Obj)} {σ : L2.St} {H : Hp} {s : Shared} {F : List Addr} {t sh : List D} {v : V} {u : Value} (I : Inv X pins σ H s) (r : Rep (sg X C Xn) F H (.tup t) v) (ru : RelV v u) (h1 : t ≠ []) (h2 : (tkey t).isSome = true) (h3 : tshp t = tshp sh) :
    ∃ b f, v = .ref b ∧ u = .ref b ∧ PyProof.Rows.G.tupKeyC s.heap (fun j => ((tshp sh)[j]?).getD false) u = tkey t ∧ PyProof.Rows.TupOf s.heap (fun j => ((tshp sh)[j]?).getD false) u f := by
  obtain ⟨b, ws, rfl, ht, rl⟩ := rep_tup r
  obtain rfl : u = Value.ref b := ru
  obtain ⟨its, rv, ⟨o, e1, e2, n, e3⟩, _⟩ := I.tuple ht
  obtain ⟨k, hk⟩ := Option.isSome_iff_exists.mp h2
  have hi := tup_items (shape := fun j => ((tshp sh)[j]?).getD false) (i := 0) rl rv hk (fun j => by rw [Nat.zero_add, h3])
  cases t with
  | nil => exact absurd rfl h1
  | cons d t =>
    rw [RepL] at rl
    obtain ⟨v0, w0, rfl, q1, q2⟩ := rl
    cases rv with
    | cons ru0 rt =>
      rename_i u0 us0
      refine ⟨b, u0, rfl, rfl, ?_, b, o, _, n, rfl, e1, e2, e3, by simp, fun z => ?_, fun z => ?_⟩
      · have c1 : PyProof.Rows.G.isTupObj s.heap (.ref b) = true := by simp [PyProof.Rows.G.isTupObj, e1, e2]
        unfold PyProof.Rows.G.tupKeyC
        rw [if_pos c1, hk]
        show (match s.heap.get? b with
          | some o => match o.data with
            | .seq xs _ => PyProof.Rows.tupItems _ 0 xs.toList
            | _ => none
          | none => none) = _
        rw [e1]
        dsimp only
        rw [e3]
        exact hi
      · rw [← h3] at z
        cases d with
        | int i => cases rep_int q1; obtain ⟨tk, rfl⟩ := ru0; exact ⟨_, _, rfl⟩
        | str x => simp [tshp] at z
        | _ => cases h2
      · rw [← h3] at z
        cases d with
        | int i => simp [tshp] at z
        | str x => cases rep_str q1; obtain ⟨tk, rfl⟩ := ru0; exact ⟨_, _, rfl⟩
        | _ => cases h2
theorem tups_all {X : Cx} {C Xn : Nat → Addr} {pins : List (Addr × Obj)} {σ : L2.St} {H : Hp} {s : Shared} {F : List Addr} {sh : List D} (I : Inv X pins σ H s) : ∀ {ts : List (List D)} {vs : List V} {us : List Value}, RepL (sg X C Xn) F H (ts.map .tup) vs → Vals vs us →
    (∀ t ∈ ts, t ≠ [] ∧ (tkey t).isSome = true ∧ tshp t = tshp sh) → (∃ fs, PyProof.Rows.TupsOf s.heap (fun j => ((tshp sh)[j]?).getD false) us fs) ∧ (∀ v ∈ vs, ∃ a, v = V.ref a) ∧ ∀ u ∈ us, ∃ l, PyProof.Rows.G.tupKeyC s.heap (fun j => ((tshp sh)[j]?).getD false) u = some l
  | [], vs, us, r, rv, h => by
    rw [List.map_nil, RepL] at r
    subst r
    cases rv
    exact ⟨⟨[], .nil⟩, fun v hv => absurd hv (by simp), fun u hu => absurd hu (by simp)⟩
  | t :: ts, vs, us, r, rv, h => by
    rw [List.map_cons, RepL] at r
    obtain ⟨v, w, rfl, h1, h2⟩ := r
    cases rv with
    | cons ru rt =>
      obtain ⟨⟨fs, i1⟩, i2, i3⟩ := tups_all I h2 rt fun t ht => h t (List.mem_cons_of_mem _ ht)
      obtain ⟨a1, a2, a3⟩ := h t List.mem_cons_self
      obtain ⟨b, f, e1, e2, e3, e4⟩ := tup_key I h1 ru a1 a2 a3
      obtain ⟨k, hk⟩ := Option.isSome_iff_exists.mp a2
      refine ⟨⟨f :: fs, .cons e4 i1⟩, fun v' hv => ?_, fun u' hu => ?_⟩
      · rcases List.mem_cons.mp hv with e | hv
        · exact ⟨b, by rw [e, e1]⟩
        · exact i2 v' hv
      · rcases List.mem_cons.mp hu with e | hu
        · exact ⟨k, by rw [e, e3, hk]⟩
        · exact i3 u' hu
theorem pairs_same {vs : List Value} : ∀ p ∈ (PyProof.Rows.pairsOf vs).toList, p.1 = p.2 := by
  intro p hp
  rw [PyProof.Rows.pairsOf_toList] at hp
  induction vs with
  | nil => simp at hp
  | cons v vs ih =>
    rw [List.zip_cons_cons] at hp
    rcases List.mem_cons.mp hp with e | hp
    · rw [e]
    · exact ih hp
theorem tupsD_map : ∀ {ds : List D} {ts : List (List D)}, tupsD ds = some ts → ds = ts.map .tup
  | [], ts, e => by cases e; rfl
  | d :: ds, ts, e => by
    cases d with
    | tup t =>
      obtain ⟨us, e1, rfl⟩ := Option.map_eq_some_iff.mp e
      rw [tupsD_map e1]
      rfl
    | _ => cases e
def unT : D → List D
  | .tup t => t
  | _ => []
theorem perm_tups {es : List D} {ts : List (List D)} (p : es.Perm (ts.map .tup)) : ∃ us : List (List D), us.Perm ts ∧ es = us.map .tup := by
  have : ∀ {es : List D}, (∀ e ∈ es, ∃ t, e = .tup t) → ∃ us : List (List D), es = us.map .tup := by
    intro es h
    induction es with
    | nil => exact ⟨[], rfl⟩
    | cons e es ih =>
      obtain ⟨t, rfl⟩ := h e List.mem_cons_self
      obtain ⟨us, rfl⟩ := ih fun e he => h e (List.mem_cons_of_mem _ he)
      exact ⟨t :: us, rfl⟩
  obtain ⟨us, rfl⟩ := this (es := es) fun e he => by
    obtain ⟨t, _, rfl⟩ := List.mem_map.mp (p.mem_iff.mp he)
    exact ⟨t, rfl⟩
  refine ⟨us, ?_, rfl⟩
  have p2 := p.map unT
  rw [List.map_map, List.map_map] at p2
  have e : ∀ l : List (List D), l.map (unT ∘ D.tup) = l := fun l => by
    induction l with
    | nil => rfl
    | cons a l ih => rw [List.map_cons, ih]; rfl
  rw [e, e] at p2
  exact p2
theorem call_sortedT {X : Cx} {C Xn : Nat → Addr} {pins : List (Addr × Obj)} {σ : L2.St} {H : Hp} {s : Shared} {F : List Addr} {a : Addr} {ts : List (List D)} {vs : List V} {us : List Value} {Q : VK} (I : Inv X pins σ H s) (t : SqL X.K H a vs) (rl : RepL (sg X C Xn) F H (ts.map .tup) vs) (r : Vals [V.ref a] us)
    (hk : ∀ t ∈ ts, t ≠ [] ∧ (tkey t).isSome = true ∧ tshp t = tshp (ts.headD [])) (q : ∀ (ws : List V) (p : Addr), RepL (sg X C Xn) F H ((ts.mergeSort fun a b => !tlt b a).map .tup) ws → H p = none → Q (.ref p) (upd H p (.lst ws))) :
    wpAny (model X.prog X.w) X.A (PySem.call (.builtin "sorted") us) (EP X pins σ Q) X.xe s := by
  obtain ⟨its, rv, hl, hz⟩ := I.list t
  rw [Vals.ref1 r]
  obtain ⟨⟨fs, tf⟩, hv, hkey⟩ := tups_all I rl rv hk
  obtain ⟨e1, e2⟩ := bkV_refs rv hv
  have hlen := rv.length
  refine PyProof.Rows.G.sorted_tups hl.isList tf hkey (by omega) fun st' h1 h2 _ => ?_
  generalize PyProof.Rows.arrOf st' = arr at h1 h2 ⊢
  have h1' : arr.toList.Perm (PyProof.Rows.pairsOf its).toList := Array.perm_iff_toList_perm.mp h1
  have same : ∀ p ∈ arr.toList, p.1 = p.2 := fun p hp => pairs_same p (h1'.mem_iff.mp hp)
  have hp : (arr.map (·.2)).toList.Perm its := by
    rw [Array.toList_map]
    have := h1'.map (·.2)
    rw [PyProof.Rows.pairsOf_toList, List.map_snd_zip (Nat.le_refl _)] at this
    exact this
  obtain ⟨ep, he'⟩ := PyProof.Rows.sortedAll_at s.heap its (arr.map (·.2))
  have h3 : ∀ u ∈ (arr.map (·.2)).toList, ∃ a, u = Value.ref a := fun u hu => e2 u (hp.mem_iff.mp hu)
  have hpV : ((arr.map (·.2)).toList.map bkV).Perm vs := by
    rw [e1]
    exact hp.map bkV
  have hlenV : ((arr.map (·.2)).toList.map bkV).length ≤ sizeLine := by
    rw [hpV.length_eq]
    exact hz
  obtain ⟨es, p1, r1⟩ := rep_perm hpV rl
  obtain ⟨us2, p2, rfl⟩ := perm_tups p1
  have hsort : us2.Pairwise fun a b => (!tlt b a) = true := by
    rw [List.pairwise_iff_getElem]
    intro i j hi hj hij
    have hlen2 : us2.length = arr.size := by
      have := r1.length
      simp at this
      omega
    have hsz : arr.size = (PyProof.Rows.pairsOf its).size := by
      have := h1'.length_eq
      simpa using this
    have hle := h2 i j (Nat.le_of_lt hij) (by omega)
    have keyAt : ∀ (n : Nat) (hn : n < us2.length), PyProof.Rows.KK (PyProof.Rows.G.tupKindC s.heap fun j => ((tshp (ts.headD []))[j]?).getD false) arr n = (tkey us2[n]).getD [] := by
      intro n hn
      have hn2 : n < arr.size := by omega
      unfold PyProof.Rows.KK
      rw [Array.getElem?_eq_getElem hn2]
      dsimp only
      have hmem : arr[n] ∈ arr.toList := by simp
      have hv1 : ((arr.map (·.2)).toList.map bkV)[n]? = some (bkV arr[n].2) := by simp [hn2]
      obtain ⟨d, hd, rd⟩ := r1.getV hv1
      have hd' : d = .tup us2[n] := by
        rw [List.getElem?_map, List.getElem?_eq_getElem hn] at hd
        exact (Option.some.inj hd).symm
      subst hd'
      obtain ⟨a', ea'⟩ := h3 arr[n].2 (by rw [Array.toList_map]; exact List.mem_map.mpr ⟨_, hmem, rfl⟩)
      have ru : RelV (bkV arr[n].2) arr[n].2 := by rw [ea']; rfl
      obtain ⟨a1, a2, a3⟩ := hk us2[n] (p2.mem_iff.mp (by simp))
      obtain ⟨b, f, x1, x2, x3, x4⟩ := tup_key I rd ru a1 a2 a3
      have : PyProof.Rows.G.tupKeyC s.heap (fun j => ((tshp (ts.headD []))[j]?).getD false) arr[n].1 = tkey us2[n] := by
        rw [same _ hmem]
        exact x3
      rw [this]
    have z : lexLt itemOrd (PyProof.Rows.KK (PyProof.Rows.G.tupKindC s.heap fun j => ((tshp (ts.headD []))[j]?).getD false) arr j) (PyProof.Rows.KK (PyProof.Rows.G.tupKindC s.heap fun j => ((tshp (ts.headD []))[j]?).getD false) arr i) = false := hle
    rw [keyAt i hi, keyAt j hj] at z
    have : tlt us2[j] us2[i] = false := z
    rw [this]
    rfl
  rw [sortT_uniq (fun t ht => (hk t ht).2.1) p2 hsort] at r1
  exact ⟨.ref _, upd H (s.heap.objs.size + 1) (.lst ((arr.map (·.2)).toList.map bkV)), I.laid (t' := s.toks) (fun _ _ => PyProof.Rows.sortedAll_old) (Nat.le_succ _) ⟨hlenV, (arr.map (·.2)).toList, ep, bkV_vals h3, by rw [Array.toArray_toList]; exact he'⟩, rfl, q _ _ r1 (I.hok.fresh (Nat.le_succ _))⟩
theorem call_sortedI : CallR X (.builtin "sorted") (rSq (sg X C Xn) (seqM .sorted)) := by
  intro pins s σ H xs us Q I r h0
  obtain ⟨F, st, w, v, W, sr, rfl, rk, h⟩ := h0
  unfold seqM at h
  dsimp only at h
  obtain ⟨hk, h⟩ := h.grdb sr
  obtain ⟨a, vs, rfl, t, rl⟩ := rowL rk hk
  cases e1 : strsD w.2 with
  | some xs =>
    rw [e1] at h
    dsimp only at h
    obtain ⟨h64, h⟩ := h.grdb sr
    rw [repL_strs e1 rl] at t
    refine cr_sortedS pins s σ H _ us Q I r ⟨a, xs, rfl, t, by rw [strsD_len e1]; exact h64, fun ys p hp hs hn => ?_⟩
    rw [sortS_uniq hp (sortedS_pw hs)]
    exact WP.allocL sr h (repL_of_strs _) hn
  | none =>
    rw [e1] at h
    dsimp only at h
    cases e2 : intsD w.2 with
    | some xs =>
      rw [e2] at h
      dsimp only at h
      obtain ⟨h64, h⟩ := h.grdb sr
      rw [repL_ints e2 rl] at t
      refine cr_sorted pins s σ H _ us Q I r ⟨a, xs, rfl, t, by rw [intsD_len e2]; exact h64, fun ys p hp hs hn => ?_⟩
      rw [sortI_uniq hp hs]
      exact WP.allocL sr h (repL_of_ints _) hn
    | none =>
      rw [e2] at h
      dsimp only at h
      cases e3 : tupsD w.2 with
      | none => rw [e3] at h; exact h.elim
      | some ts =>
        rw [e3] at h
        dsimp only at h
        obtain ⟨hk, h⟩ := h.grdb sr
        rw [tupsD_map e3] at rl
        exact call_sortedT I t rl r hk fun ws p rw hp => WP.allocL sr h rw hp
end

/-! # isinstance -/
def tyS : Ty → String
  | .int => "int"
  | .bool => "bool"
  | .str => "str"
  | .tuple => "tuple"
  | .list => "list"
  | .dict => "dict"
  | .cls _ => ""
def kitT (K : PySem.W.Frag) (a b : String) : Option Bool := PySem.W.kitOne K (.type a) (.type b)
section
variable {X : Cx} {C Xn : Nat → Addr} {lv : Nat}
theorem kit_all (K : PySem.W.Frag) (t : Ty) (ht : ∀ n, t ≠ .cls n) : kitT K "NoneType" (tyS t) = some false ∧ kitT K "bool" (tyS t) = some (decide (t = .bool) || decide (t = .int)) ∧ kitT K "int" (tyS t) = some (decide (t = .int)) ∧
    kitT K "str" (tyS t) = some (decide (t = .str)) ∧ kitT K "tuple" (tyS t) = some (decide (t = .tuple)) ∧ kitT K "list" (tyS t) = some (decide (t = .list)) ∧ kitT K "dict" (tyS t) = some (decide (t = .dict)) := by
  cases t with
  | cls n => exact absurd rfl (ht n)
  | _ => refine ⟨?_, ?_, ?_, ?_, ?_, ?_, ?_⟩ <;> exact kit_ty (by decide +kernel)
theorem tupTy {G : Sig} {F : List Addr} {H : Hp} {ds : List D} {v : V} (h : Rep G F H (.tup ds) v) : TyX G.K H v (.type "tuple") := by
  obtain ⟨a, vs, rfl, t, r⟩ := rep_tup h
  rcases t with (t | ⟨o, t⟩) | ⟨o, its, n, hk, hc, _⟩
  · exact .base (.tup t)
  · exact .fTuple t
  · exact .kTuple hk hc
theorem wlTy {G : Sig} {F : List Addr} {H : Hp} {ds : List D} {v : V} (h : Rep G F H (.wl ds) v) : TyX G.K H v (.type "list") := by
  obtain ⟨a, vs, rfl, t, r⟩ := rep_wl h
  rcases t with ⟨o, t⟩ | ⟨o, its, n, hk, hc, _⟩
  · exact .base (.frz t)
  · exact .kList hk hc
theorem isi_out {G : Sig} {F : List Addr} {H : Hp} {st : Store} {W : Nat → List Addr → Hp → Store → Prop} {d : D} {v : V} {t : Ty} {R : D → List Addr → Hp → Store → Prop} (ht : ∀ n, t ≠ .cls n) (s : SR G F H st) (r : Rep G F H d v) (h : WP G W (isiM d t) R F H st) :
    ∃ u b, TyX G.K H v u ∧ PySem.W.kitOne G.K u (.type (tyS t)) = some b ∧ R (.bl b) F H st := by
  obtain ⟨k1, k2, k3, k4, k5, k6, k7⟩ := kit_all G.K t ht
  unfold isiM at h
  split at h
  · cases rep_non r; exact ⟨_, _, .base .non, k1, h.pur s⟩
  · cases rep_bl r; exact ⟨_, _, .base (.bl _), k2, h.pur s⟩
  · cases rep_int r; exact ⟨_, _, .base (.int _), k3, h.pur s⟩
  · cases rep_str r; exact ⟨_, _, .base (.str _), k4, h.pur s⟩
  · exact ⟨_, _, tupTy r, k5, h.pur s⟩
  · obtain ⟨p, rfl, f⟩ := rep_obj r
    obtain ⟨p', c, f2, g, k, h⟩ := WP.cell s h
    rw [f] at f2; cases f2
    cases c with
    | lst ds =>
      obtain ⟨vs, e1, r2⟩ := k
      exact ⟨_, _, .base (.lst e1), k6, h.pur s⟩
    | dic lk kvs =>
      cases lk with
      | false =>
        obtain ⟨u, e1, ws, rfl, rk⟩ := k
        exact ⟨_, _, .base (.dK e1), k7, h.pur s⟩
      | true =>
        obtain ⟨o, u, e1, ws, rfl, rk⟩ := k
        exact ⟨_, _, .fDict e1, k7, h.pur s⟩
    | _ => exact h.elim
  · exact h.elim
end
end PI

open PySem PySem.Spec PyProof.Rows L2
namespace PI

/-! # shapes of expressions -/
/-- neither starred, nor a set, nor a slice -/
def plainE : Expr → Bool
  | .Starred _ _ => false
  | .Set _ _ _ => false
  | .Slice _ _ _ _ => false
  | _ => true
section
variable {X : Cx} {e o : Expr} {es : List Expr} {env : PySem.Env}
theorem star_cons (h : plainE e = true) : starEach (e :: es) env = (false, eval e env) :: starEach es env := by
  cases e <;> first | rfl | cases h
theorem star_nil : starEach [] env = [] := rfl
theorem nomarkP (h : plainE e = true) (op : CmpOp) : behindInMarks op e = false := by
  cases e <;> first | rfl | cases h
theorem plainIx (h : plainE e = true) : PlainIx e := by
  intro o i
  cases e <;> first | rfl | cases h
theorem unfolded (h : plainE e = true) (x : Value) : foldedSetIterable e env x = pure x := by
  cases e <;> first | rfl | cases h
theorem abBase (h : abOk o = true) (m : Str) : attributeBase o m env (eval o env) = eval o env := by
  unfold attributeBase
  split
  · cases h
  · rfl
end
def plainL (es : List Expr) : Bool := es.all plainE
theorem star_all {env : PySem.Env} : ∀ {es : List Expr}, plainL es = true → ∀ {pos : Pos}, (backTo pos (starEach es env)).any (·.1) = false ∧ backTo pos (starEach es env) = es.map fun e => (false, eval e env)
  | [], _, _ => ⟨rfl, rfl⟩
  | e :: es, h, pos => by
    unfold plainL at h
    rw [List.all_cons, Bool.and_eq_true] at h
    obtain ⟨h1, h2⟩ := star_all (es := es) (env := env) h.2 (pos := pos)
    have e1 : backTo pos (starEach (e :: es) env) = (false, eval e env) :: backTo pos (starEach es env) := by
      rw [star_cons h.1]; rfl
    rw [e1]
    exact ⟨by rw [List.any_cons, h1]; rfl, by rw [h2]; rfl⟩
theorem few_all {env : PySem.Env} {es : List Expr} {pos : Pos} (h : plainL es = true) (hl : es.length < 30) :
    ((backTo pos (starEach es env)).all (fun x => !x.1) && (backToKw pos (keywordEach [] env)).all (fun x => x.1.isSome) && decide (es.length + ([] : List Keyword).length + (if ([] : List Keyword).isEmpty then 0 else 1) < 30)) = true := by
  rw [(star_all h).2]
  have h1 : (es.map fun e => (false, eval e env)).all (fun x => !x.1) = true := by
    rw [List.all_map]
    exact List.all_eq_true.mpr fun _ _ => rfl
  have h2 : (backToKw pos (keywordEach [] env)).all (fun x => x.1.isSome) = true := rfl
  have h3 : decide (es.length + ([] : List Keyword).length + (if ([] : List Keyword).isEmpty then 0 else 1) < 30) = true := decide_eq_true (by simpa using hl)
  rw [h1, h2, h3]
  rfl
theorem plain1 {e : Expr} (h : plainE e = true) : plainL [e] = true := by simp [plainL, h]
theorem plain2 {e f : Expr} (h : plainE e = true) (k : plainE f = true) : plainL [e, f] = true := by simp [plainL, h, k]

/-! # a dict's keys laid -/
theorem putKV {G : Sig} {F : List Addr} {H : Hp} {k : Key} {d : D} {v : V} (r : Rep G F H d v) {kvs : List (D × D)} {ws : List (Key × V)} (rk : RepKV G F H kvs ws) : RepKV G F H (putD kvs (keyD k) d) (putK ws k v) := by
  have inj : ∀ q : Key, keyD q = keyD k ↔ q = k := by
    intro q
    cases q <;> cases k <;> simp [keyD]
  have hs : ∀ {kvs : List (D × D)} {ws : List (Key × V)}, RepKV G F H kvs ws → (kvs.any fun p => decide (p.1 = keyD k)) = (ws.any fun p => decide (p.1 = k)) := by
    intro kvs ws rk
    induction rk with
    | nil => rfl
    | cons h t ih =>
      rename_i p q ps qs
      rw [List.any_cons, List.any_cons, ih, h.1]
      congr 1
      exact decide_eq_decide.mpr (inj _)
  have mapped : ∀ {kvs : List (D × D)} {ws : List (Key × V)}, RepKV G F H kvs ws → RepKV G F H (kvs.map fun p => if p.1 = keyD k then (p.1, d) else p) (ws.map fun p => if p.1 = k then (p.1, v) else p) := by
    intro kvs ws rk
    induction rk with
    | nil => exact .nil
    | cons h t ih =>
      rename_i p q ps qs
      refine .cons ?_ ih
      dsimp only
      rw [h.1]
      by_cases e : q.1 = k
      · rw [if_pos ((inj _).mpr e), if_pos e]; exact ⟨rfl, r⟩
      · rw [if_neg (fun z => e ((inj _).mp z)), if_neg e]; exact h
  have appd : ∀ {kvs : List (D × D)} {ws : List (Key × V)}, RepKV G F H kvs ws → RepKV G F H (kvs ++ [(keyD k, d)]) (ws ++ [(k, v)]) := by
    intro kvs ws rk
    induction rk with
    | nil => exact .cons ⟨rfl, r⟩ .nil
    | cons h t ih => exact .cons h ih
  unfold putD putK
  rw [hs rk]
  split
  · exact mapped rk
  · exact appd rk

/-! # methods of built-in classes -/
section
variable {X : Cx} {C Xn : Nat → Addr} {lv : Nat} {W : WX} {o e f : Expr} {mo me mf : Rho → M D} {apos cpos : Pos}
theorem WP.lstb {α : Type} {G : Sig} {F : List Addr} {H : Hp} {st : Store} {W : Nat → List Addr → Hp → Store → Prop} {d : D} {v : V} {k : Nat × List D → M α} {R : α → List Addr → Hp → Store → Prop} (s : SR G F H st) (r : Rep G F H d v) (h : WP G W (lstM d >>= k) R F H st) :
    ∃ p n ds vs, v = .ref p ∧ F[n]? = some p ∧ st[n]? = some (.lst ds) ∧ H p = some (.lst vs) ∧ RepL G F H ds vs ∧ WP G W (k (n, ds)) R F H st := by
  cases d with
  | obj n =>
    obtain ⟨p, rfl, f⟩ := rep_obj r
    have h2 := h
    unfold lstM at h2
    rw [M.assoc] at h2
    obtain ⟨p', c, f2, g, kk, h2⟩ := WP.cell s h2
    rw [f] at f2; cases f2
    cases c with
    | lst ds =>
      obtain ⟨vs, k1, r2⟩ := kk
      exact ⟨p, n, ds, vs, rfl, f, g, k1, r2, h2⟩
    | _ => exact h2.bind.elim
  | _ => exact (h.bind : False).elim
/-- what stands at a list that a method looks for -/
theorem tyL {G : Sig} {F : List Addr} {H : Hp} {st : Store} {W : Nat → List Addr → Hp → Store → Prop} {d : D} {v : V} {α : Type} {k : Unit → M α} {R : α → List Addr → Hp → Store → Prop} {m : Me} (hm : m = .append ∨ m = .extend ∨ m = .pop ∨ m = .index) (s : SR G F H st) (r : Rep G F H d v)
    (h : WP G W (tyM m d >>= k) R F H st) : tyV G.K "list" v H ∧ WP G W (k ()) R F H st := by
  have e : tyM m d = (match d with
    | .obj n => do
      match ← getC n with
      | .lst _ => pure ()
      | _ => bad
    | _ => bad) := by
    rcases hm with rfl | rfl | rfl | rfl <;> cases d <;> rfl
  rw [e] at h
  cases d with
  | obj n =>
    obtain ⟨p, rfl, f⟩ := rep_obj r
    have h2 := h
    dsimp only at h2
    rw [M.assoc] at h2
    obtain ⟨p', c, f2, g, kk, h2⟩ := WP.cell s h2
    rw [f] at f2; cases f2
    cases c with
    | lst ds =>
      obtain ⟨vs, k1, r2⟩ := kk
      exact ⟨.inl ⟨rfl, vs, .inl (.inl k1)⟩, h2⟩
    | _ => exact h2.bind.elim
  | _ => exact (h.bind : False).elim
/-- a method of a built-in class with one argument -/
theorem pe_met1 {T id : String} {name : Str} {k : Me} {op : D → D → M D} {r : V → List V → Hp → VK → Prop} (pa : PlainAttrs T) (slot : Slot T name id) (hty : typeOf (.builtin id) = pure (.type "method_descriptor")) (hm : MtR X id r)
    (ht : ∀ {F : List Addr} {H : Hp} {st : Store} {W : Nat → List Addr → Hp → Store → Prop} {d : D} {v : V} {α : Type} {kk : Unit → M α} {R : α → List Addr → Hp → Store → Prop}, SR (sg X C Xn) F H st → Rep (sg X C Xn) F H d v → WP (sg X C Xn) W (tyM k d >>= kk) R F H st → tyV X.K T v H ∧ WP (sg X C Xn) W (kk ()) R F H st)
    (hr : ∀ {F : List Addr} {H : Hp} {st : Store} {W : Nat → List Addr → Hp → Store → Prop} {x d : D} {v w : V} {Q : VK}, SR (sg X C Xn) F H st → Rep (sg X C Xn) F H x v → Rep (sg X C Xn) F H d w → WP (sg X C Xn) W (op x d) (fun d F' H' _ => ∀ v, Rep (sg X C Xn) F' H' d v → Q v H') F H st → r v [w] H Q)
    (hk : ∀ x, metM k x = on1 (op x)) {m : Rho → M (List D)} (hms : m = fun ρ => do let d ← me ρ; let ds ← pure []; pure (d :: ds))
    (po : abOk o = true) (pe : plainE e = true) (hl : (apos.endLine == cpos.line) = true) (ho : PE X o (tV (sg X C Xn) W mo)) (he : PE X e (tV (sg X C Xn) W me)) :
    PE X (.Call (.Attribute o name apos) [e] [] cpos) (tV (sg X C Xn) W fun ρ => do let x ← mo ρ; tyM k x; let ds ← m ρ; metM k x ds) := by
  subst hms
  refine PE.imp (pe_bm pa slot hty hm ho (pa_cons he pa_nil (star_cons pe)) (abBase po _) (few_all (plain1 pe) (by simp)) hl (star_cons pe) rfl) fun σ H Q h => ?_
  obtain ⟨F, ρ, st, s, r, h⟩ := h
  refine seqV s r h fun x F1 H1 st1 v e1 s1 r1 rx h1 => ?_
  obtain ⟨ty, h1⟩ := ht s1 rx h1
  refine ⟨ty, ?_⟩
  simp only [M.assoc, M.pureb] at h1
  refine seqV s1 r1 h1 fun d F2 H2 st2 w e2 s2 r2 rd h3 => ?_
  rw [hk] at h3
  exact hr s2 (rx.mono e2) rd h3
theorem pe_met0 {T id : String} {name : Str} {k : Me} {op : D → M D} {r : V → List V → Hp → VK → Prop} (pa : PlainAttrs T) (slot : Slot T name id) (hty : typeOf (.builtin id) = pure (.type "method_descriptor")) (hm : MtR X id r)
    (ht : ∀ {F : List Addr} {H : Hp} {st : Store} {W : Nat → List Addr → Hp → Store → Prop} {d : D} {v : V} {α : Type} {kk : Unit → M α} {R : α → List Addr → Hp → Store → Prop}, SR (sg X C Xn) F H st → Rep (sg X C Xn) F H d v → WP (sg X C Xn) W (tyM k d >>= kk) R F H st → tyV X.K T v H ∧ WP (sg X C Xn) W (kk ()) R F H st)
    (hr : ∀ {F : List Addr} {H : Hp} {st : Store} {W : Nat → List Addr → Hp → Store → Prop} {x : D} {v : V} {Q : VK}, SR (sg X C Xn) F H st → Rep (sg X C Xn) F H x v → WP (sg X C Xn) W (op x) (fun d F' H' _ => ∀ v, Rep (sg X C Xn) F' H' d v → Q v H') F H st → r v [] H Q)
    (hk : ∀ x, metM k x [] = op x) {m : Rho → M (List D)} (hms : m = fun _ => pure [])
    (po : abOk o = true) (hl : (apos.endLine == cpos.line) = true) (ho : PE X o (tV (sg X C Xn) W mo)) :
    PE X (.Call (.Attribute o name apos) [] [] cpos) (tV (sg X C Xn) W fun ρ => do let x ← mo ρ; tyM k x; let ds ← m ρ; metM k x ds) := by
  subst hms
  refine PE.imp (pe_bm0 pa slot hty hm ho (abBase po _) hl) fun σ H Q h => ?_
  obtain ⟨F, ρ, st, s, r, h⟩ := h
  refine seqV s r h fun x F1 H1 st1 v e1 s1 r1 rx h1 => ?_
  obtain ⟨ty, h1⟩ := ht s1 rx h1
  refine ⟨ty, ?_⟩
  simp only [M.pureb] at h1
  rw [hk] at h1
  exact hr s1 rx h1
section
variable {G : Sig} {F : List Addr} {H : Hp} {st : Store} {V' : Nat → List Addr → Hp → Store → Prop} {x d : D} {v w : V} {Q : VK}
theorem r_append (s2 : SR G F H st) (rx : Rep G F H x v) (rd : Rep G F H d w) (h3 : WP G V' (appM x d) (fun d F' H' _ => ∀ v, Rep G F' H' d v → Q v H') F H st) : rAppend v [w] H Q := by
  obtain ⟨p, n, ds, vs, rfl, f, g, k1, rl, h3⟩ := WP.lstb s2 rx h3
  obtain ⟨hz, h3⟩ := h3.grdb s2
  have e3 := Ext.wrote (G := G) (F := F) (o := .lst (vs ++ [w])) f k1 True.intro
  obtain ⟨_, s4, h4⟩ := WP.setd s2 h3 f k1 True.intro ⟨vs ++ [w], upd_same, (rl.append (.cons rd .nil)).mono e3⟩
  exact ⟨p, vs, w, rfl, rfl, k1, by rw [rl.length, ← SZ_eq]; exact hz, h4.pur s4 _ rfl⟩
theorem r_extend (s2 : SR G F H st) (rx : Rep G F H x v) (rd : Rep G F H d w) (h3 : WP G V' (extM x d) (fun d F' H' _ => ∀ v, Rep G F' H' d v → Q v H') F H st) : rExtend v [w] H Q := by
  obtain ⟨p, n, ds, vs, rfl, f, g, k1, rl, h3⟩ := WP.lstb s2 rx h3
  obtain ⟨q, m, es, ws, rfl, f2, g2, k2, rl2, h3⟩ := WP.lstb s2 rd h3
  obtain ⟨hz, h3⟩ := h3.grdb s2
  have e3 := Ext.wrote (G := G) (F := F) (o := .lst (vs ++ ws)) f k1 True.intro
  obtain ⟨_, s4, h4⟩ := WP.setd s2 h3 f k1 True.intro ⟨vs ++ ws, upd_same, (rl.append rl2).mono e3⟩
  exact ⟨p, q, vs, ws, rfl, rfl, k1, k2, by rw [rl.length, rl2.length, ← SZ_eq]; exact hz, h4.pur s4 _ rfl⟩
theorem r_pop (s2 : SR G F H st) (rx : Rep G F H x v) (h3 : WP G V' (popM x) (fun d F' H' _ => ∀ v, Rep G F' H' d v → Q v H') F H st) : rPop v [] H Q := by
  obtain ⟨p, n, ds, vs, rfl, f, g, k1, rl, h3⟩ := WP.lstb s2 rx h3
  obtain ⟨d, ed, h3⟩ := WP.optb s2 h3
  obtain ⟨y, ey, ry⟩ := rl.get ed
  have e3 := Ext.wrote (G := G) (F := F) (o := .lst vs.dropLast) f k1 True.intro
  obtain ⟨_, s4, h4⟩ := WP.setd s2 h3 f k1 True.intro ⟨vs.dropLast, upd_same, rl.dropLast.mono e3⟩
  exact ⟨p, vs, y, rfl, rfl, k1, by rw [rl.length]; exact ey, h4.pur s4 _ (ry.mono e3)⟩
theorem firstEq_out {x : PyData} : ∀ {xs : List PyData} {k j : Nat}, firstEq x xs k = some j → ∃ i z, j = k + i ∧ xs[i]? = some z ∧ PyData.eqv z x = true ∧ ∀ (m : Nat) (z' : PyData), m < i → xs[m]? = some z' → PyData.eqv z' x = false
  | [], _, _, h => by cases h
  | z :: zs, k, j, h => by
    unfold firstEq at h
    split at h
    · rename_i q
      cases h
      exact ⟨0, z, rfl, rfl, q, fun m _ hm => absurd hm (Nat.not_lt_zero _)⟩
    · rename_i q
      obtain ⟨i, w, e1, e2, e3, e4⟩ := firstEq_out h
      refine ⟨i + 1, w, by omega, by simpa using e2, e3, fun m z' hm e => ?_⟩
      cases m with
      | zero =>
        simp at e
        subst e
        simpa using q
      | succ m => exact e4 m z' (by omega) (by simpa using e)
theorem r_index (s2 : SR G F H st) (rx : Rep G F H x v) (rd : Rep G F H d w) (h3 : WP G V' (idxOfM x d) (fun d F' H' _ => ∀ v, Rep G F' H' d v → Q v H') F H st) : rIndexD G.K v [w] H Q := by
  obtain ⟨p, n, ds, vs, rfl, f, g, k1, rl, h3⟩ := WP.lstb s2 rx h3
  dsimp only at h3
  cases e1 : pd d with
  | none => rw [e1] at h3; exact h3.elim
  | some a =>
    cases e2 : pds ds with
    | none => rw [e1, e2] at h3; exact h3.elim
    | some xs =>
      rw [e1, e2] at h3
      obtain ⟨⟨q1, q2, q3, q4⟩, h3⟩ := h3.grdb s2
      obtain ⟨j, ej, h3⟩ := WP.optb s2 h3
      obtain ⟨i, z, rfl, e3, e4, e5⟩ := firstEq_out ej
      refine ⟨p, w, a, xs, i, z, rfl, rfl, .lst (.inl (.inl k1)) (dps_of e2 rl), dp_of e1 rd, ?_, ?_, e3, e4, e5, ?_⟩
      · unfold SeqAt.shaped
        rw [Bool.and_eq_true, decide_eq_true_eq]
        exact ⟨q2, q4⟩
      · unfold SeqAt.shaped
        rw [Bool.and_eq_true, decide_eq_true_eq]
        exact ⟨q1, q3⟩
      · have := h3.pur s2 (.int ((0 + i : Nat) : Int)) rfl
        rwa [Nat.zero_add] at this
theorem r_starts (s2 : SR G F H st) (rx : Rep G F H x v) (rd : Rep G F H d w) (h3 : WP G V' (swM x d) (fun d F' H' _ => ∀ v, Rep G F' H' d v → Q v H') F H st) : ∃ a b, v = .str a ∧ [w] = [.str b] ∧ Q (.bl (Txt.startswith a b)) H := by
  unfold swM at h3
  split at h3
  · cases rep_str rx; cases rep_str rd
    exact ⟨_, _, rfl, rfl, h3.pur s2 _ rfl⟩
  · exact h3.elim
theorem r_split (s2 : SR G F H st) (rx : Rep G F H x v) (rd : Rep G F H d w) (h3 : WP G V' (splM x d) (fun d F' H' _ => ∀ v, Rep G F' H' d v → Q v H') F H st) :
    ∃ a b, v = .str a ∧ [w] = [.str b] ∧ (b.length == 0) = false ∧ a.length + 2 ≤ sizeLine ∧ rNewStrs (Txt.split a b) H Q := by
  unfold splM at h3
  split at h3
  · cases rep_str rx; cases rep_str rd
    obtain ⟨⟨q1, q2⟩, h3⟩ := h3.grdb s2
    exact ⟨_, _, rfl, rfl, q1, by rw [← SZ_eq]; exact q2, fun p hp => WP.allocL s2 h3 (repL_of_strs _) hp⟩
  · exact h3.elim
theorem r_digit (s2 : SR G F H st) (rx : Rep G F H x v) (h3 : WP G V' (digM x) (fun d F' H' _ => ∀ v, Rep G F' H' d v → Q v H') F H st) : ∃ a, v = .str a ∧ ([] : List V) = [] ∧ True ∧ Q (.bl (Txt.isdigit a)) H := by
  unfold digM at h3
  split at h3
  · cases rep_str rx
    exact ⟨_, rfl, rfl, True.intro, h3.pur s2 _ rfl⟩
  · exact h3.elim
theorem tyStr {α : Type} {kk : Unit → M α} {R : α → List Addr → Hp → Store → Prop} {k : Me} (hm : k = .startswith ∨ k = .split ∨ k = .isdigit) (s : SR G F H st) (r : Rep G F H d v) (h : WP G V' (tyM k d >>= kk) R F H st) : tyV G.K "str" v H ∧ WP G V' (kk ()) R F H st := by
  have e : tyM k d = (match d with
    | .str _ => pure ()
    | _ => bad) := by
    rcases hm with rfl | rfl | rfl <;> cases d <;> rfl
  rw [e] at h
  cases d with
  | str x => cases rep_str r; exact ⟨rfl, h⟩
  | _ => exact (h.bind : False).elim
end
theorem mt_ofM {id : String} {r : V → List V → Hp → VK → Prop} (h : MtM X id r) : MtR X id r := h
section
variable {m : Rho → M (List D)} (hms : m = fun ρ => do let d ← me ρ; let ds ← pure []; pure (d :: ds)) (hm0 : m = fun _ => pure [])
include hms in
theorem pe_append (po : abOk o = true) (pe : plainE e = true) (hl : (apos.endLine == cpos.line) = true) (ho : PE X o (tV (sg X C Xn) W mo)) (he : PE X e (tV (sg X C Xn) W me)) :
    PE X (.Call (.Attribute o "append" apos) [e] [] cpos) (tV (sg X C Xn) W fun ρ => do let x ← mo ρ; tyM .append x; let ds ← m ρ; metM .append x ds) :=
  pe_met1 (op := appM) PySem.F.plainAttrs_list PySem.F.slot_list_append PySem.F.type_list_append (mt_ofM mt_append) (tyL (.inl rfl)) r_append (fun _ => rfl) hms po pe hl ho he
include hms in
theorem pe_extend (po : abOk o = true) (pe : plainE e = true) (hl : (apos.endLine == cpos.line) = true) (ho : PE X o (tV (sg X C Xn) W mo)) (he : PE X e (tV (sg X C Xn) W me)) :
    PE X (.Call (.Attribute o "extend" apos) [e] [] cpos) (tV (sg X C Xn) W fun ρ => do let x ← mo ρ; tyM .extend x; let ds ← m ρ; metM .extend x ds) :=
  pe_met1 (op := extM) PySem.F.plainAttrs_list PySem.F.slot_list_extend PySem.F.type_list_extend (mt_ofM mt_extend) (tyL (.inr (.inl rfl))) r_extend (fun _ => rfl) hms po pe hl ho he
include hms in
theorem pe_index (hr : Room lv X.A) (po : abOk o = true) (pe : plainE e = true) (hl : (apos.endLine == cpos.line) = true) (ho : PE X o (tV (sg X C Xn) W mo)) (he : PE X e (tV (sg X C Xn) W me)) :
    PE X (.Call (.Attribute o "index" apos) [e] [] cpos) (tV (sg X C Xn) W fun ρ => do let x ← mo ρ; tyM .index x; let ds ← m ρ; metM .index x ds) :=
  pe_met1 (op := idxOfM) PySem.F.plainAttrs_list PySem.F.slot_list_index PySem.F.type_list_index (mt_indexD (by have := hr.un; omega)) (tyL (.inr (.inr (.inr rfl)))) r_index (fun _ => rfl) hms po pe hl ho he
include hms in
theorem pe_starts (po : abOk o = true) (pe : plainE e = true) (hl : (apos.endLine == cpos.line) = true) (ho : PE X o (tV (sg X C Xn) W mo)) (he : PE X e (tV (sg X C Xn) W me)) :
    PE X (.Call (.Attribute o "startswith" apos) [e] [] cpos) (tV (sg X C Xn) W fun ρ => do let x ← mo ρ; tyM .startswith x; let ds ← m ρ; metM .startswith x ds) :=
  pe_met1 (op := swM) PySem.F.plainAttrs_str PySem.F.slot_str_startswith PySem.F.type_str_startswith mt_startswith (tyStr (.inl rfl)) r_starts (fun _ => rfl) hms po pe hl ho he
include hms in
theorem pe_splitI (po : abOk o = true) (pe : plainE e = true) (hl : (apos.endLine == cpos.line) = true) (ho : PE X o (tV (sg X C Xn) W mo)) (he : PE X e (tV (sg X C Xn) W me)) :
    PE X (.Call (.Attribute o "split" apos) [e] [] cpos) (tV (sg X C Xn) W fun ρ => do let x ← mo ρ; tyM .split x; let ds ← m ρ; metM .split x ds) :=
  pe_met1 (op := splM) PySem.F.plainAttrs_str PySem.F.slot_str_split PySem.F.type_str_split mt_split (tyStr (.inr (.inl rfl))) r_split (fun _ => rfl) hms po pe hl ho he
include hm0 in
theorem pe_popI (po : abOk o = true) (hl : (apos.endLine == cpos.line) = true) (ho : PE X o (tV (sg X C Xn) W mo)) :
    PE X (.Call (.Attribute o "pop" apos) [] [] cpos) (tV (sg X C Xn) W fun ρ => do let x ← mo ρ; tyM .pop x; let ds ← m ρ; metM .pop x ds) :=
  pe_met0 (op := popM) PySem.F.plainAttrs_list PySem.F.slot_list_pop PySem.F.type_list_pop (mt_ofM mt_pop) (tyL (.inr (.inr (.inl rfl)))) r_pop (fun _ => rfl) hm0 po hl ho
include hm0 in
theorem pe_digit (po : abOk o = true) (hl : (apos.endLine == cpos.line) = true) (ho : PE X o (tV (sg X C Xn) W mo)) :
    PE X (.Call (.Attribute o "isdigit" apos) [] [] cpos) (tV (sg X C Xn) W fun ρ => do let x ← mo ρ; tyM .isdigit x; let ds ← m ρ; metM .isdigit x ds) :=
  pe_met0 (op := digM) PySem.F.plainAttrs_str PySem.F.slot_str_isdigit PySem.F.type_str_isdigit mt_isdigit (tyStr (.inr (.inr rfl))) r_digit (fun _ => rfl) hm0 po hl ho
end

/-! # get, setdefault -/
theorem m2_of {m : Str} (po : abOk o = true) (pe : plainE e = true) (pf : plainE f = true) (hl : (apos.endLine == cpos.line) = true) : M2 X o m apos e f cpos :=
  ⟨abBase po m, few_all (plain2 pe pf) (by simp), hl, by rw [star_cons pe, star_cons pf]; rfl⟩
section
variable {m : Rho → M (List D)} (hms : m = fun ρ => do let d ← me ρ; let ds ← (do let d ← mf ρ; let ds ← pure []; pure (d :: ds)); pure (d :: ds))
include hms in
theorem pe_getI (hr : Room lv X.A) (po : abOk o = true) (pe : plainE e = true) (pf : plainE f = true) (hl : (apos.endLine == cpos.line) = true) (ho : PE X o (tV (sg X C Xn) W mo)) (he : PE X e (tV (sg X C Xn) W me)) (hf : PE X f (tV (sg X C Xn) W mf)) :
    PE X (.Call (.Attribute o "get" apos) [e, f] [] cpos) (tV (sg X C Xn) W fun ρ => do let x ← mo ρ; tyM .get x; let ds ← m ρ; metM .get x ds) := by
  subst hms
  refine PE.imp (pe_dget2 (hu_of hr) ho he hf (m2_of po pe pf hl)) fun σ H Q h => ?_
  obtain ⟨F, ρ, st, s, r, h⟩ := h
  refine seqV s r h fun x F1 H1 st1 v e1 s1 r1 rx h1 => ?_
  simp only [M.assoc, M.pureb] at h1
  cases x with
  | obj n =>
    obtain ⟨p, rfl, ff⟩ := rep_obj rx
    unfold tyM at h1
    dsimp only at h1
    rw [M.assoc] at h1
    obtain ⟨p', c, f2, g, k, h1⟩ := WP.cell s1 h1
    rw [ff] at f2; cases f2
    cases c with
    | dic lk kvs =>
      obtain ⟨u, hu, ws, rfl, rk⟩ := DicOk.rd k
      refine ⟨p, rfl, .inl ⟨ws, hu⟩, ?_⟩
      refine seqV s1 r1 h1 fun a F2 H2 st2 w e2 s2 r2 ra h2 => seqV s2 r2 h2 fun b F3 H3 st3 z e3 s3 r3 rb h3 => ?_
      have h4 : WP _ _ (getM (.obj n) a b) _ _ _ _ := h3
      unfold getM at h4
      dsimp only at h4
      obtain ⟨p2, c2, f3, g3, k3, h4⟩ := WP.cell s3 h4
      rw [(e2.trans e3).at ff] at f3; cases f3
      cases c2 with
      | dic lk2 kvs2 =>
        obtain ⟨q, h4⟩ := h4.grdb s3
        rcases dget_of k3 q (ra.mono e3) with ⟨l1, l2⟩ | ⟨d, v', l1, l2, l3⟩
        · rw [l1] at h4
          exact ⟨none, l2, h4.pur s3 _ rb⟩
        · rw [l1] at h4
          exact ⟨some v', l2, h4.pur s3 _ l3⟩
      | _ => exact h4.elim
    | _ => exact (h1.bind : False).elim
  | _ => exact (h1.bind : False).elim
include hms in
theorem pe_setdefI (po : abOk o = true) (pe : plainE e = true) (pf : plainE f = true) (hl : (apos.endLine == cpos.line) = true) (ho : PE X o (tV (sg X C Xn) W mo)) (he : PE X e (tV (sg X C Xn) W me)) (hf : PE X f (tV (sg X C Xn) W mf)) :
    PE X (.Call (.Attribute o "setdefault" apos) [e, f] [] cpos) (tV (sg X C Xn) W fun ρ => do let x ← mo ρ; tyM .setdefault x; let ds ← m ρ; metM .setdefault x ds) := by
  subst hms
  refine PE.imp (pe_dsetd ho he hf (m2_of po pe pf hl)) fun σ H Q h => ?_
  obtain ⟨F, ρ, st, s, r, h⟩ := h
  refine seqV s r h fun x F1 H1 st1 v e1 s1 r1 rx h1 => ?_
  simp only [M.assoc, M.pureb] at h1
  cases x with
  | obj n =>
    obtain ⟨p, rfl, ff⟩ := rep_obj rx
    unfold tyM at h1
    dsimp only at h1
    rw [M.assoc] at h1
    obtain ⟨p', c, f2, g, k, h1⟩ := WP.cell s1 h1
    rw [ff] at f2; cases f2
    cases c with
    | dic lk kvs =>
      obtain ⟨u, hu, ws, rfl, rk⟩ := DicOk.rd k
      refine ⟨p, rfl, .inl ⟨ws, hu⟩, ?_⟩
      cases lk with
      | true => exact (h1.bind : False).elim
      | false =>
        refine seqV s1 r1 h1 fun a F2 H2 st2 w e2 s2 r2 ra h2 => seqV s2 r2 h2 fun b F3 H3 st3 z e3 s3 r3 rb h3 => ?_
        have h4 : WP _ _ (sdfM (.obj n) a b) _ _ _ _ := h3
        unfold sdfM at h4
        dsimp only at h4
        obtain ⟨p2, c2, f3, g3, k3, h4⟩ := WP.cell s3 h4
        rw [(e2.trans e3).at ff] at f3; cases f3
        cases c2 with
        | dic lk2 kvs2 =>
          cases lk2 with
          | true => exact h4.elim
          | false =>
            obtain ⟨⟨q, hz⟩, h4⟩ := h4.grdb s3
            obtain ⟨u2, hu2, d2⟩ := k3
            obtain ⟨ws2, key, rfl, rk2, rfl⟩ := d2.one q
            obtain rfl := rep_key ra
            refine ⟨ws2, key, hu2, rfl, by rw [← Paired.length rk2, ← SZ_eq]; exact hz, fun v' hv' => ?_, fun hn => ?_⟩
            · rcases lookKV (k := key) rk2 with ⟨l1, l2⟩ | ⟨d, v2, l1, l2, l3⟩
              · rw [l2] at hv'; cases hv'
              · rw [l2] at hv'; cases hv'
                rw [l1] at h4
                exact h4.pur s3 _ l3
            · rcases lookKV (k := key) rk2 with ⟨l1, l2⟩ | ⟨d, v2, l1, l2, l3⟩
              · rw [l1] at h4
                have e4 := Ext.wrote (G := sg X C Xn) (F := F3) (o := .dK (putK ws2 key z)) ((e2.trans e3).at ff) hu2 True.intro
                obtain ⟨_, s5, h5⟩ := WP.setd s3 h4 ((e2.trans e3).at ff) hu2 True.intro (c := .dic false (putD kvs2 (keyD key) b)) (o := .dK (putK ws2 key z)) ⟨_, upd_same, DicOk.mono e4 ⟨_, rfl, putKV rb rk2⟩⟩
                exact h5.pur s5 _ (rb.mono e4)
              · rw [l2] at hn; cases hn
        | _ => exact h4.elim
    | _ => exact (h1.bind : False).elim
  | _ => exact (h1.bind : False).elim
end
end
end PI

open PySem PySem.Spec PyProof.Rows L2
namespace PI

/-! # expressions, form by form -/
/-- the three readings of an expression -/
structure EOk (X : Cx) (C Xn : Nat → Addr) (W : WX) (e : Expr) (s : Sem) : Prop where
  pl : plainE e = true
  v : PE X e (tV (sg X C Xn) W s.v)
  t : notIf e = true → PT X e (tTs (sg X C Xn) W s.t)
  r : PE X e (tRk (sg X C Xn) W s.r)
  io : (s.i = fun ρ => do let d ← s.v ρ; walkM d) ∧ s.o = fun ρ => do let d ← s.v ρ; ndx d
/-- a list of them -/
structure AOk (X : Cx) (C Xn : Nat → Addr) (W : WX) (es : List Expr) (m : Rho → M (List D)) : Prop where
  pl : plainL es = true
  a : PA X es (tAs (sg X C Xn) W m)
section
variable {X : Cx} {C Xn : Nat → Addr} {lv : Nat} {W : WX} {e a b c : Expr} {es : List Expr} {ma mb mc : Rho → M D} {ms : Rho → M (List D)} {sa sb s2 : Sem} {pos : Pos}
theorem blM_out {G : Sig} {F : List Addr} {H : Hp} {st : Store} {W : Nat → List Addr → Hp → Store → Prop} {d : D} {α : Type} {k : Bool → M α} {R : α → List Addr → Hp → Store → Prop} (h : WP G W (blM d >>= k) R F H st) : ∃ b, d = .bl b ∧ WP G W (k b) R F H st := by
  cases d with
  | bl b => exact ⟨b, rfl, h⟩
  | _ => exact (h.bind : False).elim
theorem blM_end {G : Sig} {F : List Addr} {H : Hp} {st : Store} {W : Nat → List Addr → Hp → Store → Prop} {d : D} {R : Bool → List Addr → Hp → Store → Prop} (s : SR G F H st) (h : WP G W (blM d) R F H st) : ∃ b, d = .bl b ∧ R b F H st := by
  cases d with
  | bl b => exact ⟨b, rfl, h.pur s⟩
  | _ => exact (h : False).elim
theorem tTs_of {G : Sig} {m : Rho → M D} {σ : L2.St} {H : Hp} {Q : Bool → Hp → Prop} (hG : G = sg X C Xn) (h : tTs G W (fun ρ => do let d ← m ρ; truM d) σ H Q) : tV G W m σ H fun x H' => ∃ k, TruV X.K x H' k ∧ Q k H' := by
  subst hG
  obtain ⟨F, ρ, st, s, r, h⟩ := h
  exact seqV s r h fun d F1 H1 st1 v e1 s1 r1 rd h1 => tru_I ⟨F1, st1, d, _, s1, rd, h1⟩
theorem EOk.of (pl : plainE e = true) (h : PE X e (tV (sg X C Xn) W ma)) (he : ∀ whole, isTrue e X.env whole = (do let v ← whole; standAt e.pos; holding [v] (truthy v))) : EOk X C Xn W e (Sem.of ma) :=
  ⟨pl, h, fun _ => PT.imp (pt_truth h he) fun _ _ _ q => tTs_of rfl q, PE.imp h fun _ _ _ => tRk_of, rfl, rfl⟩
theorem eo_var {i : Nat} {x : Str} (hN : X.N[i]? = some x) (hv : Vis X.env.scope x) (hd : (x == ("__debug__" : Str)) = false) (hcd : (x == ("__classdict__" : Str)) = false) :
    EOk X C Xn W (.Name x pos) (Sem.of fun ρ => match ρ[i]? with
      | some (some d) => pure d
      | _ => bad) := by
  refine .of rfl (PE.imp (pe_var hN hv hd hcd) fun σ H Q h => ?_) fun _ => rfl
  obtain ⟨F, ρ, st, s, r, h⟩ := h
  dsimp only at h
  split at h
  · rename_i d q
    obtain ⟨v, e, rv⟩ := r.2 i d q
    exact ⟨v, e, h.pur s v rv⟩
  · exact h.elim
theorem eo_int {i : Int} {j} : EOk X C Xn W (.Constant (.int i) j pos) (Sem.of fun _ => pure (.int i)) :=
  .of rfl (PE.imp pe_int fun σ H Q ⟨F, ρ, st, s, r, h⟩ => h.pur s _ rfl) fun _ => rfl
theorem eo_str {x : Str} {j} : EOk X C Xn W (.Constant (.str x) j pos) (Sem.of fun _ => pure (.str x)) :=
  .of rfl (PE.imp pe_str fun σ H Q ⟨F, ρ, st, s, r, h⟩ => h.pur s _ rfl) fun _ => rfl
theorem eo_bl {x : Bool} {j} : EOk X C Xn W (.Constant (.bool x) j pos) (Sem.of fun _ => pure (.bl x)) :=
  .of rfl (PE.imp pe_bl fun σ H Q ⟨F, ρ, st, s, r, h⟩ => h.pur s _ rfl) fun _ => rfl
theorem eo_non {j} : EOk X C Xn W (.Constant .none j pos) (Sem.of fun _ => pure .non) :=
  .of rfl (PE.imp pe_non fun σ H Q ⟨F, ρ, st, s, r, h⟩ => h.pur s _ rfl) fun _ => rfl
theorem eo_glob {x : Str} {d : D} {v : V} {u : Value} (hg : Gl X x) (hm : X.mg x = some u) (r : RelV v u) (hr : ∀ F H, Rep (sg X C Xn) F H d v) (hd : (x == ("__debug__" : Str)) = false) : EOk X C Xn W (.Name x pos) (Sem.of fun _ => pure d) :=
  .of rfl (PE.imp (pe_glob hg hm r hd) fun σ H Q ⟨F, ρ, st, s, r, h⟩ => h.pur s _ (hr _ _)) fun _ => rfl
theorem ao_nil : AOk X C Xn W [] (fun _ => pure []) := ⟨rfl, PA.imp pa_nil fun σ H Q ⟨F, ρ, st, s, r, h⟩ => h.pur s _ RepL.nil⟩
theorem ao_cons (he : EOk X C Xn W e sa) (hr : AOk X C Xn W es ms) : AOk X C Xn W (e :: es) (fun ρ => do let d ← sa.v ρ; let ds ← ms ρ; pure (d :: ds)) := by
  refine ⟨by unfold plainL; rw [List.all_cons, he.pl]; exact hr.pl, PA.imp (pa_cons he.v hr.a (star_cons he.pl)) fun σ H Q h => ?_⟩
  obtain ⟨F, ρ, st, s, r, h⟩ := h
  exact seqV s r h fun d F1 H1 st1 v e1 s1 r1 rd h1 => seqA s1 r1 h1 fun ds F2 H2 st2 vs e2 s2 r2 rds h2 => h2.pur s2 _ (RepL.cons (rd.mono e2) rds)
theorem eo_tup {k} (h : AOk X C Xn W es ms) : EOk X C Xn W (.Tuple es k pos) (Sem.of fun ρ => do let ds ← ms ρ; grd (ds.length ≤ SZ); pure (.tup ds)) := by
  refine .of rfl (PE.imp (pe_tup h.a) fun σ H Q q => ?_) fun _ => rfl
  obtain ⟨F, ρ, st, s, r, q⟩ := q
  refine seqA s r q fun ds F1 H1 st1 vs e1 s1 r1 rd h1 => ?_
  obtain ⟨hz, h1⟩ := h1.grdb s1
  exact ⟨by rw [rd.length, ← SZ_eq]; exact hz, fun p hp => tupQ s1 h1 rd hp⟩
theorem eo_lst (h : AOk X C Xn W es ms) : EOk X C Xn W (.List es pos) (Sem.of fun ρ => do let ds ← ms ρ; grd (ds.length ≤ SZ); alloc (.lst ds)) := by
  refine .of rfl (PE.imp (pe_lst h.a) fun σ H Q q => ?_) fun _ => rfl
  obtain ⟨F, ρ, st, s, r, q⟩ := q
  refine seqA s r q fun ds F1 H1 st1 vs e1 s1 r1 rd h1 => ?_
  obtain ⟨hz, h1⟩ := h1.grdb s1
  exact ⟨by rw [rd.length, ← SZ_eq]; exact hz, fun p hp => WP.allocL s1 h1 rd hp⟩
theorem eo_dic : EOk X C Xn W (.Dict [] [] pos) (Sem.of fun _ => alloc (.dic false [])) := by
  refine .of rfl (PE.imp pe_dnewK fun σ H Q q => ?_) fun _ => rfl
  obtain ⟨F, ρ, st, s, r, q⟩ := q
  intro p hp
  obtain ⟨h1, h2⟩ := WP.allocd (o := .dK []) s q hp ⟨_, upd_same, [], rfl, .nil⟩
  exact h1 _ h2
theorem eo_bin {o : Operator} (ha : EOk X C Xn W a sa) (hb : EOk X C Xn W b sb) : EOk X C Xn W (.BinOp a o b pos) (Sem.of fun ρ => do let x ← sa.v ρ; let y ← sb.v ρ; binM o x y) :=
  .of rfl (pe_binI (op_binI o) ha.v hb.v) fun _ => rfl
theorem eo_neg (ha : EOk X C Xn W a sa) : EOk X C Xn W (.UnaryOp .USub a pos) (Sem.of fun ρ => do let x ← sa.v ρ; negM x) := by
  refine .of rfl (PE.imp (pe_un (un_negI (C := C) (Xn := Xn)) ha.v) fun σ H Q q => ?_) fun _ => rfl
  obtain ⟨F, ρ, st, s, r, q⟩ := q
  exact seqV s r q fun d F1 H1 st1 v e1 s1 r1 rd h1 => ⟨F1, st1, d, _, s1, rd, h1⟩
theorem eo_cmp {o : CmpOp} (hr : Room lv X.A) (ha : EOk X C Xn W a sa) (hb : EOk X C Xn W b sb) : EOk X C Xn W (.Compare a [o] [b] pos) (Sem.tst fun ρ => do let x ← sa.v ρ; let y ← sb.v ρ; cmpM lv o x y) := by
  have h := pe_cmpI (pos := pos) (op_cmpI hr o) ha.v hb.v (nomarkP hb.pl o)
  refine ⟨rfl, h, fun _ => PT.imp (pt_cmpR (op_cmpI (C := C) (Xn := Xn) hr o) ha.v hb.v (nomarkP hb.pl o)) fun σ H Q q => ?_, PE.imp h fun _ _ _ => tRk_of, rfl, rfl⟩
  obtain ⟨F, ρ, st, s, r, q⟩ := q
  unfold Sem.tst at q
  simp only [M.assoc] at q
  exact seqV s r q fun x F1 H1 st1 v e1 s1 r1 rx h1 => seqV s1 r1 h1 fun y F2 H2 st2 w e2 s2 r2 ry h2 => ⟨F2, st2, x, y, _, s2, rx.mono e2, ry, h2.bind.imp fun d F3 H3 st3 e3 s3 q3 v3 rv => by
    obtain ⟨k, rfl, q4⟩ := blM_end s3 q3
    exact ⟨k, rep_bl rv, q4⟩⟩
theorem eo_chn {o o' : CmpOp} (hr : Room lv X.A) (ha : EOk X C Xn W a sa) (hb : EOk X C Xn W b sb) (hc : EOk X C Xn W c s2) : EOk X C Xn W (.Compare a [o, o'] [b, c] pos) (Sem.tst fun ρ => do
    let x ← sa.v ρ
    let y ← sb.v ρ
    let z ← cmpM lv o x y
    let k ← blM z
    if k = true then do let w ← s2.v ρ; cmpM lv o' y w else pure (.bl false)) := by
  have hm : lastMarks [o, o'] [b, c] = false := by
    have := hc.pl
    cases c <;> first | rfl | cases this
  have h : PE X (.Compare a [o, o'] [b, c] pos) (tV (sg X C Xn) W fun ρ => do
    let x ← sa.v ρ
    let y ← sb.v ρ
    let z ← cmpM lv o x y
    let k ← blM z
    if k = true then do let w ← s2.v ρ; cmpM lv o' y w else pure (.bl false)) := by
    refine PE.imp (pe_chain (op_cmpI (C := C) (Xn := Xn) hr o) (op_cmpI (C := C) (Xn := Xn) hr o') ha.v hb.v hc.v hm) fun σ H Q q => ?_
    obtain ⟨F, ρ, st, s, r, q⟩ := q
    exact seqV s r q fun x F1 H1 st1 v e1 s1 r1 rx h1 => seqV s1 r1 h1 fun y F2 H2 st2 w e2 s2 r2 ry h2 => ⟨F2, st2, x, y, _, s2, rx.mono e2, ry, h2.bind.imp fun d F3 H3 st3 e3 s3 q3 v3 rv => by
      obtain ⟨k, rfl, q4⟩ := blM_out q3
      refine ⟨k, rep_bl rv, ?_⟩
      cases k with
      | false => exact q4.pur s3 _ rfl
      | true =>
        rw [if_pos rfl] at q4 ⊢
        exact seqV s3 (r2.mono e3) q4 fun z F4 H4 st4 u e4 s4 r4 rz h4 => ⟨F4, st4, y, z, _, s4, ry.mono (e3.trans e4), rz, h4⟩⟩
  refine ⟨rfl, h, fun _ => PT.imp (pt_chain (op_cmpI (C := C) (Xn := Xn) hr o) (op_cmpI (C := C) (Xn := Xn) hr o') ha.v hb.v hc.v hm) fun σ H Q q => ?_, PE.imp h fun _ _ _ => tRk_of, rfl, rfl⟩
  obtain ⟨F, ρ, st, s, r, q⟩ := q
  unfold Sem.tst at q
  simp only [M.assoc] at q
  exact seqV s r q fun x F1 H1 st1 v e1 s1 r1 rx h1 => seqV s1 r1 h1 fun y F2 H2 st2 w e2 s2 r2 ry h2 => ⟨F2, st2, x, y, _, s2, rx.mono e2, ry, h2.bind.imp fun d F3 H3 st3 e3 s3 q3 v3 rv => by
    obtain ⟨k, rfl, q4⟩ := blM_out q3
    refine ⟨k, rep_bl rv, ?_⟩
    cases k with
    | false =>
      rw [if_neg (by decide)] at q4 ⊢
      obtain ⟨b, e, q5⟩ := blM_end s3 (show WP _ _ (blM (.bl false)) _ _ _ _ from q4)
      cases e
      exact ⟨false, rfl, q5⟩
    | true =>
      rw [if_pos rfl] at q4 ⊢
      simp only [M.assoc] at q4
      exact seqV s3 (r2.mono e3) q4 fun z F4 H4 st4 u e4 s4 r4 rz h4 => ⟨F4, st4, y, z, _, s4, ry.mono (e3.trans e4), rz, h4.bind.imp fun d5 F5 H5 st5 e5 s5 q5 v5 rv5 => by
        obtain ⟨k, rfl, q6⟩ := blM_end s5 q5
        exact ⟨k, rep_bl rv5, q6⟩⟩⟩
theorem eo_idx (hr : Room lv X.A) (ha : EOk X C Xn W a sa) (hb : EOk X C Xn W b sb) : EOk X C Xn W (.Subscript a b pos) (Sem.of fun ρ => do let x ← sa.v ρ; let y ← sb.v ρ; idxM x y) :=
  .of rfl (PE.imp (pe_ix (ix_I (C := C) (Xn := Xn) hr) ha.v hb.v (plainIx hb.pl)) fun _ _ _ => tOp_of) fun _ => rfl
/-! ### and, or, not, if -/
def AndS (sa sb : Sem) : Sem := { Sem.of fun ρ => do let x ← sa.v ρ; let k ← blM x; if k = true then sb.v ρ else pure (.bl false) with
      t := fun ρ => do let k ← sa.t ρ; if k = true then sb.t ρ else pure false }
def OrS (sa sb : Sem) : Sem := { Sem.of fun ρ => do let x ← sa.v ρ; let k ← blM x; if k = true then pure (.bl true) else sb.v ρ with
      t := fun ρ => do let k ← sa.t ρ; if k = true then pure true else sb.t ρ }
def NotS (sa : Sem) : Sem := { Sem.of fun ρ => do let x ← sa.v ρ; let c ← blM x; pure (.bl (!c)) with
      t := fun ρ => do let c ← sa.t ρ; pure (!c) }
/-- what stands in an and (or): values and tests -/
structure BOk (X : Cx) (C Xn : Nat → Addr) (W : WX) (op : BoolOp) (es : List Expr) (pos : Pos) (s : Sem) : Prop where
  v : PE X (.BoolOp op es pos) (tV (sg X C Xn) W s.v)
  t : PW X (.BoolOp op es pos) (tTs (sg X C Xn) W s.t)
theorem bo_one {op : BoolOp} (hn : notIf a = true) (h : EOk X C Xn W a sa) : BOk X C Xn W op [a] pos sa := ⟨pe_one h.v, by
  cases op with
  | And => exact pw_and1 (h.t hn)
  | Or => exact pw_or1 (h.t hn)⟩
theorem bo_and (hn : notIf a = true) (h : EOk X C Xn W a sa) (hb : BOk X C Xn W .And (b :: es) pos sb) : BOk X C Xn W .And (a :: b :: es) pos (AndS sa sb) := by
  refine ⟨PE.imp (pe_and h.v hb.v) fun σ H Q q => ?_, PW.imp (pw_and (h.t hn) hb.t) fun σ H Q q => ?_⟩
  · obtain ⟨F, ρ, st, s, r, q⟩ := q
    refine seqV s r q fun x F1 H1 st1 v e1 s1 r1 rx h1 => ?_
    obtain ⟨k, rfl, h1⟩ := blM_out h1
    refine ⟨k, rep_bl rx, ?_⟩
    cases k with
    | true => exact endV s1 r1 h1
    | false => exact h1.pur s1 _ rfl
  · obtain ⟨F, ρ, st, s, r, q⟩ := q
    refine seqT s r q fun x F1 H1 st1 e1 s1 r1 h1 => ?_
    cases x with
    | true => exact ⟨F1, ρ, st1, s1, r1, h1⟩
    | false => exact h1.pur s1
theorem bo_or (hn : notIf a = true) (h : EOk X C Xn W a sa) (hb : BOk X C Xn W .Or (b :: es) pos sb) : BOk X C Xn W .Or (a :: b :: es) pos (OrS sa sb) := by
  refine ⟨PE.imp (pe_or h.v hb.v) fun σ H Q q => ?_, PW.imp (pw_or (h.t hn) hb.t) fun σ H Q q => ?_⟩
  · obtain ⟨F, ρ, st, s, r, q⟩ := q
    refine seqV s r q fun x F1 H1 st1 v e1 s1 r1 rx h1 => ?_
    obtain ⟨k, rfl, h1⟩ := blM_out h1
    refine ⟨k, rep_bl rx, ?_⟩
    cases k with
    | false => exact endV s1 r1 h1
    | true => exact h1.pur s1 _ rfl
  · obtain ⟨F, ρ, st, s, r, q⟩ := q
    refine seqT s r q fun x F1 H1 st1 e1 s1 r1 h1 => ?_
    cases x with
    | false => exact ⟨F1, ρ, st1, s1, r1, h1⟩
    | true => exact h1.pur s1
theorem BOk.eo {op : BoolOp} (h : BOk X C Xn W op es pos sa) (hr : sa.r = fun ρ => do let d ← sa.v ρ; rowK d) (hi : (sa.i = fun ρ => do let d ← sa.v ρ; walkM d) ∧ sa.o = fun ρ => do let d ← sa.v ρ; ndx d) : EOk X C Xn W (.BoolOp op es pos) sa := ⟨rfl, h.v, fun _ => h.t.pt, PE.imp h.v fun σ H Q q => (by
  rw [hr] at q
  exact tRk_of q), hi⟩
theorem eo_not (hn : notIf a = true) (h : EOk X C Xn W a sa) : EOk X C Xn W (.UnaryOp .Not a pos) (NotS sa) := by
  have hv : PE X (.UnaryOp .Not a pos) (tV (sg X C Xn) W (NotS sa).v) := PE.imp (pe_not h.v) fun σ H Q q => by
    obtain ⟨F, ρ, st, s, r, q⟩ := q
    refine seqV s r q fun x F1 H1 st1 v e1 s1 r1 rx h1 => ?_
    obtain ⟨k, rfl, h1⟩ := blM_out h1
    exact ⟨k, rep_bl rx, h1.pur s1 _ rfl⟩
  refine ⟨rfl, hv, fun _ => PT.imp (pt_not (h.t hn)) fun σ H Q q => ?_, PE.imp hv fun _ _ _ => tRk_of, rfl, rfl⟩
  obtain ⟨F, ρ, st, s, r, q⟩ := q
  exact seqT s r q fun x F1 H1 st1 e1 s1 r1 h1 => h1.pur s1
theorem eo_ife (hn : notIf c = true) (hc : EOk X C Xn W c s2) (ha : EOk X C Xn W a sa) (hb : EOk X C Xn W b sb) : EOk X C Xn W (.IfExp c a b pos) (Sem.of fun ρ => do let k ← s2.t ρ; if k = true then sa.v ρ else sb.v ρ) := by
  have h : PE X (.IfExp c a b pos) (tV (sg X C Xn) W fun ρ => do let k ← s2.t ρ; if k = true then sa.v ρ else sb.v ρ) := PE.imp (pe_ifExp (hc.t hn) ha.v hb.v) fun σ H Q q => by
    obtain ⟨F, ρ, st, s, r, q⟩ := q
    refine seqT s r q fun x F1 H1 st1 e1 s1 r1 h1 => ?_
    cases x with
    | true => exact endV s1 r1 h1
    | false => exact endV s1 r1 h1
  exact ⟨rfl, h, (fun z => nomatch z), PE.imp h fun _ _ _ => tRk_of, rfl, rfl⟩
/-! ### slices -/
theorem po_of (h : EOk X C Xn W a sa) : PO X (some a) (tOs (sg X C Xn) W sa.o) := by
  rw [h.io.2]
  refine ⟨fun pins s σ H Q I q => (po_some h.v).run pins s σ H Q I ?_⟩
  obtain ⟨F, ρ, st, s, r, q⟩ := q
  refine seqV s r q fun d F1 H1 st1 v e1 s1 r1 rd h1 => ?_
  unfold ndx at h1
  split at h1
  · exact ⟨_, rep_int rd, h1.pur s1⟩
  · exact h1.elim
theorem po_no : PO X none (tOs (sg X C Xn) W fun _ => pure none) :=
  ⟨fun pins s σ H Q I ⟨F, ρ, st, sr, r, q⟩ => po_none.run pins s σ H Q I (q.pur sr)⟩
theorem eo_slc {lo hi : Option Expr} {ml mh : Rho → M (Option Int)} {p2 : Pos} (ha : EOk X C Xn W a sa) (hl : PO X lo (tOs (sg X C Xn) W ml)) (hh : PO X hi (tOs (sg X C Xn) W mh)) :
    EOk X C Xn W (.Subscript a (.Slice lo hi none p2) pos) (Sem.of fun ρ => do let x ← sa.v ρ; let l ← ml ρ; let h ← mh ρ; slcM x l h) := by
  refine .of rfl (PE.imp (pe_slice (sl_I (C := C) (Xn := Xn)) ha.v hl hh) fun σ H Q q => ?_) fun _ => rfl
  obtain ⟨F, ρ, st, s, r, q⟩ := q
  exact seqV s r q fun x F1 H1 st1 v e1 s1 r1 rx h1 => seqO s1 r1 h1 fun l F2 H2 st2 e2 s2 r2 h2 => seqO s2 r2 h2 fun u F3 H3 st3 e3 s3 r3 h3 => ⟨F3, st3, x, _, s3, rx.mono (e2.trans e3), h3⟩
end
end PI

open PySem PySem.Spec PyProof.Rows L2
namespace PI

/-! # calls -/
def spM (G : Sig) (m : List D → M D) : Sp := fun vs H Q E => ∃ F st ds, SR G F H st ∧ RepL G F H ds vs ∧ WP G (fun c _ H' _ => E (.ref (G.X c)) none H') (m ds) (fun d F' H' _ => ∀ v, Rep G F' H' d v → Q v H') F H st
def newM (k : Nat) (m : List D → M D) (ds : List D) : M D := do
  let x ← alloc (.ins k [])
  let r ← m (x :: ds)
  match r with
  | .non => pure x
  | _ => bad
section
variable {X : Cx} {C Xn : Nat → Addr} {lv : Nat} {W : WX} {e a b c o : Expr} {es : List Expr} {ma mb mc : Rho → M D} {ms : Rho → M (List D)} {sa sb s2 so : Sem} {pos p apos : Pos} {x m : Str}
theorem bk_any {env : PySem.Env} (h : plainL (e :: es) = true) {pos : Pos} : (backTo pos (starEach es env)).any (·.1) = false := by
  unfold plainL at h
  rw [List.all_cons, Bool.and_eq_true] at h
  exact (star_all (es := es) h.2).1
theorem pl_hd (h : plainL (e :: es) = true) : plainE e = true := by
  unfold plainL at h
  rw [List.all_cons, Bool.and_eq_true] at h
  exact h.1
theorem eo_bif {id : String} {op : List D → M D} (hc : CallR X (.builtin id) (rML (sg X C Xn) op)) (hv : bootBuiltins x = some (.builtin id)) (hg : Gl X x) (hm : X.mg x = none) (hn : x ≠ "__name__") (hd : (x == ("__debug__" : Str)) = false) (h : AOk X C Xn W (e :: es) ms) :
    EOk X C Xn W (.Call (.Name x p) (e :: es) [] pos) (Sem.of fun ρ => do let ds ← ms ρ; op ds) := by
  refine .of rfl (PE.imp (pe_callB hc hg hm hv h.a hn hd (star_cons (pl_hd h.pl)) (bk_any h.pl)) fun σ H Q q => ?_) fun _ => rfl
  obtain ⟨F, ρ, st, s, r, q⟩ := q
  exact seqA s r q fun ds F1 H1 st1 vs e1 s1 r1 rd h1 => ⟨F1, st1, ds, _, s1, rd, h1⟩
theorem eo_tyf {id : String} {op : List D → M D} (hc : CallR X (.type id) (rML (sg X C Xn) op)) (hv : bootBuiltins x = some (.type id)) (hg : Gl X x) (hm : X.mg x = none) (hn : x ≠ "__name__") (hd : (x == ("__debug__" : Str)) = false) (h : AOk X C Xn W (e :: es) ms) :
    EOk X C Xn W (.Call (.Name x p) (e :: es) [] pos) (Sem.of fun ρ => do let ds ← ms ρ; op ds) := by
  refine .of rfl (PE.imp (pe_callTy hc hg hm hv h.a hn hd (star_cons (pl_hd h.pl)) (bk_any h.pl)) fun σ H Q q => ?_) fun _ => rfl
  obtain ⟨F, ρ, st, s, r, q⟩ := q
  exact seqA s r q fun ds F1 H1 st1 vs e1 s1 r1 rd h1 => ⟨F1, st1, ds, _, s1, rd, h1⟩
/-- one argument that is used up as a row -/
theorem tSq_of {G : Sig} {m : Rho → M (Rk × List D)} {op : Rk × List D → M D} {σ : L2.St} {H : Hp} {Q : VK} (q : tV G W (fun ρ => do let w ← m ρ; op w) σ H Q) : tCB (rSq G op) (tCons (tRk G W m) tNil) σ H Q := by
  obtain ⟨F, ρ, st, s, r, q⟩ := q
  exact seqK s r q fun w F1 H1 st1 v e1 s1 r1 rw h1 => ⟨F1, st1, w, v, _, s1, rfl, rw, h1⟩
theorem eo_sqb {id : String} {op : Rk × List D → M D} (hc : CallR X (.builtin id) (rSq (sg X C Xn) op)) (hv : bootBuiltins x = some (.builtin id)) (hg : Gl X x) (hm : X.mg x = none) (hn : x ≠ "__name__") (hd : (x == ("__debug__" : Str)) = false) (h : EOk X C Xn W e sa) :
    EOk X C Xn W (.Call (.Name x p) [e] [] pos) (Sem.of fun ρ => do let w ← sa.r ρ; op w) :=
  .of rfl (PE.imp (pe_callB hc hg hm hv (pa_cons h.r pa_nil (star_cons h.pl)) hn hd (star_cons h.pl) rfl) fun σ H Q q => tSq_of q) fun _ => rfl
theorem eo_sqt {id : String} {op : Rk × List D → M D} (hc : CallR X (.type id) (rSq (sg X C Xn) op)) (hv : bootBuiltins x = some (.type id)) (hg : Gl X x) (hm : X.mg x = none) (hn : x ≠ "__name__") (hd : (x == ("__debug__" : Str)) = false) (h : EOk X C Xn W e sa) :
    EOk X C Xn W (.Call (.Name x p) [e] [] pos) (Sem.of fun ρ => do let w ← sa.r ρ; op w) :=
  .of rfl (PE.imp (pe_callTy hc hg hm hv (pa_cons h.r pa_nil (star_cons h.pl)) hn hd (star_cons h.pl) rfl) fun σ H Q q => tSq_of q) fun _ => rfl
/-- isinstance(e, T), T built in -/
theorem eo_isi {t : Ty} {tn : Str} {tp : Pos} (ht : ∀ n, t ≠ .cls n) (hg : Gl X "isinstance") (hm : X.mg "isinstance" = none) (hgt : Gl X tn) (hmt : X.mg tn = none) (hvt : bootBuiltins tn = some (.type (tyS t))) (hnt : tn ≠ "__name__") (hdt : (tn == ("__debug__" : Str)) = false) (h : EOk X C Xn W e sa) :
    EOk X C Xn W (.Call (.Name "isinstance" p) [e, .Name tn tp] [] pos) (Sem.of fun ρ => do let x ← sa.v ρ; isiM x t) := by
  have ha : PA X [e, .Name tn tp] (tCons (tV (sg X C Xn) W sa.v) (tCons (tC (.ty (tyS t))) tNil)) := pa_cons h.v (pa_cons (pe_bltn hgt hmt hvt rfl hnt hdt) pa_nil rfl) (star_cons h.pl)
  refine .of rfl (PE.imp (pe_callB call_isi hg hm boot_isinstance ha (by decide) (by decide) (star_cons h.pl) rfl) fun σ H Q q => ?_) fun _ => rfl
  obtain ⟨F, ρ, st, s, r, q⟩ := q
  refine seqV s r q fun d F1 H1 st1 v e1 s1 r1 rd h1 => ?_
  obtain ⟨u, b, ty, k, q⟩ := isi_out ht s1 rd h1
  exact ⟨v, .ty (tyS t), u, .type (tyS t), b, rfl, .ty _, ty, k, q _ rfl⟩
/-! ### own defs -/
theorem pe_call0S {f : Addr} {fd : FuncData} {ps : List Str} {sp : Sp} {CX : CXT} {k : Nat} {E : L2.St → XK} (F : FnOk X.prog X.w X.K X.mg X.base CX k f fd ps sp) (hr : Room k X.A) (hg : Gl X x) (hm : X.mg x = some (.ref f)) (hk : PySem.W.keepIn X.K (.ref f) = true) (hb : Binds X.K fd ps []) (hx : ∀ σ, PassesAt CX X σ (E σ))
    (hdb : (x == ("__debug__" : Str)) = false) : PE X (.Call (.Name x p) [] [] pos) (tCallS sp E tNil) := by
  refine ⟨fun pins s σ H Q I h => ?_⟩
  refine wpAny_Call_Name_kw (ld_glob I hg hm ?_ hdb)
  exact PySem.W.callWith_K0 I.kIn hk (run_fnS (us := []) F hr hb (hx σ) I .nil h)
/-- the callee's promise, from a part of a computation -/
theorem sp_end {G : Sig} {F : List Addr} {H : Hp} {st : Store} {σ : L2.St} {Q : VK} {ds : List D} {vs : List V} {m : List D → M D} (s : SR G F H st) (r : RepL G F H ds vs) (h : WP G (WV G W σ) (m ds) (fun d F' H' _ => ∀ v, Rep G F' H' d v → Q v H') F H st) :
    spM G m vs H Q (WE W σ) := ⟨F, st, ds, s, r, h⟩
theorem eo_cal {f : Addr} {fd : FuncData} {ps : List Str} {op : List D → M D} (tk : Takes X W) (Fn : FnOk X.prog X.w X.K X.mg X.base (L2.CX X.prog X.w) lv f fd ps (spM (sg X C Xn) op)) (hr : Room lv X.A) (hg : Gl X x) (hm : X.mg x = some (.ref f)) (hk : PySem.W.keepIn X.K (.ref f) = true)
    (hb : Binds X.K fd ps []) (hd : (x == ("__debug__" : Str)) = false) (h : AOk X C Xn W (e :: es) ms) : EOk X C Xn W (.Call (.Name x p) (e :: es) [] pos) (Sem.of fun ρ => do let ds ← ms ρ; op ds) := by
  refine .of rfl (PE.imp (pe_callS Fn hr hg hm hk hb (fun σ => passAt tk σ) h.a hd (star_cons (pl_hd h.pl)) (bk_any h.pl)) fun σ H Q q => ?_) fun _ => rfl
  obtain ⟨F, ρ, st, s, r, q⟩ := q
  exact seqA s r q fun ds F1 H1 st1 vs e1 s1 r1 rd h1 => sp_end s1 rd h1
theorem eo_cal0 {f : Addr} {fd : FuncData} {ps : List Str} {op : List D → M D} (tk : Takes X W) (Fn : FnOk X.prog X.w X.K X.mg X.base (L2.CX X.prog X.w) lv f fd ps (spM (sg X C Xn) op)) (hr : Room lv X.A) (hg : Gl X x) (hm : X.mg x = some (.ref f)) (hk : PySem.W.keepIn X.K (.ref f) = true)
    (hb : Binds X.K fd ps []) (hd : (x == ("__debug__" : Str)) = false) : EOk X C Xn W (.Call (.Name x p) [] [] pos) (Sem.of fun ρ => do let ds ← (fun _ => pure [] : Rho → M (List D)) ρ; op ds) := by
  refine .of rfl (PE.imp (pe_call0S Fn hr hg hm hk hb (fun σ => passAt tk σ) hd) fun σ H Q q => ?_) fun _ => rfl
  obtain ⟨F, ρ, st, s, r, q⟩ := q
  exact sp_end s RepL.nil q
/-! ### own instances -/
theorem insM_out {G : Sig} {F : List Addr} {H : Hp} {st : Store} {V' : Nat → List Addr → Hp → Store → Prop} {d : D} {v : V} {α : Type} {k : Nat × Nat × List (Str × D) → M α} {R : α → List Addr → Hp → Store → Prop} (s : SR G F H st) (r : Rep G F H d v) (h : WP G V' (insM d >>= k) R F H st) :
    ∃ q n cc fs dx ws, v = .ref q ∧ d = .obj n ∧ F[n]? = some q ∧ st[n]? = some (.ins cc fs) ∧ H q = some (.ins (G.C cc) dx ws) ∧ Paired (fun p q => p.1 = q.1 ∧ Rep G F H p.2 q.2) fs ws ∧ WP G V' (k (n, cc, fs)) R F H st := by
  cases d with
  | obj n =>
    obtain ⟨q, rfl, f⟩ := rep_obj r
    have h2 := h
    unfold insM at h2
    rw [M.assoc] at h2
    obtain ⟨q', cl, f2, g, kk, h2⟩ := WP.cell s h2
    rw [f] at f2; cases f2
    cases cl with
    | ins cc fs =>
      obtain ⟨dx, ws, k1, r2⟩ := kk
      exact ⟨q, n, cc, fs, dx, ws, rfl, rfl, f, g, k1, r2, h2⟩
    | _ => exact h2.bind.elim
  | _ => exact (h.bind : False).elim
theorem look_fs {G : Sig} {F : List Addr} {H : Hp} {f : Str} : ∀ {fs : List (Str × D)} {ws : List (Str × V)}, Paired (fun p q => p.1 = q.1 ∧ Rep G F H p.2 q.2) fs ws → (fs.lookup f = none ∧ ws.lookup f = none) ∨ ∃ d v, fs.lookup f = some d ∧ ws.lookup f = some v ∧ Rep G F H d v
  | _, _, .nil => .inl ⟨rfl, rfl⟩
  | (g, d) :: fs, (g', v) :: ws, .cons r t => by
    obtain ⟨e, rd⟩ := r
    dsimp only at e rd
    subst e
    rw [List.lookup_cons, List.lookup_cons]
    cases q : f == g with
    | true => exact .inr ⟨d, v, rfl, rfl, rd⟩
    | false => exact look_fs t
theorem eo_att {f : Str} {mt : Nat → Str → Option (Option Nat)} (hfa : ∀ k f, mt k f = some none → Cls X.K (C k) ∧ NoAttr X.K (C k) f) (po : abOk e = true) (h : EOk X C Xn W e sa) :
    EOk X C Xn W (.Attribute e f pos) (Sem.of fun ρ => do let x ← sa.v ρ; let w ← insM x; grd (mt w.2.1 f = some none); opt (w.2.2.lookup f)) := by
  refine .of rfl (PE.imp (pe_fld h.v (abBase po _)) fun σ H Q q => ?_) fun _ => rfl
  obtain ⟨F, ρ, st, s, r, q⟩ := q
  refine seqV s r q fun x F1 H1 st1 v e1 s1 r1 rx h1 => ?_
  obtain ⟨q, n, cc, fs, dx, ws, rfl, rfl, f1, f2, f3, f4, h1⟩ := insM_out s1 rx h1
  obtain ⟨g1, h1⟩ := h1.grdb s1
  obtain ⟨d, g2, h1⟩ := WP.opte s1 h1
  obtain ⟨c1, c2⟩ := hfa _ _ g1
  rcases look_fs (f := f) f4 with ⟨l1, l2⟩ | ⟨d', v', l1, l2, l3⟩
  · dsimp only at g2
    rw [l1] at g2; cases g2
  · dsimp only at g2
    rw [l1] at g2; cases g2
    exact ⟨q, C cc, dx, ws, v', rfl, f3, c1, c2, l2, h1 _ l3⟩
theorem mcall_eq {env : PySem.Env} (po : abOk o = true) (hp : plainL es = true) (hz : es.length < 30) (hl : (apos.endLine == pos.line) = true) : eval (.Call (.Attribute o m apos) es [] pos) env = (do
      let ov ← eval o env
      standAt apos.atName
      let (f, first) ← holding [ov] (getMethod ov m (do return (← importBound o env).getD true))
      callWith pos f first (backTo pos (starEach es env)) (backToKw pos (keywordEach [] env))) := by
  have e1 : methodCallForm (es.length + ([] : List Keyword).length) (backTo pos (starEach es env)) (backToKw pos (keywordEach [] env)) = true := few_all hp hz
  rw [arm_eval_Call, abBase po]
  unfold methodCall methodCallPos calleeOf
  simp only [e1, hl, Bool.not_true, Bool.false_or, if_true]
  rfl
theorem eo_mcl {mt : Nat → Str → Option (Option Nat)} {cl : Nat → List D → M D} (tk : Takes X W) (hr : Room lv X.A)
    (hmt : ∀ k m f, mt k m = some (some f) → Cls X.K (C k) ∧ ∃ fa, Meth X.K (C k) m fa ∧ ∃ fd ps, Binds X.K fd ps [] ∧ FnOk X.prog X.w X.K X.mg X.base (L2.CX X.prog X.w) lv fa fd ps (spM (sg X C Xn) (cl f)))
    (po : abOk o = true) (hz : es.length < 30) (hl : (apos.endLine == pos.line) = true) (ho : EOk X C Xn W o so) (h : AOk X C Xn W es ms) (hnil : es = [] → ms = fun _ => pure []) :
    EOk X C Xn W (.Call (.Attribute o m apos) es [] pos) (Sem.of fun ρ => do let x ← so.v ρ; let w ← insM x; let f ← opt ((mt w.2.1 m).bind id); grd (w.2.2.lookup m = none); let ds ← ms ρ; cl f (x :: ds)) := by
  refine .of rfl ⟨fun pins s σ H Q I q => ?_⟩ fun _ => rfl
  have go : tV (sg X C Xn) W so.v σ H fun v H1 => ∃ (qa : Addr) (n cc : Nat) (dx : Addr) (ws : List (Str × V)) (f : Nat), v = .ref qa ∧ H1 qa = some (.ins (C cc) dx ws) ∧ mt cc m = some (some f) ∧ ws.lookup m = none ∧
      tAs (sg X C Xn) W ms σ H1 fun vs H2 => spM (sg X C Xn) (cl f) (.ref qa :: vs) H2 Q (WE W σ) := by
    obtain ⟨F, ρ, st, s, r, q⟩ := q
    refine seqV s r q fun x F1 H1 st1 v e1 s1 r1 rx h1 => ?_
    obtain ⟨qa, n, cc, fs, dx, ws, rfl, rfl, f1, f2, f3, f4, h1⟩ := insM_out s1 rx h1
    obtain ⟨f, g1, h1⟩ := WP.optb s1 h1
    obtain ⟨g2, h1⟩ := h1.grdb s1
    have g3 : mt cc m = some (some f) := by
      dsimp only at g1
      cases z : mt cc m with
      | none => rw [z] at g1; cases g1
      | some y => rw [z] at g1; cases y with
        | none => cases g1
        | some y => cases g1; rfl
    rcases look_fs (f := m) f4 with ⟨l1, l2⟩ | ⟨d', v', l1, l2, l3⟩
    · refine ⟨qa, n, cc, dx, ws, f, rfl, f3, g3, l2, ?_⟩
      exact seqA s1 r1 h1 fun ds F2 H2 st2 vs e2 s2 r2 rd h2 => sp_end s2 (RepL.cons (rx.mono e2) rd) h2
    · dsimp only at g2
      rw [l1] at g2; cases g2
  refine PySem.W.methodCall_KW (pl := do return (← importBound o X.env).getD true) (thn (ho.v.run pins s σ H _ I go) fun u s1 q1 => ?_) (mcall_eq po h.pl hz hl)
  obtain ⟨v, H1, I1, rv, qa, n, cc, dx, ws, f, rfl, e1, e2, e3, q2⟩ := q1
  obtain rfl : u = Value.ref qa := rv
  obtain ⟨c1, fa, c2, fd, ps, c3, c4⟩ := hmt _ _ _ e2
  refine getmeth_ok I1 e1 c1 c2 e3 ?_
  cases es with
  | nil =>
    rw [hnil rfl] at q2
    refine PySem.W.callWith_K0 (first := [.ref qa]) I1.kIn c2.kp ?_
    obtain ⟨F, ρ, st, s, r, q3⟩ := q2
    exact run_fnS (us := [.ref qa]) (vs := [.ref qa]) c4 hr c3 (passAt tk σ) I1 (.cons rfl .nil) (q3.pur s _ RepL.nil)
  | cons e es =>
    refine PySem.W.callWith_K (first := [.ref qa]) (h₀ := X.base) I1.ok.mod.kin c2.kp (thn (h.a.run pos pins s1 σ H1 _ I1 q2) fun us s2 ⟨vs, H2, I2, r, q3⟩ => ⟨I2.kIn, ?_⟩) (star_cons (pl_hd h.pl)) (bk_any h.pl)
    exact run_fnS (us := .ref qa :: us) (vs := .ref qa :: vs) c4 hr c3 (passAt tk σ) I2 (.cons rfl r) q3
/-! ### a new instance -/
theorem run_makeS {pins : List (Addr × Obj)} {σ : L2.St} {H : Hp} {s : Shared} {Q : VK} {us : List Value} {vs : List V} {f Ca : Addr} {fd : FuncData} {ps : List Str} {sp : Sp} {CX : CXT} {k : Nat} {E : XK} (Mk0 : Mk X.K Ca f) (F : FnOk X.prog X.w X.K X.mg X.base CX k f fd ps sp) (hr : Room (k + 1) X.A) (hb : Binds X.K fd ps [])
    (hx : ∀ (H : Hp) (s : Shared) (e : Value) (s' : Shared), Inv X pins σ H s → CX X.stack H s E e s' → X.xe e s') (I : Inv X pins σ H s) (r : Vals vs us)
    (h : ∀ x dx, H x = none → H dx = none → dx ≠ x → sp (.ref x :: vs) (upd (upd H dx (.own x)) x (.ins Ca dx [])) (fun v H2 => v = .non ∧ Q (.ref x) H2) E) :
    wpAny (model X.prog X.w) X.A (PySem.call (.ref Ca) us) (EP X pins σ Q) X.xe s := by
  have hq := h (s.heap.objs.size + 1) s.heap.objs.size (I.hok.fresh (Nat.le_succ _)) (I.hok.fresh (Nat.le_refl _)) (Nat.ne_of_lt (Nat.lt_succ_self _))
  have I2 := Inv.made (C := Ca) I
  have r2 : Vals (V.ref (s.heap.objs.size + 1) :: vs) (Value.ref (s.heap.objs.size + 1) :: us) := .cons rfl r
  have hl : (Value.ref (s.heap.objs.size + 1) :: us).length = ps.length := by
    have e := r2.length
    rw [F.len _ _ _ _ hq] at e
    exact e.symm
  have b := hb { s with heap := (s.heap.push PySem.W.emptyDict).push (PySem.W.instObj Ca s.heap.objs.size) } (Value.ref (s.heap.objs.size + 1) :: us) I2.kIn (by rw [List.append_nil]; exact hl)
  rw [List.append_nil] at b
  refine wpAny_call (make_map (f := f) I.kIn Mk0.makes Mk0.init (beq_iff_eq.mp Mk0.fn) (codeAny_mono (F.run _ X.stack _ _ ⟨Value.ref (s.heap.objs.size + 1) :: us, []⟩ (Value.ref (s.heap.objs.size + 1) :: us) _ _ E (hr.make Ca us [])
    (I2.env0.make Ca us []) b r2 hq) fun r s' hq' => ?_))
  cases r with
  | error e => exact hx _ _ e s' I2 hq'
  | ok fl =>
    cases fl with
    | ret u =>
      obtain ⟨v, H', I3, rv, ev, q3⟩ := I2.after hq'
      subst ev
      exact ⟨rv, ⟨V.ref (s.heap.objs.size + 1), H', I3, rfl, q3⟩⟩
    | next => exact False.elim hq'
    | brk => exact False.elim hq'
    | cont => exact False.elim hq'
/-- the new instance, by the store -/
theorem new_sp {G : Sig} {F : List Addr} {H : Hp} {st : Store} {σ : L2.St} {Q : VK} {ds : List D} {vs : List V} {k : Nat} {m : List D → M D} (s : SR G F H st) (r : RepL G F H ds vs)
    (h : WP G (WV G W σ) (newM k m ds) (fun d F' H' _ => ∀ v, Rep G F' H' d v → Q v H') F H st) {q dx : Addr} (hq : H q = none) (hdx : H dx = none) (hne : dx ≠ q) :
    spM G m (.ref q :: vs) (upd (upd H dx (.own q)) q (.ins (G.C k) dx [])) (fun v H2 => v = .non ∧ Q (.ref q) H2) (WE W σ) := by
  have s1 : SR G F (upd H dx (.own q)) st := s.new hdx
  have x1 : Ext G F H F (upd H dx (.own q)) := Ext.new hdx
  have hq1 : (upd H dx (.own q)) q = none := by rw [upd_ne (Ne.symm hne)]; exact hq
  have x2 : Ext G F (upd H dx (.own q)) (F ++ [q]) (upd (upd H dx (.own q)) q (.ins (G.C k) dx [])) := Ext.laid hq1
  have s2 : SR G (F ++ [q]) (upd (upd H dx (.own q)) q (.ins (G.C k) dx [])) (st ++ [.ins k []]) := s1.laid hq1 ⟨dx, [], upd_same, .nil⟩
  have h1 := h.bind (F ++ [q]) _ (x1.trans x2) s2
  have rq : Rep G (F ++ [q]) (upd (upd H dx (.own q)) q (.ins (G.C k) dx [])) (.obj st.length) (.ref q) := by
    rw [Rep]
    exact ⟨q, rfl, by rw [← s.len, List.getElem?_append_right (Nat.le_refl _)]; simp⟩
  refine ⟨F ++ [q], _, .obj st.length :: ds, s2, RepL.cons rq (r.mono (x1.trans x2)), h1.bind.imp fun d F3 H3 st3 e3 s3 q3 v rv => ?_⟩
  cases d with
  | non => exact ⟨rep_non rv, q3.pur s3 _ (rq.mono e3)⟩
  | _ => exact (q3 : False).elim
theorem eo_new {f : Addr} {fd : FuncData} {ps : List Str} {k j : Nat} {op : List D → M D} (tk : Takes X W) (Mk0 : Mk X.K (C k) f) (Fn : FnOk X.prog X.w X.K X.mg X.base (L2.CX X.prog X.w) j f fd ps (spM (sg X C Xn) op)) (hr : Room (j + 1) X.A) (hg : Gl X x) (hm : X.mg x = some (.ref (C k)))
    (hb : Binds X.K fd ps []) (hd : (x == ("__debug__" : Str)) = false) (h : AOk X C Xn W es ms) (hnil : es = [] → ms = fun _ => pure []) : EOk X C Xn W (.Call (.Name x p) es [] pos) (Sem.of fun ρ => do let ds ← ms ρ; newM k op ds) := by
  refine .of rfl ⟨fun pins s σ H Q I q => ?_⟩ fun _ => rfl
  refine wpAny_Call_Name_kw (ld_glob I hg hm ?_ hd)
  have hx : ∀ (H : Hp) (s : Shared) (e : Value) (s' : Shared), Inv X pins σ H s → L2.CX X.prog X.w X.stack H s (WE W σ) e s' → X.xe e s' := fun H s e s' I c => passAt tk σ pins H s e s' I c
  cases es with
  | nil =>
    rw [hnil rfl] at q
    obtain ⟨F, ρ, st, sr, r, q⟩ := q
    exact PySem.W.callWith_K0 I.kIn Mk0.kp (run_makeS (us := []) (vs := []) Mk0 Fn hr hb hx I .nil fun x dx h1 h2 h3 => new_sp sr RepL.nil q h1 h2 h3)
  | cons e es =>
    have go : tAs (sg X C Xn) W ms σ H fun vs H1 => ∀ x dx, H1 x = none → H1 dx = none → dx ≠ x → spM (sg X C Xn) op (.ref x :: vs) (upd (upd H1 dx (.own x)) x (.ins (C k) dx [])) (fun v H2 => v = .non ∧ Q (.ref x) H2) (WE W σ) := by
      obtain ⟨F, ρ, st, sr, r, q⟩ := q
      exact seqA sr r q fun ds F1 H1 st1 vs e1 s1 r1 rd h1 x dx h2 h3 h4 => new_sp s1 rd h1 h2 h3 h4
    refine PySem.W.callWith_K (h₀ := X.base) I.ok.mod.kin Mk0.kp (thn (h.a.run pos pins s σ H _ I go) fun us s1 ⟨vs, H1, I1, r, q⟩ => ⟨I1.kIn, ?_⟩) (star_cons (pl_hd h.pl)) (bk_any h.pl)
    exact run_makeS Mk0 Fn hr hb hx I1 r q
end
end PI

open PySem PySem.Spec PyProof.Rows L2
namespace PI

/-! # what is walked -/
structure Wk (G : Sig) (J : It) (g : Gd) (ds : List D) (F0 : List Addr) (H0 : Hp) : Prop where
  goes : ∀ i F H st, Ext G F0 H0 F H → SR G F H st → g.ok st → i < ds.length → J.go i H
  stops : ∀ F H st, Ext G F0 H0 F H → SR G F H st → g.ok st → J.stop ds.length H
  yields : ∀ i F H st x H', Ext G F0 H0 F H → SR G F H st → g.ok st → i < ds.length → J.yld i H x H' → ∃ d, ds[i]? = some d ∧ Ext G F H F H' ∧ SR G F H' st ∧ Rep G F H' d x
/-- H1 is H, the dict that is walked locked -/
def Lkd (X : Cx) (g : Gd) (F : List Addr) (H H1 : Hp) : Prop := match g with
  | .di n _ => ∃ d od ws, F[n]? = some d ∧ H d = some (.dK ws) ∧ H1 = upd H d (.frz od (.dK ws)) ∧ ∀ o' u', X.H_0 d ≠ some (.frz o' u')
  | _ => H1 = H
def tIs (X : Cx) (C Xn : Nat → Addr) (W : WX) (m : Rho → M (List D × Gd)) : TI := fun σ H R => ∃ F ρ st, SR (sg X C Xn) F H st ∧ RhoR (sg X C Xn) F H ρ σ ∧
  WP (sg X C Xn) (WV (sg X C Xn) W σ) (m ρ) (fun w F1 H1 st1 => ∃ st2, lockG w.2 st1 = .ok () st2 ∧ ∀ J H2, Lkd X w.2 F1 H1 H2 → Ext (sg X C Xn) F1 H1 F1 H2 → SR (sg X C Xn) F1 H2 st2 → Wk (sg X C Xn) J w.2 w.1 F1 H2 → R J H2) F H st
structure IOk (X : Cx) (C Xn : Nat → Addr) (W : WX) (tg it : Expr) (m : Rho → M (List D × Gd)) : Prop where
  i : PI X tg it (tIs X C Xn W m)
  f : ∀ x, foldedSetIterable it X.env x = pure x
section
variable {G : Sig} {F F0 : List Addr} {H H0 : Hp} {st : Store} {K : PySem.W.Frag}
/-! ### walks -/
theorem wk_of {J : It} {n : Nat} {P : Hp → Prop} {Y : Nat → Hp → V → Hp → Prop} {g : Gd} {ds : List D} (w : Walk J n P Y) (hn : n = ds.length) (hP : ∀ F H st, Ext G F0 H0 F H → SR G F H st → g.ok st → P H)
    (hY : ∀ i F H st x H', Ext G F0 H0 F H → SR G F H st → g.ok st → i < ds.length → Y i H x H' → ∃ d, ds[i]? = some d ∧ Ext G F H F H' ∧ SR G F H' st ∧ Rep G F H' d x) : Wk G J g ds F0 H0 :=
  ⟨fun i F H st e s g hi => w.goes i H (hn ▸ hi) (hP F H st e s g), fun F H st e s g => hn ▸ w.stops H (hP F H st e s g), fun i F H st x H' e s g hi y => hY i F H st x H' e s g hi (w.yields i H x H' (hn ▸ hi) (hP F H st e s g) y)⟩
/-- a list or tuple that stays, or a list of the store while the guard holds -/
structure RowG (G : Sig) (P : Hp → List V → Prop) (g : Gd) (ds : List D) (F0 : List Addr) (H0 : Hp) : Prop where
  at_ : ∀ F H st, Ext G F0 H0 F H → SR G F H st → g.ok st → ∃ vs, P H vs ∧ RepL G F H ds vs
theorem rowG_fz {a : Addr} {ds : List D} {vs : List V} (h : FzL G.K H0 a vs) (r : RepL G F0 H0 ds vs) : RowG G (fun H vs => SqL G.K H a vs) .no ds F0 H0 := ⟨fun F H st e s _ => ⟨vs, (e.fz a vs h).seq, r.mono e⟩⟩
theorem rowG_tup {a : Addr} {ds : List D} {vs : List V} (h : SqT G.K H0 a vs) (r : RepL G F0 H0 ds vs) : RowG G (fun H vs => SqT G.K H a vs) .no ds F0 H0 := ⟨fun F H st e s _ => ⟨vs, e.tup a vs h, r.mono e⟩⟩
theorem rowG_ls {a : Addr} {n : Nat} {ds : List D} (h : F0[n]? = some a) : RowG G (fun H vs => SqL G.K H a vs) (.ls n ds) ds F0 H0 := ⟨fun F H st e s g => by
  obtain ⟨vs, h1, h2⟩ := s.ok n a _ (e.at h) g
  exact ⟨vs, .inl (.inl h1), h2⟩⟩
theorem wk_list {a : Addr} {g : Gd} {ds : List D} (h : RowG G (fun H vs => SqL G.K H a vs) g ds F0 H0) : Wk G (Itl G.K a) g ds F0 H0 := by
  refine ⟨fun i F H st e s g hi => ?_, fun F H st e s g => ?_, fun i F H st x H' e s g hi y => ?_⟩
  · obtain ⟨vs, h1, r⟩ := h.at_ F H st e s g
    exact walk_list.goes i H (by rw [r.length]; exact hi) h1
  · obtain ⟨vs, h1, r⟩ := h.at_ F H st e s g
    rw [← r.length]
    exact walk_list.stops H h1
  · obtain ⟨vs, h1, r⟩ := h.at_ F H st e s g
    obtain ⟨rfl, ex⟩ := walk_list.yields i H x H' (by rw [r.length]; exact hi) h1 y
    obtain ⟨d, ed, rd⟩ := r.getV ex
    exact ⟨d, ed, Ext.refl, s, rd⟩
theorem wk_tup {a : Addr} {g : Gd} {ds : List D} (h : RowG G (fun H vs => SqT G.K H a vs) g ds F0 H0) : Wk G (Itt G.K a) g ds F0 H0 := by
  refine ⟨fun i F H st e s g hi => ?_, fun F H st e s g => ?_, fun i F H st x H' e s g hi y => ?_⟩
  · obtain ⟨vs, h1, r⟩ := h.at_ F H st e s g
    exact walk_tup.goes i H (by rw [r.length]; exact hi) h1
  · obtain ⟨vs, h1, r⟩ := h.at_ F H st e s g
    rw [← r.length]
    exact walk_tup.stops H h1
  · obtain ⟨vs, h1, r⟩ := h.at_ F H st e s g
    obtain ⟨rfl, ex⟩ := walk_tup.yields i H x H' (by rw [r.length]; exact hi) h1 y
    obtain ⟨d, ed, rd⟩ := r.getV ex
    exact ⟨d, ed, Ext.refl, s, rd⟩
theorem rev_at {α : Type} {xs : List α} {i : Nat} {x : α} (h : xs[xs.length - 1 - i]? = some x) (hi : i < xs.length) : xs.reverse[i]? = some x := by
  rw [List.getElem?_reverse hi]
  exact h
theorem wk_rev {a : Addr} {n : Nat} {g : Gd} {ds : List D} (h : RowG G (fun H vs => SqL G.K H a vs) g ds F0 H0) (hn : n = ds.length) : Wk G (Itv G.K a n) g ds.reverse F0 H0 := by
  subst hn
  refine ⟨fun i F H st e s g hi => ?_, fun F H st e s g => ?_, fun i F H st x H' e s g hi y => ?_⟩
  · obtain ⟨vs, h1, r⟩ := h.at_ F H st e s g
    rw [← r.length]
    exact walk_rev.goes i H (by rw [r.length]; simpa using hi) h1
  · rw [List.length_reverse]
    exact Nat.le_refl _
  · obtain ⟨vs, h1, r⟩ := h.at_ F H st e s g
    rw [← r.length] at y
    have hi' : i < vs.length := by rw [r.length]; simpa using hi
    obtain ⟨rfl, ex⟩ := walk_rev.yields i H x H' hi' h1 y
    obtain ⟨d, ed, rd⟩ := r.getV ex
    rw [r.length] at ed
    exact ⟨d, rev_at ed (by simpa using hi), Ext.refl, s, rd⟩
theorem wk_revT {a : Addr} {n : Nat} {g : Gd} {ds : List D} (h : RowG G (fun H vs => SqT G.K H a vs) g ds F0 H0) (hn : n = ds.length) : Wk G (RT.ItvT G.K a n) g ds.reverse F0 H0 := by
  subst hn
  refine ⟨fun i F H st e s g hi => ?_, fun F H st e s g => ?_, fun i F H st x H' e s g hi y => ?_⟩
  · obtain ⟨vs, h1, r⟩ := h.at_ F H st e s g
    have hi' : i < ds.length := by simpa using hi
    refine ⟨hi', vs, vs[ds.length - 1 - i]'(by rw [r.length]; omega), h1, by simp⟩
  · rw [List.length_reverse]
    exact Nat.le_refl _
  · obtain ⟨vs, h1, r⟩ := h.at_ F H st e s g
    obtain ⟨rfl, ex⟩ := y
    obtain ⟨d, ed, rd⟩ := r.getV (ex vs h1)
    exact ⟨d, rev_at ed (by simpa using hi), Ext.refl, s, rd⟩
/-- a pair just laid -/
theorem pair_new {i : Nat} {d e : D} {x y v : V} {T : Addr} {H' : Hp} (s : SR G F H st) (hv : v = .ref T) (hT : H T = none) (hH : H' = upd H T (.tup [x, y])) (rd : Rep G F H d x) (re : Rep G F H e y) : Ext G F H F H' ∧ SR G F H' st ∧ Rep G F H' (.tup [d, e]) v := by
  subst hv hH
  have x1 : Ext G F H F (upd H T (.tup [x, y])) := Ext.new hT
  exact ⟨x1, s.new hT, rep_tup' (.inl (.inl upd_same)) (RepL.cons (rd.mono x1) (RepL.cons (re.mono x1) RepL.nil))⟩
theorem wk_enum {a : Addr} {g : Gd} {ds : List D} (h : RowG G (fun H vs => SqL G.K H a vs) g ds F0 H0) : Wk G (Ite G.K a) g (ds.mapIdx fun k x => .tup [.int k, x]) F0 H0 := by
  refine ⟨fun i F H st e s g hi => ?_, fun F H st e s g => ?_, fun i F H st x H' e s g hi y => ?_⟩
  · obtain ⟨vs, h1, r⟩ := h.at_ F H st e s g
    exact walk_enum.goes i H (by rw [r.length]; simpa using hi) h1
  · obtain ⟨vs, h1, r⟩ := h.at_ F H st e s g
    rw [List.length_mapIdx, ← r.length]
    exact walk_enum.stops H h1
  · obtain ⟨vs, h1, r⟩ := h.at_ F H st e s g
    obtain ⟨T, p, q, ev, hT, hH, ep, eq⟩ := walk_enum.yields i H x H' (by rw [r.length]; simpa using hi) h1 y
    cases ep
    obtain ⟨d, ed, rd⟩ := r.getV eq
    refine ⟨.tup [.int i, d], by rw [List.getElem?_mapIdx, ed]; rfl, ?_⟩
    exact pair_new (i := i) s ev hT hH rfl rd
theorem zip_at {ds es : List D} {i : Nat} {d e : D} (h1 : ds[i]? = some d) (h2 : es[i]? = some e) : (ds.zipWith (fun p q => D.tup [p, q]) es)[i]? = some (.tup [d, e]) := by
  rw [List.getElem?_zipWith, h1, h2]
theorem wk_zip {a b : Addr} {g g' : Gd} {ds es : List D} (h : RowG G (fun H vs => SqL G.K H a vs) g ds F0 H0) (h' : RowG G (fun H vs => SqL G.K H b vs) g' es F0 H0) : Wk G (Itz G.K a b) (.two g g') (ds.zipWith (fun p q => .tup [p, q]) es) F0 H0 := by
  refine ⟨fun i F H st e s g hi => ?_, fun F H st e s g => ?_, fun i F H st x H' e s g hi y => ?_⟩
  · obtain ⟨vs, h1, r⟩ := h.at_ F H st e s g.1
    obtain ⟨ws, h2, r'⟩ := h'.at_ F H st e s g.2
    exact (walk_zip rfl).goes i H (by rw [r.length, r'.length]; simpa using hi) ⟨h1, h2⟩
  · obtain ⟨vs, h1, r⟩ := h.at_ F H st e s g.1
    obtain ⟨ws, h2, r'⟩ := h'.at_ F H st e s g.2
    rw [List.length_zipWith, ← r.length, ← r'.length]
    exact (walk_zip rfl).stops H ⟨h1, h2⟩
  · obtain ⟨vs, h1, r⟩ := h.at_ F H st e s g.1
    obtain ⟨ws, h2, r'⟩ := h'.at_ F H st e s g.2
    obtain ⟨T, p, q, ev, hT, hH, ep, eq⟩ := (walk_zip rfl).yields i H x H' (by rw [r.length, r'.length]; simpa using hi) ⟨h1, h2⟩ y
    obtain ⟨d, ed, rd⟩ := r.getV ep
    obtain ⟨d', ed', rd'⟩ := r'.getV eq
    exact ⟨.tup [d, d'], zip_at ed ed', pair_new (i := i) s ev hT hH rd rd'⟩
theorem wk_zipT {a b : Addr} {g g' : Gd} {ds es : List D} (h : RowG G (fun H vs => SqT G.K H a vs) g ds F0 H0) (h' : RowG G (fun H vs => SqT G.K H b vs) g' es F0 H0) : Wk G (RZ.ItzT G.K a b) (.two g g') (ds.zipWith (fun p q => .tup [p, q]) es) F0 H0 := by
  refine ⟨fun i F H st e s g hi => ?_, fun F H st e s g => ?_, fun i F H st x H' e s g hi y => ?_⟩
  · obtain ⟨vs, h1, r⟩ := h.at_ F H st e s g.1
    obtain ⟨ws, h2, r'⟩ := h'.at_ F H st e s g.2
    have hi' : i < min ds.length es.length := by simpa using hi
    exact ⟨vs, ws, vs[i]'(by rw [r.length]; omega), ws[i]'(by rw [r'.length]; omega), h1, h2, by simp, by simp⟩
  · obtain ⟨vs, h1, r⟩ := h.at_ F H st e s g.1
    obtain ⟨ws, h2, r'⟩ := h'.at_ F H st e s g.2
    refine ⟨vs, ws, h1, h2, ?_⟩
    rw [List.length_zipWith, r.length, r'.length]
    exact (Nat.le_total ds.length es.length).elim (fun z => .inl (by omega)) fun z => .inr (by omega)
  · obtain ⟨vs, h1, r⟩ := h.at_ F H st e s g.1
    obtain ⟨ws, h2, r'⟩ := h'.at_ F H st e s g.2
    obtain ⟨T, p, q, ev, hT, hH, ep, eq⟩ := y
    obtain ⟨d, ed, rd⟩ := r.getV (ep vs h1)
    obtain ⟨d', ed', rd'⟩ := r'.getV (eq ws h2)
    exact ⟨.tup [d, d'], zip_at ed ed', pair_new (i := i) s ev hT hH rd rd'⟩
theorem wk_range {lo : Int} {n : Nat} : Wk G (Itr lo n) .no ((List.range n).map fun (k : Nat) => .int (lo + (k : Int))) F0 H0 := by
  refine ⟨fun i F H st e s g hi => (by simpa using hi : i < n), fun F H st e s g => ?_, fun i F H st x H' e s g hi y => ?_⟩
  · rw [List.length_map, List.length_range]; exact Nat.le_refl _
  · obtain ⟨rfl, rfl⟩ := y
    have hi' : i < n := by simpa using hi
    exact ⟨.int (lo + i), by simp [hi'], Ext.refl, s, rfl⟩
theorem wk_str {z : Str} : Wk G (Its z) .no (z.cps.toList.map fun c => .str ⟨#[c]⟩) F0 H0 := by
  refine ⟨fun i F H st e s g hi => by simpa [Its] using hi, fun F H st e s g => ?_, fun i F H st x H' e s g hi y => ?_⟩
  · show z.cps.size ≤ _
    simp
  · obtain ⟨rfl, c, h1, rfl⟩ := y
    exact ⟨.str ⟨#[c]⟩, by simp [h1], Ext.refl, s, rfl⟩
/-! ### locked dicts -/
theorem kv_get : ∀ {kvs : List (D × D)} {ws : List (Key × V)} {i : Nat} {k : Key} {v : V}, RepKV G F H kvs ws → ws[i]? = some (k, v) → ∃ d, kvs[i]? = some (keyD k, d) ∧ Rep G F H d v
  | _, _, _, _, _, .nil, e => by simp at e
  | (kd, d) :: kvs, (k', v') :: ws, 0, k, v, .cons r t, e => by
    simp at e
    obtain ⟨rfl, rfl⟩ := e
    exact ⟨d, by simp [show kd = keyD k' from r.1], r.2⟩
  | (kd, d) :: kvs, (k', v') :: ws, i + 1, k, v, .cons r t, e => by
    obtain ⟨d', h1, h2⟩ := kv_get (i := i) t (by simpa using e)
    exact ⟨d', by simpa using h1, h2⟩
theorem rep_keyV {k : Key} : Rep G F H (keyD k) (kV k) := by
  cases k <;> rw [keyD, kV, Rep]
theorem kv_mono {F' : List Addr} {H' : Hp} (e : Ext G F H F' H') {kvs : List (D × D)} {ws : List (Key × V)} (r : RepKV G F H kvs ws) : RepKV G F' H' kvs ws := Paired.imp (fun p q z => ⟨z.1, z.2.mono e⟩) r
theorem wk_keys {d : Addr} {od : Obj} {n : Nat} {kvs : List (D × D)} {ws : List (Key × V)} (h : H0 d = some (.frz od (.dK ws))) (r : RepKV G F0 H0 kvs ws) : Wk G (Itk d od ws) (.di n kvs) (kvs.map (·.1)) F0 H0 := by
  have hl : kvs.length = ws.length := Paired.length r
  refine ⟨fun i F H st e s g hi => ⟨e.frz _ _ _ h, by rw [← hl]; simpa using hi⟩, fun F H st e s g => ⟨e.frz _ _ _ h, by rw [← hl]; simp⟩, fun i F H st x H' e s g hi y => ?_⟩
  obtain ⟨rfl, k, v, h1, rfl⟩ := y
  obtain ⟨d', h2, h3⟩ := kv_get (kv_mono e r) h1
  exact ⟨keyD k, by rw [List.getElem?_map, h2]; rfl, Ext.refl, s, rep_keyV⟩
theorem wk_vals {d : Addr} {od : Obj} {n : Nat} {kvs : List (D × D)} {ws : List (Key × V)} (h : H0 d = some (.frz od (.dK ws))) (r : RepKV G F0 H0 kvs ws) : Wk G (Itd d od ws) (.di n kvs) (kvs.map (·.2)) F0 H0 := by
  have hl : kvs.length = ws.length := Paired.length r
  refine ⟨fun i F H st e s g hi => ⟨e.frz _ _ _ h, by rw [← hl]; simpa using hi⟩, fun F H st e s g => ⟨e.frz _ _ _ h, by rw [← hl]; simp⟩, fun i F H st x H' e s g hi y => ?_⟩
  obtain ⟨rfl, k, h1⟩ := y
  obtain ⟨d', h2, h3⟩ := kv_get (kv_mono e r) h1
  exact ⟨d', by rw [List.getElem?_map, h2]; rfl, Ext.refl, s, h3⟩
theorem wk_items {d : Addr} {od : Obj} {n : Nat} {kvs : List (D × D)} {ws : List (Key × V)} (h : H0 d = some (.frz od (.dK ws))) (r : RepKV G F0 H0 kvs ws) : Wk G (Iti d od ws) (.di n kvs) (kvs.map fun p => .tup [p.1, p.2]) F0 H0 := by
  have hl : kvs.length = ws.length := Paired.length r
  refine ⟨fun i F H st e s g hi => ⟨e.frz _ _ _ h, by rw [← hl]; simpa using hi⟩, fun F H st e s g => ⟨e.frz _ _ _ h, by rw [← hl]; simp⟩, fun i F H st x H' e s g hi y => ?_⟩
  obtain ⟨T, k, v, h1, hv, hT, hH⟩ := y
  obtain ⟨d', h2, h3⟩ := kv_get (kv_mono e r) h1
  exact ⟨.tup [keyD k, d'], by rw [List.getElem?_map, h2]; rfl, pair_new (i := i) s hv hT hH rep_keyV h3⟩
end
end PI

open PySem PySem.Spec PyProof.Rows L2
namespace PI

/-! # iterators, form by form -/
theorem PI.imp {X : Cx} {tg it : Expr} {t t' : TI} (h : L2.PI X tg it t) (f : ∀ σ H R, t' σ H R → t σ H R) : L2.PI X tg it t' := ⟨fun pins s σ H R I q => h.run pins s σ H R I (f σ H R q)⟩
section
variable {X : Cx} {pins : List (Addr × Obj)} {σ : L2.St} {H : Hp} {s : Shared} {R : It → Hp → Prop} {tg : Expr} {E : Value → Shared → Prop}
theorem it_list {a : Addr} {xs : List V} (I1 : Inv X pins σ H s) (hq : SqL X.K H a xs) (q : R (Itl X.K a) H) : wpAny (model X.prog X.w) X.A (pyIter (.ref a)) (PIE X pins σ tg R) E s := by
  obtain ⟨its, rv, p, hz⟩ := I1.list hq
  refine wpAny_pyIter_list p.isList ?_
  refine ⟨s.heap.objs.size, [s.heap.objs.size], _, _, H, rfl, I1.kept (t' := s.toks) fun b o e => Heap.get?_push_of_some _ e, turn_list a _, ⟨_, Heap.get?_push_size _ rfl, rfl, rfl⟩, fun b hb => ?_, q⟩
  have e : b = s.heap.objs.size := by simpa using hb
  subst e
  exact I1.fpOk (Nat.le_refl _) (I1.hok.fresh (Nat.le_refl _))
theorem it_tup {a : Addr} {xs : List V} (I1 : Inv X pins σ H s) (hq : SqT X.K H a xs) (q : R (Itt X.K a) H) : wpAny (model X.prog X.w) X.A (pyIter (.ref a)) (PIE X pins σ tg R) E s := by
  obtain ⟨its, rv, p, hz⟩ := I1.tuple hq
  refine wpAny_pyIter_tuple (show s.heap.IsTuple a its.toArray from p) ?_
  refine ⟨s.heap.objs.size, [s.heap.objs.size], _, _, H, rfl, I1.kept (t' := s.toks) fun b o e => Heap.get?_push_of_some _ e, turn_tuple a _, ⟨_, Heap.get?_push_size _ rfl, rfl, rfl⟩, fun b hb => ?_, q⟩
  have e : b = s.heap.objs.size := by simpa using hb
  subst e
  exact I1.fpOk (Nat.le_refl _) (I1.hok.fresh (Nat.le_refl _))
theorem it_str {x : Str} {t : Tok} (I1 : Inv X pins σ H s) (q : R (Its x) H) : wpAny (model X.prog X.w) X.A (pyIter (.str x t)) (PIE X pins σ tg R) E s := by
  cases ha : x.cps.all (· < 128)
  · exact wpAny_pyIter_wide ha (pi_one (tk := s.toks) I1 _ (turn_str _ x t "str_iterator" (.inr rfl)) ⟨_, Heap.get?_push_size _ rfl, rfl, rfl⟩ q)
  · exact wpAny_pyIter_ascii ha (pi_one (tk := s.toks) I1 _ (turn_str _ x t "str_ascii_iterator" (.inl rfl)) ⟨_, Heap.get?_push_size _ rfl, rfl, rfl⟩ q)
theorem it_keys {d : Addr} {o : Obj} {kvs : List (Key × V)} (I1 : Inv X pins σ H s) (hd : H d = some (.frz o (.dK kvs))) (q : R (Itk d o kvs) H) : wpAny (model X.prog X.w) X.A (pyIter (.ref d)) (PIE X pins σ tg R) E s := by
  obtain ⟨hs, hgd, hx, es, ep, vs, hdt, hsz, kv, hm⟩ := I1.frzK hd
  refine iter_keys hs hgd hx hdt (pi_one (tk := s.toks) I1 _ (turn_keys _ hdt) ⟨_, Heap.get?_push_size _ rfl, rfl, ?_⟩ q)
  rw [hsz] <;> rfl
end
/-- a thing locked behind an expression -/
def tLk (X : Cx) (t : TE) : TE := fun σ H Q => t σ H fun x H1 => ∃ d u, H1 d = some u ∧ Mut (some u) ∧ ((∀ o' u', X.H_0 d ≠ some (.frz o' u')) → ∀ od, Q x (upd H1 d (.frz od u)))
theorem pe_lk {X : Cx} {e : Expr} {t : TE} (h : PE X e t) : PE X e (tLk X t) := ⟨fun pins s σ H Q I q => thn (h.run pins s σ H _ I q) fun u s1 ⟨x, H1, I1, rx, d, o, e1, mu, q1⟩ => by
  obtain ⟨od, I2⟩ := I1.lock e1 mu
  exact ⟨x, _, I2, rx, q1 (I1.nofrz e1 mu) od⟩⟩
theorem lock_no {st st2 : Store} (h : lockG .no st = .ok () st2) : st2 = st := by cases h; rfl
theorem lock_ls {st st2 : Store} {n : Nat} {ds : List D} (h : lockG (.ls n ds) st = .ok () st2) : st2 = st := by cases h; rfl
theorem lock_two {st st2 : Store} {a b : Gd} (h : lockG (.two a b) st = .ok () st2) : st2 = st := by cases h; rfl
theorem lock_di {st st2 : Store} {n : Nat} {lk : Bool} {kvs : List (D × D)} (e : st[n]? = some (.dic lk kvs)) (h : lockG (.di n kvs) st = .ok () st2) : lk = false ∧ st2 = st.set n (.dic true kvs) := by
  have h0 : (do
      match ← getC n with
      | .dic false k => do grd (k = kvs); setC n (.dic true kvs)
      | _ => bad : M Unit) st = Res.ok () st2 := h
  rw [bind_def] at h0
  unfold getC at h0
  rw [e] at h0
  cases lk with
  | true => cases h0
  | false =>
    refine ⟨rfl, ?_⟩
    have h' : (do grd (kvs = kvs); setC n (.dic true kvs)) st = Res.ok () st2 := h0
    rw [bind_def] at h'
    unfold grd at h'
    rw [if_pos rfl] at h'
    cases h'
    rfl
section
variable {G : Sig} {F : List Addr} {H : Hp} {st : Store} {X : Cx} {C Xn : Nat → Addr} {lv : Nat} {W : WX} {tg e a b : Expr} {es : List Expr} {ma mb : Rho → M D} {ms : Rho → M (List D)} {sa sb : Sem} {pos p apos : Pos}
/-- a dict of the store, as it is locked -/
theorem lock_sr (s : SR G F H st) {n : Nat} {d : Addr} {ws : List (Key × V)} {kvs : List (D × D)} (hn : F[n]? = some d) (hd : H d = some (.dK ws)) (r : RepKV G F H kvs ws) (od : Obj) :
    Ext G F H F (upd H d (.frz od (.dK ws))) ∧ SR G F (upd H d (.frz od (.dK ws))) (st.set n (.dic true kvs)) ∧ RepKV G F (upd H d (.frz od (.dK ws))) kvs ws := by
  have x1 : Ext G F H F (upd H d (.frz od (.dK ws))) := Ext.wrote hn hd True.intro
  exact ⟨x1, s.wrote hn hd True.intro ⟨od, _, upd_same, ws, rfl, kv_mono x1 r⟩, kv_mono x1 r⟩
theorem dicM_out {V' : Nat → List Addr → Hp → Store → Prop} {d : D} {v : V} {α : Type} {k : Nat × List (D × D) → M α} {R : α → List Addr → Hp → Store → Prop} (s : SR G F H st) (r : Rep G F H d v) (h : WP G V' (dicM d >>= k) R F H st) :
    ∃ q n lk kvs, v = .ref q ∧ F[n]? = some q ∧ st[n]? = some (.dic lk kvs) ∧ CellOk G F H q (.dic lk kvs) ∧ WP G V' (k (n, kvs)) R F H st := by
  cases d with
  | obj n =>
    obtain ⟨q, rfl, f⟩ := rep_obj r
    have h2 := h
    unfold dicM at h2
    rw [M.assoc] at h2
    obtain ⟨q', cl, f2, g, kk, h2⟩ := WP.cell s h2
    rw [f] at f2; cases f2
    cases cl with
    | dic lk kvs => exact ⟨q, n, lk, kvs, rfl, f, g, kk, h2⟩
    | _ => exact h2.bind.elim
  | _ => exact (h.bind : False).elim
/-- what a value gives when it is walked -/
theorem io_val (h : EOk X C Xn W e sa) : IOk X C Xn W tg e sa.i := by
  rw [h.io.1]
  refine ⟨⟨fun pins s σ H R I q => ?_⟩, unfolded h.pl⟩
  have go : tV (sg X C Xn) W sa.v σ H (fun v H1 => (∃ a xs, v = .ref a ∧ SqL X.K H1 a xs ∧ R (Itl X.K a) H1) ∨ (∃ a xs, v = .ref a ∧ SqT X.K H1 a xs ∧ R (Itt X.K a) H1) ∨ (∃ z, v = .str z ∧ R (Its z) H1) ∨
      ∃ d ws, v = .ref d ∧ H1 d = some (.dK ws) ∧ ((∀ o' u', X.H_0 d ≠ some (.frz o' u')) → ∀ od, R (Itk d od ws) (upd H1 d (.frz od (.dK ws))))) := by
    obtain ⟨F, ρ, st, sr, r, q⟩ := q
    refine seqV sr r q fun d F1 H1 st1 v e1 s1 r1 rd h1 => ?_
    unfold walkM at h1
    split at h1
    · obtain ⟨a, vs, rfl, t, r2⟩ := rep_tup rd
      obtain ⟨st2, hl, hR⟩ := h1.pur s1
      obtain rfl := lock_no hl
      exact .inr (.inl ⟨a, vs, rfl, t, hR _ _ rfl Ext.refl s1 (wk_tup (rowG_tup t r2))⟩)
    · obtain ⟨a, vs, rfl, t, r2⟩ := rep_wl rd
      obtain ⟨st2, hl, hR⟩ := h1.pur s1
      obtain rfl := lock_no hl
      exact .inl ⟨a, vs, rfl, t.seq, hR _ _ rfl Ext.refl s1 (wk_list (rowG_fz t r2))⟩
    · obtain ⟨st2, hl, hR⟩ := h1.pur s1
      obtain rfl := lock_no hl
      exact .inr (.inr (.inl ⟨_, rep_str rd, hR _ _ rfl Ext.refl s1 wk_str⟩))
    · obtain ⟨a, rfl, f⟩ := rep_obj rd
      obtain ⟨a', c, f2, g, kk, h1⟩ := WP.cell s1 h1
      rw [f] at f2; cases f2
      cases c with
      | lst ds =>
        obtain ⟨vs, k1, r2⟩ := kk
        obtain ⟨st2, hl, hR⟩ := h1.pur s1
        obtain rfl := lock_ls hl
        exact .inl ⟨a, vs, rfl, .inl (.inl k1), hR _ _ rfl Ext.refl s1 (wk_list (rowG_ls f))⟩
      | dic lk kvs =>
        obtain ⟨st2, hl, hR⟩ := h1.pur s1
        obtain ⟨rfl, rfl⟩ := lock_di g hl
        obtain ⟨u, k1, ws, rfl, rk⟩ := kk
        refine .inr (.inr (.inr ⟨a, ws, rfl, k1, fun hn od => ?_⟩))
        obtain ⟨x1, x2, x3⟩ := lock_sr s1 f k1 rk od
        exact hR _ _ ⟨a, od, _, f, k1, rfl, hn⟩ x1 x2 (wk_keys upd_same x3)
      | _ => exact h1.elim
    · exact h1.elim
  refine thn (h.v.run pins s σ H _ I go) fun u s1 ⟨v, H1, I1, rv, q1⟩ => ?_
  rcases q1 with ⟨a, xs, rfl, hq, q⟩ | ⟨a, xs, rfl, hq, q⟩ | ⟨z, rfl, q⟩ | ⟨d, ws, rfl, hd, q⟩
  · cases (show u = Value.ref a from rv)
    exact it_list I1 hq q
  · cases (show u = Value.ref a from rv)
    exact it_tup I1 hq q
  · obtain ⟨t, rfl⟩ := (show ∃ t, u = Value.str z t from rv)
    exact it_str I1 q
  · cases (show u = Value.ref d from rv)
    obtain ⟨od, I2⟩ := I1.lock hd True.intro
    exact it_keys I2 upd_same (q (I1.nofrz hd True.intro) od)
theorem io_items {elts : List Expr} {kk : Nat} {tpos : Pos} (po : abOk e = true) (hl : (apos.endLine == pos.line) = true) (h : EOk X C Xn W e sa) :
    IOk X C Xn W (.Tuple elts kk tpos) (.Call (.Attribute e "items" apos) [] [] pos) (fun ρ => do let d ← sa.v ρ; let w ← dicM d; pure (w.2.map fun p => .tup [p.1, p.2], .di w.1 w.2)) := by
  refine ⟨PI.imp (pi_items (pe_lk h.v) (abBase po _) hl) fun σ H R q => ?_, fun _ => rfl⟩
  obtain ⟨F, ρ, st, sr, r, q⟩ := q
  refine seqV sr r q fun d F1 H1 st1 v e1 s1 r1 rd h1 => ?_
  obtain ⟨q, n, lk, kvs, rfl, f, g, kc, h1⟩ := dicM_out s1 rd h1
  obtain ⟨st2, hl, hR⟩ := h1.pur s1
  obtain ⟨rfl, rfl⟩ := lock_di g hl
  obtain ⟨u, k1, ws, rfl, rk⟩ := kc
  refine ⟨q, _, k1, True.intro, fun hn od => ⟨q, od, ws, rfl, upd_same, ?_⟩⟩
  obtain ⟨x1, x2, x3⟩ := lock_sr s1 f k1 rk od
  exact hR _ _ ⟨q, od, _, f, k1, rfl, hn⟩ x1 x2 (wk_items upd_same x3)
theorem io_vals (po : abOk e = true) (hl : (apos.endLine == pos.line) = true) (h : EOk X C Xn W e sa) :
    IOk X C Xn W tg (.Call (.Attribute e "values" apos) [] [] pos) (fun ρ => do let d ← sa.v ρ; let w ← dicM d; pure (w.2.map (·.2), .di w.1 w.2)) := by
  refine ⟨PI.imp (pi_values (pe_lk h.v) (abBase po _) hl) fun σ H R q => ?_, fun _ => rfl⟩
  obtain ⟨F, ρ, st, sr, r, q⟩ := q
  refine seqV sr r q fun d F1 H1 st1 v e1 s1 r1 rd h1 => ?_
  obtain ⟨q, n, lk, kvs, rfl, f, g, kc, h1⟩ := dicM_out s1 rd h1
  obtain ⟨st2, hl, hR⟩ := h1.pur s1
  obtain ⟨rfl, rfl⟩ := lock_di g hl
  obtain ⟨u, k1, ws, rfl, rk⟩ := kc
  refine ⟨q, _, k1, True.intro, fun hn od => ⟨q, od, ws, rfl, upd_same, ?_⟩⟩
  obtain ⟨x1, x2, x3⟩ := lock_sr s1 f k1 rk od
  exact hR _ _ ⟨q, od, _, f, k1, rfl, hn⟩ x1 x2 (wk_vals upd_same x3)
theorem rng_small {i : Int} (h : small i) : -(2 ^ 62) ≤ i ∧ i < 2 ^ 62 := h
theorem io_rng1 (hg : Gl X "range") (hm : X.mg "range" = none) (h : EOk X C Xn W a sa) : IOk X C Xn W tg (.Call (.Name "range" p) [a] [] pos) (fun ρ => do let ds ← (do let d ← sa.v ρ; let ds ← pure []; pure (d :: ds)); rngM ds) := by
  refine ⟨PI.imp (pi_range1 hg hm (pa_cons h.v pa_nil (star_cons h.pl)) (star_cons h.pl)) fun σ H R q => ?_, fun _ => rfl⟩
  obtain ⟨F, ρ, st, sr, r, q⟩ := q
  simp only [M.assoc, M.pureb] at q
  refine seqV sr r q fun d F1 H1 st1 v e1 s1 r1 rd h1 => ?_
  cases d with
  | int j =>
    cases rep_int rd
    obtain ⟨hz, h1⟩ := (show WP _ _ (do grd (small j); pure ((List.range j.toNat).map fun (k : Nat) => D.int (k : Int), Gd.no)) _ _ _ _ from h1).grdb s1
    obtain ⟨st2, hl, hR⟩ := h1.pur s1
    obtain rfl := lock_no hl
    refine ⟨j, rfl, hz.1, hz.2, hR _ _ rfl Ext.refl s1 ?_⟩
    have := wk_range (G := sg X C Xn) (lo := 0) (n := j.toNat) (F0 := F1) (H0 := H1)
    simpa using this
  | _ => exact (h1 : False).elim
theorem io_rng2 (hg : Gl X "range") (hm : X.mg "range" = none) (h : EOk X C Xn W a sa) (h' : EOk X C Xn W b sb) : IOk X C Xn W tg (.Call (.Name "range" p) [a, b] [] pos)
    (fun ρ => do let ds ← (do let d ← sa.v ρ; let ds ← (do let d ← sb.v ρ; let ds ← pure []; pure (d :: ds)); pure (d :: ds)); rngM ds) := by
  refine ⟨PI.imp (pi_range2 hg hm (pa_cons h.v (pa_cons h'.v pa_nil (star_cons h'.pl)) (star_cons h.pl)) (by rw [star_cons h.pl, star_cons h'.pl]; rfl) (star_cons h'.pl)) fun σ H R q => ?_, fun _ => rfl⟩
  obtain ⟨F, ρ, st, sr, r, q⟩ := q
  simp only [M.assoc, M.pureb] at q
  refine seqV sr r q fun d F1 H1 st1 v e1 s1 r1 rd h1 => seqV s1 r1 h1 fun d' F2 H2 st2 v' e2 s2 r2 rd' h2 => ?_
  cases d with
  | int i =>
    cases d' with
    | int j =>
      cases rep_int rd
      cases rep_int rd'
      obtain ⟨hz, h2⟩ := (show WP _ _ (do grd (small i ∧ small j); pure ((List.range (j - i).toNat).map fun (k : Nat) => D.int (i + (k : Int)), Gd.no)) _ _ _ _ from h2).grdb s2
      obtain ⟨st3, hl, hR⟩ := h2.pur s2
      obtain rfl := lock_no hl
      exact ⟨i, j, rfl, ⟨hz.1.1, hz.1.2, hz.2.1, hz.2.2⟩, hR _ _ rfl Ext.refl s2 wk_range⟩
    | _ => exact (h2 : False).elim
  | _ => exact (h2 : False).elim
/-- a list or a tuple, by its walk -/
theorem walkL_out {V' : Nat → List Addr → Hp → Store → Prop} {d : D} {v : V} {α : Type} {k : List D × Gd → M α} {R : α → List Addr → Hp → Store → Prop} (s : SR G F H st) (r : Rep G F H d v) (h : WP G V' (walkL d >>= k) R F H st) :
    ∃ a vs ds g, v = .ref a ∧ SqL G.K H a vs ∧ RepL G F H ds vs ∧ RowG G (fun H vs => SqL G.K H a vs) g ds F H ∧ (∀ n k, g ≠ .di n k) ∧ (∀ s s2, lockG g s = .ok () s2 → s2 = s) ∧ WP G V' (k (ds, g)) R F H st := by
  cases d with
  | wl ds =>
    obtain ⟨a, vs, rfl, t, r2⟩ := rep_wl r
    exact ⟨a, vs, ds, .no, rfl, t.seq, r2, rowG_fz t r2, (fun _ _ z => nomatch z), (fun _ _ z => lock_no z), h⟩
  | obj n =>
    obtain ⟨a, rfl, f⟩ := rep_obj r
    have h2 := h
    unfold walkL at h2
    rw [M.assoc] at h2
    obtain ⟨q', cl, f2, g, kk, h2⟩ := WP.cell s h2
    rw [f] at f2; cases f2
    cases cl with
    | lst ds =>
      obtain ⟨vs, k1, r2⟩ := kk
      exact ⟨a, vs, ds, .ls n ds, rfl, .inl (.inl k1), r2, rowG_ls f, (fun _ _ z => nomatch z), (fun _ _ z => lock_ls z), h2⟩
    | _ => exact h2.bind.elim
  | _ => exact (h.bind : False).elim
theorem walkA_out {V' : Nat → List Addr → Hp → Store → Prop} {d : D} {v : V} {α : Type} {k : Nat × List D × Gd → M α} {R : α → List Addr → Hp → Store → Prop} (s : SR G F H st) (r : Rep G F H d v) (h : WP G V' (walkA d >>= k) R F H st) :
    ∃ a vs ds g t, v = .ref a ∧ RepL G F H ds vs ∧ ((t = 0 ∧ SqL G.K H a vs ∧ RowG G (fun H vs => SqL G.K H a vs) g ds F H) ∨ (t = 1 ∧ SqT G.K H a vs ∧ RowG G (fun H vs => SqT G.K H a vs) g ds F H)) ∧ (∀ n k, g ≠ .di n k) ∧ (∀ s s2, lockG g s = .ok () s2 → s2 = s) ∧ WP G V' (k (t, ds, g)) R F H st := by
  cases d with
  | wl ds =>
    obtain ⟨a, vs, rfl, t, r2⟩ := rep_wl r
    exact ⟨a, vs, ds, .no, 0, rfl, r2, .inl ⟨rfl, t.seq, rowG_fz t r2⟩, (fun _ _ z => nomatch z), (fun _ _ z => lock_no z), h⟩
  | tup ds =>
    obtain ⟨a, vs, rfl, t, r2⟩ := rep_tup r
    exact ⟨a, vs, ds, .no, 1, rfl, r2, .inr ⟨rfl, t, rowG_tup t r2⟩, (fun _ _ z => nomatch z), (fun _ _ z => lock_no z), h⟩
  | obj n =>
    obtain ⟨a, rfl, f⟩ := rep_obj r
    have h2 := h
    unfold walkA at h2
    rw [M.assoc] at h2
    obtain ⟨q', cl, f2, g, kk, h2⟩ := WP.cell s h2
    rw [f] at f2; cases f2
    cases cl with
    | lst ds =>
      obtain ⟨vs, k1, r2⟩ := kk
      exact ⟨a, vs, ds, .ls n ds, 0, rfl, r2, .inl ⟨rfl, .inl (.inl k1), rowG_ls f⟩, (fun _ _ z => nomatch z), (fun _ _ z => lock_ls z), h2⟩
    | _ => exact h2.bind.elim
  | _ => exact (h.bind : False).elim
theorem lkd_no {g : Gd} (hg : ∀ n k, g ≠ .di n k) : Lkd X g F H H := by
  cases g with
  | di n k => exact absurd rfl (hg n k)
  | _ => exact rfl
theorem io_enm {elts : List Expr} {kk : Nat} {tpos : Pos} (hg : Gl X "enumerate") (hm : X.mg "enumerate" = none) (h : EOk X C Xn W a sa) :
    IOk X C Xn W (.Tuple elts kk tpos) (.Call (.Name "enumerate" p) [a] [] pos) (fun ρ => do let d ← sa.v ρ; let w ← walkL d; pure (w.1.mapIdx fun k x => .tup [.int k, x], w.2)) := by
  refine ⟨PI.imp (pi_enum hg hm (pa_cons h.v pa_nil (star_cons h.pl)) (star_cons h.pl)) fun σ H R q => ?_, fun _ => rfl⟩
  obtain ⟨F, ρ, st, sr, r, q⟩ := q
  refine seqV sr r q fun d F1 H1 st1 v e1 s1 r1 rd h1 => ?_
  obtain ⟨q, vs, ds, g, rfl, t, rv, rg, ng, nl, h1⟩ := walkL_out s1 rd h1
  obtain ⟨st2, hl, hR⟩ := h1.pur s1
  obtain rfl := nl _ _ hl
  exact ⟨q, vs, rfl, t, hR _ _ (lkd_no ng) Ext.refl s1 (wk_enum rg)⟩
theorem io_rev (hg : Gl X "reversed") (hm : X.mg "reversed" = none) (h : EOk X C Xn W a sa) : IOk X C Xn W tg (.Call (.Name "reversed" p) [a] [] pos) (fun ρ => do let d ← sa.v ρ; let w ← walkA d; pure (w.2.1.reverse, w.2.2)) := by
  refine ⟨PI.imp (RT.pi_revA hg hm h.v (star_cons h.pl)) fun σ H R q => ?_, fun _ => rfl⟩
  obtain ⟨F, ρ, st, sr, r, q⟩ := q
  refine seqV sr r q fun d F1 H1 st1 v e1 s1 r1 rd h1 => ?_
  obtain ⟨q, vs, ds, g, t, rfl, rv, alt, ng, nl, h1⟩ := walkA_out s1 rd h1
  obtain ⟨st2, hl, hR⟩ := h1.pur s1
  obtain rfl := nl _ _ hl
  rcases alt with ⟨_, t, rg⟩ | ⟨_, t, rg⟩
  · exact ⟨q, vs, rfl, .inl ⟨t, hR _ _ (lkd_no ng) Ext.refl s1 (wk_rev rg rv.length)⟩⟩
  · exact ⟨q, vs, rfl, .inr ⟨t, hR _ _ (lkd_no ng) Ext.refl s1 (wk_revT rg rv.length)⟩⟩
theorem io_zip {elts : List Expr} {kk : Nat} {tpos : Pos} (hg : Gl X "zip") (hm : X.mg "zip" = none) (h : EOk X C Xn W a sa) (h' : EOk X C Xn W b sb) :
    IOk X C Xn W (.Tuple elts kk tpos) (.Call (.Name "zip" p) [a, b] [] pos) (fun ρ => do
      let x ← sa.v ρ
      let y ← sb.v ρ
      let w ← walkA x
      let z ← walkA y
      grd (w.1 = z.1)
      pure (w.2.1.zipWith (fun p q => .tup [p, q]) z.2.1, .two w.2.2 z.2.2)) := by
  refine ⟨PI.imp (RZ.pi_zipA hg hm (pa_cons h.v (pa_cons h'.v pa_nil (star_cons h'.pl)) (star_cons h.pl)) (star_cons h.pl) (bk_any (plain2 h.pl h'.pl))) fun σ H R q => ?_, fun _ => rfl⟩
  obtain ⟨F, ρ, st, sr, r, q⟩ := q
  refine seqV sr r q fun d F1 H1 st1 v e1 s1 r1 rd h1 => seqV s1 r1 h1 fun d' F2 H2 st2 v' e2 s2 r2 rd' h2 => ?_
  obtain ⟨q, vs, ds, g, t, rfl, rv, alt, ng, nl, h2⟩ := walkA_out s2 (rd.mono e2) h2
  obtain ⟨q', vs', ds', g', t', rfl, rv', alt', ng', nl', h2⟩ := walkA_out s2 rd' h2
  obtain ⟨et, h2⟩ := h2.grdb s2
  obtain ⟨st3, hl, hR⟩ := h2.pur s2
  obtain rfl := lock_two hl
  rcases alt with ⟨t1, t2, rg⟩ | ⟨t1, t2, rg⟩
  · rcases alt' with ⟨t1', t2', rg'⟩ | ⟨t1', t2', rg'⟩
    · exact ⟨q, q', vs, vs', rfl, .inl ⟨t2, t2', hR _ _ rfl Ext.refl s2 (wk_zip rg rg')⟩⟩
    · rw [t1, t1'] at et; cases et
  · rcases alt' with ⟨t1', t2', rg'⟩ | ⟨t1', t2', rg'⟩
    · rw [t1, t1'] at et; cases et
    · exact ⟨q, q', vs, vs', rfl, .inr ⟨t2, t2', hR _ _ rfl Ext.refl s2 (wk_zipT rg rg')⟩⟩
end
end PI

open PySem PySem.Spec PyProof.Rows L2
namespace PI

/-! # a thing changes that no row of ours leans on -/
/-- neither a tuple nor a frozen list -/
def Neu : HO → Prop
  | .tup _ => False
  | .frz _ (.tup _) => False
  | .frz _ (.lst _) => False
  | _ => True
theorem Neu.of_mut {o : HO} (h : Mut (some o)) : Neu o := by cases o <;> first | exact True.intro | exact h.elim
section
variable {G : Sig} {F F' F1 : List Addr} {H H' H1 H2 : Hp} {st st' : Store} {a b : Addr} {o u : HO} {vs : List V}
theorem sqT_side {K : PySem.W.Frag} (hu : H b = some u) (n : Neu u) (h : SqT K H a vs) : SqT K (upd H b o) a vs := by
  rcases h with (h | ⟨ob, h⟩) | h
  · exact .inl (.inl (by rw [upd_ne (fun z => by rw [z, hu] at h; cases h; exact n)]; exact h))
  · exact .inl (.inr ⟨ob, by rw [upd_ne (fun z => by rw [z, hu] at h; cases h; exact n)]; exact h⟩)
  · exact .inr h
theorem fzL_side {K : PySem.W.Frag} (hu : H b = some u) (n : Neu u) (h : FzL K H a vs) : FzL K (upd H b o) a vs := by
  rcases h with ⟨ob, h⟩ | h
  · exact .inl ⟨ob, by rw [upd_ne (fun z => by rw [z, hu] at h; cases h; exact n)]; exact h⟩
  · exact .inr h
theorem ExtR.side (hu : H b = some u) (n : Neu u) : ExtR G F H F (upd H b o) := ⟨⟨[], by simp⟩, fun _ _ h => sqT_side hu n h, fun _ _ h => fzL_side hu n h⟩
/-- what the store doesn't have -/
theorem SR.side (s : SR G F H st) (hu : H b = some u) (n : Neu u) (hb : b ∉ F) : SR G F (upd H b o) st := by
  refine ⟨s.len, s.nd, fun c hc => ?_, fun m c cl h1 h2 => (s.ok m c cl h1 h2).monoR (.side hu n) (upd_ne ?_)⟩
  · rw [upd_ne (fun z => hb (by rw [← z]; exact hc))]; exact s.tr c hc
  · intro z
    exact hb (by rw [← z]; exact List.mem_of_getElem? h1)
/-- what was made since is changed -/
theorem Ext.side (x : Ext G F H F' H') (h0 : H b = none) (hu : H' b = some u) (n : Neu u) : Ext G F H F' (upd H' b o) := by
  have ne : ∀ c, H c ≠ none → c ≠ b := fun c h z => h (by rw [z]; exact h0)
  exact ⟨x.pre, fun c vs h => sqT_side hu n (x.tup c vs h), fun c vs h => fzL_side hu n (x.fz c vs h), fun c ob w h => by rw [upd_ne (ne_of_none h h0)]; exact x.frz c ob w h,
    fun c h => by rw [upd_ne (ne c h)]; exact x.tr c h, fun c h hc => by rw [upd_ne (ne c h)]; exact x.fr c h hc⟩
/-- .. and given to the store -/
theorem SR.adopt {c : Cell} (s : SR G F H st) (hb : b ∉ F) (hu : H b ≠ none) (hc : CellOk G (F ++ [b]) H b c) : SR G (F ++ [b]) H (st ++ [c]) := by
  have e : ExtR G F H (F ++ [b]) H := ⟨⟨[b], rfl⟩, fun _ _ h => h, fun _ _ h => h⟩
  refine ⟨by simp [s.len], ?_, fun a h => ?_, fun n a c' h1 h2 => ?_⟩
  · rw [List.nodup_append]
    exact ⟨s.nd, by simp, fun a ha b' hb' => by
      rw [List.mem_singleton.mp hb']
      intro z
      exact hb (z ▸ ha)⟩
  · rcases List.mem_append.mp h with h | h
    · exact s.tr a h
    · rw [List.mem_singleton.mp h]; exact hu
  · by_cases hn : n < F.length
    · rw [List.getElem?_append_left hn] at h1
      rw [List.getElem?_append_left (by rw [← s.len]; exact hn)] at h2
      exact (s.ok n a c' h1 h2).monoR e rfl
    · have hn' : n = F.length := by
        have := (List.getElem?_eq_some_iff.mp h1).1
        simp at this
        omega
      subst hn'
      rw [List.getElem?_append_right (Nat.le_refl _)] at h1
      rw [s.len, List.getElem?_append_right (Nat.le_refl _)] at h2
      simp at h1 h2
      subst h1 h2
      exact hc
theorem Ext.adopt (x : Ext G F H F' H') (h0 : H b = none) : Ext G F H (F' ++ [b]) H' := by
  obtain ⟨t, e⟩ := x.pre
  refine ⟨⟨t ++ [b], by rw [e, List.append_assoc]⟩, x.tup, x.fz, x.frz, x.tr, fun c h hc => ⟨(x.fr c h hc).1, fun z => ?_⟩⟩
  rcases List.mem_append.mp z with z | z
  · exact (x.fr c h hc).2 z
  · exact h (by rw [List.mem_singleton.mp z]; exact h0)
/-! ### a dict is let go -/
theorem Ext.unlock {d : Addr} {od : Obj} {n : Nat} {ws : List (Key × V)} (hd : F[n]? = some d) (h1 : H d = some (.dK ws)) (x : Ext G F (upd H d (.frz od (.dK ws))) F' H') : H' d = some (.frz od (.dK ws)) ∧ Ext G F H F' (upd H' d (.dK ws)) := by
  have e1 : H' d = some (.frz od (.dK ws)) := x.frz d od _ upd_same
  have ne : ∀ c, c ≠ d → (upd H d (.frz od (.dK ws))) c = H c := fun c z => upd_ne z
  refine ⟨e1, x.pre, fun c vs h => sqT_side e1 True.intro (x.tup c vs (sqT_side h1 True.intro h)), fun c vs h => fzL_side e1 True.intro (x.fz c vs (fzL_side h1 True.intro h)), fun c ob w h => ?_, fun c h => ?_, fun c h hc => ?_⟩
  · have nd : c ≠ d := fun z => by rw [z, h1] at h; cases h
    rw [upd_ne nd]
    exact x.frz c ob w (by rw [ne c nd]; exact h)
  · by_cases z : c = d
    · rw [z, upd_same]; exact fun q => nomatch q
    · rw [upd_ne z]; exact x.tr c (by rw [ne c z]; exact h)
  · have nd : c ≠ d := fun z => hc (by rw [z]; exact List.mem_of_getElem? hd)
    have y := x.fr c (by rw [ne c nd]; exact h) hc
    exact ⟨by rw [upd_ne nd, y.1, ne c nd], y.2⟩
theorem open_di {st st2 : Store} {n : Nat} {kvs k : List (D × D)} {lk : Bool} (e : st[n]? = some (.dic lk k)) (h : openG (.di n kvs) st = .ok () st2) : lk = true ∧ k = kvs ∧ st2 = st.set n (.dic false kvs) := by
  have h0 : (do
      match ← getC n with
      | .dic true k => do grd (k = kvs); setC n (.dic false kvs)
      | _ => bad : M Unit) st = Res.ok () st2 := h
  rw [bind_def] at h0
  unfold getC at h0
  rw [e] at h0
  cases lk with
  | false => cases h0
  | true =>
    have h' : (do grd (k = kvs); setC n (.dic false kvs)) st = Res.ok () st2 := h0
    rw [bind_def] at h'
    unfold grd at h'
    by_cases q : k = kvs
    · rw [if_pos q] at h'
      cases h'
      exact ⟨rfl, q, rfl⟩
    · rw [if_neg q] at h'
      cases h'
theorem SR.unlock {d : Addr} {od : Obj} {n : Nat} {ws : List (Key × V)} {kvs : List (D × D)} (s : SR G F H st) (hd : F[n]? = some d) (h1 : H d = some (.frz od (.dK ws))) (hc : st[n]? = some (.dic true kvs)) : SR G F (upd H d (.dK ws)) (st.set n (.dic false kvs)) := by
  have e : ExtR G F H F (upd H d (.dK ws)) := .side h1 True.intro
  refine ⟨by simp [s.len], s.nd, fun b hb => ?_, fun m b c' h2 h3 => ?_⟩
  · by_cases z : b = d
    · rw [z, upd_same]; exact fun q => nomatch q
    · rw [upd_ne z]; exact s.tr b hb
  · by_cases hm : m = n
    · subst hm
      rw [hd] at h2; cases h2
      have hlt : m < st.length := by rw [← s.len]; exact (List.getElem?_eq_some_iff.mp hd).1
      rw [List.getElem?_set_self hlt] at h3
      cases h3
      obtain ⟨o', u', k1, k2⟩ := s.ok m d _ hd hc
      rw [h1] at k1; cases k1
      exact ⟨_, upd_same, k2.monoR e⟩
    · rw [List.getElem?_set_ne (Ne.symm hm)] at h3
      refine (s.ok m b c' h2 h3).monoR e (upd_ne ?_)
      intro z
      subst z
      exact hm (SR.wrote.nodup_at s.nd h2 hd)
/-- behind a walk: the dict is let go, where one was locked -/
theorem end_walk {X : Cx} {g : Gd} {st2 : Store} (hl : Lkd X g F H H1) (x : Ext G F H1 F' H') (s : SR G F' H' st) (h : openG g st = .ok () st2) :
    (H' = H' ∧ ∃ H3, Ext G F H F' H3 ∧ SR G F' H3 st2 ∧ (H3 = H' ∨ ∃ d od u, d ∈ F' ∧ H' d = some (.frz od u) ∧ (∀ o' u', X.H_0 d ≠ some (.frz o' u')) ∧ H3 = upd H' d u ∧ Neu (.frz od u))) := by
  refine ⟨rfl, ?_⟩
  cases g with
  | di n kvs =>
    obtain ⟨d, od, ws, hd, h1, rfl, hn⟩ := hl
    obtain ⟨e1, x1⟩ := Ext.unlock hd h1 x
    have hd' := x.at hd
    obtain ⟨c, hc, ck⟩ := s.cell hd'
    have : ∃ lk k, c = .dic lk k := by
      cases c with
      | dic lk k => exact ⟨lk, k, rfl⟩
      | lst ds => obtain ⟨vs, q, _⟩ := ck; rw [e1] at q; cases q
      | ins cc fs => obtain ⟨dx, vs, q, _⟩ := ck; rw [e1] at q; cases q
      | exn c => exact ck.elim
    obtain ⟨lk, k, rfl⟩ := this
    obtain ⟨rfl, rfl, rfl⟩ := open_di hc h
    exact ⟨_, x1, s.unlock hd' e1 hc, .inr ⟨d, od, _, List.mem_of_getElem? hd', e1, hn, rfl, True.intro⟩⟩
  | no => cases hl; cases h; exact ⟨_, x, s, .inl rfl⟩
  | ls n ds => cases hl; cases h; exact ⟨_, x, s, .inl rfl⟩
  | two a b => cases hl; cases h; exact ⟨_, x, s, .inl rfl⟩
end
/-! ### what is wanted behind a walk, with the dict let go -/
def opn (X : Cx) (Q : Hp → Prop) (H : Hp) : Prop := Q H ∨ ∃ d od u, H d = some (.frz od u) ∧ (∀ o' u', X.H_0 d ≠ some (.frz o' u')) ∧ Q (upd H d u)
theorem pe_open {X : Cx} {e : Expr} {t : TE} (h : PE X e t) : PE X e (fun σ H Q => t σ H fun v H' => opn X (Q v) H') := ⟨fun pins s σ H Q I q => thn (h.run pins s σ H _ I q) fun u s1 ⟨v, H1, I1, rv, q1⟩ => by
  rcases q1 with q1 | ⟨d, od, w, e, hn, q1⟩
  · exact ⟨v, H1, I1, rv, q1⟩
  · exact ⟨v, _, I1.unlock e hn, rv, q1⟩⟩
def opnD (X : Cx) (D : Ends) : Ends := ⟨fun σ H => opn X (D.nx σ) H, fun v H => opn X (D.rt v) H, fun σ H => opn X (D.bk σ) H, fun σ H => opn X (D.ct σ) H⟩
theorem ps_open {X : Cx} {st : Stmt} {t : TS} (h : PS X st t) : PS X st (fun D σ H => t (opnD X D) σ H) := ⟨fun pins s σ H D I q => thn (h.run pins s σ H _ I q) fun f s1 q1 => by
  have go : ∀ {σ' : L2.St} {H' : Hp} {P : Hp → Prop}, Inv X pins σ' H' s1 → opn X P H' → ∃ H2, Inv X pins σ' H2 s1 ∧ P H2 := fun {σ' H' P} I1 q => by
    rcases q with q | ⟨d, od, w, e, hn, q⟩
    · exact ⟨_, I1, q⟩
    · exact ⟨_, I1.unlock e hn, q⟩
  cases f with
  | next => obtain ⟨σ', H', I1, q2⟩ := q1; obtain ⟨H2, I2, q3⟩ := go I1 q2; exact ⟨σ', H2, I2, q3⟩
  | brk => obtain ⟨σ', H', I1, q2⟩ := q1; obtain ⟨H2, I2, q3⟩ := go I1 q2; exact ⟨σ', H2, I2, q3⟩
  | cont => obtain ⟨σ', H', I1, q2⟩ := q1; obtain ⟨H2, I2, q3⟩ := go I1 q2; exact ⟨σ', H2, I2, q3⟩
  | ret v => obtain ⟨x, σ', H', I1, r, q2⟩ := q1; obtain ⟨H2, I2, q3⟩ := go I1 q2; exact ⟨x, σ', H2, I2, r, q3⟩⟩
end PI

open PySem PySem.Spec PyProof.Rows L2
namespace PI

/-! # targets -/
/-- off these slots the two are one -/
def Off (is : List Nat) (σ σ' : L2.St) : Prop := σ'.length = σ.length ∧ ∀ i, i ∉ is → σ'[i]? = σ[i]?
def tGs (G : Sig) (t : Tg) : TG := fun v σ H Q => ∃ F st ρ d ρ', SR G F H st ∧ RhoR G F H ρ σ ∧ Rep G F H d v ∧ bindT t d ρ st = .ok ρ' st ∧ ∀ σ', RhoR G F H ρ' σ' → Off t.slots σ σ' → Q σ' H
def tLs (G : Sig) (is : List Nat) : TGs := fun vs σ H Q => ∃ F st ρ ds ρ', SR G F H st ∧ RhoR G F H ρ σ ∧ RepL G F H ds vs ∧ setL is ds ρ = some ρ' ∧ ∀ σ', RhoR G F H ρ' σ' → Off is σ σ' → Q σ' H
section
variable {X : Cx} {C Xn : Nat → Addr} {pos : Pos}
/-- a name's slot, stored -/
def StoOk (X : Cx) (e : Expr) (i : Nat) : Prop := ∃ x p, e = .Name x p ∧ X.N[i]? = some x ∧ Loc X.env.scope x ∧ (X.fn x = true ∨ X.env.scope.names.lookup x = some .local)
theorem off_set {is : List Nat} {i : Nat} {σ σ' : L2.St} {x : Option V} (h : Off is (σ.set i x) σ') : Off (i :: is) σ σ' := by
  refine ⟨by rw [h.1]; simp, fun j hj => ?_⟩
  simp only [List.mem_cons, not_or] at hj
  rw [h.2 j hj.2, List.getElem?_set_ne (Ne.symm hj.1)]
theorem off_nil {σ : L2.St} : Off [] σ σ := ⟨rfl, fun _ _ => rfl⟩
theorem pg_nmI {e : Expr} {i : Nat} (hN : X.N.Nodup) (h : StoOk X e i) : PG X e (tGs (sg X C Xn) (.nm i)) := by
  obtain ⟨x, p, rfl, h1, h2, h3⟩ := h
  refine ⟨fun pins s σ H v u Q I rv q => (pg_name hN h1 h2 h3).run pins s σ H v u Q I rv ?_⟩
  obtain ⟨F, st, ρ, d, ρ', sr, r, rd, hb, q⟩ := q
  cases hb
  exact q _ (r.set i rd) (off_set off_nil)
theorem pgs_I (hN : X.N.Nodup) : ∀ {es : List Expr} {is : List Nat}, Paired (StoOk X) es is → PGs X es (tLs (sg X C Xn) is)
  | _, _, .nil => ⟨fun pins s σ H vs us Q I rv q => pgs_nil.run pins s σ H vs us Q I rv (by
      obtain ⟨F, st, ρ, ds, ρ', sr, r, rd, hb, q⟩ := q
      cases ds with
      | nil => cases hb; rw [RepL] at rd; exact ⟨rd, q σ r off_nil⟩
      | cons d ds => cases hb)⟩
  | e :: es, i :: is, .cons h t => by
    obtain ⟨x, p, rfl, h1, h2, h3⟩ := h
    have ih := pgs_I hN t
    refine ⟨fun pins s σ H vs us Q I rv q => (pgs_cons (pg_name (pos := p) hN h1 h2 h3) ih rfl).run pins s σ H vs us Q I rv ?_⟩
    obtain ⟨F, st, ρ, ds, ρ', sr, r, rd, hb, q⟩ := q
    cases ds with
    | nil => cases hb
    | cons d ds =>
      rw [RepL] at rd
      obtain ⟨v, w, rfl, rd1, rd2⟩ := rd
      exact ⟨v, w, rfl, F, st, ρ.set i (some d), ds, ρ', sr, r.set i rd1, rd2, hb, fun σ' r' o => q σ' r' (off_set o)⟩
theorem sto_each {env : PySem.Env} : ∀ {es : List Expr} {is : List Nat}, Paired (StoOk X) es is → (assignEach es env).length = is.length ∧ (assignEach es env).findIdx? (·.1) = none
  | _, _, .nil => ⟨rfl, rfl⟩
  | e :: es, i :: is, .cons h t => by
    obtain ⟨x, p, rfl, h1, h2, h3⟩ := h
    obtain ⟨a, b⟩ := sto_each (env := env) t
    have e1 : assignEach (.Name x p :: es) env = (false, assign (.Name x p) env) :: assignEach es env := rfl
    rw [e1]
    refine ⟨by rw [List.length_cons, List.length_cons, a], ?_⟩
    rw [List.findIdx?_cons, b]
    rfl
theorem setL_len : ∀ {is : List Nat} {ds : List D} {ρ ρ' : Rho}, setL is ds ρ = some ρ' → ds.length = is.length
  | [], [], _, _, _ => rfl
  | i :: is, d :: ds, ρ, ρ', h => by
    rw [List.length_cons, List.length_cons, setL_len (is := is) (ds := ds) (show setL is ds (ρ.set i (some d)) = some ρ' from h)]
  | [], _ :: _, _, _, h => by cases h
  | _ :: _, [], _, _, h => by cases h
/-- a row's own store stays -/
theorem row_inv {d : D} {st s2 : Store} {ds : List D} (h : row d st = .ok ds s2) : s2 = st := by
  unfold row at h
  split at h
  · cases h; rfl
  · cases h; rfl
  · rw [bind_def] at h
    unfold getC at h
    split at h <;> rename_i q
    · split at q <;> rename_i q2
      · cases q
        split at h
        · cases h; rfl
        · cases h
      · cases q
    · cases h
    · cases h
  · cases h
theorem row_rep {G : Sig} {F : List Addr} {H : Hp} {st s2 : Store} {d : D} {v : V} {ds : List D} (s : SR G F H st) (r : Rep G F H d v) (h : row d st = .ok ds s2) : ∃ p vs, v = .ref p ∧ RepL G F H ds vs ∧ (SqT G.K H p vs ∨ SqL G.K H p vs) := by
  unfold row at h
  split at h
  · cases h
    obtain ⟨p, vs, rfl, t, r2⟩ := rep_tup r
    exact ⟨p, vs, rfl, r2, .inl t⟩
  · cases h
    obtain ⟨p, vs, rfl, t, r2⟩ := rep_wl r
    exact ⟨p, vs, rfl, r2, .inr t.seq⟩
  · obtain ⟨p, rfl, f⟩ := rep_obj r
    obtain ⟨c, g, k⟩ := s.cell f
    rw [bind_def] at h
    unfold getC at h
    rw [g] at h
    cases c with
    | lst es =>
      cases h
      obtain ⟨vs, k1, k2⟩ := k
      exact ⟨p, vs, rfl, k2, .inr (.inl (.inl k1))⟩
    | _ => cases h
  · cases h
theorem bindR_inv {is : List Nat} {d : D} {ρ ρ' : Rho} {st s2 : Store} (h : bindT (.tp is) d ρ st = .ok ρ' s2) : ∃ ds, row d st = .ok ds st ∧ setL is ds ρ = some ρ' ∧ s2 = st := by
  have h0 : (do let ds ← row d; opt (setL is ds ρ) : M Rho) st = .ok ρ' s2 := h
  rw [bind_def] at h0
  cases q : row d st with
  | ok ds s1 =>
    rw [q] at h0
    obtain rfl := row_inv q
    replace h0 : (opt (setL is ds ρ) : M Rho) s1 = .ok ρ' s2 := h0
    cases e : setL is ds ρ with
    | none => rw [e] at h0; cases h0
    | some y => rw [e] at h0; cases h0; exact ⟨ds, rfl, e, rfl⟩
  | er c s1 => rw [q] at h0; cases h0
  | bad => rw [q] at h0; cases h0
theorem pg_or {tg : Expr} {t t' : TG} (h : PG X tg t) (h' : PG X tg t') : PG X tg (fun v σ H Q => t v σ H Q ∨ t' v σ H Q) :=
  ⟨fun pins s σ H v u Q I rv q => q.elim (h.run pins s σ H v u Q I rv) (h'.run pins s σ H v u Q I rv)⟩
theorem pg_tpI {es : List Expr} {is : List Nat} {k : Nat} (hc : X.calm = true) (hN : X.N.Nodup) (h : Paired (StoOk X) es is) : PG X (.Tuple es k pos) (tGs (sg X C Xn) (.tp is)) := by
  obtain ⟨h1, h2⟩ := sto_each (env := X.env) h
  have pgs := pgs_I (C := C) (Xn := Xn) hN h
  refine ⟨fun pins s σ H v u Q I rv q => (pg_or (pg_tup hc pgs h1 h2) (pg_lst hc pgs h1 h2)).run pins s σ H v u Q I rv ?_⟩
  obtain ⟨F, st, ρ, d, ρ', sr, r, rd, hb, q⟩ := q
  obtain ⟨ds, b1, b2, _⟩ := bindR_inv hb
  obtain ⟨a, vs, rfl, rl, alt⟩ := row_rep sr rd b1
  rcases alt with t | t
  · exact .inl ⟨a, vs, rfl, t, by rw [rl.length, setL_len b2], F, st, ρ, ds, ρ', sr, r, rl, b2, q⟩
  · exact .inr ⟨a, vs, rfl, t, by rw [rl.length, setL_len b2], F, st, ρ, ds, ρ', sr, r, rl, b2, q⟩
end

/-! # list comprehensions -/
theorem wipe_get {σ : L2.St} : ∀ (vs : List Nat) (i : Nat), (wipe σ vs)[i]? = if i ∈ vs ∧ i < σ.length then some none else σ[i]?
  | [], i => by simp [wipe]
  | v :: vs, i => by
    unfold wipe
    have ih := wipe_get (σ := σ) vs i
    by_cases hv : v = i
    · subst hv
      by_cases hl : v < σ.length
      · rw [List.getElem?_set_self (by rw [wipe_length]; exact hl), if_pos ⟨List.mem_cons_self, hl⟩]
      · rw [List.getElem?_eq_none (by rw [List.length_set, wipe_length]; omega), if_neg (fun z => hl z.2), List.getElem?_eq_none (by omega)]
    · rw [List.getElem?_set_ne hv, ih]
      have : (i ∈ v :: vs) ↔ i ∈ vs := by simp [List.mem_cons, Ne.symm hv]
      simp only [this]
theorem wipe_off {σ σ2 : L2.St} {is vs : List Nat} (h : Off is (wipe σ vs) σ2) (hs : ∀ i ∈ is, i ∈ vs) : wipe σ2 vs = wipe σ vs := by
  have hl : σ2.length = σ.length := by rw [h.1, wipe_length]
  apply List.ext_getElem?
  intro i
  rw [wipe_get, hl]
  by_cases q : i ∈ vs
  · by_cases z : i < σ.length
    · rw [if_pos ⟨q, z⟩, wipe_get, if_pos ⟨q, z⟩]
    · rw [if_neg (fun y => z y.2), wipe_get, if_neg (fun y => z y.2), List.getElem?_eq_none (by omega), List.getElem?_eq_none (by omega)]
  · rw [if_neg (fun y => q y.1), h.2 i (fun y => q (hs i y))]
theorem rho_wipe {G : Sig} {F : List Addr} {H : Hp} {ρ : Rho} {σ : L2.St} (r : RhoR G F H ρ σ) : ∀ vs : List Nat, RhoR G F H (wipeR ρ vs) (wipe σ vs)
  | [] => r
  | v :: vs => by
    show RhoR G F H ((wipeR ρ vs).set v none) ((wipe σ vs).set v none)
    exact (rho_wipe r vs).unset v none
/-- nothing is wished of an exception -/
def W0 : WX := fun _ _ _ _ => False
/-- a run that ends well -/
theorem WP.of_ok {α : Type} {G : Sig} {F : List Addr} {H : Hp} {st s1 : Store} {W : Nat → List Addr → Hp → Store → Prop} {m : M α} {a : α} {R : α → List Addr → Hp → Store → Prop} (e : m st = .ok a s1) (h : ∀ F' H', Ext G F H F' H' → SR G F' H' s1 → R a F' H' s1) : WP G W m R F H st := by
  unfold WP
  rw [e]
  exact h
theorem bind_inv {α β : Type} {m : M α} {f : α → M β} {st s2 : Store} {b : β} (h : (m >>= f) st = .ok b s2) : ∃ a s1, m st = .ok a s1 ∧ f a s1 = .ok b s2 := by
  rw [bind_def] at h
  cases q : m st with
  | ok a s1 => rw [q] at h; exact ⟨a, s1, rfl, h⟩
  | er c s1 => rw [q] at h; cases h
  | bad => rw [q] at h; cases h
theorem grd_inv {p : Prop} [Decidable p] {st s2 : Store} (h : grd p st = .ok () s2) : p ∧ s2 = st := by
  unfold grd at h
  by_cases q : p
  · rw [if_pos q] at h; cases h; exact ⟨q, rfl⟩
  · rw [if_neg q] at h; cases h
theorem chk_inv {g : Gd} {st s2 : Store} {u : Unit} (h : chk g st = .ok u s2) : g.ok st ∧ s2 = st := by
  unfold chk at h
  by_cases q : g.ok st
  · rw [if_pos q] at h; cases h; exact ⟨q, rfl⟩
  · rw [if_neg q] at h; cases h
theorem nox_inv {α : Type} {m : M α} {st s2 : Store} {a : α} (h : nox m st = .ok a s2) : m st = .ok a s2 := by
  unfold nox at h
  cases q : m st with
  | ok b s1 => rw [q] at h; exact h
  | er c s1 => rw [q] at h; cases h
  | bad => rw [q] at h; cases h
theorem opt_inv {α : Type} {o : Option α} {st s2 : Store} {a : α} (h : opt o st = .ok a s2) : o = some a ∧ s2 = st := by
  cases o with
  | none => cases h
  | some b => cases h; exact ⟨rfl, rfl⟩
/-- a target doesn't touch the store -/
theorem bindT_inv {t : Tg} {d : D} {ρ ρ' : Rho} {st s2 : Store} (h : bindT t d ρ st = .ok ρ' s2) : s2 = st := by
  cases t with
  | nm i => cases h; rfl
  | tp is => exact (bindR_inv h).choose_spec.2.2
section
variable {G : Sig} {F F0 : List Addr} {H H0 : Hp} {st st5 : Store} {t : Tg} {mc : Rho → M Bool} {me : Rho → M D} {g : Gd} {ρw : Rho}
/-- the state within a block: the new list at D, beside the store -/
structure LcI (G : Sig) (t : Tg) (mc : Rho → M Bool) (me : Rho → M D) (g : Gd) (ρw : Rho) (dsAll outs : List D) (st5 : Store) (F0 : List Addr) (H0 : Hp) (D : Addr) (i : Nat) (H : Hp) : Prop where
  ex : ∃ F st acc vs rest, Ext G F0 H0 F H ∧ SR G F H st ∧ D ∉ F ∧ H D = some (.lst vs) ∧ RepL G F H acc vs ∧ acc.length ≤ i ∧ lcL t mc me g ρw (dsAll.drop i) st = .ok rest st5 ∧ outs = acc ++ rest
theorem lc_loop {J : It} {ds outs : List D} {D : Addr} {σ : L2.St} {own : List Nat} {Qd : Hp → Prop} {ρ : Rho} (hD : H0 D = none) (hDF : D ∉ F0) (wk : Wk G J g ds F0 H0) (hz : ds.length ≤ SZ) (hs : ∀ i ∈ t.slots, i ∈ own) (hr : RhoR G F0 H0 ρ σ)
    (s0 : SR G F0 H0 st) (run : lcL t mc me g (wipeR ρ own) ds st = .ok outs st5)
    (hend : ∀ F H vs, Ext G F0 H0 F H → SR G F H st5 → D ∉ F → H D = some (.lst vs) → RepL G F H outs vs → Qd H) :
    ∃ W : Nat → Nat → Hp → Prop, (∃ m, W 0 m (upd H0 D (.lst []))) ∧ ∀ i m H, W i m H →
      (J.stop i H ∧ Qd H) ∨ (J.go i H ∧ ∃ Nx : Hp → Prop, (∀ H', Nx H' → ∃ m', m' < m ∧ W (i + 1) m' H') ∧ ∀ x H', J.yld i H x H' → tGs G t x (wipe σ own) H' fun σ2 H2 => wipe σ2 own = wipe σ own ∧ tTs G W0 mc σ2 H2 fun b H3 =>
        if b = true then tV G W0 me σ2 H3 fun y H4 => ∃ acc, H4 D = some (.lst acc) ∧ acc.length < sizeLine ∧ Nx (upd H4 D (.lst (acc ++ [y]))) else Nx H3) := by
  refine ⟨fun i m H => m = ds.length - i ∧ i ≤ ds.length ∧ LcI G t mc me g (wipeR ρ own) ds outs st5 F0 H0 D i H, ⟨ds.length, by simp, Nat.zero_le _, ?_⟩, ?_⟩
  · exact ⟨F0, st, [], [], outs, Ext.new hD, s0.new hD, hDF, upd_same, RepL.nil, Nat.le_refl _, run, rfl⟩
  · rintro i m H ⟨rfl, hi, F, st', acc, vs, rest, x, s, hDn, hDv, ra, hl, hrun, hout⟩
    by_cases hlt : i < ds.length
    · right
      have edrop : ds.drop i = ds[i] :: ds.drop (i + 1) := List.drop_eq_getElem_cons hlt
      rw [edrop] at hrun
      unfold lcL at hrun
      obtain ⟨_, sa, h1, hrun1⟩ := bind_inv hrun
      clear hrun
      obtain ⟨gk, rfl⟩ := chk_inv h1
      obtain ⟨ρ', sb, h2, hrun2⟩ := bind_inv hrun1
      clear hrun1
      obtain rfl := bindT_inv h2
      obtain ⟨k, sc, h3, hrun⟩ := bind_inv hrun2
      clear hrun2
      refine ⟨wk.goes i F H _ x s gk hlt, LcI G t mc me g (wipeR ρ own) ds outs st5 F0 H0 D (i + 1), fun H' p => ⟨ds.length - (i + 1), by omega, rfl, hlt, p⟩, fun y H' hy => ?_⟩
      obtain ⟨d, ed, x1, s1, rd⟩ := wk.yields i F H _ y H' x s gk hlt hy
      have ed' : ds[i] = d := by
        have := List.getElem?_eq_getElem hlt
        rw [this] at ed
        exact Option.some.inj ed
      rw [ed'] at h2
      have hr1 : RhoR G F H' ρ σ := hr.mono (x.trans x1)
      refine ⟨F, _, wipeR ρ own, d, ρ', s1, rho_wipe hr1 own, rd, h2, fun σ2 r2 off => ⟨wipe_off off hs, ?_⟩⟩
      have hD1 := x1.fr D (by rw [hDv]; exact fun z => nomatch z) hDn
      refine ⟨F, ρ', _, s1, r2, WP.of_ok h3 fun F3 H3 x3 s3 => ?_⟩
      have hD3 := x3.fr D (by rw [hD1.1, hDv]; exact fun z => nomatch z) hD1.2
      have hDv3 : H3 D = some (.lst vs) := by rw [hD3.1, hD1.1, hDv]
      have x03 := (x.trans x1).trans x3
      have ra3 := ra.mono (x1.trans x3)
      dsimp only
      cases k with
      | false =>
        rw [if_neg (by decide)] at hrun ⊢
        exact ⟨F3, sc, acc, vs, rest, x03, s3, hD3.2, hDv3, ra3, by omega, hrun, hout⟩
      | true =>
        rw [if_pos rfl] at hrun ⊢
        obtain ⟨de, sd, h4, hrun4⟩ := bind_inv hrun
        obtain ⟨rs, se, h5, hrun5⟩ := bind_inv hrun4
        cases hrun5
        refine ⟨F3, ρ', sc, s3, r2.mono x3, WP.of_ok h4 fun F4 H4 x4 s4 v rv => ?_⟩
        have hD4 := x4.fr D (by rw [hDv3]; exact fun z => nomatch z) hD3.2
        have hDv4 : H4 D = some (.lst vs) := by rw [hD4.1, hDv3]
        refine ⟨vs, hDv4, ?_, ?_⟩
        · rw [ra.length]
          have := SZ_eq
          omega
        · have e5 : ExtR G F4 H4 F4 (upd H4 D (.lst (vs ++ [v]))) := .side hDv4 True.intro
          exact ⟨F4, sd, acc ++ [de], vs ++ [v], rs, (x03.trans x4).side hD hDv4 True.intro, s4.side hDv4 True.intro hD4.2, hD4.2, upd_same, ((ra3.mono x4).append (.cons rv .nil)).monoR e5, by simp; omega, h5, by rw [hout]; simp⟩
    · left
      have e : i = ds.length := by omega
      subst e
      rw [List.drop_length] at hrun
      unfold lcL at hrun
      obtain ⟨_, sa, h1, hrun1⟩ := bind_inv hrun
      clear hrun
      obtain ⟨gk, rfl⟩ := chk_inv h1
      cases hrun1
      rw [List.append_nil] at hout
      subst hout
      exact ⟨wk.stops F H _ x s gk, hend F H vs x s hDn hDv ra⟩
end
end PI

open PySem PySem.Spec PyProof.Rows L2
namespace PI

theorem bind_er {α β : Type} {m : M α} {f : α → M β} {st s2 : Store} {c : Nat} (h : (m >>= f) st = .er c s2) : m st = .er c s2 ∨ ∃ a s1, m st = .ok a s1 ∧ f a s1 = .er c s2 := by
  rw [bind_def] at h
  cases q : m st with
  | ok a s1 => rw [q] at h; exact .inr ⟨a, s1, rfl, h⟩
  | er c' s1 => rw [q] at h; cases h; exact .inl rfl
  | bad => rw [q] at h; cases h
/-- never an exception -/
def NoEr {α : Type} (m : M α) : Prop := ∀ st c s2, m st ≠ .er c s2
theorem NoEr.bind {α β : Type} {m : M α} {f : α → M β} (h : NoEr m) (k : ∀ a, NoEr (f a)) : NoEr (m >>= f) := fun st c s2 z => by
  rcases bind_er z with z | ⟨a, s1, _, z⟩
  · exact h _ _ _ z
  · exact k a _ _ _ z
theorem noEr_pure {α : Type} (a : α) : NoEr (pure a : M α) := fun _ _ _ z => by cases z
theorem noEr_bad {α : Type} : NoEr (bad : M α) := fun _ _ _ z => by cases z
theorem noEr_grd {p : Prop} [Decidable p] : NoEr (grd p) := fun st c s2 z => by
  unfold grd at z
  split at z <;> cases z
theorem noEr_get {n : Nat} : NoEr (getC n) := fun st c s2 z => by
  unfold getC at z
  split at z <;> cases z
theorem noEr_set {n : Nat} {c : Cell} : NoEr (setC n c) := fun st c s2 z => by cases z
theorem noEr_nox {α : Type} {m : M α} : NoEr (nox m) := fun st c s2 z => by
  unfold nox at z
  split at z
  · cases z
  · rename_i hne
    exact hne c s2 z
theorem noEr_lock {g : Gd} : NoEr (lockG g) := by
  cases g with
  | di n kvs =>
    refine NoEr.bind noEr_get fun c => ?_
    split
    · exact NoEr.bind noEr_grd fun _ => noEr_set
    · exact noEr_bad
  | _ => exact noEr_pure _
theorem noEr_open {g : Gd} : NoEr (openG g) := by
  cases g with
  | di n kvs =>
    refine NoEr.bind noEr_get fun c => ?_
    split
    · exact NoEr.bind noEr_grd fun _ => noEr_set
    · exact noEr_bad
  | _ => exact noEr_pure _
theorem WP.run {α : Type} {G : Sig} {F : List Addr} {H : Hp} {st s1 : Store} {W : Nat → List Addr → Hp → Store → Prop} {m : M α} {a : α} {R : α → List Addr → Hp → Store → Prop} (h : WP G W m R F H st) (e : m st = .ok a s1) {F' : List Addr} {H' : Hp} (x : Ext G F H F' H') (s : SR G F' H' s1) : R a F' H' s1 := by
  unfold WP at h
  rw [e] at h
  exact h F' H' x s
theorem WP.runE {α : Type} {G : Sig} {F : List Addr} {H : Hp} {st s1 : Store} {W : Nat → List Addr → Hp → Store → Prop} {m : M α} {c : Nat} {R : α → List Addr → Hp → Store → Prop} (h : WP G W m R F H st) (e : m st = .er c s1) {F' : List Addr} {H' : Hp} (x : Ext G F H F' H') (s : SR G F' H' s1) : W c F' H' s1 := by
  unfold WP at h
  rw [e] at h
  exact h F' H' x s
theorem WP.runB {α : Type} {G : Sig} {F : List Addr} {H : Hp} {st : Store} {W : Nat → List Addr → Hp → Store → Prop} {m : M α} {R : α → List Addr → Hp → Store → Prop} (h : WP G W m R F H st) (e : m st = .bad) : False := by
  unfold WP at h
  rw [e] at h
  exact h
section
variable {X : Cx} {C Xn : Nat → Addr} {lv : Nat} {W : WX} {t : Tg} {own : List Nat} {mi : Rho → M (List D × Gd)} {mc : Rho → M Bool} {me : Rho → M D} {F : List Addr} {H : Hp} {st : Store} {ρ : Rho} {σ : L2.St} {Q : VK}
theorem lc_read (s : SR (sg X C Xn) F H st) (r : RhoR (sg X C Xn) F H ρ σ) (hs : ∀ i ∈ t.slots, i ∈ own)
    (hrun : WP (sg X C Xn) (WV (sg X C Xn) W σ) (lcM t own mi mc me ρ) (fun _ _ _ _ => True) F H st)
    (hend : ∀ outs st6 F3 H3 D vs, lcM t own mi mc me ρ st = .ok outs st6 → H D = none → Ext (sg X C Xn) F H F3 H3 → SR (sg X C Xn) F3 H3 st6 → D ∉ F3 → H3 D = some (.lst vs) → RepL (sg X C Xn) F3 H3 outs vs → Q (.ref D) H3) :
    tLc (tIs X C Xn W mi) (tGs (sg X C Xn) t) (tTs (sg X C Xn) W0 mc) (tV (sg X C Xn) W0 me) own σ H (fun v H' => opn X (Q v) H') := by
  refine ⟨F, ρ, st, s, r, ?_⟩
  cases q : mi ρ st with
  | ok w st1 =>
    refine WP.of_ok q fun F1 H1 x1 s1 => ?_
    cases z : lcM t own mi mc me ρ st with
    | ok outs st6 =>
      obtain ⟨w', s', h1, z1⟩ := bind_inv (show (mi ρ >>= _) st = _ from z)
      rw [q] at h1
      cases h1
      obtain ⟨_, st2, h2, z2⟩ := bind_inv z1
      obtain ⟨_, s3, h3, z3⟩ := bind_inv z2
      obtain ⟨hz, rfl⟩ := grd_inv h3
      obtain ⟨ds, st5, h4, z4⟩ := bind_inv z3
      obtain ⟨_, st6', h5, z5⟩ := bind_inv z4
      cases z5
      refine ⟨_, h2, fun J H2 hl x2 s2 wk D hD => ?_⟩
      have hD0 : H D = none := by
        cases e : H D with
        | none => rfl
        | some o => exact absurd hD (x2.tr D (x1.tr D (by rw [e]; exact fun z => nomatch z)))
      have hDF : D ∉ F1 := fun z => s2.tr D z hD
      refine lc_loop hD hDF wk hz hs (r.mono (x1.trans x2)) s2 (nox_inv h4) fun F3 H3 vs x3 s4 hDn hDv rl => ?_
      obtain ⟨_, H4, x4, s5, alt⟩ := end_walk hl x3 s4 h5
      rcases alt with rfl | ⟨d, od, u, hd, e, hn, rfl, neu⟩
      · exact .inl (hend _ _ F3 _ D vs z hD0 (x1.trans x4) s5 hDn hDv rl)
      · refine .inr ⟨d, od, u, e, hn, hend _ _ F3 _ D vs z hD0 (x1.trans x4) s5 hDn ?_ (rl.monoR (.side e neu))⟩
        rw [upd_ne (fun z => hDn (by rw [z]; exact hd))]
        exact hDv
    | er c s' =>
      rcases bind_er (show (mi ρ >>= _) st = _ from z) with h1 | ⟨w', s2, h1, h2⟩
      · rw [q] at h1; cases h1
      · exact absurd h2 (NoEr.bind noEr_lock (fun _ => NoEr.bind noEr_grd fun _ => NoEr.bind noEr_nox fun _ => NoEr.bind noEr_open fun _ => noEr_pure _) _ _ _)
    | bad => exact (hrun.runB z).elim
  | er c st1 =>
    have z : lcM t own mi mc me ρ st = .er c st1 := by
      show (mi ρ >>= _) st = _
      rw [bind_def, q]
    unfold WP
    rw [q]
    exact fun F' H' x s' => hrun.runE z x s'
  | bad =>
    have z : lcM t own mi mc me ρ st = .bad := by
      show (mi ρ >>= _) st = _
      rw [bind_def, q]
    exact (hrun.runB z).elim
/-- a comprehension's block, part by part -/
structure LcOk (X : Cx) (C Xn : Nat → Addr) (W : WX) (elt tg it : Expr) (ifs : List Expr) (scope : Scope) (own : List (Str × Nat)) (t : Tg) (mi : Rho → M (List D × Gd)) (mc : Rho → M Bool) (me : Rho → M D) : Prop where
  hc : X.calm = true
  hN : X.N.Nodup
  hi : IOk X C Xn W tg it mi
  ok : BlkOk X.N X.env.scope scope own
  hg : ∀ (s : Shared) (H : Hp) (L : Addr) (cl : List (Str × Addr)) (fp : List Addr), PG (X.blk s H scope (compEnvC scope cl L X.env) fp) tg (tGs (sg X C Xn) t)
  ht : ∀ (s : Shared) (H : Hp) (L : Addr) (cl : List (Str × Addr)) (fp : List Addr), PTs (X.blk s H scope (compEnvC scope cl L X.env) fp) ifs (tTs (sg X C Xn) W0 mc)
  he : ∀ (s : Shared) (H : Hp) (L : Addr) (cl : List (Str × Addr)) (fp : List Addr), PE (X.blk s H scope (compEnvC scope cl L X.env) fp) elt (tV (sg X C Xn) W0 me)
  hs : ∀ i ∈ t.slots, i ∈ own.map (·.2)
variable {elt tg it : Expr} {ifs : List Expr} {scope : Scope} {ownP : List (Str × Nat)} {pos : Pos}
theorem LcOk.pe (k : LcOk X C Xn W elt tg it ifs scope ownP t mi mc me) : PE X (.ListComp elt [⟨tg, it, ifs, 0⟩] scope pos) (fun σ H Q => tLc (tIs X C Xn W mi) (tGs (sg X C Xn) t) (tTs (sg X C Xn) W0 mc) (tV (sg X C Xn) W0 me) (ownP.map (·.2)) σ H (fun v H' => opn X (Q v) H')) :=
  pe_open (pe_lc k.hc k.hN k.hi.i k.ok k.hg k.ht k.he k.hi.f)
theorem lc_val (s : SR (sg X C Xn) F H st) (h : WP (sg X C Xn) (WV (sg X C Xn) W σ) (do let ds ← lcM t own mi mc me ρ; alloc (.lst ds)) (fun d F' H' _ => ∀ v, Rep (sg X C Xn) F' H' d v → Q v H') F H st) {outs : List D} {st6 : Store} {F3 : List Addr} {H3 : Hp} {D : Addr} {vs : List V}
    (e : lcM t own mi mc me ρ st = .ok outs st6) (h0 : H D = none) (x : Ext (sg X C Xn) F H F3 H3) (s3 : SR (sg X C Xn) F3 H3 st6) (hn : D ∉ F3) (hv : H3 D = some (.lst vs)) (rl : RepL (sg X C Xn) F3 H3 outs vs) : Q (.ref D) H3 := by
  have e2 : (do let ds ← lcM t own mi mc me ρ; alloc (.lst ds) : M PI.D) st = .ok (.obj st6.length) (st6 ++ [.lst outs]) := by
    rw [bind_def, e]
    rfl
  have er : ExtR (sg X C Xn) F3 H3 (F3 ++ [D]) H3 := ⟨⟨[D], rfl⟩, fun _ _ h => h, fun _ _ h => h⟩
  refine h.run e2 (x.adopt h0) (s3.adopt hn (by rw [hv]; exact fun z => nomatch z) ⟨vs, hv, rl.monoR er⟩) _ ?_
  rw [Rep]
  exact ⟨D, rfl, by rw [← s3.len, List.getElem?_append_right (Nat.le_refl _)]; simp⟩
theorem eo_lc (k : LcOk X C Xn W elt tg it ifs scope ownP t mi mc me) : EOk X C Xn W (.ListComp elt [⟨tg, it, ifs, 0⟩] scope pos) { Sem.of fun ρ => do let ds ← lcM t (ownP.map (·.2)) mi mc me ρ; alloc (.lst ds) with
      r := fun ρ => do let ds ← lcM t (ownP.map (·.2)) mi mc me ρ; pure (.l, ds) } := by
  have hv : PE X (.ListComp elt [⟨tg, it, ifs, 0⟩] scope pos) (tV (sg X C Xn) W fun ρ => do let ds ← lcM t (ownP.map (·.2)) mi mc me ρ; alloc (.lst ds)) := PE.imp k.pe fun σ H Q q => by
    obtain ⟨F, ρ, st, s, r, h⟩ := q
    exact lc_read s r k.hs (h.bind.imp fun _ _ _ _ _ _ _ => True.intro) fun outs st6 F3 H3 D vs e h0 x s3 hn hv rl => lc_val s h e h0 x s3 hn hv rl
  refine ⟨rfl, hv, fun _ => PT.imp (pt_truth hv (fun _ => rfl)) fun _ _ _ q => tTs_of rfl q, PE.imp k.pe fun σ H Q q => ?_, rfl, rfl⟩
  obtain ⟨F, ρ, st, s, r, h⟩ := q
  refine lc_read s r k.hs (h.bind.imp fun _ _ _ _ _ _ _ => True.intro) fun outs st6 F3 H3 D vs e h0 x s3 hn hv rl => ?_
  have e2 : (do let ds ← lcM t (ownP.map (·.2)) mi mc me ρ; pure (Rk.l, ds) : M (Rk × List PI.D)) st = .ok (.l, outs) st6 := by
    rw [bind_def, e]
    rfl
  exact h.run e2 x s3 _ ⟨D, vs, rfl, .inl (.inl hv), rl⟩
/-- name = [..] in its place -/
theorem ps_setLcI {i : Nat} {y : Str} {py spos : Pos} (k : LcOk X C Xn W elt tg it ifs scope ownP t mi mc me) (hy : X.N[i]? = some y) (hyl : X.env.scope.names.lookup y = some .local)
    (hsw : swapsWith (.ListComp elt [⟨tg, it, ifs, 0⟩] scope pos) (some (.Name y py)) spos.line X.env = pure true) :
    PS X (.Assign [.Name y py] (.ListComp elt [⟨tg, it, ifs, 0⟩] scope pos) spos) (fun D σ H => tV (sg X C Xn) W (fun ρ => do let ds ← lcM t (ownP.map (·.2)) mi mc me ρ; alloc (.lst ds)) σ H fun v H' => D.nx (σ.set i (some v)) H') := by
  refine PS.imp (ps_open (ps_setLc k.hc k.hN hy hyl hsw k.hi.i k.ok k.hg k.ht k.he k.hi.f)) fun D σ H q => ?_
  obtain ⟨F, ρ, st, s, r, h⟩ := q
  exact lc_read (Q := fun v H' => D.nx (σ.set i (some v)) H') s r k.hs (h.bind.imp fun _ _ _ _ _ _ _ => True.intro) fun outs st6 F3 H3 Da vs e h0 x s3 hn hv rl => lc_val s h e h0 x s3 hn hv rl
end
end PI

open PySem PySem.Spec PyProof.Rows L2
namespace PI

/-! # what is known of the module -/
def biNames : List Str := ["len", "int", "str", "abs", "min", "max", "isinstance", "tuple", "list", "sum", "any", "all", "sorted", "bool", "dict", "range", "enumerate", "zip", "reversed"]
structure GOk (X : Cx) (C Xn : Nat → Addr) (c : Cc) (lv : Nat) (cl mk : Nat → List D → M D) (mt : Nat → Str → Option (Option Nat)) : Prop where
  bi : ∀ x ∈ biNames, X.mg x = none
  cn : ∀ x d, c.cn.lookup x = some d → ∃ v u, X.mg x = some u ∧ RelV v u ∧ ∀ F H, Rep (sg X C Xn) F H d v
  fn : ∀ x k, c.fn.lookup x = some k → ∃ f, X.mg x = some (.ref f) ∧ PySem.W.keepIn X.K (.ref f) = true ∧ ∃ fd ps, Binds X.K fd ps [] ∧ FnOk X.prog X.w X.K X.mg X.base (L2.CX X.prog X.w) lv f fd ps (spM (sg X C Xn) (cl k))
  cs : ∀ x k, c.cs.lookup x = some k → X.mg x = some (.ref (C k)) ∧ PySem.W.keepIn X.K (.ref (C k)) = true ∧ ((∀ ds, mk k ds = bad) ∨ ∃ j f fd ps m, lv = j + 1 ∧ Mk X.K (C k) f ∧ Binds X.K fd ps [] ∧ FnOk X.prog X.w X.K X.mg X.base (L2.CX X.prog X.w) j f fd ps (spM (sg X C Xn) m) ∧ ∀ ds, mk k ds = newM k m ds)
  meth : ∀ k m f, mt k m = some (some f) → Cls X.K (C k) ∧ ∃ fa, Meth X.K (C k) m fa ∧ ∃ fd ps, Binds X.K fd ps [] ∧ FnOk X.prog X.w X.K X.mg X.base (L2.CX X.prog X.w) lv fa fd ps (spM (sg X C Xn) (cl f))
  fld : ∀ k f, mt k f = some none → Cls X.K (C k) ∧ NoAttr X.K (C k) f
structure XOk (X : Cx) (c : Cc) (sc : Scope) (bs : Option Scope) (W : WX) (lv : Nat) : Prop where
  N : X.N = c.N
  scp : X.env.scope = sc
  nd : c.N.Nodup
  calm : X.calm = true
  hr : Room lv X.A
  tk : Takes X W
  sto : ∀ x, isSto sc bs x = true → L2.Loc sc x ∧ (X.fn x = true ∨ sc.names.lookup x = some .local)
/-! # the compiler's answers -/
theorem ob {α β : Type} {o : Option α} {f : α → Option β} {b : β} (h : (o >>= f) = some b) : ∃ a, o = some a ∧ f a = some b := Option.bind_eq_some_iff.mp h
theorem om {α β : Type} {o : Option α} {f : α → β} {b : β} (h : o.map f = some b) : ∃ a, o = some a ∧ f a = b := Option.map_eq_some_iff.mp h
theorem oi {α : Type} {b : Bool} {o : Option α} {r : α} (h : (if b = true then o else none) = some r) : b = true ∧ o = some r := by
  cases b with
  | true => exact ⟨rfl, h⟩
  | false => cases h
theorem oip {α : Type} {p : Prop} [Decidable p] {o : Option α} {r : α} (h : (if p then o else none) = some r) : p ∧ o = some r := by
  by_cases q : p
  · rw [if_pos q] at h; exact ⟨q, h⟩
  · rw [if_neg q] at h; cases h
theorem idx_at : ∀ {l : List Str} {x : Str}, x ∈ l → l[l.idxOf x]? = some x
  | [], x, h => by cases h
  | y :: l, x, h => by
    rw [List.idxOf_cons]
    by_cases q : y = x
    · subst q; simp
    · have q' : (y == x) = false := beq_eq_false_iff_ne.mpr q
      rw [q']
      simp only [cond_false, List.getElem?_cons_succ]
      exact idx_at ((List.mem_cons.mp h).resolve_left fun z => q z.symm)
theorem slot_ok {N : List Str} {x : Str} {i : Nat} (h : slot N x = some i) : N[i]? = some x := by
  unfold slot at h
  obtain ⟨h1, h2⟩ := oip h
  cases h2
  exact idx_at h1
theorem vis_ok {sc : Scope} {x : Str} (h : isVis sc x = true) : Vis sc x := by
  unfold isVis at h
  unfold Vis
  split at h <;> simp_all
theorem gl_ok {X : Cx} {sc : Scope} {x : Str} (hs : X.env.scope = sc) (h : isGl sc x = true) : Gl X x := by
  unfold isGl at h
  subst hs
  show X.env.scope.names.lookup x = some .globalImplicit
  split at h
  · assumption
  · cases h
theorem okName_ok {x : Str} (h : okName x = true) : (x == ("__debug__" : Str)) = false ∧ (x == ("__classdict__" : Str)) = false ∧ x ≠ "__name__" := by
  unfold okName at h
  simp only [Bool.and_eq_true, Bool.not_eq_true', decide_eq_true_eq] at h
  exact ⟨h.1.1, h.1.2, h.2⟩
theorem sname_ok {x : Str} {s : String} (h : sname x s = true) : x = Str.ofString s := eq_of_beq h
section
variable {X : Cx} {C Xn : Nat → Addr} {c : Cc} {sc : Scope} {bs : Option Scope} {lv : Nat} {W : WX} {cl mk : Nat → List D → M D} {mt : Nat → Str → Option (Option Nat)} {e tg : Expr} {es : List Expr} {E Es : PI.E} {f : Expr → Option PI.E} {pos : Pos}
theorem slotOf_ok (x : XOk X c sc bs W lv) {i : Nat} (h : slotOf c sc bs e = some i) : StoOk X e i := by
  unfold slotOf at h
  split at h
  · obtain ⟨h1, h2⟩ := oi h
    obtain ⟨a, b⟩ := x.sto _ h1
    exact ⟨_, _, rfl, by rw [x.N]; exact slot_ok h2, by rw [x.scp]; exact a, by rw [x.scp]; exact b⟩
  · cases h
theorem slots_ok (x : XOk X c sc bs W lv) : ∀ {es : List Expr} {is : List Nat}, es.mapM (slotOf c sc bs) = some is → Paired (StoOk X) es is
  | [], is, h => by
    rw [List.mapM_nil] at h
    cases h
    exact .nil
  | e :: es, is, h => by
    rw [List.mapM_cons] at h
    obtain ⟨i, h1, h⟩ := ob h
    obtain ⟨r, h2, h⟩ := ob h
    cases h
    exact .cons (slotOf_ok x h1) (slots_ok x h2)
theorem tgC_ok (x : XOk X c sc bs W lv) {t : Tg} (h : tgC c sc bs tg = some t) : PG X tg (tGs (sg X C Xn) t) ∧ ∀ is, t = .tp is → ∃ elts k p, tg = .Tuple elts k p := by
  unfold tgC at h
  split at h
  · obtain ⟨i, h1, rfl⟩ := om h
    exact ⟨pg_nmI (by rw [x.N]; exact x.nd) (slotOf_ok x h1), fun is z => nomatch z⟩
  · obtain ⟨is, h1, rfl⟩ := om h
    exact ⟨pg_tpI x.calm (by rw [x.N]; exact x.nd) (slots_ok x h1), fun _ _ => ⟨_, _, _, rfl⟩⟩
  · cases h
theorem cL_ok (ih : ∀ e E, f e = some E → EOk X C Xn W e (sem lv cl mk mt E)) : ∀ {es : List Expr} {E : PI.E}, cL f es = some E → AOk X C Xn W es (sem lv cl mk mt E).s ∧ (es = [] → (sem lv cl mk mt E).s = fun _ => pure [])
  | [], E, h => by cases h; exact ⟨ao_nil, fun _ => rfl⟩
  | e :: es, E, h => by
    unfold cL at h
    obtain ⟨x, h1, h⟩ := ob h
    obtain ⟨y, h2, h⟩ := ob h
    cases h
    exact ⟨ao_cons (ih e x h1) (cL_ok ih h2).1, fun z => nomatch z⟩
theorem cB_and (ih : ∀ e E, f e = some E → EOk X C Xn W e (sem lv cl mk mt E)) : ∀ {es : List Expr} {E : PI.E}, cB .and f es = some E → BOk X C Xn W .And es pos (sem lv cl mk mt E)
  | [], E, h => by cases h
  | [a], E, h => by
    unfold cB at h
    obtain ⟨h1, h2⟩ := oi h
    exact bo_one h1 (ih a E h2)
  | a :: b :: es, E, h => by
    unfold cB at h
    obtain ⟨h1, h⟩ := oi h
    obtain ⟨x, h2, h⟩ := ob h
    obtain ⟨y, h3, h⟩ := ob h
    cases h
    exact bo_and h1 (ih a x h2) (cB_and ih h3)
theorem cB_or (ih : ∀ e E, f e = some E → EOk X C Xn W e (sem lv cl mk mt E)) : ∀ {es : List Expr} {E : PI.E}, cB .or f es = some E → BOk X C Xn W .Or es pos (sem lv cl mk mt E)
  | [], E, h => by cases h
  | [a], E, h => by
    unfold cB at h
    obtain ⟨h1, h2⟩ := oi h
    exact bo_one h1 (ih a E h2)
  | a :: b :: es, E, h => by
    unfold cB at h
    obtain ⟨h1, h⟩ := oi h
    obtain ⟨x, h2, h⟩ := ob h
    obtain ⟨y, h3, h⟩ := ob h
    cases h
    exact bo_or h1 (ih a x h2) (cB_or ih h3)
theorem cO_ok (ih : ∀ e E, f e = some E → EOk X C Xn W e (sem lv cl mk mt E)) {oe : Option Expr} (h : cO f oe = some E) : PO X oe (tOs (sg X C Xn) W (sem lv cl mk mt E).o) := by
  cases oe with
  | none => cases h; exact po_no
  | some e => exact po_of (ih e E h)
theorem cIf_ok {X' : Cx} (ih : ∀ e E, f e = some E → EOk X' C Xn W e (sem lv cl mk mt E)) (h : cIf f es = some E) : PTs X' es (tTs (sg X' C Xn) W (sem lv cl mk mt E).t) := by
  unfold cIf at h
  split at h
  · cases h
    exact ⟨fun pins s σ H Q I q => pts_nil.run pins s σ H Q I (by
      obtain ⟨F, ρ, st, sr, r, q⟩ := q
      exact q.pur sr)⟩
  · obtain ⟨h1, h2⟩ := oi h
    exact pts_one ((ih _ E h2).t h1)
  · cases h
theorem bi_of (g : GOk X C Xn c lv cl mk mt) {s : String} (h : Str.ofString s ∈ biNames) : X.mg (Str.ofString s) = none := g.bi _ h
theorem cIt_ok (g : GOk X C Xn c lv cl mk mt) (x : XOk X c sc bs W lv) (ih : ∀ e E, f e = some E → EOk X C Xn W e (sem lv cl mk mt E)) {t : Tg} (ht : ∀ is, t = .tp is → ∃ elts k p, tg = .Tuple elts k p) (h : cIt sc f e = some E) (hi : tgIt E t = true) :
    IOk X C Xn W tg e (sem lv cl mk mt E).i := by
  have tup : ∀ {E : PI.E}, (∃ y, E = .enm y) ∨ (∃ y z, E = .zip y z) ∨ (∃ y, E = .its y) → tgIt E t = true → ∃ elts k p, tg = .Tuple elts k p := by
    intro E hE hi
    cases t with
    | nm i => rcases hE with ⟨y, rfl⟩ | ⟨y, z, rfl⟩ | ⟨y, rfl⟩ <;> cases hi
    | tp is => exact ht is rfl
  unfold cIt at h
  split at h
  · rename_i fx p args ps
    by_cases q1 : (isGl sc fx && sname fx "range") = true
    · rw [if_pos q1] at h
      rw [Bool.and_eq_true] at q1
      obtain rfl := sname_ok q1.2
      have hg := gl_ok x.scp q1.1
      have hm := bi_of g (s := "range") (by decide)
      split at h
      · obtain ⟨es, h1, rfl⟩ := om h
        unfold cL at h1
        obtain ⟨y, h2, h1⟩ := ob h1
        obtain ⟨z, h3, h1⟩ := ob h1
        cases h1; cases h3
        exact io_rng1 hg hm (ih _ _ h2)
      · obtain ⟨es, h1, rfl⟩ := om h
        unfold cL at h1
        obtain ⟨y, h2, h1⟩ := ob h1
        obtain ⟨z, h3, h1⟩ := ob h1
        unfold cL at h3
        obtain ⟨y2, h4, h3⟩ := ob h3
        obtain ⟨z2, h5, h3⟩ := ob h3
        cases h1; cases h3; cases h5
        exact io_rng2 hg hm (ih _ _ h2) (ih _ _ h4)
      · cases h
    · rw [if_neg q1] at h
      by_cases q2 : (isGl sc fx && sname fx "enumerate") = true
      · rw [if_pos q2] at h
        rw [Bool.and_eq_true] at q2
        obtain rfl := sname_ok q2.2
        split at h
        · obtain ⟨y, h1, rfl⟩ := om h
          obtain ⟨elts, k, p', rfl⟩ := tup (.inl ⟨_, rfl⟩) hi
          exact io_enm (gl_ok x.scp q2.1) (bi_of g (s := "enumerate") (by decide)) (ih _ _ h1)
        · cases h
      · rw [if_neg q2] at h
        by_cases q3 : (isGl sc fx && sname fx "zip") = true
        · rw [if_pos q3] at h
          rw [Bool.and_eq_true] at q3
          obtain rfl := sname_ok q3.2
          split at h
          · obtain ⟨y, h1, h⟩ := ob h
            obtain ⟨z, h2, h⟩ := ob h
            cases h
            obtain ⟨elts, k, p', rfl⟩ := tup (.inr (.inl ⟨_, _, rfl⟩)) hi
            exact io_zip (gl_ok x.scp q3.1) (bi_of g (s := "zip") (by decide)) (ih _ _ h1) (ih _ _ h2)
          · cases h
        · rw [if_neg q3] at h
          by_cases q4 : (isGl sc fx && sname fx "reversed") = true
          · rw [if_pos q4] at h
            rw [Bool.and_eq_true] at q4
            obtain rfl := sname_ok q4.2
            split at h
            · obtain ⟨y, h1, rfl⟩ := om h
              exact io_rev (gl_ok x.scp q4.1) (bi_of g (s := "reversed") (by decide)) (ih _ _ h1)
            · cases h
          · rw [if_neg q4] at h
            exact io_val (ih _ _ h)
  · rename_i o m ap ps
    by_cases q1 : sname m "items" = true
    · rw [if_pos q1] at h
      obtain rfl := sname_ok q1
      obtain ⟨q2, h⟩ := oi h
      rw [Bool.and_eq_true] at q2
      obtain ⟨y, h1, rfl⟩ := om h
      obtain ⟨elts, k, p', rfl⟩ := tup (.inr (.inr ⟨_, rfl⟩)) hi
      exact io_items q2.1 q2.2 (ih _ _ h1)
    · rw [if_neg q1] at h
      by_cases q2 : sname m "values" = true
      · rw [if_pos q2] at h
        obtain rfl := sname_ok q2
        obtain ⟨q3, h⟩ := oi h
        rw [Bool.and_eq_true] at q3
        obtain ⟨y, h1, rfl⟩ := om h
        exact io_vals q3.1 q3.2 (ih _ _ h1)
      · rw [if_neg q2] at h
        exact io_val (ih _ _ h)
  · exact io_val (ih _ _ h)
/-- the block's context -/
theorem XOk.blk (x : XOk X c sc bs W lv) (s : Shared) (H : Hp) (scope : Scope) (L : Addr) (cls : List (Str × Addr)) (fp : List Addr) : XOk (X.blk s H scope (compEnvC scope cls L X.env) fp) c (relS scope sc) (some scope) W0 lv where
  N := x.N
  scp := by
    show relS scope X.env.scope = _
    rw [x.scp]
  nd := x.nd
  calm := x.calm
  hr := x.hr
  tk := fun u s' ⟨a, B, sI, pins, σ, H, cls, d, e, I, nb, up, sky, na, os, ag, w⟩ => w
  sto := fun y h => by
    unfold isSto at h
    split at h
    · rename_i q
      exact ⟨.inl q, .inr q⟩
    · rename_i q
      exact ⟨.inr q, .inl (by
        show (scope.names.lookup y == some .cell) = true
        have := of_decide_eq_true h
        rw [this]
        rfl)⟩
    · cases h
theorem GOk.blk (g : GOk X C Xn c lv cl mk mt) (s : Shared) (H : Hp) (scope : Scope) (ce : PySem.Env) (fp : List Addr) : GOk (X.blk s H scope ce fp) C Xn c lv cl mk mt := ⟨g.bi, g.cn, g.fn, g.cs, g.meth, g.fld⟩
end
end PI

open PySem PySem.Spec PyProof.Rows L2
namespace PI

section
variable {C Xn : Nat → Addr} {c : Cc} {lv : Nat} {cl mk : Nat → List D → M D} {mt : Nat → Str → Option (Option Nat)}
/-- a name that is a built-in's -/
theorem tyC_ok {X : Cx} {sc : Scope} {W : WX} {bs : Option Scope} (g : GOk X C Xn c lv cl mk mt) (x : XOk X c sc bs W lv) {e : Expr} {t : Ty} (h : tyC c sc e = some t) :
    ∃ tn tp, e = .Name tn tp ∧ (∀ n, t ≠ .cls n) ∧ Gl X tn ∧ X.mg tn = none ∧ bootBuiltins tn = some (.type (tyS t)) ∧ tn ≠ "__name__" ∧ (tn == ("__debug__" : Str)) = false := by
  unfold tyC at h
  split at h
  · rename_i tn tp
    obtain ⟨h1, h⟩ := oi h
    have hg := gl_ok x.scp h1
    have go : ∀ {s : String} {t : Ty}, sname tn s = true → (∀ n, t ≠ .cls n) → Str.ofString s ∈ biNames → bootBuiltins (Str.ofString s) = some (.type (tyS t)) → Str.ofString s ≠ "__name__" → (Str.ofString s == ("__debug__" : Str)) = false →
        ∃ tn' tp', Expr.Name tn tp = .Name tn' tp' ∧ (∀ n, t ≠ .cls n) ∧ Gl X tn' ∧ X.mg tn' = none ∧ bootBuiltins tn' = some (.type (tyS t)) ∧ tn' ≠ "__name__" ∧ (tn' == ("__debug__" : Str)) = false := by
      intro s t h2 h3 h4 h5 h6 h7
      obtain rfl := sname_ok h2
      exact ⟨_, tp, rfl, h3, hg, g.bi _ h4, h5, h6, h7⟩
    split at h
    · rename_i q; cases h; exact go q (fun _ z => nomatch z) (by decide) PyProof.Rows.boot_int (by decide) (by decide)
    · split at h
      · rename_i q; cases h; exact go q (fun _ z => nomatch z) (by decide) PyProof.Rows.boot_bool (by decide) (by decide)
      · split at h
        · rename_i q; cases h; exact go q (fun _ z => nomatch z) (by decide) PyProof.Rows.boot_str (by decide) (by decide)
        · split at h
          · rename_i q; cases h; exact go q (fun _ z => nomatch z) (by decide) PyProof.Rows.boot_tuple (by decide) (by decide)
          · split at h
            · rename_i q; cases h; exact go q (fun _ z => nomatch z) (by decide) PyProof.Rows.boot_list (by decide) (by decide)
            · split at h
              · rename_i q; cases h; exact go q (fun _ z => nomatch z) (by decide) PyProof.Rows.boot_dict (by decide) (by decide)
              · cases h
  · cases h
theorem boot_abs : bootBuiltins "abs" = some (.builtin "abs") := by decide +kernel
theorem boot_any : bootBuiltins "any" = some (.builtin "any") := by decide +kernel
theorem boot_all : bootBuiltins "all" = some (.builtin "all") := by decide +kernel
/-- built-ins by values -/
theorem biC_ok {X : Cx} {sc : Scope} {W : WX} {bs : Option Scope} (g : GOk X C Xn c lv cl mk mt) (x : XOk X c sc bs W lv) {f : Str} {p pos : Pos} {args : List Expr} {es E : PI.E} (hf : okName f = true) (hg : Gl X f) (ha : AOk X C Xn W args (sem lv cl mk mt es).s) (h : biC f es args.length = some E) :
    EOk X C Xn W (.Call (.Name f p) args [] pos) (sem lv cl mk mt E) := by
  obtain ⟨hd, _, hn⟩ := okName_ok hf
  unfold biC at h
  cases args with
  | nil => cases h
  | cons a r =>
    have gB : ∀ {s : String} {op : List D → M D}, sname f s = true → Str.ofString s ∈ biNames → bootBuiltins (Str.ofString s) = some (.builtin s) → CallR X (.builtin s) (rML (sg X C Xn) op) →
        EOk X C Xn W (.Call (.Name f p) (a :: r) [] pos) (Sem.of fun ρ => do let ds ← (sem lv cl mk mt es).s ρ; op ds) := by
      intro s op h1 h2 h3 h4
      obtain rfl := sname_ok h1
      exact eo_bif h4 h3 hg (g.bi _ h2) hn hd ha
    have gT : ∀ {s : String} {op : List D → M D}, sname f s = true → Str.ofString s ∈ biNames → bootBuiltins (Str.ofString s) = some (.type s) → CallR X (.type s) (rML (sg X C Xn) op) →
        EOk X C Xn W (.Call (.Name f p) (a :: r) [] pos) (Sem.of fun ρ => do let ds ← (sem lv cl mk mt es).s ρ; op ds) := by
      intro s op h1 h2 h3 h4
      obtain rfl := sname_ok h1
      exact eo_tyf h4 h3 hg (g.bi _ h2) hn hd ha
    by_cases k1 : (a :: r).length = 1
    · rw [if_pos k1] at h
      split at h
      · rename_i q; cases h; exact gB q (by decide) boot_len call_lenI
      · split at h
        · rename_i q; cases h; exact gT q (by decide) PyProof.Rows.boot_int call_intI
        · split at h
          · rename_i q; cases h; exact gT q (by decide) PyProof.Rows.boot_str call_strI
          · split at h
            · rename_i q; cases h; exact gB q (by decide) boot_abs call_absI
            · cases h
    · rw [if_neg k1] at h
      obtain ⟨k2, h⟩ := oip h
      split at h
      · rename_i q; cases h; exact gB q (by decide) PyProof.Rows.boot_min (call_minI x.calm)
      · split at h
        · rename_i q; cases h; exact gB q (by decide) PyProof.Rows.boot_max (call_maxI x.calm)
        · cases h
/-- built-ins that use a row up -/
theorem sqC_ok {X : Cx} {sc : Scope} {W : WX} {bs : Option Scope} (g : GOk X C Xn c lv cl mk mt) (x : XOk X c sc bs W lv) {f : Str} {p pos : Pos} {a : Expr} {E : PI.E} {s : Sf} (hf : okName f = true) (hg : Gl X f) (ha : EOk X C Xn W a (sem lv cl mk mt E)) (h : sqC f = some s) :
    EOk X C Xn W (.Call (.Name f p) [a] [] pos) (sem lv cl mk mt (.seq s E)) := by
  obtain ⟨hd, _, hn⟩ := okName_ok hf
  unfold sqC at h
  have gB : ∀ {s : String} {op : Rk × List D → M D}, sname f s = true → Str.ofString s ∈ biNames → bootBuiltins (Str.ofString s) = some (.builtin s) → CallR X (.builtin s) (rSq (sg X C Xn) op) →
      EOk X C Xn W (.Call (.Name f p) [a] [] pos) (Sem.of fun ρ => do let w ← (sem lv cl mk mt E).r ρ; op w) := by
    intro s op h1 h2 h3 h4
    obtain rfl := sname_ok h1
    exact eo_sqb h4 h3 hg (g.bi _ h2) hn hd ha
  have gT : ∀ {s : String} {op : Rk × List D → M D}, sname f s = true → Str.ofString s ∈ biNames → bootBuiltins (Str.ofString s) = some (.type s) → CallR X (.type s) (rSq (sg X C Xn) op) →
      EOk X C Xn W (.Call (.Name f p) [a] [] pos) (Sem.of fun ρ => do let w ← (sem lv cl mk mt E).r ρ; op w) := by
    intro s op h1 h2 h3 h4
    obtain rfl := sname_ok h1
    exact eo_sqt h4 h3 hg (g.bi _ h2) hn hd ha
  split at h
  · rename_i q; cases h; exact gT q (by decide) PyProof.Rows.boot_tuple call_tupleI
  · split at h
    · rename_i q; cases h; exact gT q (by decide) PyProof.Rows.boot_list (call_listI x.calm)
    · split at h
      · rename_i q; cases h; exact gB q (by decide) PyProof.Rows.boot_sum (call_sumI x.calm)
      · split at h
        · rename_i q; cases h; exact gB q (by decide) boot_any (call_anyI x.calm)
        · split at h
          · rename_i q; cases h; exact gB q (by decide) boot_all (call_allI x.calm)
          · split at h
            · rename_i q; cases h; exact gB q (by decide) PyProof.Rows.boot_sorted call_sortedI
            · cases h
theorem meC0 (x : Str) : meC x 0 = (if sname x "pop" then some .pop else if sname x "isdigit" then some .isdigit else none) := rfl
theorem meC1 (x : Str) : meC x 1 = (if sname x "append" then some .append else if sname x "extend" then some .extend else if sname x "split" then some .split else if sname x "startswith" then some .startswith
    else if sname x "index" then some .index else none) := rfl
theorem meC2 (x : Str) : meC x 2 = (if sname x "get" then some .get else if sname x "setdefault" then some .setdefault else none) := rfl
theorem meC3 (x : Str) (n : Nat) : meC x (n + 3) = none := rfl
/-- methods of built-in classes -/
theorem meC_ok {X : Cx} {sc : Scope} {W : WX} {bs : Option Scope} (x : XOk X c sc bs W lv) {f : Expr → Option PI.E} (ih : ∀ e E, f e = some E → EOk X C Xn W e (sem lv cl mk mt E)) {m : Str} {o : Expr} {apos pos : Pos} {args : List Expr} {O es : PI.E} {k : Me} (po : abOk o = true) (hl : (apos.endLine == pos.line) = true)
    (ho : EOk X C Xn W o (sem lv cl mk mt O)) (ha : cL f args = some es) (h : meC m args.length = some k) : EOk X C Xn W (.Call (.Attribute o m apos) args [] pos) (sem lv cl mk mt (.met k O es)) := by
  have fin : ∀ {op : Rho → M D}, PE X (.Call (.Attribute o m apos) args [] pos) (tV (sg X C Xn) W op) → EOk X C Xn W (.Call (.Attribute o m apos) args [] pos) (Sem.of op) := fun q => .of rfl q fun _ => rfl
  match args, ha, h with
  | [], ha, h =>
    cases ha
    rw [List.length_nil, meC0] at h
    split at h
    · rename_i q; cases h; obtain rfl := sname_ok q; exact fin (pe_popI rfl po hl ho.v)
    · split at h
      · rename_i q; cases h; obtain rfl := sname_ok q; exact fin (pe_digit rfl po hl ho.v)
      · cases h
  | [a], ha, h =>
    unfold cL at ha
    obtain ⟨y, h2, ha⟩ := ob ha
    obtain ⟨z, h3, ha⟩ := ob ha
    cases ha; cases h3
    have ea := ih _ _ h2
    rw [show [a].length = 1 from rfl, meC1] at h
    split at h
    · rename_i q; cases h; obtain rfl := sname_ok q; exact fin (pe_append rfl po ea.pl hl ho.v ea.v)
    · split at h
      · rename_i q; cases h; obtain rfl := sname_ok q; exact fin (pe_extend rfl po ea.pl hl ho.v ea.v)
      · split at h
        · rename_i q; cases h; obtain rfl := sname_ok q; exact fin (pe_splitI rfl po ea.pl hl ho.v ea.v)
        · split at h
          · rename_i q; cases h; obtain rfl := sname_ok q; exact fin (pe_starts rfl po ea.pl hl ho.v ea.v)
          · split at h
            · rename_i q; cases h; obtain rfl := sname_ok q; exact fin (pe_index rfl x.hr po ea.pl hl ho.v ea.v)
            · cases h
  | [a, b], ha, h =>
    unfold cL at ha
    obtain ⟨y, h2, ha⟩ := ob ha
    obtain ⟨z, h3, ha⟩ := ob ha
    unfold cL at h3
    obtain ⟨y2, h4, h3⟩ := ob h3
    obtain ⟨z2, h5, h3⟩ := ob h3
    cases ha; cases h3; cases h5
    have ea := ih _ _ h2
    have eb := ih _ _ h4
    rw [show [a, b].length = 2 from rfl, meC2] at h
    split at h
    · rename_i q; cases h; obtain rfl := sname_ok q; exact fin (pe_getI rfl x.hr po ea.pl eb.pl hl ho.v ea.v eb.v)
    · split at h
      · rename_i q; cases h; obtain rfl := sname_ok q; exact fin (pe_setdefI rfl po ea.pl eb.pl hl ho.v ea.v eb.v)
      · cases h
  | a :: b :: d :: r, ha, h =>
    rw [show (a :: b :: d :: r).length = r.length + 3 from rfl, meC3] at h
    cases h
/-- sep.join(row) -/
theorem eo_join {X : Cx} {W : WX} {sep : Str} {j : Nat} {p apos pos : Pos} {a : Expr} {sa : Sem} (hl : (apos.endLine == pos.line) = true) (h : EOk X C Xn W a sa) :
    EOk X C Xn W (.Call (.Attribute (.Constant (.str sep) j p) "join" apos) [a] [] pos) (Sem.of fun ρ => do let w ← sa.r ρ; seqM (.join sep) w) := by
  refine .of rfl (PE.imp (pe_join pe_str h.r (star_cons h.pl) rfl hl) fun σ H Q q => ?_) fun _ => rfl
  obtain ⟨F, ρ, st, s, r, q⟩ := q
  refine ⟨⟨sep, rfl⟩, ?_⟩
  refine seqK s r q fun w F1 H1 st1 v e1 s1 r1 rw h1 => ?_
  unfold seqM at h1
  obtain ⟨hk, h2⟩ := h1.grdb s1
  obtain ⟨xs, hx, h3⟩ := WP.optb s1 h2
  obtain ⟨hz, h4⟩ := h3.grdb s1
  obtain ⟨k, ds⟩ := w
  cases k with
  | l =>
    obtain ⟨p, vs, rfl, t, rl⟩ := rw
    obtain rfl := repL_strs hx rl
    exact ⟨sep, p, xs, rfl, rfl, .inl t, hz, h4.pur s1 _ rfl⟩
  | t =>
    obtain ⟨p, vs, rfl, t, rl⟩ := rw
    obtain rfl := repL_strs hx rl
    exact ⟨sep, p, xs, rfl, rfl, .inr t, hz, h4.pur s1 _ rfl⟩
  | d => exact absurd rfl hk
theorem tgT {sc : Scope} {bs : Option Scope} {tg : Expr} {is : List Nat} (h : tgC c sc bs tg = some (.tp is)) : ∃ elts k p, tg = .Tuple elts k p := by
  unfold tgC at h
  split at h
  · obtain ⟨i, h1, h2⟩ := om h; cases h2
  · exact ⟨_, _, _, rfl⟩
  · cases h
/-- what is never come to -/
theorem eo_never {X : Cx} {W : WX} {f : Str} {p pos : Pos} {es : List Expr} {ms : Rho → M (List D)} {u : Value} (hg : Gl X f) (hm : X.mg f = some u) (hk : PySem.W.keepIn X.K u = true) (hd : (f == ("__debug__" : Str)) = false) (h : AOk X C Xn W es ms) (hnil : es = [] → ms = fun _ => pure []) :
    EOk X C Xn W (.Call (.Name f p) es [] pos) (Sem.of fun ρ => do let ds ← ms ρ; (bad : M D)) := by
  refine .of rfl ⟨fun pins s σ H Q I q => ?_⟩ fun _ => rfl
  refine wpAny_Call_Name_kw (ld_glob I hg hm ?_ hd)
  cases es with
  | nil =>
    rw [hnil rfl] at q
    obtain ⟨F, ρ, st, sr, r, q⟩ := q
    exact (q : False).elim
  | cons e es =>
    have go : tAs (sg X C Xn) W ms σ H fun vs H1 => False := by
      obtain ⟨F, ρ, st, sr, r, q⟩ := q
      exact seqA sr r q fun ds F1 H1 st1 vs e1 s1 r1 rd h1 => h1
    exact PySem.W.callWith_K (h₀ := X.base) I.ok.mod.kin hk (thn (h.a.run pos pins s σ H _ I go) fun us s1 ⟨vs, H1, I1, r, q⟩ => q.elim) (star_cons (pl_hd h.pl)) (bk_any h.pl)
/-- THE EXPRESSIONS -/
theorem cE_ok : ∀ (n : Nat) {X : Cx} {W : WX} {sc : Scope} {bs : Option Scope} {e : Expr} {E : PI.E}, GOk X C Xn c lv cl mk mt → XOk X c sc bs W lv → cE c n sc bs e = some E → EOk X C Xn W e (sem lv cl mk mt E)
  | 0, _, _, _, _, _, _, _, _, h => by cases h
  | n + 1, X, W, sc, bs, e, E, g, x, h => by
    have ih : ∀ e E, cE c n sc bs e = some E → EOk X C Xn W e (sem lv cl mk mt E) := fun e E h => cE_ok n g x h
    unfold cE at h
    split at h
    · cases h; exact eo_int
    · cases h; exact eo_str
    · cases h; exact eo_bl
    · cases h; exact eo_non
    · obtain ⟨h1, h⟩ := oi h
      obtain ⟨k1, k2, k3⟩ := okName_ok h1
      split at h
      · rename_i q
        obtain ⟨i, h2, rfl⟩ := om h
        exact eo_var (by rw [x.N]; exact slot_ok h2) (by rw [x.scp]; exact vis_ok q) k1 k2
      · obtain ⟨h2, h⟩ := oi h
        obtain ⟨d, h3, rfl⟩ := om h
        obtain ⟨v, u, h4, h5, h6⟩ := g.cn _ _ h3
        exact eo_glob (gl_ok x.scp h2) h4 h5 h6 k1
    · obtain ⟨es, h1, rfl⟩ := om h
      exact eo_tup (cL_ok ih h1).1
    · obtain ⟨es, h1, rfl⟩ := om h
      exact eo_lst (cL_ok ih h1).1
    · cases h; exact eo_dic
    · obtain ⟨a, h1, h⟩ := ob h
      obtain ⟨b, h2, h⟩ := ob h
      cases h
      exact eo_bin (ih _ _ h1) (ih _ _ h2)
    · obtain ⟨a, h1, rfl⟩ := om h
      exact eo_neg (ih _ _ h1)
    · obtain ⟨h1, h⟩ := oi h
      obtain ⟨a, h2, rfl⟩ := om h
      exact eo_not h1 (ih _ _ h2)
    · rename_i es p
      obtain ⟨h1, h⟩ := oip h
      match es, h1, h with
      | a :: b :: r, _, h =>
        have hb := cB_and (pos := p) ih h
        unfold cB at h
        obtain ⟨_, h⟩ := oi h
        obtain ⟨_, _, h⟩ := ob h
        obtain ⟨_, _, h⟩ := ob h
        cases h
        exact hb.eo rfl ⟨rfl, rfl⟩
    · rename_i es p
      obtain ⟨h1, h⟩ := oip h
      match es, h1, h with
      | a :: b :: r, _, h =>
        have hb := cB_or (pos := p) ih h
        unfold cB at h
        obtain ⟨_, h⟩ := oi h
        obtain ⟨_, _, h⟩ := ob h
        obtain ⟨_, _, h⟩ := ob h
        cases h
        exact hb.eo rfl ⟨rfl, rfl⟩
    · obtain ⟨a, h1, h⟩ := ob h
      obtain ⟨b, h2, h⟩ := ob h
      cases h
      exact eo_cmp x.hr (ih _ _ h1) (ih _ _ h2)
    · obtain ⟨a, h1, h⟩ := ob h
      obtain ⟨b, h2, h⟩ := ob h
      obtain ⟨d, h3, h⟩ := ob h
      cases h
      exact eo_chn x.hr (ih _ _ h1) (ih _ _ h2) (ih _ _ h3)
    · obtain ⟨h1, h⟩ := oi h
      obtain ⟨z, h2, h⟩ := ob h
      obtain ⟨a, h3, h⟩ := ob h
      obtain ⟨b, h4, h⟩ := ob h
      cases h
      exact eo_ife h1 (ih _ _ h2) (ih _ _ h3) (ih _ _ h4)
    · obtain ⟨a, h1, h⟩ := ob h
      obtain ⟨l, h2, h⟩ := ob h
      obtain ⟨u, h3, h⟩ := ob h
      cases h
      exact eo_slc (ih _ _ h1) (cO_ok ih h2) (cO_ok ih h3)
    · obtain ⟨a, h1, h⟩ := ob h
      obtain ⟨b, h2, h⟩ := ob h
      cases h
      exact eo_idx x.hr (ih _ _ h1) (ih _ _ h2)
    · obtain ⟨h1, h⟩ := oi h
      obtain ⟨a, h2, rfl⟩ := om h
      exact eo_att g.fld h1 (ih _ _ h2)
    · rename_i elt tg it ifs scope p
      obtain ⟨h1, h⟩ := oi h
      obtain ⟨i, h2, h⟩ := ob h
      obtain ⟨t, h3, h⟩ := ob h
      obtain ⟨q, h4, h⟩ := ob h
      obtain ⟨y, h5, h⟩ := ob h
      obtain ⟨h6, h⟩ := oi h
      cases h
      rw [Bool.and_eq_true, List.all_eq_true] at h6
      have tb := fun (s : Shared) (H : Hp) (L : Addr) (cls : List (Str × Addr)) (fp : List Addr) => tgC_ok (C := C) (Xn := Xn) (x.blk s H scope L cls fp) h3
      refine eo_lc (ownP := ownOf c.N scope.names) ⟨x.calm, by rw [x.N]; exact x.nd, ?_, blkOk_by (by rw [x.N, x.scp]; exact h1), fun s H L cls fp => (tb s H L cls fp).1, fun s H L cls fp => ?_, fun s H L cls fp => ?_, fun k hk => of_decide_eq_true (h6.2 k hk)⟩
      · refine cIt_ok g x ih (fun is e => ?_) h2 h6.1
        have : ∃ elts k p, tg = .Tuple elts k p := by
          subst e
          exact tgT h3
        exact this
      · exact cIf_ok (fun e E h => cE_ok n (g.blk s H scope _ fp) (x.blk s H scope L cls fp) h) h4
      · exact (cE_ok n (g.blk s H scope _ fp) (x.blk s H scope L cls fp) h5).v
    · obtain ⟨h1, h⟩ := oi h
      rw [Bool.and_eq_true] at h1
      obtain ⟨k1, k2, k3⟩ := okName_ok h1.1
      have hg := gl_ok x.scp h1.2
      split at h
      · rename_i f p args ps kw _
        split at h
        · rename_i k hk
          obtain ⟨es, h2, rfl⟩ := om h
          obtain ⟨fa, e1, e2, fd, prs, e3, e4⟩ := g.fn _ _ hk
          obtain ⟨a1, a2⟩ := cL_ok ih h2
          cases args with
          | nil =>
            have := eo_cal0 (p := p) (pos := ps) x.tk e4 x.hr hg e1 e2 e3 k1
            rw [← a2 rfl] at this
            exact this
          | cons a r => exact eo_cal x.tk e4 x.hr hg e1 e2 e3 k1 a1
        · split at h
          · rename_i k hk
            obtain ⟨es, h2, rfl⟩ := om h
            obtain ⟨a1, a2⟩ := cL_ok ih h2
            obtain ⟨e1, e0, alt⟩ := g.cs _ _ hk
            rcases alt with e2 | ⟨j, fa, fd, ps, m, e2, e3, e4, e5, e6⟩
            · have eb : (sem lv cl mk mt (.new k es)) = Sem.of (fun ρ => do let ds ← (sem lv cl mk mt es).s ρ; (PI.bad : M D)) := by
                show Sem.of _ = _
                congr 1
                funext ρ
                congr 1
                funext ds
                exact e2 ds
              rw [eb]
              exact eo_never hg e1 e0 k1 a1 a2
            · subst e2
              have eb : (sem (j + 1) cl mk mt (.new k es)) = Sem.of (fun ρ => do let ds ← (sem (j + 1) cl mk mt es).s ρ; newM k m ds) := by
                show Sem.of _ = _
                congr 1
                funext ρ
                congr 1
                funext ds
                exact e6 ds
              rw [eb]
              exact eo_new x.tk e3 e5 x.hr hg e1 e4 k1 a1 a2
          · split at h
            · rename_i q
              have qe := sname_ok q
              split at h
              · obtain ⟨y, h2, h⟩ := ob h
                obtain ⟨t, h3, h⟩ := ob h
                cases h
                subst qe
                obtain ⟨tn, tp, rfl, t1, t2, t3, t4, t5, t6⟩ := tyC_ok g x h3
                exact eo_isi t1 hg (g.bi _ (by decide)) t2 t3 t4 t5 t6 (ih _ _ h2)
              · cases h
            · split at h
              · rename_i s hs
                split at h
                · obtain ⟨y, h2, rfl⟩ := om h
                  exact sqC_ok g x h1.1 hg (ih _ _ h2) hs
                · cases h
              · obtain ⟨es, h2, h⟩ := ob h
                exact biC_ok g x h1.1 hg (cL_ok ih h2).1 h
      · cases h
    · obtain ⟨h1, h⟩ := oi h
      rw [Bool.and_eq_true] at h1
      split at h
      · obtain ⟨hz, h⟩ := oip h
        obtain ⟨y, h2, h⟩ := ob h
        obtain ⟨es, h3, h⟩ := ob h
        cases h
        obtain ⟨a1, a2⟩ := cL_ok ih h3
        exact eo_mcl x.tk x.hr g.meth h1.1 hz h1.2 (ih _ _ h2) a1 a2
      · split at h
        · rename_i q
          have qe := sname_ok q
          split at h
          · obtain ⟨y, h2, rfl⟩ := om h
            subst qe
            exact eo_join h1.2 (ih _ _ h2)
          · cases h
        · obtain ⟨k, h2, h⟩ := ob h
          obtain ⟨y, h3, h⟩ := ob h
          obtain ⟨es, h4, h⟩ := ob h
          cases h
          exact meC_ok x ih h1.1 h1.2 (ih _ _ h3) h4 h2
    · cases h
end
end PI

open PySem PySem.Spec PyProof.Rows L2
namespace PI

/-! # statements -/
def WF : Nat → List Addr → Hp → Store → Prop := fun _ _ _ _ => False
def Post (G : Sig) (W : WX) (D : Ends) : Fl → List Addr → Hp → Store → Prop := fun f F' H' _ => match f with
  | .nx ρ' => ∀ σ', RhoR G F' H' ρ' σ' → D.nx σ' H'
  | .rt d => ∀ v, Rep G F' H' d v → D.rt v H'
  | .ct ρ' => ∀ σ', RhoR G F' H' ρ' σ' → D.ct σ' H'
  | .er c ρ' => ∀ σ', RhoR G F' H' ρ' σ' → W (.ref (G.X c)) none σ' H'
def tSs (G : Sig) (W : WX) (m : Rho → M Fl) : TS := fun D σ H => ∃ F ρ st, SR G F H st ∧ RhoR G F H ρ σ ∧ WP G WF (m ρ) (Post G W D) F H st
section
variable {G : Sig} {W : WX} {F : List Addr} {H : Hp} {st : Store} {ρ : Rho} {σ : L2.St} {α β : Type} {De : Ends}
theorem WP.tryE {m : M α} {k : α → M Fl} {P : Fl → List Addr → Hp → Store → Prop} (h : WP G WF (PI.tryE ρ m k) P F H st) : WP G (fun c F' H' st' => P (.er c ρ) F' H' st') m (fun a F1 H1 st1 => WP G WF (k a) P F1 H1 st1) F H st := by
  unfold WP at *
  unfold PI.tryE at h
  cases q : m st with
  | ok a s1 =>
    rw [q] at h
    dsimp only at h ⊢
    intro F1 H1 e1 s1'
    cases q2 : k a s1 with
    | ok b s2 => rw [q2] at h; exact fun F2 H2 e2 s3 => h F2 H2 (e1.trans e2) s3
    | er c s2 => rw [q2] at h; exact fun F2 H2 e2 s3 => h F2 H2 (e1.trans e2) s3
    | bad => rw [q2] at h; exact h
  | er c s1 => rw [q] at h; exact h
  | bad => rw [q] at h; exact h
theorem tryE_bind {m : M α} {f : α → M β} {k : β → M Fl} : PI.tryE ρ (m >>= f) k = PI.tryE ρ m fun a => PI.tryE ρ (f a) k := by
  funext s
  unfold PI.tryE
  rw [bind_def]
  cases m s <;> rfl
theorem tryE_pure {a : α} {k : α → M Fl} : PI.tryE ρ (pure a) k = k a := rfl
/-- an expression ahead of a statement's end -/
theorem tryV {m : Rho → M D} {k : D → M Fl} {Q : VK} (s : SR G F H st) (r : RhoR G F H ρ σ) (h : WP G WF (PI.tryE ρ (m ρ) k) (Post G W De) F H st)
    (f : ∀ a F1 H1 st1 v, Ext G F H F1 H1 → SR G F1 H1 st1 → RhoR G F1 H1 ρ σ → Rep G F1 H1 a v → WP G WF (k a) (Post G W De) F1 H1 st1 → Q v H1) : tV G W m σ H Q :=
  ⟨F, ρ, st, s, r, (h.tryE.impW fun c F' H' st' e s' q => (q σ (r.mono e) : W (.ref (G.X c)) none σ H')).imp fun a F1 H1 st1 e s1 q v rv => f a F1 H1 st1 v e s1 (r.mono e) rv q⟩
theorem tryT {m : Rho → M Bool} {k : Bool → M Fl} {Q : Bool → Hp → Prop} (s : SR G F H st) (r : RhoR G F H ρ σ) (h : WP G WF (PI.tryE ρ (m ρ) k) (Post G W De) F H st)
    (f : ∀ a F1 H1 st1, Ext G F H F1 H1 → SR G F1 H1 st1 → RhoR G F1 H1 ρ σ → WP G WF (k a) (Post G W De) F1 H1 st1 → Q a H1) : tTs G W m σ H Q :=
  ⟨F, ρ, st, s, r, (h.tryE.impW fun c F' H' st' e s' q => (q σ (r.mono e) : W (.ref (G.X c)) none σ H')).imp fun a F1 H1 st1 e s1 q => f a F1 H1 st1 e s1 (r.mono e) q⟩
theorem tryA {m : Rho → M (List D)} {k : List D → M Fl} {Q : List V → Hp → Prop} (s : SR G F H st) (r : RhoR G F H ρ σ) (h : WP G WF (PI.tryE ρ (m ρ) k) (Post G W De) F H st)
    (f : ∀ a F1 H1 st1 v, Ext G F H F1 H1 → SR G F1 H1 st1 → RhoR G F1 H1 ρ σ → RepL G F1 H1 a v → WP G WF (k a) (Post G W De) F1 H1 st1 → Q v H1) : tAs G W m σ H Q :=
  ⟨F, ρ, st, s, r, (h.tryE.impW fun c F' H' st' e s' q => (q σ (r.mono e) : W (.ref (G.X c)) none σ H')).imp fun a F1 H1 st1 e s1 q v rv => f a F1 H1 st1 v e s1 (r.mono e) rv q⟩
end
/-- no list display of a comprehension -/
def notLc : Expr → Bool
  | .ListComp _ _ _ _ => false
  | .SetComp _ _ _ _ => false
  | .DictComp _ _ _ _ _ => false
  | _ => true
section
variable {X : Cx} {C Xn : Nat → Addr} {lv : Nat} {W : WX} {e o i v tg : Expr} {sa sb sc se so : Sem} {pos apos tpos : Pos} {env : PySem.Env}
theorem sw_no (h : notLc e = true) (t : Option Expr) (l : Nat) : swapsWith e t l env = pure false := by
  cases e <;> first | rfl | cases h
theorem sw_tup {es : List Expr} {k : Nat} {p : Pos} {l : Nat} : swapsWith e (some (.Tuple es k p)) l env = pure false := by
  cases e <;> rfl
theorem sw_att {f : Str} {p : Pos} {l : Nat} : swapsWith e (some (.Attribute o f p)) l env = pure false := by
  cases e <;> rfl
theorem sw_sub {p : Pos} {l : Nat} : swapsWith e (some (.Subscript o i p)) l env = pure false := by
  cases e <;> rfl
theorem ps_passI : PS X (.Pass pos) (tSs (sg X C Xn) W fun ρ => pure (.nx ρ)) := PS.imp ps_pass fun D σ H ⟨F, ρ, st, s, r, h⟩ => h.pur s σ r
theorem ps_contI : PS X (.Continue pos) (tSs (sg X C Xn) W fun ρ => pure (.ct ρ)) := PS.imp ps_continue fun D σ H ⟨F, ρ, st, s, r, h⟩ => h.pur s σ r
theorem ps_expI (he : EOk X C Xn W e se) (hn : notLc e = true) : PS X (.Expr e pos) (tSs (sg X C Xn) W fun ρ => tryE ρ (se.v ρ) fun _ => pure (.nx ρ)) := by
  refine PS.imp (ps_expr he.v (sw_no hn _ _)) fun D σ H q => ?_
  obtain ⟨F, ρ, st, s, r, h⟩ := q
  exact tryV s r h fun a F1 H1 st1 v e1 s1 r1 ra h1 => h1.pur s1 σ r1
theorem ps_retI (he : EOk X C Xn W e se) : PS X (.Return (some e) pos) (tSs (sg X C Xn) W fun ρ => tryE ρ (se.v ρ) fun d => pure (.rt d)) := by
  refine PS.imp (ps_ret he.v) fun D σ H q => ?_
  obtain ⟨F, ρ, st, s, r, h⟩ := q
  exact tryV s r h fun a F1 H1 st1 v e1 s1 r1 ra h1 => h1.pur s1 v ra
theorem ps_retNI : PS X (.Return none pos) (tSs (sg X C Xn) W fun ρ => tryE ρ (pure .non) fun d => pure (.rt d)) := by
  refine PS.imp ps_retN fun D σ H q => ?_
  obtain ⟨F, ρ, st, s, r, h⟩ := q
  exact (WP.pur (show WP _ _ (pure (Fl.rt PI.D.non)) _ _ _ _ from h) s) .non rfl
def lcV (t : Tg) (own : List Nat) (mi : Rho → M (List PI.D × Gd)) (mc : Rho → M Bool) (me : Rho → M PI.D) (ρ : Rho) : M PI.D := do let ds ← lcM t own mi mc me ρ; alloc (.lst ds)
def asgK (t : Tg) (ρ : Rho) (d : PI.D) : M Fl := do let ρ' ← bindT t d ρ; pure (.nx ρ')
/-- a target raises nothing -/
theorem bindT_noEr {t : Tg} {d : D} {ρ : Rho} : NoEr (bindT t d ρ) := by
  cases t with
  | nm i => exact noEr_pure _
  | tp is =>
    refine NoEr.bind ?_ fun ds => ?_
    · unfold row
      split
      · exact noEr_pure _
      · exact noEr_pure _
      · refine NoEr.bind noEr_get fun c => ?_
        split
        · exact noEr_pure _
        · exact noEr_bad
      · exact noEr_bad
    · intro st c s2 z
      cases q : setL is ds ρ with
      | none => rw [q] at z; cases z
      | some y => rw [q] at z; cases z
/-- name = e -/
theorem ps_setI {k : Nat} {x : Str} {p : Pos} (hN : X.N.Nodup) (h1 : X.N[k]? = some x) (h2 : L2.Loc X.env.scope x) (h3 : X.fn x = true ∨ X.env.scope.names.lookup x = some .local) (he : EOk X C Xn W e se) (hn : notLc e = true) :
    PS X (.Assign [.Name x p] e pos) (tSs (sg X C Xn) W fun ρ => tryE ρ (se.v ρ) (asgK (.nm k) ρ)) := by
  refine PS.imp (ps_set hN h1 h2 he.v (sw_no hn _ _) h3) fun D σ H q => ?_
  obtain ⟨F, ρ, st, s, r, h⟩ := q
  refine tryV s r h fun a F1 H1 st1 v e1 s1 r1 ra h1 => ?_
  exact (WP.pur (show WP _ _ (pure (Fl.nx (ρ.set k (some a)))) _ _ _ _ from h1) s1) _ (r1.set k ra)
theorem ps_setLcII {k : Nat} {x : Str} {p : Pos} {elt tg it : Expr} {ifs : List Expr} {scope : Scope} {own : List (Str × Nat)} {t : Tg} {mi : Rho → M (List D × Gd)} {mc : Rho → M Bool} {me : Rho → M D} {spos : Pos} (kk : LcOk X C Xn W elt tg it ifs scope own t mi mc me) (h1 : X.N[k]? = some x)
    (h2 : X.env.scope.names.lookup x = some .local) (hsw : swapsWith (.ListComp elt [⟨tg, it, ifs, 0⟩] scope pos) (some (.Name x p)) spos.line X.env = pure true) :
    PS X (.Assign [.Name x p] (.ListComp elt [⟨tg, it, ifs, 0⟩] scope pos) spos) (tSs (sg X C Xn) W fun ρ => tryE ρ (lcV t (List.map Prod.snd own) mi mc me ρ) (asgK (.nm k) ρ)) := by
  refine PS.imp (ps_setLcI kk h1 h2 hsw) fun D σ H q => ?_
  obtain ⟨F, ρ, st, s, r, h⟩ := q
  refine tryV (m := lcV t (List.map Prod.snd own) mi mc me) s r h fun a F1 H1 st1 v e1 s1 r1 ra h1 => ?_
  exact (WP.pur (show WP _ _ (pure (Fl.nx (ρ.set k (some a)))) _ _ _ _ from h1) s1) _ (r1.set k ra)
/-- a, b = e -/
theorem ps_tupI {es : List Expr} {is : List Nat} {k : Nat} {p : Pos} (hc : X.calm = true) (hN : X.N.Nodup) (h : Paired (StoOk X) es is) (he : EOk X C Xn W e se) (hn : isTupE e = false) :
    PS X (.Assign [.Tuple es k p] e pos) (tSs (sg X C Xn) W fun ρ => tryE ρ (se.v ρ) (asgK (.tp is) ρ)) := by
  have hw : swappedStores [.Tuple es k p] e X.env = pure none := by
    cases e <;> first | rfl | cases hn
  refine PS.imp (ps_asg he.v (pg_tpI (C := C) (Xn := Xn) hc hN h) (by show swapsWith e (some (.Tuple es k p)) pos.line X.env = pure false; exact sw_tup) hw rfl) fun D σ H q => ?_
  obtain ⟨F, ρ, st, s, r, h⟩ := q
  refine tryV s r h fun a F1 H1 st1 v e1 s1 r1 ra h1 => ?_
  have h2 := h1.bind
  cases z : bindT (.tp is) a ρ st1 with
  | ok ρ' st2 =>
    obtain rfl := bindT_inv z
    have h3 := h2.run z Ext.refl s1
    exact ⟨F1, _, ρ, a, ρ', s1, r1, ra, z, fun σ' r' off => h3.pur s1 σ' r'⟩
  | er c s' => exact absurd z (bindT_noEr _ c s')
  | bad => exact (h2.runB z).elim
/-- o.f = e -/
theorem put_fs {G : Sig} {F : List Addr} {H : Hp} {f : Str} {d : D} {v : V} (rd : Rep G F H d v) : ∀ {fs : List (Str × D)} {ws : List (Str × V)}, Paired (fun p q => p.1 = q.1 ∧ Rep G F H p.2 q.2) fs ws → Paired (fun p q => p.1 = q.1 ∧ Rep G F H p.2 q.2) (putA f d fs) (putF f v ws)
  | _, _, .nil => .cons ⟨rfl, rd⟩ .nil
  | (g, x) :: fs, (g', y) :: ws, .cons r t => by
    obtain ⟨e, ry⟩ := r
    dsimp only at e ry
    subst e
    show Paired _ (if g = f then (g, d) :: fs else (g, x) :: putA f d fs) (if g = f then (g, v) :: ws else (g, y) :: putF f v ws)
    by_cases q : g = f
    · rw [if_pos q, if_pos q]; exact .cons ⟨rfl, rd⟩ t
    · rw [if_neg q, if_neg q]; exact .cons ⟨rfl, ry⟩ (put_fs rd t)
theorem set_ins {α : Type} {G : Sig} {F : List Addr} {H : Hp} {st : Store} {V' : Nat → List Addr → Hp → Store → Prop} {n cc : Nat} {q dx : Addr} {fs : List (Str × D)} {ws : List (Str × V)} {f : Str} {d : D} {v : V} {k : Unit → M α} {R : α → List Addr → Hp → Store → Prop} (s : SR G F H st) (hn : F[n]? = some q) (hq : H q = some (.ins (G.C cc) dx ws))
    (r : Paired (fun p q => p.1 = q.1 ∧ Rep G F H p.2 q.2) fs ws) (rd : Rep G F H d v) (h : WP G V' (setC n (.ins cc (putA f d fs)) >>= k) R F H st) :
    Ext G F H F (upd H q (.ins (G.C cc) dx (putF f v ws))) ∧ SR G F (upd H q (.ins (G.C cc) dx (putF f v ws))) (st.set n (.ins cc (putA f d fs))) ∧ WP G V' (k ()) R F (upd H q (.ins (G.C cc) dx (putF f v ws))) (st.set n (.ins cc (putA f d fs))) := by
  have x1 : Ext G F H F (upd H q (.ins (G.C cc) dx (putF f v ws))) := Ext.wrote hn hq True.intro
  exact WP.setd s h hn hq True.intro ⟨dx, _, upd_same, Paired.imp (fun p q z => ⟨z.1, z.2.mono x1⟩) (put_fs rd r)⟩
theorem ps_asfI {f : Str} {mt : Nat → Str → Option (Option Nat)} {p : Pos} (hfa : ∀ k f, mt k f = some none → Cls X.K (C k) ∧ NoAttr X.K (C k) f) (he : EOk X C Xn W e se) (ho : EOk X C Xn W o so) :
    PS X (.Assign [.Attribute o f p] e pos) (tSs (sg X C Xn) W fun ρ => tryE ρ (do let z ← se.v ρ; let x ← so.v ρ; asfM mt x f z) fun _ => pure (.nx ρ)) := by
  refine PS.imp (ps_fld ho.v he.v sw_att) fun D σ H q => ?_
  obtain ⟨F, ρ, st, s, r, h⟩ := q
  simp only [tryE_bind] at h
  refine tryV s r h fun a F1 H1 st1 v e1 s1 r1 ra h1 => tryV s1 r1 h1 fun x F2 H2 st2 w e2 s2 r2 rx h2 => ?_
  have h3 := h2.tryE
  clear h2
  unfold asfM at h3
  obtain ⟨q, n, cc, fs, dx, ws, rfl, ex, f1, f2, f3, f4, h4⟩ := insM_out s2 rx h3
  obtain ⟨⟨g1, g2⟩, h5⟩ := h4.grdb s2
  obtain ⟨c1, c2⟩ := hfa _ _ g1
  rw [← bind_pure (m := setC _ _)] at h5
  obtain ⟨x3, s3, h6⟩ := set_ins s2 f1 f3 f4 (ra.mono e2) h5
  refine ⟨q, C cc, dx, ws, rfl, f3, c1, c2, by rw [← Paired.length f4]; exact g2, ?_⟩
  exact (h6.pur s3).pur s3 σ (r2.mono x3)
/-- o[i] = e -/
def rMS (G : Sig) : TSet := fun ov iv v H Q => ∃ F st x y z V', SR G F H st ∧ Rep G F H x ov ∧ Rep G F H y iv ∧ Rep G F H z v ∧ WP G V' (assM x y z) (fun _ F' H' _ => Q H') F H st
theorem set_I (hr : Room lv X.A) : PSet X (rMS (sg X C Xn)) := by
  intro pins s σ H ov iv v uo ui uv Q I ro ri rv ⟨F, st, x, y, z, V', sr, rx, ry, rz, h⟩
  unfold assM at h
  split at h
  · obtain ⟨q, rfl, f⟩ := rep_obj rx
    obtain ⟨q', c, f2, g, kk, h1⟩ := WP.cell sr h
    rw [f] at f2; cases f2
    cases c with
    | lst ds =>
      obtain ⟨vs, k1, rl⟩ := kk
      cases y with
      | int k =>
        cases rep_int ry
        obtain ⟨j, hj, h2⟩ := WP.optb sr (show WP _ _ (opt (ixN ds.length k) >>= _) _ _ _ _ from h1)
        have x1 : Ext (sg X C Xn) F H F (upd H q (.lst (vs.set j v))) := Ext.wrote f k1 True.intro
        rw [← bind_pure (m := setC _ _)] at h2
        obtain ⟨_, s3, h4⟩ := WP.setd sr h2 f k1 True.intro ⟨vs.set j v, upd_same, (rl.set rz j).mono x1⟩
        exact set_list pins s σ H _ _ v uo ui uv Q I ro ri rv ⟨q, vs, k, j, rfl, rfl, k1, by rw [rl.length]; exact hj, h4.pur s3⟩
      | _ => exact (h1 : False).elim
    | dic lk kvs =>
      cases lk with
      | true => exact (h1 : False).elim
      | false =>
        obtain ⟨⟨hk, hz⟩, h2⟩ := WP.grdb (show WP _ _ (grd (keyOk kvs y = true ∧ kvs.length < SZ) >>= _) _ _ _ _ from h1) sr
        obtain ⟨u, k1, d⟩ := kk
        obtain ⟨ws, key, rfl, rk, rfl⟩ := d.one hk
        obtain rfl := rep_key ry
        have x1 : Ext (sg X C Xn) F H F (upd H q (.dK (putK ws key v))) := Ext.wrote f k1 True.intro
        rw [← bind_pure (m := setC _ _)] at h2
        obtain ⟨_, s3, h4⟩ := WP.setd sr h2 f k1 True.intro (o := .dK (putK ws key v)) ⟨_, upd_same, DicOk.mono x1 ⟨_, rfl, putKV rz rk⟩⟩
        exact set_dict (hu_of hr) pins s σ H _ _ v uo ui uv Q I ro ri rv ⟨q, _, rfl, .k k1 (by rw [← Paired.length rk, ← SZ_eq]; exact hz), h4.pur s3⟩
    | _ => exact (h1 : False).elim
  · exact h.elim
theorem ps_assI (hr : Room lv X.A) {p : Pos} (he : EOk X C Xn W e se) (ho : EOk X C Xn W o so) (hi : EOk X C Xn W i sb) :
    PS X (.Assign [.Subscript o i p] e pos) (tSs (sg X C Xn) W fun ρ => tryE ρ (do let z ← se.v ρ; let x ← so.v ρ; let y ← sb.v ρ; assM x y z) fun _ => pure (.nx ρ)) := by
  have hp := hi.pl
  have ha : ∀ v, assign (.Subscript o i p) X.env v = (do
      let ov ← holding [v] (eval o X.env)
      let iv ← holding [v, ov] (eval i X.env)
      standAt p
      holding [v, ov, iv] (setItem ov iv v)
      release [v, ov, iv] []) := by
    intro v
    cases i <;> first | rfl | cases hp
  have hw : swappedStores [.Subscript o i p] e X.env = pure none := by
    cases e <;> rfl
  refine PS.imp (ps_asg he.v (pg_sub ho.v hi.v (set_I (C := C) (Xn := Xn) hr) ha) (by show swapsWith e (some (.Subscript o i p)) pos.line X.env = pure false; exact sw_sub) hw rfl) fun D σ H q => ?_
  obtain ⟨F, ρ, st, s, r, h⟩ := q
  simp only [tryE_bind] at h
  refine tryV s r h fun a F1 H1 st1 v e1 s1 r1 ra h1 => tryV s1 r1 h1 fun x F2 H2 st2 w e2 s2 r2 rx h2 => tryV s2 r2 h2 fun y F3 H3 st3 u e3 s3 r3 ry h3 => ?_
  exact ⟨F3, st3, x, y, a, _, s3, rx.mono e3, ry, ra.mono (e2.trans e3), h3.tryE.imp fun _ F4 H4 st4 e4 s4 q4 => q4.pur s4 σ (r3.mono e4)⟩
/-- name op= e, o.f op= e -/
def rAug (op : Operator) : V → V → Hp → VK → Prop := fun x y H Q => ∃ a b, x = .int a ∧ y = .int b ∧ ((op = .Add ∧ Q (.int (a + b)) H) ∨ (op = .Sub ∧ Q (.int (a - b)) H))
theorem ip_I (op : Operator) : PIp X op (rAug op) := by
  intro pins s σ H x y v u Q I r1 r2 h
  obtain ⟨a, b, e1, e2, q⟩ := h
  rcases q with ⟨rfl, q⟩ | ⟨rfl, q⟩
  · exact ip_add pins s σ H x y v u Q I r1 r2 ⟨a, b, e1, e2, q⟩
  · exact ip_sub pins s σ H x y v u Q I r1 r2 ⟨a, b, e1, e2, q⟩
theorem in_I (op : Operator) : InOp X op (rAug op) := by
  intro pins s σ H x y u v Q I r1 r2 h
  obtain ⟨a, b, e1, e2, q⟩ := h
  rcases q with ⟨rfl, q⟩ | ⟨rfl, q⟩
  · exact in_add pins s σ H x y u v Q I r1 r2 ⟨a, b, e1, e2, q⟩
  · exact in_sub pins s σ H x y u v Q I r1 r2 ⟨a, b, e1, e2, q⟩
theorem aug_out {G : Sig} {F : List Addr} {H : Hp} {st : Store} {V' : Nat → List Addr → Hp → Store → Prop} {op : Operator} {a b : D} {x y : V} {R : D → List Addr → Hp → Store → Prop} {Q : VK} (s : SR G F H st) (ra : Rep G F H a x) (rb : Rep G F H b y) (h : WP G V' (augM op a b) R F H st)
    (f : ∀ d v, Rep G F H d v → R d F H st → Q v H) : rAug op x y H Q := by
  unfold augM at h
  split at h
  · cases rep_int ra; cases rep_int rb
    exact ⟨_, _, rfl, rfl, .inl ⟨rfl, f (.int _) _ (by rw [Rep]) (h.pur s)⟩⟩
  · cases rep_int ra; cases rep_int rb
    exact ⟨_, _, rfl, rfl, .inr ⟨rfl, f (.int _) _ (by rw [Rep]) (h.pur s)⟩⟩
  · exact h.elim
theorem ps_augI {k : Nat} {x : Str} {p : Pos} {op : Operator} (hN : X.N.Nodup) (h1 : X.N[k]? = some x) (h2 : L2.Loc X.env.scope x) (h3 : X.fn x = true ∨ X.env.scope.names.lookup x = some .local) (he : EOk X C Xn W e se) :
    PS X (.AugAssign (.Name x p) op e pos) (tSs (sg X C Xn) W fun ρ => match ρ[k]? with
      | some (some x) => tryE ρ (do let y ← se.v ρ; augM op x y) fun z => pure (.nx (ρ.set k (some z)))
      | _ => bad) := by
  refine PS.imp (ps_aug hN h1 h2 he.v (ip_I op) h3) fun D σ H q => ?_
  obtain ⟨F, ρ, st, s, r, h⟩ := q
  dsimp only at h
  split at h
  · rename_i d q
    obtain ⟨v, e, rv⟩ := r.2 k d q
    refine ⟨v, e, ?_⟩
    rw [tryE_bind] at h
    refine tryV s r h fun a F1 H1 st1 w e1 s1 r1 ra h1 => ?_
    exact aug_out s1 (rv.mono e1) ra h1.tryE fun d' v' rd' q' => q'.pur s1 _ (r1.set k rd')
  · exact h.elim
theorem ps_aufI {f : Str} {mt : Nat → Str → Option (Option Nat)} {op : Operator} (hfa : ∀ k f, mt k f = some none → Cls X.K (C k) ∧ NoAttr X.K (C k) f) (he : EOk X C Xn W e se) (ho : EOk X C Xn W o so) :
    PS X (.AugAssign (.Attribute o f tpos) op e pos) (tSs (sg X C Xn) W fun ρ => tryE ρ (do
      let x ← so.v ρ
      let w ← insM x
      grd (mt w.2.1 f = some none)
      let y ← opt (w.2.2.lookup f)
      let z ← se.v ρ
      let r ← augM op y z
      aufM x w.2.1 f r) fun _ => pure (.nx ρ)) := by
  refine PS.imp (ps_fldaug ho.v he.v (in_I op)) fun D σ H q => ?_
  obtain ⟨F, ρ, st, s, r, h⟩ := q
  dsimp only at h
  rw [tryE_bind] at h
  refine tryV s r h fun x F1 H1 st1 v e1 s1 r1 rx h1 => ?_
  rw [tryE_bind] at h1
  have h1' := h1.tryE
  rw [← bind_pure (m := insM _)] at h1'
  clear h1
  obtain ⟨q, n, cc, fs, dx, ws, rfl, ex, f1, f2, f3, f4, h2'⟩ := insM_out s1 rx h1'
  have h2 := h2'.pur s1
  clear h2' h1'
  rw [tryE_bind] at h2
  obtain ⟨g1, h2⟩ := h2.tryE.grd s1
  rw [tryE_bind] at h2
  obtain ⟨y, g2, h2⟩ := WP.opte s1 h2.tryE
  obtain ⟨c1, c2⟩ := hfa _ _ g1
  rcases look_fs (f := f) f4 with ⟨l1, l2⟩ | ⟨d', v', l1, l2, l3⟩
  · dsimp only at g2
    rw [l1] at g2; cases g2
  · dsimp only at g2
    rw [l1] at g2; cases g2
    refine ⟨q, C cc, dx, ws, v', rfl, f3, c1, c2, l2, ?_⟩
    rw [tryE_bind] at h2
    refine tryV s1 r1 h2 fun z F2 H2 st2 w e2 s2 r2 rz h3 => ?_
    rw [tryE_bind] at h3
    refine aug_out s2 (l3.mono e2) rz h3.tryE fun d3 v3 rd3 h4 => ?_
    have h5 := h4.tryE
    unfold aufM at h5
    obtain ⟨q', n', cc', fs', dx', ws', ev, en, f1', f2', f3', f4', h6⟩ := insM_out s2 (rx.mono e2) h5
    cases ev
    have en' := ex.symm.trans en
    cases en'
    obtain ⟨⟨g3, g4⟩, h7⟩ := h6.grdb s2
    rw [← bind_pure (m := setC _ _)] at h7
    clear h6
    dsimp only at g3
    subst g3
    obtain ⟨x3, s3, h8⟩ := set_ins s2 f1' f3' f4' rd3 h7
    exact ⟨dx', ws', f3', by rw [← Paired.length f4']; exact g4, (h8.pur s3).pur s3 σ (r2.mono x3)⟩
end
end PI

open PySem PySem.Spec PyProof.Rows L2
namespace PI

/-! # statements raise nothing of their own -/
section
variable {lv : Nat} {cl mk : Nat → List D → M D} {mt : Nat → Str → Option (Option Nat)} {sub : Nat → Nat → Option Bool} {N : Nat}
theorem tryE_noEr {α : Type} {ρ : Rho} {m : M α} {k : α → M Fl} (h : ∀ a, NoEr (k a)) : NoEr (tryE ρ m k) := fun st c s2 z => by
  unfold tryE at z
  split at z
  · exact h _ _ _ _ z
  · cases z
  · cases z
theorem noEr_chk {g : Gd} : NoEr (chk g) := fun st c s2 z => by
  unfold chk at z
  split at z <;> cases z
theorem noEr_opt {α : Type} {o : Option α} : NoEr (opt o) := by
  cases o with
  | none => exact noEr_bad
  | some a => exact noEr_pure a
theorem forL_noEr {t : Tg} {b : Rho → M Fl} {g : Gd} (h : ∀ ρ, NoEr (b ρ)) : ∀ (ds : List D) (ρ : Rho), NoEr (forL t b g ds ρ)
  | [], ρ => NoEr.bind noEr_chk fun _ => noEr_pure _
  | d :: ds, ρ => by
    refine NoEr.bind noEr_chk fun _ => NoEr.bind bindT_noEr fun ρ' => NoEr.bind (h ρ') fun f => ?_
    cases f with
    | nx ρ2 => exact forL_noEr h ds ρ2
    | ct ρ2 => exact forL_noEr h ds ρ2
    | rt d => exact noEr_pure _
    | er c ρ => exact noEr_pure _
theorem whl_noEr {c : Rho → M Bool} {b : Rho → M Fl} (h : ∀ ρ, NoEr (b ρ)) : ∀ (n : Nat) (ρ : Rho), NoEr (whl c b n ρ)
  | 0, ρ => noEr_bad
  | n + 1, ρ => by
    refine tryE_noEr fun k => ?_
    cases k with
    | true =>
      rw [if_pos rfl]
      refine NoEr.bind (h ρ) fun f => ?_
      cases f with
      | nx ρ2 => exact whl_noEr h n ρ2
      | ct ρ2 => exact whl_noEr h n ρ2
      | rt d => exact noEr_pure _
      | er c ρ => exact noEr_pure _
    | false => exact noEr_pure _
theorem then_noEr {f : Fl} {k : Rho → M Fl} (h : ∀ ρ, NoEr (k ρ)) : NoEr (f.then k) := by
  cases f with
  | nx ρ => exact h ρ
  | _ => exact noEr_pure _
theorem ex_noEr : ∀ (s : S) (ρ : Rho), NoEr (ex lv cl mk mt sub N s ρ)
  | .skip, ρ => noEr_pure _
  | .sq a b, ρ => NoEr.bind (ex_noEr a ρ) fun f => then_noEr fun ρ => ex_noEr b ρ
  | .asg t e, ρ => tryE_noEr fun d => NoEr.bind bindT_noEr fun _ => noEr_pure _
  | .par is es, ρ => tryE_noEr fun d => NoEr.bind noEr_opt fun _ => noEr_pure _
  | .ass o i v, ρ => tryE_noEr fun _ => noEr_pure _
  | .asf o f v, ρ => tryE_noEr fun _ => noEr_pure _
  | .aug i o e, ρ => by
    unfold ex
    split
    · exact tryE_noEr fun _ => noEr_pure _
    · exact noEr_bad
  | .auf o f op e, ρ => tryE_noEr fun _ => noEr_pure _
  | .exp e, ρ => tryE_noEr fun _ => noEr_pure _
  | .ite c a b, ρ => tryE_noEr fun k => by
    cases k with
    | true => exact ex_noEr a ρ
    | false => exact ex_noEr b ρ
  | .whl c b, ρ => whl_noEr (fun ρ => ex_noEr b ρ) N ρ
  | .for t it b, ρ => tryE_noEr fun w => NoEr.bind noEr_lock fun _ => NoEr.bind (forL_noEr (fun ρ => ex_noEr b ρ) _ _) fun f => by
    cases f with
    | er c ρ => exact noEr_pure _
    | _ => exact NoEr.bind noEr_open fun _ => noEr_pure _
  | .ret e, ρ => tryE_noEr fun _ => noEr_pure _
  | .rai c, ρ => noEr_pure _
  | .try b c h o, ρ => NoEr.bind (ex_noEr b ρ) fun f => by
    cases f with
    | er c' ρ' =>
      dsimp only
      split
      · split <;> exact noEr_pure _
      · exact noEr_pure _
      · exact noEr_bad
    | nx ρ => exact then_noEr fun ρ => ex_noEr o ρ
    | rt d => exact then_noEr fun ρ => ex_noEr o ρ
    | ct ρ => exact then_noEr fun ρ => ex_noEr o ρ
  | .cont, ρ => noEr_pure _
end
/-! # statements in a row -/
section
variable {X : Cx} {C Xn : Nat → Addr} {lv : Nat} {W : WX} {sts : List Stmt} {st0 : Stmt} {ma mb : Rho → M Fl} {pos : Pos}
theorem Post.nx {G : Sig} {D : Ends} {f : Fl} {F : List Addr} {H : Hp} {st : Store} {u : L2.St → Hp → Prop} (h : Post G W D f F H st) (hn : ∀ ρ, f = .nx ρ → ∀ σ', RhoR G F H ρ σ' → u σ' H) : Post G W { D with nx := u } f F H st := by
  cases f with
  | nx ρ => exact hn ρ rfl
  | rt d => exact h
  | ct ρ => exact h
  | er c ρ => exact h
theorem seqS {G : Sig} {D : Ends} {F : List Addr} {H : Hp} {st : Store} {σ : L2.St} {ρ : Rho} (s : SR G F H st) (r : RhoR G F H ρ σ) (h : WP G WF (do let f ← ma ρ; f.then fun ρ => mb ρ) (Post G W D) F H st) : tSs G W ma { D with nx := tSs G W mb D } σ H := by
  refine ⟨F, ρ, st, s, r, h.bind.imp fun f F1 H1 st1 e1 s1 h1 => ?_⟩
  cases f with
  | nx ρ1 => exact fun σ' r' => ⟨F1, ρ1, st1, s1, r', h1⟩
  | rt d => exact h1.pur s1
  | ct ρ1 => exact h1.pur s1
  | er c ρ1 => exact h1.pur s1
theorem pss_nilI : PSs X [] (tSs (sg X C Xn) W fun ρ => pure (.nx ρ)) := PSs.imp pss_nil fun D σ H ⟨F, ρ, st, s, r, h⟩ => h.pur s σ r
theorem pss_consI (h1 : PS X st0 (tSs (sg X C Xn) W ma)) (h2 : PSs X sts (tSs (sg X C Xn) W mb)) : PSs X (st0 :: sts) (tSs (sg X C Xn) W fun ρ => do let f ← ma ρ; f.then fun ρ => mb ρ) :=
  PSs.imp (pss_cons h1 h2) fun D σ H ⟨F, ρ, st, s, r, h⟩ => seqS s r h
theorem ps_ifI {c : Expr} {sc : Sem} {a b : List Stmt} (hn : notIf c = true) (hc : EOk X C Xn W c sc) (ha : PSs X a (tSs (sg X C Xn) W ma)) (hb : PSs X b (tSs (sg X C Xn) W mb)) :
    PS X (.If c a b pos) (tSs (sg X C Xn) W fun ρ => tryE ρ (sc.t ρ) fun k => if k = true then ma ρ else mb ρ) := by
  refine PS.imp (ps_if (hc.t hn) ha hb) fun D σ H q => ?_
  obtain ⟨F, ρ, st, s, r, h⟩ := q
  refine tryT s r h fun k F1 H1 st1 e1 s1 r1 h1 => ?_
  cases k with
  | true => exact ⟨F1, ρ, st1, s1, r1, h1⟩
  | false => exact ⟨F1, ρ, st1, s1, r1, h1⟩
theorem ps_whileI {c : Expr} {sc : Sem} {b : List Stmt} {n : Nat} (po : PassesOwn (model X.prog X.w) X.A X.env X.xe) (hn : notIf c = true) (hc : EOk X C Xn W c sc) (hb : PSs X b (tSs (sg X C Xn) W mb)) :
    PS X (.While c b [] pos) (tSs (sg X C Xn) W fun ρ => whl sc.t mb n ρ) := by
  refine PS.imp (ps_while po (hc.t hn) hb) fun D σ H q => ?_
  obtain ⟨F, ρ, st, s, r, h⟩ := q
  refine ⟨fun m σ H => ∃ F ρ st, SR (sg X C Xn) F H st ∧ RhoR (sg X C Xn) F H ρ σ ∧ WP (sg X C Xn) WF (whl sc.t mb m ρ) (Post (sg X C Xn) W D) F H st, ⟨n, F, ρ, st, s, r, h⟩, ?_⟩
  rintro m σ H ⟨F, ρ, st, s, r, h⟩
  cases m with
  | zero => exact (h : False).elim
  | succ m =>
    refine tryT s r (show WP _ _ (tryE ρ (sc.t ρ) _) _ _ _ _ from h) fun k F1 H1 st1 e1 s1 r1 h1 => ?_
    cases k with
    | false =>
      rw [if_neg (by decide)] at h1 ⊢
      exact h1.pur s1 σ r1
    | true =>
      rw [if_pos rfl] at h1 ⊢
      refine ⟨fun σ H => ∃ F ρ st, SR (sg X C Xn) F H st ∧ RhoR (sg X C Xn) F H ρ σ ∧ WP (sg X C Xn) WF (whl sc.t mb m ρ) (Post (sg X C Xn) W D) F H st, fun σ' H' q => ⟨m, Nat.lt_succ_self m, q⟩, F1, ρ, st1, s1, r1, h1.bind.imp fun f F2 H2 st2 e2 s2 h2 => ?_⟩
      cases f with
      | nx ρ2 => exact fun σ' r' => ⟨F2, ρ2, st2, s2, r', h2⟩
      | ct ρ2 => exact fun σ' r' => ⟨F2, ρ2, st2, s2, r', h2⟩
      | rt d => exact h2.pur s2
      | er c ρ2 => exact h2.pur s2
/-! # for -/
theorem RhoR.monoR {G : Sig} {F F' : List Addr} {H H' : Hp} {ρ : Rho} {σ : L2.St} (e : ExtR G F H F' H') (h : RhoR G F H ρ σ) : RhoR G F' H' ρ σ :=
  ⟨h.1, fun i d q => let ⟨v, h1, h2⟩ := h.2 i d q; ⟨v, h1, h2.monoR e⟩⟩
/-- unlocking rows back: what was a row there is one here -/
theorem ExtR.back {G : Sig} {F : List Addr} {H : Hp} {d : Addr} {od : Obj} {u : HO} (hd : H d = some (.frz od u)) (hu : ∀ vs, u ≠ .tup vs ∧ u ≠ .lst vs ∧ ∀ o xs, u ≠ .frz o xs) : ExtR G F (upd H d u) F H := by
  refine ⟨⟨[], by simp⟩, fun a vs h => ?_, fun a vs h => ?_⟩
  · rcases h with (h | ⟨ob, h⟩) | h
    · by_cases z : a = d
      · rw [z, upd_same] at h; exact absurd (Option.some.inj h) (hu vs).1
      · rw [upd_ne z] at h; exact .inl (.inl h)
    · by_cases z : a = d
      · rw [z, upd_same] at h; exact absurd (Option.some.inj h) ((hu vs).2.2 _ _)
      · rw [upd_ne z] at h; exact .inl (.inr ⟨ob, h⟩)
    · exact .inr h
  · rcases h with ⟨ob, h⟩ | h
    · by_cases z : a = d
      · rw [z, upd_same] at h; exact absurd (Option.some.inj h) ((hu vs).2.2 _ _)
      · rw [upd_ne z] at h; exact .inl ⟨ob, h⟩
    · exact .inr h
def forM (t : Tg) (mi : Rho → M (List PI.D × Gd)) (mb : Rho → M Fl) (ρ : Rho) : M Fl := tryE ρ (mi ρ) fun w => do
      lockG w.2
      match ← forL t mb w.2 w.1 ρ with
      | .er c ρ' => pure (.er c ρ')
      | f => do openG w.2; pure f
theorem ps_forI {tg it : Expr} {t : Tg} {mi : Rho → M (List PI.D × Gd)} {b : List Stmt} (po : PassesOwn (model X.prog X.w) X.A X.env X.xe) (hc : X.calm = true) (hi : IOk X C Xn W tg it mi) (hg : PG X tg (tGs (sg X C Xn) t)) (hb : PSs X b (tSs (sg X C Xn) W mb)) (hbn : ∀ ρ, NoEr (mb ρ)) :
    PS X (.For tg it b [] pos) (tSs (sg X C Xn) W (forM t mi mb)) := by
  refine PS.imp (ps_open (ps_for po hc hi.i hg hb hi.f)) fun D σ H q => ?_
  obtain ⟨F, ρ, st, s, r, h⟩ := q
  refine ⟨F, ρ, st, s, r, ?_⟩
  cases q : mi ρ st with
  | er c st1 =>
    have z : forM t mi mb ρ st = .ok (.er c ρ) st1 := by
      unfold forM tryE
      rw [q]
    unfold WP
    rw [q]
    exact fun F' H' x s' => h.run z x s' σ (r.mono x)
  | bad =>
    have z : forM t mi mb ρ st = .bad := by
      unfold forM tryE
      rw [q]
    exact (h.runB z).elim
  | ok w st1 =>
    refine WP.of_ok q fun F1 H1 x1 s1 => ?_
    have e0 : forM t mi mb ρ st = (do
      lockG w.2
      match ← forL t mb w.2 w.1 ρ with
      | .er c ρ' => pure (.er c ρ')
      | f => do openG w.2; pure f : M Fl) st1 := by
      unfold forM tryE
      rw [q]
    cases z : forM t mi mb ρ st with
    | bad => exact (h.runB z).elim
    | er c s' =>
      exfalso
      refine (tryE_noEr (ρ := ρ) (m := mi ρ) (fun w => NoEr.bind noEr_lock fun _ => NoEr.bind (forL_noEr hbn _ _) fun f => ?_)) st c s' z
      cases f with
      | er c ρ => exact noEr_pure _
      | _ => exact NoEr.bind noEr_open fun _ => noEr_pure _
    | ok f st6 =>
      rw [e0] at z
      obtain ⟨_, st2, h2, z2⟩ := bind_inv z
      obtain ⟨f5, st5, h3, z3⟩ := bind_inv z2
      refine ⟨st2, h2, fun J H2 hl x2 s2 wk => ?_⟩
      -- the end of the walk
      have fin : ∀ F' H', Ext (sg X C Xn) F1 H2 F' H' → SR (sg X C Xn) F' H' st5 → Post (sg X C Xn) W (opnD X D) f5 F' H' st5 := by
        intro F' H' x s'
        have gen : (∀ c ρ', f5 ≠ .er c ρ') → (do openG w.2; pure f5 : M Fl) st5 = .ok f st6 → Post (sg X C Xn) W (opnD X D) f5 F' H' st5 := by
          intro hne hz
          obtain ⟨_, st6', h4, h5⟩ := bind_inv hz
          cases h5
          obtain ⟨_, H4, x4, s5, alt⟩ := end_walk hl x s' h4
          have hp := h.run (by rw [e0]; exact z) (x1.trans x4) s5
          rcases alt with rfl | ⟨d, od, u, hd, e, hn, rfl, neu⟩
          · cases f with
            | nx ρ' => exact fun σ' r' => .inl (hp σ' r')
            | ct ρ' => exact fun σ' r' => .inl (hp σ' r')
            | rt v => exact fun v' r' => .inl (hp v' r')
            | er c ρ' => exact absurd rfl (hne c ρ')
          · cases f with
            | nx ρ' => exact fun σ' r' => .inr ⟨d, od, u, e, hn, hp σ' (r'.monoR (.side e neu))⟩
            | ct ρ' => exact fun σ' r' => .inr ⟨d, od, u, e, hn, hp σ' (r'.monoR (.side e neu))⟩
            | rt v => exact fun v' r' => .inr ⟨d, od, u, e, hn, hp v' (r'.monoR (.side e neu))⟩
            | er c ρ' => exact absurd rfl (hne c ρ')
        cases f5 with
        | er c ρ' =>
          cases z3
          exact fun σ' r' => (show Post (sg X C Xn) W D (.er c ρ') F' H' _ from h.run (by rw [e0]; exact z) ((x1.trans x2).trans x) s') σ' r'
        | nx ρ' => exact gen (fun _ _ z => nomatch z) z3
        | ct ρ' => exact gen (fun _ _ z => nomatch z) z3
        | rt v => exact gen (fun _ _ z => nomatch z) z3
      refine ⟨fun i m σ H => m = w.1.length - i ∧ i ≤ w.1.length ∧ ∃ F' st' ρ', Ext (sg X C Xn) F1 H2 F' H ∧ SR (sg X C Xn) F' H st' ∧ RhoR (sg X C Xn) F' H ρ' σ ∧ forL t mb w.2 (w.1.drop i) ρ' st' = .ok f5 st5,
        ⟨w.1.length, by simp, Nat.zero_le _, F1, st2, ρ, Ext.refl, s2, r.mono (x1.trans x2), h3⟩, ?_⟩
      rintro i m σ H ⟨rfl, hi, F', st', ρ', x, s', r', hrun⟩
      by_cases hlt : i < w.1.length
      · right
        have edrop : w.1.drop i = w.1[i] :: w.1.drop (i + 1) := List.drop_eq_getElem_cons hlt
        rw [edrop] at hrun
        unfold forL at hrun
        obtain ⟨_, sa, k1, hrun1⟩ := bind_inv hrun
        clear hrun
        obtain ⟨gk, rfl⟩ := chk_inv k1
        obtain ⟨ρ2, sb, k2, hrun2⟩ := bind_inv hrun1
        clear hrun1
        obtain rfl := bindT_inv k2
        obtain ⟨fb, sc, k3, hrun3⟩ := bind_inv hrun2
        clear hrun2
        refine ⟨wk.goes i F' H _ x s' gk hlt, fun σ H => i + 1 ≤ w.1.length ∧ ∃ F' st' ρ', Ext (sg X C Xn) F1 H2 F' H ∧ SR (sg X C Xn) F' H st' ∧ RhoR (sg X C Xn) F' H ρ' σ ∧ forL t mb w.2 (w.1.drop (i + 1)) ρ' st' = .ok f5 st5, fun σ' H' p => ⟨w.1.length - (i + 1), by omega, rfl, p.1, p.2⟩, fun y H' hy => ?_⟩
        obtain ⟨d, ed, x3, s3, rd⟩ := wk.yields i F' H _ y H' x s' gk hlt hy
        have ed' : w.1[i] = d := by
          have := List.getElem?_eq_getElem hlt
          rw [this] at ed
          exact Option.some.inj ed
        rw [ed'] at k2
        refine ⟨F', _, ρ', d, ρ2, s3, r'.mono x3, rd, k2, fun σ2 r2 off => ⟨F', ρ2, _, s3, r2, WP.of_ok k3 fun F4 H4 x4 s4 => ?_⟩⟩
        have x14 := (x.trans x3).trans x4
        cases fb with
        | nx ρ3 => exact fun σ3 r3 => ⟨hlt, F4, sc, ρ3, x14, s4, r3, hrun3⟩
        | ct ρ3 => exact fun σ3 r3 => ⟨hlt, F4, sc, ρ3, x14, s4, r3, hrun3⟩
        | rt v => cases hrun3; exact fin F4 H4 x14 s4
        | er c ρ3 => cases hrun3; exact fin F4 H4 x14 s4
      · left
        have e : i = w.1.length := by omega
        subst e
        rw [List.drop_length] at hrun
        unfold forL at hrun
        obtain ⟨_, sa, k1, hrun1⟩ := bind_inv hrun
        clear hrun
        obtain ⟨gk, rfl⟩ := chk_inv k1
        cases hrun1
        exact ⟨wk.stops F' H _ x s' gk, fin F' H x s' σ r'⟩
end
end PI

open PySem PySem.Spec PyProof.Rows L2
namespace PI

/-! # raise, try -/
/-- what is known of the module's exception classes -/
structure QOk (X : Cx) (Xn : Nat → Addr) (c : Cc) (sub : Nat → Nat → Option Bool) : Prop where
  xs : ∀ x k, c.xs.lookup x = some k → X.mg x = some (.ref (Xn k)) ∧ PySem.W.keepIn X.K (.ref (Xn k)) = true ∧ (∃ B newId initId bmB, ExcBaseFacts B newId initId bmB ∧ PySem.W.excIn X.K (Xn k) bmB newId = true) ∧
    PySem.W.subIn X.K (.ref (Xn k)) (.type "BaseException") = some true ∧ PySem.W.typeIn X.K (.ref (Xn k)) = some (.type "type")
  sub : ∀ k j b, sub k j = some b → PySem.W.exmOne X.K (.ref (Xn k)) (.ref (Xn j)) = some b
/-- the frame of a def that runs -/
structure FrOk (X : Cx) : Prop where
  po : PassesOwn (model X.prog X.w) X.A X.env X.xe
  stk : X.stack = X.env :: X.outer
  fr : X.env.frame = some X.env.locals
section
variable {X : Cx} {C Xn : Nat → Addr} {c : Cc} {sc : Scope} {lv : Nat} {W : WX} {cl mk : Nat → List D → M D} {mt : Nat → Str → Option (Option Nat)} {sub : Nat → Nat → Option Bool} {N : Nat} {pos : Pos}
theorem ps_raiI (q : QOk X Xn c sub) (x : XOk X c sc none W lv) {n : Str} {k : Nat} {m : Str} {j : Nat} {p p2 p3 : Pos} (hk : c.xs.lookup n = some k) (hg : Gl X n) (hd : (n == ("__debug__" : Str)) = false) :
    PS X (.Raise (some (.Call (.Name n p) [.Constant (.str m) j p2] [] p3)) none pos) (tSs (sg X C Xn) W fun ρ => pure (.er k ρ)) := by
  obtain ⟨h1, h2, ⟨B, newId, initId, bmB, h3, h4⟩, h5, h6⟩ := q.xs _ _ hk
  exact PS.imp (ps_raise x.calm x.tk (pmk_own h3 h4 h1 h2 (raises_own h5 h6) hg hd)) fun D σ H ⟨F, ρ, st, s, r, h⟩ => h.pur s σ r
/-- a constant that a suite lays or gives -/
def vD : PI.D → V
  | .bl b => .bl b
  | _ => .non
def hdT : Hd → TS
  | .ret d => fun D _ H => D.rt (vD d) H
  | .set i d => fun D σ H => D.nx (σ.set i (some (vD d))) H
  | .pass => fun D σ H => D.nx σ H
def hdK (ρ : Rho) : Hd → M Fl
  | .ret d => pure (.rt d)
  | .set i d => pure (.nx (ρ.set i (some d)))
  | .pass => pure (.nx ρ)
theorem hdC_ok (x : XOk X c sc none W lv) {h : List Stmt} {hd : Hd} (e : hdC c sc h = some hd) (a : Addr) (pn : List (Addr × Obj)) : (∃ b0 r, h = b0 :: r) ∧ PSs (X.suite a pn) h (hdT hd) ∧
    ∀ {D : Ends} {F : List Addr} {H : Hp} {st : Store} {ρ : Rho}, SR (sg X C Xn) F H st → WP (sg X C Xn) WF (hdK ρ hd) (Post (sg X C Xn) W D) F H st → ∀ σ, RhoR (sg X C Xn) F H ρ σ → hdT hd D σ H := by
  unfold hdC at e
  split at e
  · cases e
    exact ⟨⟨_, _, rfl⟩, pss_one (ps_ret pe_bl), fun s h σ r => (h.pur s) _ rfl⟩
  · cases e
    exact ⟨⟨_, _, rfl⟩, pss_one (ps_ret pe_non), fun s h σ r => (h.pur s) _ rfl⟩
  · cases e
    exact ⟨⟨_, _, rfl⟩, pss_one ps_pass, fun s h σ r => (h.pur s) _ r⟩
  · obtain ⟨i, h1, e⟩ := ob e
    cases e
    obtain ⟨y, p, e0, h2, h3, h4⟩ := slotOf_ok x h1
    cases e0
    exact ⟨⟨_, _, rfl⟩, pss_one (ps_set (X := X.suite a pn) (by
      show X.N.Nodup
      rw [x.N]; exact x.nd) h2 h3 pe_bl rfl h4), fun s h σ r => (h.pur s) _ (r.set i rfl)⟩
  · cases e
def tryM (sub : Nat → Nat → Option Bool) (k : Nat) (hd : Hd) (mb mo : Rho → M Fl) (ρ : Rho) : M Fl := do
    match ← mb ρ with
    | .er c' ρ' => (match sub c' k with
      | some true => hdK ρ' hd
      | some false => pure (.er c' ρ')
      | none => bad)
    | f => f.then mo
theorem ps_tryI (q : QOk X Xn c sub) (x : XOk X c sc none W lv) (fr : FrOk X) {n : Str} {k : Nat} {np p' : Pos} {b h o : List Stmt} {hd : Hd} {mb mo : Rho → M Fl} (hk : c.xs.lookup n = some k) (hg : Gl X n) (hdb : (n == ("__debug__" : Str)) = false) (hh : hdC c sc h = some hd)
    (hb : ∀ (W' : WX) (pn : List (Addr × Obj)) (xe : Value → Shared → Prop), Takes (X.tr pn xe) W' → PassesOwn (model X.prog X.w) X.A X.env xe → PSs (X.tr pn xe) b (tSs (sg X C Xn) W' mb)) (ho : PSs X o (tSs (sg X C Xn) W mo)) :
    PS X (.Try b [.ExceptHandler (some (.Name n np)) none h p'] o [] pos) (tSs (sg X C Xn) W (tryM sub k hd mb mo)) := by
  obtain ⟨h1, _⟩ := q.xs _ _ hk
  obtain ⟨⟨b0, hr, rfl⟩, _, hfin⟩ := hdC_ok (C := C) (Xn := Xn) x hh 0 []
  refine PS.imp (ps_try_onlyE ho fr.stk fr.fr ⟨hg, hdb, .inl h1⟩ x.tk hb (fun a oe cls d pn _ _ => (hdC_ok (C := C) (Xn := Xn) x hh a ((a, oe) :: pn)).2.1)) fun D σ H qq => ?_
  obtain ⟨F, ρ, st, s, r, h⟩ := qq
  refine ⟨F, ρ, st, s, r, h.bind.imp fun f F1 H1 st1 e1 s1 h2 => ?_⟩
  cases f with
  | nx ρ1 => exact fun σ' r' => ⟨F1, ρ1, st1, s1, r', h2⟩
  | rt d => exact h2.pur s1
  | ct ρ1 => exact h2.pur s1
  | er c' ρ1 =>
    intro σ' r'
    dsimp only at h2
    cases e : sub c' k with
    | none => rw [e] at h2; exact (h2 : False).elim
    | some b =>
      rw [e] at h2
      refine ⟨b, q.sub _ _ _ e, fun hb1 a ha => ?_, fun hb1 => ?_⟩
      · subst hb1
        exact hfin s1 h2 σ' r'
      · subst hb1
        exact (h2.pur s1) σ' r'
/-! # THE STATEMENTS -/
theorem cSs_ok {f : Stmt → Option S} (ih : ∀ s E, f s = some E → PS X s (tSs (sg X C Xn) W (ex lv cl mk mt sub N E))) : ∀ {ss : List Stmt} {E : S}, cSs f ss = some E → PSs X ss (tSs (sg X C Xn) W (ex lv cl mk mt sub N E))
  | [], E, h => by cases h; exact pss_nilI
  | [s], E, h => pss_one (ih s E h)
  | s :: s2 :: r, E, h => by
    unfold cSs at h
    obtain ⟨a, h1, h⟩ := ob h
    obtain ⟨b, h2, h⟩ := ob h
    cases h
    exact pss_consI (ih s a h1) (cSs_ok ih h2)
theorem XOk.tr {W' : WX} (x : XOk X c sc none W lv) (pn : List (Addr × Obj)) (xe : Value → Shared → Prop) (tk : Takes (X.tr pn xe) W') : XOk (X.tr pn xe) c sc none W' lv := ⟨x.N, x.scp, x.nd, x.calm, x.hr, tk, x.sto⟩
theorem GOk.tr (g : GOk X C Xn c lv cl mk mt) (pn : List (Addr × Obj)) (xe : Value → Shared → Prop) : GOk (X.tr pn xe) C Xn c lv cl mk mt := ⟨g.bi, g.cn, g.fn, g.cs, g.meth, g.fld⟩
theorem QOk.tr (q : QOk X Xn c sub) (pn : List (Addr × Obj)) (xe : Value → Shared → Prop) : QOk (X.tr pn xe) Xn c sub := ⟨q.xs, q.sub⟩
theorem FrOk.tr (f : FrOk X) (pn : List (Addr × Obj)) {xe : Value → Shared → Prop} (po : PassesOwn (model X.prog X.w) X.A X.env xe) : FrOk (X.tr pn xe) := ⟨po, f.stk, f.fr⟩
end
section
variable {C Xn : Nat → Addr} {c : Cc} {lv : Nat} {cl mk : Nat → List D → M D} {mt : Nat → Str → Option (Option Nat)} {sub : Nat → Nat → Option Bool} {N : Nat}
theorem lcE_ok {X : Cx} {W : WX} {sc : Scope} {bs : Option Scope} {n : Nat} (g : GOk X C Xn c lv cl mk mt) (x : XOk X c sc bs W lv) {elt : Expr} {gens : List Comprehension} {scope : Scope} {p : Pos} {E : PI.E} (h : cE c (n + 1) sc bs (.ListComp elt gens scope p) = some E) :
    ∃ tg it ifs t i q y, gens = [⟨tg, it, ifs, 0⟩] ∧ E = .lc t ((ownOf c.N scope.names).map (·.2)) i q y ∧ LcOk X C Xn W elt tg it ifs scope (ownOf c.N scope.names) t (sem lv cl mk mt i).i (sem lv cl mk mt q).t (sem lv cl mk mt y).v := by
  unfold cE at h
  split at h <;> rename_i heq <;> first | (cases heq; done) | skip
  · cases heq
    have ih : ∀ e E, cE c n sc bs e = some E → EOk X C Xn W e (sem lv cl mk mt E) := fun e E h => cE_ok n g x h
    obtain ⟨h1, h⟩ := oi h
    obtain ⟨i, h2, h⟩ := ob h
    obtain ⟨t, h3, h⟩ := ob h
    obtain ⟨q, h4, h⟩ := ob h
    obtain ⟨y, h5, h⟩ := ob h
    obtain ⟨h6, h⟩ := oi h
    cases h
    rw [Bool.and_eq_true, List.all_eq_true] at h6
    have tb := fun (s : Shared) (H : Hp) (L : Addr) (cls : List (Str × Addr)) (fp : List Addr) => tgC_ok (C := C) (Xn := Xn) (x.blk s H scope L cls fp) h3
    refine ⟨_, _, _, t, i, q, y, rfl, rfl, x.calm, by rw [x.N]; exact x.nd, ?_, blkOk_by (by rw [x.N, x.scp]; exact h1), fun s H L cls fp => (tb s H L cls fp).1, fun s H L cls fp => ?_, fun s H L cls fp => ?_, fun k hk => of_decide_eq_true (h6.2 k hk)⟩
    · refine cIt_ok g x ih (fun is e => ?_) h2 h6.1
      subst e
      exact tgT h3
    · exact cIf_ok (fun e E h => cE_ok n (g.blk s H scope _ fp) (x.blk s H scope L cls fp) h) h4
    · exact (cE_ok n (g.blk s H scope _ fp) (x.blk s H scope L cls fp) h5).v
  · cases h
/-- a value that is no comprehension, or one that is laid in its place -/
theorem asg_ok {X : Cx} {W : WX} {sc : Scope} {n : Nat} (g : GOk X C Xn c lv cl mk mt) (x : XOk X c sc none W lv) {y : Str} {p pos : Pos} {v : Expr} {E : PI.E} {i : Nat} (hsw : swOf sc y p v = true) (hi : slotOf c sc none (.Name y p) = some i) (hv : cE c n sc none v = some E) (hk : X.env.scope.kind = .function) :
    PS X (.Assign [.Name y p] v pos) (tSs (sg X C Xn) W fun ρ => tryE ρ ((sem lv cl mk mt E).v ρ) (asgK (.nm i) ρ)) := by
  obtain ⟨y', p', e0, h1, h2, h3⟩ := slotOf_ok x hi
  cases e0
  have hN : X.N.Nodup := by rw [x.N]; exact x.nd
  have he := cE_ok n g x hv
  cases hl : notLc v with
  | true => exact ps_setI hN h1 h2 h3 he hl
  | false =>
    cases n with
    | zero => cases hv
    | succ n =>
      cases v <;> first | (cases hl; done) | skip
      · rename_i elt gens scope cpos
        unfold swOf at hsw
        simp only [Bool.and_eq_true, decide_eq_true_eq, Bool.not_eq_true'] at hsw
        obtain ⟨⟨k1, k2⟩, k3⟩ := hsw
        obtain ⟨tg, it, ifs, t, iE, q, yE, rfl, rfl, lk⟩ := lcE_ok g x hv
        refine ps_setLcII lk h1 (by rw [x.scp]; exact k1) (sw_true hk (by rw [x.scp]; exact k1) k2 k3)
      · unfold cE at hv; cases hv
      · unfold cE at hv; cases hv
/-- a statement -/
theorem cS_ok : ∀ (n : Nat) {X : Cx} {W : WX} {sc : Scope} {s : Stmt} {E : S}, GOk X C Xn c lv cl mk mt → QOk X Xn c sub → XOk X c sc none W lv → FrOk X → X.env.scope.kind = .function → cS c sc n s = some E → PS X s (tSs (sg X C Xn) W (ex lv cl mk mt sub N E))
  | 0, _, _, _, _, _, _, _, _, _, _, h => by cases h
  | n + 1, X, W, sc, s, E, g, q, x, fr, hk, h => by
    have ih : ∀ s E, cS c sc n s = some E → PS X s (tSs (sg X C Xn) W (ex lv cl mk mt sub N E)) := fun s E h => cS_ok n g q x fr hk h
    have ie : ∀ e E, cE c n sc none e = some E → EOk X C Xn W e (sem lv cl mk mt E) := fun e E h => cE_ok n g x h
    have hN : X.N.Nodup := by rw [x.N]; exact x.nd
    unfold cS at h
    split at h
    · cases h; exact ps_passI
    · cases h; exact ps_contI
    · split at h
      · cases h
      · rename_i e p _ hne
        obtain ⟨E', h1, rfl⟩ := om h
        refine ps_expI (ie _ _ h1) ?_
        cases n with
        | zero => cases h1
        | succ n => cases e <;> first | rfl | exact absurd rfl (hne _ _ _ _) | (unfold cE at h1; cases h1)
    · cases h; exact ps_retNI
    · obtain ⟨E', h1, rfl⟩ := om h
      exact ps_retI (ie _ _ h1)
    · obtain ⟨h1, h⟩ := oi h
      obtain ⟨i, h2, h⟩ := ob h
      obtain ⟨y, h3, h⟩ := ob h
      cases h
      exact asg_ok g x h1 h2 h3 hk
    · split at h
      · cases h
      · rename_i hn
        obtain ⟨t, h1, h⟩ := ob h
        obtain ⟨y, h2, h⟩ := ob h
        cases h
        exact ps_tupI x.calm hN (slots_ok x h1) (ie _ _ h2) (by simpa using hn)
    · obtain ⟨a, h1, h⟩ := ob h
      obtain ⟨b, h2, h⟩ := ob h
      cases h
      exact ps_asfI g.fld (ie _ _ h2) (ie _ _ h1)
    · split at h
      · cases h
      · obtain ⟨a, h1, h⟩ := ob h
        obtain ⟨k, h2, h⟩ := ob h
        obtain ⟨b, h3, h⟩ := ob h
        cases h
        exact ps_assI x.hr (ie _ _ h3) (ie _ _ h1) (ie _ _ h2)
    · obtain ⟨i, h1, h⟩ := ob h
      obtain ⟨y, h2, h⟩ := ob h
      cases h
      obtain ⟨y', p', e0, k1, k2, k3⟩ := slotOf_ok x h1
      cases e0
      exact ps_augI hN k1 k2 k3 (ie _ _ h2)
    · obtain ⟨a, h1, h⟩ := ob h
      obtain ⟨b, h2, h⟩ := ob h
      cases h
      exact ps_aufI g.fld (ie _ _ h2) (ie _ _ h1)
    · obtain ⟨h1, h⟩ := oi h
      obtain ⟨t, h2, h⟩ := ob h
      obtain ⟨a, h3, h⟩ := ob h
      obtain ⟨b, h4, h⟩ := ob h
      cases h
      exact ps_ifI h1 (ie _ _ h2) (cSs_ok ih h3) (cSs_ok ih h4)
    · obtain ⟨h1, h⟩ := oi h
      obtain ⟨t, h2, h⟩ := ob h
      obtain ⟨a, h3, h⟩ := ob h
      cases h
      exact ps_whileI fr.po h1 (ie _ _ h2) (cSs_ok ih h3)
    · obtain ⟨i, h1, h⟩ := ob h
      obtain ⟨t, h2, h⟩ := ob h
      obtain ⟨b, h3, h⟩ := ob h
      obtain ⟨h4, h⟩ := oi h
      cases h
      obtain ⟨t1, t2⟩ := tgC_ok (C := C) (Xn := Xn) x h2
      exact ps_forI fr.po x.calm (cIt_ok g x ie t2 h1 h4) t1 (cSs_ok ih h3) (fun ρ => ex_noEr b ρ)
    · obtain ⟨h1, h⟩ := oi h
      rw [Bool.and_eq_true] at h1
      obtain ⟨k, h2, rfl⟩ := om h
      exact ps_raiI q x h2 (gl_ok x.scp h1.1) (okName_ok h1.2).1
    · obtain ⟨h1, h⟩ := oi h
      rw [Bool.and_eq_true] at h1
      obtain ⟨y, h2, h⟩ := ob h
      obtain ⟨k, h3, h⟩ := ob h
      obtain ⟨hd, h4, h⟩ := ob h
      obtain ⟨z, h5, h⟩ := ob h
      cases h
      exact ps_tryI (C := C) (mb := ex lv cl mk mt sub N y) (mo := ex lv cl mk mt sub N z) q x fr h3 (gl_ok x.scp h1.1) (okName_ok h1.2).1 h4 (fun W' pn xe tk po => cSs_ok (fun s E h => cS_ok n (g.tr pn xe) (q.tr pn xe) (x.tr pn xe tk) (fr.tr pn po) hk h) h2) (cSs_ok ih h5)
    · cases h
/-- A BODY -/
theorem cBody_ok {X : Cx} {W : WX} {sc : Scope} {b : List Stmt} {E : S} (g : GOk X C Xn c lv cl mk mt) (q : QOk X Xn c sub) (x : XOk X c sc none W lv) (fr : FrOk X) (hk : X.env.scope.kind = .function) (h : cBody c sc b = some E) : PSs X b (tSs (sg X C Xn) W (ex lv cl mk mt sub N E)) :=
  cSs_ok (fun s E h => cS_ok 60 g q x fr hk h) h
end
end PI

open PySem PySem.Spec PyProof.Rows L2
namespace PI

/-! # a call's end, tidied -/
section
variable {G : Sig} {F F' : List Addr} {H H' : Hp} {st st' : Store}
mutual
theorem Rep.cut {n : Nat} : ∀ {d : D} {v : V}, Rep G F' H' d v → d.under n = true → Rep G (F'.take n) H' d v
  | .non, _, h, _ => h
  | .bl _, _, h, _ => h
  | .int _, _, h, _ => h
  | .str _, _, h, _ => h
  | .tup ds, v, h, u => by
    rw [Rep] at h ⊢
    obtain ⟨a, vs, rfl, h1, h2⟩ := h
    exact ⟨a, vs, rfl, h1, RepL.cutU h2 u⟩
  | .obj k, v, h, u => by
    rw [Rep] at h ⊢
    obtain ⟨a, rfl, h1⟩ := h
    exact ⟨a, rfl, by rw [List.getElem?_take_of_lt (of_decide_eq_true u)]; exact h1⟩
  | .wl ds, v, h, u => by
    rw [Rep] at h ⊢
    obtain ⟨a, vs, rfl, h1, h2⟩ := h
    exact ⟨a, vs, rfl, h1, RepL.cutU h2 u⟩
  | .wd _, _, h, _ => h
theorem RepL.cutU {n : Nat} : ∀ {ds : List D} {vs : List V}, RepL G F' H' ds vs → D.unders n ds = true → RepL G (F'.take n) H' ds vs
  | [], _, h, _ => h
  | d :: ds, vs, h, u => by
    rw [RepL] at h ⊢
    unfold D.unders at u
    rw [Bool.and_eq_true] at u
    obtain ⟨v, r, rfl, h1, h2⟩ := h
    exact ⟨v, r, rfl, Rep.cut h1 u.1, RepL.cutU h2 u.2⟩
end
mutual
theorem Rep.un : ∀ {d : D} {v : V}, Rep G F H d v → d.under F.length = true
  | .non, _, _ => rfl
  | .bl _, _, _ => rfl
  | .int _, _, _ => rfl
  | .str _, _, _ => rfl
  | .tup ds, v, h => by
    rw [Rep] at h
    obtain ⟨a, vs, rfl, h1, h2⟩ := h
    exact RepL.un h2
  | .obj k, v, h => by
    rw [Rep] at h
    obtain ⟨a, rfl, h1⟩ := h
    exact decide_eq_true (List.getElem?_eq_some_iff.mp h1).1
  | .wl ds, v, h => by
    rw [Rep] at h
    obtain ⟨a, vs, rfl, h1, h2⟩ := h
    exact RepL.un h2
  | .wd _, _, _ => rfl
theorem RepL.un : ∀ {ds : List D} {vs : List V}, RepL G F H ds vs → D.unders F.length ds = true
  | [], _, _ => rfl
  | d :: ds, vs, h => by
    rw [RepL] at h
    obtain ⟨v, r, rfl, h1, h2⟩ := h
    unfold D.unders
    rw [Rep.un h1, RepL.un h2]
    rfl
end
theorem pair_un {k : List (D × D)} {ws : List (Key × V)} (h : RepKV G F H k ws) : (k.all fun p => p.1.under F.length && p.2.under F.length) = true := by
  induction h with
  | nil => rfl
  | cons r t ih =>
    rename_i p q ps qs
    rw [List.all_cons, ih, r.1, Rep.un r.2]
    cases q.1 <;> rfl
theorem CellOk.un {a : Addr} {c : Cell} (h : CellOk G F H a c) : c.under F.length = true := by
  cases c with
  | lst ds => obtain ⟨vs, _, h2⟩ := h; exact RepL.un h2
  | dic lk k =>
    obtain ⟨u, _, ws, _, h2⟩ := DicOk.rd h
    exact pair_un h2
  | ins c fs =>
    obtain ⟨dx, ws, h1, h2⟩ := h
    show (fs.all fun p => p.2.under F.length) = true
    clear h1
    induction h2 with
    | nil => rfl
    | cons r t ih => rw [List.all_cons, ih, Rep.un r.2]; rfl
  | exn c => exact h.elim
theorem kv_cut {n : Nat} {k : List (D × D)} {ws : List (Key × V)} (h : RepKV G F' H' k ws) (u : (k.all fun p => p.1.under n && p.2.under n) = true) : RepKV G (F'.take n) H' k ws := by
  induction h with
  | nil => exact .nil
  | cons r t ih =>
    rw [List.all_cons, Bool.and_eq_true, Bool.and_eq_true] at u
    exact .cons ⟨r.1, r.2.cut u.1.2⟩ (ih u.2)
theorem CellOk.cut {n : Nat} {a : Addr} {c : Cell} (h : CellOk G F' H' a c) (u : c.under n = true) : CellOk G (F'.take n) H' a c := by
  cases c with
  | lst ds => obtain ⟨vs, h1, h2⟩ := h; exact ⟨vs, h1, RepL.cutU h2 u⟩
  | dic lk k =>
    cases lk with
    | false => obtain ⟨w, h1, ws, e, h2⟩ := h; exact ⟨w, h1, ws, e, kv_cut h2 u⟩
    | true => obtain ⟨ob, w, h1, ws, e, h2⟩ := h; exact ⟨ob, w, h1, ws, e, kv_cut h2 u⟩
  | ins c fs =>
    obtain ⟨dx, ws, h1, h2⟩ := h
    refine ⟨dx, ws, h1, ?_⟩
    replace u : (fs.all fun p => p.2.under n) = true := u
    clear h1
    induction h2 with
    | nil => exact .nil
    | cons r t ih =>
      rw [List.all_cons, Bool.and_eq_true] at u
      exact .cons ⟨r.1, r.2.cut u.1⟩ (ih u.2)
  | exn c => exact h
theorem tidy_all (s0 : SR G F H st) (h : Tidy st.length st st') {i : Nat} (hi : i < st.length) : ∃ c, st'[i]? = some c ∧ c.under st.length = true := by
  rcases h.2 i hi with e | e
  · have hf : F[i]? = some (F[i]'(by rw [s0.len]; exact hi)) := by simp
    obtain ⟨c, h1, h2⟩ := s0.cell hf
    exact ⟨c, by rw [e]; exact h1, by rw [← s0.len]; exact h2.un⟩
  · exact e
theorem SR.cut (s0 : SR G F H st) (x : Ext G F H F' H') (s : SR G F' H' st') (h : Tidy st.length st st') : F'.take st.length = F ∧ SR G F H' (st'.take st.length) := by
  obtain ⟨t, e⟩ := x.pre
  have eF : F'.take st.length = F := by rw [e, ← s0.len, List.take_left']; rfl
  have hl : st.length ≤ st'.length := by rw [← s0.len, ← s.len, e, List.length_append]; omega
  refine ⟨eF, ⟨by rw [List.length_take, s0.len]; omega, s0.nd, fun a ha => s.tr a (by rw [e]; exact List.mem_append_left _ ha), fun n a c h1 h2 => ?_⟩⟩
  have hn : n < st.length := by rw [← s0.len]; exact (List.getElem?_eq_some_iff.mp h1).1
  rw [List.getElem?_take_of_lt hn] at h2
  obtain ⟨c', h3, h4⟩ := tidy_all s0 h hn
  rw [h2] at h3; cases h3
  have h5 := (s.ok n a c (x.at h1) h2).cut h4
  rw [eF] at h5
  exact h5
theorem Ext.cut (x : Ext G F H F' H') : Ext G F H F H' := ⟨⟨[], by simp⟩, x.tup, x.fz, x.frz, x.tr, fun a h n => ⟨(x.fr a h n).1, n⟩⟩
/-- the tidied end -/
theorem fin_ok {rm : Rm} {r d : D} {s2 : Store} (s0 : SR G F H st) (h : fin rm st r st' = .ok d s2) (x : Ext G F H F' H') (s : SR G F' H' st') : ∃ F2, Ext G F H F2 H' ∧ SR G F2 H' s2 ∧ ∀ v, Rep G F' H' r v → Rep G F2 H' d v := by
  unfold fin at h
  cases rm with
  | any => cases h; exact ⟨F', x, s, fun v r => r⟩
  | gc =>
    dsimp only at h
    split at h
    · rename_i q
      cases h
      obtain ⟨eF, sc⟩ := SR.cut s0 x s q.1
      exact ⟨F, x.cut, sc, fun v rv => by
        have := rv.cut q.2
        rw [eF] at this
        exact this⟩
    · cases h
  | new =>
    dsimp only at h
    split at h
    · rename_i n
      split at h
      · rename_i c hc
        split at h
        · rename_i q
          cases h
          obtain ⟨eF, sc⟩ := SR.cut s0 x s q.2.1
          have hn : n < F'.length := by rw [s.len]; exact (List.getElem?_eq_some_iff.mp hc).1
          have hF : F'[n]? = some F'[n] := by simp
          have hck := (s.ok n _ c hF hc).cut q.2.2
          rw [eF] at hck
          obtain ⟨t, e⟩ := x.pre
          have hnF : F'[n] ∉ F := fun hm => by
            obtain ⟨i, hi⟩ := List.getElem?_of_mem hm
            have h1 := x.at hi
            have h2 := SR.wrote.nodup_at s.nd h1 hF
            have h3 := (List.getElem?_eq_some_iff.mp hi).1
            have h4 := q.1
            have h5 := s0.len
            omega
          have hH : H' F'[n] ≠ none := s.tr _ (List.mem_of_getElem? hF)
          refine ⟨F ++ [F'[n]], ?_, sc.adopt hnF hH (hck.monoR ⟨⟨[F'[n]], rfl⟩, fun _ _ h => h, fun _ _ h => h⟩ rfl), fun v rv => ?_⟩
          · refine ⟨⟨[F'[n]], rfl⟩, x.tup, x.fz, x.frz, x.tr, fun a h na => ⟨(x.fr a h na).1, fun z => ?_⟩⟩
            rcases List.mem_append.mp z with z | z
            · exact na z
            · exact (x.fr a h na).2 (by rw [List.mem_singleton.mp z]; exact List.mem_of_getElem? hF)
          · rw [Rep] at rv ⊢
            obtain ⟨a, rfl, h1⟩ := rv
            rw [hF] at h1; cases h1
            exact ⟨_, rfl, by rw [← s0.len, List.getElem?_append_right (Nat.le_refl _)]; simp⟩
        · cases h
      · cases h
    · cases h
theorem fin_noEr {rm : Rm} {r : D} {st st' : Store} {c : Nat} {s2 : Store} : fin rm st r st' ≠ .er c s2 := by
  unfold fin
  cases rm with
  | any => exact fun z => nomatch z
  | gc => dsimp only; split <;> exact fun z => nomatch z
  | new =>
    dsimp only
    split
    · split
      · split <;> exact fun z => nomatch z
      · exact fun z => nomatch z
    · exact fun z => nomatch z
end
/-! # a def -/
theorem rho_start {G : Sig} {F : List Addr} {H : Hp} {ds : List D} {vs : List V} {N : List Str} (r : RepL G F H ds vs) : RhoR G F H (startR ds N.length) (L2.start N vs) := by
  have hl := r.length
  refine ⟨by unfold startR L2.start; simp [hl], fun i d q => ?_⟩
  unfold startR at q
  unfold L2.start
  by_cases hi : i < ds.length
  · rw [List.getElem?_append_left (by simpa using hi), List.getElem?_map] at q
    rw [List.getElem?_append_left (by simpa [hl] using hi), List.getElem?_map]
    cases e : ds[i]? with
    | none => rw [e] at q; cases q
    | some d' =>
      rw [e] at q
      cases q
      obtain ⟨v, h1, h2⟩ := r.get e
      exact ⟨v, by rw [h1]; rfl, h2⟩
  · rw [List.getElem?_append_right (by simpa using hi)] at q
    have := List.mem_of_getElem? q
    have := List.eq_of_mem_replicate this
    cases this
/-- the module's facts for the small machine -/
structure Env1 where
  P : Program
  w : World
  K : PySem.W.Frag
  mg : Str → Option Value
  base : Heap
section
variable {P : Program} {w : World} {K : PySem.W.Frag} {mg : Str → Option Value} {base : Heap} {C Xn : Nat → Addr} {c : Cc} {lv : Nat} {cl mk : Nat → List D → M D} {Pr : Prog}
theorem def_ok {x qual : Str} {st : Stmt} {f : Addr} {fd : FuncData} {N ps : List Str} {d : Def} (Fn : Fun K x qual st f fd) (S : FnScope N ps (defScope st)) (hb : cBody { c with N := N } (defScope st) (defBody st) = some d.body) (hnp : d.np = ps.length) (hns : d.ns = N.length)
    (g : ∀ X : Cx, X.prog = P → X.w = w → X.K = K → X.mg = mg → X.base = base → GOk X C Xn { c with N := N } lv cl mk Pr.mt) (q : ∀ X : Cx, X.K = K → X.mg = mg → QOk X Xn { c with N := N } Pr.sub) :
    FnOk P w K mg base (L2.CX P w) (lv + 1) f fd ps (spM ⟨P, w, K, C, Xn⟩ (runDef lv cl mk Pr d)) := by
  have len : ∀ vs H Q E, spM ⟨P, w, K, C, Xn⟩ (runDef lv cl mk Pr d) vs H Q E → vs.length = ps.length := by
    intro vs H Q E h
    obtain ⟨F, s, ds, sr, rl, h⟩ := h
    rw [rl.length, ← hnp]
    unfold runDef at h
    by_cases e : ds.length = d.np
    · exact e
    · unfold WP at h
      dsimp only at h
      rw [if_neg e] at h
      exact h.elim
  refine Fn.okX S len fun cdv A outer s H vs Q E hr hsp => ?_
  have hl := len _ _ _ _ hsp
  obtain ⟨F, st0, ds, sr, rl, h⟩ := hsp
  have e : ds.length = d.np := by rw [← rl.length, hl, hnp]
  have hx : XOk (cxOf (L2.CX P w) P w K mg base N qual (defScope st) f cdv A outer s H E) { c with N := N } (defScope st) none (fun cls d _ H => E cls d H) lv := {
    N := rfl
    scp := rfl
    nd := S.nd
    calm := rfl
    hr := hr
    tk := takes_of rfl rfl rfl rfl
    sto := fun y hy => by
      unfold isSto at hy
      split at hy
      · rename_i z; exact ⟨.inl z, .inr z⟩
      · rename_i z; exact ⟨.inr z, .inl rfl⟩
      · cases hy }
  have hf : FrOk (cxOf (L2.CX P w) P w K mg base N qual (defScope st) f cdv A outer s H E) := ⟨passes_of rfl, rfl, rfl⟩
  have body := cBody_ok (N := Pr.N) (C := C) (Xn := Xn) (cl := cl) (mk := mk) (mt := Pr.mt) (sub := Pr.sub) (g _ rfl rfl rfl rfl rfl) (q _ rfl rfl) hx hf S.kind hb
  refine ⟨_, body, F, startR ds d.ns, st0, sr, by rw [hns]; exact rho_start rl, ?_⟩
  have er : runDef lv cl mk Pr d ds st0 = (match ex lv cl mk Pr.mt Pr.sub Pr.N d.body (startR ds d.ns) st0 with
    | .ok (.rt r) s' => fin d.rm st0 r s'
    | .ok (.nx _) s' => fin d.rm st0 .non s'
    | .ok (.er c _) s' => .er c s'
    | _ => .bad) := by
    unfold runDef
    rw [if_pos e]
    all_goals
      cases ex lv cl mk Pr.mt Pr.sub Pr.N d.body (startR ds d.ns) st0 with
      | ok fl s' => cases fl <;> rfl
      | er c s' => rfl
      | bad => rfl
  cases z : ex lv cl mk Pr.mt Pr.sub Pr.N d.body (startR ds d.ns) st0 with
  | er cc s' => exact absurd z (ex_noEr _ _ _ _ _)
  | bad =>
    rw [z] at er
    exact (h.runB er).elim
  | ok fl s' =>
    rw [z] at er
    refine WP.of_ok z fun F' H' x' s1 => ?_
    cases fl with
    | nx ρ' =>
      intro σ' r'
      dsimp only at er
      cases y : fin d.rm st0 .non s' with
      | ok dd s2 =>
        obtain ⟨F2, x2, sr2, k⟩ := fin_ok sr y x' s1
        exact h.run (er.trans y) x2 sr2 .non (k .non rfl)
      | er cc s2 => exact absurd y fin_noEr
      | bad => exact (h.runB (er.trans y)).elim
    | rt r =>
      intro v rv
      dsimp only at er
      cases y : fin d.rm st0 r s' with
      | ok dd s2 =>
        obtain ⟨F2, x2, sr2, k⟩ := fin_ok sr y x' s1
        exact h.run (er.trans y) x2 sr2 v (k v rv)
      | er cc s2 => exact absurd y fin_noEr
      | bad => exact (h.runB (er.trans y)).elim
    | ct ρ' => exact (h.runB er).elim
    | er cc ρ' =>
      intro σ' r'
      exact h.runE er x' s1
end
end PI

open PySem PySem.Spec PyProof.Rows L2
namespace PI

/-! # all defs of a module, level by level -/
structure DOk (K : PySem.W.Frag) (Pr : Prog) (c : Cc) (k : Nat) (f : Addr) (fd : FuncData) (ps : List Str) : Prop where
  ex : ∃ x qual st N d, Fun K x qual st f fd ∧ FnScope N ps (defScope st) ∧ Binds K fd ps [] ∧ Pr.get k = some d ∧ d.np = ps.length ∧ d.ns = N.length ∧ cBody { c with N := N } (defScope st) (defBody st) = some d.body
structure MOk (P : Program) (w : World) (K : PySem.W.Frag) (mg : Str → Option Value) (C Xn : Nat → Addr) (c : Cc) (Pr : Prog) : Prop where
  bi : ∀ x ∈ biNames, mg x = none
  cn : ∀ x d, c.cn.lookup x = some d → ∃ v u, mg x = some u ∧ RelV v u ∧ ∀ F H, Rep ⟨P, w, K, C, Xn⟩ F H d v
  fn : ∀ x k, c.fn.lookup x = some k → ∃ f fd ps, mg x = some (.ref f) ∧ DOk K Pr c k f fd ps
  cs : ∀ x k, c.cs.lookup x = some k → mg x = some (.ref (C k)) ∧ PySem.W.keepIn K (.ref (C k)) = true ∧ (Pr.ini k = none ∨ ∃ i f fd ps, Pr.ini k = some i ∧ Mk K (C k) f ∧ DOk K Pr c i f fd ps)
  meth : ∀ k m i, Pr.mt k m = some (some i) → Cls K (C k) ∧ ∃ f fd ps, Meth K (C k) m f ∧ DOk K Pr c i f fd ps
  fld : ∀ k m, Pr.mt k m = some none → Cls K (C k) ∧ NoAttr K (C k) m
  xs : ∀ x k, c.xs.lookup x = some k → mg x = some (.ref (Xn k)) ∧ PySem.W.keepIn K (.ref (Xn k)) = true ∧ (∃ B newId initId bmB, ExcBaseFacts B newId initId bmB ∧ PySem.W.excIn K (Xn k) bmB newId = true) ∧
    PySem.W.subIn K (.ref (Xn k)) (.type "BaseException") = some true ∧ PySem.W.typeIn K (.ref (Xn k)) = some (.type "type")
  sub : ∀ k j b, Pr.sub k j = some b → PySem.W.exmOne K (.ref (Xn k)) (.ref (Xn j)) = some b
section
variable {P : Program} {w : World} {K : PySem.W.Frag} {mg : Str → Option Value} {base : Heap} {C Xn : Nat → Addr} {c : Cc} {Pr : Prog}
noncomputable def lowM (Pr : Prog) (n : Nat) : Nat → List D → M D := match n with
  | 0 => fun _ _ => bad
  | m + 1 => call Pr m
theorem call_succ {n k : Nat} {d : Def} (h : Pr.get k = some d) : call Pr (n + 1) k = runDef n (call Pr n) (mkM Pr (lowM Pr n)) Pr d := by
  funext ds
  have e : call Pr (n + 1) k ds = (match Pr.get k with
    | some d => runDef n (call Pr n) (mkM Pr (lowM Pr n)) Pr d ds
    | none => bad) := by
    cases n with
    | zero => conv => lhs; unfold call
              cases Pr.get k <;> rfl
    | succ m => conv => lhs; unfold call
                cases Pr.get k <;> rfl
  rw [e, h]
theorem level (m : MOk P w K mg C Xn c Pr) : ∀ (n j : Nat), j ≤ n → ∀ (k : Nat) (f : Addr) (fd : FuncData) (ps : List Str), DOk K Pr c k f fd ps → FnOk P w K mg base (L2.CX P w) j f fd ps (spM ⟨P, w, K, C, Xn⟩ (call Pr j k)) := by
  intro n
  induction n with
  | zero =>
    intro j hj k f fd ps h
    obtain rfl : j = 0 := by omega
    have no : ∀ vs H Q E, ¬ spM ⟨P, w, K, C, Xn⟩ (call Pr 0 k) vs H Q E := fun vs H Q E ⟨F, st, ds, s, r, h⟩ => h
    exact ⟨fun vs H Q E h => (no vs H Q E h).elim, fun A outer s H args us vs Q E hr he hb hv hs => (no _ _ _ _ hs).elim⟩
  | succ n ih =>
    intro j hj k f fd ps h
    by_cases hjn : j ≤ n
    · exact ih j hjn k f fd ps h
    · obtain rfl : j = n + 1 := by omega
      obtain ⟨x, qual, st, N, d, h1, h2, h3, h4, h5, h6, h7⟩ := h.ex
      rw [call_succ h4]
      have kp : ∀ {k f fd ps}, DOk K Pr c k f fd ps → PySem.W.keepIn K (.ref f) = true ∧ Binds K fd ps [] := fun {k f fd ps} h => by
        obtain ⟨x, qual, st, N, d, h1, h2, h3, _⟩ := h.ex
        exact ⟨h1.kp, h3⟩
      refine def_ok h1 h2 h7 h5 h6 (fun X e1 e2 e3 e4 e5 => ?_) fun X e1 e2 => ?_
      · subst e1 e2 e3 e4 e5
        refine ⟨m.bi, m.cn, fun x k hk => ?_, fun x k hk => ?_, fun k mm i hk => ?_, m.fld⟩
        · obtain ⟨f, fd, ps, e1, e2⟩ := m.fn x k hk
          exact ⟨f, e1, (kp e2).1, fd, ps, (kp e2).2, ih n (Nat.le_refl _) k f fd ps e2⟩
        · obtain ⟨e1, e2, alt⟩ := m.cs x k hk
          refine ⟨e1, e2, ?_⟩
          rcases alt with e3 | ⟨i, f, fd, ps, e3, e4, e5⟩
          · left
            intro ds
            unfold mkM
            rw [e3]
            rfl
          · cases n with
            | zero =>
              left
              intro ds
              unfold mkM
              rw [e3]
              funext s
              rfl
            | succ n =>
              right
              refine ⟨n, f, fd, ps, call Pr n i, rfl, e4, (kp e5).2, ih n (Nat.le_succ _) i f fd ps e5, fun ds => ?_⟩
              unfold mkM newM
              rw [e3]
              rfl
        · obtain ⟨e1, f, fd, ps, e2, e3⟩ := m.meth k mm i hk
          exact ⟨e1, f, e2, fd, ps, (kp e3).2, ih n (Nat.le_refl _) i f fd ps e3⟩
      · subst e1 e2
        exact ⟨m.xs, m.sub⟩
/-! # a law -/
def spLaw (K : PySem.W.Frag) : Sp := fun vs H Q _ => ∃ (a : Addr) (ns : List Int), vs = [.ref a] ∧ Only H ∧ SqL K H a (ns.map V.int) ∧ ns.length ≤ 63 ∧ ∀ H', Q (.bl true) H'
theorem law_imp {m : List D → M D} (plain : ∀ ns : List Int, ns.length ≤ 63 → ∃ s', m [.wl (ns.map .int)] [] = .ok (.bl true) s') : ∀ vs H Q E, spLaw K vs H Q E → spM ⟨P, w, K, C, Xn⟩ m vs H Q E := by
  intro vs H Q E h
  obtain ⟨a, ns, rfl, ho, hs, hl, hq⟩ := h
  obtain ⟨s', e⟩ := plain ns hl
  have hz : FzL K H a (ns.map V.int) := by
    rcases hs with (hs | ⟨o, hs⟩) | hs
    · rcases ho a with z | ⟨o, xs, z⟩
      · rw [hs] at z; cases z
      · rw [hs] at z; cases z
    · exact .inl ⟨o, hs⟩
    · exact .inr hs
  have s0 : SR ⟨P, w, K, C, Xn⟩ [] H [] := ⟨rfl, .nil, fun a ha => absurd ha (by simp), fun n a c h => absurd h (by simp)⟩
  have r0 : RepL ⟨P, w, K, C, Xn⟩ [] H [.wl (ns.map .int)] [.ref a] := RepL.cons (by rw [Rep]; exact ⟨a, _, rfl, hz, repL_of_ints ns⟩) RepL.nil
  refine ⟨[], [], _, s0, r0, WP.of_ok e fun F' H' x s v rv => ?_⟩
  rw [rep_bl rv]
  exact hq H'
theorem law_fn (m : MOk P w K mg C Xn c Pr) {n k : Nat} {f : Addr} {fd : FuncData} {ps : List Str} (h : DOk K Pr c k f fd ps) (plain : ∀ ns : List Int, ns.length ≤ 63 → ∃ s', call Pr n k [.wl (ns.map .int)] [] = .ok (.bl true) s') :
    FnOk P w K mg base (L2.CX P w) n f fd ps (spLaw K) := (level m n n (Nat.le_refl _) k f fd ps h).imp (law_imp plain)
end
end PI

open PySem PySem.Spec PyProof.Rows L2
namespace PI

/-! # the small machine, run in plain Lean -/
theorem bindS {α β : Type} {m : M α} {f : α → M β} {s s' : Store} {a : α} (h : m s = .ok a s') : (m >>= f) s = f a s' := bind_ok h
theorem getC_of {n : Nat} {s : Store} {c : Cell} (h : s[n]? = some c) : getC n s = .ok c s := by
  unfold getC
  rw [h]
theorem getC_last {s : Store} {c : Cell} : getC s.length (s ++ [c]) = .ok c (s ++ [c]) := getC_of (by simp)
theorem pureS {α : Type} (a : α) (s : Store) : (pure a : M α) s = .ok a s := rfl
theorem grdS {p : Prop} [Decidable p] {s : Store} (h : p) : grd p s = .ok () s := by
  unfold grd
  rw [if_pos h]
theorem optS {α : Type} {a : α} {s : Store} : opt (some a) s = .ok a s := rfl
theorem allocS {c : Cell} {s : Store} : alloc c s = .ok (.obj s.length) (s ++ [c]) := rfl
theorem setCS {n : Nat} {c : Cell} {s : Store} : setC n c s = .ok () (s.set n c) := rfl
theorem tryS {α : Type} {ρ : Rho} {m : M α} {k : α → M Fl} {s s' : Store} {a : α} (h : m s = .ok a s') : tryE ρ m k s = k a s' := by
  unfold tryE
  rw [h]
theorem fin_any {d : D} {s s' : Store} : fin .any s d s' = .ok d s' := rfl
theorem tidy_app {s t : Store} : Tidy s.length s (s ++ t) := ⟨rfl, fun i hi => .inl (List.getElem?_append_left hi)⟩
theorem fin_gc {d : D} {s t : Store} (h : d.under s.length = true) : fin .gc s d (s ++ t) = .ok d s := by
  unfold fin
  dsimp only
  rw [if_pos ⟨tidy_app, h⟩, List.take_left']
  rfl
theorem fin_new {j : Nat} {s t : Store} {c : Cell} (h : t[j]? = some c) (u : c.under s.length = true) : fin .new s (.obj (s.length + j)) (s ++ t) = .ok (.obj s.length) (s ++ [c]) := by
  unfold fin
  dsimp only
  have e : (s ++ t)[s.length + j]? = some c := by
    rw [List.getElem?_append_right (Nat.le_add_right _ _), Nat.add_sub_cancel_left]
    exact h
  rw [e]
  dsimp only
  rw [if_pos ⟨Nat.le_add_right _ _, tidy_app, u⟩, List.take_left']
  rfl
/-- a call that comes back -/
theorem call_rt {P : Prog} {n k : Nat} {d : Def} {ds : List D} {s s' s2 : Store} {r dd : D} (h : P.get k = some d) (hl : ds.length = d.np) (e : ex n (call P n) (mkM P (lowM P n)) P.mt P.sub P.N d.body (startR ds d.ns) s = .ok (.rt r) s') (f : fin d.rm s r s' = .ok dd s2) :
    call P (n + 1) k ds s = .ok dd s2 := by
  rw [call_succ h]
  unfold runDef
  rw [if_pos hl, e]
  exact f
theorem mulM {i j : Int} (hi : i.natAbs < 2 ^ 1000) (hj : j.natAbs < 2 ^ 1000) : binM .Mult (.int i) (.int j) = pure (.int (i * j)) := by
  have b : ∀ n : Nat, n < 2 ^ 1000 → n.log2 < 1000 := fun n hn => by
    by_cases z : n = 0
    · subst z; decide
    · exact (Nat.log2_lt z).mpr hn
  unfold binM
  dsimp only
  funext s
  rw [bindS (grdS (by have := b _ hi; have := b _ hj; omega))]
theorem modM {i j : Int} (h : 0 < j) : binM .Mod (.int i) (.int j) = pure (.int (i % j)) := by
  unfold binM
  dsimp only
  funext s
  rw [bindS (grdS h)]
theorem divM {i j : Int} (h : 0 < j) (h2 : j.natAbs.log2 < 9000) : binM .FloorDiv (.int i) (.int j) = pure (.int (i / j)) := by
  unfold binM
  dsimp only
  funext s
  rw [bindS (grdS ⟨h, h2⟩)]
theorem addM {i j : Int} : binM .Add (.int i) (.int j) = pure (.int (i + j)) := rfl
theorem subM {i j : Int} : binM .Sub (.int i) (.int j) = pure (.int (i - j)) := rfl
theorem addS {x y : Str} (h : x.length + y.length ≤ SZ) : binM .Add (.str x) (.str y) = pure (.str (x ++ y)) := by
  unfold binM
  dsimp only
  funext s
  rw [bindS (grdS h)]
theorem powM {i j : Int} (h : 0 ≤ j ∧ j ≤ 1000000 ∧ i.natAbs < 2 ^ 64) : binM .Pow (.int i) (.int j) = pure (.int (i ^ j.toNat)) := by
  unfold binM
  dsimp only
  funext s
  rw [bindS (grdS h)]
/-! ## loops -/
theorem chkS {g : Gd} {s : Store} (h : g.ok s) : chk g s = .ok () s := by
  unfold chk
  rw [if_pos h]
/-- a loop that runs through: I by the turn -/
theorem for_all {t : Tg} {b : Rho → M Fl} {g : Gd} {ds : List D} (I : Nat → Rho → Store → Prop) (hg : ∀ i ρ s, i ≤ ds.length → I i ρ s → g.ok s)
    (hs : ∀ i d ρ s, ds[i]? = some d → I i ρ s → ∃ ρ1 ρ2 s2, bindT t d ρ s = .ok ρ1 s ∧ (b ρ1 s = .ok (.nx ρ2) s2 ∨ b ρ1 s = .ok (.ct ρ2) s2) ∧ I (i + 1) ρ2 s2) :
    ∀ {ρ : Rho} {s : Store}, I 0 ρ s → ∃ ρ' s', forL t b g ds ρ s = .ok (.nx ρ') s' ∧ I ds.length ρ' s' := by
  have go : ∀ (n i : Nat), ds.length - i = n → i ≤ ds.length → ∀ {ρ : Rho} {s : Store}, I i ρ s → ∃ ρ' s', forL t b g (ds.drop i) ρ s = .ok (.nx ρ') s' ∧ I ds.length ρ' s' := by
    intro n
    induction n with
    | zero =>
      intro i hn hi ρ s h
      have e : i = ds.length := by omega
      subst e
      rw [List.drop_length]
      refine ⟨ρ, s, ?_, h⟩
      unfold forL
      rw [bindS (chkS (hg _ _ _ (Nat.le_refl _) h))]
      rfl
    | succ n ih =>
      intro i hn hi ρ s h
      have hlt : i < ds.length := by omega
      rw [List.drop_eq_getElem_cons hlt]
      obtain ⟨ρ1, ρ2, s2, h1, h2, h3⟩ := hs i _ ρ s (List.getElem?_eq_getElem hlt) h
      obtain ⟨ρ', s', h4, h5⟩ := ih (i + 1) (by omega) hlt h3
      refine ⟨ρ', s', ?_, h5⟩
      unfold forL
      rw [bindS (chkS (hg _ _ _ hi h)), bindS h1]
      rcases h2 with h2 | h2
      · rw [bindS h2]; exact h4
      · rw [bindS h2]; exact h4
  intro ρ s h
  exact go ds.length 0 (by simp) (Nat.zero_le _) h
/-- a comprehension that runs through, the store as it was -/
theorem lc_all {t : Tg} {c : Rho → M Bool} {e : Rho → M D} {g : Gd} {ρ : Rho} {s : Store} (hg : g.ok s) : ∀ {ds : List D} {k : D → Bool} {f : D → D}, (∀ d ∈ ds, ∃ ρ1, bindT t d ρ s = .ok ρ1 s ∧ c ρ1 s = .ok (k d) s ∧ (k d = true → e ρ1 s = .ok (f d) s)) →
    lcL t c e g ρ ds s = .ok ((ds.filter k).map f) s
  | [], k, f, h => by
    unfold lcL
    rw [bindS (chkS hg)]
    rfl
  | d :: ds, k, f, h => by
    obtain ⟨ρ1, h1, h2, h3⟩ := h d List.mem_cons_self
    have ih := lc_all hg (ds := ds) (k := k) (f := f) fun d hd => h d (List.mem_cons_of_mem _ hd)
    unfold lcL
    rw [bindS (chkS hg), bindS h1, bindS h2]
    cases q : k d with
    | true =>
      rw [if_pos rfl, bindS (h3 q), bindS ih, List.filter_cons_of_pos q, List.map_cons]
      rfl
    | false =>
      rw [if_neg (by decide), ih, List.filter_cons_of_neg (by simp [q])]
/-- .. with new cells, the store growing -/
theorem lc_grow {t : Tg} {c : Rho → M Bool} {e : Rho → M D} {g : Gd} {ρ : Rho} {k : D → Bool} {f : D → D} : ∀ {ds : List D} {s : Store}, (∀ s', (∃ u, s' = s ++ u) → g.ok s' ∧ ∀ d ∈ ds, ∃ ρ1, bindT t d ρ s' = .ok ρ1 s' ∧ c ρ1 s' = .ok (k d) s' ∧ (k d = true → ∃ u, e ρ1 s' = .ok (f d) (s' ++ u))) →
    ∃ u, lcL t c e g ρ ds s = .ok ((ds.filter k).map f) (s ++ u)
  | [], s, h => by
    refine ⟨[], ?_⟩
    unfold lcL
    rw [bindS (chkS (h s ⟨[], by simp⟩).1)]
    simp [pureS]
  | d :: ds, s, h => by
    obtain ⟨hg, h0⟩ := h s ⟨[], by simp⟩
    obtain ⟨ρ1, h1, h2, h3⟩ := h0 d List.mem_cons_self
    unfold lcL
    cases q : k d with
    | true =>
      obtain ⟨u, h4⟩ := h3 q
      obtain ⟨u2, ih⟩ := lc_grow (ds := ds) (s := s ++ u) fun s' ⟨u', e'⟩ => ⟨(h s' ⟨u ++ u', by rw [e', List.append_assoc]⟩).1, fun d hd => (h s' ⟨u ++ u', by rw [e', List.append_assoc]⟩).2 d (List.mem_cons_of_mem _ hd)⟩
      refine ⟨u ++ u2, ?_⟩
      rw [bindS (chkS hg), bindS h1, bindS h2, q, if_pos rfl, bindS h4, bindS ih, List.filter_cons_of_pos q, List.map_cons, List.append_assoc]
      rfl
    | false =>
      obtain ⟨u2, ih⟩ := lc_grow (ds := ds) (s := s) fun s' e' => ⟨(h s' e').1, fun d hd => (h s' e').2 d (List.mem_cons_of_mem _ hd)⟩
      refine ⟨u2, ?_⟩
      rw [bindS (chkS hg), bindS h1, bindS h2, q, if_neg (by decide), ih, List.filter_cons_of_neg (by simp [q])]
theorem noxS {α : Type} {m : M α} {s s' : Store} {a : α} (h : m s = .ok a s') : nox m s = .ok a s' := by
  unfold nox
  rw [h]
theorem lcMS {t : Tg} {own : List Nat} {it : Rho → M (List D × Gd)} {c : Rho → M Bool} {e : Rho → M D} {ρ ρ0 : Rho} {s s1 s2 s3 s4 : Store} {w : List D × Gd} {ds : List D} (hi : it ρ s = .ok w s1) (hl : lockG w.2 s1 = .ok () s2) (hz : w.1.length ≤ SZ) (hw : wipeR ρ own = ρ0) (hr : lcL t c e w.2 ρ0 w.1 s2 = .ok ds s3) (ho : openG w.2 s3 = .ok () s4) : lcM t own it c e ρ s = .ok ds s4 := by
  subst hw
  unfold lcM
  rw [bindS hi, bindS hl, bindS (grdS hz), bindS (noxS hr), bindS ho]
  rfl
/-! ## statements, one by one -/
section
variable {lv N : Nat} {cl mk : Nat → List D → M D} {mt : Nat → Str → Option (Option Nat)} {sub : Nat → Nat → Option Bool} {ρ ρ1 : Rho} {s s1 s2 s5 s6 : Store} {d : D} {e it c : E} {a b : S} {t : Tg} {w : List D × Gd} {fl : Fl}
theorem ex_sq (h : ex lv cl mk mt sub N a ρ s = .ok (.nx ρ1) s1) : ex lv cl mk mt sub N (.sq a b) ρ s = ex lv cl mk mt sub N b ρ1 s1 := by
  show (ex lv cl mk mt sub N a ρ >>= _) s = _
  rw [bindS h]
  rfl
theorem ex_sqr (h : ex lv cl mk mt sub N a ρ s = .ok (.rt d) s1) : ex lv cl mk mt sub N (.sq a b) ρ s = .ok (.rt d) s1 := by
  show (ex lv cl mk mt sub N a ρ >>= _) s = _
  rw [bindS h]
  rfl
theorem ex_asg {i : Nat} (h : (sem lv cl mk mt e).v ρ s = .ok d s1) : ex lv cl mk mt sub N (.asg (.nm i) e) ρ s = .ok (.nx (ρ.set i (some d))) s1 := by
  show tryE ρ _ _ s = _
  rw [tryS h]
  rfl
theorem ex_asgT {is : List Nat} {ρ' : Rho} (h : (sem lv cl mk mt e).v ρ s = .ok d s1) (h2 : bindT (.tp is) d ρ s1 = .ok ρ' s1) : ex lv cl mk mt sub N (.asg (.tp is) e) ρ s = .ok (.nx ρ') s1 := by
  show tryE ρ _ _ s = _
  rw [tryS h, bindS h2]
  rfl
theorem ex_ret (h : (sem lv cl mk mt e).v ρ s = .ok d s1) : ex lv cl mk mt sub N (.ret e) ρ s = .ok (.rt d) s1 := by
  show tryE ρ _ _ s = _
  rw [tryS h]
  rfl
theorem ex_exp (h : (sem lv cl mk mt e).v ρ s = .ok d s1) : ex lv cl mk mt sub N (.exp e) ρ s = .ok (.nx ρ) s1 := by
  show tryE ρ _ _ s = _
  rw [tryS h]
  rfl
theorem ex_skip : ex lv cl mk mt sub N .skip ρ s = .ok (.nx ρ) s := rfl
theorem ex_cont : ex lv cl mk mt sub N .cont ρ s = .ok (.ct ρ) s := rfl
theorem ex_t (h : (sem lv cl mk mt c).t ρ s = .ok true s1) : ex lv cl mk mt sub N (.ite c a b) ρ s = ex lv cl mk mt sub N a ρ s1 := by
  show tryE ρ _ _ s = _
  rw [tryS h, if_pos rfl]
theorem ex_f (h : (sem lv cl mk mt c).t ρ s = .ok false s1) : ex lv cl mk mt sub N (.ite c a b) ρ s = ex lv cl mk mt sub N b ρ s1 := by
  show tryE ρ _ _ s = _
  rw [tryS h, if_neg (by decide)]
theorem ex_for (hi : (sem lv cl mk mt it).i ρ s = .ok w s1) (hl : lockG w.2 s1 = .ok () s2) (hr : forL t (ex lv cl mk mt sub N b) w.2 w.1 ρ s2 = .ok (.nx ρ1) s5) (ho : openG w.2 s5 = .ok () s6) : ex lv cl mk mt sub N (.for t it b) ρ s = .ok (.nx ρ1) s6 := by
  show tryE ρ _ _ s = _
  rw [tryS hi, bindS hl, bindS hr]
  dsimp only
  rw [bindS ho]
  rfl
theorem ex_forR (hi : (sem lv cl mk mt it).i ρ s = .ok w s1) (hl : lockG w.2 s1 = .ok () s2) (hr : forL t (ex lv cl mk mt sub N b) w.2 w.1 ρ s2 = .ok (.rt d) s5) (ho : openG w.2 s5 = .ok () s6) : ex lv cl mk mt sub N (.for t it b) ρ s = .ok (.rt d) s6 := by
  show tryE ρ _ _ s = _
  rw [tryS hi, bindS hl, bindS hr]
  dsimp only
  rw [bindS ho]
  rfl
end
/-! ## stores with a tail -/
theorem at_app {s t : Store} {j : Nat} : (s ++ t)[s.length + j]? = t[j]? := by
  rw [List.getElem?_append_right (Nat.le_add_right _ _), Nat.add_sub_cancel_left]
theorem at_app0 {s t : Store} : (s ++ t)[s.length]? = t[0]? := by
  rw [List.getElem?_append_right (Nat.le_refl _), Nat.sub_self]
theorem set_app {s t : Store} {j : Nat} {c : Cell} : (s ++ t).set (s.length + j) c = s ++ t.set j c := by
  rw [List.set_append_right _ _ (Nat.le_add_right _ _), Nat.add_sub_cancel_left]
theorem set_app0 {s t : Store} {c : Cell} : (s ++ t).set s.length c = s ++ t.set 0 c := by
  rw [List.set_append_right _ _ (Nat.le_refl _), Nat.sub_self]
/-! ## in, append -/
theorem inLS {lv : Nat} {a : D} {ds : List D} {x : PyData} {xs : List PyData} {s : Store} (h1 : pd a = some x) (h2 : pds ds = some xs) (h3 : x.canLay0 = true) (h4 : PyData.canLayAll0 xs = true) (h5 : x.depth + 1 ≤ 200 + 16 * lv) : inL lv a ds s = .ok (.bl (xs.any fun z => PyData.eqv z x)) s := by
  unfold inL
  rw [h1, h2]
  dsimp only
  rw [bindS (grdS ⟨h3, h4, h5⟩)]
  rfl
theorem appS {n : Nat} {ds : List D} {d : D} {s : Store} (h : s[n]? = some (.lst ds)) (hz : ds.length < SZ) : (do tyM .append (.obj n); metM .append (.obj n) [d] : M D) s = .ok .non (s.set n (.lst (ds ++ [d]))) := by
  have e1 : tyM .append (.obj n) s = .ok () s := by
    unfold tyM
    dsimp only
    rw [bindS (getC_of h)]
    rfl
  have e2 : lstM (.obj n) s = .ok (n, ds) s := by
    unfold lstM
    dsimp only
    rw [bindS (getC_of h)]
    rfl
  rw [bindS e1]
  show appM (.obj n) d s = _
  unfold appM
  rw [bindS e2, bindS (grdS hz)]
  rfl
theorem pds_strs : ∀ ws : List Str, pds (ws.map .str) = some (ws.map PyData.str)
  | [] => rfl
  | w :: ws => by
    rw [List.map_cons, pds, pds_strs ws]
    rfl
theorem lay_strs : ∀ {ws : List Str}, (∀ w ∈ ws, PyData.strOk w = true) → PyData.canLayAll0 (ws.map PyData.str) = true
  | [], _ => rfl
  | w :: ws, h => by
    rw [List.map_cons, PyData.canLayAll0, lay_strs fun v hv => h v (List.mem_cons_of_mem _ hv)]
    simp [PyData.canLay0, h w List.mem_cons_self]
end PI

namespace PI
def topS (i : Nat) : Stmt := PySem.Challenge.pw_fieldrows_k51_offset.main.body.getD i (.Pass ⟨0, 0, 0, 0⟩)
def fnT : List (Str × Nat) := [((Str.ofString "offset"), 104), ((Str.ofString "_law_whole"), 1000), ((Str.ofString "_law_mixed"), 1001), ((Str.ofString "_law_word"), 1002), ((Str.ofString "_law_words"), 1003), ((Str.ofString "_law_good"), 1004), ((Str.ofString "_law_due"), 1005), ((Str.ofString "law"), 1006)]
def cnT : List (Str × D) := []
def csT : List (Str × Nat) := []
def xsT : List (Str × Nat) := []
def mnT : List Str := []
def ccT : Cc := ⟨[], fnT, cnT, csT, xsT, mnT⟩
def N_offset : List Str := [(Str.ofString "row"), (Str.ofString "label"), (Str.ofString "params"), (Str.ofString "lesser"), (Str.ofString "asked"), (Str.ofString "field")]
def b_offset : S := (.sq (.asg (.nm 3) (.lc (.nm 5) [5] (.idx (.var 0) (.cst (.int 1))) (.cmp .Lt (.idx (.var 5) (.cst (.int 0))) (.var 1)) (.idx (.var 5) (.cst (.int 0)))))
  (.sq (.asg (.nm 4) (.tup (.cons (.idx (.var 0) (.cst (.int 2))) (.cons (.var 1) .nil))))
  (.sq (.ite (.or (.cmp .Is (.idx (.var 0) (.cst (.int 2))) (.cst .non)) (.cmp .NotIn (.var 4) (.var 2)))
  (.ret (.tup (.cons (.bif .len (.cons (.var 3) .nil)) (.cons (.cst .non) .nil))))
  .skip)
  (.ret (.tup (.cons (.bif .len (.cons (.var 3) .nil)) (.cons (.met .index (.var 2) (.cons (.var 4) .nil)) .nil)))))))
theorem cb_offset : cBody { ccT with N := N_offset } (defScope (topS 1)) (defBody (topS 1)) = some b_offset := by decide +kernel
def d_offset : Def := ⟨3, 6, .gc, b_offset⟩
theorem sc_offset : FnScope N_offset [(Str.ofString "row"), (Str.ofString "label"), (Str.ofString "params")] (defScope (topS 1)) := ⟨rfl, rfl, rfl, by decide +kernel, rfl, by decide +kernel, by decide +kernel⟩
def N__law_whole : List Str := [(Str.ofString "_law_found")]
def b__law_whole : S := (.ret (.and (.isi (.var 0) .int) (.not (.isi (.var 0) .bool))))
theorem cb__law_whole : cBody { ccT with N := N__law_whole } (defScope (topS 3)) (defBody (topS 3)) = some b__law_whole := by decide +kernel
def d__law_whole : Def := ⟨1, 1, .any, b__law_whole⟩
theorem sc__law_whole : FnScope N__law_whole [(Str.ofString "_law_found")] (defScope (topS 3)) := ⟨rfl, rfl, rfl, by decide +kernel, rfl, by decide +kernel, by decide +kernel⟩
def N__law_mixed : List Str := [(Str.ofString "_law_cell"), (Str.ofString "_law_k"), (Str.ofString "_law_number")]
def b__law_mixed : S := (.sq (.asg (.nm 2) (.bin .Mod (.bin .Add (.bin .Add (.bin .Mult (.bin .Mod (.var 0) (.bin .Pow (.cst (.int 10)) (.cst (.int 18)))) (.cst (.int 48271))) (.bin .Mult (.bin .Mult (.var 1) (.var 1)) (.cst (.int 7919)))) (.cst (.int 101))) (.cst (.int 2147483647))))
  (.ret (.bin .Mod (.bin .Mult (.var 2) (.var 2)) (.cst (.int 2147483629)))))
theorem cb__law_mixed : cBody { ccT with N := N__law_mixed } (defScope (topS 4)) (defBody (topS 4)) = some b__law_mixed := by decide +kernel
def d__law_mixed : Def := ⟨2, 3, .any, b__law_mixed⟩
theorem sc__law_mixed : FnScope N__law_mixed [(Str.ofString "_law_cell"), (Str.ofString "_law_k")] (defScope (topS 4)) := ⟨rfl, rfl, rfl, by decide +kernel, rfl, by decide +kernel, by decide +kernel⟩
def N__law_word : List Str := [(Str.ofString "_law_number"), (Str.ofString "_law_letters"), (Str.ofString "_law_word_here"), (Str.ofString "_law_k")]
def b__law_word : S := (.sq (.asg (.nm 1) (.cst (.str (Str.ofString "bcdghjklmnpqrstvwxyz"))))
  (.sq (.asg (.nm 2) (.cst (.str (Str.ofString ""))))
  (.sq (.for (.nm 3) (.rng (.cons (.bin .Add (.cst (.int 1)) (.bin .Mod (.var 0) (.cst (.int 8)))) .nil))
  (.sq (.asg (.nm 2) (.bin .Add (.var 2) (.idx (.var 1) (.bin .Mod (.bin .FloorDiv (.var 0) (.cst (.int 8))) (.idx (.lst (.cons (.cst (.int 20)) (.cons (.cst (.int 2)) (.cons (.cst (.int 2)) (.cons (.cst (.int 20)) (.cons (.cst (.int 2)) (.cons (.cst (.int 3)) (.cons (.cst (.int 2)) (.cons (.cst (.int 2)) .nil))))))))) (.var 3))))))
  (.asg (.nm 0) (.bin .FloorDiv (.var 0) (.cst (.int 3))))))
  (.ret (.var 2)))))
theorem cb__law_word : cBody { ccT with N := N__law_word } (defScope (topS 5)) (defBody (topS 5)) = some b__law_word := by decide +kernel
def d__law_word : Def := ⟨1, 4, .gc, b__law_word⟩
theorem sc__law_word : FnScope N__law_word [(Str.ofString "_law_number")] (defScope (topS 5)) := ⟨rfl, rfl, rfl, by decide +kernel, rfl, by decide +kernel, by decide +kernel⟩
def N__law_words : List Str := [(Str.ofString "_law_script"), (Str.ofString "_law_words_here"), (Str.ofString "_law_k"), (Str.ofString "_law_cell"), (Str.ofString "_law_word_here")]
def b__law_words : S := (.sq (.asg (.nm 1) (.lst .nil))
  (.sq (.for (.tp [2, 3]) (.enm (.slc (.var 0) (.cst (.int 2)) (.cst (.int 42))))
  (.sq (.asg (.nm 4) (.cal 1002 (.cons (.cal 1001 (.cons (.var 3) (.cons (.var 2) .nil))) .nil)))
  (.ite (.cmp .NotIn (.var 4) (.var 1))
  (.exp (.met .append (.var 1) (.cons (.var 4) .nil)))
  .skip)))
  (.ret (.var 1))))
theorem cb__law_words : cBody { ccT with N := N__law_words } (defScope (topS 6)) (defBody (topS 6)) = some b__law_words := by decide +kernel
def d__law_words : Def := ⟨1, 5, .new, b__law_words⟩
theorem sc__law_words : FnScope N__law_words [(Str.ofString "_law_script")] (defScope (topS 6)) := ⟨rfl, rfl, rfl, by decide +kernel, rfl, by decide +kernel, by decide +kernel⟩
def N__law_good : List Str := [(Str.ofString "_law_found"), (Str.ofString "_law_due_here")]
def b__law_good : S := (.sq (.ite (.or (.not (.isi (.var 0) .tuple)) (.or (.cmp .NotEq (.bif .len (.cons (.var 0) .nil)) (.cst (.int 2))) (.not (.cal 1000 (.cons (.idx (.var 0) (.cst (.int 0))) .nil)))))
  (.ret (.cst (.bl false)))
  .skip)
  (.sq (.ite (.and (.cmp .IsNot (.idx (.var 0) (.cst (.int 1))) (.cst .non)) (.not (.cal 1000 (.cons (.idx (.var 0) (.cst (.int 1))) .nil))))
  (.ret (.cst (.bl false)))
  .skip)
  (.ret (.cmp .Eq (.var 0) (.var 1)))))
theorem cb__law_good : cBody { ccT with N := N__law_good } (defScope (topS 7)) (defBody (topS 7)) = some b__law_good := by decide +kernel
def d__law_good : Def := ⟨2, 2, .any, b__law_good⟩
theorem sc__law_good : FnScope N__law_good [(Str.ofString "_law_found"), (Str.ofString "_law_due_here")] (defScope (topS 7)) := ⟨rfl, rfl, rfl, by decide +kernel, rfl, by decide +kernel, by decide +kernel⟩
def N__law_due : List Str := [(Str.ofString "_law_labels"), (Str.ofString "_law_tail"), (Str.ofString "_law_label"), (Str.ofString "_law_params"), (Str.ofString "_law_lesser"), (Str.ofString "_law_word_here"), (Str.ofString "_law_k"), (Str.ofString "_law_pair")]
def b__law_due : S := (.sq (.asg (.nm 4) (.cst (.int 0)))
  (.sq (.for (.nm 5) (.var 0)
  (.ite (.cmp .Lt (.var 5) (.var 2))
  (.asg (.nm 4) (.bin .Add (.var 4) (.cst (.int 1))))
  .skip))
  (.sq (.ite (.cmp .Is (.var 1) (.cst .non))
  (.ret (.tup (.cons (.var 4) (.cons (.cst .non) .nil))))
  .skip)
  (.sq (.for (.tp [6, 7]) (.enm (.var 3))
  (.ite (.cmp .Eq (.var 7) (.tup (.cons (.var 1) (.cons (.var 2) .nil))))
  (.ret (.tup (.cons (.var 4) (.cons (.var 6) .nil))))
  .skip))
  (.ret (.tup (.cons (.var 4) (.cons (.cst .non) .nil))))))))
theorem cb__law_due : cBody { ccT with N := N__law_due } (defScope (topS 8)) (defBody (topS 8)) = some b__law_due := by decide +kernel
def d__law_due : Def := ⟨4, 8, .gc, b__law_due⟩
theorem sc__law_due : FnScope N__law_due [(Str.ofString "_law_labels"), (Str.ofString "_law_tail"), (Str.ofString "_law_label"), (Str.ofString "_law_params")] (defScope (topS 8)) := ⟨rfl, rfl, rfl, by decide +kernel, rfl, by decide +kernel, by decide +kernel⟩
def N_law : List Str := [(Str.ofString "_law_script"), (Str.ofString "_law_first"), (Str.ofString "_law_words_here"), (Str.ofString "_law_labels"), (Str.ofString "_law_tail"), (Str.ofString "_law_pairs"), (Str.ofString "_law_fields"), (Str.ofString "_law_row"), (Str.ofString "_law_handed"), (Str.ofString "_law_label"), (Str.ofString "_law_k"), (Str.ofString "_law_word_here"), (Str.ofString "_law_j")]
def b_law : S := (.sq (.asg (.nm 1) (.cst (.int 0)))
  (.sq (.ite (.cmp .Gt (.bif .len (.cons (.var 0) .nil)) (.cst (.int 0)))
  (.asg (.nm 1) (.cal 1001 (.cons (.idx (.var 0) (.cst (.int 0))) (.cons (.cst (.int 100)) .nil))))
  .skip)
  (.sq (.asg (.nm 2) (.cal 1003 (.cons (.var 0) .nil)))
  (.sq (.asg (.nm 3) (.seq .sorted (.lc (.tp [10, 11]) [10, 11] (.enm (.var 2)) (.cmp .Gt (.bin .Mod (.cal 1001 (.cons (.var 1) (.cons (.var 10) .nil))) (.cst (.int 3))) (.cst (.int 0))) (.var 11))))
  (.sq (.asg (.nm 4) (.cst .non))
  (.sq (.ite (.cmp .Gt (.bin .Mod (.var 1) (.cst (.int 4))) (.cst (.int 0)))
  (.asg (.nm 4) (.bin .Add (.cst (.int 6)) (.bin .Mod (.bin .FloorDiv (.var 1) (.cst (.int 4))) (.cst (.int 1000)))))
  .skip)
  (.sq (.asg (.nm 5) (.lst .nil))
  (.sq (.for (.tp [10, 11]) (.enm (.var 2))
  (.for (.nm 12) (.rng (.cons (.bin .Mod (.cal 1001 (.cons (.var 1) (.cons (.bin .Add (.cst (.int 50)) (.var 10)) .nil))) (.cst (.int 4))) .nil))
  (.exp (.met .append (.var 5) (.cons (.tup (.cons (.bin .Add (.bin .Add (.cst (.int 6)) (.bin .Mod (.bin .FloorDiv (.var 1) (.cst (.int 4))) (.cst (.int 1000)))) (.var 12)) (.cons (.var 11) .nil))) .nil)))))
  (.sq (.asg (.nm 5) (.seq .sorted (.var 5)))
  (.sq (.asg (.nm 6) (.lc (.nm 11) [11] (.var 3) .nil (.tup (.cons (.var 11) (.cons (.idx (.lst (.cons (.tup (.cons (.cst (.str (Str.ofString "num"))) .nil)) (.cons (.tup (.cons (.cst (.str (Str.ofString "var"))) (.cons (.cst (.int 5)) .nil))) (.cons (.tup (.cons (.cst (.str (Str.ofString "fun"))) (.cons (.tup (.cons (.cst (.str (Str.ofString "num"))) .nil)) (.cons (.tup (.cons (.cst (.str (Str.ofString "num"))) .nil)) .nil)))) .nil)))) (.bin .Mod (.bif .len (.cons (.var 11) .nil)) (.cst (.int 3)))) .nil)))))
  (.sq (.asg (.nm 7) (.tup (.cons (.cst (.str (Str.ofString "row"))) (.cons (.seq .tuple (.var 6)) (.cons (.var 4) .nil)))))
  (.sq (.asg (.nm 8) (.seq .list (.var 5)))
  (.sq (.for (.nm 9) (.bin .Add (.var 2) (.lst (.cons (.cst (.str (Str.ofString "a"))) (.cons (.cst (.str (Str.ofString "zzzzzzzz"))) .nil))))
  (.ite (.not (.cal 1004 (.cons (.cal 104 (.cons (.var 7) (.cons (.var 9) (.cons (.var 8) .nil)))) (.cons (.cal 1005 (.cons (.var 3) (.cons (.var 4) (.cons (.var 9) (.cons (.var 5) .nil))))) .nil))))
  (.ret (.cst (.bl false)))
  .skip))
  (.ret (.and (.cmp .Eq (.var 8) (.var 5)) (.cmp .Eq (.var 7) (.tup (.cons (.cst (.str (Str.ofString "row"))) (.cons (.seq .tuple (.var 6)) (.cons (.var 4) .nil))))))))))))))))))))
theorem cb_law : cBody { ccT with N := N_law } (defScope (topS 9)) (defBody (topS 9)) = some b_law := by decide +kernel
def d_law : Def := ⟨1, 13, .any, b_law⟩
theorem sc_law : FnScope N_law [(Str.ofString "_law_script")] (defScope (topS 9)) := ⟨rfl, rfl, rfl, by decide +kernel, rfl, by decide +kernel, by decide +kernel⟩
def getT : Nat → Option Def
  | 104 => some d_offset
  | 1000 => some d__law_whole
  | 1001 => some d__law_mixed
  | 1002 => some d__law_word
  | 1003 => some d__law_words
  | 1004 => some d__law_good
  | 1005 => some d__law_due
  | 1006 => some d_law
  | _ => none
def Pr : Prog := ⟨getT, fun _ _ => none, fun _ => none, fun _ _ => none, 100000⟩
end PI
-- rm offset gc
-- rm _law_word gc
-- rm _law_words new
-- rm _law_due gc
namespace PI
theorem pow18 : (10 : Int) ^ (18 : Int).toNat = 1000000000000000000 := by decide
theorem mixed_ok (c k : Int) (h0 : 0 ≤ k) (h1 : k ≤ 1000) : ∃ v : Int, 0 ≤ v ∧ v < 2147483647 ∧ ∀ n s, call Pr (n + 1) 1001 [.int c, .int k] s = .ok (.int v) s := by
  let a : Int := (c % 1000000000000000000 * 48271 + k * k * 7919 + 101) % 2147483647
  have ha0 : 0 ≤ a := Int.emod_nonneg _ (by decide)
  have ha1 : a < 2147483647 := Int.emod_lt_of_pos _ (by decide)
  refine ⟨a * a % 2147483629, Int.emod_nonneg _ (by decide), Int.lt_trans (Int.emod_lt_of_pos _ (by decide)) (by decide), fun n s => ?_⟩
  refine call_rt (d := d__law_mixed) rfl rfl ?_ fin_any
  have hkk : (k * k).natAbs < 2 ^ 1000 := by
    have : k * k ≤ 1000 * 1000 := Int.mul_le_mul h1 h1 h0 (by decide)
    have h3 : 0 ≤ k * k := Int.mul_nonneg h0 h0
    have : (k * k).natAbs ≤ 1000000 := by omega
    exact Nat.lt_of_le_of_lt this (by decide)
  have hk : k.natAbs < 2 ^ 1000 := Nat.lt_of_le_of_lt (show k.natAbs ≤ 1000 by omega) (by decide)
  have hc : (c % 1000000000000000000).natAbs < 2 ^ 1000 := Nat.lt_of_le_of_lt (show _ ≤ 1000000000000000000 by omega) (by decide)
  have haa : a.natAbs < 2 ^ 1000 := Nat.lt_of_le_of_lt (show a.natAbs ≤ 2147483647 by omega) (by decide)
  show ex _ _ _ _ _ _ b__law_mixed [some (.int c), some (.int k), none] s = _
  simp only [b__law_mixed, ex, sem, Sem.of, tryE_bind, tryE, bind_def, pure_def, List.getElem?_cons_zero, List.getElem?_cons_succ, powM (i := 10) (j := 18) ⟨by decide, by decide, by decide⟩, pow18, modM (j := 1000000000000000000) (by decide), mulM hc (show (48271 : Int).natAbs < 2 ^ 1000 by decide), mulM hk hk, mulM hkk (show (7919 : Int).natAbs < 2 ^ 1000 by decide), addM, modM (j := 2147483647) (by decide), bindT, List.set_cons_succ, List.set_cons_zero, Fl.then, modM (j := 2147483629) (by decide)]
  rw [show (c % 1000000000000000000 * 48271 + k * k * 7919 + 101) % 2147483647 = a from rfl]
  simp only [mulM haa haa, pure_def, modM (j := 2147483629) (by decide)]

def letters : Str := Str.ofString "bcdghjklmnpqrstvwxyz"
def sizes : List D := [.int 20, .int 2, .int 2, .int 20, .int 2, .int 3, .int 2, .int 2]
theorem letter_all : ∀ n : Fin 20, ((atI letters.cps.toList ((n.val : Nat) : Int)).any fun c => decide (c < 1114112)) = true := by decide +kernel
theorem letter_ok {r : Int} (h0 : 0 ≤ r) (h1 : r < 20) : ∃ c, atI letters.cps.toList r = some c ∧ c < 1114112 := by
  obtain ⟨n, rfl⟩ := Int.eq_ofNat_of_zero_le h0
  have h := letter_all ⟨n, by omega⟩
  cases q : atI letters.cps.toList (n : Int) with
  | none => rw [q] at h; cases h
  | some c => rw [q] at h; exact ⟨c, rfl, by simpa using h⟩
theorem size_all : ∀ n : Fin 8, (match atI sizes ((n.val : Nat) : Int) with
    | some (.int m) => decide (0 < m ∧ m ≤ 20)
    | _ => false) = true := by decide +kernel
theorem size_ok {i : Nat} (h : i < 8) : ∃ m : Int, atI sizes ((i : Nat) : Int) = some (.int m) ∧ 0 < m ∧ m ≤ 20 := by
  have q := size_all ⟨i, h⟩
  dsimp only at q
  split at q
  · rename_i m e
    exact ⟨m, e, (of_decide_eq_true q).1, (of_decide_eq_true q).2⟩
  · cases q
theorem SZ_big : 100 ≤ SZ := by decide
theorem str_add_len (w : Str) (c : Nat) : (w ++ (⟨#[c]⟩ : Str)).length = w.length + 1 := by
  show (w.cps ++ #[c]).size = w.cps.size + 1
  simp
theorem str_add_ok {w : Str} {c : Nat} (h : PyData.strOk w = true) (hc : c < 1114112) : PyData.strOk (w ++ (⟨#[c]⟩ : Str)) = true := by
  unfold PyData.strOk at *
  show (w.cps ++ #[c]).all _ = true
  rw [Array.all_append, h]
  simpa using hc
def sz (i : Nat) : Int := match atI sizes ((i : Nat) : Int) with
  | some (.int m) => m
  | _ => 1
def ltr (r : Int) : Nat := (atI letters.cps.toList r).getD 98
def wd (x : Int) : Nat → Int × Str
  | 0 => (x, Str.ofString "")
  | i + 1 => ((wd x i).1 / 3, (wd x i).2 ++ (⟨#[ltr ((wd x i).1 / 8 % sz i)]⟩ : Str))
theorem sz_at {i : Nat} (h : i < 8) : atI sizes ((i : Nat) : Int) = some (.int (sz i)) ∧ 0 < sz i ∧ sz i ≤ 20 := by
  obtain ⟨m, h1, h2, h3⟩ := size_ok h
  have : sz i = m := by unfold sz; rw [h1]
  rw [this]
  exact ⟨h1, h2, h3⟩
theorem ltr_at {r : Int} (h0 : 0 ≤ r) (h1 : r < 20) : atI letters.cps.toList r = some (ltr r) ∧ ltr r < 1114112 := by
  obtain ⟨c, h2, h3⟩ := letter_ok h0 h1
  have : ltr r = c := by unfold ltr; rw [h2]; rfl
  rw [this]
  exact ⟨h2, h3⟩
theorem wd_ok (x : Int) (h0 : 0 ≤ x) : ∀ i, i ≤ 8 → 0 ≤ (wd x i).1 ∧ (wd x i).2.length = i ∧ PyData.strOk (wd x i).2 = true
  | 0, _ => ⟨h0, rfl, (by decide +kernel : PyData.strOk (Str.ofString "") = true)⟩
  | i + 1, h => by
    obtain ⟨h1, h2, h3⟩ := wd_ok x h0 i (by omega)
    obtain ⟨a1, a2, a3⟩ := sz_at (show i < 8 by omega)
    have b1 : 0 ≤ (wd x i).1 / 8 % sz i := Int.emod_nonneg _ (by omega)
    have b2 : (wd x i).1 / 8 % sz i < sz i := Int.emod_lt_of_pos _ a2
    obtain ⟨c1, c2⟩ := ltr_at b1 (by omega)
    exact ⟨Int.ediv_nonneg h1 (by decide), by show (_ ++ _ : Str).length = _; rw [str_add_len, h2], str_add_ok h3 c2⟩
theorem word_run (x : Int) (h0 : 0 ≤ x) (n : Nat) (s : Store) : call Pr (n + 1) 1002 [.int x] s = .ok (.str (wd x (1 + x % 8).toNat).2) s := by
  have hx : 0 ≤ x % 8 := Int.emod_nonneg _ (by decide)
  have hx2 : x % 8 < 8 := Int.emod_lt_of_pos _ (by decide)
  let ds : List D := (List.range (1 + x % 8).toNat).map fun (k : Nat) => D.int (k : Int)
  have hl : ds.length = (1 + x % 8).toNat := by simp [ds]
  have hsm : small (1 + x % 8) := ⟨by omega, by omega⟩
  obtain ⟨ρ', s', hr, z, u, e1, e2⟩ := for_all (t := .nm 3) (g := .no) (ds := ds) (b := ex n (call Pr n) (mkM Pr (lowM Pr n)) Pr.mt Pr.sub Pr.N (.sq (.asg (.nm 2) (.bin .Add (.var 2) (.idx (.var 1) (.bin .Mod (.bin .FloorDiv (.var 0) (.cst (.int 8))) (.idx (.lst (.cons (.cst (.int 20)) (.cons (.cst (.int 2)) (.cons (.cst (.int 2)) (.cons (.cst (.int 20)) (.cons (.cst (.int 2)) (.cons (.cst (.int 3)) (.cons (.cst (.int 2)) (.cons (.cst (.int 2)) .nil))))))))) (.var 3))))))
  (.asg (.nm 0) (.bin .FloorDiv (.var 0) (.cst (.int 3))))))
    (I := fun i ρ s' => ∃ z u, ρ = [some (.int (wd x i).1), some (.str letters), some (.str (wd x i).2), z] ∧ s' = s ++ u) (fun _ _ _ _ _ => True.intro) (fun i d ρ s' hd hI => by
      obtain ⟨z, u, rfl, rfl⟩ := hI
      have hi : i < (1 + x % 8).toNat := by rw [← hl]; exact (List.getElem?_eq_some_iff.mp hd).1
      have hd' : d = .int (i : Int) := by
        simp only [ds, List.getElem?_map, List.getElem?_range hi, Option.map_some, Option.some.injEq] at hd
        exact hd.symm
      subst hd'
      have hi8 : i < 8 := by omega
      obtain ⟨a1, a2, a3⟩ := sz_at hi8
      obtain ⟨w1, w2, w3⟩ := wd_ok x h0 i (by omega)
      have b1 : 0 ≤ (wd x i).1 / 8 % sz i := Int.emod_nonneg _ (by omega)
      have b2 : (wd x i).1 / 8 % sz i < sz i := Int.emod_lt_of_pos _ a2
      obtain ⟨c1, c2⟩ := ltr_at b1 (by omega)
      have hz := SZ_big
      refine ⟨_, [some (.int (wd x (i + 1)).1), some (.str letters), some (.str (wd x (i + 1)).2), some (.int (i : Int))], s ++ u ++ [.lst sizes], rfl, .inl ?_, some (.int (i : Int)), u ++ [.lst sizes], rfl, by rw [List.append_assoc]⟩
      have e2 : idxM (.obj (s ++ u).length) (.int (i : Int)) (s ++ u ++ [.lst sizes]) = .ok (.int (sz i)) (s ++ u ++ [.lst sizes]) := by
        unfold idxM
        dsimp only
        rw [bindS getC_last]
        dsimp only
        rw [a1]
        rfl
      have e3 : idxM (.str letters) (.int ((wd x i).1 / 8 % sz i)) (s ++ u ++ [.lst sizes]) = .ok (.str ⟨#[ltr ((wd x i).1 / 8 % sz i)]⟩) (s ++ u ++ [.lst sizes]) := by
        unfold idxM
        dsimp only
        rw [bindS (grdS (show letters.length ≤ SZ from Nat.le_trans (by decide) hz))]
        rw [c1]
        rfl
      have e4 : binM .Add (.str (wd x i).2) (.str ⟨#[ltr ((wd x i).1 / 8 % sz i)]⟩) = pure (.str (wd x (i + 1)).2) := by
        rw [addS]
        · rfl
        · rw [w2]
          show i + 1 ≤ SZ
          omega
      have e5 : (grd ([D.int 20, .int 2, .int 2, .int 20, .int 2, .int 3, .int 2, .int 2].length ≤ SZ) : M Unit) (s ++ u) = .ok () (s ++ u) := grdS (Nat.le_trans (by decide) hz)
      simp only [ex, sem, Sem.of, tryE, bind_def, pure_def, List.set_cons_succ, List.set_cons_zero, List.getElem?_cons_zero, List.getElem?_cons_succ, bindT, divM (j := 8) (by decide) (by decide), e5, allocS]
      rw [show (Cell.lst [D.int 20, .int 2, .int 2, .int 20, .int 2, .int 3, .int 2, .int 2]) = .lst sizes from rfl]
      simp only [e2, modM a2, pure_def, e3, e4, Fl.then, ex, sem, Sem.of, tryE, bind_def, List.set_cons_succ, List.set_cons_zero, List.getElem?_cons_zero, List.getElem?_cons_succ, bindT, divM (j := 3) (by decide) (by decide)]
      rfl) (ρ := [some (.int x), some (.str letters), some (.str (Str.ofString "")), none]) (s := s) ⟨none, [], rfl, by simp⟩
  have hw : (wd x (1 + x % 8).toNat).2.length = (1 + x % 8).toNat := (wd_ok x h0 _ (by omega)).2.1
  subst e1 e2
  refine call_rt (d := d__law_word) (r := .str (wd x (1 + x % 8).toNat).2) (s' := s ++ u) rfl rfl ?_ (fin_gc rfl)
  show ex _ _ _ _ _ _ b__law_word [some (.int x), none, none, none] s = _
  have e1 : rngM [.int (1 + x % 8)] s = .ok (ds, .no) s := by
    unfold rngM
    dsimp only
    rw [bindS (grdS hsm)]
    rfl
  rw [hl] at hr
  have ei : (sem n (call Pr n) (mkM Pr (lowM Pr n)) Pr.mt (.rng (.cons (.bin .Add (.cst (.int 1)) (.bin .Mod (.var 0) (.cst (.int 8)))) .nil))).i [some (.int x), some (.str letters), some (.str (Str.ofString "")), none] s = .ok (ds, .no) s := by
    simp only [sem, Sem.of, bind_def, pure_def, List.getElem?_cons_zero, modM (j := 8) (by decide), addM, e1]
  unfold b__law_word
  rw [ex_sq (ex_asg (d := .str letters) rfl)]
  simp only [List.set_cons_succ, List.set_cons_zero]
  rw [ex_sq (ex_asg (d := .str (Str.ofString "")) rfl)]
  simp only [List.set_cons_succ, List.set_cons_zero]
  rw [ex_sq (ex_for ei rfl hr rfl)]
  exact ex_ret rfl
theorem word_ok (x : Int) (h0 : 0 ≤ x) : ∃ w : Str, w.length ≤ 8 ∧ PyData.strOk w = true ∧ ∀ n s, call Pr (n + 1) 1002 [.int x] s = .ok (.str w) s := by
  have hx : 0 ≤ x % 8 := Int.emod_nonneg _ (by decide)
  have hx2 : x % 8 < 8 := Int.emod_lt_of_pos _ (by decide)
  obtain ⟨h1, h2, h3⟩ := wd_ok x h0 (1 + x % 8).toNat (by omega)
  exact ⟨_, by omega, h3, fun n s => word_run x h0 n s⟩
/-! ## words -/
noncomputable def mx (c k : Int) : Int := if h : 0 ≤ k ∧ k ≤ 1000 then (mixed_ok c k h.1 h.2).choose else 0
theorem mx_ok {c k : Int} (h0 : 0 ≤ k) (h1 : k ≤ 1000) : 0 ≤ mx c k ∧ mx c k < 2147483647 ∧ ∀ n s, call Pr (n + 1) 1001 [.int c, .int k] s = .ok (.int (mx c k)) s := by
  have e : mx c k = (mixed_ok c k h0 h1).choose := by unfold mx; rw [dif_pos ⟨h0, h1⟩]
  rw [e]
  exact (mixed_ok c k h0 h1).choose_spec
noncomputable def wrd (x : Int) : Str := (wd x (1 + x % 8).toNat).2
theorem wrd_ok {x : Int} (h0 : 0 ≤ x) : (wrd x).length ≤ 8 ∧ PyData.strOk (wrd x) = true ∧ ∀ n s, call Pr (n + 1) 1002 [.int x] s = .ok (.str (wrd x)) s := by
  have hx : 0 ≤ x % 8 := Int.emod_nonneg _ (by decide)
  have hx2 : x % 8 < 8 := Int.emod_lt_of_pos _ (by decide)
  obtain ⟨h1, h2, h3⟩ := wd_ok x h0 (1 + x % 8).toNat (by omega)
  exact ⟨by unfold wrd; omega, h3, fun n s => word_run x h0 n s⟩
/-- the words behind i cells -/
noncomputable def wsF (cs : List D) : Nat → List Str
  | 0 => []
  | i + 1 => match cs[i]? with
    | some (.int c) => let w := wrd (mx c (i : Int)); if (((wsF cs i).map PyData.str).any fun z => PyData.eqv z (.str w)) = true then wsF cs i else wsF cs i ++ [w]
    | _ => wsF cs i
theorem wsF_ok (cs : List D) : ∀ i, i ≤ 1000 → (wsF cs i).length ≤ i ∧ ∀ w ∈ wsF cs i, w.length ≤ 8 ∧ PyData.strOk w = true
  | 0, _ => ⟨Nat.le_refl _, fun w h => by cases h⟩
  | i + 1, hi => by
    obtain ⟨h1, h2⟩ := wsF_ok cs i (by omega)
    unfold wsF
    split
    · rename_i c _
      dsimp only
      split
      · exact ⟨by omega, h2⟩
      · refine ⟨by rw [List.length_append]; simpa using h1, fun w hw => ?_⟩
        rcases List.mem_append.mp hw with hw | hw
        · exact h2 w hw
        · rw [List.mem_singleton.mp hw]
          obtain ⟨a1, a2, a3⟩ := mx_ok (c := c) (k := (i : Int)) (by omega) (by omega)
          exact ⟨(wrd_ok a1).1, (wrd_ok a1).2.1⟩
    · exact ⟨by omega, h2⟩
theorem cut_ints (ns : List Int) (lo hi : Option Int) : ∃ ms : List Int, cutD (ns.map .int) lo hi = ms.map .int ∧ ms.length ≤ ns.length := by
  unfold cutD
  rw [← List.map_drop, ← List.map_take]
  exact ⟨_, rfl, by simp; omega⟩
theorem unders_strs {n : Nat} : ∀ ws : List Str, D.unders n (ws.map .str) = true
  | [] => rfl
  | w :: ws => by
    rw [List.map_cons, D.unders, unders_strs ws]
    rfl
theorem cut_len {ds : List D} {lo hi : Int} (h0 : 0 ≤ lo) (h1 : 0 ≤ hi) : (cutD ds (some lo) (some hi)).length ≤ hi.toNat - min lo.toNat ds.length := by
  unfold cutD
  have e1 : HT.sIx ds.length ds.length (some hi) = min hi.toNat ds.length := by show (if hi < 0 then _ else _) = _; rw [if_neg (by omega)]
  have e2 : HT.sIx ds.length 0 (some lo) = min lo.toNat ds.length := by show (if lo < 0 then _ else _) = _; rw [if_neg (by omega)]
  rw [e1, e2, List.length_take, List.length_drop]
  omega
theorem words_run (ns : List Int) (hn : ns.length ≤ 63) : ∃ ws : List Str, ws.length ≤ 40 ∧ (∀ w ∈ ws, w.length ≤ 8 ∧ PyData.strOk w = true) ∧ ∀ n s, call Pr (n + 2) 1003 [.wl (ns.map .int)] s = .ok (.obj s.length) (s ++ [.lst (ws.map .str)]) := by
  obtain ⟨ms, em, hm⟩ := cut_ints ns (some 2) (some 42)
  have hm40 : ms.length ≤ 40 := by
    have := cut_len (ds := ns.map .int) (lo := 2) (hi := 42) (by decide) (by decide)
    rw [em, List.length_map, List.length_map] at this
    have e : (42 : Int).toNat = 42 := rfl
    have e2 : (2 : Int).toNat = 2 := rfl
    rw [e, e2] at this
    omega
  obtain ⟨k1, k2⟩ := wsF_ok (ms.map .int) ms.length (by omega)
  refine ⟨wsF (ms.map .int) ms.length, by omega, k2, fun n s => ?_⟩
  have hz := SZ_big
  let ds : List D := (ms.map D.int).mapIdx fun k x => D.tup [.int k, x]
  have hl : ds.length = ms.length := by simp [ds]
  obtain ⟨ρ', s', hr, a, b, c, e1, e2⟩ := for_all (t := .tp [2, 3]) (g := .ls (s.length + 1) (ms.map .int)) (ds := ds) (b := ex (n + 1) (call Pr (n + 1)) (mkM Pr (lowM Pr (n + 1))) Pr.mt Pr.sub Pr.N (.sq (.asg (.nm 4) (.cal 1002 (.cons (.cal 1001 (.cons (.var 3) (.cons (.var 2) .nil))) .nil)))
  (.ite (.cmp .NotIn (.var 4) (.var 1))
  (.exp (.met .append (.var 1) (.cons (.var 4) .nil)))
  .skip)))
    (I := fun i ρ s' => ∃ a b c, ρ = [some (.wl (ns.map .int)), some (.obj s.length), a, b, c] ∧ s' = s ++ [.lst ((wsF (ms.map .int) i).map .str), .lst (ms.map .int)])
    (fun i ρ s' hi hI => by
      obtain ⟨a, b, c, rfl, rfl⟩ := hI
      exact at_app) (fun i d ρ s' hd hI => by
      obtain ⟨a, b, c, rfl, rfl⟩ := hI
      have hi : i < ms.length := by rw [← hl]; exact (List.getElem?_eq_some_iff.mp hd).1
      have hd' : d = .tup [.int (i : Int), .int ms[i]] := by
        simp only [ds, List.getElem?_mapIdx, List.getElem?_map, List.getElem?_eq_getElem hi, Option.map_some, Option.some.injEq] at hd
        exact hd.symm
      subst hd'
      obtain ⟨a1, a2, a3⟩ := mx_ok (c := ms[i]) (k := (i : Int)) (by omega) (by omega)
      obtain ⟨b1, b2, b3⟩ := wrd_ok a1
      obtain ⟨w1, w2⟩ := wsF_ok (ms.map .int) i (by omega)
      have es : wsF (ms.map .int) (i + 1) = (if (((wsF (ms.map .int) i).map PyData.str).any fun z => PyData.eqv z (.str (wrd (mx ms[i] (i : Int))))) = true then wsF (ms.map .int) i else wsF (ms.map .int) i ++ [wrd (mx ms[i] (i : Int))]) := by
        conv => lhs; unfold wsF
        simp only [List.getElem?_map, List.getElem?_eq_getElem hi, Option.map_some]
      refine ⟨[some (.wl (ns.map .int)), some (.obj s.length), some (.int (i : Int)), some (.int ms[i]), c], [some (.wl (ns.map .int)), some (.obj s.length), some (.int (i : Int)), some (.int ms[i]), some (.str (wrd (mx ms[i] (i : Int))))], s ++ [.lst ((wsF (ms.map .int) (i + 1)).map .str), .lst (ms.map .int)], rfl, .inl ?_, _, _, _, rfl, rfl⟩
      rw [ex_sq (ex_asg (d := .str (wrd (mx ms[i] (i : Int)))) (s1 := s ++ [.lst ((wsF (ms.map .int) i).map .str), .lst (ms.map .int)]) (by
        simp only [sem, Sem.of, bind_def, pure_def, List.getElem?_cons_zero, List.getElem?_cons_succ, a3, b3]))]
      simp only [List.set_cons_succ, List.set_cons_zero]
      have ein : inM (n + 1) (.str (wrd (mx ms[i] (i : Int)))) (.obj s.length) (s ++ [.lst ((wsF (ms.map .int) i).map .str), .lst (ms.map .int)]) = .ok (.bl (((wsF (ms.map .int) i).map PyData.str).any fun z => PyData.eqv z (.str (wrd (mx ms[i] (i : Int)))))) (s ++ [.lst ((wsF (ms.map .int) i).map .str), .lst (ms.map .int)]) := by
        unfold inM
        dsimp only
        rw [bindS (getC_of at_app0)]
        dsimp only
        exact inLS rfl (pds_strs _) (by simpa [PyData.canLay0] using b2) (lay_strs fun w hw => (w2 w hw).2) (by simp [PyData.depth]; omega)
      cases q : ((wsF (ms.map .int) i).map PyData.str).any fun z => PyData.eqv z (.str (wrd (mx ms[i] (i : Int)))) with
      | true =>
        rw [q] at ein
        rw [es, if_pos q, ex_f (s1 := s ++ [.lst ((wsF (ms.map .int) i).map .str), .lst (ms.map .int)])]
        · rfl
        · simp only [sem, Sem.of, Sem.tst, cmpM, notM, bind_def, pure_def, List.getElem?_cons_zero, List.getElem?_cons_succ, ein, blM]
          rfl
      | false =>
        rw [q] at ein
        rw [es, if_neg (by rw [q]; decide), ex_t (s1 := s ++ [.lst ((wsF (ms.map .int) i).map .str), .lst (ms.map .int)])]
        · have ea := appS (n := s.length) (ds := (wsF (ms.map .int) i).map .str) (d := .str (wrd (mx ms[i] (i : Int)))) (s := s ++ [.lst ((wsF (ms.map .int) i).map .str), .lst (ms.map .int)]) at_app0 (by rw [List.length_map]; omega)
          rw [ex_exp (d := .non) (s1 := s ++ [.lst ((wsF (ms.map .int) i ++ [wrd (mx ms[i] (i : Int))]).map .str), .lst (ms.map .int)])]
          rw [set_app0] at ea
          simp only [sem, Sem.of, bind_def, pure_def, List.getElem?_cons_zero, List.getElem?_cons_succ] at ea ⊢
          rw [ea]
          simp
        · simp only [sem, Sem.of, Sem.tst, cmpM, notM, bind_def, pure_def, List.getElem?_cons_zero, List.getElem?_cons_succ, ein, blM]
          rfl) (ρ := [some (.wl (ns.map .int)), some (.obj s.length), none, none, none]) (s := s ++ [.lst [], .lst (ms.map .int)]) ⟨none, none, none, rfl, rfl⟩
  subst e1 e2
  rw [hl] at hr
  refine call_rt (d := d__law_words) (r := .obj s.length) (s' := s ++ [.lst ((wsF (ms.map .int) ms.length).map .str), .lst (ms.map .int)]) rfl rfl ?_ (fin_new (j := 0) rfl (unders_strs _))
  show ex _ _ _ _ _ _ b__law_words [some (.wl (ns.map .int)), none, none, none, none] s = _
  unfold b__law_words
  rw [ex_sq (ex_asg (d := .obj s.length) (s1 := s ++ [.lst []]) (by
    simp only [sem, Sem.of, bind_def, pure_def]
    rw [grdS (show ([] : List D).length ≤ SZ from Nat.zero_le _)]
    rfl))]
  simp only [List.set_cons_succ, List.set_cons_zero]
  rw [ex_sq (ex_for (w := (ds, .ls (s.length + 1) (ms.map .int))) (s1 := s ++ [.lst [], .lst (ms.map .int)]) ?_ rfl hr rfl)]
  · exact ex_ret rfl
  · have e3 : slcM (.wl (ns.map .int)) (some 2) (some 42) (s ++ [.lst []]) = .ok (.obj (s.length + 1)) (s ++ [.lst [], .lst (ms.map .int)]) := by
      show alloc (.lst (cutD (ns.map .int) (some 2) (some 42))) (s ++ [.lst []]) = _
      rw [em, allocS]
      simp
    have e4 : walkL (.obj (s.length + 1)) (s ++ [.lst [], .lst (ms.map .int)]) = .ok (ms.map .int, .ls (s.length + 1) (ms.map .int)) (s ++ [.lst [], .lst (ms.map .int)]) := by
      unfold walkL
      dsimp only
      rw [bindS (getC_of at_app)]
      rfl
    simp only [sem, Sem.of, bind_def, pure_def, List.getElem?_cons_zero, ndx, e3, e4]
    rfl
/-! ## what is compared -/
theorem whole_run (i : Int) (n : Nat) (s : Store) : call Pr (n + 1) 1000 [.int i] s = .ok (.bl true) s := by
  refine call_rt (d := d__law_whole) rfl rfl (s' := s) (r := .bl true) ?_ fin_any
  exact ex_ret rfl
def P2D (p : Int × Str) : D := .tup [.int p.1, .str p.2]
def P2P (p : Int × Str) : PyData := .tuple [.int p.1, .str p.2]
theorem pds_pairs : ∀ ps : List (Int × Str), pds (ps.map P2D) = some (ps.map P2P)
  | [] => rfl
  | p :: ps => by
    rw [List.map_cons, pds, pds_pairs ps]
    rfl
theorem lay_pairs : ∀ {ps : List (Int × Str)}, (∀ p ∈ ps, PyData.strOk p.2 = true) → PyData.canLayAll0 (ps.map P2P) = true
  | [], _ => rfl
  | p :: ps, h => by
    rw [List.map_cons, PyData.canLayAll0, lay_pairs fun v hv => h v (List.mem_cons_of_mem _ hv)]
    simp [P2P, PyData.canLay0, PyData.canLayAll0, h p List.mem_cons_self]
theorem depth_pairs (ps : List (Int × Str)) : PyData.depthAll (ps.map P2P) ≤ 1 := by
  induction ps with
  | nil => simp [PyData.depthAll]
  | cons p ps ih =>
    rw [List.map_cons, PyData.depthAll]
    have : (P2P p).depth ≤ 1 := by simp [P2P, PyData.depth, PyData.depthAll]
    omega
theorem firstEq_any (x : PyData) : ∀ (xs : List PyData) (k : Nat), (firstEq x xs k).isSome = xs.any fun z => PyData.eqv z x
  | [], _ => rfl
  | z :: zs, k => by
    unfold firstEq
    rw [List.any_cons]
    cases q : PyData.eqv z x with
    | true => simp
    | false => simp [firstEq_any x zs (k + 1)]
theorem firstEq_off (x : PyData) : ∀ (xs : List PyData) (k m : Nat), firstEq x xs (k + m) = (firstEq x xs k).map (· + m)
  | [], _, _ => rfl
  | z :: zs, k, m => by
    unfold firstEq
    cases q : PyData.eqv z x with
    | true => simp
    | false =>
      have := firstEq_off x zs (k + 1) m
      rw [show k + 1 + m = k + m + 1 by omega] at this
      simpa using this
def tD : Option Int → D
  | none => .non
  | some t => .int t
def les (labels : List Str) (label : Str) : Int := ((labels.filter fun w => lexS w label).length : Nat)
def ask (t : Int) (label : Str) : PyData := .tuple [.int t, .str label]
def res (tail : Option Int) (label : Str) (ps : List (Int × Str)) : D := match tail with
  | none => .non
  | some t => match firstEq (ask t label) (ps.map P2P) 0 with
    | none => .non
    | some j => .int (j : Nat)
theorem good_run (a : Int) (r : D) (hr : r = .non ∨ ∃ j, r = .int j) (n : Nat) (s : Store) : call Pr (n + 2) 1004 [.tup [.int a, r], .tup [.int a, r]] s = .ok (.bl true) s := by
  refine call_rt (d := d__law_good) rfl rfl (s' := s) (r := .bl true) ?_ fin_any
  show ex _ _ _ _ _ _ b__law_good [some (.tup [.int a, r]), some (.tup [.int a, r])] s = _
  have hp : ∃ x, pds [.int a, r] = some x ∧ PyData.canLayAll0 x = true ∧ PyData.depthAll x ≤ 1 := by
    rcases hr with rfl | ⟨j, rfl⟩
    · exact ⟨_, rfl, rfl, by simp [PyData.depthAll, PyData.depth]⟩
    · exact ⟨_, rfl, rfl, by simp [PyData.depthAll, PyData.depth]⟩
  obtain ⟨x, hx, hc, hd⟩ := hp
  have eeq : eqM (n + 1) (.tup [.int a, r]) (.tup [.int a, r]) s = .ok (.bl true) s := by
    have e0 : eqM (n + 1) (.tup [.int a, r]) (.tup [.int a, r]) s = eqP (n + 1) (.tup [.int a, r]) (.tup [.int a, r]) s := rfl
    rw [e0]
    have ep : rd s (.tup [.int a, r]) = some (.tuple x) := by
      show pd (.tup [.int a, r]) = _
      rw [pd, hx]
      rfl
    have e1 : eqP (n + 1) (.tup [.int a, r]) (.tup [.int a, r]) s = (match rd s (.tup [.int a, r]), rd s (.tup [.int a, r]) with
      | some x, some y => do
        grd (x.canLay0 = true ∧ y.canLay0 = true ∧ min x.depth y.depth ≤ 200 + 16 * (n + 1))
        pure (D.bl (PyData.eqv x y))
      | _, _ => (bad : M D)) s := rfl
    rw [e1, ep]
    dsimp only
    have hl : (PyData.tuple x).canLay0 = true := by rw [PyData.canLay0]; exact hc
    rw [bindS (grdS ⟨hl, hl, by rw [PyData.depth]; omega⟩), SeqAt.eqv_refl _ hl]
    rfl
  unfold b__law_good
  rw [ex_sq (ρ1 := [some (.tup [.int a, r]), some (.tup [.int a, r])]) (s1 := s), ex_sq (ρ1 := [some (.tup [.int a, r]), some (.tup [.int a, r])]) (s1 := s)]
  · exact ex_ret (by
      simp only [sem, Sem.of, Sem.tst, bind_def, pure_def, List.getElem?_cons_zero, List.getElem?_cons_succ, cmpM, eeq])
  · rw [ex_f (s1 := s)]
    · rfl
    · have i1 : idxM (.tup [.int a, r]) (.int 1) s = .ok r s := rfl
      rcases hr with rfl | ⟨j, rfl⟩
      · simp only [sem, Sem.of, Sem.tst, bind_def, pure_def, List.getElem?_cons_zero, i1, cmpM, blM, decide_true, Bool.not_true]
        rfl
      · have w1 := whole_run j n s
        have hne : (!decide (D.int j = D.non)) = true := by simp
        simp only [sem, Sem.of, Sem.tst, bind_def, pure_def, List.getElem?_cons_zero, i1, cmpM, blM, hne, if_true, w1, truM]
        rfl
  · rw [ex_f (s1 := s)]
    · rfl
    · have i0 : idxM (.tup [.int a, r]) (.int 0) s = .ok (.int a) s := rfl
      have w1 := whole_run a n s
      have l1 : bifM .len [.tup [.int a, r]] s = .ok (.int 2) s := rfl
      have l2 : eqM (n + 1) (.int 2) (.int 2) s = .ok (.bl true) s := rfl
      have s1 : isiM (.tup [.int a, r]) .tuple s = .ok (.bl true) s := rfl
      simp only [sem, Sem.of, Sem.tst, bind_def, pure_def, List.getElem?_cons_zero, i0, w1, l1, s1, cmpM, notM, l2, blM, truM, Bool.not_true, Bool.false_eq_true, if_false]
/-! ## the due answer -/
theorem les_snoc (l : List Str) (w label : Str) : les (l ++ [w]) label = les l label + (if lexS w label = true then 1 else 0) := by
  unfold les
  rw [List.filter_append, List.length_append]
  cases q : lexS w label with
  | true => simp [q]
  | false => simp [q]
theorem take_snoc {α : Type} {l : List α} {i : Nat} (h : i < l.length) : l.take (i + 1) = l.take i ++ [l[i]] := by
  rw [List.take_succ, List.getElem?_eq_getElem h]
  rfl
theorem due_run (labels : List Str) (tail : Option Int) (label : Str) (ps : List (Int × Str)) (hl : PyData.strOk label = true) (hps : ∀ p ∈ ps, PyData.strOk p.2 = true) (L P : Nat) (n : Nat) (s : Store) (hL : s[L]? = some (.lst (labels.map .str))) (hP : s[P]? = some (.lst (ps.map P2D))) :
    call Pr (n + 1) 1005 [.obj L, tD tail, .str label, .obj P] s = .ok (.tup [.int (les labels label), res tail label ps]) s := by
  refine call_rt (d := d__law_due) (r := .tup [.int (les labels label), res tail label ps]) (s' := s ++ []) rfl rfl ?_ (fin_gc (t := []) (by
    unfold res
    cases tail with
    | none => rfl
    | some t => dsimp only; cases firstEq (ask t label) (ps.map P2P) 0 <;> rfl))
  rw [List.append_nil]
  show ex _ _ _ _ _ _ b__law_due [some (.obj L), some (tD tail), some (.str label), some (.obj P), none, none, none, none] s = _
  unfold b__law_due
  rw [ex_sq (ex_asg (d := .int 0) rfl)]
  simp only [List.set_cons_succ, List.set_cons_zero]
  -- the lesser ones
  obtain ⟨ρ', s', hr, z, e1, e2⟩ := for_all (t := .nm 5) (g := .ls L (labels.map .str)) (ds := labels.map .str) (b := ex n (call Pr n) (mkM Pr (lowM Pr n)) Pr.mt Pr.sub Pr.N (.ite (.cmp .Lt (.var 5) (.var 2))
  (.asg (.nm 4) (.bin .Add (.var 4) (.cst (.int 1))))
  .skip))
    (I := fun i ρ s' => ∃ z, ρ = [some (.obj L), some (tD tail), some (.str label), some (.obj P), some (.int (les (labels.take i) label)), z, none, none] ∧ s' = s)
    (fun i ρ s' hi hI => by
      obtain ⟨z, rfl, rfl⟩ := hI
      exact hL) (fun i d ρ s' hd hI => by
      obtain ⟨z, rfl, rfl⟩ := hI
      have hi : i < labels.length := by simpa using (List.getElem?_eq_some_iff.mp hd).1
      have hd' : d = .str labels[i] := by
        rw [List.getElem?_map, List.getElem?_eq_getElem hi] at hd
        exact (Option.some.inj hd).symm
      subst hd'
      refine ⟨[some (.obj L), some (tD tail), some (.str label), some (.obj P), some (.int (les (labels.take i) label)), some (.str labels[i]), none, none], [some (.obj L), some (tD tail), some (.str label), some (.obj P), some (.int (les (labels.take (i + 1)) label)), some (.str labels[i]), none, none], s', rfl, .inl ?_, _, rfl, rfl⟩
      rw [take_snoc hi, les_snoc]
      cases q : lexS labels[i] label with
      | true =>
        rw [ex_t (s1 := s')]
        · rw [if_pos rfl]
          exact ex_asg rfl
        · simp only [sem, Sem.of, Sem.tst, bind_def, pure_def, List.getElem?_cons_zero, List.getElem?_cons_succ, cmpM, q, blM]
      | false =>
        rw [ex_f (s1 := s')]
        · rw [if_neg (by decide), Int.add_zero]
          exact ex_skip
        · simp only [sem, Sem.of, Sem.tst, bind_def, pure_def, List.getElem?_cons_zero, List.getElem?_cons_succ, cmpM, q, blM]) (ρ := [some (.obj L), some (tD tail), some (.str label), some (.obj P), some (.int 0), none, none, none]) (s := s) ⟨none, rfl, rfl⟩
  subst e1 e2
  rw [List.length_map, List.take_length] at hr
  have ei : (sem n (call Pr n) (mkM Pr (lowM Pr n)) Pr.mt (.var 0)).i [some (.obj L), some (tD tail), some (.str label), some (.obj P), some (.int 0), none, none, none] s' = .ok (labels.map .str, .ls L (labels.map .str)) s' := by
    show (walkM (.obj L)) s' = _
    unfold walkM
    dsimp only
    rw [bindS (getC_of hL)]
    rfl
  rw [ex_sq (ex_for ei rfl hr rfl)]
  cases tail with
  | none =>
    refine ex_sqr ?_
    rw [ex_t (s1 := s')]
    · exact ex_ret rfl
    · rfl
  | some t =>
    rw [ex_sq (ρ1 := [some (.obj L), some (.int t), some (.str label), some (.obj P), some (.int (les labels label)), z, none, none]) (s1 := s')]
    rotate_left
    · rw [ex_f (s1 := s')]
      · rfl
      · rfl
    have key : ∀ (qs : List (Int × Str)) (off : Nat) (z z1 z2 : Option D), (∀ p ∈ qs, PyData.strOk p.2 = true) → (match firstEq (ask t label) (qs.map P2P) off with
      | some j => forL (.tp [6, 7]) (ex n (call Pr n) (mkM Pr (lowM Pr n)) Pr.mt Pr.sub Pr.N (.ite (.cmp .Eq (.var 7) (.tup (.cons (.var 1) (.cons (.var 2) .nil)))) (.ret (.tup (.cons (.var 4) (.cons (.var 6) .nil)))) .skip)) (.ls P (ps.map P2D)) (qs.mapIdx fun k x => D.tup [.int ((k + off : Nat) : Int), P2D x]) [some (.obj L), some (.int t), some (.str label), some (.obj P), some (.int (les labels label)), z, z1, z2] s' = .ok (.rt (.tup [.int (les labels label), .int (j : Nat)])) s'
      | none => ∃ z1' z2', forL (.tp [6, 7]) (ex n (call Pr n) (mkM Pr (lowM Pr n)) Pr.mt Pr.sub Pr.N (.ite (.cmp .Eq (.var 7) (.tup (.cons (.var 1) (.cons (.var 2) .nil)))) (.ret (.tup (.cons (.var 4) (.cons (.var 6) .nil)))) .skip)) (.ls P (ps.map P2D)) (qs.mapIdx fun k x => D.tup [.int ((k + off : Nat) : Int), P2D x]) [some (.obj L), some (.int t), some (.str label), some (.obj P), some (.int (les labels label)), z, z1, z2] s' = .ok (.nx [some (.obj L), some (.int t), some (.str label), some (.obj P), some (.int (les labels label)), z, z1', z2']) s') := by
      intro qs
      induction qs with
      | nil =>
        intro off z z1 z2 _
        refine ⟨z1, z2, ?_⟩
        show forL _ _ _ [] _ _ = _
        unfold forL
        rw [bindS (chkS (show Gd.ok (.ls P (ps.map P2D)) s' from hP))]
        rfl
      | cons q qs ih =>
        intro off z z1 z2 hq
        have hlq : (P2P q).canLay0 = true := by simp [P2P, PyData.canLay0, PyData.canLayAll0, hq q List.mem_cons_self]
        have hla : (ask t label).canLay0 = true := by simp [ask, PyData.canLay0, PyData.canLayAll0, hl]
        have ebt : bindT (.tp [6, 7]) (.tup [.int ((0 + off : Nat) : Int), P2D q]) [some (.obj L), some (.int t), some (.str label), some (.obj P), some (.int (les labels label)), z, z1, z2] s' = .ok [some (.obj L), some (.int t), some (.str label), some (.obj P), some (.int (les labels label)), z, some (.int ((0 + off : Nat) : Int)), some (P2D q)] s' := rfl
        have eeq : eqM n (P2D q) (.tup [.int t, .str label]) s' = .ok (.bl (PyData.eqv (P2P q) (ask t label))) s' := by
          have e1 : eqM n (P2D q) (.tup [.int t, .str label]) s' = (do
            grd ((P2P q).canLay0 = true ∧ (ask t label).canLay0 = true ∧ min (P2P q).depth (ask t label).depth ≤ 200 + 16 * n)
            pure (D.bl (PyData.eqv (P2P q) (ask t label))) : M D) s' := rfl
          rw [e1, bindS (grdS ⟨hlq, hla, by simp [P2P, ask, PyData.depth, PyData.depthAll]; omega⟩)]
          rfl
        have egr : (grd ([D.int t, D.str label].length ≤ SZ) : M Unit) s' = .ok () s' := grdS (show 2 ≤ SZ from Nat.le_trans (by decide) SZ_big)
        have egr2 : (grd ([D.int (les labels label), D.int ((0 + off : Nat) : Int)].length ≤ SZ) : M Unit) s' = .ok () s' := grdS (show 2 ≤ SZ from Nat.le_trans (by decide) SZ_big)
        have ect : (sem n (call Pr n) (mkM Pr (lowM Pr n)) Pr.mt (.cmp .Eq (.var 7) (.tup (.cons (.var 1) (.cons (.var 2) .nil))))).t [some (.obj L), some (.int t), some (.str label), some (.obj P), some (.int (les labels label)), z, some (.int ((0 + off : Nat) : Int)), some (P2D q)] s' = .ok (PyData.eqv (P2P q) (ask t label)) s' := by
          simp only [sem, Sem.of, Sem.tst, bind_def, pure_def, List.getElem?_cons_zero, List.getElem?_cons_succ, egr, cmpM, eeq, blM]
        rw [List.map_cons]
        unfold firstEq
        rw [List.mapIdx_cons]
        cases qe : PyData.eqv (P2P q) (ask t label) with
        | true =>
          rw [if_pos rfl]
          dsimp only
          unfold forL
          rw [bindS (chkS (show Gd.ok (.ls P (ps.map P2D)) s' from hP)), bindS ebt]
          rw [qe] at ect
          rw [bindS ((ex_t ect).trans (ex_ret (d := .tup [.int (les labels label), .int ((0 + off : Nat) : Int)]) (s1 := s') (by
            simp only [sem, Sem.of, bind_def, pure_def, List.getElem?_cons_zero, List.getElem?_cons_succ, egr2])))]
          rw [Nat.zero_add]
          rfl
        | false =>
          rw [if_neg (by decide)]
          rw [qe] at ect
          have ih1 := ih (off + 1) z (some (.int ((0 + off : Nat) : Int))) (some (P2D q)) fun p hp => hq p (List.mem_cons_of_mem _ hp)
          have em : (qs.mapIdx fun k x => D.tup [.int (((k + 1) + off : Nat) : Int), P2D x]) = qs.mapIdx fun k x => D.tup [.int ((k + (off + 1) : Nat) : Int), P2D x] := by
            congr 1
            funext k x
            rw [show k + 1 + off = k + (off + 1) by omega]
          have st : ∀ r, forL (.tp [6, 7]) (ex n (call Pr n) (mkM Pr (lowM Pr n)) Pr.mt Pr.sub Pr.N (.ite (.cmp .Eq (.var 7) (.tup (.cons (.var 1) (.cons (.var 2) .nil)))) (.ret (.tup (.cons (.var 4) (.cons (.var 6) .nil)))) .skip)) (.ls P (ps.map P2D)) (qs.mapIdx fun k x => D.tup [.int ((k + (off + 1) : Nat) : Int), P2D x]) [some (.obj L), some (.int t), some (.str label), some (.obj P), some (.int (les labels label)), z, some (.int ((0 + off : Nat) : Int)), some (P2D q)] s' = r →
              forL (.tp [6, 7]) (ex n (call Pr n) (mkM Pr (lowM Pr n)) Pr.mt Pr.sub Pr.N (.ite (.cmp .Eq (.var 7) (.tup (.cons (.var 1) (.cons (.var 2) .nil)))) (.ret (.tup (.cons (.var 4) (.cons (.var 6) .nil)))) .skip)) (.ls P (ps.map P2D)) (.tup [.int ((0 + off : Nat) : Int), P2D q] :: qs.mapIdx fun k x => D.tup [.int (((k + 1) + off : Nat) : Int), P2D x]) [some (.obj L), some (.int t), some (.str label), some (.obj P), some (.int (les labels label)), z, z1, z2] s' = r := by
            intro r hr
            rw [em]
            conv => lhs; unfold forL
            rw [bindS (chkS (show Gd.ok (.ls P (ps.map P2D)) s' from hP)), bindS ebt, bindS ((ex_f ect).trans ex_skip)]
            exact hr
          cases qf : firstEq (ask t label) (qs.map P2P) (off + 1) with
          | some j =>
            rw [qf] at ih1
            dsimp only at ih1 ⊢
            exact st _ ih1
          | none =>
            rw [qf] at ih1
            obtain ⟨y1, y2, h3⟩ := ih1
            exact ⟨y1, y2, st _ h3⟩
    have k1 := key ps 0 z none none hps
    have ew : (sem n (call Pr n) (mkM Pr (lowM Pr n)) Pr.mt (.enm (.var 3))).i [some (.obj L), some (.int t), some (.str label), some (.obj P), some (.int (les labels label)), z, none, none] s' = .ok (ps.mapIdx (fun k x => D.tup [.int ((k + 0 : Nat) : Int), P2D x]), .ls P (ps.map P2D)) s' := by
      have e1 : walkL (.obj P) s' = .ok (ps.map P2D, .ls P (ps.map P2D)) s' := by
        unfold walkL
        dsimp only
        rw [bindS (getC_of hP)]
        rfl
      have e2 : ((ps.map P2D).mapIdx fun (k : Nat) x => D.tup [.int k, x]) = ps.mapIdx (fun (k : Nat) x => D.tup [.int ((k + 0 : Nat) : Int), P2D x]) := by
        apply List.ext_getElem?
        intro j
        simp only [List.getElem?_mapIdx, List.getElem?_map, Option.map_map, Function.comp_def, Nat.add_zero]
      simp only [sem, Sem.of, bind_def, pure_def, List.getElem?_cons_zero, List.getElem?_cons_succ, e1, e2]
    unfold res
    dsimp only
    cases qf : firstEq (ask t label) (ps.map P2P) 0 with
    | some j =>
      rw [qf] at k1
      exact ex_sqr (ex_forR ew rfl k1 rfl)
    | none =>
      rw [qf] at k1
      obtain ⟨y1, y2, h3⟩ := k1
      rw [ex_sq (ex_for ew rfl h3 rfl)]
      exact ex_ret (by
        have egr2 : (grd ([D.int (les labels label), D.non].length ≤ SZ) : M Unit) s' = .ok () s' := grdS (show 2 ≤ SZ from Nat.le_trans (by decide) SZ_big)
        simp only [sem, Sem.of, bind_def, pure_def, List.getElem?_cons_zero, List.getElem?_cons_succ, egr2])
/-! ## the program's answer -/
def numD : D := .tup [.str (Str.ofString "num")]
def kd (w : Str) : D := match w.length % 3 with
  | 0 => numD
  | 1 => .tup [.str (Str.ofString "var"), .int 5]
  | _ => .tup [.str (Str.ofString "fun"), numD, numD]
def fld (w : Str) : D := .tup [.str w, kd w]
def rowD (labels : List Str) (tail : Option Int) : D := .tup [.str (Str.ofString "row"), .tup (labels.map fld), tD tail]
def ltK (label : Str) : D → Bool
  | .tup (.str w :: _) => lexS w label
  | _ => false
def hdF : D → D
  | .tup (x :: _) => x
  | d => d
theorem lt_map (label : Str) : ∀ labels : List Str, ((labels.map fld).filter (ltK label)).map hdF = (labels.filter fun w => lexS w label).map .str
  | [] => rfl
  | w :: ws => by
    have ih := lt_map label ws
    have e : ltK label (fld w) = lexS w label := rfl
    rw [List.map_cons, List.filter_cons, List.filter_cons, e]
    cases lexS w label with
    | true => rw [if_pos rfl, if_pos rfl, List.map_cons, ih]; rfl
    | false => rw [if_neg (by decide), if_neg (by decide), ih]
theorem depth_ask (t : Int) (label : Str) : (ask t label).depth ≤ 1 := by simp [ask, PyData.depth, PyData.depthAll]
theorem offset_run (labels : List Str) (tail : Option Int) (label : Str) (ps : List (Int × Str)) (hn : labels.length ≤ SZ) (hl : PyData.strOk label = true) (hps : ∀ p ∈ ps, PyData.strOk p.2 = true) (P : Nat) (n : Nat) (s : Store) (hP : s[P]? = some (.lst (ps.map P2D))) :
    call Pr (n + 1) 104 [rowD labels tail, .str label, .obj P] s = .ok (.tup [.int (les labels label), res tail label ps]) s := by
  refine call_rt (d := d_offset) (r := .tup [.int (les labels label), res tail label ps]) (s' := s ++ [.lst ((labels.filter fun w => lexS w label).map .str)]) rfl rfl ?_ (fin_gc (by
    unfold res
    cases tail with
    | none => rfl
    | some t => dsimp only; cases firstEq (ask t label) (ps.map P2P) 0 <;> rfl))
  show ex _ _ _ _ _ _ b_offset [some (rowD labels tail), some (.str label), some (.obj P), none, none, none] s = _
  unfold b_offset
  have hlc : lcL (.nm 5) (sem n (call Pr n) (mkM Pr (lowM Pr n)) Pr.mt (.cmp .Lt (.idx (.var 5) (.cst (.int 0))) (.var 1))).t (sem n (call Pr n) (mkM Pr (lowM Pr n)) Pr.mt (.idx (.var 5) (.cst (.int 0)))).v .no [some (rowD labels tail), some (.str label), some (.obj P), none, none, none] (labels.map fld) s = .ok (((labels.map fld).filter (ltK label)).map hdF) s :=
    lc_all (g := .no) True.intro fun d hd => by
      obtain ⟨w, hw, rfl⟩ := List.mem_map.mp hd
      exact ⟨[some (rowD labels tail), some (.str label), some (.obj P), none, none, some (fld w)], rfl, rfl, fun _ => rfl⟩
  rw [lt_map] at hlc
  have hP2 : ∀ c, (s ++ [c])[P]? = some (Cell.lst (ps.map P2D)) := fun c => by
    rw [List.getElem?_append_left (List.getElem?_eq_some_iff.mp hP).1]
    exact hP
  rw [ex_sq (ex_asg (d := .obj s.length) (s1 := s ++ [.lst ((labels.filter fun w => lexS w label).map .str)]) (by
    have e1 : (sem n (call Pr n) (mkM Pr (lowM Pr n)) Pr.mt (.idx (.var 0) (.cst (.int 1)))).i [some (rowD labels tail), some (.str label), some (.obj P), none, none, none] s = .ok (labels.map fld, .no) s := rfl
    have e2 : lcM (.nm 5) [5] (sem n (call Pr n) (mkM Pr (lowM Pr n)) Pr.mt (.idx (.var 0) (.cst (.int 1)))).i (sem n (call Pr n) (mkM Pr (lowM Pr n)) Pr.mt (.cmp .Lt (.idx (.var 5) (.cst (.int 0))) (.var 1))).t (sem n (call Pr n) (mkM Pr (lowM Pr n)) Pr.mt (.idx (.var 5) (.cst (.int 0)))).v [some (rowD labels tail), some (.str label), some (.obj P), none, none, none] s = .ok ((labels.filter fun w => lexS w label).map .str) s := by
      exact lcMS e1 rfl (by rw [List.length_map]; exact hn) rfl hlc rfl
    show (lcM _ _ _ _ _ _ >>= _) s = _
    rw [bindS e2]
    rfl))]
  simp only [List.set_cons_succ, List.set_cons_zero]
  rw [ex_sq (ex_asg (d := .tup [tD tail, .str label]) (s1 := s ++ [.lst ((labels.filter fun w => lexS w label).map .str)]) (by
    have e1 : idxM (rowD labels tail) (.int 2) (s ++ [.lst ((labels.filter fun w => lexS w label).map .str)]) = .ok (tD tail) (s ++ [.lst ((labels.filter fun w => lexS w label).map .str)]) := rfl
    have egr : (grd ([tD tail, D.str label].length ≤ SZ) : M Unit) (s ++ [.lst ((labels.filter fun w => lexS w label).map .str)]) = .ok () (s ++ [.lst ((labels.filter fun w => lexS w label).map .str)]) := grdS (show 2 ≤ SZ from Nat.le_trans (by decide) SZ_big)
    simp only [sem, Sem.of, bind_def, pure_def, List.getElem?_cons_zero, List.getElem?_cons_succ, e1, egr]))]
  simp only [List.set_cons_succ, List.set_cons_zero]
  have elen : bifM .len [.obj s.length] (s ++ [.lst ((labels.filter fun w => lexS w label).map .str)]) = .ok (.int (les labels label)) (s ++ [.lst ((labels.filter fun w => lexS w label).map .str)]) := by
    show lenM (.obj s.length) _ = _
    unfold lenM
    dsimp only
    rw [bindS getC_last]
    dsimp only
    rw [List.length_map]
    rfl
  have egr2 : ∀ d : D, (grd ([D.int (les labels label), d].length ≤ SZ) : M Unit) (s ++ [.lst ((labels.filter fun w => lexS w label).map .str)]) = .ok () (s ++ [.lst ((labels.filter fun w => lexS w label).map .str)]) := fun d => grdS (show 2 ≤ SZ from Nat.le_trans (by decide) SZ_big)
  have e2 : idxM (rowD labels tail) (.int 2) (s ++ [.lst ((labels.filter fun w => lexS w label).map .str)]) = .ok (tD tail) (s ++ [.lst ((labels.filter fun w => lexS w label).map .str)]) := rfl
  cases tail with
  | none =>
    refine ex_sqr ?_
    rw [ex_t (s1 := s ++ [.lst ((labels.filter fun w => lexS w label).map .str)])]
    · exact ex_ret (by
        simp only [sem, Sem.of, bind_def, pure_def, List.getElem?_cons_zero, List.getElem?_cons_succ, elen, egr2]
        rfl)
    · simp only [sem, Sem.of, Sem.tst, bind_def, pure_def, List.getElem?_cons_zero, List.getElem?_cons_succ, e2]
      rfl
  | some t =>
    have hla : (ask t label).canLay0 = true := by simp [ask, PyData.canLay0, PyData.canLayAll0, hl]
    have ein : inM n (.tup [.int t, .str label]) (.obj P) (s ++ [.lst ((labels.filter fun w => lexS w label).map .str)]) = .ok (.bl ((ps.map P2P).any fun z => PyData.eqv z (ask t label))) (s ++ [.lst ((labels.filter fun w => lexS w label).map .str)]) := by
      unfold inM
      dsimp only
      rw [bindS (getC_of (hP2 _))]
      dsimp only
      exact inLS rfl (pds_pairs ps) hla (lay_pairs hps) (by have := depth_ask t label; omega)
    have et : tD (some t) = .int t := rfl
    have hin : decide (D.int t = D.non) = false := by simp
    cases qf : firstEq (ask t label) (ps.map P2P) 0 with
    | none =>
      have qa := firstEq_any (ask t label) (ps.map P2P) 0
      rw [qf] at qa
      rw [← qa] at ein
      refine ex_sqr ?_
      rw [ex_t (s1 := s ++ [.lst ((labels.filter fun w => lexS w label).map .str)])]
      · exact ex_ret (by
          simp only [sem, Sem.of, bind_def, pure_def, List.getElem?_cons_zero, List.getElem?_cons_succ, elen, egr2, res, qf])
      · simp only [sem, Sem.of, Sem.tst, bind_def, pure_def, List.getElem?_cons_zero, List.getElem?_cons_succ, e2, et, cmpM, hin, blM, Bool.false_eq_true, if_false, ein, notM]
        rfl
    | some j =>
      have qa := firstEq_any (ask t label) (ps.map P2P) 0
      rw [qf] at qa
      rw [← qa] at ein
      rw [ex_sq (ρ1 := [some (rowD labels (some t)), some (.str label), some (.obj P), some (.obj s.length), some (.tup [.int t, .str label]), none]) (s1 := s ++ [.lst ((labels.filter fun w => lexS w label).map .str)])]
      · have eix : (do tyM .index (.obj P); metM .index (.obj P) [.tup [.int t, .str label]] : M D) (s ++ [.lst ((labels.filter fun w => lexS w label).map .str)]) = .ok (.int (j : Nat)) (s ++ [.lst ((labels.filter fun w => lexS w label).map .str)]) := by
          have e1 : tyM .index (.obj P) (s ++ [.lst ((labels.filter fun w => lexS w label).map .str)]) = .ok () (s ++ [.lst ((labels.filter fun w => lexS w label).map .str)]) := by
            unfold tyM
            dsimp only
            rw [bindS (getC_of (hP2 _))]
            rfl
          rw [bindS e1]
          show idxOfM (.obj P) (.tup [.int t, .str label]) _ = _
          have e3 : lstM (.obj P) (s ++ [.lst ((labels.filter fun w => lexS w label).map .str)]) = .ok (P, ps.map P2D) (s ++ [.lst ((labels.filter fun w => lexS w label).map .str)]) := by
            unfold lstM
            dsimp only
            rw [bindS (getC_of (hP2 _))]
            rfl
          unfold idxOfM
          rw [bindS e3]
          dsimp only
          rw [show pd (.tup [.int t, .str label]) = some (ask t label) from rfl, pds_pairs ps]
          dsimp only
          rw [bindS (grdS ⟨hla, lay_pairs hps, by have := depth_ask t label; omega, by have := depth_pairs ps; omega⟩), qf]
          rfl
        simp only [bind_def] at eix
        exact ex_ret (by
          simp only [sem, Sem.of, bind_def, pure_def, List.getElem?_cons_zero, List.getElem?_cons_succ, elen, eix, egr2, res, qf])
      · rw [ex_f (s1 := s ++ [.lst ((labels.filter fun w => lexS w label).map .str)])]
        · rfl
        · simp only [sem, Sem.of, Sem.tst, bind_def, pure_def, List.getElem?_cons_zero, List.getElem?_cons_succ, e2, et, cmpM, hin, blM, Bool.false_eq_true, if_false, ein, notM]
          rfl
/-! ## the law -/
noncomputable abbrev SM (n : Nat) := sem n (call Pr n) (mkM Pr (lowM Pr n)) Pr.mt
noncomputable abbrev EX (n : Nat) := ex n (call Pr n) (mkM Pr (lowM Pr n)) Pr.mt Pr.sub Pr.N
theorem strs_of : ∀ {ds : List D} {p : Str → Prop}, (∀ d ∈ ds, ∃ w, d = .str w ∧ p w) → ∃ ws : List Str, ds = ws.map .str ∧ ∀ w ∈ ws, p w
  | [], _, _ => ⟨[], rfl, fun _ h => by cases h⟩
  | d :: ds, p, h => by
    obtain ⟨w, rfl, hw⟩ := h d List.mem_cons_self
    obtain ⟨ws, rfl, hws⟩ := strs_of (p := p) fun d hd => h d (List.mem_cons_of_mem _ hd)
    exact ⟨w :: ws, rfl, fun v hv => (List.mem_cons.mp hv).elim (fun e => e ▸ hw) (hws v)⟩
theorem strsD_map : ∀ ws : List Str, strsD (ws.map .str) = some ws
  | [] => rfl
  | w :: ws => by
    rw [List.map_cons, strsD, strsD_map ws]
    rfl
def Wok (w : Str) : Prop := w.length ≤ 8 ∧ PyData.strOk w = true
/-- sorted words -/
theorem sort_strs {ds : List D} {s : Store} (hl : ds.length ≤ 60) (h : ∀ d ∈ ds, ∃ w, d = .str w ∧ Wok w) : ∃ ls : List Str, ls.length = ds.length ∧ (∀ w ∈ ls, Wok w) ∧ seqM .sorted (.l, ds) s = .ok (.obj s.length) (s ++ [.lst (ls.map .str)]) := by
  obtain ⟨ws, rfl, hw⟩ := strs_of h
  refine ⟨ws.mergeSort fun a b => !lexS b a, by simp, fun w hv => hw w (List.mem_mergeSort.mp hv), ?_⟩
  unfold seqM
  dsimp only
  rw [bindS (grdS rfl), strsD_map]
  dsimp only
  rw [bindS (grdS (by omega))]
  rfl
def Pok (p : Int × Str) : Prop := PyData.strOk p.2 = true
theorem tups_pairs : ∀ ps : List (Int × Str), tupsD (ps.map P2D) = some (ps.map fun p => [.int p.1, .str p.2])
  | [] => rfl
  | p :: ps => by
    rw [List.map_cons, P2D, tupsD, tups_pairs ps]
    rfl
theorem pairs_of {q : Int × Str → Prop} : ∀ {ts : List (List D)}, (∀ t ∈ ts, ∃ p : Int × Str, t = [.int p.1, .str p.2] ∧ q p) → ∃ ps : List (Int × Str), ts.map .tup = ps.map P2D ∧ ps.length = ts.length ∧ ∀ p ∈ ps, q p
  | [], _ => ⟨[], rfl, rfl, fun _ h => by cases h⟩
  | t :: ts, h => by
    obtain ⟨p, rfl, hp⟩ := h t List.mem_cons_self
    obtain ⟨ps, e, hl, hps⟩ := pairs_of fun t ht => h t (List.mem_cons_of_mem _ ht)
    exact ⟨p :: ps, by rw [List.map_cons, List.map_cons, e]; rfl, by simp [hl], fun v hv => (List.mem_cons.mp hv).elim (fun e => e ▸ hp) (hps v)⟩
theorem sort_pairs {ps : List (Int × Str)} {s : Store} (h : ∀ p ∈ ps, Pok p) : ∃ qs : List (Int × Str), qs.length = ps.length ∧ (∀ p ∈ qs, Pok p) ∧ seqM .sorted (.l, ps.map P2D) s = .ok (.obj s.length) (s ++ [.lst (qs.map P2D)]) := by
  cases ps with
  | nil =>
    refine ⟨[], rfl, (fun _ h => by cases h), ?_⟩
    unfold seqM
    dsimp only
    rw [bindS (grdS rfl)]
    show (grd _ >>= _) s = _
    rw [bindS (grdS (by decide)), List.mergeSort_nil]
    rfl
  | cons p ps =>
    obtain ⟨qs, e, hl, hq⟩ := pairs_of (q := Pok) (ts := ((p :: ps).map fun p : Int × Str => [D.int p.1, D.str p.2]).mergeSort fun a b => !tlt b a) (by
      intro t ht
      obtain ⟨p', hp, rfl⟩ := List.mem_map.mp (List.mem_mergeSort.mp ht)
      exact ⟨p', rfl, h p' hp⟩)
    refine ⟨qs, by rw [hl, List.length_mergeSort, List.length_map], hq, ?_⟩
    have e1 : strsD ((p :: ps).map P2D) = none := rfl
    have e2 : intsD ((p :: ps).map P2D) = none := rfl
    unfold seqM
    dsimp only
    rw [bindS (grdS rfl), e1, e2, tups_pairs]
    dsimp only
    rw [bindS (grdS (fun t ht => by
      obtain ⟨p', hp, rfl⟩ := List.mem_map.mp ht
      exact ⟨by simp, rfl, rfl⟩)), e]
    rfl
/-- the labels -/
noncomputable def ixK (f : Int) : D → Bool
  | .tup [.int k, _] => decide (0 < mx f k % 3)
  | _ => false
def snF : D → D
  | .tup [_, x] => x
  | d => d
theorem big1000 : 1000 ≤ SZ := by decide
/-- the labels' words, sorted -/
theorem labels_run (sc : D) (f : Int) (ws : List Str) (hl : ws.length ≤ 40) (hw : ∀ w ∈ ws, Wok w) (n : Nat) (t : Store) (r5 : Rho) (hr : r5 = [none, none, none, none, none, none, none, none, none, none]) :
    ∃ ls : List Str, ls.length ≤ 40 ∧ (∀ w ∈ ls, Wok w) ∧ (SM (n + 1) (.seq .sorted (.lc (.tp [10, 11]) [10, 11] (.enm (.var 2)) (.cmp .Gt (.bin .Mod (.cal 1001 (.cons (.var 1) (.cons (.var 10) .nil))) (.cst (.int 3))) (.cst (.int 0))) (.var 11)))).v ([some sc, some (.int f), some (.obj 0)] ++ r5) (.lst (ws.map .str) :: t) = .ok (.obj (t.length + 1)) (.lst (ws.map .str) :: t ++ [.lst (ls.map .str)]) := by
  subst hr
  have hd : ∀ d ∈ (ws.map D.str).mapIdx (fun (k : Nat) x => D.tup [.int k, x]), ∃ (k : Nat) (w : Str), d = .tup [.int k, .str w] ∧ k < 40 ∧ Wok w := by
    intro d hd
    obtain ⟨i, hi, rfl⟩ := List.mem_iff_getElem.mp hd
    simp only [List.length_mapIdx, List.length_map] at hi
    exact ⟨i, ws[i], by simp, by omega, hw _ (List.getElem_mem _)⟩
  obtain ⟨ls, h1, h2, h3⟩ := sort_strs (ds := (((ws.map D.str).mapIdx fun (k : Nat) x => D.tup [.int k, x]).filter (ixK f)).map snF) (s := .lst (ws.map .str) :: t) (by
    rw [List.length_map]
    refine Nat.le_trans (List.length_filter_le _ _) ?_
    simp; omega) (by
    intro d h
    obtain ⟨d0, h0, rfl⟩ := List.mem_map.mp h
    obtain ⟨k, w, rfl, _, hw⟩ := hd d0 (List.mem_filter.mp h0).1
    exact ⟨w, rfl, hw⟩)
  refine ⟨ls, ?_, h2, ?_⟩
  · rw [h1, List.length_map]
    refine Nat.le_trans (List.length_filter_le _ _) ?_
    simpa using hl
  · have e1 : walkL (.obj 0) (.lst (ws.map .str) :: t) = .ok (ws.map .str, .ls 0 (ws.map .str)) (.lst (ws.map .str) :: t) := rfl
    have e2 : (SM (n + 1) (.enm (.var 2))).i [some sc, some (.int f), some (.obj 0), none, none, none, none, none, none, none, none, none, none] (.lst (ws.map .str) :: t) = .ok ((ws.map .str).mapIdx (fun (k : Nat) x => .tup [.int k, x]), .ls 0 (ws.map .str)) (.lst (ws.map .str) :: t) := by
      simp only [sem, Sem.of, bind_def, pure_def, List.getElem?_cons_zero, List.getElem?_cons_succ, e1]
    have hlc : lcL (.tp [10, 11]) (SM (n + 1) (.cmp .Gt (.bin .Mod (.cal 1001 (.cons (.var 1) (.cons (.var 10) .nil))) (.cst (.int 3))) (.cst (.int 0)))).t (SM (n + 1) (.var 11)).v (.ls 0 (ws.map .str)) [some sc, some (.int f), some (.obj 0), none, none, none, none, none, none, none, none, none, none] ((ws.map .str).mapIdx fun (k : Nat) x => .tup [.int k, x]) (.lst (ws.map .str) :: t) = .ok ((((ws.map D.str).mapIdx fun (k : Nat) x => D.tup [.int k, x]).filter (ixK f)).map snF) (.lst (ws.map .str) :: t) :=
      lc_all (show Gd.ok (.ls 0 (ws.map .str)) (.lst (ws.map .str) :: t) from rfl) fun d h => by
        obtain ⟨k, w, rfl, hk, hw⟩ := hd d h
        refine ⟨[some sc, some (.int f), some (.obj 0), none, none, none, none, none, none, none, some (.int (k : Int)), some (.str w), none], rfl, ?_, fun _ => rfl⟩
        have hm := (mx_ok (c := f) (k := (k : Int)) (by omega) (by omega)).2.2 n (.lst (ws.map .str) :: t)
        simp only [sem, Sem.of, Sem.tst, bind_def, pure_def, List.getElem?_cons_zero, List.getElem?_cons_succ, hm, modM (j := 3) (by decide), cmpM, blM]
        rfl
    have er : (SM (n + 1) (.lc (.tp [10, 11]) [10, 11] (.enm (.var 2)) (.cmp .Gt (.bin .Mod (.cal 1001 (.cons (.var 1) (.cons (.var 10) .nil))) (.cst (.int 3))) (.cst (.int 0))) (.var 11))).r [some sc, some (.int f), some (.obj 0), none, none, none, none, none, none, none, none, none, none] (.lst (ws.map .str) :: t) = .ok (.l, (((ws.map D.str).mapIdx fun (k : Nat) x => D.tup [.int k, x]).filter (ixK f)).map snF) (.lst (ws.map .str) :: t) := by
      show (lcM _ _ _ _ _ _ >>= _) _ = _
      rw [bindS (lcMS e2 rfl (by
        have := big1000
        simp; omega) rfl hlc rfl)]
      rfl
    exact (bindS er).trans h3
def bIn : S := (.exp (.met .append (.var 5) (.cons (.tup (.cons (.bin .Add (.bin .Add (.cst (.int 6)) (.bin .Mod (.bin .FloorDiv (.var 1) (.cst (.int 4))) (.cst (.int 1000)))) (.var 12)) (.cons (.var 11) .nil))) .nil)))
def iIn : E := (.rng (.cons (.bin .Mod (.cal 1001 (.cons (.var 1) (.cons (.bin .Add (.cst (.int 50)) (.var 10)) .nil))) (.cst (.int 4))) .nil))
def rhoP (sc : D) (f : Int) (tail : Option Int) (a b c : Option D) : Rho := [some sc, some (.int f), some (.obj 0), some (.obj 1), some (tD tail), some (.obj 2), none, none, none, none, a, b, c]
theorem inner_run (sc : D) (f : Int) (tail : Option Int) (k : Nat) (w : Str) (c : Option D) (A B : Cell) (ps : List (Int × Str)) (hk : k ≤ 40) (hw : Wok w) (hps : ∀ p ∈ ps, Pok p) (hl : ps.length ≤ 500) (n : Nat) :
    ∃ (c' : Option D) (qs : List (Int × Str)), EX (n + 1) (.for (.nm 12) iIn bIn) (rhoP sc f tail (some (.int k)) (some (.str w)) c) [A, B, .lst (ps.map P2D)] = .ok (.nx (rhoP sc f tail (some (.int k)) (some (.str w)) c')) [A, B, .lst (qs.map P2D)] ∧ qs.length ≤ ps.length + 4 ∧ ∀ p ∈ qs, Pok p := by
  have hm0 : 0 ≤ mx f (50 + (k : Int)) % 4 := Int.emod_nonneg _ (by decide)
  have hm1 : mx f (50 + (k : Int)) % 4 < 4 := Int.emod_lt_of_pos _ (by decide)
  let ds : List D := (List.range (mx f (50 + (k : Int)) % 4).toNat).map fun (k : Nat) => D.int (k : Int)
  have hds : ds.length ≤ 4 := by simp only [ds, List.length_map, List.length_range]; omega
  have hb := big1000
  obtain ⟨ρ', s', hr, c', qs, e1, e2, e3, e4⟩ := for_all (t := .nm 12) (g := .no) (ds := ds) (b := EX (n + 1) bIn)
    (I := fun i ρ s => ∃ (c : Option D) (qs : List (Int × Str)), ρ = rhoP sc f tail (some (.int k)) (some (.str w)) c ∧ s = [A, B, .lst (qs.map P2D)] ∧ qs.length ≤ ps.length + i ∧ ∀ p ∈ qs, Pok p)
    (fun _ _ _ _ _ => True.intro) (fun i d ρ s hd hI => by
      obtain ⟨c0, qs, rfl, rfl, hq, hp⟩ := hI
      have hi : i < ds.length := (List.getElem?_eq_some_iff.mp hd).1
      have hd' : ∃ j : Int, d = .int j := by
        have := List.mem_of_getElem? hd
        simp only [ds, List.mem_map] at this
        obtain ⟨a, _, rfl⟩ := this
        exact ⟨_, rfl⟩
      obtain ⟨j, rfl⟩ := hd'
      refine ⟨rhoP sc f tail (some (.int k)) (some (.str w)) (some (.int j)), rhoP sc f tail (some (.int k)) (some (.str w)) (some (.int j)), [A, B, .lst ((qs ++ [(6 + f / 4 % 1000 + j, w)]).map P2D)], rfl, .inl ?_, _, qs ++ [(6 + f / 4 % 1000 + j, w)], rfl, rfl, by rw [List.length_append]; simp; omega, fun p hp' => ?_⟩
      · refine ex_exp (d := .non) ?_
        have ea := appS (n := 2) (ds := qs.map P2D) (d := P2D (6 + f / 4 % 1000 + j, w)) (s := [A, B, .lst (qs.map P2D)]) rfl (by rw [List.length_map]; omega)
        have egr : (grd ([D.int (6 + f / 4 % 1000 + j), D.str w].length ≤ SZ) : M Unit) [A, B, .lst (qs.map P2D)] = .ok () [A, B, .lst (qs.map P2D)] := grdS (show 2 ≤ SZ from Nat.le_trans (by decide) hb)
        have et : tyM .append (.obj 2) [A, B, .lst (qs.map P2D)] = .ok () [A, B, .lst (qs.map P2D)] := rfl
        rw [bindS et] at ea
        rw [List.map_append]
        have ev : (SM (n + 1) (.tup (.cons (.bin .Add (.bin .Add (.cst (.int 6)) (.bin .Mod (.bin .FloorDiv (.var 1) (.cst (.int 4))) (.cst (.int 1000)))) (.var 12)) (.cons (.var 11) .nil)))).v (rhoP sc f tail (some (.int k)) (some (.str w)) (some (.int j))) [A, B, .lst (qs.map P2D)] = .ok (P2D (6 + f / 4 % 1000 + j, w)) [A, B, .lst (qs.map P2D)] := by
          simp only [rhoP, sem, Sem.of, bind_def, pure_def, List.getElem?_cons_zero, List.getElem?_cons_succ, divM (j := 4) (by decide) (by decide), modM (j := 1000) (by decide), addM, egr]
          rfl
        have es : (SM (n + 1) (.cons (.tup (.cons (.bin .Add (.bin .Add (.cst (.int 6)) (.bin .Mod (.bin .FloorDiv (.var 1) (.cst (.int 4))) (.cst (.int 1000)))) (.var 12)) (.cons (.var 11) .nil))) .nil)).s (rhoP sc f tail (some (.int k)) (some (.str w)) (some (.int j))) [A, B, .lst (qs.map P2D)] = .ok [P2D (6 + f / 4 % 1000 + j, w)] [A, B, .lst (qs.map P2D)] := (bindS ev).trans rfl
        exact (bindS (show (SM (n + 1) (.var 5)).v (rhoP sc f tail (some (.int k)) (some (.str w)) (some (.int j))) [A, B, .lst (qs.map P2D)] = .ok (.obj 2) [A, B, .lst (qs.map P2D)] from rfl)).trans ((bindS et).trans ((bindS es).trans ea))
      · rcases List.mem_append.mp hp' with h | h
        · exact hp p h
        · rw [List.mem_singleton.mp h]
          exact hw.2) (ρ := rhoP sc f tail (some (.int k)) (some (.str w)) c) (s := [A, B, .lst (ps.map P2D)]) ⟨c, ps, rfl, rfl, Nat.le_refl _, hps⟩
  subst e1 e2
  refine ⟨c', qs, ex_for (w := (ds, .no)) (s1 := [A, B, .lst (ps.map P2D)]) ?_ rfl hr rfl, by omega, e4⟩
  have hm := (mx_ok (c := f) (k := 50 + (k : Int)) (by omega) (by omega)).2.2 n [A, B, .lst (ps.map P2D)]
  have e5 : rngM [.int (mx f (50 + (k : Int)) % 4)] [A, B, .lst (ps.map P2D)] = .ok (ds, .no) [A, B, .lst (ps.map P2D)] := by
    unfold rngM
    dsimp only
    rw [bindS (grdS (show small _ from ⟨by omega, by omega⟩))]
    rfl
  simp only [iIn, rhoP, sem, Sem.of, bind_def, pure_def, List.getElem?_cons_zero, List.getElem?_cons_succ, addM, hm, modM (j := 4) (by decide), e5]
theorem pairs_run (sc : D) (f : Int) (tail : Option Int) (ws : List Str) (B : Cell) (hl : ws.length ≤ 40) (hw : ∀ w ∈ ws, Wok w) (n : Nat) :
    ∃ (a b c : Option D) (qs : List (Int × Str)), EX (n + 1) (.for (.tp [10, 11]) (.enm (.var 2)) (.for (.nm 12) iIn bIn)) (rhoP sc f tail none none none) [.lst (ws.map .str), B, .lst []] = .ok (.nx (rhoP sc f tail a b c)) [.lst (ws.map .str), B, .lst (qs.map P2D)] ∧ qs.length ≤ 160 ∧ ∀ p ∈ qs, Pok p := by
  let ds : List D := (ws.map D.str).mapIdx fun k x => D.tup [.int k, x]
  have hds : ds.length = ws.length := by simp [ds]
  obtain ⟨ρ', s', hr, a, b, c, qs, e1, e2, e3, e4⟩ := for_all (t := .tp [10, 11]) (g := .ls 0 (ws.map .str)) (ds := ds) (b := EX (n + 1) (.for (.nm 12) iIn bIn))
    (I := fun i ρ s => ∃ (a b c : Option D) (qs : List (Int × Str)), ρ = rhoP sc f tail a b c ∧ s = [.lst (ws.map .str), B, .lst (qs.map P2D)] ∧ qs.length ≤ 4 * i ∧ ∀ p ∈ qs, Pok p)
    (fun i ρ s _ hI => by
      obtain ⟨a, b, c, qs, rfl, rfl, _⟩ := hI
      exact rfl) (fun i d ρ s hd hI => by
      obtain ⟨a, b, c, qs, rfl, rfl, hq, hp⟩ := hI
      have hi : i < ws.length := by rw [← hds]; exact (List.getElem?_eq_some_iff.mp hd).1
      have hd' : d = .tup [.int (i : Int), .str ws[i]] := by
        simp only [ds, List.getElem?_mapIdx, List.getElem?_map, List.getElem?_eq_getElem hi, Option.map_some, Option.some.injEq] at hd
        exact hd.symm
      subst hd'
      obtain ⟨c', qs', h1, h2, h3⟩ := inner_run sc f tail i ws[i] c (.lst (ws.map .str)) B qs (by omega) (hw _ (List.getElem_mem _)) hp (by omega) n
      exact ⟨rhoP sc f tail (some (.int i)) (some (.str ws[i])) c, _, _, rfl, .inl h1, _, _, _, qs', rfl, rfl, by omega, h3⟩) (ρ := rhoP sc f tail none none none) (s := [.lst (ws.map .str), B, .lst []]) ⟨none, none, none, [], rfl, rfl, Nat.zero_le _, fun _ h => by cases h⟩
  subst e1 e2
  refine ⟨a, b, c, qs, ex_for (w := (ds, .ls 0 (ws.map .str))) (s1 := [.lst (ws.map .str), B, .lst []]) ?_ rfl hr rfl, by omega, e4⟩
  have e5 : walkL (.obj 0) [.lst (ws.map .str), B, .lst []] = .ok (ws.map .str, .ls 0 (ws.map .str)) [.lst (ws.map .str), B, .lst []] := rfl
  simp only [rhoP, sem, Sem.of, bind_def, pure_def, List.getElem?_cons_zero, List.getElem?_cons_succ, e5]
  rfl
theorem eqP_same {lv : Nat} {a b : D} {s : Store} {x : PyData} (h1 : rd s a = some x) (h2 : rd s b = some x) (h3 : x.canLay0 = true) (h4 : x.depth ≤ 200) : eqP lv a b s = .ok (.bl true) s := by
  have e1 : eqP lv a b s = (match rd s a, rd s b with
      | some x, some y => do
        grd (x.canLay0 = true ∧ y.canLay0 = true ∧ min x.depth y.depth ≤ 200 + 16 * lv)
        pure (D.bl (PyData.eqv x y))
      | _, _ => (bad : M D)) s := rfl
  rw [e1, h1, h2]
  dsimp only
  rw [bindS (grdS ⟨h3, h3, by omega⟩), SeqAt.eqv_refl _ h3]
  rfl
theorem eqM_same {lv : Nat} {a b : D} {s : Store} {x : PyData} (h1 : rd s a = some x) (h2 : rd s b = some x) (h3 : x.canLay0 = true) (h4 : x.depth ≤ 200) (hl : lenL s a = lenL s b) : eqM lv a b s = .ok (.bl true) s := by
  have e1 : eqM lv a b s = (match lenL s a, lenL s b with
    | some m, some n => if m ≠ n then (pure (D.bl false) : M D) else if m = 0 then pure (D.bl true) else eqP lv a b
    | _, _ => eqP lv a b) s := rfl
  rw [e1, hl]
  cases q : lenL s b with
  | none => exact eqP_same h1 h2 h3 h4
  | some m =>
    dsimp only
    rw [if_neg (by simp)]
    split
    · rfl
    · exact eqP_same h1 h2 h3 h4
theorem kd_ok (w : Str) : ∃ x, pd (kd w) = some x ∧ x.canLay0 = true ∧ x.depth ≤ 2 := by
  have h1 : PyData.strOk (Str.ofString "num") = true := by decide +kernel
  have h2 : PyData.strOk (Str.ofString "var") = true := by decide +kernel
  have h3 : PyData.strOk (Str.ofString "fun") = true := by decide +kernel
  unfold kd
  split
  · exact ⟨_, rfl, by simp [PyData.canLay0, PyData.canLayAll0, h1], by simp [PyData.depth, PyData.depthAll]⟩
  · exact ⟨_, rfl, by simp [PyData.canLay0, PyData.canLayAll0, h2], by simp [PyData.depth, PyData.depthAll]⟩
  · exact ⟨_, rfl, by simp [PyData.canLay0, PyData.canLayAll0, h1, h3], by simp [PyData.depth, PyData.depthAll]⟩
theorem flds_ok : ∀ {ls : List Str}, (∀ w ∈ ls, Wok w) → ∃ xs, pds (ls.map fld) = some xs ∧ PyData.canLayAll0 xs = true ∧ PyData.depthAll xs ≤ 3
  | [], _ => ⟨[], rfl, rfl, by simp [PyData.depthAll]⟩
  | w :: ls, h => by
    obtain ⟨xs, h1, h2, h3⟩ := flds_ok (ls := ls) fun v hv => h v (List.mem_cons_of_mem _ hv)
    obtain ⟨x, k1, k2, k3⟩ := kd_ok w
    refine ⟨.tuple [.str w, x] :: xs, ?_, ?_, ?_⟩
    · have e : pd (fld w) = some (.tuple [.str w, x]) := by
        show pd (.tup [.str w, kd w]) = _
        rw [pd, pds, pds, k1]
        rfl
      rw [List.map_cons, pds, e, h1]
      rfl
    · rw [PyData.canLayAll0, h2]
      simp [PyData.canLay0, PyData.canLayAll0, (h w List.mem_cons_self).2, k2]
    · simp only [PyData.depthAll, PyData.depth]
      omega
theorem row_ok {ls : List Str} (tail : Option Int) (h : ∀ w ∈ ls, Wok w) : ∃ x, pd (rowD ls tail) = some x ∧ x.canLay0 = true ∧ x.depth ≤ 10 := by
  have h1 : PyData.strOk (Str.ofString "row") = true := by decide +kernel
  obtain ⟨xs, k1, k2, k3⟩ := flds_ok h
  have ht : ∃ y, pd (tD tail) = some y ∧ y.canLay0 = true ∧ y.depth = 0 := by
    cases tail with
    | none => exact ⟨_, rfl, rfl, rfl⟩
    | some t => exact ⟨_, rfl, rfl, rfl⟩
  obtain ⟨y, t1, t2, t3⟩ := ht
  refine ⟨.tuple [.str (Str.ofString "row"), .tuple xs, y], ?_, ?_, ?_⟩
  · show pd (.tup [.str (Str.ofString "row"), .tup (ls.map fld), tD tail]) = _
    rw [pd, pds, pds, pds, pd, pd, k1, t1]
    rfl
  · simp [PyData.canLay0, PyData.canLayAll0, h1, k2, t2]
  · simp only [PyData.depthAll, PyData.depth]
    omega
theorem kd_at (w : Str) : atI [numD, .tup [.str (Str.ofString "var"), .int 5], .tup [.str (Str.ofString "fun"), numD, numD]] ((w.length : Int) % 3) = some (kd w) := by
  have e : (w.length : Int) % 3 = ((w.length % 3 : Nat) : Int) := by omega
  have h : w.length % 3 = 0 ∨ w.length % 3 = 1 ∨ w.length % 3 = 2 := by omega
  rw [e]
  unfold kd
  rcases h with h | h | h <;> rw [h] <;> rfl
def fldE : E := (.tup (.cons (.var 11) (.cons (.idx (.lst (.cons (.tup (.cons (.cst (.str (Str.ofString "num"))) .nil)) (.cons (.tup (.cons (.cst (.str (Str.ofString "var"))) (.cons (.cst (.int 5)) .nil))) (.cons (.tup (.cons (.cst (.str (Str.ofString "fun"))) (.cons (.tup (.cons (.cst (.str (Str.ofString "num"))) .nil)) (.cons (.tup (.cons (.cst (.str (Str.ofString "num"))) .nil)) .nil)))) .nil)))) (.bin .Mod (.bif .len (.cons (.var 11) .nil)) (.cst (.int 3)))) .nil)))
def fF : D → D
  | .str w => fld w
  | d => d
def rhoQ (sc : D) (f : Int) (tail : Option Int) (a b c : Option D) : Rho := [some sc, some (.int f), some (.obj 0), some (.obj 1), some (tD tail), some (.obj 3), none, none, none, none, a, b, c]
theorem fld_run (sc : D) (f : Int) (tail : Option Int) (a c : Option D) (w : Str) (hw : Wok w) (n : Nat) (s : Store) : ∃ u, (SM n fldE).v (rhoQ sc f tail a (some (.str w)) c) s = .ok (fld w) (s ++ u) := by
  have hb := big1000
  refine ⟨[.lst [numD, .tup [.str (Str.ofString "var"), .int 5], .tup [.str (Str.ofString "fun"), numD, numD]]], ?_⟩
  have g1 : ∀ (ds : List D) (s : Store), ds.length ≤ 10 → (grd (ds.length ≤ SZ) : M Unit) s = .ok () s := fun ds s h => grdS (by omega)
  have ex : (SM n (.lst (.cons (.tup (.cons (.cst (.str (Str.ofString "num"))) .nil)) (.cons (.tup (.cons (.cst (.str (Str.ofString "var"))) (.cons (.cst (.int 5)) .nil))) (.cons (.tup (.cons (.cst (.str (Str.ofString "fun"))) (.cons (.tup (.cons (.cst (.str (Str.ofString "num"))) .nil)) (.cons (.tup (.cons (.cst (.str (Str.ofString "num"))) .nil)) .nil)))) .nil))))).v (rhoQ sc f tail a (some (.str w)) c) s = .ok (.obj s.length) (s ++ [.lst [numD, .tup [.str (Str.ofString "var"), .int 5], .tup [.str (Str.ofString "fun"), numD, numD]]]) := by
    have z1 := g1 [D.str (Str.ofString "num")] s (by decide)
    have z2 := g1 [D.str (Str.ofString "var"), .int 5] s (by decide)
    have z3 := g1 [D.str (Str.ofString "fun"), .tup [D.str (Str.ofString "num")], .tup [D.str (Str.ofString "num")]] s (by decide)
    have z4 := g1 [.tup [D.str (Str.ofString "num")], .tup [D.str (Str.ofString "var"), .int 5], .tup [D.str (Str.ofString "fun"), .tup [D.str (Str.ofString "num")], .tup [D.str (Str.ofString "num")]]] s (by decide)
    simp only [sem, Sem.of, bind_def, pure_def, z1, z2, z3, z4]
    rfl
  have el : ∀ t, bifM .len [.str w] t = .ok (.int w.length) t := fun t => by
    show lenM (.str w) t = _
    unfold lenM
    dsimp only
    rw [bindS (grdS (by have := hw.1; omega))]
    rfl
  have ei : idxM (.obj s.length) (.int ((w.length : Int) % 3)) (s ++ [.lst [numD, .tup [.str (Str.ofString "var"), .int 5], .tup [.str (Str.ofString "fun"), numD, numD]]]) = .ok (kd w) (s ++ [.lst [numD, .tup [.str (Str.ofString "var"), .int 5], .tup [.str (Str.ofString "fun"), numD, numD]]]) := by
    unfold idxM
    dsimp only
    rw [bindS getC_last]
    dsimp only
    rw [kd_at]
    rfl
  have em : (SM n (.bin .Mod (.bif .len (.cons (.var 11) .nil)) (.cst (.int 3)))).v (rhoQ sc f tail a (some (.str w)) c) (s ++ [.lst [numD, .tup [.str (Str.ofString "var"), .int 5], .tup [.str (Str.ofString "fun"), numD, numD]]]) = .ok (.int ((w.length : Int) % 3)) (s ++ [.lst [numD, .tup [.str (Str.ofString "var"), .int 5], .tup [.str (Str.ofString "fun"), numD, numD]]]) := by
    simp only [rhoQ, sem, Sem.of, bind_def, pure_def, List.getElem?_cons_zero, List.getElem?_cons_succ, el, modM (j := 3) (by decide)]
  have e1 := (bindS ex (f := fun x => (SM n (.bin .Mod (.bif .len (.cons (.var 11) .nil)) (.cst (.int 3)))).v (rhoQ sc f tail a (some (.str w)) c) >>= fun y => idxM x y)).trans ((bindS em).trans ei)
  have e1b : (SM n (.cons (.idx (.lst (.cons (.tup (.cons (.cst (.str (Str.ofString "num"))) .nil)) (.cons (.tup (.cons (.cst (.str (Str.ofString "var"))) (.cons (.cst (.int 5)) .nil))) (.cons (.tup (.cons (.cst (.str (Str.ofString "fun"))) (.cons (.tup (.cons (.cst (.str (Str.ofString "num"))) .nil)) (.cons (.tup (.cons (.cst (.str (Str.ofString "num"))) .nil)) .nil)))) .nil)))) (.bin .Mod (.bif .len (.cons (.var 11) .nil)) (.cst (.int 3)))) .nil)).s (rhoQ sc f tail a (some (.str w)) c) s = .ok [kd w] (s ++ [.lst [numD, .tup [.str (Str.ofString "var"), .int 5], .tup [.str (Str.ofString "fun"), numD, numD]]]) := (bindS e1).trans rfl
  have e2 : (SM n (.cons (.var 11) (.cons (.idx (.lst (.cons (.tup (.cons (.cst (.str (Str.ofString "num"))) .nil)) (.cons (.tup (.cons (.cst (.str (Str.ofString "var"))) (.cons (.cst (.int 5)) .nil))) (.cons (.tup (.cons (.cst (.str (Str.ofString "fun"))) (.cons (.tup (.cons (.cst (.str (Str.ofString "num"))) .nil)) (.cons (.tup (.cons (.cst (.str (Str.ofString "num"))) .nil)) .nil)))) .nil)))) (.bin .Mod (.bif .len (.cons (.var 11) .nil)) (.cst (.int 3)))) .nil))).s (rhoQ sc f tail a (some (.str w)) c) s = .ok [.str w, kd w] (s ++ [.lst [numD, .tup [.str (Str.ofString "var"), .int 5], .tup [.str (Str.ofString "fun"), numD, numD]]]) :=
    (bindS (show (SM n (.var 11)).v (rhoQ sc f tail a (some (.str w)) c) s = .ok (.str w) s from rfl)).trans ((bindS e1b).trans rfl)
  exact (bindS e2).trans ((bindS (g1 [D.str w, kd w] _ (show 2 ≤ 10 by decide))).trans rfl)
theorem fields_run (sc : D) (f : Int) (tail : Option Int) (a b c : Option D) (ls : List Str) (hl : ls.length ≤ 40) (hw : ∀ w ∈ ls, Wok w) (W P Q : Cell) (n : Nat) : ∃ u, (SM n (.lc (.nm 11) [11] (.var 3) .nil fldE)).v (rhoQ sc f tail a b c) [W, .lst (ls.map .str), P, Q] = .ok (.obj (4 + u.length)) ([W, .lst (ls.map .str), P, Q] ++ (u ++ [.lst (ls.map fld)])) := by
  have hb := big1000
  obtain ⟨u, h⟩ := lc_grow (t := .nm 11) (c := (SM n .nil).t) (e := (SM n fldE).v) (g := .ls 1 (ls.map .str)) (ρ := rhoQ sc f tail a none c) (k := fun _ => true) (f := fF) (ds := ls.map .str) (s := [W, .lst (ls.map .str), P, Q]) (fun s' ⟨u, e'⟩ => by
    subst e'
    refine ⟨rfl, fun d hd => ?_⟩
    obtain ⟨w, hm, rfl⟩ := List.mem_map.mp hd
    exact ⟨rhoQ sc f tail a (some (.str w)) c, rfl, rfl, fun _ => fld_run sc f tail a c w (hw w hm) n _⟩)
  refine ⟨u, ?_⟩
  have e : ((ls.map D.str).filter fun _ => true).map fF = ls.map fld := by
    rw [List.filter_eq_self.mpr (by simp), List.map_map]
    rfl
  rw [e] at h
  have e1 : (SM n (.var 3)).i (rhoQ sc f tail a b c) [W, .lst (ls.map .str), P, Q] = .ok (ls.map .str, .ls 1 (ls.map .str)) [W, .lst (ls.map .str), P, Q] := rfl
  refine (bindS (lcMS e1 rfl (by rw [List.length_map]; omega) rfl h rfl)).trans ?_
  rw [allocS, List.length_append, List.append_assoc]
  rfl
def rhoL (sc : D) (f : Int) (tail : Option Int) (F H : Nat) (ls : List Str) (z a b c : Option D) : Rho := [some sc, some (.int f), some (.obj 0), some (.obj 1), some (tD tail), some (.obj 3), some (.obj F), some (rowD ls tail), some (.obj H), z, a, b, c]
def bodyL : S := (.ite (.not (.cal 1004 (.cons (.cal 104 (.cons (.var 7) (.cons (.var 9) (.cons (.var 8) .nil)))) (.cons (.cal 1005 (.cons (.var 3) (.cons (.var 4) (.cons (.var 9) (.cons (.var 5) .nil))))) .nil))))
  (.ret (.cst (.bl false)))
  .skip)
theorem body_run (sc : D) (f : Int) (tail : Option Int) (F H : Nat) (ls : List Str) (qs : List (Int × Str)) (w : Str) (a b c : Option D) (n : Nat) (s : Store) (hn : ls.length ≤ 40) (hw : PyData.strOk w = true) (hq : ∀ p ∈ qs, Pok p) (h1 : s[1]? = some (.lst (ls.map .str))) (h3 : s[3]? = some (.lst (qs.map P2D))) (hH : s[H]? = some (.lst (qs.map P2D))) :
    EX (n + 2) bodyL (rhoL sc f tail F H ls (some (.str w)) a b c) s = .ok (.nx (rhoL sc f tail F H ls (some (.str w)) a b c)) s := by
  have hb := big1000
  have e1 := offset_run ls tail w qs (by omega) hw hq H (n + 1) s hH
  have e2 := due_run ls tail w qs hw hq 1 3 (n + 1) s h1 h3
  have e3 := good_run (les ls w) (res tail w qs) (by
    unfold res
    cases tail with
    | none => exact .inl rfl
    | some t =>
      dsimp only
      cases firstEq (ask t w) (qs.map P2P) 0 with
      | none => exact .inl rfl
      | some j => exact .inr ⟨_, rfl⟩) n s
  unfold bodyL
  refine (ex_f (s1 := s) ?_).trans rfl
  · simp only [rhoL, sem, Sem.of, bind_def, pure_def, List.getElem?_cons_zero, List.getElem?_cons_succ, e1, e2, e3, truM, Bool.not_true]
theorem loop_run (sc : D) (f : Int) (tail : Option Int) (F H G : Nat) (ls ws : List Str) (qs : List (Int × Str)) (a b c : Option D) (n : Nat) (s : Store) (hn : ls.length ≤ 40) (hw : ∀ w ∈ ws, PyData.strOk w = true) (hq : ∀ p ∈ qs, Pok p) (h1 : s[1]? = some (.lst (ls.map .str))) (h3 : s[3]? = some (.lst (qs.map P2D))) (hH : s[H]? = some (.lst (qs.map P2D))) (hG : s[G]? = some (.lst (ws.map .str))) :
    ∃ z, forL (.nm 9) (EX (n + 2) bodyL) (.ls G (ws.map .str)) (ws.map .str) (rhoL sc f tail F H ls none a b c) s = .ok (.nx (rhoL sc f tail F H ls z a b c)) s := by
  obtain ⟨ρ', s', hr, z, e1, e2⟩ := for_all (t := .nm 9) (g := .ls G (ws.map .str)) (ds := ws.map .str) (b := EX (n + 2) bodyL)
    (I := fun i ρ s' => ∃ z, ρ = rhoL sc f tail F H ls z a b c ∧ s' = s) (fun i ρ s' _ hI => by
      obtain ⟨z, rfl, rfl⟩ := hI
      exact hG) (fun i d ρ s' hd hI => by
      obtain ⟨z, rfl, rfl⟩ := hI
      have hm := List.mem_of_getElem? hd
      obtain ⟨w, hm2, rfl⟩ := List.mem_map.mp hm
      exact ⟨rhoL sc f tail F H ls (some (.str w)) a b c, _, _, rfl, .inl (body_run sc f tail F H ls qs w a b c n s' hn (hw w hm2) hq h1 h3 hH), _, rfl, rfl⟩) (ρ := rhoL sc f tail F H ls none a b c) (s := s) ⟨none, rfl, rfl⟩
  subst e1 e2
  exact ⟨z, hr⟩
def retE : E := (.and (.cmp .Eq (.var 8) (.var 5)) (.cmp .Eq (.var 7) (.tup (.cons (.cst (.str (Str.ofString "row"))) (.cons (.seq .tuple (.var 6)) (.cons (.var 4) .nil))))))
theorem tupF {F : Nat} {ls : List Str} {s : Store} (hF : s[F]? = some (.lst (ls.map fld))) (sc : D) (f : Int) (tail : Option Int) (g z a b c h : Option D) (n : Nat) : (SM n (.tup (.cons (.cst (.str (Str.ofString "row"))) (.cons (.seq .tuple (.var 6)) (.cons (.var 4) .nil))))).v [some sc, some (.int f), some (.obj 0), some (.obj 1), some (tD tail), some (.obj 3), some (.obj F), g, h, z, a, b, c] s = .ok (rowD ls tail) s := by
  have e1 : rowK (.obj F) s = .ok (.l, ls.map fld) s := by
    unfold rowK
    dsimp only
    rw [bindS (getC_of hF)]
    rfl
  have e2 : seqM .tuple (.l, ls.map fld) s = .ok (.tup (ls.map fld)) s := by
    unfold seqM
    dsimp only
    rw [bindS (grdS (by decide))]
    rfl
  have e3 : (grd ([D.str (Str.ofString "row"), .tup (ls.map fld), tD tail].length ≤ SZ) : M Unit) s = .ok () s := grdS (show 3 ≤ SZ by decide)
  simp only [sem, Sem.of, bind_def, pure_def, List.getElem?_cons_zero, List.getElem?_cons_succ, e1, e2, e3]
  rfl
theorem ret_run (sc : D) (f : Int) (tail : Option Int) (F H : Nat) (ls : List Str) (qs : List (Int × Str)) (z a b c : Option D) (n : Nat) (s : Store) (hw : ∀ w ∈ ls, Wok w) (hq : ∀ p ∈ qs, Pok p) (h3 : s[3]? = some (.lst (qs.map P2D))) (hH : s[H]? = some (.lst (qs.map P2D))) (hF : s[F]? = some (.lst (ls.map fld))) :
    (SM n retE).v (rhoL sc f tail F H ls z a b c) s = .ok (.bl true) s := by
  have r1 : rd s (.obj 3) = some (.list (qs.map P2P)) := by
    unfold rd
    dsimp only
    rw [h3]
    dsimp only
    rw [pds_pairs]
    rfl
  have r2 : rd s (.obj H) = some (.list (qs.map P2P)) := by
    unfold rd
    dsimp only
    rw [hH]
    dsimp only
    rw [pds_pairs]
    rfl
  have l1 : lenL s (.obj H) = lenL s (.obj 3) := by
    unfold lenL
    dsimp only
    rw [h3, hH]
  have q1 : eqM n (.obj H) (.obj 3) s = .ok (.bl true) s := eqM_same r2 r1 (by rw [PyData.canLay0]; exact lay_pairs hq) (by rw [PyData.depth]; have := depth_pairs qs; omega) l1
  obtain ⟨x, k1, k2, k3⟩ := row_ok tail hw
  have q2 : eqM n (rowD ls tail) (rowD ls tail) s = .ok (.bl true) s := eqM_same (show rd s (rowD ls tail) = some x from k1) k1 k2 (by omega) rfl
  have et := tupF hF sc f tail (some (rowD ls tail)) z a b c (some (.obj H)) n
  have c1 : (SM n (.cmp .Eq (.var 8) (.var 5))).v (rhoL sc f tail F H ls z a b c) s = .ok (.bl true) s := q1
  have c2 : (SM n (.cmp .Eq (.var 7) (.tup (.cons (.cst (.str (Str.ofString "row"))) (.cons (.seq .tuple (.var 6)) (.cons (.var 4) .nil)))))).v (rhoL sc f tail F H ls z a b c) s = .ok (.bl true) s :=
    (bindS (show (SM n (.var 7)).v (rhoL sc f tail F H ls z a b c) s = .ok (rowD ls tail) s from rfl)).trans ((bindS et).trans q2)
  exact (bindS c1).trans c2
def rho0 (sc : D) (f : Int) (r : List (Option D)) : Rho := some sc :: some (.int f) :: r
theorem first_run (ns : List Int) (n : Nat) (r : List (Option D)) : ∃ f : Int, EX (n + 1) (.ite (.cmp .Gt (.bif .len (.cons (.var 0) .nil)) (.cst (.int 0)))
  (.asg (.nm 1) (.cal 1001 (.cons (.idx (.var 0) (.cst (.int 0))) (.cons (.cst (.int 100)) .nil))))
  .skip) (some (.wl (ns.map .int)) :: some (.int 0) :: r) [] = .ok (.nx (some (.wl (ns.map .int)) :: some (.int f) :: r)) [] := by
  have el : bifM .len [.wl (ns.map .int)] [] = .ok (.int ((ns.map D.int).length : Nat)) [] := rfl
  cases ns with
  | nil => exact ⟨0, (ex_f (s1 := []) rfl).trans rfl⟩
  | cons c ns =>
    have hm := (mx_ok (c := c) (k := 100) (by decide) (by decide)).2.2 n []
    have ei : idxM (.wl ((c :: ns).map .int)) (.int 0) [] = .ok (.int c) [] := by
      show opt (atI (D.int c :: ns.map .int) 0) [] = _
      rw [show atI (D.int c :: ns.map .int) 0 = some (.int c) by simp [atI, ixN]]
      rfl
    refine ⟨mx c 100, (ex_t (s1 := []) ?_).trans (ex_asg (d := .int (mx c 100)) ?_)⟩
    · simp only [sem, Sem.of, Sem.tst, bind_def, pure_def, List.getElem?_cons_zero, el, cmpM, blM]
      congr 1
      simp
    · simp only [sem, Sem.of, Sem.tst, bind_def, pure_def, List.getElem?_cons_zero, ei, hm]
theorem tail_run (sc : D) (f : Int) (n : Nat) (s : Store) (a b : Option D) (r : List (Option D)) : ∃ tail : Option Int, EX n (.ite (.cmp .Gt (.bin .Mod (.var 1) (.cst (.int 4))) (.cst (.int 0)))
  (.asg (.nm 4) (.bin .Add (.cst (.int 6)) (.bin .Mod (.bin .FloorDiv (.var 1) (.cst (.int 4))) (.cst (.int 1000)))))
  .skip) (some sc :: some (.int f) :: a :: b :: some .non :: r) s = .ok (.nx (some sc :: some (.int f) :: a :: b :: some (tD tail) :: r)) s := by
  have ec : (SM n (.cmp .Gt (.bin .Mod (.var 1) (.cst (.int 4))) (.cst (.int 0)))).t (some sc :: some (.int f) :: a :: b :: some .non :: r) s = .ok (decide (0 < f % 4)) s := by
    simp only [sem, Sem.of, Sem.tst, bind_def, pure_def, List.getElem?_cons_zero, List.getElem?_cons_succ, modM (j := 4) (by decide), cmpM, blM]
  cases q : decide (0 < f % 4) with
  | true =>
    rw [q] at ec
    refine ⟨some (6 + f / 4 % 1000), (ex_t ec).trans (ex_asg (d := .int (6 + f / 4 % 1000)) ?_)⟩
    simp only [sem, Sem.of, Sem.tst, bind_def, pure_def, List.getElem?_cons_zero, List.getElem?_cons_succ, divM (j := 4) (by decide) (by decide), modM (j := 1000) (by decide), addM]
  | false =>
    rw [q] at ec
    exact ⟨none, (ex_f ec).trans rfl⟩
theorem plain (ns : List Int) (hns : ns.length ≤ 63) : ∃ s', call Pr 200 1006 [.wl (ns.map .int)] [] = .ok (.bl true) s' := by
  have hb := big1000
  let sc : D := .wl (ns.map .int)
  obtain ⟨f, hf⟩ := first_run ns 198 [none, none, none, none, none, none, none, none, none, none, none]
  obtain ⟨ws, hw1, hw2, hw3⟩ := words_run ns hns
  obtain ⟨ls, hl1, hl2, hl3⟩ := labels_run sc f ws hw1 hw2 198 [] _ rfl
  obtain ⟨tail, ht⟩ := tail_run sc f 199 [.lst (ws.map .str), .lst (ls.map .str)] (some (.obj 0)) (some (.obj 1)) [none, none, none, none, none, none, none, none]
  obtain ⟨a, b, c, ps, hp1, hp2, hp3⟩ := pairs_run sc f tail ws (.lst (ls.map .str)) hw1 hw2 198
  obtain ⟨qs, hq1, hq2, hq3⟩ := sort_pairs (ps := ps) (s := [.lst (ws.map .str), .lst (ls.map .str), .lst (ps.map P2D)]) hp3
  obtain ⟨u, hu⟩ := fields_run sc f tail a b c ls hl1 hl2 (.lst (ws.map .str)) (.lst (ps.map P2D)) (.lst (qs.map P2D)) 199
  let s1 : Store := [.lst (ws.map .str), .lst (ls.map .str), .lst (ps.map P2D), .lst (qs.map P2D)] ++ (u ++ [.lst (ls.map fld)])
  have hF : s1[4 + u.length]? = some (.lst (ls.map fld)) := by
    show ([Cell.lst (ws.map .str), .lst (ls.map .str), .lst (ps.map P2D), .lst (qs.map P2D)] ++ (u ++ [.lst (ls.map fld)]))[4 + u.length]? = _
    rw [List.getElem?_append_right (by simp), List.getElem?_append_right (by simp)]
    simp
  let H : Nat := s1.length
  let azs : List Str := [Str.ofString "a", Str.ofString "zzzzzzzz"]
  let s2 : Store := s1 ++ [.lst (qs.map P2D)]
  let s3 : Store := s2 ++ [.lst (azs.map .str)]
  let s4 : Store := s3 ++ [.lst ((ws ++ azs).map .str)]
  have k1 : ∀ i, i < s1.length → s4[i]? = s1[i]? := fun i hi => by
    show (((s1 ++ [_]) ++ [_]) ++ [_])[i]? = _
    rw [List.append_assoc, List.append_assoc, List.getElem?_append_left hi]
  have hlen : 4 ≤ s1.length := by simp [s1]
  have hH : s4[H]? = some (.lst (qs.map P2D)) := by
    show (((s1 ++ [_]) ++ [_]) ++ [_])[s1.length]? = _
    rw [List.append_assoc, List.append_assoc, at_app0]
    rfl
  have h1 : s4[1]? = some (.lst (ls.map .str)) := (k1 1 (by omega)).trans rfl
  have h3 : s4[3]? = some (.lst (qs.map P2D)) := (k1 3 (by omega)).trans rfl
  have hF4 : s4[4 + u.length]? = some (.lst (ls.map fld)) := (k1 _ (List.getElem?_eq_some_iff.mp hF).1).trans hF
  have hG : s4[s3.length]? = some (.lst ((ws ++ azs).map .str)) := at_app0.trans rfl
  have hwz : ∀ w ∈ ws ++ azs, PyData.strOk w = true := fun w hw => by
    rcases List.mem_append.mp hw with h | h
    · exact (hw2 w h).2
    · have e1 : PyData.strOk (Str.ofString "a") = true := by decide +kernel
      have e2 : PyData.strOk (Str.ofString "zzzzzzzz") = true := by decide +kernel
      simp only [azs, List.mem_cons, List.not_mem_nil, or_false] at h
      rcases h with rfl | rfl
      · exact e1
      · exact e2
  obtain ⟨z, hz⟩ := loop_run sc f tail (4 + u.length) H s3.length ls (ws ++ azs) qs a b c 197 s4 hl1 hwz hq2 h1 h3 hH hG
  have hr := ret_run sc f tail (4 + u.length) H ls qs z a b c 199 s4 hl2 hq2 h3 hH hF4
  refine ⟨s4, call_rt (d := d_law) (r := .bl true) (s' := s4) rfl rfl ?_ fin_any⟩
  show EX 199 b_law [some sc, none, none, none, none, none, none, none, none, none, none, none, none] [] = _
  unfold b_law
  refine (ex_sq (ex_asg (d := .int 0) rfl)).trans ?_
  refine (ex_sq hf).trans ?_
  refine (ex_sq (ex_asg (d := .obj 0) (s1 := [.lst (ws.map .str)]) ?_)).trans ?_
  · exact (bindS (show (SM 199 (.cons (.var 0) .nil)).s (some sc :: some (.int f) :: [none, none, none, none, none, none, none, none, none, none, none]) [] = .ok [sc] [] from rfl)).trans (hw3 197 [])
  refine (ex_sq (ex_asg hl3)).trans ?_
  refine (ex_sq (ex_asg (d := .non) rfl)).trans ?_
  refine (ex_sq ht).trans ?_
  refine (ex_sq (ex_asg (d := .obj 2) (s1 := [.lst (ws.map .str), .lst (ls.map .str), .lst []]) rfl)).trans ?_
  refine (ex_sq hp1).trans ?_
  refine (ex_sq (ex_asg (d := .obj 3) (s1 := [.lst (ws.map .str), .lst (ls.map .str), .lst (ps.map P2D), .lst (qs.map P2D)]) ?_)).trans ?_
  · exact (bindS (show (SM 199 (.var 5)).r (rhoP sc f tail a b c) [.lst (ws.map .str), .lst (ls.map .str), .lst (ps.map P2D)] = .ok (.l, ps.map P2D) [.lst (ws.map .str), .lst (ls.map .str), .lst (ps.map P2D)] from rfl)).trans hq3
  refine (ex_sq (ex_asg hu)).trans ?_
  refine (ex_sq (ex_asg (d := rowD ls tail) (s1 := s1) (tupF hF sc f tail none none a b c none 199))).trans ?_
  refine (ex_sq (ex_asg (d := .obj H) (s1 := s2) ?_)).trans ?_
  · exact (bindS (show (SM 199 (.var 5)).r _ s1 = .ok (.l, qs.map P2D) s1 from rfl)).trans rfl
  refine (ex_sq (ex_for (w := ((ws ++ azs).map .str, .ls s3.length ((ws ++ azs).map .str))) (s1 := s4) ?_ rfl hz rfl)).trans ?_
  · have a1 : (SM 199 (.lst (.cons (.cst (.str (Str.ofString "a"))) (.cons (.cst (.str (Str.ofString "zzzzzzzz"))) .nil)))).v (rhoL sc f tail (4 + u.length) H ls none a b c) s2 = .ok (.obj s2.length) s3 := rfl
    have g0 : s3[0]? = some (.lst (ws.map .str)) := rfl
    have a2 : binM .Add (.obj 0) (.obj s2.length) s3 = .ok (.obj s3.length) s4 := by
      unfold binM
      dsimp only
      rw [bindS (getC_of g0), bindS (getC_of (show s3[s2.length]? = some (.lst (azs.map .str)) from at_app0.trans rfl))]
      dsimp only
      rw [bindS (grdS (by simp [azs]; omega)), ← List.map_append]
      rfl
    have a3 : walkM (.obj s3.length) s4 = .ok ((ws ++ azs).map .str, .ls s3.length ((ws ++ azs).map .str)) s4 := by
      unfold walkM
      dsimp only
      rw [bindS (getC_of hG)]
      rfl
    have a4 : (SM 199 (.bin .Add (.var 2) (.lst (.cons (.cst (.str (Str.ofString "a"))) (.cons (.cst (.str (Str.ofString "zzzzzzzz"))) .nil))))).v (rhoL sc f tail (4 + u.length) H ls none a b c) s2 = .ok (.obj s3.length) s4 :=
      (bindS (show (SM 199 (.var 2)).v (rhoL sc f tail (4 + u.length) H ls none a b c) s2 = .ok (.obj 0) s2 from rfl)).trans ((bindS a1).trans a2)
    exact (bindS a4).trans a3
  exact ex_ret hr
end PI

namespace PI
theorem fa_nil {α : Type} {P : α → Prop} : ∀ p ∈ ([] : List α), P p := fun p h => by cases h
theorem fa_cons {α : Type} {P : α → Prop} {a : α} {l : List α} (h : P a) (t : ∀ p ∈ l, P p) : ∀ p ∈ a :: l, P p := fun p hp => (List.mem_cons.mp hp).elim (fun e => e ▸ h) (t p)
theorem all_mk {l : PySem.W.OpenLaw} {w : World} {K : PySem.W.Frag} {h : Heap} {mg : Str → Option Value} {fa : Addr} (X : K.In h) (G : h.Ns mainGlobals mg) (hfa : mg (Str.ofString "law") = some (.ref fa))
    {f0 : Addr} {od0 an0 : Option Addr} {sl0 : Array (Option Value)} {oc0 kV0 dc0 pm0 cd0 ct0 : Value}
    (a0 : PySem.W.nsIn K mainGlobals (Str.ofString "offset") = some (some (.ref f0)))
    (l0 : K.lookup f0 = some ⟨oc0, od0, .func (PySem.W.fnOf (Str.ofString "offset") (Str.ofString "offset") (defArgs (topS 1)) (defBody (topS 1)) (defScope (topS 1)) .none kV0 dc0 pm0 an0 cd0 ct0), sl0⟩)
    (c0 : PySem.W.codeIn K cd0 (Str.ofString "offset") = true)
    (k0 : PySem.W.keepIn K (.ref f0) = true)
    {f1 : Addr} {od1 an1 : Option Addr} {sl1 : Array (Option Value)} {oc1 kV1 dc1 pm1 cd1 ct1 : Value}
    (a1 : PySem.W.nsIn K mainGlobals (Str.ofString "_law_whole") = some (some (.ref f1)))
    (l1 : K.lookup f1 = some ⟨oc1, od1, .func (PySem.W.fnOf (Str.ofString "_law_whole") (Str.ofString "_law_whole") (defArgs (topS 3)) (defBody (topS 3)) (defScope (topS 3)) .none kV1 dc1 pm1 an1 cd1 ct1), sl1⟩)
    (c1 : PySem.W.codeIn K cd1 (Str.ofString "_law_whole") = true)
    (k1 : PySem.W.keepIn K (.ref f1) = true)
    {f2 : Addr} {od2 an2 : Option Addr} {sl2 : Array (Option Value)} {oc2 kV2 dc2 pm2 cd2 ct2 : Value}
    (a2 : PySem.W.nsIn K mainGlobals (Str.ofString "_law_mixed") = some (some (.ref f2)))
    (l2 : K.lookup f2 = some ⟨oc2, od2, .func (PySem.W.fnOf (Str.ofString "_law_mixed") (Str.ofString "_law_mixed") (defArgs (topS 4)) (defBody (topS 4)) (defScope (topS 4)) .none kV2 dc2 pm2 an2 cd2 ct2), sl2⟩)
    (c2 : PySem.W.codeIn K cd2 (Str.ofString "_law_mixed") = true)
    (k2 : PySem.W.keepIn K (.ref f2) = true)
    {f3 : Addr} {od3 an3 : Option Addr} {sl3 : Array (Option Value)} {oc3 kV3 dc3 pm3 cd3 ct3 : Value}
    (a3 : PySem.W.nsIn K mainGlobals (Str.ofString "_law_word") = some (some (.ref f3)))
    (l3 : K.lookup f3 = some ⟨oc3, od3, .func (PySem.W.fnOf (Str.ofString "_law_word") (Str.ofString "_law_word") (defArgs (topS 5)) (defBody (topS 5)) (defScope (topS 5)) .none kV3 dc3 pm3 an3 cd3 ct3), sl3⟩)
    (c3 : PySem.W.codeIn K cd3 (Str.ofString "_law_word") = true)
    (k3 : PySem.W.keepIn K (.ref f3) = true)
    {f4 : Addr} {od4 an4 : Option Addr} {sl4 : Array (Option Value)} {oc4 kV4 dc4 pm4 cd4 ct4 : Value}
    (a4 : PySem.W.nsIn K mainGlobals (Str.ofString "_law_words") = some (some (.ref f4)))
    (l4 : K.lookup f4 = some ⟨oc4, od4, .func (PySem.W.fnOf (Str.ofString "_law_words") (Str.ofString "_law_words") (defArgs (topS 6)) (defBody (topS 6)) (defScope (topS 6)) .none kV4 dc4 pm4 an4 cd4 ct4), sl4⟩)
    (c4 : PySem.W.codeIn K cd4 (Str.ofString "_law_words") = true)
    (k4 : PySem.W.keepIn K (.ref f4) = true)
    {f5 : Addr} {od5 an5 : Option Addr} {sl5 : Array (Option Value)} {oc5 kV5 dc5 pm5 cd5 ct5 : Value}
    (a5 : PySem.W.nsIn K mainGlobals (Str.ofString "_law_good") = some (some (.ref f5)))
    (l5 : K.lookup f5 = some ⟨oc5, od5, .func (PySem.W.fnOf (Str.ofString "_law_good") (Str.ofString "_law_good") (defArgs (topS 7)) (defBody (topS 7)) (defScope (topS 7)) .none kV5 dc5 pm5 an5 cd5 ct5), sl5⟩)
    (c5 : PySem.W.codeIn K cd5 (Str.ofString "_law_good") = true)
    (k5 : PySem.W.keepIn K (.ref f5) = true)
    {f6 : Addr} {od6 an6 : Option Addr} {sl6 : Array (Option Value)} {oc6 kV6 dc6 pm6 cd6 ct6 : Value}
    (a6 : PySem.W.nsIn K mainGlobals (Str.ofString "_law_due") = some (some (.ref f6)))
    (l6 : K.lookup f6 = some ⟨oc6, od6, .func (PySem.W.fnOf (Str.ofString "_law_due") (Str.ofString "_law_due") (defArgs (topS 8)) (defBody (topS 8)) (defScope (topS 8)) .none kV6 dc6 pm6 an6 cd6 ct6), sl6⟩)
    (c6 : PySem.W.codeIn K cd6 (Str.ofString "_law_due") = true)
    (k6 : PySem.W.keepIn K (.ref f6) = true)
    {f7 : Addr} {od7 an7 : Option Addr} {sl7 : Array (Option Value)} {oc7 kV7 dc7 pm7 cd7 ct7 : Value}
    (a7 : PySem.W.nsIn K mainGlobals (Str.ofString "law") = some (some (.ref f7)))
    (l7 : K.lookup f7 = some ⟨oc7, od7, .func (PySem.W.fnOf (Str.ofString "law") (Str.ofString "law") (defArgs (topS 9)) (defBody (topS 9)) (defScope (topS 9)) .none kV7 dc7 pm7 an7 cd7 ct7), sl7⟩)
    (c7 : PySem.W.codeIn K cd7 (Str.ofString "law") = true)
    (k7 : PySem.W.keepIn K (.ref f7) = true)
    (z0 : PySem.W.nsIn K mainGlobals (Str.ofString "len") = some none)
    (z1 : PySem.W.nsIn K mainGlobals (Str.ofString "int") = some none)
    (z2 : PySem.W.nsIn K mainGlobals (Str.ofString "str") = some none)
    (z3 : PySem.W.nsIn K mainGlobals (Str.ofString "abs") = some none)
    (z4 : PySem.W.nsIn K mainGlobals (Str.ofString "min") = some none)
    (z5 : PySem.W.nsIn K mainGlobals (Str.ofString "max") = some none)
    (z6 : PySem.W.nsIn K mainGlobals (Str.ofString "isinstance") = some none)
    (z7 : PySem.W.nsIn K mainGlobals (Str.ofString "tuple") = some none)
    (z8 : PySem.W.nsIn K mainGlobals (Str.ofString "list") = some none)
    (z9 : PySem.W.nsIn K mainGlobals (Str.ofString "sum") = some none)
    (z10 : PySem.W.nsIn K mainGlobals (Str.ofString "any") = some none)
    (z11 : PySem.W.nsIn K mainGlobals (Str.ofString "all") = some none)
    (z12 : PySem.W.nsIn K mainGlobals (Str.ofString "sorted") = some none)
    (z13 : PySem.W.nsIn K mainGlobals (Str.ofString "bool") = some none)
    (z14 : PySem.W.nsIn K mainGlobals (Str.ofString "dict") = some none)
    (z15 : PySem.W.nsIn K mainGlobals (Str.ofString "range") = some none)
    (z16 : PySem.W.nsIn K mainGlobals (Str.ofString "enumerate") = some none)
    (z17 : PySem.W.nsIn K mainGlobals (Str.ofString "zip") = some none)
    (z18 : PySem.W.nsIn K mainGlobals (Str.ofString "reversed") = some none)
    : ∃ fd : FuncData, (∀ (s : Shared) (v : Value), BindsTo s fd ⟨[v], []⟩ [((Str.ofString "_law_script"), v)]) ∧ ∀ base : Heap, K.In base → base.Ns mainGlobals mg → FnOk l.prog w K mg base (L2.CX l.prog w) 200 fa fd [(Str.ofString "_law_script")] (spLaw K) := by
  have e := hfa.symm.trans (PySem.W.mg_of X G a7)
  cases e
  have F0 := fun_mk (st := (topS 1)) l0 c0 k0
  have B0 := F0.binds (ps := [(Str.ofString "row"), (Str.ofString "label"), (Str.ofString "params")]) fun _ _ _ _ _ _ us hl => match us, hl with | [_, _, _], _ => rfl
  have D0 : DOk K Pr ccT 104 _ _ [(Str.ofString "row"), (Str.ofString "label"), (Str.ofString "params")] := ⟨_, _, (topS 1), N_offset, d_offset, F0, sc_offset, B0, rfl, rfl, rfl, cb_offset⟩
  have F1 := fun_mk (st := (topS 3)) l1 c1 k1
  have B1 := F1.binds (ps := [(Str.ofString "_law_found")]) fun _ _ _ _ _ _ us hl => match us, hl with | [_], _ => rfl
  have D1 : DOk K Pr ccT 1000 _ _ [(Str.ofString "_law_found")] := ⟨_, _, (topS 3), N__law_whole, d__law_whole, F1, sc__law_whole, B1, rfl, rfl, rfl, cb__law_whole⟩
  have F2 := fun_mk (st := (topS 4)) l2 c2 k2
  have B2 := F2.binds (ps := [(Str.ofString "_law_cell"), (Str.ofString "_law_k")]) fun _ _ _ _ _ _ us hl => match us, hl with | [_, _], _ => rfl
  have D2 : DOk K Pr ccT 1001 _ _ [(Str.ofString "_law_cell"), (Str.ofString "_law_k")] := ⟨_, _, (topS 4), N__law_mixed, d__law_mixed, F2, sc__law_mixed, B2, rfl, rfl, rfl, cb__law_mixed⟩
  have F3 := fun_mk (st := (topS 5)) l3 c3 k3
  have B3 := F3.binds (ps := [(Str.ofString "_law_number")]) fun _ _ _ _ _ _ us hl => match us, hl with | [_], _ => rfl
  have D3 : DOk K Pr ccT 1002 _ _ [(Str.ofString "_law_number")] := ⟨_, _, (topS 5), N__law_word, d__law_word, F3, sc__law_word, B3, rfl, rfl, rfl, cb__law_word⟩
  have F4 := fun_mk (st := (topS 6)) l4 c4 k4
  have B4 := F4.binds (ps := [(Str.ofString "_law_script")]) fun _ _ _ _ _ _ us hl => match us, hl with | [_], _ => rfl
  have D4 : DOk K Pr ccT 1003 _ _ [(Str.ofString "_law_script")] := ⟨_, _, (topS 6), N__law_words, d__law_words, F4, sc__law_words, B4, rfl, rfl, rfl, cb__law_words⟩
  have F5 := fun_mk (st := (topS 7)) l5 c5 k5
  have B5 := F5.binds (ps := [(Str.ofString "_law_found"), (Str.ofString "_law_due_here")]) fun _ _ _ _ _ _ us hl => match us, hl with | [_, _], _ => rfl
  have D5 : DOk K Pr ccT 1004 _ _ [(Str.ofString "_law_found"), (Str.ofString "_law_due_here")] := ⟨_, _, (topS 7), N__law_good, d__law_good, F5, sc__law_good, B5, rfl, rfl, rfl, cb__law_good⟩
  have F6 := fun_mk (st := (topS 8)) l6 c6 k6
  have B6 := F6.binds (ps := [(Str.ofString "_law_labels"), (Str.ofString "_law_tail"), (Str.ofString "_law_label"), (Str.ofString "_law_params")]) fun _ _ _ _ _ _ us hl => match us, hl with | [_, _, _, _], _ => rfl
  have D6 : DOk K Pr ccT 1005 _ _ [(Str.ofString "_law_labels"), (Str.ofString "_law_tail"), (Str.ofString "_law_label"), (Str.ofString "_law_params")] := ⟨_, _, (topS 8), N__law_due, d__law_due, F6, sc__law_due, B6, rfl, rfl, rfl, cb__law_due⟩
  have F7 := fun_mk (st := (topS 9)) l7 c7 k7
  have B7 := F7.binds (ps := [(Str.ofString "_law_script")]) fun _ _ _ _ _ _ us hl => match us, hl with | [_], _ => rfl
  have D7 : DOk K Pr ccT 1006 _ _ [(Str.ofString "_law_script")] := ⟨_, _, (topS 9), N_law, d_law, F7, sc_law, B7, rfl, rfl, rfl, cb_law⟩
  have m : MOk l.prog w K mg (fun _ => 0) (fun _ => 0) ccT Pr := {
    bi := fa_cons (P := fun x => mg x = none) (PySem.W.mg_none_of X G z0) ( fa_cons (P := fun x => mg x = none) (PySem.W.mg_none_of X G z1) ( fa_cons (P := fun x => mg x = none) (PySem.W.mg_none_of X G z2) ( fa_cons (P := fun x => mg x = none) (PySem.W.mg_none_of X G z3) ( fa_cons (P := fun x => mg x = none) (PySem.W.mg_none_of X G z4) ( fa_cons (P := fun x => mg x = none) (PySem.W.mg_none_of X G z5) ( fa_cons (P := fun x => mg x = none) (PySem.W.mg_none_of X G z6) ( fa_cons (P := fun x => mg x = none) (PySem.W.mg_none_of X G z7) ( fa_cons (P := fun x => mg x = none) (PySem.W.mg_none_of X G z8) ( fa_cons (P := fun x => mg x = none) (PySem.W.mg_none_of X G z9) ( fa_cons (P := fun x => mg x = none) (PySem.W.mg_none_of X G z10) ( fa_cons (P := fun x => mg x = none) (PySem.W.mg_none_of X G z11) ( fa_cons (P := fun x => mg x = none) (PySem.W.mg_none_of X G z12) ( fa_cons (P := fun x => mg x = none) (PySem.W.mg_none_of X G z13) ( fa_cons (P := fun x => mg x = none) (PySem.W.mg_none_of X G z14) ( fa_cons (P := fun x => mg x = none) (PySem.W.mg_none_of X G z15) ( fa_cons (P := fun x => mg x = none) (PySem.W.mg_none_of X G z16) ( fa_cons (P := fun x => mg x = none) (PySem.W.mg_none_of X G z17) ( fa_cons (P := fun x => mg x = none) (PySem.W.mg_none_of X G z18) ( fa_nil)))))))))))))))))))
    cn := fun x d hx => absurd hx (by rw [show ccT.cn = [] from rfl]; exact fun z => nomatch z)
    fn := fun x k hx => (fa_cons (P := fun p : Str × Nat => ∃ f fd ps, mg p.1 = some (.ref f) ∧ DOk K Pr ccT p.2 f fd ps) ⟨_, _, _, PySem.W.mg_of X G a0, D0⟩ ( fa_cons (P := fun p : Str × Nat => ∃ f fd ps, mg p.1 = some (.ref f) ∧ DOk K Pr ccT p.2 f fd ps) ⟨_, _, _, PySem.W.mg_of X G a1, D1⟩ ( fa_cons (P := fun p : Str × Nat => ∃ f fd ps, mg p.1 = some (.ref f) ∧ DOk K Pr ccT p.2 f fd ps) ⟨_, _, _, PySem.W.mg_of X G a2, D2⟩ ( fa_cons (P := fun p : Str × Nat => ∃ f fd ps, mg p.1 = some (.ref f) ∧ DOk K Pr ccT p.2 f fd ps) ⟨_, _, _, PySem.W.mg_of X G a3, D3⟩ ( fa_cons (P := fun p : Str × Nat => ∃ f fd ps, mg p.1 = some (.ref f) ∧ DOk K Pr ccT p.2 f fd ps) ⟨_, _, _, PySem.W.mg_of X G a4, D4⟩ ( fa_cons (P := fun p : Str × Nat => ∃ f fd ps, mg p.1 = some (.ref f) ∧ DOk K Pr ccT p.2 f fd ps) ⟨_, _, _, PySem.W.mg_of X G a5, D5⟩ ( fa_cons (P := fun p : Str × Nat => ∃ f fd ps, mg p.1 = some (.ref f) ∧ DOk K Pr ccT p.2 f fd ps) ⟨_, _, _, PySem.W.mg_of X G a6, D6⟩ ( fa_cons (P := fun p : Str × Nat => ∃ f fd ps, mg p.1 = some (.ref f) ∧ DOk K Pr ccT p.2 f fd ps) ⟨_, _, _, PySem.W.mg_of X G a7, D7⟩ ( fa_nil)))))))) : ∀ p ∈ fnT, ∃ f fd ps, mg p.1 = some (.ref f) ∧ DOk K Pr ccT p.2 f fd ps) (x, k) (PySem.mem_of_lookup hx)
    cs := fun x d hx => absurd hx (by rw [show ccT.cs = [] from rfl]; exact fun z => nomatch z)
    meth := fun _ _ _ z => nomatch z
    fld := fun _ _ z => nomatch z
    xs := fun x d hx => absurd hx (by rw [show ccT.xs = [] from rfl]; exact fun z => nomatch z)
    sub := fun _ _ _ z => nomatch z }
  exact ⟨_, fun s v => B7 s [v] |> fun _ => .of_eq rfl, fun base _ _ => law_fn m D7 plain⟩
end PI
open PySem PySem.W PyProof.Rows
set_option maxHeartbeats 0 in
theorem PySem.Challenge.cw_fieldrows_k51_offset_holds : PySem.Challenge.rw_fieldrows_k51_offset.Holds := by
  w_on; o_law; k_head; (case hw => w_witness2)
  k_fill
  refine L2.walk_of (l := PySem.Challenge.rw_fieldrows_k51_offset) (n := 63) (k := 200) (x := (Str.ofString "_law_script")) (CX := fun w => L2.CX (PySem.Challenge.rw_fieldrows_k51_offset).prog w) (sp := fun w => PI.spLaw _) rfl (by decide) rfl ⟨rfl, by decide, by decide⟩ (fun w h Y => PySem.W.kIn_of Y) ?F (fun _ _ a ns hl ho hS => ⟨a, ns, rfl, ho, hS, hl, fun _ => rfl⟩) ?X
  case X => exact fun _ _ _ _ _ ⟨_, _, _, _, _, _, _, _, _, _, _, _, hE⟩ => hE
  case F =>
    intro w mg fa h KX G hmg
    refine' PI.all_mk KX G hmg ?a0 ?l0 ?c0 ?k0 ?a1 ?l1 ?c1 ?k1 ?a2 ?l2 ?c2 ?k2 ?a3 ?l3 ?c3 ?k3 ?a4 ?l4 ?c4 ?k4 ?a5 ?l5 ?c5 ?k5 ?a6 ?l6 ?c6 ?k6 ?a7 ?l7 ?c7 ?k7 ?z0 ?z1 ?z2 ?z3 ?z4 ?z5 ?z6 ?z7 ?z8 ?z9 ?z10 ?z11 ?z12 ?z13 ?z14 ?z15 ?z16 ?z17 ?z18
    (case a0 => k_is)
    (case l0 => k_is)
    (case c0 => k_is)
    (case k0 => k_is)
    (case a1 => k_is)
    (case l1 => k_is)
    (case c1 => k_is)
    (case k1 => k_is)
    (case a2 => k_is)
    (case l2 => k_is)
    (case c2 => k_is)
    (case k2 => k_is)
    (case a3 => k_is)
    (case l3 => k_is)
    (case c3 => k_is)
    (case k3 => k_is)
    (case a4 => k_is)
    (case l4 => k_is)
    (case c4 => k_is)
    (case k4 => k_is)
    (case a5 => k_is)
    (case l5 => k_is)
    (case c5 => k_is)
    (case k5 => k_is)
    (case a6 => k_is)
    (case l6 => k_is)
    (case c6 => k_is)
    (case k6 => k_is)
    (case a7 => k_is)
    (case l7 => k_is)
    (case c7 => k_is)
    (case k7 => k_is)
    (case z0 => k_is)
    (case z1 => k_is)
    (case z2 => k_is)
    (case z3 => k_is)
    (case z4 => k_is)
    (case z5 => k_is)
    (case z6 => k_is)
    (case z7 => k_is)
    (case z8 => k_is)
    (case z9 => k_is)
    (case z10 => k_is)
    (case z11 => k_is)
    (case z12 => k_is)
    (case z13 => k_is)
    (case z14 => k_is)
    (case z15 => k_is)
    (case z16 => k_is)
    (case z17 => k_is)
    (case z18 => k_is)
