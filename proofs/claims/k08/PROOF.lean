import PyProof.Rows.All
import Wide.All
import OpenK.AllK
import Wide.FinOn
import HandS.ForMost
import HandS.ForExc
import HandS.Star
import HandS.IsInst
import HandS.Conv
import HandS.Zip
import HandS.CallSlots
import HandS.HotCalls
import PyProof.ReprRoads
import HandS.TupAny
import PyProof.DictUpdate
import HandS.Style
import HandS.Iter
import KE.KUnpackStar
import KE.KRevSl
import PyProof.RulesMatch
import KE.KDictZip
import HandS.ExcValue
import HandS.ExcOwn
import PySem.Challenge.RW_blameplaces_k08_whole_values
import PyProof.Rows.StrBin
set_option Elab.async false
set_option linter.all false
set_option maxRecDepth 100000
set_option maxHeartbeats 4000000
/-! DCore: frozen data D, values U, the store of cells, how they stand in an abstract heap -/
namespace DL
open PySem PySem.Spec PyProof.Rows L2

abbrev Fg := PySem.W.Frag

/-- data that nobody changes any more; fl: a list from outside; ref: an object of the written part -/
inductive D where
  | non
  | bl (b : Bool)
  | int (i : Int)
  | str (x : Str)
  | tup (ds : List D)
  | lst (ds : List D)
  | dct (kvs : List (Key × D))
  | fl (ds : List D)
  | ref (a : Addr)
  deriving Inhabited
/-- a value: data, or a cell of the store -/
inductive U where
  | d (x : D)
  | loc (n : Nat)
  deriving Inhabited
/-- what stands in a cell -/
inductive Cell where
  | lst (ds : List D)
  | dct (kvs : List (Key × D))
  | dead
  deriving Inhabited
abbrev Store := List Cell
/-- where the cells stand; addresses of lists that are being made (read by nobody) -/
structure Ad where
  cs : List (Option Addr)
  rs : List Addr

/-- a list of the written part -/
def KL (K : Fg) (a : Addr) (xs : List V) : Prop :=
  ∃ (o : Obj) (its : Array Value) (n : Nat), K.lookup a = some o ∧ o.cls = .type "list" ∧ o.dict = none ∧ o.data = .seq its n ∧ its.size ≤ sizeLine ∧ Vals xs its.toList
def FzL (K : Fg) (ok : Addr → Prop) (H : Hp) (a : Addr) (xs : List V) : Prop := (Rd H a (.lst xs) ∧ ok a) ∨ KL K a xs
theorem FzL.sq {K : Fg} {ok : Addr → Prop} {H : Hp} {a : Addr} {xs : List V} (h : FzL K ok H a xs) : SqL K H a xs := h.elim (fun z => .inl z.1) .inr

mutual
/-- v reads as d in H; a mutable object within stands where ok says -/
inductive Rep (K : Fg) (ok : Addr → Prop) (H : Hp) : V → D → Prop
  | non : Rep K ok H .non .non
  | bl (b : Bool) : Rep K ok H (.bl b) (.bl b)
  | int (i : Int) : Rep K ok H (.int i) (.int i)
  | str (x : Str) : Rep K ok H (.str x) (.str x)
  | tup {a : Addr} {xs : List V} {ds : List D} : SqT K H a xs → RepL K ok H xs ds → Rep K ok H (.ref a) (.tup ds)
  | lst {a : Addr} {xs : List V} {ds : List D} : Rd H a (.lst xs) → ok a → RepL K ok H xs ds → Rep K ok H (.ref a) (.lst ds)
  | dct {a : Addr} {ks : List (Key × V)} {es : List (Key × D)} : Rd H a (.dK ks) → ok a → RepK K ok H ks es → Rep K ok H (.ref a) (.dct es)
  | fl {a : Addr} {xs : List V} {ds : List D} : FzL K ok H a xs → RepL K ok H xs ds → Rep K ok H (.ref a) (.fl ds)
  | ref {a : Addr} : Rep K ok H (.ref a) (.ref a)
inductive RepL (K : Fg) (ok : Addr → Prop) (H : Hp) : List V → List D → Prop
  | nil : RepL K ok H [] []
  | cons {v : V} {d : D} {vs : List V} {ds : List D} : Rep K ok H v d → RepL K ok H vs ds → RepL K ok H (v :: vs) (d :: ds)
inductive RepK (K : Fg) (ok : Addr → Prop) (H : Hp) : List (Key × V) → List (Key × D) → Prop
  | nil : RepK K ok H [] []
  | cons {k : Key} {v : V} {d : D} {vs : List (Key × V)} {ds : List (Key × D)} : Rep K ok H v d → RepK K ok H vs ds → RepK K ok H ((k, v) :: vs) ((k, d) :: ds)
end

section
variable {K : Fg} {ok ok' : Addr → Prop} {H H' : Hp}
/-- how readings go over to another heap -/
structure Mv (K : Fg) (ok ok' : Addr → Prop) (H H' : Hp) : Prop where
  tup : ∀ a xs, Rd H a (.tup xs) → Rd H' a (.tup xs)
  obj : ∀ a u, Rd H a u → ok a → Rd H' a u ∧ ok' a
mutual
theorem Rep.mv (m : Mv K ok ok' H H') : ∀ {v : V} {d : D}, Rep K ok H v d → Rep K ok' H' v d
  | _, _, .non => .non
  | _, _, .bl b => .bl b
  | _, _, .int i => .int i
  | _, _, .str x => .str x
  | _, _, .tup h r => .tup (h.elim (fun z => .inl (m.tup _ _ z)) .inr) (RepL.mv m r)
  | _, _, .lst h o r => .lst (m.obj _ _ h o).1 (m.obj _ _ h o).2 (RepL.mv m r)
  | _, _, .fl h r => .fl (h.elim (fun z => .inl (m.obj _ _ z.1 z.2)) .inr) (RepL.mv m r)
  | _, _, .dct h o r => .dct (m.obj _ _ h o).1 (m.obj _ _ h o).2 (RepK.mv m r)
  | _, _, .ref => .ref
theorem RepL.mv (m : Mv K ok ok' H H') : ∀ {vs : List V} {ds : List D}, RepL K ok H vs ds → RepL K ok' H' vs ds
  | _, _, .nil => .nil
  | _, _, .cons h t => .cons (Rep.mv m h) (RepL.mv m t)
theorem RepK.mv (m : Mv K ok ok' H H') : ∀ {vs : List (Key × V)} {ds : List (Key × D)}, RepK K ok H vs ds → RepK K ok' H' vs ds
  | _, _, .nil => .nil
  | _, _, .cons h t => .cons (Rep.mv m h) (RepK.mv m t)
end
theorem RepL.length : ∀ {vs : List V} {ds : List D}, RepL K ok H vs ds → vs.length = ds.length
  | _, _, .nil => rfl
  | _, _, .cons _ t => congrArg (· + 1) t.length
theorem RepL.get : ∀ {vs : List V} {ds : List D} {i : Nat} {d : D}, RepL K ok H vs ds → ds[i]? = some d → ∃ v, vs[i]? = some v ∧ Rep K ok H v d
  | _, _, _, _, .nil, e => by simp at e
  | _, _, 0, _, .cons h _, e => by simp at e; subst e; exact ⟨_, rfl, h⟩
  | _, _, i + 1, _, .cons _ t, e => by
    obtain ⟨v, h1, h2⟩ := t.get (i := i) (by simpa using e)
    exact ⟨v, by simpa using h1, h2⟩
theorem RepL.append : ∀ {vs ws : List V} {ds es : List D}, RepL K ok H vs ds → RepL K ok H ws es → RepL K ok H (vs ++ ws) (ds ++ es)
  | _, _, _, _, .nil, s => s
  | _, _, _, _, .cons h t, s => .cons h (t.append s)
theorem RepL.take : ∀ {vs : List V} {ds : List D} (n : Nat), RepL K ok H vs ds → RepL K ok H (vs.take n) (ds.take n)
  | _, _, 0, _ => by simp only [List.take_zero]; exact .nil
  | _, _, _ + 1, .nil => .nil
  | _, _, n + 1, .cons h t => .cons h (t.take n)
theorem RepL.drop : ∀ {vs : List V} {ds : List D} (n : Nat), RepL K ok H vs ds → RepL K ok H (vs.drop n) (ds.drop n)
  | _, _, 0, h => h
  | _, _, _ + 1, .nil => .nil
  | _, _, n + 1, .cons _ t => t.drop n
theorem RepL.reverse : ∀ {vs : List V} {ds : List D}, RepL K ok H vs ds → RepL K ok H vs.reverse ds.reverse
  | _, _, .nil => .nil
  | _, _, .cons h t => by rw [List.reverse_cons, List.reverse_cons]; exact t.reverse.append (.cons h .nil)
theorem RepL.ints : ∀ (ns : List Int), RepL K ok H (ns.map V.int) (ns.map D.int)
  | [] => .nil
  | n :: r => .cons (.int n) (RepL.ints r)
end

/-- an address that no cell has -/
def free (ρ : Ad) (a : Addr) : Prop := some a ∉ ρ.cs ∧ a ∉ ρ.rs
def CellOk (K : Fg) (ρ : Ad) (H : Hp) (a : Addr) : Cell → Prop
  | .lst ds => ∃ xs, H a = some (.lst xs) ∧ RepL K (free ρ) H xs ds
  | .dct es => ∃ ks, H a = some (.dK ks) ∧ RepK K (free ρ) H ks es
  | .dead => False
/-- a list or a dict stands there -/
def Made (H : Hp) (a : Addr) : Prop := (∃ xs, H a = some (.lst xs)) ∨ ∃ ks, H a = some (.dK ks)
/-- the store stands in the heap, cell n at the address ρ n -/
structure Ok (K : Fg) (ρ : Ad) (S : Store) (H : Hp) : Prop where
  len : ρ.cs.length = S.length
  nd : ∀ (i j : Nat) (a : Addr), ρ.cs[i]? = some (some a) → ρ.cs[j]? = some (some a) → i = j
  live : ∀ (i : Nat) (a : Addr), ρ.cs[i]? = some (some a) → ∃ c, S[i]? = some c ∧ CellOk K ρ H a c
  dead : ∀ (i : Nat), ρ.cs[i]? = some none → S[i]? = some .dead
  rsv : ∀ a ∈ ρ.rs, some a ∉ ρ.cs ∧ Made H a
def RepU (K : Fg) (ρ : Ad) (H : Hp) (v : V) : U → Prop
  | .d x => Rep K (free ρ) H v x
  | .loc n => ∃ a, v = .ref a ∧ ρ.cs[n]? = some (some a)
inductive RepUs (K : Fg) (ρ : Ad) (H : Hp) : List V → List U → Prop
  | nil : RepUs K ρ H [] []
  | cons {v : V} {u : U} {vs : List V} {us : List U} : RepU K ρ H v u → RepUs K ρ H vs us → RepUs K ρ H (v :: vs) (u :: us)
abbrev DEnv := List (Option U)
structure EnvOk (K : Fg) (ρ : Ad) (H : Hp) (σ : L2.St) (δ : DEnv) : Prop where
  len : δ.length = σ.length
  at_ : ∀ (i : Nat) (u : U), δ[i]? = some (some u) → ∃ v, σ[i]? = some (some v) ∧ RepU K ρ H v u
/-- from (ρ, H) on: cells may come, nothing else changes -/
structure Nxt (ρ : Ad) (H : Hp) (ρ' : Ad) (H' : Hp) : Prop where
  pre : ρ.cs <+: ρ'.cs
  rs : ρ'.rs = ρ.rs
  keep : ∀ a o, H a = some o → some a ∉ ρ.cs → H' a = some o
  new : ∀ a, some a ∈ ρ'.cs → some a ∈ ρ.cs ∨ H a = none

section
variable {K : Fg} {ρ ρ' ρ1 ρ2 : Ad} {H H' H1 H2 : Hp} {S S' : Store} {σ : L2.St} {δ : DEnv}
theorem Nxt.refl : Nxt ρ H ρ H := ⟨List.prefix_rfl, rfl, fun _ _ h _ => h, fun _ h => .inl h⟩
theorem Nxt.trans (x : Nxt ρ H ρ1 H1) (y : Nxt ρ1 H1 ρ2 H2) : Nxt ρ H ρ2 H2 where
  pre := x.pre.trans y.pre
  rs := y.rs.trans x.rs
  keep := fun a o h f => y.keep a o (x.keep a o h f) fun z => (x.new a z).elim f fun q => by rw [h] at q; cases q
  new := fun a z => by
    rcases y.new a z with q | q
    · exact x.new a q
    · by_cases f : some a ∈ ρ.cs
      · exact .inl f
      · cases e : H a with
        | none => exact .inr rfl
        | some o => rw [x.keep a o e f] at q; cases q
theorem mem_ix {l : List (Option Addr)} {a : Addr} (h : some a ∈ l) : ∃ i : Nat, l[i]? = some (some a) := List.getElem?_of_mem h
theorem Ok.cellKind (k : Ok K ρ S H) {a : Addr} (z : some a ∈ ρ.cs) : Made H a := by
  obtain ⟨i, e⟩ := mem_ix z
  obtain ⟨c, _, q⟩ := k.live i a e
  cases c with
  | lst ds => obtain ⟨ys, q, _⟩ := q; exact .inl ⟨ys, q⟩
  | dct es => obtain ⟨ys, q, _⟩ := q; exact .inr ⟨ys, q⟩
  | dead => exact q.elim
theorem Ok.tupFree (k : Ok K ρ S H) {a : Addr} {xs : List V} (h : Rd H a (.tup xs)) : free ρ a := by
  refine ⟨fun z => ?_, fun z => ?_⟩
  · rcases k.cellKind z with ⟨ys, q⟩ | ⟨ys, q⟩ <;> rcases h with h | ⟨o, h⟩ <;> (rw [h] at q; cases q)
  · rcases (k.rsv a z).2 with ⟨ys, q⟩ | ⟨ys, q⟩ <;> rcases h with h | ⟨o, h⟩ <;> (rw [h] at q; cases q)
theorem Made.keep {a : Addr} (h : ∀ o, H a = some o → H' a = some o) (m : Made H a) : Made H' a := m.elim (fun ⟨xs, q⟩ => .inl ⟨xs, h _ q⟩) fun ⟨xs, q⟩ => .inr ⟨xs, h _ q⟩
theorem Made.has {a : Addr} (m : Made H a) : H a ≠ Option.none := by
  rcases m with ⟨xs, q⟩ | ⟨xs, q⟩ <;> (rw [q]; exact fun z => by cases z)
theorem rd_some {a : Addr} {u : HO} (h : Rd H a u) : H a ≠ none := by
  rcases h with h | ⟨o, h⟩ <;> (rw [h]; exact fun z => by cases z)
theorem Nxt.rd (n : Nxt ρ H ρ' H') {a : Addr} {u : HO} (h : Rd H a u) (f : free ρ a) : Rd H' a u ∧ free ρ' a := by
  refine ⟨?_, fun z => (n.new a z).elim f.1 (rd_some h), by rw [n.rs]; exact f.2⟩
  rcases h with h | ⟨o, h⟩
  · exact .inl (n.keep _ _ h f.1)
  · exact .inr ⟨o, n.keep _ _ h f.1⟩
theorem Nxt.mv (n : Nxt ρ H ρ' H') (k : Ok K ρ S H) : Mv K (free ρ) (free ρ') H H' :=
  ⟨fun _ _ h => (n.rd h (k.tupFree h)).1, fun _ _ h f => n.rd h f⟩
theorem RepU.nxt (n : Nxt ρ H ρ' H') (k : Ok K ρ S H) {v : V} : ∀ {u : U}, RepU K ρ H v u → RepU K ρ' H' v u
  | .d _, h => Rep.mv (n.mv k) h
  | .loc i, ⟨a, e, h⟩ => ⟨a, e, by
    obtain ⟨t, q⟩ := n.pre
    have hi : i < ρ.cs.length := (List.getElem?_eq_some_iff.mp h).1
    rw [← q, List.getElem?_append_left hi]; exact h⟩
theorem RepUs.nxt (n : Nxt ρ H ρ' H') (k : Ok K ρ S H) : ∀ {vs : List V} {us : List U}, RepUs K ρ H vs us → RepUs K ρ' H' vs us
  | _, _, .nil => .nil
  | _, _, .cons h t => .cons (h.nxt n k) (RepUs.nxt n k t)
theorem EnvOk.nxt (n : Nxt ρ H ρ' H') (k : Ok K ρ S H) (e : EnvOk K ρ H σ δ) : EnvOk K ρ' H' σ δ :=
  ⟨e.len, fun i u h => let ⟨v, a, b⟩ := e.at_ i u h; ⟨v, a, b.nxt n k⟩⟩
theorem RepUs.length : ∀ {vs : List V} {us : List U}, RepUs K ρ H vs us → vs.length = us.length
  | _, _, .nil => rfl
  | _, _, .cons _ t => congrArg (· + 1) t.length
theorem EnvOk.set (e : EnvOk K ρ H σ δ) {i : Nat} {v : V} {u : U} (r : RepU K ρ H v u) : EnvOk K ρ H (σ.set i (some v)) (δ.set i (some u)) := by
  refine ⟨by rw [List.length_set, List.length_set]; exact e.len, fun j w h => ?_⟩
  by_cases hj : i = j
  · subst hj
    have hi : i < δ.length := by
      have := (List.getElem?_eq_some_iff.mp h).1
      simpa using this
    rw [List.getElem?_set_self hi] at h
    have h' : u = w := by simpa using h
    subst h'
    exact ⟨v, List.getElem?_set_self (by rw [← e.len]; exact hi), r⟩
  · rw [List.getElem?_set_ne hj] at h
    obtain ⟨w', a, b⟩ := e.at_ j w h
    exact ⟨w', by rw [List.getElem?_set_ne hj]; exact a, b⟩

/-- a new object that is no cell -/
theorem Nxt.laid {a : Addr} {o : HO} (h : H a = none) : Nxt ρ H ρ (upd H a o) :=
  ⟨List.prefix_rfl, rfl, fun b q e _ => by rw [upd_ne (ne_of_none e h)]; exact e, fun _ z => .inl z⟩
theorem Ok.notNew (k : Ok K ρ S H) {a : Addr} (h : H a = none) : free ρ a := by
  refine ⟨fun z => ?_, fun z => ?_⟩
  · rcases k.cellKind z with ⟨ys, q⟩ | ⟨ys, q⟩ <;> (rw [h] at q; cases q)
  · exact (k.rsv a z).2.has h
theorem CellOk.mv {a : Addr} (m : Mv K (free ρ) (free ρ') H H') (ha : H' a = H a) : ∀ {c : Cell}, CellOk K ρ H a c → CellOk K ρ' H' a c
  | .lst _, ⟨xs, h, r⟩ => ⟨xs, ha.trans h, r.mv m⟩
  | .dct _, ⟨xs, h, r⟩ => ⟨xs, ha.trans h, r.mv m⟩
  | .dead, h => h
/-- the heap has grown, no cell was touched -/
theorem Ok.grow (k : Ok K ρ S H) (n : Nxt ρ H ρ H') (hc : ∀ a, some a ∈ ρ.cs → H' a = H a) : Ok K ρ S H' :=
  ⟨k.len, k.nd, fun i a e => let ⟨c, h, q⟩ := k.live i a e; ⟨c, h, q.mv (n.mv k) (hc a (List.mem_of_getElem? e))⟩, k.dead,
    fun a z => let ⟨f, m⟩ := k.rsv a z; ⟨f, m.keep fun _ h => n.keep _ _ h f⟩⟩
theorem Ok.laid (k : Ok K ρ S H) {a : Addr} {o : HO} (h : H a = none) : Ok K ρ S (upd H a o) :=
  k.grow (Nxt.laid h) fun b z => upd_ne fun e => (k.notNew h).1 (e ▸ z)
/-- a new cell -/
def Ad.add (ρ : Ad) (a : Addr) : Ad := ⟨ρ.cs ++ [some a], ρ.rs⟩
theorem Nxt.cell {a : Addr} {o : HO} (h : H a = none) : Nxt ρ H (ρ.add a) (upd H a o) :=
  ⟨List.prefix_append _ _, rfl, fun b q e _ => by rw [upd_ne (ne_of_none e h)]; exact e, fun b z => by
    rcases List.mem_append.mp z with z | z
    · exact .inl z
    · have : b = a := by simpa using z
      subst this; exact .inr h⟩
theorem Ok.cell (k : Ok K ρ S H) {a : Addr} {o : HO} {c : Cell} (h : H a = none) (hc : CellOk K (ρ.add a) (upd H a o) a c) : Ok K (ρ.add a) (S ++ [c]) (upd H a o) := by
  have nf := k.notNew h
  have old : ∀ {i : Nat} {x : Option Addr}, (ρ.cs ++ [some a])[i]? = some x → (i < ρ.cs.length ∧ ρ.cs[i]? = some x) ∨ (i = ρ.cs.length ∧ x = some a) := fun {i x} e => by
    by_cases hi : i < ρ.cs.length
    · rw [List.getElem?_append_left hi] at e; exact .inl ⟨hi, e⟩
    · rw [List.getElem?_append_right (by omega)] at e
      have : i - ρ.cs.length = 0 := by
        by_cases q : i - ρ.cs.length = 0
        · exact q
        · rw [List.getElem?_eq_none (by simp; omega)] at e; cases e
      rw [this] at e
      exact .inr ⟨by omega, by simpa using e.symm⟩
  refine ⟨by simp [k.len, Ad.add], fun i j b e1 e2 => ?_, fun i b e => ?_, fun i e => ?_, fun b z => ?_⟩
  · rcases old e1 with ⟨_, q1⟩ | ⟨i1, q1⟩ <;> rcases old e2 with ⟨_, q2⟩ | ⟨i2, q2⟩
    · exact k.nd i j b q1 q2
    · cases q2; exact absurd (List.mem_of_getElem? q1) nf.1
    · cases q1; exact absurd (List.mem_of_getElem? q2) nf.1
    · omega
  · rcases old e with ⟨hi, q⟩ | ⟨hi, q⟩
    · obtain ⟨c', h1, h2⟩ := k.live i b q
      refine ⟨c', by rw [List.getElem?_append_left (by rw [← k.len]; exact hi)]; exact h1, h2.mv ((Nxt.cell h).mv k) (upd_ne fun z => ?_)⟩
      subst z; exact nf.1 (List.mem_of_getElem? q)
    · cases q
      subst hi
      exact ⟨c, by rw [k.len, List.getElem?_append_right (Nat.le_refl _)]; simp, hc⟩
  · rcases old e with ⟨hi, q⟩ | ⟨_, q⟩
    · rw [List.getElem?_append_left (by rw [← k.len]; exact hi)]; exact k.dead i q
    · cases q
  · obtain ⟨f, mk⟩ := k.rsv b z
    have ne : b ≠ a := fun y => mk.has (by rw [y]; exact h)
    refine ⟨fun y => ?_, mk.keep fun _ q => by rw [upd_ne ne]; exact q⟩
    rcases List.mem_append.mp y with y | y
    · exact f y
    · exact ne (by simpa using y)
/-- a cell's content is changed -/
theorem Nxt.put {a : Addr} {o : HO} (h : some a ∈ ρ.cs) : Nxt ρ H ρ (upd H a o) :=
  ⟨List.prefix_rfl, rfl, fun b q e f => by rw [upd_ne (fun z => f (by rw [z]; exact h))]; exact e, fun _ z => .inl z⟩
theorem Ok.put (k : Ok K ρ S H) {n : Nat} {a : Addr} {o : HO} {c : Cell} (h : ρ.cs[n]? = some (some a)) (hc : CellOk K ρ (upd H a o) a c) : Ok K ρ (S.set n c) (upd H a o) := by
  have hn : n < S.length := by rw [← k.len]; exact (List.getElem?_eq_some_iff.mp h).1
  refine ⟨by rw [List.length_set]; exact k.len, k.nd, fun i b e => ?_, fun i e => ?_, fun b z => ?_⟩
  · by_cases hi : n = i
    · subst hi
      rw [h] at e
      have e' : a = b := by simpa using e
      subst e'
      exact ⟨c, List.getElem?_set_self hn, hc⟩
    · obtain ⟨c', h1, h2⟩ := k.live i b e
      refine ⟨c', by rw [List.getElem?_set_ne hi]; exact h1, h2.mv ((Nxt.put (List.mem_of_getElem? h)).mv k) (upd_ne fun z => ?_)⟩
      subst z; exact hi (k.nd n i b h e)
  · by_cases hi : n = i
    · subst hi; rw [h] at e; cases e
    · rw [List.getElem?_set_ne hi]; exact k.dead i e
  · obtain ⟨f, mk⟩ := k.rsv b z
    exact ⟨f, mk.keep fun _ q => by rw [upd_ne (fun y => f (by rw [y]; exact List.mem_of_getElem? h))]; exact q⟩

/-! ### cells from b on are given up: what they hold is data from now on -/
def peek (S : Store) : U → Option D
  | .d x => some x
  | .loc n => match S[n]? with
    | some (.lst ds) => some (.lst ds)
    | some (.dct es) => some (.dct es)
    | _ => none
def trimU (b : Nat) (S : Store) : U → Option U
  | .d x => some (.d x)
  | .loc n => if n < b then some (.loc n) else (peek S (.loc n)).map U.d
def trimE (b : Nat) (S : Store) (δ : DEnv) : DEnv := δ.map fun o => o.bind (trimU b S)
def Ad.cut (ρ : Ad) (b : Nat) : Ad := ⟨ρ.cs.take b, ρ.rs⟩
theorem free_cut {b : Nat} {a : Addr} (h : free ρ a) : free (ρ.cut b) a := ⟨fun z => h.1 (List.mem_of_mem_take z), h.2⟩
theorem Mv.cut {b : Nat} : Mv K (free ρ) (free (ρ.cut b)) H H := ⟨fun _ _ h => h, fun _ _ h f => ⟨h, free_cut f⟩⟩
theorem cut_ix {b i : Nat} {x : Option Addr} (h : (ρ.cut b).cs[i]? = some x) : i < b ∧ ρ.cs[i]? = some x := by
  have h' : (ρ.cs.take b)[i]? = some x := h
  rw [List.getElem?_take] at h'
  split at h'
  · exact ⟨by assumption, h'⟩
  · cases h'
theorem Ok.cut (k : Ok K ρ S H) (b : Nat) : Ok K (ρ.cut b) (S.take b) H where
  len := by show (ρ.cs.take b).length = _; rw [List.length_take, List.length_take, k.len]
  nd := fun i j a e1 e2 => k.nd i j a (cut_ix e1).2 (cut_ix e2).2
  live := fun i a e => by
    obtain ⟨hi, e⟩ := cut_ix e
    obtain ⟨c, h, q⟩ := k.live i a e
    exact ⟨c, by rw [List.getElem?_take_of_lt hi]; exact h, q.mv Mv.cut rfl⟩
  dead := fun i e => by
    obtain ⟨hi, e⟩ := cut_ix e
    rw [List.getElem?_take_of_lt hi]; exact k.dead i e
  rsv := fun a z => let ⟨f, h⟩ := k.rsv a z; ⟨fun y => f (List.mem_of_mem_take y), h⟩
/-- a cell read as data, where it is not a cell any more -/
theorem Ok.frozen (k : Ok K ρ S H) {b n : Nat} {a : Addr} {d : D} (hb : b ≤ n) (h : ρ.cs[n]? = some (some a)) (p : peek S (.loc n) = some d) : Rep K (free (ρ.cut b)) H (.ref a) d := by
  obtain ⟨c, e, q⟩ := k.live n a h
  have fr : free (ρ.cut b) a := by
    refine ⟨fun z => ?_, fun z => (k.rsv a z).1 (List.mem_of_getElem? h)⟩
    obtain ⟨i, e'⟩ := mem_ix z
    obtain ⟨hi, e'⟩ := cut_ix e'
    have := k.nd i n a e' h
    omega
  have p' : (match S[n]? with | some (.lst ds) => some (D.lst ds) | some (.dct es) => some (.dct es) | _ => none) = some d := p
  rw [e] at p'
  have p := p'
  cases c with
  | lst ds =>
    obtain ⟨xs, q, r⟩ := q
    cases p
    exact .lst (.inl q) fr (r.mv Mv.cut)
  | dct es =>
    obtain ⟨xs, q, r⟩ := q
    cases p
    exact .dct (.inl q) fr (r.mv Mv.cut)
  | dead => exact q.elim
theorem RepU.trim (k : Ok K ρ S H) {b : Nat} {v : V} {u u' : U} (h : RepU K ρ H v u) (t : trimU b S u = some u') : RepU K (ρ.cut b) H v u' := by
  cases u with
  | d x => cases t; exact Rep.mv Mv.cut h
  | loc n =>
    obtain ⟨a, rfl, h⟩ := h
    have t' : (if n < b then some (U.loc n) else (peek S (.loc n)).map U.d) = some u' := t
    have t := t'
    split at t
    · cases t
      exact ⟨a, rfl, by show (ρ.cs.take b)[n]? = _; rw [List.getElem?_take_of_lt (by assumption)]; exact h⟩
    · obtain ⟨d, p, rfl⟩ := Option.map_eq_some_iff.mp t
      exact k.frozen (by omega) h p
theorem EnvOk.trim (k : Ok K ρ S H) (b : Nat) (e : EnvOk K ρ H σ δ) : EnvOk K (ρ.cut b) H σ (trimE b S δ) := by
  refine ⟨by unfold trimE; rw [List.length_map]; exact e.len, fun i u h => ?_⟩
  unfold trimE at h
  rw [List.getElem?_map] at h
  obtain ⟨o, h1, h2⟩ := Option.map_eq_some_iff.mp h
  obtain ⟨w, rfl, h3⟩ := Option.bind_eq_some_iff.mp h2
  obtain ⟨v, a, r⟩ := e.at_ i w h1
  exact ⟨v, a, r.trim k h3⟩
theorem Nxt.cut (n : Nxt ρ H ρ' H') {b : Nat} (hb : ρ.cs.length ≤ b) : Nxt ρ H (ρ'.cut b) H' :=
  ⟨List.prefix_take_iff.mpr ⟨n.pre, hb⟩, n.rs, n.keep, fun a z => n.new a (List.mem_of_mem_take z)⟩
end
end DL

set_option Elab.async false
set_option linter.all false
set_option maxRecDepth 100000
set_option maxHeartbeats 4000000
/-! DJudge: meanings, the judgements, how they are put together -/
namespace DL
open PySem PySem.Spec PyProof.Rows L2

/-- an exception: its class, its fields -/
structure XD where
  cls : Value
  fs : List (Str × D)
inductive Res (α : Type) where
  | ok (a : α) (S : Store)
  | exc (x : XD) (S : Store)
  | stuck
def Res.bind {α β : Type} (r : Res α) (f : α → Store → Res β) : Res β :=
  match r with
  | .ok a S => f a S
  | .exc x S => .exc x S
  | .stuck => .stuck
@[simp] theorem Res.ok_bind {α β : Type} (a : α) (S : Store) (f : α → Store → Res β) : (Res.ok a S).bind f = f a S := rfl
@[simp] theorem Res.exc_bind {α β : Type} (x : XD) (S : Store) (f : α → Store → Res β) : (Res.exc x S).bind f = .exc x S := rfl
@[simp] theorem Res.stuck_bind {α β : Type} (f : α → Store → Res β) : (Res.stuck).bind f = .stuck := rfl
/-- a value or none -/
def lift {α : Type} (o : Option α) (S : Store) : Res α := match o with
  | some a => .ok a S
  | none => .stuck
@[simp] theorem lift_some {α : Type} (a : α) (S : Store) : lift (some a) S = .ok a S := rfl
@[simp] theorem lift_none {α : Type} (S : Store) : lift (none : Option α) S = .stuck := rfl
/-- what a statement leads to -/
inductive SR where
  | next (δ : DEnv) (S : Store)
  | ret (u : U) (S : Store)
  | brk (δ : DEnv) (S : Store)
  | cont (δ : DEnv) (S : Store)
  | exc (x : XD) (δ : DEnv) (S : Store)
  | stuck
abbrev ME := DEnv → Store → Res U
abbrev MT := DEnv → Store → Res Bool
abbrev MA := DEnv → Store → Res (List U)
/-- a statement's; the number: how many cells stood at the entry -/
abbrev MS := Nat → DEnv → Store → SR
abbrev Fn := List U → Store → Res U

inductive RepF (K : Fg) (ok : Addr → Prop) (H : Hp) : List (Str × V) → List (Str × D) → Prop
  | nil : RepF K ok H [] []
  | cons {k : Str} {v : V} {d : D} {vs : List (Str × V)} {ds : List (Str × D)} : Rep K ok H v d → RepF K ok H vs ds → RepF K ok H ((k, v) :: vs) ((k, d) :: ds)
def RepX (K : Fg) (ρ : Ad) (H : Hp) (cls : Value) (dx : Option Addr) (x : XD) : Prop :=
  cls = x.cls ∧ match dx with
    | none => x.fs = []
    | some d => ∃ fs, H d = some (.xd fs) ∧ RepF K (free ρ) H fs x.fs

/-- what is asked behind a meaning's result -/
def Post {α : Type} (K : Fg) (W : WX) (σ : L2.St) (ρ : Ad) (H : Hp) (r : Res α) (good : α → Ad → Hp → Prop) : Prop :=
  match r with
  | .ok a S' => ∀ ρ' H', Nxt ρ H ρ' H' → Ok K ρ' S' H' → good a ρ' H'
  | .exc x S' => ∀ cls dx ρ' H', Nxt ρ H ρ' H' → Ok K ρ' S' H' → RepX K ρ' H' cls dx x → W cls dx σ H'
  | .stuck => False
section
variable {α β : Type} {K : Fg} {W : WX} {σ : L2.St} {ρ ρ1 : Ad} {H H1 : Hp} {S : Store}
theorem Post.from_ {r : Res α} {good : α → Ad → Hp → Prop} (h : Post K W σ ρ H r good) (n : Nxt ρ H ρ1 H1) : Post K W σ ρ1 H1 r good := by
  cases r with
  | ok a S => exact fun ρ' H' m k => h ρ' H' (n.trans m) k
  | exc x S => exact fun cls dx ρ' H' m k => h cls dx ρ' H' (n.trans m) k
  | stuck => exact h
theorem Post.bind {r : Res α} {f : α → Store → Res β} {good : β → Ad → Hp → Prop} (h : Post K W σ ρ H (r.bind f) good) :
    Post K W σ ρ H r fun a ρ1 H1 => ∃ S1, r = .ok a S1 ∧ Ok K ρ1 S1 H1 ∧ Post K W σ ρ1 H1 (f a S1) good := by
  cases r with
  | ok a S => exact fun ρ' H' m k => ⟨S, rfl, k, Post.from_ h m⟩
  | exc x S => exact h
  | stuck => exact h
theorem Post.imp {r : Res α} {good good' : α → Ad → Hp → Prop} (h : Post K W σ ρ H r good) (i : ∀ a ρ' H', Nxt ρ H ρ' H' → good a ρ' H' → good' a ρ' H') : Post K W σ ρ H r good' := by
  cases r with
  | ok a S => exact fun ρ' H' m k => i a ρ' H' m (h ρ' H' m k)
  | exc x S => exact h
  | stuck => exact h
/-- a result that is there already -/
theorem Post.here {a : α} {good : α → Ad → Hp → Prop} (h : Post K W σ ρ H (.ok a S) good) (k : Ok K ρ S H) : good a ρ H := h ρ H Nxt.refl k
end

def tE (K : Fg) (W : WX) (m : ME) : TE := fun σ H Q => ∃ ρ δ S, EnvOk K ρ H σ δ ∧ Ok K ρ S H ∧ Post K W σ ρ H (m δ S) fun u ρ' H' => ∀ v, RepU K ρ' H' v u → Q v H'
def tT (K : Fg) (W : WX) (m : MT) : TT := fun σ H Q => ∃ ρ δ S, EnvOk K ρ H σ δ ∧ Ok K ρ S H ∧ Post K W σ ρ H (m δ S) fun b _ H' => Q b H'
def tA (K : Fg) (W : WX) (m : MA) : TA := fun σ H Q => ∃ ρ δ S, EnvOk K ρ H σ δ ∧ Ok K ρ S H ∧ Post K W σ ρ H (m δ S) fun us ρ' H' => ∀ vs, RepUs K ρ' H' vs us → Q vs H'
def PostS (K : Fg) (W : WX) (ρ0 : Ad) (H0 : Hp) (r : SR) (D : Ends) : Prop :=
  match r with
  | .next δ' S' => ∀ σ' ρ' H', Nxt ρ0 H0 ρ' H' → Ok K ρ' S' H' → EnvOk K ρ' H' σ' δ' → D.nx σ' H'
  | .ret u S' => ∀ v ρ' H', Nxt ρ0 H0 ρ' H' → Ok K ρ' S' H' → RepU K ρ' H' v u → D.rt v H'
  | .brk δ' S' => ∀ σ' ρ' H', Nxt ρ0 H0 ρ' H' → Ok K ρ' S' H' → EnvOk K ρ' H' σ' δ' → D.bk σ' H'
  | .cont δ' S' => ∀ σ' ρ' H', Nxt ρ0 H0 ρ' H' → Ok K ρ' S' H' → EnvOk K ρ' H' σ' δ' → D.ct σ' H'
  | .exc x δ' S' => ∀ cls dx σ' ρ' H', Nxt ρ0 H0 ρ' H' → Ok K ρ' S' H' → EnvOk K ρ' H' σ' δ' → RepX K ρ' H' cls dx x → W cls dx σ' H'
  | .stuck => False
def tS (K : Fg) (W : WX) (m : MS) : TS := fun D σ H => ∃ ρ0 H0 ρ δ S, Nxt ρ0 H0 ρ H ∧ EnvOk K ρ H σ δ ∧ Ok K ρ S H ∧ PostS K W ρ0 H0 (m ρ0.cs.length δ S) D

def PM (X : Cx) (W : WX) (e : Expr) (m : ME) : Prop := PE X e (tE X.K W m)
def PMT (X : Cx) (W : WX) (e : Expr) (m : MT) : Prop := PT X e (tT X.K W m)
def PMW (X : Cx) (W : WX) (e : Expr) (m : MT) : Prop := PW X e (tT X.K W m)
def PMA (X : Cx) (W : WX) (es : List Expr) (m : MA) : Prop := PA X es (tA X.K W m)
def PMS (X : Cx) (W : WX) (st : Stmt) (m : MS) : Prop := PS X st (tS X.K W m)
def PMSs (X : Cx) (W : WX) (st : List Stmt) (m : MS) : Prop := PSs X st (tS X.K W m)

theorem pimpE {X : Cx} {e : Expr} {t t' : TE} (h : PE X e t) (i : ∀ σ H Q, t' σ H Q → t σ H Q) : PE X e t' := ⟨fun pins s σ H Q I q => h.run pins s σ H Q I (i σ H Q q)⟩
theorem pimpT {X : Cx} {e : Expr} {t t' : TT} (h : PT X e t) (i : ∀ σ H Q, t' σ H Q → t σ H Q) : PT X e t' := ⟨fun pins s σ H Q I q => h.run pins s σ H Q I (i σ H Q q)⟩
theorem pimpW {X : Cx} {e : Expr} {t t' : TT} (h : PW X e t) (i : ∀ σ H Q, t' σ H Q → t σ H Q) : PW X e t' := ⟨fun wh pins s σ H Q I q => h.run wh pins s σ H Q I (i σ H Q q)⟩
theorem pimpA {X : Cx} {e : List Expr} {t t' : TA} (h : PA X e t) (i : ∀ σ H Q, t' σ H Q → t σ H Q) : PA X e t' := ⟨fun p pins s σ H Q I q => h.run p pins s σ H Q I (i σ H Q q)⟩
theorem pimpS {X : Cx} {e : Stmt} {t t' : TS} (h : PS X e t) (i : ∀ D σ H, t' D σ H → t D σ H) : PS X e t' := ⟨fun pins s σ H D I q => h.run pins s σ H D I (i D σ H q)⟩
theorem pimpSs {X : Cx} {e : List Stmt} {t t' : TS} (h : PSs X e t) (i : ∀ D σ H, t' D σ H → t D σ H) : PSs X e t' := ⟨fun pins s σ H D I q => h.run pins s σ H D I (i D σ H q)⟩

/-- an expression's result within a statement -/
def Res.inS {α : Type} (r : Res α) (δ : DEnv) (f : α → Store → SR) : SR := match r with
  | .ok u S1 => f u S1
  | .exc x S1 => .exc x δ S1
  | .stuck => .stuck
@[simp] theorem Res.ok_inS {α : Type} (a : α) (S : Store) (δ : DEnv) (f : α → Store → SR) : (Res.ok a S).inS δ f = f a S := rfl
@[simp] theorem Res.exc_inS {α : Type} (x : XD) (S : Store) (δ : DEnv) (f : α → Store → SR) : (Res.exc x S).inS δ f = .exc x δ S := rfl
@[simp] theorem Res.stuck_inS {α : Type} (δ : DEnv) (f : α → Store → SR) : (Res.stuck).inS δ f = .stuck := rfl

/-! ### expressions one after another -/
section
variable {K : Fg} {W : WX} {σ : L2.St} {ρ : Ad} {H : Hp} {S : Store} {δ : DEnv}
/-- the first part of a row of parts: afterwards its value, with all that stood -/
theorem tE.first {α : Type} {m : ME} {f : U → Store → Res α} {good : α → Ad → Hp → Prop} {Q : VK} (e : EnvOk K ρ H σ δ) (k : Ok K ρ S H) (h : Post K W σ ρ H ((m δ S).bind f) good)
    (hq : ∀ v u ρ1 H1 S1, m δ S = .ok u S1 → Nxt ρ H ρ1 H1 → EnvOk K ρ1 H1 σ δ → Ok K ρ1 S1 H1 → RepU K ρ1 H1 v u → Post K W σ ρ1 H1 (f u S1) good → Q v H1) : tE K W m σ H Q := by
  refine ⟨ρ, δ, S, e, k, (Post.bind h).imp fun u ρ1 H1 n q v r => ?_⟩
  obtain ⟨S1, e1, k1, p⟩ := q
  exact hq v u ρ1 H1 S1 e1 n (e.nxt n k) k1 r p
theorem tT.first {α : Type} {m : MT} {f : Bool → Store → Res α} {good : α → Ad → Hp → Prop} {Q : Bool → Hp → Prop} (e : EnvOk K ρ H σ δ) (k : Ok K ρ S H) (h : Post K W σ ρ H ((m δ S).bind f) good)
    (hq : ∀ b ρ1 H1 S1, m δ S = .ok b S1 → Nxt ρ H ρ1 H1 → EnvOk K ρ1 H1 σ δ → Ok K ρ1 S1 H1 → Post K W σ ρ1 H1 (f b S1) good → Q b H1) : tT K W m σ H Q := by
  refine ⟨ρ, δ, S, e, k, (Post.bind h).imp fun u ρ1 H1 n q => ?_⟩
  obtain ⟨S1, e1, k1, p⟩ := q
  exact hq u ρ1 H1 S1 e1 n (e.nxt n k) k1 p
theorem tA.first {α : Type} {m : MA} {f : List U → Store → Res α} {good : α → Ad → Hp → Prop} {Q : List V → Hp → Prop} (e : EnvOk K ρ H σ δ) (k : Ok K ρ S H) (h : Post K W σ ρ H ((m δ S).bind f) good)
    (hq : ∀ vs us ρ1 H1 S1, m δ S = .ok us S1 → Nxt ρ H ρ1 H1 → EnvOk K ρ1 H1 σ δ → Ok K ρ1 S1 H1 → RepUs K ρ1 H1 vs us → Post K W σ ρ1 H1 (f us S1) good → Q vs H1) : tA K W m σ H Q := by
  refine ⟨ρ, δ, S, e, k, (Post.bind h).imp fun u ρ1 H1 n q v r => ?_⟩
  obtain ⟨S1, e1, k1, p⟩ := q
  exact hq v u ρ1 H1 S1 e1 n (e.nxt n k) k1 r p
/-- the same within a statement: behind it the statement goes on -/
theorem tE.inS {m : ME} {Q : VK} {ρ0 : Ad} {H0 : Hp} {f : U → Store → SR} {Dn : Ends} (n0 : Nxt ρ0 H0 ρ H) (e : EnvOk K ρ H σ δ) (k : Ok K ρ S H)
    (h : PostS K W ρ0 H0 ((m δ S).inS δ f) Dn)
    (hq : ∀ v u ρ1 H1 S1, Nxt ρ H ρ1 H1 → Nxt ρ0 H0 ρ1 H1 → EnvOk K ρ1 H1 σ δ → Ok K ρ1 S1 H1 → RepU K ρ1 H1 v u → PostS K W ρ0 H0 (f u S1) Dn → Q v H1) : tE K W m σ H Q := by
  refine ⟨ρ, δ, S, e, k, ?_⟩
  cases q : m δ S with
  | ok u S1 =>
    rw [q] at h
    exact fun ρ1 H1 n k1 v r => hq v u ρ1 H1 S1 n (n0.trans n) (e.nxt n k) k1 r h
  | exc x S1 =>
    rw [q] at h
    exact fun cls dx ρ1 H1 n k1 r => h cls dx σ ρ1 H1 (n0.trans n) k1 (e.nxt n k) r
  | stuck => rw [q] at h; exact h
theorem tT.inS {m : MT} {Q : Bool → Hp → Prop} {ρ0 : Ad} {H0 : Hp} {f : Bool → Store → SR} {Dn : Ends} (n0 : Nxt ρ0 H0 ρ H) (e : EnvOk K ρ H σ δ) (k : Ok K ρ S H)
    (h : PostS K W ρ0 H0 ((m δ S).inS δ f) Dn)
    (hq : ∀ b ρ1 H1 S1, Nxt ρ H ρ1 H1 → Nxt ρ0 H0 ρ1 H1 → EnvOk K ρ1 H1 σ δ → Ok K ρ1 S1 H1 → PostS K W ρ0 H0 (f b S1) Dn → Q b H1) : tT K W m σ H Q := by
  refine ⟨ρ, δ, S, e, k, ?_⟩
  cases q : m δ S with
  | ok u S1 =>
    rw [q] at h
    exact fun ρ1 H1 n k1 => hq u ρ1 H1 S1 n (n0.trans n) (e.nxt n k) k1 h
  | exc x S1 =>
    rw [q] at h
    exact fun cls dx ρ1 H1 n k1 r => h cls dx σ ρ1 H1 (n0.trans n) k1 (e.nxt n k) r
  | stuck => rw [q] at h; exact h
end
section
variable {X : Cx} {W : WX} {pos : Pos}
/-! ### names, constants -/
def mVar (i : Nat) : ME := fun δ S => match δ[i]? with
  | some (some u) => .ok u S
  | _ => .stuck
def mC (d : D) : ME := fun _ S => .ok (.d d) S
theorem pm_var {i : Nat} {e : Expr} (h : PE X e (tVar i)) : PM X W e (mVar i) := pimpE h fun σ H Q q => by
  obtain ⟨ρ, δ, S, e, k, p⟩ := q
  unfold mVar at p
  cases hi : δ[i]? with
  | none => rw [hi] at p; exact p.elim
  | some o =>
    rw [hi] at p
    cases o with
    | none => exact p.elim
    | some u =>
      obtain ⟨v, a, r⟩ := e.at_ i u hi
      exact ⟨v, a, p.here k v r⟩
theorem pm_const {e : Expr} {v : V} {d : D} (h : PE X e (tC v)) (r : ∀ ok H, Rep X.K ok H v d) : PM X W e (mC d) := pimpE h fun σ H Q q => by
  obtain ⟨ρ, δ, S, e, k, p⟩ := q
  exact p.here k v (r _ _)
theorem pm_int {i j} : PM X W (.Constant (.int i) j pos) (mC (.int i)) := pm_const pe_int fun _ _ => .int i
theorem pm_str {i j} : PM X W (.Constant (.str i) j pos) (mC (.str i)) := pm_const pe_str fun _ _ => .str i
theorem pm_bl {i j} : PM X W (.Constant (.bool i) j pos) (mC (.bl i)) := pm_const pe_bl fun _ _ => .bl i
theorem pm_non {j} : PM X W (.Constant .none j pos) (mC .non) := pm_const pe_non fun _ _ => .non
end
end DL

set_option Elab.async false
set_option linter.all false
set_option maxRecDepth 100000
set_option maxHeartbeats 4000000
/-! DRules1: operators, comparisons, tests, displays, built-in calls -/
namespace DL
open PySem PySem.Spec PyProof.Rows L2

/-! ### what a value reads as at the moment -/
def RepP (K : Fg) (ρ : Ad) (H : Hp) (v : V) (d : D) : Prop :=
  Rep K (free ρ) H v d ∨ ∃ a, v = .ref a ∧ match d with
    | .lst ds => ∃ xs, H a = some (.lst xs) ∧ RepL K (free ρ) H xs ds
    | .dct es => ∃ ks, H a = some (.dK ks) ∧ RepK K (free ρ) H ks es
    | _ => False
section
variable {K : Fg} {ρ : Ad} {H : Hp} {S : Store} {v : V}
theorem RepU.peek {u : U} {d : D} (h : RepU K ρ H v u) (k : Ok K ρ S H) (p : peek S u = some d) : RepP K ρ H v d := by
  cases u with
  | d x => cases p; exact .inl h
  | loc n =>
    obtain ⟨a, rfl, h⟩ := h
    obtain ⟨c, e, q⟩ := k.live n a h
    have p' : (match S[n]? with | some (.lst ds) => some (D.lst ds) | some (.dct es) => some (.dct es) | _ => none) = some d := p
    rw [e] at p'
    cases c with
    | lst ds => cases p'; exact .inr ⟨a, rfl, q⟩
    | dct es => cases p'; exact .inr ⟨a, rfl, q⟩
    | dead => exact q.elim
theorem RepP.non (h : RepP K ρ H v .non) : v = .non := by
  rcases h with h | ⟨_, _, h⟩
  · cases h; rfl
  · exact h.elim
theorem RepP.bl {b : Bool} (h : RepP K ρ H v (.bl b)) : v = .bl b := by
  rcases h with h | ⟨_, _, h⟩
  · cases h; rfl
  · exact h.elim
theorem RepP.int {i : Int} (h : RepP K ρ H v (.int i)) : v = .int i := by
  rcases h with h | ⟨_, _, h⟩
  · cases h; rfl
  · exact h.elim
theorem RepP.str {x : Str} (h : RepP K ρ H v (.str x)) : v = .str x := by
  rcases h with h | ⟨_, _, h⟩
  · cases h; rfl
  · exact h.elim
theorem RepP.tup {ds : List D} (h : RepP K ρ H v (.tup ds)) : ∃ a xs, v = .ref a ∧ SqT K H a xs ∧ RepL K (free ρ) H xs ds := by
  rcases h with h | ⟨_, _, h⟩
  · cases h with
    | tup h r => exact ⟨_, _, rfl, h, r⟩
  · exact h.elim
theorem RepP.lst {ds : List D} (h : RepP K ρ H v (.lst ds)) : ∃ a xs, v = .ref a ∧ Rd H a (.lst xs) ∧ RepL K (free ρ) H xs ds := by
  rcases h with h | ⟨a, e, xs, h, r⟩
  · cases h with
    | lst h _ r => exact ⟨_, _, rfl, h, r⟩
  · exact ⟨a, xs, e, .inl h, r⟩
theorem RepP.fl {ds : List D} (h : RepP K ρ H v (.fl ds)) : ∃ a xs, v = .ref a ∧ SqL K H a xs ∧ RepL K (free ρ) H xs ds := by
  rcases h with h | ⟨a, e, h⟩
  · cases h with
    | fl h r => exact ⟨_, _, rfl, h.sq, r⟩
  · exact h.elim
theorem RepP.dct {es : List (Key × D)} (h : RepP K ρ H v (.dct es)) : ∃ a ks, v = .ref a ∧ Rd H a (.dK ks) ∧ RepK K (free ρ) H ks es := by
  rcases h with h | ⟨a, e, xs, h, r⟩
  · cases h with
    | dct h _ r => exact ⟨_, _, rfl, h, r⟩
  · exact ⟨a, xs, e, .inl h, r⟩
theorem RepP.notNon {d : D} (h : RepP K ρ H v d) (n : d ≠ .non) : v ≠ .non := by
  rcases h with h | ⟨a, e, h⟩
  · cases h <;> first | exact absurd rfl n | exact fun z => by cases z
  · rw [e]; exact fun z => by cases z
/-- the sequences -/
theorem RepP.seq {ds : List D} (h : RepP K ρ H v (.tup ds) ∨ RepP K ρ H v (.lst ds)) : ∃ a xs, v = .ref a ∧ (SqL K H a xs ∨ SqT K H a xs) ∧ RepL K (free ρ) H xs ds := by
  rcases h with h | h
  · obtain ⟨a, xs, e, h, r⟩ := h.tup; exact ⟨a, xs, e, .inr h, r⟩
  · obtain ⟨a, xs, e, h, r⟩ := h.lst; exact ⟨a, xs, e, .inl (.inl h), r⟩
end

/-! ### scalars; data without dicts as PyData -/
def asV : D → Option V
  | .non => some .non
  | .bl b => some (.bl b)
  | .int i => some (.int i)
  | .str x => some (.str x)
  | _ => none
def asVs : List D → Option (List V)
  | [] => some []
  | d :: r => match asV d, asVs r with
    | some v, some vs => some (v :: vs)
    | _, _ => none
mutual
def toPy : D → Option PyData
  | .non => some .none
  | .bl b => some (.bool b)
  | .int i => some (.int i)
  | .str x => some (.str x)
  | .tup ds => match toPyL ds with
    | some ps => some (.tuple ps)
    | none => none
  | .lst ds => match toPyL ds with
    | some ps => some (.list ps)
    | none => none
  | .dct _ => none
  | .fl _ => none
  | .ref _ => none
def toPyL : List D → Option (List PyData)
  | [] => some []
  | d :: r => match toPy d, toPyL r with
    | some p, some ps => some (p :: ps)
    | _, _ => none
end
section
variable {K : Fg} {ok : Addr → Prop} {ρ : Ad} {H : Hp} {v : V}
theorem Rep.asV {d : D} {x : V} (h : Rep K ok H v d) (e : asV d = some x) : v = x := by
  cases h <;> first | (cases e; rfl) | cases e
theorem RepP.asV {d : D} {x : V} (h : RepP K ρ H v d) (e : DL.asV d = some x) : v = x := by
  rcases h with h | ⟨a, _, h⟩
  · exact h.asV e
  · cases d <;> first | exact h.elim | cases e
theorem asV_flat {d : D} {x : V} (e : asV d = some x) : flatV x = true := by
  cases d <;> first | (cases e; rfl) | cases e
theorem RepL.asVs : ∀ {vs : List V} {ds : List D} {xs : List V}, RepL K ok H vs ds → asVs ds = some xs → vs = xs ∧ xs.all flatV = true
  | _, _, xs, .nil, e => by
    have e' : some [] = some xs := e
    cases e'; exact ⟨rfl, rfl⟩
  | _, _, xs, .cons (d := d) (ds := r) h t, e => by
    have e' : (match DL.asV d, DL.asVs r with | some v, some vs => some (v :: vs) | _, _ => none) = some xs := e
    split at e'
    · rename_i y ys h1 h2
      cases e'
      obtain ⟨q1, q2⟩ := RepL.asVs t h2
      refine ⟨by rw [h.asV h1, q1], ?_⟩
      rw [List.all_cons, asV_flat h1, q2]; rfl
    · cases e'
mutual
theorem Rep.dp : ∀ {v : V} {d : D} {p : PyData}, Rep K ok H v d → toPy d = some p → Dp K H v p
  | _, _, _, .non, e => by cases e; exact .non
  | _, _, _, .bl b, e => by cases e; exact .bl b
  | _, _, _, .int i, e => by cases e; exact .int i
  | _, _, _, .str x, e => by cases e; exact .str x
  | _, _, p, .tup (ds := ds) h r, e => by
    have e' : (match toPyL ds with | some ps => some (PyData.tuple ps) | none => none) = some p := by rw [← e]; simp only [toPy]
    split at e'
    · rename_i ps q; cases e'; exact .tup h (RepL.dp r q)
    · cases e'
  | _, _, p, .lst (ds := ds) h _ r, e => by
    have e' : (match toPyL ds with | some ps => some (PyData.list ps) | none => none) = some p := by rw [← e]; simp only [toPy]
    split at e'
    · rename_i ps q; cases e'; exact .lst (.inl h) (RepL.dp r q)
    · cases e'
  | _, _, _, .dct _ _ _, e => by simp [toPy] at e
  | _, _, _, .fl _ _, e => by simp [toPy] at e
  | _, _, _, .ref, e => by simp [toPy] at e
theorem RepL.dp : ∀ {vs : List V} {ds : List D} {ps : List PyData}, RepL K ok H vs ds → toPyL ds = some ps → DpAll K H vs ps
  | _, _, _, .nil, e => by simp [toPyL] at e; subst e; exact .nil
  | _, _, ps, .cons (d := d) (ds := r) h t, e => by
    have e' : (match toPy d, toPyL r with | some p, some ps => some (p :: ps) | _, _ => none) = some ps := by rw [← e]; simp only [toPyL]
    split at e'
    · rename_i y ys h1 h2; cases e'; exact .cons (Rep.dp h h1) (RepL.dp t h2)
    · cases e'
end
theorem RepP.dp {d : D} {p : PyData} (h : RepP K ρ H v d) (e : toPy d = some p) : Dp K H v p := by
  rcases h with h | ⟨a, ea, h⟩
  · exact h.dp e
  · cases d with
    | lst ds =>
      obtain ⟨xs, h, r⟩ := h
      have e' : (match toPyL ds with | some ps => some (PyData.list ps) | none => none) = some p := by rw [← e]; simp only [toPy]
      split at e'
      · rename_i ps q; cases e'; rw [ea]; exact .lst (SqL.of h) (RepL.dp r q)
      · cases e'
    | dct es => simp [toPy] at e
    | _ => exact h.elim
end

/-! ### operations that only read -/
def rD (K : Fg) (g : D → D → Option D) : R2 := fun x y H Q => ∃ ρ S d e z, Ok K ρ S H ∧ RepP K ρ H x d ∧ RepP K ρ H y e ∧ g d e = some z ∧
  ∀ v H', Nxt ρ H ρ H' → Ok K ρ S H' → Rep K (free ρ) H' v z → Q v H'
def rU1 (K : Fg) (g : D → Option D) : V → Hp → VK → Prop := fun x H Q => ∃ ρ S d z, Ok K ρ S H ∧ RepP K ρ H x d ∧ g d = some z ∧
  ∀ v H', Nxt ρ H ρ H' → Ok K ρ S H' → Rep K (free ρ) H' v z → Q v H'
inductive RepPs (K : Fg) (ρ : Ad) (H : Hp) : List V → List D → Prop
  | nil : RepPs K ρ H [] []
  | cons {v : V} {d : D} {vs : List V} {ds : List D} : RepP K ρ H v d → RepPs K ρ H vs ds → RepPs K ρ H (v :: vs) (d :: ds)
def rCD (K : Fg) (g : List D → Option D) : List V → Hp → VK → Prop := fun xs H Q => ∃ ρ S ds z, Ok K ρ S H ∧ RepPs K ρ H xs ds ∧ g ds = some z ∧
  ∀ v H', Nxt ρ H ρ H' → Ok K ρ S H' → Rep K (free ρ) H' v z → Q v H'
def peeks (S : Store) : List U → Option (List D)
  | [] => some []
  | u :: r => match peek S u, peeks S r with
    | some d, some ds => some (d :: ds)
    | _, _ => none
theorem RepUs.peeks {K : Fg} {ρ : Ad} {H : Hp} {S : Store} (k : Ok K ρ S H) : ∀ {vs : List V} {us : List U} {ds : List D}, RepUs K ρ H vs us → peeks S us = some ds → RepPs K ρ H vs ds
  | _, _, ds, .nil, e => by
    have e' : some [] = some ds := e
    cases e'; exact .nil
  | _, _, ds, .cons (u := u) (us := r) h t, e => by
    have e' : (match peek S u, DL.peeks S r with | some d, some ds => some (d :: ds) | _, _ => none) = some ds := e
    split at e'
    · rename_i y ys h1 h2; cases e'; exact .cons (h.peek k h1) (RepUs.peeks k t h2)
    · cases e'
/-- data alone -/
def datas : List U → Option (List D)
  | [] => some []
  | .d x :: r => match datas r with
    | some ds => some (x :: ds)
    | none => none
  | .loc _ :: _ => none
theorem RepUs.datas {K : Fg} {ρ : Ad} {H : Hp} : ∀ {vs : List V} {us : List U} {ds : List D}, RepUs K ρ H vs us → datas us = some ds → RepL K (free ρ) H vs ds
  | _, _, ds, .nil, e => by
    have e' : some [] = some ds := e
    cases e'; exact .nil
  | _, _, ds, .cons (u := .loc _) h t, e => by cases e
  | _, _, ds, .cons (u := .d x) (us := r) h t, e => by
    have e' : (match DL.datas r with | some ds => some (x :: ds) | none => none) = some ds := e
    split at e'
    · rename_i ys h2; cases e'; exact .cons h (RepUs.datas t h2)
    · cases e'

def m2 (g : D → D → Option D) (ma mb : ME) : ME := fun δ S => (ma δ S).bind fun x S1 => (mb δ S1).bind fun y S2 =>
  lift ((match peek S2 x, peek S2 y with | some d, some e => g d e | _, _ => none).map U.d) S2
def m1 (g : D → Option D) (ma : ME) : ME := fun δ S => (ma δ S).bind fun x S1 => lift (((peek S1 x).bind g).map U.d) S1
def mCall (g : List D → Option D) (ma : MA) : ME := fun δ S => (ma δ S).bind fun xs S1 => lift (((peeks S1 xs).bind g).map U.d) S1
def mTest (m : ME) : MT := fun δ S => (m δ S).bind fun u S' => match u with
  | .d (.bl b) => .ok b S'
  | _ => .stuck
section
variable {K : Fg} {W : WX} {σ : L2.St} {ρ : Ad} {H : Hp} {S : Store}
theorem Post.lifted {o : Option D} {Q : VK} (h : Post K W σ ρ H (lift (o.map U.d) S) fun u ρ' H' => ∀ v, RepU K ρ' H' v u → Q v H') :
    ∃ z, o = some z ∧ ∀ v H', Nxt ρ H ρ H' → Ok K ρ S H' → Rep K (free ρ) H' v z → Q v H' := by
  cases o with
  | none => exact h.elim
  | some z => exact ⟨z, rfl, fun v H' n k r => h ρ H' n k v r⟩
end
section
variable {X : Cx} {W : WX} {pos : Pos} {a b c : Expr} {ma mb mc : ME}
theorem m2_ok {r : R2} {g : D → D → Option D} (hr : ∀ x y H Q, rD X.K g x y H Q → r x y H Q) {σ : L2.St} {H : Hp} {Q : VK} (h : tE X.K W (m2 g ma mb) σ H Q) : tOp r (tE X.K W ma) (tE X.K W mb) σ H Q := by
  obtain ⟨ρ, δ, S, e, k, p⟩ := h
  refine tE.first e k p fun v u ρ1 H1 S1 _ n1 e1 k1 r1 p1 => tE.first e1 k1 p1 fun w u2 ρ2 H2 S2 _ n2 e2 k2 r2 p2 => hr _ _ _ _ ?_
  obtain ⟨z, ez, q⟩ := p2.lifted
  split at ez
  · rename_i d e h1 h2
    exact ⟨ρ2, S2, d, e, z, k2, (r1.nxt n2 k1).peek k2 h1, r2.peek k2 h2, ez, q⟩
  · cases ez
theorem m1_ok {r : V → Hp → VK → Prop} {g : D → Option D} (hr : ∀ x H Q, rU1 X.K g x H Q → r x H Q) {σ : L2.St} {H : Hp} {Q : VK} (h : tE X.K W (m1 g ma) σ H Q) : tUn r (tE X.K W ma) σ H Q := by
  obtain ⟨ρ, δ, S, e, k, p⟩ := h
  refine tE.first e k p fun v u ρ1 H1 S1 _ n1 e1 k1 r1 p1 => hr _ _ _ ?_
  obtain ⟨z, ez, q⟩ := p1.lifted
  obtain ⟨d, h1, h2⟩ := Option.bind_eq_some_iff.mp ez
  exact ⟨ρ1, S1, d, z, k1, r1.peek k1 h1, h2, q⟩
theorem mCall_ok {r : List V → Hp → VK → Prop} {g : List D → Option D} {m : MA} (hr : ∀ x H Q, rCD X.K g x H Q → r x H Q) {σ : L2.St} {H : Hp} {Q : VK} (h : tE X.K W (mCall g m) σ H Q) : tCB r (tA X.K W m) σ H Q := by
  obtain ⟨ρ, δ, S, e, k, p⟩ := h
  refine tA.first e k p fun v u ρ1 H1 S1 _ n1 e1 k1 r1 p1 => hr _ _ _ ?_
  obtain ⟨z, ez, q⟩ := p1.lifted
  obtain ⟨d, h1, h2⟩ := Option.bind_eq_some_iff.mp ez
  exact ⟨ρ1, S1, d, z, k1, r1.peeks k1 h1, h2, q⟩
abbrev OpD (X : Cx) (f : Value → Value → Sem Value) (g : D → D → Option D) : Prop := OpR X f (rD X.K g)
abbrev UnD (X : Cx) (f : Value → Sem Value) (g : D → Option D) : Prop := UnR X f (rU1 X.K g)
abbrev CallD (X : Cx) (f : Value) (g : List D → Option D) : Prop := CallR X f (rCD X.K g)
theorem pm_bin {op : Operator} {g : D → D → Option D} (ho : OpD X (binaryOp op) g) (ha : PM X W a ma) (hb : PM X W b mb) : PM X W (.BinOp a op b pos) (m2 g ma mb) :=
  pimpE (pe_op ho ha hb) fun _ _ _ h => m2_ok (fun _ _ _ _ z => z) h
theorem pm_un {op : UnaryOp} {g : D → Option D} (ho : UnD X (unaryOp op) g) (ha : PM X W a ma) : PM X W (.UnaryOp op a pos) (m1 g ma) :=
  pimpE (pe_un ho ha) fun _ _ _ h => m1_ok (fun _ _ _ z => z) h
theorem pm_cmp {op : CmpOp} {g : D → D → Option D} (ho : OpD X (compareOp op) g) (ha : PM X W a ma) (hb : PM X W b mb) (hm : behindInMarks op b = false) : PM X W (.Compare a [op] [b] pos) (m2 g ma mb) :=
  pimpE (pe_cmpR ho ha hb hm) fun _ _ _ h => m2_ok (fun _ _ _ _ z => z) h
/-- the value that a test asks for -/
theorem mTest_ok {m : ME} {σ : L2.St} {H : Hp} {Q : Bool → Hp → Prop} (h : tT X.K W (mTest m) σ H Q) : tTest (tE X.K W m) σ H Q := by
  obtain ⟨ρ, δ, S, e, k, p⟩ := h
  refine tE.first e k p fun v u ρ1 H1 S1 _ n1 e1 k1 r1 p1 => ?_
  cases u with
  | loc n => exact p1.elim
  | d x =>
    cases x with
    | bl b => cases r1; exact ⟨b, rfl, p1.here k1⟩
    | _ => exact p1.elim
theorem pmt_cmp {op : CmpOp} {g : D → D → Option D} (ho : OpD X (compareOp op) g) (ha : PM X W a ma) (hb : PM X W b mb) (hm : behindInMarks op b = false) : PMT X W (.Compare a [op] [b] pos) (mTest (m2 g ma mb)) :=
  pimpT (pt_cmpR ho ha hb hm) fun σ H Q h => by
    obtain ⟨ρ, δ, S, e, k, p⟩ := h
    have : tTest (tE X.K W (m2 g ma mb)) σ H Q := mTest_ok ⟨ρ, δ, S, e, k, p⟩
    exact m2_ok (fun _ _ _ _ z => z) this
/-! ### truth -/
def truD : D → Option Bool
  | .non => some false
  | .bl b => some b
  | .int i => some (i != 0)
  | .str y => if y.length ≤ sizeLine then some ((y.length : Int) != 0) else none
  | .tup ds => some !ds.isEmpty
  | .lst ds => some !ds.isEmpty
  | _ => none
def mTru (m : ME) : MT := fun δ S => (m δ S).bind fun u S' => lift ((peek S' u).bind truD) S'
theorem RepL.isEmpty {K : Fg} {ok : Addr → Prop} {H : Hp} {vs : List V} {ds : List D} (r : RepL K ok H vs ds) : ds.isEmpty = vs.isEmpty := by cases r <;> rfl
theorem truD_ok {K : Fg} {ρ : Ad} {H : Hp} {v : V} {d : D} {k : Bool} (h : RepP K ρ H v d) (e : truD d = some k) : TruV K v H k := by
  cases d with
  | non => rw [h.non]; cases e; exact rfl
  | bl b => rw [h.bl]; cases e; exact rfl
  | int i => rw [h.int]; cases e; exact rfl
  | str y =>
    rw [h.str]
    have e' : (if y.length ≤ sizeLine then some ((y.length : Int) != 0) else none) = some k := e
    split at e'
    · cases e'; exact ⟨by assumption, rfl⟩
    · cases e'
  | tup ds => obtain ⟨a, xs, rfl, q, r⟩ := h.tup; cases e; exact .inr (.inl ⟨xs, q, by rw [r.isEmpty]⟩)
  | lst ds => obtain ⟨a, xs, rfl, q, r⟩ := h.lst; cases e; exact .inl ⟨xs, .inl q, by rw [r.isEmpty]⟩
  | dct es => cases e
  | fl ds => cases e
  | ref a => cases e
theorem pmt_tru (ha : PM X W a ma) (he : ∀ whole, isTrue a X.env whole = (do let v ← whole; standAt a.pos; holding [v] (truthy v)) := by intro _; rfl) : PMT X W a (mTru ma) :=
  pimpT (pt_truth ha he) fun σ H Q h => by
    obtain ⟨ρ, δ, S, e, k, p⟩ := h
    refine tE.first e k p fun v u ρ1 H1 S1 _ n1 e1 k1 r1 p1 => ?_
    cases q : (peek S1 u).bind truD with
    | none => rw [q] at p1; exact p1.elim
    | some b =>
      rw [q] at p1
      obtain ⟨d, h1, h2⟩ := Option.bind_eq_some_iff.mp q
      exact ⟨b, truD_ok (r1.peek k1 h1) h2, Post.here p1 k1⟩
/-! ### and, or, not, if else -/
def mNotT (m : MT) : MT := fun δ S => (m δ S).bind fun b S' => .ok (!b) S'
def mAndT (m n : MT) : MT := fun δ S => (m δ S).bind fun b S' => if b then n δ S' else .ok false S'
def mOrT (m n : MT) : MT := fun δ S => (m δ S).bind fun b S' => if b then .ok true S' else n δ S'
theorem pmt_not {m : MT} (ha : PMT X W a m) : PMT X W (.UnaryOp .Not a pos) (mNotT m) :=
  pimpT (pt_not ha) fun σ H Q ⟨ρ, δ, S, e, k, p⟩ => tT.first e k p fun b ρ1 H1 S1 _ _ _ k1 p1 => p1.here k1
variable {rest : List Expr} {mA mB : MT}
theorem pmw_and1 (ha : PMT X W a mA) : PMW X W (.BoolOp .And [a] pos) mA := pw_and1 ha
theorem pmw_or1 (ha : PMT X W a mA) : PMW X W (.BoolOp .Or [a] pos) mA := pw_or1 ha
theorem pmw_and (ha : PMT X W a mA) (hb : PMW X W (.BoolOp .And (b :: rest) pos) mB) : PMW X W (.BoolOp .And (a :: b :: rest) pos) (mAndT mA mB) :=
  pimpW (pw_and ha hb) fun σ H Q ⟨ρ, δ, S, e, k, p⟩ => tT.first e k p fun x ρ1 H1 S1 _ _ e1 k1 p1 => by
    cases x with
    | true => rw [if_pos rfl]; exact ⟨ρ1, δ, S1, e1, k1, p1⟩
    | false => rw [if_neg Bool.false_ne_true]; exact p1.here k1
theorem pmw_or (ha : PMT X W a mA) (hb : PMW X W (.BoolOp .Or (b :: rest) pos) mB) : PMW X W (.BoolOp .Or (a :: b :: rest) pos) (mOrT mA mB) :=
  pimpW (pw_or ha hb) fun σ H Q ⟨ρ, δ, S, e, k, p⟩ => tT.first e k p fun x ρ1 H1 S1 _ _ e1 k1 p1 => by
    cases x with
    | false => rw [if_neg Bool.false_ne_true]; exact ⟨ρ1, δ, S1, e1, k1, p1⟩
    | true => rw [if_pos rfl]; exact p1.here k1
theorem pmt_of {m : MT} (h : PMW X W a m) : PMT X W a m := PW.pt h
/-- as values, all but the last a bool -/
def mAndV (ma mb : ME) : ME := fun δ S => (mTest ma δ S).bind fun b S' => if b then mb δ S' else .ok (.d (.bl false)) S'
def mOrV (ma mb : ME) : ME := fun δ S => (mTest ma δ S).bind fun b S' => if b then .ok (.d (.bl true)) S' else mb δ S'
def mNotV (ma : ME) : ME := fun δ S => (mTest ma δ S).bind fun b S' => .ok (.d (.bl (!b))) S'
theorem Res.bind_assoc {α β γ : Type} (r : Res α) (f : α → Store → Res β) (g : β → Store → Res γ) : (r.bind f).bind g = r.bind fun a S => (f a S).bind g := by cases r <;> rfl
theorem bool_first {α : Type} {K : Fg} {σ : L2.St} {H : Hp} {ρ : Ad} {δ : DEnv} {S : Store} {f : Bool → Store → Res α} {good : α → Ad → Hp → Prop} {Q : VK} (e : EnvOk K ρ H σ δ) (k : Ok K ρ S H) (p : Post K W σ ρ H ((mTest ma δ S).bind f) good)
    (hq : ∀ b ρ1 H1 S1, EnvOk K ρ1 H1 σ δ → Ok K ρ1 S1 H1 → Post K W σ ρ1 H1 (f b S1) good → Q (.bl b) H1) : tE K W ma σ H Q := by
  unfold mTest at p
  rw [Res.bind_assoc] at p
  refine tE.first e k p fun v u ρ1 H1 S1 _ n1 e1 k1 r1 p1 => ?_
  cases u with
  | loc n => exact p1.elim
  | d x =>
    cases x with
    | bl b => cases r1; exact hq b ρ1 H1 S1 e1 k1 p1
    | _ => exact p1.elim
theorem pm_one {op : BoolOp} (ha : PM X W a ma) : PM X W (.BoolOp op [a] pos) ma := pe_one ha
theorem pm_and (ha : PM X W a ma) (hb : PM X W (.BoolOp .And (b :: rest) pos) mb) : PM X W (.BoolOp .And (a :: b :: rest) pos) (mAndV ma mb) :=
  pimpE (pe_and ha hb) fun σ H Q ⟨ρ, δ, S, e, k, p⟩ => bool_first e k p fun x ρ1 H1 S1 e1 k1 p1 => ⟨x, rfl, by
    cases x with
    | true => rw [if_pos rfl]; exact ⟨ρ1, δ, S1, e1, k1, p1⟩
    | false => rw [if_neg Bool.false_ne_true]; exact p1.here k1 _ (.bl false)⟩
theorem pm_or (ha : PM X W a ma) (hb : PM X W (.BoolOp .Or (b :: rest) pos) mb) : PM X W (.BoolOp .Or (a :: b :: rest) pos) (mOrV ma mb) :=
  pimpE (pe_or ha hb) fun σ H Q ⟨ρ, δ, S, e, k, p⟩ => bool_first e k p fun x ρ1 H1 S1 e1 k1 p1 => ⟨x, rfl, by
    cases x with
    | false => rw [if_neg Bool.false_ne_true]; exact ⟨ρ1, δ, S1, e1, k1, p1⟩
    | true => rw [if_pos rfl]; exact p1.here k1 _ (.bl true)⟩
theorem pm_not (ha : PM X W a ma) : PM X W (.UnaryOp .Not a pos) (mNotV ma) :=
  pimpE (pe_not ha) fun σ H Q ⟨ρ, δ, S, e, k, p⟩ => bool_first e k p fun x ρ1 H1 S1 e1 k1 p1 => ⟨x, rfl, p1.here k1 _ (.bl _)⟩
def mIf (m : MT) (ma mb : ME) : ME := fun δ S => (m δ S).bind fun b S' => if b then ma δ S' else mb δ S'
theorem pm_if {m : MT} (hc : PMT X W c m) (ha : PM X W a ma) (hb : PM X W b mb) : PM X W (.IfExp c a b pos) (mIf m ma mb) :=
  pimpE (pe_ifExp hc ha hb) fun σ H Q ⟨ρ, δ, S, e, k, p⟩ => tT.first e k p fun x ρ1 H1 S1 _ _ e1 k1 p1 => by
    cases x with
    | true => rw [if_pos rfl]; exact ⟨ρ1, δ, S1, e1, k1, p1⟩
    | false => rw [if_neg Bool.false_ne_true]; exact ⟨ρ1, δ, S1, e1, k1, p1⟩
/-! ### argument lists, displays -/
def mNil : MA := fun _ S => .ok [] S
def mCons (m : ME) (n : MA) : MA := fun δ S => (m δ S).bind fun u S1 => (n δ S1).bind fun us S2 => .ok (u :: us) S2
variable {es : List Expr} {mas : MA}
theorem pma_nil : PMA X W [] mNil := pimpA pa_nil fun σ H Q ⟨ρ, δ, S, e, k, p⟩ => p.here k _ .nil
theorem pma_cons (ha : PM X W a ma) (hr : PMA X W es mas) (hs : starEach (a :: es) X.env = (false, eval a X.env) :: starEach es X.env := by rfl) : PMA X W (a :: es) (mCons ma mas) :=
  pimpA (pa_cons ha hr hs) fun σ H Q ⟨ρ, δ, S, e, k, p⟩ => tE.first e k p fun v u ρ1 H1 S1 _ n1 e1 k1 r1 p1 => tA.first e1 k1 p1 fun vs us ρ2 H2 S2 _ n2 e2 k2 r2 p2 => p2.here k2 _ (.cons (r1.nxt n2 k1) r2)
def fits (ds : List D) : Option (List D) := if ds.length ≤ sizeLine then some ds else none
def mTup (m : MA) : ME := fun δ S => (m δ S).bind fun us S1 => lift ((datas us).bind fun ds => (fits ds).map fun ds => .d (.tup ds)) S1
def mLst (m : MA) : ME := fun δ S => (m δ S).bind fun us S1 => lift ((datas us).bind fun ds => (fits ds).map fun ds => .d (.lst ds)) S1
/-- a list that will change -/
def mLstC (m : MA) : ME := fun δ S => (m δ S).bind fun us S1 => match (datas us).bind fits with
  | some ds => .ok (.loc S1.length) (S1 ++ [.lst ds])
  | none => .stuck
theorem fits_some {ds es : List D} (h : fits ds = some es) : es = ds ∧ ds.length ≤ sizeLine := by
  unfold fits at h
  split at h
  · cases h; exact ⟨rfl, by assumption⟩
  · cases h
theorem pm_tup {i : Nat} (h : PMA X W es mas) : PM X W (.Tuple es i pos) (mTup mas) :=
  pimpE (pe_tup h) fun σ H Q ⟨ρ, δ, S, e, k, p⟩ => tA.first e k p fun vs us ρ1 H1 S1 _ n1 e1 k1 r1 p1 => by
    cases q : (datas us).bind fun ds => (fits ds).map fun ds => U.d (.tup ds) with
    | none => rw [q] at p1; exact p1.elim
    | some u =>
      rw [q] at p1
      obtain ⟨ds, h1, h2⟩ := Option.bind_eq_some_iff.mp q
      obtain ⟨es, h3, rfl⟩ := Option.map_eq_some_iff.mp h2
      obtain ⟨rfl, hz⟩ := fits_some h3
      have r := r1.datas h1
      refine ⟨by rw [r.length]; exact hz, fun a ha => ?_⟩
      exact p1 ρ1 _ (Nxt.laid ha) (k1.laid ha) _ (Rep.tup (SqT.of upd_same) (r.mv ((Nxt.laid ha).mv k1)))
theorem pm_lst (h : PMA X W es mas) : PM X W (.List es pos) (mLst mas) :=
  pimpE (pe_lst h) fun σ H Q ⟨ρ, δ, S, e, k, p⟩ => tA.first e k p fun vs us ρ1 H1 S1 _ n1 e1 k1 r1 p1 => by
    cases q : (datas us).bind fun ds => (fits ds).map fun ds => U.d (.lst ds) with
    | none => rw [q] at p1; exact p1.elim
    | some u =>
      rw [q] at p1
      obtain ⟨ds, h1, h2⟩ := Option.bind_eq_some_iff.mp q
      obtain ⟨es, h3, rfl⟩ := Option.map_eq_some_iff.mp h2
      obtain ⟨rfl, hz⟩ := fits_some h3
      have r := r1.datas h1
      refine ⟨by rw [r.length]; exact hz, fun a ha => ?_⟩
      exact p1 ρ1 _ (Nxt.laid ha) (k1.laid ha) _ (Rep.lst (.inl upd_same) (k1.notNew ha) (r.mv ((Nxt.laid ha).mv k1)))
theorem pm_lstC (h : PMA X W es mas) : PM X W (.List es pos) (mLstC mas) :=
  pimpE (pe_lst h) fun σ H Q ⟨ρ, δ, S, e, k, p⟩ => tA.first e k p fun vs us ρ1 H1 S1 _ n1 e1 k1 r1 p1 => by
    cases q : (datas us).bind fits with
    | none => rw [q] at p1; exact p1.elim
    | some u =>
      rw [q] at p1
      obtain ⟨ds, h1, h2⟩ := Option.bind_eq_some_iff.mp q
      obtain ⟨rfl, hz⟩ := fits_some h2
      have r := r1.datas h1
      refine ⟨by rw [r.length]; exact hz, fun a ha => ?_⟩
      refine p1 _ _ (Nxt.cell ha) (k1.cell ha ⟨vs, upd_same, r.mv ((Nxt.cell ha).mv k1)⟩) _ ⟨a, rfl, ?_⟩
      show (ρ1.cs ++ [some a])[S1.length]? = _
      rw [← k1.len, List.getElem?_append_right (Nat.le_refl _)]; simp
end
end DL

set_option Elab.async false
set_option linter.all false
set_option maxRecDepth 100000
set_option maxHeartbeats 4000000
/-! DRules2: the operators and built-ins on data -/
namespace DL
open PySem PySem.Spec PyProof.Rows L2

section
variable {K : Fg} {ρ : Ad} {H : Hp} {S : Store}
/-- a new tuple, a new list of data that stands -/
theorem new_tup {a : Addr} {xs : List V} {ds : List D} {Q : VK} (k : Ok K ρ S H) (ha : H a = none) (r : RepL K (free ρ) H xs ds) (q : ∀ v H', Nxt ρ H ρ H' → Ok K ρ S H' → Rep K (free ρ) H' v (.tup ds) → Q v H') : Q (.ref a) (upd H a (.tup xs)) :=
  q _ _ (Nxt.laid ha) (k.laid ha) (.tup (SqT.of upd_same) (r.mv ((Nxt.laid ha).mv k)))
theorem new_lst {a : Addr} {xs : List V} {ds : List D} {Q : VK} (k : Ok K ρ S H) (ha : H a = none) (r : RepL K (free ρ) H xs ds) (q : ∀ v H', Nxt ρ H ρ H' → Ok K ρ S H' → Rep K (free ρ) H' v (.lst ds) → Q v H') : Q (.ref a) (upd H a (.lst xs)) :=
  q _ _ (Nxt.laid ha) (k.laid ha) (.lst (.inl upd_same) (k.notNew ha) (r.mv ((Nxt.laid ha).mv k)))
end
section
variable {X : Cx} {pins : List (Addr × Obj)} {σ : L2.St} {H : Hp} {s : Shared} {l : Addr} {xs : List V}
theorem lstR (I : Inv X pins σ H s) (hH : Rd H l (.lst xs)) : xs.length ≤ sizeLine ∧ ∃ (its : List Value) (n : Nat), Vals xs its ∧ xs.length = its.length ∧ s.heap.get? l = some { cls := .type "list", data := .seq its.toArray n } := by
  obtain ⟨z, its, n, r, e⟩ := (show ObjOk X.prog X.w H s.heap l (.lst xs) from hH.ok I.hok)
  exact ⟨z, its, n, r, r.length, e⟩
end

/-! ### + -/
def dAdd : D → D → Option D
  | .int i, .int j => some (.int (i + j))
  | .str i, .str j => if i.length + j.length ≤ sizeLine then some (.str (i ++ j)) else none
  | .tup a, .tup b => if a.length + b.length ≤ sizeLine then some (.tup (a ++ b)) else none
  | .lst a, .lst b => if a.length + b.length ≤ sizeLine then some (.lst (a ++ b)) else none
  | _, _ => none
section
variable {X : Cx}
theorem op_catR : OpR X (binaryOp .Add) (fun x y H Q => ∃ l b xs zs, x = .ref l ∧ y = .ref b ∧ Rd H l (.lst xs) ∧ Rd H b (.lst zs) ∧ xs.length + zs.length ≤ sizeLine ∧ ∀ p, H p = none → Q (.ref p) (upd H p (.lst (xs ++ zs)))) := by
  intro pins s σ H x y v u Q I rx ry h
  obtain ⟨l, b, xs, zs, rfl, rfl, hH, hB, hz, q⟩ := h
  cases rx; cases ry
  obtain ⟨_, i1, n1, r1, l1, e1⟩ := lstR I hH
  obtain ⟨_, i2, n2, r2, l2, e2⟩ := lstR I hB
  refine PySem.P.add_list e1 e2 ?_ (by simp only [List.size_toArray]; omega)
  rw [show i1.toArray ++ i2.toArray = (i1 ++ i2).toArray by simp]
  exact ⟨.ref _, _, I.lnew (t' := s.toks) (r1.append r2) (by rw [List.length_append]; omega), rfl, q _ I.fresh⟩
theorem RepL.nil_iff {K : Fg} {ok : Addr → Prop} {H : Hp} {vs : List V} {ds : List D} (r : RepL K ok H vs ds) : vs = [] ↔ ds = [] := by cases r <;> simp
theorem od_add : OpD X (binaryOp .Add) dAdd := by
  intro pins s σ H x y v u Q I rx ry h
  obtain ⟨ρ, S, d, e, z, k, r1, r2, g, q⟩ := h
  unfold dAdd at g
  split at g
  · cases r1.int; cases r2.int; cases g
    exact op_add pins s σ H _ _ v u Q I rx ry ⟨_, _, rfl, rfl, q _ _ Nxt.refl k (.int _)⟩
  · cases r1.str; cases r2.str
    split at g
    · cases g
      exact op_add_str pins s σ H _ _ v u Q I rx ry ⟨_, _, rfl, rfl, by assumption, q _ _ Nxt.refl k (.str _)⟩
    · cases g
  · obtain ⟨a, xs, rfl, h1, t1⟩ := r1.tup
    obtain ⟨b, ys, rfl, h2, t2⟩ := r2.tup
    split at g
    · rename_i hz
      cases g
      refine op_catA pins s σ H _ _ v u Q I rx ry ⟨a, b, xs, ys, rfl, rfl, h1, h2, by rw [t1.length, t2.length]; exact hz, fun e => ?_, fun n e => ?_, fun n1 n2 p hp => new_tup k hp (t1.append t2) q⟩
      · rw [t1.nil_iff.mp e] at q
        exact q _ _ Nxt.refl k (.tup h2 t2)
      · rw [t2.nil_iff.mp e, List.append_nil] at q
        exact q _ _ Nxt.refl k (.tup h1 t1)
    · cases g
  · obtain ⟨a, xs, rfl, h1, t1⟩ := r1.lst
    obtain ⟨b, ys, rfl, h2, t2⟩ := r2.lst
    split at g
    · rename_i hz
      cases g
      exact op_catR pins s σ H _ _ v u Q I rx ry ⟨a, b, xs, ys, rfl, rfl, h1, h2, by rw [t1.length, t2.length]; exact hz, fun p hp => new_lst k hp (t1.append t2) q⟩
    · cases g
  · cases g
/-! ### -, *, //, %, ** -/
def dSub : D → D → Option D
  | .int i, .int j => some (.int (i - j))
  | _, _ => none
theorem od_sub : OpD X (binaryOp .Sub) dSub := by
  intro pins s σ H x y v u Q I rx ry h
  obtain ⟨ρ, S, d, e, z, k, r1, r2, g, q⟩ := h
  unfold dSub at g
  split at g
  · cases r1.int; cases r2.int; cases g
    exact op_sub pins s σ H _ _ v u Q I rx ry ⟨_, _, rfl, rfl, q _ _ Nxt.refl k (.int _)⟩
  · cases g
def mulOk (i j : Int) : Bool := (decide (-(2 ^ 64) < i) && decide (i < 2 ^ 64)) || (decide (-(2 ^ 64) < j) && decide (j < 2 ^ 64))
def dMul : D → D → Option D
  | .int i, .int j => if mulOk i j = true then some (.int (i * j)) else none
  | .lst a, .int j => if 0 ≤ j ∧ j < 1000 ∧ a.length ≤ 1000 then some (.lst (List.replicate j.toNat a).flatten) else none
  | _, _ => none
theorem mulOk_iff {i j : Int} (h : mulOk i j = true) : CMul i j := by
  unfold mulOk at h
  simp only [Bool.or_eq_true, Bool.and_eq_true, decide_eq_true_eq] at h
  exact h
theorem op_repR : OpR X (binaryOp .Mult) (fun x y H Q => ∃ l k xs, x = .ref l ∧ y = .int k ∧ Rd H l (.lst xs) ∧ -(2 ^ 63) ≤ k ∧ k < 2 ^ 63 ∧ xs.length * k.toNat ≤ sizeLine ∧
    ∀ p, H p = none → Q (.ref p) (upd H p (.lst (List.replicate k.toNat xs).flatten))) := by
  intro pins s σ H x y v u Q I rx ry h
  obtain ⟨l, k, xs, rfl, rfl, hH, b1, b2, hz, q⟩ := h
  cases rx
  obtain ⟨t, rfl⟩ := ry
  obtain ⟨_, its, n, r, hl, e⟩ := lstR I hH
  have z1 : its.toArray.size * k.toNat ≤ sizeLine := by rw [List.size_toArray, ← hl]; exact hz
  have z2 : ¬ its.toArray.size * k.toNat > (2 ^ 63 - 1) / 8 := by
    have : (sizeLine : Nat) ≤ (2 ^ 63 - 1) / 8 := by decide
    omega
  have z3 : ¬ (!Builtin.List.listFitsIndex k) = true := by rw [fitsIndex_both b1 b2]; exact Bool.false_ne_true
  have z4 : ¬ Builtin.List.listTooLong (its.toArray.size * k.toNat) = true := by rw [notLongL z1]; exact Bool.false_ne_true
  have z5 : List.foldl (fun x1 x2 => x1 ++ x2) #[] (List.replicate (if its.toArray.isEmpty = true then 0 else k.toNat) its.toArray) = (List.replicate k.toNat its).flatten.toArray := by
    have f0 : ∀ m : Nat, List.foldl (fun x1 x2 => x1 ++ x2) #[] (List.replicate m its.toArray) = (List.replicate m its).flatten.toArray := fun m => by
      have w := foldl_rep its m []
      rwa [List.nil_append] at w
    rw [f0]
    cases its with
    | nil => simp
    | cons a r' => rw [if_neg (by simp)]
  refine wpAny_binaryOp_repeat_ref (T := "list") (U := "int") (by decide) ⟨_, e, rfl⟩ (fun s' => typeIs_int s' k t) noFill_list_mul F.fills_int_mul F.slot_int_rmul repeat_list F.slot_int_index.lookup
    (call_meets F.slot_int_rmul (typeIs_int s k t) F.entry_int_rmul (F.args_int_rmul_2 _ _) (int___rmul___int_list k t l its.toArray n)
      ⟨e, rfl, ⟨_, e, rfl⟩, call_meets F.slot_list_mul ⟨_, e, rfl⟩ F.entry_list_mul (F.args_list_mul_2 _ _) (AutoListH.list___mul___list_int_3 l its.toArray n k t z3 z2 z4) ⟨e, ?_⟩⟩)
  rw [z5]
  exact ⟨.ref _, _, I.lnew (t' := s.toks) (r.rep k.toNat) (by rw [PyProof.Rows.lm_len_rep_flat, Nat.mul_comm]; exact hz), rfl, q _ I.fresh⟩
theorem RepL.rep {K : Fg} {ok : Addr → Prop} {H : Hp} {vs : List V} {ds : List D} (r : RepL K ok H vs ds) : ∀ n : Nat, RepL K ok H (List.replicate n vs).flatten (List.replicate n ds).flatten
  | 0 => .nil
  | n + 1 => by rw [List.replicate_succ, List.replicate_succ, List.flatten_cons, List.flatten_cons]; exact r.append (r.rep n)
theorem od_mul : OpD X (binaryOp .Mult) dMul := by
  intro pins s σ H x y v u Q I rx ry h
  obtain ⟨ρ, S, d, e, z, k, r1, r2, g, q⟩ := h
  unfold dMul at g
  split at g
  · cases r1.int; cases r2.int
    split at g
    · cases g
      exact op_mul pins s σ H _ _ v u Q I rx ry ⟨_, _, rfl, rfl, mulOk_iff (by assumption), q _ _ Nxt.refl k (.int _)⟩
    · cases g
  · obtain ⟨a, xs, rfl, h1, t1⟩ := r1.lst
    cases r2.int
    split at g
    · rename_i ds j hz
      obtain ⟨z1, z2, z3⟩ := hz
      cases g
      refine op_repR pins s σ H _ _ v u Q I rx ry ⟨a, j, xs, rfl, rfl, h1, by omega, by omega, ?_, fun p hp => new_lst k hp (t1.rep _) q⟩
      rw [t1.length, sizeLine_eq]
      have w : ds.length * j.toNat ≤ 1000 * 1000 := Nat.mul_le_mul z3 (by omega)
      omega
    · cases g
  · cases g
def dFdiv : D → D → Option D
  | .int i, .int j => if j ≠ 0 ∧ j.natAbs < 1073741824 then some (.int (i.fdiv j)) else none
  | _, _ => none
theorem od_fdiv : OpD X (binaryOp .FloorDiv) dFdiv := by
  intro pins s σ H x y v u Q I rx ry h
  obtain ⟨ρ, S, d, e, z, k, r1, r2, g, q⟩ := h
  unfold dFdiv at g
  split at g
  · cases r1.int; cases r2.int
    split at g
    · cases g
      exact op_fdivN pins s σ H _ _ v u Q I rx ry ⟨_, _, rfl, rfl, by assumption, q _ _ Nxt.refl k (.int _)⟩
    · cases g
  · cases g
def dMod : D → D → Option D
  | .int i, .int j => if j ≠ 0 then some (.int (i.fmod j)) else none
  | _, _ => none
theorem od_mod : OpD X (binaryOp .Mod) dMod := by
  intro pins s σ H x y v u Q I rx ry h
  obtain ⟨ρ, S, d, e, z, k, r1, r2, g, q⟩ := h
  unfold dMod at g
  split at g
  · cases r1.int; cases r2.int
    split at g
    · cases g
      exact op_modN pins s σ H _ _ v u Q I rx ry ⟨_, _, rfl, rfl, by assumption, q _ _ Nxt.refl k (.int _)⟩
    · cases g
  · cases g
def dPow : D → D → Option D
  | .int i, .int j => if 0 ≤ j ∧ j ≤ 1000000 ∧ i.natAbs < 2 ^ 64 then some (.int (i ^ j.toNat)) else none
  | _, _ => none
theorem od_pow : OpD X (binaryOp .Pow) dPow := by
  intro pins s σ H x y v u Q I rx ry h
  obtain ⟨ρ, S, d, e, z, k, r1, r2, g, q⟩ := h
  unfold dPow at g
  split at g
  · cases r1.int; cases r2.int
    split at g
    · cases g
      exact op_pow pins s σ H _ _ v u Q I rx ry ⟨_, _, rfl, rfl, by assumption, q _ _ Nxt.refl k (.int _)⟩
    · cases g
  · cases g
def dNeg : D → Option D
  | .int i => some (.int (-i))
  | _ => none
theorem ud_neg : UnD X (unaryOp .USub) dNeg := by
  intro pins s σ H x v Q I rx h
  obtain ⟨ρ, S, d, z, k, r1, g, q⟩ := h
  unfold dNeg at g
  split at g
  · cases r1.int; cases g
    exact un_neg pins s σ H _ v Q I rx ⟨_, rfl, q _ _ Nxt.refl k (.int _)⟩
  · cases g
/-! ### comparisons -/
def eqD (d e : D) : Option Bool :=
  match asV d, asV e with
  | some x, some y => if scal x y = true then some (decide (x = y)) else
    match toPy d, toPy e with
    | some p, some q => if SeqAt.shaped p && SeqAt.shaped q then some (PyData.eqv p q) else none
    | _, _ => none
  | _, _ =>
    match toPy d, toPy e with
    | some p, some q => if SeqAt.shaped p && SeqAt.shaped q then some (PyData.eqv p q) else none
    | _, _ => none
def dEq (d e : D) : Option D := (eqD d e).map D.bl
def dNe (d e : D) : Option D := (eqD d e).map fun b => D.bl (!b)
theorem eqD_cases {d e : D} {b : Bool} (h : eqD d e = some b) : (∃ x y, asV d = some x ∧ asV e = some y ∧ scal x y = true ∧ b = decide (x = y)) ∨ ∃ p q, toPy d = some p ∧ toPy e = some q ∧ SeqAt.shaped p = true ∧ SeqAt.shaped q = true ∧ b = PyData.eqv p q := by
  have two : ∀ {b : Bool}, (match toPy d, toPy e with | some p, some q => if SeqAt.shaped p && SeqAt.shaped q then some (PyData.eqv p q) else none | _, _ => none) = some b → ∃ p q, toPy d = some p ∧ toPy e = some q ∧ SeqAt.shaped p = true ∧ SeqAt.shaped q = true ∧ b = PyData.eqv p q := fun {b} h => by
    split at h
    · rename_i p q h1 h2
      split at h
      · rename_i hs
        cases h
        rw [Bool.and_eq_true] at hs
        exact ⟨p, q, h1, h2, hs.1, hs.2, rfl⟩
      · cases h
    · cases h
  unfold eqD at h
  split at h
  · rename_i x y h1 h2
    split at h
    · cases h; exact .inl ⟨x, y, h1, h2, by assumption, rfl⟩
    · exact .inr (two h)
  · exact .inr (two h)
theorem od_eq (hu : X.A.units + 64 < cLine) : OpD X (compareOp .Eq) dEq := by
  intro pins s σ H x y v u Q I rx ry h
  obtain ⟨ρ, S, d, e, z, k, r1, r2, g, q⟩ := h
  obtain ⟨b, gb, rfl⟩ := Option.map_eq_some_iff.mp g
  rcases eqD_cases gb with ⟨x', y', h1, h2, h3, rfl⟩ | ⟨p, p', h1, h2, h3, h4, rfl⟩
  · cases r1.asV h1; cases r2.asV h2
    exact op_eq pins s σ H _ _ v u Q I rx ry ⟨h3, q _ _ Nxt.refl k (.bl _)⟩
  · exact op_eqD hu pins s σ H _ _ v u Q I rx ry ⟨p, p', r1.dp h1, r2.dp h2, h3, h4, q _ _ Nxt.refl k (.bl _)⟩
theorem od_ne (hu : X.A.units + 64 < cLine) : OpD X (compareOp .NotEq) dNe := by
  intro pins s σ H x y v u Q I rx ry h
  obtain ⟨ρ, S, d, e, z, k, r1, r2, g, q⟩ := h
  obtain ⟨b, gb, rfl⟩ := Option.map_eq_some_iff.mp g
  rcases eqD_cases gb with ⟨x', y', h1, h2, h3, rfl⟩ | ⟨p, p', h1, h2, h3, h4, rfl⟩
  · cases r1.asV h1; cases r2.asV h2
    exact op_ne pins s σ H _ _ v u Q I rx ry ⟨h3, q _ _ Nxt.refl k (.bl _)⟩
  · exact op_neD hu pins s σ H _ _ v u Q I rx ry ⟨p, p', r1.dp h1, r2.dp h2, h3, h4, q _ _ Nxt.refl k (.bl _)⟩
def dCmp (p : Int → Int → Bool) : D → D → Option D
  | .int i, .int j => some (.bl (p i j))
  | _, _ => none
theorem od_cmp {op : CmpOp} {p : Int → Int → Bool} (ho : OpR X (compareOp op) (rI0 fun i j => .bl (p i j))) : OpD X (compareOp op) (dCmp p) := by
  intro pins s σ H x y v u Q I rx ry h
  obtain ⟨ρ, S, d, e, z, k, r1, r2, g, q⟩ := h
  unfold dCmp at g
  split at g
  · cases r1.int; cases r2.int; cases g
    exact ho pins s σ H _ _ v u Q I rx ry ⟨_, _, rfl, rfl, q _ _ Nxt.refl k (.bl _)⟩
  · cases g
abbrev dLt := dCmp fun i j => decide (i < j)
abbrev dLe := dCmp fun i j => decide (i ≤ j)
abbrev dGt := dCmp fun i j => decide (j < i)
abbrev dGe := dCmp fun i j => decide (j ≤ i)
theorem od_lt : OpD X (compareOp .Lt) dLt := od_cmp op_lt
theorem od_le : OpD X (compareOp .LtE) dLe := od_cmp op_le
theorem od_gt : OpD X (compareOp .Gt) dGt := od_cmp op_gt
theorem od_ge : OpD X (compareOp .GtE) dGe := od_cmp op_ge
def isNon : D → Bool
  | .non => true
  | _ => false
def dIs (d e : D) : Option D := if isNon e then some (.bl (isNon d)) else none
def dIsNot (d e : D) : Option D := if isNon e then some (.bl (!isNon d)) else none
theorem isNon_eq {K : Fg} {ρ : Ad} {H : Hp} {v : V} {d : D} (r : RepP K ρ H v d) : decide (v = .non) = isNon d := by
  cases d with
  | non => rw [r.non]; rfl
  | _ => exact decide_eq_false (r.notNon (fun z => by cases z))
theorem od_is : OpD X (compareOp .Is) dIs := by
  intro pins s σ H x y v u Q I rx ry h
  obtain ⟨ρ, S, d, e, z, k, r1, r2, g, q⟩ := h
  unfold dIs at g
  split at g
  · rename_i he
    cases e with
    | non =>
      cases g
      exact op_isN pins s σ H _ _ v u Q I rx ry ⟨r2.non, by rw [isNon_eq r1]; exact q _ _ Nxt.refl k (.bl _)⟩
    | _ => cases he
  · cases g
theorem od_isnot : OpD X (compareOp .IsNot) dIsNot := by
  intro pins s σ H x y v u Q I rx ry h
  obtain ⟨ρ, S, d, e, z, k, r1, r2, g, q⟩ := h
  unfold dIsNot at g
  split at g
  · rename_i he
    cases e with
    | non =>
      cases g
      exact op_notN pins s σ H _ _ v u Q I rx ry ⟨r2.non, by rw [isNon_eq r1]; exact q _ _ Nxt.refl k (.bl _)⟩
    | _ => cases he
  · cases g
/-! ### dicts as data -/
def valD (kvs : List (Key × D)) (k : Key) : Option D := (kvs.find? fun kv => decide (kv.1 = k)).map (·.2)
def keyD : D → Option Key
  | .int i => some (.inl i)
  | .str x => some (.inr x)
  | _ => none
theorem RepP.key {K : Fg} {ρ : Ad} {H : Hp} {v : V} {d : D} {k : Key} (r : RepP K ρ H v d) (e : keyD d = some k) : v = kV k := by
  cases d with
  | int i => cases e; exact r.int
  | str x => cases e; exact r.str
  | _ => cases e
theorem RepK.val {K : Fg} {ok : Addr → Prop} {H : Hp} {k : Key} : ∀ {ks : List (Key × V)} {es : List (Key × D)}, RepK K ok H ks es → (valD es k = none ∧ valV ks k = none) ∨ ∃ v d, valD es k = some d ∧ valV ks k = some v ∧ Rep K ok H v d
  | _, _, .nil => .inl ⟨rfl, rfl⟩
  | _, _, .cons (k := k') h t => by
    unfold valD valV
    rw [List.find?_cons, List.find?_cons]
    by_cases q : k' = k
    · simp only [q, decide_true]
      exact .inr ⟨_, _, rfl, rfl, h⟩
    · simp only [q, decide_false]
      exact t.val
/-! ### in -/
def inD (x : D) : D → Option Bool
  | .tup ds => match asV x, asVs ds with
    | some v, some vs => some (inV v vs)
    | _, _ => none
  | .lst ds => match asV x, asVs ds with
    | some v, some vs => some (inV v vs)
    | _, _ => none
  | .dct es => (keyD x).map fun k => (valD es k).isSome
  | _ => none
def dIn (d e : D) : Option D := (inD d e).map D.bl
def dNotIn (d e : D) : Option D := (inD d e).map fun b => D.bl (!b)
theorem inD_ok {K : Fg} {ρ : Ad} {H : Hp} {x y : V} {d e : D} {b : Bool} (r1 : RepP K ρ H x d) (r2 : RepP K ρ H y e) (h : inD d e = some b) :
    (∃ p xs, y = .ref p ∧ (SqL K H p xs ∨ SqT K H p xs) ∧ flatV x = true ∧ xs.all flatV = true ∧ b = inV x xs) ∨ ∃ a o, y = .ref a ∧ DGet H a x o ∧ b = o.isSome := by
  cases e with
  | tup ds =>
    have h' : (match asV d, asVs ds with | some v, some vs => some (inV v vs) | _, _ => none) = some b := h
    split at h'
    · rename_i v vs h1 h2
      cases h'
      obtain ⟨a, xs, rfl, q, r⟩ := r2.tup
      cases r1.asV h1
      obtain ⟨rfl, fl⟩ := r.asVs h2
      exact .inl ⟨a, xs, rfl, .inr q, asV_flat h1, fl, rfl⟩
    · cases h'
  | lst ds =>
    have h' : (match asV d, asVs ds with | some v, some vs => some (inV v vs) | _, _ => none) = some b := h
    split at h'
    · rename_i v vs h1 h2
      cases h'
      obtain ⟨a, xs, rfl, q, r⟩ := r2.lst
      cases r1.asV h1
      obtain ⟨rfl, fl⟩ := r.asVs h2
      exact .inl ⟨a, xs, rfl, .inl (.inl q), asV_flat h1, fl, rfl⟩
    · cases h'
  | dct es =>
    obtain ⟨k, hk, rfl⟩ := Option.map_eq_some_iff.mp (show (keyD d).map (fun k => (valD es k).isSome) = some b from h)
    obtain ⟨a, ks, rfl, q, r⟩ := r2.dct
    refine .inr ⟨a, valV ks k, rfl, .inl ⟨ks, k, q, r1.key hk, rfl⟩, ?_⟩
    rcases r.val (k := k) with ⟨e1, e2⟩ | ⟨v, d, e1, e2, _⟩ <;> rw [e1, e2] <;> rfl
  | _ => cases h
theorem od_in (hu : X.A.units + 1 < cLine) : OpD X (compareOp .In) dIn := by
  intro pins s σ H x y v u Q I rx ry h
  obtain ⟨ρ, S, d, e, z, k, r1, r2, g, q⟩ := h
  obtain ⟨b, gb, rfl⟩ := Option.map_eq_some_iff.mp g
  rcases inD_ok r1 r2 gb with ⟨p, xs, rfl, h1, h2, h3, rfl⟩ | ⟨a, o, rfl, h1, rfl⟩
  · exact op_in_seq pins s σ H _ _ v u Q I rx ry ⟨p, xs, rfl, h1, h2, h3, q _ _ Nxt.refl k (.bl _)⟩
  · cases ry
    exact d_in hu I h1 rx fun s3 I3 => ⟨.bl o.isSome, H, I3, rfl, q _ _ Nxt.refl k (.bl _)⟩
theorem od_notin (hu : X.A.units + 1 < cLine) : OpD X (compareOp .NotIn) dNotIn := by
  intro pins s σ H x y v u Q I rx ry h
  obtain ⟨ρ, S, d, e, z, k, r1, r2, g, q⟩ := h
  obtain ⟨b, gb, rfl⟩ := Option.map_eq_some_iff.mp g
  rcases inD_ok r1 r2 gb with ⟨p, xs, rfl, h1, h2, h3, rfl⟩ | ⟨a, o, rfl, h1, rfl⟩
  · exact op_notIn_seq pins s σ H _ _ v u Q I rx ry ⟨p, xs, rfl, h1, h2, h3, q _ _ Nxt.refl k (.bl _)⟩
  · cases ry
    exact d_notIn hu I h1 rx fun s3 I3 => ⟨.bl (!o.isSome), H, I3, rfl, q _ _ Nxt.refl k (.bl _)⟩
/-! ### subscripts -/
def dIx : D → D → Option D
  | .tup ds, .int i => atI ds i
  | .lst ds, .int i => atI ds i
  | .fl ds, .int i => atI ds i
  | .str z, .int i => if z.length ≤ sizeLine then (atI z.cps.toList i).map fun c => .str ⟨#[c]⟩ else none
  | .dct es, y => (keyD y).bind fun k => valD es k
  | _, _ => none
theorem RepL.atI {K : Fg} {ok : Addr → Prop} {H : Hp} {vs : List V} {ds : List D} {i : Int} {d : D} (r : RepL K ok H vs ds) (e : L2.atI ds i = some d) : ∃ v, L2.atI vs i = some v ∧ Rep K ok H v d := by
  unfold L2.atI at e ⊢
  rw [r.length]
  obtain ⟨j, h1, h2⟩ := Option.bind_eq_some_iff.mp e
  obtain ⟨v, h3, h4⟩ := r.get h2
  exact ⟨v, by rw [h1]; exact h3, h4⟩
theorem ix_dict (hu : X.A.units + 1 < cLine) : IxR X (fun x y H Q => ∃ a v, x = .ref a ∧ DGet H a y (some v) ∧ Q v H) := by
  intro value slice pins s σ H x y v u Q I rx ry q hs
  obtain ⟨a, w, rfl, g, q⟩ := q
  cases rx
  exact tail_any (dict_typeIs I g) PySem.F.slot_dict_getitem.lookup (d_getItem hu I g ry fun w' s3 I3 r => ⟨w, H, I3, r, q⟩) hs
theorem id_ix (hu : X.A.units + 1 < cLine) : IxR X (rD X.K dIx) := by
  intro value slice pins s σ H x y v u Q I rx ry h hs
  obtain ⟨ρ, S, d, e, z, k, r1, r2, g, q⟩ := h
  unfold dIx at g
  split at g
  · obtain ⟨a, xs, rfl, h1, t1⟩ := r1.tup
    cases r2.int
    obtain ⟨w, e1, e2⟩ := t1.atI g
    exact ix_tup value slice pins s σ H _ _ v u Q I rx ry ⟨a, xs, _, w, rfl, rfl, h1, e1, q _ _ Nxt.refl k e2⟩ hs
  · obtain ⟨a, xs, rfl, h1, t1⟩ := r1.lst
    cases r2.int
    obtain ⟨w, e1, e2⟩ := t1.atI g
    exact ix_list value slice pins s σ H _ _ v u Q I rx ry ⟨a, xs, _, w, rfl, rfl, .inl h1, e1, q _ _ Nxt.refl k e2⟩ hs
  · obtain ⟨a, xs, rfl, h1, t1⟩ := r1.fl
    cases r2.int
    obtain ⟨w, e1, e2⟩ := t1.atI g
    exact ix_list value slice pins s σ H _ _ v u Q I rx ry ⟨a, xs, _, w, rfl, rfl, h1, e1, q _ _ Nxt.refl k e2⟩ hs
  · cases r1.str; cases r2.int
    split at g
    · obtain ⟨c, e1, rfl⟩ := Option.map_eq_some_iff.mp g
      exact ix_str value slice pins s σ H _ _ v u Q I rx ry ⟨_, _, c, rfl, rfl, by assumption, e1, q _ _ Nxt.refl k (.str _)⟩ hs
    · cases g
  · obtain ⟨a, ks, rfl, h1, t1⟩ := r1.dct
    obtain ⟨kk, e1, e2⟩ := Option.bind_eq_some_iff.mp g
    rcases t1.val (k := kk) with ⟨e3, _⟩ | ⟨w, d, e3, e4, e5⟩
    · rw [e2] at e3; cases e3
    · rw [e2] at e3; cases e3
      exact ix_dict hu value slice pins s σ H _ _ v u Q I rx ry ⟨a, w, rfl, .inl ⟨ks, kk, h1, r2.key e1, e4.symm⟩, q _ _ Nxt.refl k e5⟩ hs
  · cases g
end
section
variable {X : Cx} {W : WX} {pos : Pos} {a b c : Expr} {ma mb mc : ME}
theorem pm_ix (hu : X.A.units + 1 < cLine) (ha : PM X W a ma) (hb : PM X W b mb) (hs : PlainIx b := by intros; rfl) : PM X W (.Subscript a b pos) (m2 dIx ma mb) :=
  pimpE (pe_ix (id_ix hu) ha hb hs) fun _ _ _ h => m2_ok (fun _ _ _ _ z => z) h
/-! ### slices -/
abbrev MO := DEnv → Store → Res (Option Int)
def tO (K : Fg) (W : WX) (m : MO) : TO := fun σ H Q => ∃ ρ δ S, EnvOk K ρ H σ δ ∧ Ok K ρ S H ∧ Post K W σ ρ H (m δ S) fun b _ H' => Q b H'
def PMO (X : Cx) (W : WX) (e : Option Expr) (m : MO) : Prop := PO X e (tO X.K W m)
def moNone : MO := fun _ S => .ok none S
def moSome (m : ME) : MO := fun δ S => (m δ S).bind fun u S' => match u with
  | .d (.int i) => .ok (some i) S'
  | _ => .stuck
theorem pmo_none : PMO X W none moNone := ⟨fun pins s σ H Q I ⟨ρ, δ, S, e, k, p⟩ => po_none.run pins s σ H Q I (p.here k)⟩
theorem pmo_some (ha : PM X W a ma) : PMO X W (some a) (moSome ma) := ⟨fun pins s σ H Q I ⟨ρ, δ, S, e, k, p⟩ => (po_some ha).run pins s σ H Q I (by
  refine tE.first e k p fun v u ρ1 H1 S1 _ n1 e1 k1 r1 p1 => ?_
  cases u with
  | loc n => exact p1.elim
  | d x =>
    cases x with
    | int i => cases r1; exact ⟨i, rfl, p1.here k1⟩
    | _ => exact p1.elim)⟩
def cutD (ds : List D) (lo hi : Option Int) : List D := (ds.drop (HT.sIx ds.length 0 lo)).take (HT.sIx ds.length ds.length hi - HT.sIx ds.length 0 lo)
theorem RepL.cut {K : Fg} {ok : Addr → Prop} {H : Hp} {vs : List V} {ds : List D} (r : RepL K ok H vs ds) (lo hi : Option Int) : RepL K ok H (cutV vs lo hi) (cutD ds lo hi) := by
  unfold cutV cutD
  rw [r.length]
  exact (r.drop _).take _
def dSl (d : D) (lo hi : Option Int) : Option D := match d with
  | .tup ds => some (.tup (cutD ds lo hi))
  | .lst ds => some (.lst (cutD ds lo hi))
  | .fl ds => some (.lst (cutD ds lo hi))
  | .str z => if z.length ≤ sizeLine then some (.str (cutS z lo hi)) else none
  | _ => none
def mSl (m : ME) (l h : MO) : ME := fun δ S => (m δ S).bind fun u S1 => (l δ S1).bind fun lo S2 => (h δ S2).bind fun hi S3 => lift (((peek S3 u).bind fun d => dSl d lo hi).map U.d) S3
theorem tO.first {α : Type} {K : Fg} {σ : L2.St} {H : Hp} {ρ : Ad} {δ : DEnv} {S : Store} {m : MO} {f : Option Int → Store → Res α} {good : α → Ad → Hp → Prop} {Q : Option Int → Hp → Prop} (e : EnvOk K ρ H σ δ) (k : Ok K ρ S H) (h : Post K W σ ρ H ((m δ S).bind f) good)
    (hq : ∀ b ρ1 H1 S1, m δ S = .ok b S1 → Nxt ρ H ρ1 H1 → EnvOk K ρ1 H1 σ δ → Ok K ρ1 S1 H1 → Post K W σ ρ1 H1 (f b S1) good → Q b H1) : tO K W m σ H Q := by
  refine ⟨ρ, δ, S, e, k, (Post.bind h).imp fun u ρ1 H1 n q => ?_⟩
  obtain ⟨S1, e1, k1, p⟩ := q
  exact hq u ρ1 H1 S1 e1 n (e.nxt n k) k1 p
theorem cutV_all {xs : List V} {lo hi : Option Int} (h : HT.sIx xs.length 0 lo = 0 ∧ HT.sIx xs.length xs.length hi = xs.length) : cutV xs lo hi = xs := by
  unfold cutV; rw [h.1, h.2]; simp
theorem cutD_all {xs : List D} {lo hi : Option Int} (h : HT.sIx xs.length 0 lo = 0 ∧ HT.sIx xs.length xs.length hi = xs.length) : cutD xs lo hi = xs := by
  unfold cutD; rw [h.1, h.2]; simp
theorem sl_any : SlR X (fun x lo hi H Q => ∃ ρ S d z, Ok X.K ρ S H ∧ RepP X.K ρ H x d ∧ dSl d lo hi = some z ∧ ∀ v H', Nxt ρ H ρ H' → Ok X.K ρ S H' → Rep X.K (free ρ) H' v z → Q v H') := by
  intro pins s σ H x v vl vu lo hi sl Q I rx hs pl pu h
  obtain ⟨ρ, S, d, z, k, r, g, q⟩ := h
  cases d with
  | tup ds =>
    cases g
    obtain ⟨a, xs, rfl, h1, t1⟩ := r.tup
    refine sl_tupA pins s σ H _ v vl vu lo hi sl Q I rx hs pl pu ⟨a, xs, rfl, h1, fun e => ?_, fun e p hp => new_tup k hp (t1.cut lo hi) q⟩
    rw [cutD_all (by rw [← t1.length]; exact e)] at q
    exact q _ _ Nxt.refl k (.tup h1 t1)
  | lst ds =>
    cases g
    obtain ⟨a, xs, rfl, h1, t1⟩ := r.lst
    exact sl_list pins s σ H _ v vl vu lo hi sl Q I rx hs pl pu ⟨a, xs, rfl, .inl h1, fun p hp => new_lst k hp (t1.cut lo hi) q⟩
  | fl ds =>
    cases g
    obtain ⟨a, xs, rfl, h1, t1⟩ := r.fl
    exact sl_list pins s σ H _ v vl vu lo hi sl Q I rx hs pl pu ⟨a, xs, rfl, h1, fun p hp => new_lst k hp (t1.cut lo hi) q⟩
  | str y =>
    have g' : (if y.length ≤ sizeLine then some (D.str (cutS y lo hi)) else none) = some z := g
    cases r.str
    split at g'
    · cases g'
      exact sl_str pins s σ H _ v vl vu lo hi sl Q I rx hs pl pu ⟨_, rfl, by assumption, q _ _ Nxt.refl k (.str _)⟩
    · cases g'
  | _ => cases g
theorem pm_sl {lo hi : Option Expr} {p2 : Pos} {l h : MO} (ha : PM X W a ma) (hl : PMO X W lo l) (hh : PMO X W hi h) : PM X W (.Subscript a (.Slice lo hi none p2) pos) (mSl ma l h) :=
  pimpE (pe_slice sl_any ha hl hh) fun σ H Q ⟨ρ, δ, S, e, k, p⟩ => tE.first e k p fun v u ρ1 H1 S1 _ n1 e1 k1 r1 p1 => tO.first e1 k1 p1 fun lo ρ2 H2 S2 _ n2 e2 k2 p2 => tO.first e2 k2 p2 fun hi ρ3 H3 S3 _ n3 e3 k3 p3 => by
    obtain ⟨z, ez, q⟩ := p3.lifted
    obtain ⟨d, h1, h2⟩ := Option.bind_eq_some_iff.mp ez
    exact ⟨ρ3, S3, d, z, k3, ((r1.nxt n2 k1).nxt n3 k2).peek k3 h1, h2, q⟩
end
end DL

set_option Elab.async false
set_option linter.all false
set_option maxRecDepth 100000
set_option maxHeartbeats 4000000
/-! DRules3: built-ins by name, statements, loops, comprehensions -/
namespace DL
open PySem PySem.Spec PyProof.Rows L2

section
variable {X : Cx}
/-! ### len, min, max, int, tuple, list, repr -/
def dLen : List D → Option D
  | [.tup ds] => some (.int ds.length)
  | [.lst ds] => some (.int ds.length)
  | [.fl ds] => some (.int ds.length)
  | [.str z] => if z.length ≤ sizeLine then some (.int z.length) else none
  | _ => none
theorem RepPs.one {K : Fg} {ρ : Ad} {H : Hp} {xs : List V} {d : D} (h : RepPs K ρ H xs [d]) : ∃ v, xs = [v] ∧ RepP K ρ H v d := by
  cases h with
  | cons h t => cases t; exact ⟨_, rfl, h⟩
theorem RepPs.two {K : Fg} {ρ : Ad} {H : Hp} {xs : List V} {d e : D} (h : RepPs K ρ H xs [d, e]) : ∃ v w, xs = [v, w] ∧ RepP K ρ H v d ∧ RepP K ρ H w e := by
  cases h with
  | cons h t => obtain ⟨w, rfl, r⟩ := t.one; exact ⟨_, _, rfl, h, r⟩
theorem cd_len : CallD X (.builtin "len") dLen := by
  intro pins s σ H xs us Q I r h
  obtain ⟨ρ, S, ds, z, k, rr, g, q⟩ := h
  unfold dLen at g
  split at g
  · obtain ⟨v, rfl, r1⟩ := rr.one
    obtain ⟨a, xs, rfl, h1, t1⟩ := r1.tup
    cases g
    exact call_len pins s σ H _ us Q I r ⟨_, xs.length, rfl, .inr ⟨xs, h1, rfl⟩, by rw [t1.length]; exact q _ _ Nxt.refl k (.int _)⟩
  · obtain ⟨v, rfl, r1⟩ := rr.one
    obtain ⟨a, xs, rfl, h1, t1⟩ := r1.lst
    cases g
    exact call_len pins s σ H _ us Q I r ⟨_, xs.length, rfl, .inl ⟨xs, .inl h1, rfl⟩, by rw [t1.length]; exact q _ _ Nxt.refl k (.int _)⟩
  · obtain ⟨v, rfl, r1⟩ := rr.one
    obtain ⟨a, xs, rfl, h1, t1⟩ := r1.fl
    cases g
    exact call_len pins s σ H _ us Q I r ⟨_, xs.length, rfl, .inl ⟨xs, h1, rfl⟩, by rw [t1.length]; exact q _ _ Nxt.refl k (.int _)⟩
  · obtain ⟨v, rfl, r1⟩ := rr.one
    cases r1.str
    split at g
    · cases g
      exact call_len pins s σ H _ us Q I r ⟨_, _, rfl, ⟨by assumption, rfl⟩, q _ _ Nxt.refl k (.int _)⟩
    · cases g
  · cases g
def dMin : List D → Option D
  | [.int i, .int j] => some (.int (if j < i then j else i))
  | _ => none
def dMax : List D → Option D
  | [.int i, .int j] => some (.int (if j > i then j else i))
  | _ => none
theorem cd_min (hc : X.calm = true) : CallD X (.builtin "min") dMin := by
  intro pins s σ H xs us Q I r h
  obtain ⟨ρ, S, ds, z, k, rr, g, q⟩ := h
  unfold dMin at g
  split at g
  · obtain ⟨v, w, rfl, r1, r2⟩ := rr.two
    cases r1.int; cases r2.int; cases g
    exact call_min2 hc pins s σ H _ us Q I r ⟨_, _, rfl, q _ _ Nxt.refl k (.int _)⟩
  · cases g
theorem cd_max (hc : X.calm = true) : CallD X (.builtin "max") dMax := by
  intro pins s σ H xs us Q I r h
  obtain ⟨ρ, S, ds, z, k, rr, g, q⟩ := h
  unfold dMax at g
  split at g
  · obtain ⟨v, w, rfl, r1, r2⟩ := rr.two
    cases r1.int; cases r2.int; cases g
    exact call_max2 hc pins s σ H _ us Q I r ⟨_, _, rfl, q _ _ Nxt.refl k (.int _)⟩
  · cases g
def dInt : List D → Option D
  | [.int i] => some (.int i)
  | [.bl b] => some (.int (if b then 1 else 0))
  | _ => none
theorem cd_int : CallD X (.type "int") dInt := by
  intro pins s σ H xs us Q I r h
  obtain ⟨ρ, S, ds, z, k, rr, g, q⟩ := h
  unfold dInt at g
  split at g
  · obtain ⟨v, rfl, r1⟩ := rr.one
    cases r1.int; cases g
    exact call_int1 pins s σ H _ us Q I r (.inl ⟨_, rfl, q _ _ Nxt.refl k (.int _)⟩)
  · obtain ⟨v, rfl, r1⟩ := rr.one
    cases r1.bl; cases g
    exact call_int1 pins s σ H _ us Q I r (.inr ⟨_, rfl, q _ _ Nxt.refl k (.int _)⟩)
  · cases g
def dTuple : List D → Option D
  | [.tup ds] => some (.tup ds)
  | [.lst ds] => some (.tup ds)
  | _ => none
theorem cd_tuple : CallD X (.type "tuple") dTuple := by
  intro pins s σ H xs us Q I r h
  obtain ⟨ρ, S, ds, z, k, rr, g, q⟩ := h
  unfold dTuple at g
  split at g
  · obtain ⟨v, rfl, r1⟩ := rr.one
    obtain ⟨a, xs, rfl, h1, t1⟩ := r1.tup
    cases g
    exact call_tuple_of pins s σ H _ us Q I r ⟨a, xs, rfl, .inr ⟨h1, q _ _ Nxt.refl k (.tup h1 t1)⟩⟩
  · obtain ⟨v, rfl, r1⟩ := rr.one
    obtain ⟨a, xs, rfl, h1, t1⟩ := r1.lst
    cases g
    exact call_tuple_of pins s σ H _ us Q I r ⟨a, xs, rfl, .inl ⟨.inl h1, fun p hp => new_tup k hp t1 q⟩⟩
  · cases g
def dList : List D → Option D
  | [.tup ds] => some (.lst ds)
  | [.lst ds] => some (.lst ds)
  | [.fl ds] => some (.lst ds)
  | _ => none
theorem cd_list : CallD X (.type "list") dList := by
  intro pins s σ H xs us Q I r h
  obtain ⟨ρ, S, ds, z, k, rr, g, q⟩ := h
  unfold dList at g
  split at g
  · obtain ⟨v, rfl, r1⟩ := rr.one
    obtain ⟨a, xs, rfl, h1, t1⟩ := r1.tup
    cases g
    exact call_list_of pins s σ H _ us Q I r ⟨a, xs, rfl, .inr h1, fun p hp => new_lst k hp t1 q⟩
  · obtain ⟨v, rfl, r1⟩ := rr.one
    obtain ⟨a, xs, rfl, h1, t1⟩ := r1.lst
    cases g
    exact call_list_of pins s σ H _ us Q I r ⟨a, xs, rfl, .inl (.inl h1), fun p hp => new_lst k hp t1 q⟩
  · obtain ⟨v, rfl, r1⟩ := rr.one
    obtain ⟨a, xs, rfl, h1, t1⟩ := r1.fl
    cases g
    exact call_list_of pins s σ H _ us Q I r ⟨a, xs, rfl, .inl h1, fun p hp => new_lst k hp t1 q⟩
  · cases g
/-- repr: the text that the library's own words give -/
def okR (p : PyData) : Bool := p.showable && decide (p.shown.length ≤ sizeLine) && decide (p.depth ≤ 64) && !p.hasDict
def dRepr : List D → Option D
  | [d] => match toPy d with
    | some p => if okR p = true then some (.str p.shown) else none
    | none => none
  | _ => none
theorem cd_repr (hg : X.A.guards = some []) (hu : X.A.units + 100 < cLine) : CallD X (.builtin "repr") dRepr := by
  intro pins s σ H xs us Q I r h
  obtain ⟨ρ, S, ds, z, k, rr, g, q⟩ := h
  unfold dRepr at g
  split at g
  · obtain ⟨v, rfl, r1⟩ := rr.one
    obtain ⟨u, rfl, rv⟩ := vals1 r
    split at g
    · rename_i d p hp
      split at g
      · rename_i hok
        cases g
        unfold okR at hok
        simp only [Bool.and_eq_true, decide_eq_true_eq, Bool.not_eq_true'] at hok
        obtain ⟨⟨⟨o1, o2⟩, o3⟩, o4⟩ := hok
        have dp := r1.dp hp
        have fin : ∀ (h' : Heap) (tk : Tok) (t' : Nat), (∀ b o, s.heap.get? b = some o → h'.get? b = some o) → EP X pins σ Q (.str p.shown tk) { s with heap := h', toks := t' } := fun h' tk t' hk =>
          ⟨.str p.shown, H, I.kept hk, ⟨_, rfl⟩, q _ _ Nxt.refl k (.str _)⟩
        cases dp with
        | non => cases rv; exact PySem.P.repr_of_none (by simp only [PyData.shown] at fin; exact fin s.heap _ _ fun _ _ e => e)
        | bl b => cases rv; exact PySem.P.repr_of_bool (by simp only [PyData.shown] at fin; exact fin s.heap _ _ fun _ _ e => e)
        | int i =>
          obtain ⟨t, rfl⟩ := rv
          exact PySem.P.repr_of_int (by simpa [PyData.showable] using o1) (by simp only [PyData.shown] at fin; exact fin s.heap _ _ fun _ _ e => e)
        | str x =>
          obtain ⟨t, rfl⟩ := rv
          exact PySem.P.repr_of_str (by simp only [PyData.shown] at fin; exact fin s.heap _ _ fun _ _ e => e) (by simpa only [PyData.shown] using o2)
        | lst h1 h2 =>
          obtain ⟨as, rd⟩ := Dp.reads I _ _ _ (.lst h1 h2) rv
          cases rv
          exact repr_of_reads' rd o1 (fun z => by rw [o4] at z; cases z) hg (by omega) (fun _ _ e => e) (fun h' u tk hk => fin h' u tk hk) o2
        | tup h1 h2 =>
          obtain ⟨as, rd⟩ := Dp.reads I _ _ _ (.tup h1 h2) rv
          cases rv
          exact repr_of_reads' rd o1 (fun z => by rw [o4] at z; cases z) hg (by omega) (fun _ _ e => e) (fun h' u tk hk => fin h' u tk hk) o2
      · cases g
    · cases g
  · cases g
end
section
variable {X : Cx} {W : WX} {pos p : Pos} {a b e : Expr} {es : List Expr} {ma mb : ME} {mas : MA} {x : Str}
theorem pm_callB {id : String} {g : List D → Option D} (hc : CallD X (.builtin id) g) (hg : Gl X x) (hm : X.mg x = none) (hv : bootBuiltins x = some (.builtin id)) (ha : PMA X W (e :: es) mas) (hn : x ≠ "__name__" := by decide) (hdb : (x == ("__debug__" : Str)) = false := by decide)
    (he : starEach (e :: es) X.env = (false, eval e X.env) :: starEach es X.env := by rfl) (hpl : (backTo pos (starEach es X.env)).any (·.1) = false := by rfl) : PM X W (.Call (.Name x p) (e :: es) [] pos) (mCall g mas) :=
  pimpE (pe_callB hc hg hm hv ha hn hdb he hpl) fun _ _ _ h => mCall_ok (fun _ _ _ z => z) h
theorem pm_callTy {T : String} {g : List D → Option D} (hc : CallD X (.type T) g) (hg : Gl X x) (hm : X.mg x = none) (hv : bootBuiltins x = some (.type T)) (ha : PMA X W (e :: es) mas) (hn : x ≠ "__name__" := by decide) (hdb : (x == ("__debug__" : Str)) = false := by decide)
    (he : starEach (e :: es) X.env = (false, eval e X.env) :: starEach es X.env := by rfl) (hpl : (backTo pos (starEach es X.env)).any (·.1) = false := by rfl) : PM X W (.Call (.Name x p) (e :: es) [] pos) (mCall g mas) :=
  pimpE (pe_callTy hc hg hm hv ha hn hdb he hpl) fun _ _ _ h => mCall_ok (fun _ _ _ z => z) h
/-! ### isinstance(x, T) -/
inductive Ty where
  | int | bool | str | tup | lst | dct
  deriving DecidableEq
def Ty.nm : Ty → String
  | .int => "int" | .bool => "bool" | .str => "str" | .tup => "tuple" | .lst => "list" | .dct => "dict"
def isT : Ty → D → Option Bool
  | _, .ref _ => none
  | .int, .int _ => some true
  | .int, .bl _ => some true
  | .bool, .bl _ => some true
  | .str, .str _ => some true
  | .tup, .tup _ => some true
  | .lst, .lst _ => some true
  | .lst, .fl _ => some true
  | .dct, .dct _ => some true
  | _, _ => some false
def tyN : D → String
  | .non => "NoneType" | .bl _ => "bool" | .int _ => "int" | .str _ => "str" | .tup _ => "tuple" | .lst _ => "list" | .fl _ => "list" | .dct _ => "dict" | .ref _ => ""
theorem isT_kit {T : Ty} {d : D} {b : Bool} (h : isT T d = some b) : kitB (tyN d) T.nm = some b := by
  cases T <;> cases d <;> first
    | (cases h; simp only [tyN, Ty.nm]; decide +kernel)
    | cases h
theorem tyN_ok {K : Fg} {ρ : Ad} {H : Hp} {v : V} {d : D} (r : RepP K ρ H v d) (hr : ∀ a, d ≠ .ref a) : TyX K H v (.type (tyN d)) := by
  cases d with
  | non => rw [r.non]; exact .base .non
  | bl b => rw [r.bl]; exact .base (.bl b)
  | int i => rw [r.int]; exact .base (.int i)
  | str x => rw [r.str]; exact .base (.str x)
  | tup ds =>
    obtain ⟨a, xs, rfl, h, _⟩ := r.tup
    rcases h with (h | ⟨o, h⟩) | ⟨o, its, n, h, hc, _⟩
    · exact .base (.tup h)
    · exact .fTuple h
    · exact .kTuple h hc
  | lst ds =>
    obtain ⟨a, xs, rfl, h, _⟩ := r.lst
    rcases h with h | ⟨o, h⟩
    · exact .base (.lst h)
    · exact .base (.frz h)
  | fl ds =>
    obtain ⟨a, xs, rfl, h, _⟩ := r.fl
    rcases h with (h | ⟨o, h⟩) | ⟨o, its, n, h, hc, _⟩
    · exact .base (.lst h)
    · exact .base (.frz h)
    · exact .kList h hc
  | dct es =>
    obtain ⟨a, ks, rfl, h, _⟩ := r.dct
    rcases h with h | ⟨o, h⟩
    · exact .base (.dK h)
    · exact .fDict h
  | ref a => exact absurd rfl (hr a)
def mIsi (T : Ty) (m : ME) : ME := fun δ S => (m δ S).bind fun u S' => lift (((peek S' u).bind fun d => (isT T d).map D.bl).map U.d) S'
theorem pm_isi {q : Pos} {y : Str} (T : Ty) (hg : Gl X "isinstance") (hm : X.mg "isinstance" = none) (hgT : Gl X y) (hmT : X.mg y = none) (hvT : bootBuiltins y = some (.type T.nm)) (ha : PM X W a ma) (hn : y ≠ "__name__" := by decide) (hd : (y == ("__debug__" : Str)) = false := by decide)
    (h1 : starEach [a, .Name y q] X.env = (false, eval a X.env) :: starEach [.Name y q] X.env := by rfl) (h2 : starEach [.Name y q] X.env = (false, eval (.Name y q) X.env) :: starEach [] X.env := by rfl) (hpl : (backTo pos (starEach [.Name y q] X.env)).any (·.1) = false := by rfl) :
    PM X W (.Call (.Name "isinstance" p) [a, .Name y q] [] pos) (mIsi T ma) :=
  pimpE (pe_callB call_isi hg hm (by decide +kernel) (pa_cons ha (pa_cons (pe_bltn (v := .ty T.nm) hgT hmT hvT rfl hn hd) pa_nil h2) h1) (by decide) (by decide) h1 hpl) fun σ H Q ⟨ρ, δ, S, e, k, p⟩ => tE.first e k p fun v u ρ1 H1 S1 _ n1 e1 k1 r1 p1 => by
    obtain ⟨z, ez, q⟩ := p1.lifted
    obtain ⟨d, h1, h2⟩ := Option.bind_eq_some_iff.mp ez
    obtain ⟨b, h3, rfl⟩ := Option.map_eq_some_iff.mp h2
    exact ⟨v, .ty T.nm, _, _, b, rfl, .ty _, tyN_ok (r1.peek k1 h1) (fun a ea => by rw [ea] at h3; cases T <;> cases h3), kit_ty (isT_kit h3), q _ _ Nxt.refl k1 (.bl b)⟩
/-! ### chains -/
def mChain (g h : D → D → Option D) (ma mb mc : ME) : ME := fun δ S => (ma δ S).bind fun x S1 => (mb δ S1).bind fun y S2 =>
  match peek S2 x, peek S2 y with
  | some d, some e => match g d e with
    | some (.bl true) => (mc δ S2).bind fun z S3 => lift ((match peek S3 y, peek S3 z with | some d, some e => h d e | _, _ => none).map U.d) S3
    | some (.bl false) => .ok (.d (.bl false)) S2
    | _ => .stuck
  | _, _ => .stuck
variable {c : Expr} {mc : ME}
theorem mChain_ok {g h : D → D → Option D} {σ : L2.St} {H : Hp} {Q : VK} (q : tE X.K W (mChain g h ma mb mc) σ H Q) : tChain (rD X.K g) (rD X.K h) (tE X.K W ma) (tE X.K W mb) (tE X.K W mc) σ H Q := by
  obtain ⟨ρ, δ, S, e, k, p⟩ := q
  refine tE.first e k p fun v u ρ1 H1 S1 _ n1 e1 k1 r1 p1 => tE.first e1 k1 p1 fun w u2 ρ2 H2 S2 _ n2 e2 k2 r2 p2 => ?_
  have r1 := r1.nxt n2 k1
  cases h1 : peek S2 u with
  | none => rw [h1] at p2; exact p2.elim
  | some d =>
    cases h2 : peek S2 u2 with
    | none => rw [h1, h2] at p2; exact p2.elim
    | some d2 =>
      rw [h1, h2] at p2
      cases h3 : g d d2 with
      | none => simp only [h3] at p2; exact p2.elim
      | some z =>
        simp only [h3] at p2
        cases z with
        | bl b =>
          refine ⟨ρ2, S2, d, d2, _, k2, r1.peek k2 h1, r2.peek k2 h2, h3, fun v3 H3 n3 k3 r3 => ?_⟩
          cases r3
          cases b with
          | false => exact ⟨false, rfl, by rw [if_neg Bool.false_ne_true]; exact p2 ρ2 H3 n3 k3 _ (.bl false)⟩
          | true =>
            refine ⟨true, rfl, ?_⟩
            rw [if_pos rfl]
            refine tE.first (e2.nxt n3 k2) k3 (p2.from_ n3) fun v4 u4 ρ4 H4 S4 _ n4 e4 k4 r4 p4 => ?_
            obtain ⟨z, ez, q⟩ := p4.lifted
            split at ez
            · rename_i d4 e4' h4 h5
              exact ⟨ρ4, S4, d4, e4', z, k4, ((r2.nxt n3 k2).nxt n4 k3).peek k4 h4, r4.peek k4 h5, ez, q⟩
            · cases ez
        | _ => exact p2.elim
theorem pm_chain {op op' : CmpOp} {g h : D → D → Option D} (ho : OpD X (compareOp op) g) (ho' : OpD X (compareOp op') h) (ha : PM X W a ma) (hb : PM X W b mb) (hc : PM X W c mc)
    (hm : lastMarks [op, op'] [b, c] = false := by with_unfolding_all rfl) : PM X W (.Compare a [op, op'] [b, c] pos) (mChain g h ma mb mc) :=
  pimpE (pe_chain ho ho' ha hb hc hm) fun _ _ _ q => mChain_ok q
theorem pmt_chain {op op' : CmpOp} {g h : D → D → Option D} (ho : OpD X (compareOp op) g) (ho' : OpD X (compareOp op') h) (ha : PM X W a ma) (hb : PM X W b mb) (hc : PM X W c mc)
    (hm : lastMarks [op, op'] [b, c] = false := by with_unfolding_all rfl) : PMT X W (.Compare a [op, op'] [b, c] pos) (mTest (mChain g h ma mb mc)) :=
  pimpT (pt_chain ho ho' ha hb hc hm) fun σ H Q ⟨ρ, δ, S, e, k, p⟩ => by
    have : tTest (tE X.K W (mChain g h ma mb mc)) σ H Q := mTest_ok ⟨ρ, δ, S, e, k, p⟩
    exact mChain_ok this
end

/-! ### statements -/
def mSet (i : Nat) (m : ME) : MS := fun _ δ S => (m δ S).inS δ fun u S1 => .next (δ.set i (some u)) S1
def mExpr (m : ME) : MS := fun _ δ S => (m δ S).inS δ fun _ S1 => .next δ S1
def mRet (m : ME) : MS := fun _ δ S => (m δ S).inS δ fun u S1 => .ret u S1
def mRetN : MS := fun _ _ S => .ret (.d .non) S
def mIfS (c : MT) (m n : MS) : MS := fun b δ S => (c δ S).inS δ fun t S1 => if t then m b δ S1 else n b δ S1
def mSkip : MS := fun _ δ S => .next δ S
def mBrk : MS := fun _ δ S => .brk δ S
def mCont : MS := fun _ δ S => .cont δ S
def SR.then_ (r : SR) (f : DEnv → Store → SR) : SR := match r with
  | .next δ S => f δ S
  | r => r
@[simp] theorem SR.next_then (δ : DEnv) (S : Store) (f : DEnv → Store → SR) : (SR.next δ S).then_ f = f δ S := rfl
@[simp] theorem SR.ret_then (u : U) (S : Store) (f : DEnv → Store → SR) : (SR.ret u S).then_ f = .ret u S := rfl
@[simp] theorem SR.brk_then (δ : DEnv) (S : Store) (f : DEnv → Store → SR) : (SR.brk δ S).then_ f = .brk δ S := rfl
@[simp] theorem SR.cont_then (δ : DEnv) (S : Store) (f : DEnv → Store → SR) : (SR.cont δ S).then_ f = .cont δ S := rfl
@[simp] theorem SR.exc_then (x : XD) (δ : DEnv) (S : Store) (f : DEnv → Store → SR) : (SR.exc x δ S).then_ f = .exc x δ S := rfl
@[simp] theorem SR.stuck_then (f : DEnv → Store → SR) : (SR.stuck).then_ f = .stuck := rfl
def mSeq (m n : MS) : MS := fun b δ S => (m b δ S).then_ fun δ' S' => n b δ' S'
section
variable {X : Cx} {W : WX} {pos : Pos} {e c : Expr} {m n : MS} {me : ME} {mt : MT} {st : Stmt} {rest as bs : List Stmt}
theorem pms_set {i : Nat} {x : Str} {pos' : Pos} (hN : X.N.Nodup) (hi : X.N[i]? = some x) (hx : Loc X.env.scope x) (he : PM X W e me) (hs : swapsWith e (some (.Name x pos')) pos.line X.env = pure false := by rfl) (hf : X.fn x = true ∨ X.env.scope.names.lookup x = some .local := by first | exact .inl rfl | exact .inr rfl | assumption) :
    PMS X W (.Assign [.Name x pos'] e pos) (mSet i me) :=
  pimpS (ps_set hN hi hx he hs hf) fun D σ H ⟨ρ0, H0, ρ, δ, S, n0, e, k, p⟩ => tE.inS n0 e k p fun v u ρ1 H1 S1 _ n1 e1 k1 r1 p1 => p1 _ ρ1 H1 n1 k1 (e1.set r1)
theorem pms_expr (he : PM X W e me) (hs : swapsWith e none pos.line X.env = pure false := by rfl) : PMS X W (.Expr e pos) (mExpr me) :=
  pimpS (ps_expr he hs) fun D σ H ⟨ρ0, H0, ρ, δ, S, n0, e, k, p⟩ => tE.inS n0 e k p fun v u ρ1 H1 S1 _ n1 e1 k1 r1 p1 => p1 _ ρ1 H1 n1 k1 e1
theorem pms_ret (he : PM X W e me) : PMS X W (.Return (some e) pos) (mRet me) :=
  pimpS (ps_ret he) fun D σ H ⟨ρ0, H0, ρ, δ, S, n0, e, k, p⟩ => tE.inS n0 e k p fun v u ρ1 H1 S1 _ n1 e1 k1 r1 p1 => p1 v ρ1 H1 n1 k1 r1
theorem pms_retN : PMS X W (.Return none pos) mRetN :=
  pimpS ps_retN fun D σ H ⟨ρ0, H0, ρ, δ, S, n0, e, k, p⟩ => p .non ρ H n0 k .non
theorem pms_pass : PMS X W (.Pass pos) mSkip := pimpS ps_pass fun D σ H ⟨ρ0, H0, ρ, δ, S, n0, e, k, p⟩ => p σ ρ H n0 k e
theorem pms_break : PMS X W (.Break pos) mBrk := pimpS ps_break fun D σ H ⟨ρ0, H0, ρ, δ, S, n0, e, k, p⟩ => p σ ρ H n0 k e
theorem pms_continue : PMS X W (.Continue pos) mCont := pimpS ps_continue fun D σ H ⟨ρ0, H0, ρ, δ, S, n0, e, k, p⟩ => p σ ρ H n0 k e
theorem pms_if (hc : PMT X W c mt) (ha : PMSs X W as m) (hb : PMSs X W bs n) : PMS X W (.If c as bs pos) (mIfS mt m n) :=
  pimpS (ps_if hc ha hb) fun D σ H ⟨ρ0, H0, ρ, δ, S, n0, e, k, p⟩ => tT.inS n0 e k p fun b ρ1 H1 S1 _ n1 e1 k1 p1 => by
    cases b with
    | true => rw [if_pos rfl]; exact ⟨ρ0, H0, ρ1, δ, S1, n1, e1, k1, p1⟩
    | false => rw [if_neg Bool.false_ne_true]; exact ⟨ρ0, H0, ρ1, δ, S1, n1, e1, k1, p1⟩
theorem pmss_nil : PMSs X W [] mSkip := pimpSs pss_nil fun D σ H ⟨ρ0, H0, ρ, δ, S, n0, e, k, p⟩ => p σ ρ H n0 k e
theorem pmss_one (h : PMS X W st m) : PMSs X W [st] m := pss_one h
theorem PostS.then_ {K : Fg} {ρ0 : Ad} {H0 : Hp} {r : SR} {D : Ends} (p : PostS K W ρ0 H0 (r.then_ fun δ' S' => n ρ0.cs.length δ' S') D) : PostS K W ρ0 H0 r { D with nx := tS K W n D } := by
  cases r with
  | next δ S => exact fun σ' ρ' H' n' k' e' => ⟨ρ0, H0, ρ', δ, S, n', e', k', p⟩
  | ret u S => exact p
  | brk δ S => exact p
  | cont δ S => exact p
  | exc x δ S => exact p
  | stuck => exact p
theorem pmss_cons (h1 : PMS X W st m) (h2 : PMSs X W rest n) : PMSs X W (st :: rest) (mSeq m n) :=
  pimpSs (pss_cons h1 h2) fun D σ H ⟨ρ0, H0, ρ, δ, S, n0, e, k, p⟩ => ⟨ρ0, H0, ρ, δ, S, n0, e, k, PostS.then_ p⟩
end
end DL

set_option Elab.async false
set_option linter.all false
set_option maxRecDepth 100000
set_option maxHeartbeats 4000000
/-! DRules4: targets, what is walked, for, comprehensions, defs and their calls -/
namespace DL
open PySem PySem.Spec PyProof.Rows L2

/-! ### targets: a name, a tuple of names -/
inductive Tg where
  | nm (i : Nat)
  | tp (is : List Nat)
def setAll : List Nat → List D → DEnv → Option DEnv
  | [], [], δ => some δ
  | i :: is, d :: ds, δ => setAll is ds (δ.set i (some (.d d)))
  | _, _, _ => none
def Tg.apply : Tg → U → DEnv → Option DEnv
  | .nm i, u, δ => some (δ.set i (some u))
  | .tp is, .d (.tup ds), δ => setAll is ds δ
  | .tp _, _, _ => none
def Tg.slots : Tg → List Nat
  | .nm i => [i]
  | .tp is => is
/-- the same but for the slots vs -/
def Apart (vs : List Nat) (σ σ' : L2.St) : Prop := σ.length = σ'.length ∧ ∀ j, j ∉ vs → σ[j]? = σ'[j]?
theorem Apart.refl {vs : List Nat} {σ : L2.St} : Apart vs σ σ := ⟨rfl, fun _ _ => rfl⟩
theorem Apart.trans {vs : List Nat} {σ σ1 σ2 : L2.St} (a : Apart vs σ σ1) (b : Apart vs σ1 σ2) : Apart vs σ σ2 := ⟨a.1.trans b.1, fun j h => (a.2 j h).trans (b.2 j h)⟩
theorem Apart.mono {vs ws : List Nat} {σ σ' : L2.St} (a : Apart vs σ σ') (h : ∀ i ∈ vs, i ∈ ws) : Apart ws σ σ' := ⟨a.1, fun j hj => a.2 j fun z => hj (h j z)⟩
theorem Apart.set {vs : List Nat} {σ : L2.St} {i : Nat} {x : Option V} (h : i ∈ vs) : Apart vs σ (σ.set i x) :=
  ⟨by simp, fun j hj => by rw [List.getElem?_set_ne (fun e => hj (by rw [← e]; exact h))]⟩
theorem wipe_at {σ : L2.St} (j : Nat) : ∀ vs : List Nat, (wipe σ vs)[j]? = if j ∈ vs then (σ[j]?).map (fun _ => none) else σ[j]?
  | [] => by simp [wipe]
  | v :: vs => by
    unfold wipe
    by_cases hv : v = j
    · subst hv
      rw [if_pos (List.mem_cons_self ..)]
      by_cases hl : v < σ.length
      · rw [List.getElem?_set_self (by rw [wipe_length]; exact hl), List.getElem?_eq_getElem hl]; rfl
      · rw [List.getElem?_eq_none (by simp [wipe_length]; omega), List.getElem?_eq_none (by omega)]; rfl
    · rw [List.getElem?_set_ne hv, wipe_at j vs]
      have : j ∈ v :: vs ↔ j ∈ vs := by simp [Ne.symm hv]
      simp only [this]
theorem Apart.wipe {vs : List Nat} {σ σ' : L2.St} (a : Apart vs σ σ') : wipe σ' vs = wipe σ vs := by
  apply List.ext_getElem?
  intro j
  rw [wipe_at, wipe_at]
  by_cases h : j ∈ vs
  · rw [if_pos h, if_pos h]
    have hl := a.1
    by_cases hj : j < σ.length
    · rw [List.getElem?_eq_getElem hj, List.getElem?_eq_getElem (by omega)]; rfl
    · rw [List.getElem?_eq_none (by omega), List.getElem?_eq_none (by omega)]
  · rw [if_neg h, if_neg h, a.2 j h]
def tG (K : Fg) (t : Tg) : TG := fun v σ H Q => ∃ ρ S δ u δ', EnvOk K ρ H σ δ ∧ Ok K ρ S H ∧ RepU K ρ H v u ∧ t.apply u δ = some δ' ∧ ∀ σ', EnvOk K ρ H σ' δ' → Apart t.slots σ σ' → Q σ' H
def tGs (K : Fg) (is : List Nat) : TGs := fun vs σ H Q => ∃ ρ S δ ds δ', EnvOk K ρ H σ δ ∧ Ok K ρ S H ∧ RepL K (free ρ) H vs ds ∧ setAll is ds δ = some δ' ∧ ∀ σ', EnvOk K ρ H σ' δ' → Apart is σ σ' → Q σ' H
def PMG (X : Cx) (e : Expr) (t : Tg) : Prop := PG X e (tG X.K t)
def PMGs (X : Cx) (es : List Expr) (is : List Nat) : Prop := PGs X es (tGs X.K is)
section
variable {X : Cx} {W : WX} {pos : Pos}
theorem pmg_name {i : Nat} {x : Str} (hN : X.N.Nodup) (hi : X.N[i]? = some x) (hx : Loc X.env.scope x) (hf : X.fn x = true ∨ X.env.scope.names.lookup x = some .local := by first | exact .inl rfl | exact .inr rfl | assumption) : PMG X (.Name x pos) (.nm i) :=
  ⟨fun pins s σ H v u Q I r ⟨ρ, S, δ, w, δ', e, k, rw, ea, q⟩ => (pg_name hN hi hx hf).run pins s σ H v u Q I r (by
    cases ea
    exact q _ (e.set rw) (Apart.set (List.mem_singleton.mpr rfl)))⟩
theorem pmgs_nil : PMGs X [] [] := ⟨fun pins s σ H vs us Q I r ⟨ρ, S, δ, ds, δ', e, k, rl, ea, q⟩ => pgs_nil.run pins s σ H vs us Q I r (by
  cases rl with
  | nil => cases ea; exact ⟨rfl, q σ e Apart.refl⟩
  | cons _ _ => cases ea)⟩
theorem pmgs_cons {i : Nat} {is : List Nat} {x : Str} {es : List Expr} {p : Pos} (hN : X.N.Nodup) (hi : X.N[i]? = some x) (hx : Loc X.env.scope x) (h2 : PMGs X es is) (hf : X.fn x = true ∨ X.env.scope.names.lookup x = some .local := by first | exact .inl rfl | exact .inr rfl | assumption)
    (hs : (assignEach (.Name x p :: es) X.env).map (·.2) = assign (.Name x p) X.env :: (assignEach es X.env).map (·.2) := by rfl) : PMGs X (.Name x p :: es) (i :: is) :=
  ⟨fun pins s σ H vs us Q I r ⟨ρ, S, δ, ds, δ', e, k, rl, ea, q⟩ => (pgs_cons (pg_name hN hi hx hf) h2 hs).run pins s σ H vs us Q I r (by
    cases rl with
    | nil => cases ea
    | cons h t =>
      refine ⟨_, _, rfl, ?_⟩
      exact ⟨ρ, S, _, _, δ', e.set (u := .d _) h, k, t, ea, fun σ' e' a => q σ' e' ((Apart.set (List.mem_cons_self ..)).trans (a.mono fun j hj => List.mem_cons_of_mem _ hj))⟩)⟩
theorem setAll_len : ∀ {is : List Nat} {ds : List D} {δ δ' : DEnv}, setAll is ds δ = some δ' → is.length = ds.length
  | [], [], _, _, _ => rfl
  | i :: is, d :: ds, δ, δ', h => congrArg (· + 1) (setAll_len (is := is) (ds := ds) h)
  | [], _ :: _, _, _, h => by cases h
  | _ :: _, [], _, _, h => by cases h
theorem pmg_tup {es : List Expr} {j : Nat} {is : List Nat} (hc : X.calm = true) (h : PMGs X es is) (hn : (assignEach es X.env).length = is.length := by rfl) (hst : (assignEach es X.env).findIdx? (·.1) = none := by rfl) : PMG X (.Tuple es j pos) (.tp is) :=
  ⟨fun pins s σ H v u Q I r ⟨ρ, S, δ, w, δ', e, k, rw, ea, q⟩ => (pg_tup hc h hn hst).run pins s σ H v u Q I r (by
    cases w with
    | loc n => cases ea
    | d x =>
      cases x with
      | tup ds =>
        cases rw with
        | tup ht rl => exact ⟨_, _, rfl, ht, by rw [rl.length]; exact (setAll_len ea).symm, ρ, S, δ, ds, δ', e, k, rl, ea, q⟩
      | _ => cases ea)⟩
/-- target = value -/
def mAsg (m : ME) (t : Tg) : MS := fun _ δ S => (m δ S).inS δ fun u S1 => match t.apply u δ with
  | some δ' => .next δ' S1
  | none => .stuck
theorem pms_asg {tg e : Expr} {me : ME} {t : Tg} (he : PM X W e me) (hg : PMG X tg t) (hs : swapsWithSole [tg] e pos.line X.env = pure false := by rfl) (hw : swappedStores [tg] e X.env = pure none := by rfl)
    (h1 : (assignEach [tg] X.env).map (·.2) = [assign tg X.env] := by rfl) : PMS X W (.Assign [tg] e pos) (mAsg me t) :=
  pimpS (ps_asg he hg hs hw h1) fun D σ H ⟨ρ0, H0, ρ, δ, S, n0, e, k, p⟩ => tE.inS n0 e k p fun v u ρ1 H1 S1 _ n1 e1 k1 r1 p1 => by
    cases q : t.apply u δ with
    | none => simp only [q] at p1; exact p1.elim
    | some δ' =>
      simp only [q] at p1
      exact ⟨ρ1, S1, δ, u, δ', e1, k1, r1, q, fun σ' e' _ => p1 σ' ρ1 H1 n1 k1 e'⟩
end

/-! ### what is walked -/
/-- a later moment, whatever was reserved -/
structure Lat (ρ : Ad) (H : Hp) (ρ' : Ad) (H' : Hp) : Prop where
  keep : ∀ a o, H a = some o → some a ∉ ρ.cs → H' a = some o
  fr : ∀ a, H a ≠ none → free ρ a → free ρ' a
section
variable {K : Fg} {ρ ρ' ρ1 : Ad} {H H' H1 : Hp} {S S' : Store}
theorem Nxt.lat (n : Nxt ρ H ρ' H') : Lat ρ H ρ' H' := ⟨n.keep, fun a h f => ⟨fun z => (n.new a z).elim f.1 h, by rw [n.rs]; exact f.2⟩⟩
theorem Lat.rd (n : Lat ρ H ρ' H') {a : Addr} {u : HO} (h : Rd H a u) (f : free ρ a) : Rd H' a u ∧ free ρ' a := by
  refine ⟨?_, n.fr a (rd_some h) f⟩
  rcases h with h | ⟨o, h⟩
  · exact .inl (n.keep _ _ h f.1)
  · exact .inr ⟨o, n.keep _ _ h f.1⟩
theorem Lat.mv (n : Lat ρ H ρ' H') (k : Ok K ρ S H) : Mv K (free ρ) (free ρ') H H' := ⟨fun _ _ h => (n.rd h (k.tupFree h)).1, fun _ _ h f => n.rd h f⟩
/-- J yields the data ds, whatever comes meanwhile -/
structure Wk (K : Fg) (ρ : Ad) (H : Hp) (J : It) (ds : List D) : Prop where
  go : ∀ i d ρ' S' H', ds[i]? = some d → Lat ρ H ρ' H' → Ok K ρ' S' H' → J.go i H'
  yld : ∀ i d ρ' S' H' x H'', ds[i]? = some d → Lat ρ H ρ' H' → Ok K ρ' S' H' → J.yld i H' x H'' → Nxt ρ' H' ρ' H'' ∧ Ok K ρ' S' H'' ∧ Rep K (free ρ') H'' x d
  stop : ∀ ρ' S' H', Lat ρ H ρ' H' → Ok K ρ' S' H' → J.stop ds.length H'
theorem Wk.tup {a : Addr} {xs : List V} {ds : List D} (k : Ok K ρ S H) (h : SqT K H a xs) (r : RepL K (free ρ) H xs ds) : Wk K ρ H (Itt K a) ds := by
  have sq : ∀ {ρ' H'}, Lat ρ H ρ' H' → SqT K H' a xs := fun n => h.elim (fun z => .inl (n.rd z (k.tupFree z)).1) .inr
  refine ⟨fun i d ρ' S' H' e n k' => ?_, fun i d ρ' S' H' x H'' e n k' y => ?_, fun ρ' S' H' n k' => ⟨xs, sq n, by rw [r.length]; exact Nat.le_refl _⟩⟩
  · obtain ⟨v, hv, _⟩ := r.get e
    exact ⟨xs, v, sq n, hv⟩
  · obtain ⟨rfl, y⟩ := y
    obtain ⟨v, hv, rv⟩ := r.get e
    have := y xs (sq n)
    rw [hv] at this; cases this
    exact ⟨Nxt.refl, k', rv.mv (n.mv k)⟩
theorem Wk.lst {a : Addr} {xs : List V} {ds : List D} (k : Ok K ρ S H) (h : FzL K (free ρ) H a xs) (r : RepL K (free ρ) H xs ds) : Wk K ρ H (Itl K a) ds := by
  have sq : ∀ {ρ' H'}, Lat ρ H ρ' H' → SqL K H' a xs := fun n => h.elim (fun z => .inl (n.rd z.1 z.2).1) .inr
  -- a list reads as one list alone
  have one : ∀ {ρ' H'} {ys : List V}, Lat ρ H ρ' H' → SqL K H' a ys → True := fun _ _ => trivial
  refine ⟨fun i d ρ' S' H' e n k' => ?_, fun i d ρ' S' H' x H'' e n k' y => ?_, fun ρ' S' H' n k' => ⟨xs, sq n, by rw [r.length]; exact Nat.le_refl _⟩⟩
  · obtain ⟨v, hv, _⟩ := r.get e
    exact ⟨xs, v, sq n, hv⟩
  · obtain ⟨rfl, y⟩ := y
    obtain ⟨v, hv, rv⟩ := r.get e
    have := y xs (sq n)
    rw [hv] at this; cases this
    exact ⟨Nxt.refl, k', rv.mv (n.mv k)⟩
def rangeD (lo : Int) (n : Nat) : List D := (List.range n).map fun (i : Nat) => D.int (lo + (i : Int))
theorem rangeD_at {lo : Int} {n i : Nat} {d : D} (h : (rangeD lo n)[i]? = some d) : i < n ∧ d = .int (lo + i) := by
  unfold rangeD at h
  rw [List.getElem?_map] at h
  obtain ⟨j, h1, rfl⟩ := Option.map_eq_some_iff.mp h
  obtain ⟨h2, h3⟩ := List.getElem?_eq_some_iff.mp h1
  rw [List.length_range] at h2
  rw [List.getElem_range] at h3
  exact ⟨h2, by rw [h3]⟩
theorem Wk.range (lo : Int) (n : Nat) : Wk K ρ H (Itr lo n) (rangeD lo n) := by
  refine ⟨fun i d ρ' S' H' e m k' => (rangeD_at e).1, fun i d ρ' S' H' x H'' e m k' y => ?_, fun ρ' S' H' m k' => ?_⟩
  · obtain ⟨rfl, rfl⟩ := y
    rw [(rangeD_at e).2]
    exact ⟨Nxt.refl, k', .int _⟩
  · show n ≤ _
    unfold rangeD; simp
end
abbrev MI := DEnv → Store → Res (List D)
def tI (K : Fg) (W : WX) (m : MI) : TI := fun σ H R => ∃ ρ δ S, EnvOk K ρ H σ δ ∧ Ok K ρ S H ∧ Post K W σ ρ H (m δ S) fun ds ρ' H' => ∀ J S', Ok K ρ' S' H' → Wk K ρ' H' J ds → R J H'
def PMI (X : Cx) (W : WX) (tg iter : Expr) (m : MI) : Prop := PI X tg iter (tI X.K W m)
/-- a sequence walked (no cell) -/
def seqD : D → Option (List D)
  | .tup ds => some ds
  | .lst ds => some ds
  | .fl ds => some ds
  | _ => none
def mSeqI (m : ME) : MI := fun δ S => (m δ S).bind fun u S' => match u with
  | .d x => lift (seqD x) S'
  | .loc _ => .stuck
section
variable {X : Cx} {W : WX} {pos p : Pos} {tg e : Expr} {me : ME}
theorem pmi_seq (he : PM X W e me) : PMI X W tg e (mSeqI me) := by
  refine ⟨fun pins s σ H R I ⟨ρ, δ, S, en, k, p⟩ => ?_⟩
  -- as a list or as a tuple
  have both : PI X tg e (fun σ H R => tE X.K W me σ H fun x H1 => (∃ a, x = .ref a ∧ (∃ xs, SqL X.K H1 a xs) ∧ R (Itl X.K a) H1) ∨ ∃ a, x = .ref a ∧ (∃ xs, SqT X.K H1 a xs) ∧ R (Itt X.K a) H1) := by
    refine ⟨fun pins s σ H R I h => ?_⟩
    refine thn (he.run pins s σ H _ I h) fun v s1 ⟨x, H1, I1, r1, q1⟩ => ?_
    rcases q1 with ⟨a, rfl, ⟨xs, hq⟩, q⟩ | ⟨a, rfl, ⟨xs, hq⟩, q⟩ <;> cases r1
    · obtain ⟨its, rv, pl, hz⟩ := I1.list hq
      refine wpAny_pyIter_list pl.isList ⟨s1.heap.objs.size, [s1.heap.objs.size], _, _, H1, rfl, I1.kept (t' := s1.toks) fun b o e => Heap.get?_push_of_some _ e, turn_list a _, ⟨_, Heap.get?_push_size _ rfl, rfl, rfl⟩, fun b hb => ?_, q⟩
      cases List.mem_singleton.mp hb
      exact I1.fpOk (Nat.le_refl _) (I1.hok.fresh (Nat.le_refl _))
    · obtain ⟨its, rv, pl, hz⟩ := I1.tuple hq
      refine wpAny_pyIter_tuple (show s1.heap.IsTuple a its.toArray from pl) ⟨s1.heap.objs.size, [s1.heap.objs.size], _, _, H1, rfl, I1.kept (t' := s1.toks) fun b o e => Heap.get?_push_of_some _ e, turn_tuple a _, ⟨_, Heap.get?_push_size _ rfl, rfl, rfl⟩, fun b hb => ?_, q⟩
      cases List.mem_singleton.mp hb
      exact I1.fpOk (Nat.le_refl _) (I1.hok.fresh (Nat.le_refl _))
  refine both.run pins s σ H R I (tE.first en k p fun v u ρ1 H1 S1 _ n1 e1 k1 r1 p1 => ?_)
  cases u with
  | loc n => exact p1.elim
  | d x =>
    cases q : seqD x with
    | none => simp only [q] at p1; exact p1.elim
    | some ds =>
      simp only [q] at p1
      have fin := p1.here k1
      cases x with
      | tup es => cases q; cases r1 with | tup h r => exact .inr ⟨_, rfl, ⟨_, h⟩, fin _ S1 k1 (Wk.tup k1 h r)⟩
      | lst es => cases q; cases r1 with | lst h o r => exact .inl ⟨_, rfl, ⟨_, .inl h⟩, fin _ S1 k1 (Wk.lst k1 (.inl ⟨h, o⟩) r)⟩
      | fl es => cases q; cases r1 with | fl h r => exact .inl ⟨_, rfl, ⟨_, h.sq⟩, fin _ S1 k1 (Wk.lst k1 h r)⟩
      | _ => cases q
def mRange1 (m : ME) : MI := fun δ S => (m δ S).bind fun u S' => match u with
  | .d (.int j) => if j < 4611686018427387904 ∧ -4611686018427387904 ≤ j then .ok (rangeD 0 j.toNat) S' else .stuck
  | _ => .stuck
theorem pmi_range1 {a : Expr} (hg : Gl X "range") (hm : X.mg "range" = none) (ha : PM X W a me) (h1 : starEach [a] X.env = (false, eval a X.env) :: starEach [] X.env := by rfl) (hs : starEach [a] X.env = [(false, eval a X.env)] := by rfl) : PMI X W tg (.Call (.Name "range" p) [a] [] pos) (mRange1 me) :=
  ⟨fun pins s σ H R I ⟨ρ, δ, S, en, k, q⟩ => (pi_range1 (tg := tg) hg hm (pa_cons ha pa_nil h1) hs).run pins s σ H R I (tE.first en k q fun v u ρ1 H1 S1 _ n1 e1 k1 r1 p1 => by
    cases u with
    | loc n => exact p1.elim
    | d x =>
      cases x with
      | int j =>
        cases r1
        by_cases hz : j < 4611686018427387904 ∧ -4611686018427387904 ≤ j
        · simp only [if_pos hz] at p1
          refine ⟨j, rfl, by omega, by omega, p1.here k1 _ S1 k1 (Wk.range 0 j.toNat)⟩
        · simp only [if_neg hz] at p1; exact p1.elim
      | _ => exact p1.elim)⟩
def mRange2 (m n : ME) : MI := fun δ S => (m δ S).bind fun u S1 => (n δ S1).bind fun w S2 => match u, w with
  | .d (.int i), .d (.int j) => if (j < 4611686018427387904 ∧ -4611686018427387904 ≤ j) ∧ i < 4611686018427387904 ∧ -4611686018427387904 ≤ i then .ok (rangeD i (j - i).toNat) S2 else .stuck
  | _, _ => .stuck
theorem pmi_range2 {a b : Expr} {mb : ME} (hg : Gl X "range") (hm : X.mg "range" = none) (ha : PM X W a me) (hb : PM X W b mb) (h1 : starEach [a, b] X.env = (false, eval a X.env) :: starEach [b] X.env := by rfl) (h2 : starEach [b] X.env = (false, eval b X.env) :: starEach [] X.env := by rfl)
    (hs : starEach [a, b] X.env = [(false, eval a X.env), (false, eval b X.env)] := by rfl) (hs2 : starEach [b] X.env = [(false, eval b X.env)] := by rfl) : PMI X W tg (.Call (.Name "range" p) [a, b] [] pos) (mRange2 me mb) :=
  ⟨fun pins s σ H R I ⟨ρ, δ, S, en, k, q⟩ => (pi_range2 (tg := tg) hg hm (pa_cons ha (pa_cons hb pa_nil h2) h1) hs hs2).run pins s σ H R I (tE.first en k q fun v u ρ1 H1 S1 _ n1 e1 k1 r1 p1 => tE.first e1 k1 p1 fun v2 u2 ρ2 H2 S2 _ n2 e2 k2 r2 p2 => by
    cases u with
    | loc n => exact p2.elim
    | d x =>
      cases x with
      | int i =>
        cases u2 with
        | loc n => exact p2.elim
        | d y =>
          cases y with
          | int j =>
            cases r1; cases r2
            by_cases hz : (j < 4611686018427387904 ∧ -4611686018427387904 ≤ j) ∧ i < 4611686018427387904 ∧ -4611686018427387904 ≤ i
            · simp only [if_pos hz] at p2
              obtain ⟨⟨z1, z2⟩, z3, z4⟩ := hz
              exact ⟨i, j, rfl, ⟨by omega, by omega, by omega, by omega⟩, p2.here k2 _ S2 k2 (Wk.range i (j - i).toNat)⟩
            · simp only [if_neg hz] at p2; exact p2.elim
          | _ => exact p2.elim
      | _ => exact p2.elim)⟩
end

/-! ### for -/
def forD (t : Tg) (body : MS) (b : Nat) : List D → DEnv → Store → SR
  | [], δ, S => .next δ S
  | d :: ds, δ, S => match t.apply (.d d) δ with
    | none => .stuck
    | some δ1 => match body b δ1 S with
      | .next δ2 S2 => forD t body b ds (trimE b S2 δ2) (S2.take b)
      | .cont δ2 S2 => forD t body b ds (trimE b S2 δ2) (S2.take b)
      | .brk δ2 S2 => .next δ2 S2
      | .ret u S2 => .ret u S2
      | .exc x δ2 S2 => .exc x δ2 S2
      | .stuck => .stuck
def mFor (mi : MI) (t : Tg) (body : MS) : MS := fun _ δ S => (mi δ S).inS δ fun ds S1 => forD t body S1.length ds δ S1
section
variable {X : Cx} {W : WX} {pos : Pos} {tg iter : Expr} {mi : MI} {t : Tg} {m : MS} {body : List Stmt}
theorem tI.inS {K : Fg} {σ : L2.St} {ρ : Ad} {H : Hp} {S : Store} {δ : DEnv} {R : It → Hp → Prop} {ρ0 : Ad} {H0 : Hp} {f : List D → Store → SR} {Dn : Ends} (n0 : Nxt ρ0 H0 ρ H) (e : EnvOk K ρ H σ δ) (k : Ok K ρ S H)
    (h : PostS K W ρ0 H0 ((mi δ S).inS δ f) Dn) (hq : ∀ J ds ρ1 H1 S1, Nxt ρ0 H0 ρ1 H1 → EnvOk K ρ1 H1 σ δ → Ok K ρ1 S1 H1 → Wk K ρ1 H1 J ds → PostS K W ρ0 H0 (f ds S1) Dn → R J H1) : tI K W mi σ H R := by
  refine ⟨ρ, δ, S, e, k, ?_⟩
  cases q : mi δ S with
  | ok u S1 =>
    rw [q] at h
    exact fun ρ1 H1 n k1 J S' k' w => hq J u ρ1 H1 S1 (n0.trans n) (e.nxt n k) k1 w h
  | exc x S1 =>
    rw [q] at h
    exact fun cls dx ρ1 H1 n k1 r => h cls dx σ ρ1 H1 (n0.trans n) k1 (e.nxt n k) r
  | stuck => rw [q] at h; exact h
/-- between two turns -/
def forInv (K : Fg) (W : WX) (ρ0 : Ad) (H0 : Hp) (ρL : Ad) (HL : Hp) (b : Nat) (t : Tg) (m : MS) (ds : List D) (D : Ends) (i : Nat) (σ : L2.St) (H : Hp) : Prop :=
  i ≤ ds.length ∧ ∃ ρ δ S, Nxt ρL HL ρ H ∧ ρ.cs.length = b ∧ Ok K ρ S H ∧ EnvOk K ρ H σ δ ∧ PostS K W ρ0 H0 (forD t m b (ds.drop i) δ S) D
theorem pms_for (hp : PassesOwn (model X.prog X.w) X.A X.env X.xe) (hc : X.calm = true) (hi : PMI X W tg iter mi) (hg : PMG X tg t) (hb : PMSs X W body m) (hs : ∀ x, foldedSetIterable iter X.env x = pure x := by intro _; rfl) : PMS X W (.For tg iter body [] pos) (mFor mi t m) :=
  pimpS (ps_for hp hc hi hg hb hs) fun D σ H ⟨ρ0, H0, ρ, δ, S, n0, e, k, p⟩ => tI.inS n0 e k p fun J ds ρL HL SL nL eL kL w pL => by
    have bl : ρL.cs.length = SL.length := kL.len
    refine ⟨fun i mm σ H => mm = ds.length - i ∧ forInv X.K W ρ0 H0 ρL HL SL.length t m ds D i σ H,
      ⟨ds.length, by simp, Nat.zero_le _, ρL, δ, SL, Nxt.refl, bl, kL, eL, by simpa using pL⟩, ?_⟩
    rintro i mm σ1 H1 ⟨rfl, hi, ρ1, δ1, S1, n1, l1, k1, e1, p1⟩
    by_cases hlt : i < ds.length
    · have hd : ds.drop i = ds[i] :: ds.drop (i + 1) := List.drop_eq_getElem_cons hlt
      have hx : ds[i]? = some ds[i] := List.getElem?_eq_getElem hlt
      rw [hd] at p1
      refine .inr ⟨w.go i _ ρ1 S1 H1 hx n1.lat k1, forInv X.K W ρ0 H0 ρL HL SL.length t m ds D (i + 1), fun σ' H' z => ⟨ds.length - (i + 1), by omega, rfl, z⟩, fun x H2 y => ?_⟩
      obtain ⟨n2, k2, r2⟩ := w.yld i _ ρ1 S1 H1 x H2 hx n1.lat k1 y
      unfold forD at p1
      cases ha : t.apply (.d ds[i]) δ1 with
      | none => simp only [ha] at p1; exact p1.elim
      | some δ2 =>
        simp only [ha] at p1
        refine ⟨ρ1, S1, δ1, .d ds[i], δ2, e1.nxt n2 k1, k2, r2, ha, fun σ3 e3 _ => ?_⟩
        refine ⟨ρL, HL, ρ1, δ2, S1, n1.trans n2, e3, k2, ?_⟩
        rw [bl]
        have again : ∀ (δ4 : DEnv) (S4 : Store), PostS X.K W ρ0 H0 (forD t m SL.length (ds.drop (i + 1)) (trimE SL.length S4 δ4) (S4.take SL.length)) D → ∀ σ' ρ' H', Nxt ρL HL ρ' H' → Ok X.K ρ' S4 H' → EnvOk X.K ρ' H' σ' δ4 →
            forInv X.K W ρ0 H0 ρL HL SL.length t m ds D (i + 1) σ' H' := fun δ4 S4 q σ' ρ' H' n4 k4 e4 => by
          refine ⟨hlt, ρ'.cut SL.length, _, _, n4.cut (by omega), ?_, k4.cut _, e4.trim k4 _, q⟩
          show (ρ'.cs.take SL.length).length = _
          rw [List.length_take]
          have := n4.pre.length_le
          omega
        cases hbd : m SL.length δ2 S1 with
        | next δ4 S4 => simp only [hbd] at p1; exact again δ4 S4 p1
        | cont δ4 S4 => simp only [hbd] at p1; exact again δ4 S4 p1
        | brk δ4 S4 => simp only [hbd] at p1; exact fun σ' ρ' H' n4 k4 e4 => p1 σ' ρ' H' (nL.trans n4) k4 e4
        | ret u S4 => simp only [hbd] at p1; exact fun v ρ' H' n4 k4 r4 => p1 v ρ' H' (nL.trans n4) k4 r4
        | exc x δ4 S4 => simp only [hbd] at p1; exact fun cls dx σ' ρ' H' n4 k4 e4 r4 => p1 cls dx σ' ρ' H' (nL.trans n4) k4 e4 r4
        | stuck => simp only [hbd] at p1; exact p1.elim
    · have hi' : i = ds.length := by omega
      subst hi'
      rw [List.drop_length] at p1
      exact .inl ⟨w.stop ρ1 S1 H1 n1.lat k1, p1 σ1 ρ1 H1 (nL.trans n1) k1 e1⟩
end
end DL

set_option Elab.async false
set_option linter.all false
set_option maxRecDepth 100000
set_option maxHeartbeats 4000000
/-! DRules5: comprehensions; defs, their calls; the end of a law -/
namespace DL
open PySem PySem.Spec PyProof.Rows L2

/-! ### comprehensions -/
abbrev W0 : WX := fun _ _ _ _ => False
/-- nothing is raised -/
def Res.calm {α : Type} (r : Res α) : Res α := match r with
  | .exc _ _ => .stuck
  | r => r
@[simp] theorem Res.calm_ok {α : Type} (a : α) (S : Store) : (Res.ok a S).calm = .ok a S := rfl
@[simp] theorem Res.calm_stuck {α : Type} : (Res.stuck : Res α).calm = .stuck := rfl
theorem Post.calm {α : Type} {K : Fg} {W : WX} {σ σ' : L2.St} {ρ : Ad} {H : Hp} {r : Res α} {good : α → Ad → Hp → Prop} (h : Post K W σ ρ H r.calm good) : Post K W0 σ' ρ H r good := by
  cases r with
  | ok a S => exact h
  | exc x S => exact h.elim
  | stuck => exact h
def wipeD (vs : List Nat) (δ : DEnv) : DEnv := vs.foldr (fun v δ => δ.set v none) δ
theorem wipeD_len (δ : DEnv) : ∀ vs : List Nat, (wipeD vs δ).length = δ.length
  | [] => rfl
  | v :: vs => by show ((wipeD vs δ).set v none).length = _; rw [List.length_set, wipeD_len δ vs]
theorem wipeD_some {δ : DEnv} {i : Nat} {u : U} : ∀ {vs : List Nat}, (wipeD vs δ)[i]? = some (some u) → δ[i]? = some (some u) ∧ i ∉ vs
  | [], h => ⟨h, by simp⟩
  | v :: vs, h => by
    have h' : ((wipeD vs δ).set v none)[i]? = some (some u) := h
    by_cases hi : v = i
    · subst hi
      by_cases hv : v < (wipeD vs δ).length
      · rw [List.getElem?_set_self hv] at h'; cases h'
      · rw [List.getElem?_eq_none (by simpa using hv)] at h'; cases h'
    · rw [List.getElem?_set_ne hi] at h'
      obtain ⟨h1, h2⟩ := wipeD_some h'
      exact ⟨h1, by simp only [List.mem_cons, not_or]; exact ⟨fun e => hi e.symm, h2⟩⟩
theorem EnvOk.wipe {K : Fg} {ρ : Ad} {H : Hp} {σ : L2.St} {δ : DEnv} (e : EnvOk K ρ H σ δ) (vs : List Nat) : EnvOk K ρ H (L2.wipe σ vs) (wipeD vs δ) := by
  refine ⟨by rw [wipeD_len, wipe_length]; exact e.len, fun i u h => ?_⟩
  obtain ⟨h1, h2⟩ := wipeD_some h
  obtain ⟨v, a, r⟩ := e.at_ i u h1
  exact ⟨v, by rw [wipe_at, if_neg h2]; exact a, r⟩
def lcD (t : Tg) (mt : MT) (me : ME) (δ : DEnv) : List D → Store → Res (List D)
  | [], S => .ok [] S
  | d :: ds, S => match t.apply (.d d) δ with
    | none => .stuck
    | some δ1 => (mt δ1 S).calm.bind fun c S1 => if c then (me δ1 S1).calm.bind fun u S2 => match u with
        | .d y => (lcD t mt me δ ds S2).bind fun ys S3 => .ok (y :: ys) S3
        | .loc _ => .stuck
      else lcD t mt me δ ds S1
def mLc (mi : MI) (t : Tg) (mt : MT) (me : ME) (vs : List Nat) : ME := fun δ S => (mi δ S).bind fun ds S1 => if ds.length ≤ sizeLine then (lcD t mt me (wipeD vs δ) ds S1).bind fun ys S2 => .ok (.d (.lst ys)) S2 else .stuck
def mYes : MT := fun _ S => .ok true S
def PMTs (X : Cx) (W : WX) (es : List Expr) (m : MT) : Prop := PTs X es (tT X.K W m)
theorem pmts_nil {X : Cx} {W : WX} : PMTs X W [] mYes := ⟨fun pins s σ H Q I ⟨ρ, δ, S, e, k, p⟩ => pts_nil.run pins s σ H Q I (p.here k)⟩
theorem pmts_one {X : Cx} {W : WX} {c : Expr} {m : MT} (h : PMT X W c m) : PMTs X W [c] m := pts_one h

section
variable {K : Fg} {ρ : Ad} {H : Hp} {S : Store}
/-- a list at D is being made: nobody reads it -/
def Ad.hold (ρ : Ad) (a : Addr) : Ad := ⟨ρ.cs, a :: ρ.rs⟩
theorem Lat.hold {a : Addr} {o : HO} (h : H a = none) : Lat ρ H (ρ.hold a) (upd H a o) :=
  ⟨fun b q e _ => by rw [upd_ne (ne_of_none e h)]; exact e, fun b hb f => ⟨f.1, fun z => by
    rcases List.mem_cons.mp z with z | z
    · subst z; exact hb h
    · exact f.2 z⟩⟩
def mkO : HO → Bool
  | .lst _ => true
  | .dK _ => true
  | _ => false
theorem Made.of {a : Addr} {o : HO} (h : H a = some o) (m : mkO o = true) : Made H a := by
  cases o with
  | lst xs => exact .inl ⟨xs, h⟩
  | dK ks => exact .inr ⟨ks, h⟩
  | _ => cases m
theorem Ok.hold {a : Addr} {o : HO} (k : Ok K ρ S H) (h : H a = none) (hm : mkO o = true := by rfl) : Ok K (ρ.hold a) S (upd H a o) := by
  refine ⟨k.len, k.nd, fun i b e => ?_, k.dead, fun b z => ?_⟩
  · obtain ⟨c, h1, h2⟩ := k.live i b e
    refine ⟨c, h1, h2.mv ((Lat.hold h).mv k) (upd_ne fun z => ?_)⟩
    subst z; exact (k.notNew h).1 (List.mem_of_getElem? e)
  · rcases List.mem_cons.mp z with z | z
    · subst z; exact ⟨(k.notNew h).1, Made.of upd_same hm⟩
    · obtain ⟨f, mk⟩ := k.rsv b z
      exact ⟨f, mk.keep fun _ q => by rw [upd_ne (ne_of_none q h)]; exact q⟩
theorem free_hold {a b : Addr} (h : free (ρ.hold a) b) : free ρ b ∧ b ≠ a := ⟨⟨h.1, fun z => h.2 (List.mem_cons_of_mem _ z)⟩, fun e => h.2 (by rw [e]; exact List.mem_cons_self ..)⟩
/-- it is changed -/
theorem Mv.rewrite {a : Addr} {o : HO} (h : Made H a) : Mv K (free (ρ.hold a)) (free (ρ.hold a)) H (upd H a o) := by
  refine ⟨fun b ys q => ?_, fun b u q f => ⟨?_, f⟩⟩
  · have ne : b ≠ a := fun e => by
      subst e
      rcases h with ⟨xs, h⟩ | ⟨xs, h⟩ <;> rcases q with q | ⟨o, q⟩ <;> (rw [h] at q; cases q)
    rcases q with q | ⟨o, q⟩
    · exact .inl (by rw [upd_ne ne]; exact q)
    · exact .inr ⟨o, by rw [upd_ne ne]; exact q⟩
  · have ne := (free_hold f).2
    rcases q with q | ⟨o, q⟩
    · exact .inl (by rw [upd_ne ne]; exact q)
    · exact .inr ⟨o, by rw [upd_ne ne]; exact q⟩
theorem Ok.rewrite {a : Addr} {o : HO} (k : Ok K (ρ.hold a) S H) (hm : mkO o = true := by rfl) : Ok K (ρ.hold a) S (upd H a o) := by
  have h := (k.rsv a (List.mem_cons_self ..)).2
  have fa := (k.rsv a (List.mem_cons_self ..)).1
  refine ⟨k.len, k.nd, fun i b e => ?_, k.dead, fun b z => ?_⟩
  · obtain ⟨c, h1, h2⟩ := k.live i b e
    refine ⟨c, h1, h2.mv (Mv.rewrite h) (upd_ne fun z => ?_)⟩
    subst z; exact fa (List.mem_of_getElem? e)
  · obtain ⟨f, mk⟩ := k.rsv b z
    by_cases hb : b = a
    · subst hb; exact ⟨f, Made.of upd_same hm⟩
    · exact ⟨f, mk.keep fun _ q => by rw [upd_ne hb]; exact q⟩
/-- it is done -/
theorem Mv.unhold {a : Addr} : Mv K (free (ρ.hold a)) (free ρ) H H := ⟨fun _ _ h => h, fun _ _ h f => ⟨h, (free_hold f).1⟩⟩
theorem Ok.unhold {a : Addr} (k : Ok K (ρ.hold a) S H) : Ok K ρ S H :=
  ⟨k.len, k.nd, fun i b e => let ⟨c, h, q⟩ := k.live i b e; ⟨c, h, q.mv Mv.unhold rfl⟩, k.dead, fun b z => k.rsv b (List.mem_cons_of_mem _ z)⟩
end
section
variable {K : Fg} {ρ ρ1 ρ' : Ad} {H H1 H' : Hp} {S : Store} {σ : L2.St} {δ : DEnv}
theorem Nxt.held {a : Addr} (n : Nxt ρ1 H1 ρ H) (ha : H1 a = none) : Lat ρ1 H1 (ρ.hold a) H :=
  ⟨n.keep, fun b hb f => ⟨(n.lat.fr b hb f).1, fun z => by
    rcases List.mem_cons.mp z with z | z
    · subst z; exact hb ha
    · exact (n.lat.fr b hb f).2 z⟩⟩
theorem EnvOk.lat (l : Lat ρ1 H1 ρ H) (pre : ρ1.cs <+: ρ.cs) (k : Ok K ρ1 S H1) (e : EnvOk K ρ1 H1 σ δ) : EnvOk K ρ H σ δ :=
  ⟨e.len, fun i u h => by
    obtain ⟨v, a, r⟩ := e.at_ i u h
    refine ⟨v, a, ?_⟩
    cases u with
    | d x => exact Rep.mv (l.mv k) r
    | loc n =>
      obtain ⟨b, eb, hb⟩ := r
      obtain ⟨t, q⟩ := pre
      exact ⟨b, eb, by rw [← q, List.getElem?_append_left (List.getElem?_eq_some_iff.mp hb).1]; exact hb⟩⟩
/-- what an inner step leaves -/
theorem Nxt.unhold {a : Addr} (n : Nxt (ρ.hold a) H ρ' H') : ∃ ρ2 : Ad, ρ' = ρ2.hold a ∧ Nxt ρ H ρ2 H' := by
  obtain ⟨cs, rs⟩ := ρ'
  have e : rs = a :: ρ.rs := n.rs
  subst e
  exact ⟨⟨cs, ρ.rs⟩, rfl, n.pre, rfl, n.keep, n.new⟩
/-- between two turns: the list at a holds acc so far -/
def lcInv (K : Fg) (W : WX) (σ : L2.St) (ρ1 : Ad) (H1 : Hp) (a : Addr) (t : Tg) (mt : MT) (me : ME) (δ : DEnv) (ds : List D) (Q : VK) (i : Nat) (H : Hp) : Prop :=
  i ≤ ds.length ∧ ∃ (ρ : Ad) (S : Store) (acc : List V) (as : List D), Nxt ρ1 H1 ρ H ∧ Ok K (ρ.hold a) S H ∧ H a = some (.lst acc) ∧ acc.length ≤ i ∧ RepL K (free (ρ.hold a)) H acc as ∧
    Post K W σ ρ1 H1 ((lcD t mt me δ (ds.drop i) S).bind fun ys S2 => .ok (U.d (.lst (as ++ ys))) S2) fun u ρ' H' => ∀ v, RepU K ρ' H' v u → Q v H'
end
section
variable {X : Cx} {W : WX} {pos : Pos} {elt tg iter : Expr} {ifs : List Expr} {scope : Scope} {own : List (Str × Nat)} {mi : MI} {t : Tg} {mt : MT} {me : ME}
theorem tI.first {α : Type} {K : Fg} {σ : L2.St} {ρ : Ad} {H : Hp} {S : Store} {δ : DEnv} {R : It → Hp → Prop} {f : List D → Store → Res α} {good : α → Ad → Hp → Prop} (e : EnvOk K ρ H σ δ) (k : Ok K ρ S H) (h : Post K W σ ρ H ((mi δ S).bind f) good)
    (hq : ∀ J ds ρ1 H1 S1, Nxt ρ H ρ1 H1 → EnvOk K ρ1 H1 σ δ → Ok K ρ1 S1 H1 → Wk K ρ1 H1 J ds → Post K W σ ρ1 H1 (f ds S1) good → R J H1) : tI K W mi σ H R := by
  refine ⟨ρ, δ, S, e, k, (Post.bind h).imp fun ds ρ1 H1 n q J S' k' w => ?_⟩
  obtain ⟨S1, e1, k1, p⟩ := q
  exact hq J ds ρ1 H1 S1 n (e.nxt n k) k1 w p
/-- the walk of a comprehension, from where its iterator stands -/
theorem lc_body (hv : ∀ i ∈ t.slots, i ∈ own.map (·.2)) {σ : L2.St} {ρ1 : Ad} {H1 : Hp} {S1 : Store} {δ : DEnv} {J : It} {ds : List D} {Q : VK} (e1 : EnvOk X.K ρ1 H1 σ δ) (k1 : Ok X.K ρ1 S1 H1) (w : Wk X.K ρ1 H1 J ds)
    (p1 : Post X.K W σ ρ1 H1 (if ds.length ≤ sizeLine then (lcD t mt me (wipeD (own.map (·.2)) δ) ds S1).bind fun ys S2 => .ok (U.d (.lst ys)) S2 else .stuck) fun u ρ' H' => ∀ v, RepU X.K ρ' H' v u → Q v H') :
    tLc (fun _ H R => R J H) (tG X.K t) (tT X.K W0 mt) (tE X.K W0 me) (own.map (·.2)) σ H1 Q := by
  intro a ha
  by_cases hz : ds.length ≤ sizeLine
  case neg => rw [if_neg hz] at p1; exact p1.elim
  rw [if_pos hz] at p1
  have fa := k1.notNew ha
  refine ⟨fun i mm H => mm = ds.length - i ∧ lcInv X.K W σ ρ1 H1 a t mt me (wipeD (own.map (·.2)) δ) ds Q i H, ⟨ds.length, by simp, Nat.zero_le _, ρ1, S1, [], [], Nxt.laid ha, k1.hold ha, upd_same, Nat.zero_le _, .nil, by simpa using p1⟩, ?_⟩
  rintro i mm H2 ⟨rfl, hi, ρ2, S2, acc, as, n2, k2, ha2, hl2, r2, p2⟩
  have l2 := n2.held ha
  by_cases hlt : i < ds.length
  · have hd : ds.drop i = ds[i] :: ds.drop (i + 1) := List.drop_eq_getElem_cons hlt
    have hx : ds[i]? = some ds[i] := List.getElem?_eq_getElem hlt
    rw [hd] at p2
    refine .inr ⟨w.go i _ _ S2 H2 hx l2 k2, lcInv X.K W σ ρ1 H1 a t mt me (wipeD (own.map (·.2)) δ) ds Q (i + 1), fun H' z => ⟨ds.length - (i + 1), by omega, rfl, z⟩, fun x H3 y => ?_⟩
    obtain ⟨n3, k3, r3⟩ := w.yld i _ _ S2 H2 x H3 hx l2 k2 y
    unfold lcD at p2
    cases hap : t.apply (.d ds[i]) (wipeD (own.map (·.2)) δ) with
    | none => simp only [hap] at p2; exact p2.elim
    | some δ2 =>
      simp only [hap] at p2
      have e3 : EnvOk X.K (ρ2.hold a) H3 (wipe σ (own.map (·.2))) (wipeD (own.map (·.2)) δ) := ((e1.wipe _).lat l2 n2.pre k1).nxt n3 k2
      refine ⟨_, S2, _, .d ds[i], δ2, e3, k3, r3, hap, fun σ4 e4 ap => ⟨?_, ?_⟩⟩
      · rw [(ap.mono hv).wipe]
        apply List.ext_getElem?
        intro j
        rw [wipe_at, wipe_at]
        by_cases hj : j ∈ own.map (·.2)
        · rw [if_pos hj, if_pos hj]; cases σ[j]? <;> rfl
        · rw [if_neg hj, if_neg hj]
      -- the test, the element
      have n3' : Nxt ρ2 H2 ρ2 H3 := ⟨n3.pre, rfl, n3.keep, n3.new⟩
      have na : some a ∉ ρ2.cs := (k2.rsv a (List.mem_cons_self ..)).1
      have ha3 : H3 a = some (.lst acc) := n3.keep a _ ha2 na
      rw [Res.bind_assoc] at p2
      refine tT.first (W := W0) (good := fun _ _ _ => True) (f := fun _ S => .ok () S) e4 k3 ?_ ?_
      · cases hm : mt δ2 S2 with
        | ok b S' => exact fun _ _ _ _ => trivial
        | exc x S' => rw [hm] at p2; exact p2.elim
        | stuck => rw [hm] at p2; exact p2.elim
      intro b ρ5 H5 S5 hm n5 e5 k5 _
      rw [hm] at p2
      simp only [Res.calm_ok, Res.ok_bind] at p2
      obtain ⟨ρ5, rfl, n5'⟩ := n5.unhold
      have ha5 : H5 a = some (.lst acc) := n5.keep a _ ha3 na
      have r5 := (r2.mv (n3.mv k2)).mv (n5.mv k3)
      have all5 : Nxt ρ1 H1 ρ5 H5 := n2.trans (n3'.trans n5')
      cases b with
      | false =>
        rw [if_neg Bool.false_ne_true] at p2 ⊢
        exact ⟨hlt, ρ5, S5, acc, as, all5, k5, ha5, by omega, r5, p2⟩
      | true =>
        rw [if_pos rfl] at p2 ⊢
        rw [Res.bind_assoc] at p2
        refine tE.first (W := W0) (good := fun _ _ _ => True) (f := fun _ S => .ok () S) e5 k5 ?_ ?_
        · cases hm2 : me δ2 S5 with
          | ok u S' => exact fun _ _ _ _ => trivial
          | exc x S' => rw [hm2] at p2; exact p2.elim
          | stuck => rw [hm2] at p2; exact p2.elim
        intro y6 u6 ρ6 H6 S6 hm2 n6 e6 k6 r6 _
        rw [hm2] at p2
        simp only [Res.calm_ok, Res.ok_bind] at p2
        obtain ⟨ρ6, rfl, n6'⟩ := n6.unhold
        have na5 : some a ∉ ρ5.cs := (k5.rsv a (List.mem_cons_self ..)).1
        have ha6 : H6 a = some (.lst acc) := n6.keep a _ ha5 na5
        cases u6 with
        | loc n => exact p2.elim
        | d z =>
          have all6 : Nxt ρ1 H1 ρ6 H6 := all5.trans n6'
          refine ⟨acc, ha6, by omega, hlt, ρ6, S6, acc ++ [y6], as ++ [z], ?_, k6.rewrite, upd_same, by simp; omega, ?_, ?_⟩
          · exact ⟨all6.pre, all6.rs, fun b o e f => by rw [upd_ne (ne_of_none e ha)]; exact all6.keep b o e f, all6.new⟩
          · exact ((r5.mv (n6.mv k5)).append (.cons r6 .nil)).mv (Mv.rewrite (.inl ⟨_, ha6⟩))
          · rw [Res.bind_assoc] at p2
            simpa using p2
  · have hi' : i = ds.length := by omega
    subst hi'
    rw [List.drop_length] at p2
    have fa2 : free ρ2 a := ⟨(k2.rsv a (List.mem_cons_self ..)).1, by rw [n2.rs]; exact fa.2⟩
    refine .inl ⟨w.stop _ S2 H2 l2 k2, ?_⟩
    simp only [lcD, Res.ok_bind, List.append_nil] at p2
    exact p2 ρ2 H2 n2 k2.unhold _ (Rep.lst (.inl ha2) fa2 (r2.mv Mv.unhold))
theorem mLc_ok (hv : ∀ i ∈ t.slots, i ∈ own.map (·.2)) {σ : L2.St} {H : Hp} {Q : VK} (h : tE X.K W (mLc mi t mt me (own.map (·.2))) σ H Q) : tLc (tI X.K W mi) (tG X.K t) (tT X.K W0 mt) (tE X.K W0 me) (own.map (·.2)) σ H Q := by
  obtain ⟨ρ, δ, S, e, k, p⟩ := h
  exact tI.first e k p fun J ds ρ1 H1 S1 n1 e1 k1 w p1 => lc_body (J := J) hv e1 k1 w p1
theorem pm_lc (hc : X.calm = true) (hN : X.N.Nodup) (hi : PMI X W tg iter mi) (ok : BlkOk X.N X.env.scope scope own) (hv : ∀ i ∈ t.slots, i ∈ own.map (·.2))
    (hg : ∀ (s : Shared) (H : Hp) (C : Addr) (cl : List (Str × Addr)) (fp : List Addr), PMG (X.blk s H scope (compEnvC scope cl C X.env) fp) tg t) (ht : ∀ (s : Shared) (H : Hp) (C : Addr) (cl : List (Str × Addr)) (fp : List Addr), PMTs (X.blk s H scope (compEnvC scope cl C X.env) fp) W0 ifs mt)
    (he : ∀ (s : Shared) (H : Hp) (C : Addr) (cl : List (Str × Addr)) (fp : List Addr), PM (X.blk s H scope (compEnvC scope cl C X.env) fp) W0 elt me) (hs : ∀ x, foldedSetIterable iter X.env x = pure x := by intro _; rfl) :
    PM X W (.ListComp elt [⟨tg, iter, ifs, 0⟩] scope pos) (mLc mi t mt me (own.map (·.2))) :=
  pimpE (pe_lc (g := tG X.K t) (tt := tT X.K W0 mt) (te := tE X.K W0 me) hc hN hi ok hg ht he hs) fun _ _ _ h => mLc_ok hv h
theorem pms_setLc {i : Nat} {y : Str} {py spos : Pos} (hc : X.calm = true) (hN : X.N.Nodup) (hy : X.N[i]? = some y) (hyl : X.env.scope.names.lookup y = some .local)
    (hsw : swapsWith (.ListComp elt [⟨tg, iter, ifs, 0⟩] scope pos) (some (.Name y py)) spos.line X.env = pure true) (hi : PMI X W tg iter mi) (ok : BlkOk X.N X.env.scope scope own) (hv : ∀ i ∈ t.slots, i ∈ own.map (·.2))
    (hg : ∀ (s : Shared) (H : Hp) (C : Addr) (cl : List (Str × Addr)) (fp : List Addr), PMG (X.blk s H scope (compEnvC scope cl C X.env) fp) tg t) (ht : ∀ (s : Shared) (H : Hp) (C : Addr) (cl : List (Str × Addr)) (fp : List Addr), PMTs (X.blk s H scope (compEnvC scope cl C X.env) fp) W0 ifs mt)
    (he : ∀ (s : Shared) (H : Hp) (C : Addr) (cl : List (Str × Addr)) (fp : List Addr), PM (X.blk s H scope (compEnvC scope cl C X.env) fp) W0 elt me) (hs : ∀ x, foldedSetIterable iter X.env x = pure x := by intro _; rfl) :
    PMS X W (.Assign [.Name y py] (.ListComp elt [⟨tg, iter, ifs, 0⟩] scope pos) spos) (mSet i (mLc mi t mt me (own.map (·.2)))) :=
  pimpS (ps_setLc (g := tG X.K t) (tt := tT X.K W0 mt) (te := tE X.K W0 me) hc hN hy hyl hsw hi ok hg ht he hs) fun D σ H ⟨ρ0, H0, ρ, δ, S, n0, e, k, p⟩ => mLc_ok hv (tE.inS n0 e k p fun v u ρ1 H1 S1 _ n1 e1 k1 r1 p1 => p1 _ ρ1 H1 n1 k1 (e1.set r1))
end
end DL

set_option Elab.async false
set_option linter.all false
set_option maxRecDepth 100000
set_option maxHeartbeats 4000000
/-! DFn: defs by their meanings, calls of them, the law's end -/
namespace DL
open PySem PySem.Spec PyProof.Rows L2

/-- behind a def's body: its own cells are given up -/
def exitM (b : Nat) : SR → Res U
  | .ret u S => match trimU b S u with
    | some u' => .ok u' (S.take b)
    | none => .stuck
  | .next _ S => .ok (.d .non) (S.take b)
  | .exc x _ S => .exc x (S.take b)
  | _ => .stuck
/-- the def hands back its first cell -/
def exitK (b : Nat) : SR → Res U
  | .ret (.loc n) S => if n = b then .ok (.loc b) (S.take (b + 1)) else .stuck
  | _ => .stuck
def enter (n : Nat) (us : List U) : DEnv := us.map some ++ List.replicate (n - us.length) none
def callM (ar n : Nat) (body : MS) : Fn := fun us S => if us.length = ar then exitM S.length (body S.length (enter n us) S) else .stuck
def callK (ar n : Nat) (body : MS) : Fn := fun us S => if us.length = ar then exitK S.length (body S.length (enter n us) S) else .stuck
def spM (K : Fg) (m : Fn) : Sp := fun vs H Q E => ∃ ρ S us, Ok K ρ S H ∧ RepUs K ρ H vs us ∧ match m us S with
  | .ok u S' => ∀ v ρ' H', Nxt ρ H ρ' H' → Ok K ρ' S' H' → RepU K ρ' H' v u → Q v H'
  | .exc x S' => ∀ cls dx ρ' H', Nxt ρ H ρ' H' → Ok K ρ' S' H' → RepX K ρ' H' cls dx x → E cls dx H'
  | .stuck => False
/-- the def at f means m -/
structure FnG (P : Program) (w : World) (K : Fg) (mg : Str → Option Value) (base : Heap) (k : Nat) (f : Addr) (fd : FuncData) (ps : List Str) (m : Fn) : Prop where
  len : ∀ us S, us.length ≠ ps.length → m us S = .stuck
  run : ∀ (A : Around) (outer : List Env) (s : Shared) (H : Hp) (args : Args) (us : List Value) (vs : List V) (Q : VK) (E : XK), Room k A → A.guards = some [] → Env0 P w K mg base A outer s H → BindsTo s fd args (ps.zip us) → Vals vs us → spM K m vs H Q E →
    codeAny (model P w) A (.call (.ref f) args) (CR (L2.CX P w) outer P w H s Q E) s
section
variable {P : Program} {w : World} {K : Fg} {mg : Str → Option Value} {base : Heap} {k j : Nat} {f : Addr} {fd : FuncData} {ps N : List Str} {m : Fn}
theorem FnG.mono (F : FnG P w K mg base j f fd ps m) (h : j ≤ k) : FnG P w K mg base k f fd ps m := ⟨F.len, fun A outer s H args us vs Q E hr => F.run A outer s H args us vs Q E (hr.mono h)⟩
theorem FnG.vlen (F : FnG P w K mg base j f fd ps m) {vs : List V} {H : Hp} {Q : VK} {E : XK} (h : spM K m vs H Q E) : vs.length = ps.length := by
  obtain ⟨ρ, S, us, k, r, q⟩ := h
  rw [r.length]
  by_cases e : us.length = ps.length
  · exact e
  · rw [F.len us S e] at q; exact q.elim
/-- never asked -/
theorem FnG.none : FnG P w K mg base k f fd ps (fun _ _ => .stuck) := ⟨fun _ _ _ => rfl, fun A outer s H args us vs Q E _ _ _ _ _ h => by
  obtain ⟨_, _, _, _, _, q⟩ := h
  exact q.elim⟩
theorem enter_ok {ρ : Ad} {H : Hp} {vs : List V} {us : List U} (r : RepUs K ρ H vs us) : EnvOk K ρ H (L2.start N vs) (enter N.length us) := by
  have hl := r.length
  refine ⟨by unfold L2.start enter; simp [hl], fun i u h => ?_⟩
  unfold enter at h
  unfold L2.start
  have get : ∀ {vs : List V} {us : List U}, RepUs K ρ H vs us → ∀ (i : Nat) (u : U), us[i]? = some u → ∃ v, vs[i]? = some v ∧ RepU K ρ H v u := by
    intro vs us r
    induction r with
    | nil => intro i u h; simp at h
    | cons h t ih =>
      intro i u e
      cases i with
      | zero => simp at e; subst e; exact ⟨_, rfl, h⟩
      | succ i => simpa using ih i u (by simpa using e)
  by_cases hi : i < us.length
  · rw [List.getElem?_append_left (by simpa using hi), List.getElem?_map] at h
    obtain ⟨w, h1, h2⟩ := Option.map_eq_some_iff.mp h
    cases h2
    obtain ⟨v, h3, h4⟩ := get r i u h1
    exact ⟨v, by rw [List.getElem?_append_left (by simp; omega), List.getElem?_map, h3]; rfl, h4⟩
  · rw [List.getElem?_append_right (by simpa using hi), List.getElem?_replicate] at h
    split at h <;> cases h
theorem RepX.cut {ρ : Ad} {H : Hp} {cls : Value} {dx : Option Addr} {x : XD} (b : Nat) (h : RepX K ρ H cls dx x) : RepX K (ρ.cut b) H cls dx x := by
  refine ⟨h.1, ?_⟩
  cases dx with
  | none => exact h.2
  | some d =>
    obtain ⟨fs, q, r⟩ := h.2
    refine ⟨fs, q, ?_⟩
    have go : ∀ {fs : List (Str × V)} {gs : List (Str × D)}, RepF K (free ρ) H fs gs → RepF K (free (ρ.cut b)) H fs gs := by
      intro fs gs r
      induction r with
      | nil => exact .nil
      | cons h t ih => exact .cons (h.mv Mv.cut) ih
    exact go r
theorem exit_ok {W : WX} {ρ : Ad} {H : Hp} {S : Store} {r : SR} {Q : VK} {E : XK} (k : Ok K ρ S H)
    (q : match exitM S.length r with
      | .ok u S' => ∀ v ρ' H', Nxt ρ H ρ' H' → Ok K ρ' S' H' → RepU K ρ' H' v u → Q v H'
      | .exc x S' => ∀ cls dx ρ' H', Nxt ρ H ρ' H' → Ok K ρ' S' H' → RepX K ρ' H' cls dx x → E cls dx H'
      | .stuck => False) : PostS K (fun cls d _ H' => E cls d H') ρ H r { nx := fun _ H' => Q .non H', rt := Q } := by
  have hb : ρ.cs.length ≤ S.length := Nat.le_of_eq k.len
  cases r with
  | next δ S' => exact fun σ' ρ' H' n k' e' => q .non (ρ'.cut S.length) H' (n.cut hb) (k'.cut _) .non
  | ret u S' =>
    intro v ρ' H' n k' r'
    cases ht : trimU S.length S' u with
    | none => simp only [exitM, ht] at q
    | some u' =>
      simp only [exitM, ht] at q
      exact q v (ρ'.cut S.length) H' (n.cut hb) (k'.cut _) (r'.trim k' ht)
  | brk δ S' => exact q.elim
  | cont δ S' => exact q.elim
  | exc x δ S' => exact fun cls dx σ' ρ' H' n k' e' r' => q cls dx (ρ'.cut S.length) H' (n.cut hb) (k'.cut _) (r'.cut _)
  | stuck => exact q.elim
theorem exitK_ok {W : WX} {ρ : Ad} {H : Hp} {S : Store} {r : SR} {Q : VK} {E : XK} (k : Ok K ρ S H)
    (q : match exitK S.length r with
      | .ok u S' => ∀ v ρ' H', Nxt ρ H ρ' H' → Ok K ρ' S' H' → RepU K ρ' H' v u → Q v H'
      | .exc x S' => ∀ cls dx ρ' H', Nxt ρ H ρ' H' → Ok K ρ' S' H' → RepX K ρ' H' cls dx x → E cls dx H'
      | .stuck => False) : PostS K (fun cls d _ H' => E cls d H') ρ H r { nx := fun _ H' => Q .non H', rt := Q } := by
  have hb : ρ.cs.length ≤ S.length + 1 := Nat.le_succ_of_le (Nat.le_of_eq k.len)
  cases r with
  | ret u S' =>
    cases u with
    | d x => exact q.elim
    | loc n =>
      intro v ρ' H' n' k' r'
      by_cases e : n = S.length
      · simp only [exitK, if_pos e] at q
        refine q v (ρ'.cut (S.length + 1)) H' (n'.cut hb) (k'.cut _) (r'.trim (u' := .loc S.length) k' ?_)
        show (if n < S.length + 1 then some (U.loc n) else _) = _
        rw [if_pos (by omega), e]
      · simp only [exitK, if_neg e] at q
  | _ => exact q.elim
/-- a def of the text by its body's meaning; G: how its end is taken -/
theorem fnG_gen {x qual : Str} {st : Stmt} {body : MS} {G : Nat → SR → Res U} (F : Fun K x qual st f fd) (S : FnScope N ps (defScope st))
    (hG : ∀ {ρ : Ad} {H : Hp} {S : Store} {r : SR} {Q : VK} {E : XK}, Ok K ρ S H → (match G S.length r with
      | .ok u S' => ∀ v ρ' H', Nxt ρ H ρ' H' → Ok K ρ' S' H' → RepU K ρ' H' v u → Q v H'
      | .exc x S' => ∀ cls dx ρ' H', Nxt ρ H ρ' H' → Ok K ρ' S' H' → RepX K ρ' H' cls dx x → E cls dx H'
      | .stuck => False) → PostS K (fun cls d _ H' => E cls d H') ρ H r { nx := fun _ H' => Q .non H', rt := Q })
    (hbody : ∀ (cdv : Value) (A : Around) (outer : List Env) (s : Shared) (H : Hp) (E : XK), Room k (A.deeper (envOfC qual (defScope st) s.heap.objs.size f cdv)) → A.guards = some [] →
      PMSs (cxOf (L2.CX P w) P w K mg base N qual (defScope st) f cdv A outer s H E) (fun cls d _ H' => E cls d H') (defBody st) body) :
    FnG P w K mg base (k + 1) f fd ps (fun us S => if us.length = ps.length then G S.length (body S.length (enter N.length us) S) else .stuck) := by
  obtain ⟨oc, od, kV, doc, pm, an, cdv, ct, osl, rfl, lk, hcd⟩ := F.ex
  refine ⟨fun us S h => if_neg h, fun A outer s H args us vs Q E hr hg e0 hb r hsp => ?_⟩
  obtain ⟨ρ, S0, ws, k0, rw0, q⟩ := hsp
  by_cases hlw : ws.length = ps.length
  case neg => dsimp only at q; rw [if_neg hlw] at q; exact q.elim
  dsimp only at q
  rw [if_pos hlw] at q
  have hl : vs.length = ps.length := by rw [rw0.length]; exact hlw
  have KX : K.In s.heap := e0.mod.kin.keeps fun b o e => (e0.bs b o e).1
  have lim : s.heap.NoLimit := e0.mod.nolimit.keeps fun b o e => (e0.bs b o e).1
  have kinds : ∀ y ∈ ps.zip us, (defScope st).names.lookup y.1 = some .local ∨ ((defScope st).names.lookup y.1 = some .cell ∧ ((cellsFrom (s.heap.objs.size + 1) (defScope st).names []).lookup y.1).isSome = true) := fun ⟨n, v⟩ hy =>
    (S.par n (List.of_mem_zip hy).1).elim .inl fun q => .inr ⟨q, PySem.W.cellsFrom_some _ _ _ (.inl q)⟩
  refine codeAny_call_function hr.depth (KX _ _ lk) rfl S.co S.gen rfl (PySem.W.codeRec_of KX hcd) (hb _ _ _ _ (wpAny_newFunctionEnv_cells S.kind kinds fun env he s1 xx => ?_))
  subst he
  refine ⟨lim.keeps xx.toInCall.keep, codeAny_func ?_⟩
  have I : Inv (cxOf (L2.CX P w) P w K mg base N qual (defScope st) f cdv A outer s H E) [] (L2.start N vs) H s1 := inv_start S hr.hd e0 hl r xx
  have T : tS K (fun cls d _ H' => E cls d H') body { nx := fun _ H' => Q .non H', rt := Q } (L2.start N vs) H := ⟨ρ, H, ρ, enter N.length ws, S0, Nxt.refl, enter_ok rw0, k0, by rw [k0.len]; exact hG k0 q⟩
  refine wpAny_mono ((hbody cdv A outer s H E (hr.deeper _) hg).run [] s1 (L2.start N vs) H _ I T) (fun fl s' hs => ?_) fun e s' hs => hs
  cases fl with
  | ret u => obtain ⟨v, σ', H', J, rv, z⟩ := hs; exact ⟨v, H', J.os, J.bare, J.base, J.hok, rv, z⟩
  | next => obtain ⟨σ', H', J, z⟩ := hs; exact ⟨.non, H', J.os, J.bare, J.base, J.hok, rfl, z⟩
  | brk => obtain ⟨_, _, _, z⟩ := hs; exact z.elim
  | cont => obtain ⟨_, _, _, z⟩ := hs; exact z.elim
theorem fnG_of {x qual : Str} {st : Stmt} {body : MS} (F : Fun K x qual st f fd) (S : FnScope N ps (defScope st))
    (hbody : ∀ (cdv : Value) (A : Around) (outer : List Env) (s : Shared) (H : Hp) (E : XK), Room k (A.deeper (envOfC qual (defScope st) s.heap.objs.size f cdv)) → A.guards = some [] →
      PMSs (cxOf (L2.CX P w) P w K mg base N qual (defScope st) f cdv A outer s H E) (fun cls d _ H' => E cls d H') (defBody st) body) : FnG P w K mg base (k + 1) f fd ps (callM ps.length N.length body) :=
  fnG_gen (G := exitM) F S (fun k q => exit_ok (W := W0) k q) hbody
theorem fnK_of {x qual : Str} {st : Stmt} {body : MS} (F : Fun K x qual st f fd) (S : FnScope N ps (defScope st))
    (hbody : ∀ (cdv : Value) (A : Around) (outer : List Env) (s : Shared) (H : Hp) (E : XK), Room k (A.deeper (envOfC qual (defScope st) s.heap.objs.size f cdv)) → A.guards = some [] →
      PMSs (cxOf (L2.CX P w) P w K mg base N qual (defScope st) f cdv A outer s H E) (fun cls d _ H' => E cls d H') (defBody st) body) : FnG P w K mg base (k + 1) f fd ps (callK ps.length N.length body) :=
  fnG_gen (G := exitK) F S (fun k q => exitK_ok (W := W0) k q) hbody
end
/-! ### calls -/
section
variable {X : Cx} {W : WX} {pos p : Pos} {k : Nat} {f : Addr} {fd : FuncData} {ps : List Str} {m : Fn} {x : Str} {e : Expr} {es : List Expr} {mas : MA}
def mFn (m : Fn) (mas : MA) : ME := fun δ S => (mas δ S).bind fun us S1 => m us S1
theorem run_G {pins : List (Addr × Obj)} {σ : L2.St} {H : Hp} {s : Shared} {Q : VK} {us : List Value} {vs : List V} (F : FnG X.prog X.w X.K X.mg X.base k f fd ps m) (hr : Room k X.A) (hg : X.A.guards = some []) (hb : Binds X.K fd ps []) (tk : Takes X W)
    (I : Inv X pins σ H s) (r : Vals vs us) (h : spM X.K m vs H Q (WE W σ)) : wpAny (model X.prog X.w) X.A (call (.ref f) us) (EP X pins σ Q) X.xe s := by
  have hl : us.length = ps.length := by rw [← r.length]; exact F.vlen h
  have b := hb s us I.kIn (by rw [List.append_nil]; exact hl)
  rw [List.append_nil] at b
  refine wpAny_call (codeAny_mono (F.run X.A X.stack s H ⟨us, []⟩ us vs Q (WE W σ) hr hg I.env0 b r h) fun r s' hq => ?_)
  cases r with
  | error e => exact passAt tk σ pins H s e s' I hq
  | ok fl =>
    cases fl with
    | ret u => exact I.after hq
    | next => exact hq.elim
    | brk => exact hq.elim
    | cont => exact hq.elim
theorem spM_of {σ : L2.St} {ρ : Ad} {H : Hp} {S : Store} {vs : List V} {us : List U} {Q : VK} (k : Ok X.K ρ S H) (r : RepUs X.K ρ H vs us) (p : Post X.K W σ ρ H (m us S) fun u ρ' H' => ∀ v, RepU X.K ρ' H' v u → Q v H') : spM X.K m vs H Q (WE W σ) := by
  refine ⟨ρ, S, us, k, r, ?_⟩
  cases q : m us S with
  | ok u S' => rw [q] at p; exact fun v ρ' H' n k' r' => p ρ' H' n k' v r'
  | exc x S' => rw [q] at p; exact p
  | stuck => rw [q] at p; exact p
theorem pm_call (F : FnG X.prog X.w X.K X.mg X.base k f fd ps m) (hr : Room k X.A) (hgd : X.A.guards = some []) (tk : Takes X W) (hg : Gl X x) (hm : X.mg x = some (.ref f)) (hk : PySem.W.keepIn X.K (.ref f) = true) (hb : Binds X.K fd ps []) (ha : PMA X W (e :: es) mas)
    (hdb : (x == ("__debug__" : Str)) = false := by decide) (he : starEach (e :: es) X.env = (false, eval e X.env) :: starEach es X.env := by rfl) (hpl : (backTo pos (starEach es X.env)).any (·.1) = false := by rfl) : PM X W (.Call (.Name x p) (e :: es) [] pos) (mFn m mas) := by
  refine ⟨fun pins s σ H Q I ⟨ρ, δ, S, en, k0, p0⟩ => wpAny_Call_Name_kw (ld_glob I hg hm ?_ hdb)⟩
  have T : tA X.K W mas σ H fun vs H1 => spM X.K m vs H1 Q (WE W σ) := tA.first en k0 p0 fun vs us ρ1 H1 S1 _ n1 e1 k1 r1 p1 => spM_of k1 r1 p1
  refine PySem.W.callWith_K (h₀ := X.base) I.ok.mod.kin hk (thn (ha.run pos pins s σ H _ I T) fun us s1 ⟨vs, H1, I1, r, q⟩ => ⟨I1.kIn, ?_⟩) he hpl
  exact run_G F hr hgd hb tk I1 r q
theorem pm_call0 (F : FnG X.prog X.w X.K X.mg X.base k f fd ps m) (hr : Room k X.A) (hgd : X.A.guards = some []) (tk : Takes X W) (hg : Gl X x) (hm : X.mg x = some (.ref f)) (hk : PySem.W.keepIn X.K (.ref f) = true) (hb : Binds X.K fd ps [])
    (hdb : (x == ("__debug__" : Str)) = false := by decide) : PM X W (.Call (.Name x p) [] [] pos) (mFn m mNil) := by
  refine ⟨fun pins s σ H Q I ⟨ρ, δ, S, en, k0, p0⟩ => wpAny_Call_Name_kw (ld_glob I hg hm ?_ hdb)⟩
  exact PySem.W.callWith_K0 I.kIn hk (run_G (us := []) F hr hgd hb tk I .nil (spM_of k0 .nil p0))
end
/-! ### the law -/
theorem law_end {P : Program} {w : World} {K : Fg} {mg mb : Str → Option Value} {k : Nat} {fa a : Addr} {fd : FuncData} {x : Str} {m : Fn} {s₁ : Shared} {vs : List Value} {ns : List Int}
    (KX : K.In s₁.heap) (hns : s₁.heap.Ns mainGlobals mg) (hb : s₁.heap.Ns builtinsNs mb) (hbb : ∀ x : Str, x ≠ "__name__" → mb x = bootBuiltins x) (hlim : s₁.heap.NoLimit) (hg : s₁.gens = #[])
    (ha : s₁.heap.get? a = some { cls := .type "list", data := .seq vs.toArray }) (hi : IntsAre vs ns) (hl : ns.length ≤ sizeLine) (hr : Room k callerA)
    (F : ∀ base : Heap, K.In base → base.Ns mainGlobals mg → FnG P w K mg base k fa fd [x] m) (hbind : ∀ (s : Shared) (u : Value), BindsTo s fd ⟨[u], []⟩ [(x, u)])
    (hm : ∃ S, m [.d (.fl (ns.map D.int))] [] = .ok (.d (.bl true)) S) :
    codeAny (model P w) callerA (.call (.ref fa) ⟨[.ref a], []⟩) (fun r s' => r = .ok (.ret (.bool true)) ∧ OldK s₁.heap s'.heap ∧ s'.os = s₁.os ∧ AllBare s'.gens) s₁ := by
  have rv := vals_ints hi
  have lenV := hi.length
  obtain ⟨S9, hm⟩ := hm
  have core : ∀ H : Hp, (∀ b, H b = none ∨ ∃ o xs, H b = some (.frz o (.lst xs))) → FzL K (free ⟨[], []⟩) H a (ns.map V.int) → HOk P w H s₁.heap → (∀ b, H b ≠ none → b = a) → (H a ≠ none → K.lookup a = none) →
      codeAny (model P w) callerA (.call (.ref fa) ⟨[.ref a], []⟩) (fun r s' => r = .ok (.ret (.bool true)) ∧ OldK s₁.heap s'.heap ∧ s'.os = s₁.os ∧ AllBare s'.gens) s₁ := by
    intro H hO hS hok hA hK
    have notDict : ∀ {b : Addr} {o : Obj} {es : Array DictEntry} {ep : Nat}, s₁.heap.get? b = some o → o.data = .dict es ep → H b = none := fun {b o es ep} e d => by
      cases q : H b with
      | none => rfl
      | some u =>
        cases hA b (by rw [q]; simp)
        rw [ha] at e; cases e
        have d' : Data.seq vs.toArray _ = Data.dict es ep := d
        cases d'
    have nsH : ∀ {b : Addr} {mm : Str → Option Value}, s₁.heap.Ns b mm → (hidT s₁.heap H).Ns b mm := fun {b mm} ⟨o, es, ep, e, d, r⟩ => ⟨o, es, ep, hidT_get e (notDict e d), d, r⟩
    have kH : K.In (hidT s₁.heap H) := fun b o e => hidT_get (KX b o e) (by
      cases q : H b with
      | none => rfl
      | some u =>
        cases hA b (by rw [q]; simp)
        rw [hK (by rw [q]; simp)] at e; cases e)
    have hM : Mod K mg (hidT s₁.heap H) := ⟨kH, nsH hns, ⟨mb, nsH hb, hbb⟩, let ⟨mc, h1, h2⟩ := hlim; ⟨mc, nsH h1, h2⟩⟩
    have e0 : Env0 P w K mg (hidT s₁.heap H) callerA [] s₁ H := ⟨rfl, hM, fun b o e => of_hidT e, Nat.le_of_eq (hidT_size _ _), trivial, fun b z => absurd (show b ∈ ([] : List Addr) from z) (by simp), hok, .of_eq hg⟩
    have k0 : Ok K ⟨[], []⟩ [] H := ⟨rfl, fun i j b e => by simp at e, fun i b e => by simp at e, fun i e => by simp at e, fun b z => by simp at z⟩
    have sp : spM K m [.ref a] H (fun v _ => v = .bl true) (fun _ _ _ => False) := ⟨⟨[], []⟩, [], [.d (.fl (ns.map D.int))], k0, .cons (Rep.fl hS (RepL.ints ns)) .nil, by
      rw [hm]
      intro v ρ' H' _ _ r
      cases r; rfl⟩
    refine codeAny_mono ((F _ kH (nsH hns)).run callerA [] s₁ H ⟨[.ref a], []⟩ [.ref a] [.ref a] _ _ hr rfl e0 (hbind s₁ (.ref a)) (.cons rfl .nil) sp) fun r s' h => ?_
    cases r with
    | error e => obtain ⟨_, _, _, _, _, _, _, _, _, _, _, _, z⟩ := h; exact z.elim
    | ok fl =>
      cases fl with
      | next => exact h.elim
      | brk => exact h.elim
      | cont => exact h.elim
      | ret u =>
        obtain ⟨v, H', os, bare, un, hok', r', q⟩ := h
        have q' : v = .bl true := q
        subst q'
        cases (show u = Value.bool true from r')
        refine ⟨rfl, OldK.of_keep fun b o e => ?_, os, bare⟩
        rcases hO b with z | ⟨ob, xs, z⟩
        · exact un.keep b o e z (fun y => absurd (show b ∈ ([] : List Addr) from y) (by simp)) (by simp)
        · obtain ⟨e1, _⟩ := hok b _ z
          obtain ⟨e2, _⟩ := hok' b _ (un.frzs b ob _ z)
          rw [e] at e1; cases e1
          exact e2
  cases hk : K.lookup a with
  | some o =>
    have e := KX a o hk
    rw [ha] at e
    cases e
    exact core (fun _ => none) (fun _ => .inl rfl) (.inr ⟨_, vs.toArray, _, hk, rfl, rfl, rfl, by rw [List.size_toArray, lenV]; exact hl, by simpa using rv⟩) (fun b u z => by cases (show (none : Option HO) = some u from z)) (fun b z => absurd rfl z) fun z => absurd rfl z
  | none =>
    refine core (upd (fun _ => none) a (.frz { cls := .type "list", data := .seq vs.toArray } (.lst (ns.map V.int)))) (fun b => ?_) (.inl ⟨.inr ⟨_, upd_same⟩, ⟨by simp, by simp⟩⟩) (fun b u z => ?_) (fun b z => ?_) fun _ => hk
    · by_cases hb : b = a
      · subst hb; exact .inr ⟨_, _, upd_same⟩
      · exact .inl (upd_ne hb)
    · by_cases hb : b = a
      · subst hb
        rw [upd_same] at z; cases z
        exact ⟨ha, by rw [List.length_map]; exact hl, vs, _, rv, ha⟩
      · rw [upd_ne hb] at z; cases z
    · by_cases hb : b = a
      · exact hb
      · exact absurd (upd_ne hb) z
/-- the goal that k_head leaves -/
theorem law_walk {l : PySem.W.OpenLaw} {n k : Nat} {q : Program} {loose : List Str} {XP : (Str → Option Value) → Heap → Prop} {YP : World → Heap → Prop} {d : DefRec} {K : Params → Fg} {x : Str} {m : World → Fn}
    (hn : l.most = some n) (hn2 : n ≤ sizeLine) (hdf : d.params.defaults = []) (hr : Room k callerA) (hY : ∀ (w : World) (h : Heap), YP w h → (K w.params).In h)
    (F : ∀ (w : World) (mg : Str → Option Value) (fa : Addr) (h : Heap), (K w.params).In h → h.Ns mainGlobals mg → mg d.name = some (.ref fa) →
      ∃ fd : FuncData, (∀ (s : Shared) (u : Value), BindsTo s fd ⟨[u], []⟩ [(x, u)]) ∧ ∀ base : Heap, (K w.params).In base → base.Ns mainGlobals mg → FnG l.prog w (K w.params) mg base k fa fd [x] (m w))
    (hm : ∀ (w : World) (ns : List Int), ns.length ≤ n → ∃ S, m w [.d (.fl (ns.map D.int))] [] = .ok (.d (.bl true)) S) :
    PySem.W.WalkO q loose XP YP l.row.toRowW d [] (fun f vs => PySem.call f vs) := by
  refine Att.attach_call hn hdf fun w s₀ s₁ mg mb fa o pm cd doc a vs ns G Y ho hd hcd hmg hobj hints hlen hg => ?_
  obtain ⟨fd, hb, hF⟩ := F w mg fa _ (hY w _ Y) G.T.g hmg
  exact law_end (hY w _ Y) G.T.g G.T.b G.T.builtins G.T.nolimit hg hobj hints (Nat.le_trans hlen hn2) hr hF hb (hm w ns hlen)
end DL

set_option Elab.async false
set_option linter.all false
set_option maxRecDepth 100000
set_option maxHeartbeats 4000000
/-! DRules6: dicts and lists that change, match, star calls, a cell given up -/
namespace DL
open PySem PySem.Spec PyProof.Rows L2

/-! ### tables of data -/
def putD (kvs : List (Key × D)) (k : Key) (v : D) : List (Key × D) :=
  if (kvs.any fun kv => decide (kv.1 = k)) = true then kvs.map (fun kv => if kv.1 = k then (kv.1, v) else kv) else kvs ++ [(k, v)]
def mergeD (kvs more : List (Key × D)) : List (Key × D) := more.foldl (fun acc kv => putD acc kv.1 kv.2) kvs
section
variable {K : Fg} {ok : Addr → Prop} {H : Hp}
theorem RepK.any {k : Key} : ∀ {vs : List (Key × V)} {ds : List (Key × D)}, RepK K ok H vs ds → (vs.any fun kv => decide (kv.1 = k)) = (ds.any fun kv => decide (kv.1 = k))
  | _, _, .nil => rfl
  | _, _, .cons _ t => by rw [List.any_cons, List.any_cons, t.any]
theorem RepK.repl {k : Key} {v : V} {d : D} (r : Rep K ok H v d) : ∀ {vs : List (Key × V)} {ds : List (Key × D)}, RepK K ok H vs ds → RepK K ok H (vs.map fun kv => if kv.1 = k then (kv.1, v) else kv) (ds.map fun kv => if kv.1 = k then (kv.1, d) else kv)
  | _, _, .nil => .nil
  | _, _, .cons (k := j) h t => by
    rw [List.map_cons, List.map_cons]
    by_cases e : j = k
    · simp only [e, if_true]; exact .cons r (t.repl r)
    · simp only [e, if_false]; exact .cons h (t.repl r)
theorem RepK.snoc {k : Key} {v : V} {d : D} (r : Rep K ok H v d) : ∀ {vs : List (Key × V)} {ds : List (Key × D)}, RepK K ok H vs ds → RepK K ok H (vs ++ [(k, v)]) (ds ++ [(k, d)])
  | _, _, .nil => .cons r .nil
  | _, _, .cons h t => .cons h (t.snoc r)
theorem RepK.put {k : Key} {v : V} {d : D} {vs : List (Key × V)} {ds : List (Key × D)} (t : RepK K ok H vs ds) (r : Rep K ok H v d) : RepK K ok H (putK vs k v) (putD ds k d) := by
  unfold putK putD
  rw [t.any]
  by_cases e : (ds.any fun kv => decide (kv.1 = k)) = true
  · rw [if_pos e, if_pos e]; exact t.repl r
  · rw [if_neg e, if_neg e]; exact t.snoc r
theorem RepK.merge : ∀ {ws : List (Key × V)} {es : List (Key × D)} {vs : List (Key × V)} {ds : List (Key × D)}, RepK K ok H ws es → RepK K ok H vs ds → RepK K ok H (mergeK vs ws) (mergeD ds es)
  | _, _, _, _, .nil, t => t
  | _, _, vs, ds, .cons (k := k) (v := v) (d := d) (vs := ws) (ds := es) h r, t => show RepK K ok H (mergeK (putK vs k v) ws) (mergeD (putD ds k d) es) from RepK.merge r (t.put h)
theorem RepK.length : ∀ {vs : List (Key × V)} {ds : List (Key × D)}, RepK K ok H vs ds → vs.length = ds.length
  | _, _, .nil => rfl
  | _, _, .cons _ t => congrArg (· + 1) t.length
end
/-! ### displays of dicts -/
def mPairs : List (ME × ME) → DEnv → Store → Res (List (Key × D))
  | [], _, S => .ok [] S
  | (mk, mv) :: r, δ, S => (mk δ S).calm.bind fun u S1 => (mv δ S1).calm.bind fun w S2 => match u, w with
    | .d x, .d y => match keyD x with
      | some k => (mPairs r δ S2).bind fun ps S3 => .ok ((k, y) :: ps) S3
      | none => .stuck
    | _, _ => .stuck
def mDict (ps : List (ME × ME)) : ME := fun δ S => (mPairs ps δ S).bind fun kvs S1 => if kvs.length ≤ 15 then .ok (.d (.dct (mergeD [] kvs))) S1 else .stuck
def mDictC (ps : List (ME × ME)) : ME := fun δ S => (mPairs ps δ S).bind fun kvs S1 => if kvs.length ≤ 15 then .ok (.loc S1.length) (S1 ++ [.dct (mergeD [] kvs)]) else .stuck
def tPs (K : Fg) (W : WX) (ps : List (ME × ME)) : List (TE × TE) := ps.map fun p => (tE K W p.1, tE K W p.2)
def PMPs (X : Cx) (W : WX) (pos : Pos) (keys : List (Option Expr)) (values : List Expr) (ps : List (ME × ME)) : Prop := PPs X pos keys values (tPs X.K W ps)
section
variable {X : Cx} {W : WX} {pos : Pos} {ps : List (ME × ME)}
theorem pmps_nil : PMPs X W pos [] [] [] := pps_nil
theorem pmps_cons {k v : Expr} {ks : List (Option Expr)} {vs : List Expr} {mk mv : ME} (hk : PM X W k mk) (hv : PM X W v mv) (hr : PMPs X W pos ks vs ps) : PMPs X W pos (some k :: ks) (v :: vs) ((mk, mv) :: ps) := pps_cons hk hv hr
/-- the pairs, one after another, under any hold -/
theorem pairs_ok {K : Fg} {σ : L2.St} : ∀ {ps : List (ME × ME)} {ρ : Ad} {H : Hp} {S S' : Store} {δ : DEnv} {kvs : List (Key × D)} {Q : List (V × V) → Hp → Prop}, EnvOk K ρ H σ δ → Ok K ρ S H → mPairs ps δ S = .ok kvs S' →
    (∀ vs ρ' H', Nxt ρ H ρ' H' → Ok K ρ' S' H' → RepK K (free ρ') H' vs kvs → Q (vs.map fun kv => (kV kv.1, kv.2)) H') → tPairs (tPs K W ps) σ H Q
  | [], ρ, H, S, S', δ, kvs, Q, e, k, h, q => by
    cases h
    exact q [] ρ H Nxt.refl k .nil
  | (mk, mv) :: r, ρ, H, S, S', δ, kvs, Q, e, k, h, q => by
    unfold mPairs at h
    cases h1 : mk δ S with
    | exc x S1 => rw [h1] at h; cases h
    | stuck => rw [h1] at h; cases h
    | ok u S1 =>
      rw [h1] at h
      simp only [Res.calm_ok, Res.ok_bind] at h
      refine tE.first (m := mk) (good := fun _ _ _ => True) (f := fun _ S => .ok () S) e k (by rw [h1]; exact fun _ _ _ _ => trivial) fun v u' ρ1 H1 S1' h1' n1 e1 k1 r1 _ => ?_
      rw [h1] at h1'; cases h1'
      cases h2 : mv δ S1 with
      | exc x S2 => rw [h2] at h; cases h
      | stuck => rw [h2] at h; cases h
      | ok w S2 =>
        rw [h2] at h
        simp only [Res.calm_ok, Res.ok_bind] at h
        refine tE.first (m := mv) (good := fun _ _ _ => True) (f := fun _ S => .ok () S) e1 k1 (by rw [h2]; exact fun _ _ _ _ => trivial) fun v2 w' ρ2 H2 S2' h2' n2 e2 k2 r2 _ => ?_
        rw [h2] at h2'; cases h2'
        cases u with
        | loc n => cases h
        | d x =>
          cases w with
          | loc n => cases h
          | d y =>
            cases h3 : keyD x with
            | none => simp only [h3] at h; cases h
            | some kk =>
              simp only [h3] at h
              cases h4 : mPairs r δ S2 with
              | exc x S3 => rw [h4] at h; cases h
              | stuck => rw [h4] at h; cases h
              | ok more S3 =>
                rw [h4] at h
                simp only [Res.ok_bind] at h
                cases h
                refine pairs_ok e2 k2 h4 fun vs ρ' H' n' k' r' => ?_
                have ek : v = kV kk := RepP.key (.inl r1) h3
                subst ek
                exact q ((kk, v2) :: vs) ρ' H' (n1.trans (n2.trans n')) k' (.cons (Rep.mv (n'.mv k2) r2) r')
theorem Post.okOf {α β : Type} {K : Fg} {σ : L2.St} {ρ : Ad} {H : Hp} {r : Res α} {f : α → Store → Res β} {good : β → Ad → Hp → Prop} (hx : ∀ x S, r ≠ .exc x S) (p : Post K W σ ρ H (r.bind f) good) : ∃ a S, r = .ok a S ∧ Post K W σ ρ H (f a S) good := by
  cases r with
  | ok a S => exact ⟨a, S, rfl, p⟩
  | exc x S => exact absurd rfl (hx x S)
  | stuck => exact p.elim
theorem pairs_calm : ∀ (ps : List (ME × ME)) (δ : DEnv) (S : Store) (x : XD) (S' : Store), mPairs ps δ S ≠ .exc x S'
  | [], _, _, _, _ => fun h => by cases h
  | (mk, mv) :: r, δ, S, x, S' => fun h => by
    unfold mPairs at h
    cases h1 : mk δ S with
    | exc x S1 => rw [h1] at h; cases h
    | stuck => rw [h1] at h; cases h
    | ok u S1 =>
      rw [h1] at h
      simp only [Res.calm_ok, Res.ok_bind] at h
      cases h2 : mv δ S1 with
      | exc x S2 => rw [h2] at h; cases h
      | stuck => rw [h2] at h; cases h
      | ok w S2 =>
        rw [h2] at h
        simp only [Res.calm_ok, Res.ok_bind] at h
        cases u with
        | loc n => cases h
        | d x =>
          cases w with
          | loc n => cases h
          | d y =>
            cases h3 : keyD x with
            | none => simp only [h3] at h; cases h
            | some kk =>
              simp only [h3] at h
              cases h4 : mPairs r δ S2 with
              | exc x S3 => exact pairs_calm r δ S2 x S3 h4
              | stuck => rw [h4] at h; cases h
              | ok more S3 => rw [h4] at h; cases h
theorem hold_env {K : Fg} {ρ : Ad} {H : Hp} {S : Store} {σ : L2.St} {δ : DEnv} {a : Addr} {o : HO} (e : EnvOk K ρ H σ δ) (k : Ok K ρ S H) (ha : H a = none) : EnvOk K (ρ.hold a) (upd H a o) σ δ := e.lat (Lat.hold ha) List.prefix_rfl k
theorem held_nxt {ρ ρ2 : Ad} {H H2 : Hp} {a : Addr} {o o' : HO} (ha : H a = none) (n : Nxt (ρ.hold a) (upd H a o) (ρ2.hold a) H2) (hr : ρ2.rs = ρ.rs) : Nxt ρ H ρ2 (upd H2 a o') :=
  ⟨n.pre, hr, fun b q e f => by
    have ne := ne_of_none e ha
    rw [upd_ne ne]
    exact n.keep b q (by rw [upd_ne ne]; exact e) f, fun b z => by
    rcases n.new b z with y | y
    · exact .inl y
    · by_cases hb : b = a
      · subst hb; exact .inr ha
      · exact .inr (by rw [upd_ne hb] at y; exact y)⟩
theorem pm_dict {keys : List (Option Expr)} {values : List Expr} (h : PMPs X W pos keys values ps) (hall : keys.all (·.isSome) = true := by rfl) (hl : keys.length = values.length := by rfl) (h0 : keys ≠ [] := by intro z; cases z) (h15 : keys.length ≤ 15 := by decide) : PM X W (.Dict keys values pos) (mDict ps) :=
  pimpE (pe_disp h hall hl h0 h15) fun σ H Q ⟨ρ, δ, S, e, k, p⟩ => by
    intro a ha
    obtain ⟨kvs, S1, hm, p1⟩ := Post.okOf (pairs_calm ps δ S) p
    by_cases hz : kvs.length ≤ 15
    case neg => rw [if_neg hz] at p1; exact p1.elim
    rw [if_pos hz] at p1
    refine pairs_ok (hold_env e k ha) (k.hold ha) hm fun vs ρ' H' n k' r => ?_
    obtain ⟨ρ2, rfl, n2⟩ := n.unhold
    have na : some a ∉ ρ.cs := (k.notNew ha).1
    have h2 : H' a = some (.dK []) := n.keep a _ upd_same na
    refine ⟨h2, vs, rfl, by rw [r.length]; exact hz, ?_⟩
    have fa : free ρ2 a := ⟨(k'.rsv a (List.mem_cons_self ..)).1, by rw [n2.rs]; exact (k.notNew ha).2⟩
    exact p1 ρ2 _ (held_nxt ha n n2.rs) (k'.rewrite).unhold _ (Rep.dct (.inl upd_same) fa (((RepK.merge r .nil).mv (Mv.rewrite (.inr ⟨_, h2⟩))).mv Mv.unhold))
theorem pm_dictC {keys : List (Option Expr)} {values : List Expr} (h : PMPs X W pos keys values ps) (hall : keys.all (·.isSome) = true := by rfl) (hl : keys.length = values.length := by rfl) (h0 : keys ≠ [] := by intro z; cases z) (h15 : keys.length ≤ 15 := by decide) : PM X W (.Dict keys values pos) (mDictC ps) :=
  pimpE (pe_disp h hall hl h0 h15) fun σ H Q ⟨ρ, δ, S, e, k, p⟩ => by
    intro a ha
    obtain ⟨kvs, S1, hm, p1⟩ := Post.okOf (pairs_calm ps δ S) p
    by_cases hz : kvs.length ≤ 15
    case neg => rw [if_neg hz] at p1; exact p1.elim
    rw [if_pos hz] at p1
    refine pairs_ok (hold_env e k ha) (k.hold ha) hm fun vs ρ' H' n k' r => ?_
    obtain ⟨ρ2, rfl, n2⟩ := n.unhold
    have na : some a ∉ ρ.cs := (k.notNew ha).1
    have h2 : H' a = some (.dK []) := n.keep a _ upd_same na
    refine ⟨h2, vs, rfl, by rw [r.length]; exact hz, ?_⟩
    have fa : some a ∉ ρ2.cs := (k'.rsv a (List.mem_cons_self ..)).1
    have n3 := held_nxt (o' := .dK (mergeK [] vs)) ha n n2.rs
    have k3 : Ok X.K (ρ2.hold a) S1 (upd H' a (.dK (mergeK [] vs))) := k'.rewrite
    -- the held address becomes a cell
    have mv : Mv X.K (free (ρ2.hold a)) (free (ρ2.add a)) (upd H' a (.dK (mergeK [] vs))) (upd H' a (.dK (mergeK [] vs))) := ⟨fun _ _ h => h, fun b _ h f => ⟨h, by
      obtain ⟨f1, f2⟩ := free_hold f
      refine ⟨fun z => ?_, f1.2⟩
      rcases List.mem_append.mp z with z | z
      · exact f1.1 z
      · exact f2 (by simpa using z)⟩⟩
    have ix : ∀ {i : Nat} {x : Option Addr}, (ρ2.add a).cs[i]? = some x → (i < ρ2.cs.length ∧ ρ2.cs[i]? = some x) ∨ (i = ρ2.cs.length ∧ x = some a) := fun {i x} e => by
      have e' : (ρ2.cs ++ [some a])[i]? = some x := e
      by_cases hi : i < ρ2.cs.length
      · rw [List.getElem?_append_left hi] at e'; exact .inl ⟨hi, e'⟩
      · rw [List.getElem?_append_right (by omega)] at e'
        have : i - ρ2.cs.length = 0 := by
          by_cases q : i - ρ2.cs.length = 0
          · exact q
          · rw [List.getElem?_eq_none (by simp; omega)] at e'; cases e'
        rw [this] at e'
        exact .inr ⟨by omega, by simpa using e'.symm⟩
    have len3 : ρ2.cs.length = S1.length := k3.len
    have k4 : Ok X.K (ρ2.add a) (S1 ++ [.dct (mergeD [] kvs)]) (upd H' a (.dK (mergeK [] vs))) := by
      refine ⟨by simp [Ad.add, len3], fun i j b e1 e2 => ?_, fun i b e => ?_, fun i e => ?_, fun b z => ?_⟩
      · rcases ix e1 with ⟨_, q1⟩ | ⟨i1, q1⟩ <;> rcases ix e2 with ⟨_, q2⟩ | ⟨i2, q2⟩
        · exact k3.nd i j b q1 q2
        · cases q2; exact absurd (List.mem_of_getElem? q1) fa
        · cases q1; exact absurd (List.mem_of_getElem? q2) fa
        · omega
      · rcases ix e with ⟨hi, q⟩ | ⟨hi, q⟩
        · obtain ⟨c, c1, c2⟩ := k3.live i b q
          exact ⟨c, by rw [List.getElem?_append_left (by omega)]; exact c1, c2.mv mv rfl⟩
        · cases q
          exact ⟨.dct (mergeD [] kvs), by rw [hi, len3, List.getElem?_append_right (Nat.le_refl _)]; simp, ⟨_, upd_same, ((RepK.merge r .nil).mv (Mv.rewrite (.inr ⟨_, h2⟩))).mv mv⟩⟩
      · rcases ix e with ⟨hi, q⟩ | ⟨_, q⟩
        · rw [List.getElem?_append_left (by omega)]; exact k3.dead i q
        · cases q
      · obtain ⟨f1, mk⟩ := k3.rsv b (List.mem_cons_of_mem _ z)
        refine ⟨fun y => ?_, mk⟩
        rcases List.mem_append.mp y with y | y
        · exact f1 y
        · have : b = a := by simpa using y
          subst this
          exact (k.notNew ha).2 (by rw [← n2.rs]; exact z)
    have n4 : Nxt ρ H (ρ2.add a) (upd H' a (.dK (mergeK [] vs))) := ⟨n3.pre.trans (List.prefix_append _ _), n3.rs, n3.keep, fun b z => by
      rcases List.mem_append.mp z with z | z
      · exact n3.new b z
      · have : b = a := by simpa using z
        subst this; exact .inr ha⟩
    refine p1 _ _ n4 k4 _ ⟨a, rfl, ?_⟩
    show (ρ2.cs ++ [some a])[S1.length]? = _
    rw [← len3, List.getElem?_append_right (Nat.le_refl _)]; simp
/-- {} that will change -/
def mDict0C : ME := fun _ S => .ok (.loc S.length) (S ++ [.dct []])
theorem pm_dict0C : PM X W (.Dict [] [] pos) mDict0C :=
  pimpE pe_dnewK fun σ H Q ⟨ρ, δ, S, e, k, p⟩ => by
    intro a ha
    refine p _ _ (Nxt.cell ha) (k.cell ha ⟨[], upd_same, .nil⟩) _ ⟨a, rfl, ?_⟩
    show (ρ.cs ++ [some a])[S.length]? = _
    rw [← k.len, List.getElem?_append_right (Nat.le_refl _)]; simp
end
/-! ### d[k] = v -/
def mPut (mo mi mv : ME) : MS := fun _ δ S => (mv δ S).inS δ fun v S1 => (mo δ S1).inS δ fun o S2 => (mi δ S2).inS δ fun i S3 => match o, v, peek S3 i with
  | .loc n, .d y, some kx => match S3[n]?, keyD kx with
    | some (.dct es), some k => if es.length < sizeLine then .next δ (S3.set n (.dct (putD es k y))) else .stuck
    | _, _ => .stuck
  | _, _, _ => .stuck
section
variable {X : Cx} {W : WX} {pos pos' apos : Pos} {o i v e : Expr} {mo mi mv : ME}
theorem pms_put (hu : X.A.units + 1 < cLine) (ho : PM X W o mo) (hi : PM X W i mi) (hv : PM X W v mv) (hs : swapsWith v (some (.Subscript o i pos')) pos.line X.env = pure false := by rfl) : PMS X W (.Assign [.Subscript o i pos'] v pos) (mPut mo mi mv) :=
  pimpS (ps_dput hu ho hi hv hs) fun D σ H ⟨ρ0, H0, ρ, δ, S, n0, e, k, p⟩ => tE.inS n0 e k p fun x1 u1 ρ1 H1 S1 _ n1 e1 k1 r1 p1 => tE.inS n1 e1 k1 p1 fun x2 u2 ρ2 H2 S2 m2 n2 e2 k2 r2 p2 => tE.inS n2 e2 k2 p2 fun x3 u3 ρ3 H3 S3 m3 n3 e3 k3 r3 p3 => by
    cases u2 with
    | d x => exact p3.elim
    | loc n =>
      cases u1 with
      | loc _ => exact p3.elim
      | d y =>
        cases hk : peek S3 u3 with
        | none => simp only [hk] at p3; exact p3.elim
        | some kx =>
          simp only [hk] at p3
          obtain ⟨a, rfl, ha⟩ := RepU.nxt m3 k2 r2
          have r1 := (r1.nxt m2 k1).nxt m3 k2
          obtain ⟨c, hc, q⟩ := k3.live n a ha
          cases c with
          | dct es =>
            cases hkk : keyD kx with
            | none => simp only [hc, hkk] at p3; exact p3.elim
            | some kk =>
              simp only [hc, hkk] at p3
              by_cases hz : es.length < sizeLine
              · rw [if_pos hz] at p3
                obtain ⟨ks, hks, rk⟩ := q
                have mem : some a ∈ ρ3.cs := List.mem_of_getElem? ha
                have np : Nxt ρ3 H3 ρ3 (upd H3 a (.dK (putK ks kk x1))) := Nxt.put mem
                refine ⟨a, _, rfl, .inl ⟨ks, kk, hks, (r3.peek k3 hk).key hkk, by rw [rk.length]; exact hz, rfl⟩, ?_⟩
                exact p3 σ ρ3 _ (n3.trans np) (k3.put ha ⟨_, upd_same, (rk.put r1).mv (np.mv k3)⟩) (e3.nxt np k3)
              · rw [if_neg hz] at p3; exact p3.elim
          | lst ds => simp only [hc] at p3; exact p3.elim
          | dead => exact q.elim
/-! ### xs.append(e), xs.extend(ys), d.update(e) -/
/-- o.m(..) that changes the list or dict in a cell: ty tells which of both, act what comes of it -/
def isL : Cell → Bool
  | .lst _ => true
  | _ => false
def isDc : Cell → Bool
  | .dct _ => true
  | _ => false
abbrev Act := Store → Cell → List U → Option (D × Cell)
def mMeth (ty : Cell → Bool) (act : Act) (mo : ME) (ma : MA) : ME := fun δ S => (mo δ S).bind fun o S1 => match o with
  | .d _ => .stuck
  | .loc n => match S1[n]? with
    | none => .stuck
    | some c => if ty c then (ma δ S1).bind fun us S2 => match S2[n]? with
        | none => .stuck
        | some c2 => match act S2 c2 us with
          | none => .stuck
          | some (r, c3) => .ok (.d r) (S2.set n c3)
      else .stuck
def rMeth (K : Fg) (act : Act) : V → List V → Hp → VK → Prop := fun x xs H Q => ∃ ρ S n a c us r c', x = .ref a ∧ Ok K ρ S H ∧ ρ.cs[n]? = some (some a) ∧ S[n]? = some c ∧ RepUs K ρ H xs us ∧ act S c us = some (r, c') ∧
  ∀ v H', Nxt ρ H ρ H' → Ok K ρ (S.set n c') H' → Rep K (free ρ) H' v r → Q v H'
theorem loc_lst {K : Fg} {ρ : Ad} {H : Hp} {S : Store} {n : Nat} {a : Addr} {ds : List D} (k : Ok K ρ S H) (ha : ρ.cs[n]? = some (some a)) (hS : S[n]? = some (.lst ds)) : ∃ xs, H a = some (.lst xs) ∧ RepL K (free ρ) H xs ds := by
  obtain ⟨c, hc, q⟩ := k.live n a ha
  rw [hS] at hc; cases hc
  exact q
theorem loc_dct {K : Fg} {ρ : Ad} {H : Hp} {S : Store} {n : Nat} {a : Addr} {ds : List (Key × D)} (k : Ok K ρ S H) (ha : ρ.cs[n]? = some (some a)) (hS : S[n]? = some (.dct ds)) : ∃ xs, H a = some (.dK xs) ∧ RepK K (free ρ) H xs ds := by
  obtain ⟨c, hc, q⟩ := k.live n a ha
  rw [hS] at hc; cases hc
  exact q
variable {es : List Expr} {ma : MA}
theorem mMeth_ok {ty : Cell → Bool} {act : Act} {T : String} (hT : (T = "list" ∧ ty = isL) ∨ (T = "dict" ∧ ty = isDc)) {σ : L2.St} {H : Hp} {Q : VK} (h : tE X.K W (mMeth ty act mo ma) σ H Q) : tBM X.K T (rMeth X.K act) (tE X.K W mo) (tA X.K W ma) σ H Q := by
  obtain ⟨ρ, δ, S, en, k, p⟩ := h
  refine tE.first en k p fun x u ρ1 H1 S1 _ n1 e1 k1 r1 p1 => ?_
  cases u with
  | d z => exact p1.elim
  | loc n =>
    obtain ⟨a, rfl, ha⟩ := r1
    cases hc : S1[n]? with
    | none => simp only [hc] at p1; exact p1.elim
    | some c =>
      simp only [hc] at p1
      by_cases ht : ty c = true
      case neg => rw [if_neg ht] at p1; exact p1.elim
      rw [if_pos ht] at p1
      refine ⟨?_, tA.first e1 k1 p1 fun vs us ρ2 H2 S2 _ n2 e2 k2 r2 p2 => ?_⟩
      · rcases hT with ⟨rfl, rfl⟩ | ⟨rfl, rfl⟩
        · cases c with
          | lst ds => obtain ⟨xs, hx, _⟩ := loc_lst k1 ha hc; exact .inl ⟨rfl, xs, SqL.of hx⟩
          | _ => cases ht
        · cases c with
          | dct ds => obtain ⟨xs, hx, _⟩ := loc_dct k1 ha hc; exact .inr (.inr (.inl ⟨rfl, .inl ⟨xs, hx⟩⟩))
          | _ => cases ht
      · cases hc2 : S2[n]? with
        | none => simp only [hc2] at p2; exact p2.elim
        | some c2 =>
          simp only [hc2] at p2
          cases hA : act S2 c2 us with
          | none => simp only [hA] at p2; exact p2.elim
          | some rc =>
            obtain ⟨r, c3⟩ := rc
            simp only [hA] at p2
            obtain ⟨a', ea, ha2⟩ := RepU.nxt (u := .loc n) n2 k1 ⟨a, rfl, ha⟩
            cases ea
            exact ⟨ρ2, S2, n, a, c2, us, r, c3, rfl, k2, ha2, hc2, r2, hA, fun v H' n' k' r' => p2 ρ2 H' n' k' v r'⟩
theorem pm_meth {m : Str} {id T : String} {ty : Cell → Bool} {act : Act} {cpos : Pos} (pa : PlainAttrs T) (slot : Slot T m id) (hty : typeOf (.builtin id) = pure (.type "method_descriptor")) (hT : (T = "list" ∧ ty = isL) ∨ (T = "dict" ∧ ty = isDc)) (hm : MtR X id (rMeth X.K act)) (ho : PM X W o mo) (ha : PMA X W (e :: es) ma)
    (hbase : attributeBase o m X.env (eval o X.env) = eval o X.env := by rfl)
    (hfew : ((backTo cpos (starEach (e :: es) X.env)).all (fun x => !x.1) && (backToKw cpos (keywordEach [] X.env)).all (fun x => x.1.isSome)
      && decide ((e :: es).length + ([] : List Keyword).length + (if ([] : List Keyword).isEmpty then 0 else 1) < 30)) = true := by rfl)
    (hline : (apos.endLine == cpos.line) = true := by rfl) (hs : starEach (e :: es) X.env = (false, eval e X.env) :: starEach es X.env := by rfl) (hplain : (backTo cpos (starEach es X.env)).any (·.1) = false := by rfl) :
    PM X W (.Call (.Attribute o m apos) (e :: es) [] cpos) (mMeth ty act mo ma) :=
  pimpE (pe_bm pa slot hty hm ho ha hbase hfew hline hs hplain) fun _ _ _ h => mMeth_ok hT h
def aAppend : Act := fun _ c us => match c, us with
  | .lst ds, [.d y] => if ds.length < sizeLine then some (.non, .lst (ds ++ [y])) else none
  | _, _ => none
theorem md_append : MtR X "list.append" (rMeth X.K aAppend) := by
  intro pins s σ H x xs v us Q I rx rxs h
  obtain ⟨ρ, S, n, a, c, ws, r, c', rfl, k, ha, hc, rw, hA, q⟩ := h
  unfold aAppend at hA
  split at hA
  · split at hA
    · rename_i ds y hz
      cases hA
      obtain ⟨ys, hy, rl⟩ := loc_lst k ha hc
      cases rw with
      | @cons v1 _ _ _ r1 t =>
        cases t
        have np : Nxt ρ H ρ (upd H a (.lst (ys ++ [v1]))) := Nxt.put (List.mem_of_getElem? ha)
        exact mt_append pins s σ H _ _ v us Q I rx rxs ⟨a, ys, v1, rfl, rfl, hy, by rw [rl.length]; exact hz, q _ _ np (k.put ha ⟨_, upd_same, (rl.append (.cons r1 .nil)).mv (np.mv k)⟩) .non⟩
    · cases hA
  · cases hA
def aExtend : Act := fun S c us => match c, us with
  | .lst ds, [u] => match peek S u with
    | some (.lst es) => if ds.length + es.length ≤ sizeLine then some (.non, .lst (ds ++ es)) else none
    | _ => none
  | _, _ => none
theorem mt_extendR : MtM X "list.extend" (fun x vs H Q => ∃ l b xs zs, x = .ref l ∧ vs = [.ref b] ∧ H l = some (.lst xs) ∧ Rd H b (.lst zs) ∧ xs.length + zs.length ≤ sizeLine ∧ Q .non (upd H l (.lst (xs ++ zs)))) := by
  intro pins s σ H x vs v us Q I rx rv h
  obtain ⟨l, b, xs, zs, rfl, rfl, hH, hB, hz, q⟩ := h
  cases rx
  obtain ⟨u, rfl, ru⟩ := rv.one
  cases ru
  obtain ⟨_, i1, n1, r1, l1, e1⟩ := I.lstM hH
  obtain ⟨_, i2, n2, r2, l2, e2⟩ := lstR I hB
  have z1 : i1.toArray.size + i2.toArray.size ≤ sizeLine := by simp only [List.size_toArray]; omega
  have z2 : ¬ (!i1.toArray.isEmpty && Builtin.List.listTooLong (i1.toArray.size + i2.toArray.size)) = true := by rw [notLongL z1, Bool.and_false]; exact Bool.false_ne_true
  refine call_meets F.slot_list_extend ⟨_, e1, rfl⟩ F.entry_list_extend (F.args_list_extend_2 _ _) (AutoSeq1.list_extend_list_list_0 l i1.toArray n1 b i2.toArray n2 z2 (by rw [List.size_toArray]; omega) (by omega)) ⟨e1, e2, ?_⟩
  exact ⟨.non, _, I.lset (its' := i1 ++ i2) hH e1 (by simp) (r1.append r2) (by rw [List.length_append]; omega), rfl, q⟩
theorem md_extend : MtR X "list.extend" (rMeth X.K aExtend) := by
  intro pins s σ H x xs v us Q I rx rxs h
  obtain ⟨ρ, S, n, a, c, ws, r, c', rfl, k, ha, hc, rw, hA, q⟩ := h
  unfold aExtend at hA
  split at hA
  · rename_i ds u
    split at hA
    · rename_i es hp
      split at hA
      · rename_i hz
        cases hA
        obtain ⟨ys, hy, rl⟩ := loc_lst k ha hc
        cases rw with
        | cons r1 t =>
          cases t
          obtain ⟨b, zs, rfl, hb, rz⟩ := (r1.peek k hp).lst
          have np : Nxt ρ H ρ (upd H a (.lst (ys ++ zs))) := Nxt.put (List.mem_of_getElem? ha)
          exact mt_extendR pins s σ H _ _ v us Q I rx rxs ⟨a, b, ys, zs, rfl, rfl, hy, hb, by rw [rl.length, rz.length]; exact hz, q _ _ np (k.put ha ⟨_, upd_same, (rl.append rz).mv (np.mv k)⟩) .non⟩
      · cases hA
    · cases hA
  · cases hA
def aUpdate : Act := fun S c us => match c, us with
  | .dct ds, [.d (.dct es)] => if ds.length + es.length ≤ sizeLine then some (.non, .dct (mergeD ds es)) else none
  | _, _ => none
theorem md_update : MtR X "dict.update" (rMeth X.K aUpdate) := by
  intro pins s σ H x xs v us Q I rx rxs h
  obtain ⟨ρ, S, n, a, c, ws, r, c', rfl, k, ha, hc, rw, hA, q⟩ := h
  unfold aUpdate at hA
  split at hA
  · rename_i ds es
    split at hA
    · rename_i hz
      cases hA
      obtain ⟨ys, hy, rl⟩ := loc_dct k ha hc
      cases rw with
      | cons r1 t =>
        cases t
        cases r1 with
        | @dct b zs _ hb fb rz =>
          have ne : a ≠ b := fun e => fb.1 (by rw [← e]; exact List.mem_of_getElem? ha)
          cases rx
          obtain ⟨u, rfl, ru⟩ := vals1 rxs
          cases ru
          obtain ⟨z1, s1, vs1, kv1, d1⟩ := dk_of I.hok hy
          obtain ⟨z2, s2, vs2, kv2, d2⟩ := dk_rd I.hok hb
          have np : Nxt ρ H ρ (upd H a (.dK (mergeK ys zs))) := Nxt.put (List.mem_of_getElem? ha)
          have l1 : ys.length = vs1.length := Paired.length kv1
          have l2 : zs.length = vs2.length := Paired.length kv2
          have hl : vs1.length + vs2.length ≤ sizeLine := by rw [← l1, ← l2, rl.length, rz.length]; exact hz
          refine call_meetsIn F.slot_dict_update d1.typeIs F.entry_dict_update (F.args_dict_update_2 _ _) (meets_dict_update (mixKind X.prog X.w) a b ne s2) ⟨vs1, vs2, d1, d2, hl, fun h' dd _ hs => ?_⟩
          refine ⟨.non, upd H a (.dK (mergeK ys zs)), ?_, rfl, q _ _ np (k.put ha ⟨_, upd_same, (RepK.merge rz rl).mv (np.mv k)⟩) .non⟩
          exact d_write (t' := s.toks) I (by rw [hy]; exact True.intro) hs (let ⟨q, _, _, hq, _⟩ := dd; ⟨q, hq⟩) (dk_new (Nat.le_trans (length_mergeK zs ys) (by rw [rl.length, rz.length]; exact hz)) s1 (KV.merge kv2 kv1) dd)
    · cases hA
  · cases hA
end
end DL

set_option Elab.async false
set_option linter.all false
set_option maxRecDepth 100000
set_option maxHeartbeats 4000000
/-! DRules7: pairs of names, cells given up, starred arguments, match, keys of a dict, starred targets, x[::-1] -/
namespace DL
open PySem PySem.Spec PyProof.Rows L2

section
variable {K : Fg} {W : WX} {σ : L2.St} {ρ : Ad} {H : Hp} {S : Store} {δ : DEnv}
theorem tA.inS {m : MA} {Q : List V → Hp → Prop} {ρ0 : Ad} {H0 : Hp} {f : List U → Store → SR} {Dn : Ends} (n0 : Nxt ρ0 H0 ρ H) (e : EnvOk K ρ H σ δ) (k : Ok K ρ S H)
    (h : PostS K W ρ0 H0 ((m δ S).inS δ f) Dn)
    (hq : ∀ vs us ρ1 H1 S1, Nxt ρ H ρ1 H1 → Nxt ρ0 H0 ρ1 H1 → EnvOk K ρ1 H1 σ δ → Ok K ρ1 S1 H1 → RepUs K ρ1 H1 vs us → PostS K W ρ0 H0 (f us S1) Dn → Q vs H1) : tA K W m σ H Q := by
  refine ⟨ρ, δ, S, e, k, ?_⟩
  cases q : m δ S with
  | ok u S1 =>
    rw [q] at h
    exact fun ρ1 H1 n k1 v r => hq v u ρ1 H1 S1 n (n0.trans n) (e.nxt n k) k1 r h
  | exc x S1 =>
    rw [q] at h
    exact fun cls dx ρ1 H1 n k1 r => h cls dx σ ρ1 H1 (n0.trans n) k1 (e.nxt n k) r
  | stuck => rw [q] at h; exact h
end
/-! ### a, b = x, y -/
def mPar (is : List Nat) (ma : MA) : MS := fun _ δ S => (ma δ S).inS δ fun us S1 => if us.length = is.length then .next ((is.zip us).foldl (fun δ p => δ.set p.1 (some p.2)) δ) S1 else .stuck
section
variable {X : Cx} {W : WX} {pos : Pos} {ma : MA}
theorem pms_par {i j : Nat} {x y : Str} {a b : Expr} {px py pt : Pos} {kt k2 pt2} (hc : X.calm = true) (hN : X.N.Nodup) (hi : X.N[i]? = some x) (hj : X.N[j]? = some y) (hij : i ≠ j)
    (hx : X.env.scope.names.lookup x = some .local) (hy : X.env.scope.names.lookup y = some .local) (ha : PMA X W [a, b] ma)
    (hw : swappedStores [.Tuple [.Name x px, .Name y py] kt pt] (.Tuple [a, b] k2 pt2) X.env = pure (some [x, y]) := by rfl)
    (hs : swapsWithSole [.Tuple [.Name x px, .Name y py] kt pt] (.Tuple [a, b] k2 pt2) pos.line X.env = pure false := by rfl) :
    PMS X W (.Assign [.Tuple [.Name x px, .Name y py] kt pt] (.Tuple [a, b] k2 pt2) pos) (mPar [i, j] ma) :=
  pimpS (ps_par hc hN hi hj hij hx hy ha hw hs) fun D σ H ⟨ρ0, H0, ρ, δ, S, n0, e, k, p⟩ => tA.inS n0 e k p fun vs us ρ1 H1 S1 _ n1 e1 k1 r1 p1 => by
    by_cases hl : us.length = [i, j].length
    case neg => rw [if_neg hl] at p1; exact p1.elim
    rw [if_pos hl] at p1
    cases r1 with
    | nil => cases hl
    | cons r t =>
      cases t with
      | nil => cases hl
      | cons r' t =>
        cases t with
        | nil => exact ⟨_, _, rfl, p1 _ ρ1 H1 n1 k1 ((e1.set r).set r')⟩
        | cons _ _ => simp at hl
theorem pms_par3 {i j l : Nat} {x y z : Str} {a b c : Expr} {px py pz pt : Pos} {kt k2 pt2} (hc : X.calm = true) (hN : X.N.Nodup) (hi : X.N[i]? = some x) (hj : X.N[j]? = some y) (hl : X.N[l]? = some z) (hij : i ≠ j) (hil : i ≠ l) (hjl : j ≠ l)
    (hx : X.env.scope.names.lookup x = some .local) (hy : X.env.scope.names.lookup y = some .local) (hz : X.env.scope.names.lookup z = some .local) (ha : PMA X W [a, b, c] ma)
    (hw : swappedStores [.Tuple [.Name x px, .Name y py, .Name z pz] kt pt] (.Tuple [a, b, c] k2 pt2) X.env = pure (some [x, y, z]) := by rfl)
    (hs : swapsWithSole [.Tuple [.Name x px, .Name y py, .Name z pz] kt pt] (.Tuple [a, b, c] k2 pt2) pos.line X.env = pure false := by rfl) :
    PMS X W (.Assign [.Tuple [.Name x px, .Name y py, .Name z pz] kt pt] (.Tuple [a, b, c] k2 pt2) pos) (mPar [i, j, l] ma) :=
  pimpS (ps_par3 hc hN hi hj hl hij hil hjl hx hy hz ha hw hs) fun D σ H ⟨ρ0, H0, ρ, δ, S, n0, e, k, p⟩ => tA.inS n0 e k p fun vs us ρ1 H1 S1 _ n1 e1 k1 r1 p1 => by
    by_cases hl : us.length = [i, j, l].length
    case neg => rw [if_neg hl] at p1; exact p1.elim
    rw [if_pos hl] at p1
    cases r1 with
    | nil => cases hl
    | cons r t =>
      cases t with
      | nil => cases hl
      | cons r' t =>
        cases t with
        | nil => cases hl
        | cons r'' t =>
          cases t with
          | nil => exact ⟨_, _, _, rfl, p1 _ ρ1 H1 n1 k1 (((e1.set r).set r').set r'')⟩
          | cons _ _ => simp at hl
/-! ### the block's own cells are given up -/
def mFz (m : MS) : MS := fun b δ S => m b (trimE b S δ) (S.take b)
theorem tS.fz {K : Fg} {m : MS} {D : Ends} {σ : L2.St} {H : Hp} (h : tS K W (mFz m) D σ H) : tS K W m D σ H := by
  obtain ⟨ρ0, H0, ρ, δ, S, n0, e, k, p⟩ := h
  have hb : ρ0.cs.length ≤ ρ0.cs.length := Nat.le_refl _
  exact ⟨ρ0, H0, ρ.cut ρ0.cs.length, _, _, n0.cut hb, e.trim k _, k.cut _, p⟩
theorem pms_fz {st : Stmt} {m : MS} (h : PMS X W st m) : PMS X W st (mFz m) := pimpS h fun _ _ _ z => z.fz
/-! ### starred arguments -/
def mStar (m : ME) (n : MA) : MA := fun δ S => (m δ S).bind fun u S1 => match (peek S1 u).bind seqD with
  | none => .stuck
  | some ds => (n δ S1).bind fun us S2 => .ok (ds.map U.d ++ us) S2
theorem RepUs.ofL {K : Fg} {ρ : Ad} {H : Hp} : ∀ {vs : List V} {ds : List D}, RepL K (free ρ) H vs ds → RepUs K ρ H vs (ds.map U.d)
  | _, _, .nil => .nil
  | _, _, .cons h t => .cons (u := .d _) h (RepUs.ofL t)
theorem RepUs.append {K : Fg} {ρ : Ad} {H : Hp} {ws : List V} {ts : List U} (q : RepUs K ρ H ws ts) : ∀ {vs : List V} {us : List U}, RepUs K ρ H vs us → RepUs K ρ H (vs ++ ws) (us ++ ts)
  | _, _, .nil => q
  | _, _, .cons h t => .cons h (RepUs.append q t)
theorem RepP.sq {K : Fg} {ρ : Ad} {H : Hp} {v : V} {d : D} {ds : List D} (r : RepP K ρ H v d) (h : seqD d = some ds) : ∃ p xs, v = .ref p ∧ (SqT K H p xs ∨ SqL K H p xs) ∧ RepL K (free ρ) H xs ds := by
  cases d with
  | tup es => cases h; obtain ⟨a, xs, rfl, h1, h2⟩ := r.tup; exact ⟨a, xs, rfl, .inl h1, h2⟩
  | lst es => cases h; obtain ⟨a, xs, rfl, h1, h2⟩ := r.lst; exact ⟨a, xs, rfl, .inr (.inl h1), h2⟩
  | fl es => cases h; obtain ⟨a, xs, rfl, h1, h2⟩ := r.fl; exact ⟨a, xs, rfl, .inr h1, h2⟩
  | _ => cases h
theorem pma_star {e : Expr} {es : List Expr} {p : Pos} {me : ME} (he : PM X W e me) (hr : PMA X W es ma) (hs : starEach (.Starred e p :: es) X.env = (true, eval e X.env) :: starEach es X.env := by rfl) : PMA X W (.Starred e p :: es) (mStar me ma) :=
  pimpA (StX.pa_star he hr hs) fun σ H Q ⟨ρ, δ, S, en, k, p⟩ => tE.first en k p fun v u ρ1 H1 S1 _ n1 e1 k1 r1 p1 => by
    cases hp : (peek S1 u).bind seqD with
    | none => simp only [hp] at p1; exact p1.elim
    | some ds =>
      simp only [hp] at p1
      obtain ⟨d, h1, h2⟩ := Option.bind_eq_some_iff.mp hp
      obtain ⟨q, xs, rfl, hx, rl⟩ := (r1.peek k1 h1).sq h2
      refine ⟨q, xs, rfl, hx, tA.first e1 k1 p1 fun vs us ρ2 H2 S2 _ n2 e2 k2 r2 p2 => ?_⟩
      exact p2.here k2 _ (RepUs.append r2 ((RepUs.ofL rl).nxt n2 k1))
theorem pm_callS {k : Nat} {f : Addr} {fd : FuncData} {ps : List Str} {m : Fn} {x : Str} {e : Expr} {es : List Expr} {p : Pos} (F : FnG X.prog X.w X.K X.mg X.base k f fd ps m) (hr : Room k X.A) (hgd : X.A.guards = some []) (tk : Takes X W) (hg : Gl X x) (hm : X.mg x = some (.ref f)) (hk : PySem.W.keepIn X.K (.ref f) = true) (hb : Binds X.K fd ps []) (ha : PMA X W (e :: es) ma)
    (hdb : (x == ("__debug__" : Str)) = false := by decide) (he : starEach (e :: es) X.env = (false, eval e X.env) :: starEach es X.env := by rfl) (hst : (backTo pos (starEach es X.env)).any (·.1) = true := by rfl) : PM X W (.Call (.Name x p) (e :: es) [] pos) (mFn m ma) := by
  refine ⟨fun pins s σ H Q I ⟨ρ, δ, S, en, k0, p0⟩ => wpAny_Call_Name_kw (ld_glob I hg hm ?_ hdb)⟩
  have T : tA X.K W ma σ H fun vs H1 => spM X.K m vs H1 Q (WE W σ) := tA.first en k0 p0 fun vs us ρ1 H1 S1 _ n1 e1 k1 r1 p1 => spM_of k1 r1 p1
  refine PySem.W.callWith_S2 (h₀ := X.base) I.ok.mod.kin hk (thn (ha.run pos pins s σ H _ I T) fun us s1 ⟨vs, H1, I1, r, q⟩ => ⟨I1.kIn, ?_⟩) he hst
  exact run_G F hr hgd hb tk I1 r q
/-! ### match with texts -/
def PMC (X : Cx) (W : WX) (cs : List MatchCase) (m : Str → MS) : Prop := ∀ (first : Bool) (x : Str) (t : Tok) (pins : List (Addr × Obj)) (s : Shared) (σ : L2.St) (H : Hp) (D : Ends), L2.Inv X pins σ H s → tS X.K W (m x) D σ H →
  wpAny (model X.prog X.w) X.A (matchCases cs X.env (.str x t) first) (SP X pins D) X.xe s
theorem pmc_last {body : List Stmt} {p : Pos} {m : MS} (h : PMSs X W body m) : PMC X W [⟨.MatchAs none none p, none, body⟩] (fun _ => m) := fun first x t pins s σ H D I q =>
  wpAny_matchCases_cons (wpAny_matchPattern_Capture (wpAny_assignInOrder_none (h.run pins s σ H D I q)))
theorem pmc_cons {body : List Stmt} {p p2 : Pos} {j : Nat} {y : Str} {m : MS} {cs : List MatchCase} {mr : Str → MS} (h : PMSs X W body m) (hr : PMC X W cs mr) : PMC X W (⟨.MatchValue (.Constant (.str y) j p) p2, none, body⟩ :: cs) (fun x => if x = y then m else mr x) := fun first x t pins s σ H D I q => by
  refine wpAny_matchCases_cons (wpAny_matchPattern_Value (thn ((pe_str (X := X)).run pins s σ H (fun v H1 => v = .str y ∧ H1 = H) I ⟨rfl, rfl⟩) fun u s1 ⟨v, H1, I1, r1, ev, eH⟩ => ?_))
  subst ev eH
  have od := op_eq (X := X) pins s1 σ H1 (.str x) (.str y) (.str x t) u (fun v H2 => v = .bl (decide (V.str x = V.str y)) ∧ H2 = H1) I1 ⟨t, rfl⟩ r1 ⟨rfl, rfl, rfl⟩
  refine thn od fun c s2 ⟨v, H2, I2, r2, ev, eH⟩ => ?_
  subst ev eH
  cases r2
  refine wpAny_truthy_bool ?_
  dsimp only at q
  by_cases e : x = y
  · rw [if_pos (by simpa using e)]
    rw [if_pos e] at q
    exact wpAny_assignInOrder_none (h.run pins s2 σ H2 D I2 q)
  · rw [if_neg (by simpa using e)]
    rw [if_neg e] at q
    exact hr false x t pins s2 σ H2 D I2 q
def mMatch (me : ME) (m : Str → MS) : MS := fun b δ S => (me δ S).inS δ fun u S1 => match u with
  | .d (.str x) => m x b δ S1
  | _ => .stuck
theorem pms_match {e : Expr} {me : ME} {cs : List MatchCase} {m : Str → MS} (he : PM X W e me) (hc : PMC X W cs m) : PMS X W (.Match e cs pos) (mMatch me m) := by
  refine ⟨fun pins s σ H D I ⟨ρ0, H0, ρ, δ, S, n0, en, k, p⟩ => wpAny_Match ?_⟩
  have T : tE X.K W me σ H fun v H1 => ∃ x, v = .str x ∧ tS X.K W (m x) D σ H1 := tE.inS n0 en k p fun v u ρ1 H1 S1 _ n1 e1 k1 r1 p1 => by
    cases u with
    | loc n => exact p1.elim
    | d y =>
      cases y with
      | str x => cases r1; exact ⟨x, rfl, ρ0, H0, ρ1, δ, S1, n1, e1, k1, p1⟩
      | _ => exact p1.elim
  refine thn (he.run pins s σ H _ I T) fun u s1 ⟨v, H1, I1, r1, x, ev, q⟩ => ?_
  subst ev
  obtain ⟨t, rfl⟩ := r1
  exact hc true x t pins s1 σ H1 D I1 q
end
end DL

set_option Elab.async false
set_option linter.all false
set_option maxRecDepth 100000
set_option maxHeartbeats 4000000
/-! DRules8: starred targets, x[::-1], keys of a dict -/
namespace DL
open PySem PySem.Spec PyProof.Rows L2

/-! ### a, .., *rest = tuple -/
theorem star_last {prog : Program} {w : World} {A : Around} {E : Value → Shared → Prop} {s : Shared} {l : Addr} {its : List Value} {n : Nat} {Q : List Value → Shared → Prop} (hl : IsTup s.heap l its.toArray) (hh : A.handled = none) (hn : n ≤ its.length) (hz : its.length ≤ sizeLine)
    (h : ∀ D h' tk, s.heap.get? D = none → (∀ b o, s.heap.get? b = some o → h'.get? b = some o) → h'.get? D = some { cls := .type "list", data := .seq (its.drop n).toArray } → Q (its.take n ++ [.ref D]) { s with heap := h', toks := tk }) :
    wpAny (model prog w) A (unpackItems (.ref l) (n + 1) (some n)) Q E s := by
  have hlt : l ≠ s.heap.objs.size := by obtain ⟨o, ho, _⟩ := hl; exact Nat.ne_of_lt (Heap.lt_size ho)
  have hsz : its.toArray.size = its.length := List.size_toArray ..
  unfold unpackItems
  refine wpAny_bind ?_
  unfold notIterableAtAll
  refine wpAny_bind (wpAny_specialOf hl.typeIs slot_tuple_iter.lookup (wpAny_pure ?_))
  simp only [Bool.false_eq_true, if_false]
  refine wpAny_bind (wpAny_holding (iter_tuple hl ?_))
  refine wpAny_bind (wpAny_holding (draw_tuple hlt n 0 _ _ ⟨_, Heap.get?_push_size _ rfl, rfl, rfl⟩ (hl.push _) (by omega) fun h₁ it₁ sb₁ => ?_))
  have hl₁ : IsTup h₁ l its.toArray := (hl.push _).extBut sb₁.extBut hlt
  rw [Nat.zero_add] at it₁
  have li : s.heap.objs.size < h₁.objs.size := by obtain ⟨_, e, _⟩ := id it₁; exact Heap.lt_size e
  have ll : l < h₁.objs.size := by obtain ⟨_, e, _⟩ := id hl₁; exact Heap.lt_size e
  have len1 : (its.take n).length = n := by rw [List.length_take]; omega
  simp only [List.drop_zero]
  rw [if_neg (show ¬ ((its.take n).length < n) by omega)]
  refine wpAny_bind (wpAny_holding (PySem.W.kun_collect (s := { s with heap := h₁ }) (T := "tuple_iterator") (.inr (.inr (.inr rfl))) (Walks.tuple (A := A.in1) hh s.heap.objs.size l hlt its.toArray) (fun j u st => st.1.typeIs) (k := n) (by omega) ⟨it₁, hl₁⟩ li ll (fun h₂ tk hk => ?_) (by omega)))
  have len2 : (its.drop n).length - (n + 1 - 1 - n) = (its.drop n).length := by omega
  show wpAny _ _ (if (its.drop n).length < n + 1 - 1 - n then _ else _) _ _ _
  rw [if_neg (by omega)]
  show wpAny _ _ (newList ((its.drop n).take ((its.drop n).length - (n + 1 - 1 - n))) >>= fun d => pure (its.take n ++ [d] ++ (its.drop n).drop ((its.drop n).length - (n + 1 - 1 - n)))) _ _ _
  rw [len2, List.take_length, List.drop_length]
  have keep : ∀ b o, s.heap.get? b = some o → h₂.get? b = some o := fun b o e => hk b o (Nat.ne_of_lt (Heap.lt_size e)) (sb₁.extBut b o (Nat.ne_of_lt (Heap.lt_size e)) (Heap.get?_push_of_some _ e))
  refine wpAny_bind (wpAny_newObj_type ?_ (by show (its.drop n).toArray.size ≤ sizeLine; rw [List.size_toArray, List.length_drop]; omega))
  refine wpAny_pure ?_
  rw [List.append_nil]
  refine h h₂.objs.size _ tk ?_ (fun b o e => Heap.get?_push_of_some _ (keep b o e)) (Heap.get?_push_size _ rfl)
  cases c : s.heap.get? h₂.objs.size with
  | none => rfl
  | some o => exact absurd (Heap.lt_size (keep _ _ c)) (Nat.lt_irrefl _)
/-- a, .., *rest = e: the last target takes what is left -/
def mStarT (me : ME) (n : Nat) (is : List Nat) : MS := fun _ δ S => (me δ S).inS δ fun u S1 => match u with
  | .d (.tup ds) => if n ≤ ds.length then match setAll is (ds.take n ++ [.lst (ds.drop n)]) δ with
      | some δ1 => .next δ1 S1
      | none => .stuck
    else .stuck
  | _ => .stuck
section
variable {X : Cx} {W : WX} {pos : Pos}
theorem pms_starT {e : Expr} {me : ME} {ts ts' : List Expr} {kt n : Nat} {pt : Pos} {is : List Nat} (hc : X.calm = true) (he : PM X W e me) (hg : PMGs X ts' is) (hl : (assignEach ts X.env).length = n + 1 := by rfl) (hst : (assignEach ts X.env).findIdx? (·.1) = some n := by rfl)
    (hsame : (assignEach ts X.env).map (·.2) = (assignEach ts' X.env).map (·.2) := by rfl) (hs : swapsWithSole [.Tuple ts kt pt] e pos.line X.env = pure false := by rfl) (hw : swappedStores [.Tuple ts kt pt] e X.env = pure none := by rfl)
    (h1 : (assignEach [.Tuple ts kt pt] X.env).map (·.2) = [assign (.Tuple ts kt pt) X.env] := by rfl) : PMS X W (.Assign [.Tuple ts kt pt] e pos) (mStarT me n is) := by
  refine ⟨fun pins s σ H D I ⟨ρ0, H0, ρ, δ, S, n0, en, k, p⟩ => ?_⟩
  have T : tE X.K W me σ H fun v H1 => ∃ ρ1 S1 ds δ1, Nxt ρ0 H0 ρ1 H1 ∧ EnvOk X.K ρ1 H1 σ δ ∧ Ok X.K ρ1 S1 H1 ∧ Rep X.K (free ρ1) H1 v (.tup ds) ∧ n ≤ ds.length ∧ setAll is (ds.take n ++ [.lst (ds.drop n)]) δ = some δ1 ∧ PostS X.K W ρ0 H0 (.next δ1 S1) D :=
    tE.inS n0 en k p fun v u ρ1 H1 S1 _ n1 e1 k1 r1 p1 => by
      cases u with
      | loc i => exact p1.elim
      | d x =>
        cases x with
        | tup ds =>
          by_cases hn : n ≤ ds.length
          case neg => simp only [if_neg hn] at p1; exact p1.elim
          simp only [if_pos hn] at p1
          cases ha : setAll is (ds.take n ++ [.lst (ds.drop n)]) δ with
          | none => simp only [ha] at p1; exact p1.elim
          | some δ1 => simp only [ha] at p1; exact ⟨ρ1, S1, ds, δ1, n1, e1, k1, r1, hn, ha, p1⟩
        | _ => exact p1.elim
  refine wpAny_Assign_stores (thn (he.run pins s σ H _ I T) fun v s1 ⟨x, H1, I1, r1, ρ1, S1, ds, δ1, n1, e1, k1, rr, hn, ha, p1⟩ => ?_) hs hw
  rw [h1]
  cases rr with
  | @tup a xs _ ht rl =>
    obtain rfl : v = Value.ref a := r1
    obtain ⟨its, rv, pl, hz⟩ := I1.tuple ht
    have l1 := rv.length
    have l2 := rl.length
    show wpAny (model X.prog X.w) X.A (assign (.Tuple ts kt pt) X.env (.ref a)) _ X.xe s1
    rw [assign_Tuple]
    refine wpAny_bind (wpAny_standAt ?_)
    unfold unpack
    rw [hl, hst]
    refine wpAny_bind (wpAny_holding (star_last pl (I1.ok.hd hc) (by omega) (by omega) fun Dl h' tk hD hk hnew => ?_))
    rw [hsame]
    have hH := I1.hok.gone hD
    have rd := rv.drop n
    have new : ObjOk X.prog X.w (upd H1 Dl (.lst (xs.drop n))) h' Dl (.lst (xs.drop n)) := ⟨by rw [List.length_drop]; omega, its.drop n, 0, rd, hnew⟩
    have I2 := I1.laidN (t' := tk) hk hD hH new
    have nx : Nxt ρ1 H1 ρ1 (upd H1 Dl (.lst (xs.drop n))) := Nxt.laid hH
    have k2 := k1.laid (o := .lst (xs.drop n)) hH
    have rl' := rl.mv (nx.mv k1)
    refine thn (hg.run pins _ σ _ (xs.take n ++ [.ref Dl]) (its.take n ++ [.ref Dl]) (fun σ' H' => D.nx σ' H') I2 ((rv.take n).append (.cons (show RelV (.ref Dl) (.ref Dl) from rfl) .nil)) ⟨ρ1, S1, δ, _, δ1, e1.nxt nx k1, k2, (rl'.take n).append (.cons (.lst (.inl upd_same) (k1.notNew hH) (rl'.drop n)) .nil), ha, fun σ' e' _ => p1 σ' ρ1 _ (n1.trans nx) k2 e'⟩) fun _ s2 q => q
end
/-! ### t[::-1] -/
theorem rev_pick (its : List Value) : ((List.range its.length).filterMap fun (k : Nat) => its.toArray[(((its.length : Int) - 1) + (k : Int) * (-1)).toNat]?).toArray = its.reverse.toArray := by
  have e : ((List.range its.length).filterMap fun (k : Nat) => its.toArray[(((its.length : Int) - 1) + (k : Int) * (-1)).toNat]?) = ((List.range its.length).map fun k => its.length - 1 - k).filterMap (its.toArray[·]?) := by
    rw [List.filterMap_map]
    have same : ∀ l : List Nat, (∀ k ∈ l, k < its.length) → (l.filterMap fun (k : Nat) => its.toArray[(((its.length : Int) - 1) + (k : Int) * (-1)).toNat]?) = l.filterMap ((its.toArray[·]?) ∘ fun k => its.length - 1 - k) := by
      intro l
      induction l with
      | nil => intro _; rfl
      | cons k r ih =>
        intro h
        have := h k (List.mem_cons_self ..)
        have e2 : (((its.length : Int) - 1) + (k : Int) * (-1)).toNat = its.length - 1 - k := by omega
        have ih' := ih fun j hj => h j (List.mem_cons_of_mem _ hj)
        simp only [List.filterMap_cons, e2, Function.comp]
        rw [ih']
    exact same _ fun k hk => List.mem_range.mp hk
  rw [e, PySem.W.krv_range, List.filterMap_reverse]
  have := PySem.W.krv_all its.toArray
  rw [List.size_toArray] at this
  rw [this]
theorem sliceApplied_rev {prog : Program} {w : World} {A : Around} {E : Value → Shared → Prop} {s : Shared} {sl : Addr} {tk : Tok} {n : Nat} {Q : Int × Int × Nat → Shared → Prop} (hs : s.heap.IsSliceOf sl .none .none (.int (-1) tk))
    (h : Q ((n : Int) - 1, -1, n) s) : wpAny (model prog w) A (Builtin.Slice.sliceApplied (.ref sl) (pure (n : Int))) Q E s := by
  obtain ⟨os, hos, hcs, hds⟩ := id hs
  unfold Builtin.Slice.sliceApplied Builtin.Slice.sliceFields
  refine wpAny_bind (wpAny_bind (wpAny_field hos hds (x := .none) rfl (wpAny_bind (wpAny_field hos hds (x := .none) rfl (wpAny_bind (wpAny_field hos hds (x := .int (-1) tk) rfl (wpAny_pure ?_)))))))
  refine wpAny_bind (HT.slicePart_ (.int (-1) tk) ?_)
  show wpAny _ _ (if ((-1 : Int) == 0) = true then _ else _) _ _ s
  rw [if_neg (by decide)]
  refine wpAny_bind (HT.slicePart_ .none (wpAny_bind (HT.slicePart_ .none (wpAny_bind (wpAny_pure ?_)))))
  have pl : Builtin.Slice.slicePlaces ((n : Int) - 1) (-1) (-1) = n := by
    unfold Builtin.Slice.slicePlaces
    have h1 : ¬ ((-1 : Int) > 0) := by decide
    simp only [h1, if_false]
    by_cases c : (n : Int) - 1 > -1
    · rw [if_pos c]
      have : ((n : Int) - 1 - -1 - 1) / (- -1) + 1 = (n : Int) := by
        rw [show (- -1 : Int) = 1 by decide, Int.ediv_one]; omega
      rw [this]; simp
    · rw [if_neg c]; omega
  show wpAny _ _ (pure ((n : Int) - 1, (-1 : Int), Builtin.Slice.slicePlaces ((n : Int) - 1) (-1) (-1))) _ _ s
  rw [pl]
  exact wpAny_pure h
theorem getItem_tuple_rev {prog : Program} {w : World} {A : Around} {E : Value → Shared → Prop} {s : Shared} {t sl : Addr} {its : List Value} {tk : Tok} {Q : Value → Shared → Prop} (ht : IsTup s.heap t its.toArray) (hs : s.heap.IsSliceOf sl .none .none (.int (-1) tk))
    (h : Q (.ref s.heap.objs.size) { s with heap := s.heap.push { cls := .type "tuple", data := .seq its.reverse.toArray } }) (hsz : its.length ≤ sizeLine) : wpAny (model prog w) A (getItem (.ref t) (.ref sl)) Q E s := by
  have hsize : sizeOk (.seq its.reverse.toArray) := by show its.reverse.toArray.size ≤ sizeLine; simpa using hsz
  obtain ⟨os, hos, hcs, hds⟩ := id hs
  have hTs : s.TypeIs (.ref sl) "slice" := ⟨os, hos, hcs⟩
  unfold getItem
  try with_reducible refine wpAny_holding ?_
  first | refine wpAny_bind (wpAny_pure ?_) | skip
  refine wpAny_bind (wpAny_sequenceKey ht.typeIs (by decide) ?_)
  refine wpAny_bind (wpAny_callSpecial?_slot (name := Str.ofString "__getitem__") ht.typeIs PyProof.Rows.slot_tuple_getitem
    (wpAny_call_entry PyProof.Rows.slot_tuple_getitem ht.typeIs entry_tuple_getitem ?_ (args_tuple_getitem _ _)))
  show wpAny _ _ (Builtin.Tuple.tupleItemsOf (.ref t) >>= _) _ _ s
  refine wpAny_bind (tupleItemsOf_ ht ?_)
  refine wpAny_bind (wpAny_typeOf hTs ?_)
  rw [if_pos (by decide)]
  refine wpAny_bind (sliceApplied_rev hs ?_)
  have n1 : ((-1 : Int) == 1) = false := by decide
  have hno : ¬ ((((its.toArray.size : Int) - 1) == 0 && (-1 : Int) == 1 && its.toArray.size == its.toArray.size) = true) := by rw [n1, Bool.and_false, Bool.false_and]; exact Bool.false_ne_true
  show wpAny _ _ (if (((its.toArray.size : Int) - 1) == 0 && (-1 : Int) == 1 && its.toArray.size == its.toArray.size) = true then _ else _) _ _ s
  rw [if_neg hno]
  have sz : its.toArray.size = its.length := List.size_toArray ..
  rw [sz, rev_pick]
  first
    | exact wpAny_bind (m := Builtin.Tuple.tupleExact _) (wpAny_newObj_type (wpAny_pure ⟨_, rfl, wpAny_pure h⟩) hsize)
    | exact wpAny_bind (m := Builtin.Tuple.tupleExact _) (wpAny_newObj_type (wpAny_bind (wpAny_pure (wpAny_pure ⟨_, rfl, wpAny_pure h⟩))) hsize)
    | exact wpAny_bind (wpAny_bind (m := Builtin.Tuple.tupleExact _) (wpAny_newObj_type (wpAny_pure (wpAny_pure ⟨_, rfl, wpAny_pure h⟩)) hsize))
    | exact wpAny_bind (wpAny_bind (m := Builtin.Tuple.tupleExact _) (wpAny_newObj_type (wpAny_pure ⟨_, rfl, wpAny_pure h⟩) hsize))
def mRev (m : ME) (st : MO) : ME := fun δ S => (m δ S).bind fun u S1 => (st δ S1).bind fun o S2 => match o, peek S2 u with
  | some i, some (.tup ds) => if i = -1 then .ok (.d (.tup ds.reverse)) S2 else .stuck
  | _, _ => .stuck
section
variable {X : Cx} {W : WX} {pos pz : Pos} {a st : Expr} {ma : ME} {mo : MO}
theorem pm_rev (ha : PM X W a ma) (ho : PMO X W (some st) mo) : PM X W (.Subscript a (.Slice none none (some st) pz) pos) (mRev ma mo) := by
  refine ⟨fun pins s σ H Q I ⟨ρ, δ, S, e, k, p⟩ => ?_⟩
  refine Subscript_ (thn (ha.run pins s σ H _ I (tE.first e k p fun v u ρ1 H1 S1 _ n1 e1 k1 r1 p1 => (show ∃ ρ S u, Ok X.K ρ S H1 ∧ EnvOk X.K ρ H1 σ δ ∧ RepU X.K ρ H1 v u ∧ Post X.K W σ ρ H1 ((mo δ S).bind fun o S2 => match o, peek S2 u with
    | some i, some (.tup ds) => if i = -1 then .ok (U.d (.tup ds.reverse)) S2 else .stuck
    | _, _ => .stuck) (fun u ρ' H' => ∀ v, RepU X.K ρ' H' v u → Q v H') from ⟨ρ1, S1, u, k1, e1, r1, p1⟩))) fun v s1 ⟨x, H1, I1, r1, ρ1, S1, u, k1, e1, ru, p1⟩ => ?_)
  refine wpAny_Slice ?_
  rw [evalPart_none]
  refine wpAny_pure (wpAny_pure ?_)
  refine thn (ho.run pins s1 σ H1 _ I1 (tO.first e1 k1 p1 fun o ρ2 H2 S2 _ n2 e2 k2 p2 => (show ∃ ρ S, o = some (-1) ∧ Ok X.K ρ S H2 ∧ RepU X.K ρ H2 x u ∧ ∃ ds, peek S u = some (.tup ds) ∧ Post X.K W σ ρ H2 (.ok (U.d (.tup ds.reverse)) S) (fun u ρ' H' => ∀ v, RepU X.K ρ' H' v u → Q v H') from ?_))) fun vo s2 ⟨o, H2, I2, po, ρ2, S2, eo, k2, ru2, ds, hp, p2⟩ => ?_
  · cases o with
    | none => exact p2.elim
    | some i =>
      cases hp : peek S2 u with
      | none => simp only [hp] at p2; exact p2.elim
      | some d =>
        cases d with
        | tup ds =>
          simp only [hp] at p2
          by_cases hi : i = -1
          · rw [if_pos hi] at p2; subst hi; exact ⟨ρ2, S2, rfl, k2, ru.nxt n2 k1, ds, hp, p2⟩
          · rw [if_neg hi] at p2; exact p2.elim
        | _ => simp only [hp] at p2; exact p2.elim
  · subst eo
    cases po with
    | int i tk =>
      obtain ⟨b, xs, rfl, ht, rl⟩ := (ru2.peek k2 hp).tup
      cases r1
      have I3 : Inv X pins σ H2 { s2 with heap := s2.heap.push { cls := .type "slice", data := .fields #[.none, .none, .int (-1) tk] } } := I2.kept (t' := s2.toks) fun b ob q => Heap.get?_push_of_some _ q
      obtain ⟨its, rv, pl, hz⟩ := I3.tuple ht
      have l1 := rv.length
      show wpAny (model X.prog X.w) X.A (subscriptTail a (.Slice none none (some st) pz) (.ref b) (.ref s2.heap.objs.size)) (EP X pins σ Q) X.xe _
      refine tail_any (T := "tuple") (ops := [.ref b, .ref s2.heap.objs.size]) pl.typeIs PyProof.Rows.slot_tuple_getitem.lookup ?_ (by with_unfolding_all rfl)
      refine getItem_tuple_rev pl (Heap.IsSliceOf.new ..) ?_ (by omega)
      have hn := I3.hok.fresh (Nat.le_refl _)
      refine ⟨.ref _, _, I3.laid (t' := s2.toks) (o := .tup xs.reverse) (fun b ob q => Heap.get?_push_of_some _ q) (Nat.le_refl _) ?_, rfl, ?_⟩
      · exact ⟨by rw [List.length_reverse]; omega, its.reverse, rv.reverse, IsTup.new _ _⟩
      · exact p2 ρ2 _ (Nxt.laid hn) (k2.laid hn) _ (Rep.tup (.inl (.inl upd_same)) ((rl.reverse).mv ((Nxt.laid hn).mv k2)))
end
end DL

set_option Elab.async false
set_option linter.all false
set_option maxRecDepth 100000
set_option maxHeartbeats 4000000
/-! DZip: dict(zip(t, u)) of two tuples -/
namespace DL
open PySem PySem.Spec PyProof.Rows L2

/-- the zip z over the tuples l1, l2, i pairs given out, the last of them (if any) still there; d: not one of its own -/
structure ZS (z TI TO i1 i2 l1 l2 d : Addr) (xs ys : Array Value) (i : Nat) (h : Heap) : Prop where
  ti : IsPair h TI (.ref i1) (.ref i2)
  a : h.IsTupleIter i1 l1 i
  b : h.IsTupleIter i2 l2 i
  la : h.IsTuple l1 xs
  lb : h.IsTuple l2 ys
  z : (IsZip h z TI TO .none ∧ ∃ a b, IsPair h TO a b) ∨ ∃ T f oT, IsZipHeld h z TI TO T f ∧ h.get? T = some oT ∧ T ≠ z ∧ T ≠ i1 ∧ T ≠ i2 ∧ T ≠ d
section
variable {prog : Program} {w : World} {A : Around} {E : Value → Shared → Prop} {s : Shared} {z TI TO i1 i2 l1 l2 d : Addr} {xs ys : Array Value} {i : Nat}
/-- next(z), the tuple given out before still there: either the next pair in a new tuple, or the end -/
theorem zs_next {T : Addr} {f : Bool} {oT : Obj} {Q : Fin → Shared → Prop} (hh : A.handled = none) (D : ZipApart z TI TO i1 i2 l1 l2) (hz : IsZipHeld s.heap z TI TO T f) (hT : s.heap.get? T = some oT) (hTI : IsPair s.heap TI (.ref i1) (.ref i2))
    (h1 : s.heap.IsTupleIter i1 l1 i) (h2 : s.heap.IsTupleIter i2 l2 i) (hl1 : s.heap.IsTuple l1 xs) (hl2 : s.heap.IsTuple l2 ys)
    (go : ∀ x y h' n, xs[i]? = some x → ys[i]? = some y → s.heap.objs.size = n → IsZipHeld h' z TI TO T true → h'.IsTupleIter i1 l1 (i + 1) → h'.IsTupleIter i2 l2 (i + 1) → IsPair h' n x y →
      (∀ c o, c ≠ z → c ≠ i1 → c ≠ i2 → s.heap.get? c = some o → h'.get? c = some o) → Q (.done (.ret (.ref n))) { s with heap := h' })
    (stop : ∀ h' e, xs[i]? = none ∨ ys[i]? = none → (∀ c o, c ≠ z → c ≠ i1 → c ≠ i2 → s.heap.get? c = some o → h'.get? c = some o) → (∃ o, h'.get? e = some o ∧ o.cls = .type "StopIteration") → E (.ref e) { s with heap := h' }) :
    wpAny (model prog w) A (Builtin.«zip.__next__» ⟨[.ref z], []⟩) Q E s := by
  show wpAny _ _ (field (.ref z) 2 >>= _) _ _ _
  refine wpAny_bind (wpAny_field hz rfl (x := .bool false) rfl ?_)
  show wpAny _ _ (field (.ref z) 3 >>= _) _ _ _
  refine wpAny_bind (wpAny_field hz rfl (x := .ref TI) rfl (wpAny_bind (wpAny_seqItems hTI rfl ?_)))
  show wpAny _ _ (Builtin.SmallTypes.ownedTupleIsFree (.ref z) >>= _) _ _ _
  refine wpAny_bind (wpAny_tupleHeld_zip hz hT fun h₁ hz₁ hs₁ => ?_)
  simp only [Bool.false_eq_true, if_false]
  refine wpAny_bind ?_
  rw [← Array.forIn_toList]
  simp only [List.forIn_cons, List.forIn_nil]
  have a1 : h₁.IsTupleIter i1 l1 i := h1.extBut hs₁.extBut D.i1z
  have t1 : h₁.IsTuple l1 xs := hl1.extBut hs₁.extBut D.l1z
  refine wpAny_bind (wpAny_bind (wpAny_holding ?_))
  show wpAny _ _ (Builtin.SmallTypes.nextOf (.ref i1) >>= _) _ _ _
  cases ex : xs[i]? with
  | none => exact wpAny_bind (RZ.nextOf_tuple_end (s := { s with heap := h₁ }) hh a1 t1 ex fun h₂ e hs₂ he => stop h₂ e (.inl ex) (fun c o c1 c2 _ g => hs₂ c o c2 (hs₁.extBut c o c1 g)) he)
  | some x =>
    refine wpAny_bind (RZ.nextOf_tuple_item (s := { s with heap := h₁ }) a1 t1 ex fun h₂ a2 hs₂ => wpAny_pure (wpAny_pure ?_))
    have b2 : h₂.IsTupleIter i2 l2 i := (h2.extBut hs₁.extBut D.i2z).extBut hs₂.extBut D.i12.symm
    have t2 : h₂.IsTuple l2 ys := (hl2.extBut hs₁.extBut D.l2z).extBut hs₂.extBut D.l2i1
    refine wpAny_bind (wpAny_bind (wpAny_holding ?_))
    show wpAny _ _ (Builtin.SmallTypes.nextOf (.ref i2) >>= _) _ _ _
    cases ey : ys[i]? with
    | none => exact wpAny_bind (RZ.nextOf_tuple_end (s := { s with heap := h₂ }) hh b2 t2 ey fun h₃ e hs₃ he => stop h₃ e (.inr ey) (fun c o c1 c2 c3 g => hs₃ c o c3 (hs₂.extBut c o c2 (hs₁.extBut c o c1 g))) he)
    | some y =>
      refine wpAny_bind (RZ.nextOf_tuple_item (s := { s with heap := h₂ }) b2 t2 ey fun h₃ b3 hs₃ => wpAny_pure (wpAny_pure (wpAny_pure ?_)))
      show wpAny _ _ (newTuple [x, y] >>= _) _ _ _
      refine wpAny_bind (wpAny_newTuple (wpAny_pure ?_))
      have hsz : h₃.objs.size = s.heap.objs.size := by rw [hs₃.1, hs₂.1, hs₁.1]
      have z3 : IsZipHeld h₃ z TI TO T true := hs₃.extBut _ _ D.i2z.symm (hs₂.extBut _ _ D.i1z.symm hz₁)
      have a3 : h₃.IsTupleIter i1 l1 (i + 1) := a2.extBut hs₃.extBut D.i12
      exact go x y _ h₃.objs.size ex ey hsz.symm (Heap.get?_push_of_some _ z3) (a3.at fun o g => Heap.get?_push_of_some _ g) (b3.at fun o g => Heap.get?_push_of_some _ g) (Heap.get?_push_size _ rfl)
        fun c o c1 c2 c3 g => Heap.get?_push_of_some _ (hs₃.extBut c o c3 (hs₂.extBut c o c2 (hs₁.extBut c o c1 g)))
theorem zs_pyNext {Q : Option Value → Shared → Prop} (hh : A.handled = none) (D : ZipApart z TI TO i1 i2 l1 l2) (hd : d < s.heap.objs.size) (S : ZS z TI TO i1 i2 l1 l2 d xs ys i s.heap)
    (go : ∀ x y h' T, xs[i]? = some x → ys[i]? = some y → PairAt h' T x y → ZS z TI TO i1 i2 l1 l2 d xs ys (i + 1) h' → (∀ c o, c ∉ [z, TO, i1, i2] → s.heap.get? c = some o → h'.get? c = some o) → Q (some (.ref T)) { s with heap := h' })
    (stop : ∀ h', xs[i]? = none ∨ ys[i]? = none → (∀ c o, c ∉ [z, TO, i1, i2] → s.heap.get? c = some o → h'.get? c = some o) → Q none { s with heap := h' }) : wpAny (model prog w) A (pyNext (.ref z)) Q E s := by
  obtain ⟨hTI, h1, h2, hl1, hl2, hz⟩ := S
  have lt : ∀ {c o}, s.heap.get? c = some o → s.heap.objs.size ≠ c := fun e => Nat.ne_of_gt (Heap.lt_size e)
  have n1 : s.heap.objs.size ≠ i1 := let ⟨_, e, _⟩ := h1; lt e
  have n2 : s.heap.objs.size ≠ i2 := let ⟨_, e, _⟩ := h2; lt e
  have four : ∀ {c}, c ∉ [z, TO, i1, i2] → c ≠ z ∧ c ≠ TO ∧ c ≠ i1 ∧ c ≠ i2 := fun h => ⟨fun x => h (by simp [x]), fun x => h (by simp [x]), fun x => h (by simp [x]), fun x => h (by simp [x])⟩
  rcases hz with ⟨hz, a, b, hTO⟩ | ⟨T, f, oT, hz, hT, r1, r2, r3, r4⟩
  · cases ex : xs[i]? with
    | none => exact RZ.pyNext_zipT_end hh D hz hTI hTO h1 h2 hl1 hl2 (.inl ex) fun h' hk => stop h' (.inl ex) fun c o hc g => let ⟨c1, c2, c3, c4⟩ := four hc; hk c o c1 c2 c3 c4 g
    | some x =>
      cases ey : ys[i]? with
      | none => exact RZ.pyNext_zipT_end hh D hz hTI hTO h1 h2 hl1 hl2 (.inr ey) fun h' hk => stop h' (.inr ey) fun c o hc g => let ⟨c1, c2, c3, c4⟩ := four hc; hk c o c1 c2 c3 c4 g
      | some y =>
        refine RZ.pyNext_zipT_item D hz hTI hTO h1 h2 hl1 hl2 ex ey fun h' a1 a2 a3 a4 a5 a6 hk => ?_
        exact go x y h' _ ex ey (.inl ⟨_, a5, rfl, _, rfl⟩) ⟨hk _ _ D.TIz D.TITO D.TIi1 D.TIi2 hTI, a3, a4, hl1.at fun o e => hk _ o D.l1z D.l1TO D.l1i1 D.l1i2 e, hl2.at fun o e => hk _ o D.l2z D.l2TO D.l2i1 D.l2i2 e,
          .inr ⟨_, false, _, a1, a5, lt hz, n1, n2, Nat.ne_of_gt hd⟩⟩ fun c o hc g => let ⟨c1, c2, c3, c4⟩ := four hc; hk c o c1 c2 c3 c4 g
  · have hTy : s.TypeIs (.ref z) "zip" := ⟨_, hz, rfl⟩
    unfold pyNext
    refine wpAny_bind (wpAny_attempt (wpAny_callSpecial?_slot (name := Str.ofString "__next__") hTy F.slot_zip_next
      (wpAny_call_entry F.slot_zip_next hTy F.entry_zip_next (zs_next hh D hz hT hTI h1 h2 hl1 hl2 (fun x y h' n ex ey en a1 a3 a4 a5 hk => ?_) fun h' e he hk ho => ?_) (F.args_zip_next_1 _))))
    · subst en
      refine ⟨_, rfl, wpAny_pure ?_⟩
      exact go x y h' _ ex ey (.inl ⟨_, a5, rfl, _, rfl⟩) ⟨hk _ _ D.TIz D.TIi1 D.TIi2 hTI, a3, a4, hl1.at fun o e => hk _ o D.l1z D.l1i1 D.l1i2 e, hl2.at fun o e => hk _ o D.l2z D.l2i1 D.l2i2 e,
        .inr ⟨T, true, oT, a1, hk _ _ r1 r2 r3 hT, r1, r2, r3, r4⟩⟩ fun c o hc g => let ⟨c1, c2, c3, c4⟩ := four hc; hk c o c1 c3 c4 g
    · obtain ⟨o, ho, hc⟩ := ho
      refine wpAny_bind (wpAny_isInstance (T := "StopIteration") (b := true) ⟨o, ho, hc⟩ isSubtype_stop ?_)
      exact wpAny_pure (stop h' he fun c o hc g => let ⟨c1, c2, c3, c4⟩ := four hc; hk c o c1 c3 c4 g)
end
section
variable {prog : Program} {w : World}
theorem pairArg_zipT (z TI TO i1 i2 l1 l2 : Addr) (D : ZipApart z TI TO i1 i2 l1 l2) (xs ys : Array Value) :
    PairArg prog w "zip" z [z, TI, TO, i1, i2, l1, l2] [z, TO, i1, i2] (min xs.size ys.size) (fun i k v => xs[i]? = some k ∧ ys[i]? = some v)
      (fun h => IsZip h z TI TO .none ∧ IsPair h TI (.ref i1) (.ref i2) ∧ (∃ a b, IsPair h TO a b) ∧ h.IsTupleIter i1 l1 0 ∧ h.IsTupleIter i2 l2 0 ∧ h.IsTuple l1 xs ∧ h.IsTuple l2 ys) where
  type := fun s ok => ⟨_, ok.1, rfl⟩
  notDict := by decide
  keep := fun h h' ⟨q1, q2, ⟨a, b, q3⟩, q4, q5, q6, q7⟩ hk => ⟨hk _ _ q1, hk _ _ q2, ⟨a, b, hk _ _ q3⟩, q4.at fun o e => hk _ o e, q5.at fun o e => hk _ o e, q6.at fun o e => hk _ o e, q7.at fun o e => hk _ o e⟩
  there := fun h ⟨q1, q2, ⟨a, b, q3⟩, ⟨_, q4, _⟩, ⟨_, q5, _⟩, ⟨_, q6, _⟩, ⟨_, q7, _⟩⟩ c hc => by
    simp only [List.mem_cons, List.not_mem_nil, or_false] at hc
    rcases hc with rfl | rfl | rfl | rfl | rfl | rfl | rfl
    all_goals exact ⟨_, by assumption⟩
  sub := fun b hb => by simp at hb ⊢; rcases hb with rfl | rfl | rfl | rfl <;> simp
  noKeys := fun A s Q E hA ok h => getAttrOr_miss_zip ok.1 rfl rfl rfl zip_no_keys (by decide +kernel) hA h
  iter := fun A s d Q E hA ⟨q1, q2, ⟨a, b, q3⟩, q4, q5, q6, q7⟩ hd hdf h => by
    simp only [List.mem_cons, List.not_mem_nil, or_false, not_or] at hdf
    obtain ⟨dz, dTI, dTO, di1, di2, dl1, dl2⟩ := hdf
    refine wpAny_pyIter_zip q1 (h z [z, TO, i1, i2] (ZS z TI TO i1 i2 l1 l2 d xs ys) s.heap s.toks ?_ ⟨q2, q4, q5, q6, q7, .inl ⟨q1, a, b, q3⟩⟩ (fun _ _ e => e) fun b hb => .inl hb)
    refine ⟨fun hm => ?_, fun i h₁ h₂ st hk => ?_, fun i s₁ Q₁ E₁ hi st hds hQ => ?_, fun s₁ Q₁ E₁ st hQ => ?_⟩
    · simp only [List.mem_cons, List.not_mem_nil, or_false] at hm
      rcases hm with e | e | e | e
      · exact dz e
      · exact dTO e
      · exact di1 e
      · exact di2 e
    · obtain ⟨p1, p2, p3, p4, p5, hz⟩ := st
      refine ⟨hk _ _ (Ne.symm dTI) p1, p2.at fun o e => hk _ o (Ne.symm di1) e, p3.at fun o e => hk _ o (Ne.symm di2) e, p4.at fun o e => hk _ o (Ne.symm dl1) e, p5.at fun o e => hk _ o (Ne.symm dl2) e, ?_⟩
      rcases hz with ⟨hz, a, b, hTO⟩ | ⟨T, f, oT, hz, hT, r1, r2, r3, r4⟩
      · exact .inl ⟨hk _ _ (Ne.symm dz) hz, a, b, hk _ _ (Ne.symm dTO) hTO⟩
      · exact .inr ⟨T, f, oT, hk _ _ (Ne.symm dz) hz, hk _ _ r4 hT, r1, r2, r3, r4⟩
    · refine zs_pyNext hA D hds st (fun x y h' T ex ey hp st' hk => hQ T x y h' s₁.toks ⟨ex, ey⟩ hp st' hk) fun h' he _ => ?_
      have e1 := Array.getElem?_eq_getElem (Nat.lt_of_lt_of_le hi (Nat.min_le_left xs.size ys.size))
      have e2 := Array.getElem?_eq_getElem (Nat.lt_of_lt_of_le hi (Nat.min_le_right xs.size ys.size))
      rcases he with he | he
      · rw [he] at e1; cases e1
      · rw [he] at e2; cases e2
    · have big : ∃ e, s₁.heap.objs.size = e := ⟨_, rfl⟩
      -- where the dict stands does not matter at the end
      obtain ⟨p1, p2, p3, p4, p5, hz⟩ := st
      have st' : ZS z TI TO i1 i2 l1 l2 z xs ys (min xs.size ys.size) s₁.heap := ⟨p1, p2, p3, p4, p5, hz.imp id fun ⟨T, f, oT, a1, a2, a3, a4, a5, _⟩ => ⟨T, f, oT, a1, a2, a3, a4, a5, a3⟩⟩
      have hz' : z < s₁.heap.objs.size := by
        rcases hz with ⟨hz, _⟩ | ⟨T, f, oT, hz, _⟩ <;> exact Heap.lt_size hz
      refine zs_pyNext hA D hz' st' (fun x y h' T ex ey _ _ _ => ?_) fun h' _ hk => hQ h' s₁.toks hk
      obtain ⟨l1, _⟩ := Array.getElem?_eq_some_iff.mp ex
      obtain ⟨l2, _⟩ := Array.getElem?_eq_some_iff.mp ey
      exact absurd (Nat.lt_min.mpr ⟨l1, l2⟩) (Nat.lt_irrefl _)
end
theorem vals_get : ∀ {vs : List V} {its : List Value} {ks : List Key} {i : Nat} {key : Value}, Vals vs its → vs = ks.map kV → its[i]? = some key → ∃ k, ks[i]? = some k ∧ keyIs k key = true
  | _, _, _, _, _, .nil, _, h => by simp at h
  | _, _, [], _, _, .cons _ _, e, _ => by simp at e
  | _, _, k :: ks, 0, key, .cons r t, e, h => by
    simp only [List.map_cons, List.cons.injEq] at e
    simp only [List.getElem?_cons_zero, Option.some.injEq] at h
    subst h
    refine ⟨k, rfl, ?_⟩
    rw [e.1] at r
    cases k with
    | inl i => obtain ⟨t, rfl⟩ := r; simp [keyIs, Value.isInt]
    | inr x => obtain ⟨t, rfl⟩ := r; simp [keyIs, Value.isStrOf]
  | _, _, k :: ks, i + 1, key, .cons r t, e, h => by
    simp only [List.map_cons, List.cons.injEq] at e
    obtain ⟨k', h1, h2⟩ := vals_get (i := i) t e.2 (by simpa using h)
    exact ⟨k', by simpa using h1, h2⟩
theorem kv_zip : ∀ {ks : List Key} {vs : List V} {us : List Value}, Vals vs us → KV (ks.zip vs) (ks.zip us)
  | [], _, _, _ => by simp only [List.zip_nil_left]; exact .nil
  | k :: ks, _, _, .nil => .nil
  | k :: ks, _, _, .cons h t => .cons ⟨rfl, h⟩ (kv_zip t)
def keysD : List D → Option (List Key)
  | [] => some []
  | d :: ds => match keyD d, keysD ds with
    | some k, some ks => some (k :: ks)
    | _, _ => none
def mDZ (ma mb : ME) : ME := fun δ S => (ma δ S).bind fun u S1 => (mb δ S1).bind fun w S2 => match u, w with
  | .d (.tup xs), .d (.tup ys) => match keysD xs with
    | some ks => .ok (.d (.dct (mergeD [] (ks.zip ys)))) S2
    | none => .stuck
  | _, _ => .stuck
theorem keysD_ok {K : Fg} {ok : Addr → Prop} {H : Hp} : ∀ {vs : List V} {ds : List D} {ks : List Key}, RepL K ok H vs ds → keysD ds = some ks → vs = ks.map kV
  | _, _, _, .nil, h => by cases h; rfl
  | _, _, ks, .cons (d := d) (ds := ds) r t, h => by
    unfold keysD at h
    split at h
    · rename_i k ks' hk hks
      cases h
      rw [List.map_cons, ← keysD_ok t hks]
      congr 1
      cases d with
      | int i => cases hk; cases r; rfl
      | str x => cases hk; cases r; rfl
      | _ => cases hk
    · cases h
theorem RepK.zip {K : Fg} {ok : Addr → Prop} {H : Hp} : ∀ {ks : List Key} {vs : List V} {ds : List D}, RepL K ok H vs ds → RepK K ok H (ks.zip vs) (ks.zip ds)
  | [], _, _, _ => by simp only [List.zip_nil_left]; exact .nil
  | k :: ks, _, _, .nil => .nil
  | k :: ks, _, _, .cons h t => .cons h (RepK.zip t)
section
variable {X : Cx} {W : WX} {pos p p2 q : Pos} {a b : Expr} {ma mb : ME}
theorem pm_dz (hc : X.calm = true) (hg : Gl X "dict") (hm : X.mg "dict" = none) (hg2 : Gl X "zip") (hm2 : X.mg "zip" = none) (ha : PM X W a ma) (hb : PM X W b mb)
    (hs1 : starEach [a, b] X.env = (false, eval a X.env) :: starEach [b] X.env := by rfl) (hs2 : starEach [b] X.env = (false, eval b X.env) :: starEach [] X.env := by rfl) (hpl : (backTo q (starEach [b] X.env)).any (·.1) = false := by rfl)
    (hs3 : starEach [.Call (.Name "zip" p2) [a, b] [] q] X.env = (false, eval (.Call (.Name "zip" p2) [a, b] [] q) X.env) :: starEach [] X.env := by rfl) :
    PM X W (.Call (.Name "dict" p) [.Call (.Name "zip" p2) [a, b] [] q] [] pos) (mDZ ma mb) := by
  refine ⟨fun pins s σ H Q I ⟨ρ, δ, S, e, k, pp⟩ => ?_⟩
  have T : tA X.K W (mCons ma (mCons mb mNil)) σ H fun vs H1 => ∃ x y ρ1 S1 xs ys ks, vs = [x, y] ∧ Ok X.K ρ1 S1 H1 ∧ Rep X.K (free ρ1) H1 x (.tup xs) ∧ Rep X.K (free ρ1) H1 y (.tup ys) ∧ keysD xs = some ks ∧
      Post X.K W σ ρ1 H1 (.ok (.d (.dct (mergeD [] (ks.zip ys)))) S1) fun u ρ' H' => ∀ v, RepU X.K ρ' H' v u → Q v H' := by
    have pp' : Post X.K W σ ρ H (((mCons ma (mCons mb mNil)) δ S).bind fun us S2 => match us with
        | [u, w] => (match u, w with
          | .d (.tup xs), .d (.tup ys) => match keysD xs with
            | some ks => .ok (.d (.dct (mergeD [] (ks.zip ys)))) S2
            | none => .stuck
          | _, _ => .stuck)
        | _ => .stuck) fun u ρ' H' => ∀ v, RepU X.K ρ' H' v u → Q v H' := by
      have : ((mCons ma (mCons mb mNil)) δ S).bind (fun us S2 => match us with
        | [u, w] => (match u, w with
          | .d (.tup xs), .d (.tup ys) => match keysD xs with
            | some ks => Res.ok (U.d (.dct (mergeD [] (ks.zip ys)))) S2
            | none => .stuck
          | _, _ => .stuck)
        | _ => .stuck) = mDZ ma mb δ S := by
        unfold mCons mNil mDZ
        cases ma δ S with
        | ok u S1 =>
          simp only [Res.ok_bind]
          cases mb δ S1 <;> rfl
        | exc x S1 => rfl
        | stuck => rfl
      rw [this]; exact pp
    refine tA.first e k pp' fun vs us ρ1 H1 S1 _ n1 e1 k1 r1 p1 => ?_
    cases r1 with
    | nil => exact p1.elim
    | @cons x u _ _ rx t =>
      cases t with
      | nil => exact p1.elim
      | @cons y w' _ _ ry t =>
        cases t with
        | cons _ _ => exact p1.elim
        | nil =>
          cases u with
          | loc n => exact p1.elim
          | d dx =>
            cases dx with
            | tup xs =>
              cases w' with
              | loc n => exact p1.elim
              | d dy =>
                cases dy with
                | tup ys =>
                  cases hk : keysD xs with
                  | none => simp only [hk] at p1; exact p1.elim
                  | some ks => simp only [hk] at p1; exact ⟨x, y, ρ1, S1, xs, ys, ks, rfl, k1, rx, ry, hk, p1⟩
                | _ => exact p1.elim
            | _ => exact p1.elim
  have hA : PMA X W [a, b] (mCons ma (mCons mb mNil)) := pma_cons ha (pma_cons hb pma_nil hs2) hs1
  refine Call_ (ld_blt I hg hm PyProof.Rows.boot_dict (PyProof.Rows.callWith_type1 (PyProof.Rows.args_cons ?_ hs3) hs3 rfl))
  refine Call_ (ld_blt I hg2 hm2 PyProof.Rows.boot_zip (PyProof.Rows.callWith_type1 (thn (hA.run q pins s σ H _ I T) fun us s1 ⟨vs, H1, I1, r1, x, y, ρ1, S1, xs, ys, ks, ev, k1, rx, ry, hk, p1⟩ => ?_) hs1 hpl))
  subst ev
  cases rx with
  | @tup l1 xv _ hx rlx =>
    cases ry with
    | @tup l2 yv _ hy rly =>
      cases r1 with
      | cons ra rb =>
        cases rb with
        | cons rb rn =>
          cases rn
          cases ra
          cases rb
          obtain ⟨its, rv, pl1, hz1⟩ := I1.tuple hx
          obtain ⟨its2, rv2, pl2, hz2⟩ := I1.tuple hy
          have lt1 : l1 < s1.heap.objs.size := by obtain ⟨o, ho, _⟩ := id pl1; exact Heap.lt_size ho
          have lt2 : l2 < s1.heap.objs.size := by obtain ⟨o, ho, _⟩ := id pl2; exact Heap.lt_size ho
          have len1 := rv.length
          have len2 := rv2.length
          have D := PySem.W.ktu_apart s1.heap.objs.size l1 l2 lt1 lt2
          refine RZ.call_zipT (show s1.heap.IsTuple l1 its.toArray from pl1) (show s1.heap.IsTuple l2 its2.toArray from pl2) fun h' hz hTI hTO hi1 hi2 hsz hkp => PyProof.Rows.args_nil ?_
          have ekv := keysD_ok rlx hk
          have lks : ks.length = its.length := by rw [← len1, ekv, List.length_map]
          have pairs : PairsHave (mixKind X.prog X.w) (min its.toArray.size its2.toArray.size) (fun i k v => its.toArray[i]? = some k ∧ its2.toArray[i]? = some v) (ks.zip its2) := by
            refine ⟨by rw [List.length_zip, List.size_toArray, List.size_toArray, lks], fun i key v ⟨e1, e2⟩ => ?_⟩
            have e1' : its[i]? = some key := by simpa using e1
            have e2' : its2[i]? = some v := by simpa using e2
            obtain ⟨kk, hkk, rk⟩ := vals_get rv ekv e1'
            exact ⟨kk, by rw [List.getElem?_zip_eq_some]; exact ⟨hkk, e2'⟩, rk⟩
          refine call_dict_pairs (s := { s1 with heap := h' }) (pairArg_zipT _ _ _ _ _ l1 l2 D its.toArray its2.toArray) (I1.ok.hd hc) ⟨hz, hTI, ⟨_, _, hTO⟩, hi1, hi2, (show s1.heap.IsTuple l1 its.toArray from pl1).at fun o g => hkp _ o g, (show s1.heap.IsTuple l2 its2.toArray from pl2).at fun o g => hkp _ o g⟩ pairs
            (by rw [List.size_toArray]; exact Nat.le_trans (Nat.min_le_left _ _) (by omega)) fun h'' tk hd hk2 => ?_
          have hge : s1.heap.objs.size ≤ h'.objs.size := by omega
          have hn := I1.hok.fresh hge
          have keep : ∀ b o, s1.heap.get? b = some o → h''.get? b = some o := fun b o g => hk2 b o (fun hm => by
            have := Heap.lt_size g
            simp only [List.mem_cons, List.not_mem_nil, or_false] at hm
            have lt : b < s1.heap.objs.size := this
            rcases hm with e | e | e | e
            · exact absurd lt (by rw [e]; exact Nat.not_lt.mpr (Nat.le_add_right _ _))
            · exact absurd lt (by rw [e]; exact Nat.not_lt.mpr (Nat.le_add_right _ _))
            · exact absurd lt (by rw [e]; exact Nat.lt_irrefl _)
            · exact absurd lt (by rw [e]; exact Nat.not_lt.mpr (Nat.le_add_right _ _))) (hkp b o g)
          have kv : KV (ks.zip yv) (ks.zip its2) := kv_zip rv2
          have hsys : (h'.objs.size == sysModules) = false := by
            have h2 : sysModules < h'.objs.size := Nat.lt_of_lt_of_le I1.big hge
            rw [beq_eq_false_iff_ne]
            exact Nat.ne_of_gt h2
          have hlen : (mergeK [] (ks.zip yv)).length ≤ sizeLine := by
            have := length_mergeK (ks.zip yv) []
            rw [List.length_nil, List.length_zip] at this
            omega
          refine ⟨.ref h'.objs.size, _, I1.laid (t' := tk) (a := h'.objs.size) (o := .dK (mergeK [] (ks.zip yv))) keep hge (dk_new hlen hsys (KV.merge kv .nil) hd), rfl, ?_⟩
          have nx : Nxt ρ1 H1 ρ1 (upd H1 h'.objs.size (.dK (mergeK [] (ks.zip yv)))) := Nxt.laid hn
          exact p1 ρ1 _ nx (k1.laid hn) _ (Rep.dct (.inl upd_same) (k1.notNew hn) (RepK.merge (RepK.zip (rly.mv (nx.mv k1))) .nil))
end
end DL

set_option Elab.async false
set_option linter.all false
set_option maxRecDepth 100000
set_option maxHeartbeats 4000000
/-! DKeys: [.. for k in d ..], d a dict that nobody changes -/
namespace DL
open PySem PySem.Spec PyProof.Rows L2

def kD : Key → D
  | .inl i => .int i
  | .inr x => .str x
theorem rep_kD {K : Fg} {ok : Addr → Prop} {H : Hp} (k : Key) : Rep K ok H (kV k) (kD k) := by
  cases k with
  | inl i => exact .int i
  | inr x => exact .str x
/-- readings go over, for what is no lock -/
structure Mp (K : Fg) (ok ok' : Addr → Prop) (H H' : Hp) : Prop where
  tup : ∀ a xs, Rd H a (.tup xs) → Rd H' a (.tup xs)
  lst : ∀ a xs, Rd H a (.lst xs) → ok a → Rd H' a (.lst xs) ∧ ok' a
  dct : ∀ a xs, Rd H a (.dK xs) → ok a → Rd H' a (.dK xs) ∧ ok' a
section
variable {K : Fg} {ok ok' : Addr → Prop} {H H' : Hp}
mutual
theorem Rep.mp (m : Mp K ok ok' H H') : ∀ {v : V} {d : D}, Rep K ok H v d → Rep K ok' H' v d
  | _, _, .non => .non
  | _, _, .bl b => .bl b
  | _, _, .int i => .int i
  | _, _, .str x => .str x
  | _, _, .tup h r => .tup (h.elim (fun z => .inl (m.tup _ _ z)) .inr) (RepL.mp m r)
  | _, _, .lst h o r => .lst (m.lst _ _ h o).1 (m.lst _ _ h o).2 (RepL.mp m r)
  | _, _, .fl h r => .fl (h.elim (fun z => .inl (m.lst _ _ z.1 z.2)) .inr) (RepL.mp m r)
  | _, _, .dct h o r => .dct (m.dct _ _ h o).1 (m.dct _ _ h o).2 (RepK.mp m r)
  | _, _, .ref => .ref
theorem RepL.mp (m : Mp K ok ok' H H') : ∀ {vs : List V} {ds : List D}, RepL K ok H vs ds → RepL K ok' H' vs ds
  | _, _, .nil => .nil
  | _, _, .cons h t => .cons (Rep.mp m h) (RepL.mp m t)
theorem RepK.mp (m : Mp K ok ok' H H') : ∀ {vs : List (Key × V)} {ds : List (Key × D)}, RepK K ok H vs ds → RepK K ok' H' vs ds
  | _, _, .nil => .nil
  | _, _, .cons h t => .cons (Rep.mp m h) (RepK.mp m t)
end
end
section
variable {K : Fg} {ρ : Ad} {H : Hp} {S : Store} {σ : L2.St} {δ : DEnv} {a : Addr} {od : Obj} {ks : List (Key × V)}
theorem CellOk.mp {b : Addr} {ρ' : Ad} {H' : Hp} (m : Mp K (free ρ) (free ρ') H H') (hb : H' b = H b) : ∀ {c : Cell}, CellOk K ρ H b c → CellOk K ρ' H' b c
  | .lst _, ⟨xs, h, r⟩ => ⟨xs, hb.trans h, r.mp m⟩
  | .dct _, ⟨xs, h, r⟩ => ⟨xs, hb.trans h, r.mp m⟩
  | .dead, h => h
theorem rd_ne {b : Addr} {u v : HO} {o : HO} (e : H a = some o) (h : Rd H b u) (n : ∀ w, o ≠ .frz w u) (n2 : o ≠ u) : b ≠ a := fun z => by
  subst z
  rcases h with h | ⟨w, h⟩
  · rw [e] at h; cases h; exact n2 rfl
  · rw [e] at h; cases h; exact n _ rfl
theorem rd_upd {b : Addr} {u o : HO} (ne : b ≠ a) (h : Rd H b u) : Rd (upd H a o) b u := h.imp (fun h => by rw [upd_ne ne]; exact h) fun ⟨w, h⟩ => ⟨w, by rw [upd_ne ne]; exact h⟩
theorem Mp.lock (h : H a = some (.dK ks)) : Mp K (free ρ) (free ρ) H (upd H a (.frz od (.dK ks))) where
  tup := fun b xs r => rd_upd (rd_ne (v := .dK ks) h r (fun _ z => by cases z) fun z => by cases z) r
  lst := fun b xs r f => ⟨rd_upd (rd_ne (v := .dK ks) h r (fun _ z => by cases z) fun z => by cases z) r, f⟩
  dct := fun b xs r f => ⟨by
    by_cases e : b = a
    · subst e
      rcases r with r | ⟨w, r⟩
      · rw [h] at r; cases r; exact .inr ⟨od, upd_same⟩
      · rw [h] at r; cases r
    · exact rd_upd e r, f⟩
theorem Mp.unlock (h : H a = some (.frz od (.dK ks))) : Mp K (free ρ) (free ρ) H (upd H a (.dK ks)) where
  tup := fun b xs r => rd_upd (rd_ne (v := .dK ks) h r (fun _ z => by cases z) fun z => by cases z) r
  lst := fun b xs r f => ⟨rd_upd (rd_ne (v := .dK ks) h r (fun _ z => by cases z) fun z => by cases z) r, f⟩
  dct := fun b xs r f => ⟨by
    by_cases e : b = a
    · subst e
      rcases r with r | ⟨w, r⟩
      · rw [h] at r; cases r
      · rw [h] at r; cases r; exact .inl upd_same
    · exact rd_upd e r, f⟩
theorem Ok.relock {o : HO} (k : Ok K ρ S H) (f : free ρ a) (m : Mp K (free ρ) (free ρ) H (upd H a o)) : Ok K ρ S (upd H a o) :=
  ⟨k.len, k.nd, fun i b e => let ⟨c, h, q⟩ := k.live i b e; ⟨c, h, q.mp m (upd_ne fun z => f.1 (by rw [← z]; exact List.mem_of_getElem? e))⟩, k.dead,
    fun b z => let ⟨f1, m1⟩ := k.rsv b z; ⟨f1, m1.keep fun _ q => by rw [upd_ne fun y => f.2 (by rw [← y]; exact z)]; exact q⟩⟩
theorem RepU.mp {ρ' : Ad} {H' : Hp} {v : V} (m : Mp K (free ρ) (free ρ) H H') : ∀ {u : U}, RepU K ρ H v u → RepU K ρ H' v u
  | .d _, h => Rep.mp m h
  | .loc i, h => h
theorem EnvOk.mp {H' : Hp} (m : Mp K (free ρ) (free ρ) H H') (e : EnvOk K ρ H σ δ) : EnvOk K ρ H' σ δ := ⟨e.len, fun i u h => let ⟨v, a, r⟩ := e.at_ i u h; ⟨v, a, r.mp (ρ' := ρ) m⟩⟩
theorem RepK.keyAt {ok : Addr → Prop} : ∀ {ks : List (Key × V)} {es : List (Key × D)} {i : Nat} {d : D}, RepK K ok H ks es → (es.map fun kv => kD kv.1)[i]? = some d → ∃ k v, ks[i]? = some (k, v) ∧ d = kD k
  | _, _, _, _, .nil, h => by simp at h
  | _, _, 0, _, .cons _ _, h => ⟨_, _, rfl, by simpa using h.symm⟩
  | _, _, i + 1, _, .cons _ t, h => by
    obtain ⟨k, v, h1, h2⟩ := RepK.keyAt (i := i) t (by simpa using h)
    exact ⟨k, v, by simpa using h1, h2⟩
theorem Wk.keys {es : List (Key × D)} (f : some a ∉ ρ.cs) (h : H a = some (.frz od (.dK ks))) (r : RepK K (free ρ) H ks es) : Wk K ρ H (Itk a od ks) (es.map fun kv => kD kv.1) := by
  have at_ : ∀ {ρ' H'}, Lat ρ H ρ' H' → H' a = some (.frz od (.dK ks)) := fun l => l.keep a _ h f
  refine ⟨fun i d ρ' S' H' e l k' => ⟨at_ l, ?_⟩, fun i d ρ' S' H' x H'' e l k' y => ?_, fun ρ' S' H' l k' => ⟨at_ l, by rw [List.length_map, r.length]; exact Nat.le_refl _⟩⟩
  · obtain ⟨k, v, h1, _⟩ := RepK.keyAt r e
    exact (List.getElem?_eq_some_iff.mp h1).1
  · obtain ⟨rfl, kk, v, h1, rfl⟩ := y
    obtain ⟨k2, v2, h2, rfl⟩ := RepK.keyAt r e
    rw [h1] at h2
    cases h2
    exact ⟨Nxt.refl, k', rep_kD _⟩
end
theorem lcD_calm (t : Tg) (mt : MT) (me : ME) (δ : DEnv) : ∀ (ds : List D) (S : Store) (x : XD) (S' : Store), lcD t mt me δ ds S ≠ .exc x S'
  | [], _, _, _ => fun h => by cases h
  | d :: ds, S, x, S' => fun h => by
    unfold lcD at h
    cases ha : t.apply (.d d) δ with
    | none => simp only [ha] at h; cases h
    | some δ1 =>
      simp only [ha] at h
      cases hm : mt δ1 S with
      | exc y S1 => rw [hm] at h; cases h
      | stuck => rw [hm] at h; cases h
      | ok c S1 =>
        rw [hm] at h
        simp only [Res.calm_ok, Res.ok_bind] at h
        cases c with
        | false => exact lcD_calm t mt me δ ds S1 x S' h
        | true =>
          simp only [if_true] at h
          cases hm2 : me δ1 S1 with
          | exc y S2 => rw [hm2] at h; cases h
          | stuck => rw [hm2] at h; cases h
          | ok u S2 =>
            rw [hm2] at h
            simp only [Res.calm_ok, Res.ok_bind] at h
            cases u with
            | loc n => cases h
            | d y =>
              cases hl : lcD t mt me δ ds S2 with
              | exc z S3 => exact lcD_calm t mt me δ ds S2 z S3 hl
              | stuck => simp only [hl] at h; cases h
              | ok ys S3 => simp only [hl] at h; cases h
/-- [me for t in d if mt], d at the slot i -/
def mLcK (i : Nat) (t : Tg) (mt : MT) (me : ME) (vs : List Nat) : ME := fun δ S => match δ[i]? with
  | some (some (.d (.dct es))) => if (es.map fun kv => kD kv.1).length ≤ sizeLine then (lcD t mt me (wipeD vs δ) (es.map fun kv => kD kv.1) S).bind fun ys S2 => .ok (.d (.lst ys)) S2 else .stuck
  | _ => .stuck
section
variable {X : Cx} {W : WX} {pos : Pos} {elt tg iter : Expr} {ifs : List Expr} {scope : Scope} {own : List (Str × Nat)} {t : Tg} {mt : MT} {me : ME} {i : Nat}
theorem pm_lcK (hc : X.calm = true) (hN : X.N.Nodup) (hi : PE X iter (tVar i)) (ok : BlkOk X.N X.env.scope scope own) (hv : ∀ i ∈ t.slots, i ∈ own.map (·.2))
    (hg : ∀ (s : Shared) (H : Hp) (C : Addr) (cl : List (Str × Addr)) (fp : List Addr), PMG (X.blk s H scope (compEnvC scope cl C X.env) fp) tg t) (ht : ∀ (s : Shared) (H : Hp) (C : Addr) (cl : List (Str × Addr)) (fp : List Addr), PMTs (X.blk s H scope (compEnvC scope cl C X.env) fp) W0 ifs mt)
    (he : ∀ (s : Shared) (H : Hp) (C : Addr) (cl : List (Str × Addr)) (fp : List Addr), PM (X.blk s H scope (compEnvC scope cl C X.env) fp) W0 elt me) (hs : ∀ x, foldedSetIterable iter X.env x = pure x := by intro _; rfl) :
    PM X W (.ListComp elt [⟨tg, iter, ifs, 0⟩] scope pos) (mLcK i t mt me (own.map (·.2))) := by
  have base := pe_lc (pos := pos) (g := tG X.K t) (tt := tT X.K W0 mt) (te := tE X.K W0 me) hc hN (pi_keys (tg := tg) hi) ok hg ht he hs
  -- read with the dict locked already
  have frozen : ∀ {σ : L2.St} {ρ : Ad} {H : Hp} {δ : DEnv} {S : Store} {a : Addr} {od : Obj} {ks : List (Key × V)} {es : List (Key × D)} {Q : VK}, EnvOk X.K ρ H σ δ → Ok X.K ρ S H → σ[i]? = some (some (.ref a)) → free ρ a → H a = some (.frz od (.dK ks)) → RepK X.K (free ρ) H ks es →
      Post X.K W σ ρ H (if (es.map fun kv => kD kv.1).length ≤ sizeLine then (lcD t mt me (wipeD (own.map (·.2)) δ) (es.map fun kv => kD kv.1) S).bind fun ys S2 => .ok (U.d (.lst ys)) S2 else .stuck) (fun u ρ' H' => ∀ v, RepU X.K ρ' H' v u → Q v H') →
      tLc (iKeys (tVar i)) (tG X.K t) (tT X.K W0 mt) (tE X.K W0 me) (own.map (·.2)) σ H Q := by
    intro σ ρ H δ S a od ks es Q e k hσ f h r p
    refine ⟨.ref a, hσ, a, od, rfl, .inl ⟨ks, h, ?_⟩⟩
    exact lc_body (J := Itk a od ks) hv e k (Wk.keys f.1 h r) p
  refine ⟨fun pins s σ H Q I ⟨ρ, δ, S, e, k, p⟩ => ?_⟩
  unfold mLcK at p
  cases hd : δ[i]? with
  | none => simp only [hd] at p; exact p.elim
  | some o =>
    cases o with
    | none => simp only [hd] at p; exact p.elim
    | some u =>
      cases u with
      | loc n => simp only [hd] at p; exact p.elim
      | d x =>
        cases x with
        | dct es =>
          simp only [hd] at p
          obtain ⟨v, hσ, r⟩ := e.at_ i _ hd
          cases r with
          | @dct a ks _ ha fa rk =>
            rcases ha with ha | ⟨od, ha⟩
            · refine (pe_lock base).run pins s σ H Q I ⟨a, .dK ks, ha, trivial, fun od => ?_⟩
              have m := Mp.lock (K := X.K) (ρ := ρ) (od := od) ha
              refine frozen (e.mp m) (k.relock fa m) hσ fa upd_same (rk.mp m) ?_
              by_cases hz : (es.map fun kv => kD kv.1).length ≤ sizeLine
              case neg => rw [if_neg hz] at p; exact p.elim
              rw [if_pos hz] at p ⊢
              cases hl : lcD t mt me (wipeD (own.map (·.2)) δ) (es.map fun kv => kD kv.1) S with
              | exc y S1 => exact absurd hl (lcD_calm _ _ _ _ _ _ _ _)
              | stuck => rw [hl] at p; exact p.elim
              | ok ys S1 =>
                rw [hl] at p
                intro ρ' H' n' k' v rv
                have h' : H' a = some (.frz od (.dK ks)) := n'.keep a _ upd_same fa.1
                have fa' : free ρ' a := (n'.rd (.inl upd_same) fa).2
                have m' := Mp.unlock (K := X.K) (ρ := ρ') h'
                refine ⟨h', p ρ' _ ⟨n'.pre, n'.rs, fun b o eb fb => ?_, fun b z => ?_⟩ (k'.relock fa' m') v (RepU.mp (ρ' := ρ') m' rv)⟩
                · by_cases hb : b = a
                  · subst hb; rw [upd_same, ← eb, ha]
                  · rw [upd_ne hb]; exact n'.keep b o (by rw [upd_ne hb]; exact eb) fb
                · rcases n'.new b z with y | y
                  · exact .inl y
                  · by_cases hb : b = a
                    · subst hb; rw [upd_same] at y; cases y
                    · rw [upd_ne hb] at y; exact .inr y
            · exact base.run pins s σ H Q I (frozen e k hσ fa ha rk p)
        | _ => simp only [hd] at p; exact p.elim
end
end DL

set_option Elab.async false
set_option linter.all false
set_option maxRecDepth 100000
set_option maxHeartbeats 4000000
/-! DHas: a def of the module that means m, as its callers see it -/
namespace DL
open PySem PySem.Spec PyProof.Rows L2

def Has (P : Program) (w : World) (K : Fg) (mg : Str → Option Value) (base : Heap) (k : Nat) (x : Str) (ps : List Str) (m : Fn) : Prop :=
  ∃ f fd, FnG P w K mg base k f fd ps m ∧ Binds K fd ps [] ∧ PySem.W.keepIn K (.ref f) = true ∧ mg x = some (.ref f)
section
variable {P : Program} {w : World} {K : Fg} {mg : Str → Option Value} {base : Heap} {j k : Nat} {x : Str} {ps : List Str} {m : Fn}
theorem Has.mono (h : Has P w K mg base j x ps m) (le : j ≤ k) : Has P w K mg base k x ps m := by
  obtain ⟨f, fd, a, b, c, d⟩ := h
  exact ⟨f, fd, a.mono le, b, c, d⟩
theorem Has.none {f : Addr} {fd : FuncData} (b : Binds K fd ps []) (c : PySem.W.keepIn K (.ref f) = true) (d : mg x = some (.ref f)) : Has P w K mg base k x ps (fun _ _ => .stuck) := ⟨f, fd, FnG.none, b, c, d⟩
end
section
variable {X : Cx} {W : WX} {pos p : Pos} {k : Nat} {ps : List Str} {m : Fn} {x : Str} {e : Expr} {es : List Expr} {ma : MA}
theorem pm_callH (h : Has X.prog X.w X.K X.mg X.base k x ps m) (hr : Room k X.A) (hgd : X.A.guards = some []) (tk : Takes X W) (hg : Gl X x) (ha : PMA X W (e :: es) ma)
    (hdb : (x == ("__debug__" : Str)) = false := by decide) (he : starEach (e :: es) X.env = (false, eval e X.env) :: starEach es X.env := by rfl) (hpl : (backTo pos (starEach es X.env)).any (·.1) = false := by rfl) : PM X W (.Call (.Name x p) (e :: es) [] pos) (mFn m ma) := by
  obtain ⟨f, fd, a, b, c, d⟩ := h
  exact pm_call a hr hgd tk hg d c b ha hdb he hpl
theorem pm_callHS (h : Has X.prog X.w X.K X.mg X.base k x ps m) (hr : Room k X.A) (hgd : X.A.guards = some []) (tk : Takes X W) (hg : Gl X x) (ha : PMA X W (e :: es) ma)
    (hdb : (x == ("__debug__" : Str)) = false := by decide) (he : starEach (e :: es) X.env = (false, eval e X.env) :: starEach es X.env := by rfl) (hst : (backTo pos (starEach es X.env)).any (·.1) = true := by rfl) : PM X W (.Call (.Name x p) (e :: es) [] pos) (mFn m ma) := by
  obtain ⟨f, fd, a, b, c, d⟩ := h
  exact pm_callS a hr hgd tk hg d c b ha hdb he hst
theorem pm_callH0 (h : Has X.prog X.w X.K X.mg X.base k x ps m) (hr : Room k X.A) (hgd : X.A.guards = some []) (tk : Takes X W) (hg : Gl X x) (hdb : (x == ("__debug__" : Str)) = false := by decide) : PM X W (.Call (.Name x p) [] [] pos) (mFn m mNil) := by
  obtain ⟨f, fd, a, b, c, d⟩ := h
  exact pm_call0 a hr hgd tk hg d c b hdb
end
theorem u100 {A : Around} {k : Nat} (hr : Room k A) : A.units + 100 < cLine := by have := hr.un; omega
/-! ### targets that may take cells -/
def setU (is : List Nat) (us : List U) (δ : DEnv) : DEnv := (is.zip us).foldl (fun δ p => δ.set p.1 (some p.2)) δ
def tGU (K : Fg) (is : List Nat) : TGs := fun vs σ H Q => ∃ ρ δ us, EnvOk K ρ H σ δ ∧ RepUs K ρ H vs us ∧ us.length = is.length ∧ ∀ σ', EnvOk K ρ H σ' (setU is us δ) → Q σ' H
def PMGU (X : Cx) (es : List Expr) (is : List Nat) : Prop := PGs X es (tGU X.K is)
section
variable {X : Cx} {W : WX} {pos : Pos} {ma : MA}
theorem pmgu_nil : PMGU X [] [] := ⟨fun pins s σ H vs us Q I r ⟨ρ, δ, ws, e, rl, hl, q⟩ => pgs_nil.run pins s σ H vs us Q I r (by
  cases rl with
  | nil => exact ⟨rfl, q σ e⟩
  | cons _ _ => cases hl)⟩
theorem pmgu_cons {i : Nat} {is : List Nat} {x : Str} {es : List Expr} {p : Pos} (hN : X.N.Nodup) (hi : X.N[i]? = some x) (hx : Loc X.env.scope x) (h2 : PMGU X es is) (hf : X.fn x = true ∨ X.env.scope.names.lookup x = some .local := by first | exact .inl rfl | exact .inr rfl | assumption)
    (hs : (assignEach (.Name x p :: es) X.env).map (·.2) = assign (.Name x p) X.env :: (assignEach es X.env).map (·.2) := by rfl) : PMGU X (.Name x p :: es) (i :: is) :=
  ⟨fun pins s σ H vs us Q I r ⟨ρ, δ, ws, e, rl, hl, q⟩ => (pgs_cons (pg_name hN hi hx hf) h2 hs).run pins s σ H vs us Q I r (by
    cases rl with
    | nil => cases hl
    | cons h t => exact ⟨_, _, rfl, ρ, _, _, e.set h, t, by simpa using hl, q⟩)⟩
theorem pms_tupC {es ts : List Expr} {kt k2 : Nat} {pt p2 : Pos} {is : List Nat} (hc : X.calm = true) (ha : PMA X W es ma) (hg : PMGU X ts is) (hz : is.length ≤ sizeLine := by decide) (hn : (assignEach ts X.env).length = is.length := by rfl) (hst : (assignEach ts X.env).findIdx? (·.1) = none := by rfl)
    (hs : swapsWithSole [.Tuple ts kt pt] (.Tuple es k2 p2) pos.line X.env = pure false := by rfl) (hw : swappedStores [.Tuple ts kt pt] (.Tuple es k2 p2) X.env = pure none := by rfl)
    (h1 : (assignEach [.Tuple ts kt pt] X.env).map (·.2) = [assign (.Tuple ts kt pt) X.env] := by rfl) : PMS X W (.Assign [.Tuple ts kt pt] (.Tuple es k2 p2) pos) (mPar is ma) :=
  pimpS (ps_asg (pe_tup ha) (pg_tup hc hg hn hst) hs hw h1) fun D σ H ⟨ρ0, H0, ρ, δ, S, n0, e, k, p⟩ => tA.inS n0 e k p fun vs us ρ1 H1 S1 _ n1 e1 k1 r1 p1 => by
    by_cases hl : us.length = is.length
    case neg => rw [if_neg hl] at p1; exact p1.elim
    rw [if_pos hl] at p1
    have hv : vs.length = is.length := by rw [r1.length]; exact hl
    refine ⟨by rw [hv]; exact hz, fun a ha' => ⟨a, vs, rfl, SqT.of upd_same, hv, ?_⟩⟩
    have nx : Nxt ρ1 H1 ρ1 (upd H1 a (.tup vs)) := Nxt.laid ha'
    exact ⟨ρ1, δ, us, e1.nxt nx k1, r1.nxt nx k1, hl, fun σ' e' => p1 σ' ρ1 _ (n1.trans nx) (k1.laid ha') e'⟩
end
end DL
namespace DL
open PySem PySem.Spec PyProof.Rows L2
theorem blk_of {N : List Str} {sc scope : Scope} {own : List (Str × Nat)} (k : scope.kind = .function)
    (h : decide ((∀ y ∈ scope.names, scope.names.lookup y.1 = some y.2) ∧ (∀ p ∈ own, N[p.2]? = some p.1) ∧ (∀ y ∈ scope.names, y.2 = .free → sc.names.lookup y.1 = some .cell ∨ sc.names.lookup y.1 = some .free) ∧
      ∀ y ∈ scope.names, y.2 = .local ∨ y.2 = .cell → y.1 ∈ own.map (·.1) ∨ y.1 ∉ N) = true) : BlkOk N sc scope own :=
  let ⟨a, b, c, d⟩ := of_decide_eq_true h
  ⟨k, a, b, c, d⟩
end DL

set_option Elab.async false
set_option linter.all false
set_option maxRecDepth 100000
set_option maxHeartbeats 4000000
/-! printed by gen.py: the defs' meanings and that they have them -/
namespace W
open PySem PySem.Spec PyProof.Rows L2 DL
def top (i : Nat) : Stmt := PySem.Challenge.pw_blameplaces_k08_whole_values.main.body.getD i (.Pass ⟨0, 0, 0, 0⟩)
section
variable {P : Program} {w : World} {K : Fg} {mg : Str → Option Value} {base : Heap} {k : Nat}
/-! ### is_integer -/
abbrev s_is_integer : Stmt := top 1
def b_is_integer : MS :=
  (mRet (mAndV (mIsi .int (mVar 0)) (mNotV (mIsi .bool (mVar 0)))))
def f_is_integer : Fn := callM 1 1 (b_is_integer)
theorem sc_is_integer : FnScope ["thing"] ["thing"] (defScope s_is_integer) := ⟨rfl, rfl, rfl, by decide +kernel, rfl, by decide +kernel, by decide +kernel⟩
theorem fn_is_integer {f : Addr} {fd : FuncData} (F : Fun K "is_integer" "is_integer" s_is_integer f fd) (z_isinstance : mg "isinstance" = none) (z_int : mg "int" = none) (z_bool : mg "bool" = none) :
    FnG P w K mg base (k + 1) f fd ["thing"] (f_is_integer) := by
  refine fnG_of F sc_is_integer (fun cdv A outer s H E hr hg => ?_)
  have sc := sc_is_integer
  have u1 := hu_of hr
  have u64 := hr.units
  have uR := u100 hr
  exact (pmss_one (pms_ret (pm_and (pm_isi .int rfl z_isinstance rfl z_int (by decide +kernel) (pm_var (pv 0))) (pm_one (pm_not (pm_isi .bool rfl z_isinstance rfl z_bool (by decide +kernel) (pm_var (pv 0))))))))
theorem ok_is_integer {f : Addr} {fd : FuncData} (F : Fun K "is_integer" "is_integer" s_is_integer f fd) (bF : Binds K fd ["thing"] []) (mF : mg "is_integer" = some (.ref f)) (z_isinstance : mg "isinstance" = none) (z_int : mg "int" = none) (z_bool : mg "bool" = none) :
    Has P w K mg base (k + 1) "is_integer" ["thing"] (f_is_integer) := ⟨f, fd, fn_is_integer F z_isinstance z_int z_bool, bF, F.kp, mF⟩

/-! ### computed -/
abbrev s_computed : Stmt := top 3
def b_computed : MS :=
  (mMatch (mVar 0) fun x => (if x = "+" then (mRet (m2 dAdd (mVar 1) (mVar 2))) else (if x = "-" then (mRet (m2 dSub (mVar 1) (mVar 2))) else (if x = "*" then (mRet (m2 dMul (mVar 1) (mVar 2))) else (if x = "div" then (mRet (mIf (mTest (m2 dEq (mVar 2) (mC (.int 0)))) (mC .non) (m2 dFdiv (mVar 1) (mVar 2)))) else (if x = "mod" then (mRet (mIf (mTest (m2 dEq (mVar 2) (mC (.int 0)))) (mC .non) (m2 dMod (mVar 1) (mVar 2)))) else (if x = "least" then (mRet (mCall dMin (mCons (mVar 1) (mCons (mVar 2) mNil)))) else (if x = "most" then (mRet (mCall dMax (mCons (mVar 1) (mCons (mVar 2) mNil)))) else (if x = "=" then (mRet (mCall dInt (mCons (m2 dEq (mVar 1) (mVar 2)) mNil))) else (mRet (mIf (mTest (m2 dEq (mVar 0) (mC (.str "<")))) (mCall dInt (mCons (m2 dLt (mVar 1) (mVar 2)) mNil)) (mCall dInt (mCons (m2 dLe (mVar 1) (mVar 2)) mNil)))))))))))))
def f_computed : Fn := callM 3 3 (b_computed)
theorem sc_computed : FnScope ["word", "one", "other"] ["word", "one", "other"] (defScope s_computed) := ⟨rfl, rfl, rfl, by decide +kernel, rfl, by decide +kernel, by decide +kernel⟩
theorem fn_computed {f : Addr} {fd : FuncData} (F : Fun K "computed" "computed" s_computed f fd) (z_int : mg "int" = none) (z_max : mg "max" = none) (z_min : mg "min" = none) :
    FnG P w K mg base (k + 1) f fd ["word", "one", "other"] (f_computed) := by
  refine fnG_of F sc_computed (fun cdv A outer s H E hr hg => ?_)
  have sc := sc_computed
  have u1 := hu_of hr
  have u64 := hr.units
  have uR := u100 hr
  exact (pmss_one (pms_match (pm_var (pv 0)) (pmc_cons (pmss_one (pms_ret (pm_bin od_add (pm_var (pv 1)) (pm_var (pv 2))))) (pmc_cons (pmss_one (pms_ret (pm_bin od_sub (pm_var (pv 1)) (pm_var (pv 2))))) (pmc_cons (pmss_one (pms_ret (pm_bin od_mul (pm_var (pv 1)) (pm_var (pv 2))))) (pmc_cons (pmss_one (pms_ret (pm_if (pmt_cmp (od_eq u64) (pm_var (pv 2)) pm_int (nomark _)) pm_non (pm_bin od_fdiv (pm_var (pv 1)) (pm_var (pv 2)))))) (pmc_cons (pmss_one (pms_ret (pm_if (pmt_cmp (od_eq u64) (pm_var (pv 2)) pm_int (nomark _)) pm_non (pm_bin od_mod (pm_var (pv 1)) (pm_var (pv 2)))))) (pmc_cons (pmss_one (pms_ret (pm_callB (cd_min rfl) rfl z_min (by decide +kernel) (pma_cons (pm_var (pv 1)) (pma_cons (pm_var (pv 2)) pma_nil))))) (pmc_cons (pmss_one (pms_ret (pm_callB (cd_max rfl) rfl z_max (by decide +kernel) (pma_cons (pm_var (pv 1)) (pma_cons (pm_var (pv 2)) pma_nil))))) (pmc_cons (pmss_one (pms_ret (pm_callTy cd_int rfl z_int (by decide +kernel) (pma_cons (pm_cmp (od_eq u64) (pm_var (pv 1)) (pm_var (pv 2)) (nomark _)) pma_nil)))) (pmc_last (pmss_one (pms_ret (pm_if (pmt_cmp (od_eq u64) (pm_var (pv 0)) pm_str (nomark _)) (pm_callTy cd_int rfl z_int (by decide +kernel) (pma_cons (pm_cmp od_lt (pm_var (pv 1)) (pm_var (pv 2)) (nomark _)) pma_nil)) (pm_callTy cd_int rfl z_int (by decide +kernel) (pma_cons (pm_cmp od_le (pm_var (pv 1)) (pm_var (pv 2)) (nomark _)) pma_nil))))))))))))))))
theorem ok_computed {f : Addr} {fd : FuncData} (F : Fun K "computed" "computed" s_computed f fd) (bF : Binds K fd ["word", "one", "other"] []) (mF : mg "computed" = some (.ref f)) (z_int : mg "int" = none) (z_max : mg "max" = none) (z_min : mg "min" = none) :
    Has P w K mg base (k + 1) "computed" ["word", "one", "other"] (f_computed) := ⟨f, fd, fn_computed F z_int z_max z_min, bF, F.kp, mF⟩

/-! ### lazy_value -/
abbrev s_lazy_value : Stmt := top 4
def b_lazy_value (g_valued : Fn) : MS :=
  (mSeq (mStarT (mVar 1) 2 [2, 3, 4])
    (mSeq (mSet 5 (mFn g_valued (mCons (mVar 0) (mCons (mVar 3) mNil))))
    (mSeq (mIfS (mTest (m2 dIs (mVar 5) (mC .non))) (mRet (mC .non)) mSkip)
    (mSeq (mIfS (mTest (m2 dEq (mVar 2) (mC (.str "if")))) (mRet (mFn g_valued (mCons (mVar 0) (mCons (mIf (mTest (m2 dNe (mVar 5) (mC (.int 0)))) (m2 dIx (mVar 4) (mC (.int 0))) (m2 dIx (mVar 4) (mC (.int 1)))) mNil)))) mSkip)
    (mSeq (mIfS (mTest (m2 dEq (m2 dNe (mVar 5) (mC (.int 0))) (m2 dEq (mVar 2) (mC (.str "or"))))) (mRet (mCall dInt (mCons (m2 dNe (mVar 5) (mC (.int 0))) mNil))) mSkip)
    (mSeq (mSet 5 (mFn g_valued (mCons (mVar 0) (mCons (m2 dIx (mVar 4) (mC (.int 0))) mNil))))
    (mRet (mIf (mTest (m2 dIs (mVar 5) (mC .non))) (mC .non) (mCall dInt (mCons (m2 dNe (mVar 5) (mC (.int 0))) mNil))))))))))
def f_lazy_value (g_valued : Fn) : Fn := callM 2 6 (b_lazy_value g_valued)
theorem sc_lazy_value : FnScope ["known", "e", "word", "test", "parts", "found"] ["known", "e"] (defScope s_lazy_value) := ⟨rfl, rfl, rfl, by decide +kernel, rfl, by decide +kernel, by decide +kernel⟩
theorem fn_lazy_value {f : Addr} {fd : FuncData} {g_valued : Fn} (F : Fun K "lazy_value" "lazy_value" s_lazy_value f fd)
    (h_valued : Has P w K mg base k "valued" ["known", "e"] g_valued) (z_int : mg "int" = none) :
    FnG P w K mg base (k + 1) f fd ["known", "e"] (f_lazy_value g_valued) := by
  refine fnG_of F sc_lazy_value (fun cdv A outer s H E hr hg => ?_)
  have sc := sc_lazy_value
  have u1 := hu_of hr
  have u64 := hr.units
  have uR := u100 hr
  exact (pmss_cons (pms_starT (ts' := [.Name "word" ⟨26, 4, 26, 8⟩, .Name "test" ⟨26, 10, 26, 14⟩, .Name "parts" ⟨26, 17, 26, 22⟩]) rfl (pm_var (pv 1)) (pmgs_cons sc.nd (i := 2) rfl (.inl rfl) (pmgs_cons sc.nd (i := 3) rfl (.inl rfl) (pmgs_cons sc.nd (i := 4) rfl (.inl rfl) pmgs_nil))))
    (pmss_cons (pms_set (i := 5) sc.nd rfl (.inl rfl) (pm_callH h_valued hr hg (takes_of rfl rfl rfl rfl) rfl (pma_cons (pm_var (pv 0)) (pma_cons (pm_var (pv 3)) pma_nil))))
    (pmss_cons (pms_if (pmt_cmp od_is (pm_var (pv 5)) pm_non (nomark _)) (pmss_one (pms_ret pm_non)) pmss_nil)
    (pmss_cons (pms_if (pmt_cmp (od_eq u64) (pm_var (pv 2)) pm_str (nomark _)) (pmss_one (pms_ret (pm_callH h_valued hr hg (takes_of rfl rfl rfl rfl) rfl (pma_cons (pm_var (pv 0)) (pma_cons (pm_if (pmt_cmp (od_ne u64) (pm_var (pv 5)) pm_int (nomark _)) (pm_ix u1 (pm_var (pv 4)) pm_int (fun _ _ => rfl)) (pm_ix u1 (pm_var (pv 4)) pm_int (fun _ _ => rfl))) pma_nil))))) pmss_nil)
    (pmss_cons (pms_if (pmt_cmp (od_eq u64) (pm_cmp (od_ne u64) (pm_var (pv 5)) pm_int (nomark _)) (pm_cmp (od_eq u64) (pm_var (pv 2)) pm_str (nomark _)) (nomark _)) (pmss_one (pms_ret (pm_callTy cd_int rfl z_int (by decide +kernel) (pma_cons (pm_cmp (od_ne u64) (pm_var (pv 5)) pm_int (nomark _)) pma_nil)))) pmss_nil)
    (pmss_cons (pms_set (i := 5) sc.nd rfl (.inl rfl) (pm_callH h_valued hr hg (takes_of rfl rfl rfl rfl) rfl (pma_cons (pm_var (pv 0)) (pma_cons (pm_ix u1 (pm_var (pv 4)) pm_int (fun _ _ => rfl)) pma_nil))))
    (pmss_one (pms_ret (pm_if (pmt_cmp od_is (pm_var (pv 5)) pm_non (nomark _)) pm_non (pm_callTy cd_int rfl z_int (by decide +kernel) (pma_cons (pm_cmp (od_ne u64) (pm_var (pv 5)) pm_int (nomark _)) pma_nil)))))))))))
theorem ok_lazy_value {f : Addr} {fd : FuncData} {g_valued : Fn} (F : Fun K "lazy_value" "lazy_value" s_lazy_value f fd) (bF : Binds K fd ["known", "e"] []) (mF : mg "lazy_value" = some (.ref f))
    (h_valued : Has P w K mg base k "valued" ["known", "e"] g_valued) (z_int : mg "int" = none) :
    Has P w K mg base (k + 1) "lazy_value" ["known", "e"] (f_lazy_value g_valued) := ⟨f, fd, fn_lazy_value F h_valued z_int, bF, F.kp, mF⟩

/-! ### strict_value -/
abbrev s_strict_value : Stmt := top 5
def b_strict_value (g_valued : Fn) (g_computed : Fn) : MS :=
  (mSeq (mStarT (mVar 1) 1 [2, 3])
    (mSeq (mSet 4 (mLstC mNil))
    (mSeq (mFor (mSeqI (mVar 3)) (.nm 5) (mSeq (mExpr (mMeth isL aAppend (mVar 4) (mCons (mFn g_valued (mCons (mVar 0) (mCons (mVar 5) mNil))) mNil)))
    (mIfS (mTest (m2 dIs (m2 dIx (mVar 4) (m1 dNeg (mC (.int 1)))) (mC .non))) (mRet (mC .non)) mSkip)))
    (mSeq (mIfS (mTest (m2 dEq (mVar 2) (mC (.str "not")))) (mRet (mCall dInt (mCons (m2 dEq (m2 dIx (mVar 4) (mC (.int 0))) (mC (.int 0))) mNil))) mSkip)
    (mRet (mIf (mTest (m2 dEq (mVar 2) (mC (.str "neg")))) (m1 dNeg (m2 dIx (mVar 4) (mC (.int 0)))) (mFn g_computed (mCons (mVar 2) (mStar (mVar 4) mNil)))))))))
def f_strict_value (g_valued : Fn) (g_computed : Fn) : Fn := callM 2 6 (b_strict_value g_valued g_computed)
theorem sc_strict_value : FnScope ["known", "e", "word", "parts", "found", "part"] ["known", "e"] (defScope s_strict_value) := ⟨rfl, rfl, rfl, by decide +kernel, rfl, by decide +kernel, by decide +kernel⟩
theorem fn_strict_value {f : Addr} {fd : FuncData} {g_valued : Fn} {g_computed : Fn} (F : Fun K "strict_value" "strict_value" s_strict_value f fd)
    (h_valued : Has P w K mg base k "valued" ["known", "e"] g_valued)
    (h_computed : Has P w K mg base k "computed" ["word", "one", "other"] g_computed) (z_int : mg "int" = none) :
    FnG P w K mg base (k + 1) f fd ["known", "e"] (f_strict_value g_valued g_computed) := by
  refine fnG_of F sc_strict_value (fun cdv A outer s H E hr hg => ?_)
  have sc := sc_strict_value
  have u1 := hu_of hr
  have u64 := hr.units
  have uR := u100 hr
  exact (pmss_cons (pms_starT (ts' := [.Name "word" ⟨37, 4, 37, 8⟩, .Name "parts" ⟨37, 11, 37, 16⟩]) rfl (pm_var (pv 1)) (pmgs_cons sc.nd (i := 2) rfl (.inl rfl) (pmgs_cons sc.nd (i := 3) rfl (.inl rfl) pmgs_nil)))
    (pmss_cons (pms_set (i := 4) sc.nd rfl (.inl rfl) (pm_lstC pma_nil))
    (pmss_cons (pms_for (passes_of rfl) rfl (pmi_seq (pm_var (pv 3))) (pmg_name sc.nd rfl (.inl rfl)) (pmss_cons (pms_expr (pm_meth PySem.F.plainAttrs_list PySem.F.slot_list_append PySem.F.type_list_append (.inl ⟨rfl, rfl⟩) md_append (pm_var (pv 4)) (pma_cons (pm_callH h_valued hr hg (takes_of rfl rfl rfl rfl) rfl (pma_cons (pm_var (pv 0)) (pma_cons (pm_var (pv 5)) pma_nil))) pma_nil)))
    (pmss_one (pms_if (pmt_cmp od_is (pm_ix u1 (pm_var (pv 4)) (pm_un ud_neg pm_int) (fun _ _ => rfl)) pm_non (nomark _)) (pmss_one (pms_ret pm_non)) pmss_nil))))
    (pmss_cons (pms_if (pmt_cmp (od_eq u64) (pm_var (pv 2)) pm_str (nomark _)) (pmss_one (pms_ret (pm_callTy cd_int rfl z_int (by decide +kernel) (pma_cons (pm_cmp (od_eq u64) (pm_ix u1 (pm_var (pv 4)) pm_int (fun _ _ => rfl)) pm_int (nomark _)) pma_nil)))) pmss_nil)
    (pmss_one (pms_ret (pm_if (pmt_cmp (od_eq u64) (pm_var (pv 2)) pm_str (nomark _)) (pm_un ud_neg (pm_ix u1 (pm_var (pv 4)) pm_int (fun _ _ => rfl))) (pm_callHS h_computed hr hg (takes_of rfl rfl rfl rfl) rfl (pma_cons (pm_var (pv 2)) (pma_star (pm_var (pv 4)) pma_nil))))))))))
theorem ok_strict_value {f : Addr} {fd : FuncData} {g_valued : Fn} {g_computed : Fn} (F : Fun K "strict_value" "strict_value" s_strict_value f fd) (bF : Binds K fd ["known", "e"] []) (mF : mg "strict_value" = some (.ref f))
    (h_valued : Has P w K mg base k "valued" ["known", "e"] g_valued)
    (h_computed : Has P w K mg base k "computed" ["word", "one", "other"] g_computed) (z_int : mg "int" = none) :
    Has P w K mg base (k + 1) "strict_value" ["known", "e"] (f_strict_value g_valued g_computed) := ⟨f, fd, fn_strict_value F h_valued h_computed z_int, bF, F.kp, mF⟩

/-! ### valued -/
abbrev s_valued : Stmt := top 6
def b_valued (g_is_integer : Fn) (g_lazy_value : Fn) (g_strict_value : Fn) : MS :=
  (mSeq (mIfS (mTru (mFn g_is_integer (mCons (mVar 1) mNil))) (mRet (mVar 1)) mSkip)
    (mSeq (mIfS (mTru (mIsi .str (mVar 1))) (mRet (m2 dIx (mVar 0) (mVar 1))) mSkip)
    (mRet (mIf (mTest (m2 dIn (m2 dIx (mVar 1) (mC (.int 0))) (mTup (mCons (mC (.str "and")) (mCons (mC (.str "or")) (mCons (mC (.str "if")) mNil)))))) (mFn g_lazy_value (mCons (mVar 0) (mCons (mVar 1) mNil))) (mFn g_strict_value (mCons (mVar 0) (mCons (mVar 1) mNil)))))))
def f_valued (g_is_integer : Fn) (g_lazy_value : Fn) (g_strict_value : Fn) : Fn := callM 2 2 (b_valued g_is_integer g_lazy_value g_strict_value)
theorem sc_valued : FnScope ["known", "e"] ["known", "e"] (defScope s_valued) := ⟨rfl, rfl, rfl, by decide +kernel, rfl, by decide +kernel, by decide +kernel⟩
theorem fn_valued {f : Addr} {fd : FuncData} {g_is_integer : Fn} {g_lazy_value : Fn} {g_strict_value : Fn} (F : Fun K "valued" "valued" s_valued f fd)
    (h_is_integer : Has P w K mg base k "is_integer" ["thing"] g_is_integer)
    (h_lazy_value : Has P w K mg base k "lazy_value" ["known", "e"] g_lazy_value)
    (h_strict_value : Has P w K mg base k "strict_value" ["known", "e"] g_strict_value) (z_isinstance : mg "isinstance" = none) (z_str : mg "str" = none) :
    FnG P w K mg base (k + 1) f fd ["known", "e"] (f_valued g_is_integer g_lazy_value g_strict_value) := by
  refine fnG_of F sc_valued (fun cdv A outer s H E hr hg => ?_)
  have sc := sc_valued
  have u1 := hu_of hr
  have u64 := hr.units
  have uR := u100 hr
  exact (pmss_cons (pms_if (pmt_tru (pm_callH h_is_integer hr hg (takes_of rfl rfl rfl rfl) rfl (pma_cons (pm_var (pv 1)) pma_nil))) (pmss_one (pms_ret (pm_var (pv 1)))) pmss_nil)
    (pmss_cons (pms_if (pmt_tru (pm_isi .str rfl z_isinstance rfl z_str (by decide +kernel) (pm_var (pv 1)))) (pmss_one (pms_ret (pm_ix u1 (pm_var (pv 0)) (pm_var (pv 1)) (fun _ _ => rfl)))) pmss_nil)
    (pmss_one (pms_ret (pm_if (pmt_cmp (od_in u1) (pm_ix u1 (pm_var (pv 1)) pm_int (fun _ _ => rfl)) (pm_tup (pma_cons pm_str (pma_cons pm_str (pma_cons pm_str pma_nil)))) (by with_unfolding_all rfl)) (pm_callH h_lazy_value hr hg (takes_of rfl rfl rfl rfl) rfl (pma_cons (pm_var (pv 0)) (pma_cons (pm_var (pv 1)) pma_nil))) (pm_callH h_strict_value hr hg (takes_of rfl rfl rfl rfl) rfl (pma_cons (pm_var (pv 0)) (pma_cons (pm_var (pv 1)) pma_nil))))))))
theorem ok_valued {f : Addr} {fd : FuncData} {g_is_integer : Fn} {g_lazy_value : Fn} {g_strict_value : Fn} (F : Fun K "valued" "valued" s_valued f fd) (bF : Binds K fd ["known", "e"] []) (mF : mg "valued" = some (.ref f))
    (h_is_integer : Has P w K mg base k "is_integer" ["thing"] g_is_integer)
    (h_lazy_value : Has P w K mg base k "lazy_value" ["known", "e"] g_lazy_value)
    (h_strict_value : Has P w K mg base k "strict_value" ["known", "e"] g_strict_value) (z_isinstance : mg "isinstance" = none) (z_str : mg "str" = none) :
    Has P w K mg base (k + 1) "valued" ["known", "e"] (f_valued g_is_integer g_lazy_value g_strict_value) := ⟨f, fd, fn_valued F h_is_integer h_lazy_value h_strict_value z_isinstance z_str, bF, F.kp, mF⟩

/-! ### value_in -/
abbrev s_value_in : Stmt := top 7
def b_value_in (g_valued : Fn) : MS :=
  (mRet (mFn g_valued (mCons (mDZ (mVar 0) (mVar 1)) (mCons (mVar 2) mNil))))
def f_value_in (g_valued : Fn) : Fn := callM 3 3 (b_value_in g_valued)
theorem sc_value_in : FnScope ["names", "values", "e"] ["names", "values", "e"] (defScope s_value_in) := ⟨rfl, rfl, rfl, by decide +kernel, rfl, by decide +kernel, by decide +kernel⟩
theorem fn_value_in {f : Addr} {fd : FuncData} {g_valued : Fn} (F : Fun K "value_in" "value_in" s_value_in f fd)
    (h_valued : Has P w K mg base k "valued" ["known", "e"] g_valued) (z_dict : mg "dict" = none) (z_zip : mg "zip" = none) :
    FnG P w K mg base (k + 1) f fd ["names", "values", "e"] (f_value_in g_valued) := by
  refine fnG_of F sc_value_in (fun cdv A outer s H E hr hg => ?_)
  have sc := sc_value_in
  have u1 := hu_of hr
  have u64 := hr.units
  have uR := u100 hr
  exact (pmss_one (pms_ret (pm_callH h_valued hr hg (takes_of rfl rfl rfl rfl) rfl (pma_cons (pm_dz rfl rfl z_dict rfl z_zip (pm_var (pv 0)) (pm_var (pv 1))) (pma_cons (pm_var (pv 2)) pma_nil)))))
theorem ok_value_in {f : Addr} {fd : FuncData} {g_valued : Fn} (F : Fun K "value_in" "value_in" s_value_in f fd) (bF : Binds K fd ["names", "values", "e"] []) (mF : mg "value_in" = some (.ref f))
    (h_valued : Has P w K mg base k "valued" ["known", "e"] g_valued) (z_dict : mg "dict" = none) (z_zip : mg "zip" = none) :
    Has P w K mg base (k + 1) "value_in" ["names", "values", "e"] (f_value_in g_valued) := ⟨f, fd, fn_value_in F h_valued z_dict z_zip, bF, F.kp, mF⟩

/-! ### _law_feed -/
abbrev s__law_feed : Stmt := top 9
def b__law_feed : MS :=
  (mRet (mDictC [((mC (.str "cells")), (mCall dList (mCons (mSl (mVar 0) moNone (moSome (mC (.int 63)))) mNil))), ((mC (.str "at")), (mC (.int 0))), ((mC (.str "left")), (mC (.int 0))), ((mC (.str "count")), (mC (.int 0)))]))
def f__law_feed : Fn := callK 1 1 (b__law_feed)
theorem sc__law_feed : FnScope ["_law_script"] ["_law_script"] (defScope s__law_feed) := ⟨rfl, rfl, rfl, by decide +kernel, rfl, by decide +kernel, by decide +kernel⟩
theorem fn__law_feed {f : Addr} {fd : FuncData} (F : Fun K "_law_feed" "_law_feed" s__law_feed f fd) (z_list : mg "list" = none) :
    FnG P w K mg base (k + 1) f fd ["_law_script"] (f__law_feed) := by
  refine fnK_of F sc__law_feed (fun cdv A outer s H E hr hg => ?_)
  have sc := sc__law_feed
  have u1 := hu_of hr
  have u64 := hr.units
  have uR := u100 hr
  exact (pmss_one (pms_ret (pm_dictC (pmps_cons pm_str (pm_callTy cd_list rfl z_list (by decide +kernel) (pma_cons (pm_sl (pm_var (pv 0)) pmo_none (pmo_some pm_int)) pma_nil)) (pmps_cons pm_str pm_int (pmps_cons pm_str pm_int (pmps_cons pm_str pm_int pmps_nil)))))))
theorem ok__law_feed {f : Addr} {fd : FuncData} (F : Fun K "_law_feed" "_law_feed" s__law_feed f fd) (bF : Binds K fd ["_law_script"] []) (mF : mg "_law_feed" = some (.ref f)) (z_list : mg "list" = none) :
    Has P w K mg base (k + 1) "_law_feed" ["_law_script"] (f__law_feed) := ⟨f, fd, fn__law_feed F z_list, bF, F.kp, mF⟩

/-! ### _law_draw -/
abbrev s__law_draw : Stmt := top 10
def b__law_draw : MS :=
  (mSeq (mPut (mVar 0) (mC (.str "count")) (m2 dAdd (m2 dIx (mVar 0) (mC (.str "count"))) (mC (.int 1))))
    (mSeq (mIfS (mTest (m2 dGt (m2 dIx (mVar 0) (mC (.str "left"))) (mC (.int 0)))) (mSeq (mSet 2 (m2 dMod (mCall dInt (mCons (m2 dIx (mVar 0) (mC (.str "left"))) mNil)) (mVar 1)))
    (mSeq (mPut (mVar 0) (mC (.str "left")) (m2 dFdiv (m2 dIx (mVar 0) (mC (.str "left"))) (mVar 1)))
    (mRet (mVar 2)))) mSkip)
    (mSeq (mSet 3 (m2 dIx (mVar 0) (mC (.str "at"))))
    (mSeq (mPut (mVar 0) (mC (.str "at")) (m2 dAdd (mVar 3) (mC (.int 1))))
    (mSeq (mSet 4 (mIf (mTest (m2 dNe (m2 dIx (mVar 0) (mC (.str "cells"))) (mLst mNil))) (m2 dIx (m2 dIx (mVar 0) (mC (.str "cells"))) (m2 dMod (mCall dInt (mCons (mVar 3) mNil)) (mCall dLen (mCons (m2 dIx (mVar 0) (mC (.str "cells"))) mNil)))) (mC (.int 71))))
    (mSeq (mIfS (mAndT (mTest (m2 dGe (mVar 4) (m2 dPow (mC (.int 10)) (mC (.int 18))))) (mTest (m2 dLt (mVar 3) (mCall dLen (mCons (m2 dIx (mVar 0) (mC (.str "cells"))) mNil))))) (mSeq (mPut (mVar 0) (mC (.str "left")) (m2 dFdiv (mVar 4) (mVar 1)))
    (mRet (m2 dMod (mCall dInt (mCons (mVar 4) mNil)) (mVar 1)))) mSkip)
    (mSeq (mSet 5 (m2 dMod (mCall dInt (mCons (m2 dAdd (m2 dAdd (m2 dMod (mCall dInt (mCons (mVar 4) mNil)) (mC (.int 1000000579))) (m2 dMul (mC (.int 180007)) (m2 dIx (mVar 0) (mC (.str "count"))))) (mC (.int 103))) mNil)) (mC (.int 2147483323))))
    (mSeq (mSet 5 (m2 dMod (mCall dInt (mCons (m2 dAdd (m2 dAdd (m2 dMul (mVar 5) (mVar 5)) (m2 dMul (mC (.int 3800191)) (m2 dIx (mVar 0) (mC (.str "count"))))) (mC (.int 67))) mNil)) (mC (.int 2147483269))))
    (mRet (m2 dMod (mCall dInt (mCons (m2 dFdiv (m2 dMod (mCall dInt (mCons (m2 dAdd (m2 dMul (mVar 5) (mVar 5)) (m2 dMul (mC (.int 83)) (mVar 5))) mNil)) (mC (.int 2147483249))) (mC (.int 16))) mNil)) (mVar 1)))))))))))
def f__law_draw : Fn := callM 2 6 (b__law_draw)
theorem sc__law_draw : FnScope ["_law_feed_here", "_law_many", "_law_digit", "_law_at", "_law_cell", "_law_mixed"] ["_law_feed_here", "_law_many"] (defScope s__law_draw) := ⟨rfl, rfl, rfl, by decide +kernel, rfl, by decide +kernel, by decide +kernel⟩
theorem fn__law_draw {f : Addr} {fd : FuncData} (F : Fun K "_law_draw" "_law_draw" s__law_draw f fd) (z_int : mg "int" = none) (z_len : mg "len" = none) :
    FnG P w K mg base (k + 1) f fd ["_law_feed_here", "_law_many"] (f__law_draw) := by
  refine fnG_of F sc__law_draw (fun cdv A outer s H E hr hg => ?_)
  have sc := sc__law_draw
  have u1 := hu_of hr
  have u64 := hr.units
  have uR := u100 hr
  exact (pmss_cons (pms_put u1 (pm_var (pv 0)) pm_str (pm_bin od_add (pm_ix u1 (pm_var (pv 0)) pm_str (fun _ _ => rfl)) pm_int))
    (pmss_cons (pms_if (pmt_cmp od_gt (pm_ix u1 (pm_var (pv 0)) pm_str (fun _ _ => rfl)) pm_int (nomark _)) (pmss_cons (pms_set (i := 2) sc.nd rfl (.inl rfl) (pm_bin od_mod (pm_callTy cd_int rfl z_int (by decide +kernel) (pma_cons (pm_ix u1 (pm_var (pv 0)) pm_str (fun _ _ => rfl)) pma_nil)) (pm_var (pv 1))))
    (pmss_cons (pms_put u1 (pm_var (pv 0)) pm_str (pm_bin od_fdiv (pm_ix u1 (pm_var (pv 0)) pm_str (fun _ _ => rfl)) (pm_var (pv 1))))
    (pmss_one (pms_ret (pm_var (pv 2)))))) pmss_nil)
    (pmss_cons (pms_set (i := 3) sc.nd rfl (.inl rfl) (pm_ix u1 (pm_var (pv 0)) pm_str (fun _ _ => rfl)))
    (pmss_cons (pms_put u1 (pm_var (pv 0)) pm_str (pm_bin od_add (pm_var (pv 3)) pm_int))
    (pmss_cons (pms_set (i := 4) sc.nd rfl (.inl rfl) (pm_if (pmt_cmp (od_ne u64) (pm_ix u1 (pm_var (pv 0)) pm_str (fun _ _ => rfl)) (pm_lst pma_nil) (nomark _)) (pm_ix u1 (pm_ix u1 (pm_var (pv 0)) pm_str (fun _ _ => rfl)) (pm_bin od_mod (pm_callTy cd_int rfl z_int (by decide +kernel) (pma_cons (pm_var (pv 3)) pma_nil)) (pm_callB cd_len rfl z_len (by decide +kernel) (pma_cons (pm_ix u1 (pm_var (pv 0)) pm_str (fun _ _ => rfl)) pma_nil))) (fun _ _ => rfl)) pm_int))
    (pmss_cons (pms_if (pmt_of (pmw_and (pmt_cmp od_ge (pm_var (pv 4)) (pm_bin od_pow pm_int pm_int) (nomark _)) (pmw_and1 (pmt_cmp od_lt (pm_var (pv 3)) (pm_callB cd_len rfl z_len (by decide +kernel) (pma_cons (pm_ix u1 (pm_var (pv 0)) pm_str (fun _ _ => rfl)) pma_nil)) (nomark _))))) (pmss_cons (pms_put u1 (pm_var (pv 0)) pm_str (pm_bin od_fdiv (pm_var (pv 4)) (pm_var (pv 1))))
    (pmss_one (pms_ret (pm_bin od_mod (pm_callTy cd_int rfl z_int (by decide +kernel) (pma_cons (pm_var (pv 4)) pma_nil)) (pm_var (pv 1)))))) pmss_nil)
    (pmss_cons (pms_set (i := 5) sc.nd rfl (.inl rfl) (pm_bin od_mod (pm_callTy cd_int rfl z_int (by decide +kernel) (pma_cons (pm_bin od_add (pm_bin od_add (pm_bin od_mod (pm_callTy cd_int rfl z_int (by decide +kernel) (pma_cons (pm_var (pv 4)) pma_nil)) pm_int) (pm_bin od_mul pm_int (pm_ix u1 (pm_var (pv 0)) pm_str (fun _ _ => rfl)))) pm_int) pma_nil)) pm_int))
    (pmss_cons (pms_set (i := 5) sc.nd rfl (.inl rfl) (pm_bin od_mod (pm_callTy cd_int rfl z_int (by decide +kernel) (pma_cons (pm_bin od_add (pm_bin od_add (pm_bin od_mul (pm_var (pv 5)) (pm_var (pv 5))) (pm_bin od_mul pm_int (pm_ix u1 (pm_var (pv 0)) pm_str (fun _ _ => rfl)))) pm_int) pma_nil)) pm_int))
    (pmss_one (pms_ret (pm_bin od_mod (pm_callTy cd_int rfl z_int (by decide +kernel) (pma_cons (pm_bin od_fdiv (pm_bin od_mod (pm_callTy cd_int rfl z_int (by decide +kernel) (pma_cons (pm_bin od_add (pm_bin od_mul (pm_var (pv 5)) (pm_var (pv 5))) (pm_bin od_mul pm_int (pm_var (pv 5)))) pma_nil)) pm_int) pm_int) pma_nil)) (pm_var (pv 1)))))))))))))
theorem ok__law_draw {f : Addr} {fd : FuncData} (F : Fun K "_law_draw" "_law_draw" s__law_draw f fd) (bF : Binds K fd ["_law_feed_here", "_law_many"] []) (mF : mg "_law_draw" = some (.ref f)) (z_int : mg "int" = none) (z_len : mg "len" = none) :
    Has P w K mg base (k + 1) "_law_draw" ["_law_feed_here", "_law_many"] (f__law_draw) := ⟨f, fd, fn__law_draw F z_int z_len, bF, F.kp, mF⟩

/-! ### _law_sizes -/
abbrev s__law_sizes : Stmt := top 11
def b__law_sizes : MS :=
  (mSeq (mSet 0 (mDictC [((mC (.str "not")), (mC (.int 1))), ((mC (.str "neg")), (mC (.int 1))), ((mC (.str "if")), (mC (.int 3)))]))
    (mSeq (mFor (mSeqI (mTup (mCons (mC (.str "+")) (mCons (mC (.str "-")) (mCons (mC (.str "*")) (mCons (mC (.str "div")) (mCons (mC (.str "mod")) (mCons (mC (.str "least")) (mCons (mC (.str "most")) (mCons (mC (.str "=")) (mCons (mC (.str "<")) (mCons (mC (.str "<=")) (mCons (mC (.str "and")) (mCons (mC (.str "or")) mNil)))))))))))))) (.nm 1) (mPut (mVar 0) (mVar 1) (mC (.int 2))))
    (mRet (mVar 0))))
def f__law_sizes : Fn := callM 0 2 (b__law_sizes)
theorem sc__law_sizes : FnScope ["_law_found", "_law_word"] [] (defScope s__law_sizes) := ⟨rfl, rfl, rfl, by decide +kernel, rfl, by decide +kernel, by decide +kernel⟩
theorem fn__law_sizes {f : Addr} {fd : FuncData} (F : Fun K "_law_sizes" "_law_sizes" s__law_sizes f fd) :
    FnG P w K mg base (k + 1) f fd [] (f__law_sizes) := by
  refine fnG_of F sc__law_sizes (fun cdv A outer s H E hr hg => ?_)
  have sc := sc__law_sizes
  have u1 := hu_of hr
  have u64 := hr.units
  have uR := u100 hr
  exact (pmss_cons (pms_set (i := 0) sc.nd rfl (.inl rfl) (pm_dictC (pmps_cons pm_str pm_int (pmps_cons pm_str pm_int (pmps_cons pm_str pm_int pmps_nil)))))
    (pmss_cons (pms_for (passes_of rfl) rfl (pmi_seq (pm_tup (pma_cons pm_str (pma_cons pm_str (pma_cons pm_str (pma_cons pm_str (pma_cons pm_str (pma_cons pm_str (pma_cons pm_str (pma_cons pm_str (pma_cons pm_str (pma_cons pm_str (pma_cons pm_str (pma_cons pm_str pma_nil)))))))))))))) (pmg_name sc.nd rfl (.inl rfl)) (pmss_one (pms_put u1 (pm_var (pv 0)) (pm_var (pv 1)) pm_int)))
    (pmss_one (pms_ret (pm_var (pv 0))))))
theorem ok__law_sizes {f : Addr} {fd : FuncData} (F : Fun K "_law_sizes" "_law_sizes" s__law_sizes f fd) (bF : Binds K fd [] []) (mF : mg "_law_sizes" = some (.ref f)) :
    Has P w K mg base (k + 1) "_law_sizes" [] (f__law_sizes) := ⟨f, fd, fn__law_sizes F, bF, F.kp, mF⟩

/-! ### _law_names_in -/
abbrev s__law_names_in : Stmt := top 12
def b__law_names_in (g__law_names_in : Fn) : MS :=
  (mSeq (mIfS (mNotT (mTru (mIsi .tup (mVar 0)))) (mRet (mIf (mTru (mIsi .str (mVar 0))) (mLst (mCons (mVar 0) mNil)) (mLst mNil))) mSkip)
    (mSeq (mSet 1 (mLstC mNil))
    (mSeq (mFor (mSeqI (mSl (mVar 0) (moSome (mC (.int 1))) moNone)) (.nm 2) (mExpr (mMeth isL aExtend (mVar 1) (mCons (mLc (mSeqI (mFn g__law_names_in (mCons (mVar 2) mNil))) (.nm 3) (mTest (m2 dNotIn (mVar 3) (mVar 1))) (mVar 3) [3]) mNil))))
    (mRet (mVar 1)))))
def f__law_names_in (g__law_names_in : Fn) : Fn := callM 1 4 (b__law_names_in g__law_names_in)
theorem sc__law_names_in : FnScope ["_law_e", "_law_found", "_law_part", "_law_name"] ["_law_e"] (defScope s__law_names_in) := ⟨rfl, rfl, rfl, by decide +kernel, rfl, by decide +kernel, by decide +kernel⟩
theorem fn__law_names_in {f : Addr} {fd : FuncData} {g__law_names_in : Fn} (F : Fun K "_law_names_in" "_law_names_in" s__law_names_in f fd)
    (h__law_names_in : Has P w K mg base k "_law_names_in" ["_law_e"] g__law_names_in) (z_isinstance : mg "isinstance" = none) (z_tuple : mg "tuple" = none) (z_str : mg "str" = none) :
    FnG P w K mg base (k + 1) f fd ["_law_e"] (f__law_names_in g__law_names_in) := by
  refine fnG_of F sc__law_names_in (fun cdv A outer s H E hr hg => ?_)
  have sc := sc__law_names_in
  have u1 := hu_of hr
  have u64 := hr.units
  have uR := u100 hr
  exact (pmss_cons (pms_if (pmt_not (pmt_tru (pm_isi .tup rfl z_isinstance rfl z_tuple (by decide +kernel) (pm_var (pv 0))))) (pmss_one (pms_ret (pm_if (pmt_tru (pm_isi .str rfl z_isinstance rfl z_str (by decide +kernel) (pm_var (pv 0)))) (pm_lst (pma_cons (pm_var (pv 0)) pma_nil)) (pm_lst pma_nil)))) pmss_nil)
    (pmss_cons (pms_set (i := 1) sc.nd rfl (.inr rfl) (pm_lstC pma_nil))
    (pmss_cons (pms_for (passes_of rfl) rfl (pmi_seq (pm_sl (pm_var (pv 0)) (pmo_some pm_int) pmo_none)) (pmg_name sc.nd rfl (.inl rfl)) (pmss_one (pms_expr (pm_meth PySem.F.plainAttrs_list PySem.F.slot_list_extend PySem.F.type_list_extend (.inl ⟨rfl, rfl⟩) md_extend (pm_var (pv 1)) (pma_cons (pm_lc rfl sc.nd (pmi_seq (pm_callH h__law_names_in hr hg (takes_of rfl rfl rfl rfl) rfl (pma_cons (pm_var (pv 2)) pma_nil))) (own := [("_law_name", 3)]) (blk_of rfl (by kernel_rfl)) (by decide) (fun _ _ _ _ _ => (pmg_name sc.nd rfl (.inl rfl))) (fun _ _ _ _ _ => (pmts_one (pmt_cmp (od_notin u1) (pm_var (pv 3)) (pm_var (pv 1)) (by with_unfolding_all rfl)))) (fun _ _ _ _ _ => (pm_var (pv 3)))) pma_nil)))))
    (pmss_one (pms_ret (pm_var (pv 1)))))))
theorem ok__law_names_in {f : Addr} {fd : FuncData} {g__law_names_in : Fn} (F : Fun K "_law_names_in" "_law_names_in" s__law_names_in f fd) (bF : Binds K fd ["_law_e"] []) (mF : mg "_law_names_in" = some (.ref f))
    (h__law_names_in : Has P w K mg base k "_law_names_in" ["_law_e"] g__law_names_in) (z_isinstance : mg "isinstance" = none) (z_tuple : mg "tuple" = none) (z_str : mg "str" = none) :
    Has P w K mg base (k + 1) "_law_names_in" ["_law_e"] (f__law_names_in g__law_names_in) := ⟨f, fd, fn__law_names_in F h__law_names_in z_isinstance z_tuple z_str, bF, F.kp, mF⟩

/-! ### _law_leaf -/
abbrev s__law_leaf : Stmt := top 13
def b__law_leaf (g__law_draw : Fn) : MS :=
  (mSeq (mIfS (mOrT (mTest (m2 dEq (mVar 1) (mTup mNil))) (mTest (m2 dEq (mFn g__law_draw (mCons (mVar 0) (mCons (mC (.int 3)) mNil))) (mC (.int 0))))) (mRet (m2 dIx (mLst (mCons (mC (.int 0)) (mCons (mC (.int 1)) (mCons (mC (.int 2)) (mCons (m1 dNeg (mC (.int 1))) (mCons (mC (.int 3)) (mCons (m1 dNeg (mC (.int 2))) (mCons (mC (.int 7)) (mCons (mC (.int 1)) mNil))))))))) (mFn g__law_draw (mCons (mVar 0) (mCons (mC (.int 8)) mNil))))) mSkip)
    (mRet (m2 dIx (mVar 1) (mFn g__law_draw (mCons (mVar 0) (mCons (mCall dLen (mCons (mVar 1) mNil)) mNil))))))
def f__law_leaf (g__law_draw : Fn) : Fn := callM 2 2 (b__law_leaf g__law_draw)
theorem sc__law_leaf : FnScope ["_law_feed_here", "_law_names"] ["_law_feed_here", "_law_names"] (defScope s__law_leaf) := ⟨rfl, rfl, rfl, by decide +kernel, rfl, by decide +kernel, by decide +kernel⟩
theorem fn__law_leaf {f : Addr} {fd : FuncData} {g__law_draw : Fn} (F : Fun K "_law_leaf" "_law_leaf" s__law_leaf f fd)
    (h__law_draw : Has P w K mg base k "_law_draw" ["_law_feed_here", "_law_many"] g__law_draw) (z_len : mg "len" = none) :
    FnG P w K mg base (k + 1) f fd ["_law_feed_here", "_law_names"] (f__law_leaf g__law_draw) := by
  refine fnG_of F sc__law_leaf (fun cdv A outer s H E hr hg => ?_)
  have sc := sc__law_leaf
  have u1 := hu_of hr
  have u64 := hr.units
  have uR := u100 hr
  exact (pmss_cons (pms_if (pmt_of (pmw_or (pmt_cmp (od_eq u64) (pm_var (pv 1)) (pm_tup pma_nil) (nomark _)) (pmw_or1 (pmt_cmp (od_eq u64) (pm_callH h__law_draw hr hg (takes_of rfl rfl rfl rfl) rfl (pma_cons (pm_var (pv 0)) (pma_cons pm_int pma_nil))) pm_int (nomark _))))) (pmss_one (pms_ret (pm_ix u1 (pm_lst (pma_cons pm_int (pma_cons pm_int (pma_cons pm_int (pma_cons (pm_un ud_neg pm_int) (pma_cons pm_int (pma_cons (pm_un ud_neg pm_int) (pma_cons pm_int (pma_cons pm_int pma_nil))))))))) (pm_callH h__law_draw hr hg (takes_of rfl rfl rfl rfl) rfl (pma_cons (pm_var (pv 0)) (pma_cons pm_int pma_nil))) (fun _ _ => rfl)))) pmss_nil)
    (pmss_one (pms_ret (pm_ix u1 (pm_var (pv 1)) (pm_callH h__law_draw hr hg (takes_of rfl rfl rfl rfl) rfl (pma_cons (pm_var (pv 0)) (pma_cons (pm_callB cd_len rfl z_len (by decide +kernel) (pma_cons (pm_var (pv 1)) pma_nil)) pma_nil))) (fun _ _ => rfl)))))
theorem ok__law_leaf {f : Addr} {fd : FuncData} {g__law_draw : Fn} (F : Fun K "_law_leaf" "_law_leaf" s__law_leaf f fd) (bF : Binds K fd ["_law_feed_here", "_law_names"] []) (mF : mg "_law_leaf" = some (.ref f))
    (h__law_draw : Has P w K mg base k "_law_draw" ["_law_feed_here", "_law_many"] g__law_draw) (z_len : mg "len" = none) :
    Has P w K mg base (k + 1) "_law_leaf" ["_law_feed_here", "_law_names"] (f__law_leaf g__law_draw) := ⟨f, fd, fn__law_leaf F h__law_draw z_len, bF, F.kp, mF⟩

/-! ### _law_formula -/
abbrev s__law_formula : Stmt := top 14
def b__law_formula (g__law_draw : Fn) (g__law_leaf : Fn) (g__law_sizes : Fn) (g__law_formula : Fn) : MS :=
  (mSeq (mIfS (mOrT (mTest (m2 dLt (mVar 2) (mC (.int 1)))) (mTest (m2 dEq (mFn g__law_draw (mCons (mVar 0) (mCons (mC (.int 4)) mNil))) (mC (.int 0))))) (mRet (mFn g__law_leaf (mCons (mVar 0) (mCons (mVar 1) mNil)))) mSkip)
    (mSeq (mSet 3 (mLst (mCons (mC (.str "+")) (mCons (mC (.str "-")) (mCons (mC (.str "*")) (mCons (mC (.str "div")) (mCons (mC (.str "mod")) (mCons (mC (.str "least")) (mCons (mC (.str "most")) (mCons (mC (.str "=")) (mCons (mC (.str "<")) (mCons (mC (.str "<=")) (mCons (mC (.str "and")) (mCons (mC (.str "or")) (mCons (mC (.str "not")) (mCons (mC (.str "neg")) (mCons (mC (.str "if")) mNil)))))))))))))))))
    (mSeq (mSet 4 (m2 dIx (m2 dAdd (mVar 3) (mLst (mCons (mC (.str "if")) mNil))) (mFn g__law_draw (mCons (mVar 0) (mCons (mC (.int 16)) mNil)))))
    (mRet (m2 dAdd (mTup (mCons (mVar 4) mNil)) (mCall dTuple (mCons (mLc (mRange1 (m2 dIx (mFn g__law_sizes mNil) (mVar 4))) (.nm 5) mYes (mFn g__law_formula (mCons (mVar 0) (mCons (mVar 1) (mCons (m2 dSub (mVar 2) (mC (.int 1))) mNil)))) [5]) mNil)))))))
def f__law_formula (g__law_draw : Fn) (g__law_leaf : Fn) (g__law_sizes : Fn) (g__law_formula : Fn) : Fn := callM 3 6 (b__law_formula g__law_draw g__law_leaf g__law_sizes g__law_formula)
theorem sc__law_formula : FnScope ["_law_feed_here", "_law_names", "_law_deep", "_law_words", "_law_word", "_law_k"] ["_law_feed_here", "_law_names", "_law_deep"] (defScope s__law_formula) := ⟨rfl, rfl, rfl, by decide +kernel, rfl, by decide +kernel, by decide +kernel⟩
theorem fn__law_formula {f : Addr} {fd : FuncData} {g__law_draw : Fn} {g__law_leaf : Fn} {g__law_sizes : Fn} {g__law_formula : Fn} (F : Fun K "_law_formula" "_law_formula" s__law_formula f fd)
    (h__law_draw : Has P w K mg base k "_law_draw" ["_law_feed_here", "_law_many"] g__law_draw)
    (h__law_leaf : Has P w K mg base k "_law_leaf" ["_law_feed_here", "_law_names"] g__law_leaf)
    (h__law_sizes : Has P w K mg base k "_law_sizes" [] g__law_sizes)
    (h__law_formula : Has P w K mg base k "_law_formula" ["_law_feed_here", "_law_names", "_law_deep"] g__law_formula) (z_tuple : mg "tuple" = none) (z_range : mg "range" = none) :
    FnG P w K mg base (k + 1) f fd ["_law_feed_here", "_law_names", "_law_deep"] (f__law_formula g__law_draw g__law_leaf g__law_sizes g__law_formula) := by
  refine fnG_of F sc__law_formula (fun cdv A outer s H E hr hg => ?_)
  have sc := sc__law_formula
  have u1 := hu_of hr
  have u64 := hr.units
  have uR := u100 hr
  exact (pmss_cons (pms_if (pmt_of (pmw_or (pmt_cmp od_lt (pm_var (pv 2)) pm_int (nomark _)) (pmw_or1 (pmt_cmp (od_eq u64) (pm_callH h__law_draw hr hg (takes_of rfl rfl rfl rfl) rfl (pma_cons (pm_var (pv 0)) (pma_cons pm_int pma_nil))) pm_int (nomark _))))) (pmss_one (pms_ret (pm_callH h__law_leaf hr hg (takes_of rfl rfl rfl rfl) rfl (pma_cons (pm_var (pv 0)) (pma_cons (pm_var (pv 1)) pma_nil))))) pmss_nil)
    (pmss_cons (pms_set (i := 3) sc.nd rfl (.inl rfl) (pm_lst (pma_cons pm_str (pma_cons pm_str (pma_cons pm_str (pma_cons pm_str (pma_cons pm_str (pma_cons pm_str (pma_cons pm_str (pma_cons pm_str (pma_cons pm_str (pma_cons pm_str (pma_cons pm_str (pma_cons pm_str (pma_cons pm_str (pma_cons pm_str (pma_cons pm_str pma_nil)))))))))))))))))
    (pmss_cons (pms_set (i := 4) sc.nd rfl (.inl rfl) (pm_ix u1 (pm_bin od_add (pm_var (pv 3)) (pm_lst (pma_cons pm_str pma_nil))) (pm_callH h__law_draw hr hg (takes_of rfl rfl rfl rfl) rfl (pma_cons (pm_var (pv 0)) (pma_cons pm_int pma_nil))) (fun _ _ => rfl)))
    (pmss_one (pms_ret (pm_bin od_add (pm_tup (pma_cons (pm_var (pv 4)) pma_nil)) (pm_callTy cd_tuple rfl z_tuple (by decide +kernel) (pma_cons (pm_lc rfl sc.nd (pmi_range1 rfl z_range (pm_ix u1 (pm_callH0 h__law_sizes hr hg (takes_of rfl rfl rfl rfl) rfl) (pm_var (pv 4)) (fun _ _ => rfl))) (own := [("_law_k", 5)]) (blk_of rfl (by kernel_rfl)) (by decide) (fun _ _ _ _ _ => (pmg_name sc.nd rfl (.inl rfl))) (fun _ _ _ _ _ => pmts_nil) (fun _ _ _ _ _ => (pm_callH h__law_formula hr hg takes0 rfl (pma_cons (pm_var (pv 0)) (pma_cons (pm_var (pv 1)) (pma_cons (pm_bin od_sub (pm_var (pv 2)) pm_int) pma_nil)))))) pma_nil))))))))
theorem ok__law_formula {f : Addr} {fd : FuncData} {g__law_draw : Fn} {g__law_leaf : Fn} {g__law_sizes : Fn} {g__law_formula : Fn} (F : Fun K "_law_formula" "_law_formula" s__law_formula f fd) (bF : Binds K fd ["_law_feed_here", "_law_names", "_law_deep"] []) (mF : mg "_law_formula" = some (.ref f))
    (h__law_draw : Has P w K mg base k "_law_draw" ["_law_feed_here", "_law_many"] g__law_draw)
    (h__law_leaf : Has P w K mg base k "_law_leaf" ["_law_feed_here", "_law_names"] g__law_leaf)
    (h__law_sizes : Has P w K mg base k "_law_sizes" [] g__law_sizes)
    (h__law_formula : Has P w K mg base k "_law_formula" ["_law_feed_here", "_law_names", "_law_deep"] g__law_formula) (z_tuple : mg "tuple" = none) (z_range : mg "range" = none) :
    Has P w K mg base (k + 1) "_law_formula" ["_law_feed_here", "_law_names", "_law_deep"] (f__law_formula g__law_draw g__law_leaf g__law_sizes g__law_formula) := ⟨f, fd, fn__law_formula F h__law_draw h__law_leaf h__law_sizes h__law_formula z_tuple z_range, bF, F.kp, mF⟩

/-! ### _law_sums_right -/
abbrev s__law_sums_right : Stmt := top 15
def b__law_sums_right (g_value_in : Fn) : MS :=
  (mSeq (mPar [4, 5, 6] (mCons (mFn g_value_in (mCons (mVar 0) (mCons (mVar 1) (mCons (mVar 2) mNil)))) (mCons (mFn g_value_in (mCons (mVar 0) (mCons (mVar 1) (mCons (mVar 3) mNil)))) (mCons mDict0C mNil))))
    (mSeq (mFor (mSeqI (mTup (mCons (mC (.str "+")) (mCons (mC (.str "-")) (mCons (mC (.str "*")) (mCons (mC (.str "least")) (mCons (mC (.str "most")) (mCons (mC (.str "=")) (mCons (mC (.str "<")) (mCons (mC (.str "<=")) (mCons (mC (.str "div")) (mCons (mC (.str "mod")) mNil)))))))))))) (.nm 7) (mPut (mVar 6) (mVar 7) (mFn g_value_in (mCons (mVar 0) (mCons (mVar 1) (mCons (mTup (mCons (mVar 7) (mCons (mVar 2) (mCons (mVar 3) mNil)))) mNil))))))
    (mSeq (mFz (mIfS (mOrT (mTest (m2 dIs (mVar 4) (mC .non))) (mTest (m2 dIs (mVar 5) (mC .non)))) (mRet (m2 dEq (mLcK 6 (.nm 7) (mTest (m2 dIsNot (m2 dIx (mVar 6) (mVar 7)) (mC .non))) (mVar 7) [7]) (mLst mNil))) mSkip))
    (mSeq (mSet 8 (mDictC [((mC (.str "+")), (m2 dAdd (mVar 4) (mVar 5))), ((mC (.str "-")), (m2 dSub (mVar 4) (mVar 5))), ((mC (.str "*")), (m2 dMul (mVar 4) (mVar 5))), ((mC (.str "least")), (mCall dMin (mCons (mVar 4) (mCons (mVar 5) mNil)))), ((mC (.str "most")), (mCall dMax (mCons (mVar 4) (mCons (mVar 5) mNil))))]))
    (mSeq (mExpr (mMeth isDc aUpdate (mVar 8) (mCons (mDict [((mC (.str "=")), (mCall dInt (mCons (m2 dEq (mVar 4) (mVar 5)) mNil))), ((mC (.str "<")), (mCall dInt (mCons (m2 dLt (mVar 4) (mVar 5)) mNil))), ((mC (.str "<=")), (mCall dInt (mCons (m2 dLe (mVar 4) (mVar 5)) mNil)))]) mNil)))
    (mSeq (mFz (mIfS (mTest (m2 dNe (mLcK 8 (.nm 7) (mTest (m2 dNe (mCall dRepr (mCons (m2 dIx (mVar 6) (mVar 7)) mNil)) (mCall dRepr (mCons (m2 dIx (mVar 8) (mVar 7)) mNil)))) (mVar 7) [7]) (mLst mNil))) (mRet (mC (.bl false))) mSkip))
    (mSeq (mIfS (mTest (m2 dEq (mVar 5) (mC (.int 0)))) (mRet (mAndV (m2 dIs (m2 dIx (mVar 6) (mC (.str "div"))) (mC .non)) (m2 dIs (m2 dIx (mVar 6) (mC (.str "mod"))) (mC .non)))) mSkip)
    (mSeq (mSet 9 (m2 dIx (mVar 6) (mC (.str "mod"))))
    (mRet (mAndV (m2 dEq (m2 dAdd (m2 dMul (m2 dIx (mVar 6) (mC (.str "div"))) (mVar 5)) (mVar 9)) (mVar 4)) (mIf (mTest (m2 dGt (mVar 5) (mC (.int 0)))) (mChain dLe dLt (mC (.int 0)) (mVar 9) (mVar 5)) (mChain dLt dLe (mVar 5) (mVar 9) (mC (.int 0))))))))))))))
def f__law_sums_right (g_value_in : Fn) : Fn := callM 4 10 (b__law_sums_right g_value_in)
theorem sc__law_sums_right : FnScope ["_law_names", "_law_values", "_law_e", "_law_f", "_law_a", "_law_b", "_law_told", "_law_word", "_law_due", "_law_rest"] ["_law_names", "_law_values", "_law_e", "_law_f"] (defScope s__law_sums_right) := ⟨rfl, rfl, rfl, by decide +kernel, rfl, by decide +kernel, by decide +kernel⟩
theorem fn__law_sums_right {f : Addr} {fd : FuncData} {g_value_in : Fn} (F : Fun K "_law_sums_right" "_law_sums_right" s__law_sums_right f fd)
    (h_value_in : Has P w K mg base k "value_in" ["names", "values", "e"] g_value_in) (z_min : mg "min" = none) (z_max : mg "max" = none) (z_int : mg "int" = none) (z_repr : mg "repr" = none) :
    FnG P w K mg base (k + 1) f fd ["_law_names", "_law_values", "_law_e", "_law_f"] (f__law_sums_right g_value_in) := by
  refine fnG_of F sc__law_sums_right (fun cdv A outer s H E hr hg => ?_)
  have sc := sc__law_sums_right
  have u1 := hu_of hr
  have u64 := hr.units
  have uR := u100 hr
  exact (pmss_cons (pms_tupC rfl (pma_cons (pm_callH h_value_in hr hg (takes_of rfl rfl rfl rfl) rfl (pma_cons (pm_var (pv 0)) (pma_cons (pm_var (pv 1)) (pma_cons (pm_var (pv 2)) pma_nil)))) (pma_cons (pm_callH h_value_in hr hg (takes_of rfl rfl rfl rfl) rfl (pma_cons (pm_var (pv 0)) (pma_cons (pm_var (pv 1)) (pma_cons (pm_var (pv 3)) pma_nil)))) (pma_cons pm_dict0C pma_nil))) (pmgu_cons sc.nd (i := 4) rfl (.inl rfl) (pmgu_cons sc.nd (i := 5) rfl (.inl rfl) (pmgu_cons sc.nd (i := 6) rfl (.inr rfl) pmgu_nil))))
    (pmss_cons (pms_for (passes_of rfl) rfl (pmi_seq (pm_tup (pma_cons pm_str (pma_cons pm_str (pma_cons pm_str (pma_cons pm_str (pma_cons pm_str (pma_cons pm_str (pma_cons pm_str (pma_cons pm_str (pma_cons pm_str (pma_cons pm_str pma_nil)))))))))))) (pmg_name sc.nd rfl (.inl rfl)) (pmss_one (pms_put u1 (pm_var (pv 6)) (pm_var (pv 7)) (pm_callH h_value_in hr hg (takes_of rfl rfl rfl rfl) rfl (pma_cons (pm_var (pv 0)) (pma_cons (pm_var (pv 1)) (pma_cons (pm_tup (pma_cons (pm_var (pv 7)) (pma_cons (pm_var (pv 2)) (pma_cons (pm_var (pv 3)) pma_nil)))) pma_nil)))))))
    (pmss_cons (pms_fz (pms_if (pmt_of (pmw_or (pmt_cmp od_is (pm_var (pv 4)) pm_non (nomark _)) (pmw_or1 (pmt_cmp od_is (pm_var (pv 5)) pm_non (nomark _))))) (pmss_one (pms_ret (pm_cmp (od_eq u64) (pm_lcK rfl sc.nd (pv 6) (own := [("_law_word", 7)]) (blk_of rfl (by kernel_rfl)) (by decide) (fun _ _ _ _ _ => (pmg_name sc.nd rfl (.inl rfl))) (fun _ _ _ _ _ => (pmts_one (pmt_cmp od_isnot (pm_ix u1 (pm_var (pv 6)) (pm_var (pv 7)) (fun _ _ => rfl)) pm_non (nomark _)))) (fun _ _ _ _ _ => (pm_var (pv 7)))) (pm_lst pma_nil) (nomark _)))) pmss_nil))
    (pmss_cons (pms_set (i := 8) sc.nd rfl (.inr rfl) (pm_dictC (pmps_cons pm_str (pm_bin od_add (pm_var (pv 4)) (pm_var (pv 5))) (pmps_cons pm_str (pm_bin od_sub (pm_var (pv 4)) (pm_var (pv 5))) (pmps_cons pm_str (pm_bin od_mul (pm_var (pv 4)) (pm_var (pv 5))) (pmps_cons pm_str (pm_callB (cd_min rfl) rfl z_min (by decide +kernel) (pma_cons (pm_var (pv 4)) (pma_cons (pm_var (pv 5)) pma_nil))) (pmps_cons pm_str (pm_callB (cd_max rfl) rfl z_max (by decide +kernel) (pma_cons (pm_var (pv 4)) (pma_cons (pm_var (pv 5)) pma_nil))) pmps_nil)))))))
    (pmss_cons (pms_expr (pm_meth PySem.F.plainAttrs_dict PySem.F.slot_dict_update PySem.F.type_dict_update (.inr ⟨rfl, rfl⟩) md_update (pm_var (pv 8)) (pma_cons (pm_dict (pmps_cons pm_str (pm_callTy cd_int rfl z_int (by decide +kernel) (pma_cons (pm_cmp (od_eq u64) (pm_var (pv 4)) (pm_var (pv 5)) (nomark _)) pma_nil)) (pmps_cons pm_str (pm_callTy cd_int rfl z_int (by decide +kernel) (pma_cons (pm_cmp od_lt (pm_var (pv 4)) (pm_var (pv 5)) (nomark _)) pma_nil)) (pmps_cons pm_str (pm_callTy cd_int rfl z_int (by decide +kernel) (pma_cons (pm_cmp od_le (pm_var (pv 4)) (pm_var (pv 5)) (nomark _)) pma_nil)) pmps_nil)))) pma_nil)))
    (pmss_cons (pms_fz (pms_if (pmt_cmp (od_ne u64) (pm_lcK rfl sc.nd (pv 8) (own := [("_law_word", 7)]) (blk_of rfl (by kernel_rfl)) (by decide) (fun _ _ _ _ _ => (pmg_name sc.nd rfl (.inl rfl))) (fun _ _ _ _ _ => (pmts_one (pmt_cmp (od_ne u64) (pm_callB (cd_repr hg uR) rfl z_repr (by decide +kernel) (pma_cons (pm_ix u1 (pm_var (pv 6)) (pm_var (pv 7)) (fun _ _ => rfl)) pma_nil)) (pm_callB (cd_repr hg uR) rfl z_repr (by decide +kernel) (pma_cons (pm_ix u1 (pm_var (pv 8)) (pm_var (pv 7)) (fun _ _ => rfl)) pma_nil)) (nomark _)))) (fun _ _ _ _ _ => (pm_var (pv 7)))) (pm_lst pma_nil) (nomark _)) (pmss_one (pms_ret pm_bl)) pmss_nil))
    (pmss_cons (pms_if (pmt_cmp (od_eq u64) (pm_var (pv 5)) pm_int (nomark _)) (pmss_one (pms_ret (pm_and (pm_cmp od_is (pm_ix u1 (pm_var (pv 6)) pm_str (fun _ _ => rfl)) pm_non (nomark _)) (pm_one (pm_cmp od_is (pm_ix u1 (pm_var (pv 6)) pm_str (fun _ _ => rfl)) pm_non (nomark _)))))) pmss_nil)
    (pmss_cons (pms_set (i := 9) sc.nd rfl (.inl rfl) (pm_ix u1 (pm_var (pv 6)) pm_str (fun _ _ => rfl)))
    (pmss_one (pms_ret (pm_and (pm_cmp (od_eq u64) (pm_bin od_add (pm_bin od_mul (pm_ix u1 (pm_var (pv 6)) pm_str (fun _ _ => rfl)) (pm_var (pv 5))) (pm_var (pv 9))) (pm_var (pv 4)) (nomark _)) (pm_one (pm_if (pmt_cmp od_gt (pm_var (pv 5)) pm_int (nomark _)) (pm_chain od_le od_lt pm_int (pm_var (pv 9)) (pm_var (pv 5))) (pm_chain od_lt od_le (pm_var (pv 5)) (pm_var (pv 9)) pm_int))))))))))))))
theorem ok__law_sums_right {f : Addr} {fd : FuncData} {g_value_in : Fn} (F : Fun K "_law_sums_right" "_law_sums_right" s__law_sums_right f fd) (bF : Binds K fd ["_law_names", "_law_values", "_law_e", "_law_f"] []) (mF : mg "_law_sums_right" = some (.ref f))
    (h_value_in : Has P w K mg base k "value_in" ["names", "values", "e"] g_value_in) (z_min : mg "min" = none) (z_max : mg "max" = none) (z_int : mg "int" = none) (z_repr : mg "repr" = none) :
    Has P w K mg base (k + 1) "_law_sums_right" ["_law_names", "_law_values", "_law_e", "_law_f"] (f__law_sums_right g_value_in) := ⟨f, fd, fn__law_sums_right F h_value_in z_min z_max z_int z_repr, bF, F.kp, mF⟩

/-! ### _law_lazy_right -/
abbrev s__law_lazy_right : Stmt := top 16
def b__law_lazy_right (g_value_in : Fn) : MS :=
  (mSeq (mPar [4, 5] (mCons (mFn g_value_in (mCons (mVar 0) (mCons (mVar 1) (mCons (mVar 2) mNil)))) (mCons (mFn g_value_in (mCons (mVar 0) (mCons (mVar 1) (mCons (mVar 3) mNil)))) mNil)))
    (mSeq (mSet 6 (mIf (mTest (m2 dIs (mVar 5) (mC .non))) (mC .non) (mCall dInt (mCons (m2 dNe (mVar 5) (mC (.int 0))) mNil))))
    (mSeq (mSet 7 (mLst (mCons (mC .non) (mCons (mC .non) (mCons (mC .non) mNil)))))
    (mSeq (mIfS (mTest (m2 dIsNot (mVar 4) (mC .non))) (mSet 7 (mLst (mCons (mIf (mTest (m2 dNe (mVar 4) (mC (.int 0)))) (mVar 6) (mC (.int 0))) (mCons (mIf (mTest (m2 dNe (mVar 4) (mC (.int 0)))) (mC (.int 1)) (mVar 6)) (mCons (mIf (mTest (m2 dNe (mVar 4) (mC (.int 0)))) (mVar 5) (mVar 4)) mNil))))) mSkip)
    (mSeq (mSet 8 (mLst (mCons (mTup (mCons (mC (.str "and")) (mCons (mVar 2) (mCons (mVar 3) mNil)))) (mCons (mTup (mCons (mC (.str "or")) (mCons (mVar 2) (mCons (mVar 3) mNil)))) (mCons (mTup (mCons (mC (.str "if")) (mCons (mVar 2) (mCons (mVar 3) (mCons (mVar 2) mNil))))) mNil)))))
    (mSeq (mIfS (mTest (m2 dNe (mCall dRepr (mCons (mLc (mSeqI (mVar 8)) (.nm 9) mYes (mFn g_value_in (mCons (mVar 0) (mCons (mVar 1) (mCons (mVar 9) mNil)))) [9]) mNil)) (mCall dRepr (mCons (mVar 7) mNil)))) (mRet (mC (.bl false))) mSkip)
    (mSeq (mSet 7 (mIf (mTest (m2 dIs (mVar 4) (mC .non))) (m2 dMul (mLst (mCons (mC .non) mNil)) (mC (.int 3))) (mLst (mCons (mCall dInt (mCons (m2 dEq (mVar 4) (mC (.int 0))) mNil)) (mCons (m2 dSub (mC (.int 0)) (mVar 4)) (mCons (mCall dInt (mCons (m2 dNe (mVar 4) (mC (.int 0))) mNil)) mNil))))))
    (mSeq (mSet 8 (mLst (mCons (mTup (mCons (mC (.str "not")) (mCons (mVar 2) mNil))) (mCons (mTup (mCons (mC (.str "neg")) (mCons (mVar 2) mNil))) (mCons (mTup (mCons (mC (.str "not")) (mCons (mTup (mCons (mC (.str "not")) (mCons (mVar 2) mNil))) mNil))) mNil)))))
    (mSeq (mIfS (mTest (m2 dNe (mCall dRepr (mCons (mLc (mSeqI (mVar 8)) (.nm 9) mYes (mFn g_value_in (mCons (mVar 0) (mCons (mVar 1) (mCons (mVar 9) mNil)))) [9]) mNil)) (mCall dRepr (mCons (mVar 7) mNil)))) (mRet (mC (.bl false))) mSkip)
    (mSeq (mSet 8 (mLst (mCons (mTup (mCons (mC (.str "and")) (mCons (mC (.int 0)) (mCons (mVar 3) mNil)))) (mCons (mTup (mCons (mC (.str "or")) (mCons (mC (.int 1)) (mCons (mVar 3) mNil)))) (mCons (mTup (mCons (mC (.str "if")) (mCons (mC (.int 1)) (mCons (mVar 2) (mCons (mVar 3) mNil))))) (mCons (mTup (mCons (mC (.str "if")) (mCons (mC (.int 0)) (mCons (mVar 3) (mCons (mVar 2) mNil))))) (mCons (mTup (mCons (mC (.str "or")) (mCons (m1 dNeg (mC (.int 2))) (mCons (mVar 3) mNil)))) mNil)))))))
    (mRet (m2 dEq (mCall dRepr (mCons (mLc (mSeqI (mVar 8)) (.nm 9) mYes (mFn g_value_in (mCons (mVar 0) (mCons (mVar 1) (mCons (mVar 9) mNil)))) [9]) mNil)) (mCall dRepr (mCons (mLst (mCons (mC (.int 0)) (mCons (mC (.int 1)) (mCons (mVar 4) (mCons (mVar 4) (mCons (mC (.int 1)) mNil)))))) mNil))))))))))))))
def f__law_lazy_right (g_value_in : Fn) : Fn := callM 4 10 (b__law_lazy_right g_value_in)
theorem sc__law_lazy_right : FnScope ["_law_names", "_law_values", "_law_e", "_law_f", "_law_a", "_law_b", "_law_true_in", "_law_due", "_law_lot", "_law_own"] ["_law_names", "_law_values", "_law_e", "_law_f"] (defScope s__law_lazy_right) := ⟨rfl, rfl, rfl, by decide +kernel, rfl, by decide +kernel, by decide +kernel⟩
theorem fn__law_lazy_right {f : Addr} {fd : FuncData} {g_value_in : Fn} (F : Fun K "_law_lazy_right" "_law_lazy_right" s__law_lazy_right f fd)
    (h_value_in : Has P w K mg base k "value_in" ["names", "values", "e"] g_value_in) (z_int : mg "int" = none) (z_repr : mg "repr" = none) :
    FnG P w K mg base (k + 1) f fd ["_law_names", "_law_values", "_law_e", "_law_f"] (f__law_lazy_right g_value_in) := by
  refine fnG_of F sc__law_lazy_right (fun cdv A outer s H E hr hg => ?_)
  have sc := sc__law_lazy_right
  have u1 := hu_of hr
  have u64 := hr.units
  have uR := u100 hr
  exact (pmss_cons (pms_par (i := 4) (j := 5) rfl sc.nd rfl rfl (by decide) rfl rfl (pma_cons (pm_callH h_value_in hr hg (takes_of rfl rfl rfl rfl) rfl (pma_cons (pm_var (pv 0)) (pma_cons (pm_var (pv 1)) (pma_cons (pm_var (pv 2)) pma_nil)))) (pma_cons (pm_callH h_value_in hr hg (takes_of rfl rfl rfl rfl) rfl (pma_cons (pm_var (pv 0)) (pma_cons (pm_var (pv 1)) (pma_cons (pm_var (pv 3)) pma_nil)))) pma_nil)))
    (pmss_cons (pms_set (i := 6) sc.nd rfl (.inl rfl) (pm_if (pmt_cmp od_is (pm_var (pv 5)) pm_non (nomark _)) pm_non (pm_callTy cd_int rfl z_int (by decide +kernel) (pma_cons (pm_cmp (od_ne u64) (pm_var (pv 5)) pm_int (nomark _)) pma_nil))))
    (pmss_cons (pms_set (i := 7) sc.nd rfl (.inl rfl) (pm_lst (pma_cons pm_non (pma_cons pm_non (pma_cons pm_non pma_nil)))))
    (pmss_cons (pms_if (pmt_cmp od_isnot (pm_var (pv 4)) pm_non (nomark _)) (pmss_one (pms_set (i := 7) sc.nd rfl (.inl rfl) (pm_lst (pma_cons (pm_if (pmt_cmp (od_ne u64) (pm_var (pv 4)) pm_int (nomark _)) (pm_var (pv 6)) pm_int) (pma_cons (pm_if (pmt_cmp (od_ne u64) (pm_var (pv 4)) pm_int (nomark _)) pm_int (pm_var (pv 6))) (pma_cons (pm_if (pmt_cmp (od_ne u64) (pm_var (pv 4)) pm_int (nomark _)) (pm_var (pv 5)) (pm_var (pv 4))) pma_nil)))))) pmss_nil)
    (pmss_cons (pms_set (i := 8) sc.nd rfl (.inl rfl) (pm_lst (pma_cons (pm_tup (pma_cons pm_str (pma_cons (pm_var (pv 2)) (pma_cons (pm_var (pv 3)) pma_nil)))) (pma_cons (pm_tup (pma_cons pm_str (pma_cons (pm_var (pv 2)) (pma_cons (pm_var (pv 3)) pma_nil)))) (pma_cons (pm_tup (pma_cons pm_str (pma_cons (pm_var (pv 2)) (pma_cons (pm_var (pv 3)) (pma_cons (pm_var (pv 2)) pma_nil))))) pma_nil)))))
    (pmss_cons (pms_if (pmt_cmp (od_ne u64) (pm_callB (cd_repr hg uR) rfl z_repr (by decide +kernel) (pma_cons (pm_lc rfl sc.nd (pmi_seq (pm_var (pv 8))) (own := [("_law_own", 9)]) (blk_of rfl (by kernel_rfl)) (by decide) (fun _ _ _ _ _ => (pmg_name sc.nd rfl (.inl rfl))) (fun _ _ _ _ _ => pmts_nil) (fun _ _ _ _ _ => (pm_callH h_value_in hr hg takes0 rfl (pma_cons (pm_var (pv 0)) (pma_cons (pm_var (pv 1)) (pma_cons (pm_var (pv 9)) pma_nil)))))) pma_nil)) (pm_callB (cd_repr hg uR) rfl z_repr (by decide +kernel) (pma_cons (pm_var (pv 7)) pma_nil)) (nomark _)) (pmss_one (pms_ret pm_bl)) pmss_nil)
    (pmss_cons (pms_set (i := 7) sc.nd rfl (.inl rfl) (pm_if (pmt_cmp od_is (pm_var (pv 4)) pm_non (nomark _)) (pm_bin od_mul (pm_lst (pma_cons pm_non pma_nil)) pm_int) (pm_lst (pma_cons (pm_callTy cd_int rfl z_int (by decide +kernel) (pma_cons (pm_cmp (od_eq u64) (pm_var (pv 4)) pm_int (nomark _)) pma_nil)) (pma_cons (pm_bin od_sub pm_int (pm_var (pv 4))) (pma_cons (pm_callTy cd_int rfl z_int (by decide +kernel) (pma_cons (pm_cmp (od_ne u64) (pm_var (pv 4)) pm_int (nomark _)) pma_nil)) pma_nil))))))
    (pmss_cons (pms_set (i := 8) sc.nd rfl (.inl rfl) (pm_lst (pma_cons (pm_tup (pma_cons pm_str (pma_cons (pm_var (pv 2)) pma_nil))) (pma_cons (pm_tup (pma_cons pm_str (pma_cons (pm_var (pv 2)) pma_nil))) (pma_cons (pm_tup (pma_cons pm_str (pma_cons (pm_tup (pma_cons pm_str (pma_cons (pm_var (pv 2)) pma_nil))) pma_nil))) pma_nil)))))
    (pmss_cons (pms_if (pmt_cmp (od_ne u64) (pm_callB (cd_repr hg uR) rfl z_repr (by decide +kernel) (pma_cons (pm_lc rfl sc.nd (pmi_seq (pm_var (pv 8))) (own := [("_law_own", 9)]) (blk_of rfl (by kernel_rfl)) (by decide) (fun _ _ _ _ _ => (pmg_name sc.nd rfl (.inl rfl))) (fun _ _ _ _ _ => pmts_nil) (fun _ _ _ _ _ => (pm_callH h_value_in hr hg takes0 rfl (pma_cons (pm_var (pv 0)) (pma_cons (pm_var (pv 1)) (pma_cons (pm_var (pv 9)) pma_nil)))))) pma_nil)) (pm_callB (cd_repr hg uR) rfl z_repr (by decide +kernel) (pma_cons (pm_var (pv 7)) pma_nil)) (nomark _)) (pmss_one (pms_ret pm_bl)) pmss_nil)
    (pmss_cons (pms_set (i := 8) sc.nd rfl (.inl rfl) (pm_lst (pma_cons (pm_tup (pma_cons pm_str (pma_cons pm_int (pma_cons (pm_var (pv 3)) pma_nil)))) (pma_cons (pm_tup (pma_cons pm_str (pma_cons pm_int (pma_cons (pm_var (pv 3)) pma_nil)))) (pma_cons (pm_tup (pma_cons pm_str (pma_cons pm_int (pma_cons (pm_var (pv 2)) (pma_cons (pm_var (pv 3)) pma_nil))))) (pma_cons (pm_tup (pma_cons pm_str (pma_cons pm_int (pma_cons (pm_var (pv 3)) (pma_cons (pm_var (pv 2)) pma_nil))))) (pma_cons (pm_tup (pma_cons pm_str (pma_cons (pm_un ud_neg pm_int) (pma_cons (pm_var (pv 3)) pma_nil)))) pma_nil)))))))
    (pmss_one (pms_ret (pm_cmp (od_eq u64) (pm_callB (cd_repr hg uR) rfl z_repr (by decide +kernel) (pma_cons (pm_lc rfl sc.nd (pmi_seq (pm_var (pv 8))) (own := [("_law_own", 9)]) (blk_of rfl (by kernel_rfl)) (by decide) (fun _ _ _ _ _ => (pmg_name sc.nd rfl (.inl rfl))) (fun _ _ _ _ _ => pmts_nil) (fun _ _ _ _ _ => (pm_callH h_value_in hr hg takes0 rfl (pma_cons (pm_var (pv 0)) (pma_cons (pm_var (pv 1)) (pma_cons (pm_var (pv 9)) pma_nil)))))) pma_nil)) (pm_callB (cd_repr hg uR) rfl z_repr (by decide +kernel) (pma_cons (pm_lst (pma_cons pm_int (pma_cons pm_int (pma_cons (pm_var (pv 4)) (pma_cons (pm_var (pv 4)) (pma_cons pm_int pma_nil)))))) pma_nil)) (nomark _))))))))))))))
theorem ok__law_lazy_right {f : Addr} {fd : FuncData} {g_value_in : Fn} (F : Fun K "_law_lazy_right" "_law_lazy_right" s__law_lazy_right f fd) (bF : Binds K fd ["_law_names", "_law_values", "_law_e", "_law_f"] []) (mF : mg "_law_lazy_right" = some (.ref f))
    (h_value_in : Has P w K mg base k "value_in" ["names", "values", "e"] g_value_in) (z_int : mg "int" = none) (z_repr : mg "repr" = none) :
    Has P w K mg base (k + 1) "_law_lazy_right" ["_law_names", "_law_values", "_law_e", "_law_f"] (f__law_lazy_right g_value_in) := ⟨f, fd, fn__law_lazy_right F h_value_in z_int z_repr, bF, F.kp, mF⟩

/-! ### _law_turned_right -/
abbrev s__law_turned_right : Stmt := top 17
def t__law_turned_right_6 (g_value_in : Fn) (g__law_names_in : Fn) : MS :=
  (mSeq (mSet 9 (mTup (mCons (mCall dTuple (mCons (mLc (mSeqI (mVar 8)) (.nm 10) mYes (m2 dIx (mVar 0) (mVar 10)) [10]) mNil)) (mCons (mCall dTuple (mCons (mLc (mSeqI (mVar 8)) (.nm 10) mYes (m2 dIx (mVar 1) (mVar 10)) [10]) mNil)) mNil))))
    (mSeq (mExpr (mMeth isL aAppend (mVar 7) (mCons (mFn g_value_in (mCons (m2 dIx (mVar 9) (mC (.int 0))) (mCons (m2 dIx (mVar 9) (mC (.int 1))) (mCons (mVar 2) mNil)))) mNil)))
    (mRet (m2 dEq (mCall dRepr (mCons (mVar 7) mNil)) (mCall dRepr (mCons (m2 dMul (mSl (mVar 7) moNone (moSome (mC (.int 1)))) (mC (.int 5))) mNil))))))
def t__law_turned_right_5 (g_value_in : Fn) (g__law_names_in : Fn) : MS :=
  (mSeq (mSet 8 (mLc (mRange1 (mCall dLen (mCons (mVar 0) mNil))) (.nm 10) (mTest (m2 dIn (m2 dIx (mVar 0) (mVar 10)) (mFn g__law_names_in (mCons (mVar 2) mNil)))) (mVar 10) [10]))
    (t__law_turned_right_6 g_value_in g__law_names_in))
def t__law_turned_right_4 (g_value_in : Fn) (g__law_names_in : Fn) : MS :=
  (mSeq (mExpr (mMeth isL aExtend (mVar 7) (mCons (mLst (mCons (mFn g_value_in (mCons (m2 dAdd (mVar 0) (mTup (mCons (mC (.str "qq")) mNil))) (mCons (m2 dAdd (mVar 1) (mTup (mCons (mC (.int 77)) mNil))) (mCons (mVar 2) mNil)))) (mCons (mFn g_value_in (mCons (m2 dAdd (mTup (mCons (mC (.str "qq")) mNil)) (mVar 0)) (mCons (m2 dAdd (mTup (mCons (m1 dNeg (mC (.int 77))) mNil)) (mVar 1)) (mCons (mVar 2) mNil)))) mNil))) mNil)))
    (t__law_turned_right_5 g_value_in g__law_names_in))
def t__law_turned_right_3 (g_value_in : Fn) (g__law_names_in : Fn) : MS :=
  (mSeq (mSet 7 (mLstC (mCons (mFn g_value_in (mCons (mVar 0) (mCons (mVar 1) (mCons (mVar 2) mNil)))) (mCons (mFn g_value_in (mCons (mRev (mVar 0) (moSome (m1 dNeg (mC (.int 1))))) (mCons (mRev (mVar 1) (moSome (m1 dNeg (mC (.int 1))))) (mCons (mVar 2) mNil)))) mNil))))
    (t__law_turned_right_4 g_value_in g__law_names_in))
def b__law_turned_right (g_value_in : Fn) (g__law_names_in : Fn) : MS :=
  (mSeq (mSet 4 (mLstC (mCons (mTup (mCons (mTup (mCons (mC (.str "not")) (mCons (mTup (mCons (mC (.str "and")) (mCons (mVar 2) (mCons (mVar 3) mNil)))) mNil))) (mCons (mTup (mCons (mC (.str "or")) (mCons (mTup (mCons (mC (.str "not")) (mCons (mVar 2) mNil))) (mCons (mTup (mCons (mC (.str "not")) (mCons (mVar 3) mNil))) mNil)))) mNil))) mNil)))
    (mSeq (mExpr (mMeth isL aAppend (mVar 4) (mCons (mTup (mCons (mTup (mCons (mC (.str "not")) (mCons (mTup (mCons (mC (.str "or")) (mCons (mVar 2) (mCons (mVar 3) mNil)))) mNil))) (mCons (mTup (mCons (mC (.str "and")) (mCons (mTup (mCons (mC (.str "not")) (mCons (mVar 2) mNil))) (mCons (mTup (mCons (mC (.str "not")) (mCons (mVar 3) mNil))) mNil)))) mNil))) mNil)))
    (mSeq (mFz (mFor (mSeqI (mVar 4)) (.tp [5, 6]) (mIfS (mTest (m2 dNe (mFn g_value_in (mCons (mVar 0) (mCons (mVar 1) (mCons (mVar 5) mNil)))) (mFn g_value_in (mCons (mVar 0) (mCons (mVar 1) (mCons (mVar 6) mNil)))))) (mRet (mC (.bl false))) mSkip)))
    (t__law_turned_right_3 g_value_in g__law_names_in))))
def f__law_turned_right (g_value_in : Fn) (g__law_names_in : Fn) : Fn := callM 4 11 (b__law_turned_right g_value_in g__law_names_in)
theorem sc__law_turned_right : FnScope ["_law_names", "_law_values", "_law_e", "_law_f", "_law_both", "_law_one", "_law_other", "_law_told", "_law_kept", "_law_fewer", "_law_k"] ["_law_names", "_law_values", "_law_e", "_law_f"] (defScope s__law_turned_right) := ⟨rfl, rfl, rfl, by decide +kernel, rfl, by decide +kernel, by decide +kernel⟩
theorem fn__law_turned_right {f : Addr} {fd : FuncData} {g_value_in : Fn} {g__law_names_in : Fn} (F : Fun K "_law_turned_right" "_law_turned_right" s__law_turned_right f fd)
    (h_value_in : Has P w K mg base k "value_in" ["names", "values", "e"] g_value_in)
    (h__law_names_in : Has P w K mg base k "_law_names_in" ["_law_e"] g__law_names_in) (z_range : mg "range" = none) (z_len : mg "len" = none) (z_tuple : mg "tuple" = none) (z_repr : mg "repr" = none) :
    FnG P w K mg base (k + 1) f fd ["_law_names", "_law_values", "_law_e", "_law_f"] (f__law_turned_right g_value_in g__law_names_in) := by
  refine fnG_of F sc__law_turned_right (fun cdv A outer s H E hr hg => ?_)
  have sc := sc__law_turned_right
  have u1 := hu_of hr
  have u64 := hr.units
  have uR := u100 hr
  exact (pmss_cons (pms_set (i := 4) sc.nd rfl (.inl rfl) (pm_lstC (pma_cons (pm_tup (pma_cons (pm_tup (pma_cons pm_str (pma_cons (pm_tup (pma_cons pm_str (pma_cons (pm_var (pv 2)) (pma_cons (pm_var (pv 3)) pma_nil)))) pma_nil))) (pma_cons (pm_tup (pma_cons pm_str (pma_cons (pm_tup (pma_cons pm_str (pma_cons (pm_var (pv 2)) pma_nil))) (pma_cons (pm_tup (pma_cons pm_str (pma_cons (pm_var (pv 3)) pma_nil))) pma_nil)))) pma_nil))) pma_nil)))
    (pmss_cons (pms_expr (pm_meth PySem.F.plainAttrs_list PySem.F.slot_list_append PySem.F.type_list_append (.inl ⟨rfl, rfl⟩) md_append (pm_var (pv 4)) (pma_cons (pm_tup (pma_cons (pm_tup (pma_cons pm_str (pma_cons (pm_tup (pma_cons pm_str (pma_cons (pm_var (pv 2)) (pma_cons (pm_var (pv 3)) pma_nil)))) pma_nil))) (pma_cons (pm_tup (pma_cons pm_str (pma_cons (pm_tup (pma_cons pm_str (pma_cons (pm_var (pv 2)) pma_nil))) (pma_cons (pm_tup (pma_cons pm_str (pma_cons (pm_var (pv 3)) pma_nil))) pma_nil)))) pma_nil))) pma_nil)))
    (pmss_cons (pms_fz (pms_for (passes_of rfl) rfl (pmi_seq (pm_var (pv 4))) (pmg_tup rfl (pmgs_cons sc.nd (i := 5) rfl (.inl rfl) (pmgs_cons sc.nd (i := 6) rfl (.inl rfl) pmgs_nil))) (pmss_one (pms_if (pmt_cmp (od_ne u64) (pm_callH h_value_in hr hg (takes_of rfl rfl rfl rfl) rfl (pma_cons (pm_var (pv 0)) (pma_cons (pm_var (pv 1)) (pma_cons (pm_var (pv 5)) pma_nil)))) (pm_callH h_value_in hr hg (takes_of rfl rfl rfl rfl) rfl (pma_cons (pm_var (pv 0)) (pma_cons (pm_var (pv 1)) (pma_cons (pm_var (pv 6)) pma_nil)))) (nomark _)) (pmss_one (pms_ret pm_bl)) pmss_nil))))
    (pmss_cons (pms_set (i := 7) sc.nd rfl (.inl rfl) (pm_lstC (pma_cons (pm_callH h_value_in hr hg (takes_of rfl rfl rfl rfl) rfl (pma_cons (pm_var (pv 0)) (pma_cons (pm_var (pv 1)) (pma_cons (pm_var (pv 2)) pma_nil)))) (pma_cons (pm_callH h_value_in hr hg (takes_of rfl rfl rfl rfl) rfl (pma_cons (pm_rev (pm_var (pv 0)) (pmo_some (pm_un ud_neg pm_int))) (pma_cons (pm_rev (pm_var (pv 1)) (pmo_some (pm_un ud_neg pm_int))) (pma_cons (pm_var (pv 2)) pma_nil)))) pma_nil))))
    (pmss_cons (pms_expr (pm_meth PySem.F.plainAttrs_list PySem.F.slot_list_extend PySem.F.type_list_extend (.inl ⟨rfl, rfl⟩) md_extend (pm_var (pv 7)) (pma_cons (pm_lst (pma_cons (pm_callH h_value_in hr hg (takes_of rfl rfl rfl rfl) rfl (pma_cons (pm_bin od_add (pm_var (pv 0)) (pm_tup (pma_cons pm_str pma_nil))) (pma_cons (pm_bin od_add (pm_var (pv 1)) (pm_tup (pma_cons pm_int pma_nil))) (pma_cons (pm_var (pv 2)) pma_nil)))) (pma_cons (pm_callH h_value_in hr hg (takes_of rfl rfl rfl rfl) rfl (pma_cons (pm_bin od_add (pm_tup (pma_cons pm_str pma_nil)) (pm_var (pv 0))) (pma_cons (pm_bin od_add (pm_tup (pma_cons (pm_un ud_neg pm_int) pma_nil)) (pm_var (pv 1))) (pma_cons (pm_var (pv 2)) pma_nil)))) pma_nil))) pma_nil)))
    (pmss_cons (pms_setLc (i := 8) rfl sc.nd rfl rfl rfl (pmi_range1 rfl z_range (pm_callB cd_len rfl z_len (by decide +kernel) (pma_cons (pm_var (pv 0)) pma_nil))) (own := [("_law_k", 10)]) (blk_of rfl (by kernel_rfl)) (by decide) (fun _ _ _ _ _ => (pmg_name sc.nd rfl (.inl rfl))) (fun _ _ _ _ _ => (pmts_one (pmt_cmp (od_in u1) (pm_ix u1 (pm_var (pv 0)) (pm_var (pv 10)) (fun _ _ => rfl)) (pm_callH h__law_names_in hr hg takes0 rfl (pma_cons (pm_var (pv 2)) pma_nil)) (by with_unfolding_all rfl)))) (fun _ _ _ _ _ => (pm_var (pv 10))))
    (pmss_cons (pms_set (i := 9) sc.nd rfl (.inl rfl) (pm_tup (pma_cons (pm_callTy cd_tuple rfl z_tuple (by decide +kernel) (pma_cons (pm_lc rfl sc.nd (pmi_seq (pm_var (pv 8))) (own := [("_law_k", 10)]) (blk_of rfl (by kernel_rfl)) (by decide) (fun _ _ _ _ _ => (pmg_name sc.nd rfl (.inl rfl))) (fun _ _ _ _ _ => pmts_nil) (fun _ _ _ _ _ => (pm_ix u1 (pm_var (pv 0)) (pm_var (pv 10)) (fun _ _ => rfl)))) pma_nil)) (pma_cons (pm_callTy cd_tuple rfl z_tuple (by decide +kernel) (pma_cons (pm_lc rfl sc.nd (pmi_seq (pm_var (pv 8))) (own := [("_law_k", 10)]) (blk_of rfl (by kernel_rfl)) (by decide) (fun _ _ _ _ _ => (pmg_name sc.nd rfl (.inl rfl))) (fun _ _ _ _ _ => pmts_nil) (fun _ _ _ _ _ => (pm_ix u1 (pm_var (pv 1)) (pm_var (pv 10)) (fun _ _ => rfl)))) pma_nil)) pma_nil))))
    (pmss_cons (pms_expr (pm_meth PySem.F.plainAttrs_list PySem.F.slot_list_append PySem.F.type_list_append (.inl ⟨rfl, rfl⟩) md_append (pm_var (pv 7)) (pma_cons (pm_callH h_value_in hr hg (takes_of rfl rfl rfl rfl) rfl (pma_cons (pm_ix u1 (pm_var (pv 9)) pm_int (fun _ _ => rfl)) (pma_cons (pm_ix u1 (pm_var (pv 9)) pm_int (fun _ _ => rfl)) (pma_cons (pm_var (pv 2)) pma_nil)))) pma_nil)))
    (pmss_one (pms_ret (pm_cmp (od_eq u64) (pm_callB (cd_repr hg uR) rfl z_repr (by decide +kernel) (pma_cons (pm_var (pv 7)) pma_nil)) (pm_callB (cd_repr hg uR) rfl z_repr (by decide +kernel) (pma_cons (pm_bin od_mul (pm_sl (pm_var (pv 7)) pmo_none (pmo_some pm_int)) pm_int) pma_nil)) (nomark _))))))))))))
theorem ok__law_turned_right {f : Addr} {fd : FuncData} {g_value_in : Fn} {g__law_names_in : Fn} (F : Fun K "_law_turned_right" "_law_turned_right" s__law_turned_right f fd) (bF : Binds K fd ["_law_names", "_law_values", "_law_e", "_law_f"] []) (mF : mg "_law_turned_right" = some (.ref f))
    (h_value_in : Has P w K mg base k "value_in" ["names", "values", "e"] g_value_in)
    (h__law_names_in : Has P w K mg base k "_law_names_in" ["_law_e"] g__law_names_in) (z_range : mg "range" = none) (z_len : mg "len" = none) (z_tuple : mg "tuple" = none) (z_repr : mg "repr" = none) :
    Has P w K mg base (k + 1) "_law_turned_right" ["_law_names", "_law_values", "_law_e", "_law_f"] (f__law_turned_right g_value_in g__law_names_in) := ⟨f, fd, fn__law_turned_right F h_value_in h__law_names_in z_range z_len z_tuple z_repr, bF, F.kp, mF⟩

/-! ### law -/
abbrev s_law : Stmt := top 18
def b_law (g__law_feed : Fn) (g__law_draw : Fn) (g__law_formula : Fn) (g_value_in : Fn) (g__law_sums_right : Fn) (g__law_lazy_right : Fn) (g__law_turned_right : Fn) : MS :=
  (mSeq (mSet 1 (mFn g__law_feed (mCons (mVar 0) mNil)))
    (mSeq (mFor (mRange1 (mC (.int 10))) (.nm 2) (mSeq (mSet 3 (mSl (mTup (mCons (mC (.str "b")) (mCons (mC (.str "least")) (mCons (mC (.str "x")) mNil)))) moNone (moSome (mFn g__law_draw (mCons (mVar 1) (mCons (mC (.int 4)) mNil))))))
    (mSeq (mSet 5 (m2 dAdd (mLc (mRange1 (mC (.int 6))) (.nm 4) mYes (mFn g__law_formula (mCons (mVar 1) (mCons (mVar 3) (mCons (mC (.int 3)) mNil)))) [4]) (mLst (mCons (mTup (mCons (mC (.str "div")) (mCons (mC (.int 2)) (mCons (mC (.int 0)) mNil)))) mNil))))
    (mFor (mRange1 (mC (.int 3))) (.nm 6) (mSeq (mSet 7 (mCall dTuple (mCons (mLc (mSeqI (mVar 3)) (.nm 10) mYes (m2 dSub (mFn g__law_draw (mCons (mVar 1) (mCons (mC (.int 7)) mNil))) (mC (.int 3))) [10]) mNil)))
    (mSeq (mIfS (mTest (m2 dNe (mLc (mSeqI (mVar 3)) (.nm 10) mYes (mFn g_value_in (mCons (mVar 3) (mCons (mVar 7) (mCons (mVar 10) mNil)))) [10]) (mCall dList (mCons (mVar 7) mNil)))) (mRet (mC (.bl false))) mSkip)
    (mFor (mRange1 (mCall dLen (mCons (mVar 5) mNil))) (.nm 4) (mSeq (mPar [8, 9] (mCons (m2 dIx (mVar 5) (mVar 4)) (mCons (m2 dIx (mVar 5) (m2 dMod (mCall dInt (mCons (m2 dAdd (mVar 4) (mC (.int 1))) mNil)) (mCall dLen (mCons (mVar 5) mNil)))) mNil)))
    (mSeq (mIfS (mOrT (mNotT (mTru (mFn g__law_sums_right (mCons (mVar 3) (mCons (mVar 7) (mCons (mVar 8) (mCons (mVar 9) mNil))))))) (mNotT (mTru (mFn g__law_lazy_right (mCons (mVar 3) (mCons (mVar 7) (mCons (mVar 8) (mCons (mVar 9) mNil)))))))) (mRet (mC (.bl false))) mSkip)
    (mIfS (mNotT (mTru (mFn g__law_turned_right (mCons (mVar 3) (mCons (mVar 7) (mCons (mVar 8) (mCons (mVar 9) mNil))))))) (mRet (mC (.bl false))) mSkip))))))))))
    (mRet (m2 dEq (mFn g_value_in (mCons (mTup mNil) (mCons (mTup mNil) (mCons (m1 dNeg (mC (.int 5))) mNil)))) (m1 dNeg (mC (.int 5)))))))
def f_law (g__law_feed : Fn) (g__law_draw : Fn) (g__law_formula : Fn) (g_value_in : Fn) (g__law_sums_right : Fn) (g__law_lazy_right : Fn) (g__law_turned_right : Fn) : Fn := callM 1 11 (b_law g__law_feed g__law_draw g__law_formula g_value_in g__law_sums_right g__law_lazy_right g__law_turned_right)
theorem sc_law : FnScope ["_law_script", "_law_feed_here", "_law_turn", "_law_names", "_law_k", "_law_lot", "_law_way", "_law_values", "_law_e", "_law_f", "_law_name"] ["_law_script"] (defScope s_law) := ⟨rfl, rfl, rfl, by decide +kernel, rfl, by decide +kernel, by decide +kernel⟩
theorem fn_law {f : Addr} {fd : FuncData} {g__law_feed : Fn} {g__law_draw : Fn} {g__law_formula : Fn} {g_value_in : Fn} {g__law_sums_right : Fn} {g__law_lazy_right : Fn} {g__law_turned_right : Fn} (F : Fun K "law" "law" s_law f fd)
    (h__law_feed : Has P w K mg base k "_law_feed" ["_law_script"] g__law_feed)
    (h__law_draw : Has P w K mg base k "_law_draw" ["_law_feed_here", "_law_many"] g__law_draw)
    (h__law_formula : Has P w K mg base k "_law_formula" ["_law_feed_here", "_law_names", "_law_deep"] g__law_formula)
    (h_value_in : Has P w K mg base k "value_in" ["names", "values", "e"] g_value_in)
    (h__law_sums_right : Has P w K mg base k "_law_sums_right" ["_law_names", "_law_values", "_law_e", "_law_f"] g__law_sums_right)
    (h__law_lazy_right : Has P w K mg base k "_law_lazy_right" ["_law_names", "_law_values", "_law_e", "_law_f"] g__law_lazy_right)
    (h__law_turned_right : Has P w K mg base k "_law_turned_right" ["_law_names", "_law_values", "_law_e", "_law_f"] g__law_turned_right) (z_range : mg "range" = none) (z_tuple : mg "tuple" = none) (z_list : mg "list" = none) (z_len : mg "len" = none) (z_int : mg "int" = none) :
    FnG P w K mg base (k + 1) f fd ["_law_script"] (f_law g__law_feed g__law_draw g__law_formula g_value_in g__law_sums_right g__law_lazy_right g__law_turned_right) := by
  refine fnG_of F sc_law (fun cdv A outer s H E hr hg => ?_)
  have sc := sc_law
  have u1 := hu_of hr
  have u64 := hr.units
  have uR := u100 hr
  exact (pmss_cons (pms_set (i := 1) sc.nd rfl (.inr rfl) (pm_callH h__law_feed hr hg (takes_of rfl rfl rfl rfl) rfl (pma_cons (pm_var (pv 0)) pma_nil)))
    (pmss_cons (pms_for (passes_of rfl) rfl (pmi_range1 rfl z_range pm_int) (pmg_name sc.nd rfl (.inl rfl)) (pmss_cons (pms_set (i := 3) sc.nd rfl (.inr rfl) (pm_sl (pm_tup (pma_cons pm_str (pma_cons pm_str (pma_cons pm_str pma_nil)))) pmo_none (pmo_some (pm_callH h__law_draw hr hg (takes_of rfl rfl rfl rfl) rfl (pma_cons (pm_var (pv 1)) (pma_cons pm_int pma_nil))))))
    (pmss_cons (pms_set (i := 5) sc.nd rfl (.inl rfl) (pm_bin od_add (pm_lc rfl sc.nd (pmi_range1 rfl z_range pm_int) (own := [("_law_k", 4)]) (blk_of rfl (by kernel_rfl)) (by decide) (fun _ _ _ _ _ => (pmg_name sc.nd rfl (.inl rfl))) (fun _ _ _ _ _ => pmts_nil) (fun _ _ _ _ _ => (pm_callH h__law_formula hr hg takes0 rfl (pma_cons (pm_var (pv 1)) (pma_cons (pm_var (pv 3)) (pma_cons pm_int pma_nil)))))) (pm_lst (pma_cons (pm_tup (pma_cons pm_str (pma_cons pm_int (pma_cons pm_int pma_nil)))) pma_nil))))
    (pmss_one (pms_for (passes_of rfl) rfl (pmi_range1 rfl z_range pm_int) (pmg_name sc.nd rfl (.inl rfl)) (pmss_cons (pms_set (i := 7) sc.nd rfl (.inr rfl) (pm_callTy cd_tuple rfl z_tuple (by decide +kernel) (pma_cons (pm_lc rfl sc.nd (pmi_seq (pm_var (pv 3))) (own := [("_law_name", 10)]) (blk_of rfl (by kernel_rfl)) (by decide) (fun _ _ _ _ _ => (pmg_name sc.nd rfl (.inl rfl))) (fun _ _ _ _ _ => pmts_nil) (fun _ _ _ _ _ => (pm_bin od_sub (pm_callH h__law_draw hr hg takes0 rfl (pma_cons (pm_var (pv 1)) (pma_cons pm_int pma_nil))) pm_int))) pma_nil)))
    (pmss_cons (pms_if (pmt_cmp (od_ne u64) (pm_lc rfl sc.nd (pmi_seq (pm_var (pv 3))) (own := [("_law_name", 10)]) (blk_of rfl (by kernel_rfl)) (by decide) (fun _ _ _ _ _ => (pmg_name sc.nd rfl (.inl rfl))) (fun _ _ _ _ _ => pmts_nil) (fun _ _ _ _ _ => (pm_callH h_value_in hr hg takes0 rfl (pma_cons (pm_var (pv 3)) (pma_cons (pm_var (pv 7)) (pma_cons (pm_var (pv 10)) pma_nil)))))) (pm_callTy cd_list rfl z_list (by decide +kernel) (pma_cons (pm_var (pv 7)) pma_nil)) (nomark _)) (pmss_one (pms_ret pm_bl)) pmss_nil)
    (pmss_one (pms_for (passes_of rfl) rfl (pmi_range1 rfl z_range (pm_callB cd_len rfl z_len (by decide +kernel) (pma_cons (pm_var (pv 5)) pma_nil))) (pmg_name sc.nd rfl (.inl rfl)) (pmss_cons (pms_par (i := 8) (j := 9) rfl sc.nd rfl rfl (by decide) rfl rfl (pma_cons (pm_ix u1 (pm_var (pv 5)) (pm_var (pv 4)) (fun _ _ => rfl)) (pma_cons (pm_ix u1 (pm_var (pv 5)) (pm_bin od_mod (pm_callTy cd_int rfl z_int (by decide +kernel) (pma_cons (pm_bin od_add (pm_var (pv 4)) pm_int) pma_nil)) (pm_callB cd_len rfl z_len (by decide +kernel) (pma_cons (pm_var (pv 5)) pma_nil))) (fun _ _ => rfl)) pma_nil)))
    (pmss_cons (pms_if (pmt_of (pmw_or (pmt_not (pmt_tru (pm_callH h__law_sums_right hr hg (takes_of rfl rfl rfl rfl) rfl (pma_cons (pm_var (pv 3)) (pma_cons (pm_var (pv 7)) (pma_cons (pm_var (pv 8)) (pma_cons (pm_var (pv 9)) pma_nil))))))) (pmw_or1 (pmt_not (pmt_tru (pm_callH h__law_lazy_right hr hg (takes_of rfl rfl rfl rfl) rfl (pma_cons (pm_var (pv 3)) (pma_cons (pm_var (pv 7)) (pma_cons (pm_var (pv 8)) (pma_cons (pm_var (pv 9)) pma_nil)))))))))) (pmss_one (pms_ret pm_bl)) pmss_nil)
    (pmss_one (pms_if (pmt_not (pmt_tru (pm_callH h__law_turned_right hr hg (takes_of rfl rfl rfl rfl) rfl (pma_cons (pm_var (pv 3)) (pma_cons (pm_var (pv 7)) (pma_cons (pm_var (pv 8)) (pma_cons (pm_var (pv 9)) pma_nil))))))) (pmss_one (pms_ret pm_bl)) pmss_nil)))))))))))))
    (pmss_one (pms_ret (pm_cmp (od_eq u64) (pm_callH h_value_in hr hg (takes_of rfl rfl rfl rfl) rfl (pma_cons (pm_tup pma_nil) (pma_cons (pm_tup pma_nil) (pma_cons (pm_un ud_neg pm_int) pma_nil)))) (pm_un ud_neg pm_int) (nomark _))))))
theorem ok_law {f : Addr} {fd : FuncData} {g__law_feed : Fn} {g__law_draw : Fn} {g__law_formula : Fn} {g_value_in : Fn} {g__law_sums_right : Fn} {g__law_lazy_right : Fn} {g__law_turned_right : Fn} (F : Fun K "law" "law" s_law f fd) (bF : Binds K fd ["_law_script"] []) (mF : mg "law" = some (.ref f))
    (h__law_feed : Has P w K mg base k "_law_feed" ["_law_script"] g__law_feed)
    (h__law_draw : Has P w K mg base k "_law_draw" ["_law_feed_here", "_law_many"] g__law_draw)
    (h__law_formula : Has P w K mg base k "_law_formula" ["_law_feed_here", "_law_names", "_law_deep"] g__law_formula)
    (h_value_in : Has P w K mg base k "value_in" ["names", "values", "e"] g_value_in)
    (h__law_sums_right : Has P w K mg base k "_law_sums_right" ["_law_names", "_law_values", "_law_e", "_law_f"] g__law_sums_right)
    (h__law_lazy_right : Has P w K mg base k "_law_lazy_right" ["_law_names", "_law_values", "_law_e", "_law_f"] g__law_lazy_right)
    (h__law_turned_right : Has P w K mg base k "_law_turned_right" ["_law_names", "_law_values", "_law_e", "_law_f"] g__law_turned_right) (z_range : mg "range" = none) (z_tuple : mg "tuple" = none) (z_list : mg "list" = none) (z_len : mg "len" = none) (z_int : mg "int" = none) :
    Has P w K mg base (k + 1) "law" ["_law_script"] (f_law g__law_feed g__law_draw g__law_formula g_value_in g__law_sums_right g__law_lazy_right g__law_turned_right) := ⟨f, fd, fn_law F h__law_feed h__law_draw h__law_formula h_value_in h__law_sums_right h__law_lazy_right h__law_turned_right z_range z_tuple z_list z_len z_int, bF, F.kp, mF⟩

end
end W

set_option Elab.async false
set_option linter.all false
set_option maxRecDepth 100000
set_option maxHeartbeats 4000000
/-! DSimp: the combinators' equations, for simp -/
namespace DL
open PySem L2
@[simp] theorem peek_l0 (ds : List D) (S : Store) : peek (.lst ds :: S) (.loc 0) = some (.lst ds) := rfl
@[simp] theorem peek_d0 (kv : List (Key × D)) (S : Store) : peek (.dct kv :: S) (.loc 0) = some (.dct kv) := rfl
@[simp] theorem peek_s (c : Cell) (S : Store) (n : Nat) : peek (c :: S) (.loc (n + 1)) = peek S (.loc n) := rfl
/-! what comes behind a part, as words of their own: simp goes on only where the part has its result -/
def op2 (g : D → D → Option D) (x y : U) (S : Store) : Res U := lift ((match peek S x, peek S y with | some d, some e => g d e | _, _ => none).map U.d) S
def kSeq (m : MS) (b : Nat) (r : SR) : SR := r.then_ fun δ S => m b δ S
def kSet (i : Nat) (δ : DEnv) (r : Res U) : SR := r.inS δ fun u S => .next (δ.set i (some u)) S
def kExpr (δ : DEnv) (r : Res U) : SR := r.inS δ fun _ S => .next δ S
def kRet (δ : DEnv) (r : Res U) : SR := r.inS δ fun u S => .ret u S
def kIfS (m m' : MS) (b : Nat) (δ : DEnv) (r : Res Bool) : SR := r.inS δ fun c S => if c then m b δ S else m' b δ S
def k2a (g : D → D → Option D) (mb : ME) (δ : DEnv) (r : Res U) : Res U := r.bind fun x S => (mb δ S).bind fun y S' => op2 g x y S'
def k2b (g : D → D → Option D) (x : U) (r : Res U) : Res U := r.bind fun y S => op2 g x y S
def k1 (g : D → Option D) (r : Res U) : Res U := r.bind fun x S => lift (((peek S x).bind g).map U.d) S
def kCall (g : List D → Option D) (r : Res (List U)) : Res U := r.bind fun xs S => lift (((peeks S xs).bind g).map U.d) S
def kTest (r : Res U) : Res Bool := r.bind fun u S => match u with | .d (.bl b) => .ok b S | _ => .stuck
def kTru (r : Res U) : Res Bool := r.bind fun u S => lift ((peek S u).bind truD) S
def kNot (r : Res Bool) : Res Bool := r.bind fun b S => .ok (!b) S
def kAndT (mt : MT) (δ : DEnv) (r : Res Bool) : Res Bool := r.bind fun b S => if b then mt δ S else .ok false S
def kOrT (mt : MT) (δ : DEnv) (r : Res Bool) : Res Bool := r.bind fun b S => if b then .ok true S else mt δ S
def kAndV (mb : ME) (δ : DEnv) (r : Res Bool) : Res U := r.bind fun b S => if b then mb δ S else .ok (.d (.bl false)) S
def kOrV (mb : ME) (δ : DEnv) (r : Res Bool) : Res U := r.bind fun b S => if b then .ok (.d (.bl true)) S else mb δ S
def kNotV (r : Res Bool) : Res U := r.bind fun b S => .ok (.d (.bl (!b))) S
def kIf (ma mb : ME) (δ : DEnv) (r : Res Bool) : Res U := r.bind fun b S => if b then ma δ S else mb δ S
def kC1 (mas : MA) (δ : DEnv) (r : Res U) : Res (List U) := r.bind fun u S => (mas δ S).bind fun us S' => .ok (u :: us) S'
def kC2 (u : U) (r : Res (List U)) : Res (List U) := r.bind fun us S => .ok (u :: us) S
def kStar (mas : MA) (δ : DEnv) (r : Res U) : Res (List U) := r.bind fun u S => match (peek S u).bind seqD with | none => .stuck | some ds => (mas δ S).bind fun us S' => .ok (ds.map U.d ++ us) S'
def kFn (f : Fn) (r : Res (List U)) : Res U := r.bind fun us S => f us S
def kIsi (T : Ty) (r : Res U) : Res U := r.bind fun u S => lift (((peek S u).bind fun d => (isT T d).map D.bl).map U.d) S
def kCh3 (h : D → D → Option D) (y : U) (mc : ME) (δ : DEnv) (S : Store) : Option D → Res U
  | some (.bl true) => (mc δ S).bind fun z S3 => op2 h y z S3
  | some (.bl false) => .ok (.d (.bl false)) S
  | _ => .stuck
def kCh2 (g h : D → D → Option D) (x : U) (mc : ME) (δ : DEnv) (r : Res U) : Res U := r.bind fun y S => match peek S x, peek S y with
  | some d, some e => kCh3 h y mc δ S (g d e)
  | _, _ => .stuck
def kCh1 (g h : D → D → Option D) (mb mc : ME) (δ : DEnv) (r : Res U) : Res U := r.bind fun x S => kCh2 g h x mc δ (mb δ S)
def kTup (r : Res (List U)) : Res U := r.bind fun us S => lift ((datas us).bind fun ds => (fits ds).map fun ds => .d (.tup ds)) S
def kLst (r : Res (List U)) : Res U := r.bind fun us S => lift ((datas us).bind fun ds => (fits ds).map fun ds => .d (.lst ds)) S
def kP3 (v o : U) (δ : DEnv) (r : Res U) : SR := r.inS δ fun i S => match o, v, peek S i with
  | .loc n, .d y, some kx => match S[n]?, keyD kx with
    | some (.dct es), some k => if es.length < sizeLine then .next δ (S.set n (.dct (putD es k y))) else .stuck
    | _, _ => .stuck
  | _, _, _ => .stuck
def kP2 (v : U) (mb : ME) (δ : DEnv) (r : Res U) : SR := r.inS δ fun o S => kP3 v o δ (mb δ S)
def kP1 (ma mb : ME) (δ : DEnv) (r : Res U) : SR := r.inS δ fun v S => kP2 v mb δ (ma δ S)
def kMatch (g : Str → MS) (b : Nat) (δ : DEnv) (r : Res U) : SR := r.inS δ fun u S => match u with | .d (.str x) => g x b δ S | _ => .stuck
def kO (r : Res U) : Res (Option Int) := r.bind fun u S => match u with | .d (.int i) => .ok (some i) S | _ => .stuck
def kS3 (u : U) (lo : Option Int) (r : Res (Option Int)) : Res U := r.bind fun hi S => lift (((peek S u).bind fun d => dSl d lo hi).map U.d) S
def kS2 (u : U) (mo : MO) (δ : DEnv) (r : Res (Option Int)) : Res U := r.bind fun lo S => kS3 u lo (mo δ S)
def kS1 (mo mo' : MO) (δ : DEnv) (r : Res U) : Res U := r.bind fun u S => kS2 u mo' δ (mo δ S)
def kPar (is : List Nat) (δ : DEnv) (r : Res (List U)) : SR := r.inS δ fun us S => if us.length = is.length then .next ((is.zip us).foldl (fun δ p => δ.set p.1 (some p.2)) δ) S else .stuck
def kStarT (n : Nat) (is : List Nat) (δ : DEnv) (r : Res U) : SR := r.inS δ fun u S => match u with
  | .d (.tup ds) => if n ≤ ds.length then match setAll is (ds.take n ++ [.lst (ds.drop n)]) δ with
      | some δ1 => .next δ1 S
      | none => .stuck
    else .stuck
  | _ => .stuck
def kSeqI (r : Res U) : Res (List D) := r.bind fun u S => match u with | .d x => lift (seqD x) S | .loc _ => .stuck
def kR1 (r : Res U) : Res (List D) := r.bind fun u S => match u with
  | .d (.int j) => if j < 4611686018427387904 ∧ -4611686018427387904 ≤ j then .ok (rangeD 0 j.toNat) S else .stuck
  | _ => .stuck
def kFor (t : Tg) (m : MS) (δ : DEnv) (r : Res (List D)) : SR := r.inS δ fun ds S => forD t m S.length ds δ S
def kL (r : Res (List D)) : Res U := r.bind fun ys S => .ok (.d (.lst ys)) S
def kLc (t : Tg) (mt : MT) (me : ME) (vs : List Nat) (δ : DEnv) (r : Res (List D)) : Res U := r.bind fun ds S => if ds.length ≤ sizeLine then kL (lcD t mt me (wipeD vs δ) ds S) else .stuck
def kZ2 (u : U) (r : Res U) : Res U := r.bind fun w S => match u, w with
  | .d (.tup xs), .d (.tup ys) => match keysD xs with
    | some ks => .ok (.d (.dct (mergeD [] (ks.zip ys)))) S
    | none => .stuck
  | _, _ => .stuck
def kZ1 (mb : ME) (δ : DEnv) (r : Res U) : Res U := r.bind fun u S => kZ2 u (mb δ S)
def kRv2 (u : U) (r : Res (Option Int)) : Res U := r.bind fun o S => match o, peek S u with
  | some i, some (.tup ds) => if i = -1 then .ok (.d (.tup ds.reverse)) S else .stuck
  | _, _ => .stuck
def kRv1 (mo : MO) (δ : DEnv) (r : Res U) : Res U := r.bind fun u S => kRv2 u (mo δ S)
def kM2 (act : Act) (n : Nat) (r : Res (List U)) : Res U := r.bind fun us S => match S[n]? with
  | none => .stuck
  | some c => match act S c us with
    | none => .stuck
    | some (x, c') => .ok (.d x) (S.set n c')
def kM1 (ty : Cell → Bool) (act : Act) (mas : MA) (δ : DEnv) (r : Res U) : Res U := r.bind fun o S => match o with
  | .d _ => .stuck
  | .loc n => match S[n]? with
    | none => .stuck
    | some c => if ty c then kM2 act n (mas δ S) else .stuck
def kF (t : Tg) (m : MS) (b : Nat) (ds : List D) (r : SR) : SR := match r with
  | .next δ S => forD t m b ds (trimE b S δ) (S.take b)
  | .cont δ S => forD t m b ds (trimE b S δ) (S.take b)
  | .brk δ S => .next δ S
  | .ret u S => .ret u S
  | .exc x δ S => .exc x δ S
  | .stuck => .stuck
def kFa (t : Tg) (m : MS) (b : Nat) (ds : List D) (S : Store) : Option DEnv → SR
  | none => .stuck
  | some δ => kF t m b ds (m b δ S)
def kLE (t : Tg) (mt : MT) (me : ME) (δ : DEnv) (ds : List D) (r : Res U) : Res (List D) := r.calm.bind fun u S => match u with
  | .d y => (lcD t mt me δ ds S).bind fun ys S' => .ok (y :: ys) S'
  | .loc _ => .stuck
def kLy (y : D) (r : Res (List D)) : Res (List D) := r.bind fun ys S => .ok (y :: ys) S
def kLT (t : Tg) (mt : MT) (me : ME) (δ δ1 : DEnv) (ds : List D) (r : Res Bool) : Res (List D) := r.calm.bind fun c S => if c then kLE t mt me δ ds (me δ1 S) else lcD t mt me δ ds S
def kLa (t : Tg) (mt : MT) (me : ME) (δ : DEnv) (ds : List D) (S : Store) : Option DEnv → Res (List D)
  | none => .stuck
  | some δ1 => kLT t mt me δ δ1 ds (mt δ1 S)
def kLstC (r : Res (List U)) : Res U := r.bind fun us S => match (datas us).bind fits with
  | some ds => .ok (.loc S.length) (S ++ [.lst ds])
  | none => .stuck
section
@[simp] theorem kLstC_ (us : List U) (S : Store) : kLstC (.ok us S) = match (datas us).bind fits with
  | some ds => .ok (.loc S.length) (S ++ [.lst ds])
  | none => .stuck := rfl
variable (b i j n : Nat) (δ δ' δ1 : DEnv) (S S1 : Store) (m m' : MS) (ma mb mc : ME) (mt mt' : MT) (mas : MA) (mi : MI) (mo mo' : MO) (t : Tg) (f : Fn) (u v o : U) (us : List U) (c : Bool) (d : D) (g h : D → D → Option D) (is vs : List Nat) (ds : List D) (x : Str)
@[simp] theorem kSeq_n : kSeq m b (.next δ S) = m b δ S := rfl
@[simp] theorem kSeq_r : kSeq m b (.ret u S) = .ret u S := rfl
@[simp] theorem kSeq_b : kSeq m b (.brk δ S) = .brk δ S := rfl
@[simp] theorem kSeq_c : kSeq m b (.cont δ S) = .cont δ S := rfl
@[simp] theorem kSet_ : kSet i δ (.ok u S) = .next (δ.set i (some u)) S := rfl
@[simp] theorem kExpr_ : kExpr δ (.ok u S) = .next δ S := rfl
@[simp] theorem kRet_ : kRet δ (.ok u S) = .ret u S := rfl
@[simp] theorem kIfS_ : kIfS m m' b δ (.ok c S) = if c then m b δ S else m' b δ S := rfl
@[simp] theorem k2a_ : k2a g mb δ (.ok u S) = k2b g u (mb δ S) := rfl
@[simp] theorem k2b_ : k2b g u (.ok v S) = lift ((match peek S u, peek S v with | some d, some e => g d e | _, _ => none).map U.d) S := rfl
@[simp] theorem k1_ (g1 : D → Option D) : k1 g1 (.ok u S) = lift (((peek S u).bind g1).map U.d) S := rfl
@[simp] theorem kCall_ (g1 : List D → Option D) : kCall g1 (.ok us S) = lift (((peeks S us).bind g1).map U.d) S := rfl
@[simp] theorem kTest_ : kTest (.ok (.d (.bl c)) S) = .ok c S := rfl
@[simp] theorem kTru_ : kTru (.ok u S) = lift ((peek S u).bind truD) S := rfl
@[simp] theorem kNot_ : kNot (.ok c S) = .ok (!c) S := rfl
@[simp] theorem kAndT_ : kAndT mt δ (.ok c S) = if c then mt δ S else .ok false S := rfl
@[simp] theorem kOrT_ : kOrT mt δ (.ok c S) = if c then .ok true S else mt δ S := rfl
@[simp] theorem kAndV_ : kAndV mb δ (.ok c S) = if c then mb δ S else .ok (.d (.bl false)) S := rfl
@[simp] theorem kOrV_ : kOrV mb δ (.ok c S) = if c then .ok (.d (.bl true)) S else mb δ S := rfl
@[simp] theorem kNotV_ : kNotV (.ok c S) = .ok (.d (.bl (!c))) S := rfl
@[simp] theorem kIf_ : kIf ma mb δ (.ok c S) = if c then ma δ S else mb δ S := rfl
@[simp] theorem kC1_ : kC1 mas δ (.ok u S) = kC2 u (mas δ S) := rfl
@[simp] theorem kC2_ : kC2 u (.ok us S) = .ok (u :: us) S := rfl
@[simp] theorem kStar_ : kStar mas δ (.ok u S) = match (peek S u).bind seqD with | none => .stuck | some ds => (mas δ S).bind fun us S' => .ok (ds.map U.d ++ us) S' := rfl
@[simp] theorem kFn_ : kFn f (.ok us S) = f us S := rfl
@[simp] theorem kIsi_ (T : Ty) : kIsi T (.ok u S) = lift (((peek S u).bind fun d => (isT T d).map D.bl).map U.d) S := rfl
@[simp] theorem kCh1_ : kCh1 g h mb mc δ (.ok u S) = kCh2 g h u mc δ (mb δ S) := rfl
@[simp] theorem kCh2_ : kCh2 g h u mc δ (.ok v S) = match peek S u, peek S v with
  | some d, some e => kCh3 h v mc δ S (g d e)
  | _, _ => .stuck := rfl
@[simp] theorem kCh3_ : kCh3 h v mc δ S (some (.bl c)) = if c then k2b h v (mc δ S) else .ok (.d (.bl false)) S := by cases c <;> rfl
@[simp] theorem kTup_ : kTup (.ok us S) = lift ((datas us).bind fun ds => (fits ds).map fun ds => .d (.tup ds)) S := rfl
@[simp] theorem kLst_ : kLst (.ok us S) = lift ((datas us).bind fun ds => (fits ds).map fun ds => .d (.lst ds)) S := rfl
@[simp] theorem kP1_ : kP1 ma mb δ (.ok v S) = kP2 v mb δ (ma δ S) := rfl
@[simp] theorem kP2_ : kP2 v mb δ (.ok o S) = kP3 v o δ (mb δ S) := rfl
@[simp] theorem kP3_ : kP3 (.d d) (.loc n) δ (.ok (.d (.str x)) S) = match S[n]? with
    | some (.dct es) => if es.length < sizeLine then .next δ (S.set n (.dct (putD es (.inr x) d))) else .stuck
    | _ => .stuck := by
  show (match S[n]?, keyD (.str x) with
    | some (.dct es), some k => if es.length < sizeLine then SR.next δ (S.set n (.dct (putD es k d))) else .stuck
    | _, _ => .stuck) = _
  cases S[n]? with
  | none => rfl
  | some c => cases c <;> rfl
@[simp] theorem kMatch_ (gm : Str → MS) : kMatch gm b δ (.ok (.d (.str x)) S) = gm x b δ S := rfl
@[simp] theorem kO_ (p : Int) : kO (.ok (.d (.int p)) S) = .ok (some p) S := rfl
@[simp] theorem kS1_ : kS1 mo mo' δ (.ok u S) = kS2 u mo' δ (mo δ S) := rfl
@[simp] theorem kS2_ (lo : Option Int) : kS2 u mo δ (.ok lo S) = kS3 u lo (mo δ S) := rfl
@[simp] theorem kS3_ (lo hi : Option Int) : kS3 u lo (.ok hi S) = lift (((peek S u).bind fun d => dSl d lo hi).map U.d) S := rfl
@[simp] theorem kPar_ : kPar is δ (.ok us S) = if us.length = is.length then .next ((is.zip us).foldl (fun δ p => δ.set p.1 (some p.2)) δ) S else .stuck := rfl
@[simp] theorem kStarT_ : kStarT n is δ (.ok (.d (.tup ds)) S) = if n ≤ ds.length then (match setAll is (ds.take n ++ [.lst (ds.drop n)]) δ with
      | some δ1 => .next δ1 S
      | none => .stuck)
    else .stuck := rfl
@[simp] theorem kSeqI_ : kSeqI (.ok (.d d) S) = lift (seqD d) S := rfl
theorem kR1_ (p : Int) : kR1 (.ok (.d (.int p)) S) = if p < 4611686018427387904 ∧ -4611686018427387904 ≤ p then .ok (rangeD 0 p.toNat) S else .stuck := rfl
theorem kR1_n (k : Nat) (h : k ≤ 1000000) : kR1 (.ok (.d (.int (k : Int))) S) = .ok (rangeD 0 k) S := by
  rw [kR1_, if_pos ⟨by omega, by omega⟩, Int.toNat_natCast]
@[simp] theorem kFor_ : kFor t m δ (.ok ds S) = forD t m S.length ds δ S := rfl
@[simp] theorem kLc_ : kLc t mt ma vs δ (.ok ds S) = if ds.length ≤ sizeLine then kL (lcD t mt ma (wipeD vs δ) ds S) else .stuck := rfl
@[simp] theorem kL_ : kL (.ok ds S) = .ok (.d (.lst ds)) S := rfl
@[simp] theorem kZ1_ : kZ1 mb δ (.ok u S) = kZ2 u (mb δ S) := rfl
@[simp] theorem kZ2_ (xs ys : List D) : kZ2 (.d (.tup xs)) (.ok (.d (.tup ys)) S) = match keysD xs with
    | some ks => .ok (.d (.dct (mergeD [] (ks.zip ys)))) S
    | none => .stuck := rfl
@[simp] theorem kRv1_ : kRv1 mo δ (.ok u S) = kRv2 u (mo δ S) := rfl
@[simp] theorem kRv2_ (p : Int) : kRv2 (.d (.tup ds)) (.ok (some p) S) = if p = -1 then .ok (.d (.tup ds.reverse)) S else .stuck := rfl
@[simp] theorem kM1_ (ty : Cell → Bool) (act : Act) : kM1 ty act mas δ (.ok (.loc n) S) = match S[n]? with
    | none => .stuck
    | some c => if ty c then kM2 act n (mas δ S) else .stuck := rfl
@[simp] theorem kM2_ (act : Act) : kM2 act n (.ok us S) = match S[n]? with
  | none => .stuck
  | some c => match act S c us with
    | none => .stuck
    | some (x, c') => .ok (.d x) (S.set n c') := rfl
@[simp] theorem kF_n : kF t m b ds (.next δ S) = forD t m b ds (trimE b S δ) (S.take b) := rfl
@[simp] theorem kF_c : kF t m b ds (.cont δ S) = forD t m b ds (trimE b S δ) (S.take b) := rfl
@[simp] theorem kF_b : kF t m b ds (.brk δ S) = .next δ S := rfl
@[simp] theorem kF_r : kF t m b ds (.ret u S) = .ret u S := rfl
@[simp] theorem kFa_ : kFa t m b ds S (some δ) = kF t m b ds (m b δ S) := rfl
@[simp] theorem kLa_ : kLa t mt ma δ ds S (some δ1) = kLT t mt ma δ δ1 ds (mt δ1 S) := rfl
@[simp] theorem kLT_ : kLT t mt ma δ δ1 ds (.ok c S) = if c then kLE t mt ma δ ds (ma δ1 S) else lcD t mt ma δ ds S := rfl
@[simp] theorem kLE_ : kLE t mt ma δ ds (.ok (.d d) S) = kLy d (lcD t mt ma δ ds S) := rfl
@[simp] theorem kLy_ : kLy d (.ok ds S) = .ok (d :: ds) S := rfl
@[simp] theorem mSeq_ : mSeq m m' b δ S = kSeq m' b (m b δ S) := rfl
@[simp] theorem mSet_ : mSet i ma b δ S = kSet i δ (ma δ S) := rfl
@[simp] theorem mExpr_ : mExpr ma b δ S = kExpr δ (ma δ S) := rfl
@[simp] theorem mRet_ : mRet ma b δ S = kRet δ (ma δ S) := rfl
@[simp] theorem mRetN_ : mRetN b δ S = .ret (.d .non) S := rfl
@[simp] theorem mIfS_ : mIfS mt m m' b δ S = kIfS m m' b δ (mt δ S) := rfl
@[simp] theorem mSkip_ : mSkip b δ S = .next δ S := rfl
@[simp] theorem mFz_ : mFz m b δ S = m b (trimE b S δ) (S.take b) := rfl
@[simp] theorem mVar_0 (r : DEnv) : mVar 0 (some u :: r) S = .ok u S := rfl
@[simp] theorem mVar_s (w : Option U) (r : DEnv) : mVar (i + 1) (w :: r) S = mVar i r S := rfl
@[simp] theorem mC_ : mC d δ S = .ok (.d d) S := rfl
@[simp] theorem m2_ : m2 g ma mb δ S = k2a g mb δ (ma δ S) := rfl
@[simp] theorem m1_ (g1 : D → Option D) : m1 g1 ma δ S = k1 g1 (ma δ S) := rfl
@[simp] theorem mCall_ (g1 : List D → Option D) : mCall g1 mas δ S = kCall g1 (mas δ S) := rfl
@[simp] theorem mTest_ : mTest ma δ S = kTest (ma δ S) := rfl
@[simp] theorem mTru_ : mTru ma δ S = kTru (ma δ S) := rfl
@[simp] theorem mNotT_ : mNotT mt δ S = kNot (mt δ S) := rfl
@[simp] theorem mAndT_ : mAndT mt mt' δ S = kAndT mt' δ (mt δ S) := rfl
@[simp] theorem mOrT_ : mOrT mt mt' δ S = kOrT mt' δ (mt δ S) := rfl
@[simp] theorem mAndV_ : mAndV ma mb δ S = kAndV mb δ (mTest ma δ S) := rfl
@[simp] theorem mOrV_ : mOrV ma mb δ S = kOrV mb δ (mTest ma δ S) := rfl
@[simp] theorem mNotV_ : mNotV ma δ S = kNotV (mTest ma δ S) := rfl
@[simp] theorem mIf_ : mIf mt ma mb δ S = kIf ma mb δ (mt δ S) := rfl
@[simp] theorem mNil_ : mNil δ S = .ok [] S := rfl
@[simp] theorem mCons_ : mCons ma mas δ S = kC1 mas δ (ma δ S) := rfl
@[simp] theorem mStar_ : mStar ma mas δ S = kStar mas δ (ma δ S) := rfl
@[simp] theorem mFn_ : mFn f mas δ S = kFn f (mas δ S) := rfl
@[simp] theorem mIsi_ (T : Ty) : mIsi T ma δ S = kIsi T (ma δ S) := rfl
@[simp] theorem mChain_ : mChain g h ma mb mc δ S = kCh1 g h mb mc δ (ma δ S) := by
  unfold mChain kCh1
  cases ma δ S with
  | ok x S1 =>
    simp only [Res.ok_bind]
    unfold kCh2
    cases mb δ S1 with
    | ok y S2 =>
      simp only [Res.ok_bind]
      cases peek S2 x with
      | none => rfl
      | some d =>
        cases peek S2 y with
        | none => rfl
        | some e =>
          show (match g d e with
            | some (D.bl true) => (mc δ S2).bind fun z S3 => lift (Option.map U.d (match peek S3 y, peek S3 z with | some d, some e => h d e | _, _ => none)) S3
            | some (D.bl false) => Res.ok (U.d (D.bl false)) S2
            | _ => Res.stuck) = kCh3 h y mc δ S2 (g d e)
          cases g d e with
          | none => rfl
          | some z => cases z with
            | bl c => cases c <;> rfl
            | _ => rfl
    | exc x S2 => rfl
    | stuck => rfl
  | exc x S1 => rfl
  | stuck => rfl
@[simp] theorem mLstC_ : mLstC mas δ S = kLstC (mas δ S) := rfl
@[simp] theorem mTup_ : mTup mas δ S = kTup (mas δ S) := rfl
@[simp] theorem mLst_ : mLst mas δ S = kLst (mas δ S) := rfl
@[simp] theorem mPut_ : mPut ma mb mc b δ S = kP1 ma mb δ (mc δ S) := rfl
@[simp] theorem mMatch_ (gm : Str → MS) : mMatch ma gm b δ S = kMatch gm b δ (ma δ S) := rfl
@[simp] theorem moNone_ : moNone δ S = .ok none S := rfl
@[simp] theorem moSome_ : moSome ma δ S = kO (ma δ S) := rfl
@[simp] theorem mSl_ : mSl ma mo mo' δ S = kS1 mo mo' δ (ma δ S) := rfl
@[simp] theorem mPar_ : mPar is mas b δ S = kPar is δ (mas δ S) := rfl
@[simp] theorem mStarT_ : mStarT ma n is b δ S = kStarT n is δ (ma δ S) := rfl
@[simp] theorem mSeqI_ : mSeqI ma δ S = kSeqI (ma δ S) := rfl
@[simp] theorem mRange1_ : mRange1 ma δ S = kR1 (ma δ S) := rfl
@[simp] theorem mFor_ : mFor mi t m b δ S = kFor t m δ (mi δ S) := rfl
@[simp] theorem mLc_ : mLc mi t mt ma vs δ S = kLc t mt ma vs δ (mi δ S) := rfl
@[simp] theorem mYes_ : mYes δ S = .ok true S := rfl
@[simp] theorem mDZ_ : mDZ ma mb δ S = kZ1 mb δ (ma δ S) := rfl
@[simp] theorem mRev_ : mRev ma mo δ S = kRv1 mo δ (ma δ S) := rfl
@[simp] theorem mMeth_ (ty : Cell → Bool) (act : Act) : mMeth ty act ma mas δ S = kM1 ty act mas δ (ma δ S) := rfl
theorem forD_cons : forD t m b (d :: ds) δ S = kFa t m b ds S (t.apply (.d d) δ) := by
  show (match t.apply (.d d) δ with | none => SR.stuck | some δ1 => _) = _
  cases t.apply (.d d) δ <;> rfl
theorem lcD_cons : lcD t mt ma δ (d :: ds) S = kLa t mt ma δ ds S (t.apply (.d d) δ) := by
  show (match t.apply (.d d) δ with | none => Res.stuck | some δ1 => _) = _
  cases t.apply (.d d) δ <;> rfl
@[simp] theorem callM_ (ar : Nat) (us : List U) : callM ar n m us S = if us.length = ar then exitM S.length (m S.length (enter n us) S) else .stuck := rfl
@[simp] theorem callK_ (ar : Nat) (us : List U) : callK ar n m us S = if us.length = ar then exitK S.length (m S.length (enter n us) S) else .stuck := rfl
@[simp] theorem exit_d (d : D) : exitM b (.ret (.d d) S) = .ok (.d d) (S.take b) := rfl
@[simp] theorem exit_n : exitM b (.next δ S) = .ok (.d .non) (S.take b) := rfl
@[simp] theorem peek_d (d : D) : peek S (.d d) = some d := rfl
@[simp] theorem peeks_nil : peeks S [] = some [] := rfl
@[simp] theorem peeks_d (d : D) (us : List U) : peeks S (.d d :: us) = (peeks S us).map (d :: ·) := by
  show (match peek S (.d d), peeks S us with | some d, some ds => some (d :: ds) | _, _ => none) = _
  cases peeks S us <;> rfl
theorem peeks_c (u : U) (us : List U) : peeks S (u :: us) = (peek S u).bind fun d => (peeks S us).map (d :: ·) := by
  show (match peek S u, peeks S us with | some d, some ds => some (d :: ds) | _, _ => none) = _
  cases peek S u <;> cases peeks S us <;> rfl
@[simp] theorem datas_nil : datas [] = some [] := rfl
@[simp] theorem datas_d (d : D) (us : List U) : datas (.d d :: us) = (datas us).map (d :: ·) := by
  show (match datas us with | some ds => some (d :: ds) | none => none) = _
  cases datas us <;> rfl
@[simp] theorem fits_ (ds : List D) : fits ds = if ds.length ≤ sizeLine then some ds else none := rfl
variable (p q : Int) (ds es : List D)
@[simp] theorem dAdd_i : dAdd (.int p) (.int q) = some (.int (p + q)) := rfl
@[simp] theorem dAdd_t : dAdd (.tup ds) (.tup es) = if ds.length + es.length ≤ sizeLine then some (.tup (ds ++ es)) else none := rfl
@[simp] theorem dAdd_l : dAdd (.lst ds) (.lst es) = if ds.length + es.length ≤ sizeLine then some (.lst (ds ++ es)) else none := rfl
@[simp] theorem dSub_i : dSub (.int p) (.int q) = some (.int (p - q)) := rfl
@[simp] theorem dMul_i : dMul (.int p) (.int q) = if mulOk p q = true then some (.int (p * q)) else none := rfl
@[simp] theorem dMul_l : dMul (.lst ds) (.int q) = if 0 ≤ q ∧ q < 1000 ∧ ds.length ≤ 1000 then some (.lst (List.replicate q.toNat ds).flatten) else none := rfl
@[simp] theorem dFdiv_i : dFdiv (.int p) (.int q) = if q ≠ 0 ∧ q.natAbs < 1073741824 then some (.int (p.fdiv q)) else none := rfl
@[simp] theorem dMod_i : dMod (.int p) (.int q) = if q ≠ 0 then some (.int (p.fmod q)) else none := rfl
@[simp] theorem dPow_i : dPow (.int p) (.int q) = if 0 ≤ q ∧ q ≤ 1000000 ∧ p.natAbs < 2 ^ 64 then some (.int (p ^ q.toNat)) else none := rfl
@[simp] theorem dNeg_i : dNeg (.int p) = some (.int (-p)) := rfl
@[simp] theorem dLt_i : dLt (.int p) (.int q) = some (.bl (decide (p < q))) := rfl
@[simp] theorem dLe_i : dLe (.int p) (.int q) = some (.bl (decide (p ≤ q))) := rfl
@[simp] theorem dGt_i : dGt (.int p) (.int q) = some (.bl (decide (p > q))) := rfl
@[simp] theorem dGe_i : dGe (.int p) (.int q) = some (.bl (decide (p ≥ q))) := rfl
@[simp] theorem dInt_i : dInt [.int p] = some (.int p) := rfl
@[simp] theorem dInt_b (c : Bool) : dInt [.bl c] = some (.int (if c then 1 else 0)) := rfl
@[simp] theorem dLen_t : dLen [.tup ds] = some (.int ds.length) := rfl
@[simp] theorem dLen_l : dLen [.lst ds] = some (.int ds.length) := rfl
@[simp] theorem dMin_i : dMin [.int p, .int q] = some (.int (if q < p then q else p)) := rfl
@[simp] theorem dMax_i : dMax [.int p, .int q] = some (.int (if q > p then q else p)) := rfl
@[simp] theorem dTuple_t : dTuple [.tup ds] = some (.tup ds) := rfl
@[simp] theorem dTuple_l : dTuple [.lst ds] = some (.tup ds) := rfl
@[simp] theorem dList_t : dList [.tup ds] = some (.lst ds) := rfl
@[simp] theorem dList_l : dList [.lst ds] = some (.lst ds) := rfl
@[simp] theorem dList_f : dList [.fl ds] = some (.lst ds) := rfl
variable (s s' : Str)
@[simp] theorem keyD_s : keyD (.str s) = some (.inr s) := rfl
@[simp] theorem keyD_i : keyD (.int p) = some (.inl p) := rfl
@[simp] theorem dIx_t : dIx (.tup ds) (.int p) = atI ds p := rfl
@[simp] theorem dIx_l : dIx (.lst ds) (.int p) = atI ds p := rfl
@[simp] theorem dIx_f : dIx (.fl ds) (.int p) = atI ds p := rfl
@[simp] theorem dIx_d (kv : List (Key × D)) : dIx (.dct kv) (.str s) = valD kv (.inr s) := rfl
@[simp] theorem valD_nil (k : Key) : valD [] k = none := rfl
@[simp] theorem valD_cons (k k' : Key) (d : D) (kv : List (Key × D)) : valD ((k, d) :: kv) k' = if k = k' then some d else valD kv k' := by
  unfold valD
  rw [List.find?_cons]
  by_cases h : k = k'
  · simp [h]
  · simp [h]
theorem putD_miss (k : Key) (d : D) (kv : List (Key × D)) (h : (kv.any fun e => decide (e.1 = k)) = false) : putD kv k d = kv ++ [(k, d)] := by unfold putD; rw [h]; rfl
@[simp] theorem isNon_n : isNon .non = true := rfl
@[simp] theorem isNon_i : isNon (.int p) = false := rfl
@[simp] theorem dIs_n (d : D) : dIs d .non = some (.bl (isNon d)) := rfl
@[simp] theorem dIsNot_n (d : D) : dIsNot d .non = some (.bl (!isNon d)) := rfl
@[simp] theorem dEq_i : dEq (.int p) (.int q) = some (.bl (decide (p = q))) := by
  show some (D.bl (decide (V.int p = V.int q))) = _
  simp
@[simp] theorem dEq_s : dEq (.str s) (.str s') = some (.bl (decide (s = s'))) := by
  show some (D.bl (decide (V.str s = V.str s'))) = _
  simp
@[simp] theorem dEq_b (c c' : Bool) : dEq (.bl c) (.bl c') = some (.bl (decide (c = c'))) := by
  show some (D.bl (decide (V.bl c = V.bl c'))) = _
  simp
@[simp] theorem dEq_nn : dEq .non .non = some (.bl true) := by
  show some (D.bl (decide (V.non = V.non))) = _
  simp
@[simp] theorem dEq_ni : dEq .non (.int p) = some (.bl false) := rfl
@[simp] theorem dEq_in : dEq (.int p) .non = some (.bl false) := rfl
theorem dNe_dEq (d e : D) : dNe d e = (eqD d e).map fun b => D.bl (!b) := rfl
@[simp] theorem dNe_i : dNe (.int p) (.int q) = some (.bl (!decide (p = q))) := by
  show some (D.bl (!decide (V.int p = V.int q))) = _
  simp
@[simp] theorem dNe_s : dNe (.str s) (.str s') = some (.bl (!decide (s = s'))) := by
  show some (D.bl (!decide (V.str s = V.str s'))) = _
  simp
@[simp] theorem dNe_nn : dNe .non .non = some (.bl false) := by
  show some (D.bl (!decide (V.non = V.non))) = _
  simp
@[simp] theorem dNe_ni : dNe .non (.int p) = some (.bl true) := rfl
@[simp] theorem dNe_in : dNe (.int p) .non = some (.bl true) := rfl
@[simp] theorem truD_b (c : Bool) : truD (.bl c) = some c := rfl
@[simp] theorem seqD_t : seqD (.tup ds) = some ds := rfl
@[simp] theorem seqD_l : seqD (.lst ds) = some ds := rfl
@[simp] theorem forD_nil : forD t m b [] δ S = .next δ S := rfl
@[simp] theorem apply_nm (u : U) : (Tg.nm i).apply u δ = some (δ.set i (some u)) := rfl
@[simp] theorem lcD_nil : lcD t mt ma δ [] S = .ok [] S := rfl
@[simp] theorem keysD_nil : keysD [] = some [] := rfl
@[simp] theorem isL_ : isL (.lst ds) = true := rfl
@[simp] theorem isDc_ (kv : List (Key × D)) : isDc (.dct kv) = true := rfl
@[simp] theorem append_ (d : D) : aAppend S (.lst ds) [.d d] = if ds.length < sizeLine then some (.non, .lst (ds ++ [d])) else none := rfl
@[simp] theorem extend_l : aExtend S (.lst ds) [.d (.lst es)] = if ds.length + es.length ≤ sizeLine then some (.non, .lst (ds ++ es)) else none := rfl
@[simp] theorem update_ (kv kw : List (Key × D)) : aUpdate S (.dct kv) [.d (.dct kw)] = if kv.length + kw.length ≤ sizeLine then some (.non, .dct (mergeD kv kw)) else none := rfl
end
@[simp] theorem dSl_t (ds : List D) (lo hi : Option Int) : dSl (.tup ds) lo hi = some (.tup (cutD ds lo hi)) := rfl
@[simp] theorem dSl_l (ds : List D) (lo hi : Option Int) : dSl (.lst ds) lo hi = some (.lst (cutD ds lo hi)) := rfl
@[simp] theorem dSl_f (ds : List D) (lo hi : Option Int) : dSl (.fl ds) lo hi = some (.lst (cutD ds lo hi)) := rfl
theorem cutD_to (ds : List D) {p : Int} (h : 0 ≤ p) : cutD ds none (some p) = ds.take p.toNat := by
  unfold cutD
  have e1 : HT.sIx ds.length 0 none = 0 := rfl
  have e2 : HT.sIx ds.length ds.length (some p) = min p.toNat ds.length := by
    show (if p < 0 then (p + (ds.length : Int)).toNat else min p.toNat ds.length) = _
    rw [if_neg (by omega)]
  rw [e1, e2, List.drop_zero, Nat.sub_zero]
  by_cases hp : p.toNat ≤ ds.length
  · rw [Nat.min_eq_left hp]
  · rw [Nat.min_eq_right (by omega), List.take_length, List.take_of_length_le (by omega)]
theorem cutD_from (ds : List D) {p : Int} (h : 0 ≤ p) : cutD ds (some p) none = ds.drop p.toNat := by
  unfold cutD
  have e1 : HT.sIx ds.length ds.length none = ds.length := rfl
  have e2 : HT.sIx ds.length 0 (some p) = min p.toNat ds.length := by
    show (if p < 0 then (p + (ds.length : Int)).toNat else min p.toNat ds.length) = _
    rw [if_neg (by omega)]
  rw [e1, e2]
  by_cases hp : p.toNat ≤ ds.length
  · rw [Nat.min_eq_left hp, List.take_of_length_le (by rw [List.length_drop]; omega)]
  · rw [Nat.min_eq_right (by omega), List.drop_length, List.drop_of_length_le (by omega)]; simp
theorem atI_in {ds : List D} {p : Int} (h0 : 0 ≤ p) (h1 : p < ds.length) : atI ds p = ds[p.toNat]? := by
  have e : p = ((p.toNat : Nat) : Int) := by omega
  rw [e]
  have h2 : p.toNat < ds.length := by omega
  rw [List.getElem?_eq_getElem (by omega)]
  exact atI_nat (by rw [List.getElem?_eq_getElem h2]; congr 1)
@[simp] theorem peek_last_l (S : Store) (ds : List D) : peek (S ++ [.lst ds]) (.loc S.length) = some (.lst ds) := by
  show (match (S ++ [Cell.lst ds])[S.length]? with | some (.lst ds) => some (D.lst ds) | some (.dct es) => some (.dct es) | _ => none) = _
  simp
@[simp] theorem peek_last_d (S : Store) (kv : List (Key × D)) : peek (S ++ [.dct kv]) (.loc S.length) = some (.dct kv) := by
  show (match (S ++ [Cell.dct kv])[S.length]? with | some (.lst ds) => some (D.lst ds) | some (.dct es) => some (.dct es) | _ => none) = _
  simp
@[simp] theorem set_last (S : Store) (c c' : Cell) : List.set (S ++ [c]) S.length c' = S ++ [c'] := by simp
@[simp] theorem take_last (S : Store) (c : Cell) : List.take (S.length + 1) (S ++ [c]) = S ++ [c] := List.take_of_length_le (by simp)
@[simp] theorem take_self (S : Store) : List.take S.length S = S := List.take_length
@[simp] theorem take_pre (S : Store) (c : Cell) : List.take S.length (S ++ [c]) = S := by simp
@[simp] theorem atI_0 (d : D) (ds : List D) : atI (d :: ds) 0 = some d := by rw [atI_in (by decide) (by simp)]; rfl
@[simp] theorem atI_1 (d e : D) (ds : List D) : atI (d :: e :: ds) 1 = some e := by rw [atI_in (by decide) (by simp only [List.length_cons]; omega)]; rfl
theorem small_line {n : Nat} (h : n ≤ 10000) : n ≤ sizeLine := Nat.le_trans h (by decide)
theorem small_line' {n : Nat} (h : n ≤ 10000) : n < sizeLine := Nat.lt_of_le_of_lt h (by decide)
end DL

set_option Elab.async false
set_option linter.all false
set_option maxRecDepth 100000
set_option maxHeartbeats 4000000
/-! DRepr: texts that differ; repr of small data -/
namespace DL
open PySem L2 PyProof.Rows
theorem ofString_inj {a b : String} : (Str.ofString a = Str.ofString b) ↔ a = b := by
  refine ⟨fun h => ?_, fun h => by rw [h]⟩
  rw [Str.ofString_eq_byList] at h
  unfold Str.ofStringByList at h
  have h1 : a.toList.map Char.toNat = b.toList.map Char.toNat := by simpa using h
  have inj : ∀ (xs ys : List Char), xs.map Char.toNat = ys.map Char.toNat → xs = ys := by
    intro xs
    induction xs with
    | nil => intro ys e; cases ys with
      | nil => rfl
      | cons _ _ => cases e
    | cons x xs ih => intro ys e; cases ys with
      | nil => cases e
      | cons y ys =>
        simp only [List.map_cons, List.cons.injEq] at e
        have : x = y := by
          apply Char.ext
          apply UInt32.toNat_inj.mp
          exact e.1
        rw [this, ih ys e.2]
  exact String.toList_injective (inj _ _ h1)
@[simp] theorem ofString_eq (a b : String) : (Str.ofString a = Str.ofString b) = (a = b) := propext ofString_inj
theorem ofString_len (s : String) : (Str.ofString s).length = s.toList.length := by
  rw [Str.ofString_eq_byList]
  unfold Str.ofStringByList Str.length
  simp
theorem shown_int_len {i : Int} {k : Nat} (hk : 1 ≤ k) (h : i.natAbs < 10 ^ k) : (PyData.shown (.int i)).length ≤ k + 1 := by
  have e : PyData.shown (.int i) = Str.ofString (toString i) := by simp only [PyData.shown]
  rw [e, ofString_len]
  have dig : ∀ n : Nat, n < 10 ^ k → (toString n).toList.length ≤ k := by
    intro n hn
    have q := toDigits_len_pow (b := 10) (by decide) hk hn
    have e2 : (toString n).toList = Nat.toDigits 10 n := by
      show (Nat.repr n).toList = _
      unfold Nat.repr
      simp
    rw [e2]; exact q
  cases i with
  | ofNat n => exact Nat.le_succ_of_le (dig n (by simpa using h))
  | negSucc n =>
    have e3 : toString (Int.negSucc n) = "-" ++ toString (n + 1) := rfl
    rw [e3]
    have := dig (n + 1) (by simpa [Int.natAbs] using h)
    rw [String.toList_append, List.length_append]
    have l1 : ("-" : String).toList.length = 1 := rfl
    omega
/-- nothing or a whole number of at most 20 digits -/
def Sm : D → Prop
  | .non => True
  | .int i => i.natAbs < 10 ^ 20
  | _ => False
theorem sm_py {d : D} (h : Sm d) : ∃ p, toPy d = some p ∧ p.showable = true ∧ p.shown.length ≤ 21 ∧ p.depth = 0 ∧ p.hasDict = false := by
  cases d with
  | non => exact ⟨.none, by simp only [toPy], by simp only [PyData.showable], by simp only [PyData.shown]; decide, by simp only [PyData.depth], by simp only [PyData.hasDict]⟩
  | int i =>
    refine ⟨.int i, by simp only [toPy], ?_, shown_int_len (by decide) h, by simp only [PyData.depth], by simp only [PyData.hasDict]⟩
    simp only [PyData.showable, decide_eq_true_eq]
    have h' : i.natAbs < 10 ^ 20 := h
    by_cases z : i.natAbs = 0
    · rw [z]; decide
    · exact (Nat.log2_lt z).mpr (Nat.lt_of_lt_of_le h' (Nat.le_trans (by decide : 10 ^ 20 ≤ 2 ^ 70) (Nat.pow_le_pow_right (by decide) (by decide))))
  | _ => exact h.elim
theorem repr_sm {d : D} (h : Sm d) : ∃ s, dRepr [d] = some (.str s) := by
  obtain ⟨p, h1, h2, h3, h4, h5⟩ := sm_py h
  refine ⟨p.shown, ?_⟩
  have : okR p = true := by
    unfold okR
    rw [h2, h5, h4]
    simp only [Bool.and_eq_true, decide_eq_true_eq]
    exact ⟨⟨⟨trivial, Nat.le_trans h3 (by decide)⟩, by decide⟩, rfl⟩
  unfold dRepr
  simp only [h1, this, if_true]
theorem sm_pyL : ∀ {ds : List D}, (∀ d ∈ ds, Sm d) → ∃ ps, toPyL ds = some ps ∧ PyData.showableAll ps = true ∧ (∀ t ∈ PyData.shownAll ps, t.length ≤ 21) ∧ (PyData.shownAll ps).length = ds.length ∧ (∀ p ∈ ps, p.depth = 0) ∧ PyData.hasDictAll ps = false
  | [], _ => by
    refine ⟨[], by simp only [toPyL], by simp only [PyData.showableAll], ?_, by simp only [PyData.shownAll, List.length_nil], ?_, by simp only [PyData.hasDictAll]⟩
    · simp only [PyData.shownAll]
      intro t h
      cases h
    · intro t h
      cases h
  | d :: ds, h => by
    obtain ⟨p, h1, h2, h3, h4, h5⟩ := sm_py (h d (List.mem_cons_self ..))
    obtain ⟨ps, g1, g2, g3, g4, g5, g6⟩ := sm_pyL fun d hd => h d (List.mem_cons_of_mem _ hd)
    refine ⟨p :: ps, by simp only [toPyL, h1, g1], by simp only [PyData.showableAll, h2, g2]; rfl, ?_, ?_, ?_, by simp only [PyData.hasDictAll, h5, g6]; rfl⟩
    · simp only [PyData.shownAll]
      intro t ht
      rcases List.mem_cons.mp ht with rfl | ht
      · exact h3
      · exact g3 t ht
    · simp only [PyData.shownAll, List.length_cons, g4]
    · intro q hq
      rcases List.mem_cons.mp hq with rfl | hq
      · exact h4
      · exact g5 q hq
theorem strLen_app (a b : Str) : (a ++ b).length = a.length + b.length := strLen_append ..
theorem textFrom_up : ∀ (ts : List Str) (k : Nat) (acc : Str), (∀ t ∈ ts, t.length ≤ 21) → (textFrom k acc ts).length ≤ acc.length + 23 * ts.length
  | [], k, acc, _ => Nat.le_refl _
  | t :: r, k, acc, h => by
    have ih := textFrom_up r (k + 1) (acc ++ (if k > 0 then ", " else "" : String) ++ t) fun x hx => h x (List.mem_cons_of_mem _ hx)
    show (textFrom (k + 1) (acc ++ (if k > 0 then ", " else "" : String) ++ t) r).length ≤ _
    rw [strLen_app, strLen_app] at ih
    have ht := h t (List.mem_cons_self ..)
    have l1 : (Str.ofString (if k > 0 then ", " else "" : String)).length ≤ 2 := by split <;> decide
    have l2 : ((if k > 0 then ", " else "" : String) : Str).length ≤ 2 := l1
    rw [List.length_cons]
    omega
theorem repr_sms {ds : List D} (h : ∀ d ∈ ds, Sm d) (hl : ds.length ≤ 100) : ∃ s, dRepr [.lst ds] = some (.str s) := by
  obtain ⟨ps, g1, g2, g3, g4, g5, g6⟩ := sm_pyL h
  have hp : toPy (.lst ds) = some (.list ps) := by simp only [toPy, g1]
  refine ⟨PyData.shown (.list ps), ?_⟩
  have d1 : (PyData.list ps).depth ≤ 64 := by
    have all : ∀ qs : List PyData, (∀ p ∈ qs, p.depth = 0) → PyData.depthAll qs = 0 := by
      intro qs
      induction qs with
      | nil => intro _; simp only [PyData.depthAll]
      | cons q qs ih =>
        intro hq
        simp only [PyData.depthAll, hq q (List.mem_cons_self ..), ih fun p hp => hq p (List.mem_cons_of_mem _ hp)]
        decide
    simp only [PyData.depth, all ps g5]
    decide
  have l1 : (PyData.shown (.list ps)).length ≤ sizeLine := by
    simp only [PyData.shown]
    have q := textFrom_up (PyData.shownAll ps) 0 "[" g3
    show (textFrom 0 "[" (PyData.shownAll ps) ++ "]").length ≤ _
    rw [strLen_app, sizeLine_eq]
    have a1 : (("[" : String) : Str).length = 1 := rfl
    have a2 : (("]" : String) : Str).length = 1 := rfl
    rw [g4] at q
    omega
  have : okR (.list ps) = true := by
    unfold okR
    simp only [Bool.and_eq_true, decide_eq_true_eq]
    exact ⟨⟨⟨by simp only [PyData.showable, g2], l1⟩, d1⟩, by simp only [PyData.hasDict, g6]; rfl⟩
  unfold dRepr
  simp only [hp, this, if_true]
end DL

set_option Elab.async false
set_option linter.all false
set_option maxRecDepth 100000
set_option maxHeartbeats 4000000
/-! M08a: the feed -/
namespace DL
open PySem L2 PyProof.Rows
theorem toPyL_ints : ∀ ns : List Int, toPyL (ns.map D.int) = some (ns.map PyData.int)
  | [] => by simp only [List.map_nil, toPyL]
  | n :: r => by simp only [List.map_cons, toPyL, toPy, toPyL_ints r]
theorem depthAll_ints : ∀ ns : List Int, PyData.depthAll (ns.map PyData.int) = 0
  | [] => by simp only [List.map_nil, PyData.depthAll]
  | n :: r => by simp only [List.map_cons, PyData.depthAll, PyData.depth, depthAll_ints r, Nat.max_self]
theorem canLayAll_ints : ∀ ns : List Int, PyData.canLayAll0 (ns.map PyData.int) = true
  | [] => by simp only [List.map_nil, PyData.canLayAll0]
  | n :: r => by simp only [List.map_cons, PyData.canLayAll0, PyData.canLay0, canLayAll_ints r, Bool.and_true]
theorem shaped_ints (ns : List Int) (h : ns.length ≤ sizeLine) : SeqAt.shaped (.list (ns.map PyData.int)) = true := by
  unfold SeqAt.shaped
  simp only [PyData.canLay0, PyData.depth, depthAll_ints, canLayAll_ints, Bool.and_true, List.length_map]
  simp [h]
@[simp] theorem dNe_ints (ns ms : List Int) (h : ns.length ≤ sizeLine) (h' : ms.length ≤ sizeLine) : dNe (.lst (ns.map D.int)) (.lst (ms.map D.int)) = some (.bl (!PyData.eqvAll (ns.map PyData.int) (ms.map PyData.int))) := by
  have e : eqD (.lst (ns.map D.int)) (.lst (ms.map D.int)) = some (PyData.eqvAll (ns.map PyData.int) (ms.map PyData.int)) := by
    show (match toPy (.lst (ns.map D.int)), toPy (.lst (ms.map D.int)) with | some p, some q => if SeqAt.shaped p && SeqAt.shaped q then some (PyData.eqv p q) else none | _, _ => none) = _
    simp only [toPy, toPyL_ints, shaped_ints ns h, shaped_ints ms h', Bool.and_self, if_true, PyData.eqv]
  unfold dNe
  rw [e]; rfl
theorem atI_ints {ns : List Int} {p : Int} (h0 : 0 ≤ p) (h1 : p < ns.length) : ∃ c, atI (ns.map D.int) p = some (.int c) := by
  have l : p.toNat < ns.length := by omega
  refine ⟨ns[p.toNat], ?_⟩
  rw [atI_in h0 (by rw [List.length_map]; exact h1), List.getElem?_map, List.getElem?_eq_getElem l]
  rfl
end DL
namespace W
open DL PySem L2
def feed (ns : List Int) (a l n : Int) : Cell := .dct [(.inr "cells", .lst (ns.map .int)), (.inr "at", .int a), (.inr "left", .int l), (.inr "count", .int n)]
theorem mulOk_fm (x y p : Int) (h : 0 < p) (h' : p ≤ 2 ^ 64) : mulOk (x.fmod p) y = true := by
  have a := Int.fmod_nonneg_of_pos x h
  have b := Int.fmod_lt_of_pos x h
  unfold mulOk
  simp only [Bool.or_eq_true, Bool.and_eq_true, decide_eq_true_eq]
  exact .inl ⟨by omega, by omega⟩
theorem mulOk_lit (x y : Int) (h : -(2 ^ 64) < x) (h' : x < 2 ^ 64) : mulOk x y = true := by
  unfold mulOk
  simp only [Bool.or_eq_true, Bool.and_eq_true, decide_eq_true_eq]
  exact .inl ⟨h, h'⟩
theorem draw_fm (ns : List Int) (a l n m : Int) (hm : 0 < m) (hm2 : m < 1000) (hn : ns.length ≤ 1000) : ∃ r a' l' n' : Int, f__law_draw [.loc 0, .d (.int m)] [feed ns a l n] = .ok (.d (.int (r.fmod m))) [feed ns a' l' n'] := by
  have m0 : m ≠ 0 := by omega
  have m1 : m.natAbs < 1073741824 := by omega
  have nl : ns.length ≤ sizeLine := by rw [sizeLine_eq]; omega
  have k1 : ∀ y, mulOk 180007 y = true := fun y => mulOk_lit _ _ (by decide) (by decide)
  have k2 : ∀ y, mulOk 3800191 y = true := fun y => mulOk_lit _ _ (by decide) (by decide)
  have k3 : ∀ y, mulOk 83 y = true := fun y => mulOk_lit _ _ (by decide) (by decide)
  have k4 : ∀ x y : Int, mulOk (x.fmod 2147483323) y = true := fun x y => mulOk_fm _ _ _ (by decide) (by decide)
  have k5 : ∀ x y : Int, mulOk (x.fmod 2147483269) y = true := fun x y => mulOk_fm _ _ _ (by decide) (by decide)
  unfold f__law_draw b__law_draw
  by_cases hl : l > 0
  · simp [feed, enter, putD, sizeLine_eq, hl, m0, m1]
    exact ⟨_, rfl⟩
  · by_cases h0 : ns = []
    · subst h0
      have q := dNe_ints [] [] (by decide) (by decide)
      simp only [List.map_nil, PyData.eqvAll] at q
      simp [feed, enter, putD, sizeLine_eq, hl, m0, m1, q, k1, k2, k3, k4, k5]
      exact ⟨_, rfl⟩
    · have lp : (0 : Int) < ns.length := by
        have := List.length_pos_iff.mpr h0
        omega
      obtain ⟨c, hc⟩ := atI_ints (ns := ns) (p := a.fmod ns.length) (Int.fmod_nonneg_of_pos _ lp) (Int.fmod_lt_of_pos _ lp)
      have q := dNe_ints ns [] nl (by decide)
      have q2 : PyData.eqvAll (ns.map PyData.int) (([] : List Int).map PyData.int) = false := by
        cases ns with
        | nil => exact absurd rfl h0
        | cons x r => simp only [List.map_cons, List.map_nil, PyData.eqvAll]
      rw [q2] at q
      simp only [List.map_nil] at q
      by_cases h3 : (10 : Int) ^ 18 ≤ c
      · by_cases h4 : a < ns.length
        · simp at h3
          simp [feed, enter, putD, sizeLine_eq, hl, m0, m1, q, h0, hc, h3, h4]
          exact ⟨_, rfl⟩
        · simp at h3
          simp [feed, enter, putD, sizeLine_eq, hl, m0, m1, q, h0, hc, h3, h4, k1, k2, k3, k4, k5]
          exact ⟨_, rfl⟩
      · simp at h3
        have h3' : ¬ (1000000000000000000 ≤ c) := by omega
        simp [feed, enter, putD, sizeLine_eq, hl, m0, m1, q, h0, hc, h3', k1, k2, k3, k4, k5]
        exact ⟨_, rfl⟩
/-- a cell that is a feed -/
def Fd (c : Cell) : Prop := ∃ (ns : List Int) (a l n : Int), ns.length ≤ 1000 ∧ c = feed ns a l n
theorem draw_ok {c : Cell} (h : Fd c) (m : Int) (hm : 0 < m) (hm2 : m < 1000) : ∃ (r : Int) (c' : Cell), f__law_draw [.loc 0, .d (.int m)] [c] = .ok (.d (.int r)) [c'] ∧ Fd c' ∧ 0 ≤ r ∧ r < m := by
  obtain ⟨ns, a, l, n, hn, rfl⟩ := h
  obtain ⟨r, a', l', n', e⟩ := draw_fm ns a l n m hm hm2 hn
  exact ⟨_, _, e, ⟨ns, a', l', n', hn, rfl⟩, Int.fmod_nonneg_of_pos r hm, Int.fmod_lt_of_pos r hm⟩
theorem feed_ok (ns : List Int) (h : ns.length ≤ 63) (S : Store) : ∃ c, f__law_feed [.d (.fl (ns.map D.int))] S = .ok (.loc S.length) (S ++ [c]) ∧ Fd c := by
  refine ⟨feed (ns.take 63) 0 0 0, ?_, ns.take 63, 0, 0, 0, by rw [List.length_take]; omega, rfl⟩
  unfold f__law_feed b__law_feed
  have e := cutD_to (ns.map D.int) (p := 63) (by decide)
  simp [enter, mDictC, mPairs, feed, e, mergeD, putD, exitK, List.map_take]
  try exact List.take_of_length_le (by simp)
end W

set_option Elab.async false
set_option linter.all false
set_option maxRecDepth 100000
set_option maxHeartbeats 4000000
/-! M08b: expressions and their values -/
namespace W
open DL PySem L2
inductive Op where
  | add | sub | mul | div | mod | least | most | eq | lt | le
def Op.nm : Op → Str
  | .add => "+" | .sub => "-" | .mul => "*" | .div => "div" | .mod => "mod" | .least => "least" | .most => "most" | .eq => "=" | .lt => "<" | .le => "<="
inductive Ex where
  | num (i : Int)
  | var (x : Str)
  | not_ (a : Ex)
  | neg (a : Ex)
  | and_ (a b : Ex)
  | or_ (a b : Ex)
  | if_ (a b c : Ex)
  | op (o : Op) (a b : Ex)
def Ex.toD : Ex → D
  | .num i => .int i
  | .var x => .str x
  | .not_ a => .tup [.str "not", a.toD]
  | .neg a => .tup [.str "neg", a.toD]
  | .and_ a b => .tup [.str "and", a.toD, b.toD]
  | .or_ a b => .tup [.str "or", a.toD, b.toD]
  | .if_ a b c => .tup [.str "if", a.toD, b.toD, c.toD]
  | .op o a b => .tup [.str o.nm, a.toD, b.toD]
def tr (b : Bool) : Int := if b then 1 else 0
def Op.app : Op → Int → Int → Option Int
  | .add, v, w => some (v + w)
  | .sub, v, w => some (v - w)
  | .mul, v, w => some (v * w)
  | .div, v, w => if w = 0 then none else some (v.fdiv w)
  | .mod, v, w => if w = 0 then none else some (v.fmod w)
  | .least, v, w => some (if w < v then w else v)
  | .most, v, w => some (if w > v then w else v)
  | .eq, v, w => some (tr (decide (v = w)))
  | .lt, v, w => some (tr (decide (v < w)))
  | .le, v, w => some (tr (decide (v ≤ w)))
def andV (x y : Option Int) : Option Int := match x with
  | none => none
  | some v => if v = 0 then some 0 else y.map fun w => tr (!decide (w = 0))
def orV (x y : Option Int) : Option Int := match x with
  | none => none
  | some v => if v = 0 then y.map fun w => tr (!decide (w = 0)) else some 1
def ifV (x y z : Option Int) : Option Int := match x with
  | none => none
  | some v => if v = 0 then z else y
def opV (o : Op) (x y : Option Int) : Option Int := match x, y with
  | some v, some w => o.app v w
  | _, _ => none
def notV (x : Option Int) : Option Int := x.map fun v => tr (decide (v = 0))
def negV (x : Option Int) : Option Int := x.map fun v => -v
def ev (ρ : Str → Int) : Ex → Option Int
  | .num i => some i
  | .var x => some (ρ x)
  | .not_ a => notV (ev ρ a)
  | .neg a => negV (ev ρ a)
  | .and_ a b => andV (ev ρ a) (ev ρ b)
  | .or_ a b => orV (ev ρ a) (ev ρ b)
  | .if_ a b c => ifV (ev ρ a) (ev ρ b) (ev ρ c)
  | .op o a b => opV o (ev ρ a) (ev ρ b)
def oD : Option Int → D
  | none => .non
  | some i => .int i
@[simp] theorem oD_n : oD none = .non := rfl
@[simp] theorem oD_s (i : Int) : oD (some i) = .int i := rfl
section
variable {gv : Fn} {K A B C : D} {va vb vc : Option Int} {S : Store}
theorem ite_ofB (c : Bool) : (if c then (1 : Int) else 0) = tr c := rfl
theorem lazy_and (ha : gv [.d K, .d A] S = .ok (.d (oD va)) S) (hb : gv [.d K, .d B] S = .ok (.d (oD vb)) S) : f_lazy_value gv [.d K, .d (.tup [.str "and", A, B])] S = .ok (.d (oD (andV va vb))) S := by
  unfold f_lazy_value b_lazy_value
  cases va with
  | none => simp [enter, setAll, ha, andV]
  | some v =>
    by_cases hv : v = 0
    · simp [enter, setAll, ha, hb, andV, hv]
    · cases vb with
      | none => simp [enter, setAll, ha, hb, andV, hv]
      | some w => simp [enter, setAll, ha, hb, andV, hv, tr]
theorem lazy_or (ha : gv [.d K, .d A] S = .ok (.d (oD va)) S) (hb : gv [.d K, .d B] S = .ok (.d (oD vb)) S) : f_lazy_value gv [.d K, .d (.tup [.str "or", A, B])] S = .ok (.d (oD (orV va vb))) S := by
  unfold f_lazy_value b_lazy_value
  cases va with
  | none => simp [enter, setAll, ha, orV]
  | some v =>
    by_cases hv : v = 0
    · cases vb with
      | none => simp [enter, setAll, ha, hb, orV, hv]
      | some w => simp [enter, setAll, ha, hb, orV, hv, tr]
    · simp [enter, setAll, ha, hb, orV, hv]
theorem lazy_if (ha : gv [.d K, .d A] S = .ok (.d (oD va)) S) (hb : gv [.d K, .d B] S = .ok (.d (oD vb)) S) (hc : gv [.d K, .d C] S = .ok (.d (oD vc)) S) : f_lazy_value gv [.d K, .d (.tup [.str "if", A, B, C])] S = .ok (.d (oD (ifV va vb vc))) S := by
  unfold f_lazy_value b_lazy_value
  cases va with
  | none => simp [enter, setAll, ha, ifV]
  | some v =>
    by_cases hv : v = 0
    · simp [enter, setAll, ha, hc, ifV, hv]
    · simp [enter, setAll, ha, hb, ifV, hv]
end
end W

set_option Elab.async false
set_option linter.all false
set_option maxRecDepth 100000
set_option maxHeartbeats 4000000
/-! M08c: strict words, valued -/
namespace W
open DL PySem L2
def small30 (v w : Int) : Prop := v.natAbs < 1073741824 ∧ w.natAbs < 1073741824
theorem mulOk_small {v w : Int} (h : small30 v w) : mulOk v w = true := mulOk_lit _ _ (by have := h.1; omega) (by have := h.1; omega)
theorem computed_ok (o : Op) (v w : Int) (h : small30 v w) (S : Store) : f_computed [.d (.str o.nm), .d (.int v), .d (.int w)] S = .ok (.d (oD (o.app v w))) S := by
  have hm := mulOk_small h
  have h2 := h.2
  unfold f_computed b_computed
  cases o with
  | add => simp [enter, Op.nm, Op.app]
  | sub => simp [enter, Op.nm, Op.app]
  | mul => simp [enter, Op.nm, Op.app, hm]
  | div => by_cases hw : w = 0 <;> simp [enter, Op.nm, Op.app, hw, h2]
  | mod => by_cases hw : w = 0 <;> simp [enter, Op.nm, Op.app, hw]
  | least => simp [enter, Op.nm, Op.app]
  | most => simp [enter, Op.nm, Op.app]
  | eq => simp [enter, Op.nm, Op.app, tr]
  | lt => simp [enter, Op.nm, Op.app, tr]
  | le => simp [enter, Op.nm, Op.app, tr]
section
variable {gv : Fn} {K A B : D} {va vb : Option Int} {S : Store}
@[simp] theorem atI_m1_1 (d : D) : atI [d] (-1) = some d := rfl
@[simp] theorem atI_m1_2 (d e : D) : atI [d, e] (-1) = some e := rfl
theorem strict_not (ha : gv [.d K, .d A] (S ++ [.lst []]) = .ok (.d (oD va)) (S ++ [.lst []])) : f_strict_value gv f_computed [.d K, .d (.tup [.str "not", A])] S = .ok (.d (oD (notV va))) S := by
  unfold f_strict_value b_strict_value
  cases va with
  | none => simp [enter, setAll, ha, notV, forD_cons, sizeLine_eq]
  | some v => simp [enter, setAll, ha, notV, tr, forD_cons, sizeLine_eq, trimE, trimU]
theorem strict_neg (ha : gv [.d K, .d A] (S ++ [.lst []]) = .ok (.d (oD va)) (S ++ [.lst []])) : f_strict_value gv f_computed [.d K, .d (.tup [.str "neg", A])] S = .ok (.d (oD (negV va))) S := by
  unfold f_strict_value b_strict_value
  cases va with
  | none => simp [enter, setAll, ha, negV, forD_cons, sizeLine_eq]
  | some v => simp [enter, setAll, ha, negV, tr, forD_cons, sizeLine_eq, trimE, trimU]
theorem nm_not (o : Op) : (o.nm = ("not" : Str)) = False := by cases o <;> simp [Op.nm]
theorem nm_neg (o : Op) : (o.nm = ("neg" : Str)) = False := by cases o <;> simp [Op.nm]
theorem strict_op (o : Op) (ha : gv [.d K, .d A] (S ++ [.lst []]) = .ok (.d (oD va)) (S ++ [.lst []])) (hb : ∀ v, va = some v → gv [.d K, .d B] (S ++ [.lst [.int v]]) = .ok (.d (oD vb)) (S ++ [.lst [.int v]]))
    (hs : ∀ v w, va = some v → vb = some w → small30 v w) : f_strict_value gv f_computed [.d K, .d (.tup [.str o.nm, A, B])] S = .ok (.d (oD (opV o va vb))) S := by
  unfold f_strict_value b_strict_value
  cases va with
  | none => simp [enter, setAll, ha, opV, forD_cons, sizeLine_eq]
  | some v =>
    have hb := hb v rfl
    cases vb with
    | none => simp [enter, setAll, ha, hb, opV, forD_cons, sizeLine_eq, trimE, trimU]
    | some w =>
      have hc := computed_ok o v w (hs v w rfl rfl) (S ++ [.lst [.int v, .int w]])
      simp [enter, setAll, ha, hb, opV, forD_cons, sizeLine_eq, trimE, trimU, nm_not, nm_neg, hc]
end
/-! ### valued, with n calls allowed -/
def stk : Fn := fun _ _ => .stuck
def G : Nat → Fn × Fn × Fn
  | 0 => (stk, stk, stk)
  | n + 1 => (f_valued f_is_integer (G n).2.1 (G n).2.2, f_lazy_value (G n).1, f_strict_value (G n).1 f_computed)
def Ex.dep : Ex → Nat
  | .num _ => 0
  | .var _ => 0
  | .not_ a => a.dep + 1
  | .neg a => a.dep + 1
  | .and_ a b => max a.dep b.dep + 1
  | .or_ a b => max a.dep b.dep + 1
  | .if_ a b c => max a.dep (max b.dep c.dep) + 1
  | .op _ a b => max a.dep b.dep + 1
def Ex.vars : Ex → List Str
  | .num _ => []
  | .var x => [x]
  | .not_ a => a.vars
  | .neg a => a.vars
  | .and_ a b => a.vars ++ b.vars
  | .or_ a b => a.vars ++ b.vars
  | .if_ a b c => a.vars ++ (b.vars ++ c.vars)
  | .op _ a b => a.vars ++ b.vars
/-- no number within is too great -/
def Fit (ρ : Str → Int) : Ex → Prop
  | .num _ => True
  | .var _ => True
  | .not_ a => Fit ρ a
  | .neg a => Fit ρ a
  | .and_ a b => Fit ρ a ∧ Fit ρ b
  | .or_ a b => Fit ρ a ∧ Fit ρ b
  | .if_ a b c => Fit ρ a ∧ Fit ρ b ∧ Fit ρ c
  | .op _ a b => Fit ρ a ∧ Fit ρ b ∧ ∀ v w, ev ρ a = some v → ev ρ b = some w → small30 v w
def Knows (es : List (Key × D)) (ρ : Str → Int) (xs : List Str) : Prop := ∀ x ∈ xs, valD es (.inr x) = some (.int (ρ x))
theorem in_and : dIn (.str "and") (.tup [.str "and", .str "or", .str "if"]) = some (.bl true) := rfl
theorem in_or : dIn (.str "or") (.tup [.str "and", .str "or", .str "if"]) = some (.bl true) := rfl
theorem in_if : dIn (.str "if") (.tup [.str "and", .str "or", .str "if"]) = some (.bl true) := rfl
theorem in_not : dIn (.str "not") (.tup [.str "and", .str "or", .str "if"]) = some (.bl false) := rfl
theorem in_neg : dIn (.str "neg") (.tup [.str "and", .str "or", .str "if"]) = some (.bl false) := rfl
theorem in_op (o : Op) : dIn (.str o.nm) (.tup [.str "and", .str "or", .str "if"]) = some (.bl false) := by cases o <;> rfl
section
variable {gl gs : Fn} {K : D} {S : Store} {w : Str} {ps : List D}
theorem is_int_i (i : Int) : f_is_integer [.d (.int i)] S = .ok (.d (.bl true)) S := by
  unfold f_is_integer b_is_integer
  simp [enter, isT]
theorem is_int_s (x : Str) : f_is_integer [.d (.str x)] S = .ok (.d (.bl false)) S := by
  unfold f_is_integer b_is_integer
  simp [enter, isT]
theorem is_int_t (ds : List D) : f_is_integer [.d (.tup ds)] S = .ok (.d (.bl false)) S := by
  unfold f_is_integer b_is_integer
  simp [enter, isT]
theorem valued_num (i : Int) : f_valued f_is_integer gl gs [.d K, .d (.int i)] S = .ok (.d (.int i)) S := by
  unfold f_valued b_valued
  simp [enter, is_int_i]
theorem valued_var (es : List (Key × D)) (x : Str) (v : Int) (h : valD es (.inr x) = some (.int v)) : f_valued f_is_integer gl gs [.d (.dct es), .d (.str x)] S = .ok (.d (.int v)) S := by
  unfold f_valued b_valued
  simp [enter, is_int_s, isT, h]
theorem valued_lazy {r : Option Int} (hw : dIn (.str w) (.tup [.str "and", .str "or", .str "if"]) = some (.bl true)) (h : gl [.d K, .d (.tup (.str w :: ps))] S = .ok (.d (oD r)) S) :
    f_valued f_is_integer gl gs [.d K, .d (.tup (.str w :: ps))] S = .ok (.d (oD r)) S := by
  unfold f_valued b_valued
  simp [enter, is_int_t, isT, hw, h, sizeLine_eq]
theorem valued_strict {r : Option Int} (hw : dIn (.str w) (.tup [.str "and", .str "or", .str "if"]) = some (.bl false)) (h : gs [.d K, .d (.tup (.str w :: ps))] S = .ok (.d (oD r)) S) :
    f_valued f_is_integer gl gs [.d K, .d (.tup (.str w :: ps))] S = .ok (.d (oD r)) S := by
  unfold f_valued b_valued
  simp [enter, is_int_t, isT, hw, h, sizeLine_eq]
end
theorem Knows.mono {es : List (Key × D)} {ρ : Str → Int} {xs ys : List Str} (h : Knows es ρ xs) (s : ∀ x ∈ ys, x ∈ xs) : Knows es ρ ys := fun x hx => h x (s x hx)
theorem valued_ok (es : List (Key × D)) (ρ : Str → Int) : ∀ (e : Ex) (n : Nat) (S : Store), Knows es ρ e.vars → Fit ρ e → 2 * e.dep + 1 ≤ n → (G n).1 [.d (.dct es), .d e.toD] S = .ok (.d (oD (ev ρ e))) S := by
  intro e
  induction e with
  | num i =>
    intro n S _ _ hn
    obtain ⟨n, rfl⟩ : ∃ k, n = k + 1 := ⟨n - 1, by omega⟩
    exact valued_num (gl := (G n).2.1) (gs := (G n).2.2) (K := .dct es) i
  | var x =>
    intro n S hk _ hn
    obtain ⟨n, rfl⟩ : ∃ k, n = k + 1 := ⟨n - 1, by omega⟩
    exact valued_var (gl := (G n).2.1) (gs := (G n).2.2) es x _ (hk x (by simp [Ex.vars]))
  | not_ a iha =>
    intro n S hk hf hn
    simp only [Ex.dep] at hn
    obtain ⟨n, rfl⟩ : ∃ k, n = k + 2 := ⟨n - 2, by omega⟩
    exact valued_strict in_not (strict_not (iha n _ hk hf (by omega)))
  | neg a iha =>
    intro n S hk hf hn
    simp only [Ex.dep] at hn
    obtain ⟨n, rfl⟩ : ∃ k, n = k + 2 := ⟨n - 2, by omega⟩
    exact valued_strict in_neg (strict_neg (iha n _ hk hf (by omega)))
  | and_ a b iha ihb =>
    intro n S hk hf hn
    simp only [Ex.dep] at hn
    obtain ⟨n, rfl⟩ : ∃ k, n = k + 2 := ⟨n - 2, by omega⟩
    exact valued_lazy in_and (lazy_and (iha n S (hk.mono fun x hx => by simp [Ex.vars, hx]) hf.1 (by omega)) (ihb n S (hk.mono fun x hx => by simp [Ex.vars, hx]) hf.2 (by omega)))
  | or_ a b iha ihb =>
    intro n S hk hf hn
    simp only [Ex.dep] at hn
    obtain ⟨n, rfl⟩ : ∃ k, n = k + 2 := ⟨n - 2, by omega⟩
    exact valued_lazy in_or (lazy_or (iha n S (hk.mono fun x hx => by simp [Ex.vars, hx]) hf.1 (by omega)) (ihb n S (hk.mono fun x hx => by simp [Ex.vars, hx]) hf.2 (by omega)))
  | if_ a b c iha ihb ihc =>
    intro n S hk hf hn
    simp only [Ex.dep] at hn
    obtain ⟨n, rfl⟩ : ∃ k, n = k + 2 := ⟨n - 2, by omega⟩
    exact valued_lazy in_if (lazy_if (iha n S (hk.mono fun x hx => by simp [Ex.vars, hx]) hf.1 (by omega)) (ihb n S (hk.mono fun x hx => by simp [Ex.vars, hx]) hf.2.1 (by omega)) (ihc n S (hk.mono fun x hx => by simp [Ex.vars, hx]) hf.2.2 (by omega)))
  | op o a b iha ihb =>
    intro n S hk hf hn
    simp only [Ex.dep] at hn
    obtain ⟨n, rfl⟩ : ∃ k, n = k + 2 := ⟨n - 2, by omega⟩
    exact valued_strict (in_op o) (strict_op o (iha n _ (hk.mono fun x hx => by simp [Ex.vars, hx]) hf.1 (by omega)) (fun v _ => ihb n _ (hk.mono fun x hx => by simp [Ex.vars, hx]) hf.2.1 (by omega)) hf.2.2)
end W

set_option Elab.async false
set_option linter.all false
set_option maxRecDepth 100000
set_option maxHeartbeats 4000000
/-! M08d: value_in, bounds -/
namespace DL
open PySem L2
theorem valD_app (es fs : List (Key × D)) (k : Key) : valD (es ++ fs) k = (valD es k).or (valD fs k) := by
  induction es with
  | nil => simp
  | cons p r ih =>
    obtain ⟨j, d⟩ := p
    rw [List.cons_append, valD_cons, valD_cons, ih]
    by_cases h : j = k
    · simp [h]
    · simp [h]
theorem valD_miss {es : List (Key × D)} {k : Key} (h : (es.any fun kv => decide (kv.1 = k)) = false) : valD es k = none := by
  induction es with
  | nil => rfl
  | cons p r ih =>
    obtain ⟨j, d⟩ := p
    simp only [List.any_cons, Bool.or_eq_false_iff, decide_eq_false_iff_not] at h
    rw [valD_cons, if_neg h.1, ih h.2]
theorem valD_put (es : List (Key × D)) (k k' : Key) (v : D) : valD (putD es k v) k' = if k = k' then some v else valD es k' := by
  unfold putD
  cases h : (es.any fun kv => decide (kv.1 = k)) with
  | false =>
    rw [if_neg (by simp), valD_app]
    by_cases e : k = k'
    · subst e; rw [valD_miss h]; simp
    · simp [e]
  | true =>
    rw [if_pos rfl]
    by_cases e : k = k'
    · subst e
      rw [if_pos rfl]
      induction es with
      | nil => simp at h
      | cons p r ih =>
        obtain ⟨j, d⟩ := p
        rw [List.map_cons]
        by_cases hj : j = k
        · subst hj; simp
        · have h' : (r.any fun kv => decide (kv.1 = k)) = true := by simpa [hj] using h
          simp only [hj, if_false]
          rw [valD_cons, if_neg hj]
          exact ih h'
    · rw [if_neg e]
      clear h
      induction es with
      | nil => simp
      | cons p r ih =>
        obtain ⟨j, d⟩ := p
        rw [List.map_cons]
        by_cases hj : j = k
        · subst hj
          simp only [if_true]
          rw [valD_cons, valD_cons, if_neg e, if_neg e]
          exact ih
        · simp only [hj, if_false]
          rw [valD_cons, valD_cons, ih]
theorem keysD_str : ∀ xs : List Str, keysD (xs.map D.str) = some (xs.map Sum.inr)
  | [] => rfl
  | x :: xs => by
    show (match keyD (.str x), keysD (xs.map D.str) with | some k, some ks => some (k :: ks) | _, _ => none) = _
    rw [keysD_str xs]; rfl
end DL
namespace W
open DL PySem L2
theorem knows_merge (ρ : Str → Int) : ∀ (xs : List Str) (acc : List (Key × D)) (ys : List Str), Knows acc ρ ys → Knows (mergeD acc ((xs.map Sum.inr).zip (xs.map fun x => D.int (ρ x)))) ρ (ys ++ xs)
  | [], acc, ys, h => by
    rw [List.append_nil]; exact h
  | x :: xs, acc, ys, h => by
    have h' : Knows (putD acc (.inr x) (.int (ρ x))) ρ (ys ++ [x]) := fun z hz => by
      rw [valD_put]
      by_cases e : x = z
      · subst e; simp
      · have : z ∈ ys := by
          rcases List.mem_append.mp hz with q | q
          · exact q
          · exact absurd (List.mem_singleton.mp q).symm e
        rw [if_neg (by simpa using e)]
        exact h z this
    have := knows_merge ρ xs _ _ h'
    rw [List.append_assoc] at this
    exact this
def nmD (xs : List Str) : D := .tup (xs.map D.str)
def vlD (ρ : Str → Int) (xs : List Str) : D := .tup (xs.map fun x => D.int (ρ x))
theorem value_in_ok (n : Nat) (xs : List Str) (ρ : Str → Int) (e : Ex) (S : Store) (hv : ∀ x ∈ e.vars, x ∈ xs) (hf : Fit ρ e) (hn : 2 * e.dep + 1 ≤ n) : f_value_in (G n).1 [.d (nmD xs), .d (vlD ρ xs), .d e.toD] S = .ok (.d (oD (ev ρ e))) S := by
  have k := knows_merge ρ xs [] [] (fun _ h => nomatch h)
  rw [List.nil_append] at k
  have h := valued_ok _ ρ e n S (k.mono hv) hf hn
  unfold f_value_in b_value_in nmD vlD
  simp [enter, keysD_str, h]
theorem ev_congr {ρ ρ' : Str → Int} : ∀ {e : Ex}, (∀ x ∈ e.vars, ρ x = ρ' x) → ev ρ e = ev ρ' e
  | .num _, _ => rfl
  | .var x, h => by simp only [ev]; rw [h x (by simp [Ex.vars])]
  | .not_ a, h => by simp only [ev]; rw [ev_congr (e := a) h]
  | .neg a, h => by simp only [ev]; rw [ev_congr (e := a) h]
  | .and_ a b, h => by simp only [ev]; rw [ev_congr (e := a) fun x hx => h x (by simp [Ex.vars, hx]), ev_congr (e := b) fun x hx => h x (by simp [Ex.vars, hx])]
  | .or_ a b, h => by simp only [ev]; rw [ev_congr (e := a) fun x hx => h x (by simp [Ex.vars, hx]), ev_congr (e := b) fun x hx => h x (by simp [Ex.vars, hx])]
  | .if_ a b c, h => by simp only [ev]; rw [ev_congr (e := a) fun x hx => h x (by simp [Ex.vars, hx]), ev_congr (e := b) fun x hx => h x (by simp [Ex.vars, hx]), ev_congr (e := c) fun x hx => h x (by simp [Ex.vars, hx])]
  | .op o a b, h => by simp only [ev]; rw [ev_congr (e := a) fun x hx => h x (by simp [Ex.vars, hx]), ev_congr (e := b) fun x hx => h x (by simp [Ex.vars, hx])]
/-! ### bounds -/
def Lit : Ex → Prop
  | .num i => i.natAbs ≤ 7
  | .var _ => True
  | .not_ a => Lit a
  | .neg a => Lit a
  | .and_ a b => Lit a ∧ Lit b
  | .or_ a b => Lit a ∧ Lit b
  | .if_ a b c => Lit a ∧ Lit b ∧ Lit c
  | .op _ a b => Lit a ∧ Lit b
theorem fdiv_le (v w : Int) : (v.fdiv w).natAbs ≤ v.natAbs := by
  rcases Int.lt_trichotomy w 0 with h | h | h
  · have e : v.fdiv w = (-v).fdiv (-w) := by rw [Int.neg_fdiv_neg]
    rw [e, Int.fdiv_eq_ediv_of_nonneg _ (by omega)]
    have := Int.natAbs_ediv_le_natAbs (-v) (-w)
    simpa using this
  · subst h; simp
  · rw [Int.fdiv_eq_ediv_of_nonneg _ (by omega)]
    exact Int.natAbs_ediv_le_natAbs v w
theorem fmod_neg {v w : Int} (h : w < 0) : w < v.fmod w ∧ v.fmod w ≤ 0 := by
  have e : v.fmod w = -((-v).fmod (-w)) := by
    have h1 := Int.fmod_def v w
    have h2 := Int.fmod_def (-v) (-w)
    rw [Int.neg_fdiv_neg] at h2
    rw [h1, h2]
    simp only [Int.neg_mul]
    omega
  have a := Int.fmod_nonneg_of_pos (-v) (b := -w) (by omega)
  have b := Int.fmod_lt_of_pos (-v) (b := -w) (by omega)
  omega
theorem fmod_le {v w : Int} (h : w ≠ 0) : (v.fmod w).natAbs ≤ w.natAbs := by
  rcases Int.lt_trichotomy w 0 with h' | h' | h'
  · have := fmod_neg (v := v) h'; omega
  · exact absurd h' h
  · have a := Int.fmod_nonneg_of_pos v h'
    have b := Int.fmod_lt_of_pos v h'
    omega
theorem app_le {o : Op} {v w r : Int} {X : Nat} (hX : 7 ≤ X) (hv : v.natAbs ≤ X) (hw : w.natAbs ≤ X) (h : o.app v w = some r) : r.natAbs ≤ X * X := by
  have sq : 2 * X ≤ X * X := Nat.mul_le_mul_right X (by omega)
  have one : X ≤ X * X := by omega
  have t1 : ∀ c : Bool, (tr c).natAbs ≤ X * X := fun c => by cases c <;> simp [tr] <;> omega
  cases o with
  | add => cases h; have := Int.natAbs_add_le v w; omega
  | sub => cases h; have := Int.natAbs_sub_le v w; omega
  | mul => cases h; rw [Int.natAbs_mul]; exact Nat.mul_le_mul hv hw
  | div =>
    simp only [Op.app] at h
    split at h
    · cases h
    · cases h; have := fdiv_le v w; omega
  | mod =>
    simp only [Op.app] at h
    split at h
    · cases h
    · rename_i hz; cases h; have := fmod_le (v := v) hz; omega
  | least => cases h; split <;> omega
  | most => cases h; split <;> omega
  | eq => cases h; exact t1 _
  | lt => cases h; exact t1 _
  | le => cases h; exact t1 _
def Bd (d : Nat) : Nat := 7 ^ 2 ^ d
theorem Bd_succ (d : Nat) : Bd (d + 1) = Bd d * Bd d := by unfold Bd; rw [Nat.pow_succ, Nat.mul_two, Nat.pow_add]
theorem Bd_7 (d : Nat) : 7 ≤ Bd d := by
  unfold Bd
  exact Nat.le_self_pow (by have := Nat.two_pow_pos d; omega) 7
theorem Bd_mono {d d' : Nat} (h : d ≤ d') : Bd d ≤ Bd d' := Nat.pow_le_pow_right (by decide) (Nat.pow_le_pow_right (by decide) h)
theorem Bd_up (d : Nat) : Bd d ≤ Bd (d + 1) := Bd_mono (Nat.le_succ d)
theorem tr_le (c : Bool) (d : Nat) : (tr c).natAbs ≤ Bd d := by
  have := Bd_7 d
  cases c <;> simp [tr] <;> omega
theorem ev_le {ρ : Str → Int} (hρ : ∀ x, (ρ x).natAbs ≤ 7) : ∀ (e : Ex) (v : Int), Lit e → ev ρ e = some v → v.natAbs ≤ Bd e.dep := by
  intro e
  induction e with
  | num i => intro v h e; cases e; exact Nat.le_trans h (Bd_7 _)
  | var x => intro v h e; cases e; exact Nat.le_trans (hρ x) (Bd_7 _)
  | not_ a ih =>
    intro v h e
    simp only [ev, notV] at e
    obtain ⟨u, _, rfl⟩ := Option.map_eq_some_iff.mp e
    exact tr_le _ _
  | neg a ih =>
    intro v h e
    simp only [ev, negV] at e
    obtain ⟨u, hu, rfl⟩ := Option.map_eq_some_iff.mp e
    have := ih u h hu
    have := Bd_up a.dep
    simp only [Ex.dep, Int.natAbs_neg]; omega
  | and_ a b iha ihb =>
    intro v h e
    simp only [ev, andV] at e
    split at e
    · cases e
    · split at e
      · cases e; exact tr_le false _
      · obtain ⟨u, _, rfl⟩ := Option.map_eq_some_iff.mp e; exact tr_le _ _
  | or_ a b iha ihb =>
    intro v h e
    simp only [ev, orV] at e
    split at e
    · cases e
    · split at e
      · obtain ⟨u, _, rfl⟩ := Option.map_eq_some_iff.mp e; exact tr_le _ _
      · cases e; exact tr_le true _
  | if_ a b c iha ihb ihc =>
    intro v h e
    simp only [ev, ifV] at e
    split at e
    · cases e
    · split at e
      · exact Nat.le_trans (ihc v h.2.2 e) (Bd_mono (by simp only [Ex.dep]; omega))
      · exact Nat.le_trans (ihb v h.2.1 e) (Bd_mono (by simp only [Ex.dep]; omega))
  | op o a b iha ihb =>
    intro v h e
    simp only [ev, opV] at e
    split at e
    · rename_i v1 w1 h1 h2
      have b1 := Nat.le_trans (iha v1 h.1 h1) (Bd_mono (Nat.le_max_left a.dep b.dep))
      have b2 := Nat.le_trans (ihb w1 h.2 h2) (Bd_mono (Nat.le_max_right a.dep b.dep))
      have := app_le (Bd_7 (max a.dep b.dep)) b1 b2 e
      simp only [Ex.dep]
      rw [Bd_succ]; exact this
    · cases e
theorem fit_of {ρ : Str → Int} (hρ : ∀ x, (ρ x).natAbs ≤ 7) : ∀ (e : Ex), Lit e → e.dep ≤ 4 → Fit ρ e := by
  intro e
  induction e with
  | num i => intro _ _; trivial
  | var x => intro _ _; trivial
  | not_ a ih => intro h hd; simp only [Ex.dep] at hd; exact ih h (by omega)
  | neg a ih => intro h hd; simp only [Ex.dep] at hd; exact ih h (by omega)
  | and_ a b iha ihb => intro h hd; simp only [Ex.dep] at hd; exact ⟨iha h.1 (by omega), ihb h.2 (by omega)⟩
  | or_ a b iha ihb => intro h hd; simp only [Ex.dep] at hd; exact ⟨iha h.1 (by omega), ihb h.2 (by omega)⟩
  | if_ a b c iha ihb ihc => intro h hd; simp only [Ex.dep] at hd; exact ⟨iha h.1 (by omega), ihb h.2.1 (by omega), ihc h.2.2 (by omega)⟩
  | op o a b iha ihb =>
    intro h hd
    simp only [Ex.dep] at hd
    refine ⟨iha h.1 (by omega), ihb h.2 (by omega), fun v w h1 h2 => ?_⟩
    have b1 := Nat.le_trans (ev_le hρ a v h.1 h1) (Bd_mono (show a.dep ≤ 3 by omega))
    have b2 := Nat.le_trans (ev_le hρ b w h.2 h2) (Bd_mono (show b.dep ≤ 3 by omega))
    have : Bd 3 = 5764801 := by decide
    exact ⟨by omega, by omega⟩
end W

set_option Elab.async false
set_option linter.all false
set_option maxRecDepth 100000
set_option maxHeartbeats 4000000
/-! DSimp2: dict displays, comprehensions over keys -/
namespace DL
open PySem L2
def kPr3 (k : Key) (y : D) (r : Res (List (Key × D))) : Res (List (Key × D)) := r.bind fun ps S => .ok ((k, y) :: ps) S
def kPr2 (u : U) (ps : List (ME × ME)) (δ : DEnv) (r : Res U) : Res (List (Key × D)) := r.calm.bind fun w S2 => match u, w with
    | .d x, .d y => match keyD x with
      | some k => kPr3 k y (mPairs ps δ S2)
      | none => .stuck
    | _, _ => .stuck
def kPr1 (mv : ME) (ps : List (ME × ME)) (δ : DEnv) (r : Res U) : Res (List (Key × D)) := r.calm.bind fun u S1 => kPr2 u ps δ (mv δ S1)
def kDict (r : Res (List (Key × D))) : Res U := r.bind fun kvs S1 => if kvs.length ≤ 15 then .ok (.d (.dct (mergeD [] kvs))) S1 else .stuck
def kDictC (r : Res (List (Key × D))) : Res U := r.bind fun kvs S1 => if kvs.length ≤ 15 then .ok (.loc S1.length) (S1 ++ [.dct (mergeD [] kvs)]) else .stuck
def kLcK (t : Tg) (mt : MT) (me : ME) (vs : List Nat) (δ : DEnv) (S : Store) (o : Option (Option U)) : Res U := match o with
  | some (some (.d (.dct es))) => if (es.map fun kv => kD kv.1).length ≤ sizeLine then kL (lcD t mt me (wipeD vs δ) (es.map fun kv => kD kv.1) S) else .stuck
  | _ => .stuck
section
variable (i : Nat) (δ : DEnv) (S : Store) (mk mv ma : ME) (mt : MT) (t : Tg) (ps : List (ME × ME)) (u : U) (x y : D) (k : Key) (vs : List Nat) (es : List (Key × D)) (s : Str)
@[simp] theorem mPairs_n : mPairs [] δ S = .ok [] S := rfl
@[simp] theorem mPairs_c : mPairs ((mk, mv) :: ps) δ S = kPr1 mv ps δ (mk δ S) := rfl
@[simp] theorem kPr1_ : kPr1 mv ps δ (.ok u S) = kPr2 u ps δ (mv δ S) := rfl
@[simp] theorem kPr2_ : kPr2 (.d (.str s)) ps δ (.ok (.d y) S) = kPr3 (.inr s) y (mPairs ps δ S) := rfl
@[simp] theorem kPr3_ : kPr3 k y (.ok es S) = .ok ((k, y) :: es) S := rfl
@[simp] theorem mDict_ : mDict ps δ S = kDict (mPairs ps δ S) := rfl
@[simp] theorem mDictC_ : mDictC ps δ S = kDictC (mPairs ps δ S) := rfl
@[simp] theorem kDict_ : kDict (.ok es S) = if es.length ≤ 15 then .ok (.d (.dct (mergeD [] es))) S else .stuck := rfl
@[simp] theorem kDictC_ : kDictC (.ok es S) = if es.length ≤ 15 then .ok (.loc S.length) (S ++ [.dct (mergeD [] es)]) else .stuck := rfl
@[simp] theorem mDict0C_ : mDict0C δ S = .ok (.loc S.length) (S ++ [.dct []]) := rfl
@[simp] theorem mLcK_ : mLcK i t mt ma vs δ S = kLcK t mt ma vs δ S δ[i]? := rfl
@[simp] theorem kLcK_ : kLcK t mt ma vs δ S (some (some (.d (.dct es)))) = if (es.map fun kv => kD kv.1).length ≤ sizeLine then kL (lcD t mt ma (wipeD vs δ) (es.map fun kv => kD kv.1) S) else .stuck := rfl
@[simp] theorem kD_r : kD (.inr s) = .str s := rfl
@[simp] theorem mergeD_n (kv : List (Key × D)) : mergeD kv [] = kv := rfl
@[simp] theorem mergeD_c (kv kw : List (Key × D)) : mergeD kv ((k, x) :: kw) = mergeD (putD kv k x) kw := rfl
@[simp] theorem dEq_l0 : dEq (.lst []) (.lst []) = some (.bl true) := rfl
@[simp] theorem dNe_l0 : dNe (.lst []) (.lst []) = some (.bl false) := rfl
end
end DL

set_option Elab.async false
set_option linter.all false
set_option maxRecDepth 100000
set_option maxHeartbeats 4000000
/-! M08e: _law_sums_right -/
namespace W
open DL PySem L2
/-- the names in use, what they stand for, and what value_in answers -/
structure Vi (gvi : Fn) (N V : D) (xs : List Str) (ρ : Str → Int) : Prop where
  b : ∀ x, (ρ x).natAbs ≤ 7
  ok : ∀ (e : Ex) (S : Store), (∀ x ∈ e.vars, x ∈ xs) → Fit ρ e → e.dep ≤ 6 → gvi [.d N, .d V, .d e.toD] S = .ok (.d (oD (ev ρ e))) S
def Wf (xs : List Str) (e : Ex) : Prop := (∀ x ∈ e.vars, x ∈ xs) ∧ Lit e ∧ e.dep ≤ 3
section
variable {gvi : Fn} {N V : D} {xs : List Str} {ρ : Str → Int} {e f : Ex}
theorem Vi.one (h : Vi gvi N V xs ρ) (he : Wf xs e) (S : Store) : gvi [.d N, .d V, .d e.toD] S = .ok (.d (oD (ev ρ e))) S := h.ok e S he.1 (fit_of h.b e he.2.1 (by have := he.2.2; omega)) (by have := he.2.2; omega)
theorem Vi.op (h : Vi gvi N V xs ρ) (he : Wf xs e) (hf : Wf xs f) (o : Op) (S : Store) : gvi [.d N, .d V, .d (.tup [.str o.nm, e.toD, f.toD])] S = .ok (.d (oD (opV o (ev ρ e) (ev ρ f)))) S := by
  have d1 := he.2.2
  have d2 := hf.2.2
  refine h.ok (.op o e f) S (fun x hx => ?_) (fit_of h.b _ ⟨he.2.1, hf.2.1⟩ (by simp only [Ex.dep]; omega)) (by simp only [Ex.dep]; omega)
  simp only [Ex.vars, List.mem_append] at hx
  exact hx.elim (he.1 x) (hf.1 x)
theorem Wf.le (h : Vi gvi N V xs ρ) (he : Wf xs e) {v : Int} (hv : ev ρ e = some v) : v.natAbs ≤ 5764801 := Nat.le_trans (ev_le h.b e v he.2.1 hv) (Nat.le_trans (Bd_mono he.2.2) (by decide))
theorem sm_of {o : Option Int} (h : ∀ v, o = some v → v.natAbs ≤ 100000000000000) : Sm (oD o) := by
  cases o with
  | none => trivial
  | some v =>
    have := h v rfl
    show v.natAbs < 10 ^ 20
    omega
theorem sm_app {o : Op} {v w : Int} (hv : v.natAbs ≤ 5764801) (hw : w.natAbs ≤ 5764801) : Sm (oD (o.app v w)) := sm_of fun r hr => Nat.le_trans (app_le (X := 5764801) (by decide) hv hw hr) (by decide)
theorem sums_ok (h : Vi gvi N V xs ρ) (he : Wf xs e) (hf : Wf xs f) (S : Store) : f__law_sums_right gvi [.d N, .d V, .d e.toD, .d f.toD] S = .ok (.d (.bl true)) S := by
  have h1 := h.one he
  have h2 := h.one hf
  have o1 := h.op he hf .add
  have o2 := h.op he hf .sub
  have o3 := h.op he hf .mul
  have o4 := h.op he hf .least
  have o5 := h.op he hf .most
  have o6 := h.op he hf .eq
  have o7 := h.op he hf .lt
  have o8 := h.op he hf .le
  have o9 := h.op he hf .div
  have o10 := h.op he hf .mod
  have le1 := fun v => Wf.le (v := v) h he
  have le2 := fun v => Wf.le (v := v) h hf
  generalize ev ρ e = a at *
  generalize ev ρ f = b at *
  generalize e.toD = E at *
  generalize f.toD = F at *
  simp only [Op.nm] at o1 o2 o3 o4 o5 o6 o7 o8 o9 o10
  unfold f__law_sums_right b__law_sums_right
  cases a with
  | none =>
    simp [enter, h1, h2, o1, o2, o3, o4, o5, o6, o7, o8, o9, o10, opV, forD_cons, sizeLine_eq, trimE, trimU, putD, lcD_cons, wipeD]
  | some v =>
    cases b with
    | none => simp [enter, h1, h2, o1, o2, o3, o4, o5, o6, o7, o8, o9, o10, opV, forD_cons, sizeLine_eq, trimE, trimU, putD, lcD_cons, wipeD]
    | some w =>
      have lv := le1 v rfl
      have lw := le2 w rfl
      have sm := fun o => repr_sm (sm_app (o := o) lv lw)
      obtain ⟨s1, r1⟩ := sm .add
      obtain ⟨s2, r2⟩ := sm .sub
      obtain ⟨s3, r3⟩ := sm .mul
      obtain ⟨s4, r4⟩ := sm .least
      obtain ⟨s5, r5⟩ := sm .most
      obtain ⟨s6, r6⟩ := sm .eq
      obtain ⟨s7, r7⟩ := sm .lt
      obtain ⟨s8, r8⟩ := sm .le
      simp only [Op.app, oD_s, tr] at r1 r2 r3 r4 r5 r6 r7 r8
      have mo : mulOk v w = true := mulOk_lit _ _ (by omega) (by omega)
      have mo2 : ∀ q, mulOk q w = true := fun q => by
        unfold mulOk
        simp only [Bool.or_eq_true, Bool.and_eq_true, decide_eq_true_eq]
        exact .inr ⟨by omega, by omega⟩
      by_cases hw : w = 0
      · subst hw
        simp only [opV, Op.app, if_true, oD_n, oD_s, tr] at o1 o2 o3 o4 o5 o6 o7 o8 o9 o10 h1 h2
        simp at r1 r2 r3 r4 r5 r6 r7 r8
        simp [enter, h1, h2, o1, o2, o3, o4, o5, o6, o7, o8, o9, o10, forD_cons, sizeLine_eq, trimE, trimU, putD, lcD_cons, wipeD, mo, r1, r2, r3, r4, r5, r6, r7, r8]
      · simp only [opV, Op.app, if_neg hw, oD_n, oD_s, tr] at o1 o2 o3 o4 o5 o6 o7 o8 o9 o10 h1 h2
        simp at r1 r2 r3 r4 r5 r6 r7 r8
        have dm : v.fdiv w * w + v.fmod w = v := by rw [Int.mul_comm]; exact Int.mul_fdiv_add_fmod v w
        by_cases hp : w > 0
        · have a1 := Int.fmod_nonneg_of_pos v hp
          have a2 := Int.fmod_lt_of_pos v hp
          simp [enter, h1, h2, o1, o2, o3, o4, o5, o6, o7, o8, o9, o10, forD_cons, sizeLine_eq, trimE, trimU, putD, lcD_cons, wipeD, mo, mo2, r1, r2, r3, r4, r5, r6, r7, r8, hw, hp, dm, a1, a2]
        · have a := fmod_neg (v := v) (w := w) (by omega)
          have a1 := a.1
          have a2 := a.2
          simp [enter, h1, h2, o1, o2, o3, o4, o5, o6, o7, o8, o9, o10, forD_cons, sizeLine_eq, trimE, trimU, putD, lcD_cons, wipeD, mo, mo2, r1, r2, r3, r4, r5, r6, r7, r8, hw, hp, dm, a1, a2]
end
end W

set_option Elab.async false
set_option linter.all false
set_option maxRecDepth 100000
set_option maxHeartbeats 4000000
/-! M08f: _law_lazy_right -/
namespace DL
open PySem L2
def shL (ds : List D) : Str := match dRepr [.lst ds] with | some (.str s) => s | _ => ""
theorem repr_c {ds : List D} (h : ∀ d ∈ ds, Sm d) (hl : ds.length ≤ 100) : dRepr [.lst ds] = some (.str (shL ds)) := by
  obtain ⟨s, e⟩ := repr_sms h hl
  unfold shL
  rw [e]
theorem sm_n : Sm .non := trivial
theorem sm_0 : Sm (.int 0) := by show Int.natAbs 0 < 10 ^ 20; decide
theorem sm_1 : Sm (.int 1) := by show Int.natAbs 1 < 10 ^ 20; decide
end DL
namespace W
open DL PySem L2
section
variable {gvi : Fn} {N V : D} {xs : List Str} {ρ : Str → Int} {e f : Ex}
theorem lazy_ok (h : Vi gvi N V xs ρ) (he : Wf xs e) (hf : Wf xs f) (S : Store) : f__law_lazy_right gvi [.d N, .d V, .d e.toD, .d f.toD] S = .ok (.d (.bl true)) S := by
  have h1 := h.one he S
  have h2 := h.one hf S
  have fe := fit_of h.b e he.2.1 (by have := he.2.2; omega)
  have ff := fit_of h.b f hf.2.1 (by have := hf.2.2; omega)
  have d1 := he.2.2
  have d2 := hf.2.2
  have both : ∀ x, x ∈ e.vars ∨ x ∈ f.vars → x ∈ xs := fun x hx => hx.elim (he.1 x) (hf.1 x)
  have o1 := h.ok (.and_ e f) S (fun x hx => both x (by simpa [Ex.vars] using hx)) ⟨fe, ff⟩ (by simp only [Ex.dep]; omega)
  have o2 := h.ok (.or_ e f) S (fun x hx => both x (by simpa [Ex.vars] using hx)) ⟨fe, ff⟩ (by simp only [Ex.dep]; omega)
  have o3 := h.ok (.if_ e f e) S (fun x hx => both x (by simp only [Ex.vars, List.mem_append] at hx; rcases hx with q | q | q <;> simp [q])) ⟨fe, ff, fe⟩ (by simp only [Ex.dep]; omega)
  have o4 := h.ok (.not_ e) S he.1 fe (by simp only [Ex.dep]; omega)
  have o5 := h.ok (.neg e) S he.1 fe (by simp only [Ex.dep]; omega)
  have o6 := h.ok (.not_ (.not_ e)) S he.1 fe (by simp only [Ex.dep]; omega)
  have o7 := h.ok (.and_ (.num 0) f) S (fun x hx => both x (by simp only [Ex.vars, List.nil_append] at hx; simp [hx])) ⟨trivial, ff⟩ (by simp only [Ex.dep]; omega)
  have o8 := h.ok (.or_ (.num 1) f) S (fun x hx => both x (by simp only [Ex.vars, List.nil_append] at hx; simp [hx])) ⟨trivial, ff⟩ (by simp only [Ex.dep]; omega)
  have o9 := h.ok (.if_ (.num 1) e f) S (fun x hx => both x (by simpa [Ex.vars] using hx)) ⟨trivial, fe, ff⟩ (by simp only [Ex.dep]; omega)
  have o10 := h.ok (.if_ (.num 0) f e) S (fun x hx => both x (by simp only [Ex.vars, List.nil_append, List.mem_append] at hx; rcases hx with q | q <;> simp [q])) ⟨trivial, ff, fe⟩ (by simp only [Ex.dep]; omega)
  have o11 := h.ok (.or_ (.num (-2)) f) S (fun x hx => both x (by simp only [Ex.vars, List.nil_append] at hx; simp [hx])) ⟨trivial, ff⟩ (by simp only [Ex.dep]; omega)
  have le1 := fun v => Wf.le (v := v) h he
  have le2 := fun v => Wf.le (v := v) h hf
  simp only [Ex.toD, ev] at o1 o2 o3 o4 o5 o6 o7 o8 o9 o10 o11
  generalize ev ρ e = a at *
  generalize ev ρ f = b at *
  generalize e.toD = E at *
  generalize f.toD = F at *
  have s0 := sm_0
  have s1 := sm_1
  have sn := sm_n
  unfold f__law_lazy_right b__law_lazy_right
  have all : ∀ v : Int, v.natAbs ≤ 5764801 → Sm (.int v) ∧ Sm (.int (-v)) := fun v hv => ⟨by show v.natAbs < 10 ^ 20; omega, by show (-v).natAbs < 10 ^ 20; omega⟩
  cases a with
  | none =>
    cases b with
    | none =>
      simp [andV, orV, ifV, notV, negV, tr] at o1 o2 o3 o4 o5 o6 o7 o8 o9 o10 o11 h1 h2
      simp [enter, h1, h2, o1, o2, o3, o4, o5, o6, o7, o8, o9, o10, o11, sizeLine_eq, lcD_cons, wipeD, repr_c, s0, s1, sn]
    | some w =>
      obtain ⟨sw, _⟩ := all w (le2 w rfl)
      by_cases hw : w = 0
      · simp [andV, orV, ifV, notV, negV, tr, hw] at o1 o2 o3 o4 o5 o6 o7 o8 o9 o10 o11 h1 h2
        simp [enter, h1, h2, o1, o2, o3, o4, o5, o6, o7, o8, o9, o10, o11, sizeLine_eq, lcD_cons, wipeD, repr_c, s0, s1, sn, sw]
      · simp [andV, orV, ifV, notV, negV, tr, hw] at o1 o2 o3 o4 o5 o6 o7 o8 o9 o10 o11 h1 h2
        simp [enter, h1, h2, o1, o2, o3, o4, o5, o6, o7, o8, o9, o10, o11, sizeLine_eq, lcD_cons, wipeD, repr_c, s0, s1, sn, sw, hw]
  | some v =>
    obtain ⟨sv, sv'⟩ := all v (le1 v rfl)
    cases b with
    | none =>
      by_cases hv : v = 0
      · simp [andV, orV, ifV, notV, negV, tr, hv] at o1 o2 o3 o4 o5 o6 o7 o8 o9 o10 o11 h1 h2
        simp [enter, h1, h2, o1, o2, o3, o4, o5, o6, o7, o8, o9, o10, o11, sizeLine_eq, lcD_cons, wipeD, repr_c, s0, s1, sn, sv, sv']
      · simp [andV, orV, ifV, notV, negV, tr, hv] at o1 o2 o3 o4 o5 o6 o7 o8 o9 o10 o11 h1 h2
        simp [enter, h1, h2, o1, o2, o3, o4, o5, o6, o7, o8, o9, o10, o11, sizeLine_eq, lcD_cons, wipeD, repr_c, s0, s1, sn, sv, sv', hv]
    | some w =>
      obtain ⟨sw, _⟩ := all w (le2 w rfl)
      by_cases hv : v = 0
      · by_cases hw : w = 0
        · simp [andV, orV, ifV, notV, negV, tr, hv, hw] at o1 o2 o3 o4 o5 o6 o7 o8 o9 o10 o11 h1 h2
          simp [enter, h1, h2, o1, o2, o3, o4, o5, o6, o7, o8, o9, o10, o11, sizeLine_eq, lcD_cons, wipeD, repr_c, s0, s1, sn, sv, sv', sw]
        · simp [andV, orV, ifV, notV, negV, tr, hv, hw] at o1 o2 o3 o4 o5 o6 o7 o8 o9 o10 o11 h1 h2
          simp [enter, h1, h2, o1, o2, o3, o4, o5, o6, o7, o8, o9, o10, o11, sizeLine_eq, lcD_cons, wipeD, repr_c, s0, s1, sn, sv, sv', sw, hw]
      · by_cases hw : w = 0
        · simp [andV, orV, ifV, notV, negV, tr, hv, hw] at o1 o2 o3 o4 o5 o6 o7 o8 o9 o10 o11 h1 h2
          simp [enter, h1, h2, o1, o2, o3, o4, o5, o6, o7, o8, o9, o10, o11, sizeLine_eq, lcD_cons, wipeD, repr_c, s0, s1, sn, sv, sv', sw, hv]
        · simp [andV, orV, ifV, notV, negV, tr, hv, hw] at o1 o2 o3 o4 o5 o6 o7 o8 o9 o10 o11 h1 h2
          simp [enter, h1, h2, o1, o2, o3, o4, o5, o6, o7, o8, o9, o10, o11, sizeLine_eq, lcD_cons, wipeD, repr_c, s0, s1, sn, sv, sv', sw, hv, hw]
end
end W

set_option Elab.async false
set_option linter.all false
set_option maxRecDepth 100000
set_option maxHeartbeats 4000000
/-! M08g: _law_names_in -/
namespace DL
open PySem L2
theorem asVs_str : ∀ L : List Str, asVs (L.map D.str) = some (L.map V.str)
  | [] => rfl
  | x :: L => by
    show (match asV (.str x), asVs (L.map D.str) with | some v, some vs => some (v :: vs) | _, _ => none) = _
    rw [asVs_str L]; rfl
theorem inV_str (x : Str) : ∀ L : List Str, inV (.str x) (L.map V.str) = decide (x ∈ L)
  | [] => by simp [inV]
  | y :: L => by
    have ih := inV_str x L
    unfold inV at ih ⊢
    rw [List.map_cons, List.any_cons, ih]
    have e : eqV (.str y) (.str x) = decide (x = y) := by
      unfold eqV
      rw [Bool.eq_iff_iff]
      simp only [beq_iff_eq, decide_eq_true_eq]
      exact ⟨fun h => by cases h; rfl, fun h => by rw [h]⟩
    rw [e]
    by_cases h : x = y <;> simp [h]
theorem dNotIn_str (x : Str) (L : List Str) : dNotIn (.str x) (.lst (L.map D.str)) = some (.bl (!decide (x ∈ L))) := by
  show (match asV (.str x), asVs (L.map D.str) with | some v, some vs => some (inV v vs) | _, _ => none).map (fun b => D.bl (!b)) = _
  rw [asVs_str]
  show some (D.bl (!inV (.str x) (L.map V.str))) = _
  rw [inV_str]
theorem dIn_str (x : Str) (L : List Str) : dIn (.str x) (.lst (L.map D.str)) = some (.bl (decide (x ∈ L))) := by
  show (match asV (.str x), asVs (L.map D.str) with | some v, some vs => some (inV v vs) | _, _ => none).map D.bl = _
  rw [asVs_str]
  show some (D.bl (inV (.str x) (L.map V.str))) = _
  rw [inV_str]
end DL
namespace W
open DL PySem L2
theorem lc_names (e : D) (L : List Str) (o2 : Option U) (S : Store) : ∀ M : List Str, lcD (.nm 3) (mTest (m2 dNotIn (mVar 3) (mVar 1))) (mVar 3) [some (.d e), some (.loc S.length), o2, none] (M.map D.str) (S ++ [.lst (L.map D.str)]) = .ok ((M.filter fun x => !decide (x ∈ L)).map D.str) (S ++ [.lst (L.map D.str)])
  | [] => rfl
  | x :: M => by
    have ih := lc_names e L o2 S M
    by_cases h : x ∈ L
    · simp [lcD_cons, dNotIn_str, h, ih]
    · simp [lcD_cons, dNotIn_str, h, ih]
/-- what names_in answers -/
def NamesOk (g : Fn) (e : Ex) : Prop := ∀ S : Store, ∃ L : List Str, g [.d e.toD] S = .ok (.d (.lst (L.map D.str))) S ∧ (∀ x ∈ e.vars, x ∈ L) ∧ L.length ≤ e.vars.length
def nBody (g : Fn) : MS := mExpr (mMeth isL aExtend (mVar 1) (mCons (mLc (mSeqI (mFn g (mCons (mVar 2) mNil))) (.nm 3) (mTest (m2 dNotIn (mVar 3) (mVar 1))) (mVar 3) [3]) mNil))
theorem names_loop (g : Fn) (e : D) (S : Store) : ∀ (ps : List Ex) (L : List Str) (o2 : Option U), (∀ d, o2 = some d → ∃ x, d = .d x) → (∀ p ∈ ps, NamesOk g p) → L.length + (ps.map fun p => p.vars.length).sum ≤ 10000 →
    ∃ (L' : List Str) (o2' : Option U), forD (.nm 2) (nBody g) (S.length + 1) (ps.map Ex.toD) [some (.d e), some (.loc S.length), o2, none] (S ++ [.lst (L.map D.str)]) = .next [some (.d e), some (.loc S.length), o2', none] (S ++ [.lst (L'.map D.str)]) ∧
      (∀ x ∈ L, x ∈ L') ∧ (∀ p ∈ ps, ∀ x ∈ p.vars, x ∈ L') ∧ L'.length ≤ L.length + (ps.map fun p => p.vars.length).sum
  | [], L, o2, _, _, _ => ⟨L, o2, rfl, (fun _ h => h), (fun _ h => by cases h), Nat.le_add_right _ _⟩
  | p :: ps, L, o2, ho, hp, hl => by
    simp only [List.map_cons, List.sum_cons] at hl
    obtain ⟨M, e1, m1, m2⟩ := hp p (List.mem_cons_self ..) (S ++ [.lst (L.map D.str)])
    have hM : M.length ≤ sizeLine := by rw [sizeLine_eq]; omega
    have fl : (M.filter fun x => !decide (x ∈ L)).length ≤ M.length := List.length_filter_le ..
    have hz : L.length + (M.filter fun x => !decide (x ∈ L)).length ≤ sizeLine := by rw [sizeLine_eq]; omega
    have lc := lc_names e L (some (.d p.toD)) S M
    obtain ⟨L', o2', h1, h2, h3, h4⟩ := names_loop g e S ps (L ++ M.filter fun x => !decide (x ∈ L)) (some (.d p.toD)) (fun d hd => by cases hd; exact ⟨_, rfl⟩) (fun q hq => hp q (List.mem_cons_of_mem _ hq)) (by rw [List.length_append]; omega)
    refine ⟨L', o2', ?_, fun x hx => h2 x (List.mem_append_left _ hx), fun q hq x hx => ?_, ?_⟩
    · rw [List.map_cons, forD_cons]
      rw [← h1, List.map_append]
      simp [nBody, e1, hM, wipeD, lc, hz, trimE, trimU]
    · rcases List.mem_cons.mp hq with rfl | hq
      · by_cases hL : x ∈ L
        · exact h2 x (List.mem_append_left _ hL)
        · exact h2 x (List.mem_append_right _ (by simp [m1 x hx, hL]))
      · exact h3 q hq x hx
    · rw [List.length_append] at h4
      simp only [List.map_cons, List.sum_cons]
      omega
theorem names_tup (g : Fn) (w : Str) (ps : List Ex) (hp : ∀ p ∈ ps, NamesOk g p) (hl : (ps.map fun p => p.vars.length).sum ≤ 10000) (S : Store) :
    ∃ L : List Str, f__law_names_in g [.d (.tup (.str w :: ps.map Ex.toD))] S = .ok (.d (.lst (L.map D.str))) S ∧ (∀ p ∈ ps, ∀ x ∈ p.vars, x ∈ L) ∧ L.length ≤ (ps.map fun p => p.vars.length).sum := by
  obtain ⟨L, o2, h1, h2, h3, h4⟩ := names_loop g (.tup (.str w :: ps.map Ex.toD)) S ps [] none (fun _ h => nomatch h) hp (by simpa using hl)
  refine ⟨L, ?_, h3, by simpa using h4⟩
  simp only [List.map_nil] at h1
  unfold nBody at h1
  have c := cutD_from (.str w :: ps.map Ex.toD) (p := 1) (by decide)
  unfold f__law_names_in b__law_names_in
  simp [enter, isT, c, h1, exitM, trimU]
end W

set_option Elab.async false
set_option linter.all false
set_option maxRecDepth 100000
set_option maxHeartbeats 4000000
/-! M08h: _law_turned_right -/
namespace W
open DL PySem L2
def gN : Nat → Fn
  | 0 => stk
  | n + 1 => f__law_names_in (gN n)
theorem names_ok : ∀ (e : Ex) (n : Nat), e.dep + 1 ≤ n → e.vars.length ≤ 10000 → NamesOk (gN n) e := by
  intro e
  induction e with
  | num i =>
    intro n hn _ S
    obtain ⟨n, rfl⟩ : ∃ k, n = k + 1 := ⟨n - 1, by omega⟩
    refine ⟨[], ?_, (fun x h => by cases h), Nat.le_refl _⟩
    show f__law_names_in (gN n) [.d (.int i)] S = _
    unfold f__law_names_in b__law_names_in
    simp [enter, isT]
  | var x =>
    intro n hn _ S
    obtain ⟨n, rfl⟩ : ∃ k, n = k + 1 := ⟨n - 1, by omega⟩
    refine ⟨[x], ?_, (fun y h => h), Nat.le_refl _⟩
    show f__law_names_in (gN n) [.d (.str x)] S = _
    unfold f__law_names_in b__law_names_in
    simp [enter, isT, sizeLine_eq]
  | not_ a iha =>
    intro n hn hl S
    simp only [Ex.dep] at hn
    obtain ⟨n, rfl⟩ : ∃ k, n = k + 1 := ⟨n - 1, by omega⟩
    obtain ⟨L, h1, h2, h3⟩ := names_tup (gN n) "not" [a] (fun p hp => by rw [List.mem_singleton.mp hp]; exact iha n (by omega) hl) (by simpa [Ex.vars] using hl) S
    exact ⟨L, h1, h2 a (by simp), by simpa [Ex.vars] using h3⟩
  | neg a iha =>
    intro n hn hl S
    simp only [Ex.dep] at hn
    obtain ⟨n, rfl⟩ : ∃ k, n = k + 1 := ⟨n - 1, by omega⟩
    obtain ⟨L, h1, h2, h3⟩ := names_tup (gN n) "neg" [a] (fun p hp => by rw [List.mem_singleton.mp hp]; exact iha n (by omega) hl) (by simpa [Ex.vars] using hl) S
    exact ⟨L, h1, h2 a (by simp), by simpa [Ex.vars] using h3⟩
  | and_ a b iha ihb =>
    intro n hn hl S
    simp only [Ex.dep] at hn
    simp only [Ex.vars, List.length_append] at hl
    obtain ⟨n, rfl⟩ : ∃ k, n = k + 1 := ⟨n - 1, by omega⟩
    obtain ⟨L, h1, h2, h3⟩ := names_tup (gN n) "and" [a, b] (fun p hp => by
      rcases List.mem_cons.mp hp with rfl | hp
      · exact iha n (by omega) (by omega)
      · rw [List.mem_singleton.mp hp]; exact ihb n (by omega) (by omega)) (by simpa using hl) S
    refine ⟨L, h1, fun x hx => ?_, by simpa [Ex.vars] using h3⟩
    simp only [Ex.vars, List.mem_append] at hx
    exact hx.elim (h2 a (by simp) x) (h2 b (by simp) x)
  | or_ a b iha ihb =>
    intro n hn hl S
    simp only [Ex.dep] at hn
    simp only [Ex.vars, List.length_append] at hl
    obtain ⟨n, rfl⟩ : ∃ k, n = k + 1 := ⟨n - 1, by omega⟩
    obtain ⟨L, h1, h2, h3⟩ := names_tup (gN n) "or" [a, b] (fun p hp => by
      rcases List.mem_cons.mp hp with rfl | hp
      · exact iha n (by omega) (by omega)
      · rw [List.mem_singleton.mp hp]; exact ihb n (by omega) (by omega)) (by simpa using hl) S
    refine ⟨L, h1, fun x hx => ?_, by simpa [Ex.vars] using h3⟩
    simp only [Ex.vars, List.mem_append] at hx
    exact hx.elim (h2 a (by simp) x) (h2 b (by simp) x)
  | if_ a b c iha ihb ihc =>
    intro n hn hl S
    simp only [Ex.dep] at hn
    simp only [Ex.vars, List.length_append] at hl
    obtain ⟨n, rfl⟩ : ∃ k, n = k + 1 := ⟨n - 1, by omega⟩
    obtain ⟨L, h1, h2, h3⟩ := names_tup (gN n) "if" [a, b, c] (fun p hp => by
      rcases List.mem_cons.mp hp with rfl | hp
      · exact iha n (by omega) (by omega)
      · rcases List.mem_cons.mp hp with rfl | hp
        · exact ihb n (by omega) (by omega)
        · rw [List.mem_singleton.mp hp]; exact ihc n (by omega) (by omega)) (by simpa using hl) S
    refine ⟨L, h1, fun x hx => ?_, by simpa [Ex.vars] using h3⟩
    simp only [Ex.vars, List.mem_append] at hx
    rcases hx with hx | hx | hx
    · exact h2 a (by simp) x hx
    · exact h2 b (by simp) x hx
    · exact h2 c (by simp) x hx
  | op o a b iha ihb =>
    intro n hn hl S
    simp only [Ex.dep] at hn
    simp only [Ex.vars, List.length_append] at hl
    obtain ⟨n, rfl⟩ : ∃ k, n = k + 1 := ⟨n - 1, by omega⟩
    obtain ⟨L, h1, h2, h3⟩ := names_tup (gN n) o.nm [a, b] (fun p hp => by
      rcases List.mem_cons.mp hp with rfl | hp
      · exact iha n (by omega) (by omega)
      · rw [List.mem_singleton.mp hp]; exact ihb n (by omega) (by omega)) (by simpa using hl) S
    refine ⟨L, h1, fun x hx => ?_, by simpa [Ex.vars] using h3⟩
    simp only [Ex.vars, List.mem_append] at hx
    exact hx.elim (h2 a (by simp) x) (h2 b (by simp) x)
theorem vars_le : ∀ e : Ex, e.vars.length ≤ 3 ^ e.dep := by
  intro e
  have p : ∀ d, 1 ≤ 3 ^ d := fun d => Nat.one_le_pow _ _ (by decide)
  have up : ∀ {a b : Nat}, a ≤ b → 3 ^ a ≤ 3 ^ b := fun h => Nat.pow_le_pow_right (by decide) h
  induction e with
  | num i => simp [Ex.vars]
  | var x => simp [Ex.vars, Ex.dep]
  | not_ a ih => simp only [Ex.vars, Ex.dep, Nat.pow_succ]; omega
  | neg a ih => simp only [Ex.vars, Ex.dep, Nat.pow_succ]; omega
  | and_ a b iha ihb =>
    have := up (Nat.le_max_left a.dep b.dep)
    have := up (Nat.le_max_right a.dep b.dep)
    simp only [Ex.vars, Ex.dep, Nat.pow_succ, List.length_append]; omega
  | or_ a b iha ihb =>
    have := up (Nat.le_max_left a.dep b.dep)
    have := up (Nat.le_max_right a.dep b.dep)
    simp only [Ex.vars, Ex.dep, Nat.pow_succ, List.length_append]; omega
  | if_ a b c iha ihb ihc =>
    have := up (Nat.le_max_left a.dep (max b.dep c.dep))
    have := up (Nat.le_trans (Nat.le_max_left b.dep c.dep) (Nat.le_max_right a.dep (max b.dep c.dep)))
    have := up (Nat.le_trans (Nat.le_max_right b.dep c.dep) (Nat.le_max_right a.dep (max b.dep c.dep)))
    simp only [Ex.vars, Ex.dep, Nat.pow_succ, List.length_append]; omega
  | op o a b iha ihb =>
    have := up (Nat.le_max_left a.dep b.dep)
    have := up (Nat.le_max_right a.dep b.dep)
    simp only [Ex.vars, Ex.dep, Nat.pow_succ, List.length_append]; omega
theorem dm1 (a b : Option Int) : notV (andV a b) = orV (notV a) (notV b) := by
  cases a with
  | none => rfl
  | some v =>
    by_cases hv : v = 0
    · simp [andV, orV, notV, hv, tr]
    · cases b with
      | none => simp [andV, orV, notV, hv, tr]
      | some w => by_cases hw : w = 0 <;> simp [andV, orV, notV, hv, hw, tr]
theorem dm2 (a b : Option Int) : notV (orV a b) = andV (notV a) (notV b) := by
  cases a with
  | none => rfl
  | some v =>
    by_cases hv : v = 0
    · cases b with
      | none => simp [andV, orV, notV, hv, tr]
      | some w => by_cases hw : w = 0 <;> simp [andV, orV, notV, hv, hw, tr]
    · simp [andV, orV, notV, hv, tr]
theorem dNe_oD (x : Option Int) : dNe (oD x) (oD x) = some (.bl false) := by
  cases x with
  | none => simp
  | some v => simp
/-! the names that the expression holds -/
def nth (xs : List Str) (k : Nat) : Str := xs.getD k ""
section
variable {xs : List Str} {ρ : Str → Int} {L : List Str} {gN' : Fn} {E : D} {S : Store} {a1 a3 a4 a5 a6 a7 a8 a9 a10 : Option U}
theorem nth_eq {k : Nat} (h : k < xs.length) : nth xs k = xs[k] := by simp [nth, List.getD, h]
theorem ix_names {k : Nat} (h : k < xs.length) : atI (xs.map D.str) (k : Int) = some (.str (nth xs k)) := by
  rw [nth_eq h]
  rw [atI_in (by omega) (by simpa using h)]
  simp [h]
theorem ix_vals {k : Nat} (h : k < xs.length) : atI (xs.map fun x => D.int (ρ x)) (k : Int) = some (.int (ρ (nth xs k))) := by
  rw [nth_eq h]
  rw [atI_in (by omega) (by simpa using h)]
  simp [h]
theorem lc_kept (hN : gN' [.d E] S = .ok (.d (.lst (L.map D.str))) S) : ∀ ks : List Nat, (∀ k ∈ ks, k < xs.length) →
    lcD (.nm 10) (mTest (m2 dIn (m2 dIx (mVar 0) (mVar 10)) (mFn gN' (mCons (mVar 2) mNil)))) (mVar 10) [some (.d (nmD xs)), a1, some (.d E), a3, a4, a5, a6, a7, a8, a9, none] (ks.map fun k => D.int ((k : Nat) : Int)) S = .ok ((ks.filter fun k => decide (nth xs k ∈ L)).map fun k => D.int ((k : Nat) : Int)) S
  | [], _ => rfl
  | k :: ks, h => by
    have ih := lc_kept hN ks fun j hj => h j (List.mem_cons_of_mem _ hj)
    have hk := h k (List.mem_cons_self ..)
    have e := ix_names hk
    rw [List.map_cons, lcD_cons]
    simp only [nmD] at ih ⊢
    by_cases hL : nth xs k ∈ L
    · rw [List.filter_cons_of_pos (by simpa using hL)]
      simp [e, hN, dIn_str, hL, ih]
    · rw [List.filter_cons_of_neg (by simpa using hL)]
      simp [e, hN, dIn_str, hL, ih]
theorem lc_few0 : ∀ ks : List Nat, (∀ k ∈ ks, k < xs.length) →
    lcD (.nm 10) mYes (m2 dIx (mVar 0) (mVar 10)) [some (.d (nmD xs)), a1, some (.d E), a3, a4, a5, a6, a7, a8, a9, none] (ks.map fun k => D.int ((k : Nat) : Int)) S = .ok ((ks.map fun k => nth xs k).map D.str) S
  | [], _ => rfl
  | k :: ks, h => by
    have ih := lc_few0 ks fun j hj => h j (List.mem_cons_of_mem _ hj)
    have e := ix_names (h k (List.mem_cons_self ..))
    rw [List.map_cons, lcD_cons]
    simp only [nmD] at ih ⊢
    simp [e, ih, -List.map_map]
theorem lc_few1 : ∀ ks : List Nat, (∀ k ∈ ks, k < xs.length) →
    lcD (.nm 10) mYes (m2 dIx (mVar 1) (mVar 10)) [some (.d (nmD xs)), some (.d (vlD ρ xs)), some (.d E), a3, a4, a5, a6, a7, a8, a9, none] (ks.map fun k => D.int ((k : Nat) : Int)) S = .ok ((ks.map fun k => nth xs k).map fun x => D.int (ρ x)) S
  | [], _ => rfl
  | k :: ks, h => by
    have ih := lc_few1 ks fun j hj => h j (List.mem_cons_of_mem _ hj)
    have e := ix_vals (ρ := ρ) (h k (List.mem_cons_self ..))
    rw [List.map_cons, lcD_cons]
    simp only [vlD, nmD] at ih ⊢
    simp [e, ih, -List.map_map]
end
end W

set_option Elab.async false
set_option linter.all false
set_option maxRecDepth 100000
set_option maxHeartbeats 4000000
/-! M08i: _law_turned_right as a whole -/
namespace DL
open PySem L2
theorem rangeD0 (n : Nat) : rangeD 0 n = (List.range n).map fun k => D.int ((k : Nat) : Int) := by simp [rangeD]
end DL
namespace W
open DL PySem L2
def ViAll (gvi : Fn) : Prop := ∀ (ys : List Str) (σ : Str → Int) (x : Ex) (S : Store), (∀ z ∈ x.vars, z ∈ ys) → Fit σ x → x.dep ≤ 6 → gvi [.d (nmD ys), .d (vlD σ ys), .d x.toD] S = .ok (.d (oD (ev σ x))) S
theorem ViAll.vi {gvi : Fn} (h : ViAll gvi) {xs : List Str} {ρ : Str → Int} (b : ∀ x, (ρ x).natAbs ≤ 7) : Vi gvi (nmD xs) (vlD ρ xs) xs ρ := ⟨b, fun e S a b c => h xs ρ e S a b c⟩
theorem fit_congr {ρ ρ' : Str → Int} : ∀ {e : Ex}, (∀ x ∈ e.vars, ρ x = ρ' x) → Fit ρ e → Fit ρ' e
  | .num _, _, h => h
  | .var x, _, h => h
  | .not_ a, k, h => fit_congr (e := a) k h
  | .neg a, k, h => fit_congr (e := a) k h
  | .and_ a b, k, h => ⟨fit_congr (e := a) (fun x hx => k x (by simp [Ex.vars, hx])) h.1, fit_congr (e := b) (fun x hx => k x (by simp [Ex.vars, hx])) h.2⟩
  | .or_ a b, k, h => ⟨fit_congr (e := a) (fun x hx => k x (by simp [Ex.vars, hx])) h.1, fit_congr (e := b) (fun x hx => k x (by simp [Ex.vars, hx])) h.2⟩
  | .if_ a b c, k, h => ⟨fit_congr (e := a) (fun x hx => k x (by simp [Ex.vars, hx])) h.1, fit_congr (e := b) (fun x hx => k x (by simp [Ex.vars, hx])) h.2.1, fit_congr (e := c) (fun x hx => k x (by simp [Ex.vars, hx])) h.2.2⟩
  | .op o a b, k, h => by
    have ka : ∀ x ∈ a.vars, ρ x = ρ' x := fun x hx => k x (by simp [Ex.vars, hx])
    have kb : ∀ x ∈ b.vars, ρ x = ρ' x := fun x hx => k x (by simp [Ex.vars, hx])
    refine ⟨fit_congr (e := a) ka h.1, fit_congr (e := b) kb h.2.1, fun v w h1 h2 => h.2.2 v w ?_ ?_⟩
    · rw [ev_congr ka]; exact h1
    · rw [ev_congr kb]; exact h2
section
variable {gvi gn : Fn} {N V E F u4 u5 u6 : D} {S : Store} {a p q : Option Int} {xs : List Str} {ρ : Str → Int} {KS : List Nat} {L : List Str}
theorem turned_A (o1 : ∀ S, gvi [.d N, .d V, .d (.tup [.str "not", .tup [.str "and", E, F]])] S = .ok (.d (oD p)) S) (o2 : ∀ S, gvi [.d N, .d V, .d (.tup [.str "or", .tup [.str "not", E], .tup [.str "not", F]])] S = .ok (.d (oD p)) S)
    (o3 : ∀ S, gvi [.d N, .d V, .d (.tup [.str "not", .tup [.str "or", E, F]])] S = .ok (.d (oD q)) S) (o4 : ∀ S, gvi [.d N, .d V, .d (.tup [.str "and", .tup [.str "not", E], .tup [.str "not", F]])] S = .ok (.d (oD q)) S) :
    b__law_turned_right gvi gn S.length [some (.d N), some (.d V), some (.d E), some (.d F), none, none, none, none, none, none, none] S =
      t__law_turned_right_3 gvi gn S.length [some (.d N), some (.d V), some (.d E), some (.d F), some (.d (.lst [.tup [.tup [.str "not", .tup [.str "and", E, F]], .tup [.str "or", .tup [.str "not", E], .tup [.str "not", F]]], .tup [.tup [.str "not", .tup [.str "or", E, F]], .tup [.str "and", .tup [.str "not", E], .tup [.str "not", F]]]])), some (.d (.tup [.str "not", .tup [.str "or", E, F]])), some (.d (.tup [.str "and", .tup [.str "not", E], .tup [.str "not", F]])), none, none, none, none] S := by
  have s1 : 1 ≤ sizeLine := by decide
  have s2 : 2 ≤ sizeLine := by decide
  have s3 : 3 ≤ sizeLine := by decide
  have s4 : 1 < sizeLine := by decide
  unfold b__law_turned_right
  simp [o1, o2, o3, o4, s1, s2, s3, s4, trimE, trimU, forD_cons, Tg.apply, setAll, dNe_oD]
theorem turned_B1 (t1 : ∀ S, gvi [.d (.tup (xs.map D.str)), .d (.tup (xs.map fun x => D.int (ρ x))), .d E] S = .ok (.d (oD a)) S)
    (t2 : ∀ S, gvi [.d (.tup (xs.map D.str).reverse), .d (.tup (xs.map fun x => D.int (ρ x)).reverse), .d E] S = .ok (.d (oD a)) S) :
    t__law_turned_right_3 gvi gn S.length [some (.d (.tup (xs.map D.str))), some (.d (.tup (xs.map fun x => D.int (ρ x)))), some (.d E), some (.d F), some (.d u4), some (.d u5), some (.d u6), none, none, none, none] S =
      t__law_turned_right_4 gvi gn S.length [some (.d (.tup (xs.map D.str))), some (.d (.tup (xs.map fun x => D.int (ρ x)))), some (.d E), some (.d F), some (.d u4), some (.d u5), some (.d u6), some (.loc S.length), none, none, none] (S ++ [.lst [oD a, oD a]]) := by
  have s2 : 2 ≤ sizeLine := by decide
  unfold t__law_turned_right_3
  simp [t1, t2, s2]
theorem x1 {N : List D} {r : DEnv} {S : Store} (c1 : dAdd (.tup N) (.tup [.str "qq"]) = some (.tup (N ++ [.str "qq"]))) (s1 : 1 ≤ sizeLine) : m2 dAdd (mVar 0) (mTup (mCons (mC (.str "qq")) mNil)) (some (.d (.tup N)) :: r) S = .ok (.d (.tup (N ++ [.str "qq"]))) S := by
  simp [c1, s1, -dAdd_t]
theorem x2 {V : List D} {o3 : Option U} {r : DEnv} {S : Store} (c1 : dAdd (.tup [.int (-77)]) (.tup V) = some (.tup (.int (-77) :: V))) (s1 : 1 ≤ sizeLine) : m2 dAdd (mTup (mCons (m1 dNeg (mC (.int 77))) mNil)) (mVar 1) (o3 :: some (.d (.tup V)) :: r) S = .ok (.d (.tup (.int (-77) :: V))) S := by
  simp [c1, s1, -dAdd_t]
theorem x3 {V : List D} {o3 : Option U} {r : DEnv} {S : Store} (c1 : dAdd (.tup V) (.tup [.int 77]) = some (.tup (V ++ [.int 77]))) (s1 : 1 ≤ sizeLine) : m2 dAdd (mVar 1) (mTup (mCons (mC (.int 77)) mNil)) (o3 :: some (.d (.tup V)) :: r) S = .ok (.d (.tup (V ++ [.int 77]))) S := by
  simp [c1, s1, -dAdd_t]
theorem x5 {N : List D} {r : DEnv} {S : Store} (c1 : dAdd (.tup [.str "qq"]) (.tup N) = some (.tup (.str "qq" :: N))) (s1 : 1 ≤ sizeLine) : m2 dAdd (mTup (mCons (mC (.str "qq")) mNil)) (mVar 0) (some (.d (.tup N)) :: r) S = .ok (.d (.tup (.str "qq" :: N))) S := by
  simp [c1, s1, -dAdd_t]
theorem x4 {δ : DEnv} {S : Store} {a : Option Int} (s7 : 4 ≤ sizeLine) (s2 : 2 ≤ sizeLine) {ma mb mc : ME} (hc : ∀ S', mc δ S' = .ok (.loc S.length) S') (ha : ∀ S, ma δ S = .ok (.d (oD a)) S) (hb : ∀ S, mb δ S = .ok (.d (oD a)) S) : mMeth isL aExtend mc (mCons (mLst (mCons ma (mCons mb mNil))) mNil) δ (S ++ [.lst [oD a, oD a]]) = .ok (.d .non) (S ++ [.lst [oD a, oD a, oD a, oD a]]) := by
  simp [hc, ha, hb, s2, s7]
theorem turned_B2 (hl : xs.length ≤ 3)
    (t3 : ∀ S, gvi [.d (.tup (xs.map D.str ++ [.str "qq"])), .d (.tup (xs.map (fun x => D.int (ρ x)) ++ [.int 77])), .d E] S = .ok (.d (oD a)) S)
    (t4 : ∀ S, gvi [.d (.tup (.str "qq" :: xs.map D.str)), .d (.tup (.int (-77) :: xs.map (fun x => D.int (ρ x)))), .d E] S = .ok (.d (oD a)) S) :
    t__law_turned_right_4 gvi gn S.length [some (.d (.tup (xs.map D.str))), some (.d (.tup (xs.map fun x => D.int (ρ x)))), some (.d E), some (.d F), some (.d u4), some (.d u5), some (.d u6), some (.loc S.length), none, none, none] (S ++ [.lst [oD a, oD a]]) =
      t__law_turned_right_5 gvi gn S.length [some (.d (.tup (xs.map D.str))), some (.d (.tup (xs.map fun x => D.int (ρ x)))), some (.d E), some (.d F), some (.d u4), some (.d u5), some (.d u6), some (.loc S.length), none, none, none] (S ++ [.lst [oD a, oD a, oD a, oD a]]) := by
  have cat : ∀ ds es : List D, ds.length ≤ 3 → es.length ≤ 3 → dAdd (.tup ds) (.tup es) = some (.tup (ds ++ es)) := fun ds es h1 h2 => by
    rw [dAdd_t, if_pos (by rw [sizeLine_eq]; omega)]
  have c1 := cat (xs.map D.str) [.str "qq"] (by simpa using hl) (by show 1 ≤ 3; decide)
  have c2 := cat (xs.map fun x => D.int (ρ x)) [.int 77] (by simpa using hl) (by show 1 ≤ 3; decide)
  have c3 := cat [.str "qq"] (xs.map D.str) (by show 1 ≤ 3; decide) (by simpa using hl)
  have c4 := cat [.int (-77)] (xs.map fun x => D.int (ρ x)) (by show 1 ≤ 3; decide) (by simpa using hl)
  simp only [List.singleton_append] at c3 c4
  have s1 : 1 ≤ sizeLine := by decide
  have s2 : 2 ≤ sizeLine := by decide
  have s7 : 4 ≤ sizeLine := by decide
  clear cat
  generalize xs.map D.str = N at *
  generalize (xs.map fun x => D.int (ρ x)) = V at *
  unfold t__law_turned_right_4
  rw [mSeq_, mExpr_, x4 (a := a) s7 s2 (fun _ => rfl) (fun S => ?_) (fun S => ?_), kExpr_, kSeq_n]
  · rw [mFn_, mCons_, x1 c1 s1, kC1_, mCons_, x3 c2 s1, kC1_]
    show kFn gvi (.ok [.d (.tup (N ++ [.str "qq"])), .d (.tup (V ++ [.int 77])), .d E] S) = _
    rw [kFn_, t3]
  · rw [mFn_, mCons_, x5 c3 s1, kC1_, mCons_, x2 c4 s1, kC1_]
    show kFn gvi (.ok [.d (.tup (.str "qq" :: N)), .d (.tup (.int (-77) :: V)), .d E] S) = _
    rw [kFn_, t4]
theorem turned_B3 (hl : xs.length ≤ 3)
    (kept : ∀ a3 a4 a5 a6 a7 a8 a9, lcD (.nm 10) (mTest (m2 dIn (m2 dIx (mVar 0) (mVar 10)) (mFn gn (mCons (mVar 2) mNil)))) (mVar 10) [some (.d (.tup (xs.map D.str))), some (.d (.tup (xs.map fun x => D.int (ρ x)))), some (.d E), a3, a4, a5, a6, a7, a8, a9, none] ((List.range xs.length).map fun k => D.int ((k : Nat) : Int)) (S ++ [.lst [oD a, oD a, oD a, oD a]]) = .ok (KS.map fun k => D.int ((k : Nat) : Int)) (S ++ [.lst [oD a, oD a, oD a, oD a]])) :
    t__law_turned_right_5 gvi gn S.length [some (.d (.tup (xs.map D.str))), some (.d (.tup (xs.map fun x => D.int (ρ x)))), some (.d E), some (.d F), some (.d u4), some (.d u5), some (.d u6), some (.loc S.length), none, none, none] (S ++ [.lst [oD a, oD a, oD a, oD a]]) =
      t__law_turned_right_6 gvi gn S.length [some (.d (.tup (xs.map D.str))), some (.d (.tup (xs.map fun x => D.int (ρ x)))), some (.d E), some (.d F), some (.d u4), some (.d u5), some (.d u6), some (.loc S.length), some (.d (.lst (KS.map fun k => D.int ((k : Nat) : Int)))), none, none] (S ++ [.lst [oD a, oD a, oD a, oD a]]) := by
  have z3 : xs.length ≤ sizeLine := by rw [sizeLine_eq]; omega
  have z5 : ∀ S, kR1 (.ok (.d (.int (xs.length : Int))) S) = .ok (rangeD 0 xs.length) S := fun S => kR1_n _ _ (by omega)
  unfold t__law_turned_right_5
  simp [z3, z5, rangeD0, wipeD, kept]
theorem turned_C (kl : KS.length ≤ 3) (sm : Sm (oD a)) (t5 : ∀ S, gvi [.d (.tup ((KS.map fun k => nth xs k).map D.str)), .d (.tup ((KS.map fun k => nth xs k).map fun x => D.int (ρ x))), .d E] S = .ok (.d (oD a)) S)
    (few0 : ∀ a3 a4 a5 a6 a7 a8 a9 S, lcD (.nm 10) mYes (m2 dIx (mVar 0) (mVar 10)) [some (.d (.tup (xs.map D.str))), some (.d (.tup (xs.map fun x => D.int (ρ x)))), some (.d E), a3, a4, a5, a6, a7, a8, a9, none] (KS.map fun k => D.int ((k : Nat) : Int)) S = .ok ((KS.map fun k => nth xs k).map D.str) S)
    (few1 : ∀ a3 a4 a5 a6 a7 a8 a9 S, lcD (.nm 10) mYes (m2 dIx (mVar 1) (mVar 10)) [some (.d (.tup (xs.map D.str))), some (.d (.tup (xs.map fun x => D.int (ρ x)))), some (.d E), a3, a4, a5, a6, a7, a8, a9, none] (KS.map fun k => D.int ((k : Nat) : Int)) S = .ok ((KS.map fun k => nth xs k).map fun x => D.int (ρ x)) S) :
    t__law_turned_right_6 gvi gn S.length [some (.d (.tup (xs.map D.str))), some (.d (.tup (xs.map fun x => D.int (ρ x)))), some (.d E), some (.d F), some (.d u4), some (.d u5), some (.d u6), some (.loc S.length), some (.d (.lst (KS.map fun k => D.int ((k : Nat) : Int)))), none, none] (S ++ [.lst [oD a, oD a, oD a, oD a]]) =
      .ret (.d (.bl true)) (S ++ [.lst [oD a, oD a, oD a, oD a, oD a]]) := by
  have z4 : KS.length ≤ sizeLine := by rw [sizeLine_eq]; omega
  have ct : cutD [oD a, oD a, oD a, oD a, oD a] none (some 1) = [oD a] := cutD_to _ (by decide)
  have s2 : 2 ≤ sizeLine := by decide
  have s5 : 4 < sizeLine := by decide
  have rp : dRepr [.lst [oD a, oD a, oD a, oD a, oD a]] = some (.str (shL [oD a, oD a, oD a, oD a, oD a])) := repr_c (fun d hd => by
    have : d = oD a := by simpa using hd
    rw [this]; exact sm) (by show 5 ≤ 100; decide)
  have mu : dMul (.lst [oD a]) (.int 5) = some (.lst [oD a, oD a, oD a, oD a, oD a]) := by
    rw [dMul_l, if_pos ⟨by decide, by decide, (by show 1 ≤ 1000; decide)⟩]
    rfl
  unfold t__law_turned_right_6
  simp [t5, few0, few1, z4, s2, s5, wipeD, peeks_c, ct, rp, mu, -List.map_map, -dMul_l]
end
theorem turned_ok {gvi : Fn} (H : ViAll gvi) {xs : List Str} {ρ : Str → Int} (b : ∀ x, (ρ x).natAbs ≤ 7) (hl : xs.length ≤ 3) (hq : ("qq" : Str) ∉ xs) {e f : Ex} (he : Wf xs e) (hf : Wf xs f) {n : Nat} (hn : 4 ≤ n) (S : Store) :
    f__law_turned_right gvi (gN n) [.d (nmD xs), .d (vlD ρ xs), .d e.toD, .d f.toD] S = .ok (.d (.bl true)) S := by
  have fe := fit_of b e he.2.1 (by have := he.2.2; omega)
  have ff := fit_of b f hf.2.1 (by have := hf.2.2; omega)
  have d1 := he.2.2
  have d2 := hf.2.2
  have both : ∀ x, x ∈ e.vars ∨ x ∈ f.vars → x ∈ xs := fun x hx => hx.elim (he.1 x) (hf.1 x)
  have o1 := fun S => H xs ρ (.not_ (.and_ e f)) S (fun x hx => both x (by simpa [Ex.vars] using hx)) ⟨fe, ff⟩ (by simp only [Ex.dep]; omega)
  have o2 := fun S => H xs ρ (.or_ (.not_ e) (.not_ f)) S (fun x hx => both x (by simpa [Ex.vars] using hx)) ⟨fe, ff⟩ (by simp only [Ex.dep]; omega)
  have o3 := fun S => H xs ρ (.not_ (.or_ e f)) S (fun x hx => both x (by simpa [Ex.vars] using hx)) ⟨fe, ff⟩ (by simp only [Ex.dep]; omega)
  have o4 := fun S => H xs ρ (.and_ (.not_ e) (.not_ f)) S (fun x hx => both x (by simpa [Ex.vars] using hx)) ⟨fe, ff⟩ (by simp only [Ex.dep]; omega)
  simp only [Ex.toD, ev, dm1, dm2] at o1 o2 o3 o4
  have t1 := fun S => H xs ρ e S he.1 fe (by omega)
  have t2 := fun S => H xs.reverse ρ e S (fun x hx => by simpa using he.1 x hx) fe (by omega)
  have nq : ∀ x ∈ e.vars, x ≠ ("qq" : Str) := fun x hx z => hq (by rw [← z]; exact he.1 x hx)
  have t3 : ∀ S, gvi [.d (.tup (xs.map D.str ++ [.str "qq"])), .d (.tup (xs.map (fun x => D.int (ρ x)) ++ [.int 77])), .d e.toD] S = .ok (.d (oD (ev ρ e))) S := fun S => by
    have k : ∀ x ∈ e.vars, ρ x = (fun x => if x = ("qq" : Str) then 77 else ρ x) x := fun x hx => by simp [nq x hx]
    have q := H (xs ++ [("qq" : Str)]) (fun x => if x = ("qq" : Str) then 77 else ρ x) e S (fun x hx => by simp [he.1 x hx]) (fit_congr k fe) (by omega)
    rw [← ev_congr k] at q
    have v : vlD (fun x => if x = ("qq" : Str) then 77 else ρ x) (xs ++ [("qq" : Str)]) = .tup (xs.map (fun x => D.int (ρ x)) ++ [.int 77]) := by
      unfold vlD
      rw [List.map_append]
      congr 2
      apply List.map_congr_left
      intro x hx
      have : x ≠ ("qq" : Str) := fun z => hq (by rw [← z]; exact hx)
      simp [this]
    rw [v] at q
    unfold nmD at q
    rw [List.map_append] at q
    exact q
  have t4 : ∀ S, gvi [.d (.tup (.str "qq" :: xs.map D.str)), .d (.tup (.int (-77) :: xs.map (fun x => D.int (ρ x)))), .d e.toD] S = .ok (.d (oD (ev ρ e))) S := fun S => by
    have k : ∀ x ∈ e.vars, ρ x = (fun x => if x = ("qq" : Str) then -77 else ρ x) x := fun x hx => by simp [nq x hx]
    have q := H (("qq" : Str) :: xs) (fun x => if x = ("qq" : Str) then -77 else ρ x) e S (fun x hx => by simp [he.1 x hx]) (fit_congr k fe) (by omega)
    rw [← ev_congr k] at q
    have v : vlD (fun x => if x = ("qq" : Str) then -77 else ρ x) (("qq" : Str) :: xs) = .tup (.int (-77) :: xs.map (fun x => D.int (ρ x))) := by
      unfold vlD
      rw [List.map_cons]
      congr 2
      apply List.map_congr_left
      intro x hx
      have : x ≠ ("qq" : Str) := fun z => hq (by rw [← z]; exact hx)
      simp [this]
    rw [v] at q
    exact q
  have vl := Nat.le_trans (vars_le e) (Nat.pow_le_pow_right (n := 3) (by decide) d1)
  have nk := names_ok e n (by omega) (by omega)
  obtain ⟨L, hN, hL, _⟩ := nk (S ++ [.lst [oD (ev ρ e), oD (ev ρ e), oD (ev ρ e), oD (ev ρ e)]])
  have ks : ∀ k ∈ (List.range xs.length).filter (fun k => decide (nth xs k ∈ L)), k < xs.length := fun k hk => List.mem_range.mp (List.mem_filter.mp hk).1
  have t5 := fun S => H (((List.range xs.length).filter fun k => decide (nth xs k ∈ L)).map fun k => nth xs k) ρ e S (fun x hx => by
    have hx' := he.1 x hx
    obtain ⟨k, hk, rfl⟩ := List.getElem_of_mem hx'
    refine List.mem_map.mpr ⟨k, List.mem_filter.mpr ⟨List.mem_range.mpr hk, ?_⟩, nth_eq hk⟩
    rw [nth_eq hk]
    simpa using hL _ hx) fe (by omega)
  have kept := fun a3 a4 a5 a6 a7 a8 a9 => lc_kept (a1 := some (.d (vlD ρ xs))) (a3 := a3) (a4 := a4) (a5 := a5) (a6 := a6) (a7 := a7) (a8 := a8) (a9 := a9) (xs := xs) hN (List.range xs.length) fun k hk => List.mem_range.mp hk
  have few0 := fun a3 a4 a5 a6 a7 a8 a9 S => lc_few0 (a1 := some (.d (vlD ρ xs))) (a3 := a3) (a4 := a4) (a5 := a5) (a6 := a6) (a7 := a7) (a8 := a8) (a9 := a9) (E := e.toD) (S := S) _ ks
  have few1 := fun a3 a4 a5 a6 a7 a8 a9 S => lc_few1 (ρ := ρ) (a3 := a3) (a4 := a4) (a5 := a5) (a6 := a6) (a7 := a7) (a8 := a8) (a9 := a9) (E := e.toD) (S := S) _ ks
  have sm : Sm (oD (ev ρ e)) := sm_of fun v hv => Nat.le_trans (Wf.le (H.vi b) he hv) (by decide)
  have kl : ((List.range xs.length).filter (fun k => decide (nth xs k ∈ L))).length ≤ 3 := Nat.le_trans (List.length_filter_le ..) (by rw [List.length_range]; exact hl)
  generalize (List.range xs.length).filter (fun k => decide (nth xs k ∈ L)) = KS at *
  generalize ev ρ e = a at *
  generalize e.toD = E at *
  generalize f.toD = F at *
  simp only [nmD, vlD] at o1 o2 o3 o4 t1 t2 t5 kept few0 few1
  rw [List.map_reverse, List.map_reverse] at t2
  have A := turned_A (gn := gN n) (S := S) o1 o2 o3 o4
  have B1 := turned_B1 (gn := gN n) (F := F) (S := S) (u4 := .lst [.tup [.tup [.str "not", .tup [.str "and", E, F]], .tup [.str "or", .tup [.str "not", E], .tup [.str "not", F]]], .tup [.tup [.str "not", .tup [.str "or", E, F]], .tup [.str "and", .tup [.str "not", E], .tup [.str "not", F]]]]) (u5 := .tup [.str "not", .tup [.str "or", E, F]]) (u6 := .tup [.str "and", .tup [.str "not", E], .tup [.str "not", F]]) t1 t2
  have B2 := turned_B2 (gn := gN n) (F := F) (S := S) (u4 := .lst [.tup [.tup [.str "not", .tup [.str "and", E, F]], .tup [.str "or", .tup [.str "not", E], .tup [.str "not", F]]], .tup [.tup [.str "not", .tup [.str "or", E, F]], .tup [.str "and", .tup [.str "not", E], .tup [.str "not", F]]]]) (u5 := .tup [.str "not", .tup [.str "or", E, F]]) (u6 := .tup [.str "and", .tup [.str "not", E], .tup [.str "not", F]]) hl t3 t4
  have B3 := turned_B3 (gvi := gvi) (F := F) (S := S) (u4 := .lst [.tup [.tup [.str "not", .tup [.str "and", E, F]], .tup [.str "or", .tup [.str "not", E], .tup [.str "not", F]]], .tup [.tup [.str "not", .tup [.str "or", E, F]], .tup [.str "and", .tup [.str "not", E], .tup [.str "not", F]]]]) (u5 := .tup [.str "not", .tup [.str "or", E, F]]) (u6 := .tup [.str "and", .tup [.str "not", E], .tup [.str "not", F]]) hl kept
  have C := turned_C (gn := gN n) (F := F) (S := S) (u4 := .lst [.tup [.tup [.str "not", .tup [.str "and", E, F]], .tup [.str "or", .tup [.str "not", E], .tup [.str "not", F]]], .tup [.tup [.str "not", .tup [.str "or", E, F]], .tup [.str "and", .tup [.str "not", E], .tup [.str "not", F]]]]) (u5 := .tup [.str "not", .tup [.str "or", E, F]]) (u6 := .tup [.str "and", .tup [.str "not", E], .tup [.str "not", F]]) kl sm t5 few0 few1
  rw [B1, B2, B3, C] at A
  unfold f__law_turned_right
  rw [callM_]
  show (if 4 = 4 then _ else _) = _
  rw [if_pos rfl]
  show exitM S.length (b__law_turned_right gvi (gN n) S.length [some (.d (.tup (xs.map D.str))), some (.d (.tup (xs.map fun x => D.int (ρ x)))), some (.d E), some (.d F), none, none, none, none, none, none, none] S) = _
  rw [A, exit_d, take_pre]
end W

set_option Elab.async false
set_option linter.all false
set_option maxRecDepth 100000
set_option maxHeartbeats 4000000
/-! M08j: formulas -/
namespace W
open DL PySem L2
/-- the names in use -/
def Nm (xs : List Str) : Prop := xs = [] ∨ xs = [("b" : Str)] ∨ xs = [("b" : Str), ("least" : Str)] ∨ xs = [("b" : Str), ("least" : Str), ("x" : Str)]
def WfD (xs : List Str) (d : Nat) (e : Ex) : Prop := (∀ x ∈ e.vars, x ∈ xs) ∧ Lit e ∧ e.dep ≤ d
theorem eq_nm {xs : List Str} (h : Nm xs) : dEq (nmD xs) (.tup []) = some (.bl (decide (xs = []))) := by
  have k1 : PyData.strOk (Str.ofString "b") = true := by decide +kernel
  have k2 : PyData.strOk (Str.ofString "least") = true := by decide +kernel
  have k3 : PyData.strOk (Str.ofString "x") = true := by decide +kernel
  rcases h with rfl | rfl | rfl | rfl <;> simp [dEq, eqD, nmD, asV, toPy, toPyL, SeqAt.shaped, PyData.canLay0, PyData.canLayAll0, PyData.depth, PyData.depthAll, PyData.eqv, PyData.eqvAll, k1, k2, k3]
def cs8 : List D := [.int 0, .int 1, .int 2, .int (-1), .int 3, .int (-2), .int 7, .int 1]
theorem cs8_at {r : Int} (h0 : 0 ≤ r) (h1 : r < 8) : ∃ i : Int, atI cs8 r = some (.int i) ∧ i.natAbs ≤ 7 := by
  have : r = 0 ∨ r = 1 ∨ r = 2 ∨ r = 3 ∨ r = 4 ∨ r = 5 ∨ r = 6 ∨ r = 7 := by omega
  rcases this with rfl | rfl | rfl | rfl | rfl | rfl | rfl | rfl
  · exact ⟨0, rfl, by decide⟩
  · exact ⟨1, rfl, by decide⟩
  · exact ⟨2, rfl, by decide⟩
  · exact ⟨-1, rfl, by decide⟩
  · exact ⟨3, rfl, by decide⟩
  · exact ⟨-2, rfl, by decide⟩
  · exact ⟨7, rfl, by decide⟩
  · exact ⟨1, rfl, by decide⟩
theorem leaf_ok {xs : List Str} (hx : Nm xs) {c : Cell} (hc : Fd c) (d : Nat) : ∃ (e : Ex) (c' : Cell), f__law_leaf f__law_draw [.loc 0, .d (nmD xs)] [c] = .ok (.d e.toD) [c'] ∧ Fd c' ∧ WfD xs d e := by
  have hq := eq_nm hx
  have s8 : 8 ≤ sizeLine := by decide
  have num : ∀ c, Fd c → ∃ (e : Ex) (c' : Cell), m2 dIx (mLst (mCons (mC (.int 0)) (mCons (mC (.int 1)) (mCons (mC (.int 2)) (mCons (m1 dNeg (mC (.int 1))) (mCons (mC (.int 3)) (mCons (m1 dNeg (mC (.int 2))) (mCons (mC (.int 7)) (mCons (mC (.int 1)) mNil))))))))) (mFn f__law_draw (mCons (mVar 0) (mCons (mC (.int 8)) mNil))) [some (.loc 0), some (.d (nmD xs))] [c] = .ok (.d e.toD) [c'] ∧ Fd c' ∧ WfD xs d e := by
    intro c hc
    obtain ⟨r, c', e1, h1, h2, h3⟩ := draw_ok hc 8 (by decide) (by decide)
    obtain ⟨i, hi, hb⟩ := cs8_at h2 h3
    unfold cs8 at hi
    refine ⟨.num i, c', ?_, h1, ⟨(fun x hx => by cases hx), hb, Nat.zero_le _⟩⟩
    simp [s8, e1, hi, Ex.toD]
  unfold f__law_leaf b__law_leaf
  by_cases h0 : xs = []
  · obtain ⟨e, c', e1, h1, h2⟩ := num c hc
    refine ⟨e, c', ?_, h1, h2⟩
    rw [callM_]
    show exitM 1 _ = _
    simp only [mSeq_, mIfS_, mOrT_, mTest_]
    rw [decide_eq_true h0] at hq
    have t : m2 dEq (mVar 1) (mTup mNil) (enter 2 [.loc 0, .d (nmD xs)]) [c] = .ok (.d (.bl true)) [c] := by simp [enter, hq]
    rw [t, kTest_, kOrT_, if_pos rfl, kIfS_, if_pos rfl, mRet_]
    show exitM 1 (kSeq _ _ (kRet _ (m2 dIx _ _ [some (.loc 0), some (.d (nmD xs))] [c]))) = _
    rw [e1]
    rfl
  · obtain ⟨r, c1, e1, hc1, _, _⟩ := draw_ok hc 3 (by decide) (by decide)
    have t : m2 dEq (mVar 1) (mTup mNil) (enter 2 [.loc 0, .d (nmD xs)]) [c] = .ok (.d (.bl false)) [c] := by simp [enter, hq, h0]
    have t2 : m2 dEq (mFn f__law_draw (mCons (mVar 0) (mCons (mC (.int 3)) mNil))) (mC (.int 0)) (enter 2 [.loc 0, .d (nmD xs)]) [c] = .ok (.d (.bl (decide (r = 0)))) [c1] := by simp [enter, e1]
    by_cases hr : r = 0
    · obtain ⟨e, c', e2, h1, h2⟩ := num c1 hc1
      refine ⟨e, c', ?_, h1, h2⟩
      rw [callM_]
      show exitM 1 _ = _
      simp only [mSeq_, mIfS_, mOrT_, mTest_]
      rw [t, kTest_, kOrT_, if_neg Bool.false_ne_true, mTest_, t2, kTest_, decide_eq_true hr, kIfS_, if_pos rfl, mRet_]
      show exitM 1 (kSeq _ _ (kRet _ (m2 dIx _ _ [some (.loc 0), some (.d (nmD xs))] [c1]))) = _
      rw [e2]
      rfl
    · have lp : 0 < xs.length := List.length_pos_iff.mpr h0
      have lm : xs.length ≤ 3 := by rcases hx with rfl | rfl | rfl | rfl <;> decide
      obtain ⟨k, c2, e2, hc2, g1, g2⟩ := draw_ok hc1 xs.length (by omega) (by omega)
      obtain ⟨j, rfl⟩ : ∃ j : Nat, k = j := ⟨k.toNat, by omega⟩
      have hj : j < xs.length := by omega
      refine ⟨.var (nth xs j), c2, ?_, hc2, ⟨fun x hx => ?_, trivial, Nat.zero_le _⟩⟩
      · rw [callM_]
        show exitM 1 _ = _
        simp only [mSeq_, mIfS_, mOrT_, mTest_]
        rw [t, kTest_, kOrT_, if_neg Bool.false_ne_true, mTest_, t2, kTest_, decide_eq_false hr, kIfS_, if_neg Bool.false_ne_true, mSkip_, kSeq_n]
        have ix := ix_names hj
        simp [enter, nmD, e2, ix, Ex.toD]
      · rw [List.mem_singleton.mp hx, nth_eq hj]
        exact List.getElem_mem hj
/-! ### sizes -/
def szKV : List (Key × D) := [(.inr "not", .int 1), (.inr "neg", .int 1), (.inr "if", .int 3), (.inr "+", .int 2), (.inr "-", .int 2), (.inr "*", .int 2), (.inr "div", .int 2), (.inr "mod", .int 2), (.inr "least", .int 2), (.inr "most", .int 2), (.inr "=", .int 2), (.inr "<", .int 2), (.inr "<=", .int 2), (.inr "and", .int 2), (.inr "or", .int 2)]
theorem sizes_ok (S : Store) : f__law_sizes [] S = .ok (.d (.dct szKV)) S := by
  unfold f__law_sizes b__law_sizes
  simp [enter, forD_cons, trimE, trimU, putD, sizeLine_eq, exitM, szKV]
end W

set_option Elab.async false
set_option linter.all false
set_option maxRecDepth 100000
set_option maxHeartbeats 4000000
/-! M08k: formulas -/
namespace W
open DL PySem L2
def wl16 : List D := [.str "+", .str "-", .str "*", .str "div", .str "mod", .str "least", .str "most", .str "=", .str "<", .str "<=", .str "and", .str "or", .str "not", .str "neg", .str "if", .str "if"]
/-- a word, how many parts it takes, and the expression that it makes -/
theorem word_at {r : Int} (h0 : 0 ≤ r) (h1 : r < 16) : ∃ (w : Str) (k : Nat), atI wl16 r = some (.str w) ∧ valD szKV (.inr w) = some (.int (k : Int)) ∧ k ≤ 3 ∧
    ∀ (xs : List Str) (d : Nat) (es : List Ex), es.length = k → (∀ e ∈ es, WfD xs d e) → ∃ e : Ex, e.toD = .tup (.str w :: es.map Ex.toD) ∧ WfD xs (d + 1) e := by
  have one : ∀ (w : Str) (mk : Ex → Ex), (∀ a, (mk a).toD = .tup [.str w, a.toD]) → (∀ a, (mk a).vars = a.vars) → (∀ a, Lit a → Lit (mk a)) → (∀ a, (mk a).dep = a.dep + 1) →
      ∀ (xs : List Str) (d : Nat) (es : List Ex), es.length = 1 → (∀ e ∈ es, WfD xs d e) → ∃ e : Ex, e.toD = .tup (.str w :: es.map Ex.toD) ∧ WfD xs (d + 1) e := by
    intro w mk h1 h2 h3 h4 xs d es hl he
    match es, hl with
    | [a], _ =>
      obtain ⟨p1, p2, p3⟩ := he a (by simp)
      exact ⟨mk a, h1 a, ⟨by rw [h2]; exact p1, h3 a p2, by rw [h4]; omega⟩⟩
  have two : ∀ (w : Str) (mk : Ex → Ex → Ex), (∀ a b, (mk a b).toD = .tup [.str w, a.toD, b.toD]) → (∀ a b, (mk a b).vars = a.vars ++ b.vars) → (∀ a b, Lit a → Lit b → Lit (mk a b)) → (∀ a b, (mk a b).dep = max a.dep b.dep + 1) →
      ∀ (xs : List Str) (d : Nat) (es : List Ex), es.length = 2 → (∀ e ∈ es, WfD xs d e) → ∃ e : Ex, e.toD = .tup (.str w :: es.map Ex.toD) ∧ WfD xs (d + 1) e := by
    intro w mk h1 h2 h3 h4 xs d es hl he
    match es, hl with
    | [a, b], _ =>
      obtain ⟨p1, p2, p3⟩ := he a (by simp)
      obtain ⟨q1, q2, q3⟩ := he b (by simp)
      refine ⟨mk a b, h1 a b, ⟨fun x hx => ?_, h3 a b p2 q2, by rw [h4]; omega⟩⟩
      rw [h2] at hx
      exact (List.mem_append.mp hx).elim (p1 x) (q1 x)
  have three : ∀ (xs : List Str) (d : Nat) (es : List Ex), es.length = 3 → (∀ e ∈ es, WfD xs d e) → ∃ e : Ex, e.toD = .tup (.str "if" :: es.map Ex.toD) ∧ WfD xs (d + 1) e := by
    intro xs d es hl he
    match es, hl with
    | [a, b, c], _ =>
      obtain ⟨p1, p2, p3⟩ := he a (by simp)
      obtain ⟨q1, q2, q3⟩ := he b (by simp)
      obtain ⟨r1, r2, r3⟩ := he c (by simp)
      refine ⟨.if_ a b c, rfl, ⟨fun x hx => ?_, ⟨p2, q2, r2⟩, by simp only [Ex.dep]; omega⟩⟩
      simp only [Ex.vars, List.mem_append] at hx
      rcases hx with hx | hx | hx
      · exact p1 x hx
      · exact q1 x hx
      · exact r1 x hx
  have op := fun o : Op => two o.nm (.op o) (fun _ _ => rfl) (fun _ _ => rfl) (fun _ _ h1 h2 => ⟨h1, h2⟩) (fun _ _ => rfl)
  have : r = 0 ∨ r = 1 ∨ r = 2 ∨ r = 3 ∨ r = 4 ∨ r = 5 ∨ r = 6 ∨ r = 7 ∨ r = 8 ∨ r = 9 ∨ r = 10 ∨ r = 11 ∨ r = 12 ∨ r = 13 ∨ r = 14 ∨ r = 15 := by omega
  rcases this with rfl | rfl | rfl | rfl | rfl | rfl | rfl | rfl | rfl | rfl | rfl | rfl | rfl | rfl | rfl | rfl
  · exact ⟨"+", 2, rfl, by simp [szKV], by decide, op .add⟩
  · exact ⟨"-", 2, rfl, by simp [szKV], by decide, op .sub⟩
  · exact ⟨"*", 2, rfl, by simp [szKV], by decide, op .mul⟩
  · exact ⟨"div", 2, rfl, by simp [szKV], by decide, op .div⟩
  · exact ⟨"mod", 2, rfl, by simp [szKV], by decide, op .mod⟩
  · exact ⟨"least", 2, rfl, by simp [szKV], by decide, op .least⟩
  · exact ⟨"most", 2, rfl, by simp [szKV], by decide, op .most⟩
  · exact ⟨"=", 2, rfl, by simp [szKV], by decide, op .eq⟩
  · exact ⟨"<", 2, rfl, by simp [szKV], by decide, op .lt⟩
  · exact ⟨"<=", 2, rfl, by simp [szKV], by decide, op .le⟩
  · exact ⟨"and", 2, rfl, by simp [szKV], by decide, two "and" .and_ (fun _ _ => rfl) (fun _ _ => rfl) (fun _ _ h1 h2 => ⟨h1, h2⟩) (fun _ _ => rfl)⟩
  · exact ⟨"or", 2, rfl, by simp [szKV], by decide, two "or" .or_ (fun _ _ => rfl) (fun _ _ => rfl) (fun _ _ h1 h2 => ⟨h1, h2⟩) (fun _ _ => rfl)⟩
  · exact ⟨"not", 1, rfl, by simp [szKV], by decide, one "not" .not_ (fun _ => rfl) (fun _ => rfl) (fun _ h => h) (fun _ => rfl)⟩
  · exact ⟨"neg", 1, rfl, by simp [szKV], by decide, one "neg" .neg (fun _ => rfl) (fun _ => rfl) (fun _ h => h) (fun _ => rfl)⟩
  · exact ⟨"if", 3, rfl, by simp [szKV], by decide, three⟩
  · exact ⟨"if", 3, rfl, by simp [szKV], by decide, three⟩
def gF : Nat → Fn
  | 0 => stk
  | n + 1 => f__law_formula f__law_draw (f__law_leaf f__law_draw) f__law_sizes (gF n)
def FormOk (g : Fn) (xs : List Str) (d : Nat) : Prop := ∀ c, Fd c → ∃ (e : Ex) (c' : Cell), g [.loc 0, .d (nmD xs), .d (.int (d : Int))] [c] = .ok (.d e.toD) [c'] ∧ Fd c' ∧ WfD xs d e
theorem lc_forms {g : Fn} {xs : List Str} {d : Nat} (h : FormOk g xs d) {a3 a4 : Option U} : ∀ (ds : List D) (c : Cell), Fd c → ∃ (es : List Ex) (c' : Cell),
    lcD (.nm 5) mYes (mFn g (mCons (mVar 0) (mCons (mVar 1) (mCons (m2 dSub (mVar 2) (mC (.int 1))) mNil)))) [some (.loc 0), some (.d (nmD xs)), some (.d (.int ((d : Int) + 1))), a3, a4, none] ds [c] = .ok (es.map Ex.toD) [c'] ∧ Fd c' ∧ es.length = ds.length ∧ ∀ e ∈ es, WfD xs d e
  | [], c, hc => ⟨[], c, rfl, hc, rfl, fun _ h => by cases h⟩
  | x :: ds, c, hc => by
    obtain ⟨e, c1, e1, h1, w1⟩ := h c hc
    obtain ⟨es, c2, e2, h2, l2, w2⟩ := lc_forms h (a3 := a3) (a4 := a4) ds c1 h1
    refine ⟨e :: es, c2, ?_, h2, by simp [l2], fun e' he' => ?_⟩
    · rw [lcD_cons]
      simp [e2, e1]
    · rcases List.mem_cons.mp he' with rfl | he'
      · exact w1
      · exact w2 e' he'
theorem formula_ok {xs : List Str} (hx : Nm xs) : ∀ (d n : Nat), d + 1 ≤ n → FormOk (gF n) xs d
  | d, 0, hn => by omega
  | 0, n + 1, _ => fun c hc => by
    obtain ⟨e, c', e1, h1, h2⟩ := leaf_ok hx hc 0
    refine ⟨e, c', ?_, h1, h2⟩
    show f__law_formula f__law_draw (f__law_leaf f__law_draw) f__law_sizes (gF n) _ _ = _
    unfold f__law_formula b__law_formula
    simp [enter, e1]
  | d + 1, n + 1, hn => fun c hc => by
    have ih := formula_ok hx d n (by omega)
    obtain ⟨r, c1, e1, h1, _, _⟩ := draw_ok hc 4 (by decide) (by decide)
    have pos : ¬ ((d : Int) + 1 < 1) := by omega
    show ∃ (e : Ex) (c' : Cell), f__law_formula f__law_draw (f__law_leaf f__law_draw) f__law_sizes (gF n) [.loc 0, .d (nmD xs), .d (.int ((d : Int) + 1))] [c] = .ok (.d e.toD) [c'] ∧ Fd c' ∧ WfD xs (d + 1) e
    by_cases hr : r = 0
    · obtain ⟨e, c', e2, h2, h3⟩ := leaf_ok hx h1 (d + 1)
      refine ⟨e, c', ?_, h2, h3⟩
      unfold f__law_formula b__law_formula
      simp [enter, e1, hr, e2, pos]
    · obtain ⟨q, c2, e2, h2, q0, q1⟩ := draw_ok h1 16 (by decide) (by decide)
      obtain ⟨w, k, hw, hk, k3, mk⟩ := word_at q0 q1
      unfold wl16 at hw
      obtain ⟨es, c3, e3, h3, l3, w3⟩ := lc_forms ih (a3 := some (.d (.lst [.str "+", .str "-", .str "*", .str "div", .str "mod", .str "least", .str "most", .str "=", .str "<", .str "<=", .str "and", .str "or", .str "not", .str "neg", .str "if"]))) (a4 := some (.d (.str w))) (rangeD 0 k) c2 h2
      have lk : (rangeD 0 k).length = k := by simp [rangeD]
      obtain ⟨e, he, hwf⟩ := mk xs d es (by rw [l3, lk]) w3
      refine ⟨e, c3, ?_, h3, hwf⟩
      have z1 : k ≤ sizeLine := by rw [sizeLine_eq]; omega
      have z2 : es.length + 1 ≤ sizeLine := by rw [l3, lk, sizeLine_eq]; omega
      have z3 : 1 + es.length ≤ sizeLine := by rw [l3, lk, sizeLine_eq]; omega
      have z4 : ∀ S, kR1 (.ok (.d (.int (k : Int))) S) = .ok (rangeD 0 k) S := fun S => kR1_n _ _ (by omega)
      have s1 : 1 ≤ sizeLine := by decide
      have s15 : 15 ≤ sizeLine := by decide
      have s16 : 16 ≤ sizeLine := by decide
      rw [he]
      unfold f__law_formula b__law_formula
      simp [enter, e1, hr, e2, pos, s1, s15, s16, hw, sizes_ok, hk, z4, lk, z1, wipeD, e3, z2, z3]
end W

set_option Elab.async false
set_option linter.all false
set_option maxRecDepth 100000
set_option maxHeartbeats 4000000
/-! M08l: law -/
namespace DL
open PySem L2
theorem forD_inv {t : Tg} {m : MS} {b : Nat} (I : DEnv → Store → Prop) : ∀ (ds : List D), (∀ d ∈ ds, ∀ δ S, I δ S → ∃ δ1, t.apply (.d d) δ = some δ1 ∧ ∃ δ2 S2, m b δ1 S = .next δ2 S2 ∧ I (trimE b S2 δ2) (S2.take b)) →
    ∀ δ S, I δ S → ∃ δ' S', forD t m b ds δ S = .next δ' S' ∧ I δ' S'
  | [], _, δ, S, h => ⟨δ, S, rfl, h⟩
  | d :: ds, step, δ, S, h => by
    obtain ⟨δ1, e1, δ2, S2, e2, h2⟩ := step d (List.mem_cons_self ..) δ S h
    obtain ⟨δ', S', e3, h3⟩ := forD_inv I ds (fun x hx => step x (List.mem_cons_of_mem _ hx)) _ _ h2
    refine ⟨δ', S', ?_, h3⟩
    rw [forD_cons, e1, kFa_, e2, kF_n, e3]
/-- nothing, or data -/
def Dt (o : Option U) : Prop := o = none ∨ ∃ d, o = some (.d d)
theorem Dt.trim {o : Option U} (h : Dt o) (b : Nat) (S : Store) : o.bind (trimU b S) = o := by
  rcases h with rfl | ⟨d, rfl⟩ <;> rfl
theorem Dt.n : Dt none := .inl rfl
theorem Dt.d (x : D) : Dt (some (.d x)) := .inr ⟨x, rfl⟩
theorem eqvAll_self : ∀ ns : List Int, PyData.eqvAll (ns.map PyData.int) (ns.map PyData.int) = true
  | [] => by simp only [List.map_nil, PyData.eqvAll]
  | n :: r => by simp only [List.map_cons, PyData.eqvAll, PyData.eqv, eqvAll_self r, beq_self_eq_true, Bool.and_self]
theorem dNe_self (ns : List Int) (h : ns.length ≤ sizeLine) : dNe (.lst (ns.map D.int)) (.lst (ns.map D.int)) = some (.bl false) := by
  rw [dNe_ints ns ns h h, eqvAll_self]; rfl
end DL
namespace W
open DL PySem L2
section
variable (gvi gs gl gt gf : Fn)
def law3 : MS := mSeq (mPar [8, 9] (mCons (m2 dIx (mVar 5) (mVar 4)) (mCons (m2 dIx (mVar 5) (m2 dMod (mCall dInt (mCons (m2 dAdd (mVar 4) (mC (.int 1))) mNil)) (mCall dLen (mCons (mVar 5) mNil)))) mNil)))
    (mSeq (mIfS (mOrT (mNotT (mTru (mFn gs (mCons (mVar 3) (mCons (mVar 7) (mCons (mVar 8) (mCons (mVar 9) mNil))))))) (mNotT (mTru (mFn gl (mCons (mVar 3) (mCons (mVar 7) (mCons (mVar 8) (mCons (mVar 9) mNil)))))))) (mRet (mC (.bl false))) mSkip)
    (mIfS (mNotT (mTru (mFn gt (mCons (mVar 3) (mCons (mVar 7) (mCons (mVar 8) (mCons (mVar 9) mNil))))))) (mRet (mC (.bl false))) mSkip))
def law2 : MS := mSeq (mSet 7 (mCall dTuple (mCons (mLc (mSeqI (mVar 3)) (.nm 10) mYes (m2 dSub (mFn f__law_draw (mCons (mVar 1) (mCons (mC (.int 7)) mNil))) (mC (.int 3))) [10]) mNil)))
    (mSeq (mIfS (mTest (m2 dNe (mLc (mSeqI (mVar 3)) (.nm 10) mYes (mFn gvi (mCons (mVar 3) (mCons (mVar 7) (mCons (mVar 10) mNil)))) [10]) (mCall dList (mCons (mVar 7) mNil)))) (mRet (mC (.bl false))) mSkip)
    (mFor (mRange1 (mCall dLen (mCons (mVar 5) mNil))) (.nm 4) (law3 gs gl gt)))
def law1 : MS := mSeq (mSet 3 (mSl (mTup (mCons (mC (.str "b")) (mCons (mC (.str "least")) (mCons (mC (.str "x")) mNil)))) moNone (moSome (mFn f__law_draw (mCons (mVar 1) (mCons (mC (.int 4)) mNil))))))
    (mSeq (mSet 5 (m2 dAdd (mLc (mRange1 (mC (.int 6))) (.nm 4) mYes (mFn gf (mCons (mVar 1) (mCons (mVar 3) (mCons (mC (.int 3)) mNil)))) [4]) (mLst (mCons (mTup (mCons (mC (.str "div")) (mCons (mC (.int 2)) (mCons (mC (.int 0)) mNil)))) mNil))))
    (mFor (mRange1 (mC (.int 3))) (.nm 6) (law2 gvi gs gl gt)))
theorem b_law_eq : b_law f__law_feed f__law_draw gf gvi gs gl gt = mSeq (mSet 1 (mFn f__law_feed (mCons (mVar 0) mNil))) (mSeq (mFor (mRange1 (mC (.int 10))) (.nm 2) (law1 gvi gs gl gt gf))
    (mRet (m2 dEq (mFn gvi (mCons (mTup mNil) (mCons (mTup mNil) (mCons (m1 dNeg (mC (.int 5))) mNil)))) (m1 dNeg (mC (.int 5)))))) := rfl
end
/-- the k-loop's turn -/
theorem law3_ok {gs gl gt : Fn} {N V : D} {L : List Ex} {s c : Cell} (hl : L.length = 7)
    (hs : ∀ e ∈ L, ∀ f ∈ L, ∀ S, gs [.d N, .d V, .d e.toD, .d f.toD] S = .ok (.d (.bl true)) S) (hz : ∀ e ∈ L, ∀ f ∈ L, ∀ S, gl [.d N, .d V, .d e.toD, .d f.toD] S = .ok (.d (.bl true)) S) (ht : ∀ e ∈ L, ∀ f ∈ L, ∀ S, gt [.d N, .d V, .d e.toD, .d f.toD] S = .ok (.d (.bl true)) S)
    {a0 a2 a6 a8 a9 a10 : Option U} {b : Nat} {k : Nat} (hk : k < 7) {S : Store} : ∃ e f : Ex, law3 gs gl gt b [a0, some (.loc 0), a2, some (.d N), some (.d (.int (k : Int))), some (.d (.lst (L.map Ex.toD))), a6, some (.d V), a8, a9, a10] S =
      .next [a0, some (.loc 0), a2, some (.d N), some (.d (.int (k : Int))), some (.d (.lst (L.map Ex.toD))), a6, some (.d V), some (.d e.toD), some (.d f.toD), a10] S := by
  have at_ : ∀ p : Int, 0 ≤ p → p < 7 → ∃ e ∈ L, atI (L.map Ex.toD) p = some e.toD := fun p h0 h1 => by
    have h2 : p.toNat < L.length := by omega
    refine ⟨L[p.toNat], List.getElem_mem h2, ?_⟩
    rw [atI_in h0 (by simp; omega)]
    simp [h2]
  obtain ⟨e, he, e1⟩ := at_ (k : Int) (by omega) (by omega)
  obtain ⟨f, hf, f1⟩ := at_ (((k : Int) + 1).fmod 7) (Int.fmod_nonneg_of_pos _ (by decide)) (Int.fmod_lt_of_pos _ (by decide))
  refine ⟨e, f, ?_⟩
  have h1 := hs e he f hf
  have h2 := hz e he f hf
  have h3 := ht e he f hf
  unfold law3
  simp [e1, f1, hl, h1, h2, h3]
end W

set_option Elab.async false
set_option linter.all false
set_option maxRecDepth 100000
set_option maxHeartbeats 4000000
/-! M08m: law -/
namespace W
open DL PySem L2
theorem rho_of : ∀ (xs : List Str) (vs : List Int), xs.Nodup → vs.length = xs.length → (∀ v ∈ vs, v.natAbs ≤ 7) → ∃ ρ : Str → Int, vs = xs.map ρ ∧ ∀ x, (ρ x).natAbs ≤ 7
  | [], [], _, _, _ => ⟨fun _ => 0, rfl, fun _ => Nat.zero_le _⟩
  | x :: xs, v :: vs, hn, hl, hb => by
    obtain ⟨ρ, h1, h2⟩ := rho_of xs vs (List.nodup_cons.mp hn).2 (by simpa using hl) fun w hw => hb w (List.mem_cons_of_mem _ hw)
    refine ⟨fun z => if z = x then v else ρ z, ?_, fun z => ?_⟩
    · rw [List.map_cons, if_pos rfl, h1]
      congr 1
      apply List.map_congr_left
      intro z hz
      have : z ≠ x := fun e => (List.nodup_cons.mp hn).1 (by rw [← e]; exact hz)
      rw [if_neg this]
    · by_cases e : z = x
      · simp only [e, if_true]; exact hb v (List.mem_cons_self ..)
      · simp only [e, if_false]; exact h2 z
  | [], _ :: _, _, h, _ => by cases h
  | _ :: _, [], _, h, _ => by cases h
theorem lc_vals {a0 a2 a4 a5 a6 a7 a8 a9 : Option U} {N : Option U} : ∀ (ds : List D) (c : Cell), Fd c → ∃ (vs : List Int) (c' : Cell),
    lcD (.nm 10) mYes (m2 dSub (mFn f__law_draw (mCons (mVar 1) (mCons (mC (.int 7)) mNil))) (mC (.int 3))) [a0, some (.loc 0), a2, N, a4, a5, a6, a7, a8, a9, none] ds [c] = .ok (vs.map D.int) [c'] ∧ Fd c' ∧ vs.length = ds.length ∧ ∀ v ∈ vs, v.natAbs ≤ 7
  | [], c, hc => ⟨[], c, rfl, hc, rfl, fun _ h => by cases h⟩
  | x :: ds, c, hc => by
    obtain ⟨r, c1, e1, h1, r0, r1⟩ := draw_ok hc 7 (by decide) (by decide)
    obtain ⟨vs, c2, e2, h2, l2, b2⟩ := lc_vals (a0 := a0) (a2 := a2) (a4 := a4) (a5 := a5) (a6 := a6) (a7 := a7) (a8 := a8) (a9 := a9) (N := N) ds c1 h1
    refine ⟨(r - 3) :: vs, c2, ?_, h2, by simp [l2], fun v hv => ?_⟩
    · rw [lcD_cons]
      simp [e1, e2]
    · rcases List.mem_cons.mp hv with rfl | hv
      · omega
      · exact b2 v hv
theorem lc_same {gvi : Fn} (H : ViAll gvi) {xs : List Str} {ρ : Str → Int} {a0 a1 a2 a4 a5 a6 a8 a9 : Option U} {S : Store} : ∀ (ys : List Str), (∀ y ∈ ys, y ∈ xs) →
    lcD (.nm 10) mYes (mFn gvi (mCons (mVar 3) (mCons (mVar 7) (mCons (mVar 10) mNil)))) [a0, a1, a2, some (.d (nmD xs)), a4, a5, a6, some (.d (vlD ρ xs)), a8, a9, none] (ys.map D.str) S = .ok ((ys.map ρ).map D.int) S
  | [], _ => rfl
  | y :: ys, h => by
    have ih := lc_same H (ρ := ρ) (a0 := a0) (a1 := a1) (a2 := a2) (a4 := a4) (a5 := a5) (a6 := a6) (a8 := a8) (a9 := a9) (S := S) ys fun z hz => h z (List.mem_cons_of_mem _ hz)
    have e := H xs ρ (.var y) S (fun z hz => by rw [List.mem_singleton.mp hz]; exact h y (List.mem_cons_self ..)) trivial (Nat.zero_le _)
    simp only [Ex.toD, ev, oD_s] at e
    rw [List.map_cons, lcD_cons]
    simp [e, ih, -List.map_map]
theorem Nm.nodup {xs : List Str} (h : Nm xs) : xs.Nodup := by
  rcases h with rfl | rfl | rfl | rfl <;> simp
theorem Nm.le {xs : List Str} (h : Nm xs) : xs.length ≤ 3 := by
  rcases h with rfl | rfl | rfl | rfl <;> simp
theorem Nm.qq {xs : List Str} (h : Nm xs) : ("qq" : Str) ∉ xs := by
  rcases h with rfl | rfl | rfl | rfl <;> simp
/-- the three helpers answer True -/
structure Right (gvi gs gl gt : Fn) : Prop where
  vi : ViAll gvi
  s : ∀ {xs : List Str} {ρ : Str → Int} {e f : Ex}, Nm xs → (∀ x, (ρ x).natAbs ≤ 7) → Wf xs e → Wf xs f → ∀ S, gs [.d (nmD xs), .d (vlD ρ xs), .d e.toD, .d f.toD] S = .ok (.d (.bl true)) S
  l : ∀ {xs : List Str} {ρ : Str → Int} {e f : Ex}, Nm xs → (∀ x, (ρ x).natAbs ≤ 7) → Wf xs e → Wf xs f → ∀ S, gl [.d (nmD xs), .d (vlD ρ xs), .d e.toD, .d f.toD] S = .ok (.d (.bl true)) S
  t : ∀ {xs : List Str} {ρ : Str → Int} {e f : Ex}, Nm xs → (∀ x, (ρ x).natAbs ≤ 7) → Wf xs e → Wf xs f → ∀ S, gt [.d (nmD xs), .d (vlD ρ xs), .d e.toD, .d f.toD] S = .ok (.d (.bl true)) S
theorem kfor_7 {gs gl gt : Fn} {N V : D} {L : List Ex} (hl : L.length = 7)
    (hs : ∀ e ∈ L, ∀ f ∈ L, ∀ S, gs [.d N, .d V, .d e.toD, .d f.toD] S = .ok (.d (.bl true)) S) (hz : ∀ e ∈ L, ∀ f ∈ L, ∀ S, gl [.d N, .d V, .d e.toD, .d f.toD] S = .ok (.d (.bl true)) S) (ht : ∀ e ∈ L, ∀ f ∈ L, ∀ S, gt [.d N, .d V, .d e.toD, .d f.toD] S = .ok (.d (.bl true)) S)
    {a0 a2 a4 a6 a8 a9 a10 : Option U} {c : Cell} (h0 : Dt a0) (h2 : Dt a2) (h4 : Dt a4) (h6 : Dt a6) (h8 : Dt a8) (h9 : Dt a9) (h10 : Dt a10) :
    ∃ b4 b8 b9, Dt b4 ∧ Dt b8 ∧ Dt b9 ∧ forD (.nm 4) (law3 gs gl gt) 1 (rangeD 0 7) [a0, some (.loc 0), a2, some (.d N), a4, some (.d (.lst (L.map Ex.toD))), a6, some (.d V), a8, a9, a10] [c] =
      .next [a0, some (.loc 0), a2, some (.d N), b4, some (.d (.lst (L.map Ex.toD))), a6, some (.d V), b8, b9, a10] [c] := by
  obtain ⟨δ', S', e, b4, b8, b9, d4, d8, d9, rfl, rfl⟩ := forD_inv (t := .nm 4) (m := law3 gs gl gt) (b := 1) (fun δ S => ∃ b4 b8 b9, Dt b4 ∧ Dt b8 ∧ Dt b9 ∧ δ = [a0, some (.loc 0), a2, some (.d N), b4, some (.d (.lst (L.map Ex.toD))), a6, some (.d V), b8, b9, a10] ∧ S = [c]) (rangeD 0 7) (fun d hd δ S ⟨b4, b8, b9, d4, d8, d9, eδ, eS⟩ => by
    subst eδ eS
    obtain ⟨k, hk, rfl⟩ : ∃ k : Nat, k < 7 ∧ d = .int (k : Int) := by
      rw [rangeD0] at hd
      obtain ⟨k, h1, rfl⟩ := List.mem_map.mp hd
      exact ⟨k, List.mem_range.mp h1, rfl⟩
    obtain ⟨e, f, h⟩ := law3_ok (s := c) (c := c) hl hs hz ht (a0 := a0) (a2 := a2) (a6 := a6) (a8 := b8) (a9 := b9) (a10 := a10) (b := 1) hk (S := [c])
    refine ⟨_, rfl, _, _, h, some (.d (.int (k : Int))), some (.d e.toD), some (.d f.toD), .d _, .d _, .d _, ?_, rfl⟩
    simp [trimE, trimU, h0.trim, h2.trim, h6.trim, h10.trim]) _ _ ⟨a4, a8, a9, h4, h8, h9, rfl, rfl⟩
  exact ⟨b4, b8, b9, d4, d8, d9, e⟩
theorem law2_ok {gvi gs gl gt : Fn} (R : Right gvi gs gl gt) {xs : List Str} (hx : Nm xs) {L : List Ex} (hl : L.length = 7) (hw : ∀ e ∈ L, Wf xs e) {c : Cell} (hc : Fd c)
    {a0 a2 a4 a6 a7 a8 a9 a10 : Option U} (h0 : Dt a0) (h2 : Dt a2) (h4 : Dt a4) (h6 : Dt a6) (h8 : Dt a8) (h9 : Dt a9) (h10 : Dt a10) :
    ∃ b4 b7 b8 b9 c', Dt b4 ∧ Dt b7 ∧ Dt b8 ∧ Dt b9 ∧ Fd c' ∧ law2 gvi gs gl gt 1 [a0, some (.loc 0), a2, some (.d (nmD xs)), a4, some (.d (.lst (L.map Ex.toD))), a6, a7, a8, a9, a10] [c] =
      .next [a0, some (.loc 0), a2, some (.d (nmD xs)), b4, some (.d (.lst (L.map Ex.toD))), a6, b7, b8, b9, a10] [c'] := by
  obtain ⟨vs, c1, e1, hc1, lv, bv⟩ := lc_vals (a0 := a0) (a2 := a2) (a4 := a4) (a5 := some (.d (.lst (L.map Ex.toD)))) (a6 := a6) (a7 := a7) (a8 := a8) (a9 := a9) (N := some (.d (nmD xs))) (xs.map D.str) c hc
  rw [List.length_map] at lv
  obtain ⟨ρ, ev, hb⟩ := rho_of xs vs hx.nodup lv bv
  have hv : D.tup (vs.map D.int) = vlD ρ xs := by rw [ev, List.map_map]; rfl
  have e2 := lc_same R.vi (ρ := ρ) (a0 := a0) (a1 := some (.loc 0)) (a2 := a2) (a4 := a4) (a5 := some (.d (.lst (L.map Ex.toD)))) (a6 := a6) (a8 := a8) (a9 := a9) (S := [c1]) xs fun y hy => hy
  have l3 := hx.le
  have z1 : xs.length ≤ sizeLine := by rw [sizeLine_eq]; omega
  obtain ⟨b4, b8, b9, d4, d8, d9, e3⟩ := kfor_7 (N := nmD xs) (V := vlD ρ xs) hl (fun e he f hf => R.s hx hb (hw e he) (hw f hf)) (fun e he f hf => R.l hx hb (hw e he) (hw f hf)) (fun e he f hf => R.t hx hb (hw e he) (hw f hf)) (c := c1) h0 h2 h4 h6 h8 h9 h10
  refine ⟨b4, some (.d (vlD ρ xs)), b8, b9, c1, d4, .d _, d8, d9, hc1, ?_⟩
  have s1 : mSeqI (mVar 3) [a0, some (.loc 0), a2, some (.d (nmD xs)), a4, some (.d (.lst (L.map Ex.toD))), a6, a7, a8, a9, a10] [c] = .ok (xs.map D.str) [c] := by simp [nmD]
  have s2 : mCall dTuple (mCons (mLc (mSeqI (mVar 3)) (.nm 10) mYes (m2 dSub (mFn f__law_draw (mCons (mVar 1) (mCons (mC (.int 7)) mNil))) (mC (.int 3))) [10]) mNil) [a0, some (.loc 0), a2, some (.d (nmD xs)), a4, some (.d (.lst (L.map Ex.toD))), a6, a7, a8, a9, a10] [c] = .ok (.d (vlD ρ xs)) [c1] := by
    rw [mCall_, mCons_, mLc_, s1, kLc_, if_pos (by rw [List.length_map]; exact z1)]
    show kCall dTuple (kC1 mNil _ (kL (lcD _ _ _ [a0, some (.loc 0), a2, some (.d (nmD xs)), a4, some (.d (.lst (L.map Ex.toD))), a6, a7, a8, a9, none] (xs.map D.str) [c]))) = _
    rw [e1]
    simp [hv]
  have s3 : m2 dNe (mLc (mSeqI (mVar 3)) (.nm 10) mYes (mFn gvi (mCons (mVar 3) (mCons (mVar 7) (mCons (mVar 10) mNil)))) [10]) (mCall dList (mCons (mVar 7) mNil)) [a0, some (.loc 0), a2, some (.d (nmD xs)), a4, some (.d (.lst (L.map Ex.toD))), a6, some (.d (vlD ρ xs)), a8, a9, a10] [c1] = .ok (.d (.bl false)) [c1] := by
    have s1' : mSeqI (mVar 3) [a0, some (.loc 0), a2, some (.d (nmD xs)), a4, some (.d (.lst (L.map Ex.toD))), a6, some (.d (vlD ρ xs)), a8, a9, a10] [c1] = .ok (xs.map D.str) [c1] := by simp [nmD]
    rw [m2_, mLc_, s1', kLc_, if_pos (by rw [List.length_map]; exact z1)]
    show k2a dNe _ _ (kL (lcD _ _ _ [a0, some (.loc 0), a2, some (.d (nmD xs)), a4, some (.d (.lst (L.map Ex.toD))), a6, some (.d (vlD ρ xs)), a8, a9, none] (xs.map D.str) [c1])) = _
    rw [e2]
    have q := dNe_self (xs.map ρ) (by rw [List.length_map]; exact z1)
    have q2 : vlD ρ xs = .tup ((xs.map ρ).map D.int) := by rw [List.map_map]; rfl
    simp [q2, q, -List.map_map]
  unfold law2
  rw [mSeq_, mSet_, s2, kSet_, kSeq_n, mSeq_, mIfS_, mTest_]
  show kSeq _ _ (kIfS _ _ _ _ (kTest (m2 dNe _ _ [a0, some (.loc 0), a2, some (.d (nmD xs)), a4, some (.d (.lst (L.map Ex.toD))), a6, some (.d (vlD ρ xs)), a8, a9, a10] [c1]))) = _
  rw [s3, kTest_, kIfS_, if_neg Bool.false_ne_true, mSkip_, kSeq_n, mFor_]
  have s4 : mRange1 (mCall dLen (mCons (mVar 5) mNil)) [a0, some (.loc 0), a2, some (.d (nmD xs)), a4, some (.d (.lst (L.map Ex.toD))), a6, some (.d (vlD ρ xs)), a8, a9, a10] [c1] = .ok (rangeD 0 7) [c1] := by
    have z4 := kR1_n [c1] 7 (by decide)
    have z5 : ((7 : Nat) : Int) = 7 := rfl
    rw [z5] at z4
    simp [hl, z4]
  show kFor _ _ [a0, some (.loc 0), a2, some (.d (nmD xs)), a4, some (.d (.lst (L.map Ex.toD))), a6, some (.d (vlD ρ xs)), a8, a9, a10] (mRange1 _ [a0, some (.loc 0), a2, some (.d (nmD xs)), a4, some (.d (.lst (L.map Ex.toD))), a6, some (.d (vlD ρ xs)), a8, a9, a10] [c1]) = _
  rw [s4, kFor_]
  exact e3
theorem lc_lot {g : Fn} {xs : List Str} (h : FormOk g xs 3) {a0 a2 a5 a6 a7 a8 a9 a10 : Option U} : ∀ (ds : List D) (c : Cell), Fd c → ∃ (es : List Ex) (c' : Cell),
    lcD (.nm 4) mYes (mFn g (mCons (mVar 1) (mCons (mVar 3) (mCons (mC (.int 3)) mNil)))) [a0, some (.loc 0), a2, some (.d (nmD xs)), none, a5, a6, a7, a8, a9, a10] ds [c] = .ok (es.map Ex.toD) [c'] ∧ Fd c' ∧ es.length = ds.length ∧ ∀ e ∈ es, Wf xs e
  | [], c, hc => ⟨[], c, rfl, hc, rfl, fun _ h => by cases h⟩
  | x :: ds, c, hc => by
    obtain ⟨e, c1, e1, h1, w1⟩ := h c hc
    obtain ⟨es, c2, e2, h2, l2, w2⟩ := lc_lot h (a0 := a0) (a2 := a2) (a5 := a5) (a6 := a6) (a7 := a7) (a8 := a8) (a9 := a9) (a10 := a10) ds c1 h1
    refine ⟨e :: es, c2, ?_, h2, by simp [l2], fun e' he' => ?_⟩
    · have e1' : g [.loc 0, .d (nmD xs), .d (.int 3)] [c] = .ok (.d e.toD) [c1] := e1
      rw [lcD_cons]
      simp [e2, e1']
    · rcases List.mem_cons.mp he' with rfl | he'
      · exact w1
      · exact w2 e' he'
theorem law1_ok {gvi gs gl gt gf : Fn} (R : Right gvi gs gl gt) (hF : ∀ xs, Nm xs → FormOk gf xs 3) {c : Cell} (hc : Fd c)
    {a0 a2 a3 a4 a5 a6 a7 a8 a9 a10 : Option U} (h0 : Dt a0) (h2 : Dt a2) (h4 : Dt a4) (h6 : Dt a6) (h7 : Dt a7) (h8 : Dt a8) (h9 : Dt a9) (h10 : Dt a10) :
    ∃ b3 b4 b5 b6 b7 b8 b9 c', Dt b3 ∧ Dt b4 ∧ Dt b5 ∧ Dt b6 ∧ Dt b7 ∧ Dt b8 ∧ Dt b9 ∧ Fd c' ∧ law1 gvi gs gl gt gf 1 [a0, some (.loc 0), a2, a3, a4, a5, a6, a7, a8, a9, a10] [c] = .next [a0, some (.loc 0), a2, b3, b4, b5, b6, b7, b8, b9, a10] [c'] := by
  obtain ⟨r, c1, e1, hc1, r0, r1⟩ := draw_ok hc 4 (by decide) (by decide)
  obtain ⟨xs, hx, ex⟩ : ∃ xs, Nm xs ∧ D.tup (cutD [.str "b", .str "least", .str "x"] none (some r)) = nmD xs := by
    rw [cutD_to _ r0]
    have : r = 0 ∨ r = 1 ∨ r = 2 ∨ r = 3 := by omega
    rcases this with rfl | rfl | rfl | rfl
    · exact ⟨[], .inl rfl, rfl⟩
    · exact ⟨[("b" : Str)], .inr (.inl rfl), rfl⟩
    · exact ⟨[("b" : Str), ("least" : Str)], .inr (.inr (.inl rfl)), rfl⟩
    · exact ⟨[("b" : Str), ("least" : Str), ("x" : Str)], .inr (.inr (.inr rfl)), rfl⟩
  have s3 : 3 ≤ sizeLine := by decide
  have t1 : mSl (mTup (mCons (mC (.str "b")) (mCons (mC (.str "least")) (mCons (mC (.str "x")) mNil)))) moNone (moSome (mFn f__law_draw (mCons (mVar 1) (mCons (mC (.int 4)) mNil)))) [a0, some (.loc 0), a2, a3, a4, a5, a6, a7, a8, a9, a10] [c] = .ok (.d (nmD xs)) [c1] := by
    simp [s3, e1, ex]
  obtain ⟨es, c2, e2, hc2, l2, w2⟩ := lc_lot (hF xs hx) (a0 := a0) (a2 := a2) (a5 := a5) (a6 := a6) (a7 := a7) (a8 := a8) (a9 := a9) (a10 := a10) (rangeD 0 6) c1 hc1
  have l6 : (rangeD 0 6).length = 6 := by simp [rangeD]
  have k6 : ∀ S, kR1 (.ok (.d (.int 6)) S) = .ok (rangeD 0 6) S := fun S => kR1_n S 6 (by decide)
  have k3 : ∀ S, kR1 (.ok (.d (.int 3)) S) = .ok (rangeD 0 3) S := fun S => kR1_n S 3 (by decide)
  have hL : (es ++ [Ex.op .div (.num 2) (.num 0)]).length = 7 := by simp [l2, l6]
  have wL : ∀ e ∈ es ++ [Ex.op .div (.num 2) (.num 0)], Wf xs e := fun e he => by
    rcases List.mem_append.mp he with he | he
    · exact w2 e he
    · rw [List.mem_singleton.mp he]
      refine ⟨fun x hx => ?_, ⟨?_, ?_⟩, ?_⟩
      · cases hx
      · show Int.natAbs 2 ≤ 7; decide
      · show Int.natAbs 0 ≤ 7; decide
      · decide
  have eL : (es ++ [Ex.op .div (.num 2) (.num 0)]).map Ex.toD = es.map Ex.toD ++ [.tup [.str "div", .int 2, .int 0]] := by rw [List.map_append]; rfl
  have z6 : 6 ≤ sizeLine := by decide
  have z7 : es.length + 1 ≤ sizeLine := by rw [l2, l6, sizeLine_eq]; decide
  have s1 : 1 ≤ sizeLine := by decide
  have t2 : m2 dAdd (mLc (mRange1 (mC (.int 6))) (.nm 4) mYes (mFn gf (mCons (mVar 1) (mCons (mVar 3) (mCons (mC (.int 3)) mNil)))) [4]) (mLst (mCons (mTup (mCons (mC (.str "div")) (mCons (mC (.int 2)) (mCons (mC (.int 0)) mNil)))) mNil)) [a0, some (.loc 0), a2, some (.d (nmD xs)), a4, a5, a6, a7, a8, a9, a10] [c1] = .ok (.d (.lst ((es ++ [Ex.op .div (.num 2) (.num 0)]).map Ex.toD))) [c2] := by
    rw [eL, m2_, mLc_, mRange1_, mC_, k6, kLc_, if_pos (by rw [l6]; exact z6)]
    show k2a dAdd _ _ (kL (lcD _ _ _ [a0, some (.loc 0), a2, some (.d (nmD xs)), none, a5, a6, a7, a8, a9, a10] (rangeD 0 6) [c1])) = _
    rw [e2, kL_, k2a_]
    have t3 : mLst (mCons (mTup (mCons (mC (.str "div")) (mCons (mC (.int 2)) (mCons (mC (.int 0)) mNil)))) mNil) [a0, some (.loc 0), a2, some (.d (nmD xs)), a4, a5, a6, a7, a8, a9, a10] [c2] = .ok (.d (.lst [.tup [.str "div", .int 2, .int 0]])) [c2] := by simp [s1, s3]
    rw [t3, k2b_]
    show lift (Option.map U.d (dAdd (.lst (es.map Ex.toD)) (.lst [.tup [.str "div", .int 2, .int 0]]))) [c2] = _
    rw [dAdd_l, if_pos (by rw [List.length_map]; exact z7)]
    rfl
  generalize (es ++ [Ex.op .div (.num 2) (.num 0)]) = L at *
  obtain ⟨δ', S', e3, b4, b6, b7, b8, b9, c3, d4, d6, d7, d8, d9, hc3, rfl, rfl⟩ := forD_inv (t := .nm 6) (m := law2 gvi gs gl gt) (b := 1) (fun δ S => ∃ b4 b6 b7 b8 b9 c, Dt b4 ∧ Dt b6 ∧ Dt b7 ∧ Dt b8 ∧ Dt b9 ∧ Fd c ∧ δ = [a0, some (.loc 0), a2, some (.d (nmD xs)), b4, some (.d (.lst (L.map Ex.toD))), b6, b7, b8, b9, a10] ∧ S = [c]) (rangeD 0 3) (fun d hd δ S ⟨b4, b6, b7, b8, b9, c, d4, d6, d7, d8, d9, hc, eδ, eS⟩ => by
    subst eδ eS
    obtain ⟨b4', b7', b8', b9', c', d4', d7', d8', d9', hc', e⟩ := law2_ok R hx hL wL hc (a0 := a0) (a2 := a2) (a4 := b4) (a6 := some (.d d)) (a7 := b7) (a8 := b8) (a9 := b9) (a10 := a10) h0 h2 d4 (.d d) d8 d9 h10
    refine ⟨_, rfl, _, _, e, b4', some (.d d), b7', b8', b9', c', d4', .d d, d7', d8', d9', hc', ?_, rfl⟩
    simp [trimE, trimU, h0.trim, h2.trim, h10.trim, d4'.trim, d7'.trim, d8'.trim, d9'.trim]) _ _ ⟨a4, a6, a7, a8, a9, c2, h4, h6, h7, h8, h9, hc2, rfl, rfl⟩
  refine ⟨some (.d (nmD xs)), b4, some (.d (.lst (L.map Ex.toD))), b6, b7, b8, b9, c3, .d _, d4, .d _, d6, d7, d8, d9, hc3, ?_⟩
  unfold law1
  rw [mSeq_, mSet_, t1, kSet_, kSeq_n, mSeq_, mSet_]
  show kSeq _ _ (kSet 5 _ (m2 dAdd _ _ [a0, some (.loc 0), a2, some (.d (nmD xs)), a4, a5, a6, a7, a8, a9, a10] [c1])) = _
  rw [t2, kSet_, kSeq_n, mFor_, mRange1_, mC_, k3, kFor_]
  exact e3
theorem law_ok {gvi gs gl gt gf : Fn} (R : Right gvi gs gl gt) (hF : ∀ xs, Nm xs → FormOk gf xs 3) (ns : List Int) (hn : ns.length ≤ 63) : ∃ S, f_law f__law_feed f__law_draw gf gvi gs gl gt [.d (.fl (ns.map D.int))] [] = .ok (.d (.bl true)) S := by
  obtain ⟨c, e1, hc⟩ := feed_ok ns hn []
  have k10 : ∀ S, kR1 (.ok (.d (.int 10)) S) = .ok (rangeD 0 10) S := fun S => kR1_n S 10 (by decide)
  obtain ⟨δ', S', e2, b2, b3, b4, b5, b6, b7, b8, b9, c', hc', rfl, rfl, _⟩ := forD_inv (t := .nm 2) (m := law1 gvi gs gl gt gf) (b := 1) (fun δ S => ∃ b2 b3 b4 b5 b6 b7 b8 b9 c, Fd c ∧ δ = [some (.d (.fl (ns.map D.int))), some (.loc 0), b2, b3, b4, b5, b6, b7, b8, b9, none] ∧ S = [c] ∧ Dt b2 ∧ Dt b3 ∧ Dt b4 ∧ Dt b5 ∧ Dt b6 ∧ Dt b7 ∧ Dt b8 ∧ Dt b9) (rangeD 0 10) (fun d hd δ S ⟨b2, b3, b4, b5, b6, b7, b8, b9, c, hc, eδ, eS, d2, d3, d4, d5, d6, d7, d8, d9⟩ => by
    subst eδ eS
    obtain ⟨b3', b4', b5', b6', b7', b8', b9', c', d3', d4', d5', d6', d7', d8', d9', hc', e⟩ := law1_ok R hF hc (a0 := some (.d (.fl (ns.map D.int)))) (a2 := some (.d d)) (a3 := b3) (a4 := b4) (a5 := b5) (a6 := b6) (a7 := b7) (a8 := b8) (a9 := b9) (a10 := none) (.d _) (.d d) d4 d6 d7 d8 d9 .n
    refine ⟨_, rfl, _, _, e, some (.d d), b3', b4', b5', b6', b7', b8', b9', c', hc', ?_, rfl, .d d, d3', d4', d5', d6', d7', d8', d9'⟩
    simp [trimE, trimU, d3'.trim, d4'.trim, d5'.trim, d6'.trim, d7'.trim, d8'.trim, d9'.trim]) [some (.d (.fl (ns.map D.int))), some (.loc 0), none, none, none, none, none, none, none, none, none] [c] ⟨none, none, none, none, none, none, none, none, c, hc, rfl, rfl, .n, .n, .n, .n, .n, .n, .n, .n⟩
  have last := R.vi [] (fun _ => 0) (.num (-5)) [c'] (fun x hx => by cases hx) trivial (Nat.zero_le _)
  simp only [nmD, vlD, List.map_nil, Ex.toD, ev, oD_s] at last
  refine ⟨[], ?_⟩
  unfold f_law
  rw [b_law_eq, callM_]
  show exitM 0 (mSeq _ _ 0 [some (.d (.fl (ns.map D.int))), none, none, none, none, none, none, none, none, none, none] []) = _
  have t1 : mFn f__law_feed (mCons (mVar 0) mNil) [some (.d (.fl (ns.map D.int))), none, none, none, none, none, none, none, none, none, none] [] = .ok (.loc 0) [c] := e1
  rw [mSeq_, mSet_, t1, kSet_, kSeq_n, mSeq_, mFor_, mRange1_, mC_, k10, kFor_]
  show exitM 0 (kSeq _ _ (forD (.nm 2) _ 1 (rangeD 0 10) [some (.d (.fl (ns.map D.int))), some (.loc 0), none, none, none, none, none, none, none, none, none] [c])) = _
  rw [e2, kSeq_n]
  simp [last]
end W

set_option Elab.async false
set_option linter.all false
set_option maxRecDepth 100000
set_option maxHeartbeats 4000000
/-! M08n: the law's meaning -/
namespace W
open DL PySem L2
def gVI : Fn := f_value_in (G 20).1
def LAW : Fn := f_law f__law_feed f__law_draw (gF 5) gVI (f__law_sums_right gVI) (f__law_lazy_right gVI) (f__law_turned_right gVI (gN 5))
theorem viAll : ViAll gVI := fun ys σ x S h1 h2 h3 => value_in_ok 20 ys σ x S h1 h2 (by omega)
theorem right_ok : Right gVI (f__law_sums_right gVI) (f__law_lazy_right gVI) (f__law_turned_right gVI (gN 5)) :=
  ⟨viAll, fun _ b he hf S => sums_ok (viAll.vi b) he hf S, fun _ b he hf S => lazy_ok (viAll.vi b) he hf S, fun hx b he hf S => turned_ok viAll b hx.le hx.qq he hf (by decide) S⟩
theorem LAW_ok (ns : List Int) (h : ns.length ≤ 63) : ∃ S, LAW [.d (.fl (ns.map D.int))] [] = .ok (.d (.bl true)) S :=
  law_ok right_ok (fun xs hx => formula_ok hx 3 5 (by decide)) ns h
end W

set_option Elab.async false
set_option linter.all false
set_option maxRecDepth 100000
set_option maxHeartbeats 4000000
/-! printed by genjoin.py: the program's top and the law -/
namespace W
open PySem PySem.Spec PyProof.Rows L2 DL
theorem all_mk {l : PySem.W.OpenLaw} {w : World} {K : PySem.W.Frag} {h : Heap} {mg : Str → Option Value} {fa f1 f2 f3 f4 f5 f6 f7 f8 f9 f10 f11 f12 f13 f14 f15 f16 : Addr} (X : K.In h) (GG : h.Ns mainGlobals mg) (hfa : mg "law" = some (.ref fa))
    {od1 an1 od2 an2 od3 an3 od4 an4 od5 an5 od6 an6 od7 an7 od8 an8 od9 an9 od10 an10 od11 an11 od12 an12 od13 an13 od14 an14 od15 an15 od16 an16 : Option Addr} {sl1 sl2 sl3 sl4 sl5 sl6 sl7 sl8 sl9 sl10 sl11 sl12 sl13 sl14 sl15 sl16 : Array (Option Value)} {oc1 kV1 dc1 pm1 cd1 ct1 oc2 kV2 dc2 pm2 cd2 ct2 oc3 kV3 dc3 pm3 cd3 ct3 oc4 kV4 dc4 pm4 cd4 ct4 oc5 kV5 dc5 pm5 cd5 ct5 oc6 kV6 dc6 pm6 cd6 ct6 oc7 kV7 dc7 pm7 cd7 ct7 oc8 kV8 dc8 pm8 cd8 ct8 oc9 kV9 dc9 pm9 cd9 ct9 oc10 kV10 dc10 pm10 cd10 ct10 oc11 kV11 dc11 pm11 cd11 ct11 oc12 kV12 dc12 pm12 cd12 ct12 oc13 kV13 dc13 pm13 cd13 ct13 oc14 kV14 dc14 pm14 cd14 ct14 oc15 kV15 dc15 pm15 cd15 ct15 oc16 kV16 dc16 pm16 cd16 ct16 : Value}
    (a1 : PySem.W.nsIn K mainGlobals "is_integer" = some (some (.ref f1))) (l1 : K.lookup f1 = some ⟨oc1, od1, .func (PySem.W.fnOf "is_integer" "is_integer" (defArgs s_is_integer) (defBody s_is_integer) (defScope s_is_integer) .none kV1 dc1 pm1 an1 cd1 ct1), sl1⟩) (c1 : PySem.W.codeIn K cd1 "is_integer" = true) (k1 : PySem.W.keepIn K (.ref f1) = true)
    (a2 : PySem.W.nsIn K mainGlobals "computed" = some (some (.ref f2))) (l2 : K.lookup f2 = some ⟨oc2, od2, .func (PySem.W.fnOf "computed" "computed" (defArgs s_computed) (defBody s_computed) (defScope s_computed) .none kV2 dc2 pm2 an2 cd2 ct2), sl2⟩) (c2 : PySem.W.codeIn K cd2 "computed" = true) (k2 : PySem.W.keepIn K (.ref f2) = true)
    (a3 : PySem.W.nsIn K mainGlobals "lazy_value" = some (some (.ref f3))) (l3 : K.lookup f3 = some ⟨oc3, od3, .func (PySem.W.fnOf "lazy_value" "lazy_value" (defArgs s_lazy_value) (defBody s_lazy_value) (defScope s_lazy_value) .none kV3 dc3 pm3 an3 cd3 ct3), sl3⟩) (c3 : PySem.W.codeIn K cd3 "lazy_value" = true) (k3 : PySem.W.keepIn K (.ref f3) = true)
    (a4 : PySem.W.nsIn K mainGlobals "strict_value" = some (some (.ref f4))) (l4 : K.lookup f4 = some ⟨oc4, od4, .func (PySem.W.fnOf "strict_value" "strict_value" (defArgs s_strict_value) (defBody s_strict_value) (defScope s_strict_value) .none kV4 dc4 pm4 an4 cd4 ct4), sl4⟩) (c4 : PySem.W.codeIn K cd4 "strict_value" = true) (k4 : PySem.W.keepIn K (.ref f4) = true)
    (a5 : PySem.W.nsIn K mainGlobals "valued" = some (some (.ref f5))) (l5 : K.lookup f5 = some ⟨oc5, od5, .func (PySem.W.fnOf "valued" "valued" (defArgs s_valued) (defBody s_valued) (defScope s_valued) .none kV5 dc5 pm5 an5 cd5 ct5), sl5⟩) (c5 : PySem.W.codeIn K cd5 "valued" = true) (k5 : PySem.W.keepIn K (.ref f5) = true)
    (a6 : PySem.W.nsIn K mainGlobals "value_in" = some (some (.ref f6))) (l6 : K.lookup f6 = some ⟨oc6, od6, .func (PySem.W.fnOf "value_in" "value_in" (defArgs s_value_in) (defBody s_value_in) (defScope s_value_in) .none kV6 dc6 pm6 an6 cd6 ct6), sl6⟩) (c6 : PySem.W.codeIn K cd6 "value_in" = true) (k6 : PySem.W.keepIn K (.ref f6) = true)
    (a7 : PySem.W.nsIn K mainGlobals "_law_feed" = some (some (.ref f7))) (l7 : K.lookup f7 = some ⟨oc7, od7, .func (PySem.W.fnOf "_law_feed" "_law_feed" (defArgs s__law_feed) (defBody s__law_feed) (defScope s__law_feed) .none kV7 dc7 pm7 an7 cd7 ct7), sl7⟩) (c7 : PySem.W.codeIn K cd7 "_law_feed" = true) (k7 : PySem.W.keepIn K (.ref f7) = true)
    (a8 : PySem.W.nsIn K mainGlobals "_law_draw" = some (some (.ref f8))) (l8 : K.lookup f8 = some ⟨oc8, od8, .func (PySem.W.fnOf "_law_draw" "_law_draw" (defArgs s__law_draw) (defBody s__law_draw) (defScope s__law_draw) .none kV8 dc8 pm8 an8 cd8 ct8), sl8⟩) (c8 : PySem.W.codeIn K cd8 "_law_draw" = true) (k8 : PySem.W.keepIn K (.ref f8) = true)
    (a9 : PySem.W.nsIn K mainGlobals "_law_sizes" = some (some (.ref f9))) (l9 : K.lookup f9 = some ⟨oc9, od9, .func (PySem.W.fnOf "_law_sizes" "_law_sizes" (defArgs s__law_sizes) (defBody s__law_sizes) (defScope s__law_sizes) .none kV9 dc9 pm9 an9 cd9 ct9), sl9⟩) (c9 : PySem.W.codeIn K cd9 "_law_sizes" = true) (k9 : PySem.W.keepIn K (.ref f9) = true)
    (a10 : PySem.W.nsIn K mainGlobals "_law_names_in" = some (some (.ref f10))) (l10 : K.lookup f10 = some ⟨oc10, od10, .func (PySem.W.fnOf "_law_names_in" "_law_names_in" (defArgs s__law_names_in) (defBody s__law_names_in) (defScope s__law_names_in) .none kV10 dc10 pm10 an10 cd10 ct10), sl10⟩) (c10 : PySem.W.codeIn K cd10 "_law_names_in" = true) (k10 : PySem.W.keepIn K (.ref f10) = true)
    (a11 : PySem.W.nsIn K mainGlobals "_law_leaf" = some (some (.ref f11))) (l11 : K.lookup f11 = some ⟨oc11, od11, .func (PySem.W.fnOf "_law_leaf" "_law_leaf" (defArgs s__law_leaf) (defBody s__law_leaf) (defScope s__law_leaf) .none kV11 dc11 pm11 an11 cd11 ct11), sl11⟩) (c11 : PySem.W.codeIn K cd11 "_law_leaf" = true) (k11 : PySem.W.keepIn K (.ref f11) = true)
    (a12 : PySem.W.nsIn K mainGlobals "_law_formula" = some (some (.ref f12))) (l12 : K.lookup f12 = some ⟨oc12, od12, .func (PySem.W.fnOf "_law_formula" "_law_formula" (defArgs s__law_formula) (defBody s__law_formula) (defScope s__law_formula) .none kV12 dc12 pm12 an12 cd12 ct12), sl12⟩) (c12 : PySem.W.codeIn K cd12 "_law_formula" = true) (k12 : PySem.W.keepIn K (.ref f12) = true)
    (a13 : PySem.W.nsIn K mainGlobals "_law_sums_right" = some (some (.ref f13))) (l13 : K.lookup f13 = some ⟨oc13, od13, .func (PySem.W.fnOf "_law_sums_right" "_law_sums_right" (defArgs s__law_sums_right) (defBody s__law_sums_right) (defScope s__law_sums_right) .none kV13 dc13 pm13 an13 cd13 ct13), sl13⟩) (c13 : PySem.W.codeIn K cd13 "_law_sums_right" = true) (k13 : PySem.W.keepIn K (.ref f13) = true)
    (a14 : PySem.W.nsIn K mainGlobals "_law_lazy_right" = some (some (.ref f14))) (l14 : K.lookup f14 = some ⟨oc14, od14, .func (PySem.W.fnOf "_law_lazy_right" "_law_lazy_right" (defArgs s__law_lazy_right) (defBody s__law_lazy_right) (defScope s__law_lazy_right) .none kV14 dc14 pm14 an14 cd14 ct14), sl14⟩) (c14 : PySem.W.codeIn K cd14 "_law_lazy_right" = true) (k14 : PySem.W.keepIn K (.ref f14) = true)
    (a15 : PySem.W.nsIn K mainGlobals "_law_turned_right" = some (some (.ref f15))) (l15 : K.lookup f15 = some ⟨oc15, od15, .func (PySem.W.fnOf "_law_turned_right" "_law_turned_right" (defArgs s__law_turned_right) (defBody s__law_turned_right) (defScope s__law_turned_right) .none kV15 dc15 pm15 an15 cd15 ct15), sl15⟩) (c15 : PySem.W.codeIn K cd15 "_law_turned_right" = true) (k15 : PySem.W.keepIn K (.ref f15) = true)
    (a16 : PySem.W.nsIn K mainGlobals "law" = some (some (.ref f16))) (l16 : K.lookup f16 = some ⟨oc16, od16, .func (PySem.W.fnOf "law" "law" (defArgs s_law) (defBody s_law) (defScope s_law) .none kV16 dc16 pm16 an16 cd16 ct16), sl16⟩) (c16 : PySem.W.codeIn K cd16 "law" = true) (k16 : PySem.W.keepIn K (.ref f16) = true)
    (y_isinstance : PySem.W.nsIn K mainGlobals "isinstance" = some none) (y_int : PySem.W.nsIn K mainGlobals "int" = some none) (y_bool : PySem.W.nsIn K mainGlobals "bool" = some none) (y_max : PySem.W.nsIn K mainGlobals "max" = some none) (y_min : PySem.W.nsIn K mainGlobals "min" = some none) (y_str : PySem.W.nsIn K mainGlobals "str" = some none) (y_dict : PySem.W.nsIn K mainGlobals "dict" = some none) (y_zip : PySem.W.nsIn K mainGlobals "zip" = some none) (y_list : PySem.W.nsIn K mainGlobals "list" = some none) (y_len : PySem.W.nsIn K mainGlobals "len" = some none) (y_tuple : PySem.W.nsIn K mainGlobals "tuple" = some none) (y_range : PySem.W.nsIn K mainGlobals "range" = some none) (y_repr : PySem.W.nsIn K mainGlobals "repr" = some none) :
    ∃ fd : FuncData, (∀ (s : Shared) (v : Value), BindsTo s fd ⟨[v], []⟩ [("_law_script", v)]) ∧ ∀ base : Heap, K.In base → base.Ns mainGlobals mg → FnG l.prog w K mg base 25 fa fd ["_law_script"] LAW := by
  have e := hfa.symm.trans (PySem.W.mg_of X GG a16)
  cases e
  have F1 := fun_mk (st := s_is_integer) l1 c1 k1
  have b1 := F1.binds (ps := ["thing"]) fun _ _ _ _ _ _ us hl => match us, hl with | [_], _ => rfl
  have m1 := PySem.W.mg_of X GG a1
  have F2 := fun_mk (st := s_computed) l2 c2 k2
  have b2 := F2.binds (ps := ["word", "one", "other"]) fun _ _ _ _ _ _ us hl => match us, hl with | [_, _, _], _ => rfl
  have m2 := PySem.W.mg_of X GG a2
  have F3 := fun_mk (st := s_lazy_value) l3 c3 k3
  have b3 := F3.binds (ps := ["known", "e"]) fun _ _ _ _ _ _ us hl => match us, hl with | [_, _], _ => rfl
  have m3 := PySem.W.mg_of X GG a3
  have F4 := fun_mk (st := s_strict_value) l4 c4 k4
  have b4 := F4.binds (ps := ["known", "e"]) fun _ _ _ _ _ _ us hl => match us, hl with | [_, _], _ => rfl
  have m4 := PySem.W.mg_of X GG a4
  have F5 := fun_mk (st := s_valued) l5 c5 k5
  have b5 := F5.binds (ps := ["known", "e"]) fun _ _ _ _ _ _ us hl => match us, hl with | [_, _], _ => rfl
  have m5 := PySem.W.mg_of X GG a5
  have F6 := fun_mk (st := s_value_in) l6 c6 k6
  have b6 := F6.binds (ps := ["names", "values", "e"]) fun _ _ _ _ _ _ us hl => match us, hl with | [_, _, _], _ => rfl
  have m6 := PySem.W.mg_of X GG a6
  have F7 := fun_mk (st := s__law_feed) l7 c7 k7
  have b7 := F7.binds (ps := ["_law_script"]) fun _ _ _ _ _ _ us hl => match us, hl with | [_], _ => rfl
  have m7 := PySem.W.mg_of X GG a7
  have F8 := fun_mk (st := s__law_draw) l8 c8 k8
  have b8 := F8.binds (ps := ["_law_feed_here", "_law_many"]) fun _ _ _ _ _ _ us hl => match us, hl with | [_, _], _ => rfl
  have m8 := PySem.W.mg_of X GG a8
  have F9 := fun_mk (st := s__law_sizes) l9 c9 k9
  have b9 := F9.binds (ps := []) fun _ _ _ _ _ _ us hl => match us, hl with | [], _ => rfl
  have m9 := PySem.W.mg_of X GG a9
  have F10 := fun_mk (st := s__law_names_in) l10 c10 k10
  have b10 := F10.binds (ps := ["_law_e"]) fun _ _ _ _ _ _ us hl => match us, hl with | [_], _ => rfl
  have m10 := PySem.W.mg_of X GG a10
  have F11 := fun_mk (st := s__law_leaf) l11 c11 k11
  have b11 := F11.binds (ps := ["_law_feed_here", "_law_names"]) fun _ _ _ _ _ _ us hl => match us, hl with | [_, _], _ => rfl
  have m11 := PySem.W.mg_of X GG a11
  have F12 := fun_mk (st := s__law_formula) l12 c12 k12
  have b12 := F12.binds (ps := ["_law_feed_here", "_law_names", "_law_deep"]) fun _ _ _ _ _ _ us hl => match us, hl with | [_, _, _], _ => rfl
  have m12 := PySem.W.mg_of X GG a12
  have F13 := fun_mk (st := s__law_sums_right) l13 c13 k13
  have b13 := F13.binds (ps := ["_law_names", "_law_values", "_law_e", "_law_f"]) fun _ _ _ _ _ _ us hl => match us, hl with | [_, _, _, _], _ => rfl
  have m13 := PySem.W.mg_of X GG a13
  have F14 := fun_mk (st := s__law_lazy_right) l14 c14 k14
  have b14 := F14.binds (ps := ["_law_names", "_law_values", "_law_e", "_law_f"]) fun _ _ _ _ _ _ us hl => match us, hl with | [_, _, _, _], _ => rfl
  have m14 := PySem.W.mg_of X GG a14
  have F15 := fun_mk (st := s__law_turned_right) l15 c15 k15
  have b15 := F15.binds (ps := ["_law_names", "_law_values", "_law_e", "_law_f"]) fun _ _ _ _ _ _ us hl => match us, hl with | [_, _, _, _], _ => rfl
  have m15 := PySem.W.mg_of X GG a15
  have F16 := fun_mk (st := s_law) l16 c16 k16
  have b16 := F16.binds (ps := ["_law_script"]) fun _ _ _ _ _ _ us hl => match us, hl with | [_], _ => rfl
  have m16 := PySem.W.mg_of X GG a16
  have z_isinstance := PySem.W.mg_none_of X GG y_isinstance
  have z_int := PySem.W.mg_none_of X GG y_int
  have z_bool := PySem.W.mg_none_of X GG y_bool
  have z_max := PySem.W.mg_none_of X GG y_max
  have z_min := PySem.W.mg_none_of X GG y_min
  have z_str := PySem.W.mg_none_of X GG y_str
  have z_dict := PySem.W.mg_none_of X GG y_dict
  have z_zip := PySem.W.mg_none_of X GG y_zip
  have z_list := PySem.W.mg_none_of X GG y_list
  have z_len := PySem.W.mg_none_of X GG y_len
  have z_tuple := PySem.W.mg_none_of X GG y_tuple
  have z_range := PySem.W.mg_none_of X GG y_range
  have z_repr := PySem.W.mg_none_of X GG y_repr
  refine ⟨PySem.W.fnOf "law" "law" (defArgs s_law) (defBody s_law) (defScope s_law) .none kV16 dc16 pm16 an16 cd16 ct16, fun s v => .of_eq rfl, fun base _ _ => ?_⟩
  have hI := fun k => (ok_is_integer (P := l.prog) (w := w) (base := base) (k := 0) F1 b1 m1 z_isinstance z_int z_bool).mono (k := k + 1) (by omega)
  have hC := fun k => (ok_computed (P := l.prog) (w := w) (base := base) (k := 0) F2 b2 m2 z_int z_max z_min).mono (k := k + 1) (by omega)
  have hV : ∀ n, Has l.prog w K mg base (n + 2) "valued" ["known", "e"] (G n).1 ∧ Has l.prog w K mg base (n + 2) "lazy_value" ["known", "e"] (G n).2.1 ∧ Has l.prog w K mg base (n + 2) "strict_value" ["known", "e"] (G n).2.2 := by
    intro n
    induction n with
    | zero => exact ⟨Has.none b5 F5.kp m5, Has.none b3 F3.kp m3, Has.none b4 F4.kp m4⟩
    | succ n ih =>
      obtain ⟨i1, i2, i3⟩ := ih
      exact ⟨ok_valued F5 b5 m5 (hI (n + 1)) i2 i3 z_isinstance z_str, ok_lazy_value F3 b3 m3 i1 z_int, ok_strict_value F4 b4 m4 i1 (hC (n + 1)) z_int⟩
  have hVI := ok_value_in F6 b6 m6 (hV 20).1 z_dict z_zip
  have hFd := (ok__law_feed (P := l.prog) (w := w) (base := base) (k := 0) F7 b7 m7 z_list)
  have hD := fun k => (ok__law_draw (P := l.prog) (w := w) (base := base) (k := 0) F8 b8 m8 z_int z_len).mono (k := k + 1) (by omega)
  have hS := fun k => (ok__law_sizes (P := l.prog) (w := w) (base := base) (k := 0) F9 b9 m9).mono (k := k + 1) (by omega)
  have hN : ∀ n, Has l.prog w K mg base (n + 1) "_law_names_in" ["_law_e"] (gN n) := by
    intro n
    induction n with
    | zero => exact Has.none b10 F10.kp m10
    | succ n ih => exact ok__law_names_in F10 b10 m10 ih z_isinstance z_tuple z_str
  have hL := fun k => (ok__law_leaf (P := l.prog) (w := w) (base := base) F11 b11 m11 (hD 0) z_len).mono (k := k + 2) (by omega)
  have hF : ∀ n, Has l.prog w K mg base (n + 3) "_law_formula" ["_law_feed_here", "_law_names", "_law_deep"] (gF n) := by
    intro n
    induction n with
    | zero => exact Has.none b12 F12.kp m12
    | succ n ih => exact ok__law_formula F12 b12 m12 (hD (n + 2)) (hL (n + 1)) (hS (n + 2)) ih z_tuple z_range
  have hSR := ok__law_sums_right F13 b13 m13 hVI z_min z_max z_int z_repr
  have hLR := ok__law_lazy_right F14 b14 m14 hVI z_int z_repr
  have hTR := ok__law_turned_right F15 b15 m15 hVI ((hN 5).mono (by omega)) z_range z_len z_tuple z_repr
  exact fn_law F16 (hFd.mono (by omega)) (hD 23) ((hF 5).mono (by omega)) (hVI.mono (by omega)) hSR hLR hTR z_range z_tuple z_list z_len z_int
end W
open PySem PySem.W PyProof.Rows
set_option maxRecDepth 100000 in
set_option maxHeartbeats 0 in
theorem PySem.Challenge.cw_blameplaces_k08_whole_values_holds : PySem.Challenge.rw_blameplaces_k08_whole_values.Holds := by
  w_on; o_law; k_head; (case hw => w_witness2)
  k_fill
  refine DL.law_walk (l := PySem.Challenge.rw_blameplaces_k08_whole_values) (k := 25) (x := "_law_script") (m := fun _ => W.LAW) rfl (by decide) rfl ⟨rfl, by decide, by decide⟩ (fun w h Y => PySem.W.kIn_of Y) ?F (fun w ns hl => W.LAW_ok ns hl)
  case F =>
    intro w mg fa h KX G hmg
    refine' W.all_mk KX G hmg ?a1 ?l1 ?c1 ?k1 ?a2 ?l2 ?c2 ?k2 ?a3 ?l3 ?c3 ?k3 ?a4 ?l4 ?c4 ?k4 ?a5 ?l5 ?c5 ?k5 ?a6 ?l6 ?c6 ?k6 ?a7 ?l7 ?c7 ?k7 ?a8 ?l8 ?c8 ?k8 ?a9 ?l9 ?c9 ?k9 ?a10 ?l10 ?c10 ?k10 ?a11 ?l11 ?c11 ?k11 ?a12 ?l12 ?c12 ?k12 ?a13 ?l13 ?c13 ?k13 ?a14 ?l14 ?c14 ?k14 ?a15 ?l15 ?c15 ?k15 ?a16 ?l16 ?c16 ?k16 ?y_isinstance ?y_int ?y_bool ?y_max ?y_min ?y_str ?y_dict ?y_zip ?y_list ?y_len ?y_tuple ?y_range ?y_repr
    (case a1 => k_is); (case l1 => k_is); (case c1 => k_is); (case k1 => k_is)
    (case a2 => k_is); (case l2 => k_is); (case c2 => k_is); (case k2 => k_is)
    (case a3 => k_is); (case l3 => k_is); (case c3 => k_is); (case k3 => k_is)
    (case a4 => k_is); (case l4 => k_is); (case c4 => k_is); (case k4 => k_is)
    (case a5 => k_is); (case l5 => k_is); (case c5 => k_is); (case k5 => k_is)
    (case a6 => k_is); (case l6 => k_is); (case c6 => k_is); (case k6 => k_is)
    (case a7 => k_is); (case l7 => k_is); (case c7 => k_is); (case k7 => k_is)
    (case a8 => k_is); (case l8 => k_is); (case c8 => k_is); (case k8 => k_is)
    (case a9 => k_is); (case l9 => k_is); (case c9 => k_is); (case k9 => k_is)
    (case a10 => k_is); (case l10 => k_is); (case c10 => k_is); (case k10 => k_is)
    (case a11 => k_is); (case l11 => k_is); (case c11 => k_is); (case k11 => k_is)
    (case a12 => k_is); (case l12 => k_is); (case c12 => k_is); (case k12 => k_is)
    (case a13 => k_is); (case l13 => k_is); (case c13 => k_is); (case k13 => k_is)
    (case a14 => k_is); (case l14 => k_is); (case c14 => k_is); (case k14 => k_is)
    (case a15 => k_is); (case l15 => k_is); (case c15 => k_is); (case k15 => k_is)
    (case a16 => k_is); (case l16 => k_is); (case c16 => k_is); (case k16 => k_is)
    (case y_isinstance => k_is)
    (case y_int => k_is)
    (case y_bool => k_is)
    (case y_max => k_is)
    (case y_min => k_is)
    (case y_str => k_is)
    (case y_dict => k_is)
    (case y_zip => k_is)
    (case y_list => k_is)
    (case y_len => k_is)
    (case y_tuple => k_is)
    (case y_range => k_is)
    (case y_repr => k_is)
