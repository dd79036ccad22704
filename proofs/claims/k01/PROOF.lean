import PyProof.Rows.All
import Wide.All
import OpenK.AllK
import Wide.FinOn
import HandS.ForMost
import HandS.ForExc
import HandS.Star
import HandS.IsInst
import HandS.Conv
import HandS.Zip
import HandS.CallSlots
import HandS.HotCalls
import PyProof.ReprRoads
import HandS.TupAny
import PyProof.Rows.IntBool
import HandS.TupMul
import PyProof.DictUpdate
import HandS.Style
import HandS.Iter
import KE.KUnpackStar
import KE.KRevSl
import PyProof.RulesMatch
import KE.KDictZip
import HandS.ExcValue
import HandS.ExcOwn
import HandS.CallLocal
import HandS.More
import HandS.Text
import HandS.Comp
import PyProof.CallStr
import PyProof.SliceList
import PySem.Challenge.RW_blameplaces_k01_kinds_and_fits
import PyProof.Rows.StrBin
import PyProof.ReprLen
import PyProof.StrLawsRepr
import PyProof.Rows.ReprOcc
import PyProof.Rows.StrCase
import PyProof.Rows.StrFit
set_option Elab.async false
set_option linter.all false
set_option maxRecDepth 100000
set_option maxHeartbeats 4000000
/-! DCore: frozen data D, values U, the store of cells, how they stand in an abstract heap -/
namespace DL
open PySem PySem.Spec PyProof.Rows L2

abbrev Fg := PySem.W.Frag

/-- data that nobody changes any more; fl: a list from outside; ref: an object of the written part; fn: a def of the module -/
inductive D where
  | non
  | bl (b : Bool)
  | int (i : Int)
  | str (x : Str)
  | tup (ds : List D)
  | lst (ds : List D)
  | dct (kvs : List (Key × D))
  | fl (ds : List D)
  | ref (a : Addr)
  | fn (x : Str)
  deriving Inhabited
/-- a value: data, or a cell of the store -/
inductive U where
  | d (x : D)
  | loc (n : Nat)
  deriving Inhabited
/-- what stands in a cell -/
inductive Cell where
  | lst (ds : List D)
  | dct (kvs : List (Key × D))
  | dead
  deriving Inhabited
abbrev Store := List Cell
/-- where the cells stand; addresses of lists that are being made (read by nobody) -/
structure Ad where
  cs : List (Option Addr)
  rs : List Addr

/-- a list of the written part -/
def KL (K : Fg) (a : Addr) (xs : List V) : Prop :=
  ∃ (o : Obj) (its : Array Value) (n : Nat), K.lookup a = some o ∧ o.cls = .type "list" ∧ o.dict = none ∧ o.data = .seq its n ∧ its.size ≤ sizeLine ∧ Vals xs its.toList
def FzL (K : Fg) (ok : Addr → Prop) (H : Hp) (a : Addr) (xs : List V) : Prop := (Rd H a (.lst xs) ∧ ok a) ∨ KL K a xs
theorem FzL.sq {K : Fg} {ok : Addr → Prop} {H : Hp} {a : Addr} {xs : List V} (h : FzL K ok H a xs) : SqL K H a xs := h.elim (fun z => .inl z.1) .inr

mutual
/-- v reads as d in H; a mutable object within stands where ok says -/
inductive Rep (K : Fg) (ok : Addr → Prop) (H : Hp) : V → D → Prop
  | non : Rep K ok H .non .non
  | bl (b : Bool) : Rep K ok H (.bl b) (.bl b)
  | int (i : Int) : Rep K ok H (.int i) (.int i)
  | str (x : Str) : Rep K ok H (.str x) (.str x)
  | tup {a : Addr} {xs : List V} {ds : List D} : SqT K H a xs → RepL K ok H xs ds → Rep K ok H (.ref a) (.tup ds)
  | lst {a : Addr} {xs : List V} {ds : List D} : Rd H a (.lst xs) → ok a → RepL K ok H xs ds → Rep K ok H (.ref a) (.lst ds)
  | dct {a : Addr} {ks : List (Key × V)} {es : List (Key × D)} : Rd H a (.dK ks) → ok a → RepK K ok H ks es → Rep K ok H (.ref a) (.dct es)
  | fl {a : Addr} {xs : List V} {ds : List D} : FzL K ok H a xs → RepL K ok H xs ds → Rep K ok H (.ref a) (.fl ds)
  | ref {a : Addr} : Rep K ok H (.ref a) (.ref a)
  | fn {a : Addr} {x : Str} : PySem.W.nsIn K mainGlobals x = some (some (.ref a)) → Rep K ok H (.ref a) (.fn x)
inductive RepL (K : Fg) (ok : Addr → Prop) (H : Hp) : List V → List D → Prop
  | nil : RepL K ok H [] []
  | cons {v : V} {d : D} {vs : List V} {ds : List D} : Rep K ok H v d → RepL K ok H vs ds → RepL K ok H (v :: vs) (d :: ds)
inductive RepK (K : Fg) (ok : Addr → Prop) (H : Hp) : List (Key × V) → List (Key × D) → Prop
  | nil : RepK K ok H [] []
  | cons {k : Key} {v : V} {d : D} {vs : List (Key × V)} {ds : List (Key × D)} : Rep K ok H v d → RepK K ok H vs ds → RepK K ok H ((k, v) :: vs) ((k, d) :: ds)
end

section
variable {K : Fg} {ok ok' : Addr → Prop} {H H' : Hp}
/-- how readings go over to another heap -/
structure Mv (K : Fg) (ok ok' : Addr → Prop) (H H' : Hp) : Prop where
  tup : ∀ a xs, Rd H a (.tup xs) → Rd H' a (.tup xs)
  obj : ∀ a u, Rd H a u → ok a → Rd H' a u ∧ ok' a
mutual
theorem Rep.mv (m : Mv K ok ok' H H') : ∀ {v : V} {d : D}, Rep K ok H v d → Rep K ok' H' v d
  | _, _, .non => .non
  | _, _, .bl b => .bl b
  | _, _, .int i => .int i
  | _, _, .str x => .str x
  | _, _, .tup h r => .tup (h.elim (fun z => .inl (m.tup _ _ z)) .inr) (RepL.mv m r)
  | _, _, .lst h o r => .lst (m.obj _ _ h o).1 (m.obj _ _ h o).2 (RepL.mv m r)
  | _, _, .fl h r => .fl (h.elim (fun z => .inl (m.obj _ _ z.1 z.2)) .inr) (RepL.mv m r)
  | _, _, .dct h o r => .dct (m.obj _ _ h o).1 (m.obj _ _ h o).2 (RepK.mv m r)
  | _, _, .ref => .ref
  | _, _, .fn h => .fn h
theorem RepL.mv (m : Mv K ok ok' H H') : ∀ {vs : List V} {ds : List D}, RepL K ok H vs ds → RepL K ok' H' vs ds
  | _, _, .nil => .nil
  | _, _, .cons h t => .cons (Rep.mv m h) (RepL.mv m t)
theorem RepK.mv (m : Mv K ok ok' H H') : ∀ {vs : List (Key × V)} {ds : List (Key × D)}, RepK K ok H vs ds → RepK K ok' H' vs ds
  | _, _, .nil => .nil
  | _, _, .cons h t => .cons (Rep.mv m h) (RepK.mv m t)
end
theorem RepL.length : ∀ {vs : List V} {ds : List D}, RepL K ok H vs ds → vs.length = ds.length
  | _, _, .nil => rfl
  | _, _, .cons _ t => congrArg (· + 1) t.length
theorem RepL.get : ∀ {vs : List V} {ds : List D} {i : Nat} {d : D}, RepL K ok H vs ds → ds[i]? = some d → ∃ v, vs[i]? = some v ∧ Rep K ok H v d
  | _, _, _, _, .nil, e => by simp at e
  | _, _, 0, _, .cons h _, e => by simp at e; subst e; exact ⟨_, rfl, h⟩
  | _, _, i + 1, _, .cons _ t, e => by
    obtain ⟨v, h1, h2⟩ := t.get (i := i) (by simpa using e)
    exact ⟨v, by simpa using h1, h2⟩
theorem RepL.append : ∀ {vs ws : List V} {ds es : List D}, RepL K ok H vs ds → RepL K ok H ws es → RepL K ok H (vs ++ ws) (ds ++ es)
  | _, _, _, _, .nil, s => s
  | _, _, _, _, .cons h t, s => .cons h (t.append s)
theorem RepL.take : ∀ {vs : List V} {ds : List D} (n : Nat), RepL K ok H vs ds → RepL K ok H (vs.take n) (ds.take n)
  | _, _, 0, _ => by simp only [List.take_zero]; exact .nil
  | _, _, _ + 1, .nil => .nil
  | _, _, n + 1, .cons h t => .cons h (t.take n)
theorem RepL.drop : ∀ {vs : List V} {ds : List D} (n : Nat), RepL K ok H vs ds → RepL K ok H (vs.drop n) (ds.drop n)
  | _, _, 0, h => h
  | _, _, _ + 1, .nil => .nil
  | _, _, n + 1, .cons _ t => t.drop n
theorem RepL.reverse : ∀ {vs : List V} {ds : List D}, RepL K ok H vs ds → RepL K ok H vs.reverse ds.reverse
  | _, _, .nil => .nil
  | _, _, .cons h t => by rw [List.reverse_cons, List.reverse_cons]; exact t.reverse.append (.cons h .nil)
theorem RepL.ints : ∀ (ns : List Int), RepL K ok H (ns.map V.int) (ns.map D.int)
  | [] => .nil
  | n :: r => .cons (.int n) (RepL.ints r)
end

/-- an address that no cell has -/
def free (ρ : Ad) (a : Addr) : Prop := some a ∉ ρ.cs ∧ a ∉ ρ.rs
def CellOk (K : Fg) (ρ : Ad) (H : Hp) (a : Addr) : Cell → Prop
  | .lst ds => ∃ xs, H a = some (.lst xs) ∧ RepL K (free ρ) H xs ds
  | .dct es => ∃ ks, H a = some (.dK ks) ∧ RepK K (free ρ) H ks es
  | .dead => False
/-- a list or a dict stands there -/
def Made (H : Hp) (a : Addr) : Prop := (∃ xs, H a = some (.lst xs)) ∨ ∃ ks, H a = some (.dK ks)
/-- the store stands in the heap, cell n at the address ρ n -/
structure Ok (K : Fg) (ρ : Ad) (S : Store) (H : Hp) : Prop where
  len : ρ.cs.length = S.length
  nd : ∀ (i j : Nat) (a : Addr), ρ.cs[i]? = some (some a) → ρ.cs[j]? = some (some a) → i = j
  live : ∀ (i : Nat) (a : Addr), ρ.cs[i]? = some (some a) → ∃ c, S[i]? = some c ∧ CellOk K ρ H a c
  dead : ∀ (i : Nat), ρ.cs[i]? = some none → S[i]? = some .dead
  rsv : ∀ a ∈ ρ.rs, some a ∉ ρ.cs ∧ Made H a
def RepU (K : Fg) (ρ : Ad) (H : Hp) (v : V) : U → Prop
  | .d x => Rep K (free ρ) H v x
  | .loc n => ∃ a, v = .ref a ∧ ρ.cs[n]? = some (some a)
inductive RepUs (K : Fg) (ρ : Ad) (H : Hp) : List V → List U → Prop
  | nil : RepUs K ρ H [] []
  | cons {v : V} {u : U} {vs : List V} {us : List U} : RepU K ρ H v u → RepUs K ρ H vs us → RepUs K ρ H (v :: vs) (u :: us)
abbrev DEnv := List (Option U)
structure EnvOk (K : Fg) (ρ : Ad) (H : Hp) (σ : L2.St) (δ : DEnv) : Prop where
  len : δ.length = σ.length
  at_ : ∀ (i : Nat) (u : U), δ[i]? = some (some u) → ∃ v, σ[i]? = some (some v) ∧ RepU K ρ H v u
/-- from (ρ, H) on: cells may come, nothing else changes -/
structure Nxt (ρ : Ad) (H : Hp) (ρ' : Ad) (H' : Hp) : Prop where
  pre : ρ.cs <+: ρ'.cs
  rs : ρ'.rs = ρ.rs
  keep : ∀ a o, H a = some o → some a ∉ ρ.cs → H' a = some o
  new : ∀ a, some a ∈ ρ'.cs → some a ∈ ρ.cs ∨ H a = none

section
variable {K : Fg} {ρ ρ' ρ1 ρ2 : Ad} {H H' H1 H2 : Hp} {S S' : Store} {σ : L2.St} {δ : DEnv}
theorem Nxt.refl : Nxt ρ H ρ H := ⟨List.prefix_rfl, rfl, fun _ _ h _ => h, fun _ h => .inl h⟩
theorem Nxt.trans (x : Nxt ρ H ρ1 H1) (y : Nxt ρ1 H1 ρ2 H2) : Nxt ρ H ρ2 H2 where
  pre := x.pre.trans y.pre
  rs := y.rs.trans x.rs
  keep := fun a o h f => y.keep a o (x.keep a o h f) fun z => (x.new a z).elim f fun q => by rw [h] at q; cases q
  new := fun a z => by
    rcases y.new a z with q | q
    · exact x.new a q
    · by_cases f : some a ∈ ρ.cs
      · exact .inl f
      · cases e : H a with
        | none => exact .inr rfl
        | some o => rw [x.keep a o e f] at q; cases q
theorem mem_ix {l : List (Option Addr)} {a : Addr} (h : some a ∈ l) : ∃ i : Nat, l[i]? = some (some a) := List.getElem?_of_mem h
theorem Ok.cellKind (k : Ok K ρ S H) {a : Addr} (z : some a ∈ ρ.cs) : Made H a := by
  obtain ⟨i, e⟩ := mem_ix z
  obtain ⟨c, _, q⟩ := k.live i a e
  cases c with
  | lst ds => obtain ⟨ys, q, _⟩ := q; exact .inl ⟨ys, q⟩
  | dct es => obtain ⟨ys, q, _⟩ := q; exact .inr ⟨ys, q⟩
  | dead => exact q.elim
theorem Ok.tupFree (k : Ok K ρ S H) {a : Addr} {xs : List V} (h : Rd H a (.tup xs)) : free ρ a := by
  refine ⟨fun z => ?_, fun z => ?_⟩
  · rcases k.cellKind z with ⟨ys, q⟩ | ⟨ys, q⟩ <;> rcases h with h | ⟨o, h⟩ <;> (rw [h] at q; cases q)
  · rcases (k.rsv a z).2 with ⟨ys, q⟩ | ⟨ys, q⟩ <;> rcases h with h | ⟨o, h⟩ <;> (rw [h] at q; cases q)
theorem Made.keep {a : Addr} (h : ∀ o, H a = some o → H' a = some o) (m : Made H a) : Made H' a := m.elim (fun ⟨xs, q⟩ => .inl ⟨xs, h _ q⟩) fun ⟨xs, q⟩ => .inr ⟨xs, h _ q⟩
theorem Made.has {a : Addr} (m : Made H a) : H a ≠ Option.none := by
  rcases m with ⟨xs, q⟩ | ⟨xs, q⟩ <;> (rw [q]; exact fun z => by cases z)
theorem rd_some {a : Addr} {u : HO} (h : Rd H a u) : H a ≠ none := by
  rcases h with h | ⟨o, h⟩ <;> (rw [h]; exact fun z => by cases z)
theorem Nxt.rd (n : Nxt ρ H ρ' H') {a : Addr} {u : HO} (h : Rd H a u) (f : free ρ a) : Rd H' a u ∧ free ρ' a := by
  refine ⟨?_, fun z => (n.new a z).elim f.1 (rd_some h), by rw [n.rs]; exact f.2⟩
  rcases h with h | ⟨o, h⟩
  · exact .inl (n.keep _ _ h f.1)
  · exact .inr ⟨o, n.keep _ _ h f.1⟩
theorem Nxt.mv (n : Nxt ρ H ρ' H') (k : Ok K ρ S H) : Mv K (free ρ) (free ρ') H H' :=
  ⟨fun _ _ h => (n.rd h (k.tupFree h)).1, fun _ _ h f => n.rd h f⟩
theorem RepU.nxt (n : Nxt ρ H ρ' H') (k : Ok K ρ S H) {v : V} : ∀ {u : U}, RepU K ρ H v u → RepU K ρ' H' v u
  | .d _, h => Rep.mv (n.mv k) h
  | .loc i, ⟨a, e, h⟩ => ⟨a, e, by
    obtain ⟨t, q⟩ := n.pre
    have hi : i < ρ.cs.length := (List.getElem?_eq_some_iff.mp h).1
    rw [← q, List.getElem?_append_left hi]; exact h⟩
theorem RepUs.nxt (n : Nxt ρ H ρ' H') (k : Ok K ρ S H) : ∀ {vs : List V} {us : List U}, RepUs K ρ H vs us → RepUs K ρ' H' vs us
  | _, _, .nil => .nil
  | _, _, .cons h t => .cons (h.nxt n k) (RepUs.nxt n k t)
theorem EnvOk.nxt (n : Nxt ρ H ρ' H') (k : Ok K ρ S H) (e : EnvOk K ρ H σ δ) : EnvOk K ρ' H' σ δ :=
  ⟨e.len, fun i u h => let ⟨v, a, b⟩ := e.at_ i u h; ⟨v, a, b.nxt n k⟩⟩
theorem RepUs.length : ∀ {vs : List V} {us : List U}, RepUs K ρ H vs us → vs.length = us.length
  | _, _, .nil => rfl
  | _, _, .cons _ t => congrArg (· + 1) t.length
theorem EnvOk.set (e : EnvOk K ρ H σ δ) {i : Nat} {v : V} {u : U} (r : RepU K ρ H v u) : EnvOk K ρ H (σ.set i (some v)) (δ.set i (some u)) := by
  refine ⟨by rw [List.length_set, List.length_set]; exact e.len, fun j w h => ?_⟩
  by_cases hj : i = j
  · subst hj
    have hi : i < δ.length := by
      have := (List.getElem?_eq_some_iff.mp h).1
      simpa using this
    rw [List.getElem?_set_self hi] at h
    have h' : u = w := by simpa using h
    subst h'
    exact ⟨v, List.getElem?_set_self (by rw [← e.len]; exact hi), r⟩
  · rw [List.getElem?_set_ne hj] at h
    obtain ⟨w', a, b⟩ := e.at_ j w h
    exact ⟨w', by rw [List.getElem?_set_ne hj]; exact a, b⟩

/-- a new object that is no cell -/
theorem Nxt.laid {a : Addr} {o : HO} (h : H a = none) : Nxt ρ H ρ (upd H a o) :=
  ⟨List.prefix_rfl, rfl, fun b q e _ => by rw [upd_ne (ne_of_none e h)]; exact e, fun _ z => .inl z⟩
theorem Ok.notNew (k : Ok K ρ S H) {a : Addr} (h : H a = none) : free ρ a := by
  refine ⟨fun z => ?_, fun z => ?_⟩
  · rcases k.cellKind z with ⟨ys, q⟩ | ⟨ys, q⟩ <;> (rw [h] at q; cases q)
  · exact (k.rsv a z).2.has h
theorem CellOk.mv {a : Addr} (m : Mv K (free ρ) (free ρ') H H') (ha : H' a = H a) : ∀ {c : Cell}, CellOk K ρ H a c → CellOk K ρ' H' a c
  | .lst _, ⟨xs, h, r⟩ => ⟨xs, ha.trans h, r.mv m⟩
  | .dct _, ⟨xs, h, r⟩ => ⟨xs, ha.trans h, r.mv m⟩
  | .dead, h => h
/-- the heap has grown, no cell was touched -/
theorem Ok.grow (k : Ok K ρ S H) (n : Nxt ρ H ρ H') (hc : ∀ a, some a ∈ ρ.cs → H' a = H a) : Ok K ρ S H' :=
  ⟨k.len, k.nd, fun i a e => let ⟨c, h, q⟩ := k.live i a e; ⟨c, h, q.mv (n.mv k) (hc a (List.mem_of_getElem? e))⟩, k.dead,
    fun a z => let ⟨f, m⟩ := k.rsv a z; ⟨f, m.keep fun _ h => n.keep _ _ h f⟩⟩
theorem Ok.laid (k : Ok K ρ S H) {a : Addr} {o : HO} (h : H a = none) : Ok K ρ S (upd H a o) :=
  k.grow (Nxt.laid h) fun b z => upd_ne fun e => (k.notNew h).1 (e ▸ z)
/-- a new cell -/
def Ad.add (ρ : Ad) (a : Addr) : Ad := ⟨ρ.cs ++ [some a], ρ.rs⟩
theorem Nxt.cell {a : Addr} {o : HO} (h : H a = none) : Nxt ρ H (ρ.add a) (upd H a o) :=
  ⟨List.prefix_append _ _, rfl, fun b q e _ => by rw [upd_ne (ne_of_none e h)]; exact e, fun b z => by
    rcases List.mem_append.mp z with z | z
    · exact .inl z
    · have : b = a := by simpa using z
      subst this; exact .inr h⟩
theorem Ok.cell (k : Ok K ρ S H) {a : Addr} {o : HO} {c : Cell} (h : H a = none) (hc : CellOk K (ρ.add a) (upd H a o) a c) : Ok K (ρ.add a) (S ++ [c]) (upd H a o) := by
  have nf := k.notNew h
  have old : ∀ {i : Nat} {x : Option Addr}, (ρ.cs ++ [some a])[i]? = some x → (i < ρ.cs.length ∧ ρ.cs[i]? = some x) ∨ (i = ρ.cs.length ∧ x = some a) := fun {i x} e => by
    by_cases hi : i < ρ.cs.length
    · rw [List.getElem?_append_left hi] at e; exact .inl ⟨hi, e⟩
    · rw [List.getElem?_append_right (by omega)] at e
      have : i - ρ.cs.length = 0 := by
        by_cases q : i - ρ.cs.length = 0
        · exact q
        · rw [List.getElem?_eq_none (by simp; omega)] at e; cases e
      rw [this] at e
      exact .inr ⟨by omega, by simpa using e.symm⟩
  refine ⟨by simp [k.len, Ad.add], fun i j b e1 e2 => ?_, fun i b e => ?_, fun i e => ?_, fun b z => ?_⟩
  · rcases old e1 with ⟨_, q1⟩ | ⟨i1, q1⟩ <;> rcases old e2 with ⟨_, q2⟩ | ⟨i2, q2⟩
    · exact k.nd i j b q1 q2
    · cases q2; exact absurd (List.mem_of_getElem? q1) nf.1
    · cases q1; exact absurd (List.mem_of_getElem? q2) nf.1
    · omega
  · rcases old e with ⟨hi, q⟩ | ⟨hi, q⟩
    · obtain ⟨c', h1, h2⟩ := k.live i b q
      refine ⟨c', by rw [List.getElem?_append_left (by rw [← k.len]; exact hi)]; exact h1, h2.mv ((Nxt.cell h).mv k) (upd_ne fun z => ?_)⟩
      subst z; exact nf.1 (List.mem_of_getElem? q)
    · cases q
      subst hi
      exact ⟨c, by rw [k.len, List.getElem?_append_right (Nat.le_refl _)]; simp, hc⟩
  · rcases old e with ⟨hi, q⟩ | ⟨_, q⟩
    · rw [List.getElem?_append_left (by rw [← k.len]; exact hi)]; exact k.dead i q
    · cases q
  · obtain ⟨f, mk⟩ := k.rsv b z
    have ne : b ≠ a := fun y => mk.has (by rw [y]; exact h)
    refine ⟨fun y => ?_, mk.keep fun _ q => by rw [upd_ne ne]; exact q⟩
    rcases List.mem_append.mp y with y | y
    · exact f y
    · exact ne (by simpa using y)
/-- a cell's content is changed -/
theorem Nxt.put {a : Addr} {o : HO} (h : some a ∈ ρ.cs) : Nxt ρ H ρ (upd H a o) :=
  ⟨List.prefix_rfl, rfl, fun b q e f => by rw [upd_ne (fun z => f (by rw [z]; exact h))]; exact e, fun _ z => .inl z⟩
theorem Ok.put (k : Ok K ρ S H) {n : Nat} {a : Addr} {o : HO} {c : Cell} (h : ρ.cs[n]? = some (some a)) (hc : CellOk K ρ (upd H a o) a c) : Ok K ρ (S.set n c) (upd H a o) := by
  have hn : n < S.length := by rw [← k.len]; exact (List.getElem?_eq_some_iff.mp h).1
  refine ⟨by rw [List.length_set]; exact k.len, k.nd, fun i b e => ?_, fun i e => ?_, fun b z => ?_⟩
  · by_cases hi : n = i
    · subst hi
      rw [h] at e
      have e' : a = b := by simpa using e
      subst e'
      exact ⟨c, List.getElem?_set_self hn, hc⟩
    · obtain ⟨c', h1, h2⟩ := k.live i b e
      refine ⟨c', by rw [List.getElem?_set_ne hi]; exact h1, h2.mv ((Nxt.put (List.mem_of_getElem? h)).mv k) (upd_ne fun z => ?_)⟩
      subst z; exact hi (k.nd n i b h e)
  · by_cases hi : n = i
    · subst hi; rw [h] at e; cases e
    · rw [List.getElem?_set_ne hi]; exact k.dead i e
  · obtain ⟨f, mk⟩ := k.rsv b z
    exact ⟨f, mk.keep fun _ q => by rw [upd_ne (fun y => f (by rw [y]; exact List.mem_of_getElem? h))]; exact q⟩

/-! ### cells from b on are given up: what they hold is data from now on -/
def peek (S : Store) : U → Option D
  | .d x => some x
  | .loc n => match S[n]? with
    | some (.lst ds) => some (.lst ds)
    | some (.dct es) => some (.dct es)
    | _ => none
def trimU (b : Nat) (S : Store) : U → Option U
  | .d x => some (.d x)
  | .loc n => if n < b then some (.loc n) else (peek S (.loc n)).map U.d
def trimE (b : Nat) (S : Store) (δ : DEnv) : DEnv := δ.map fun o => o.bind (trimU b S)
def Ad.cut (ρ : Ad) (b : Nat) : Ad := ⟨ρ.cs.take b, ρ.rs⟩
theorem free_cut {b : Nat} {a : Addr} (h : free ρ a) : free (ρ.cut b) a := ⟨fun z => h.1 (List.mem_of_mem_take z), h.2⟩
theorem Mv.cut {b : Nat} : Mv K (free ρ) (free (ρ.cut b)) H H := ⟨fun _ _ h => h, fun _ _ h f => ⟨h, free_cut f⟩⟩
theorem cut_ix {b i : Nat} {x : Option Addr} (h : (ρ.cut b).cs[i]? = some x) : i < b ∧ ρ.cs[i]? = some x := by
  have h' : (ρ.cs.take b)[i]? = some x := h
  rw [List.getElem?_take] at h'
  split at h'
  · exact ⟨by assumption, h'⟩
  · cases h'
theorem Ok.cut (k : Ok K ρ S H) (b : Nat) : Ok K (ρ.cut b) (S.take b) H where
  len := by show (ρ.cs.take b).length = _; rw [List.length_take, List.length_take, k.len]
  nd := fun i j a e1 e2 => k.nd i j a (cut_ix e1).2 (cut_ix e2).2
  live := fun i a e => by
    obtain ⟨hi, e⟩ := cut_ix e
    obtain ⟨c, h, q⟩ := k.live i a e
    exact ⟨c, by rw [List.getElem?_take_of_lt hi]; exact h, q.mv Mv.cut rfl⟩
  dead := fun i e => by
    obtain ⟨hi, e⟩ := cut_ix e
    rw [List.getElem?_take_of_lt hi]; exact k.dead i e
  rsv := fun a z => let ⟨f, h⟩ := k.rsv a z; ⟨fun y => f (List.mem_of_mem_take y), h⟩
/-- a cell read as data, where it is not a cell any more -/
theorem Ok.frozen (k : Ok K ρ S H) {b n : Nat} {a : Addr} {d : D} (hb : b ≤ n) (h : ρ.cs[n]? = some (some a)) (p : peek S (.loc n) = some d) : Rep K (free (ρ.cut b)) H (.ref a) d := by
  obtain ⟨c, e, q⟩ := k.live n a h
  have fr : free (ρ.cut b) a := by
    refine ⟨fun z => ?_, fun z => (k.rsv a z).1 (List.mem_of_getElem? h)⟩
    obtain ⟨i, e'⟩ := mem_ix z
    obtain ⟨hi, e'⟩ := cut_ix e'
    have := k.nd i n a e' h
    omega
  have p' : (match S[n]? with | some (.lst ds) => some (D.lst ds) | some (.dct es) => some (.dct es) | _ => none) = some d := p
  rw [e] at p'
  have p := p'
  cases c with
  | lst ds =>
    obtain ⟨xs, q, r⟩ := q
    cases p
    exact .lst (.inl q) fr (r.mv Mv.cut)
  | dct es =>
    obtain ⟨xs, q, r⟩ := q
    cases p
    exact .dct (.inl q) fr (r.mv Mv.cut)
  | dead => exact q.elim
theorem RepU.trim (k : Ok K ρ S H) {b : Nat} {v : V} {u u' : U} (h : RepU K ρ H v u) (t : trimU b S u = some u') : RepU K (ρ.cut b) H v u' := by
  cases u with
  | d x => cases t; exact Rep.mv Mv.cut h
  | loc n =>
    obtain ⟨a, rfl, h⟩ := h
    have t' : (if n < b then some (U.loc n) else (peek S (.loc n)).map U.d) = some u' := t
    have t := t'
    split at t
    · cases t
      exact ⟨a, rfl, by show (ρ.cs.take b)[n]? = _; rw [List.getElem?_take_of_lt (by assumption)]; exact h⟩
    · obtain ⟨d, p, rfl⟩ := Option.map_eq_some_iff.mp t
      exact k.frozen (by omega) h p
theorem EnvOk.trim (k : Ok K ρ S H) (b : Nat) (e : EnvOk K ρ H σ δ) : EnvOk K (ρ.cut b) H σ (trimE b S δ) := by
  refine ⟨by unfold trimE; rw [List.length_map]; exact e.len, fun i u h => ?_⟩
  unfold trimE at h
  rw [List.getElem?_map] at h
  obtain ⟨o, h1, h2⟩ := Option.map_eq_some_iff.mp h
  obtain ⟨w, rfl, h3⟩ := Option.bind_eq_some_iff.mp h2
  obtain ⟨v, a, r⟩ := e.at_ i w h1
  exact ⟨v, a, r.trim k h3⟩
theorem Nxt.cut (n : Nxt ρ H ρ' H') {b : Nat} (hb : ρ.cs.length ≤ b) : Nxt ρ H (ρ'.cut b) H' :=
  ⟨List.prefix_take_iff.mpr ⟨n.pre, hb⟩, n.rs, n.keep, fun a z => n.new a (List.mem_of_mem_take z)⟩
end
end DL

set_option Elab.async false
set_option linter.all false
set_option maxRecDepth 100000
set_option maxHeartbeats 4000000
/-! DJudge: meanings, the judgements, how they are put together -/
namespace DL
open PySem PySem.Spec PyProof.Rows L2

/-- an exception: its class, its fields -/
structure XD where
  cls : Value
  fs : List (Str × D)
inductive Res (α : Type) where
  | ok (a : α) (S : Store)
  | exc (x : XD) (S : Store)
  | stuck
def Res.bind {α β : Type} (r : Res α) (f : α → Store → Res β) : Res β :=
  match r with
  | .ok a S => f a S
  | .exc x S => .exc x S
  | .stuck => .stuck
@[simp] theorem Res.ok_bind {α β : Type} (a : α) (S : Store) (f : α → Store → Res β) : (Res.ok a S).bind f = f a S := rfl
@[simp] theorem Res.exc_bind {α β : Type} (x : XD) (S : Store) (f : α → Store → Res β) : (Res.exc x S).bind f = .exc x S := rfl
@[simp] theorem Res.stuck_bind {α β : Type} (f : α → Store → Res β) : (Res.stuck).bind f = .stuck := rfl
/-- a value or none -/
def lift {α : Type} (o : Option α) (S : Store) : Res α := match o with
  | some a => .ok a S
  | none => .stuck
@[simp] theorem lift_some {α : Type} (a : α) (S : Store) : lift (some a) S = .ok a S := rfl
@[simp] theorem lift_none {α : Type} (S : Store) : lift (none : Option α) S = .stuck := rfl
/-- what a statement leads to -/
inductive SR where
  | next (δ : DEnv) (S : Store)
  | ret (u : U) (S : Store)
  | brk (δ : DEnv) (S : Store)
  | cont (δ : DEnv) (S : Store)
  | exc (x : XD) (δ : DEnv) (S : Store)
  | stuck
abbrev ME := DEnv → Store → Res U
abbrev MT := DEnv → Store → Res Bool
abbrev MA := DEnv → Store → Res (List U)
/-- a statement's; the number: how many cells stood at the entry -/
abbrev MS := Nat → DEnv → Store → SR
abbrev Fn := List U → Store → Res U

inductive RepF (K : Fg) (ok : Addr → Prop) (H : Hp) : List (Str × V) → List (Str × D) → Prop
  | nil : RepF K ok H [] []
  | cons {k : Str} {v : V} {d : D} {vs : List (Str × V)} {ds : List (Str × D)} : Rep K ok H v d → RepF K ok H vs ds → RepF K ok H ((k, v) :: vs) ((k, d) :: ds)
def RepX (K : Fg) (ρ : Ad) (H : Hp) (cls : Value) (dx : Option Addr) (x : XD) : Prop :=
  cls = x.cls ∧ match dx with
    | none => x.fs = []
    | some d => ∃ fs, H d = some (.xd fs) ∧ RepF K (free ρ) H fs x.fs

/-- what is asked behind a meaning's result -/
def Post {α : Type} (K : Fg) (W : WX) (σ : L2.St) (ρ : Ad) (H : Hp) (r : Res α) (good : α → Ad → Hp → Prop) : Prop :=
  match r with
  | .ok a S' => ∀ ρ' H', Nxt ρ H ρ' H' → Ok K ρ' S' H' → good a ρ' H'
  | .exc x S' => ∀ cls dx ρ' H', Nxt ρ H ρ' H' → Ok K ρ' S' H' → RepX K ρ' H' cls dx x → W cls dx σ H'
  | .stuck => False
section
variable {α β : Type} {K : Fg} {W : WX} {σ : L2.St} {ρ ρ1 : Ad} {H H1 : Hp} {S : Store}
theorem Post.from_ {r : Res α} {good : α → Ad → Hp → Prop} (h : Post K W σ ρ H r good) (n : Nxt ρ H ρ1 H1) : Post K W σ ρ1 H1 r good := by
  cases r with
  | ok a S => exact fun ρ' H' m k => h ρ' H' (n.trans m) k
  | exc x S => exact fun cls dx ρ' H' m k => h cls dx ρ' H' (n.trans m) k
  | stuck => exact h
theorem Post.bind {r : Res α} {f : α → Store → Res β} {good : β → Ad → Hp → Prop} (h : Post K W σ ρ H (r.bind f) good) :
    Post K W σ ρ H r fun a ρ1 H1 => ∃ S1, r = .ok a S1 ∧ Ok K ρ1 S1 H1 ∧ Post K W σ ρ1 H1 (f a S1) good := by
  cases r with
  | ok a S => exact fun ρ' H' m k => ⟨S, rfl, k, Post.from_ h m⟩
  | exc x S => exact h
  | stuck => exact h
theorem Post.imp {r : Res α} {good good' : α → Ad → Hp → Prop} (h : Post K W σ ρ H r good) (i : ∀ a ρ' H', Nxt ρ H ρ' H' → good a ρ' H' → good' a ρ' H') : Post K W σ ρ H r good' := by
  cases r with
  | ok a S => exact fun ρ' H' m k => i a ρ' H' m (h ρ' H' m k)
  | exc x S => exact h
  | stuck => exact h
/-- a result that is there already -/
theorem Post.here {a : α} {good : α → Ad → Hp → Prop} (h : Post K W σ ρ H (.ok a S) good) (k : Ok K ρ S H) : good a ρ H := h ρ H Nxt.refl k
end

def tE (K : Fg) (W : WX) (m : ME) : TE := fun σ H Q => ∃ ρ δ S, EnvOk K ρ H σ δ ∧ Ok K ρ S H ∧ Post K W σ ρ H (m δ S) fun u ρ' H' => ∀ v, RepU K ρ' H' v u → Q v H'
def tT (K : Fg) (W : WX) (m : MT) : TT := fun σ H Q => ∃ ρ δ S, EnvOk K ρ H σ δ ∧ Ok K ρ S H ∧ Post K W σ ρ H (m δ S) fun b _ H' => Q b H'
def tA (K : Fg) (W : WX) (m : MA) : TA := fun σ H Q => ∃ ρ δ S, EnvOk K ρ H σ δ ∧ Ok K ρ S H ∧ Post K W σ ρ H (m δ S) fun us ρ' H' => ∀ vs, RepUs K ρ' H' vs us → Q vs H'
def PostS (K : Fg) (W : WX) (ρ0 : Ad) (H0 : Hp) (r : SR) (D : Ends) : Prop :=
  match r with
  | .next δ' S' => ∀ σ' ρ' H', Nxt ρ0 H0 ρ' H' → Ok K ρ' S' H' → EnvOk K ρ' H' σ' δ' → D.nx σ' H'
  | .ret u S' => ∀ v ρ' H', Nxt ρ0 H0 ρ' H' → Ok K ρ' S' H' → RepU K ρ' H' v u → D.rt v H'
  | .brk δ' S' => ∀ σ' ρ' H', Nxt ρ0 H0 ρ' H' → Ok K ρ' S' H' → EnvOk K ρ' H' σ' δ' → D.bk σ' H'
  | .cont δ' S' => ∀ σ' ρ' H', Nxt ρ0 H0 ρ' H' → Ok K ρ' S' H' → EnvOk K ρ' H' σ' δ' → D.ct σ' H'
  | .exc x δ' S' => ∀ cls dx σ' ρ' H', Nxt ρ0 H0 ρ' H' → Ok K ρ' S' H' → EnvOk K ρ' H' σ' δ' → RepX K ρ' H' cls dx x → W cls dx σ' H'
  | .stuck => False
def tS (K : Fg) (W : WX) (m : MS) : TS := fun D σ H => ∃ ρ0 H0 ρ δ S, Nxt ρ0 H0 ρ H ∧ EnvOk K ρ H σ δ ∧ Ok K ρ S H ∧ PostS K W ρ0 H0 (m ρ0.cs.length δ S) D

def PM (X : Cx) (W : WX) (e : Expr) (m : ME) : Prop := PE X e (tE X.K W m)
def PMT (X : Cx) (W : WX) (e : Expr) (m : MT) : Prop := PT X e (tT X.K W m)
def PMW (X : Cx) (W : WX) (e : Expr) (m : MT) : Prop := PW X e (tT X.K W m)
def PMA (X : Cx) (W : WX) (es : List Expr) (m : MA) : Prop := PA X es (tA X.K W m)
def PMS (X : Cx) (W : WX) (st : Stmt) (m : MS) : Prop := PS X st (tS X.K W m)
def PMSs (X : Cx) (W : WX) (st : List Stmt) (m : MS) : Prop := PSs X st (tS X.K W m)

theorem pimpE {X : Cx} {e : Expr} {t t' : TE} (h : PE X e t) (i : ∀ σ H Q, t' σ H Q → t σ H Q) : PE X e t' := ⟨fun pins s σ H Q I q => h.run pins s σ H Q I (i σ H Q q)⟩
theorem pimpT {X : Cx} {e : Expr} {t t' : TT} (h : PT X e t) (i : ∀ σ H Q, t' σ H Q → t σ H Q) : PT X e t' := ⟨fun pins s σ H Q I q => h.run pins s σ H Q I (i σ H Q q)⟩
theorem pimpW {X : Cx} {e : Expr} {t t' : TT} (h : PW X e t) (i : ∀ σ H Q, t' σ H Q → t σ H Q) : PW X e t' := ⟨fun wh pins s σ H Q I q => h.run wh pins s σ H Q I (i σ H Q q)⟩
theorem pimpA {X : Cx} {e : List Expr} {t t' : TA} (h : PA X e t) (i : ∀ σ H Q, t' σ H Q → t σ H Q) : PA X e t' := ⟨fun p pins s σ H Q I q => h.run p pins s σ H Q I (i σ H Q q)⟩
theorem pimpS {X : Cx} {e : Stmt} {t t' : TS} (h : PS X e t) (i : ∀ D σ H, t' D σ H → t D σ H) : PS X e t' := ⟨fun pins s σ H D I q => h.run pins s σ H D I (i D σ H q)⟩
theorem pimpSs {X : Cx} {e : List Stmt} {t t' : TS} (h : PSs X e t) (i : ∀ D σ H, t' D σ H → t D σ H) : PSs X e t' := ⟨fun pins s σ H D I q => h.run pins s σ H D I (i D σ H q)⟩

/-- an expression's result within a statement -/
def Res.inS {α : Type} (r : Res α) (δ : DEnv) (f : α → Store → SR) : SR := match r with
  | .ok u S1 => f u S1
  | .exc x S1 => .exc x δ S1
  | .stuck => .stuck
@[simp] theorem Res.ok_inS {α : Type} (a : α) (S : Store) (δ : DEnv) (f : α → Store → SR) : (Res.ok a S).inS δ f = f a S := rfl
@[simp] theorem Res.exc_inS {α : Type} (x : XD) (S : Store) (δ : DEnv) (f : α → Store → SR) : (Res.exc x S).inS δ f = .exc x δ S := rfl
@[simp] theorem Res.stuck_inS {α : Type} (δ : DEnv) (f : α → Store → SR) : (Res.stuck).inS δ f = .stuck := rfl

/-! ### expressions one after another -/
section
variable {K : Fg} {W : WX} {σ : L2.St} {ρ : Ad} {H : Hp} {S : Store} {δ : DEnv}
/-- the first part of a row of parts: afterwards its value, with all that stood -/
theorem tE.first {α : Type} {m : ME} {f : U → Store → Res α} {good : α → Ad → Hp → Prop} {Q : VK} (e : EnvOk K ρ H σ δ) (k : Ok K ρ S H) (h : Post K W σ ρ H ((m δ S).bind f) good)
    (hq : ∀ v u ρ1 H1 S1, m δ S = .ok u S1 → Nxt ρ H ρ1 H1 → EnvOk K ρ1 H1 σ δ → Ok K ρ1 S1 H1 → RepU K ρ1 H1 v u → Post K W σ ρ1 H1 (f u S1) good → Q v H1) : tE K W m σ H Q := by
  refine ⟨ρ, δ, S, e, k, (Post.bind h).imp fun u ρ1 H1 n q v r => ?_⟩
  obtain ⟨S1, e1, k1, p⟩ := q
  exact hq v u ρ1 H1 S1 e1 n (e.nxt n k) k1 r p
theorem tT.first {α : Type} {m : MT} {f : Bool → Store → Res α} {good : α → Ad → Hp → Prop} {Q : Bool → Hp → Prop} (e : EnvOk K ρ H σ δ) (k : Ok K ρ S H) (h : Post K W σ ρ H ((m δ S).bind f) good)
    (hq : ∀ b ρ1 H1 S1, m δ S = .ok b S1 → Nxt ρ H ρ1 H1 → EnvOk K ρ1 H1 σ δ → Ok K ρ1 S1 H1 → Post K W σ ρ1 H1 (f b S1) good → Q b H1) : tT K W m σ H Q := by
  refine ⟨ρ, δ, S, e, k, (Post.bind h).imp fun u ρ1 H1 n q => ?_⟩
  obtain ⟨S1, e1, k1, p⟩ := q
  exact hq u ρ1 H1 S1 e1 n (e.nxt n k) k1 p
theorem tA.first {α : Type} {m : MA} {f : List U → Store → Res α} {good : α → Ad → Hp → Prop} {Q : List V → Hp → Prop} (e : EnvOk K ρ H σ δ) (k : Ok K ρ S H) (h : Post K W σ ρ H ((m δ S).bind f) good)
    (hq : ∀ vs us ρ1 H1 S1, m δ S = .ok us S1 → Nxt ρ H ρ1 H1 → EnvOk K ρ1 H1 σ δ → Ok K ρ1 S1 H1 → RepUs K ρ1 H1 vs us → Post K W σ ρ1 H1 (f us S1) good → Q vs H1) : tA K W m σ H Q := by
  refine ⟨ρ, δ, S, e, k, (Post.bind h).imp fun u ρ1 H1 n q v r => ?_⟩
  obtain ⟨S1, e1, k1, p⟩ := q
  exact hq v u ρ1 H1 S1 e1 n (e.nxt n k) k1 r p
/-- the same within a statement: behind it the statement goes on -/
theorem tE.inS {m : ME} {Q : VK} {ρ0 : Ad} {H0 : Hp} {f : U → Store → SR} {Dn : Ends} (n0 : Nxt ρ0 H0 ρ H) (e : EnvOk K ρ H σ δ) (k : Ok K ρ S H)
    (h : PostS K W ρ0 H0 ((m δ S).inS δ f) Dn)
    (hq : ∀ v u ρ1 H1 S1, Nxt ρ H ρ1 H1 → Nxt ρ0 H0 ρ1 H1 → EnvOk K ρ1 H1 σ δ → Ok K ρ1 S1 H1 → RepU K ρ1 H1 v u → PostS K W ρ0 H0 (f u S1) Dn → Q v H1) : tE K W m σ H Q := by
  refine ⟨ρ, δ, S, e, k, ?_⟩
  cases q : m δ S with
  | ok u S1 =>
    rw [q] at h
    exact fun ρ1 H1 n k1 v r => hq v u ρ1 H1 S1 n (n0.trans n) (e.nxt n k) k1 r h
  | exc x S1 =>
    rw [q] at h
    exact fun cls dx ρ1 H1 n k1 r => h cls dx σ ρ1 H1 (n0.trans n) k1 (e.nxt n k) r
  | stuck => rw [q] at h; exact h
theorem tT.inS {m : MT} {Q : Bool → Hp → Prop} {ρ0 : Ad} {H0 : Hp} {f : Bool → Store → SR} {Dn : Ends} (n0 : Nxt ρ0 H0 ρ H) (e : EnvOk K ρ H σ δ) (k : Ok K ρ S H)
    (h : PostS K W ρ0 H0 ((m δ S).inS δ f) Dn)
    (hq : ∀ b ρ1 H1 S1, Nxt ρ H ρ1 H1 → Nxt ρ0 H0 ρ1 H1 → EnvOk K ρ1 H1 σ δ → Ok K ρ1 S1 H1 → PostS K W ρ0 H0 (f b S1) Dn → Q b H1) : tT K W m σ H Q := by
  refine ⟨ρ, δ, S, e, k, ?_⟩
  cases q : m δ S with
  | ok u S1 =>
    rw [q] at h
    exact fun ρ1 H1 n k1 => hq u ρ1 H1 S1 n (n0.trans n) (e.nxt n k) k1 h
  | exc x S1 =>
    rw [q] at h
    exact fun cls dx ρ1 H1 n k1 r => h cls dx σ ρ1 H1 (n0.trans n) k1 (e.nxt n k) r
  | stuck => rw [q] at h; exact h
end
section
variable {X : Cx} {W : WX} {pos : Pos}
/-! ### names, constants -/
def mVar (i : Nat) : ME := fun δ S => match δ[i]? with
  | some (some u) => .ok u S
  | _ => .stuck
def mC (d : D) : ME := fun _ S => .ok (.d d) S
theorem pm_var {i : Nat} {e : Expr} (h : PE X e (tVar i)) : PM X W e (mVar i) := pimpE h fun σ H Q q => by
  obtain ⟨ρ, δ, S, e, k, p⟩ := q
  unfold mVar at p
  cases hi : δ[i]? with
  | none => rw [hi] at p; exact p.elim
  | some o =>
    rw [hi] at p
    cases o with
    | none => exact p.elim
    | some u =>
      obtain ⟨v, a, r⟩ := e.at_ i u hi
      exact ⟨v, a, p.here k v r⟩
theorem pm_const {e : Expr} {v : V} {d : D} (h : PE X e (tC v)) (r : ∀ ok H, Rep X.K ok H v d) : PM X W e (mC d) := pimpE h fun σ H Q q => by
  obtain ⟨ρ, δ, S, e, k, p⟩ := q
  exact p.here k v (r _ _)
theorem pm_int {i j} : PM X W (.Constant (.int i) j pos) (mC (.int i)) := pm_const pe_int fun _ _ => .int i
theorem pm_str {i j} : PM X W (.Constant (.str i) j pos) (mC (.str i)) := pm_const pe_str fun _ _ => .str i
theorem pm_bl {i j} : PM X W (.Constant (.bool i) j pos) (mC (.bl i)) := pm_const pe_bl fun _ _ => .bl i
theorem pm_non {j} : PM X W (.Constant .none j pos) (mC .non) := pm_const pe_non fun _ _ => .non
end
end DL

set_option Elab.async false
set_option linter.all false
set_option maxRecDepth 100000
set_option maxHeartbeats 4000000
/-! DRules1: operators, comparisons, tests, displays, built-in calls -/
namespace DL
open PySem PySem.Spec PyProof.Rows L2

/-! ### what a value reads as at the moment -/
def RepP (K : Fg) (ρ : Ad) (H : Hp) (v : V) (d : D) : Prop :=
  Rep K (free ρ) H v d ∨ ∃ a, v = .ref a ∧ match d with
    | .lst ds => ∃ xs, H a = some (.lst xs) ∧ RepL K (free ρ) H xs ds
    | .dct es => ∃ ks, H a = some (.dK ks) ∧ RepK K (free ρ) H ks es
    | _ => False
section
variable {K : Fg} {ρ : Ad} {H : Hp} {S : Store} {v : V}
theorem RepU.peek {u : U} {d : D} (h : RepU K ρ H v u) (k : Ok K ρ S H) (p : peek S u = some d) : RepP K ρ H v d := by
  cases u with
  | d x => cases p; exact .inl h
  | loc n =>
    obtain ⟨a, rfl, h⟩ := h
    obtain ⟨c, e, q⟩ := k.live n a h
    have p' : (match S[n]? with | some (.lst ds) => some (D.lst ds) | some (.dct es) => some (.dct es) | _ => none) = some d := p
    rw [e] at p'
    cases c with
    | lst ds => cases p'; exact .inr ⟨a, rfl, q⟩
    | dct es => cases p'; exact .inr ⟨a, rfl, q⟩
    | dead => exact q.elim
theorem RepP.non (h : RepP K ρ H v .non) : v = .non := by
  rcases h with h | ⟨_, _, h⟩
  · cases h; rfl
  · exact h.elim
theorem RepP.bl {b : Bool} (h : RepP K ρ H v (.bl b)) : v = .bl b := by
  rcases h with h | ⟨_, _, h⟩
  · cases h; rfl
  · exact h.elim
theorem RepP.int {i : Int} (h : RepP K ρ H v (.int i)) : v = .int i := by
  rcases h with h | ⟨_, _, h⟩
  · cases h; rfl
  · exact h.elim
theorem RepP.str {x : Str} (h : RepP K ρ H v (.str x)) : v = .str x := by
  rcases h with h | ⟨_, _, h⟩
  · cases h; rfl
  · exact h.elim
theorem RepP.tup {ds : List D} (h : RepP K ρ H v (.tup ds)) : ∃ a xs, v = .ref a ∧ SqT K H a xs ∧ RepL K (free ρ) H xs ds := by
  rcases h with h | ⟨_, _, h⟩
  · cases h with
    | tup h r => exact ⟨_, _, rfl, h, r⟩
  · exact h.elim
theorem RepP.lst {ds : List D} (h : RepP K ρ H v (.lst ds)) : ∃ a xs, v = .ref a ∧ Rd H a (.lst xs) ∧ RepL K (free ρ) H xs ds := by
  rcases h with h | ⟨a, e, xs, h, r⟩
  · cases h with
    | lst h _ r => exact ⟨_, _, rfl, h, r⟩
  · exact ⟨a, xs, e, .inl h, r⟩
theorem RepP.fl {ds : List D} (h : RepP K ρ H v (.fl ds)) : ∃ a xs, v = .ref a ∧ SqL K H a xs ∧ RepL K (free ρ) H xs ds := by
  rcases h with h | ⟨a, e, h⟩
  · cases h with
    | fl h r => exact ⟨_, _, rfl, h.sq, r⟩
  · exact h.elim
theorem RepP.dct {es : List (Key × D)} (h : RepP K ρ H v (.dct es)) : ∃ a ks, v = .ref a ∧ Rd H a (.dK ks) ∧ RepK K (free ρ) H ks es := by
  rcases h with h | ⟨a, e, xs, h, r⟩
  · cases h with
    | dct h _ r => exact ⟨_, _, rfl, h, r⟩
  · exact ⟨a, xs, e, .inl h, r⟩
theorem RepP.notNon {d : D} (h : RepP K ρ H v d) (n : d ≠ .non) : v ≠ .non := by
  rcases h with h | ⟨a, e, h⟩
  · cases h <;> first | exact absurd rfl n | exact fun z => by cases z
  · rw [e]; exact fun z => by cases z
/-- the sequences -/
theorem RepP.seq {ds : List D} (h : RepP K ρ H v (.tup ds) ∨ RepP K ρ H v (.lst ds)) : ∃ a xs, v = .ref a ∧ (SqL K H a xs ∨ SqT K H a xs) ∧ RepL K (free ρ) H xs ds := by
  rcases h with h | h
  · obtain ⟨a, xs, e, h, r⟩ := h.tup; exact ⟨a, xs, e, .inr h, r⟩
  · obtain ⟨a, xs, e, h, r⟩ := h.lst; exact ⟨a, xs, e, .inl (.inl h), r⟩
end

/-! ### scalars; data without dicts as PyData -/
def asV : D → Option V
  | .non => some .non
  | .bl b => some (.bl b)
  | .int i => some (.int i)
  | .str x => some (.str x)
  | _ => none
def asVs : List D → Option (List V)
  | [] => some []
  | d :: r => match asV d, asVs r with
    | some v, some vs => some (v :: vs)
    | _, _ => none
mutual
def toPy : D → Option PyData
  | .non => some .none
  | .bl b => some (.bool b)
  | .int i => some (.int i)
  | .str x => some (.str x)
  | .tup ds => match toPyL ds with
    | some ps => some (.tuple ps)
    | none => none
  | .lst ds => match toPyL ds with
    | some ps => some (.list ps)
    | none => none
  | .dct _ => none
  | .fl _ => none
  | .ref _ => none
  | .fn _ => none
def toPyL : List D → Option (List PyData)
  | [] => some []
  | d :: r => match toPy d, toPyL r with
    | some p, some ps => some (p :: ps)
    | _, _ => none
end
section
variable {K : Fg} {ok : Addr → Prop} {ρ : Ad} {H : Hp} {v : V}
theorem Rep.asV {d : D} {x : V} (h : Rep K ok H v d) (e : asV d = some x) : v = x := by
  cases h <;> first | (cases e; rfl) | cases e
theorem RepP.asV {d : D} {x : V} (h : RepP K ρ H v d) (e : DL.asV d = some x) : v = x := by
  rcases h with h | ⟨a, _, h⟩
  · exact h.asV e
  · cases d <;> first | exact h.elim | cases e
theorem asV_flat {d : D} {x : V} (e : asV d = some x) : flatV x = true := by
  cases d <;> first | (cases e; rfl) | cases e
theorem RepL.asVs : ∀ {vs : List V} {ds : List D} {xs : List V}, RepL K ok H vs ds → asVs ds = some xs → vs = xs ∧ xs.all flatV = true
  | _, _, xs, .nil, e => by
    have e' : some [] = some xs := e
    cases e'; exact ⟨rfl, rfl⟩
  | _, _, xs, .cons (d := d) (ds := r) h t, e => by
    have e' : (match DL.asV d, DL.asVs r with | some v, some vs => some (v :: vs) | _, _ => none) = some xs := e
    split at e'
    · rename_i y ys h1 h2
      cases e'
      obtain ⟨q1, q2⟩ := RepL.asVs t h2
      refine ⟨by rw [h.asV h1, q1], ?_⟩
      rw [List.all_cons, asV_flat h1, q2]; rfl
    · cases e'
mutual
theorem Rep.dp : ∀ {v : V} {d : D} {p : PyData}, Rep K ok H v d → toPy d = some p → Dp K H v p
  | _, _, _, .non, e => by cases e; exact .non
  | _, _, _, .bl b, e => by cases e; exact .bl b
  | _, _, _, .int i, e => by cases e; exact .int i
  | _, _, _, .str x, e => by cases e; exact .str x
  | _, _, p, .tup (ds := ds) h r, e => by
    have e' : (match toPyL ds with | some ps => some (PyData.tuple ps) | none => none) = some p := by rw [← e]; simp only [toPy]
    split at e'
    · rename_i ps q; cases e'; exact .tup h (RepL.dp r q)
    · cases e'
  | _, _, p, .lst (ds := ds) h _ r, e => by
    have e' : (match toPyL ds with | some ps => some (PyData.list ps) | none => none) = some p := by rw [← e]; simp only [toPy]
    split at e'
    · rename_i ps q; cases e'; exact .lst (.inl h) (RepL.dp r q)
    · cases e'
  | _, _, _, .dct _ _ _, e => by simp [toPy] at e
  | _, _, _, .fl _ _, e => by simp [toPy] at e
  | _, _, _, .ref, e => by simp [toPy] at e
  | _, _, _, .fn _, e => by simp [toPy] at e
theorem RepL.dp : ∀ {vs : List V} {ds : List D} {ps : List PyData}, RepL K ok H vs ds → toPyL ds = some ps → DpAll K H vs ps
  | _, _, _, .nil, e => by simp [toPyL] at e; subst e; exact .nil
  | _, _, ps, .cons (d := d) (ds := r) h t, e => by
    have e' : (match toPy d, toPyL r with | some p, some ps => some (p :: ps) | _, _ => none) = some ps := by rw [← e]; simp only [toPyL]
    split at e'
    · rename_i y ys h1 h2; cases e'; exact .cons (Rep.dp h h1) (RepL.dp t h2)
    · cases e'
end
theorem RepP.dp {d : D} {p : PyData} (h : RepP K ρ H v d) (e : toPy d = some p) : Dp K H v p := by
  rcases h with h | ⟨a, ea, h⟩
  · exact h.dp e
  · cases d with
    | lst ds =>
      obtain ⟨xs, h, r⟩ := h
      have e' : (match toPyL ds with | some ps => some (PyData.list ps) | none => none) = some p := by rw [← e]; simp only [toPy]
      split at e'
      · rename_i ps q; cases e'; rw [ea]; exact .lst (SqL.of h) (RepL.dp r q)
      · cases e'
    | dct es => simp [toPy] at e
    | _ => exact h.elim
end

/-! ### operations that only read -/
def rD (K : Fg) (g : D → D → Option D) : R2 := fun x y H Q => ∃ ρ S d e z, Ok K ρ S H ∧ RepP K ρ H x d ∧ RepP K ρ H y e ∧ g d e = some z ∧
  ∀ v H', Nxt ρ H ρ H' → Ok K ρ S H' → Rep K (free ρ) H' v z → Q v H'
def rU1 (K : Fg) (g : D → Option D) : V → Hp → VK → Prop := fun x H Q => ∃ ρ S d z, Ok K ρ S H ∧ RepP K ρ H x d ∧ g d = some z ∧
  ∀ v H', Nxt ρ H ρ H' → Ok K ρ S H' → Rep K (free ρ) H' v z → Q v H'
inductive RepPs (K : Fg) (ρ : Ad) (H : Hp) : List V → List D → Prop
  | nil : RepPs K ρ H [] []
  | cons {v : V} {d : D} {vs : List V} {ds : List D} : RepP K ρ H v d → RepPs K ρ H vs ds → RepPs K ρ H (v :: vs) (d :: ds)
def rCD (K : Fg) (g : List D → Option D) : List V → Hp → VK → Prop := fun xs H Q => ∃ ρ S ds z, Ok K ρ S H ∧ RepPs K ρ H xs ds ∧ g ds = some z ∧
  ∀ v H', Nxt ρ H ρ H' → Ok K ρ S H' → Rep K (free ρ) H' v z → Q v H'
def peeks (S : Store) : List U → Option (List D)
  | [] => some []
  | u :: r => match peek S u, peeks S r with
    | some d, some ds => some (d :: ds)
    | _, _ => none
theorem RepUs.peeks {K : Fg} {ρ : Ad} {H : Hp} {S : Store} (k : Ok K ρ S H) : ∀ {vs : List V} {us : List U} {ds : List D}, RepUs K ρ H vs us → peeks S us = some ds → RepPs K ρ H vs ds
  | _, _, ds, .nil, e => by
    have e' : some [] = some ds := e
    cases e'; exact .nil
  | _, _, ds, .cons (u := u) (us := r) h t, e => by
    have e' : (match peek S u, DL.peeks S r with | some d, some ds => some (d :: ds) | _, _ => none) = some ds := e
    split at e'
    · rename_i y ys h1 h2; cases e'; exact .cons (h.peek k h1) (RepUs.peeks k t h2)
    · cases e'
/-- data alone -/
def datas : List U → Option (List D)
  | [] => some []
  | .d x :: r => match datas r with
    | some ds => some (x :: ds)
    | none => none
  | .loc _ :: _ => none
theorem RepUs.datas {K : Fg} {ρ : Ad} {H : Hp} : ∀ {vs : List V} {us : List U} {ds : List D}, RepUs K ρ H vs us → datas us = some ds → RepL K (free ρ) H vs ds
  | _, _, ds, .nil, e => by
    have e' : some [] = some ds := e
    cases e'; exact .nil
  | _, _, ds, .cons (u := .loc _) h t, e => by cases e
  | _, _, ds, .cons (u := .d x) (us := r) h t, e => by
    have e' : (match DL.datas r with | some ds => some (x :: ds) | none => none) = some ds := e
    split at e'
    · rename_i ys h2; cases e'; exact .cons h (RepUs.datas t h2)
    · cases e'

def m2 (g : D → D → Option D) (ma mb : ME) : ME := fun δ S => (ma δ S).bind fun x S1 => (mb δ S1).bind fun y S2 =>
  lift ((match peek S2 x, peek S2 y with | some d, some e => g d e | _, _ => none).map U.d) S2
def m1 (g : D → Option D) (ma : ME) : ME := fun δ S => (ma δ S).bind fun x S1 => lift (((peek S1 x).bind g).map U.d) S1
def mCall (g : List D → Option D) (ma : MA) : ME := fun δ S => (ma δ S).bind fun xs S1 => lift (((peeks S1 xs).bind g).map U.d) S1
def mTest (m : ME) : MT := fun δ S => (m δ S).bind fun u S' => match u with
  | .d (.bl b) => .ok b S'
  | _ => .stuck
section
variable {K : Fg} {W : WX} {σ : L2.St} {ρ : Ad} {H : Hp} {S : Store}
theorem Post.lifted {o : Option D} {Q : VK} (h : Post K W σ ρ H (lift (o.map U.d) S) fun u ρ' H' => ∀ v, RepU K ρ' H' v u → Q v H') :
    ∃ z, o = some z ∧ ∀ v H', Nxt ρ H ρ H' → Ok K ρ S H' → Rep K (free ρ) H' v z → Q v H' := by
  cases o with
  | none => exact h.elim
  | some z => exact ⟨z, rfl, fun v H' n k r => h ρ H' n k v r⟩
end
section
variable {X : Cx} {W : WX} {pos : Pos} {a b c : Expr} {ma mb mc : ME}
theorem m2_ok {r : R2} {g : D → D → Option D} (hr : ∀ x y H Q, rD X.K g x y H Q → r x y H Q) {σ : L2.St} {H : Hp} {Q : VK} (h : tE X.K W (m2 g ma mb) σ H Q) : tOp r (tE X.K W ma) (tE X.K W mb) σ H Q := by
  obtain ⟨ρ, δ, S, e, k, p⟩ := h
  refine tE.first e k p fun v u ρ1 H1 S1 _ n1 e1 k1 r1 p1 => tE.first e1 k1 p1 fun w u2 ρ2 H2 S2 _ n2 e2 k2 r2 p2 => hr _ _ _ _ ?_
  obtain ⟨z, ez, q⟩ := p2.lifted
  split at ez
  · rename_i d e h1 h2
    exact ⟨ρ2, S2, d, e, z, k2, (r1.nxt n2 k1).peek k2 h1, r2.peek k2 h2, ez, q⟩
  · cases ez
theorem m1_ok {r : V → Hp → VK → Prop} {g : D → Option D} (hr : ∀ x H Q, rU1 X.K g x H Q → r x H Q) {σ : L2.St} {H : Hp} {Q : VK} (h : tE X.K W (m1 g ma) σ H Q) : tUn r (tE X.K W ma) σ H Q := by
  obtain ⟨ρ, δ, S, e, k, p⟩ := h
  refine tE.first e k p fun v u ρ1 H1 S1 _ n1 e1 k1 r1 p1 => hr _ _ _ ?_
  obtain ⟨z, ez, q⟩ := p1.lifted
  obtain ⟨d, h1, h2⟩ := Option.bind_eq_some_iff.mp ez
  exact ⟨ρ1, S1, d, z, k1, r1.peek k1 h1, h2, q⟩
theorem mCall_ok {r : List V → Hp → VK → Prop} {g : List D → Option D} {m : MA} (hr : ∀ x H Q, rCD X.K g x H Q → r x H Q) {σ : L2.St} {H : Hp} {Q : VK} (h : tE X.K W (mCall g m) σ H Q) : tCB r (tA X.K W m) σ H Q := by
  obtain ⟨ρ, δ, S, e, k, p⟩ := h
  refine tA.first e k p fun v u ρ1 H1 S1 _ n1 e1 k1 r1 p1 => hr _ _ _ ?_
  obtain ⟨z, ez, q⟩ := p1.lifted
  obtain ⟨d, h1, h2⟩ := Option.bind_eq_some_iff.mp ez
  exact ⟨ρ1, S1, d, z, k1, r1.peeks k1 h1, h2, q⟩
abbrev OpD (X : Cx) (f : Value → Value → Sem Value) (g : D → D → Option D) : Prop := OpR X f (rD X.K g)
abbrev UnD (X : Cx) (f : Value → Sem Value) (g : D → Option D) : Prop := UnR X f (rU1 X.K g)
abbrev CallD (X : Cx) (f : Value) (g : List D → Option D) : Prop := CallR X f (rCD X.K g)
theorem pm_bin {op : Operator} {g : D → D → Option D} (ho : OpD X (binaryOp op) g) (ha : PM X W a ma) (hb : PM X W b mb) : PM X W (.BinOp a op b pos) (m2 g ma mb) :=
  pimpE (pe_op ho ha hb) fun _ _ _ h => m2_ok (fun _ _ _ _ z => z) h
theorem pm_un {op : UnaryOp} {g : D → Option D} (ho : UnD X (unaryOp op) g) (ha : PM X W a ma) : PM X W (.UnaryOp op a pos) (m1 g ma) :=
  pimpE (pe_un ho ha) fun _ _ _ h => m1_ok (fun _ _ _ z => z) h
theorem pm_cmp {op : CmpOp} {g : D → D → Option D} (ho : OpD X (compareOp op) g) (ha : PM X W a ma) (hb : PM X W b mb) (hm : behindInMarks op b = false) : PM X W (.Compare a [op] [b] pos) (m2 g ma mb) :=
  pimpE (pe_cmpR ho ha hb hm) fun _ _ _ h => m2_ok (fun _ _ _ _ z => z) h
/-- the value that a test asks for -/
theorem mTest_ok {m : ME} {σ : L2.St} {H : Hp} {Q : Bool → Hp → Prop} (h : tT X.K W (mTest m) σ H Q) : tTest (tE X.K W m) σ H Q := by
  obtain ⟨ρ, δ, S, e, k, p⟩ := h
  refine tE.first e k p fun v u ρ1 H1 S1 _ n1 e1 k1 r1 p1 => ?_
  cases u with
  | loc n => exact p1.elim
  | d x =>
    cases x with
    | bl b => cases r1; exact ⟨b, rfl, p1.here k1⟩
    | _ => exact p1.elim
theorem pmt_cmp {op : CmpOp} {g : D → D → Option D} (ho : OpD X (compareOp op) g) (ha : PM X W a ma) (hb : PM X W b mb) (hm : behindInMarks op b = false) : PMT X W (.Compare a [op] [b] pos) (mTest (m2 g ma mb)) :=
  pimpT (pt_cmpR ho ha hb hm) fun σ H Q h => by
    obtain ⟨ρ, δ, S, e, k, p⟩ := h
    have : tTest (tE X.K W (m2 g ma mb)) σ H Q := mTest_ok ⟨ρ, δ, S, e, k, p⟩
    exact m2_ok (fun _ _ _ _ z => z) this
/-! ### truth -/
def truD : D → Option Bool
  | .non => some false
  | .bl b => some b
  | .int i => some (i != 0)
  | .str y => if y.length ≤ sizeLine then some ((y.length : Int) != 0) else none
  | .tup ds => some !ds.isEmpty
  | .lst ds => some !ds.isEmpty
  | _ => none
def mTru (m : ME) : MT := fun δ S => (m δ S).bind fun u S' => lift ((peek S' u).bind truD) S'
theorem RepL.isEmpty {K : Fg} {ok : Addr → Prop} {H : Hp} {vs : List V} {ds : List D} (r : RepL K ok H vs ds) : ds.isEmpty = vs.isEmpty := by cases r <;> rfl
theorem truD_ok {K : Fg} {ρ : Ad} {H : Hp} {v : V} {d : D} {k : Bool} (h : RepP K ρ H v d) (e : truD d = some k) : TruV K v H k := by
  cases d with
  | non => rw [h.non]; cases e; exact rfl
  | bl b => rw [h.bl]; cases e; exact rfl
  | int i => rw [h.int]; cases e; exact rfl
  | str y =>
    rw [h.str]
    have e' : (if y.length ≤ sizeLine then some ((y.length : Int) != 0) else none) = some k := e
    split at e'
    · cases e'; exact ⟨by assumption, rfl⟩
    · cases e'
  | tup ds => obtain ⟨a, xs, rfl, q, r⟩ := h.tup; cases e; exact .inr (.inl ⟨xs, q, by rw [r.isEmpty]⟩)
  | lst ds => obtain ⟨a, xs, rfl, q, r⟩ := h.lst; cases e; exact .inl ⟨xs, .inl q, by rw [r.isEmpty]⟩
  | dct es => cases e
  | fl ds => cases e
  | ref a => cases e
  | fn x => cases e
theorem pmt_tru (ha : PM X W a ma) (he : ∀ whole, isTrue a X.env whole = (do let v ← whole; standAt a.pos; holding [v] (truthy v)) := by intro _; rfl) : PMT X W a (mTru ma) :=
  pimpT (pt_truth ha he) fun σ H Q h => by
    obtain ⟨ρ, δ, S, e, k, p⟩ := h
    refine tE.first e k p fun v u ρ1 H1 S1 _ n1 e1 k1 r1 p1 => ?_
    cases q : (peek S1 u).bind truD with
    | none => rw [q] at p1; exact p1.elim
    | some b =>
      rw [q] at p1
      obtain ⟨d, h1, h2⟩ := Option.bind_eq_some_iff.mp q
      exact ⟨b, truD_ok (r1.peek k1 h1) h2, Post.here p1 k1⟩
/-! ### and, or, not, if else -/
def mNotT (m : MT) : MT := fun δ S => (m δ S).bind fun b S' => .ok (!b) S'
def mAndT (m n : MT) : MT := fun δ S => (m δ S).bind fun b S' => if b then n δ S' else .ok false S'
def mOrT (m n : MT) : MT := fun δ S => (m δ S).bind fun b S' => if b then .ok true S' else n δ S'
theorem pmt_not {m : MT} (ha : PMT X W a m) : PMT X W (.UnaryOp .Not a pos) (mNotT m) :=
  pimpT (pt_not ha) fun σ H Q ⟨ρ, δ, S, e, k, p⟩ => tT.first e k p fun b ρ1 H1 S1 _ _ _ k1 p1 => p1.here k1
variable {rest : List Expr} {mA mB : MT}
theorem pmw_and1 (ha : PMT X W a mA) : PMW X W (.BoolOp .And [a] pos) mA := pw_and1 ha
theorem pmw_or1 (ha : PMT X W a mA) : PMW X W (.BoolOp .Or [a] pos) mA := pw_or1 ha
theorem pmw_and (ha : PMT X W a mA) (hb : PMW X W (.BoolOp .And (b :: rest) pos) mB) : PMW X W (.BoolOp .And (a :: b :: rest) pos) (mAndT mA mB) :=
  pimpW (pw_and ha hb) fun σ H Q ⟨ρ, δ, S, e, k, p⟩ => tT.first e k p fun x ρ1 H1 S1 _ _ e1 k1 p1 => by
    cases x with
    | true => rw [if_pos rfl]; exact ⟨ρ1, δ, S1, e1, k1, p1⟩
    | false => rw [if_neg Bool.false_ne_true]; exact p1.here k1
theorem pmw_or (ha : PMT X W a mA) (hb : PMW X W (.BoolOp .Or (b :: rest) pos) mB) : PMW X W (.BoolOp .Or (a :: b :: rest) pos) (mOrT mA mB) :=
  pimpW (pw_or ha hb) fun σ H Q ⟨ρ, δ, S, e, k, p⟩ => tT.first e k p fun x ρ1 H1 S1 _ _ e1 k1 p1 => by
    cases x with
    | false => rw [if_neg Bool.false_ne_true]; exact ⟨ρ1, δ, S1, e1, k1, p1⟩
    | true => rw [if_pos rfl]; exact p1.here k1
theorem pmt_of {m : MT} (h : PMW X W a m) : PMT X W a m := PW.pt h
/-- as values, all but the last a bool -/
def mAndV (ma mb : ME) : ME := fun δ S => (mTest ma δ S).bind fun b S' => if b then mb δ S' else .ok (.d (.bl false)) S'
def mOrV (ma mb : ME) : ME := fun δ S => (mTest ma δ S).bind fun b S' => if b then .ok (.d (.bl true)) S' else mb δ S'
def mNotV (ma : ME) : ME := fun δ S => (mTest ma δ S).bind fun b S' => .ok (.d (.bl (!b))) S'
theorem Res.bind_assoc {α β γ : Type} (r : Res α) (f : α → Store → Res β) (g : β → Store → Res γ) : (r.bind f).bind g = r.bind fun a S => (f a S).bind g := by cases r <;> rfl
theorem bool_first {α : Type} {K : Fg} {σ : L2.St} {H : Hp} {ρ : Ad} {δ : DEnv} {S : Store} {f : Bool → Store → Res α} {good : α → Ad → Hp → Prop} {Q : VK} (e : EnvOk K ρ H σ δ) (k : Ok K ρ S H) (p : Post K W σ ρ H ((mTest ma δ S).bind f) good)
    (hq : ∀ b ρ1 H1 S1, EnvOk K ρ1 H1 σ δ → Ok K ρ1 S1 H1 → Post K W σ ρ1 H1 (f b S1) good → Q (.bl b) H1) : tE K W ma σ H Q := by
  unfold mTest at p
  rw [Res.bind_assoc] at p
  refine tE.first e k p fun v u ρ1 H1 S1 _ n1 e1 k1 r1 p1 => ?_
  cases u with
  | loc n => exact p1.elim
  | d x =>
    cases x with
    | bl b => cases r1; exact hq b ρ1 H1 S1 e1 k1 p1
    | _ => exact p1.elim
theorem pm_one {op : BoolOp} (ha : PM X W a ma) : PM X W (.BoolOp op [a] pos) ma := pe_one ha
theorem pm_and (ha : PM X W a ma) (hb : PM X W (.BoolOp .And (b :: rest) pos) mb) : PM X W (.BoolOp .And (a :: b :: rest) pos) (mAndV ma mb) :=
  pimpE (pe_and ha hb) fun σ H Q ⟨ρ, δ, S, e, k, p⟩ => bool_first e k p fun x ρ1 H1 S1 e1 k1 p1 => ⟨x, rfl, by
    cases x with
    | true => rw [if_pos rfl]; exact ⟨ρ1, δ, S1, e1, k1, p1⟩
    | false => rw [if_neg Bool.false_ne_true]; exact p1.here k1 _ (.bl false)⟩
theorem pm_or (ha : PM X W a ma) (hb : PM X W (.BoolOp .Or (b :: rest) pos) mb) : PM X W (.BoolOp .Or (a :: b :: rest) pos) (mOrV ma mb) :=
  pimpE (pe_or ha hb) fun σ H Q ⟨ρ, δ, S, e, k, p⟩ => bool_first e k p fun x ρ1 H1 S1 e1 k1 p1 => ⟨x, rfl, by
    cases x with
    | false => rw [if_neg Bool.false_ne_true]; exact ⟨ρ1, δ, S1, e1, k1, p1⟩
    | true => rw [if_pos rfl]; exact p1.here k1 _ (.bl true)⟩
theorem pm_not (ha : PM X W a ma) : PM X W (.UnaryOp .Not a pos) (mNotV ma) :=
  pimpE (pe_not ha) fun σ H Q ⟨ρ, δ, S, e, k, p⟩ => bool_first e k p fun x ρ1 H1 S1 e1 k1 p1 => ⟨x, rfl, p1.here k1 _ (.bl _)⟩
def mIf (m : MT) (ma mb : ME) : ME := fun δ S => (m δ S).bind fun b S' => if b then ma δ S' else mb δ S'
theorem pm_if {m : MT} (hc : PMT X W c m) (ha : PM X W a ma) (hb : PM X W b mb) : PM X W (.IfExp c a b pos) (mIf m ma mb) :=
  pimpE (pe_ifExp hc ha hb) fun σ H Q ⟨ρ, δ, S, e, k, p⟩ => tT.first e k p fun x ρ1 H1 S1 _ _ e1 k1 p1 => by
    cases x with
    | true => rw [if_pos rfl]; exact ⟨ρ1, δ, S1, e1, k1, p1⟩
    | false => rw [if_neg Bool.false_ne_true]; exact ⟨ρ1, δ, S1, e1, k1, p1⟩
/-! ### argument lists, displays -/
def mNil : MA := fun _ S => .ok [] S
def mCons (m : ME) (n : MA) : MA := fun δ S => (m δ S).bind fun u S1 => (n δ S1).bind fun us S2 => .ok (u :: us) S2
variable {es : List Expr} {mas : MA}
theorem pma_nil : PMA X W [] mNil := pimpA pa_nil fun σ H Q ⟨ρ, δ, S, e, k, p⟩ => p.here k _ .nil
theorem pma_cons (ha : PM X W a ma) (hr : PMA X W es mas) (hs : starEach (a :: es) X.env = (false, eval a X.env) :: starEach es X.env := by rfl) : PMA X W (a :: es) (mCons ma mas) :=
  pimpA (pa_cons ha hr hs) fun σ H Q ⟨ρ, δ, S, e, k, p⟩ => tE.first e k p fun v u ρ1 H1 S1 _ n1 e1 k1 r1 p1 => tA.first e1 k1 p1 fun vs us ρ2 H2 S2 _ n2 e2 k2 r2 p2 => p2.here k2 _ (.cons (r1.nxt n2 k1) r2)
def fits (ds : List D) : Option (List D) := if ds.length ≤ sizeLine then some ds else none
def mTup (m : MA) : ME := fun δ S => (m δ S).bind fun us S1 => lift ((datas us).bind fun ds => (fits ds).map fun ds => .d (.tup ds)) S1
def mLst (m : MA) : ME := fun δ S => (m δ S).bind fun us S1 => lift ((datas us).bind fun ds => (fits ds).map fun ds => .d (.lst ds)) S1
/-- a list that will change -/
def mLstC (m : MA) : ME := fun δ S => (m δ S).bind fun us S1 => match (datas us).bind fits with
  | some ds => .ok (.loc S1.length) (S1 ++ [.lst ds])
  | none => .stuck
theorem fits_some {ds es : List D} (h : fits ds = some es) : es = ds ∧ ds.length ≤ sizeLine := by
  unfold fits at h
  split at h
  · cases h; exact ⟨rfl, by assumption⟩
  · cases h
theorem pm_tup {i : Nat} (h : PMA X W es mas) : PM X W (.Tuple es i pos) (mTup mas) :=
  pimpE (pe_tup h) fun σ H Q ⟨ρ, δ, S, e, k, p⟩ => tA.first e k p fun vs us ρ1 H1 S1 _ n1 e1 k1 r1 p1 => by
    cases q : (datas us).bind fun ds => (fits ds).map fun ds => U.d (.tup ds) with
    | none => rw [q] at p1; exact p1.elim
    | some u =>
      rw [q] at p1
      obtain ⟨ds, h1, h2⟩ := Option.bind_eq_some_iff.mp q
      obtain ⟨es, h3, rfl⟩ := Option.map_eq_some_iff.mp h2
      obtain ⟨rfl, hz⟩ := fits_some h3
      have r := r1.datas h1
      refine ⟨by rw [r.length]; exact hz, fun a ha => ?_⟩
      exact p1 ρ1 _ (Nxt.laid ha) (k1.laid ha) _ (Rep.tup (SqT.of upd_same) (r.mv ((Nxt.laid ha).mv k1)))
theorem pm_lst (h : PMA X W es mas) : PM X W (.List es pos) (mLst mas) :=
  pimpE (pe_lst h) fun σ H Q ⟨ρ, δ, S, e, k, p⟩ => tA.first e k p fun vs us ρ1 H1 S1 _ n1 e1 k1 r1 p1 => by
    cases q : (datas us).bind fun ds => (fits ds).map fun ds => U.d (.lst ds) with
    | none => rw [q] at p1; exact p1.elim
    | some u =>
      rw [q] at p1
      obtain ⟨ds, h1, h2⟩ := Option.bind_eq_some_iff.mp q
      obtain ⟨es, h3, rfl⟩ := Option.map_eq_some_iff.mp h2
      obtain ⟨rfl, hz⟩ := fits_some h3
      have r := r1.datas h1
      refine ⟨by rw [r.length]; exact hz, fun a ha => ?_⟩
      exact p1 ρ1 _ (Nxt.laid ha) (k1.laid ha) _ (Rep.lst (.inl upd_same) (k1.notNew ha) (r.mv ((Nxt.laid ha).mv k1)))
theorem pm_lstC (h : PMA X W es mas) : PM X W (.List es pos) (mLstC mas) :=
  pimpE (pe_lst h) fun σ H Q ⟨ρ, δ, S, e, k, p⟩ => tA.first e k p fun vs us ρ1 H1 S1 _ n1 e1 k1 r1 p1 => by
    cases q : (datas us).bind fits with
    | none => rw [q] at p1; exact p1.elim
    | some u =>
      rw [q] at p1
      obtain ⟨ds, h1, h2⟩ := Option.bind_eq_some_iff.mp q
      obtain ⟨rfl, hz⟩ := fits_some h2
      have r := r1.datas h1
      refine ⟨by rw [r.length]; exact hz, fun a ha => ?_⟩
      refine p1 _ _ (Nxt.cell ha) (k1.cell ha ⟨vs, upd_same, r.mv ((Nxt.cell ha).mv k1)⟩) _ ⟨a, rfl, ?_⟩
      show (ρ1.cs ++ [some a])[S1.length]? = _
      rw [← k1.len, List.getElem?_append_right (Nat.le_refl _)]; simp
end
end DL

set_option Elab.async false
set_option linter.all false
set_option maxRecDepth 100000
set_option maxHeartbeats 4000000
/-! DRules2: the operators and built-ins on data -/
namespace DL
open PySem PySem.Spec PyProof.Rows L2

section
variable {K : Fg} {ρ : Ad} {H : Hp} {S : Store}
/-- a new tuple, a new list of data that stands -/
theorem new_tup {a : Addr} {xs : List V} {ds : List D} {Q : VK} (k : Ok K ρ S H) (ha : H a = none) (r : RepL K (free ρ) H xs ds) (q : ∀ v H', Nxt ρ H ρ H' → Ok K ρ S H' → Rep K (free ρ) H' v (.tup ds) → Q v H') : Q (.ref a) (upd H a (.tup xs)) :=
  q _ _ (Nxt.laid ha) (k.laid ha) (.tup (SqT.of upd_same) (r.mv ((Nxt.laid ha).mv k)))
theorem new_lst {a : Addr} {xs : List V} {ds : List D} {Q : VK} (k : Ok K ρ S H) (ha : H a = none) (r : RepL K (free ρ) H xs ds) (q : ∀ v H', Nxt ρ H ρ H' → Ok K ρ S H' → Rep K (free ρ) H' v (.lst ds) → Q v H') : Q (.ref a) (upd H a (.lst xs)) :=
  q _ _ (Nxt.laid ha) (k.laid ha) (.lst (.inl upd_same) (k.notNew ha) (r.mv ((Nxt.laid ha).mv k)))
end
section
variable {X : Cx} {pins : List (Addr × Obj)} {σ : L2.St} {H : Hp} {s : Shared} {l : Addr} {xs : List V}
theorem lstR (I : Inv X pins σ H s) (hH : Rd H l (.lst xs)) : xs.length ≤ sizeLine ∧ ∃ (its : List Value) (n : Nat), Vals xs its ∧ xs.length = its.length ∧ s.heap.get? l = some { cls := .type "list", data := .seq its.toArray n } := by
  obtain ⟨z, its, n, r, e⟩ := (show ObjOk X.prog X.w H s.heap l (.lst xs) from hH.ok I.hok)
  exact ⟨z, its, n, r, r.length, e⟩
end

/-! ### + -/
def dAdd : D → D → Option D
  | .int i, .int j => some (.int (i + j))
  | .str i, .str j => if i.length + j.length ≤ sizeLine then some (.str (i ++ j)) else none
  | .tup a, .tup b => if a.length + b.length ≤ sizeLine then some (.tup (a ++ b)) else none
  | .lst a, .lst b => if a.length + b.length ≤ sizeLine then some (.lst (a ++ b)) else none
  | .bl a, .int j => some (.int ((if a = true then (1 : Int) else 0) + j))
  | _, _ => none
section
variable {X : Cx}
theorem op_catR : OpR X (binaryOp .Add) (fun x y H Q => ∃ l b xs zs, x = .ref l ∧ y = .ref b ∧ Rd H l (.lst xs) ∧ Rd H b (.lst zs) ∧ xs.length + zs.length ≤ sizeLine ∧ ∀ p, H p = none → Q (.ref p) (upd H p (.lst (xs ++ zs)))) := by
  intro pins s σ H x y v u Q I rx ry h
  obtain ⟨l, b, xs, zs, rfl, rfl, hH, hB, hz, q⟩ := h
  cases rx; cases ry
  obtain ⟨_, i1, n1, r1, l1, e1⟩ := lstR I hH
  obtain ⟨_, i2, n2, r2, l2, e2⟩ := lstR I hB
  refine PySem.P.add_list e1 e2 ?_ (by simp only [List.size_toArray]; omega)
  rw [show i1.toArray ++ i2.toArray = (i1 ++ i2).toArray by simp]
  exact ⟨.ref _, _, I.lnew (t' := s.toks) (r1.append r2) (by rw [List.length_append]; omega), rfl, q _ I.fresh⟩
theorem RepL.nil_iff {K : Fg} {ok : Addr → Prop} {H : Hp} {vs : List V} {ds : List D} (r : RepL K ok H vs ds) : vs = [] ↔ ds = [] := by cases r <;> simp
theorem od_add : OpD X (binaryOp .Add) dAdd := by
  intro pins s σ H x y v u Q I rx ry h
  obtain ⟨ρ, S, d, e, z, k, r1, r2, g, q⟩ := h
  unfold dAdd at g
  split at g
  · cases r1.int; cases r2.int; cases g
    exact op_add pins s σ H _ _ v u Q I rx ry ⟨_, _, rfl, rfl, q _ _ Nxt.refl k (.int _)⟩
  · cases r1.str; cases r2.str
    split at g
    · cases g
      exact op_add_str pins s σ H _ _ v u Q I rx ry ⟨_, _, rfl, rfl, by assumption, q _ _ Nxt.refl k (.str _)⟩
    · cases g
  · obtain ⟨a, xs, rfl, h1, t1⟩ := r1.tup
    obtain ⟨b, ys, rfl, h2, t2⟩ := r2.tup
    split at g
    · rename_i hz
      cases g
      refine op_catA pins s σ H _ _ v u Q I rx ry ⟨a, b, xs, ys, rfl, rfl, h1, h2, by rw [t1.length, t2.length]; exact hz, fun e => ?_, fun n e => ?_, fun n1 n2 p hp => new_tup k hp (t1.append t2) q⟩
      · rw [t1.nil_iff.mp e] at q
        exact q _ _ Nxt.refl k (.tup h2 t2)
      · rw [t2.nil_iff.mp e, List.append_nil] at q
        exact q _ _ Nxt.refl k (.tup h1 t1)
    · cases g
  · obtain ⟨a, xs, rfl, h1, t1⟩ := r1.lst
    obtain ⟨b, ys, rfl, h2, t2⟩ := r2.lst
    split at g
    · rename_i hz
      cases g
      exact op_catR pins s σ H _ _ v u Q I rx ry ⟨a, b, xs, ys, rfl, rfl, h1, h2, by rw [t1.length, t2.length]; exact hz, fun p hp => new_lst k hp (t1.append t2) q⟩
    · cases g
  · cases r1.bl; cases r2.int; cases g
    cases rx
    obtain ⟨t, rfl⟩ := ry
    exact PySem.IntBool.add_bool_int ⟨.int _, H, I.tok _, ⟨_, rfl⟩, q _ _ Nxt.refl k (.int _)⟩
  · cases g
/-! ### -, *, //, %, ** -/
def dSub : D → D → Option D
  | .int i, .int j => some (.int (i - j))
  | .bl a, .int j => some (.int ((if a = true then (1 : Int) else 0) - j))
  | .int i, .bl b => some (.int (i - if b = true then (1 : Int) else 0))
  | _, _ => none
theorem od_sub : OpD X (binaryOp .Sub) dSub := by
  intro pins s σ H x y v u Q I rx ry h
  obtain ⟨ρ, S, d, e, z, k, r1, r2, g, q⟩ := h
  unfold dSub at g
  split at g
  · cases r1.int; cases r2.int; cases g
    exact op_sub pins s σ H _ _ v u Q I rx ry ⟨_, _, rfl, rfl, q _ _ Nxt.refl k (.int _)⟩
  · cases r1.bl; cases r2.int; cases g
    cases rx
    obtain ⟨t, rfl⟩ := ry
    exact PySem.IntBool.sub_bool_int ⟨.int _, H, I.tok _, ⟨_, rfl⟩, q _ _ Nxt.refl k (.int _)⟩
  · cases r1.int; cases r2.bl; cases g
    cases ry
    obtain ⟨t, rfl⟩ := rx
    exact PySem.IntBool.sub_int_bool ⟨.int _, H, I.tok _, ⟨_, rfl⟩, q _ _ Nxt.refl k (.int _)⟩
  · cases g
def mulOk (i j : Int) : Bool := (decide (-(2 ^ 64) < i) && decide (i < 2 ^ 64)) || (decide (-(2 ^ 64) < j) && decide (j < 2 ^ 64))
def dMul : D → D → Option D
  | .int i, .int j => if mulOk i j = true then some (.int (i * j)) else none
  | .lst a, .int j => if 0 ≤ j ∧ j < 1000 ∧ a.length ≤ 1000 then some (.lst (List.replicate j.toNat a).flatten) else none
  | .tup a, .int j => if 2 ≤ j ∧ j ≤ 1000 ∧ a.length ≤ 1000 ∧ a ≠ [] then some (.tup (List.replicate j.toNat a).flatten) else none
  | _, _ => none
theorem mulOk_iff {i j : Int} (h : mulOk i j = true) : CMul i j := by
  unfold mulOk at h
  simp only [Bool.or_eq_true, Bool.and_eq_true, decide_eq_true_eq] at h
  exact h
theorem op_repR : OpR X (binaryOp .Mult) (fun x y H Q => ∃ l k xs, x = .ref l ∧ y = .int k ∧ Rd H l (.lst xs) ∧ -(2 ^ 63) ≤ k ∧ k < 2 ^ 63 ∧ xs.length * k.toNat ≤ sizeLine ∧
    ∀ p, H p = none → Q (.ref p) (upd H p (.lst (List.replicate k.toNat xs).flatten))) := by
  intro pins s σ H x y v u Q I rx ry h
  obtain ⟨l, k, xs, rfl, rfl, hH, b1, b2, hz, q⟩ := h
  cases rx
  obtain ⟨t, rfl⟩ := ry
  obtain ⟨_, its, n, r, hl, e⟩ := lstR I hH
  have z1 : its.toArray.size * k.toNat ≤ sizeLine := by rw [List.size_toArray, ← hl]; exact hz
  have z2 : ¬ its.toArray.size * k.toNat > (2 ^ 63 - 1) / 8 := by
    have : (sizeLine : Nat) ≤ (2 ^ 63 - 1) / 8 := by decide
    omega
  have z3 : ¬ (!Builtin.List.listFitsIndex k) = true := by rw [fitsIndex_both b1 b2]; exact Bool.false_ne_true
  have z4 : ¬ Builtin.List.listTooLong (its.toArray.size * k.toNat) = true := by rw [notLongL z1]; exact Bool.false_ne_true
  have z5 : List.foldl (fun x1 x2 => x1 ++ x2) #[] (List.replicate (if its.toArray.isEmpty = true then 0 else k.toNat) its.toArray) = (List.replicate k.toNat its).flatten.toArray := by
    have f0 : ∀ m : Nat, List.foldl (fun x1 x2 => x1 ++ x2) #[] (List.replicate m its.toArray) = (List.replicate m its).flatten.toArray := fun m => by
      have w := foldl_rep its m []
      rwa [List.nil_append] at w
    rw [f0]
    cases its with
    | nil => simp
    | cons a r' => rw [if_neg (by simp)]
  refine wpAny_binaryOp_repeat_ref (T := "list") (U := "int") (by decide) ⟨_, e, rfl⟩ (fun s' => typeIs_int s' k t) noFill_list_mul F.fills_int_mul F.slot_int_rmul repeat_list F.slot_int_index.lookup
    (call_meets F.slot_int_rmul (typeIs_int s k t) F.entry_int_rmul (F.args_int_rmul_2 _ _) (int___rmul___int_list k t l its.toArray n)
      ⟨e, rfl, ⟨_, e, rfl⟩, call_meets F.slot_list_mul ⟨_, e, rfl⟩ F.entry_list_mul (F.args_list_mul_2 _ _) (AutoListH.list___mul___list_int_3 l its.toArray n k t z3 z2 z4) ⟨e, ?_⟩⟩)
  rw [z5]
  exact ⟨.ref _, _, I.lnew (t' := s.toks) (r.rep k.toNat) (by rw [PyProof.Rows.lm_len_rep_flat, Nat.mul_comm]; exact hz), rfl, q _ I.fresh⟩
theorem RepL.rep {K : Fg} {ok : Addr → Prop} {H : Hp} {vs : List V} {ds : List D} (r : RepL K ok H vs ds) : ∀ n : Nat, RepL K ok H (List.replicate n vs).flatten (List.replicate n ds).flatten
  | 0 => .nil
  | n + 1 => by rw [List.replicate_succ, List.replicate_succ, List.flatten_cons, List.flatten_cons]; exact r.append (r.rep n)
theorem od_mul : OpD X (binaryOp .Mult) dMul := by
  intro pins s σ H x y v u Q I rx ry h
  obtain ⟨ρ, S, d, e, z, k, r1, r2, g, q⟩ := h
  unfold dMul at g
  split at g
  · cases r1.int; cases r2.int
    split at g
    · cases g
      exact op_mul pins s σ H _ _ v u Q I rx ry ⟨_, _, rfl, rfl, mulOk_iff (by assumption), q _ _ Nxt.refl k (.int _)⟩
    · cases g
  · obtain ⟨a, xs, rfl, h1, t1⟩ := r1.lst
    cases r2.int
    split at g
    · rename_i ds j hz
      obtain ⟨z1, z2, z3⟩ := hz
      cases g
      refine op_repR pins s σ H _ _ v u Q I rx ry ⟨a, j, xs, rfl, rfl, h1, by omega, by omega, ?_, fun p hp => new_lst k hp (t1.rep _) q⟩
      rw [t1.length, sizeLine_eq]
      have w : ds.length * j.toNat ≤ 1000 * 1000 := Nat.mul_le_mul z3 (by omega)
      omega
    · cases g
  · obtain ⟨a, xs, rfl, h1, t1⟩ := r1.tup
    cases r2.int
    split at g
    · rename_i ds j hz
      obtain ⟨z1, z2, z3, z4⟩ := hz
      cases g
      exact op_repT pins s σ H _ _ v u Q I rx ry ⟨a, j, xs, rfl, rfl, h1, fun e => z4 (t1.nil_iff.mp e), z1, z2, by rw [t1.length]; exact z3, fun p hp => new_tup k hp (t1.rep _) q⟩
    · cases g
  · cases g
def dFdiv : D → D → Option D
  | .int i, .int j => if j ≠ 0 ∧ j.natAbs < 1073741824 then some (.int (i.fdiv j)) else none
  | _, _ => none
theorem od_fdiv : OpD X (binaryOp .FloorDiv) dFdiv := by
  intro pins s σ H x y v u Q I rx ry h
  obtain ⟨ρ, S, d, e, z, k, r1, r2, g, q⟩ := h
  unfold dFdiv at g
  split at g
  · cases r1.int; cases r2.int
    split at g
    · cases g
      exact op_fdivN pins s σ H _ _ v u Q I rx ry ⟨_, _, rfl, rfl, by assumption, q _ _ Nxt.refl k (.int _)⟩
    · cases g
  · cases g
def dMod : D → D → Option D
  | .int i, .int j => if j ≠ 0 then some (.int (i.fmod j)) else none
  | _, _ => none
theorem od_mod : OpD X (binaryOp .Mod) dMod := by
  intro pins s σ H x y v u Q I rx ry h
  obtain ⟨ρ, S, d, e, z, k, r1, r2, g, q⟩ := h
  unfold dMod at g
  split at g
  · cases r1.int; cases r2.int
    split at g
    · cases g
      exact op_modN pins s σ H _ _ v u Q I rx ry ⟨_, _, rfl, rfl, by assumption, q _ _ Nxt.refl k (.int _)⟩
    · cases g
  · cases g
def dPow : D → D → Option D
  | .int i, .int j => if 0 ≤ j ∧ j ≤ 1000000 ∧ i.natAbs < 2 ^ 64 then some (.int (i ^ j.toNat)) else none
  | _, _ => none
theorem od_pow : OpD X (binaryOp .Pow) dPow := by
  intro pins s σ H x y v u Q I rx ry h
  obtain ⟨ρ, S, d, e, z, k, r1, r2, g, q⟩ := h
  unfold dPow at g
  split at g
  · cases r1.int; cases r2.int
    split at g
    · cases g
      exact op_pow pins s σ H _ _ v u Q I rx ry ⟨_, _, rfl, rfl, by assumption, q _ _ Nxt.refl k (.int _)⟩
    · cases g
  · cases g
def dNeg : D → Option D
  | .int i => some (.int (-i))
  | _ => none
theorem ud_neg : UnD X (unaryOp .USub) dNeg := by
  intro pins s σ H x v Q I rx h
  obtain ⟨ρ, S, d, z, k, r1, g, q⟩ := h
  unfold dNeg at g
  split at g
  · cases r1.int; cases g
    exact un_neg pins s σ H _ v Q I rx ⟨_, rfl, q _ _ Nxt.refl k (.int _)⟩
  · cases g
/-! ### comparisons -/
def eqD (d e : D) : Option Bool :=
  match asV d, asV e with
  | some x, some y => if scal x y = true then some (decide (x = y)) else
    match toPy d, toPy e with
    | some p, some q => if SeqAt.shaped p && SeqAt.shaped q then some (PyData.eqv p q) else none
    | _, _ => none
  | _, _ =>
    match toPy d, toPy e with
    | some p, some q => if SeqAt.shaped p && SeqAt.shaped q then some (PyData.eqv p q) else none
    | _, _ => none
def dEq (d e : D) : Option D := (eqD d e).map D.bl
def dNe (d e : D) : Option D := (eqD d e).map fun b => D.bl (!b)
theorem eqD_cases {d e : D} {b : Bool} (h : eqD d e = some b) : (∃ x y, asV d = some x ∧ asV e = some y ∧ scal x y = true ∧ b = decide (x = y)) ∨ ∃ p q, toPy d = some p ∧ toPy e = some q ∧ SeqAt.shaped p = true ∧ SeqAt.shaped q = true ∧ b = PyData.eqv p q := by
  have two : ∀ {b : Bool}, (match toPy d, toPy e with | some p, some q => if SeqAt.shaped p && SeqAt.shaped q then some (PyData.eqv p q) else none | _, _ => none) = some b → ∃ p q, toPy d = some p ∧ toPy e = some q ∧ SeqAt.shaped p = true ∧ SeqAt.shaped q = true ∧ b = PyData.eqv p q := fun {b} h => by
    split at h
    · rename_i p q h1 h2
      split at h
      · rename_i hs
        cases h
        rw [Bool.and_eq_true] at hs
        exact ⟨p, q, h1, h2, hs.1, hs.2, rfl⟩
      · cases h
    · cases h
  unfold eqD at h
  split at h
  · rename_i x y h1 h2
    split at h
    · cases h; exact .inl ⟨x, y, h1, h2, by assumption, rfl⟩
    · exact .inr (two h)
  · exact .inr (two h)
theorem od_eq (hu : X.A.units + 64 < cLine) : OpD X (compareOp .Eq) dEq := by
  intro pins s σ H x y v u Q I rx ry h
  obtain ⟨ρ, S, d, e, z, k, r1, r2, g, q⟩ := h
  obtain ⟨b, gb, rfl⟩ := Option.map_eq_some_iff.mp g
  rcases eqD_cases gb with ⟨x', y', h1, h2, h3, rfl⟩ | ⟨p, p', h1, h2, h3, h4, rfl⟩
  · cases r1.asV h1; cases r2.asV h2
    exact op_eq pins s σ H _ _ v u Q I rx ry ⟨h3, q _ _ Nxt.refl k (.bl _)⟩
  · exact op_eqD hu pins s σ H _ _ v u Q I rx ry ⟨p, p', r1.dp h1, r2.dp h2, h3, h4, q _ _ Nxt.refl k (.bl _)⟩
theorem od_ne (hu : X.A.units + 64 < cLine) : OpD X (compareOp .NotEq) dNe := by
  intro pins s σ H x y v u Q I rx ry h
  obtain ⟨ρ, S, d, e, z, k, r1, r2, g, q⟩ := h
  obtain ⟨b, gb, rfl⟩ := Option.map_eq_some_iff.mp g
  rcases eqD_cases gb with ⟨x', y', h1, h2, h3, rfl⟩ | ⟨p, p', h1, h2, h3, h4, rfl⟩
  · cases r1.asV h1; cases r2.asV h2
    exact op_ne pins s σ H _ _ v u Q I rx ry ⟨h3, q _ _ Nxt.refl k (.bl _)⟩
  · exact op_neD hu pins s σ H _ _ v u Q I rx ry ⟨p, p', r1.dp h1, r2.dp h2, h3, h4, q _ _ Nxt.refl k (.bl _)⟩
def dCmp (p : Int → Int → Bool) : D → D → Option D
  | .int i, .int j => some (.bl (p i j))
  | _, _ => none
theorem od_cmp {op : CmpOp} {p : Int → Int → Bool} (ho : OpR X (compareOp op) (rI0 fun i j => .bl (p i j))) : OpD X (compareOp op) (dCmp p) := by
  intro pins s σ H x y v u Q I rx ry h
  obtain ⟨ρ, S, d, e, z, k, r1, r2, g, q⟩ := h
  unfold dCmp at g
  split at g
  · cases r1.int; cases r2.int; cases g
    exact ho pins s σ H _ _ v u Q I rx ry ⟨_, _, rfl, rfl, q _ _ Nxt.refl k (.bl _)⟩
  · cases g
abbrev dLt := dCmp fun i j => decide (i < j)
abbrev dLe := dCmp fun i j => decide (i ≤ j)
abbrev dGt := dCmp fun i j => decide (j < i)
abbrev dGe := dCmp fun i j => decide (j ≤ i)
theorem od_lt : OpD X (compareOp .Lt) dLt := od_cmp op_lt
theorem od_le : OpD X (compareOp .LtE) dLe := od_cmp op_le
theorem od_gt : OpD X (compareOp .Gt) dGt := od_cmp op_gt
theorem od_ge : OpD X (compareOp .GtE) dGe := od_cmp op_ge
def isNon : D → Bool
  | .non => true
  | _ => false
def dIs (d e : D) : Option D := if isNon e then some (.bl (isNon d)) else none
def dIsNot (d e : D) : Option D := if isNon e then some (.bl (!isNon d)) else none
theorem isNon_eq {K : Fg} {ρ : Ad} {H : Hp} {v : V} {d : D} (r : RepP K ρ H v d) : decide (v = .non) = isNon d := by
  cases d with
  | non => rw [r.non]; rfl
  | _ => exact decide_eq_false (r.notNon (fun z => by cases z))
theorem od_is : OpD X (compareOp .Is) dIs := by
  intro pins s σ H x y v u Q I rx ry h
  obtain ⟨ρ, S, d, e, z, k, r1, r2, g, q⟩ := h
  unfold dIs at g
  split at g
  · rename_i he
    cases e with
    | non =>
      cases g
      exact op_isN pins s σ H _ _ v u Q I rx ry ⟨r2.non, by rw [isNon_eq r1]; exact q _ _ Nxt.refl k (.bl _)⟩
    | _ => cases he
  · cases g
theorem od_isnot : OpD X (compareOp .IsNot) dIsNot := by
  intro pins s σ H x y v u Q I rx ry h
  obtain ⟨ρ, S, d, e, z, k, r1, r2, g, q⟩ := h
  unfold dIsNot at g
  split at g
  · rename_i he
    cases e with
    | non =>
      cases g
      exact op_notN pins s σ H _ _ v u Q I rx ry ⟨r2.non, by rw [isNon_eq r1]; exact q _ _ Nxt.refl k (.bl _)⟩
    | _ => cases he
  · cases g
/-! ### dicts as data -/
def valD (kvs : List (Key × D)) (k : Key) : Option D := (kvs.find? fun kv => decide (kv.1 = k)).map (·.2)
def keyD : D → Option Key
  | .int i => some (.inl i)
  | .str x => some (.inr x)
  | _ => none
theorem RepP.key {K : Fg} {ρ : Ad} {H : Hp} {v : V} {d : D} {k : Key} (r : RepP K ρ H v d) (e : keyD d = some k) : v = kV k := by
  cases d with
  | int i => cases e; exact r.int
  | str x => cases e; exact r.str
  | _ => cases e
theorem RepK.val {K : Fg} {ok : Addr → Prop} {H : Hp} {k : Key} : ∀ {ks : List (Key × V)} {es : List (Key × D)}, RepK K ok H ks es → (valD es k = none ∧ valV ks k = none) ∨ ∃ v d, valD es k = some d ∧ valV ks k = some v ∧ Rep K ok H v d
  | _, _, .nil => .inl ⟨rfl, rfl⟩
  | _, _, .cons (k := k') h t => by
    unfold valD valV
    rw [List.find?_cons, List.find?_cons]
    by_cases q : k' = k
    · simp only [q, decide_true]
      exact .inr ⟨_, _, rfl, rfl, h⟩
    · simp only [q, decide_false]
      exact t.val
/-! ### in -/
def inD (x : D) : D → Option Bool
  | .tup ds => match asV x, asVs ds with
    | some v, some vs => some (inV v vs)
    | _, _ => none
  | .lst ds => match asV x, asVs ds with
    | some v, some vs => some (inV v vs)
    | _, _ => none
  | .dct es => (keyD x).map fun k => (valD es k).isSome
  | _ => none
def dIn (d e : D) : Option D := (inD d e).map D.bl
def dNotIn (d e : D) : Option D := (inD d e).map fun b => D.bl (!b)
theorem inD_ok {K : Fg} {ρ : Ad} {H : Hp} {x y : V} {d e : D} {b : Bool} (r1 : RepP K ρ H x d) (r2 : RepP K ρ H y e) (h : inD d e = some b) :
    (∃ p xs, y = .ref p ∧ (SqL K H p xs ∨ SqT K H p xs) ∧ flatV x = true ∧ xs.all flatV = true ∧ b = inV x xs) ∨ ∃ a o, y = .ref a ∧ DGet H a x o ∧ b = o.isSome := by
  cases e with
  | tup ds =>
    have h' : (match asV d, asVs ds with | some v, some vs => some (inV v vs) | _, _ => none) = some b := h
    split at h'
    · rename_i v vs h1 h2
      cases h'
      obtain ⟨a, xs, rfl, q, r⟩ := r2.tup
      cases r1.asV h1
      obtain ⟨rfl, fl⟩ := r.asVs h2
      exact .inl ⟨a, xs, rfl, .inr q, asV_flat h1, fl, rfl⟩
    · cases h'
  | lst ds =>
    have h' : (match asV d, asVs ds with | some v, some vs => some (inV v vs) | _, _ => none) = some b := h
    split at h'
    · rename_i v vs h1 h2
      cases h'
      obtain ⟨a, xs, rfl, q, r⟩ := r2.lst
      cases r1.asV h1
      obtain ⟨rfl, fl⟩ := r.asVs h2
      exact .inl ⟨a, xs, rfl, .inl (.inl q), asV_flat h1, fl, rfl⟩
    · cases h'
  | dct es =>
    obtain ⟨k, hk, rfl⟩ := Option.map_eq_some_iff.mp (show (keyD d).map (fun k => (valD es k).isSome) = some b from h)
    obtain ⟨a, ks, rfl, q, r⟩ := r2.dct
    refine .inr ⟨a, valV ks k, rfl, .inl ⟨ks, k, q, r1.key hk, rfl⟩, ?_⟩
    rcases r.val (k := k) with ⟨e1, e2⟩ | ⟨v, d, e1, e2, _⟩ <;> rw [e1, e2] <;> rfl
  | _ => cases h
theorem od_in (hu : X.A.units + 1 < cLine) : OpD X (compareOp .In) dIn := by
  intro pins s σ H x y v u Q I rx ry h
  obtain ⟨ρ, S, d, e, z, k, r1, r2, g, q⟩ := h
  obtain ⟨b, gb, rfl⟩ := Option.map_eq_some_iff.mp g
  rcases inD_ok r1 r2 gb with ⟨p, xs, rfl, h1, h2, h3, rfl⟩ | ⟨a, o, rfl, h1, rfl⟩
  · exact op_in_seq pins s σ H _ _ v u Q I rx ry ⟨p, xs, rfl, h1, h2, h3, q _ _ Nxt.refl k (.bl _)⟩
  · cases ry
    exact d_in hu I h1 rx fun s3 I3 => ⟨.bl o.isSome, H, I3, rfl, q _ _ Nxt.refl k (.bl _)⟩
theorem od_notin (hu : X.A.units + 1 < cLine) : OpD X (compareOp .NotIn) dNotIn := by
  intro pins s σ H x y v u Q I rx ry h
  obtain ⟨ρ, S, d, e, z, k, r1, r2, g, q⟩ := h
  obtain ⟨b, gb, rfl⟩ := Option.map_eq_some_iff.mp g
  rcases inD_ok r1 r2 gb with ⟨p, xs, rfl, h1, h2, h3, rfl⟩ | ⟨a, o, rfl, h1, rfl⟩
  · exact op_notIn_seq pins s σ H _ _ v u Q I rx ry ⟨p, xs, rfl, h1, h2, h3, q _ _ Nxt.refl k (.bl _)⟩
  · cases ry
    exact d_notIn hu I h1 rx fun s3 I3 => ⟨.bl (!o.isSome), H, I3, rfl, q _ _ Nxt.refl k (.bl _)⟩
/-! ### subscripts -/
def dIx : D → D → Option D
  | .tup ds, .int i => atI ds i
  | .lst ds, .int i => atI ds i
  | .fl ds, .int i => atI ds i
  | .str z, .int i => if z.length ≤ sizeLine then (atI z.cps.toList i).map fun c => .str ⟨#[c]⟩ else none
  | .dct es, y => (keyD y).bind fun k => valD es k
  | _, _ => none
theorem RepL.atI {K : Fg} {ok : Addr → Prop} {H : Hp} {vs : List V} {ds : List D} {i : Int} {d : D} (r : RepL K ok H vs ds) (e : L2.atI ds i = some d) : ∃ v, L2.atI vs i = some v ∧ Rep K ok H v d := by
  unfold L2.atI at e ⊢
  rw [r.length]
  obtain ⟨j, h1, h2⟩ := Option.bind_eq_some_iff.mp e
  obtain ⟨v, h3, h4⟩ := r.get h2
  exact ⟨v, by rw [h1]; exact h3, h4⟩
theorem ix_dict (hu : X.A.units + 1 < cLine) : IxR X (fun x y H Q => ∃ a v, x = .ref a ∧ DGet H a y (some v) ∧ Q v H) := by
  intro value slice pins s σ H x y v u Q I rx ry q hs
  obtain ⟨a, w, rfl, g, q⟩ := q
  cases rx
  exact tail_any (dict_typeIs I g) PySem.F.slot_dict_getitem.lookup (d_getItem hu I g ry fun w' s3 I3 r => ⟨w, H, I3, r, q⟩) hs
theorem id_ix (hu : X.A.units + 1 < cLine) : IxR X (rD X.K dIx) := by
  intro value slice pins s σ H x y v u Q I rx ry h hs
  obtain ⟨ρ, S, d, e, z, k, r1, r2, g, q⟩ := h
  unfold dIx at g
  split at g
  · obtain ⟨a, xs, rfl, h1, t1⟩ := r1.tup
    cases r2.int
    obtain ⟨w, e1, e2⟩ := t1.atI g
    exact ix_tup value slice pins s σ H _ _ v u Q I rx ry ⟨a, xs, _, w, rfl, rfl, h1, e1, q _ _ Nxt.refl k e2⟩ hs
  · obtain ⟨a, xs, rfl, h1, t1⟩ := r1.lst
    cases r2.int
    obtain ⟨w, e1, e2⟩ := t1.atI g
    exact ix_list value slice pins s σ H _ _ v u Q I rx ry ⟨a, xs, _, w, rfl, rfl, .inl h1, e1, q _ _ Nxt.refl k e2⟩ hs
  · obtain ⟨a, xs, rfl, h1, t1⟩ := r1.fl
    cases r2.int
    obtain ⟨w, e1, e2⟩ := t1.atI g
    exact ix_list value slice pins s σ H _ _ v u Q I rx ry ⟨a, xs, _, w, rfl, rfl, h1, e1, q _ _ Nxt.refl k e2⟩ hs
  · cases r1.str; cases r2.int
    split at g
    · obtain ⟨c, e1, rfl⟩ := Option.map_eq_some_iff.mp g
      exact ix_str value slice pins s σ H _ _ v u Q I rx ry ⟨_, _, c, rfl, rfl, by assumption, e1, q _ _ Nxt.refl k (.str _)⟩ hs
    · cases g
  · obtain ⟨a, ks, rfl, h1, t1⟩ := r1.dct
    obtain ⟨kk, e1, e2⟩ := Option.bind_eq_some_iff.mp g
    rcases t1.val (k := kk) with ⟨e3, _⟩ | ⟨w, d, e3, e4, e5⟩
    · rw [e2] at e3; cases e3
    · rw [e2] at e3; cases e3
      exact ix_dict hu value slice pins s σ H _ _ v u Q I rx ry ⟨a, w, rfl, .inl ⟨ks, kk, h1, r2.key e1, e4.symm⟩, q _ _ Nxt.refl k e5⟩ hs
  · cases g
end
section
variable {X : Cx} {W : WX} {pos : Pos} {a b c : Expr} {ma mb mc : ME}
theorem pm_ix (hu : X.A.units + 1 < cLine) (ha : PM X W a ma) (hb : PM X W b mb) (hs : PlainIx b := by intros; rfl) : PM X W (.Subscript a b pos) (m2 dIx ma mb) :=
  pimpE (pe_ix (id_ix hu) ha hb hs) fun _ _ _ h => m2_ok (fun _ _ _ _ z => z) h
/-! ### slices -/
abbrev MO := DEnv → Store → Res (Option Int)
def tO (K : Fg) (W : WX) (m : MO) : TO := fun σ H Q => ∃ ρ δ S, EnvOk K ρ H σ δ ∧ Ok K ρ S H ∧ Post K W σ ρ H (m δ S) fun b _ H' => Q b H'
def PMO (X : Cx) (W : WX) (e : Option Expr) (m : MO) : Prop := PO X e (tO X.K W m)
def moNone : MO := fun _ S => .ok none S
def moSome (m : ME) : MO := fun δ S => (m δ S).bind fun u S' => match u with
  | .d (.int i) => .ok (some i) S'
  | _ => .stuck
theorem pmo_none : PMO X W none moNone := ⟨fun pins s σ H Q I ⟨ρ, δ, S, e, k, p⟩ => po_none.run pins s σ H Q I (p.here k)⟩
theorem pmo_some (ha : PM X W a ma) : PMO X W (some a) (moSome ma) := ⟨fun pins s σ H Q I ⟨ρ, δ, S, e, k, p⟩ => (po_some ha).run pins s σ H Q I (by
  refine tE.first e k p fun v u ρ1 H1 S1 _ n1 e1 k1 r1 p1 => ?_
  cases u with
  | loc n => exact p1.elim
  | d x =>
    cases x with
    | int i => cases r1; exact ⟨i, rfl, p1.here k1⟩
    | _ => exact p1.elim)⟩
def cutD (ds : List D) (lo hi : Option Int) : List D := (ds.drop (HT.sIx ds.length 0 lo)).take (HT.sIx ds.length ds.length hi - HT.sIx ds.length 0 lo)
theorem RepL.cut {K : Fg} {ok : Addr → Prop} {H : Hp} {vs : List V} {ds : List D} (r : RepL K ok H vs ds) (lo hi : Option Int) : RepL K ok H (cutV vs lo hi) (cutD ds lo hi) := by
  unfold cutV cutD
  rw [r.length]
  exact (r.drop _).take _
def dSl (d : D) (lo hi : Option Int) : Option D := match d with
  | .tup ds => some (.tup (cutD ds lo hi))
  | .lst ds => some (.lst (cutD ds lo hi))
  | .fl ds => some (.lst (cutD ds lo hi))
  | .str z => if z.length ≤ sizeLine then some (.str (cutS z lo hi)) else none
  | _ => none
def mSl (m : ME) (l h : MO) : ME := fun δ S => (m δ S).bind fun u S1 => (l δ S1).bind fun lo S2 => (h δ S2).bind fun hi S3 => lift (((peek S3 u).bind fun d => dSl d lo hi).map U.d) S3
theorem tO.first {α : Type} {K : Fg} {σ : L2.St} {H : Hp} {ρ : Ad} {δ : DEnv} {S : Store} {m : MO} {f : Option Int → Store → Res α} {good : α → Ad → Hp → Prop} {Q : Option Int → Hp → Prop} (e : EnvOk K ρ H σ δ) (k : Ok K ρ S H) (h : Post K W σ ρ H ((m δ S).bind f) good)
    (hq : ∀ b ρ1 H1 S1, m δ S = .ok b S1 → Nxt ρ H ρ1 H1 → EnvOk K ρ1 H1 σ δ → Ok K ρ1 S1 H1 → Post K W σ ρ1 H1 (f b S1) good → Q b H1) : tO K W m σ H Q := by
  refine ⟨ρ, δ, S, e, k, (Post.bind h).imp fun u ρ1 H1 n q => ?_⟩
  obtain ⟨S1, e1, k1, p⟩ := q
  exact hq u ρ1 H1 S1 e1 n (e.nxt n k) k1 p
theorem cutV_all {xs : List V} {lo hi : Option Int} (h : HT.sIx xs.length 0 lo = 0 ∧ HT.sIx xs.length xs.length hi = xs.length) : cutV xs lo hi = xs := by
  unfold cutV; rw [h.1, h.2]; simp
theorem cutD_all {xs : List D} {lo hi : Option Int} (h : HT.sIx xs.length 0 lo = 0 ∧ HT.sIx xs.length xs.length hi = xs.length) : cutD xs lo hi = xs := by
  unfold cutD; rw [h.1, h.2]; simp
theorem sl_any : SlR X (fun x lo hi H Q => ∃ ρ S d z, Ok X.K ρ S H ∧ RepP X.K ρ H x d ∧ dSl d lo hi = some z ∧ ∀ v H', Nxt ρ H ρ H' → Ok X.K ρ S H' → Rep X.K (free ρ) H' v z → Q v H') := by
  intro pins s σ H x v vl vu lo hi sl Q I rx hs pl pu h
  obtain ⟨ρ, S, d, z, k, r, g, q⟩ := h
  cases d with
  | tup ds =>
    cases g
    obtain ⟨a, xs, rfl, h1, t1⟩ := r.tup
    refine sl_tupA pins s σ H _ v vl vu lo hi sl Q I rx hs pl pu ⟨a, xs, rfl, h1, fun e => ?_, fun e p hp => new_tup k hp (t1.cut lo hi) q⟩
    rw [cutD_all (by rw [← t1.length]; exact e)] at q
    exact q _ _ Nxt.refl k (.tup h1 t1)
  | lst ds =>
    cases g
    obtain ⟨a, xs, rfl, h1, t1⟩ := r.lst
    exact sl_list pins s σ H _ v vl vu lo hi sl Q I rx hs pl pu ⟨a, xs, rfl, .inl h1, fun p hp => new_lst k hp (t1.cut lo hi) q⟩
  | fl ds =>
    cases g
    obtain ⟨a, xs, rfl, h1, t1⟩ := r.fl
    exact sl_list pins s σ H _ v vl vu lo hi sl Q I rx hs pl pu ⟨a, xs, rfl, h1, fun p hp => new_lst k hp (t1.cut lo hi) q⟩
  | str y =>
    have g' : (if y.length ≤ sizeLine then some (D.str (cutS y lo hi)) else none) = some z := g
    cases r.str
    split at g'
    · cases g'
      exact sl_str pins s σ H _ v vl vu lo hi sl Q I rx hs pl pu ⟨_, rfl, by assumption, q _ _ Nxt.refl k (.str _)⟩
    · cases g'
  | _ => cases g
theorem pm_sl {lo hi : Option Expr} {p2 : Pos} {l h : MO} (ha : PM X W a ma) (hl : PMO X W lo l) (hh : PMO X W hi h) : PM X W (.Subscript a (.Slice lo hi none p2) pos) (mSl ma l h) :=
  pimpE (pe_slice sl_any ha hl hh) fun σ H Q ⟨ρ, δ, S, e, k, p⟩ => tE.first e k p fun v u ρ1 H1 S1 _ n1 e1 k1 r1 p1 => tO.first e1 k1 p1 fun lo ρ2 H2 S2 _ n2 e2 k2 p2 => tO.first e2 k2 p2 fun hi ρ3 H3 S3 _ n3 e3 k3 p3 => by
    obtain ⟨z, ez, q⟩ := p3.lifted
    obtain ⟨d, h1, h2⟩ := Option.bind_eq_some_iff.mp ez
    exact ⟨ρ3, S3, d, z, k3, ((r1.nxt n2 k1).nxt n3 k2).peek k3 h1, h2, q⟩
end
end DL

set_option Elab.async false
set_option linter.all false
set_option maxRecDepth 100000
set_option maxHeartbeats 4000000
/-! DRules3: built-ins by name, statements, loops, comprehensions -/
namespace DL
open PySem PySem.Spec PyProof.Rows L2

section
variable {X : Cx}
/-! ### len, min, max, int, tuple, list, repr -/
def dLen : List D → Option D
  | [.tup ds] => some (.int ds.length)
  | [.lst ds] => some (.int ds.length)
  | [.fl ds] => some (.int ds.length)
  | [.str z] => if z.length ≤ sizeLine then some (.int z.length) else none
  | _ => none
theorem RepPs.one {K : Fg} {ρ : Ad} {H : Hp} {xs : List V} {d : D} (h : RepPs K ρ H xs [d]) : ∃ v, xs = [v] ∧ RepP K ρ H v d := by
  cases h with
  | cons h t => cases t; exact ⟨_, rfl, h⟩
theorem RepPs.two {K : Fg} {ρ : Ad} {H : Hp} {xs : List V} {d e : D} (h : RepPs K ρ H xs [d, e]) : ∃ v w, xs = [v, w] ∧ RepP K ρ H v d ∧ RepP K ρ H w e := by
  cases h with
  | cons h t => obtain ⟨w, rfl, r⟩ := t.one; exact ⟨_, _, rfl, h, r⟩
theorem cd_len : CallD X (.builtin "len") dLen := by
  intro pins s σ H xs us Q I r h
  obtain ⟨ρ, S, ds, z, k, rr, g, q⟩ := h
  unfold dLen at g
  split at g
  · obtain ⟨v, rfl, r1⟩ := rr.one
    obtain ⟨a, xs, rfl, h1, t1⟩ := r1.tup
    cases g
    exact call_len pins s σ H _ us Q I r ⟨_, xs.length, rfl, .inr ⟨xs, h1, rfl⟩, by rw [t1.length]; exact q _ _ Nxt.refl k (.int _)⟩
  · obtain ⟨v, rfl, r1⟩ := rr.one
    obtain ⟨a, xs, rfl, h1, t1⟩ := r1.lst
    cases g
    exact call_len pins s σ H _ us Q I r ⟨_, xs.length, rfl, .inl ⟨xs, .inl h1, rfl⟩, by rw [t1.length]; exact q _ _ Nxt.refl k (.int _)⟩
  · obtain ⟨v, rfl, r1⟩ := rr.one
    obtain ⟨a, xs, rfl, h1, t1⟩ := r1.fl
    cases g
    exact call_len pins s σ H _ us Q I r ⟨_, xs.length, rfl, .inl ⟨xs, h1, rfl⟩, by rw [t1.length]; exact q _ _ Nxt.refl k (.int _)⟩
  · obtain ⟨v, rfl, r1⟩ := rr.one
    cases r1.str
    split at g
    · cases g
      exact call_len pins s σ H _ us Q I r ⟨_, _, rfl, ⟨by assumption, rfl⟩, q _ _ Nxt.refl k (.int _)⟩
    · cases g
  · cases g
def dMin : List D → Option D
  | [.int i, .int j] => some (.int (if j < i then j else i))
  | _ => none
def dMax : List D → Option D
  | [.int i, .int j] => some (.int (if j > i then j else i))
  | _ => none
theorem cd_min (hc : X.calm = true) : CallD X (.builtin "min") dMin := by
  intro pins s σ H xs us Q I r h
  obtain ⟨ρ, S, ds, z, k, rr, g, q⟩ := h
  unfold dMin at g
  split at g
  · obtain ⟨v, w, rfl, r1, r2⟩ := rr.two
    cases r1.int; cases r2.int; cases g
    exact call_min2 hc pins s σ H _ us Q I r ⟨_, _, rfl, q _ _ Nxt.refl k (.int _)⟩
  · cases g
theorem cd_max (hc : X.calm = true) : CallD X (.builtin "max") dMax := by
  intro pins s σ H xs us Q I r h
  obtain ⟨ρ, S, ds, z, k, rr, g, q⟩ := h
  unfold dMax at g
  split at g
  · obtain ⟨v, w, rfl, r1, r2⟩ := rr.two
    cases r1.int; cases r2.int; cases g
    exact call_max2 hc pins s σ H _ us Q I r ⟨_, _, rfl, q _ _ Nxt.refl k (.int _)⟩
  · cases g
def dInt : List D → Option D
  | [.int i] => some (.int i)
  | [.bl b] => some (.int (if b then 1 else 0))
  | _ => none
theorem cd_int : CallD X (.type "int") dInt := by
  intro pins s σ H xs us Q I r h
  obtain ⟨ρ, S, ds, z, k, rr, g, q⟩ := h
  unfold dInt at g
  split at g
  · obtain ⟨v, rfl, r1⟩ := rr.one
    cases r1.int; cases g
    exact call_int1 pins s σ H _ us Q I r (.inl ⟨_, rfl, q _ _ Nxt.refl k (.int _)⟩)
  · obtain ⟨v, rfl, r1⟩ := rr.one
    cases r1.bl; cases g
    exact call_int1 pins s σ H _ us Q I r (.inr ⟨_, rfl, q _ _ Nxt.refl k (.int _)⟩)
  · cases g
def dTuple : List D → Option D
  | [.tup ds] => some (.tup ds)
  | [.lst ds] => some (.tup ds)
  | _ => none
theorem cd_tuple : CallD X (.type "tuple") dTuple := by
  intro pins s σ H xs us Q I r h
  obtain ⟨ρ, S, ds, z, k, rr, g, q⟩ := h
  unfold dTuple at g
  split at g
  · obtain ⟨v, rfl, r1⟩ := rr.one
    obtain ⟨a, xs, rfl, h1, t1⟩ := r1.tup
    cases g
    exact call_tuple_of pins s σ H _ us Q I r ⟨a, xs, rfl, .inr ⟨h1, q _ _ Nxt.refl k (.tup h1 t1)⟩⟩
  · obtain ⟨v, rfl, r1⟩ := rr.one
    obtain ⟨a, xs, rfl, h1, t1⟩ := r1.lst
    cases g
    exact call_tuple_of pins s σ H _ us Q I r ⟨a, xs, rfl, .inl ⟨.inl h1, fun p hp => new_tup k hp t1 q⟩⟩
  · cases g
def dList : List D → Option D
  | [.tup ds] => some (.lst ds)
  | [.lst ds] => some (.lst ds)
  | [.fl ds] => some (.lst ds)
  | _ => none
theorem cd_list : CallD X (.type "list") dList := by
  intro pins s σ H xs us Q I r h
  obtain ⟨ρ, S, ds, z, k, rr, g, q⟩ := h
  unfold dList at g
  split at g
  · obtain ⟨v, rfl, r1⟩ := rr.one
    obtain ⟨a, xs, rfl, h1, t1⟩ := r1.tup
    cases g
    exact call_list_of pins s σ H _ us Q I r ⟨a, xs, rfl, .inr h1, fun p hp => new_lst k hp t1 q⟩
  · obtain ⟨v, rfl, r1⟩ := rr.one
    obtain ⟨a, xs, rfl, h1, t1⟩ := r1.lst
    cases g
    exact call_list_of pins s σ H _ us Q I r ⟨a, xs, rfl, .inl (.inl h1), fun p hp => new_lst k hp t1 q⟩
  · obtain ⟨v, rfl, r1⟩ := rr.one
    obtain ⟨a, xs, rfl, h1, t1⟩ := r1.fl
    cases g
    exact call_list_of pins s σ H _ us Q I r ⟨a, xs, rfl, .inl h1, fun p hp => new_lst k hp t1 q⟩
  · cases g
/-- repr: the text that the library's own words give -/
def okR (p : PyData) : Bool := p.showable && decide (p.shown.length ≤ sizeLine) && decide (p.depth ≤ 64) && !p.hasDict
def dRepr : List D → Option D
  | [d] => match toPy d with
    | some p => if okR p = true then some (.str p.shown) else none
    | none => none
  | _ => none
theorem cd_repr (hg : X.A.guards = some []) (hu : X.A.units + 100 < cLine) : CallD X (.builtin "repr") dRepr := by
  intro pins s σ H xs us Q I r h
  obtain ⟨ρ, S, ds, z, k, rr, g, q⟩ := h
  unfold dRepr at g
  split at g
  · obtain ⟨v, rfl, r1⟩ := rr.one
    obtain ⟨u, rfl, rv⟩ := vals1 r
    split at g
    · rename_i d p hp
      split at g
      · rename_i hok
        cases g
        unfold okR at hok
        simp only [Bool.and_eq_true, decide_eq_true_eq, Bool.not_eq_true'] at hok
        obtain ⟨⟨⟨o1, o2⟩, o3⟩, o4⟩ := hok
        have dp := r1.dp hp
        have fin : ∀ (h' : Heap) (tk : Tok) (t' : Nat), (∀ b o, s.heap.get? b = some o → h'.get? b = some o) → EP X pins σ Q (.str p.shown tk) { s with heap := h', toks := t' } := fun h' tk t' hk =>
          ⟨.str p.shown, H, I.kept hk, ⟨_, rfl⟩, q _ _ Nxt.refl k (.str _)⟩
        cases dp with
        | non => cases rv; exact PySem.P.repr_of_none (by simp only [PyData.shown] at fin; exact fin s.heap _ _ fun _ _ e => e)
        | bl b => cases rv; exact PySem.P.repr_of_bool (by simp only [PyData.shown] at fin; exact fin s.heap _ _ fun _ _ e => e)
        | int i =>
          obtain ⟨t, rfl⟩ := rv
          exact PySem.P.repr_of_int (by simpa [PyData.showable] using o1) (by simp only [PyData.shown] at fin; exact fin s.heap _ _ fun _ _ e => e)
        | str x =>
          obtain ⟨t, rfl⟩ := rv
          exact PySem.P.repr_of_str (by simp only [PyData.shown] at fin; exact fin s.heap _ _ fun _ _ e => e) (by simpa only [PyData.shown] using o2)
        | lst h1 h2 =>
          obtain ⟨as, rd⟩ := Dp.reads I _ _ _ (.lst h1 h2) rv
          cases rv
          exact repr_of_reads' rd o1 (fun z => by rw [o4] at z; cases z) hg (by omega) (fun _ _ e => e) (fun h' u tk hk => fin h' u tk hk) o2
        | tup h1 h2 =>
          obtain ⟨as, rd⟩ := Dp.reads I _ _ _ (.tup h1 h2) rv
          cases rv
          exact repr_of_reads' rd o1 (fun z => by rw [o4] at z; cases z) hg (by omega) (fun _ _ e => e) (fun h' u tk hk => fin h' u tk hk) o2
      · cases g
    · cases g
  · cases g
end
section
variable {X : Cx} {W : WX} {pos p : Pos} {a b e : Expr} {es : List Expr} {ma mb : ME} {mas : MA} {x : Str}
theorem pm_callB {id : String} {g : List D → Option D} (hc : CallD X (.builtin id) g) (hg : Gl X x) (hm : X.mg x = none) (hv : bootBuiltins x = some (.builtin id)) (ha : PMA X W (e :: es) mas) (hn : x ≠ "__name__" := by decide) (hdb : (x == ("__debug__" : Str)) = false := by decide)
    (he : starEach (e :: es) X.env = (false, eval e X.env) :: starEach es X.env := by rfl) (hpl : (backTo pos (starEach es X.env)).any (·.1) = false := by rfl) : PM X W (.Call (.Name x p) (e :: es) [] pos) (mCall g mas) :=
  pimpE (pe_callB hc hg hm hv ha hn hdb he hpl) fun _ _ _ h => mCall_ok (fun _ _ _ z => z) h
theorem pm_callTy {T : String} {g : List D → Option D} (hc : CallD X (.type T) g) (hg : Gl X x) (hm : X.mg x = none) (hv : bootBuiltins x = some (.type T)) (ha : PMA X W (e :: es) mas) (hn : x ≠ "__name__" := by decide) (hdb : (x == ("__debug__" : Str)) = false := by decide)
    (he : starEach (e :: es) X.env = (false, eval e X.env) :: starEach es X.env := by rfl) (hpl : (backTo pos (starEach es X.env)).any (·.1) = false := by rfl) : PM X W (.Call (.Name x p) (e :: es) [] pos) (mCall g mas) :=
  pimpE (pe_callTy hc hg hm hv ha hn hdb he hpl) fun _ _ _ h => mCall_ok (fun _ _ _ z => z) h
/-! ### isinstance(x, T) -/
inductive Ty where
  | int | bool | str | tup | lst | dct
  deriving DecidableEq
def Ty.nm : Ty → String
  | .int => "int" | .bool => "bool" | .str => "str" | .tup => "tuple" | .lst => "list" | .dct => "dict"
def isT : Ty → D → Option Bool
  | _, .ref _ => none
  | _, .fn _ => none
  | .int, .int _ => some true
  | .int, .bl _ => some true
  | .bool, .bl _ => some true
  | .str, .str _ => some true
  | .tup, .tup _ => some true
  | .lst, .lst _ => some true
  | .lst, .fl _ => some true
  | .dct, .dct _ => some true
  | _, _ => some false
def tyN : D → String
  | .non => "NoneType" | .bl _ => "bool" | .int _ => "int" | .str _ => "str" | .tup _ => "tuple" | .lst _ => "list" | .fl _ => "list" | .dct _ => "dict" | .ref _ => "" | .fn _ => ""
theorem isT_kit {T : Ty} {d : D} {b : Bool} (h : isT T d = some b) : kitB (tyN d) T.nm = some b := by
  cases T <;> cases d <;> first
    | (cases h; simp only [tyN, Ty.nm]; decide +kernel)
    | cases h
theorem tyN_ok {K : Fg} {ρ : Ad} {H : Hp} {v : V} {d : D} (r : RepP K ρ H v d) (hr : ∀ a, d ≠ .ref a) (hr2 : ∀ x, d ≠ .fn x) : TyX K H v (.type (tyN d)) := by
  cases d with
  | non => rw [r.non]; exact .base .non
  | bl b => rw [r.bl]; exact .base (.bl b)
  | int i => rw [r.int]; exact .base (.int i)
  | str x => rw [r.str]; exact .base (.str x)
  | tup ds =>
    obtain ⟨a, xs, rfl, h, _⟩ := r.tup
    rcases h with (h | ⟨o, h⟩) | ⟨o, its, n, h, hc, _⟩
    · exact .base (.tup h)
    · exact .fTuple h
    · exact .kTuple h hc
  | lst ds =>
    obtain ⟨a, xs, rfl, h, _⟩ := r.lst
    rcases h with h | ⟨o, h⟩
    · exact .base (.lst h)
    · exact .base (.frz h)
  | fl ds =>
    obtain ⟨a, xs, rfl, h, _⟩ := r.fl
    rcases h with (h | ⟨o, h⟩) | ⟨o, its, n, h, hc, _⟩
    · exact .base (.lst h)
    · exact .base (.frz h)
    · exact .kList h hc
  | dct es =>
    obtain ⟨a, ks, rfl, h, _⟩ := r.dct
    rcases h with h | ⟨o, h⟩
    · exact .base (.dK h)
    · exact .fDict h
  | ref a => exact absurd rfl (hr a)
  | fn x => exact absurd rfl (hr2 x)
def mIsi (T : Ty) (m : ME) : ME := fun δ S => (m δ S).bind fun u S' => lift (((peek S' u).bind fun d => (isT T d).map D.bl).map U.d) S'
theorem pm_isi {q : Pos} {y : Str} (T : Ty) (hg : Gl X "isinstance") (hm : X.mg "isinstance" = none) (hgT : Gl X y) (hmT : X.mg y = none) (hvT : bootBuiltins y = some (.type T.nm)) (ha : PM X W a ma) (hn : y ≠ "__name__" := by decide) (hd : (y == ("__debug__" : Str)) = false := by decide)
    (h1 : starEach [a, .Name y q] X.env = (false, eval a X.env) :: starEach [.Name y q] X.env := by rfl) (h2 : starEach [.Name y q] X.env = (false, eval (.Name y q) X.env) :: starEach [] X.env := by rfl) (hpl : (backTo pos (starEach [.Name y q] X.env)).any (·.1) = false := by rfl) :
    PM X W (.Call (.Name "isinstance" p) [a, .Name y q] [] pos) (mIsi T ma) :=
  pimpE (pe_callB call_isi hg hm (by decide +kernel) (pa_cons ha (pa_cons (pe_bltn (v := .ty T.nm) hgT hmT hvT rfl hn hd) pa_nil h2) h1) (by decide) (by decide) h1 hpl) fun σ H Q ⟨ρ, δ, S, e, k, p⟩ => tE.first e k p fun v u ρ1 H1 S1 _ n1 e1 k1 r1 p1 => by
    obtain ⟨z, ez, q⟩ := p1.lifted
    obtain ⟨d, h1, h2⟩ := Option.bind_eq_some_iff.mp ez
    obtain ⟨b, h3, rfl⟩ := Option.map_eq_some_iff.mp h2
    exact ⟨v, .ty T.nm, _, _, b, rfl, .ty _, tyN_ok (r1.peek k1 h1) (fun a ea => by rw [ea] at h3; cases T <;> cases h3) (fun a ea => by rw [ea] at h3; cases T <;> cases h3), kit_ty (isT_kit h3), q _ _ Nxt.refl k1 (.bl b)⟩
/-! ### chains -/
def mChain (g h : D → D → Option D) (ma mb mc : ME) : ME := fun δ S => (ma δ S).bind fun x S1 => (mb δ S1).bind fun y S2 =>
  match peek S2 x, peek S2 y with
  | some d, some e => match g d e with
    | some (.bl true) => (mc δ S2).bind fun z S3 => lift ((match peek S3 y, peek S3 z with | some d, some e => h d e | _, _ => none).map U.d) S3
    | some (.bl false) => .ok (.d (.bl false)) S2
    | _ => .stuck
  | _, _ => .stuck
variable {c : Expr} {mc : ME}
theorem mChain_ok {g h : D → D → Option D} {σ : L2.St} {H : Hp} {Q : VK} (q : tE X.K W (mChain g h ma mb mc) σ H Q) : tChain (rD X.K g) (rD X.K h) (tE X.K W ma) (tE X.K W mb) (tE X.K W mc) σ H Q := by
  obtain ⟨ρ, δ, S, e, k, p⟩ := q
  refine tE.first e k p fun v u ρ1 H1 S1 _ n1 e1 k1 r1 p1 => tE.first e1 k1 p1 fun w u2 ρ2 H2 S2 _ n2 e2 k2 r2 p2 => ?_
  have r1 := r1.nxt n2 k1
  cases h1 : peek S2 u with
  | none => rw [h1] at p2; exact p2.elim
  | some d =>
    cases h2 : peek S2 u2 with
    | none => rw [h1, h2] at p2; exact p2.elim
    | some d2 =>
      rw [h1, h2] at p2
      cases h3 : g d d2 with
      | none => simp only [h3] at p2; exact p2.elim
      | some z =>
        simp only [h3] at p2
        cases z with
        | bl b =>
          refine ⟨ρ2, S2, d, d2, _, k2, r1.peek k2 h1, r2.peek k2 h2, h3, fun v3 H3 n3 k3 r3 => ?_⟩
          cases r3
          cases b with
          | false => exact ⟨false, rfl, by rw [if_neg Bool.false_ne_true]; exact p2 ρ2 H3 n3 k3 _ (.bl false)⟩
          | true =>
            refine ⟨true, rfl, ?_⟩
            rw [if_pos rfl]
            refine tE.first (e2.nxt n3 k2) k3 (p2.from_ n3) fun v4 u4 ρ4 H4 S4 _ n4 e4 k4 r4 p4 => ?_
            obtain ⟨z, ez, q⟩ := p4.lifted
            split at ez
            · rename_i d4 e4' h4 h5
              exact ⟨ρ4, S4, d4, e4', z, k4, ((r2.nxt n3 k2).nxt n4 k3).peek k4 h4, r4.peek k4 h5, ez, q⟩
            · cases ez
        | _ => exact p2.elim
theorem pm_chain {op op' : CmpOp} {g h : D → D → Option D} (ho : OpD X (compareOp op) g) (ho' : OpD X (compareOp op') h) (ha : PM X W a ma) (hb : PM X W b mb) (hc : PM X W c mc)
    (hm : lastMarks [op, op'] [b, c] = false := by with_unfolding_all rfl) : PM X W (.Compare a [op, op'] [b, c] pos) (mChain g h ma mb mc) :=
  pimpE (pe_chain ho ho' ha hb hc hm) fun _ _ _ q => mChain_ok q
theorem pmt_chain {op op' : CmpOp} {g h : D → D → Option D} (ho : OpD X (compareOp op) g) (ho' : OpD X (compareOp op') h) (ha : PM X W a ma) (hb : PM X W b mb) (hc : PM X W c mc)
    (hm : lastMarks [op, op'] [b, c] = false := by with_unfolding_all rfl) : PMT X W (.Compare a [op, op'] [b, c] pos) (mTest (mChain g h ma mb mc)) :=
  pimpT (pt_chain ho ho' ha hb hc hm) fun σ H Q ⟨ρ, δ, S, e, k, p⟩ => by
    have : tTest (tE X.K W (mChain g h ma mb mc)) σ H Q := mTest_ok ⟨ρ, δ, S, e, k, p⟩
    exact mChain_ok this
end

/-! ### statements -/
def mSet (i : Nat) (m : ME) : MS := fun _ δ S => (m δ S).inS δ fun u S1 => .next (δ.set i (some u)) S1
def mExpr (m : ME) : MS := fun _ δ S => (m δ S).inS δ fun _ S1 => .next δ S1
def mRet (m : ME) : MS := fun _ δ S => (m δ S).inS δ fun u S1 => .ret u S1
def mRetN : MS := fun _ _ S => .ret (.d .non) S
def mIfS (c : MT) (m n : MS) : MS := fun b δ S => (c δ S).inS δ fun t S1 => if t then m b δ S1 else n b δ S1
def mSkip : MS := fun _ δ S => .next δ S
def mBrk : MS := fun _ δ S => .brk δ S
def mCont : MS := fun _ δ S => .cont δ S
def SR.then_ (r : SR) (f : DEnv → Store → SR) : SR := match r with
  | .next δ S => f δ S
  | r => r
@[simp] theorem SR.next_then (δ : DEnv) (S : Store) (f : DEnv → Store → SR) : (SR.next δ S).then_ f = f δ S := rfl
@[simp] theorem SR.ret_then (u : U) (S : Store) (f : DEnv → Store → SR) : (SR.ret u S).then_ f = .ret u S := rfl
@[simp] theorem SR.brk_then (δ : DEnv) (S : Store) (f : DEnv → Store → SR) : (SR.brk δ S).then_ f = .brk δ S := rfl
@[simp] theorem SR.cont_then (δ : DEnv) (S : Store) (f : DEnv → Store → SR) : (SR.cont δ S).then_ f = .cont δ S := rfl
@[simp] theorem SR.exc_then (x : XD) (δ : DEnv) (S : Store) (f : DEnv → Store → SR) : (SR.exc x δ S).then_ f = .exc x δ S := rfl
@[simp] theorem SR.stuck_then (f : DEnv → Store → SR) : (SR.stuck).then_ f = .stuck := rfl
def mSeq (m n : MS) : MS := fun b δ S => (m b δ S).then_ fun δ' S' => n b δ' S'
section
variable {X : Cx} {W : WX} {pos : Pos} {e c : Expr} {m n : MS} {me : ME} {mt : MT} {st : Stmt} {rest as bs : List Stmt}
theorem pms_set {i : Nat} {x : Str} {pos' : Pos} (hN : X.N.Nodup) (hi : X.N[i]? = some x) (hx : Loc X.env.scope x) (he : PM X W e me) (hs : swapsWith e (some (.Name x pos')) pos.line X.env = pure false := by rfl) (hf : X.fn x = true ∨ X.env.scope.names.lookup x = some .local := by first | exact .inl rfl | exact .inr rfl | assumption) :
    PMS X W (.Assign [.Name x pos'] e pos) (mSet i me) :=
  pimpS (ps_set hN hi hx he hs hf) fun D σ H ⟨ρ0, H0, ρ, δ, S, n0, e, k, p⟩ => tE.inS n0 e k p fun v u ρ1 H1 S1 _ n1 e1 k1 r1 p1 => p1 _ ρ1 H1 n1 k1 (e1.set r1)
theorem pms_expr (he : PM X W e me) (hs : swapsWith e none pos.line X.env = pure false := by rfl) : PMS X W (.Expr e pos) (mExpr me) :=
  pimpS (ps_expr he hs) fun D σ H ⟨ρ0, H0, ρ, δ, S, n0, e, k, p⟩ => tE.inS n0 e k p fun v u ρ1 H1 S1 _ n1 e1 k1 r1 p1 => p1 _ ρ1 H1 n1 k1 e1
theorem pms_ret (he : PM X W e me) : PMS X W (.Return (some e) pos) (mRet me) :=
  pimpS (ps_ret he) fun D σ H ⟨ρ0, H0, ρ, δ, S, n0, e, k, p⟩ => tE.inS n0 e k p fun v u ρ1 H1 S1 _ n1 e1 k1 r1 p1 => p1 v ρ1 H1 n1 k1 r1
theorem pms_retN : PMS X W (.Return none pos) mRetN :=
  pimpS ps_retN fun D σ H ⟨ρ0, H0, ρ, δ, S, n0, e, k, p⟩ => p .non ρ H n0 k .non
theorem pms_pass : PMS X W (.Pass pos) mSkip := pimpS ps_pass fun D σ H ⟨ρ0, H0, ρ, δ, S, n0, e, k, p⟩ => p σ ρ H n0 k e
theorem pms_break : PMS X W (.Break pos) mBrk := pimpS ps_break fun D σ H ⟨ρ0, H0, ρ, δ, S, n0, e, k, p⟩ => p σ ρ H n0 k e
theorem pms_continue : PMS X W (.Continue pos) mCont := pimpS ps_continue fun D σ H ⟨ρ0, H0, ρ, δ, S, n0, e, k, p⟩ => p σ ρ H n0 k e
theorem pms_if (hc : PMT X W c mt) (ha : PMSs X W as m) (hb : PMSs X W bs n) : PMS X W (.If c as bs pos) (mIfS mt m n) :=
  pimpS (ps_if hc ha hb) fun D σ H ⟨ρ0, H0, ρ, δ, S, n0, e, k, p⟩ => tT.inS n0 e k p fun b ρ1 H1 S1 _ n1 e1 k1 p1 => by
    cases b with
    | true => rw [if_pos rfl]; exact ⟨ρ0, H0, ρ1, δ, S1, n1, e1, k1, p1⟩
    | false => rw [if_neg Bool.false_ne_true]; exact ⟨ρ0, H0, ρ1, δ, S1, n1, e1, k1, p1⟩
theorem pmss_nil : PMSs X W [] mSkip := pimpSs pss_nil fun D σ H ⟨ρ0, H0, ρ, δ, S, n0, e, k, p⟩ => p σ ρ H n0 k e
theorem pmss_one (h : PMS X W st m) : PMSs X W [st] m := pss_one h
theorem PostS.then_ {K : Fg} {ρ0 : Ad} {H0 : Hp} {r : SR} {D : Ends} (p : PostS K W ρ0 H0 (r.then_ fun δ' S' => n ρ0.cs.length δ' S') D) : PostS K W ρ0 H0 r { D with nx := tS K W n D } := by
  cases r with
  | next δ S => exact fun σ' ρ' H' n' k' e' => ⟨ρ0, H0, ρ', δ, S, n', e', k', p⟩
  | ret u S => exact p
  | brk δ S => exact p
  | cont δ S => exact p
  | exc x δ S => exact p
  | stuck => exact p
theorem pmss_cons (h1 : PMS X W st m) (h2 : PMSs X W rest n) : PMSs X W (st :: rest) (mSeq m n) :=
  pimpSs (pss_cons h1 h2) fun D σ H ⟨ρ0, H0, ρ, δ, S, n0, e, k, p⟩ => ⟨ρ0, H0, ρ, δ, S, n0, e, k, PostS.then_ p⟩
end
end DL

set_option Elab.async false
set_option linter.all false
set_option maxRecDepth 100000
set_option maxHeartbeats 4000000
/-! DRules4: targets, what is walked, for, comprehensions, defs and their calls -/
namespace DL
open PySem PySem.Spec PyProof.Rows L2

/-! ### targets: a name, a tuple of names -/
inductive Tg where
  | nm (i : Nat)
  | tp (is : List Nat)
def setAll : List Nat → List D → DEnv → Option DEnv
  | [], [], δ => some δ
  | i :: is, d :: ds, δ => setAll is ds (δ.set i (some (.d d)))
  | _, _, _ => none
def Tg.apply : Tg → U → DEnv → Option DEnv
  | .nm i, u, δ => some (δ.set i (some u))
  | .tp is, .d (.tup ds), δ => setAll is ds δ
  | .tp _, _, _ => none
def Tg.slots : Tg → List Nat
  | .nm i => [i]
  | .tp is => is
/-- the same but for the slots vs -/
def Apart (vs : List Nat) (σ σ' : L2.St) : Prop := σ.length = σ'.length ∧ ∀ j, j ∉ vs → σ[j]? = σ'[j]?
theorem Apart.refl {vs : List Nat} {σ : L2.St} : Apart vs σ σ := ⟨rfl, fun _ _ => rfl⟩
theorem Apart.trans {vs : List Nat} {σ σ1 σ2 : L2.St} (a : Apart vs σ σ1) (b : Apart vs σ1 σ2) : Apart vs σ σ2 := ⟨a.1.trans b.1, fun j h => (a.2 j h).trans (b.2 j h)⟩
theorem Apart.mono {vs ws : List Nat} {σ σ' : L2.St} (a : Apart vs σ σ') (h : ∀ i ∈ vs, i ∈ ws) : Apart ws σ σ' := ⟨a.1, fun j hj => a.2 j fun z => hj (h j z)⟩
theorem Apart.set {vs : List Nat} {σ : L2.St} {i : Nat} {x : Option V} (h : i ∈ vs) : Apart vs σ (σ.set i x) :=
  ⟨by simp, fun j hj => by rw [List.getElem?_set_ne (fun e => hj (by rw [← e]; exact h))]⟩
theorem wipe_at {σ : L2.St} (j : Nat) : ∀ vs : List Nat, (wipe σ vs)[j]? = if j ∈ vs then (σ[j]?).map (fun _ => none) else σ[j]?
  | [] => by simp [wipe]
  | v :: vs => by
    unfold wipe
    by_cases hv : v = j
    · subst hv
      rw [if_pos (List.mem_cons_self ..)]
      by_cases hl : v < σ.length
      · rw [List.getElem?_set_self (by rw [wipe_length]; exact hl), List.getElem?_eq_getElem hl]; rfl
      · rw [List.getElem?_eq_none (by simp [wipe_length]; omega), List.getElem?_eq_none (by omega)]; rfl
    · rw [List.getElem?_set_ne hv, wipe_at j vs]
      have : j ∈ v :: vs ↔ j ∈ vs := by simp [Ne.symm hv]
      simp only [this]
theorem Apart.wipe {vs : List Nat} {σ σ' : L2.St} (a : Apart vs σ σ') : wipe σ' vs = wipe σ vs := by
  apply List.ext_getElem?
  intro j
  rw [wipe_at, wipe_at]
  by_cases h : j ∈ vs
  · rw [if_pos h, if_pos h]
    have hl := a.1
    by_cases hj : j < σ.length
    · rw [List.getElem?_eq_getElem hj, List.getElem?_eq_getElem (by omega)]; rfl
    · rw [List.getElem?_eq_none (by omega), List.getElem?_eq_none (by omega)]
  · rw [if_neg h, if_neg h, a.2 j h]
def tG (K : Fg) (t : Tg) : TG := fun v σ H Q => ∃ ρ S δ u δ', EnvOk K ρ H σ δ ∧ Ok K ρ S H ∧ RepU K ρ H v u ∧ t.apply u δ = some δ' ∧ ∀ σ', EnvOk K ρ H σ' δ' → Apart t.slots σ σ' → Q σ' H
def tGs (K : Fg) (is : List Nat) : TGs := fun vs σ H Q => ∃ ρ S δ ds δ', EnvOk K ρ H σ δ ∧ Ok K ρ S H ∧ RepL K (free ρ) H vs ds ∧ setAll is ds δ = some δ' ∧ ∀ σ', EnvOk K ρ H σ' δ' → Apart is σ σ' → Q σ' H
def PMG (X : Cx) (e : Expr) (t : Tg) : Prop := PG X e (tG X.K t)
def PMGs (X : Cx) (es : List Expr) (is : List Nat) : Prop := PGs X es (tGs X.K is)
section
variable {X : Cx} {W : WX} {pos : Pos}
theorem pmg_name {i : Nat} {x : Str} (hN : X.N.Nodup) (hi : X.N[i]? = some x) (hx : Loc X.env.scope x) (hf : X.fn x = true ∨ X.env.scope.names.lookup x = some .local := by first | exact .inl rfl | exact .inr rfl | assumption) : PMG X (.Name x pos) (.nm i) :=
  ⟨fun pins s σ H v u Q I r ⟨ρ, S, δ, w, δ', e, k, rw, ea, q⟩ => (pg_name hN hi hx hf).run pins s σ H v u Q I r (by
    cases ea
    exact q _ (e.set rw) (Apart.set (List.mem_singleton.mpr rfl)))⟩
theorem pmgs_nil : PMGs X [] [] := ⟨fun pins s σ H vs us Q I r ⟨ρ, S, δ, ds, δ', e, k, rl, ea, q⟩ => pgs_nil.run pins s σ H vs us Q I r (by
  cases rl with
  | nil => cases ea; exact ⟨rfl, q σ e Apart.refl⟩
  | cons _ _ => cases ea)⟩
theorem pmgs_cons {i : Nat} {is : List Nat} {x : Str} {es : List Expr} {p : Pos} (hN : X.N.Nodup) (hi : X.N[i]? = some x) (hx : Loc X.env.scope x) (h2 : PMGs X es is) (hf : X.fn x = true ∨ X.env.scope.names.lookup x = some .local := by first | exact .inl rfl | exact .inr rfl | assumption)
    (hs : (assignEach (.Name x p :: es) X.env).map (·.2) = assign (.Name x p) X.env :: (assignEach es X.env).map (·.2) := by rfl) : PMGs X (.Name x p :: es) (i :: is) :=
  ⟨fun pins s σ H vs us Q I r ⟨ρ, S, δ, ds, δ', e, k, rl, ea, q⟩ => (pgs_cons (pg_name hN hi hx hf) h2 hs).run pins s σ H vs us Q I r (by
    cases rl with
    | nil => cases ea
    | cons h t =>
      refine ⟨_, _, rfl, ?_⟩
      exact ⟨ρ, S, _, _, δ', e.set (u := .d _) h, k, t, ea, fun σ' e' a => q σ' e' ((Apart.set (List.mem_cons_self ..)).trans (a.mono fun j hj => List.mem_cons_of_mem _ hj))⟩)⟩
theorem setAll_len : ∀ {is : List Nat} {ds : List D} {δ δ' : DEnv}, setAll is ds δ = some δ' → is.length = ds.length
  | [], [], _, _, _ => rfl
  | i :: is, d :: ds, δ, δ', h => congrArg (· + 1) (setAll_len (is := is) (ds := ds) h)
  | [], _ :: _, _, _, h => by cases h
  | _ :: _, [], _, _, h => by cases h
theorem pmg_tup {es : List Expr} {j : Nat} {is : List Nat} (hc : X.calm = true) (h : PMGs X es is) (hn : (assignEach es X.env).length = is.length := by rfl) (hst : (assignEach es X.env).findIdx? (·.1) = none := by rfl) : PMG X (.Tuple es j pos) (.tp is) :=
  ⟨fun pins s σ H v u Q I r ⟨ρ, S, δ, w, δ', e, k, rw, ea, q⟩ => (pg_tup hc h hn hst).run pins s σ H v u Q I r (by
    cases w with
    | loc n => cases ea
    | d x =>
      cases x with
      | tup ds =>
        cases rw with
        | tup ht rl => exact ⟨_, _, rfl, ht, by rw [rl.length]; exact (setAll_len ea).symm, ρ, S, δ, ds, δ', e, k, rl, ea, q⟩
      | _ => cases ea)⟩
/-- target = value -/
def mAsg (m : ME) (t : Tg) : MS := fun _ δ S => (m δ S).inS δ fun u S1 => match t.apply u δ with
  | some δ' => .next δ' S1
  | none => .stuck
theorem pms_asg {tg e : Expr} {me : ME} {t : Tg} (he : PM X W e me) (hg : PMG X tg t) (hs : swapsWithSole [tg] e pos.line X.env = pure false := by rfl) (hw : swappedStores [tg] e X.env = pure none := by rfl)
    (h1 : (assignEach [tg] X.env).map (·.2) = [assign tg X.env] := by rfl) : PMS X W (.Assign [tg] e pos) (mAsg me t) :=
  pimpS (ps_asg he hg hs hw h1) fun D σ H ⟨ρ0, H0, ρ, δ, S, n0, e, k, p⟩ => tE.inS n0 e k p fun v u ρ1 H1 S1 _ n1 e1 k1 r1 p1 => by
    cases q : t.apply u δ with
    | none => simp only [q] at p1; exact p1.elim
    | some δ' =>
      simp only [q] at p1
      exact ⟨ρ1, S1, δ, u, δ', e1, k1, r1, q, fun σ' e' _ => p1 σ' ρ1 H1 n1 k1 e'⟩
end

/-! ### what is walked -/
/-- a later moment, whatever was reserved -/
structure Lat (ρ : Ad) (H : Hp) (ρ' : Ad) (H' : Hp) : Prop where
  keep : ∀ a o, H a = some o → free ρ a → H' a = some o
  fr : ∀ a, H a ≠ none → free ρ a → free ρ' a
section
variable {K : Fg} {ρ ρ' ρ1 : Ad} {H H' H1 : Hp} {S S' : Store}
theorem Nxt.lat (n : Nxt ρ H ρ' H') : Lat ρ H ρ' H' := ⟨fun a o h f => n.keep a o h f.1, fun a h f => ⟨fun z => (n.new a z).elim f.1 h, by rw [n.rs]; exact f.2⟩⟩
theorem Lat.rd (n : Lat ρ H ρ' H') {a : Addr} {u : HO} (h : Rd H a u) (f : free ρ a) : Rd H' a u ∧ free ρ' a := by
  refine ⟨?_, n.fr a (rd_some h) f⟩
  rcases h with h | ⟨o, h⟩
  · exact .inl (n.keep _ _ h f)
  · exact .inr ⟨o, n.keep _ _ h f⟩
theorem Lat.mv (n : Lat ρ H ρ' H') (k : Ok K ρ S H) : Mv K (free ρ) (free ρ') H H' := ⟨fun _ _ h => (n.rd h (k.tupFree h)).1, fun _ _ h f => n.rd h f⟩
/-- J yields the data ds, whatever comes meanwhile -/
structure Wk (K : Fg) (ρ : Ad) (H : Hp) (J : It) (ds : List D) : Prop where
  go : ∀ i d ρ' S' H', ds[i]? = some d → Lat ρ H ρ' H' → Ok K ρ' S' H' → J.go i H'
  yld : ∀ i d ρ' S' H' x H'', ds[i]? = some d → Lat ρ H ρ' H' → Ok K ρ' S' H' → J.yld i H' x H'' → Nxt ρ' H' ρ' H'' ∧ Ok K ρ' S' H'' ∧ Rep K (free ρ') H'' x d
  stop : ∀ ρ' S' H', Lat ρ H ρ' H' → Ok K ρ' S' H' → J.stop ds.length H'
theorem Wk.tup {a : Addr} {xs : List V} {ds : List D} (k : Ok K ρ S H) (h : SqT K H a xs) (r : RepL K (free ρ) H xs ds) : Wk K ρ H (Itt K a) ds := by
  have sq : ∀ {ρ' H'}, Lat ρ H ρ' H' → SqT K H' a xs := fun n => h.elim (fun z => .inl (n.rd z (k.tupFree z)).1) .inr
  refine ⟨fun i d ρ' S' H' e n k' => ?_, fun i d ρ' S' H' x H'' e n k' y => ?_, fun ρ' S' H' n k' => ⟨xs, sq n, by rw [r.length]; exact Nat.le_refl _⟩⟩
  · obtain ⟨v, hv, _⟩ := r.get e
    exact ⟨xs, v, sq n, hv⟩
  · obtain ⟨rfl, y⟩ := y
    obtain ⟨v, hv, rv⟩ := r.get e
    have := y xs (sq n)
    rw [hv] at this; cases this
    exact ⟨Nxt.refl, k', rv.mv (n.mv k)⟩
theorem Wk.lst {a : Addr} {xs : List V} {ds : List D} (k : Ok K ρ S H) (h : FzL K (free ρ) H a xs) (r : RepL K (free ρ) H xs ds) : Wk K ρ H (Itl K a) ds := by
  have sq : ∀ {ρ' H'}, Lat ρ H ρ' H' → SqL K H' a xs := fun n => h.elim (fun z => .inl (n.rd z.1 z.2).1) .inr
  -- a list reads as one list alone
  have one : ∀ {ρ' H'} {ys : List V}, Lat ρ H ρ' H' → SqL K H' a ys → True := fun _ _ => trivial
  refine ⟨fun i d ρ' S' H' e n k' => ?_, fun i d ρ' S' H' x H'' e n k' y => ?_, fun ρ' S' H' n k' => ⟨xs, sq n, by rw [r.length]; exact Nat.le_refl _⟩⟩
  · obtain ⟨v, hv, _⟩ := r.get e
    exact ⟨xs, v, sq n, hv⟩
  · obtain ⟨rfl, y⟩ := y
    obtain ⟨v, hv, rv⟩ := r.get e
    have := y xs (sq n)
    rw [hv] at this; cases this
    exact ⟨Nxt.refl, k', rv.mv (n.mv k)⟩
def rangeD (lo : Int) (n : Nat) : List D := (List.range n).map fun (i : Nat) => D.int (lo + (i : Int))
theorem rangeD_at {lo : Int} {n i : Nat} {d : D} (h : (rangeD lo n)[i]? = some d) : i < n ∧ d = .int (lo + i) := by
  unfold rangeD at h
  rw [List.getElem?_map] at h
  obtain ⟨j, h1, rfl⟩ := Option.map_eq_some_iff.mp h
  obtain ⟨h2, h3⟩ := List.getElem?_eq_some_iff.mp h1
  rw [List.length_range] at h2
  rw [List.getElem_range] at h3
  exact ⟨h2, by rw [h3]⟩
theorem Wk.range (lo : Int) (n : Nat) : Wk K ρ H (Itr lo n) (rangeD lo n) := by
  refine ⟨fun i d ρ' S' H' e m k' => (rangeD_at e).1, fun i d ρ' S' H' x H'' e m k' y => ?_, fun ρ' S' H' m k' => ?_⟩
  · obtain ⟨rfl, rfl⟩ := y
    rw [(rangeD_at e).2]
    exact ⟨Nxt.refl, k', .int _⟩
  · show n ≤ _
    unfold rangeD; simp
end
abbrev MI := DEnv → Store → Res (List D)
def tI (K : Fg) (W : WX) (m : MI) : TI := fun σ H R => ∃ ρ δ S, EnvOk K ρ H σ δ ∧ Ok K ρ S H ∧ Post K W σ ρ H (m δ S) fun ds ρ' H' => ∀ J S', Ok K ρ' S' H' → Wk K ρ' H' J ds → R J H'
def PMI (X : Cx) (W : WX) (tg iter : Expr) (m : MI) : Prop := PI X tg iter (tI X.K W m)
/-- a sequence walked (no cell) -/
def seqD : D → Option (List D)
  | .tup ds => some ds
  | .lst ds => some ds
  | .fl ds => some ds
  | _ => none
def mSeqI (m : ME) : MI := fun δ S => (m δ S).bind fun u S' => match u with
  | .d x => lift (seqD x) S'
  | .loc _ => .stuck
section
variable {X : Cx} {W : WX} {pos p : Pos} {tg e : Expr} {me : ME}
theorem pmi_seq (he : PM X W e me) : PMI X W tg e (mSeqI me) := by
  refine ⟨fun pins s σ H R I ⟨ρ, δ, S, en, k, p⟩ => ?_⟩
  -- as a list or as a tuple
  have both : PI X tg e (fun σ H R => tE X.K W me σ H fun x H1 => (∃ a, x = .ref a ∧ (∃ xs, SqL X.K H1 a xs) ∧ R (Itl X.K a) H1) ∨ ∃ a, x = .ref a ∧ (∃ xs, SqT X.K H1 a xs) ∧ R (Itt X.K a) H1) := by
    refine ⟨fun pins s σ H R I h => ?_⟩
    refine thn (he.run pins s σ H _ I h) fun v s1 ⟨x, H1, I1, r1, q1⟩ => ?_
    rcases q1 with ⟨a, rfl, ⟨xs, hq⟩, q⟩ | ⟨a, rfl, ⟨xs, hq⟩, q⟩ <;> cases r1
    · obtain ⟨its, rv, pl, hz⟩ := I1.list hq
      refine wpAny_pyIter_list pl.isList ⟨s1.heap.objs.size, [s1.heap.objs.size], _, _, H1, rfl, I1.kept (t' := s1.toks) fun b o e => Heap.get?_push_of_some _ e, turn_list a _, ⟨_, Heap.get?_push_size _ rfl, rfl, rfl⟩, fun b hb => ?_, q⟩
      cases List.mem_singleton.mp hb
      exact I1.fpOk (Nat.le_refl _) (I1.hok.fresh (Nat.le_refl _))
    · obtain ⟨its, rv, pl, hz⟩ := I1.tuple hq
      refine wpAny_pyIter_tuple (show s1.heap.IsTuple a its.toArray from pl) ⟨s1.heap.objs.size, [s1.heap.objs.size], _, _, H1, rfl, I1.kept (t' := s1.toks) fun b o e => Heap.get?_push_of_some _ e, turn_tuple a _, ⟨_, Heap.get?_push_size _ rfl, rfl, rfl⟩, fun b hb => ?_, q⟩
      cases List.mem_singleton.mp hb
      exact I1.fpOk (Nat.le_refl _) (I1.hok.fresh (Nat.le_refl _))
  refine both.run pins s σ H R I (tE.first en k p fun v u ρ1 H1 S1 _ n1 e1 k1 r1 p1 => ?_)
  cases u with
  | loc n => exact p1.elim
  | d x =>
    cases q : seqD x with
    | none => simp only [q] at p1; exact p1.elim
    | some ds =>
      simp only [q] at p1
      have fin := p1.here k1
      cases x with
      | tup es => cases q; cases r1 with | tup h r => exact .inr ⟨_, rfl, ⟨_, h⟩, fin _ S1 k1 (Wk.tup k1 h r)⟩
      | lst es => cases q; cases r1 with | lst h o r => exact .inl ⟨_, rfl, ⟨_, .inl h⟩, fin _ S1 k1 (Wk.lst k1 (.inl ⟨h, o⟩) r)⟩
      | fl es => cases q; cases r1 with | fl h r => exact .inl ⟨_, rfl, ⟨_, h.sq⟩, fin _ S1 k1 (Wk.lst k1 h r)⟩
      | _ => cases q
def mRange1 (m : ME) : MI := fun δ S => (m δ S).bind fun u S' => match u with
  | .d (.int j) => if j < 4611686018427387904 ∧ -4611686018427387904 ≤ j then .ok (rangeD 0 j.toNat) S' else .stuck
  | _ => .stuck
theorem pmi_range1 {a : Expr} (hg : Gl X "range") (hm : X.mg "range" = none) (ha : PM X W a me) (h1 : starEach [a] X.env = (false, eval a X.env) :: starEach [] X.env := by rfl) (hs : starEach [a] X.env = [(false, eval a X.env)] := by rfl) : PMI X W tg (.Call (.Name "range" p) [a] [] pos) (mRange1 me) :=
  ⟨fun pins s σ H R I ⟨ρ, δ, S, en, k, q⟩ => (pi_range1 (tg := tg) hg hm (pa_cons ha pa_nil h1) hs).run pins s σ H R I (tE.first en k q fun v u ρ1 H1 S1 _ n1 e1 k1 r1 p1 => by
    cases u with
    | loc n => exact p1.elim
    | d x =>
      cases x with
      | int j =>
        cases r1
        by_cases hz : j < 4611686018427387904 ∧ -4611686018427387904 ≤ j
        · simp only [if_pos hz] at p1
          refine ⟨j, rfl, by omega, by omega, p1.here k1 _ S1 k1 (Wk.range 0 j.toNat)⟩
        · simp only [if_neg hz] at p1; exact p1.elim
      | _ => exact p1.elim)⟩
def mRange2 (m n : ME) : MI := fun δ S => (m δ S).bind fun u S1 => (n δ S1).bind fun w S2 => match u, w with
  | .d (.int i), .d (.int j) => if (j < 4611686018427387904 ∧ -4611686018427387904 ≤ j) ∧ i < 4611686018427387904 ∧ -4611686018427387904 ≤ i then .ok (rangeD i (j - i).toNat) S2 else .stuck
  | _, _ => .stuck
theorem pmi_range2 {a b : Expr} {mb : ME} (hg : Gl X "range") (hm : X.mg "range" = none) (ha : PM X W a me) (hb : PM X W b mb) (h1 : starEach [a, b] X.env = (false, eval a X.env) :: starEach [b] X.env := by rfl) (h2 : starEach [b] X.env = (false, eval b X.env) :: starEach [] X.env := by rfl)
    (hs : starEach [a, b] X.env = [(false, eval a X.env), (false, eval b X.env)] := by rfl) (hs2 : starEach [b] X.env = [(false, eval b X.env)] := by rfl) : PMI X W tg (.Call (.Name "range" p) [a, b] [] pos) (mRange2 me mb) :=
  ⟨fun pins s σ H R I ⟨ρ, δ, S, en, k, q⟩ => (pi_range2 (tg := tg) hg hm (pa_cons ha (pa_cons hb pa_nil h2) h1) hs hs2).run pins s σ H R I (tE.first en k q fun v u ρ1 H1 S1 _ n1 e1 k1 r1 p1 => tE.first e1 k1 p1 fun v2 u2 ρ2 H2 S2 _ n2 e2 k2 r2 p2 => by
    cases u with
    | loc n => exact p2.elim
    | d x =>
      cases x with
      | int i =>
        cases u2 with
        | loc n => exact p2.elim
        | d y =>
          cases y with
          | int j =>
            cases r1; cases r2
            by_cases hz : (j < 4611686018427387904 ∧ -4611686018427387904 ≤ j) ∧ i < 4611686018427387904 ∧ -4611686018427387904 ≤ i
            · simp only [if_pos hz] at p2
              obtain ⟨⟨z1, z2⟩, z3, z4⟩ := hz
              exact ⟨i, j, rfl, ⟨by omega, by omega, by omega, by omega⟩, p2.here k2 _ S2 k2 (Wk.range i (j - i).toNat)⟩
            · simp only [if_neg hz] at p2; exact p2.elim
          | _ => exact p2.elim
      | _ => exact p2.elim)⟩
end

/-! ### for -/
def forD (t : Tg) (body : MS) (b : Nat) : List D → DEnv → Store → SR
  | [], δ, S => .next δ S
  | d :: ds, δ, S => match t.apply (.d d) δ with
    | none => .stuck
    | some δ1 => match body b δ1 S with
      | .next δ2 S2 => forD t body b ds (trimE b S2 δ2) (S2.take b)
      | .cont δ2 S2 => forD t body b ds (trimE b S2 δ2) (S2.take b)
      | .brk δ2 S2 => .next δ2 S2
      | .ret u S2 => .ret u S2
      | .exc x δ2 S2 => .exc x δ2 S2
      | .stuck => .stuck
def mFor (mi : MI) (t : Tg) (body : MS) : MS := fun _ δ S => (mi δ S).inS δ fun ds S1 => forD t body S1.length ds δ S1
section
variable {X : Cx} {W : WX} {pos : Pos} {tg iter : Expr} {mi : MI} {t : Tg} {m : MS} {body : List Stmt}
theorem tI.inS {K : Fg} {σ : L2.St} {ρ : Ad} {H : Hp} {S : Store} {δ : DEnv} {R : It → Hp → Prop} {ρ0 : Ad} {H0 : Hp} {f : List D → Store → SR} {Dn : Ends} (n0 : Nxt ρ0 H0 ρ H) (e : EnvOk K ρ H σ δ) (k : Ok K ρ S H)
    (h : PostS K W ρ0 H0 ((mi δ S).inS δ f) Dn) (hq : ∀ J ds ρ1 H1 S1, Nxt ρ0 H0 ρ1 H1 → EnvOk K ρ1 H1 σ δ → Ok K ρ1 S1 H1 → Wk K ρ1 H1 J ds → PostS K W ρ0 H0 (f ds S1) Dn → R J H1) : tI K W mi σ H R := by
  refine ⟨ρ, δ, S, e, k, ?_⟩
  cases q : mi δ S with
  | ok u S1 =>
    rw [q] at h
    exact fun ρ1 H1 n k1 J S' k' w => hq J u ρ1 H1 S1 (n0.trans n) (e.nxt n k) k1 w h
  | exc x S1 =>
    rw [q] at h
    exact fun cls dx ρ1 H1 n k1 r => h cls dx σ ρ1 H1 (n0.trans n) k1 (e.nxt n k) r
  | stuck => rw [q] at h; exact h
/-- between two turns -/
def forInv (K : Fg) (W : WX) (ρ0 : Ad) (H0 : Hp) (ρL : Ad) (HL : Hp) (b : Nat) (t : Tg) (m : MS) (ds : List D) (D : Ends) (i : Nat) (σ : L2.St) (H : Hp) : Prop :=
  i ≤ ds.length ∧ ∃ ρ δ S, Nxt ρL HL ρ H ∧ ρ.cs.length = b ∧ Ok K ρ S H ∧ EnvOk K ρ H σ δ ∧ PostS K W ρ0 H0 (forD t m b (ds.drop i) δ S) D
theorem pms_for (hp : PassesOwn (model X.prog X.w) X.A X.env X.xe) (hc : X.calm = true) (hi : PMI X W tg iter mi) (hg : PMG X tg t) (hb : PMSs X W body m) (hs : ∀ x, foldedSetIterable iter X.env x = pure x := by intro _; rfl) : PMS X W (.For tg iter body [] pos) (mFor mi t m) :=
  pimpS (ps_for hp hc hi hg hb hs) fun D σ H ⟨ρ0, H0, ρ, δ, S, n0, e, k, p⟩ => tI.inS n0 e k p fun J ds ρL HL SL nL eL kL w pL => by
    have bl : ρL.cs.length = SL.length := kL.len
    refine ⟨fun i mm σ H => mm = ds.length - i ∧ forInv X.K W ρ0 H0 ρL HL SL.length t m ds D i σ H,
      ⟨ds.length, by simp, Nat.zero_le _, ρL, δ, SL, Nxt.refl, bl, kL, eL, by simpa using pL⟩, ?_⟩
    rintro i mm σ1 H1 ⟨rfl, hi, ρ1, δ1, S1, n1, l1, k1, e1, p1⟩
    by_cases hlt : i < ds.length
    · have hd : ds.drop i = ds[i] :: ds.drop (i + 1) := List.drop_eq_getElem_cons hlt
      have hx : ds[i]? = some ds[i] := List.getElem?_eq_getElem hlt
      rw [hd] at p1
      refine .inr ⟨w.go i _ ρ1 S1 H1 hx n1.lat k1, forInv X.K W ρ0 H0 ρL HL SL.length t m ds D (i + 1), fun σ' H' z => ⟨ds.length - (i + 1), by omega, rfl, z⟩, fun x H2 y => ?_⟩
      obtain ⟨n2, k2, r2⟩ := w.yld i _ ρ1 S1 H1 x H2 hx n1.lat k1 y
      unfold forD at p1
      cases ha : t.apply (.d ds[i]) δ1 with
      | none => simp only [ha] at p1; exact p1.elim
      | some δ2 =>
        simp only [ha] at p1
        refine ⟨ρ1, S1, δ1, .d ds[i], δ2, e1.nxt n2 k1, k2, r2, ha, fun σ3 e3 _ => ?_⟩
        refine ⟨ρL, HL, ρ1, δ2, S1, n1.trans n2, e3, k2, ?_⟩
        rw [bl]
        have again : ∀ (δ4 : DEnv) (S4 : Store), PostS X.K W ρ0 H0 (forD t m SL.length (ds.drop (i + 1)) (trimE SL.length S4 δ4) (S4.take SL.length)) D → ∀ σ' ρ' H', Nxt ρL HL ρ' H' → Ok X.K ρ' S4 H' → EnvOk X.K ρ' H' σ' δ4 →
            forInv X.K W ρ0 H0 ρL HL SL.length t m ds D (i + 1) σ' H' := fun δ4 S4 q σ' ρ' H' n4 k4 e4 => by
          refine ⟨hlt, ρ'.cut SL.length, _, _, n4.cut (by omega), ?_, k4.cut _, e4.trim k4 _, q⟩
          show (ρ'.cs.take SL.length).length = _
          rw [List.length_take]
          have := n4.pre.length_le
          omega
        cases hbd : m SL.length δ2 S1 with
        | next δ4 S4 => simp only [hbd] at p1; exact again δ4 S4 p1
        | cont δ4 S4 => simp only [hbd] at p1; exact again δ4 S4 p1
        | brk δ4 S4 => simp only [hbd] at p1; exact fun σ' ρ' H' n4 k4 e4 => p1 σ' ρ' H' (nL.trans n4) k4 e4
        | ret u S4 => simp only [hbd] at p1; exact fun v ρ' H' n4 k4 r4 => p1 v ρ' H' (nL.trans n4) k4 r4
        | exc x δ4 S4 => simp only [hbd] at p1; exact fun cls dx σ' ρ' H' n4 k4 e4 r4 => p1 cls dx σ' ρ' H' (nL.trans n4) k4 e4 r4
        | stuck => simp only [hbd] at p1; exact p1.elim
    · have hi' : i = ds.length := by omega
      subst hi'
      rw [List.drop_length] at p1
      exact .inl ⟨w.stop ρ1 S1 H1 n1.lat k1, p1 σ1 ρ1 H1 (nL.trans n1) k1 e1⟩
end
end DL

set_option Elab.async false
set_option linter.all false
set_option maxRecDepth 100000
set_option maxHeartbeats 4000000
/-! DRules5: comprehensions; defs, their calls; the end of a law -/
namespace DL
open PySem PySem.Spec PyProof.Rows L2

/-! ### comprehensions -/
abbrev W0 : WX := fun _ _ _ _ => False
/-- nothing is raised -/
def Res.calm {α : Type} (r : Res α) : Res α := match r with
  | .exc _ _ => .stuck
  | r => r
@[simp] theorem Res.calm_ok {α : Type} (a : α) (S : Store) : (Res.ok a S).calm = .ok a S := rfl
@[simp] theorem Res.calm_stuck {α : Type} : (Res.stuck : Res α).calm = .stuck := rfl
theorem Post.calm {α : Type} {K : Fg} {W : WX} {σ σ' : L2.St} {ρ : Ad} {H : Hp} {r : Res α} {good : α → Ad → Hp → Prop} (h : Post K W σ ρ H r.calm good) : Post K W0 σ' ρ H r good := by
  cases r with
  | ok a S => exact h
  | exc x S => exact h.elim
  | stuck => exact h
def wipeD (vs : List Nat) (δ : DEnv) : DEnv := vs.foldr (fun v δ => δ.set v none) δ
theorem wipeD_len (δ : DEnv) : ∀ vs : List Nat, (wipeD vs δ).length = δ.length
  | [] => rfl
  | v :: vs => by show ((wipeD vs δ).set v none).length = _; rw [List.length_set, wipeD_len δ vs]
theorem wipeD_some {δ : DEnv} {i : Nat} {u : U} : ∀ {vs : List Nat}, (wipeD vs δ)[i]? = some (some u) → δ[i]? = some (some u) ∧ i ∉ vs
  | [], h => ⟨h, by simp⟩
  | v :: vs, h => by
    have h' : ((wipeD vs δ).set v none)[i]? = some (some u) := h
    by_cases hi : v = i
    · subst hi
      by_cases hv : v < (wipeD vs δ).length
      · rw [List.getElem?_set_self hv] at h'; cases h'
      · rw [List.getElem?_eq_none (by simpa using hv)] at h'; cases h'
    · rw [List.getElem?_set_ne hi] at h'
      obtain ⟨h1, h2⟩ := wipeD_some h'
      exact ⟨h1, by simp only [List.mem_cons, not_or]; exact ⟨fun e => hi e.symm, h2⟩⟩
theorem EnvOk.wipe {K : Fg} {ρ : Ad} {H : Hp} {σ : L2.St} {δ : DEnv} (e : EnvOk K ρ H σ δ) (vs : List Nat) : EnvOk K ρ H (L2.wipe σ vs) (wipeD vs δ) := by
  refine ⟨by rw [wipeD_len, wipe_length]; exact e.len, fun i u h => ?_⟩
  obtain ⟨h1, h2⟩ := wipeD_some h
  obtain ⟨v, a, r⟩ := e.at_ i u h1
  exact ⟨v, by rw [wipe_at, if_neg h2]; exact a, r⟩
def lcD (t : Tg) (mt : MT) (me : ME) (δ : DEnv) : List D → Store → Res (List D)
  | [], S => .ok [] S
  | d :: ds, S => match t.apply (.d d) δ with
    | none => .stuck
    | some δ1 => (mt δ1 S).calm.bind fun c S1 => if c then (me δ1 S1).calm.bind fun u S2 => match u with
        | .d y => (lcD t mt me δ ds S2).bind fun ys S3 => .ok (y :: ys) S3
        | .loc _ => .stuck
      else lcD t mt me δ ds S1
def mLc (mi : MI) (t : Tg) (mt : MT) (me : ME) (vs : List Nat) : ME := fun δ S => (mi δ S).bind fun ds S1 => if ds.length ≤ sizeLine then (lcD t mt me (wipeD vs δ) ds S1).bind fun ys S2 => .ok (.d (.lst ys)) S2 else .stuck
def mYes : MT := fun _ S => .ok true S
def PMTs (X : Cx) (W : WX) (es : List Expr) (m : MT) : Prop := PTs X es (tT X.K W m)
theorem pmts_nil {X : Cx} {W : WX} : PMTs X W [] mYes := ⟨fun pins s σ H Q I ⟨ρ, δ, S, e, k, p⟩ => pts_nil.run pins s σ H Q I (p.here k)⟩
theorem pmts_one {X : Cx} {W : WX} {c : Expr} {m : MT} (h : PMT X W c m) : PMTs X W [c] m := pts_one h

section
variable {K : Fg} {ρ : Ad} {H : Hp} {S : Store}
/-- a list at D is being made: nobody reads it -/
def Ad.hold (ρ : Ad) (a : Addr) : Ad := ⟨ρ.cs, a :: ρ.rs⟩
theorem Lat.hold {a : Addr} {o : HO} (h : H a = none) : Lat ρ H (ρ.hold a) (upd H a o) :=
  ⟨fun b q e _ => by rw [upd_ne (ne_of_none e h)]; exact e, fun b hb f => ⟨f.1, fun z => by
    rcases List.mem_cons.mp z with z | z
    · subst z; exact hb h
    · exact f.2 z⟩⟩
def mkO : HO → Bool
  | .lst _ => true
  | .dK _ => true
  | _ => false
theorem Made.of {a : Addr} {o : HO} (h : H a = some o) (m : mkO o = true) : Made H a := by
  cases o with
  | lst xs => exact .inl ⟨xs, h⟩
  | dK ks => exact .inr ⟨ks, h⟩
  | _ => cases m
theorem Ok.hold {a : Addr} {o : HO} (k : Ok K ρ S H) (h : H a = none) (hm : mkO o = true := by rfl) : Ok K (ρ.hold a) S (upd H a o) := by
  refine ⟨k.len, k.nd, fun i b e => ?_, k.dead, fun b z => ?_⟩
  · obtain ⟨c, h1, h2⟩ := k.live i b e
    refine ⟨c, h1, h2.mv ((Lat.hold h).mv k) (upd_ne fun z => ?_)⟩
    subst z; exact (k.notNew h).1 (List.mem_of_getElem? e)
  · rcases List.mem_cons.mp z with z | z
    · subst z; exact ⟨(k.notNew h).1, Made.of upd_same hm⟩
    · obtain ⟨f, mk⟩ := k.rsv b z
      exact ⟨f, mk.keep fun _ q => by rw [upd_ne (ne_of_none q h)]; exact q⟩
theorem free_hold {a b : Addr} (h : free (ρ.hold a) b) : free ρ b ∧ b ≠ a := ⟨⟨h.1, fun z => h.2 (List.mem_cons_of_mem _ z)⟩, fun e => h.2 (by rw [e]; exact List.mem_cons_self ..)⟩
/-- it is changed -/
theorem Mv.rewrite {a : Addr} {o : HO} (h : Made H a) : Mv K (free (ρ.hold a)) (free (ρ.hold a)) H (upd H a o) := by
  refine ⟨fun b ys q => ?_, fun b u q f => ⟨?_, f⟩⟩
  · have ne : b ≠ a := fun e => by
      subst e
      rcases h with ⟨xs, h⟩ | ⟨xs, h⟩ <;> rcases q with q | ⟨o, q⟩ <;> (rw [h] at q; cases q)
    rcases q with q | ⟨o, q⟩
    · exact .inl (by rw [upd_ne ne]; exact q)
    · exact .inr ⟨o, by rw [upd_ne ne]; exact q⟩
  · have ne := (free_hold f).2
    rcases q with q | ⟨o, q⟩
    · exact .inl (by rw [upd_ne ne]; exact q)
    · exact .inr ⟨o, by rw [upd_ne ne]; exact q⟩
theorem Ok.rewrite {a : Addr} {o : HO} (k : Ok K (ρ.hold a) S H) (hm : mkO o = true := by rfl) : Ok K (ρ.hold a) S (upd H a o) := by
  have h := (k.rsv a (List.mem_cons_self ..)).2
  have fa := (k.rsv a (List.mem_cons_self ..)).1
  refine ⟨k.len, k.nd, fun i b e => ?_, k.dead, fun b z => ?_⟩
  · obtain ⟨c, h1, h2⟩ := k.live i b e
    refine ⟨c, h1, h2.mv (Mv.rewrite h) (upd_ne fun z => ?_)⟩
    subst z; exact fa (List.mem_of_getElem? e)
  · obtain ⟨f, mk⟩ := k.rsv b z
    by_cases hb : b = a
    · subst hb; exact ⟨f, Made.of upd_same hm⟩
    · exact ⟨f, mk.keep fun _ q => by rw [upd_ne hb]; exact q⟩
/-- it is done -/
theorem Mv.unhold {a : Addr} : Mv K (free (ρ.hold a)) (free ρ) H H := ⟨fun _ _ h => h, fun _ _ h f => ⟨h, (free_hold f).1⟩⟩
theorem Ok.unhold {a : Addr} (k : Ok K (ρ.hold a) S H) : Ok K ρ S H :=
  ⟨k.len, k.nd, fun i b e => let ⟨c, h, q⟩ := k.live i b e; ⟨c, h, q.mv Mv.unhold rfl⟩, k.dead, fun b z => k.rsv b (List.mem_cons_of_mem _ z)⟩
end
section
variable {K : Fg} {ρ ρ1 ρ' : Ad} {H H1 H' : Hp} {S : Store} {σ : L2.St} {δ : DEnv}
theorem Nxt.held {a : Addr} (n : Nxt ρ1 H1 ρ H) (ha : H1 a = none) : Lat ρ1 H1 (ρ.hold a) H :=
  ⟨fun b o h f => n.keep b o h f.1, fun b hb f => ⟨(n.lat.fr b hb f).1, fun z => by
    rcases List.mem_cons.mp z with z | z
    · subst z; exact hb ha
    · exact (n.lat.fr b hb f).2 z⟩⟩
theorem EnvOk.lat (l : Lat ρ1 H1 ρ H) (pre : ρ1.cs <+: ρ.cs) (k : Ok K ρ1 S H1) (e : EnvOk K ρ1 H1 σ δ) : EnvOk K ρ H σ δ :=
  ⟨e.len, fun i u h => by
    obtain ⟨v, a, r⟩ := e.at_ i u h
    refine ⟨v, a, ?_⟩
    cases u with
    | d x => exact Rep.mv (l.mv k) r
    | loc n =>
      obtain ⟨b, eb, hb⟩ := r
      obtain ⟨t, q⟩ := pre
      exact ⟨b, eb, by rw [← q, List.getElem?_append_left (List.getElem?_eq_some_iff.mp hb).1]; exact hb⟩⟩
/-- what an inner step leaves -/
theorem Nxt.unhold {a : Addr} (n : Nxt (ρ.hold a) H ρ' H') : ∃ ρ2 : Ad, ρ' = ρ2.hold a ∧ Nxt ρ H ρ2 H' := by
  obtain ⟨cs, rs⟩ := ρ'
  have e : rs = a :: ρ.rs := n.rs
  subst e
  exact ⟨⟨cs, ρ.rs⟩, rfl, n.pre, rfl, n.keep, n.new⟩
/-- between two turns: the list at a holds acc so far -/
def lcInv (K : Fg) (W : WX) (σ : L2.St) (ρ1 : Ad) (H1 : Hp) (a : Addr) (t : Tg) (mt : MT) (me : ME) (δ : DEnv) (ds : List D) (Q : VK) (i : Nat) (H : Hp) : Prop :=
  i ≤ ds.length ∧ ∃ (ρ : Ad) (S : Store) (acc : List V) (as : List D), Nxt ρ1 H1 ρ H ∧ Ok K (ρ.hold a) S H ∧ H a = some (.lst acc) ∧ acc.length ≤ i ∧ RepL K (free (ρ.hold a)) H acc as ∧
    Post K W σ ρ1 H1 ((lcD t mt me δ (ds.drop i) S).bind fun ys S2 => .ok (U.d (.lst (as ++ ys))) S2) fun u ρ' H' => ∀ v, RepU K ρ' H' v u → Q v H'
end
section
variable {X : Cx} {W : WX} {pos : Pos} {elt tg iter : Expr} {ifs : List Expr} {scope : Scope} {own : List (Str × Nat)} {mi : MI} {t : Tg} {mt : MT} {me : ME}
theorem tI.first {α : Type} {K : Fg} {σ : L2.St} {ρ : Ad} {H : Hp} {S : Store} {δ : DEnv} {R : It → Hp → Prop} {f : List D → Store → Res α} {good : α → Ad → Hp → Prop} (e : EnvOk K ρ H σ δ) (k : Ok K ρ S H) (h : Post K W σ ρ H ((mi δ S).bind f) good)
    (hq : ∀ J ds ρ1 H1 S1, Nxt ρ H ρ1 H1 → EnvOk K ρ1 H1 σ δ → Ok K ρ1 S1 H1 → Wk K ρ1 H1 J ds → Post K W σ ρ1 H1 (f ds S1) good → R J H1) : tI K W mi σ H R := by
  refine ⟨ρ, δ, S, e, k, (Post.bind h).imp fun ds ρ1 H1 n q J S' k' w => ?_⟩
  obtain ⟨S1, e1, k1, p⟩ := q
  exact hq J ds ρ1 H1 S1 n (e.nxt n k) k1 w p
/-- the walk of a comprehension, from where its iterator stands -/
theorem lc_body (hv : ∀ i ∈ t.slots, i ∈ own.map (·.2)) {σ : L2.St} {ρ1 : Ad} {H1 : Hp} {S1 : Store} {δ : DEnv} {J : It} {ds : List D} {Q : VK} (e1 : EnvOk X.K ρ1 H1 σ δ) (k1 : Ok X.K ρ1 S1 H1) (w : Wk X.K ρ1 H1 J ds)
    (p1 : Post X.K W σ ρ1 H1 (if ds.length ≤ sizeLine then (lcD t mt me (wipeD (own.map (·.2)) δ) ds S1).bind fun ys S2 => .ok (U.d (.lst ys)) S2 else .stuck) fun u ρ' H' => ∀ v, RepU X.K ρ' H' v u → Q v H') :
    tLc (fun _ H R => R J H) (tG X.K t) (tT X.K W0 mt) (tE X.K W0 me) (own.map (·.2)) σ H1 Q := by
  intro a ha
  by_cases hz : ds.length ≤ sizeLine
  case neg => rw [if_neg hz] at p1; exact p1.elim
  rw [if_pos hz] at p1
  have fa := k1.notNew ha
  refine ⟨fun i mm H => mm = ds.length - i ∧ lcInv X.K W σ ρ1 H1 a t mt me (wipeD (own.map (·.2)) δ) ds Q i H, ⟨ds.length, by simp, Nat.zero_le _, ρ1, S1, [], [], Nxt.laid ha, k1.hold ha, upd_same, Nat.zero_le _, .nil, by simpa using p1⟩, ?_⟩
  rintro i mm H2 ⟨rfl, hi, ρ2, S2, acc, as, n2, k2, ha2, hl2, r2, p2⟩
  have l2 := n2.held ha
  by_cases hlt : i < ds.length
  · have hd : ds.drop i = ds[i] :: ds.drop (i + 1) := List.drop_eq_getElem_cons hlt
    have hx : ds[i]? = some ds[i] := List.getElem?_eq_getElem hlt
    rw [hd] at p2
    refine .inr ⟨w.go i _ _ S2 H2 hx l2 k2, lcInv X.K W σ ρ1 H1 a t mt me (wipeD (own.map (·.2)) δ) ds Q (i + 1), fun H' z => ⟨ds.length - (i + 1), by omega, rfl, z⟩, fun x H3 y => ?_⟩
    obtain ⟨n3, k3, r3⟩ := w.yld i _ _ S2 H2 x H3 hx l2 k2 y
    unfold lcD at p2
    cases hap : t.apply (.d ds[i]) (wipeD (own.map (·.2)) δ) with
    | none => simp only [hap] at p2; exact p2.elim
    | some δ2 =>
      simp only [hap] at p2
      have e3 : EnvOk X.K (ρ2.hold a) H3 (wipe σ (own.map (·.2))) (wipeD (own.map (·.2)) δ) := ((e1.wipe _).lat l2 n2.pre k1).nxt n3 k2
      refine ⟨_, S2, _, .d ds[i], δ2, e3, k3, r3, hap, fun σ4 e4 ap => ⟨?_, ?_⟩⟩
      · rw [(ap.mono hv).wipe]
        apply List.ext_getElem?
        intro j
        rw [wipe_at, wipe_at]
        by_cases hj : j ∈ own.map (·.2)
        · rw [if_pos hj, if_pos hj]; cases σ[j]? <;> rfl
        · rw [if_neg hj, if_neg hj]
      -- the test, the element
      have n3' : Nxt ρ2 H2 ρ2 H3 := ⟨n3.pre, rfl, n3.keep, n3.new⟩
      have na : some a ∉ ρ2.cs := (k2.rsv a (List.mem_cons_self ..)).1
      have ha3 : H3 a = some (.lst acc) := n3.keep a _ ha2 na
      rw [Res.bind_assoc] at p2
      refine tT.first (W := W0) (good := fun _ _ _ => True) (f := fun _ S => .ok () S) e4 k3 ?_ ?_
      · cases hm : mt δ2 S2 with
        | ok b S' => exact fun _ _ _ _ => trivial
        | exc x S' => rw [hm] at p2; exact p2.elim
        | stuck => rw [hm] at p2; exact p2.elim
      intro b ρ5 H5 S5 hm n5 e5 k5 _
      rw [hm] at p2
      simp only [Res.calm_ok, Res.ok_bind] at p2
      obtain ⟨ρ5, rfl, n5'⟩ := n5.unhold
      have ha5 : H5 a = some (.lst acc) := n5.keep a _ ha3 na
      have r5 := (r2.mv (n3.mv k2)).mv (n5.mv k3)
      have all5 : Nxt ρ1 H1 ρ5 H5 := n2.trans (n3'.trans n5')
      cases b with
      | false =>
        rw [if_neg Bool.false_ne_true] at p2 ⊢
        exact ⟨hlt, ρ5, S5, acc, as, all5, k5, ha5, by omega, r5, p2⟩
      | true =>
        rw [if_pos rfl] at p2 ⊢
        rw [Res.bind_assoc] at p2
        refine tE.first (W := W0) (good := fun _ _ _ => True) (f := fun _ S => .ok () S) e5 k5 ?_ ?_
        · cases hm2 : me δ2 S5 with
          | ok u S' => exact fun _ _ _ _ => trivial
          | exc x S' => rw [hm2] at p2; exact p2.elim
          | stuck => rw [hm2] at p2; exact p2.elim
        intro y6 u6 ρ6 H6 S6 hm2 n6 e6 k6 r6 _
        rw [hm2] at p2
        simp only [Res.calm_ok, Res.ok_bind] at p2
        obtain ⟨ρ6, rfl, n6'⟩ := n6.unhold
        have na5 : some a ∉ ρ5.cs := (k5.rsv a (List.mem_cons_self ..)).1
        have ha6 : H6 a = some (.lst acc) := n6.keep a _ ha5 na5
        cases u6 with
        | loc n => exact p2.elim
        | d z =>
          have all6 : Nxt ρ1 H1 ρ6 H6 := all5.trans n6'
          refine ⟨acc, ha6, by omega, hlt, ρ6, S6, acc ++ [y6], as ++ [z], ?_, k6.rewrite, upd_same, by simp; omega, ?_, ?_⟩
          · exact ⟨all6.pre, all6.rs, fun b o e f => by rw [upd_ne (ne_of_none e ha)]; exact all6.keep b o e f, all6.new⟩
          · exact ((r5.mv (n6.mv k5)).append (.cons r6 .nil)).mv (Mv.rewrite (.inl ⟨_, ha6⟩))
          · rw [Res.bind_assoc] at p2
            simpa using p2
  · have hi' : i = ds.length := by omega
    subst hi'
    rw [List.drop_length] at p2
    have fa2 : free ρ2 a := ⟨(k2.rsv a (List.mem_cons_self ..)).1, by rw [n2.rs]; exact fa.2⟩
    refine .inl ⟨w.stop _ S2 H2 l2 k2, ?_⟩
    simp only [lcD, Res.ok_bind, List.append_nil] at p2
    exact p2 ρ2 H2 n2 k2.unhold _ (Rep.lst (.inl ha2) fa2 (r2.mv Mv.unhold))
theorem mLc_ok (hv : ∀ i ∈ t.slots, i ∈ own.map (·.2)) {σ : L2.St} {H : Hp} {Q : VK} (h : tE X.K W (mLc mi t mt me (own.map (·.2))) σ H Q) : tLc (tI X.K W mi) (tG X.K t) (tT X.K W0 mt) (tE X.K W0 me) (own.map (·.2)) σ H Q := by
  obtain ⟨ρ, δ, S, e, k, p⟩ := h
  exact tI.first e k p fun J ds ρ1 H1 S1 n1 e1 k1 w p1 => lc_body (J := J) hv e1 k1 w p1
theorem pm_lc (hc : X.calm = true) (hN : X.N.Nodup) (hi : PMI X W tg iter mi) (ok : BlkOk X.N X.env.scope scope own) (hv : ∀ i ∈ t.slots, i ∈ own.map (·.2))
    (hg : ∀ (s : Shared) (H : Hp) (C : Addr) (cl : List (Str × Addr)) (fp : List Addr), PMG (X.blk s H scope (compEnvC scope cl C X.env) fp) tg t) (ht : ∀ (s : Shared) (H : Hp) (C : Addr) (cl : List (Str × Addr)) (fp : List Addr), PMTs (X.blk s H scope (compEnvC scope cl C X.env) fp) W0 ifs mt)
    (he : ∀ (s : Shared) (H : Hp) (C : Addr) (cl : List (Str × Addr)) (fp : List Addr), PM (X.blk s H scope (compEnvC scope cl C X.env) fp) W0 elt me) (hs : ∀ x, foldedSetIterable iter X.env x = pure x := by intro _; rfl) :
    PM X W (.ListComp elt [⟨tg, iter, ifs, 0⟩] scope pos) (mLc mi t mt me (own.map (·.2))) :=
  pimpE (pe_lc (g := tG X.K t) (tt := tT X.K W0 mt) (te := tE X.K W0 me) hc hN hi ok hg ht he hs) fun _ _ _ h => mLc_ok hv h
theorem pms_setLc {i : Nat} {y : Str} {py spos : Pos} (hc : X.calm = true) (hN : X.N.Nodup) (hy : X.N[i]? = some y) (hyl : X.env.scope.names.lookup y = some .local)
    (hsw : swapsWith (.ListComp elt [⟨tg, iter, ifs, 0⟩] scope pos) (some (.Name y py)) spos.line X.env = pure true) (hi : PMI X W tg iter mi) (ok : BlkOk X.N X.env.scope scope own) (hv : ∀ i ∈ t.slots, i ∈ own.map (·.2))
    (hg : ∀ (s : Shared) (H : Hp) (C : Addr) (cl : List (Str × Addr)) (fp : List Addr), PMG (X.blk s H scope (compEnvC scope cl C X.env) fp) tg t) (ht : ∀ (s : Shared) (H : Hp) (C : Addr) (cl : List (Str × Addr)) (fp : List Addr), PMTs (X.blk s H scope (compEnvC scope cl C X.env) fp) W0 ifs mt)
    (he : ∀ (s : Shared) (H : Hp) (C : Addr) (cl : List (Str × Addr)) (fp : List Addr), PM (X.blk s H scope (compEnvC scope cl C X.env) fp) W0 elt me) (hs : ∀ x, foldedSetIterable iter X.env x = pure x := by intro _; rfl) :
    PMS X W (.Assign [.Name y py] (.ListComp elt [⟨tg, iter, ifs, 0⟩] scope pos) spos) (mSet i (mLc mi t mt me (own.map (·.2)))) :=
  pimpS (ps_setLc (g := tG X.K t) (tt := tT X.K W0 mt) (te := tE X.K W0 me) hc hN hy hyl hsw hi ok hg ht he hs) fun D σ H ⟨ρ0, H0, ρ, δ, S, n0, e, k, p⟩ => mLc_ok hv (tE.inS n0 e k p fun v u ρ1 H1 S1 _ n1 e1 k1 r1 p1 => p1 _ ρ1 H1 n1 k1 (e1.set r1))
end
end DL

set_option Elab.async false
set_option linter.all false
set_option maxRecDepth 100000
set_option maxHeartbeats 4000000
/-! DFn: defs by their meanings, calls of them, the law's end -/
namespace DL
open PySem PySem.Spec PyProof.Rows L2

/-- behind a def's body: its own cells are given up -/
def exitM (b : Nat) : SR → Res U
  | .ret u S => match trimU b S u with
    | some u' => .ok u' (S.take b)
    | none => .stuck
  | .next _ S => .ok (.d .non) (S.take b)
  | .exc x _ S => .exc x (S.take b)
  | _ => .stuck
/-- the def hands back its first cell -/
def exitK (b : Nat) : SR → Res U
  | .ret (.loc n) S => if n = b then .ok (.loc b) (S.take (b + 1)) else .stuck
  | _ => .stuck
def enter (n : Nat) (us : List U) : DEnv := us.map some ++ List.replicate (n - us.length) none
def callM (ar n : Nat) (body : MS) : Fn := fun us S => if us.length = ar then exitM S.length (body S.length (enter n us) S) else .stuck
def callK (ar n : Nat) (body : MS) : Fn := fun us S => if us.length = ar then exitK S.length (body S.length (enter n us) S) else .stuck
def spM (K : Fg) (m : Fn) : Sp := fun vs H Q E => ∃ ρ S us, Ok K ρ S H ∧ RepUs K ρ H vs us ∧ match m us S with
  | .ok u S' => ∀ v ρ' H', Nxt ρ H ρ' H' → Ok K ρ' S' H' → RepU K ρ' H' v u → Q v H'
  | .exc x S' => ∀ cls dx ρ' H', Nxt ρ H ρ' H' → Ok K ρ' S' H' → RepX K ρ' H' cls dx x → E cls dx H'
  | .stuck => False
/-- the def at f means m -/
structure FnG (P : Program) (w : World) (K : Fg) (mg : Str → Option Value) (base : Heap) (k : Nat) (f : Addr) (fd : FuncData) (ps : List Str) (m : Fn) : Prop where
  len : ∀ us S, us.length ≠ ps.length → m us S = .stuck
  run : ∀ (A : Around) (outer : List Env) (s : Shared) (H : Hp) (args : Args) (us : List Value) (vs : List V) (Q : VK) (E : XK), Room k A → A.guards = some [] → Env0 P w K mg base A outer s H → BindsTo s fd args (ps.zip us) → Vals vs us → spM K m vs H Q E →
    codeAny (model P w) A (.call (.ref f) args) (CR (L2.CX P w) outer P w H s Q E) s
section
variable {P : Program} {w : World} {K : Fg} {mg : Str → Option Value} {base : Heap} {k j : Nat} {f : Addr} {fd : FuncData} {ps N : List Str} {m : Fn}
theorem FnG.mono (F : FnG P w K mg base j f fd ps m) (h : j ≤ k) : FnG P w K mg base k f fd ps m := ⟨F.len, fun A outer s H args us vs Q E hr => F.run A outer s H args us vs Q E (hr.mono h)⟩
theorem FnG.vlen (F : FnG P w K mg base j f fd ps m) {vs : List V} {H : Hp} {Q : VK} {E : XK} (h : spM K m vs H Q E) : vs.length = ps.length := by
  obtain ⟨ρ, S, us, k, r, q⟩ := h
  rw [r.length]
  by_cases e : us.length = ps.length
  · exact e
  · rw [F.len us S e] at q; exact q.elim
/-- never asked -/
theorem FnG.none : FnG P w K mg base k f fd ps (fun _ _ => .stuck) := ⟨fun _ _ _ => rfl, fun A outer s H args us vs Q E _ _ _ _ _ h => by
  obtain ⟨_, _, _, _, _, q⟩ := h
  exact q.elim⟩
theorem enter_ok {ρ : Ad} {H : Hp} {vs : List V} {us : List U} (r : RepUs K ρ H vs us) : EnvOk K ρ H (L2.start N vs) (enter N.length us) := by
  have hl := r.length
  refine ⟨by unfold L2.start enter; simp [hl], fun i u h => ?_⟩
  unfold enter at h
  unfold L2.start
  have get : ∀ {vs : List V} {us : List U}, RepUs K ρ H vs us → ∀ (i : Nat) (u : U), us[i]? = some u → ∃ v, vs[i]? = some v ∧ RepU K ρ H v u := by
    intro vs us r
    induction r with
    | nil => intro i u h; simp at h
    | cons h t ih =>
      intro i u e
      cases i with
      | zero => simp at e; subst e; exact ⟨_, rfl, h⟩
      | succ i => simpa using ih i u (by simpa using e)
  by_cases hi : i < us.length
  · rw [List.getElem?_append_left (by simpa using hi), List.getElem?_map] at h
    obtain ⟨w, h1, h2⟩ := Option.map_eq_some_iff.mp h
    cases h2
    obtain ⟨v, h3, h4⟩ := get r i u h1
    exact ⟨v, by rw [List.getElem?_append_left (by simp; omega), List.getElem?_map, h3]; rfl, h4⟩
  · rw [List.getElem?_append_right (by simpa using hi), List.getElem?_replicate] at h
    split at h <;> cases h
theorem RepX.cut {ρ : Ad} {H : Hp} {cls : Value} {dx : Option Addr} {x : XD} (b : Nat) (h : RepX K ρ H cls dx x) : RepX K (ρ.cut b) H cls dx x := by
  refine ⟨h.1, ?_⟩
  cases dx with
  | none => exact h.2
  | some d =>
    obtain ⟨fs, q, r⟩ := h.2
    refine ⟨fs, q, ?_⟩
    have go : ∀ {fs : List (Str × V)} {gs : List (Str × D)}, RepF K (free ρ) H fs gs → RepF K (free (ρ.cut b)) H fs gs := by
      intro fs gs r
      induction r with
      | nil => exact .nil
      | cons h t ih => exact .cons (h.mv Mv.cut) ih
    exact go r
theorem exit_ok {W : WX} {ρ : Ad} {H : Hp} {S : Store} {r : SR} {Q : VK} {E : XK} (k : Ok K ρ S H)
    (q : match exitM S.length r with
      | .ok u S' => ∀ v ρ' H', Nxt ρ H ρ' H' → Ok K ρ' S' H' → RepU K ρ' H' v u → Q v H'
      | .exc x S' => ∀ cls dx ρ' H', Nxt ρ H ρ' H' → Ok K ρ' S' H' → RepX K ρ' H' cls dx x → E cls dx H'
      | .stuck => False) : PostS K (fun cls d _ H' => E cls d H') ρ H r { nx := fun _ H' => Q .non H', rt := Q } := by
  have hb : ρ.cs.length ≤ S.length := Nat.le_of_eq k.len
  cases r with
  | next δ S' => exact fun σ' ρ' H' n k' e' => q .non (ρ'.cut S.length) H' (n.cut hb) (k'.cut _) .non
  | ret u S' =>
    intro v ρ' H' n k' r'
    cases ht : trimU S.length S' u with
    | none => simp only [exitM, ht] at q
    | some u' =>
      simp only [exitM, ht] at q
      exact q v (ρ'.cut S.length) H' (n.cut hb) (k'.cut _) (r'.trim k' ht)
  | brk δ S' => exact q.elim
  | cont δ S' => exact q.elim
  | exc x δ S' => exact fun cls dx σ' ρ' H' n k' e' r' => q cls dx (ρ'.cut S.length) H' (n.cut hb) (k'.cut _) (r'.cut _)
  | stuck => exact q.elim
theorem exitK_ok {W : WX} {ρ : Ad} {H : Hp} {S : Store} {r : SR} {Q : VK} {E : XK} (k : Ok K ρ S H)
    (q : match exitK S.length r with
      | .ok u S' => ∀ v ρ' H', Nxt ρ H ρ' H' → Ok K ρ' S' H' → RepU K ρ' H' v u → Q v H'
      | .exc x S' => ∀ cls dx ρ' H', Nxt ρ H ρ' H' → Ok K ρ' S' H' → RepX K ρ' H' cls dx x → E cls dx H'
      | .stuck => False) : PostS K (fun cls d _ H' => E cls d H') ρ H r { nx := fun _ H' => Q .non H', rt := Q } := by
  have hb : ρ.cs.length ≤ S.length + 1 := Nat.le_succ_of_le (Nat.le_of_eq k.len)
  cases r with
  | ret u S' =>
    cases u with
    | d x => exact q.elim
    | loc n =>
      intro v ρ' H' n' k' r'
      by_cases e : n = S.length
      · simp only [exitK, if_pos e] at q
        refine q v (ρ'.cut (S.length + 1)) H' (n'.cut hb) (k'.cut _) (r'.trim (u' := .loc S.length) k' ?_)
        show (if n < S.length + 1 then some (U.loc n) else _) = _
        rw [if_pos (by omega), e]
      · simp only [exitK, if_neg e] at q
  | _ => exact q.elim
/-- a def of the text by its body's meaning; G: how its end is taken -/
theorem fnG_gen {x qual : Str} {st : Stmt} {body : MS} {G : Nat → SR → Res U} (F : Fun K x qual st f fd) (S : FnScope N ps (defScope st))
    (hG : ∀ {ρ : Ad} {H : Hp} {S : Store} {r : SR} {Q : VK} {E : XK}, Ok K ρ S H → (match G S.length r with
      | .ok u S' => ∀ v ρ' H', Nxt ρ H ρ' H' → Ok K ρ' S' H' → RepU K ρ' H' v u → Q v H'
      | .exc x S' => ∀ cls dx ρ' H', Nxt ρ H ρ' H' → Ok K ρ' S' H' → RepX K ρ' H' cls dx x → E cls dx H'
      | .stuck => False) → PostS K (fun cls d _ H' => E cls d H') ρ H r { nx := fun _ H' => Q .non H', rt := Q })
    (hbody : ∀ (cdv : Value) (A : Around) (outer : List Env) (s : Shared) (H : Hp) (E : XK), Room k (A.deeper (envOfC qual (defScope st) s.heap.objs.size f cdv)) → A.guards = some [] →
      PMSs (cxOf (L2.CX P w) P w K mg base N qual (defScope st) f cdv A outer s H E) (fun cls d _ H' => E cls d H') (defBody st) body) :
    FnG P w K mg base (k + 1) f fd ps (fun us S => if us.length = ps.length then G S.length (body S.length (enter N.length us) S) else .stuck) := by
  obtain ⟨oc, od, kV, doc, pm, an, cdv, ct, osl, rfl, lk, hcd⟩ := F.ex
  refine ⟨fun us S h => if_neg h, fun A outer s H args us vs Q E hr hg e0 hb r hsp => ?_⟩
  obtain ⟨ρ, S0, ws, k0, rw0, q⟩ := hsp
  by_cases hlw : ws.length = ps.length
  case neg => dsimp only at q; rw [if_neg hlw] at q; exact q.elim
  dsimp only at q
  rw [if_pos hlw] at q
  have hl : vs.length = ps.length := by rw [rw0.length]; exact hlw
  have KX : K.In s.heap := e0.mod.kin.keeps fun b o e => (e0.bs b o e).1
  have lim : s.heap.NoLimit := e0.mod.nolimit.keeps fun b o e => (e0.bs b o e).1
  have kinds : ∀ y ∈ ps.zip us, (defScope st).names.lookup y.1 = some .local ∨ ((defScope st).names.lookup y.1 = some .cell ∧ ((cellsFrom (s.heap.objs.size + 1) (defScope st).names []).lookup y.1).isSome = true) := fun ⟨n, v⟩ hy =>
    (S.par n (List.of_mem_zip hy).1).elim .inl fun q => .inr ⟨q, PySem.W.cellsFrom_some _ _ _ (.inl q)⟩
  refine codeAny_call_function hr.depth (KX _ _ lk) rfl S.co S.gen rfl (PySem.W.codeRec_of KX hcd) (hb _ _ _ _ (wpAny_newFunctionEnv_cells S.kind kinds fun env he s1 xx => ?_))
  subst he
  refine ⟨lim.keeps xx.toInCall.keep, codeAny_func ?_⟩
  have I : Inv (cxOf (L2.CX P w) P w K mg base N qual (defScope st) f cdv A outer s H E) [] (L2.start N vs) H s1 := inv_start S hr.hd e0 hl r xx
  have T : tS K (fun cls d _ H' => E cls d H') body { nx := fun _ H' => Q .non H', rt := Q } (L2.start N vs) H := ⟨ρ, H, ρ, enter N.length ws, S0, Nxt.refl, enter_ok rw0, k0, by rw [k0.len]; exact hG k0 q⟩
  refine wpAny_mono ((hbody cdv A outer s H E (hr.deeper _) hg).run [] s1 (L2.start N vs) H _ I T) (fun fl s' hs => ?_) fun e s' hs => hs
  cases fl with
  | ret u => obtain ⟨v, σ', H', J, rv, z⟩ := hs; exact ⟨v, H', J.os, J.bare, J.base, J.hok, rv, z⟩
  | next => obtain ⟨σ', H', J, z⟩ := hs; exact ⟨.non, H', J.os, J.bare, J.base, J.hok, rfl, z⟩
  | brk => obtain ⟨_, _, _, z⟩ := hs; exact z.elim
  | cont => obtain ⟨_, _, _, z⟩ := hs; exact z.elim
theorem fnG_of {x qual : Str} {st : Stmt} {body : MS} (F : Fun K x qual st f fd) (S : FnScope N ps (defScope st))
    (hbody : ∀ (cdv : Value) (A : Around) (outer : List Env) (s : Shared) (H : Hp) (E : XK), Room k (A.deeper (envOfC qual (defScope st) s.heap.objs.size f cdv)) → A.guards = some [] →
      PMSs (cxOf (L2.CX P w) P w K mg base N qual (defScope st) f cdv A outer s H E) (fun cls d _ H' => E cls d H') (defBody st) body) : FnG P w K mg base (k + 1) f fd ps (callM ps.length N.length body) :=
  fnG_gen (G := exitM) F S (fun k q => exit_ok (W := W0) k q) hbody
theorem fnK_of {x qual : Str} {st : Stmt} {body : MS} (F : Fun K x qual st f fd) (S : FnScope N ps (defScope st))
    (hbody : ∀ (cdv : Value) (A : Around) (outer : List Env) (s : Shared) (H : Hp) (E : XK), Room k (A.deeper (envOfC qual (defScope st) s.heap.objs.size f cdv)) → A.guards = some [] →
      PMSs (cxOf (L2.CX P w) P w K mg base N qual (defScope st) f cdv A outer s H E) (fun cls d _ H' => E cls d H') (defBody st) body) : FnG P w K mg base (k + 1) f fd ps (callK ps.length N.length body) :=
  fnG_gen (G := exitK) F S (fun k q => exitK_ok (W := W0) k q) hbody
end
/-! ### calls -/
section
variable {X : Cx} {W : WX} {pos p : Pos} {k : Nat} {f : Addr} {fd : FuncData} {ps : List Str} {m : Fn} {x : Str} {e : Expr} {es : List Expr} {mas : MA}
def mFn (m : Fn) (mas : MA) : ME := fun δ S => (mas δ S).bind fun us S1 => m us S1
theorem run_G {pins : List (Addr × Obj)} {σ : L2.St} {H : Hp} {s : Shared} {Q : VK} {us : List Value} {vs : List V} (F : FnG X.prog X.w X.K X.mg X.base k f fd ps m) (hr : Room k X.A) (hg : X.A.guards = some []) (hb : Binds X.K fd ps []) (tk : Takes X W)
    (I : Inv X pins σ H s) (r : Vals vs us) (h : spM X.K m vs H Q (WE W σ)) : wpAny (model X.prog X.w) X.A (call (.ref f) us) (EP X pins σ Q) X.xe s := by
  have hl : us.length = ps.length := by rw [← r.length]; exact F.vlen h
  have b := hb s us I.kIn (by rw [List.append_nil]; exact hl)
  rw [List.append_nil] at b
  refine wpAny_call (codeAny_mono (F.run X.A X.stack s H ⟨us, []⟩ us vs Q (WE W σ) hr hg I.env0 b r h) fun r s' hq => ?_)
  cases r with
  | error e => exact passAt tk σ pins H s e s' I hq
  | ok fl =>
    cases fl with
    | ret u => exact I.after hq
    | next => exact hq.elim
    | brk => exact hq.elim
    | cont => exact hq.elim
theorem spM_of {σ : L2.St} {ρ : Ad} {H : Hp} {S : Store} {vs : List V} {us : List U} {Q : VK} (k : Ok X.K ρ S H) (r : RepUs X.K ρ H vs us) (p : Post X.K W σ ρ H (m us S) fun u ρ' H' => ∀ v, RepU X.K ρ' H' v u → Q v H') : spM X.K m vs H Q (WE W σ) := by
  refine ⟨ρ, S, us, k, r, ?_⟩
  cases q : m us S with
  | ok u S' => rw [q] at p; exact fun v ρ' H' n k' r' => p ρ' H' n k' v r'
  | exc x S' => rw [q] at p; exact p
  | stuck => rw [q] at p; exact p
theorem pm_call (F : FnG X.prog X.w X.K X.mg X.base k f fd ps m) (hr : Room k X.A) (hgd : X.A.guards = some []) (tk : Takes X W) (hg : Gl X x) (hm : X.mg x = some (.ref f)) (hk : PySem.W.keepIn X.K (.ref f) = true) (hb : Binds X.K fd ps []) (ha : PMA X W (e :: es) mas)
    (hdb : (x == ("__debug__" : Str)) = false := by decide) (he : starEach (e :: es) X.env = (false, eval e X.env) :: starEach es X.env := by rfl) (hpl : (backTo pos (starEach es X.env)).any (·.1) = false := by rfl) : PM X W (.Call (.Name x p) (e :: es) [] pos) (mFn m mas) := by
  refine ⟨fun pins s σ H Q I ⟨ρ, δ, S, en, k0, p0⟩ => wpAny_Call_Name_kw (ld_glob I hg hm ?_ hdb)⟩
  have T : tA X.K W mas σ H fun vs H1 => spM X.K m vs H1 Q (WE W σ) := tA.first en k0 p0 fun vs us ρ1 H1 S1 _ n1 e1 k1 r1 p1 => spM_of k1 r1 p1
  refine PySem.W.callWith_K (h₀ := X.base) I.ok.mod.kin hk (thn (ha.run pos pins s σ H _ I T) fun us s1 ⟨vs, H1, I1, r, q⟩ => ⟨I1.kIn, ?_⟩) he hpl
  exact run_G F hr hgd hb tk I1 r q
theorem pm_call0 (F : FnG X.prog X.w X.K X.mg X.base k f fd ps m) (hr : Room k X.A) (hgd : X.A.guards = some []) (tk : Takes X W) (hg : Gl X x) (hm : X.mg x = some (.ref f)) (hk : PySem.W.keepIn X.K (.ref f) = true) (hb : Binds X.K fd ps [])
    (hdb : (x == ("__debug__" : Str)) = false := by decide) : PM X W (.Call (.Name x p) [] [] pos) (mFn m mNil) := by
  refine ⟨fun pins s σ H Q I ⟨ρ, δ, S, en, k0, p0⟩ => wpAny_Call_Name_kw (ld_glob I hg hm ?_ hdb)⟩
  exact PySem.W.callWith_K0 I.kIn hk (run_G (us := []) F hr hgd hb tk I .nil (spM_of k0 .nil p0))
end
/-! ### the law -/
theorem law_end {P : Program} {w : World} {K : Fg} {mg mb : Str → Option Value} {k : Nat} {fa a : Addr} {fd : FuncData} {x : Str} {m : Fn} {s₁ : Shared} {vs : List Value} {ns : List Int}
    (KX : K.In s₁.heap) (hns : s₁.heap.Ns mainGlobals mg) (hb : s₁.heap.Ns builtinsNs mb) (hbb : ∀ x : Str, x ≠ "__name__" → mb x = bootBuiltins x) (hlim : s₁.heap.NoLimit) (hg : s₁.gens = #[])
    (ha : s₁.heap.get? a = some { cls := .type "list", data := .seq vs.toArray }) (hi : IntsAre vs ns) (hl : ns.length ≤ sizeLine) (hr : Room k callerA)
    (F : ∀ base : Heap, K.In base → base.Ns mainGlobals mg → FnG P w K mg base k fa fd [x] m) (hbind : ∀ (s : Shared) (u : Value), BindsTo s fd ⟨[u], []⟩ [(x, u)])
    (hm : ∃ S, m [.d (.fl (ns.map D.int))] [] = .ok (.d (.bl true)) S) :
    codeAny (model P w) callerA (.call (.ref fa) ⟨[.ref a], []⟩) (fun r s' => r = .ok (.ret (.bool true)) ∧ OldK s₁.heap s'.heap ∧ s'.os = s₁.os ∧ AllBare s'.gens) s₁ := by
  have rv := vals_ints hi
  have lenV := hi.length
  obtain ⟨S9, hm⟩ := hm
  have core : ∀ H : Hp, (∀ b, H b = none ∨ ∃ o xs, H b = some (.frz o (.lst xs))) → FzL K (free ⟨[], []⟩) H a (ns.map V.int) → HOk P w H s₁.heap → (∀ b, H b ≠ none → b = a) → (H a ≠ none → K.lookup a = none) →
      codeAny (model P w) callerA (.call (.ref fa) ⟨[.ref a], []⟩) (fun r s' => r = .ok (.ret (.bool true)) ∧ OldK s₁.heap s'.heap ∧ s'.os = s₁.os ∧ AllBare s'.gens) s₁ := by
    intro H hO hS hok hA hK
    have notDict : ∀ {b : Addr} {o : Obj} {es : Array DictEntry} {ep : Nat}, s₁.heap.get? b = some o → o.data = .dict es ep → H b = none := fun {b o es ep} e d => by
      cases q : H b with
      | none => rfl
      | some u =>
        cases hA b (by rw [q]; simp)
        rw [ha] at e; cases e
        have d' : Data.seq vs.toArray _ = Data.dict es ep := d
        cases d'
    have nsH : ∀ {b : Addr} {mm : Str → Option Value}, s₁.heap.Ns b mm → (hidT s₁.heap H).Ns b mm := fun {b mm} ⟨o, es, ep, e, d, r⟩ => ⟨o, es, ep, hidT_get e (notDict e d), d, r⟩
    have kH : K.In (hidT s₁.heap H) := fun b o e => hidT_get (KX b o e) (by
      cases q : H b with
      | none => rfl
      | some u =>
        cases hA b (by rw [q]; simp)
        rw [hK (by rw [q]; simp)] at e; cases e)
    have hM : Mod K mg (hidT s₁.heap H) := ⟨kH, nsH hns, ⟨mb, nsH hb, hbb⟩, let ⟨mc, h1, h2⟩ := hlim; ⟨mc, nsH h1, h2⟩⟩
    have e0 : Env0 P w K mg (hidT s₁.heap H) callerA [] s₁ H := ⟨rfl, hM, fun b o e => of_hidT e, Nat.le_of_eq (hidT_size _ _), trivial, fun b z => absurd (show b ∈ ([] : List Addr) from z) (by simp), hok, .of_eq hg⟩
    have k0 : Ok K ⟨[], []⟩ [] H := ⟨rfl, fun i j b e => by simp at e, fun i b e => by simp at e, fun i e => by simp at e, fun b z => by simp at z⟩
    have sp : spM K m [.ref a] H (fun v _ => v = .bl true) (fun _ _ _ => False) := ⟨⟨[], []⟩, [], [.d (.fl (ns.map D.int))], k0, .cons (Rep.fl hS (RepL.ints ns)) .nil, by
      rw [hm]
      intro v ρ' H' _ _ r
      cases r; rfl⟩
    refine codeAny_mono ((F _ kH (nsH hns)).run callerA [] s₁ H ⟨[.ref a], []⟩ [.ref a] [.ref a] _ _ hr rfl e0 (hbind s₁ (.ref a)) (.cons rfl .nil) sp) fun r s' h => ?_
    cases r with
    | error e => obtain ⟨_, _, _, _, _, _, _, _, _, _, _, _, z⟩ := h; exact z.elim
    | ok fl =>
      cases fl with
      | next => exact h.elim
      | brk => exact h.elim
      | cont => exact h.elim
      | ret u =>
        obtain ⟨v, H', os, bare, un, hok', r', q⟩ := h
        have q' : v = .bl true := q
        subst q'
        cases (show u = Value.bool true from r')
        refine ⟨rfl, OldK.of_keep fun b o e => ?_, os, bare⟩
        rcases hO b with z | ⟨ob, xs, z⟩
        · exact un.keep b o e z (fun y => absurd (show b ∈ ([] : List Addr) from y) (by simp)) (by simp)
        · obtain ⟨e1, _⟩ := hok b _ z
          obtain ⟨e2, _⟩ := hok' b _ (un.frzs b ob _ z)
          rw [e] at e1; cases e1
          exact e2
  cases hk : K.lookup a with
  | some o =>
    have e := KX a o hk
    rw [ha] at e
    cases e
    exact core (fun _ => none) (fun _ => .inl rfl) (.inr ⟨_, vs.toArray, _, hk, rfl, rfl, rfl, by rw [List.size_toArray, lenV]; exact hl, by simpa using rv⟩) (fun b u z => by cases (show (none : Option HO) = some u from z)) (fun b z => absurd rfl z) fun z => absurd rfl z
  | none =>
    refine core (upd (fun _ => none) a (.frz { cls := .type "list", data := .seq vs.toArray } (.lst (ns.map V.int)))) (fun b => ?_) (.inl ⟨.inr ⟨_, upd_same⟩, ⟨by simp, by simp⟩⟩) (fun b u z => ?_) (fun b z => ?_) fun _ => hk
    · by_cases hb : b = a
      · subst hb; exact .inr ⟨_, _, upd_same⟩
      · exact .inl (upd_ne hb)
    · by_cases hb : b = a
      · subst hb
        rw [upd_same] at z; cases z
        exact ⟨ha, by rw [List.length_map]; exact hl, vs, _, rv, ha⟩
      · rw [upd_ne hb] at z; cases z
    · by_cases hb : b = a
      · exact hb
      · exact absurd (upd_ne hb) z
/-- the goal that k_head leaves -/
theorem law_walk {l : PySem.W.OpenLaw} {n k : Nat} {q : Program} {loose : List Str} {XP : (Str → Option Value) → Heap → Prop} {YP : World → Heap → Prop} {d : DefRec} {K : Params → Fg} {x : Str} {m : World → Fn}
    (hn : l.most = some n) (hn2 : n ≤ sizeLine) (hdf : d.params.defaults = []) (hr : Room k callerA) (hY : ∀ (w : World) (h : Heap), YP w h → (K w.params).In h)
    (F : ∀ (w : World) (mg : Str → Option Value) (fa : Addr) (h : Heap), (K w.params).In h → h.Ns mainGlobals mg → mg d.name = some (.ref fa) →
      ∃ fd : FuncData, (∀ (s : Shared) (u : Value), BindsTo s fd ⟨[u], []⟩ [(x, u)]) ∧ ∀ base : Heap, (K w.params).In base → base.Ns mainGlobals mg → FnG l.prog w (K w.params) mg base k fa fd [x] (m w))
    (hm : ∀ (w : World) (ns : List Int), ns.length ≤ n → ∃ S, m w [.d (.fl (ns.map D.int))] [] = .ok (.d (.bl true)) S) :
    PySem.W.WalkO q loose XP YP l.row.toRowW d [] (fun f vs => PySem.call f vs) := by
  refine Att.attach_call hn hdf fun w s₀ s₁ mg mb fa o pm cd doc a vs ns G Y ho hd hcd hmg hobj hints hlen hg => ?_
  obtain ⟨fd, hb, hF⟩ := F w mg fa _ (hY w _ Y) G.T.g hmg
  exact law_end (hY w _ Y) G.T.g G.T.b G.T.builtins G.T.nolimit hg hobj hints (Nat.le_trans hlen hn2) hr hF hb (hm w ns hlen)
end DL

set_option Elab.async false
set_option linter.all false
set_option maxRecDepth 100000
set_option maxHeartbeats 4000000
/-! DRules6: dicts and lists that change, match, star calls, a cell given up -/
namespace DL
open PySem PySem.Spec PyProof.Rows L2

/-! ### tables of data -/
def putD (kvs : List (Key × D)) (k : Key) (v : D) : List (Key × D) :=
  if (kvs.any fun kv => decide (kv.1 = k)) = true then kvs.map (fun kv => if kv.1 = k then (kv.1, v) else kv) else kvs ++ [(k, v)]
def mergeD (kvs more : List (Key × D)) : List (Key × D) := more.foldl (fun acc kv => putD acc kv.1 kv.2) kvs
section
variable {K : Fg} {ok : Addr → Prop} {H : Hp}
theorem RepK.any {k : Key} : ∀ {vs : List (Key × V)} {ds : List (Key × D)}, RepK K ok H vs ds → (vs.any fun kv => decide (kv.1 = k)) = (ds.any fun kv => decide (kv.1 = k))
  | _, _, .nil => rfl
  | _, _, .cons _ t => by rw [List.any_cons, List.any_cons, t.any]
theorem RepK.repl {k : Key} {v : V} {d : D} (r : Rep K ok H v d) : ∀ {vs : List (Key × V)} {ds : List (Key × D)}, RepK K ok H vs ds → RepK K ok H (vs.map fun kv => if kv.1 = k then (kv.1, v) else kv) (ds.map fun kv => if kv.1 = k then (kv.1, d) else kv)
  | _, _, .nil => .nil
  | _, _, .cons (k := j) h t => by
    rw [List.map_cons, List.map_cons]
    by_cases e : j = k
    · simp only [e, if_true]; exact .cons r (t.repl r)
    · simp only [e, if_false]; exact .cons h (t.repl r)
theorem RepK.snoc {k : Key} {v : V} {d : D} (r : Rep K ok H v d) : ∀ {vs : List (Key × V)} {ds : List (Key × D)}, RepK K ok H vs ds → RepK K ok H (vs ++ [(k, v)]) (ds ++ [(k, d)])
  | _, _, .nil => .cons r .nil
  | _, _, .cons h t => .cons h (t.snoc r)
theorem RepK.put {k : Key} {v : V} {d : D} {vs : List (Key × V)} {ds : List (Key × D)} (t : RepK K ok H vs ds) (r : Rep K ok H v d) : RepK K ok H (putK vs k v) (putD ds k d) := by
  unfold putK putD
  rw [t.any]
  by_cases e : (ds.any fun kv => decide (kv.1 = k)) = true
  · rw [if_pos e, if_pos e]; exact t.repl r
  · rw [if_neg e, if_neg e]; exact t.snoc r
theorem RepK.merge : ∀ {ws : List (Key × V)} {es : List (Key × D)} {vs : List (Key × V)} {ds : List (Key × D)}, RepK K ok H ws es → RepK K ok H vs ds → RepK K ok H (mergeK vs ws) (mergeD ds es)
  | _, _, _, _, .nil, t => t
  | _, _, vs, ds, .cons (k := k) (v := v) (d := d) (vs := ws) (ds := es) h r, t => show RepK K ok H (mergeK (putK vs k v) ws) (mergeD (putD ds k d) es) from RepK.merge r (t.put h)
theorem RepK.length : ∀ {vs : List (Key × V)} {ds : List (Key × D)}, RepK K ok H vs ds → vs.length = ds.length
  | _, _, .nil => rfl
  | _, _, .cons _ t => congrArg (· + 1) t.length
end
/-! ### displays of dicts -/
def mPairs : List (ME × ME) → DEnv → Store → Res (List (Key × D))
  | [], _, S => .ok [] S
  | (mk, mv) :: r, δ, S => (mk δ S).calm.bind fun u S1 => (mv δ S1).calm.bind fun w S2 => match u, w with
    | .d x, .d y => match keyD x with
      | some k => (mPairs r δ S2).bind fun ps S3 => .ok ((k, y) :: ps) S3
      | none => .stuck
    | _, _ => .stuck
def mDict (ps : List (ME × ME)) : ME := fun δ S => (mPairs ps δ S).bind fun kvs S1 => if kvs.length ≤ 15 then .ok (.d (.dct (mergeD [] kvs))) S1 else .stuck
def mDictC (ps : List (ME × ME)) : ME := fun δ S => (mPairs ps δ S).bind fun kvs S1 => if kvs.length ≤ 15 then .ok (.loc S1.length) (S1 ++ [.dct (mergeD [] kvs)]) else .stuck
def tPs (K : Fg) (W : WX) (ps : List (ME × ME)) : List (TE × TE) := ps.map fun p => (tE K W p.1, tE K W p.2)
def PMPs (X : Cx) (W : WX) (pos : Pos) (keys : List (Option Expr)) (values : List Expr) (ps : List (ME × ME)) : Prop := PPs X pos keys values (tPs X.K W ps)
section
variable {X : Cx} {W : WX} {pos : Pos} {ps : List (ME × ME)}
theorem pmps_nil : PMPs X W pos [] [] [] := pps_nil
theorem pmps_cons {k v : Expr} {ks : List (Option Expr)} {vs : List Expr} {mk mv : ME} (hk : PM X W k mk) (hv : PM X W v mv) (hr : PMPs X W pos ks vs ps) : PMPs X W pos (some k :: ks) (v :: vs) ((mk, mv) :: ps) := pps_cons hk hv hr
/-- the pairs, one after another, under any hold -/
theorem pairs_ok {K : Fg} {σ : L2.St} : ∀ {ps : List (ME × ME)} {ρ : Ad} {H : Hp} {S S' : Store} {δ : DEnv} {kvs : List (Key × D)} {Q : List (V × V) → Hp → Prop}, EnvOk K ρ H σ δ → Ok K ρ S H → mPairs ps δ S = .ok kvs S' →
    (∀ vs ρ' H', Nxt ρ H ρ' H' → Ok K ρ' S' H' → RepK K (free ρ') H' vs kvs → Q (vs.map fun kv => (kV kv.1, kv.2)) H') → tPairs (tPs K W ps) σ H Q
  | [], ρ, H, S, S', δ, kvs, Q, e, k, h, q => by
    cases h
    exact q [] ρ H Nxt.refl k .nil
  | (mk, mv) :: r, ρ, H, S, S', δ, kvs, Q, e, k, h, q => by
    unfold mPairs at h
    cases h1 : mk δ S with
    | exc x S1 => rw [h1] at h; cases h
    | stuck => rw [h1] at h; cases h
    | ok u S1 =>
      rw [h1] at h
      simp only [Res.calm_ok, Res.ok_bind] at h
      refine tE.first (m := mk) (good := fun _ _ _ => True) (f := fun _ S => .ok () S) e k (by rw [h1]; exact fun _ _ _ _ => trivial) fun v u' ρ1 H1 S1' h1' n1 e1 k1 r1 _ => ?_
      rw [h1] at h1'; cases h1'
      cases h2 : mv δ S1 with
      | exc x S2 => rw [h2] at h; cases h
      | stuck => rw [h2] at h; cases h
      | ok w S2 =>
        rw [h2] at h
        simp only [Res.calm_ok, Res.ok_bind] at h
        refine tE.first (m := mv) (good := fun _ _ _ => True) (f := fun _ S => .ok () S) e1 k1 (by rw [h2]; exact fun _ _ _ _ => trivial) fun v2 w' ρ2 H2 S2' h2' n2 e2 k2 r2 _ => ?_
        rw [h2] at h2'; cases h2'
        cases u with
        | loc n => cases h
        | d x =>
          cases w with
          | loc n => cases h
          | d y =>
            cases h3 : keyD x with
            | none => simp only [h3] at h; cases h
            | some kk =>
              simp only [h3] at h
              cases h4 : mPairs r δ S2 with
              | exc x S3 => rw [h4] at h; cases h
              | stuck => rw [h4] at h; cases h
              | ok more S3 =>
                rw [h4] at h
                simp only [Res.ok_bind] at h
                cases h
                refine pairs_ok e2 k2 h4 fun vs ρ' H' n' k' r' => ?_
                have ek : v = kV kk := RepP.key (.inl r1) h3
                subst ek
                exact q ((kk, v2) :: vs) ρ' H' (n1.trans (n2.trans n')) k' (.cons (Rep.mv (n'.mv k2) r2) r')
theorem Post.okOf {α β : Type} {K : Fg} {σ : L2.St} {ρ : Ad} {H : Hp} {r : Res α} {f : α → Store → Res β} {good : β → Ad → Hp → Prop} (hx : ∀ x S, r ≠ .exc x S) (p : Post K W σ ρ H (r.bind f) good) : ∃ a S, r = .ok a S ∧ Post K W σ ρ H (f a S) good := by
  cases r with
  | ok a S => exact ⟨a, S, rfl, p⟩
  | exc x S => exact absurd rfl (hx x S)
  | stuck => exact p.elim
theorem pairs_calm : ∀ (ps : List (ME × ME)) (δ : DEnv) (S : Store) (x : XD) (S' : Store), mPairs ps δ S ≠ .exc x S'
  | [], _, _, _, _ => fun h => by cases h
  | (mk, mv) :: r, δ, S, x, S' => fun h => by
    unfold mPairs at h
    cases h1 : mk δ S with
    | exc x S1 => rw [h1] at h; cases h
    | stuck => rw [h1] at h; cases h
    | ok u S1 =>
      rw [h1] at h
      simp only [Res.calm_ok, Res.ok_bind] at h
      cases h2 : mv δ S1 with
      | exc x S2 => rw [h2] at h; cases h
      | stuck => rw [h2] at h; cases h
      | ok w S2 =>
        rw [h2] at h
        simp only [Res.calm_ok, Res.ok_bind] at h
        cases u with
        | loc n => cases h
        | d x =>
          cases w with
          | loc n => cases h
          | d y =>
            cases h3 : keyD x with
            | none => simp only [h3] at h; cases h
            | some kk =>
              simp only [h3] at h
              cases h4 : mPairs r δ S2 with
              | exc x S3 => exact pairs_calm r δ S2 x S3 h4
              | stuck => rw [h4] at h; cases h
              | ok more S3 => rw [h4] at h; cases h
theorem hold_env {K : Fg} {ρ : Ad} {H : Hp} {S : Store} {σ : L2.St} {δ : DEnv} {a : Addr} {o : HO} (e : EnvOk K ρ H σ δ) (k : Ok K ρ S H) (ha : H a = none) : EnvOk K (ρ.hold a) (upd H a o) σ δ := e.lat (Lat.hold ha) List.prefix_rfl k
theorem held_nxt {ρ ρ2 : Ad} {H H2 : Hp} {a : Addr} {o o' : HO} (ha : H a = none) (n : Nxt (ρ.hold a) (upd H a o) (ρ2.hold a) H2) (hr : ρ2.rs = ρ.rs) : Nxt ρ H ρ2 (upd H2 a o') :=
  ⟨n.pre, hr, fun b q e f => by
    have ne := ne_of_none e ha
    rw [upd_ne ne]
    exact n.keep b q (by rw [upd_ne ne]; exact e) f, fun b z => by
    rcases n.new b z with y | y
    · exact .inl y
    · by_cases hb : b = a
      · subst hb; exact .inr ha
      · exact .inr (by rw [upd_ne hb] at y; exact y)⟩
theorem pm_dict {keys : List (Option Expr)} {values : List Expr} (h : PMPs X W pos keys values ps) (hall : keys.all (·.isSome) = true := by rfl) (hl : keys.length = values.length := by rfl) (h0 : keys ≠ [] := by intro z; cases z) (h15 : keys.length ≤ 15 := by decide) : PM X W (.Dict keys values pos) (mDict ps) :=
  pimpE (pe_disp h hall hl h0 h15) fun σ H Q ⟨ρ, δ, S, e, k, p⟩ => by
    intro a ha
    obtain ⟨kvs, S1, hm, p1⟩ := Post.okOf (pairs_calm ps δ S) p
    by_cases hz : kvs.length ≤ 15
    case neg => rw [if_neg hz] at p1; exact p1.elim
    rw [if_pos hz] at p1
    refine pairs_ok (hold_env e k ha) (k.hold ha) hm fun vs ρ' H' n k' r => ?_
    obtain ⟨ρ2, rfl, n2⟩ := n.unhold
    have na : some a ∉ ρ.cs := (k.notNew ha).1
    have h2 : H' a = some (.dK []) := n.keep a _ upd_same na
    refine ⟨h2, vs, rfl, by rw [r.length]; exact hz, ?_⟩
    have fa : free ρ2 a := ⟨(k'.rsv a (List.mem_cons_self ..)).1, by rw [n2.rs]; exact (k.notNew ha).2⟩
    exact p1 ρ2 _ (held_nxt ha n n2.rs) (k'.rewrite).unhold _ (Rep.dct (.inl upd_same) fa (((RepK.merge r .nil).mv (Mv.rewrite (.inr ⟨_, h2⟩))).mv Mv.unhold))
theorem pm_dictC {keys : List (Option Expr)} {values : List Expr} (h : PMPs X W pos keys values ps) (hall : keys.all (·.isSome) = true := by rfl) (hl : keys.length = values.length := by rfl) (h0 : keys ≠ [] := by intro z; cases z) (h15 : keys.length ≤ 15 := by decide) : PM X W (.Dict keys values pos) (mDictC ps) :=
  pimpE (pe_disp h hall hl h0 h15) fun σ H Q ⟨ρ, δ, S, e, k, p⟩ => by
    intro a ha
    obtain ⟨kvs, S1, hm, p1⟩ := Post.okOf (pairs_calm ps δ S) p
    by_cases hz : kvs.length ≤ 15
    case neg => rw [if_neg hz] at p1; exact p1.elim
    rw [if_pos hz] at p1
    refine pairs_ok (hold_env e k ha) (k.hold ha) hm fun vs ρ' H' n k' r => ?_
    obtain ⟨ρ2, rfl, n2⟩ := n.unhold
    have na : some a ∉ ρ.cs := (k.notNew ha).1
    have h2 : H' a = some (.dK []) := n.keep a _ upd_same na
    refine ⟨h2, vs, rfl, by rw [r.length]; exact hz, ?_⟩
    have fa : some a ∉ ρ2.cs := (k'.rsv a (List.mem_cons_self ..)).1
    have n3 := held_nxt (o' := .dK (mergeK [] vs)) ha n n2.rs
    have k3 : Ok X.K (ρ2.hold a) S1 (upd H' a (.dK (mergeK [] vs))) := k'.rewrite
    -- the held address becomes a cell
    have mv : Mv X.K (free (ρ2.hold a)) (free (ρ2.add a)) (upd H' a (.dK (mergeK [] vs))) (upd H' a (.dK (mergeK [] vs))) := ⟨fun _ _ h => h, fun b _ h f => ⟨h, by
      obtain ⟨f1, f2⟩ := free_hold f
      refine ⟨fun z => ?_, f1.2⟩
      rcases List.mem_append.mp z with z | z
      · exact f1.1 z
      · exact f2 (by simpa using z)⟩⟩
    have ix : ∀ {i : Nat} {x : Option Addr}, (ρ2.add a).cs[i]? = some x → (i < ρ2.cs.length ∧ ρ2.cs[i]? = some x) ∨ (i = ρ2.cs.length ∧ x = some a) := fun {i x} e => by
      have e' : (ρ2.cs ++ [some a])[i]? = some x := e
      by_cases hi : i < ρ2.cs.length
      · rw [List.getElem?_append_left hi] at e'; exact .inl ⟨hi, e'⟩
      · rw [List.getElem?_append_right (by omega)] at e'
        have : i - ρ2.cs.length = 0 := by
          by_cases q : i - ρ2.cs.length = 0
          · exact q
          · rw [List.getElem?_eq_none (by simp; omega)] at e'; cases e'
        rw [this] at e'
        exact .inr ⟨by omega, by simpa using e'.symm⟩
    have len3 : ρ2.cs.length = S1.length := k3.len
    have k4 : Ok X.K (ρ2.add a) (S1 ++ [.dct (mergeD [] kvs)]) (upd H' a (.dK (mergeK [] vs))) := by
      refine ⟨by simp [Ad.add, len3], fun i j b e1 e2 => ?_, fun i b e => ?_, fun i e => ?_, fun b z => ?_⟩
      · rcases ix e1 with ⟨_, q1⟩ | ⟨i1, q1⟩ <;> rcases ix e2 with ⟨_, q2⟩ | ⟨i2, q2⟩
        · exact k3.nd i j b q1 q2
        · cases q2; exact absurd (List.mem_of_getElem? q1) fa
        · cases q1; exact absurd (List.mem_of_getElem? q2) fa
        · omega
      · rcases ix e with ⟨hi, q⟩ | ⟨hi, q⟩
        · obtain ⟨c, c1, c2⟩ := k3.live i b q
          exact ⟨c, by rw [List.getElem?_append_left (by omega)]; exact c1, c2.mv mv rfl⟩
        · cases q
          exact ⟨.dct (mergeD [] kvs), by rw [hi, len3, List.getElem?_append_right (Nat.le_refl _)]; simp, ⟨_, upd_same, ((RepK.merge r .nil).mv (Mv.rewrite (.inr ⟨_, h2⟩))).mv mv⟩⟩
      · rcases ix e with ⟨hi, q⟩ | ⟨_, q⟩
        · rw [List.getElem?_append_left (by omega)]; exact k3.dead i q
        · cases q
      · obtain ⟨f1, mk⟩ := k3.rsv b (List.mem_cons_of_mem _ z)
        refine ⟨fun y => ?_, mk⟩
        rcases List.mem_append.mp y with y | y
        · exact f1 y
        · have : b = a := by simpa using y
          subst this
          exact (k.notNew ha).2 (by rw [← n2.rs]; exact z)
    have n4 : Nxt ρ H (ρ2.add a) (upd H' a (.dK (mergeK [] vs))) := ⟨n3.pre.trans (List.prefix_append _ _), n3.rs, n3.keep, fun b z => by
      rcases List.mem_append.mp z with z | z
      · exact n3.new b z
      · have : b = a := by simpa using z
        subst this; exact .inr ha⟩
    refine p1 _ _ n4 k4 _ ⟨a, rfl, ?_⟩
    show (ρ2.cs ++ [some a])[S1.length]? = _
    rw [← len3, List.getElem?_append_right (Nat.le_refl _)]; simp
/-- {} that will change -/
def mDict0C : ME := fun _ S => .ok (.loc S.length) (S ++ [.dct []])
theorem pm_dict0C : PM X W (.Dict [] [] pos) mDict0C :=
  pimpE pe_dnewK fun σ H Q ⟨ρ, δ, S, e, k, p⟩ => by
    intro a ha
    refine p _ _ (Nxt.cell ha) (k.cell ha ⟨[], upd_same, .nil⟩) _ ⟨a, rfl, ?_⟩
    show (ρ.cs ++ [some a])[S.length]? = _
    rw [← k.len, List.getElem?_append_right (Nat.le_refl _)]; simp
end
/-! ### d[k] = v -/
def mPut (mo mi mv : ME) : MS := fun _ δ S => (mv δ S).inS δ fun v S1 => (mo δ S1).inS δ fun o S2 => (mi δ S2).inS δ fun i S3 => match o, v, peek S3 i with
  | .loc n, .d y, some kx => match S3[n]?, keyD kx with
    | some (.dct es), some k => if es.length < sizeLine then .next δ (S3.set n (.dct (putD es k y))) else .stuck
    | _, _ => .stuck
  | _, _, _ => .stuck
section
variable {X : Cx} {W : WX} {pos pos' apos : Pos} {o i v e : Expr} {mo mi mv : ME}
theorem pms_put (hu : X.A.units + 1 < cLine) (ho : PM X W o mo) (hi : PM X W i mi) (hv : PM X W v mv) (hs : swapsWith v (some (.Subscript o i pos')) pos.line X.env = pure false := by rfl) : PMS X W (.Assign [.Subscript o i pos'] v pos) (mPut mo mi mv) :=
  pimpS (ps_dput hu ho hi hv hs) fun D σ H ⟨ρ0, H0, ρ, δ, S, n0, e, k, p⟩ => tE.inS n0 e k p fun x1 u1 ρ1 H1 S1 _ n1 e1 k1 r1 p1 => tE.inS n1 e1 k1 p1 fun x2 u2 ρ2 H2 S2 m2 n2 e2 k2 r2 p2 => tE.inS n2 e2 k2 p2 fun x3 u3 ρ3 H3 S3 m3 n3 e3 k3 r3 p3 => by
    cases u2 with
    | d x => exact p3.elim
    | loc n =>
      cases u1 with
      | loc _ => exact p3.elim
      | d y =>
        cases hk : peek S3 u3 with
        | none => simp only [hk] at p3; exact p3.elim
        | some kx =>
          simp only [hk] at p3
          obtain ⟨a, rfl, ha⟩ := RepU.nxt m3 k2 r2
          have r1 := (r1.nxt m2 k1).nxt m3 k2
          obtain ⟨c, hc, q⟩ := k3.live n a ha
          cases c with
          | dct es =>
            cases hkk : keyD kx with
            | none => simp only [hc, hkk] at p3; exact p3.elim
            | some kk =>
              simp only [hc, hkk] at p3
              by_cases hz : es.length < sizeLine
              · rw [if_pos hz] at p3
                obtain ⟨ks, hks, rk⟩ := q
                have mem : some a ∈ ρ3.cs := List.mem_of_getElem? ha
                have np : Nxt ρ3 H3 ρ3 (upd H3 a (.dK (putK ks kk x1))) := Nxt.put mem
                refine ⟨a, _, rfl, .inl ⟨ks, kk, hks, (r3.peek k3 hk).key hkk, by rw [rk.length]; exact hz, rfl⟩, ?_⟩
                exact p3 σ ρ3 _ (n3.trans np) (k3.put ha ⟨_, upd_same, (rk.put r1).mv (np.mv k3)⟩) (e3.nxt np k3)
              · rw [if_neg hz] at p3; exact p3.elim
          | lst ds => simp only [hc] at p3; exact p3.elim
          | dead => exact q.elim
/-! ### xs.append(e), xs.extend(ys), d.update(e) -/
/-- o.m(..) that changes the list or dict in a cell: ty tells which of both, act what comes of it -/
def isL : Cell → Bool
  | .lst _ => true
  | _ => false
def isDc : Cell → Bool
  | .dct _ => true
  | _ => false
abbrev Act := Store → Cell → List U → Option (D × Cell)
def mMeth (ty : Cell → Bool) (act : Act) (mo : ME) (ma : MA) : ME := fun δ S => (mo δ S).bind fun o S1 => match o with
  | .d _ => .stuck
  | .loc n => match S1[n]? with
    | none => .stuck
    | some c => if ty c then (ma δ S1).bind fun us S2 => match S2[n]? with
        | none => .stuck
        | some c2 => match act S2 c2 us with
          | none => .stuck
          | some (r, c3) => .ok (.d r) (S2.set n c3)
      else .stuck
def rMeth (K : Fg) (act : Act) : V → List V → Hp → VK → Prop := fun x xs H Q => ∃ ρ S n a c us r c', x = .ref a ∧ Ok K ρ S H ∧ ρ.cs[n]? = some (some a) ∧ S[n]? = some c ∧ RepUs K ρ H xs us ∧ act S c us = some (r, c') ∧
  ∀ v H', Nxt ρ H ρ H' → Ok K ρ (S.set n c') H' → Rep K (free ρ) H' v r → Q v H'
theorem loc_lst {K : Fg} {ρ : Ad} {H : Hp} {S : Store} {n : Nat} {a : Addr} {ds : List D} (k : Ok K ρ S H) (ha : ρ.cs[n]? = some (some a)) (hS : S[n]? = some (.lst ds)) : ∃ xs, H a = some (.lst xs) ∧ RepL K (free ρ) H xs ds := by
  obtain ⟨c, hc, q⟩ := k.live n a ha
  rw [hS] at hc; cases hc
  exact q
theorem loc_dct {K : Fg} {ρ : Ad} {H : Hp} {S : Store} {n : Nat} {a : Addr} {ds : List (Key × D)} (k : Ok K ρ S H) (ha : ρ.cs[n]? = some (some a)) (hS : S[n]? = some (.dct ds)) : ∃ xs, H a = some (.dK xs) ∧ RepK K (free ρ) H xs ds := by
  obtain ⟨c, hc, q⟩ := k.live n a ha
  rw [hS] at hc; cases hc
  exact q
variable {es : List Expr} {ma : MA}
theorem mMeth_ok {ty : Cell → Bool} {act : Act} {T : String} (hT : (T = "list" ∧ ty = isL) ∨ (T = "dict" ∧ ty = isDc)) {σ : L2.St} {H : Hp} {Q : VK} (h : tE X.K W (mMeth ty act mo ma) σ H Q) : tBM X.K T (rMeth X.K act) (tE X.K W mo) (tA X.K W ma) σ H Q := by
  obtain ⟨ρ, δ, S, en, k, p⟩ := h
  refine tE.first en k p fun x u ρ1 H1 S1 _ n1 e1 k1 r1 p1 => ?_
  cases u with
  | d z => exact p1.elim
  | loc n =>
    obtain ⟨a, rfl, ha⟩ := r1
    cases hc : S1[n]? with
    | none => simp only [hc] at p1; exact p1.elim
    | some c =>
      simp only [hc] at p1
      by_cases ht : ty c = true
      case neg => rw [if_neg ht] at p1; exact p1.elim
      rw [if_pos ht] at p1
      refine ⟨?_, tA.first e1 k1 p1 fun vs us ρ2 H2 S2 _ n2 e2 k2 r2 p2 => ?_⟩
      · rcases hT with ⟨rfl, rfl⟩ | ⟨rfl, rfl⟩
        · cases c with
          | lst ds => obtain ⟨xs, hx, _⟩ := loc_lst k1 ha hc; exact .inl ⟨rfl, xs, SqL.of hx⟩
          | _ => cases ht
        · cases c with
          | dct ds => obtain ⟨xs, hx, _⟩ := loc_dct k1 ha hc; exact .inr (.inr (.inl ⟨rfl, .inl ⟨xs, hx⟩⟩))
          | _ => cases ht
      · cases hc2 : S2[n]? with
        | none => simp only [hc2] at p2; exact p2.elim
        | some c2 =>
          simp only [hc2] at p2
          cases hA : act S2 c2 us with
          | none => simp only [hA] at p2; exact p2.elim
          | some rc =>
            obtain ⟨r, c3⟩ := rc
            simp only [hA] at p2
            obtain ⟨a', ea, ha2⟩ := RepU.nxt (u := .loc n) n2 k1 ⟨a, rfl, ha⟩
            cases ea
            exact ⟨ρ2, S2, n, a, c2, us, r, c3, rfl, k2, ha2, hc2, r2, hA, fun v H' n' k' r' => p2 ρ2 H' n' k' v r'⟩
theorem pm_meth {m : Str} {id T : String} {ty : Cell → Bool} {act : Act} {cpos : Pos} (pa : PlainAttrs T) (slot : Slot T m id) (hty : typeOf (.builtin id) = pure (.type "method_descriptor")) (hT : (T = "list" ∧ ty = isL) ∨ (T = "dict" ∧ ty = isDc)) (hm : MtR X id (rMeth X.K act)) (ho : PM X W o mo) (ha : PMA X W (e :: es) ma)
    (hbase : attributeBase o m X.env (eval o X.env) = eval o X.env := by rfl)
    (hfew : ((backTo cpos (starEach (e :: es) X.env)).all (fun x => !x.1) && (backToKw cpos (keywordEach [] X.env)).all (fun x => x.1.isSome)
      && decide ((e :: es).length + ([] : List Keyword).length + (if ([] : List Keyword).isEmpty then 0 else 1) < 30)) = true := by rfl)
    (hline : (apos.endLine == cpos.line) = true := by rfl) (hs : starEach (e :: es) X.env = (false, eval e X.env) :: starEach es X.env := by rfl) (hplain : (backTo cpos (starEach es X.env)).any (·.1) = false := by rfl) :
    PM X W (.Call (.Attribute o m apos) (e :: es) [] cpos) (mMeth ty act mo ma) :=
  pimpE (pe_bm pa slot hty hm ho ha hbase hfew hline hs hplain) fun _ _ _ h => mMeth_ok hT h
def aAppend : Act := fun _ c us => match c, us with
  | .lst ds, [.d y] => if ds.length < sizeLine then some (.non, .lst (ds ++ [y])) else none
  | _, _ => none
theorem md_append : MtR X "list.append" (rMeth X.K aAppend) := by
  intro pins s σ H x xs v us Q I rx rxs h
  obtain ⟨ρ, S, n, a, c, ws, r, c', rfl, k, ha, hc, rw, hA, q⟩ := h
  unfold aAppend at hA
  split at hA
  · split at hA
    · rename_i ds y hz
      cases hA
      obtain ⟨ys, hy, rl⟩ := loc_lst k ha hc
      cases rw with
      | @cons v1 _ _ _ r1 t =>
        cases t
        have np : Nxt ρ H ρ (upd H a (.lst (ys ++ [v1]))) := Nxt.put (List.mem_of_getElem? ha)
        exact mt_append pins s σ H _ _ v us Q I rx rxs ⟨a, ys, v1, rfl, rfl, hy, by rw [rl.length]; exact hz, q _ _ np (k.put ha ⟨_, upd_same, (rl.append (.cons r1 .nil)).mv (np.mv k)⟩) .non⟩
    · cases hA
  · cases hA
def aExtend : Act := fun S c us => match c, us with
  | .lst ds, [u] => match peek S u with
    | some (.lst es) => if ds.length + es.length ≤ sizeLine then some (.non, .lst (ds ++ es)) else none
    | _ => none
  | _, _ => none
theorem mt_extendR : MtM X "list.extend" (fun x vs H Q => ∃ l b xs zs, x = .ref l ∧ vs = [.ref b] ∧ H l = some (.lst xs) ∧ Rd H b (.lst zs) ∧ xs.length + zs.length ≤ sizeLine ∧ Q .non (upd H l (.lst (xs ++ zs)))) := by
  intro pins s σ H x vs v us Q I rx rv h
  obtain ⟨l, b, xs, zs, rfl, rfl, hH, hB, hz, q⟩ := h
  cases rx
  obtain ⟨u, rfl, ru⟩ := rv.one
  cases ru
  obtain ⟨_, i1, n1, r1, l1, e1⟩ := I.lstM hH
  obtain ⟨_, i2, n2, r2, l2, e2⟩ := lstR I hB
  have z1 : i1.toArray.size + i2.toArray.size ≤ sizeLine := by simp only [List.size_toArray]; omega
  have z2 : ¬ (!i1.toArray.isEmpty && Builtin.List.listTooLong (i1.toArray.size + i2.toArray.size)) = true := by rw [notLongL z1, Bool.and_false]; exact Bool.false_ne_true
  refine call_meets F.slot_list_extend ⟨_, e1, rfl⟩ F.entry_list_extend (F.args_list_extend_2 _ _) (AutoSeq1.list_extend_list_list_0 l i1.toArray n1 b i2.toArray n2 z2 (by rw [List.size_toArray]; omega) (by omega)) ⟨e1, e2, ?_⟩
  exact ⟨.non, _, I.lset (its' := i1 ++ i2) hH e1 (by simp) (r1.append r2) (by rw [List.length_append]; omega), rfl, q⟩
theorem md_extend : MtR X "list.extend" (rMeth X.K aExtend) := by
  intro pins s σ H x xs v us Q I rx rxs h
  obtain ⟨ρ, S, n, a, c, ws, r, c', rfl, k, ha, hc, rw, hA, q⟩ := h
  unfold aExtend at hA
  split at hA
  · rename_i ds u
    split at hA
    · rename_i es hp
      split at hA
      · rename_i hz
        cases hA
        obtain ⟨ys, hy, rl⟩ := loc_lst k ha hc
        cases rw with
        | cons r1 t =>
          cases t
          obtain ⟨b, zs, rfl, hb, rz⟩ := (r1.peek k hp).lst
          have np : Nxt ρ H ρ (upd H a (.lst (ys ++ zs))) := Nxt.put (List.mem_of_getElem? ha)
          exact mt_extendR pins s σ H _ _ v us Q I rx rxs ⟨a, b, ys, zs, rfl, rfl, hy, hb, by rw [rl.length, rz.length]; exact hz, q _ _ np (k.put ha ⟨_, upd_same, (rl.append rz).mv (np.mv k)⟩) .non⟩
      · cases hA
    · cases hA
  · cases hA
def aUpdate : Act := fun S c us => match c, us with
  | .dct ds, [.d (.dct es)] => if ds.length + es.length ≤ sizeLine then some (.non, .dct (mergeD ds es)) else none
  | _, _ => none
theorem md_update : MtR X "dict.update" (rMeth X.K aUpdate) := by
  intro pins s σ H x xs v us Q I rx rxs h
  obtain ⟨ρ, S, n, a, c, ws, r, c', rfl, k, ha, hc, rw, hA, q⟩ := h
  unfold aUpdate at hA
  split at hA
  · rename_i ds es
    split at hA
    · rename_i hz
      cases hA
      obtain ⟨ys, hy, rl⟩ := loc_dct k ha hc
      cases rw with
      | cons r1 t =>
        cases t
        cases r1 with
        | @dct b zs _ hb fb rz =>
          have ne : a ≠ b := fun e => fb.1 (by rw [← e]; exact List.mem_of_getElem? ha)
          cases rx
          obtain ⟨u, rfl, ru⟩ := vals1 rxs
          cases ru
          obtain ⟨z1, s1, vs1, kv1, d1⟩ := dk_of I.hok hy
          obtain ⟨z2, s2, vs2, kv2, d2⟩ := dk_rd I.hok hb
          have np : Nxt ρ H ρ (upd H a (.dK (mergeK ys zs))) := Nxt.put (List.mem_of_getElem? ha)
          have l1 : ys.length = vs1.length := Paired.length kv1
          have l2 : zs.length = vs2.length := Paired.length kv2
          have hl : vs1.length + vs2.length ≤ sizeLine := by rw [← l1, ← l2, rl.length, rz.length]; exact hz
          refine call_meetsIn F.slot_dict_update d1.typeIs F.entry_dict_update (F.args_dict_update_2 _ _) (meets_dict_update (mixKind X.prog X.w) a b ne s2) ⟨vs1, vs2, d1, d2, hl, fun h' dd _ hs => ?_⟩
          refine ⟨.non, upd H a (.dK (mergeK ys zs)), ?_, rfl, q _ _ np (k.put ha ⟨_, upd_same, (RepK.merge rz rl).mv (np.mv k)⟩) .non⟩
          exact d_write (t' := s.toks) I (by rw [hy]; exact True.intro) hs (let ⟨q, _, _, hq, _⟩ := dd; ⟨q, hq⟩) (dk_new (Nat.le_trans (length_mergeK zs ys) (by rw [rl.length, rz.length]; exact hz)) s1 (KV.merge kv2 kv1) dd)
    · cases hA
  · cases hA
end
end DL

set_option Elab.async false
set_option linter.all false
set_option maxRecDepth 100000
set_option maxHeartbeats 4000000
/-! DRules7: pairs of names, cells given up, starred arguments, match, keys of a dict, starred targets, x[::-1] -/
namespace DL
open PySem PySem.Spec PyProof.Rows L2

section
variable {K : Fg} {W : WX} {σ : L2.St} {ρ : Ad} {H : Hp} {S : Store} {δ : DEnv}
theorem tA.inS {m : MA} {Q : List V → Hp → Prop} {ρ0 : Ad} {H0 : Hp} {f : List U → Store → SR} {Dn : Ends} (n0 : Nxt ρ0 H0 ρ H) (e : EnvOk K ρ H σ δ) (k : Ok K ρ S H)
    (h : PostS K W ρ0 H0 ((m δ S).inS δ f) Dn)
    (hq : ∀ vs us ρ1 H1 S1, Nxt ρ H ρ1 H1 → Nxt ρ0 H0 ρ1 H1 → EnvOk K ρ1 H1 σ δ → Ok K ρ1 S1 H1 → RepUs K ρ1 H1 vs us → PostS K W ρ0 H0 (f us S1) Dn → Q vs H1) : tA K W m σ H Q := by
  refine ⟨ρ, δ, S, e, k, ?_⟩
  cases q : m δ S with
  | ok u S1 =>
    rw [q] at h
    exact fun ρ1 H1 n k1 v r => hq v u ρ1 H1 S1 n (n0.trans n) (e.nxt n k) k1 r h
  | exc x S1 =>
    rw [q] at h
    exact fun cls dx ρ1 H1 n k1 r => h cls dx σ ρ1 H1 (n0.trans n) k1 (e.nxt n k) r
  | stuck => rw [q] at h; exact h
end
/-! ### a, b = x, y -/
def mPar (is : List Nat) (ma : MA) : MS := fun _ δ S => (ma δ S).inS δ fun us S1 => if us.length = is.length then .next ((is.zip us).foldl (fun δ p => δ.set p.1 (some p.2)) δ) S1 else .stuck
section
variable {X : Cx} {W : WX} {pos : Pos} {ma : MA}
theorem pms_par {i j : Nat} {x y : Str} {a b : Expr} {px py pt : Pos} {kt k2 pt2} (hc : X.calm = true) (hN : X.N.Nodup) (hi : X.N[i]? = some x) (hj : X.N[j]? = some y) (hij : i ≠ j)
    (hx : X.env.scope.names.lookup x = some .local) (hy : X.env.scope.names.lookup y = some .local) (ha : PMA X W [a, b] ma)
    (hw : swappedStores [.Tuple [.Name x px, .Name y py] kt pt] (.Tuple [a, b] k2 pt2) X.env = pure (some [x, y]) := by rfl)
    (hs : swapsWithSole [.Tuple [.Name x px, .Name y py] kt pt] (.Tuple [a, b] k2 pt2) pos.line X.env = pure false := by rfl) :
    PMS X W (.Assign [.Tuple [.Name x px, .Name y py] kt pt] (.Tuple [a, b] k2 pt2) pos) (mPar [i, j] ma) :=
  pimpS (ps_par hc hN hi hj hij hx hy ha hw hs) fun D σ H ⟨ρ0, H0, ρ, δ, S, n0, e, k, p⟩ => tA.inS n0 e k p fun vs us ρ1 H1 S1 _ n1 e1 k1 r1 p1 => by
    by_cases hl : us.length = [i, j].length
    case neg => rw [if_neg hl] at p1; exact p1.elim
    rw [if_pos hl] at p1
    cases r1 with
    | nil => cases hl
    | cons r t =>
      cases t with
      | nil => cases hl
      | cons r' t =>
        cases t with
        | nil => exact ⟨_, _, rfl, p1 _ ρ1 H1 n1 k1 ((e1.set r).set r')⟩
        | cons _ _ => simp at hl
theorem pms_par3 {i j l : Nat} {x y z : Str} {a b c : Expr} {px py pz pt : Pos} {kt k2 pt2} (hc : X.calm = true) (hN : X.N.Nodup) (hi : X.N[i]? = some x) (hj : X.N[j]? = some y) (hl : X.N[l]? = some z) (hij : i ≠ j) (hil : i ≠ l) (hjl : j ≠ l)
    (hx : X.env.scope.names.lookup x = some .local) (hy : X.env.scope.names.lookup y = some .local) (hz : X.env.scope.names.lookup z = some .local) (ha : PMA X W [a, b, c] ma)
    (hw : swappedStores [.Tuple [.Name x px, .Name y py, .Name z pz] kt pt] (.Tuple [a, b, c] k2 pt2) X.env = pure (some [x, y, z]) := by rfl)
    (hs : swapsWithSole [.Tuple [.Name x px, .Name y py, .Name z pz] kt pt] (.Tuple [a, b, c] k2 pt2) pos.line X.env = pure false := by rfl) :
    PMS X W (.Assign [.Tuple [.Name x px, .Name y py, .Name z pz] kt pt] (.Tuple [a, b, c] k2 pt2) pos) (mPar [i, j, l] ma) :=
  pimpS (ps_par3 hc hN hi hj hl hij hil hjl hx hy hz ha hw hs) fun D σ H ⟨ρ0, H0, ρ, δ, S, n0, e, k, p⟩ => tA.inS n0 e k p fun vs us ρ1 H1 S1 _ n1 e1 k1 r1 p1 => by
    by_cases hl : us.length = [i, j, l].length
    case neg => rw [if_neg hl] at p1; exact p1.elim
    rw [if_pos hl] at p1
    cases r1 with
    | nil => cases hl
    | cons r t =>
      cases t with
      | nil => cases hl
      | cons r' t =>
        cases t with
        | nil => cases hl
        | cons r'' t =>
          cases t with
          | nil => exact ⟨_, _, _, rfl, p1 _ ρ1 H1 n1 k1 (((e1.set r).set r').set r'')⟩
          | cons _ _ => simp at hl
/-! ### the block's own cells are given up -/
def mFz (m : MS) : MS := fun b δ S => m b (trimE b S δ) (S.take b)
theorem tS.fz {K : Fg} {m : MS} {D : Ends} {σ : L2.St} {H : Hp} (h : tS K W (mFz m) D σ H) : tS K W m D σ H := by
  obtain ⟨ρ0, H0, ρ, δ, S, n0, e, k, p⟩ := h
  have hb : ρ0.cs.length ≤ ρ0.cs.length := Nat.le_refl _
  exact ⟨ρ0, H0, ρ.cut ρ0.cs.length, _, _, n0.cut hb, e.trim k _, k.cut _, p⟩
theorem pms_fz {st : Stmt} {m : MS} (h : PMS X W st m) : PMS X W st (mFz m) := pimpS h fun _ _ _ z => z.fz
/-! ### starred arguments -/
def mStar (m : ME) (n : MA) : MA := fun δ S => (m δ S).bind fun u S1 => match (peek S1 u).bind seqD with
  | none => .stuck
  | some ds => (n δ S1).bind fun us S2 => .ok (ds.map U.d ++ us) S2
theorem RepUs.ofL {K : Fg} {ρ : Ad} {H : Hp} : ∀ {vs : List V} {ds : List D}, RepL K (free ρ) H vs ds → RepUs K ρ H vs (ds.map U.d)
  | _, _, .nil => .nil
  | _, _, .cons h t => .cons (u := .d _) h (RepUs.ofL t)
theorem RepUs.append {K : Fg} {ρ : Ad} {H : Hp} {ws : List V} {ts : List U} (q : RepUs K ρ H ws ts) : ∀ {vs : List V} {us : List U}, RepUs K ρ H vs us → RepUs K ρ H (vs ++ ws) (us ++ ts)
  | _, _, .nil => q
  | _, _, .cons h t => .cons h (RepUs.append q t)
theorem RepP.sq {K : Fg} {ρ : Ad} {H : Hp} {v : V} {d : D} {ds : List D} (r : RepP K ρ H v d) (h : seqD d = some ds) : ∃ p xs, v = .ref p ∧ (SqT K H p xs ∨ SqL K H p xs) ∧ RepL K (free ρ) H xs ds := by
  cases d with
  | tup es => cases h; obtain ⟨a, xs, rfl, h1, h2⟩ := r.tup; exact ⟨a, xs, rfl, .inl h1, h2⟩
  | lst es => cases h; obtain ⟨a, xs, rfl, h1, h2⟩ := r.lst; exact ⟨a, xs, rfl, .inr (.inl h1), h2⟩
  | fl es => cases h; obtain ⟨a, xs, rfl, h1, h2⟩ := r.fl; exact ⟨a, xs, rfl, .inr h1, h2⟩
  | _ => cases h
theorem pma_star {e : Expr} {es : List Expr} {p : Pos} {me : ME} (he : PM X W e me) (hr : PMA X W es ma) (hs : starEach (.Starred e p :: es) X.env = (true, eval e X.env) :: starEach es X.env := by rfl) : PMA X W (.Starred e p :: es) (mStar me ma) :=
  pimpA (StX.pa_star he hr hs) fun σ H Q ⟨ρ, δ, S, en, k, p⟩ => tE.first en k p fun v u ρ1 H1 S1 _ n1 e1 k1 r1 p1 => by
    cases hp : (peek S1 u).bind seqD with
    | none => simp only [hp] at p1; exact p1.elim
    | some ds =>
      simp only [hp] at p1
      obtain ⟨d, h1, h2⟩ := Option.bind_eq_some_iff.mp hp
      obtain ⟨q, xs, rfl, hx, rl⟩ := (r1.peek k1 h1).sq h2
      refine ⟨q, xs, rfl, hx, tA.first e1 k1 p1 fun vs us ρ2 H2 S2 _ n2 e2 k2 r2 p2 => ?_⟩
      exact p2.here k2 _ (RepUs.append r2 ((RepUs.ofL rl).nxt n2 k1))
theorem pm_callS {k : Nat} {f : Addr} {fd : FuncData} {ps : List Str} {m : Fn} {x : Str} {e : Expr} {es : List Expr} {p : Pos} (F : FnG X.prog X.w X.K X.mg X.base k f fd ps m) (hr : Room k X.A) (hgd : X.A.guards = some []) (tk : Takes X W) (hg : Gl X x) (hm : X.mg x = some (.ref f)) (hk : PySem.W.keepIn X.K (.ref f) = true) (hb : Binds X.K fd ps []) (ha : PMA X W (e :: es) ma)
    (hdb : (x == ("__debug__" : Str)) = false := by decide) (he : starEach (e :: es) X.env = (false, eval e X.env) :: starEach es X.env := by rfl) (hst : (backTo pos (starEach es X.env)).any (·.1) = true := by rfl) : PM X W (.Call (.Name x p) (e :: es) [] pos) (mFn m ma) := by
  refine ⟨fun pins s σ H Q I ⟨ρ, δ, S, en, k0, p0⟩ => wpAny_Call_Name_kw (ld_glob I hg hm ?_ hdb)⟩
  have T : tA X.K W ma σ H fun vs H1 => spM X.K m vs H1 Q (WE W σ) := tA.first en k0 p0 fun vs us ρ1 H1 S1 _ n1 e1 k1 r1 p1 => spM_of k1 r1 p1
  refine PySem.W.callWith_S2 (h₀ := X.base) I.ok.mod.kin hk (thn (ha.run pos pins s σ H _ I T) fun us s1 ⟨vs, H1, I1, r, q⟩ => ⟨I1.kIn, ?_⟩) he hst
  exact run_G F hr hgd hb tk I1 r q
/-! ### match with texts -/
def PMC (X : Cx) (W : WX) (cs : List MatchCase) (m : Str → MS) : Prop := ∀ (first : Bool) (x : Str) (t : Tok) (pins : List (Addr × Obj)) (s : Shared) (σ : L2.St) (H : Hp) (D : Ends), L2.Inv X pins σ H s → tS X.K W (m x) D σ H →
  wpAny (model X.prog X.w) X.A (matchCases cs X.env (.str x t) first) (SP X pins D) X.xe s
theorem pmc_last {body : List Stmt} {p : Pos} {m : MS} (h : PMSs X W body m) : PMC X W [⟨.MatchAs none none p, none, body⟩] (fun _ => m) := fun first x t pins s σ H D I q =>
  wpAny_matchCases_cons (wpAny_matchPattern_Capture (wpAny_assignInOrder_none (h.run pins s σ H D I q)))
theorem pmc_cons {body : List Stmt} {p p2 : Pos} {j : Nat} {y : Str} {m : MS} {cs : List MatchCase} {mr : Str → MS} (h : PMSs X W body m) (hr : PMC X W cs mr) : PMC X W (⟨.MatchValue (.Constant (.str y) j p) p2, none, body⟩ :: cs) (fun x => if x = y then m else mr x) := fun first x t pins s σ H D I q => by
  refine wpAny_matchCases_cons (wpAny_matchPattern_Value (thn ((pe_str (X := X)).run pins s σ H (fun v H1 => v = .str y ∧ H1 = H) I ⟨rfl, rfl⟩) fun u s1 ⟨v, H1, I1, r1, ev, eH⟩ => ?_))
  subst ev eH
  have od := op_eq (X := X) pins s1 σ H1 (.str x) (.str y) (.str x t) u (fun v H2 => v = .bl (decide (V.str x = V.str y)) ∧ H2 = H1) I1 ⟨t, rfl⟩ r1 ⟨rfl, rfl, rfl⟩
  refine thn od fun c s2 ⟨v, H2, I2, r2, ev, eH⟩ => ?_
  subst ev eH
  cases r2
  refine wpAny_truthy_bool ?_
  dsimp only at q
  by_cases e : x = y
  · rw [if_pos (by simpa using e)]
    rw [if_pos e] at q
    exact wpAny_assignInOrder_none (h.run pins s2 σ H2 D I2 q)
  · rw [if_neg (by simpa using e)]
    rw [if_neg e] at q
    exact hr false x t pins s2 σ H2 D I2 q
def mMatch (me : ME) (m : Str → MS) : MS := fun b δ S => (me δ S).inS δ fun u S1 => match u with
  | .d (.str x) => m x b δ S1
  | _ => .stuck
theorem pms_match {e : Expr} {me : ME} {cs : List MatchCase} {m : Str → MS} (he : PM X W e me) (hc : PMC X W cs m) : PMS X W (.Match e cs pos) (mMatch me m) := by
  refine ⟨fun pins s σ H D I ⟨ρ0, H0, ρ, δ, S, n0, en, k, p⟩ => wpAny_Match ?_⟩
  have T : tE X.K W me σ H fun v H1 => ∃ x, v = .str x ∧ tS X.K W (m x) D σ H1 := tE.inS n0 en k p fun v u ρ1 H1 S1 _ n1 e1 k1 r1 p1 => by
    cases u with
    | loc n => exact p1.elim
    | d y =>
      cases y with
      | str x => cases r1; exact ⟨x, rfl, ρ0, H0, ρ1, δ, S1, n1, e1, k1, p1⟩
      | _ => exact p1.elim
  refine thn (he.run pins s σ H _ I T) fun u s1 ⟨v, H1, I1, r1, x, ev, q⟩ => ?_
  subst ev
  obtain ⟨t, rfl⟩ := r1
  exact hc true x t pins s1 σ H1 D I1 q
end
end DL

set_option Elab.async false
set_option linter.all false
set_option maxRecDepth 100000
set_option maxHeartbeats 4000000
/-! DRules8: starred targets, x[::-1], keys of a dict -/
namespace DL
open PySem PySem.Spec PyProof.Rows L2

/-! ### a, .., *rest = tuple -/
theorem star_last {prog : Program} {w : World} {A : Around} {E : Value → Shared → Prop} {s : Shared} {l : Addr} {its : List Value} {n : Nat} {Q : List Value → Shared → Prop} (hl : IsTup s.heap l its.toArray) (hh : A.handled = none) (hn : n ≤ its.length) (hz : its.length ≤ sizeLine)
    (h : ∀ D h' tk, s.heap.get? D = none → (∀ b o, s.heap.get? b = some o → h'.get? b = some o) → h'.get? D = some { cls := .type "list", data := .seq (its.drop n).toArray } → Q (its.take n ++ [.ref D]) { s with heap := h', toks := tk }) :
    wpAny (model prog w) A (unpackItems (.ref l) (n + 1) (some n)) Q E s := by
  have hlt : l ≠ s.heap.objs.size := by obtain ⟨o, ho, _⟩ := hl; exact Nat.ne_of_lt (Heap.lt_size ho)
  have hsz : its.toArray.size = its.length := List.size_toArray ..
  unfold unpackItems
  refine wpAny_bind ?_
  unfold notIterableAtAll
  refine wpAny_bind (wpAny_specialOf hl.typeIs slot_tuple_iter.lookup (wpAny_pure ?_))
  simp only [Bool.false_eq_true, if_false]
  refine wpAny_bind (wpAny_holding (iter_tuple hl ?_))
  refine wpAny_bind (wpAny_holding (draw_tuple hlt n 0 _ _ ⟨_, Heap.get?_push_size _ rfl, rfl, rfl⟩ (hl.push _) (by omega) fun h₁ it₁ sb₁ => ?_))
  have hl₁ : IsTup h₁ l its.toArray := (hl.push _).extBut sb₁.extBut hlt
  rw [Nat.zero_add] at it₁
  have li : s.heap.objs.size < h₁.objs.size := by obtain ⟨_, e, _⟩ := id it₁; exact Heap.lt_size e
  have ll : l < h₁.objs.size := by obtain ⟨_, e, _⟩ := id hl₁; exact Heap.lt_size e
  have len1 : (its.take n).length = n := by rw [List.length_take]; omega
  simp only [List.drop_zero]
  rw [if_neg (show ¬ ((its.take n).length < n) by omega)]
  refine wpAny_bind (wpAny_holding (PySem.W.kun_collect (s := { s with heap := h₁ }) (T := "tuple_iterator") (.inr (.inr (.inr rfl))) (Walks.tuple (A := A.in1) hh s.heap.objs.size l hlt its.toArray) (fun j u st => st.1.typeIs) (k := n) (by omega) ⟨it₁, hl₁⟩ li ll (fun h₂ tk hk => ?_) (by omega)))
  have len2 : (its.drop n).length - (n + 1 - 1 - n) = (its.drop n).length := by omega
  show wpAny _ _ (if (its.drop n).length < n + 1 - 1 - n then _ else _) _ _ _
  rw [if_neg (by omega)]
  show wpAny _ _ (newList ((its.drop n).take ((its.drop n).length - (n + 1 - 1 - n))) >>= fun d => pure (its.take n ++ [d] ++ (its.drop n).drop ((its.drop n).length - (n + 1 - 1 - n)))) _ _ _
  rw [len2, List.take_length, List.drop_length]
  have keep : ∀ b o, s.heap.get? b = some o → h₂.get? b = some o := fun b o e => hk b o (Nat.ne_of_lt (Heap.lt_size e)) (sb₁.extBut b o (Nat.ne_of_lt (Heap.lt_size e)) (Heap.get?_push_of_some _ e))
  refine wpAny_bind (wpAny_newObj_type ?_ (by show (its.drop n).toArray.size ≤ sizeLine; rw [List.size_toArray, List.length_drop]; omega))
  refine wpAny_pure ?_
  rw [List.append_nil]
  refine h h₂.objs.size _ tk ?_ (fun b o e => Heap.get?_push_of_some _ (keep b o e)) (Heap.get?_push_size _ rfl)
  cases c : s.heap.get? h₂.objs.size with
  | none => rfl
  | some o => exact absurd (Heap.lt_size (keep _ _ c)) (Nat.lt_irrefl _)
/-- a, .., *rest = e: the last target takes what is left -/
def mStarT (me : ME) (n : Nat) (is : List Nat) : MS := fun _ δ S => (me δ S).inS δ fun u S1 => match u with
  | .d (.tup ds) => if n ≤ ds.length then match setAll is (ds.take n ++ [.lst (ds.drop n)]) δ with
      | some δ1 => .next δ1 S1
      | none => .stuck
    else .stuck
  | _ => .stuck
section
variable {X : Cx} {W : WX} {pos : Pos}
theorem pms_starT {e : Expr} {me : ME} {ts ts' : List Expr} {kt n : Nat} {pt : Pos} {is : List Nat} (hc : X.calm = true) (he : PM X W e me) (hg : PMGs X ts' is) (hl : (assignEach ts X.env).length = n + 1 := by rfl) (hst : (assignEach ts X.env).findIdx? (·.1) = some n := by rfl)
    (hsame : (assignEach ts X.env).map (·.2) = (assignEach ts' X.env).map (·.2) := by rfl) (hs : swapsWithSole [.Tuple ts kt pt] e pos.line X.env = pure false := by rfl) (hw : swappedStores [.Tuple ts kt pt] e X.env = pure none := by rfl)
    (h1 : (assignEach [.Tuple ts kt pt] X.env).map (·.2) = [assign (.Tuple ts kt pt) X.env] := by rfl) : PMS X W (.Assign [.Tuple ts kt pt] e pos) (mStarT me n is) := by
  refine ⟨fun pins s σ H D I ⟨ρ0, H0, ρ, δ, S, n0, en, k, p⟩ => ?_⟩
  have T : tE X.K W me σ H fun v H1 => ∃ ρ1 S1 ds δ1, Nxt ρ0 H0 ρ1 H1 ∧ EnvOk X.K ρ1 H1 σ δ ∧ Ok X.K ρ1 S1 H1 ∧ Rep X.K (free ρ1) H1 v (.tup ds) ∧ n ≤ ds.length ∧ setAll is (ds.take n ++ [.lst (ds.drop n)]) δ = some δ1 ∧ PostS X.K W ρ0 H0 (.next δ1 S1) D :=
    tE.inS n0 en k p fun v u ρ1 H1 S1 _ n1 e1 k1 r1 p1 => by
      cases u with
      | loc i => exact p1.elim
      | d x =>
        cases x with
        | tup ds =>
          by_cases hn : n ≤ ds.length
          case neg => simp only [if_neg hn] at p1; exact p1.elim
          simp only [if_pos hn] at p1
          cases ha : setAll is (ds.take n ++ [.lst (ds.drop n)]) δ with
          | none => simp only [ha] at p1; exact p1.elim
          | some δ1 => simp only [ha] at p1; exact ⟨ρ1, S1, ds, δ1, n1, e1, k1, r1, hn, ha, p1⟩
        | _ => exact p1.elim
  refine wpAny_Assign_stores (thn (he.run pins s σ H _ I T) fun v s1 ⟨x, H1, I1, r1, ρ1, S1, ds, δ1, n1, e1, k1, rr, hn, ha, p1⟩ => ?_) hs hw
  rw [h1]
  cases rr with
  | @tup a xs _ ht rl =>
    obtain rfl : v = Value.ref a := r1
    obtain ⟨its, rv, pl, hz⟩ := I1.tuple ht
    have l1 := rv.length
    have l2 := rl.length
    show wpAny (model X.prog X.w) X.A (assign (.Tuple ts kt pt) X.env (.ref a)) _ X.xe s1
    rw [assign_Tuple]
    refine wpAny_bind (wpAny_standAt ?_)
    unfold unpack
    rw [hl, hst]
    refine wpAny_bind (wpAny_holding (star_last pl (I1.ok.hd hc) (by omega) (by omega) fun Dl h' tk hD hk hnew => ?_))
    rw [hsame]
    have hH := I1.hok.gone hD
    have rd := rv.drop n
    have new : ObjOk X.prog X.w (upd H1 Dl (.lst (xs.drop n))) h' Dl (.lst (xs.drop n)) := ⟨by rw [List.length_drop]; omega, its.drop n, 0, rd, hnew⟩
    have I2 := I1.laidN (t' := tk) hk hD hH new
    have nx : Nxt ρ1 H1 ρ1 (upd H1 Dl (.lst (xs.drop n))) := Nxt.laid hH
    have k2 := k1.laid (o := .lst (xs.drop n)) hH
    have rl' := rl.mv (nx.mv k1)
    refine thn (hg.run pins _ σ _ (xs.take n ++ [.ref Dl]) (its.take n ++ [.ref Dl]) (fun σ' H' => D.nx σ' H') I2 ((rv.take n).append (.cons (show RelV (.ref Dl) (.ref Dl) from rfl) .nil)) ⟨ρ1, S1, δ, _, δ1, e1.nxt nx k1, k2, (rl'.take n).append (.cons (.lst (.inl upd_same) (k1.notNew hH) (rl'.drop n)) .nil), ha, fun σ' e' _ => p1 σ' ρ1 _ (n1.trans nx) k2 e'⟩) fun _ s2 q => q
end
/-! ### t[::-1] -/
theorem rev_pick (its : List Value) : ((List.range its.length).filterMap fun (k : Nat) => its.toArray[(((its.length : Int) - 1) + (k : Int) * (-1)).toNat]?).toArray = its.reverse.toArray := by
  have e : ((List.range its.length).filterMap fun (k : Nat) => its.toArray[(((its.length : Int) - 1) + (k : Int) * (-1)).toNat]?) = ((List.range its.length).map fun k => its.length - 1 - k).filterMap (its.toArray[·]?) := by
    rw [List.filterMap_map]
    have same : ∀ l : List Nat, (∀ k ∈ l, k < its.length) → (l.filterMap fun (k : Nat) => its.toArray[(((its.length : Int) - 1) + (k : Int) * (-1)).toNat]?) = l.filterMap ((its.toArray[·]?) ∘ fun k => its.length - 1 - k) := by
      intro l
      induction l with
      | nil => intro _; rfl
      | cons k r ih =>
        intro h
        have := h k (List.mem_cons_self ..)
        have e2 : (((its.length : Int) - 1) + (k : Int) * (-1)).toNat = its.length - 1 - k := by omega
        have ih' := ih fun j hj => h j (List.mem_cons_of_mem _ hj)
        simp only [List.filterMap_cons, e2, Function.comp]
        rw [ih']
    exact same _ fun k hk => List.mem_range.mp hk
  rw [e, PySem.W.krv_range, List.filterMap_reverse]
  have := PySem.W.krv_all its.toArray
  rw [List.size_toArray] at this
  rw [this]
theorem sliceApplied_rev {prog : Program} {w : World} {A : Around} {E : Value → Shared → Prop} {s : Shared} {sl : Addr} {tk : Tok} {n : Nat} {Q : Int × Int × Nat → Shared → Prop} (hs : s.heap.IsSliceOf sl .none .none (.int (-1) tk))
    (h : Q ((n : Int) - 1, -1, n) s) : wpAny (model prog w) A (Builtin.Slice.sliceApplied (.ref sl) (pure (n : Int))) Q E s := by
  obtain ⟨os, hos, hcs, hds⟩ := id hs
  unfold Builtin.Slice.sliceApplied Builtin.Slice.sliceFields
  refine wpAny_bind (wpAny_bind (wpAny_field hos hds (x := .none) rfl (wpAny_bind (wpAny_field hos hds (x := .none) rfl (wpAny_bind (wpAny_field hos hds (x := .int (-1) tk) rfl (wpAny_pure ?_)))))))
  refine wpAny_bind (HT.slicePart_ (.int (-1) tk) ?_)
  show wpAny _ _ (if ((-1 : Int) == 0) = true then _ else _) _ _ s
  rw [if_neg (by decide)]
  refine wpAny_bind (HT.slicePart_ .none (wpAny_bind (HT.slicePart_ .none (wpAny_bind (wpAny_pure ?_)))))
  have pl : Builtin.Slice.slicePlaces ((n : Int) - 1) (-1) (-1) = n := by
    unfold Builtin.Slice.slicePlaces
    have h1 : ¬ ((-1 : Int) > 0) := by decide
    simp only [h1, if_false]
    by_cases c : (n : Int) - 1 > -1
    · rw [if_pos c]
      have : ((n : Int) - 1 - -1 - 1) / (- -1) + 1 = (n : Int) := by
        rw [show (- -1 : Int) = 1 by decide, Int.ediv_one]; omega
      rw [this]; simp
    · rw [if_neg c]; omega
  show wpAny _ _ (pure ((n : Int) - 1, (-1 : Int), Builtin.Slice.slicePlaces ((n : Int) - 1) (-1) (-1))) _ _ s
  rw [pl]
  exact wpAny_pure h
theorem getItem_tuple_rev {prog : Program} {w : World} {A : Around} {E : Value → Shared → Prop} {s : Shared} {t sl : Addr} {its : List Value} {tk : Tok} {Q : Value → Shared → Prop} (ht : IsTup s.heap t its.toArray) (hs : s.heap.IsSliceOf sl .none .none (.int (-1) tk))
    (h : Q (.ref s.heap.objs.size) { s with heap := s.heap.push { cls := .type "tuple", data := .seq its.reverse.toArray } }) (hsz : its.length ≤ sizeLine) : wpAny (model prog w) A (getItem (.ref t) (.ref sl)) Q E s := by
  have hsize : sizeOk (.seq its.reverse.toArray) := by show its.reverse.toArray.size ≤ sizeLine; simpa using hsz
  obtain ⟨os, hos, hcs, hds⟩ := id hs
  have hTs : s.TypeIs (.ref sl) "slice" := ⟨os, hos, hcs⟩
  unfold getItem
  try with_reducible refine wpAny_holding ?_
  first | refine wpAny_bind (wpAny_pure ?_) | skip
  refine wpAny_bind (wpAny_sequenceKey ht.typeIs (by decide) ?_)
  refine wpAny_bind (wpAny_callSpecial?_slot (name := Str.ofString "__getitem__") ht.typeIs PyProof.Rows.slot_tuple_getitem
    (wpAny_call_entry PyProof.Rows.slot_tuple_getitem ht.typeIs entry_tuple_getitem ?_ (args_tuple_getitem _ _)))
  show wpAny _ _ (Builtin.Tuple.tupleItemsOf (.ref t) >>= _) _ _ s
  refine wpAny_bind (tupleItemsOf_ ht ?_)
  refine wpAny_bind (wpAny_typeOf hTs ?_)
  rw [if_pos (by decide)]
  refine wpAny_bind (sliceApplied_rev hs ?_)
  have n1 : ((-1 : Int) == 1) = false := by decide
  have hno : ¬ ((((its.toArray.size : Int) - 1) == 0 && (-1 : Int) == 1 && its.toArray.size == its.toArray.size) = true) := by rw [n1, Bool.and_false, Bool.false_and]; exact Bool.false_ne_true
  show wpAny _ _ (if (((its.toArray.size : Int) - 1) == 0 && (-1 : Int) == 1 && its.toArray.size == its.toArray.size) = true then _ else _) _ _ s
  rw [if_neg hno]
  have sz : its.toArray.size = its.length := List.size_toArray ..
  rw [sz, rev_pick]
  first
    | exact wpAny_bind (m := Builtin.Tuple.tupleExact _) (wpAny_newObj_type (wpAny_pure ⟨_, rfl, wpAny_pure h⟩) hsize)
    | exact wpAny_bind (m := Builtin.Tuple.tupleExact _) (wpAny_newObj_type (wpAny_bind (wpAny_pure (wpAny_pure ⟨_, rfl, wpAny_pure h⟩))) hsize)
    | exact wpAny_bind (wpAny_bind (m := Builtin.Tuple.tupleExact _) (wpAny_newObj_type (wpAny_pure (wpAny_pure ⟨_, rfl, wpAny_pure h⟩)) hsize))
    | exact wpAny_bind (wpAny_bind (m := Builtin.Tuple.tupleExact _) (wpAny_newObj_type (wpAny_pure ⟨_, rfl, wpAny_pure h⟩) hsize))
def mRev (m : ME) (st : MO) : ME := fun δ S => (m δ S).bind fun u S1 => (st δ S1).bind fun o S2 => match o, peek S2 u with
  | some i, some (.tup ds) => if i = -1 then .ok (.d (.tup ds.reverse)) S2 else .stuck
  | _, _ => .stuck
section
variable {X : Cx} {W : WX} {pos pz : Pos} {a st : Expr} {ma : ME} {mo : MO}
theorem pm_rev (ha : PM X W a ma) (ho : PMO X W (some st) mo) : PM X W (.Subscript a (.Slice none none (some st) pz) pos) (mRev ma mo) := by
  refine ⟨fun pins s σ H Q I ⟨ρ, δ, S, e, k, p⟩ => ?_⟩
  refine Subscript_ (thn (ha.run pins s σ H _ I (tE.first e k p fun v u ρ1 H1 S1 _ n1 e1 k1 r1 p1 => (show ∃ ρ S u, Ok X.K ρ S H1 ∧ EnvOk X.K ρ H1 σ δ ∧ RepU X.K ρ H1 v u ∧ Post X.K W σ ρ H1 ((mo δ S).bind fun o S2 => match o, peek S2 u with
    | some i, some (.tup ds) => if i = -1 then .ok (U.d (.tup ds.reverse)) S2 else .stuck
    | _, _ => .stuck) (fun u ρ' H' => ∀ v, RepU X.K ρ' H' v u → Q v H') from ⟨ρ1, S1, u, k1, e1, r1, p1⟩))) fun v s1 ⟨x, H1, I1, r1, ρ1, S1, u, k1, e1, ru, p1⟩ => ?_)
  refine wpAny_Slice ?_
  rw [evalPart_none]
  refine wpAny_pure (wpAny_pure ?_)
  refine thn (ho.run pins s1 σ H1 _ I1 (tO.first e1 k1 p1 fun o ρ2 H2 S2 _ n2 e2 k2 p2 => (show ∃ ρ S, o = some (-1) ∧ Ok X.K ρ S H2 ∧ RepU X.K ρ H2 x u ∧ ∃ ds, peek S u = some (.tup ds) ∧ Post X.K W σ ρ H2 (.ok (U.d (.tup ds.reverse)) S) (fun u ρ' H' => ∀ v, RepU X.K ρ' H' v u → Q v H') from ?_))) fun vo s2 ⟨o, H2, I2, po, ρ2, S2, eo, k2, ru2, ds, hp, p2⟩ => ?_
  · cases o with
    | none => exact p2.elim
    | some i =>
      cases hp : peek S2 u with
      | none => simp only [hp] at p2; exact p2.elim
      | some d =>
        cases d with
        | tup ds =>
          simp only [hp] at p2
          by_cases hi : i = -1
          · rw [if_pos hi] at p2; subst hi; exact ⟨ρ2, S2, rfl, k2, ru.nxt n2 k1, ds, hp, p2⟩
          · rw [if_neg hi] at p2; exact p2.elim
        | _ => simp only [hp] at p2; exact p2.elim
  · subst eo
    cases po with
    | int i tk =>
      obtain ⟨b, xs, rfl, ht, rl⟩ := (ru2.peek k2 hp).tup
      cases r1
      have I3 : Inv X pins σ H2 { s2 with heap := s2.heap.push { cls := .type "slice", data := .fields #[.none, .none, .int (-1) tk] } } := I2.kept (t' := s2.toks) fun b ob q => Heap.get?_push_of_some _ q
      obtain ⟨its, rv, pl, hz⟩ := I3.tuple ht
      have l1 := rv.length
      show wpAny (model X.prog X.w) X.A (subscriptTail a (.Slice none none (some st) pz) (.ref b) (.ref s2.heap.objs.size)) (EP X pins σ Q) X.xe _
      refine tail_any (T := "tuple") (ops := [.ref b, .ref s2.heap.objs.size]) pl.typeIs PyProof.Rows.slot_tuple_getitem.lookup ?_ (by with_unfolding_all rfl)
      refine getItem_tuple_rev pl (Heap.IsSliceOf.new ..) ?_ (by omega)
      have hn := I3.hok.fresh (Nat.le_refl _)
      refine ⟨.ref _, _, I3.laid (t' := s2.toks) (o := .tup xs.reverse) (fun b ob q => Heap.get?_push_of_some _ q) (Nat.le_refl _) ?_, rfl, ?_⟩
      · exact ⟨by rw [List.length_reverse]; omega, its.reverse, rv.reverse, IsTup.new _ _⟩
      · exact p2 ρ2 _ (Nxt.laid hn) (k2.laid hn) _ (Rep.tup (.inl (.inl upd_same)) ((rl.reverse).mv ((Nxt.laid hn).mv k2)))
end
end DL

set_option Elab.async false
set_option linter.all false
set_option maxRecDepth 100000
set_option maxHeartbeats 4000000
/-! DZip: dict(zip(t, u)) of two tuples -/
namespace DL
open PySem PySem.Spec PyProof.Rows L2

/-- the zip z over the tuples l1, l2, i pairs given out, the last of them (if any) still there; d: not one of its own -/
structure ZS (z TI TO i1 i2 l1 l2 d : Addr) (xs ys : Array Value) (i : Nat) (h : Heap) : Prop where
  ti : IsPair h TI (.ref i1) (.ref i2)
  a : h.IsTupleIter i1 l1 i
  b : h.IsTupleIter i2 l2 i
  la : h.IsTuple l1 xs
  lb : h.IsTuple l2 ys
  z : (IsZip h z TI TO .none ∧ ∃ a b, IsPair h TO a b) ∨ ∃ T f oT, IsZipHeld h z TI TO T f ∧ h.get? T = some oT ∧ T ≠ z ∧ T ≠ i1 ∧ T ≠ i2 ∧ T ≠ d
section
variable {prog : Program} {w : World} {A : Around} {E : Value → Shared → Prop} {s : Shared} {z TI TO i1 i2 l1 l2 d : Addr} {xs ys : Array Value} {i : Nat}
/-- next(z), the tuple given out before still there: either the next pair in a new tuple, or the end -/
theorem zs_next {T : Addr} {f : Bool} {oT : Obj} {Q : Fin → Shared → Prop} (hh : A.handled = none) (D : ZipApart z TI TO i1 i2 l1 l2) (hz : IsZipHeld s.heap z TI TO T f) (hT : s.heap.get? T = some oT) (hTI : IsPair s.heap TI (.ref i1) (.ref i2))
    (h1 : s.heap.IsTupleIter i1 l1 i) (h2 : s.heap.IsTupleIter i2 l2 i) (hl1 : s.heap.IsTuple l1 xs) (hl2 : s.heap.IsTuple l2 ys)
    (go : ∀ x y h' n, xs[i]? = some x → ys[i]? = some y → s.heap.objs.size = n → IsZipHeld h' z TI TO T true → h'.IsTupleIter i1 l1 (i + 1) → h'.IsTupleIter i2 l2 (i + 1) → IsPair h' n x y →
      (∀ c o, c ≠ z → c ≠ i1 → c ≠ i2 → s.heap.get? c = some o → h'.get? c = some o) → Q (.done (.ret (.ref n))) { s with heap := h' })
    (stop : ∀ h' e, xs[i]? = none ∨ ys[i]? = none → (∀ c o, c ≠ z → c ≠ i1 → c ≠ i2 → s.heap.get? c = some o → h'.get? c = some o) → (∃ o, h'.get? e = some o ∧ o.cls = .type "StopIteration") → E (.ref e) { s with heap := h' }) :
    wpAny (model prog w) A (Builtin.«zip.__next__» ⟨[.ref z], []⟩) Q E s := by
  show wpAny _ _ (field (.ref z) 2 >>= _) _ _ _
  refine wpAny_bind (wpAny_field hz rfl (x := .bool false) rfl ?_)
  show wpAny _ _ (field (.ref z) 3 >>= _) _ _ _
  refine wpAny_bind (wpAny_field hz rfl (x := .ref TI) rfl (wpAny_bind (wpAny_seqItems hTI rfl ?_)))
  show wpAny _ _ (Builtin.SmallTypes.ownedTupleIsFree (.ref z) >>= _) _ _ _
  refine wpAny_bind (wpAny_tupleHeld_zip hz hT fun h₁ hz₁ hs₁ => ?_)
  simp only [Bool.false_eq_true, if_false]
  refine wpAny_bind ?_
  rw [← Array.forIn_toList]
  simp only [List.forIn_cons, List.forIn_nil]
  have a1 : h₁.IsTupleIter i1 l1 i := h1.extBut hs₁.extBut D.i1z
  have t1 : h₁.IsTuple l1 xs := hl1.extBut hs₁.extBut D.l1z
  refine wpAny_bind (wpAny_bind (wpAny_holding ?_))
  show wpAny _ _ (Builtin.SmallTypes.nextOf (.ref i1) >>= _) _ _ _
  cases ex : xs[i]? with
  | none => exact wpAny_bind (RZ.nextOf_tuple_end (s := { s with heap := h₁ }) hh a1 t1 ex fun h₂ e hs₂ he => stop h₂ e (.inl ex) (fun c o c1 c2 _ g => hs₂ c o c2 (hs₁.extBut c o c1 g)) he)
  | some x =>
    refine wpAny_bind (RZ.nextOf_tuple_item (s := { s with heap := h₁ }) a1 t1 ex fun h₂ a2 hs₂ => wpAny_pure (wpAny_pure ?_))
    have b2 : h₂.IsTupleIter i2 l2 i := (h2.extBut hs₁.extBut D.i2z).extBut hs₂.extBut D.i12.symm
    have t2 : h₂.IsTuple l2 ys := (hl2.extBut hs₁.extBut D.l2z).extBut hs₂.extBut D.l2i1
    refine wpAny_bind (wpAny_bind (wpAny_holding ?_))
    show wpAny _ _ (Builtin.SmallTypes.nextOf (.ref i2) >>= _) _ _ _
    cases ey : ys[i]? with
    | none => exact wpAny_bind (RZ.nextOf_tuple_end (s := { s with heap := h₂ }) hh b2 t2 ey fun h₃ e hs₃ he => stop h₃ e (.inr ey) (fun c o c1 c2 c3 g => hs₃ c o c3 (hs₂.extBut c o c2 (hs₁.extBut c o c1 g))) he)
    | some y =>
      refine wpAny_bind (RZ.nextOf_tuple_item (s := { s with heap := h₂ }) b2 t2 ey fun h₃ b3 hs₃ => wpAny_pure (wpAny_pure (wpAny_pure ?_)))
      show wpAny _ _ (newTuple [x, y] >>= _) _ _ _
      refine wpAny_bind (wpAny_newTuple (wpAny_pure ?_))
      have hsz : h₃.objs.size = s.heap.objs.size := by rw [hs₃.1, hs₂.1, hs₁.1]
      have z3 : IsZipHeld h₃ z TI TO T true := hs₃.extBut _ _ D.i2z.symm (hs₂.extBut _ _ D.i1z.symm hz₁)
      have a3 : h₃.IsTupleIter i1 l1 (i + 1) := a2.extBut hs₃.extBut D.i12
      exact go x y _ h₃.objs.size ex ey hsz.symm (Heap.get?_push_of_some _ z3) (a3.at fun o g => Heap.get?_push_of_some _ g) (b3.at fun o g => Heap.get?_push_of_some _ g) (Heap.get?_push_size _ rfl)
        fun c o c1 c2 c3 g => Heap.get?_push_of_some _ (hs₃.extBut c o c3 (hs₂.extBut c o c2 (hs₁.extBut c o c1 g)))
theorem zs_pyNext {Q : Option Value → Shared → Prop} (hh : A.handled = none) (D : ZipApart z TI TO i1 i2 l1 l2) (hd : d < s.heap.objs.size) (S : ZS z TI TO i1 i2 l1 l2 d xs ys i s.heap)
    (go : ∀ x y h' T, xs[i]? = some x → ys[i]? = some y → PairAt h' T x y → ZS z TI TO i1 i2 l1 l2 d xs ys (i + 1) h' → (∀ c o, c ∉ [z, TO, i1, i2] → s.heap.get? c = some o → h'.get? c = some o) → Q (some (.ref T)) { s with heap := h' })
    (stop : ∀ h', xs[i]? = none ∨ ys[i]? = none → (∀ c o, c ∉ [z, TO, i1, i2] → s.heap.get? c = some o → h'.get? c = some o) → Q none { s with heap := h' }) : wpAny (model prog w) A (pyNext (.ref z)) Q E s := by
  obtain ⟨hTI, h1, h2, hl1, hl2, hz⟩ := S
  have lt : ∀ {c o}, s.heap.get? c = some o → s.heap.objs.size ≠ c := fun e => Nat.ne_of_gt (Heap.lt_size e)
  have n1 : s.heap.objs.size ≠ i1 := let ⟨_, e, _⟩ := h1; lt e
  have n2 : s.heap.objs.size ≠ i2 := let ⟨_, e, _⟩ := h2; lt e
  have four : ∀ {c}, c ∉ [z, TO, i1, i2] → c ≠ z ∧ c ≠ TO ∧ c ≠ i1 ∧ c ≠ i2 := fun h => ⟨fun x => h (by simp [x]), fun x => h (by simp [x]), fun x => h (by simp [x]), fun x => h (by simp [x])⟩
  rcases hz with ⟨hz, a, b, hTO⟩ | ⟨T, f, oT, hz, hT, r1, r2, r3, r4⟩
  · cases ex : xs[i]? with
    | none => exact RZ.pyNext_zipT_end hh D hz hTI hTO h1 h2 hl1 hl2 (.inl ex) fun h' hk => stop h' (.inl ex) fun c o hc g => let ⟨c1, c2, c3, c4⟩ := four hc; hk c o c1 c2 c3 c4 g
    | some x =>
      cases ey : ys[i]? with
      | none => exact RZ.pyNext_zipT_end hh D hz hTI hTO h1 h2 hl1 hl2 (.inr ey) fun h' hk => stop h' (.inr ey) fun c o hc g => let ⟨c1, c2, c3, c4⟩ := four hc; hk c o c1 c2 c3 c4 g
      | some y =>
        refine RZ.pyNext_zipT_item D hz hTI hTO h1 h2 hl1 hl2 ex ey fun h' a1 a2 a3 a4 a5 a6 hk => ?_
        exact go x y h' _ ex ey (.inl ⟨_, a5, rfl, _, rfl⟩) ⟨hk _ _ D.TIz D.TITO D.TIi1 D.TIi2 hTI, a3, a4, hl1.at fun o e => hk _ o D.l1z D.l1TO D.l1i1 D.l1i2 e, hl2.at fun o e => hk _ o D.l2z D.l2TO D.l2i1 D.l2i2 e,
          .inr ⟨_, false, _, a1, a5, lt hz, n1, n2, Nat.ne_of_gt hd⟩⟩ fun c o hc g => let ⟨c1, c2, c3, c4⟩ := four hc; hk c o c1 c2 c3 c4 g
  · have hTy : s.TypeIs (.ref z) "zip" := ⟨_, hz, rfl⟩
    unfold pyNext
    refine wpAny_bind (wpAny_attempt (wpAny_callSpecial?_slot (name := Str.ofString "__next__") hTy F.slot_zip_next
      (wpAny_call_entry F.slot_zip_next hTy F.entry_zip_next (zs_next hh D hz hT hTI h1 h2 hl1 hl2 (fun x y h' n ex ey en a1 a3 a4 a5 hk => ?_) fun h' e he hk ho => ?_) (F.args_zip_next_1 _))))
    · subst en
      refine ⟨_, rfl, wpAny_pure ?_⟩
      exact go x y h' _ ex ey (.inl ⟨_, a5, rfl, _, rfl⟩) ⟨hk _ _ D.TIz D.TIi1 D.TIi2 hTI, a3, a4, hl1.at fun o e => hk _ o D.l1z D.l1i1 D.l1i2 e, hl2.at fun o e => hk _ o D.l2z D.l2i1 D.l2i2 e,
        .inr ⟨T, true, oT, a1, hk _ _ r1 r2 r3 hT, r1, r2, r3, r4⟩⟩ fun c o hc g => let ⟨c1, c2, c3, c4⟩ := four hc; hk c o c1 c3 c4 g
    · obtain ⟨o, ho, hc⟩ := ho
      refine wpAny_bind (wpAny_isInstance (T := "StopIteration") (b := true) ⟨o, ho, hc⟩ isSubtype_stop ?_)
      exact wpAny_pure (stop h' he fun c o hc g => let ⟨c1, c2, c3, c4⟩ := four hc; hk c o c1 c3 c4 g)
end
section
variable {prog : Program} {w : World}
theorem pairArg_zipT (z TI TO i1 i2 l1 l2 : Addr) (D : ZipApart z TI TO i1 i2 l1 l2) (xs ys : Array Value) :
    PairArg prog w "zip" z [z, TI, TO, i1, i2, l1, l2] [z, TO, i1, i2] (min xs.size ys.size) (fun i k v => xs[i]? = some k ∧ ys[i]? = some v)
      (fun h => IsZip h z TI TO .none ∧ IsPair h TI (.ref i1) (.ref i2) ∧ (∃ a b, IsPair h TO a b) ∧ h.IsTupleIter i1 l1 0 ∧ h.IsTupleIter i2 l2 0 ∧ h.IsTuple l1 xs ∧ h.IsTuple l2 ys) where
  type := fun s ok => ⟨_, ok.1, rfl⟩
  notDict := by decide
  keep := fun h h' ⟨q1, q2, ⟨a, b, q3⟩, q4, q5, q6, q7⟩ hk => ⟨hk _ _ q1, hk _ _ q2, ⟨a, b, hk _ _ q3⟩, q4.at fun o e => hk _ o e, q5.at fun o e => hk _ o e, q6.at fun o e => hk _ o e, q7.at fun o e => hk _ o e⟩
  there := fun h ⟨q1, q2, ⟨a, b, q3⟩, ⟨_, q4, _⟩, ⟨_, q5, _⟩, ⟨_, q6, _⟩, ⟨_, q7, _⟩⟩ c hc => by
    simp only [List.mem_cons, List.not_mem_nil, or_false] at hc
    rcases hc with rfl | rfl | rfl | rfl | rfl | rfl | rfl
    all_goals exact ⟨_, by assumption⟩
  sub := fun b hb => by simp at hb ⊢; rcases hb with rfl | rfl | rfl | rfl <;> simp
  noKeys := fun A s Q E hA ok h => getAttrOr_miss_zip ok.1 rfl rfl rfl zip_no_keys (by decide +kernel) hA h
  iter := fun A s d Q E hA ⟨q1, q2, ⟨a, b, q3⟩, q4, q5, q6, q7⟩ hd hdf h => by
    simp only [List.mem_cons, List.not_mem_nil, or_false, not_or] at hdf
    obtain ⟨dz, dTI, dTO, di1, di2, dl1, dl2⟩ := hdf
    refine wpAny_pyIter_zip q1 (h z [z, TO, i1, i2] (ZS z TI TO i1 i2 l1 l2 d xs ys) s.heap s.toks ?_ ⟨q2, q4, q5, q6, q7, .inl ⟨q1, a, b, q3⟩⟩ (fun _ _ e => e) fun b hb => .inl hb)
    refine ⟨fun hm => ?_, fun i h₁ h₂ st hk => ?_, fun i s₁ Q₁ E₁ hi st hds hQ => ?_, fun s₁ Q₁ E₁ st hQ => ?_⟩
    · simp only [List.mem_cons, List.not_mem_nil, or_false] at hm
      rcases hm with e | e | e | e
      · exact dz e
      · exact dTO e
      · exact di1 e
      · exact di2 e
    · obtain ⟨p1, p2, p3, p4, p5, hz⟩ := st
      refine ⟨hk _ _ (Ne.symm dTI) p1, p2.at fun o e => hk _ o (Ne.symm di1) e, p3.at fun o e => hk _ o (Ne.symm di2) e, p4.at fun o e => hk _ o (Ne.symm dl1) e, p5.at fun o e => hk _ o (Ne.symm dl2) e, ?_⟩
      rcases hz with ⟨hz, a, b, hTO⟩ | ⟨T, f, oT, hz, hT, r1, r2, r3, r4⟩
      · exact .inl ⟨hk _ _ (Ne.symm dz) hz, a, b, hk _ _ (Ne.symm dTO) hTO⟩
      · exact .inr ⟨T, f, oT, hk _ _ (Ne.symm dz) hz, hk _ _ r4 hT, r1, r2, r3, r4⟩
    · refine zs_pyNext hA D hds st (fun x y h' T ex ey hp st' hk => hQ T x y h' s₁.toks ⟨ex, ey⟩ hp st' hk) fun h' he _ => ?_
      have e1 := Array.getElem?_eq_getElem (Nat.lt_of_lt_of_le hi (Nat.min_le_left xs.size ys.size))
      have e2 := Array.getElem?_eq_getElem (Nat.lt_of_lt_of_le hi (Nat.min_le_right xs.size ys.size))
      rcases he with he | he
      · rw [he] at e1; cases e1
      · rw [he] at e2; cases e2
    · have big : ∃ e, s₁.heap.objs.size = e := ⟨_, rfl⟩
      -- where the dict stands does not matter at the end
      obtain ⟨p1, p2, p3, p4, p5, hz⟩ := st
      have st' : ZS z TI TO i1 i2 l1 l2 z xs ys (min xs.size ys.size) s₁.heap := ⟨p1, p2, p3, p4, p5, hz.imp id fun ⟨T, f, oT, a1, a2, a3, a4, a5, _⟩ => ⟨T, f, oT, a1, a2, a3, a4, a5, a3⟩⟩
      have hz' : z < s₁.heap.objs.size := by
        rcases hz with ⟨hz, _⟩ | ⟨T, f, oT, hz, _⟩ <;> exact Heap.lt_size hz
      refine zs_pyNext hA D hz' st' (fun x y h' T ex ey _ _ _ => ?_) fun h' _ hk => hQ h' s₁.toks hk
      obtain ⟨l1, _⟩ := Array.getElem?_eq_some_iff.mp ex
      obtain ⟨l2, _⟩ := Array.getElem?_eq_some_iff.mp ey
      exact absurd (Nat.lt_min.mpr ⟨l1, l2⟩) (Nat.lt_irrefl _)
end
theorem vals_get : ∀ {vs : List V} {its : List Value} {ks : List Key} {i : Nat} {key : Value}, Vals vs its → vs = ks.map kV → its[i]? = some key → ∃ k, ks[i]? = some k ∧ keyIs k key = true
  | _, _, _, _, _, .nil, _, h => by simp at h
  | _, _, [], _, _, .cons _ _, e, _ => by simp at e
  | _, _, k :: ks, 0, key, .cons r t, e, h => by
    simp only [List.map_cons, List.cons.injEq] at e
    simp only [List.getElem?_cons_zero, Option.some.injEq] at h
    subst h
    refine ⟨k, rfl, ?_⟩
    rw [e.1] at r
    cases k with
    | inl i => obtain ⟨t, rfl⟩ := r; simp [keyIs, Value.isInt]
    | inr x => obtain ⟨t, rfl⟩ := r; simp [keyIs, Value.isStrOf]
  | _, _, k :: ks, i + 1, key, .cons r t, e, h => by
    simp only [List.map_cons, List.cons.injEq] at e
    obtain ⟨k', h1, h2⟩ := vals_get (i := i) t e.2 (by simpa using h)
    exact ⟨k', by simpa using h1, h2⟩
theorem kv_zip : ∀ {ks : List Key} {vs : List V} {us : List Value}, Vals vs us → KV (ks.zip vs) (ks.zip us)
  | [], _, _, _ => by simp only [List.zip_nil_left]; exact .nil
  | k :: ks, _, _, .nil => .nil
  | k :: ks, _, _, .cons h t => .cons ⟨rfl, h⟩ (kv_zip t)
def keysD : List D → Option (List Key)
  | [] => some []
  | d :: ds => match keyD d, keysD ds with
    | some k, some ks => some (k :: ks)
    | _, _ => none
def mDZ (ma mb : ME) : ME := fun δ S => (ma δ S).bind fun u S1 => (mb δ S1).bind fun w S2 => match u, w with
  | .d (.tup xs), .d (.tup ys) => match keysD xs with
    | some ks => .ok (.d (.dct (mergeD [] (ks.zip ys)))) S2
    | none => .stuck
  | _, _ => .stuck
theorem keysD_ok {K : Fg} {ok : Addr → Prop} {H : Hp} : ∀ {vs : List V} {ds : List D} {ks : List Key}, RepL K ok H vs ds → keysD ds = some ks → vs = ks.map kV
  | _, _, _, .nil, h => by cases h; rfl
  | _, _, ks, .cons (d := d) (ds := ds) r t, h => by
    unfold keysD at h
    split at h
    · rename_i k ks' hk hks
      cases h
      rw [List.map_cons, ← keysD_ok t hks]
      congr 1
      cases d with
      | int i => cases hk; cases r; rfl
      | str x => cases hk; cases r; rfl
      | _ => cases hk
    · cases h
theorem RepK.zip {K : Fg} {ok : Addr → Prop} {H : Hp} : ∀ {ks : List Key} {vs : List V} {ds : List D}, RepL K ok H vs ds → RepK K ok H (ks.zip vs) (ks.zip ds)
  | [], _, _, _ => by simp only [List.zip_nil_left]; exact .nil
  | k :: ks, _, _, .nil => .nil
  | k :: ks, _, _, .cons h t => .cons h (RepK.zip t)
section
variable {X : Cx} {W : WX} {pos p p2 q : Pos} {a b : Expr} {ma mb : ME}
theorem pm_dz (hc : X.calm = true) (hg : Gl X "dict") (hm : X.mg "dict" = none) (hg2 : Gl X "zip") (hm2 : X.mg "zip" = none) (ha : PM X W a ma) (hb : PM X W b mb)
    (hs1 : starEach [a, b] X.env = (false, eval a X.env) :: starEach [b] X.env := by rfl) (hs2 : starEach [b] X.env = (false, eval b X.env) :: starEach [] X.env := by rfl) (hpl : (backTo q (starEach [b] X.env)).any (·.1) = false := by rfl)
    (hs3 : starEach [.Call (.Name "zip" p2) [a, b] [] q] X.env = (false, eval (.Call (.Name "zip" p2) [a, b] [] q) X.env) :: starEach [] X.env := by rfl) :
    PM X W (.Call (.Name "dict" p) [.Call (.Name "zip" p2) [a, b] [] q] [] pos) (mDZ ma mb) := by
  refine ⟨fun pins s σ H Q I ⟨ρ, δ, S, e, k, pp⟩ => ?_⟩
  have T : tA X.K W (mCons ma (mCons mb mNil)) σ H fun vs H1 => ∃ x y ρ1 S1 xs ys ks, vs = [x, y] ∧ Ok X.K ρ1 S1 H1 ∧ Rep X.K (free ρ1) H1 x (.tup xs) ∧ Rep X.K (free ρ1) H1 y (.tup ys) ∧ keysD xs = some ks ∧
      Post X.K W σ ρ1 H1 (.ok (.d (.dct (mergeD [] (ks.zip ys)))) S1) fun u ρ' H' => ∀ v, RepU X.K ρ' H' v u → Q v H' := by
    have pp' : Post X.K W σ ρ H (((mCons ma (mCons mb mNil)) δ S).bind fun us S2 => match us with
        | [u, w] => (match u, w with
          | .d (.tup xs), .d (.tup ys) => match keysD xs with
            | some ks => .ok (.d (.dct (mergeD [] (ks.zip ys)))) S2
            | none => .stuck
          | _, _ => .stuck)
        | _ => .stuck) fun u ρ' H' => ∀ v, RepU X.K ρ' H' v u → Q v H' := by
      have : ((mCons ma (mCons mb mNil)) δ S).bind (fun us S2 => match us with
        | [u, w] => (match u, w with
          | .d (.tup xs), .d (.tup ys) => match keysD xs with
            | some ks => Res.ok (U.d (.dct (mergeD [] (ks.zip ys)))) S2
            | none => .stuck
          | _, _ => .stuck)
        | _ => .stuck) = mDZ ma mb δ S := by
        unfold mCons mNil mDZ
        cases ma δ S with
        | ok u S1 =>
          simp only [Res.ok_bind]
          cases mb δ S1 <;> rfl
        | exc x S1 => rfl
        | stuck => rfl
      rw [this]; exact pp
    refine tA.first e k pp' fun vs us ρ1 H1 S1 _ n1 e1 k1 r1 p1 => ?_
    cases r1 with
    | nil => exact p1.elim
    | @cons x u _ _ rx t =>
      cases t with
      | nil => exact p1.elim
      | @cons y w' _ _ ry t =>
        cases t with
        | cons _ _ => exact p1.elim
        | nil =>
          cases u with
          | loc n => exact p1.elim
          | d dx =>
            cases dx with
            | tup xs =>
              cases w' with
              | loc n => exact p1.elim
              | d dy =>
                cases dy with
                | tup ys =>
                  cases hk : keysD xs with
                  | none => simp only [hk] at p1; exact p1.elim
                  | some ks => simp only [hk] at p1; exact ⟨x, y, ρ1, S1, xs, ys, ks, rfl, k1, rx, ry, hk, p1⟩
                | _ => exact p1.elim
            | _ => exact p1.elim
  have hA : PMA X W [a, b] (mCons ma (mCons mb mNil)) := pma_cons ha (pma_cons hb pma_nil hs2) hs1
  refine Call_ (ld_blt I hg hm PyProof.Rows.boot_dict (PyProof.Rows.callWith_type1 (PyProof.Rows.args_cons ?_ hs3) hs3 rfl))
  refine Call_ (ld_blt I hg2 hm2 PyProof.Rows.boot_zip (PyProof.Rows.callWith_type1 (thn (hA.run q pins s σ H _ I T) fun us s1 ⟨vs, H1, I1, r1, x, y, ρ1, S1, xs, ys, ks, ev, k1, rx, ry, hk, p1⟩ => ?_) hs1 hpl))
  subst ev
  cases rx with
  | @tup l1 xv _ hx rlx =>
    cases ry with
    | @tup l2 yv _ hy rly =>
      cases r1 with
      | cons ra rb =>
        cases rb with
        | cons rb rn =>
          cases rn
          cases ra
          cases rb
          obtain ⟨its, rv, pl1, hz1⟩ := I1.tuple hx
          obtain ⟨its2, rv2, pl2, hz2⟩ := I1.tuple hy
          have lt1 : l1 < s1.heap.objs.size := by obtain ⟨o, ho, _⟩ := id pl1; exact Heap.lt_size ho
          have lt2 : l2 < s1.heap.objs.size := by obtain ⟨o, ho, _⟩ := id pl2; exact Heap.lt_size ho
          have len1 := rv.length
          have len2 := rv2.length
          have D := PySem.W.ktu_apart s1.heap.objs.size l1 l2 lt1 lt2
          refine RZ.call_zipT (show s1.heap.IsTuple l1 its.toArray from pl1) (show s1.heap.IsTuple l2 its2.toArray from pl2) fun h' hz hTI hTO hi1 hi2 hsz hkp => PyProof.Rows.args_nil ?_
          have ekv := keysD_ok rlx hk
          have lks : ks.length = its.length := by rw [← len1, ekv, List.length_map]
          have pairs : PairsHave (mixKind X.prog X.w) (min its.toArray.size its2.toArray.size) (fun i k v => its.toArray[i]? = some k ∧ its2.toArray[i]? = some v) (ks.zip its2) := by
            refine ⟨by rw [List.length_zip, List.size_toArray, List.size_toArray, lks], fun i key v ⟨e1, e2⟩ => ?_⟩
            have e1' : its[i]? = some key := by simpa using e1
            have e2' : its2[i]? = some v := by simpa using e2
            obtain ⟨kk, hkk, rk⟩ := vals_get rv ekv e1'
            exact ⟨kk, by rw [List.getElem?_zip_eq_some]; exact ⟨hkk, e2'⟩, rk⟩
          refine call_dict_pairs (s := { s1 with heap := h' }) (pairArg_zipT _ _ _ _ _ l1 l2 D its.toArray its2.toArray) (I1.ok.hd hc) ⟨hz, hTI, ⟨_, _, hTO⟩, hi1, hi2, (show s1.heap.IsTuple l1 its.toArray from pl1).at fun o g => hkp _ o g, (show s1.heap.IsTuple l2 its2.toArray from pl2).at fun o g => hkp _ o g⟩ pairs
            (by rw [List.size_toArray]; exact Nat.le_trans (Nat.min_le_left _ _) (by omega)) fun h'' tk hd hk2 => ?_
          have hge : s1.heap.objs.size ≤ h'.objs.size := by omega
          have hn := I1.hok.fresh hge
          have keep : ∀ b o, s1.heap.get? b = some o → h''.get? b = some o := fun b o g => hk2 b o (fun hm => by
            have := Heap.lt_size g
            simp only [List.mem_cons, List.not_mem_nil, or_false] at hm
            have lt : b < s1.heap.objs.size := this
            rcases hm with e | e | e | e
            · exact absurd lt (by rw [e]; exact Nat.not_lt.mpr (Nat.le_add_right _ _))
            · exact absurd lt (by rw [e]; exact Nat.not_lt.mpr (Nat.le_add_right _ _))
            · exact absurd lt (by rw [e]; exact Nat.lt_irrefl _)
            · exact absurd lt (by rw [e]; exact Nat.not_lt.mpr (Nat.le_add_right _ _))) (hkp b o g)
          have kv : KV (ks.zip yv) (ks.zip its2) := kv_zip rv2
          have hsys : (h'.objs.size == sysModules) = false := by
            have h2 : sysModules < h'.objs.size := Nat.lt_of_lt_of_le I1.big hge
            rw [beq_eq_false_iff_ne]
            exact Nat.ne_of_gt h2
          have hlen : (mergeK [] (ks.zip yv)).length ≤ sizeLine := by
            have := length_mergeK (ks.zip yv) []
            rw [List.length_nil, List.length_zip] at this
            omega
          refine ⟨.ref h'.objs.size, _, I1.laid (t' := tk) (a := h'.objs.size) (o := .dK (mergeK [] (ks.zip yv))) keep hge (dk_new hlen hsys (KV.merge kv .nil) hd), rfl, ?_⟩
          have nx : Nxt ρ1 H1 ρ1 (upd H1 h'.objs.size (.dK (mergeK [] (ks.zip yv)))) := Nxt.laid hn
          exact p1 ρ1 _ nx (k1.laid hn) _ (Rep.dct (.inl upd_same) (k1.notNew hn) (RepK.merge (RepK.zip (rly.mv (nx.mv k1))) .nil))
end
end DL

set_option Elab.async false
set_option linter.all false
set_option maxRecDepth 100000
set_option maxHeartbeats 4000000
/-! DKeys: [.. for k in d ..], d a dict that nobody changes -/
namespace DL
open PySem PySem.Spec PyProof.Rows L2

def kD : Key → D
  | .inl i => .int i
  | .inr x => .str x
theorem rep_kD {K : Fg} {ok : Addr → Prop} {H : Hp} (k : Key) : Rep K ok H (kV k) (kD k) := by
  cases k with
  | inl i => exact .int i
  | inr x => exact .str x
/-- readings go over, for what is no lock -/
structure Mp (K : Fg) (ok ok' : Addr → Prop) (H H' : Hp) : Prop where
  tup : ∀ a xs, Rd H a (.tup xs) → Rd H' a (.tup xs)
  lst : ∀ a xs, Rd H a (.lst xs) → ok a → Rd H' a (.lst xs) ∧ ok' a
  dct : ∀ a xs, Rd H a (.dK xs) → ok a → Rd H' a (.dK xs) ∧ ok' a
section
variable {K : Fg} {ok ok' : Addr → Prop} {H H' : Hp}
mutual
theorem Rep.mp (m : Mp K ok ok' H H') : ∀ {v : V} {d : D}, Rep K ok H v d → Rep K ok' H' v d
  | _, _, .non => .non
  | _, _, .bl b => .bl b
  | _, _, .int i => .int i
  | _, _, .str x => .str x
  | _, _, .tup h r => .tup (h.elim (fun z => .inl (m.tup _ _ z)) .inr) (RepL.mp m r)
  | _, _, .lst h o r => .lst (m.lst _ _ h o).1 (m.lst _ _ h o).2 (RepL.mp m r)
  | _, _, .fl h r => .fl (h.elim (fun z => .inl (m.lst _ _ z.1 z.2)) .inr) (RepL.mp m r)
  | _, _, .dct h o r => .dct (m.dct _ _ h o).1 (m.dct _ _ h o).2 (RepK.mp m r)
  | _, _, .ref => .ref
  | _, _, .fn h => .fn h
theorem RepL.mp (m : Mp K ok ok' H H') : ∀ {vs : List V} {ds : List D}, RepL K ok H vs ds → RepL K ok' H' vs ds
  | _, _, .nil => .nil
  | _, _, .cons h t => .cons (Rep.mp m h) (RepL.mp m t)
theorem RepK.mp (m : Mp K ok ok' H H') : ∀ {vs : List (Key × V)} {ds : List (Key × D)}, RepK K ok H vs ds → RepK K ok' H' vs ds
  | _, _, .nil => .nil
  | _, _, .cons h t => .cons (Rep.mp m h) (RepK.mp m t)
end
end
section
variable {K : Fg} {ρ : Ad} {H : Hp} {S : Store} {σ : L2.St} {δ : DEnv} {a : Addr} {od : Obj} {ks : List (Key × V)}
theorem CellOk.mp {b : Addr} {ρ' : Ad} {H' : Hp} (m : Mp K (free ρ) (free ρ') H H') (hb : H' b = H b) : ∀ {c : Cell}, CellOk K ρ H b c → CellOk K ρ' H' b c
  | .lst _, ⟨xs, h, r⟩ => ⟨xs, hb.trans h, r.mp m⟩
  | .dct _, ⟨xs, h, r⟩ => ⟨xs, hb.trans h, r.mp m⟩
  | .dead, h => h
theorem rd_ne {b : Addr} {u v : HO} {o : HO} (e : H a = some o) (h : Rd H b u) (n : ∀ w, o ≠ .frz w u) (n2 : o ≠ u) : b ≠ a := fun z => by
  subst z
  rcases h with h | ⟨w, h⟩
  · rw [e] at h; cases h; exact n2 rfl
  · rw [e] at h; cases h; exact n _ rfl
theorem rd_upd {b : Addr} {u o : HO} (ne : b ≠ a) (h : Rd H b u) : Rd (upd H a o) b u := h.imp (fun h => by rw [upd_ne ne]; exact h) fun ⟨w, h⟩ => ⟨w, by rw [upd_ne ne]; exact h⟩
theorem Mp.lock (h : H a = some (.dK ks)) : Mp K (free ρ) (free ρ) H (upd H a (.frz od (.dK ks))) where
  tup := fun b xs r => rd_upd (rd_ne (v := .dK ks) h r (fun _ z => by cases z) fun z => by cases z) r
  lst := fun b xs r f => ⟨rd_upd (rd_ne (v := .dK ks) h r (fun _ z => by cases z) fun z => by cases z) r, f⟩
  dct := fun b xs r f => ⟨by
    by_cases e : b = a
    · subst e
      rcases r with r | ⟨w, r⟩
      · rw [h] at r; cases r; exact .inr ⟨od, upd_same⟩
      · rw [h] at r; cases r
    · exact rd_upd e r, f⟩
theorem Mp.unlock (h : H a = some (.frz od (.dK ks))) : Mp K (free ρ) (free ρ) H (upd H a (.dK ks)) where
  tup := fun b xs r => rd_upd (rd_ne (v := .dK ks) h r (fun _ z => by cases z) fun z => by cases z) r
  lst := fun b xs r f => ⟨rd_upd (rd_ne (v := .dK ks) h r (fun _ z => by cases z) fun z => by cases z) r, f⟩
  dct := fun b xs r f => ⟨by
    by_cases e : b = a
    · subst e
      rcases r with r | ⟨w, r⟩
      · rw [h] at r; cases r
      · rw [h] at r; cases r; exact .inl upd_same
    · exact rd_upd e r, f⟩
theorem Ok.relock {o : HO} (k : Ok K ρ S H) (f : free ρ a) (m : Mp K (free ρ) (free ρ) H (upd H a o)) : Ok K ρ S (upd H a o) :=
  ⟨k.len, k.nd, fun i b e => let ⟨c, h, q⟩ := k.live i b e; ⟨c, h, q.mp m (upd_ne fun z => f.1 (by rw [← z]; exact List.mem_of_getElem? e))⟩, k.dead,
    fun b z => let ⟨f1, m1⟩ := k.rsv b z; ⟨f1, m1.keep fun _ q => by rw [upd_ne fun y => f.2 (by rw [← y]; exact z)]; exact q⟩⟩
theorem RepU.mp {ρ' : Ad} {H' : Hp} {v : V} (m : Mp K (free ρ) (free ρ) H H') : ∀ {u : U}, RepU K ρ H v u → RepU K ρ H' v u
  | .d _, h => Rep.mp m h
  | .loc i, h => h
theorem EnvOk.mp {H' : Hp} (m : Mp K (free ρ) (free ρ) H H') (e : EnvOk K ρ H σ δ) : EnvOk K ρ H' σ δ := ⟨e.len, fun i u h => let ⟨v, a, r⟩ := e.at_ i u h; ⟨v, a, r.mp (ρ' := ρ) m⟩⟩
theorem RepK.keyAt {ok : Addr → Prop} : ∀ {ks : List (Key × V)} {es : List (Key × D)} {i : Nat} {d : D}, RepK K ok H ks es → (es.map fun kv => kD kv.1)[i]? = some d → ∃ k v, ks[i]? = some (k, v) ∧ d = kD k
  | _, _, _, _, .nil, h => by simp at h
  | _, _, 0, _, .cons _ _, h => ⟨_, _, rfl, by simpa using h.symm⟩
  | _, _, i + 1, _, .cons _ t, h => by
    obtain ⟨k, v, h1, h2⟩ := RepK.keyAt (i := i) t (by simpa using h)
    exact ⟨k, v, by simpa using h1, h2⟩
theorem Wk.keys {es : List (Key × D)} (f : free ρ a) (h : H a = some (.frz od (.dK ks))) (r : RepK K (free ρ) H ks es) : Wk K ρ H (Itk a od ks) (es.map fun kv => kD kv.1) := by
  have at_ : ∀ {ρ' H'}, Lat ρ H ρ' H' → H' a = some (.frz od (.dK ks)) := fun l => l.keep a _ h f
  refine ⟨fun i d ρ' S' H' e l k' => ⟨at_ l, ?_⟩, fun i d ρ' S' H' x H'' e l k' y => ?_, fun ρ' S' H' l k' => ⟨at_ l, by rw [List.length_map, r.length]; exact Nat.le_refl _⟩⟩
  · obtain ⟨k, v, h1, _⟩ := RepK.keyAt r e
    exact (List.getElem?_eq_some_iff.mp h1).1
  · obtain ⟨rfl, kk, v, h1, rfl⟩ := y
    obtain ⟨k2, v2, h2, rfl⟩ := RepK.keyAt r e
    rw [h1] at h2
    cases h2
    exact ⟨Nxt.refl, k', rep_kD _⟩
end
theorem lcD_calm (t : Tg) (mt : MT) (me : ME) (δ : DEnv) : ∀ (ds : List D) (S : Store) (x : XD) (S' : Store), lcD t mt me δ ds S ≠ .exc x S'
  | [], _, _, _ => fun h => by cases h
  | d :: ds, S, x, S' => fun h => by
    unfold lcD at h
    cases ha : t.apply (.d d) δ with
    | none => simp only [ha] at h; cases h
    | some δ1 =>
      simp only [ha] at h
      cases hm : mt δ1 S with
      | exc y S1 => rw [hm] at h; cases h
      | stuck => rw [hm] at h; cases h
      | ok c S1 =>
        rw [hm] at h
        simp only [Res.calm_ok, Res.ok_bind] at h
        cases c with
        | false => exact lcD_calm t mt me δ ds S1 x S' h
        | true =>
          simp only [if_true] at h
          cases hm2 : me δ1 S1 with
          | exc y S2 => rw [hm2] at h; cases h
          | stuck => rw [hm2] at h; cases h
          | ok u S2 =>
            rw [hm2] at h
            simp only [Res.calm_ok, Res.ok_bind] at h
            cases u with
            | loc n => cases h
            | d y =>
              cases hl : lcD t mt me δ ds S2 with
              | exc z S3 => exact lcD_calm t mt me δ ds S2 z S3 hl
              | stuck => simp only [hl] at h; cases h
              | ok ys S3 => simp only [hl] at h; cases h
/-- [me for t in d if mt], d at the slot i -/
def mLcK (i : Nat) (t : Tg) (mt : MT) (me : ME) (vs : List Nat) : ME := fun δ S => match δ[i]? with
  | some (some (.d (.dct es))) => if (es.map fun kv => kD kv.1).length ≤ sizeLine then (lcD t mt me (wipeD vs δ) (es.map fun kv => kD kv.1) S).bind fun ys S2 => .ok (.d (.lst ys)) S2 else .stuck
  | _ => .stuck
section
variable {X : Cx} {W : WX} {pos : Pos} {elt tg iter : Expr} {ifs : List Expr} {scope : Scope} {own : List (Str × Nat)} {t : Tg} {mt : MT} {me : ME} {i : Nat}
theorem pm_lcK (hc : X.calm = true) (hN : X.N.Nodup) (hi : PE X iter (tVar i)) (ok : BlkOk X.N X.env.scope scope own) (hv : ∀ i ∈ t.slots, i ∈ own.map (·.2))
    (hg : ∀ (s : Shared) (H : Hp) (C : Addr) (cl : List (Str × Addr)) (fp : List Addr), PMG (X.blk s H scope (compEnvC scope cl C X.env) fp) tg t) (ht : ∀ (s : Shared) (H : Hp) (C : Addr) (cl : List (Str × Addr)) (fp : List Addr), PMTs (X.blk s H scope (compEnvC scope cl C X.env) fp) W0 ifs mt)
    (he : ∀ (s : Shared) (H : Hp) (C : Addr) (cl : List (Str × Addr)) (fp : List Addr), PM (X.blk s H scope (compEnvC scope cl C X.env) fp) W0 elt me) (hs : ∀ x, foldedSetIterable iter X.env x = pure x := by intro _; rfl) :
    PM X W (.ListComp elt [⟨tg, iter, ifs, 0⟩] scope pos) (mLcK i t mt me (own.map (·.2))) := by
  have base := pe_lc (pos := pos) (g := tG X.K t) (tt := tT X.K W0 mt) (te := tE X.K W0 me) hc hN (pi_keys (tg := tg) hi) ok hg ht he hs
  -- read with the dict locked already
  have frozen : ∀ {σ : L2.St} {ρ : Ad} {H : Hp} {δ : DEnv} {S : Store} {a : Addr} {od : Obj} {ks : List (Key × V)} {es : List (Key × D)} {Q : VK}, EnvOk X.K ρ H σ δ → Ok X.K ρ S H → σ[i]? = some (some (.ref a)) → free ρ a → H a = some (.frz od (.dK ks)) → RepK X.K (free ρ) H ks es →
      Post X.K W σ ρ H (if (es.map fun kv => kD kv.1).length ≤ sizeLine then (lcD t mt me (wipeD (own.map (·.2)) δ) (es.map fun kv => kD kv.1) S).bind fun ys S2 => .ok (U.d (.lst ys)) S2 else .stuck) (fun u ρ' H' => ∀ v, RepU X.K ρ' H' v u → Q v H') →
      tLc (iKeys (tVar i)) (tG X.K t) (tT X.K W0 mt) (tE X.K W0 me) (own.map (·.2)) σ H Q := by
    intro σ ρ H δ S a od ks es Q e k hσ f h r p
    refine ⟨.ref a, hσ, a, od, rfl, .inl ⟨ks, h, ?_⟩⟩
    exact lc_body (J := Itk a od ks) hv e k (Wk.keys f h r) p
  refine ⟨fun pins s σ H Q I ⟨ρ, δ, S, e, k, p⟩ => ?_⟩
  unfold mLcK at p
  cases hd : δ[i]? with
  | none => simp only [hd] at p; exact p.elim
  | some o =>
    cases o with
    | none => simp only [hd] at p; exact p.elim
    | some u =>
      cases u with
      | loc n => simp only [hd] at p; exact p.elim
      | d x =>
        cases x with
        | dct es =>
          simp only [hd] at p
          obtain ⟨v, hσ, r⟩ := e.at_ i _ hd
          cases r with
          | @dct a ks _ ha fa rk =>
            rcases ha with ha | ⟨od, ha⟩
            · refine (pe_lock base).run pins s σ H Q I ⟨a, .dK ks, ha, trivial, fun od => ?_⟩
              have m := Mp.lock (K := X.K) (ρ := ρ) (od := od) ha
              refine frozen (e.mp m) (k.relock fa m) hσ fa upd_same (rk.mp m) ?_
              by_cases hz : (es.map fun kv => kD kv.1).length ≤ sizeLine
              case neg => rw [if_neg hz] at p; exact p.elim
              rw [if_pos hz] at p ⊢
              cases hl : lcD t mt me (wipeD (own.map (·.2)) δ) (es.map fun kv => kD kv.1) S with
              | exc y S1 => exact absurd hl (lcD_calm _ _ _ _ _ _ _ _)
              | stuck => rw [hl] at p; exact p.elim
              | ok ys S1 =>
                rw [hl] at p
                intro ρ' H' n' k' v rv
                have h' : H' a = some (.frz od (.dK ks)) := n'.keep a _ upd_same fa.1
                have fa' : free ρ' a := (n'.rd (.inl upd_same) fa).2
                have m' := Mp.unlock (K := X.K) (ρ := ρ') h'
                refine ⟨h', p ρ' _ ⟨n'.pre, n'.rs, fun b o eb fb => ?_, fun b z => ?_⟩ (k'.relock fa' m') v (RepU.mp (ρ' := ρ') m' rv)⟩
                · by_cases hb : b = a
                  · subst hb; rw [upd_same, ← eb, ha]
                  · rw [upd_ne hb]; exact n'.keep b o (by rw [upd_ne hb]; exact eb) fb
                · rcases n'.new b z with y | y
                  · exact .inl y
                  · by_cases hb : b = a
                    · subst hb; rw [upd_same] at y; cases y
                    · rw [upd_ne hb] at y; exact .inr y
            · exact base.run pins s σ H Q I (frozen e k hσ fa ha rk p)
        | _ => simp only [hd] at p; exact p.elim
end
end DL

set_option Elab.async false
set_option linter.all false
set_option maxRecDepth 100000
set_option maxHeartbeats 4000000
/-! DHas: a def of the module that means m, as its callers see it -/
namespace DL
open PySem PySem.Spec PyProof.Rows L2

def Has (P : Program) (w : World) (K : Fg) (mg : Str → Option Value) (base : Heap) (k : Nat) (x : Str) (ps : List Str) (m : Fn) : Prop :=
  ∃ f fd, FnG P w K mg base k f fd ps m ∧ Binds K fd ps [] ∧ PySem.W.keepIn K (.ref f) = true ∧ mg x = some (.ref f)
section
variable {P : Program} {w : World} {K : Fg} {mg : Str → Option Value} {base : Heap} {j k : Nat} {x : Str} {ps : List Str} {m : Fn}
theorem Has.mono (h : Has P w K mg base j x ps m) (le : j ≤ k) : Has P w K mg base k x ps m := by
  obtain ⟨f, fd, a, b, c, d⟩ := h
  exact ⟨f, fd, a.mono le, b, c, d⟩
theorem Has.none {f : Addr} {fd : FuncData} (b : Binds K fd ps []) (c : PySem.W.keepIn K (.ref f) = true) (d : mg x = some (.ref f)) : Has P w K mg base k x ps (fun _ _ => .stuck) := ⟨f, fd, FnG.none, b, c, d⟩
end
section
variable {X : Cx} {W : WX} {pos p : Pos} {k : Nat} {ps : List Str} {m : Fn} {x : Str} {e : Expr} {es : List Expr} {ma : MA}
theorem pm_callH (h : Has X.prog X.w X.K X.mg X.base k x ps m) (hr : Room k X.A) (hgd : X.A.guards = some []) (tk : Takes X W) (hg : Gl X x) (ha : PMA X W (e :: es) ma)
    (hdb : (x == ("__debug__" : Str)) = false := by decide) (he : starEach (e :: es) X.env = (false, eval e X.env) :: starEach es X.env := by rfl) (hpl : (backTo pos (starEach es X.env)).any (·.1) = false := by rfl) : PM X W (.Call (.Name x p) (e :: es) [] pos) (mFn m ma) := by
  obtain ⟨f, fd, a, b, c, d⟩ := h
  exact pm_call a hr hgd tk hg d c b ha hdb he hpl
theorem pm_callHS (h : Has X.prog X.w X.K X.mg X.base k x ps m) (hr : Room k X.A) (hgd : X.A.guards = some []) (tk : Takes X W) (hg : Gl X x) (ha : PMA X W (e :: es) ma)
    (hdb : (x == ("__debug__" : Str)) = false := by decide) (he : starEach (e :: es) X.env = (false, eval e X.env) :: starEach es X.env := by rfl) (hst : (backTo pos (starEach es X.env)).any (·.1) = true := by rfl) : PM X W (.Call (.Name x p) (e :: es) [] pos) (mFn m ma) := by
  obtain ⟨f, fd, a, b, c, d⟩ := h
  exact pm_callS a hr hgd tk hg d c b ha hdb he hst
theorem pm_callH0 (h : Has X.prog X.w X.K X.mg X.base k x ps m) (hr : Room k X.A) (hgd : X.A.guards = some []) (tk : Takes X W) (hg : Gl X x) (hdb : (x == ("__debug__" : Str)) = false := by decide) : PM X W (.Call (.Name x p) [] [] pos) (mFn m mNil) := by
  obtain ⟨f, fd, a, b, c, d⟩ := h
  exact pm_call0 a hr hgd tk hg d c b hdb
end
theorem u100 {A : Around} {k : Nat} (hr : Room k A) : A.units + 100 < cLine := by have := hr.un; omega
/-! ### targets that may take cells -/
def setU (is : List Nat) (us : List U) (δ : DEnv) : DEnv := (is.zip us).foldl (fun δ p => δ.set p.1 (some p.2)) δ
def tGU (K : Fg) (is : List Nat) : TGs := fun vs σ H Q => ∃ ρ δ us, EnvOk K ρ H σ δ ∧ RepUs K ρ H vs us ∧ us.length = is.length ∧ ∀ σ', EnvOk K ρ H σ' (setU is us δ) → Q σ' H
def PMGU (X : Cx) (es : List Expr) (is : List Nat) : Prop := PGs X es (tGU X.K is)
section
variable {X : Cx} {W : WX} {pos : Pos} {ma : MA}
theorem pmgu_nil : PMGU X [] [] := ⟨fun pins s σ H vs us Q I r ⟨ρ, δ, ws, e, rl, hl, q⟩ => pgs_nil.run pins s σ H vs us Q I r (by
  cases rl with
  | nil => exact ⟨rfl, q σ e⟩
  | cons _ _ => cases hl)⟩
theorem pmgu_cons {i : Nat} {is : List Nat} {x : Str} {es : List Expr} {p : Pos} (hN : X.N.Nodup) (hi : X.N[i]? = some x) (hx : Loc X.env.scope x) (h2 : PMGU X es is) (hf : X.fn x = true ∨ X.env.scope.names.lookup x = some .local := by first | exact .inl rfl | exact .inr rfl | assumption)
    (hs : (assignEach (.Name x p :: es) X.env).map (·.2) = assign (.Name x p) X.env :: (assignEach es X.env).map (·.2) := by rfl) : PMGU X (.Name x p :: es) (i :: is) :=
  ⟨fun pins s σ H vs us Q I r ⟨ρ, δ, ws, e, rl, hl, q⟩ => (pgs_cons (pg_name hN hi hx hf) h2 hs).run pins s σ H vs us Q I r (by
    cases rl with
    | nil => cases hl
    | cons h t => exact ⟨_, _, rfl, ρ, _, _, e.set h, t, by simpa using hl, q⟩)⟩
theorem pms_tupC {es ts : List Expr} {kt k2 : Nat} {pt p2 : Pos} {is : List Nat} (hc : X.calm = true) (ha : PMA X W es ma) (hg : PMGU X ts is) (hz : is.length ≤ sizeLine := by decide) (hn : (assignEach ts X.env).length = is.length := by rfl) (hst : (assignEach ts X.env).findIdx? (·.1) = none := by rfl)
    (hs : swapsWithSole [.Tuple ts kt pt] (.Tuple es k2 p2) pos.line X.env = pure false := by rfl) (hw : swappedStores [.Tuple ts kt pt] (.Tuple es k2 p2) X.env = pure none := by rfl)
    (h1 : (assignEach [.Tuple ts kt pt] X.env).map (·.2) = [assign (.Tuple ts kt pt) X.env] := by rfl) : PMS X W (.Assign [.Tuple ts kt pt] (.Tuple es k2 p2) pos) (mPar is ma) :=
  pimpS (ps_asg (pe_tup ha) (pg_tup hc hg hn hst) hs hw h1) fun D σ H ⟨ρ0, H0, ρ, δ, S, n0, e, k, p⟩ => tA.inS n0 e k p fun vs us ρ1 H1 S1 _ n1 e1 k1 r1 p1 => by
    by_cases hl : us.length = is.length
    case neg => rw [if_neg hl] at p1; exact p1.elim
    rw [if_pos hl] at p1
    have hv : vs.length = is.length := by rw [r1.length]; exact hl
    refine ⟨by rw [hv]; exact hz, fun a ha' => ⟨a, vs, rfl, SqT.of upd_same, hv, ?_⟩⟩
    have nx : Nxt ρ1 H1 ρ1 (upd H1 a (.tup vs)) := Nxt.laid ha'
    exact ⟨ρ1, δ, us, e1.nxt nx k1, r1.nxt nx k1, hl, fun σ' e' => p1 σ' ρ1 _ (n1.trans nx) (k1.laid ha') e'⟩
end
end DL
namespace DL
open PySem PySem.Spec PyProof.Rows L2
theorem blk_of {N : List Str} {sc scope : Scope} {own : List (Str × Nat)} (k : scope.kind = .function)
    (h : decide ((∀ y ∈ scope.names, scope.names.lookup y.1 = some y.2) ∧ (∀ p ∈ own, N[p.2]? = some p.1) ∧ (∀ y ∈ scope.names, y.2 = .free → sc.names.lookup y.1 = some .cell ∨ sc.names.lookup y.1 = some .free) ∧
      ∀ y ∈ scope.names, y.2 = .local ∨ y.2 = .cell → y.1 ∈ own.map (·.1) ∨ y.1 ∉ N) = true) : BlkOk N sc scope own :=
  let ⟨a, b, c, d⟩ := of_decide_eq_true h
  ⟨k, a, b, c, d⟩
end DL

set_option Elab.async false
set_option linter.all false
set_option maxRecDepth 100000
set_option maxHeartbeats 4000000
/-! DNew1: defs as values, the module's constants and dicts, all, zip, enumerate, walks over texts -/
namespace DL
open PySem PySem.Spec PyProof.Rows L2

/-! ### the module's constants -/
section
variable {X : Cx} {W : WX} {pos p : Pos}
theorem pm_globC {x : Str} {u : Value} {v : V} {d : D} (hg : Gl X x) (hm : X.mg x = some u) (r : RelV v u) (rd : ∀ ok H, Rep X.K ok H v d) (hd : (x == ("__debug__" : Str)) = false := by decide) : PM X W (.Name x pos) (mC d) :=
  pm_const (pe_glob hg hm r hd) rd
/-- the module's def x -/
def FnAt (K : Fg) (mg : Str → Option Value) (x : Str) : Prop := ∃ f, PySem.W.nsIn K mainGlobals x = some (some (.ref f)) ∧ mg x = some (.ref f)
theorem pm_fnv {x : Str} (h : FnAt X.K X.mg x) (hg : Gl X x) (hd : (x == ("__debug__" : Str)) = false := by decide) : PM X W (.Name x pos) (mC (.fn x)) := by
  obtain ⟨f, h1, h2⟩ := h
  exact pm_globC (v := .ref f) hg h2 rfl (fun _ _ => .fn h1) hd
/-- a call of a local that holds a def -/
def mCallV (i : Nat) (T : Str → Option Fn) (mas : MA) : ME := fun δ S => match δ[i]? with
  | some (some (.d (.fn x))) => (match T x with
    | some m => (mas δ S).bind fun us S1 => m us S1
    | none => .stuck)
  | _ => .stuck
theorem pm_callV {i k : Nat} {T : Str → Option Fn} {x : Str} {e : Expr} {es : List Expr} {mas : MA} (hT : ∀ y m, T y = some m → ∃ ps, Has X.prog X.w X.K X.mg X.base k y ps m) (hr : Room k X.A) (hgd : X.A.guards = some []) (tk : Takes X W)
    (hN : X.N[i]? = some x) (hv : Vis X.env.scope x) (ha : PMA X W (e :: es) mas)
    (hdb : (x == ("__debug__" : Str)) = false := by decide) (hcd : (x == ("__classdict__" : Str)) = false := by decide)
    (he : starEach (e :: es) X.env = (false, eval e X.env) :: starEach es X.env := by rfl) (hpl : (backTo pos (starEach es X.env)).any (·.1) = false := by rfl) : PM X W (.Call (.Name x p) (e :: es) [] pos) (mCallV i T mas) := by
  refine ⟨fun pins s σ H Q I ⟨ρ, δ, S, en, k0, p0⟩ => ?_⟩
  unfold mCallV at p0
  split at p0
  case h_2 => exact p0.elim
  rename_i y hy
  obtain ⟨v, hs, r⟩ := en.at_ i _ hy
  split at p0
  case h_2 => exact p0.elim
  rename_i m hm
  obtain ⟨ps, f, fd, F, b, c, d⟩ := hT y m hm
  have hv' : v = .ref f := by
    have r' : Rep X.K (free ρ) H v (.fn y) := r
    cases r' with
    | fn h =>
      have := PySem.W.mg_of I.ok.mod.kin I.ok.mod.glob h
      rw [d] at this
      cases this; rfl
  subst hv'
  refine wpAny_Call_Name_kw (thn ((pe_var (pos := p) hN hv hdb hcd).run pins s σ H (fun v H1 => v = .ref f ∧ H1 = H) I ⟨.ref f, hs, rfl, rfl⟩) fun u s1 ⟨v, H1, I1, r1, q1⟩ => ?_)
  obtain ⟨rfl, rfl⟩ := q1
  cases r1
  have T : tA X.K W mas σ H1 fun vs H1 => spM X.K m vs H1 Q (WE W σ) := tA.first en k0 p0 fun vs us ρ1 H1 S1 _ n1 e1 k1 r1 p1 => spM_of k1 r1 p1
  refine PySem.W.callWith_K (h₀ := X.base) I.ok.mod.kin c (thn (ha.run pos pins s1 σ _ _ I1 T) fun us s2 ⟨vs, H2, I2, r, q⟩ => ⟨I2.kIn, ?_⟩) he hpl
  exact run_G F hr hgd b tk I2 r q
/-! ### a dict of the module -/
def lookT (tab : List (Str × D)) (z : Str) : Option D := (tab.find? fun kv => decide (kv.1 = z)).map (·.2)
def KTab (K : Fg) (w : World) (mg : Str → Option Value) (x : Str) (tab : List (Str × D)) : Prop := ∃ d es n, KDict K w d es n ∧ mg x = some (.ref d) ∧ ∀ z, match lookT tab z with
  | some e => ∃ u v, PySem.W.nsIn K d z = some (some u) ∧ RelV v u ∧ ∀ ok H, Rep K ok H v e
  | none => PySem.W.nsIn K d z = some none
def mInK (tab : List (Str × D)) (me : ME) : ME := fun δ S => (me δ S).bind fun u S' => match u with
  | .d (.str z) => .ok (.d (.bl (lookT tab z).isSome)) S'
  | _ => .stuck
def mIxK (tab : List (Str × D)) (me : ME) : ME := fun δ S => (me δ S).bind fun u S' => match u with
  | .d (.str z) => (match lookT tab z with
    | some e => .ok (.d e) S'
    | none => .stuck)
  | _ => .stuck
theorem pm_inK {a : Expr} {ma : ME} {x : Str} {tab : List (Str × D)} (D : KTab X.K X.w X.mg x tab) (hg : Gl X x) (ha : PM X W a ma) (hd : (x == ("__debug__" : Str)) = false := by decide) (hm : behindInMarks .In (.Name x p) = false := by rfl) : PM X W (.Compare a [.In] [.Name x p] pos) (mInK tab ma) := by
  obtain ⟨d, es, n, D, hmg, ht⟩ := D
  refine pimpE (pe_cmpR (op_in_kd D) ha (pe_glob (v := .ref d) hg hmg rfl hd) hm) fun σ H Q ⟨ρ, δ, S, e, k, p⟩ => tE.first e k p fun v u ρ1 H1 S1 _ n1 e1 k1 r1 p1 => ?_
  cases u with
  | loc n => exact p1.elim
  | d y =>
    cases y with
    | str z =>
      cases r1
      have h := ht z
      have q := p1.here k1
      cases hl : lookT tab z with
      | none => rw [hl] at h q; exact ⟨z, none, rfl, rfl, h, q _ (Rep.bl _)⟩
      | some e =>
        rw [hl] at h q
        obtain ⟨u, v, h1, _, _⟩ := h
        exact ⟨z, some u, rfl, rfl, h1, q _ (Rep.bl _)⟩
    | _ => exact p1.elim
theorem pm_ixK {a : Expr} {ma : ME} {x : Str} {tab : List (Str × D)} (D : KTab X.K X.w X.mg x tab) (hg : Gl X x) (ha : PM X W a ma) (hd : (x == ("__debug__" : Str)) = false := by decide) (hs : PlainIx a := by intros; rfl) : PM X W (.Subscript (.Name x p) a pos) (mIxK tab ma) := by
  obtain ⟨d, es, n, D, hmg, ht⟩ := D
  refine pimpE (pe_ix ix_kdict (pe_glob (v := .ref d) hg hmg rfl hd) ha hs) fun σ H Q ⟨ρ, δ, S, e, k, p⟩ => ?_
  show tE X.K W ma σ H _
  refine tE.first e k p fun v u ρ1 H1 S1 _ n1 e1 k1 r1 p1 => ?_
  cases u with
  | loc n => exact p1.elim
  | d y =>
    cases y with
    | str z =>
      cases r1
      have h := ht z
      dsimp only at p1
      cases hl : lookT tab z with
      | none => rw [hl] at p1; exact p1.elim
      | some e =>
        rw [hl] at h p1
        obtain ⟨u, v, h1, h2, h3⟩ := h
        exact ⟨d, z, v, rfl, rfl, ⟨es, _, u, D.at_, D.lit, h1, h2⟩, p1.here k1 _ (h3 _ _)⟩
    | _ => exact p1.elim
end
/-! ### all -/
def bools : List D → Option (List Bool)
  | [] => some []
  | .bl b :: r => (bools r).map (b :: ·)
  | _ => none
def dAll : List D → Option D
  | [.lst ds] => (bools ds).map fun bs => .bl (bs.all id)
  | _ => none
theorem RepL.bools {K : Fg} {ok : Addr → Prop} {H : Hp} : ∀ {vs : List V} {ds : List D} {bs : List Bool}, RepL K ok H vs ds → bools ds = some bs → vs = bs.map V.bl
  | _, _, bs, .nil, e => by cases e; rfl
  | _, _, bs, .cons (d := d) (ds := r) h t, e => by
    cases d with
    | bl b =>
      obtain ⟨cs, h1, rfl⟩ := Option.map_eq_some_iff.mp (show (DL.bools r).map (b :: ·) = some bs from e)
      cases h
      rw [RepL.bools t h1]; rfl
    | _ => cases e
theorem cd_all {X : Cx} (hc : X.calm = true) : CallD X (.builtin "all") dAll := by
  intro pins s σ H xs us Q I r h
  obtain ⟨ρ, S, ds, z, k, rs, g, q⟩ := h
  unfold dAll at g
  split at g
  · rename_i es
    obtain ⟨v, rfl, r1⟩ := rs.one
    obtain ⟨bs, h1, rfl⟩ := Option.map_eq_some_iff.mp g
    obtain ⟨a, xs, rfl, h2, t2⟩ := r1.lst
    cases t2.bools h1
    exact cr_all hc pins s σ H _ us Q I r ⟨a, bs, rfl, .inl h2, q _ _ Nxt.refl k (.bl _)⟩
  · cases g
/-! ### walks -/
section
variable {K : Fg} {ρ ρ' : Ad} {H H' : Hp} {S S' : Store}
def zipD (xs ys : List D) : List D := (xs.zip ys).map fun p => .tup [p.1, p.2]
theorem zipD_at {xs ys : List D} {i : Nat} {d : D} (h : (zipD xs ys)[i]? = some d) : ∃ x y, xs[i]? = some x ∧ ys[i]? = some y ∧ d = .tup [x, y] := by
  unfold zipD at h
  rw [List.getElem?_map] at h
  obtain ⟨⟨x, y⟩, h1, rfl⟩ := Option.map_eq_some_iff.mp h
  obtain ⟨h2, h3⟩ := List.getElem?_zip_eq_some.mp h1
  exact ⟨x, y, h2, h3, rfl⟩
theorem zipD_len (xs ys : List D) : (zipD xs ys).length = min xs.length ys.length := by unfold zipD; simp
theorem Wk.zipT {a b : Addr} {xs ys : List V} {ds es : List D} (k : Ok K ρ S H) (h : SqT K H a xs) (h' : SqT K H b ys) (r : RepL K (free ρ) H xs ds) (r' : RepL K (free ρ) H ys es) : Wk K ρ H (RZ.ItzT K a b) (zipD ds es) := by
  have sq : ∀ {ρ' H'} {a : Addr} {xs : List V}, SqT K H a xs → Lat ρ H ρ' H' → SqT K H' a xs := fun h n => h.elim (fun z => .inl (n.rd z (k.tupFree z)).1) .inr
  refine ⟨fun i d ρ' S' H' e n k' => ?_, fun i d ρ' S' H' x H'' e n k' y => ?_, fun ρ' S' H' n k' => ⟨xs, ys, sq h n, sq h' n, ?_⟩⟩
  · obtain ⟨x, y, e1, e2, rfl⟩ := zipD_at e
    obtain ⟨v, hv, _⟩ := r.get e1
    obtain ⟨w, hw, _⟩ := r'.get e2
    exact ⟨xs, ys, v, w, sq h n, sq h' n, hv, hw⟩
  · obtain ⟨T, z1, z2, rfl, hT, rfl, y1, y2⟩ := y
    obtain ⟨x, y, e1, e2, rfl⟩ := zipD_at e
    obtain ⟨v, hv, rv⟩ := r.get e1
    obtain ⟨w, hw, rw'⟩ := r'.get e2
    have q1 := y1 xs (sq h n)
    have q2 := y2 ys (sq h' n)
    rw [hv] at q1; rw [hw] at q2; cases q1; cases q2
    refine ⟨Nxt.laid hT, k'.laid hT, .tup (SqT.of upd_same) (.cons ?_ (.cons ?_ .nil))⟩
    · exact (rv.mv (n.mv k)).mv ((Nxt.laid hT).mv k')
    · exact (rw'.mv (n.mv k)).mv ((Nxt.laid hT).mv k')
  · rw [zipD_len, r.length, r'.length]; omega
theorem Wk.zipL {a b : Addr} {xs ys : List V} {ds es : List D} (k : Ok K ρ S H) (h : FzL K (free ρ) H a xs) (h' : FzL K (free ρ) H b ys) (r : RepL K (free ρ) H xs ds) (r' : RepL K (free ρ) H ys es) : Wk K ρ H (Itz K a b) (zipD ds es) := by
  have sq : ∀ {ρ' H'} {a : Addr} {xs : List V}, FzL K (free ρ) H a xs → Lat ρ H ρ' H' → SqL K H' a xs := fun h n => h.elim (fun z => .inl (n.rd z.1 z.2).1) .inr
  refine ⟨fun i d ρ' S' H' e n k' => ?_, fun i d ρ' S' H' x H'' e n k' y => ?_, fun ρ' S' H' n k' => ⟨xs, ys, sq h n, sq h' n, ?_⟩⟩
  · obtain ⟨x, y, e1, e2, rfl⟩ := zipD_at e
    obtain ⟨v, hv, _⟩ := r.get e1
    obtain ⟨w, hw, _⟩ := r'.get e2
    exact ⟨xs, ys, v, w, sq h n, sq h' n, hv, hw⟩
  · obtain ⟨T, z1, z2, rfl, hT, rfl, y1, y2⟩ := y
    obtain ⟨x, y, e1, e2, rfl⟩ := zipD_at e
    obtain ⟨v, hv, rv⟩ := r.get e1
    obtain ⟨w, hw, rw'⟩ := r'.get e2
    have q1 := y1 xs (sq h n)
    have q2 := y2 ys (sq h' n)
    rw [hv] at q1; rw [hw] at q2; cases q1; cases q2
    refine ⟨Nxt.laid hT, k'.laid hT, .tup (SqT.of upd_same) (.cons ?_ (.cons ?_ .nil))⟩
    · exact (rv.mv (n.mv k)).mv ((Nxt.laid hT).mv k')
    · exact (rw'.mv (n.mv k)).mv ((Nxt.laid hT).mv k')
  · rw [zipD_len, r.length, r'.length]; omega
def enumD (n : Nat) : List D → List D
  | [] => []
  | d :: r => .tup [.int (n : Nat), d] :: enumD (n + 1) r
theorem enumD_at : ∀ {ds : List D} {n i : Nat} {d : D}, (enumD n ds)[i]? = some d → ∃ x, ds[i]? = some x ∧ d = .tup [.int ((n + i : Nat) : Int), x]
  | [], n, i, d, h => by simp [enumD] at h
  | y :: r, n, 0, d, h => ⟨y, rfl, by simpa [enumD] using h.symm⟩
  | y :: r, n, i + 1, d, h => by
    obtain ⟨x, h1, h2⟩ := enumD_at (ds := r) (n := n + 1) (i := i) (d := d) (by simpa [enumD] using h)
    refine ⟨x, by simpa using h1, ?_⟩
    rw [h2, show n + 1 + i = n + (i + 1) by omega]
theorem enumD_len : ∀ (ds : List D) (n : Nat), (enumD n ds).length = ds.length
  | [], _ => rfl
  | _ :: r, n => by show (enumD (n + 1) r).length + 1 = _; rw [enumD_len r]; rfl
theorem Wk.enum {a : Addr} {xs : List V} {ds : List D} (k : Ok K ρ S H) (h : FzL K (free ρ) H a xs) (r : RepL K (free ρ) H xs ds) : Wk K ρ H (Ite K a) (enumD 0 ds) := by
  have sq : ∀ {ρ' H'}, Lat ρ H ρ' H' → SqL K H' a xs := fun n => h.elim (fun z => .inl (n.rd z.1 z.2).1) .inr
  refine ⟨fun i d ρ' S' H' e n k' => ?_, fun i d ρ' S' H' x H'' e n k' y => ?_, fun ρ' S' H' n k' => ⟨xs, sq n, ?_⟩⟩
  · obtain ⟨x, e1, rfl⟩ := enumD_at e
    obtain ⟨v, hv, _⟩ := r.get e1
    exact ⟨xs, v, sq n, hv⟩
  · obtain ⟨T, z1, rfl, hT, rfl, y1⟩ := y
    obtain ⟨x, e1, rfl⟩ := enumD_at e
    obtain ⟨v, hv, rv⟩ := r.get e1
    have q1 := y1 xs (sq n)
    rw [hv] at q1; cases q1
    refine ⟨Nxt.laid hT, k'.laid hT, .tup (SqT.of upd_same) (.cons ?_ (.cons ?_ .nil))⟩
    · rw [Nat.zero_add]; exact .int _
    · exact (rv.mv (n.mv k)).mv ((Nxt.laid hT).mv k')
  · rw [enumD_len, r.length]; exact Nat.le_refl _
def charsD (z : Str) : List D := z.cps.toList.map fun c => .str ⟨#[c]⟩
theorem Wk.str (z : Str) : Wk K ρ H (Its z) (charsD z) := by
  have at_ : ∀ {i : Nat} {d : D}, (charsD z)[i]? = some d → ∃ c, z.cps[i]? = some c ∧ d = .str ⟨#[c]⟩ := fun {i d} e => by
    unfold charsD at e
    rw [List.getElem?_map] at e
    obtain ⟨c, h1, rfl⟩ := Option.map_eq_some_iff.mp e
    exact ⟨c, by rw [← Array.getElem?_toList]; exact h1, rfl⟩
  refine ⟨fun i d ρ' S' H' e n k' => ?_, fun i d ρ' S' H' x H'' e n k' y => ?_, fun ρ' S' H' n k' => ?_⟩
  · obtain ⟨c, h1, _⟩ := at_ e
    exact (Array.getElem?_eq_some_iff.mp h1).1
  · obtain ⟨rfl, c, h1, rfl⟩ := y
    obtain ⟨c', h2, rfl⟩ := at_ e
    rw [h1] at h2; cases h2
    exact ⟨Nxt.refl, k', .str _⟩
  · show z.cps.size ≤ _
    unfold charsD; simp
end
section
variable {X : Cx} {W : WX} {pos p tpos : Pos} {e e2 : Expr} {me me2 : ME} {elts : List Expr} {kk : Nat}
def mZipI (ma mb : ME) : MI := fun δ S => (ma δ S).bind fun u S1 => (mb δ S1).bind fun w S2 => match u, w with
  | .d (.tup xs), .d (.tup ys) => .ok (zipD xs ys) S2
  | .d (.lst xs), .d (.lst ys) => .ok (zipD xs ys) S2
  | _, _ => .stuck
theorem pmi_zip (hg : Gl X "zip") (hm : X.mg "zip" = none) (ha : PM X W e me) (hb : PM X W e2 me2) (h1 : starEach [e, e2] X.env = (false, eval e X.env) :: starEach [e2] X.env := by rfl) (h2 : starEach [e2] X.env = (false, eval e2 X.env) :: starEach [] X.env := by rfl) (hpl : (backTo pos (starEach [e2] X.env)).any (·.1) = false := by rfl) :
    PMI X W (.Tuple elts kk tpos) (.Call (.Name "zip" p) [e, e2] [] pos) (mZipI me me2) :=
  ⟨fun pins s σ H R I ⟨ρ, δ, S, en, k, q⟩ => (RZ.pi_zipA hg hm (pa_cons ha (pa_cons hb pa_nil h2) h1) h1 hpl).run pins s σ H R I (tE.first en k q fun v u ρ1 H1 S1 _ n1 e1 k1 r1 p1 => tE.first e1 k1 p1 fun v2 u2 ρ2 H2 S2 _ n2 e2 k2 r2 p2 => by
    have r1' := r1.nxt n2 k1
    cases u with
    | loc n => exact p2.elim
    | d x =>
      cases u2 with
      | loc n => cases x <;> exact p2.elim
      | d y =>
        cases x with
        | tup xs =>
          cases y with
          | tup ys =>
            cases r1' with | tup h r => cases r2 with | tup h' r' =>
            exact ⟨_, _, _, _, rfl, .inr ⟨h, h', p2.here k2 _ S2 k2 (Wk.zipT k2 h h' r r')⟩⟩
          | _ => exact p2.elim
        | lst xs =>
          cases y with
          | lst ys =>
            cases r1' with | lst h o r => cases r2 with | lst h' o' r' =>
            exact ⟨_, _, _, _, rfl, .inl ⟨.inl h, .inl h', p2.here k2 _ S2 k2 (Wk.zipL k2 (.inl ⟨h, o⟩) (.inl ⟨h', o'⟩) r r')⟩⟩
          | _ => exact p2.elim
        | _ => exact p2.elim)⟩
def mEnumI (ma : ME) : MI := fun δ S => (ma δ S).bind fun u S1 => match u with
  | .d (.lst xs) => .ok (enumD 0 xs) S1
  | _ => .stuck
theorem pmi_enum (hg : Gl X "enumerate") (hm : X.mg "enumerate" = none) (ha : PM X W e me) (h1 : starEach [e] X.env = (false, eval e X.env) :: starEach [] X.env := by rfl) (hs : starEach [e] X.env = [(false, eval e X.env)] := by rfl) :
    PMI X W (.Tuple elts kk tpos) (.Call (.Name "enumerate" p) [e] [] pos) (mEnumI me) :=
  ⟨fun pins s σ H R I ⟨ρ, δ, S, en, k, q⟩ => (pi_enum hg hm (pa_cons ha pa_nil h1) hs).run pins s σ H R I (tE.first en k q fun v u ρ1 H1 S1 _ n1 e1 k1 r1 p1 => by
    cases u with
    | loc n => exact p1.elim
    | d x =>
      cases x with
      | lst xs =>
        cases r1 with | lst h o r =>
        exact ⟨_, _, rfl, .inl h, p1.here k1 _ S1 k1 (Wk.enum k1 (.inl ⟨h, o⟩) r)⟩
      | _ => exact p1.elim)⟩
def mStrI (ma : ME) : MI := fun δ S => (ma δ S).bind fun u S1 => match u with
  | .d (.str z) => .ok (charsD z) S1
  | _ => .stuck
theorem pmi_str {tg : Expr} (ha : PM X W e me) : PMI X W tg e (mStrI me) :=
  ⟨fun pins s σ H R I ⟨ρ, δ, S, en, k, q⟩ => (pi_str ha).run pins s σ H R I (tE.first en k q fun v u ρ1 H1 S1 _ n1 e1 k1 r1 p1 => by
    cases u with
    | loc n => exact p1.elim
    | d x =>
      cases x with
      | str z => cases r1; exact ⟨_, rfl, p1.here k1 _ S1 k1 (Wk.str z)⟩
      | _ => exact p1.elim)⟩
end
end DL

set_option Elab.async false
set_option linter.all false
set_option maxRecDepth 100000
set_option maxHeartbeats 4000000
/-! DNew2: comprehensions of two clauses -/
namespace DL
open PySem PySem.Spec PyProof.Rows L2

def finL (ds : List D) (S : Store) : Res U := if ds.length ≤ sizeLine then .ok (.d (.lst ds)) S else .stuck
def lcD2 (t : Tg) (mt : MT) (mi1 : MI) (t1 : Tg) (mt1 : MT) (me : ME) (vs1 : List Nat) (δ : DEnv) : List D → Store → Res (List D)
  | [], S => .ok [] S
  | d :: ds, S => match t.apply (.d d) δ with
    | none => .stuck
    | some δ1 => (mt δ1 S).calm.bind fun c S1 => if c then (mi1 δ1 S1).calm.bind fun es S2 => (lcD t1 mt1 me (wipeD vs1 δ1) es S2).bind fun ys S3 => (lcD2 t mt mi1 t1 mt1 me vs1 δ ds S3).bind fun zs S4 => .ok (ys ++ zs) S4
      else lcD2 t mt mi1 t1 mt1 me vs1 δ ds S1
def mLc2 (mi : MI) (t : Tg) (mt : MT) (mi1 : MI) (t1 : Tg) (mt1 : MT) (me : ME) (vs vs1 : List Nat) : ME := fun δ S => (mi δ S).bind fun ds S1 => (lcD2 t mt mi1 t1 mt1 me vs1 (wipeD vs δ) ds S1).bind fun ys S2 => finL ys S2
theorem lcD2_calm (t : Tg) (mt : MT) (mi1 : MI) (t1 : Tg) (mt1 : MT) (me : ME) (vs1 : List Nat) (δ : DEnv) : ∀ (ds : List D) (S : Store) (x : XD) (S' : Store), lcD2 t mt mi1 t1 mt1 me vs1 δ ds S ≠ .exc x S'
  | [], S, x, S' => by unfold lcD2; intro h; cases h
  | d :: ds, S, x, S' => by
    unfold lcD2
    intro h
    split at h
    · cases h
    · rename_i δ1 _
      cases q : mt δ1 S with
      | stuck => rw [q] at h; cases h
      | exc y S1 => rw [q] at h; cases h
      | ok c S1 =>
        rw [q] at h
        simp only [Res.calm_ok, Res.ok_bind] at h
        cases c with
        | false => simp only [Bool.false_eq_true, if_false] at h; exact lcD2_calm t mt mi1 t1 mt1 me vs1 δ ds S1 x S' h
        | true =>
          simp only [if_true] at h
          cases q2 : mi1 δ1 S1 with
          | stuck => rw [q2] at h; cases h
          | exc y S1 => rw [q2] at h; cases h
          | ok es S2 =>
            rw [q2] at h
            simp only [Res.calm_ok, Res.ok_bind] at h
            cases q3 : lcD t1 mt1 me (wipeD vs1 δ1) es S2 with
            | stuck => rw [q3] at h; cases h
            | exc y S1 => exact lcD_calm _ _ _ _ _ _ _ _ q3
            | ok ys S3 =>
              rw [q3] at h
              simp only [Res.ok_bind] at h
              cases q4 : lcD2 t mt mi1 t1 mt1 me vs1 δ ds S3 with
              | stuck => rw [q4] at h; cases h
              | exc y S1 => exact lcD2_calm t mt mi1 t1 mt1 me vs1 δ ds _ _ _ q4
              | ok zs S4 => rw [q4] at h; cases h
section
variable {K : Fg} {ρ ρ1 ρ2 ρ' : Ad} {H H1 H2 H' : Hp} {S : Store} {σ : L2.St} {δ : DEnv}
theorem Lat.nxt (l : Lat ρ H ρ1 H1) (n : Nxt ρ1 H1 ρ2 H2) : Lat ρ H ρ2 H2 :=
  ⟨fun b o h f => n.keep b o (l.keep b o h f) (l.fr b (by rw [h]; intro z; cases z) f).1, fun b h f => by
    have f1 := l.fr b h f
    refine n.lat.fr b ?_ f1
    intro z
    cases q : H b with
    | none => exact h q
    | some o => rw [l.keep b o q f] at z; cases z⟩
theorem Lat.put {a : Addr} {o : HO} (l : Lat ρ H ρ1 H1) (ha : a ∈ ρ.rs) : Lat ρ H ρ1 (upd H1 a o) :=
  ⟨fun b q h f => by rw [upd_ne (fun z => f.2 (by rw [z]; exact ha))]; exact l.keep b q h f, l.fr⟩
theorem Lat.refl : Lat ρ H ρ H := ⟨fun _ _ h _ => h, fun _ _ f => f⟩
/-- a Post that is not stuck behind a calm part -/
theorem Post.finOk {α : Type} {W : WX} {r : Res (List α)} {f : List α → Store → Res U} {good : U → Ad → Hp → Prop} (hx : ∀ x S, r ≠ .exc x S) (p : Post K W σ ρ H (r.bind f) good) : ∃ ys S, r = .ok ys S ∧ Post K W σ ρ H (f ys S) good := Post.okOf hx p
theorem finL_le {W : WX} {ds : List D} {good : U → Ad → Hp → Prop} (p : Post K W σ ρ H (finL ds S) good) : ds.length ≤ sizeLine := by
  unfold finL at p
  by_cases h : ds.length ≤ sizeLine
  · exact h
  · rw [if_neg h] at p; exact p.elim
end
section
variable {X : Cx} {W : WX} {pos : Pos} {elt tg iter tg1 iter1 : Expr} {ifs ifs1 : List Expr} {scope : Scope} {own : List (Str × Nat)} {mi mi1 : MI} {t t1 : Tg} {mt mt1 : MT} {me : ME} {vs1 : List Nat}
theorem tI.firstE {K : Fg} {σ : L2.St} {ρ : Ad} {H : Hp} {S : Store} {δ : DEnv} {R : It → Hp → Prop} (e : EnvOk K ρ H σ δ) (k : Ok K ρ S H) (h : (∃ es S', mi1 δ S = .ok es S') ∨ False)
    (hq : ∀ J ds ρ1 H1 S1, mi1 δ S = .ok ds S1 → Nxt ρ H ρ1 H1 → EnvOk K ρ1 H1 σ δ → Ok K ρ1 S1 H1 → Wk K ρ1 H1 J ds → R J H1) : tI K W0 mi1 σ H R := by
  refine ⟨ρ, δ, S, e, k, ?_⟩
  obtain ⟨es, S', h⟩ := h.resolve_right id
  rw [h]
  exact fun ρ1 H1 n k1 J S2 k2 w => hq J es ρ1 H1 S' h n (e.nxt n k) k1 w
/-- between two turns of the first clause -/
def lc2Inv (K : Fg) (W : WX) (σ : L2.St) (ρ1 : Ad) (H1 : Hp) (a : Addr) (G : List D → Store → Res (List D)) (ds : List D) (Q : VK) (i : Nat) (H : Hp) : Prop :=
  i ≤ ds.length ∧ ∃ (ρ : Ad) (S : Store) (acc : List V) (as : List D), Nxt ρ1 H1 ρ H ∧ Ok K (ρ.hold a) S H ∧ H a = some (.lst acc) ∧ RepL K (free (ρ.hold a)) H acc as ∧
    Post K W σ ρ1 H1 ((G (ds.drop i) S).bind fun ys S2 => finL (as ++ ys) S2) fun u ρ' H' => ∀ v, RepU K ρ' H' v u → Q v H'
/-- between two turns of the second -/
def lc2In (K : Fg) (W : WX) (σ : L2.St) (ρ1 : Ad) (H1 : Hp) (a : Addr) (ρ4 : Ad) (H4 : Hp) (G1 : List D → Store → Res (List D)) (es : List D) (F : Store → Res (List D)) (Q : VK) (j : Nat) (H : Hp) : Prop :=
  j ≤ es.length ∧ ∃ (ρ : Ad) (S : Store) (acc : List V) (as : List D), Nxt ρ1 H1 ρ H ∧ Lat (ρ4.hold a) H4 (ρ.hold a) H ∧ ρ4.cs <+: ρ.cs ∧ Ok K (ρ.hold a) S H ∧ H a = some (.lst acc) ∧ RepL K (free (ρ.hold a)) H acc as ∧
    Post K W σ ρ1 H1 ((G1 (es.drop j) S).bind fun ys S2 => (F S2).bind fun zs S3 => finL (as ++ (ys ++ zs)) S3) fun u ρ' H' => ∀ v, RepU K ρ' H' v u → Q v H'
theorem lc2_body (hv : ∀ i ∈ t.slots, i ∈ own.map (·.2)) (hv1 : ∀ i ∈ t1.slots, i ∈ vs1) {σ : L2.St} {ρ1 : Ad} {H1 : Hp} {S1 : Store} {δ : DEnv} {J : It} {ds : List D} {Q : VK} (e1 : EnvOk X.K ρ1 H1 σ δ) (k1 : Ok X.K ρ1 S1 H1) (w : Wk X.K ρ1 H1 J ds)
    (p1 : Post X.K W σ ρ1 H1 ((lcD2 t mt mi1 t1 mt1 me vs1 (wipeD (own.map (·.2)) δ) ds S1).bind fun ys S2 => finL ys S2) fun u ρ' H' => ∀ v, RepU X.K ρ' H' v u → Q v H') :
    tLc2 (fun _ H R => R J H) (tG X.K t) (tT X.K W0 mt) (tI X.K W0 mi1) (tG X.K t1) (tT X.K W0 mt1) (tE X.K W0 me) (own.map (·.2)) vs1 σ H1 Q := by
  intro a ha
  have fa := k1.notNew ha
  refine ⟨fun i mm H => mm = ds.length - i ∧ lc2Inv X.K W σ ρ1 H1 a (lcD2 t mt mi1 t1 mt1 me vs1 (wipeD (own.map (·.2)) δ)) ds Q i H, ⟨ds.length, by simp, Nat.zero_le _, ρ1, S1, [], [], Nxt.laid ha, k1.hold ha, upd_same, .nil, by simpa using p1⟩, ?_⟩
  rintro i mm H2 ⟨rfl, hi, ρ2, S2, acc, as, n2, k2, ha2, r2, p2⟩
  have l2 := n2.held ha
  by_cases hlt : i < ds.length
  · have hd : ds.drop i = ds[i] :: ds.drop (i + 1) := List.drop_eq_getElem_cons hlt
    have hx : ds[i]? = some ds[i] := List.getElem?_eq_getElem hlt
    rw [hd] at p2
    refine .inr ⟨w.go i _ _ S2 H2 hx l2 k2, lc2Inv X.K W σ ρ1 H1 a (lcD2 t mt mi1 t1 mt1 me vs1 (wipeD (own.map (·.2)) δ)) ds Q (i + 1), fun H' z => ⟨ds.length - (i + 1), by omega, rfl, z⟩, fun x H3 y => ?_⟩
    obtain ⟨n3, k3, r3⟩ := w.yld i _ _ S2 H2 x H3 hx l2 k2 y
    unfold lcD2 at p2
    cases hap : t.apply (.d ds[i]) (wipeD (own.map (·.2)) δ) with
    | none => simp only [hap] at p2; exact p2.elim
    | some δ2 =>
      simp only [hap] at p2
      have e3 : EnvOk X.K (ρ2.hold a) H3 (wipe σ (own.map (·.2))) (wipeD (own.map (·.2)) δ) := ((e1.wipe _).lat l2 n2.pre k1).nxt n3 k2
      refine ⟨_, S2, _, .d ds[i], δ2, e3, k3, r3, hap, fun σ4 e4 ap => ⟨?_, ?_⟩⟩
      · rw [(ap.mono hv).wipe]
        apply List.ext_getElem?
        intro j
        rw [wipe_at, wipe_at]
        by_cases hj : j ∈ own.map (·.2)
        · rw [if_pos hj, if_pos hj]; cases σ[j]? <;> rfl
        · rw [if_neg hj, if_neg hj]
      have n3' : Nxt ρ2 H2 ρ2 H3 := ⟨n3.pre, rfl, n3.keep, n3.new⟩
      have na : some a ∉ ρ2.cs := (k2.rsv a (List.mem_cons_self ..)).1
      have ha3 : H3 a = some (.lst acc) := n3.keep a _ ha2 na
      rw [Res.bind_assoc] at p2
      refine tT.first (W := W0) (good := fun _ _ _ => True) (f := fun _ S => .ok () S) e4 k3 ?_ ?_
      · cases hm : mt δ2 S2 with
        | ok b S' => exact fun _ _ _ _ => trivial
        | exc x S' => rw [hm] at p2; exact p2.elim
        | stuck => rw [hm] at p2; exact p2.elim
      intro b ρ5 H5 S5 hm n5 e5 k5 _
      rw [hm] at p2
      simp only [Res.calm_ok, Res.ok_bind] at p2
      obtain ⟨ρ5, rfl, n5'⟩ := n5.unhold
      have ha5 : H5 a = some (.lst acc) := n5.keep a _ ha3 na
      have r5 := (r2.mv (n3.mv k2)).mv (n5.mv k3)
      have all5 : Nxt ρ1 H1 ρ5 H5 := n2.trans (n3'.trans n5')
      cases b with
      | false =>
        rw [if_neg Bool.false_ne_true] at p2 ⊢
        exact ⟨hlt, ρ5, S5, acc, as, all5, k5, ha5, r5, p2⟩
      | true =>
        rw [if_pos rfl] at p2 ⊢
        rw [Res.bind_assoc] at p2
        refine tI.firstE e5 k5 (by
          cases hm2 : mi1 δ2 S5 with
          | ok u S' => exact .inl ⟨u, S', rfl⟩
          | exc x S' => rw [hm2] at p2; exact p2.elim
          | stuck => rw [hm2] at p2; exact p2.elim) ?_
        intro J1 es ρ6 H6 S6 hm2 n6 e6 k6 w6
        rw [hm2] at p2
        simp only [Res.calm_ok, Res.ok_bind, Res.bind_assoc] at p2
        obtain ⟨ρ6, rfl, n6'⟩ := n6.unhold
        have na5 : some a ∉ ρ5.cs := (k5.rsv a (List.mem_cons_self ..)).1
        have ha6 : H6 a = some (.lst acc) := n6.keep a _ ha5 na5
        have r6 := r5.mv (n6.mv k5)
        have all6 : Nxt ρ1 H1 ρ6 H6 := all5.trans n6'
        refine ⟨fun j kk H => kk = es.length - j ∧ lc2In X.K W σ ρ1 H1 a ρ6 H6 (lcD t1 mt1 me (wipeD vs1 δ2)) es (fun S => lcD2 t mt mi1 t1 mt1 me vs1 (wipeD (own.map (·.2)) δ) (ds.drop (i + 1)) S) Q j H,
          ⟨es.length, by simp, Nat.zero_le _, ρ6, S6, acc, as, all6, Lat.refl, List.prefix_rfl, k6, ha6, r6, by simpa using p2⟩, ?_⟩
        rintro j kk H7 ⟨rfl, hj, ρ7, S7, acc7, as7, n7, l7, pre7, k7, ha7, r7, p7⟩
        by_cases hlt2 : j < es.length
        · have hd2 : es.drop j = es[j] :: es.drop (j + 1) := List.drop_eq_getElem_cons hlt2
          have hx2 : es[j]? = some es[j] := List.getElem?_eq_getElem hlt2
          rw [hd2] at p7
          refine .inr ⟨w6.go j _ _ S7 H7 hx2 l7 k7, lc2In X.K W σ ρ1 H1 a ρ6 H6 (lcD t1 mt1 me (wipeD vs1 δ2)) es (fun S => lcD2 t mt mi1 t1 mt1 me vs1 (wipeD (own.map (·.2)) δ) (ds.drop (i + 1)) S) Q (j + 1), fun H' z => ⟨es.length - (j + 1), by omega, rfl, z⟩, fun x8 H8 y8 => ?_⟩
          obtain ⟨n8, k8, r8⟩ := w6.yld j _ _ S7 H7 x8 H8 hx2 l7 k7 y8
          unfold lcD at p7
          cases hap2 : t1.apply (.d es[j]) (wipeD vs1 δ2) with
          | none => simp only [hap2] at p7; exact p7.elim
          | some δ9 =>
            simp only [hap2] at p7
            have e8 : EnvOk X.K (ρ7.hold a) H8 (wipe σ4 vs1) (wipeD vs1 δ2) := ((e6.wipe vs1).lat l7 pre7 k6).nxt n8 k7
            refine ⟨_, S7, _, .d es[j], δ9, e8, k8, r8, hap2, fun σ9 e9 ap9 => ⟨?_, ?_⟩⟩
            · rw [(ap9.mono hv1).wipe]
              apply List.ext_getElem?
              intro j
              rw [wipe_at, wipe_at]
              by_cases hj : j ∈ vs1
              · rw [if_pos hj, if_pos hj]; cases σ4[j]? <;> rfl
              · rw [if_neg hj, if_neg hj]
            have n8' : Nxt ρ7 H7 ρ7 H8 := ⟨n8.pre, rfl, n8.keep, n8.new⟩
            have na7 : some a ∉ ρ7.cs := (k7.rsv a (List.mem_cons_self ..)).1
            have ha8 : H8 a = some (.lst acc7) := n8.keep a _ ha7 na7
            rw [Res.bind_assoc] at p7
            refine tT.first (W := W0) (good := fun _ _ _ => True) (f := fun _ S => .ok () S) e9 k8 ?_ ?_
            · cases hm : mt1 δ9 S7 with
              | ok b S' => exact fun _ _ _ _ => trivial
              | exc x S' => rw [hm] at p7; exact p7.elim
              | stuck => rw [hm] at p7; exact p7.elim
            intro b ρA HA SA hmA nA eA kA _
            rw [hmA] at p7
            simp only [Res.calm_ok, Res.ok_bind] at p7
            obtain ⟨ρA, rfl, nA'⟩ := nA.unhold
            have haA : HA a = some (.lst acc7) := nA.keep a _ ha8 na7
            have rA := (r7.mv (n8.mv k7)).mv (nA.mv k8)
            have allA : Nxt ρ1 H1 ρA HA := n7.trans (n8'.trans nA')
            have lA : Lat (ρ6.hold a) H6 (ρA.hold a) HA := (l7.nxt n8).nxt nA
            have preA : ρ6.cs <+: ρA.cs := pre7.trans nA.pre
            cases b with
            | false =>
              rw [if_neg Bool.false_ne_true] at p7 ⊢
              exact ⟨hlt2, ρA, SA, acc7, as7, allA, lA, preA, kA, haA, rA, p7⟩
            | true =>
              rw [if_pos rfl] at p7 ⊢
              rw [Res.bind_assoc] at p7
              refine tE.first (W := W0) (good := fun _ _ _ => True) (f := fun _ S => .ok () S) eA kA ?_ ?_
              · cases hmB : me δ9 SA with
                | ok u S' => exact fun _ _ _ _ => trivial
                | exc x S' => rw [hmB] at p7; exact p7.elim
                | stuck => rw [hmB] at p7; exact p7.elim
              intro yB uB ρB HB SB hmB nB eB kB rB _
              rw [hmB] at p7
              simp only [Res.calm_ok, Res.ok_bind] at p7
              obtain ⟨ρB, rfl, nB'⟩ := nB.unhold
              have naA : some a ∉ ρA.cs := (kA.rsv a (List.mem_cons_self ..)).1
              have haB : HB a = some (.lst acc7) := nB.keep a _ haA naA
              cases uB with
              | loc n => exact p7.elim
              | d z =>
                have allB : Nxt ρ1 H1 ρB HB := allA.trans nB'
                simp only [Res.bind_assoc, Res.ok_bind] at p7
                have room : acc7.length < sizeLine := by
                  obtain ⟨ys, Sy, _, q1⟩ := Post.okOf (fun x S => lcD_calm _ _ _ _ _ _ x S) p7
                  obtain ⟨zs, Sz, _, q2⟩ := Post.okOf (fun x S => lcD2_calm _ _ _ _ _ _ _ _ _ _ x S) q1
                  have := finL_le q2
                  simp only [List.length_append, List.length_cons] at this
                  rw [r7.length]; omega
                refine ⟨acc7, haB, room, hlt2, ρB, SB, acc7 ++ [yB], as7 ++ [z], ?_, (lA.nxt nB).put (List.mem_cons_self ..), preA.trans nB.pre, kB.rewrite, upd_same, ?_, ?_⟩
                · exact ⟨allB.pre, allB.rs, fun b o e f => by rw [upd_ne (ne_of_none e ha)]; exact allB.keep b o e f, allB.new⟩
                · exact ((rA.mv (nB.mv kA)).append (.cons rB .nil)).mv (Mv.rewrite (.inl ⟨_, haB⟩))
                · simpa using p7
        · have hj' : j = es.length := by omega
          subst hj'
          rw [List.drop_length] at p7
          refine .inl ⟨w6.stop _ S7 H7 l7 k7, hlt, ρ7, S7, acc7, as7, n7, k7, ha7, r7, ?_⟩
          simpa [lcD] using p7
  · have hi' : i = ds.length := by omega
    subst hi'
    rw [List.drop_length] at p2
    have fa2 : free ρ2 a := ⟨(k2.rsv a (List.mem_cons_self ..)).1, by rw [n2.rs]; exact fa.2⟩
    refine .inl ⟨w.stop _ S2 H2 l2 k2, ?_⟩
    simp only [lcD2, Res.ok_bind, List.append_nil] at p2
    have hz := finL_le p2
    unfold finL at p2
    rw [if_pos hz] at p2
    exact p2 ρ2 H2 n2 k2.unhold _ (Rep.lst (.inl ha2) fa2 (r2.mv Mv.unhold))
theorem mLc2_ok (hv : ∀ i ∈ t.slots, i ∈ own.map (·.2)) (hv1 : ∀ i ∈ t1.slots, i ∈ vs1) {σ : L2.St} {H : Hp} {Q : VK} (h : tE X.K W (mLc2 mi t mt mi1 t1 mt1 me (own.map (·.2)) vs1) σ H Q) :
    tLc2 (tI X.K W mi) (tG X.K t) (tT X.K W0 mt) (tI X.K W0 mi1) (tG X.K t1) (tT X.K W0 mt1) (tE X.K W0 me) (own.map (·.2)) vs1 σ H Q := by
  obtain ⟨ρ, δ, S, e, k, p⟩ := h
  exact tI.first e k p fun J ds ρ1 H1 S1 n1 e1 k1 w p1 => lc2_body (J := J) hv hv1 e1 k1 w p1
theorem pm_lc2 (hc : X.calm = true) (hN : X.N.Nodup) (hi : PMI X W tg iter mi) (ok : BlkOk X.N X.env.scope scope own) (hv : ∀ i ∈ t.slots, i ∈ own.map (·.2)) (hv1 : ∀ i ∈ t1.slots, i ∈ vs1) (hv2 : ∀ i ∈ vs1, i ∈ own.map (·.2))
    (hg : ∀ (s : Shared) (H : Hp) (C : Addr) (cl : List (Str × Addr)) (fp : List Addr), PMG (X.blk s H scope (compEnvC scope cl C X.env) fp) tg t) (ht : ∀ (s : Shared) (H : Hp) (C : Addr) (cl : List (Str × Addr)) (fp : List Addr), PMTs (X.blk s H scope (compEnvC scope cl C X.env) fp) W0 ifs mt)
    (hi1 : ∀ (s : Shared) (H : Hp) (C : Addr) (cl : List (Str × Addr)) (fp : List Addr), PMI (X.blk s H scope (compEnvC scope cl C X.env) fp) W0 tg1 iter1 mi1)
    (hg1 : ∀ (s : Shared) (H : Hp) (C : Addr) (cl : List (Str × Addr)) (fp : List Addr), PMG (X.blk s H scope (compEnvC scope cl C X.env) fp) tg1 t1) (ht1 : ∀ (s : Shared) (H : Hp) (C : Addr) (cl : List (Str × Addr)) (fp : List Addr), PMTs (X.blk s H scope (compEnvC scope cl C X.env) fp) W0 ifs1 mt1)
    (he : ∀ (s : Shared) (H : Hp) (C : Addr) (cl : List (Str × Addr)) (fp : List Addr), PM (X.blk s H scope (compEnvC scope cl C X.env) fp) W0 elt me) (hs : ∀ x, foldedSetIterable iter X.env x = pure x := by intro _; rfl) (hs1 : ∀ env x, foldedSetIterable iter1 env x = pure x := by intro _ _; rfl) :
    PM X W (.ListComp elt [⟨tg, iter, ifs, 0⟩, ⟨tg1, iter1, ifs1, 0⟩] scope pos) (mLc2 mi t mt mi1 t1 mt1 me (own.map (·.2)) vs1) :=
  pimpE (pe_lc2 (wi1 := tI X.K W0 mi1) (g := tG X.K t) (tt := tT X.K W0 mt) (g1 := tG X.K t1) (tt1 := tT X.K W0 mt1) (te := tE X.K W0 me) hc hN hi ok hv2 hg ht hi1 hg1 ht1 he hs hs1) fun _ _ _ h => mLc2_ok hv hv1 h
end
end DL

set_option Elab.async false
set_option linter.all false
set_option maxRecDepth 100000
set_option maxHeartbeats 4000000
/-! DNew3: str, ord, upper, get, signs in texts, strides, calls by keywords -/
namespace DL
open PySem PySem.Spec PyProof.Rows L2
section
variable {X : Cx} {W : WX} {pos p : Pos}
def dStr : List D → Option D
  | [.int i] => if i.natAbs.log2 < 1920 then some (.str (toString i)) else none
  | [.bl b] => some (.str (if b then "True" else "False"))
  | _ => none
theorem cd_str : CallD X (.type "str") dStr := by
  intro pins s σ H xs us Q I r h
  obtain ⟨ρ, S, ds, z, k, rs, g, q⟩ := h
  unfold dStr at g
  split at g
  · obtain ⟨v, rfl, r1⟩ := rs.one
    cases r1.int
    split at g
    · cases g
      exact call_str_int pins s σ H _ us Q I r ⟨_, rfl, by assumption, q _ _ Nxt.refl k (.str _)⟩
    · cases g
  · obtain ⟨v, rfl, r1⟩ := rs.one
    cases r1.bl
    cases g
    obtain ⟨u, rfl, ru⟩ := vals1 r
    cases ru
    exact PySem.P.str_of_bool ⟨.str _, H, I.tok _, ⟨_, rfl⟩, q _ _ Nxt.refl k (.str _)⟩
  · cases g
def dOrd : List D → Option D
  | [.str x] => if x.length = 1 then some (.int (x.cps.getD 0 0 : Nat)) else none
  | _ => none
theorem cd_ord : CallD X (.builtin "ord") dOrd := by
  intro pins s σ H xs us Q I r h
  obtain ⟨ρ, S, ds, z, k, rs, g, q⟩ := h
  unfold dOrd at g
  split at g
  · obtain ⟨v, rfl, r1⟩ := rs.one
    cases r1.str
    split at g
    · cases g
      exact call_ord pins s σ H _ us Q I r ⟨_, rfl, by assumption, q _ _ Nxt.refl k (.int _)⟩
    · cases g
  · cases g
def dInS : D → D → Option D
  | .str i, .str z => (match i with
    | ⟨⟨[c]⟩⟩ => some (.bl (decide (c ∈ z.cps.toList)))
    | _ => none)
  | _, _ => none
theorem od_inS : OpD X (compareOp .In) dInS := by
  intro pins s σ H x y v u Q I rx ry h
  obtain ⟨ρ, S, d, e, z, k, r1, r2, g, q⟩ := h
  unfold dInS at g
  split at g
  · cases r1.str; cases r2.str
    split at g
    · cases g
      exact op_in_sign pins s σ H _ _ v u Q I rx ry ⟨_, _, rfl, rfl, q _ _ Nxt.refl k (.bl _)⟩
    · cases g
  · cases g
def mUpper (m : ME) : ME := fun δ S => (m δ S).bind fun u S' => match u with
  | .d (.str z) => if z.length ≤ 5592405 then .ok (.d (.str (Txt.upper z))) S' else .stuck
  | _ => .stuck
theorem pm_upper {o : Expr} {mo : ME} {apos : Pos} (ho : PM X W o mo) (hbase : attributeBase o "upper" X.env (eval o X.env) = eval o X.env := by rfl) (hline : (apos.endLine == pos.line) = true := by rfl) : PM X W (.Call (.Attribute o "upper" apos) [] [] pos) (mUpper mo) :=
  pimpE (pe_upper ho hbase hline) fun σ H Q ⟨ρ, δ, S, e, k, p⟩ => tE.first e k p fun v u ρ1 H1 S1 _ n1 e1 k1 r1 p1 => by
    cases u with
    | loc n => exact p1.elim
    | d y =>
      cases y with
      | str z =>
        cases r1
        by_cases hz : z.length ≤ 5592405
        · simp only [if_pos hz] at p1
          exact ⟨⟨_, rfl⟩, _, rfl, rfl, hz, p1.here k1 _ (Rep.str _)⟩
        · simp only [if_neg hz] at p1; exact p1.elim
      | _ => exact p1.elim
def mGet2 (mo mk md : ME) : ME := fun δ S => (mo δ S).bind fun o S1 => match o with
  | .d (.dct es) => (mk δ S1).bind fun kx S2 => (md δ S2).bind fun z S3 => match kx with
    | .d kd => (match keyD kd with
      | some k => (match valD es k with
        | some v => .ok (.d v) S3
        | none => .ok z S3)
      | none => .stuck)
    | _ => .stuck
  | _ => .stuck
theorem pm_get2 {o e f : Expr} {mo mk md : ME} {apos : Pos} (hu : X.A.units + 1 < cLine) (ho : PM X W o mo) (he : PM X W e mk) (hf : PM X W f md) (m : M2 X o "get" apos e f pos) : PM X W (.Call (.Attribute o "get" apos) [e, f] [] pos) (mGet2 mo mk md) :=
  pimpE (pe_dget2 hu ho he hf m) fun σ H Q ⟨ρ, δ, S, e, k, p⟩ => tE.first e k p fun v u ρ1 H1 S1 _ n1 e1 k1 r1 p1 => by
    cases u with
    | loc n => exact p1.elim
    | d y =>
      cases y with
      | dct es =>
        cases r1 with | dct h f r =>
        refine ⟨_, rfl, ?_, tE.first e1 k1 p1 fun v2 u2 ρ2 H2 S2 _ n2 e2 k2 r2 p2 => tE.first e2 k2 p2 fun v3 u3 ρ3 H3 S3 _ n3 e3 k3 r3 p3 => ?_⟩
        · exact .inl ⟨_, h⟩
        cases u2 with
        | loc n => exact p3.elim
        | d kd =>
          have n13 := n2.trans n3
          obtain ⟨h3, f3⟩ := n13.rd h f
          have r3' := r.mv (n13.mv k1)
          dsimp only at p3
          cases hk : keyD kd with
          | none => rw [hk] at p3; exact p3.elim
          | some kk =>
            rw [hk] at p3
            dsimp only at p3
            have ek := ((r2.nxt n3 k2).peek k3 (show peek S3 (.d kd) = some kd from rfl)).key hk
            refine ⟨_, .inl ⟨_, kk, h3, ek, rfl⟩, ?_⟩
            rcases r3'.val (k := kk) with ⟨e1', e2'⟩ | ⟨w, d, e1', e2', rw'⟩
            · rw [e1'] at p3
              rw [e2']
              exact p3.here k3 _ r3
            · rw [e1'] at p3
              rw [e2']
              exact p3.here k3 _ rw'
      | _ => exact p1.elim
end
/-! ### strides -/
def pickAt {α : Type} (xs : List α) (lo st : Option Int) : List α := (sliceRange (sliceBounds lo none st xs.length).1 (sliceBounds lo none st xs.length).2.1 (sliceBounds lo none st xs.length).2.2).filterMap (xs[·]?)
theorem pickAt_mem {α : Type} {xs : List α} {lo st : Option Int} {x : α} (h : x ∈ pickAt xs lo st) : x ∈ xs := by
  unfold pickAt at h
  obtain ⟨i, _, hi⟩ := List.mem_filterMap.mp h
  exact List.mem_of_getElem? hi
theorem vals_at2 {vs : List V} {us : List Value} (r : Vals vs us) : ∀ i : Nat, (vs[i]? = none ∧ us[i]? = none) ∨ ∃ v u, vs[i]? = some v ∧ us[i]? = some u ∧ RelV v u := by
  induction r with
  | nil => intro i; exact .inl ⟨rfl, rfl⟩
  | cons h t ih =>
    intro i
    cases i with
    | zero => exact .inr ⟨_, _, rfl, rfl, h⟩
    | succ i => simpa using ih i
theorem vals_pick {vs : List V} {us : List Value} (r : Vals vs us) : ∀ is : List Nat, Vals (is.filterMap (vs[·]?)) (is.filterMap (us[·]?))
  | [] => .nil
  | i :: is => by
    rcases vals_at2 r i with ⟨a, b⟩ | ⟨v, u, a, b, c⟩
    · rw [List.filterMap_cons, List.filterMap_cons, a, b]; exact vals_pick r is
    · rw [List.filterMap_cons, List.filterMap_cons, a, b]; exact .cons c (vals_pick r is)
theorem RepL.pick {K : Fg} {ok : Addr → Prop} {H : Hp} {vs : List V} {ds : List D} (r : RepL K ok H vs ds) : ∀ is : List Nat, RepL K ok H (is.filterMap (vs[·]?)) (is.filterMap (ds[·]?))
  | [] => .nil
  | i :: is => by
    cases e : ds[i]? with
    | none =>
      have : vs[i]? = none := by
        rw [List.getElem?_eq_none_iff] at e ⊢
        rw [r.length]; exact e
      rw [List.filterMap_cons, List.filterMap_cons, e, this]; exact r.pick is
    | some d =>
      obtain ⟨v, h1, h2⟩ := r.get e
      rw [List.filterMap_cons, List.filterMap_cons, e, h1]; exact .cons h2 (r.pick is)
theorem pickAt_len {α : Type} (xs : List α) (lo : Option Int) (st : Int) (h : 0 < st) : (pickAt xs lo (some st)).length ≤ xs.length := by
  unfold pickAt
  refine Nat.le_trans (List.length_filterMap_le _ _) (sliceRange_length_le _ _ _ _ (fun _ => ⟨?_, ?_⟩) fun z => absurd (show (sliceBounds lo none (some st) xs.length).2.2 > 0 from h) z)
  · unfold sliceBounds
    have h' : (some st).getD 1 > 0 := h
    simp only [h', if_true]
    cases lo with
    | none => simp
    | some i => dsimp only; omega
  · unfold sliceBounds
    have h' : (some st).getD 1 > 0 := h
    simp only [h', if_true]
    exact Int.le_refl _
section
variable {X : Cx} {W : WX} {pos p2 : Pos} {a lo st : Expr} {ma : ME} {ml ms : MO}
def tStride (K : Fg) (te : TE) (tl ts : TO) : TE := fun σ H Q => te σ H fun x H1 => tl σ H1 fun l H2 => ts σ H2 fun o H3 => ∃ a xs i, x = .ref a ∧ SqL K H3 a xs ∧ o = some i ∧ 0 < i ∧ ∀ p, H3 p = none → Q (.ref p) (upd H3 p (.lst (pickAt xs l (some i))))
theorem pe_stride {te : TE} {tl ts : TO} (he : PE X a te) (hl : PO X (some lo) tl) (hs : PO X (some st) ts) : PE X (.Subscript a (.Slice (some lo) none (some st) p2) pos) (tStride X.K te tl ts) := by
  refine ⟨fun pins s σ H Q I h => ?_⟩
  refine Subscript_ (thn (he.run pins s σ H _ I h) fun v s1 ⟨x, H1, I1, r1, q1⟩ => ?_)
  refine wpAny_Slice (thn (hl.run pins s1 σ H1 _ I1 q1) fun vl s2 ⟨l, H2, I2, pl, q2⟩ => ?_)
  rw [evalPart_none]
  refine wpAny_pure (thn (hs.run pins s2 σ H2 _ I2 q2) fun vs s3 ⟨o, H3, I3, ps, q3⟩ => ?_)
  obtain ⟨b, xs, i, rfl, hx, rfl, hi, q⟩ := q3
  cases r1
  have I4 : Inv X pins σ H3 { s3 with heap := s3.heap.push { cls := .type "slice", data := .fields #[vl, .none, vs] } } := I3.kept (t' := s3.toks) fun b ob q => Heap.get?_push_of_some _ q
  obtain ⟨its, rv, ht, hz⟩ := I4.list hx
  have l1 := rv.length
  show wpAny (model X.prog X.w) X.A (subscriptTail a (.Slice (some lo) none (some st) p2) (.ref b) (.ref s3.heap.objs.size)) (EP X pins σ Q) X.xe _
  refine tail_any (T := "list") (ops := [.ref b, .ref s3.heap.objs.size]) ht.isList.typeIs slot_list_getitem.lookup ?_ (by with_unfolding_all rfl)
  refine wpAny_getItem_list_slice ht.isList (Heap.IsSliceOf.new ..) pl .none ps (by intro z; cases z; omega) ?_ (by rw [List.size_toArray]; omega)
  have e : slicePick its.toArray l none (some i) = (pickAt its l (some i)).toArray := by unfold slicePick pickAt; rw [List.size_toArray]; simp
  rw [e]
  have hn := I4.hok.fresh (Nat.le_refl _)
  refine ⟨.ref _, _, I4.laid (t' := s3.toks) (o := .lst (pickAt xs l (some i))) (fun b ob q => Heap.get?_push_of_some _ q) (Nat.le_refl _) ?_, rfl, q _ hn⟩
  refine ⟨Nat.le_trans (pickAt_len xs l i hi) hz, _, 0, ?_, Heap.get?_push_size _ rfl⟩
  unfold pickAt
  rw [l1]
  exact vals_pick rv _
def strideM (C : Bool) (u : U) (l o : Option Int) (S : Store) : Res U := match peek S u, o with
  | some (.lst ds), some i => if 0 < i then (if C then .ok (.loc S.length) (S ++ [.lst (pickAt ds l (some i))]) else .ok (.d (.lst (pickAt ds l (some i)))) S) else .stuck
  | _, _ => .stuck
def mStride (C : Bool) (ma : ME) (ml ms : MO) : ME := fun δ S => (ma δ S).bind fun u S1 => (ml δ S1).bind fun l S2 => (ms δ S2).bind fun o S3 => strideM C u l o S3
theorem pm_stride {C : Bool} (ha : PM X W a ma) (hl : PMO X W (some lo) ml) (hs : PMO X W (some st) ms) : PM X W (.Subscript a (.Slice (some lo) none (some st) p2) pos) (mStride C ma ml ms) :=
  pimpE (pe_stride ha hl hs) fun σ H Q ⟨ρ, δ, S, e, k, p⟩ => tE.first e k p fun v u ρ1 H1 S1 _ n1 e1 k1 r1 p1 => tO.first e1 k1 p1 fun l ρ2 H2 S2 _ n2 e2 k2 p2 => tO.first e2 k2 p2 fun o ρ3 H3 S3 _ n3 e3 k3 p3 => by
    have r3 := (r1.nxt n2 k1).nxt n3 k2
    unfold strideM at p3
    split at p3
    · rename_i ds i hp ho
      by_cases hi : 0 < i
      case neg => rw [if_neg hi] at p3; exact p3.elim
      rw [if_pos hi] at p3
      obtain ⟨b, xs, rfl, hx, rl⟩ := (r3.peek k3 hp).lst
      refine ⟨b, xs, i, rfl, .inl hx, rfl, hi, fun q hq => ?_⟩
      have rp : RepL X.K (free ρ3) H3 (pickAt xs l (some i)) (pickAt ds l (some i)) := by unfold pickAt; rw [rl.length]; exact rl.pick _
      cases C with
      | false =>
        rw [if_neg Bool.false_ne_true] at p3
        have nx : Nxt ρ3 H3 ρ3 (upd H3 q (.lst (pickAt xs l (some i)))) := Nxt.laid hq
        exact p3 ρ3 _ nx (k3.laid hq) _ (Rep.lst (.inl upd_same) (k3.notNew hq) (rp.mv (nx.mv k3)))
      | true =>
        rw [if_pos rfl] at p3
        have nx : Nxt ρ3 H3 (ρ3.add q) (upd H3 q (.lst (pickAt xs l (some i)))) := Nxt.cell hq
        refine p3 (ρ3.add q) _ nx (k3.cell hq ⟨_, upd_same, rp.mv (nx.mv k3)⟩) _ ⟨q, rfl, ?_⟩
        show (ρ3.cs ++ [some q])[S3.length]? = _
        rw [← k3.len, List.getElem?_append_right (Nat.le_refl _)]; simp
    · exact p3.elim
end
/-! ### calls by keywords -/
def flp {α : Type} (p : Bool) (l : List α) : List α := if p then l.reverse else l
def KB (fd : FuncData) (ps : List Str) (p : Bool) : Prop := ∀ (s : Shared) (ws : List Value), ws.length = ps.length → BindsTo s fd ⟨[], (flp p ps).zip ws⟩ (ps.zip (flp p ws))
def HasK (P : Program) (w : World) (K : Fg) (mg : Str → Option Value) (base : Heap) (k : Nat) (x : Str) (ps : List Str) (p : Bool) (m : Fn) : Prop :=
  ∃ f fd, FnG P w K mg base k f fd ps m ∧ KB fd ps p ∧ PySem.W.keepIn K (.ref f) = true ∧ mg x = some (.ref f)
theorem HasK.mono {P : Program} {w : World} {K : Fg} {mg : Str → Option Value} {base : Heap} {j k : Nat} {x : Str} {ps : List Str} {p : Bool} {m : Fn} (h : HasK P w K mg base j x ps p m) (le : j ≤ k) : HasK P w K mg base k x ps p m := by
  obtain ⟨f, fd, a, b, c, d⟩ := h
  exact ⟨f, fd, a.mono le, b, c, d⟩
theorem Fun_bindsK {K : Fg} {x qual : Str} {st : Stmt} {f : Addr} {fd : FuncData} {ps : List Str} {p : Bool} (F : Fun K x qual st f fd)
    (h : ∀ (kV doc pm : Value) (an : Option Addr) (cdv ct : Value) (us : List Value), us.length = ps.length → bindArgs (PySem.W.fnOf x qual (defArgs st) (defBody st) (defScope st) .none kV doc pm an cdv ct) ⟨[], (flp p ps).zip us⟩ = pure (ps.zip (flp p us))) : KB fd ps p := by
  obtain ⟨oc, od, kV, doc, pm, an, cdv, ct, osl, rfl, lk, hcd⟩ := F.ex
  exact fun s ws hl => .of_eq (h _ _ _ _ _ _ ws hl)
def PMK (X : Cx) (W : WX) (kws : List Keyword) (m : MA) : Prop := PK X kws (tA X.K W m)
section
variable {X : Cx} {W : WX} {pos p kpos : Pos} {e : Expr} {me : ME} {mas : MA} {kws : List Keyword} {nm : Option Str}
theorem pmk_nil : PMK X W [] mNil := ⟨fun pos pins s σ H Q I ⟨ρ, δ, S, e, k, p⟩ => pk_nil.run pos pins s σ H Q I (p.here k _ .nil)⟩
theorem pmk_cons (ha : PM X W e me) (hr : PMK X W kws mas) : PMK X W (⟨nm, e, kpos⟩ :: kws) (mCons me mas) :=
  ⟨fun pos pins s σ H Q I ⟨ρ, δ, S, en, k, p⟩ => (pk_cons (nm := nm) (kpos := kpos) ha hr).run pos pins s σ H Q I (tE.first en k p fun v u ρ1 H1 S1 _ n1 e1 k1 r1 p1 => tA.first e1 k1 p1 fun vs us ρ2 H2 S2 _ n2 e2 k2 r2 p2 => p2.here k2 _ (.cons (r1.nxt n2 k1) r2))⟩
def mFnK (b : Bool) (m : Fn) (mas : MA) : ME := fun δ S => (mas δ S).bind fun us S1 => m (flp b us) S1
theorem RepUs.rev {K : Fg} {ρ : Ad} {H : Hp} : ∀ {vs : List V} {us : List U}, RepUs K ρ H vs us → RepUs K ρ H vs.reverse us.reverse
  | _, _, .nil => .nil
  | _, _, .cons h t => by rw [List.reverse_cons, List.reverse_cons]; exact RepUs.append (.cons h .nil) t.rev
theorem RepUs.flp {K : Fg} {ρ : Ad} {H : Hp} {vs : List V} {us : List U} (b : Bool) (r : RepUs K ρ H vs us) : RepUs K ρ H (flp b vs) (flp b us) := by
  cases b with
  | false => exact r
  | true => exact r.rev
theorem flp_len {α : Type} (b : Bool) (l : List α) : (flp b l).length = l.length := by cases b <;> simp [flp]
theorem vals_flp {vs : List V} {us : List Value} (b : Bool) (r : Vals vs us) : Vals (flp b vs) (flp b us) := by
  cases b with
  | false => exact r
  | true => exact r.reverse
theorem pm_callKw {k : Nat} {x : Str} {ps : List Str} {b : Bool} {m : Fn} (h : HasK X.prog X.w X.K X.mg X.base k x ps b m) (hr : Room k X.A) (hgd : X.A.guards = some []) (tk : Takes X W) (hg : Gl X x) (ha : PMK X W kws mas)
    (hall : (backToKw pos (keywordEach kws X.env)).all (·.1.isSome) = true := by rfl) (hks : (backToKw pos (keywordEach kws X.env)).filterMap (·.1) = flp b ps := by rfl) (hdb : (x == ("__debug__" : Str)) = false := by decide)
    (hpl : ((backTo pos (starEach [] X.env)).any (·.1) || (backToKw pos (keywordEach kws X.env)).any (·.1.isNone)) = false := by rfl) : PM X W (.Call (.Name x p) [] kws pos) (mFnK b m mas) := by
  obtain ⟨f, fd, F, hb, hk, hm⟩ := h
  refine ⟨fun pins s σ H Q I ⟨ρ, δ, S, en, k0, p0⟩ => wpAny_Call_Name_kw (ld_glob I hg hm ?_ hdb)⟩
  have T : tA X.K W mas σ H fun vs H1 => spM X.K m (flp b vs) H1 Q (WE W σ) := tA.first en k0 p0 fun vs us ρ1 H1 S1 _ n1 e1 k1 r1 p1 => spM_of k1 (r1.flp b) p1
  refine PySem.W.callWith_KW0 (h₀ := X.base) I.ok.mod.kin hk hall (thn (ha.run pos pins s σ H _ I T) fun ws s1 ⟨zs, H1, I1, rz, q⟩ => ⟨I1.kIn, ?_⟩) hpl
  rw [hks]
  have r2 := vals_flp b rz
  have hl : (flp b ws).length = ps.length := by rw [← r2.length]; exact F.vlen q
  rw [flp_len] at hl
  refine wpAny_call (codeAny_mono (F.run X.A X.stack s1 H1 ⟨[], (flp b ps).zip ws⟩ (flp b ws) (flp b zs) Q (WE W σ) hr hgd I1.env0 (hb s1 ws hl) r2 q) fun r s' hq => ?_)
  cases r with
  | error e => exact passAt tk σ pins H1 s1 e s' I1 hq
  | ok fl =>
    cases fl with
    | ret u => exact I1.after hq
    | next => exact hq.elim
    | brk => exact hq.elim
    | cont => exact hq.elim
end
end DL
namespace DL
open PySem PySem.Spec PyProof.Rows L2
def ConstS (mg : Str → Option Value) (x z : Str) : Prop := ∃ t, mg x = some (.str z t)
def ConstI (mg : Str → Option Value) (x : Str) (i : Int) : Prop := ∃ t, mg x = some (.int i t)
theorem pm_cS {X : Cx} {W : WX} {pos : Pos} {x z : Str} (h : ConstS X.mg x z) (hg : Gl X x) (hd : (x == ("__debug__" : Str)) = false := by decide) : PM X W (.Name x pos) (mC (.str z)) := by
  obtain ⟨t, h⟩ := h
  exact pm_globC (v := .str z) hg h ⟨t, rfl⟩ (fun _ _ => .str z) hd
theorem pm_cI {X : Cx} {W : WX} {pos : Pos} {x : Str} {i : Int} (h : ConstI X.mg x i) (hg : Gl X x) (hd : (x == ("__debug__" : Str)) = false := by decide) : PM X W (.Name x pos) (mC (.int i)) := by
  obtain ⟨t, h⟩ := h
  exact pm_globC (v := .int i) hg h ⟨t, rfl⟩ (fun _ _ => .int i) hd
end DL

set_option Elab.async false
set_option linter.all false
set_option maxRecDepth 100000
set_option maxHeartbeats 4000000
/-! DTab: the module's dicts, read off the written part -/
namespace DL
open PySem PySem.Spec PyProof.Rows L2
def entL : List DictEntry → Option (List (Str × Value))
  | [] => some []
  | ⟨_, .str z _, u⟩ :: r => (match entL r with
    | some l => some ((z, u) :: l)
    | none => none)
  | _ => none
inductive TabRel (K : Fg) : List (Str × Value) → List (Str × D) → Prop
  | nil : TabRel K [] []
  | cons {z : Str} {u : Value} {v : V} {e : D} {r : List (Str × Value)} {t : List (Str × D)} : RelV v u → (∀ ok H, Rep K ok H v e) → TabRel K r t → TabRel K ((z, u) :: r) ((z, e) :: t)
theorem entL_find {K : Fg} (z : Str) : ∀ {es : List DictEntry} {l : List (Str × Value)} {tab : List (Str × D)}, entL es = some l → TabRel K l tab → es.any (·.refKey) = false ∧ match lookT tab z with
    | some e => ∃ en v, es.find? (·.key.isStr z) = some en ∧ RelV v en.val ∧ ∀ ok H, Rep K ok H v e
    | none => es.find? (·.key.isStr z) = none
  | [], l, tab, h, r => by
    cases h; cases r
    exact ⟨rfl, rfl⟩
  | ⟨hs, .str y t, u⟩ :: es, l, tab, h, r => by
    have h' : (match entL es with | some l => some ((y, u) :: l) | none => none) = some l := h
    cases q : entL es with
    | none => rw [q] at h'; cases h'
    | some l' =>
      rw [q] at h'; cases h'
      cases r with
      | cons rv rp rr =>
        obtain ⟨a, b⟩ := entL_find z q rr
        refine ⟨by rw [List.any_cons, a]; rfl, ?_⟩
        by_cases hy : y = z
        · subst hy
          have e1 : ∀ e tb, lookT ((y, e) :: tb) y = some e := fun e tb => by unfold lookT; rw [List.find?_cons_of_pos (by simp)]; rfl
          rw [e1]
          exact ⟨_, _, List.find?_cons_of_pos (show (Value.str y t).isStr y = true by show (y == y) = true; exact beq_self_eq_true y), rv, rp⟩
        · have e1 : ∀ e tb, lookT ((y, e) :: tb) z = lookT tb z := fun e tb => by unfold lookT; rw [List.find?_cons_of_neg (by simpa using hy)]
          have e2 : (⟨hs, .str y t, u⟩ :: es : List DictEntry).find? (·.key.isStr z) = es.find? (·.key.isStr z) := List.find?_cons_of_neg (by show ¬ (y == z) = true; simpa using hy)
          rw [e1, e2]
          exact b
  | ⟨_, .none, _⟩ :: _, _, _, h, _ => by cases h
  | ⟨_, .bool _, _⟩ :: _, _, _, h, _ => by cases h
  | ⟨_, .int _ _, _⟩ :: _, _, _, h, _ => by cases h
  | ⟨_, .ref _, _⟩ :: _, _, _, h, _ => by cases h
  | ⟨_, .float _ _, _⟩ :: _, _, _, h, _ => by cases h
  | ⟨_, .bytes _ _, _⟩ :: _, _, _, h, _ => by cases h
  | ⟨_, .type _, _⟩ :: _, _, _, h, _ => by cases h
  | ⟨_, .builtin _, _⟩ :: _, _, _, h, _ => by cases h
  | ⟨_, .notImplemented, _⟩ :: _, _, _, h, _ => by cases h
theorem ktab_of {K : Fg} {w : World} {mg : Str → Option Value} {x : Str} {d : Addr} {es : Array DictEntry} {n : Nat} {l : List (Str × Value)} {tab : List (Str × D)} (hl : K.lookup d = some ⟨.type "dict", none, .dict es n, #[]⟩) (hk : PySem.W.KeysLit w.params es.toList) (lo : (d == sysModules) = false) (hm : mg x = some (.ref d))
    (he : entL es.toList = some l) (hr : TabRel K l tab) : KTab K w mg x tab := by
  refine ⟨d, es, n, ⟨hl, hk, lo⟩, hm, fun z => ?_⟩
  obtain ⟨a, b⟩ := entL_find z he hr
  have ns : PySem.W.nsIn K d z = match es.toList.find? (·.key.isStr z) with
      | some e => some (some e.val)
      | none => if es.toList.any (·.refKey) then none else some none := by
    unfold PySem.W.nsIn; rw [hl]; rfl
  cases q : lookT tab z with
  | none =>
    rw [q] at b
    show PySem.W.nsIn K d z = some none
    rw [ns, b, a]; rfl
  | some e =>
    rw [q] at b
    obtain ⟨en, v, h1, h2, h3⟩ := b
    exact ⟨en.val, v, by rw [ns, h1], h2, h3⟩
/-- a tuple of the written part -/
theorem rep_kt {K : Fg} {p : Addr} {oc : Value} {od : Option Addr} {its : Array Value} {n : Nat} {sl : Array (Option Value)} {xs : List V} {ds : List D} (h : K.lookup p = some ⟨.type "tuple", od, .seq its n, sl⟩) (hv : Vals xs its.toList) (hz : its.size ≤ sizeLine) (r : ∀ ok H, RepL K ok H xs ds) (ok : Addr → Prop) (H : Hp) : Rep K ok H (.ref p) (.tup ds) :=
  .tup (.inr ⟨_, its, n, h, rfl, rfl, hz, hv⟩) (r ok H)
end DL

set_option Elab.async false
set_option linter.all false
set_option maxRecDepth 100000
set_option maxHeartbeats 4000000
/-! printed by gen.py: the defs' meanings and that they have them -/
namespace W
open PySem PySem.Spec PyProof.Rows L2 DL
def top (i : Nat) : Stmt := PySem.Challenge.pw_blameplaces_k01_kinds_and_fits.main.body.getD i (.Pass ⟨0, 0, 0, 0⟩)
section
variable {P : Program} {w : World} {K : Fg} {mg : Str → Option Value} {base : Heap} {k : Nat}
def tab_SHAPES : List (Str × D) := [("not", .tup [.fn "is_expression"]), ("neg", .tup [.fn "is_expression"]), ("+", .tup [.fn "is_expression", .fn "is_expression"]), ("-", .tup [.fn "is_expression", .fn "is_expression"]), ("*", .tup [.fn "is_expression", .fn "is_expression"]), ("div", .tup [.fn "is_expression", .fn "is_expression"]), ("mod", .tup [.fn "is_expression", .fn "is_expression"]), ("least", .tup [.fn "is_expression", .fn "is_expression"]), ("most", .tup [.fn "is_expression", .fn "is_expression"]), ("=", .tup [.fn "is_expression", .fn "is_expression"]), ("<", .tup [.fn "is_expression", .fn "is_expression"]), ("<=", .tup [.fn "is_expression", .fn "is_expression"]), ("and", .tup [.fn "is_expression", .fn "is_expression"]), ("or", .tup [.fn "is_expression", .fn "is_expression"]), ("if", .tup [.fn "is_expression", .fn "is_expression", .fn "is_expression"])]
def tab_ROW_SHAPES : List (Str × D) := [("set", .tup [.fn "is_name", .fn "is_expression"]), ("if", .tup [.fn "is_expression"]), ("else", .tup []), ("while", .tup [.fn "is_expression"]), ("end", .tup []), ("call", .tup [.fn "is_name", .fn "is_name", .fn "are_expressions"]), ("return", .tup [.fn "is_expression"])]
/-! ### is_integer -/
abbrev s_is_integer : Stmt := top 3
def b_is_integer : MS :=
  (mRet (mAndV (mIsi .int (mVar 0)) (mNotV (mIsi .bool (mVar 0)))))
def f_is_integer : Fn := callM 1 1 (b_is_integer)
theorem sc_is_integer : FnScope ["thing"] ["thing"] (defScope s_is_integer) := ⟨rfl, rfl, rfl, by decide +kernel, rfl, by decide +kernel, by decide +kernel⟩
theorem fn_is_integer {f : Addr} {fd : FuncData} (F : Fun K "is_integer" "is_integer" s_is_integer f fd) (z_isinstance : mg "isinstance" = none) (z_int : mg "int" = none) (z_bool : mg "bool" = none) :
    FnG P w K mg base (k + 1) f fd ["thing"] (f_is_integer) := by
  refine fnG_of F sc_is_integer (fun cdv A outer s H E hr hg => ?_)
  have sc := sc_is_integer
  have u1 := hu_of hr
  have u64 := hr.units
  have uR := u100 hr
  exact (pmss_one (pms_ret (pm_and (pm_isi .int rfl z_isinstance rfl z_int (by decide +kernel) (pm_var (pv 0))) (pm_one (pm_not (pm_isi .bool rfl z_isinstance rfl z_bool (by decide +kernel) (pm_var (pv 0))))))))
theorem ok_is_integer {f : Addr} {fd : FuncData} (F : Fun K "is_integer" "is_integer" s_is_integer f fd) (bF : Binds K fd ["thing"] []) (mF : mg "is_integer" = some (.ref f)) (z_isinstance : mg "isinstance" = none) (z_int : mg "int" = none) (z_bool : mg "bool" = none) :
    Has P w K mg base (k + 1) "is_integer" ["thing"] (f_is_integer) := ⟨f, fd, fn_is_integer F z_isinstance z_int z_bool, bF, F.kp, mF⟩

/-! ### is_number -/
abbrev s_is_number : Stmt := top 4
def b_is_number (g_is_integer : Fn) : MS :=
  (mRet (mAndV (mFn g_is_integer (mCons (mVar 0) mNil)) (m2 dGe (mVar 0) (mC (.int 0)))))
def f_is_number (g_is_integer : Fn) : Fn := callM 1 1 (b_is_number g_is_integer)
theorem sc_is_number : FnScope ["thing"] ["thing"] (defScope s_is_number) := ⟨rfl, rfl, rfl, by decide +kernel, rfl, by decide +kernel, by decide +kernel⟩
theorem fn_is_number {f : Addr} {fd : FuncData} {g_is_integer : Fn} (F : Fun K "is_number" "is_number" s_is_number f fd)
    (h_is_integer : Has P w K mg base k "is_integer" ["thing"] g_is_integer) :
    FnG P w K mg base (k + 1) f fd ["thing"] (f_is_number g_is_integer) := by
  refine fnG_of F sc_is_number (fun cdv A outer s H E hr hg => ?_)
  have sc := sc_is_number
  have u1 := hu_of hr
  have u64 := hr.units
  have uR := u100 hr
  exact (pmss_one (pms_ret (pm_and (pm_callH h_is_integer hr hg (takes_of rfl rfl rfl rfl) rfl (pma_cons (pm_var (pv 0)) pma_nil)) (pm_one (pm_cmp od_ge (pm_var (pv 0)) pm_int (nomark _))))))
theorem ok_is_number {f : Addr} {fd : FuncData} {g_is_integer : Fn} (F : Fun K "is_number" "is_number" s_is_number f fd) (bF : Binds K fd ["thing"] []) (mF : mg "is_number" = some (.ref f))
    (h_is_integer : Has P w K mg base k "is_integer" ["thing"] g_is_integer) :
    Has P w K mg base (k + 1) "is_number" ["thing"] (f_is_number g_is_integer) := ⟨f, fd, fn_is_number F h_is_integer, bF, F.kp, mF⟩

/-! ### is_name -/
abbrev s_is_name : Stmt := top 5
def b_is_name : MS :=
  (mSeq (mIfS (mOrT (mNotT (mTru (mIsi .str (mVar 0)))) (mNotT (mTest (mChain dLe dLe (mC (.int 1)) (mCall dLen (mCons (mVar 0) mNil)) (mC (.int 8)))))) (mRet (mC (.bl false))) mSkip)
    (mRet (mCall dAll (mCons (mLc (mStrI (mVar 0)) (.nm 1) mYes (m2 dInS (mVar 1) (mC (.str "abcdefghijklmnopqrstuvwxyz"))) [1]) mNil))))
def f_is_name : Fn := callM 1 2 (b_is_name)
theorem sc_is_name : FnScope ["thing", "char"] ["thing"] (defScope s_is_name) := ⟨rfl, rfl, rfl, by decide +kernel, rfl, by decide +kernel, by decide +kernel⟩
theorem fn_is_name {f : Addr} {fd : FuncData} (F : Fun K "is_name" "is_name" s_is_name f fd) (c_LONGEST_NAME : ConstI mg "LONGEST_NAME" 8) (c_LETTERS : ConstS mg "LETTERS" "abcdefghijklmnopqrstuvwxyz") (z_isinstance : mg "isinstance" = none) (z_str : mg "str" = none) (z_len : mg "len" = none) (z_all : mg "all" = none) :
    FnG P w K mg base (k + 1) f fd ["thing"] (f_is_name) := by
  refine fnG_of F sc_is_name (fun cdv A outer s H E hr hg => ?_)
  have sc := sc_is_name
  have u1 := hu_of hr
  have u64 := hr.units
  have uR := u100 hr
  exact (pmss_cons (pms_if (pmt_of (pmw_or (pmt_not (pmt_tru (pm_isi .str rfl z_isinstance rfl z_str (by decide +kernel) (pm_var (pv 0))))) (pmw_or1 (pmt_not (pmt_chain od_le od_le pm_int (pm_callB cd_len rfl z_len (by decide +kernel) (pma_cons (pm_var (pv 0)) pma_nil)) (pm_cI c_LONGEST_NAME rfl)))))) (pmss_one (pms_ret pm_bl)) pmss_nil)
    (pmss_one (pms_ret (pm_callB (cd_all rfl) rfl z_all (by decide +kernel) (pma_cons (pm_lc rfl sc.nd (pmi_str (pm_var (pv 0))) (own := [("char", 1)]) (blk_of rfl (by kernel_rfl)) (by decide) (fun _ _ _ _ _ => (pmg_name sc.nd rfl (.inl rfl))) (fun _ _ _ _ _ => pmts_nil) (fun _ _ _ _ _ => (pm_cmp od_inS (pm_var (pv 1)) (pm_cS c_LETTERS rfl) (by with_unfolding_all rfl)))) pma_nil)))))
theorem ok_is_name {f : Addr} {fd : FuncData} (F : Fun K "is_name" "is_name" s_is_name f fd) (bF : Binds K fd ["thing"] []) (mF : mg "is_name" = some (.ref f)) (c_LONGEST_NAME : ConstI mg "LONGEST_NAME" 8) (c_LETTERS : ConstS mg "LETTERS" "abcdefghijklmnopqrstuvwxyz") (z_isinstance : mg "isinstance" = none) (z_str : mg "str" = none) (z_len : mg "len" = none) (z_all : mg "all" = none) :
    Has P w K mg base (k + 1) "is_name" ["thing"] (f_is_name) := ⟨f, fd, fn_is_name F c_LONGEST_NAME c_LETTERS z_isinstance z_str z_len z_all, bF, F.kp, mF⟩

/-! ### is_tuple_with -/
abbrev s_is_tuple_with : Stmt := top 6
def b_is_tuple_with (tT : Str → Option Fn) : MS :=
  (mSeq (mIfS (mOrT (mNotT (mTru (mIsi .tup (mVar 0)))) (mTest (m2 dNe (mCall dLen (mCons (mVar 0) mNil)) (mCall dLen (mCons (mVar 1) mNil))))) (mRet (mC (.bl false))) mSkip)
    (mRet (mCall dAll (mCons (mLc (mZipI (mVar 1) (mVar 0)) (.tp [2, 3]) mYes (mCallV 2 tT (mCons (mVar 3) mNil)) [2, 3]) mNil))))
def f_is_tuple_with (tT : Str → Option Fn) : Fn := callM 2 4 (b_is_tuple_with tT)
theorem sc_is_tuple_with : FnScope ["thing", "checks", "check", "part"] ["thing", "checks"] (defScope s_is_tuple_with) := ⟨rfl, rfl, rfl, by decide +kernel, rfl, by decide +kernel, by decide +kernel⟩
theorem fn_is_tuple_with {f : Addr} {fd : FuncData} {tT : Str → Option Fn} (F : Fun K "is_tuple_with" "is_tuple_with" s_is_tuple_with f fd)
    (hT : ∀ y m, tT y = some m → ∃ ps, Has P w K mg base k y ps m) (z_isinstance : mg "isinstance" = none) (z_tuple : mg "tuple" = none) (z_len : mg "len" = none) (z_all : mg "all" = none) (z_zip : mg "zip" = none) :
    FnG P w K mg base (k + 1) f fd ["thing", "checks"] (f_is_tuple_with tT) := by
  refine fnG_of F sc_is_tuple_with (fun cdv A outer s H E hr hg => ?_)
  have sc := sc_is_tuple_with
  have u1 := hu_of hr
  have u64 := hr.units
  have uR := u100 hr
  exact (pmss_cons (pms_if (pmt_of (pmw_or (pmt_not (pmt_tru (pm_isi .tup rfl z_isinstance rfl z_tuple (by decide +kernel) (pm_var (pv 0))))) (pmw_or1 (pmt_cmp (od_ne u64) (pm_callB cd_len rfl z_len (by decide +kernel) (pma_cons (pm_var (pv 0)) pma_nil)) (pm_callB cd_len rfl z_len (by decide +kernel) (pma_cons (pm_var (pv 1)) pma_nil)) (nomark _))))) (pmss_one (pms_ret pm_bl)) pmss_nil)
    (pmss_one (pms_ret (pm_callB (cd_all rfl) rfl z_all (by decide +kernel) (pma_cons (pm_lc rfl sc.nd (pmi_zip rfl z_zip (pm_var (pv 1)) (pm_var (pv 0))) (own := [("check", 2), ("part", 3)]) (blk_of rfl (by kernel_rfl)) (by decide) (fun _ _ _ _ _ => (pmg_tup rfl (pmgs_cons sc.nd (i := 2) rfl (.inl rfl) (pmgs_cons sc.nd (i := 3) rfl (.inl rfl) pmgs_nil)))) (fun _ _ _ _ _ => pmts_nil) (fun _ _ _ _ _ => (pm_callV (i := 2) hT hr hg takes0 rfl (by first | exact .inl rfl | exact .inr (.inl rfl) | exact .inr (.inr rfl)) (pma_cons (pm_var (pv 3)) pma_nil)))) pma_nil)))))
theorem ok_is_tuple_with {f : Addr} {fd : FuncData} {tT : Str → Option Fn} (F : Fun K "is_tuple_with" "is_tuple_with" s_is_tuple_with f fd) (bF : Binds K fd ["thing", "checks"] []) (mF : mg "is_tuple_with" = some (.ref f))
    (hT : ∀ y m, tT y = some m → ∃ ps, Has P w K mg base k y ps m) (z_isinstance : mg "isinstance" = none) (z_tuple : mg "tuple" = none) (z_len : mg "len" = none) (z_all : mg "all" = none) (z_zip : mg "zip" = none) :
    Has P w K mg base (k + 1) "is_tuple_with" ["thing", "checks"] (f_is_tuple_with tT) := ⟨f, fd, fn_is_tuple_with F hT z_isinstance z_tuple z_len z_all z_zip, bF, F.kp, mF⟩

/-! ### is_tuple_of -/
abbrev s_is_tuple_of : Stmt := top 7
def b_is_tuple_of (tT : Str → Option Fn) : MS :=
  (mRet (mAndV (mIsi .tup (mVar 0)) (mCall dAll (mCons (mLc (mSeqI (mVar 0)) (.nm 2) mYes (mCallV 1 tT (mCons (mVar 2) mNil)) [2]) mNil))))
def f_is_tuple_of (tT : Str → Option Fn) : Fn := callM 2 3 (b_is_tuple_of tT)
theorem sc_is_tuple_of : FnScope ["thing", "check", "part"] ["thing", "check"] (defScope s_is_tuple_of) := ⟨rfl, rfl, rfl, by decide +kernel, rfl, by decide +kernel, by decide +kernel⟩
theorem fn_is_tuple_of {f : Addr} {fd : FuncData} {tT : Str → Option Fn} (F : Fun K "is_tuple_of" "is_tuple_of" s_is_tuple_of f fd)
    (hT : ∀ y m, tT y = some m → ∃ ps, Has P w K mg base k y ps m) (z_isinstance : mg "isinstance" = none) (z_tuple : mg "tuple" = none) (z_all : mg "all" = none) :
    FnG P w K mg base (k + 1) f fd ["thing", "check"] (f_is_tuple_of tT) := by
  refine fnG_of F sc_is_tuple_of (fun cdv A outer s H E hr hg => ?_)
  have sc := sc_is_tuple_of
  have u1 := hu_of hr
  have u64 := hr.units
  have uR := u100 hr
  exact (pmss_one (pms_ret (pm_and (pm_isi .tup rfl z_isinstance rfl z_tuple (by decide +kernel) (pm_var (pv 0))) (pm_one (pm_callB (cd_all rfl) rfl z_all (by decide +kernel) (pma_cons (pm_lc rfl sc.nd (pmi_seq (pm_var (pv 0))) (own := [("part", 2)]) (blk_of rfl (by kernel_rfl)) (by decide) (fun _ _ _ _ _ => (pmg_name sc.nd rfl (.inl rfl))) (fun _ _ _ _ _ => pmts_nil) (fun _ _ _ _ _ => (pm_callV (i := 1) hT hr hg takes0 rfl (by first | exact .inl rfl | exact .inr (.inl rfl) | exact .inr (.inr rfl)) (pma_cons (pm_var (pv 2)) pma_nil)))) pma_nil))))))
theorem ok_is_tuple_of {f : Addr} {fd : FuncData} {tT : Str → Option Fn} (F : Fun K "is_tuple_of" "is_tuple_of" s_is_tuple_of f fd) (bF : Binds K fd ["thing", "check"] []) (mF : mg "is_tuple_of" = some (.ref f))
    (hT : ∀ y m, tT y = some m → ∃ ps, Has P w K mg base k y ps m) (z_isinstance : mg "isinstance" = none) (z_tuple : mg "tuple" = none) (z_all : mg "all" = none) :
    Has P w K mg base (k + 1) "is_tuple_of" ["thing", "check"] (f_is_tuple_of tT) := ⟨f, fd, fn_is_tuple_of F hT z_isinstance z_tuple z_all, bF, F.kp, mF⟩

/-! ### has_variable_shape -/
abbrev s_has_variable_shape : Stmt := top 8
def b_has_variable_shape (g_is_tuple_with : Fn) : MS :=
  (mRet (mFn g_is_tuple_with (mCons (mVar 0) (mCons (mTup (mCons (mC (.fn "is_name")) (mCons (mC (.fn "is_integer")) (mCons (mC (.fn "is_integer")) mNil)))) mNil))))
def f_has_variable_shape (g_is_tuple_with : Fn) : Fn := callM 1 1 (b_has_variable_shape g_is_tuple_with)
theorem sc_has_variable_shape : FnScope ["thing"] ["thing"] (defScope s_has_variable_shape) := ⟨rfl, rfl, rfl, by decide +kernel, rfl, by decide +kernel, by decide +kernel⟩
theorem fn_has_variable_shape {f : Addr} {fd : FuncData} {g_is_tuple_with : Fn} (F : Fun K "has_variable_shape" "has_variable_shape" s_has_variable_shape f fd)
    (h_is_tuple_with : Has P w K mg base k "is_tuple_with" ["thing", "checks"] g_is_tuple_with) (a_is_integer : FnAt K mg "is_integer") (a_is_name : FnAt K mg "is_name") :
    FnG P w K mg base (k + 1) f fd ["thing"] (f_has_variable_shape g_is_tuple_with) := by
  refine fnG_of F sc_has_variable_shape (fun cdv A outer s H E hr hg => ?_)
  have sc := sc_has_variable_shape
  have u1 := hu_of hr
  have u64 := hr.units
  have uR := u100 hr
  exact (pmss_one (pms_ret (pm_callH h_is_tuple_with hr hg (takes_of rfl rfl rfl rfl) rfl (pma_cons (pm_var (pv 0)) (pma_cons (pm_tup (pma_cons (pm_fnv a_is_name rfl) (pma_cons (pm_fnv a_is_integer rfl) (pma_cons (pm_fnv a_is_integer rfl) pma_nil)))) pma_nil)))))
theorem ok_has_variable_shape {f : Addr} {fd : FuncData} {g_is_tuple_with : Fn} (F : Fun K "has_variable_shape" "has_variable_shape" s_has_variable_shape f fd) (bF : Binds K fd ["thing"] []) (mF : mg "has_variable_shape" = some (.ref f))
    (h_is_tuple_with : Has P w K mg base k "is_tuple_with" ["thing", "checks"] g_is_tuple_with) (a_is_integer : FnAt K mg "is_integer") (a_is_name : FnAt K mg "is_name") :
    Has P w K mg base (k + 1) "has_variable_shape" ["thing"] (f_has_variable_shape g_is_tuple_with) := ⟨f, fd, fn_has_variable_shape F h_is_tuple_with a_is_integer a_is_name, bF, F.kp, mF⟩

/-! ### is_variable -/
abbrev s_is_variable : Stmt := top 9
def b_is_variable (g_has_variable_shape : Fn) : MS :=
  (mRet (mAndV (mFn g_has_variable_shape (mCons (mVar 0) mNil)) (m2 dLe (m2 dIx (mVar 0) (mC (.int 1))) (m2 dIx (mVar 0) (mC (.int 2))))))
def f_is_variable (g_has_variable_shape : Fn) : Fn := callM 1 1 (b_is_variable g_has_variable_shape)
theorem sc_is_variable : FnScope ["thing"] ["thing"] (defScope s_is_variable) := ⟨rfl, rfl, rfl, by decide +kernel, rfl, by decide +kernel, by decide +kernel⟩
theorem fn_is_variable {f : Addr} {fd : FuncData} {g_has_variable_shape : Fn} (F : Fun K "is_variable" "is_variable" s_is_variable f fd)
    (h_has_variable_shape : Has P w K mg base k "has_variable_shape" ["thing"] g_has_variable_shape) :
    FnG P w K mg base (k + 1) f fd ["thing"] (f_is_variable g_has_variable_shape) := by
  refine fnG_of F sc_is_variable (fun cdv A outer s H E hr hg => ?_)
  have sc := sc_is_variable
  have u1 := hu_of hr
  have u64 := hr.units
  have uR := u100 hr
  exact (pmss_one (pms_ret (pm_and (pm_callH h_has_variable_shape hr hg (takes_of rfl rfl rfl rfl) rfl (pma_cons (pm_var (pv 0)) pma_nil)) (pm_one (pm_cmp od_le (pm_ix u1 (pm_var (pv 0)) pm_int (fun _ _ => rfl)) (pm_ix u1 (pm_var (pv 0)) pm_int (fun _ _ => rfl)) (nomark _))))))
theorem ok_is_variable {f : Addr} {fd : FuncData} {g_has_variable_shape : Fn} (F : Fun K "is_variable" "is_variable" s_is_variable f fd) (bF : Binds K fd ["thing"] []) (mF : mg "is_variable" = some (.ref f))
    (h_has_variable_shape : Has P w K mg base k "has_variable_shape" ["thing"] g_has_variable_shape) :
    Has P w K mg base (k + 1) "is_variable" ["thing"] (f_is_variable g_has_variable_shape) := ⟨f, fd, fn_is_variable F h_has_variable_shape, bF, F.kp, mF⟩

/-! ### is_worded -/
abbrev s_is_worded : Stmt := top 10
def b_is_worded : MS :=
  (mRet (mAndV (mIsi .tup (mVar 0)) (mAndV (m2 dNe (mVar 0) (mTup mNil)) (mIsi .str (m2 dIx (mVar 0) (mC (.int 0)))))))
def f_is_worded : Fn := callM 1 1 (b_is_worded)
theorem sc_is_worded : FnScope ["thing"] ["thing"] (defScope s_is_worded) := ⟨rfl, rfl, rfl, by decide +kernel, rfl, by decide +kernel, by decide +kernel⟩
theorem fn_is_worded {f : Addr} {fd : FuncData} (F : Fun K "is_worded" "is_worded" s_is_worded f fd) (z_isinstance : mg "isinstance" = none) (z_tuple : mg "tuple" = none) (z_str : mg "str" = none) :
    FnG P w K mg base (k + 1) f fd ["thing"] (f_is_worded) := by
  refine fnG_of F sc_is_worded (fun cdv A outer s H E hr hg => ?_)
  have sc := sc_is_worded
  have u1 := hu_of hr
  have u64 := hr.units
  have uR := u100 hr
  exact (pmss_one (pms_ret (pm_and (pm_isi .tup rfl z_isinstance rfl z_tuple (by decide +kernel) (pm_var (pv 0))) (pm_and (pm_cmp (od_ne u64) (pm_var (pv 0)) (pm_tup pma_nil) (nomark _)) (pm_one (pm_isi .str rfl z_isinstance rfl z_str (by decide +kernel) (pm_ix u1 (pm_var (pv 0)) pm_int (fun _ _ => rfl))))))))
theorem ok_is_worded {f : Addr} {fd : FuncData} (F : Fun K "is_worded" "is_worded" s_is_worded f fd) (bF : Binds K fd ["thing"] []) (mF : mg "is_worded" = some (.ref f)) (z_isinstance : mg "isinstance" = none) (z_tuple : mg "tuple" = none) (z_str : mg "str" = none) :
    Has P w K mg base (k + 1) "is_worded" ["thing"] (f_is_worded) := ⟨f, fd, fn_is_worded F z_isinstance z_tuple z_str, bF, F.kp, mF⟩

/-! ### is_expression -/
abbrev s_is_expression : Stmt := top 11
def b_is_expression (g_is_integer : Fn) (g_is_name : Fn) (g_is_worded : Fn) (g_is_tuple_with : Fn) : MS :=
  (mSeq (mIfS (mOrT (mTru (mFn g_is_integer (mCons (mVar 0) mNil))) (mTru (mFn g_is_name (mCons (mVar 0) mNil)))) (mRet (mC (.bl true))) mSkip)
    (mRet (mAndV (mFn g_is_worded (mCons (mVar 0) mNil)) (mAndV (mInK tab_SHAPES (m2 dIx (mVar 0) (mC (.int 0)))) (mFn g_is_tuple_with (mCons (mSl (mVar 0) (moSome (mC (.int 1))) moNone) (mCons (mIxK tab_SHAPES (m2 dIx (mVar 0) (mC (.int 0)))) mNil)))))))
def f_is_expression (g_is_integer : Fn) (g_is_name : Fn) (g_is_worded : Fn) (g_is_tuple_with : Fn) : Fn := callM 1 1 (b_is_expression g_is_integer g_is_name g_is_worded g_is_tuple_with)
theorem sc_is_expression : FnScope ["thing"] ["thing"] (defScope s_is_expression) := ⟨rfl, rfl, rfl, by decide +kernel, rfl, by decide +kernel, by decide +kernel⟩
theorem fn_is_expression {f : Addr} {fd : FuncData} {g_is_integer : Fn} {g_is_name : Fn} {g_is_worded : Fn} {g_is_tuple_with : Fn} (F : Fun K "is_expression" "is_expression" s_is_expression f fd)
    (h_is_integer : Has P w K mg base k "is_integer" ["thing"] g_is_integer)
    (h_is_name : Has P w K mg base k "is_name" ["thing"] g_is_name)
    (h_is_worded : Has P w K mg base k "is_worded" ["thing"] g_is_worded)
    (h_is_tuple_with : Has P w K mg base k "is_tuple_with" ["thing", "checks"] g_is_tuple_with) (t_SHAPES : KTab K w mg "SHAPES" tab_SHAPES) :
    FnG P w K mg base (k + 1) f fd ["thing"] (f_is_expression g_is_integer g_is_name g_is_worded g_is_tuple_with) := by
  refine fnG_of F sc_is_expression (fun cdv A outer s H E hr hg => ?_)
  have sc := sc_is_expression
  have u1 := hu_of hr
  have u64 := hr.units
  have uR := u100 hr
  exact (pmss_cons (pms_if (pmt_of (pmw_or (pmt_tru (pm_callH h_is_integer hr hg (takes_of rfl rfl rfl rfl) rfl (pma_cons (pm_var (pv 0)) pma_nil))) (pmw_or1 (pmt_tru (pm_callH h_is_name hr hg (takes_of rfl rfl rfl rfl) rfl (pma_cons (pm_var (pv 0)) pma_nil)))))) (pmss_one (pms_ret pm_bl)) pmss_nil)
    (pmss_one (pms_ret (pm_and (pm_callH h_is_worded hr hg (takes_of rfl rfl rfl rfl) rfl (pma_cons (pm_var (pv 0)) pma_nil)) (pm_and (pm_inK t_SHAPES rfl (pm_ix u1 (pm_var (pv 0)) pm_int (fun _ _ => rfl))) (pm_one (pm_callH h_is_tuple_with hr hg (takes_of rfl rfl rfl rfl) rfl (pma_cons (pm_sl (pm_var (pv 0)) (pmo_some pm_int) pmo_none) (pma_cons (pm_ixK t_SHAPES rfl (pm_ix u1 (pm_var (pv 0)) pm_int (fun _ _ => rfl)) (hs := fun _ _ => rfl)) pma_nil)))))))))
theorem ok_is_expression {f : Addr} {fd : FuncData} {g_is_integer : Fn} {g_is_name : Fn} {g_is_worded : Fn} {g_is_tuple_with : Fn} (F : Fun K "is_expression" "is_expression" s_is_expression f fd) (bF : Binds K fd ["thing"] []) (mF : mg "is_expression" = some (.ref f))
    (h_is_integer : Has P w K mg base k "is_integer" ["thing"] g_is_integer)
    (h_is_name : Has P w K mg base k "is_name" ["thing"] g_is_name)
    (h_is_worded : Has P w K mg base k "is_worded" ["thing"] g_is_worded)
    (h_is_tuple_with : Has P w K mg base k "is_tuple_with" ["thing", "checks"] g_is_tuple_with) (t_SHAPES : KTab K w mg "SHAPES" tab_SHAPES) :
    Has P w K mg base (k + 1) "is_expression" ["thing"] (f_is_expression g_is_integer g_is_name g_is_worded g_is_tuple_with) := ⟨f, fd, fn_is_expression F h_is_integer h_is_name h_is_worded h_is_tuple_with t_SHAPES, bF, F.kp, mF⟩

/-! ### are_expressions -/
abbrev s_are_expressions : Stmt := top 12
def b_are_expressions (g_is_tuple_of : Fn) : MS :=
  (mRet (mFn g_is_tuple_of (mCons (mVar 0) (mCons (mC (.fn "is_expression")) mNil))))
def f_are_expressions (g_is_tuple_of : Fn) : Fn := callM 1 1 (b_are_expressions g_is_tuple_of)
theorem sc_are_expressions : FnScope ["thing"] ["thing"] (defScope s_are_expressions) := ⟨rfl, rfl, rfl, by decide +kernel, rfl, by decide +kernel, by decide +kernel⟩
theorem fn_are_expressions {f : Addr} {fd : FuncData} {g_is_tuple_of : Fn} (F : Fun K "are_expressions" "are_expressions" s_are_expressions f fd)
    (h_is_tuple_of : Has P w K mg base k "is_tuple_of" ["thing", "check"] g_is_tuple_of) (a_is_expression : FnAt K mg "is_expression") :
    FnG P w K mg base (k + 1) f fd ["thing"] (f_are_expressions g_is_tuple_of) := by
  refine fnG_of F sc_are_expressions (fun cdv A outer s H E hr hg => ?_)
  have sc := sc_are_expressions
  have u1 := hu_of hr
  have u64 := hr.units
  have uR := u100 hr
  exact (pmss_one (pms_ret (pm_callH h_is_tuple_of hr hg (takes_of rfl rfl rfl rfl) rfl (pma_cons (pm_var (pv 0)) (pma_cons (pm_fnv a_is_expression rfl) pma_nil)))))
theorem ok_are_expressions {f : Addr} {fd : FuncData} {g_is_tuple_of : Fn} (F : Fun K "are_expressions" "are_expressions" s_are_expressions f fd) (bF : Binds K fd ["thing"] []) (mF : mg "are_expressions" = some (.ref f))
    (h_is_tuple_of : Has P w K mg base k "is_tuple_of" ["thing", "check"] g_is_tuple_of) (a_is_expression : FnAt K mg "is_expression") :
    Has P w K mg base (k + 1) "are_expressions" ["thing"] (f_are_expressions g_is_tuple_of) := ⟨f, fd, fn_are_expressions F h_is_tuple_of a_is_expression, bF, F.kp, mF⟩

/-! ### is_row -/
abbrev s_is_row : Stmt := top 13
def b_is_row (g_is_worded : Fn) (g_is_tuple_with : Fn) : MS :=
  (mRet (mAndV (mFn g_is_worded (mCons (mVar 0) mNil)) (mAndV (mInK tab_ROW_SHAPES (m2 dIx (mVar 0) (mC (.int 0)))) (mFn g_is_tuple_with (mCons (mSl (mVar 0) (moSome (mC (.int 1))) moNone) (mCons (mIxK tab_ROW_SHAPES (m2 dIx (mVar 0) (mC (.int 0)))) mNil))))))
def f_is_row (g_is_worded : Fn) (g_is_tuple_with : Fn) : Fn := callM 1 1 (b_is_row g_is_worded g_is_tuple_with)
theorem sc_is_row : FnScope ["thing"] ["thing"] (defScope s_is_row) := ⟨rfl, rfl, rfl, by decide +kernel, rfl, by decide +kernel, by decide +kernel⟩
theorem fn_is_row {f : Addr} {fd : FuncData} {g_is_worded : Fn} {g_is_tuple_with : Fn} (F : Fun K "is_row" "is_row" s_is_row f fd)
    (h_is_worded : Has P w K mg base k "is_worded" ["thing"] g_is_worded)
    (h_is_tuple_with : Has P w K mg base k "is_tuple_with" ["thing", "checks"] g_is_tuple_with) (t_ROW_SHAPES : KTab K w mg "ROW_SHAPES" tab_ROW_SHAPES) :
    FnG P w K mg base (k + 1) f fd ["thing"] (f_is_row g_is_worded g_is_tuple_with) := by
  refine fnG_of F sc_is_row (fun cdv A outer s H E hr hg => ?_)
  have sc := sc_is_row
  have u1 := hu_of hr
  have u64 := hr.units
  have uR := u100 hr
  exact (pmss_one (pms_ret (pm_and (pm_callH h_is_worded hr hg (takes_of rfl rfl rfl rfl) rfl (pma_cons (pm_var (pv 0)) pma_nil)) (pm_and (pm_inK t_ROW_SHAPES rfl (pm_ix u1 (pm_var (pv 0)) pm_int (fun _ _ => rfl))) (pm_one (pm_callH h_is_tuple_with hr hg (takes_of rfl rfl rfl rfl) rfl (pma_cons (pm_sl (pm_var (pv 0)) (pmo_some pm_int) pmo_none) (pma_cons (pm_ixK t_ROW_SHAPES rfl (pm_ix u1 (pm_var (pv 0)) pm_int (fun _ _ => rfl)) (hs := fun _ _ => rfl)) pma_nil))))))))
theorem ok_is_row {f : Addr} {fd : FuncData} {g_is_worded : Fn} {g_is_tuple_with : Fn} (F : Fun K "is_row" "is_row" s_is_row f fd) (bF : Binds K fd ["thing"] []) (mF : mg "is_row" = some (.ref f))
    (h_is_worded : Has P w K mg base k "is_worded" ["thing"] g_is_worded)
    (h_is_tuple_with : Has P w K mg base k "is_tuple_with" ["thing", "checks"] g_is_tuple_with) (t_ROW_SHAPES : KTab K w mg "ROW_SHAPES" tab_ROW_SHAPES) :
    Has P w K mg base (k + 1) "is_row" ["thing"] (f_is_row g_is_worded g_is_tuple_with) := ⟨f, fd, fn_is_row F h_is_worded h_is_tuple_with t_ROW_SHAPES, bF, F.kp, mF⟩

/-! ### are_integers -/
abbrev s_are_integers : Stmt := top 14
def b_are_integers (g_is_tuple_of : Fn) : MS :=
  (mRet (mFn g_is_tuple_of (mCons (mVar 0) (mCons (mC (.fn "is_integer")) mNil))))
def f_are_integers (g_is_tuple_of : Fn) : Fn := callM 1 1 (b_are_integers g_is_tuple_of)
theorem sc_are_integers : FnScope ["thing"] ["thing"] (defScope s_are_integers) := ⟨rfl, rfl, rfl, by decide +kernel, rfl, by decide +kernel, by decide +kernel⟩
theorem fn_are_integers {f : Addr} {fd : FuncData} {g_is_tuple_of : Fn} (F : Fun K "are_integers" "are_integers" s_are_integers f fd)
    (h_is_tuple_of : Has P w K mg base k "is_tuple_of" ["thing", "check"] g_is_tuple_of) (a_is_integer : FnAt K mg "is_integer") :
    FnG P w K mg base (k + 1) f fd ["thing"] (f_are_integers g_is_tuple_of) := by
  refine fnG_of F sc_are_integers (fun cdv A outer s H E hr hg => ?_)
  have sc := sc_are_integers
  have u1 := hu_of hr
  have u64 := hr.units
  have uR := u100 hr
  exact (pmss_one (pms_ret (pm_callH h_is_tuple_of hr hg (takes_of rfl rfl rfl rfl) rfl (pma_cons (pm_var (pv 0)) (pma_cons (pm_fnv a_is_integer rfl) pma_nil)))))
theorem ok_are_integers {f : Addr} {fd : FuncData} {g_is_tuple_of : Fn} (F : Fun K "are_integers" "are_integers" s_are_integers f fd) (bF : Binds K fd ["thing"] []) (mF : mg "are_integers" = some (.ref f))
    (h_is_tuple_of : Has P w K mg base k "is_tuple_of" ["thing", "check"] g_is_tuple_of) (a_is_integer : FnAt K mg "is_integer") :
    Has P w K mg base (k + 1) "are_integers" ["thing"] (f_are_integers g_is_tuple_of) := ⟨f, fd, fn_are_integers F h_is_tuple_of a_is_integer, bF, F.kp, mF⟩

/-! ### is_test -/
abbrev s_is_test : Stmt := top 15
def b_is_test (g_is_tuple_with : Fn) : MS :=
  (mRet (mFn g_is_tuple_with (mCons (mVar 0) (mCons (mTup (mCons (mC (.fn "are_integers")) (mCons (mC (.fn "is_integer")) mNil))) mNil))))
def f_is_test (g_is_tuple_with : Fn) : Fn := callM 1 1 (b_is_test g_is_tuple_with)
theorem sc_is_test : FnScope ["thing"] ["thing"] (defScope s_is_test) := ⟨rfl, rfl, rfl, by decide +kernel, rfl, by decide +kernel, by decide +kernel⟩
theorem fn_is_test {f : Addr} {fd : FuncData} {g_is_tuple_with : Fn} (F : Fun K "is_test" "is_test" s_is_test f fd)
    (h_is_tuple_with : Has P w K mg base k "is_tuple_with" ["thing", "checks"] g_is_tuple_with) (a_is_integer : FnAt K mg "is_integer") (a_are_integers : FnAt K mg "are_integers") :
    FnG P w K mg base (k + 1) f fd ["thing"] (f_is_test g_is_tuple_with) := by
  refine fnG_of F sc_is_test (fun cdv A outer s H E hr hg => ?_)
  have sc := sc_is_test
  have u1 := hu_of hr
  have u64 := hr.units
  have uR := u100 hr
  exact (pmss_one (pms_ret (pm_callH h_is_tuple_with hr hg (takes_of rfl rfl rfl rfl) rfl (pma_cons (pm_var (pv 0)) (pma_cons (pm_tup (pma_cons (pm_fnv a_are_integers rfl) (pma_cons (pm_fnv a_is_integer rfl) pma_nil))) pma_nil)))))
theorem ok_is_test {f : Addr} {fd : FuncData} {g_is_tuple_with : Fn} (F : Fun K "is_test" "is_test" s_is_test f fd) (bF : Binds K fd ["thing"] []) (mF : mg "is_test" = some (.ref f))
    (h_is_tuple_with : Has P w K mg base k "is_tuple_with" ["thing", "checks"] g_is_tuple_with) (a_is_integer : FnAt K mg "is_integer") (a_are_integers : FnAt K mg "are_integers") :
    Has P w K mg base (k + 1) "is_test" ["thing"] (f_is_test g_is_tuple_with) := ⟨f, fd, fn_is_test F h_is_tuple_with a_is_integer a_are_integers, bF, F.kp, mF⟩

/-! ### names_in -/
abbrev s_names_in : Stmt := top 21
def b_names_in (g_is_integer : Fn) (g_names_in : Fn) : MS :=
  (mSeq (mIfS (mTru (mFn g_is_integer (mCons (mVar 0) mNil))) (mRet (mLst mNil)) mSkip)
    (mSeq (mIfS (mTru (mIsi .str (mVar 0))) (mRet (mLst (mCons (mVar 0) mNil))) mSkip)
    (mRet (mLc2 (mSeqI (mSl (mVar 0) (moSome (mC (.int 1))) moNone)) (.nm 1) mYes (mSeqI (mFn g_names_in (mCons (mVar 1) mNil))) (.nm 2) mYes (mVar 2) [1, 2] [2]))))
def f_names_in (g_is_integer : Fn) (g_names_in : Fn) : Fn := callM 1 3 (b_names_in g_is_integer g_names_in)
theorem sc_names_in : FnScope ["e", "part", "name"] ["e"] (defScope s_names_in) := ⟨rfl, rfl, rfl, by decide +kernel, rfl, by decide +kernel, by decide +kernel⟩
theorem fn_names_in {f : Addr} {fd : FuncData} {g_is_integer : Fn} {g_names_in : Fn} (F : Fun K "names_in" "names_in" s_names_in f fd)
    (h_is_integer : Has P w K mg base k "is_integer" ["thing"] g_is_integer)
    (h_names_in : Has P w K mg base k "names_in" ["e"] g_names_in) (z_isinstance : mg "isinstance" = none) (z_str : mg "str" = none) :
    FnG P w K mg base (k + 1) f fd ["e"] (f_names_in g_is_integer g_names_in) := by
  refine fnG_of F sc_names_in (fun cdv A outer s H E hr hg => ?_)
  have sc := sc_names_in
  have u1 := hu_of hr
  have u64 := hr.units
  have uR := u100 hr
  exact (pmss_cons (pms_if (pmt_tru (pm_callH h_is_integer hr hg (takes_of rfl rfl rfl rfl) rfl (pma_cons (pm_var (pv 0)) pma_nil))) (pmss_one (pms_ret (pm_lst pma_nil))) pmss_nil)
    (pmss_cons (pms_if (pmt_tru (pm_isi .str rfl z_isinstance rfl z_str (by decide +kernel) (pm_var (pv 0)))) (pmss_one (pms_ret (pm_lst (pma_cons (pm_var (pv 0)) pma_nil)))) pmss_nil)
    (pmss_one (pms_ret (pm_lc2 rfl sc.nd (pmi_seq (pm_sl (pm_var (pv 0)) (pmo_some pm_int) pmo_none)) (own := [("part", 1), ("name", 2)]) (vs1 := [2]) (blk_of rfl (by kernel_rfl)) (by decide) (by decide) (by decide) (fun _ _ _ _ _ => (pmg_name sc.nd rfl (.inl rfl))) (fun _ _ _ _ _ => pmts_nil) (fun _ _ _ _ _ => (pmi_seq (pm_callH h_names_in hr hg takes0 rfl (pma_cons (pm_var (pv 1)) pma_nil)))) (fun _ _ _ _ _ => (pmg_name sc.nd rfl (.inl rfl))) (fun _ _ _ _ _ => pmts_nil) (fun _ _ _ _ _ => (pm_var (pv 2))))))))
theorem ok_names_in {f : Addr} {fd : FuncData} {g_is_integer : Fn} {g_names_in : Fn} (F : Fun K "names_in" "names_in" s_names_in f fd) (bF : Binds K fd ["e"] []) (mF : mg "names_in" = some (.ref f))
    (h_is_integer : Has P w K mg base k "is_integer" ["thing"] g_is_integer)
    (h_names_in : Has P w K mg base k "names_in" ["e"] g_names_in) (z_isinstance : mg "isinstance" = none) (z_str : mg "str" = none) :
    Has P w K mg base (k + 1) "names_in" ["e"] (f_names_in g_is_integer g_names_in) := ⟨f, fd, fn_names_in F h_is_integer h_names_in z_isinstance z_str, bF, F.kp, mF⟩

/-! ### fits -/
abbrev s_fits : Stmt := top 22
def b_fits (g_is_expression : Fn) (g_names_in : Fn) : MS :=
  (mRet (mAndV (mFn g_is_expression (mCons (mVar 1) mNil)) (mCall dAll (mCons (mLc (mSeqI (mFn g_names_in (mCons (mVar 1) mNil))) (.nm 2) mYes (m2 dIn (mVar 2) (mVar 0)) [2]) mNil))))
def f_fits (g_is_expression : Fn) (g_names_in : Fn) : Fn := callM 2 3 (b_fits g_is_expression g_names_in)
theorem sc_fits : FnScope ["names", "thing", "name"] ["names", "thing"] (defScope s_fits) := ⟨rfl, rfl, rfl, by decide +kernel, rfl, by decide +kernel, by decide +kernel⟩
theorem fn_fits {f : Addr} {fd : FuncData} {g_is_expression : Fn} {g_names_in : Fn} (F : Fun K "fits" "fits" s_fits f fd)
    (h_is_expression : Has P w K mg base k "is_expression" ["thing"] g_is_expression)
    (h_names_in : Has P w K mg base k "names_in" ["e"] g_names_in) (z_all : mg "all" = none) :
    FnG P w K mg base (k + 1) f fd ["names", "thing"] (f_fits g_is_expression g_names_in) := by
  refine fnG_of F sc_fits (fun cdv A outer s H E hr hg => ?_)
  have sc := sc_fits
  have u1 := hu_of hr
  have u64 := hr.units
  have uR := u100 hr
  exact (pmss_one (pms_ret (pm_and (pm_callH h_is_expression hr hg (takes_of rfl rfl rfl rfl) rfl (pma_cons (pm_var (pv 1)) pma_nil)) (pm_one (pm_callB (cd_all rfl) rfl z_all (by decide +kernel) (pma_cons (pm_lc rfl sc.nd (pmi_seq (pm_callH h_names_in hr hg (takes_of rfl rfl rfl rfl) rfl (pma_cons (pm_var (pv 1)) pma_nil))) (own := [("name", 2)]) (blk_of rfl (by kernel_rfl)) (by decide) (fun _ _ _ _ _ => (pmg_name sc.nd rfl (.inl rfl))) (fun _ _ _ _ _ => pmts_nil) (fun _ _ _ _ _ => (pm_cmp (od_in u1) (pm_var (pv 2)) (pm_var (pv 0)) (by with_unfolding_all rfl)))) pma_nil))))))
theorem ok_fits {f : Addr} {fd : FuncData} {g_is_expression : Fn} {g_names_in : Fn} (F : Fun K "fits" "fits" s_fits f fd) (bF : Binds K fd ["names", "thing"] []) (mF : mg "fits" = some (.ref f))
    (h_is_expression : Has P w K mg base k "is_expression" ["thing"] g_is_expression)
    (h_names_in : Has P w K mg base k "names_in" ["e"] g_names_in) (z_all : mg "all" = none) :
    Has P w K mg base (k + 1) "fits" ["names", "thing"] (f_fits g_is_expression g_names_in) := ⟨f, fd, fn_fits F h_is_expression h_names_in z_all, bF, F.kp, mF⟩

/-! ### _law_feed -/
abbrev s__law_feed : Stmt := top 24
def b__law_feed : MS :=
  (mRet (mDictC [((mC (.str "cells")), (mCall dList (mCons (mSl (mVar 0) moNone (moSome (mC (.int 63)))) mNil))), ((mC (.str "at")), (mC (.int 0))), ((mC (.str "left")), (mC (.int 0))), ((mC (.str "count")), (mC (.int 0)))]))
def f__law_feed : Fn := callK 1 1 (b__law_feed)
theorem sc__law_feed : FnScope ["_law_script"] ["_law_script"] (defScope s__law_feed) := ⟨rfl, rfl, rfl, by decide +kernel, rfl, by decide +kernel, by decide +kernel⟩
theorem fn__law_feed {f : Addr} {fd : FuncData} (F : Fun K "_law_feed" "_law_feed" s__law_feed f fd) (z_list : mg "list" = none) :
    FnG P w K mg base (k + 1) f fd ["_law_script"] (f__law_feed) := by
  refine fnK_of F sc__law_feed (fun cdv A outer s H E hr hg => ?_)
  have sc := sc__law_feed
  have u1 := hu_of hr
  have u64 := hr.units
  have uR := u100 hr
  exact (pmss_one (pms_ret (pm_dictC (pmps_cons pm_str (pm_callTy cd_list rfl z_list (by decide +kernel) (pma_cons (pm_sl (pm_var (pv 0)) pmo_none (pmo_some pm_int)) pma_nil)) (pmps_cons pm_str pm_int (pmps_cons pm_str pm_int (pmps_cons pm_str pm_int pmps_nil)))))))
theorem ok__law_feed {f : Addr} {fd : FuncData} (F : Fun K "_law_feed" "_law_feed" s__law_feed f fd) (bF : Binds K fd ["_law_script"] []) (mF : mg "_law_feed" = some (.ref f)) (z_list : mg "list" = none) :
    Has P w K mg base (k + 1) "_law_feed" ["_law_script"] (f__law_feed) := ⟨f, fd, fn__law_feed F z_list, bF, F.kp, mF⟩

/-! ### _law_draw -/
abbrev s__law_draw : Stmt := top 25
def b__law_draw : MS :=
  (mSeq (mPut (mVar 0) (mC (.str "count")) (m2 dAdd (m2 dIx (mVar 0) (mC (.str "count"))) (mC (.int 1))))
    (mSeq (mIfS (mTest (m2 dGt (m2 dIx (mVar 0) (mC (.str "left"))) (mC (.int 0)))) (mSeq (mSet 2 (m2 dMod (mCall dInt (mCons (m2 dIx (mVar 0) (mC (.str "left"))) mNil)) (mVar 1)))
    (mSeq (mPut (mVar 0) (mC (.str "left")) (m2 dFdiv (m2 dIx (mVar 0) (mC (.str "left"))) (mVar 1)))
    (mRet (mVar 2)))) mSkip)
    (mSeq (mSet 3 (m2 dIx (mVar 0) (mC (.str "at"))))
    (mSeq (mPut (mVar 0) (mC (.str "at")) (m2 dAdd (mVar 3) (mC (.int 1))))
    (mSeq (mSet 4 (mIf (mTest (m2 dNe (m2 dIx (mVar 0) (mC (.str "cells"))) (mLst mNil))) (m2 dIx (m2 dIx (mVar 0) (mC (.str "cells"))) (m2 dMod (mCall dInt (mCons (mVar 3) mNil)) (mCall dLen (mCons (m2 dIx (mVar 0) (mC (.str "cells"))) mNil)))) (mC (.int 71))))
    (mSeq (mIfS (mAndT (mTest (m2 dGe (mVar 4) (m2 dPow (mC (.int 10)) (mC (.int 18))))) (mTest (m2 dLt (mVar 3) (mCall dLen (mCons (m2 dIx (mVar 0) (mC (.str "cells"))) mNil))))) (mSeq (mPut (mVar 0) (mC (.str "left")) (m2 dFdiv (mVar 4) (mVar 1)))
    (mRet (m2 dMod (mCall dInt (mCons (mVar 4) mNil)) (mVar 1)))) mSkip)
    (mSeq (mSet 5 (m2 dMod (mCall dInt (mCons (m2 dAdd (m2 dAdd (m2 dMod (mCall dInt (mCons (mVar 4) mNil)) (mC (.int 1000000579))) (m2 dMul (mC (.int 180007)) (m2 dIx (mVar 0) (mC (.str "count"))))) (mC (.int 103))) mNil)) (mC (.int 2147483323))))
    (mSeq (mSet 5 (m2 dMod (mCall dInt (mCons (m2 dAdd (m2 dAdd (m2 dMul (mVar 5) (mVar 5)) (m2 dMul (mC (.int 3800191)) (m2 dIx (mVar 0) (mC (.str "count"))))) (mC (.int 67))) mNil)) (mC (.int 2147483269))))
    (mRet (m2 dMod (mCall dInt (mCons (m2 dFdiv (m2 dMod (mCall dInt (mCons (m2 dAdd (m2 dMul (mVar 5) (mVar 5)) (m2 dMul (mC (.int 83)) (mVar 5))) mNil)) (mC (.int 2147483249))) (mC (.int 16))) mNil)) (mVar 1)))))))))))
def f__law_draw : Fn := callM 2 6 (b__law_draw)
theorem sc__law_draw : FnScope ["_law_feed_here", "_law_many", "_law_digit", "_law_at", "_law_cell", "_law_mixed"] ["_law_feed_here", "_law_many"] (defScope s__law_draw) := ⟨rfl, rfl, rfl, by decide +kernel, rfl, by decide +kernel, by decide +kernel⟩
theorem fn__law_draw {f : Addr} {fd : FuncData} (F : Fun K "_law_draw" "_law_draw" s__law_draw f fd) (z_int : mg "int" = none) (z_len : mg "len" = none) :
    FnG P w K mg base (k + 1) f fd ["_law_feed_here", "_law_many"] (f__law_draw) := by
  refine fnG_of F sc__law_draw (fun cdv A outer s H E hr hg => ?_)
  have sc := sc__law_draw
  have u1 := hu_of hr
  have u64 := hr.units
  have uR := u100 hr
  exact (pmss_cons (pms_put u1 (pm_var (pv 0)) pm_str (pm_bin od_add (pm_ix u1 (pm_var (pv 0)) pm_str (fun _ _ => rfl)) pm_int))
    (pmss_cons (pms_if (pmt_cmp od_gt (pm_ix u1 (pm_var (pv 0)) pm_str (fun _ _ => rfl)) pm_int (nomark _)) (pmss_cons (pms_set (i := 2) sc.nd rfl (.inl rfl) (pm_bin od_mod (pm_callTy cd_int rfl z_int (by decide +kernel) (pma_cons (pm_ix u1 (pm_var (pv 0)) pm_str (fun _ _ => rfl)) pma_nil)) (pm_var (pv 1))))
    (pmss_cons (pms_put u1 (pm_var (pv 0)) pm_str (pm_bin od_fdiv (pm_ix u1 (pm_var (pv 0)) pm_str (fun _ _ => rfl)) (pm_var (pv 1))))
    (pmss_one (pms_ret (pm_var (pv 2)))))) pmss_nil)
    (pmss_cons (pms_set (i := 3) sc.nd rfl (.inl rfl) (pm_ix u1 (pm_var (pv 0)) pm_str (fun _ _ => rfl)))
    (pmss_cons (pms_put u1 (pm_var (pv 0)) pm_str (pm_bin od_add (pm_var (pv 3)) pm_int))
    (pmss_cons (pms_set (i := 4) sc.nd rfl (.inl rfl) (pm_if (pmt_cmp (od_ne u64) (pm_ix u1 (pm_var (pv 0)) pm_str (fun _ _ => rfl)) (pm_lst pma_nil) (nomark _)) (pm_ix u1 (pm_ix u1 (pm_var (pv 0)) pm_str (fun _ _ => rfl)) (pm_bin od_mod (pm_callTy cd_int rfl z_int (by decide +kernel) (pma_cons (pm_var (pv 3)) pma_nil)) (pm_callB cd_len rfl z_len (by decide +kernel) (pma_cons (pm_ix u1 (pm_var (pv 0)) pm_str (fun _ _ => rfl)) pma_nil))) (fun _ _ => rfl)) pm_int))
    (pmss_cons (pms_if (pmt_of (pmw_and (pmt_cmp od_ge (pm_var (pv 4)) (pm_bin od_pow pm_int pm_int) (nomark _)) (pmw_and1 (pmt_cmp od_lt (pm_var (pv 3)) (pm_callB cd_len rfl z_len (by decide +kernel) (pma_cons (pm_ix u1 (pm_var (pv 0)) pm_str (fun _ _ => rfl)) pma_nil)) (nomark _))))) (pmss_cons (pms_put u1 (pm_var (pv 0)) pm_str (pm_bin od_fdiv (pm_var (pv 4)) (pm_var (pv 1))))
    (pmss_one (pms_ret (pm_bin od_mod (pm_callTy cd_int rfl z_int (by decide +kernel) (pma_cons (pm_var (pv 4)) pma_nil)) (pm_var (pv 1)))))) pmss_nil)
    (pmss_cons (pms_set (i := 5) sc.nd rfl (.inl rfl) (pm_bin od_mod (pm_callTy cd_int rfl z_int (by decide +kernel) (pma_cons (pm_bin od_add (pm_bin od_add (pm_bin od_mod (pm_callTy cd_int rfl z_int (by decide +kernel) (pma_cons (pm_var (pv 4)) pma_nil)) pm_int) (pm_bin od_mul pm_int (pm_ix u1 (pm_var (pv 0)) pm_str (fun _ _ => rfl)))) pm_int) pma_nil)) pm_int))
    (pmss_cons (pms_set (i := 5) sc.nd rfl (.inl rfl) (pm_bin od_mod (pm_callTy cd_int rfl z_int (by decide +kernel) (pma_cons (pm_bin od_add (pm_bin od_add (pm_bin od_mul (pm_var (pv 5)) (pm_var (pv 5))) (pm_bin od_mul pm_int (pm_ix u1 (pm_var (pv 0)) pm_str (fun _ _ => rfl)))) pm_int) pma_nil)) pm_int))
    (pmss_one (pms_ret (pm_bin od_mod (pm_callTy cd_int rfl z_int (by decide +kernel) (pma_cons (pm_bin od_fdiv (pm_bin od_mod (pm_callTy cd_int rfl z_int (by decide +kernel) (pma_cons (pm_bin od_add (pm_bin od_mul (pm_var (pv 5)) (pm_var (pv 5))) (pm_bin od_mul pm_int (pm_var (pv 5)))) pma_nil)) pm_int) pm_int) pma_nil)) (pm_var (pv 1)))))))))))))
theorem ok__law_draw {f : Addr} {fd : FuncData} (F : Fun K "_law_draw" "_law_draw" s__law_draw f fd) (bF : Binds K fd ["_law_feed_here", "_law_many"] []) (mF : mg "_law_draw" = some (.ref f)) (z_int : mg "int" = none) (z_len : mg "len" = none) :
    Has P w K mg base (k + 1) "_law_draw" ["_law_feed_here", "_law_many"] (f__law_draw) := ⟨f, fd, fn__law_draw F z_int z_len, bF, F.kp, mF⟩

/-! ### _law_integer -/
abbrev s__law_integer : Stmt := top 26
def b__law_integer : MS :=
  (mRet (mAndV (mIsi .int (mVar 0)) (mNotV (mIsi .bool (mVar 0)))))
def f__law_integer : Fn := callM 1 1 (b__law_integer)
theorem sc__law_integer : FnScope ["_law_item"] ["_law_item"] (defScope s__law_integer) := ⟨rfl, rfl, rfl, by decide +kernel, rfl, by decide +kernel, by decide +kernel⟩
theorem fn__law_integer {f : Addr} {fd : FuncData} (F : Fun K "_law_integer" "_law_integer" s__law_integer f fd) (z_isinstance : mg "isinstance" = none) (z_int : mg "int" = none) (z_bool : mg "bool" = none) :
    FnG P w K mg base (k + 1) f fd ["_law_item"] (f__law_integer) := by
  refine fnG_of F sc__law_integer (fun cdv A outer s H E hr hg => ?_)
  have sc := sc__law_integer
  have u1 := hu_of hr
  have u64 := hr.units
  have uR := u100 hr
  exact (pmss_one (pms_ret (pm_and (pm_isi .int rfl z_isinstance rfl z_int (by decide +kernel) (pm_var (pv 0))) (pm_one (pm_not (pm_isi .bool rfl z_isinstance rfl z_bool (by decide +kernel) (pm_var (pv 0))))))))
theorem ok__law_integer {f : Addr} {fd : FuncData} (F : Fun K "_law_integer" "_law_integer" s__law_integer f fd) (bF : Binds K fd ["_law_item"] []) (mF : mg "_law_integer" = some (.ref f)) (z_isinstance : mg "isinstance" = none) (z_int : mg "int" = none) (z_bool : mg "bool" = none) :
    Has P w K mg base (k + 1) "_law_integer" ["_law_item"] (f__law_integer) := ⟨f, fd, fn__law_integer F z_isinstance z_int z_bool, bF, F.kp, mF⟩

/-! ### _law_is_name -/
abbrev s__law_is_name : Stmt := top 27
def b__law_is_name : MS :=
  (mSeq (mIfS (mOrT (mNotT (mTru (mIsi .str (mVar 0)))) (mNotT (mTest (mChain dLt dLt (mC (.int 0)) (mCall dLen (mCons (mVar 0) mNil)) (mC (.int 9)))))) (mRet (mC (.bl false))) mSkip)
    (mRet (m2 dEq (mLc (mStrI (mVar 0)) (.nm 1) (mNotT (mTest (mChain dLe dLe (mC (.int 97)) (mCall dOrd (mCons (mVar 1) mNil)) (mC (.int 122))))) (mVar 1) [1]) (mLst mNil))))
def f__law_is_name : Fn := callM 1 2 (b__law_is_name)
theorem sc__law_is_name : FnScope ["_law_item", "_law_sign"] ["_law_item"] (defScope s__law_is_name) := ⟨rfl, rfl, rfl, by decide +kernel, rfl, by decide +kernel, by decide +kernel⟩
theorem fn__law_is_name {f : Addr} {fd : FuncData} (F : Fun K "_law_is_name" "_law_is_name" s__law_is_name f fd) (z_isinstance : mg "isinstance" = none) (z_str : mg "str" = none) (z_len : mg "len" = none) (z_ord : mg "ord" = none) :
    FnG P w K mg base (k + 1) f fd ["_law_item"] (f__law_is_name) := by
  refine fnG_of F sc__law_is_name (fun cdv A outer s H E hr hg => ?_)
  have sc := sc__law_is_name
  have u1 := hu_of hr
  have u64 := hr.units
  have uR := u100 hr
  exact (pmss_cons (pms_if (pmt_of (pmw_or (pmt_not (pmt_tru (pm_isi .str rfl z_isinstance rfl z_str (by decide +kernel) (pm_var (pv 0))))) (pmw_or1 (pmt_not (pmt_chain od_lt od_lt pm_int (pm_callB cd_len rfl z_len (by decide +kernel) (pma_cons (pm_var (pv 0)) pma_nil)) pm_int))))) (pmss_one (pms_ret pm_bl)) pmss_nil)
    (pmss_one (pms_ret (pm_cmp (od_eq u64) (pm_lc rfl sc.nd (pmi_str (pm_var (pv 0))) (own := [("_law_sign", 1)]) (blk_of rfl (by kernel_rfl)) (by decide) (fun _ _ _ _ _ => (pmg_name sc.nd rfl (.inl rfl))) (fun _ _ _ _ _ => (pmts_one (pmt_not (pmt_chain od_le od_le pm_int (pm_callB cd_ord rfl z_ord (by decide +kernel) (pma_cons (pm_var (pv 1)) pma_nil)) pm_int)))) (fun _ _ _ _ _ => (pm_var (pv 1)))) (pm_lst pma_nil) (nomark _)))))
theorem ok__law_is_name {f : Addr} {fd : FuncData} (F : Fun K "_law_is_name" "_law_is_name" s__law_is_name f fd) (bF : Binds K fd ["_law_item"] []) (mF : mg "_law_is_name" = some (.ref f)) (z_isinstance : mg "isinstance" = none) (z_str : mg "str" = none) (z_len : mg "len" = none) (z_ord : mg "ord" = none) :
    Has P w K mg base (k + 1) "_law_is_name" ["_law_item"] (f__law_is_name) := ⟨f, fd, fn__law_is_name F z_isinstance z_str z_len z_ord, bF, F.kp, mF⟩

/-! ### _law_sizes -/
abbrev s__law_sizes : Stmt := top 28
def b__law_sizes : MS :=
  (mSeq (mSet 0 (mDictC [((mC (.str "not")), (mC (.int 1))), ((mC (.str "neg")), (mC (.int 1))), ((mC (.str "if")), (mC (.int 3)))]))
    (mSeq (mFor (mSeqI (mTup (mCons (mC (.str "+")) (mCons (mC (.str "-")) (mCons (mC (.str "*")) (mCons (mC (.str "div")) (mCons (mC (.str "mod")) (mCons (mC (.str "least")) (mCons (mC (.str "most")) (mCons (mC (.str "=")) (mCons (mC (.str "<")) (mCons (mC (.str "<=")) (mCons (mC (.str "and")) (mCons (mC (.str "or")) mNil)))))))))))))) (.nm 1) (mPut (mVar 0) (mVar 1) (mC (.int 2))))
    (mRet (mVar 0))))
def f__law_sizes : Fn := callM 0 2 (b__law_sizes)
theorem sc__law_sizes : FnScope ["_law_found", "_law_word"] [] (defScope s__law_sizes) := ⟨rfl, rfl, rfl, by decide +kernel, rfl, by decide +kernel, by decide +kernel⟩
theorem fn__law_sizes {f : Addr} {fd : FuncData} (F : Fun K "_law_sizes" "_law_sizes" s__law_sizes f fd) :
    FnG P w K mg base (k + 1) f fd [] (f__law_sizes) := by
  refine fnG_of F sc__law_sizes (fun cdv A outer s H E hr hg => ?_)
  have sc := sc__law_sizes
  have u1 := hu_of hr
  have u64 := hr.units
  have uR := u100 hr
  exact (pmss_cons (pms_set (i := 0) sc.nd rfl (.inl rfl) (pm_dictC (pmps_cons pm_str pm_int (pmps_cons pm_str pm_int (pmps_cons pm_str pm_int pmps_nil)))))
    (pmss_cons (pms_for (passes_of rfl) rfl (pmi_seq (pm_tup (pma_cons pm_str (pma_cons pm_str (pma_cons pm_str (pma_cons pm_str (pma_cons pm_str (pma_cons pm_str (pma_cons pm_str (pma_cons pm_str (pma_cons pm_str (pma_cons pm_str (pma_cons pm_str (pma_cons pm_str pma_nil)))))))))))))) (pmg_name sc.nd rfl (.inl rfl)) (pmss_one (pms_put u1 (pm_var (pv 0)) (pm_var (pv 1)) pm_int)))
    (pmss_one (pms_ret (pm_var (pv 0))))))
theorem ok__law_sizes {f : Addr} {fd : FuncData} (F : Fun K "_law_sizes" "_law_sizes" s__law_sizes f fd) (bF : Binds K fd [] []) (mF : mg "_law_sizes" = some (.ref f)) :
    Has P w K mg base (k + 1) "_law_sizes" [] (f__law_sizes) := ⟨f, fd, fn__law_sizes F, bF, F.kp, mF⟩

/-! ### _law_is_expression -/
abbrev s__law_is_expression : Stmt := top 29
def b__law_is_expression (g__law_integer : Fn) (g__law_is_name : Fn) (g__law_sizes : Fn) (g__law_is_expression : Fn) : MS :=
  (mSeq (mIfS (mNotT (mTru (mIsi .tup (mVar 0)))) (mRet (mOrV (mFn g__law_integer (mCons (mVar 0) mNil)) (mFn g__law_is_name (mCons (mVar 0) mNil)))) mSkip)
    (mSeq (mIfS (mOrT (mTest (m2 dEq (mVar 0) (mTup mNil))) (mOrT (mNotT (mTru (mIsi .str (m2 dIx (mVar 0) (mC (.int 0)))))) (mTest (m2 dNe (mCall dLen (mCons (mVar 0) mNil)) (m2 dAdd (mGet2 (mFn g__law_sizes mNil) (m2 dIx (mVar 0) (mC (.int 0))) (m1 dNeg (mC (.int 1)))) (mC (.int 1))))))) (mRet (mC (.bl false))) mSkip)
    (mRet (m2 dEq (mLc (mSeqI (mSl (mVar 0) (moSome (mC (.int 1))) moNone)) (.nm 1) (mNotT (mTru (mFn g__law_is_expression (mCons (mVar 1) mNil)))) (mVar 1) [1]) (mLst mNil)))))
def f__law_is_expression (g__law_integer : Fn) (g__law_is_name : Fn) (g__law_sizes : Fn) (g__law_is_expression : Fn) : Fn := callM 1 2 (b__law_is_expression g__law_integer g__law_is_name g__law_sizes g__law_is_expression)
theorem sc__law_is_expression : FnScope ["_law_item", "_law_part"] ["_law_item"] (defScope s__law_is_expression) := ⟨rfl, rfl, rfl, by decide +kernel, rfl, by decide +kernel, by decide +kernel⟩
theorem fn__law_is_expression {f : Addr} {fd : FuncData} {g__law_integer : Fn} {g__law_is_name : Fn} {g__law_sizes : Fn} {g__law_is_expression : Fn} (F : Fun K "_law_is_expression" "_law_is_expression" s__law_is_expression f fd)
    (h__law_integer : Has P w K mg base k "_law_integer" ["_law_item"] g__law_integer)
    (h__law_is_name : Has P w K mg base k "_law_is_name" ["_law_item"] g__law_is_name)
    (h__law_sizes : Has P w K mg base k "_law_sizes" [] g__law_sizes)
    (h__law_is_expression : Has P w K mg base k "_law_is_expression" ["_law_item"] g__law_is_expression) (z_isinstance : mg "isinstance" = none) (z_tuple : mg "tuple" = none) (z_str : mg "str" = none) (z_len : mg "len" = none) :
    FnG P w K mg base (k + 1) f fd ["_law_item"] (f__law_is_expression g__law_integer g__law_is_name g__law_sizes g__law_is_expression) := by
  refine fnG_of F sc__law_is_expression (fun cdv A outer s H E hr hg => ?_)
  have sc := sc__law_is_expression
  have u1 := hu_of hr
  have u64 := hr.units
  have uR := u100 hr
  exact (pmss_cons (pms_if (pmt_not (pmt_tru (pm_isi .tup rfl z_isinstance rfl z_tuple (by decide +kernel) (pm_var (pv 0))))) (pmss_one (pms_ret (pm_or (pm_callH h__law_integer hr hg (takes_of rfl rfl rfl rfl) rfl (pma_cons (pm_var (pv 0)) pma_nil)) (pm_one (pm_callH h__law_is_name hr hg (takes_of rfl rfl rfl rfl) rfl (pma_cons (pm_var (pv 0)) pma_nil)))))) pmss_nil)
    (pmss_cons (pms_if (pmt_of (pmw_or (pmt_cmp (od_eq u64) (pm_var (pv 0)) (pm_tup pma_nil) (nomark _)) (pmw_or (pmt_not (pmt_tru (pm_isi .str rfl z_isinstance rfl z_str (by decide +kernel) (pm_ix u1 (pm_var (pv 0)) pm_int (fun _ _ => rfl))))) (pmw_or1 (pmt_cmp (od_ne u64) (pm_callB cd_len rfl z_len (by decide +kernel) (pma_cons (pm_var (pv 0)) pma_nil)) (pm_bin od_add (pm_get2 u1 (pm_callH0 h__law_sizes hr hg (takes_of rfl rfl rfl rfl) rfl) (pm_ix u1 (pm_var (pv 0)) pm_int (fun _ _ => rfl)) (pm_un ud_neg pm_int) ⟨rfl, rfl, rfl, rfl⟩) pm_int) (nomark _)))))) (pmss_one (pms_ret pm_bl)) pmss_nil)
    (pmss_one (pms_ret (pm_cmp (od_eq u64) (pm_lc rfl sc.nd (pmi_seq (pm_sl (pm_var (pv 0)) (pmo_some pm_int) pmo_none)) (own := [("_law_part", 1)]) (blk_of rfl (by kernel_rfl)) (by decide) (fun _ _ _ _ _ => (pmg_name sc.nd rfl (.inl rfl))) (fun _ _ _ _ _ => (pmts_one (pmt_not (pmt_tru (pm_callH h__law_is_expression hr hg takes0 rfl (pma_cons (pm_var (pv 1)) pma_nil)))))) (fun _ _ _ _ _ => (pm_var (pv 1)))) (pm_lst pma_nil) (nomark _))))))
theorem ok__law_is_expression {f : Addr} {fd : FuncData} {g__law_integer : Fn} {g__law_is_name : Fn} {g__law_sizes : Fn} {g__law_is_expression : Fn} (F : Fun K "_law_is_expression" "_law_is_expression" s__law_is_expression f fd) (bF : Binds K fd ["_law_item"] []) (mF : mg "_law_is_expression" = some (.ref f))
    (h__law_integer : Has P w K mg base k "_law_integer" ["_law_item"] g__law_integer)
    (h__law_is_name : Has P w K mg base k "_law_is_name" ["_law_item"] g__law_is_name)
    (h__law_sizes : Has P w K mg base k "_law_sizes" [] g__law_sizes)
    (h__law_is_expression : Has P w K mg base k "_law_is_expression" ["_law_item"] g__law_is_expression) (z_isinstance : mg "isinstance" = none) (z_tuple : mg "tuple" = none) (z_str : mg "str" = none) (z_len : mg "len" = none) :
    Has P w K mg base (k + 1) "_law_is_expression" ["_law_item"] (f__law_is_expression g__law_integer g__law_is_name g__law_sizes g__law_is_expression) := ⟨f, fd, fn__law_is_expression F h__law_integer h__law_is_name h__law_sizes h__law_is_expression z_isinstance z_tuple z_str z_len, bF, F.kp, mF⟩

/-! ### _law_names_in -/
abbrev s__law_names_in : Stmt := top 30
def b__law_names_in (g__law_names_in : Fn) : MS :=
  (mSeq (mIfS (mNotT (mTru (mIsi .tup (mVar 0)))) (mRet (mIf (mTru (mIsi .str (mVar 0))) (mLst (mCons (mVar 0) mNil)) (mLst mNil))) mSkip)
    (mSeq (mSet 1 (mLstC mNil))
    (mSeq (mFor (mSeqI (mSl (mVar 0) (moSome (mC (.int 1))) moNone)) (.nm 2) (mExpr (mMeth isL aExtend (mVar 1) (mCons (mLc (mSeqI (mFn g__law_names_in (mCons (mVar 2) mNil))) (.nm 3) (mTest (m2 dNotIn (mVar 3) (mVar 1))) (mVar 3) [3]) mNil))))
    (mRet (mVar 1)))))
def f__law_names_in (g__law_names_in : Fn) : Fn := callM 1 4 (b__law_names_in g__law_names_in)
theorem sc__law_names_in : FnScope ["_law_e", "_law_found", "_law_part", "_law_name"] ["_law_e"] (defScope s__law_names_in) := ⟨rfl, rfl, rfl, by decide +kernel, rfl, by decide +kernel, by decide +kernel⟩
theorem fn__law_names_in {f : Addr} {fd : FuncData} {g__law_names_in : Fn} (F : Fun K "_law_names_in" "_law_names_in" s__law_names_in f fd)
    (h__law_names_in : Has P w K mg base k "_law_names_in" ["_law_e"] g__law_names_in) (z_isinstance : mg "isinstance" = none) (z_tuple : mg "tuple" = none) (z_str : mg "str" = none) :
    FnG P w K mg base (k + 1) f fd ["_law_e"] (f__law_names_in g__law_names_in) := by
  refine fnG_of F sc__law_names_in (fun cdv A outer s H E hr hg => ?_)
  have sc := sc__law_names_in
  have u1 := hu_of hr
  have u64 := hr.units
  have uR := u100 hr
  exact (pmss_cons (pms_if (pmt_not (pmt_tru (pm_isi .tup rfl z_isinstance rfl z_tuple (by decide +kernel) (pm_var (pv 0))))) (pmss_one (pms_ret (pm_if (pmt_tru (pm_isi .str rfl z_isinstance rfl z_str (by decide +kernel) (pm_var (pv 0)))) (pm_lst (pma_cons (pm_var (pv 0)) pma_nil)) (pm_lst pma_nil)))) pmss_nil)
    (pmss_cons (pms_set (i := 1) sc.nd rfl (.inr rfl) (pm_lstC pma_nil))
    (pmss_cons (pms_for (passes_of rfl) rfl (pmi_seq (pm_sl (pm_var (pv 0)) (pmo_some pm_int) pmo_none)) (pmg_name sc.nd rfl (.inl rfl)) (pmss_one (pms_expr (pm_meth PySem.F.plainAttrs_list PySem.F.slot_list_extend PySem.F.type_list_extend (.inl ⟨rfl, rfl⟩) md_extend (pm_var (pv 1)) (pma_cons (pm_lc rfl sc.nd (pmi_seq (pm_callH h__law_names_in hr hg (takes_of rfl rfl rfl rfl) rfl (pma_cons (pm_var (pv 2)) pma_nil))) (own := [("_law_name", 3)]) (blk_of rfl (by kernel_rfl)) (by decide) (fun _ _ _ _ _ => (pmg_name sc.nd rfl (.inl rfl))) (fun _ _ _ _ _ => (pmts_one (pmt_cmp (od_notin u1) (pm_var (pv 3)) (pm_var (pv 1)) (by with_unfolding_all rfl)))) (fun _ _ _ _ _ => (pm_var (pv 3)))) pma_nil)))))
    (pmss_one (pms_ret (pm_var (pv 1)))))))
theorem ok__law_names_in {f : Addr} {fd : FuncData} {g__law_names_in : Fn} (F : Fun K "_law_names_in" "_law_names_in" s__law_names_in f fd) (bF : Binds K fd ["_law_e"] []) (mF : mg "_law_names_in" = some (.ref f))
    (h__law_names_in : Has P w K mg base k "_law_names_in" ["_law_e"] g__law_names_in) (z_isinstance : mg "isinstance" = none) (z_tuple : mg "tuple" = none) (z_str : mg "str" = none) :
    Has P w K mg base (k + 1) "_law_names_in" ["_law_e"] (f__law_names_in g__law_names_in) := ⟨f, fd, fn__law_names_in F h__law_names_in z_isinstance z_tuple z_str, bF, F.kp, mF⟩

/-! ### _law_fits -/
abbrev s__law_fits : Stmt := top 31
def b__law_fits (g__law_is_expression : Fn) (g__law_names_in : Fn) : MS :=
  (mRet (mAndV (mFn g__law_is_expression (mCons (mVar 1) mNil)) (m2 dEq (mLc (mSeqI (mFn g__law_names_in (mCons (mVar 1) mNil))) (.nm 2) (mTest (m2 dNotIn (mVar 2) (mVar 0))) (mVar 2) [2]) (mLst mNil))))
def f__law_fits (g__law_is_expression : Fn) (g__law_names_in : Fn) : Fn := callM 2 3 (b__law_fits g__law_is_expression g__law_names_in)
theorem sc__law_fits : FnScope ["_law_names_in_now", "_law_item", "_law_name"] ["_law_names_in_now", "_law_item"] (defScope s__law_fits) := ⟨rfl, rfl, rfl, by decide +kernel, rfl, by decide +kernel, by decide +kernel⟩
theorem fn__law_fits {f : Addr} {fd : FuncData} {g__law_is_expression : Fn} {g__law_names_in : Fn} (F : Fun K "_law_fits" "_law_fits" s__law_fits f fd)
    (h__law_is_expression : Has P w K mg base k "_law_is_expression" ["_law_item"] g__law_is_expression)
    (h__law_names_in : Has P w K mg base k "_law_names_in" ["_law_e"] g__law_names_in) :
    FnG P w K mg base (k + 1) f fd ["_law_names_in_now", "_law_item"] (f__law_fits g__law_is_expression g__law_names_in) := by
  refine fnG_of F sc__law_fits (fun cdv A outer s H E hr hg => ?_)
  have sc := sc__law_fits
  have u1 := hu_of hr
  have u64 := hr.units
  have uR := u100 hr
  exact (pmss_one (pms_ret (pm_and (pm_callH h__law_is_expression hr hg (takes_of rfl rfl rfl rfl) rfl (pma_cons (pm_var (pv 1)) pma_nil)) (pm_one (pm_cmp (od_eq u64) (pm_lc rfl sc.nd (pmi_seq (pm_callH h__law_names_in hr hg (takes_of rfl rfl rfl rfl) rfl (pma_cons (pm_var (pv 1)) pma_nil))) (own := [("_law_name", 2)]) (blk_of rfl (by kernel_rfl)) (by decide) (fun _ _ _ _ _ => (pmg_name sc.nd rfl (.inl rfl))) (fun _ _ _ _ _ => (pmts_one (pmt_cmp (od_notin u1) (pm_var (pv 2)) (pm_var (pv 0)) (by with_unfolding_all rfl)))) (fun _ _ _ _ _ => (pm_var (pv 2)))) (pm_lst pma_nil) (nomark _))))))
theorem ok__law_fits {f : Addr} {fd : FuncData} {g__law_is_expression : Fn} {g__law_names_in : Fn} (F : Fun K "_law_fits" "_law_fits" s__law_fits f fd) (bF : Binds K fd ["_law_names_in_now", "_law_item"] []) (mF : mg "_law_fits" = some (.ref f))
    (h__law_is_expression : Has P w K mg base k "_law_is_expression" ["_law_item"] g__law_is_expression)
    (h__law_names_in : Has P w K mg base k "_law_names_in" ["_law_e"] g__law_names_in) :
    Has P w K mg base (k + 1) "_law_fits" ["_law_names_in_now", "_law_item"] (f__law_fits g__law_is_expression g__law_names_in) := ⟨f, fd, fn__law_fits F h__law_is_expression h__law_names_in, bF, F.kp, mF⟩

/-! ### _law_is_row -/
abbrev s__law_is_row : Stmt := top 32
def b__law_is_row (g__law_is_expression : Fn) (g__law_is_name : Fn) : MS :=
  (mSeq (mIfS (mOrT (mNotT (mTru (mIsi .tup (mVar 0)))) (mOrT (mTest (m2 dEq (mVar 0) (mTup mNil))) (mNotT (mTru (mIsi .str (m2 dIx (mVar 0) (mC (.int 0)))))))) (mRet (mC (.bl false))) mSkip)
    (mSeq (mIfS (mTest (m2 dIn (m2 dIx (mVar 0) (mC (.int 0))) (mTup (mCons (mC (.str "else")) (mCons (mC (.str "end")) mNil))))) (mRet (m2 dEq (mCall dLen (mCons (mVar 0) mNil)) (mC (.int 1)))) mSkip)
    (mSeq (mIfS (mTest (m2 dIn (m2 dIx (mVar 0) (mC (.int 0))) (mTup (mCons (mC (.str "if")) (mCons (mC (.str "while")) (mCons (mC (.str "return")) mNil)))))) (mRet (mAndV (m2 dEq (mCall dLen (mCons (mVar 0) mNil)) (mC (.int 2))) (mFn g__law_is_expression (mCons (m2 dIx (mVar 0) (mC (.int 1))) mNil)))) mSkip)
    (mSeq (mIfS (mTest (m2 dEq (m2 dIx (mVar 0) (mC (.int 0))) (mC (.str "set")))) (mRet (mAndV (m2 dEq (mCall dLen (mCons (mVar 0) mNil)) (mC (.int 3))) (mAndV (mFn g__law_is_name (mCons (m2 dIx (mVar 0) (mC (.int 1))) mNil)) (mFn g__law_is_expression (mCons (m2 dIx (mVar 0) (mC (.int 2))) mNil))))) mSkip)
    (mSeq (mIfS (mOrT (mTest (m2 dNe (m2 dIx (mVar 0) (mC (.int 0))) (mC (.str "call")))) (mOrT (mTest (m2 dNe (mCall dLen (mCons (mVar 0) mNil)) (mC (.int 4)))) (mOrT (mNotT (mTru (mFn g__law_is_name (mCons (m2 dIx (mVar 0) (mC (.int 1))) mNil)))) (mNotT (mTru (mFn g__law_is_name (mCons (m2 dIx (mVar 0) (mC (.int 2))) mNil))))))) (mRet (mC (.bl false))) mSkip)
    (mRet (mAndV (mIsi .tup (m2 dIx (mVar 0) (mC (.int 3)))) (m2 dEq (mLc (mSeqI (m2 dIx (mVar 0) (mC (.int 3)))) (.nm 1) (mNotT (mTru (mFn g__law_is_expression (mCons (mVar 1) mNil)))) (mVar 1) [1]) (mLst mNil)))))))))
def f__law_is_row (g__law_is_expression : Fn) (g__law_is_name : Fn) : Fn := callM 1 2 (b__law_is_row g__law_is_expression g__law_is_name)
theorem sc__law_is_row : FnScope ["_law_item", "_law_e"] ["_law_item"] (defScope s__law_is_row) := ⟨rfl, rfl, rfl, by decide +kernel, rfl, by decide +kernel, by decide +kernel⟩
theorem fn__law_is_row {f : Addr} {fd : FuncData} {g__law_is_expression : Fn} {g__law_is_name : Fn} (F : Fun K "_law_is_row" "_law_is_row" s__law_is_row f fd)
    (h__law_is_expression : Has P w K mg base k "_law_is_expression" ["_law_item"] g__law_is_expression)
    (h__law_is_name : Has P w K mg base k "_law_is_name" ["_law_item"] g__law_is_name) (z_isinstance : mg "isinstance" = none) (z_tuple : mg "tuple" = none) (z_str : mg "str" = none) (z_len : mg "len" = none) :
    FnG P w K mg base (k + 1) f fd ["_law_item"] (f__law_is_row g__law_is_expression g__law_is_name) := by
  refine fnG_of F sc__law_is_row (fun cdv A outer s H E hr hg => ?_)
  have sc := sc__law_is_row
  have u1 := hu_of hr
  have u64 := hr.units
  have uR := u100 hr
  exact (pmss_cons (pms_if (pmt_of (pmw_or (pmt_not (pmt_tru (pm_isi .tup rfl z_isinstance rfl z_tuple (by decide +kernel) (pm_var (pv 0))))) (pmw_or (pmt_cmp (od_eq u64) (pm_var (pv 0)) (pm_tup pma_nil) (nomark _)) (pmw_or1 (pmt_not (pmt_tru (pm_isi .str rfl z_isinstance rfl z_str (by decide +kernel) (pm_ix u1 (pm_var (pv 0)) pm_int (fun _ _ => rfl))))))))) (pmss_one (pms_ret pm_bl)) pmss_nil)
    (pmss_cons (pms_if (pmt_cmp (od_in u1) (pm_ix u1 (pm_var (pv 0)) pm_int (fun _ _ => rfl)) (pm_tup (pma_cons pm_str (pma_cons pm_str pma_nil))) (by with_unfolding_all rfl)) (pmss_one (pms_ret (pm_cmp (od_eq u64) (pm_callB cd_len rfl z_len (by decide +kernel) (pma_cons (pm_var (pv 0)) pma_nil)) pm_int (nomark _)))) pmss_nil)
    (pmss_cons (pms_if (pmt_cmp (od_in u1) (pm_ix u1 (pm_var (pv 0)) pm_int (fun _ _ => rfl)) (pm_tup (pma_cons pm_str (pma_cons pm_str (pma_cons pm_str pma_nil)))) (by with_unfolding_all rfl)) (pmss_one (pms_ret (pm_and (pm_cmp (od_eq u64) (pm_callB cd_len rfl z_len (by decide +kernel) (pma_cons (pm_var (pv 0)) pma_nil)) pm_int (nomark _)) (pm_one (pm_callH h__law_is_expression hr hg (takes_of rfl rfl rfl rfl) rfl (pma_cons (pm_ix u1 (pm_var (pv 0)) pm_int (fun _ _ => rfl)) pma_nil)))))) pmss_nil)
    (pmss_cons (pms_if (pmt_cmp (od_eq u64) (pm_ix u1 (pm_var (pv 0)) pm_int (fun _ _ => rfl)) pm_str (nomark _)) (pmss_one (pms_ret (pm_and (pm_cmp (od_eq u64) (pm_callB cd_len rfl z_len (by decide +kernel) (pma_cons (pm_var (pv 0)) pma_nil)) pm_int (nomark _)) (pm_and (pm_callH h__law_is_name hr hg (takes_of rfl rfl rfl rfl) rfl (pma_cons (pm_ix u1 (pm_var (pv 0)) pm_int (fun _ _ => rfl)) pma_nil)) (pm_one (pm_callH h__law_is_expression hr hg (takes_of rfl rfl rfl rfl) rfl (pma_cons (pm_ix u1 (pm_var (pv 0)) pm_int (fun _ _ => rfl)) pma_nil))))))) pmss_nil)
    (pmss_cons (pms_if (pmt_of (pmw_or (pmt_cmp (od_ne u64) (pm_ix u1 (pm_var (pv 0)) pm_int (fun _ _ => rfl)) pm_str (nomark _)) (pmw_or (pmt_cmp (od_ne u64) (pm_callB cd_len rfl z_len (by decide +kernel) (pma_cons (pm_var (pv 0)) pma_nil)) pm_int (nomark _)) (pmw_or (pmt_not (pmt_tru (pm_callH h__law_is_name hr hg (takes_of rfl rfl rfl rfl) rfl (pma_cons (pm_ix u1 (pm_var (pv 0)) pm_int (fun _ _ => rfl)) pma_nil)))) (pmw_or1 (pmt_not (pmt_tru (pm_callH h__law_is_name hr hg (takes_of rfl rfl rfl rfl) rfl (pma_cons (pm_ix u1 (pm_var (pv 0)) pm_int (fun _ _ => rfl)) pma_nil))))))))) (pmss_one (pms_ret pm_bl)) pmss_nil)
    (pmss_one (pms_ret (pm_and (pm_isi .tup rfl z_isinstance rfl z_tuple (by decide +kernel) (pm_ix u1 (pm_var (pv 0)) pm_int (fun _ _ => rfl))) (pm_one (pm_cmp (od_eq u64) (pm_lc rfl sc.nd (pmi_seq (pm_ix u1 (pm_var (pv 0)) pm_int (fun _ _ => rfl))) (own := [("_law_e", 1)]) (blk_of rfl (by kernel_rfl)) (by decide) (fun _ _ _ _ _ => (pmg_name sc.nd rfl (.inl rfl))) (fun _ _ _ _ _ => (pmts_one (pmt_not (pmt_tru (pm_callH h__law_is_expression hr hg takes0 rfl (pma_cons (pm_var (pv 1)) pma_nil)))))) (fun _ _ _ _ _ => (pm_var (pv 1)))) (pm_lst pma_nil) (nomark _)))))))))))
theorem ok__law_is_row {f : Addr} {fd : FuncData} {g__law_is_expression : Fn} {g__law_is_name : Fn} (F : Fun K "_law_is_row" "_law_is_row" s__law_is_row f fd) (bF : Binds K fd ["_law_item"] []) (mF : mg "_law_is_row" = some (.ref f))
    (h__law_is_expression : Has P w K mg base k "_law_is_expression" ["_law_item"] g__law_is_expression)
    (h__law_is_name : Has P w K mg base k "_law_is_name" ["_law_item"] g__law_is_name) (z_isinstance : mg "isinstance" = none) (z_tuple : mg "tuple" = none) (z_str : mg "str" = none) (z_len : mg "len" = none) :
    Has P w K mg base (k + 1) "_law_is_row" ["_law_item"] (f__law_is_row g__law_is_expression g__law_is_name) := ⟨f, fd, fn__law_is_row F h__law_is_expression h__law_is_name z_isinstance z_tuple z_str z_len, bF, F.kp, mF⟩

/-! ### _law_is_variable -/
abbrev s__law_is_variable : Stmt := top 33
def b__law_is_variable (g__law_is_name : Fn) (g__law_integer : Fn) : MS :=
  (mSeq (mIfS (mOrT (mNotT (mTru (mIsi .tup (mVar 0)))) (mOrT (mTest (m2 dNe (mCall dLen (mCons (mVar 0) mNil)) (mC (.int 3)))) (mNotT (mTru (mFn g__law_is_name (mCons (m2 dIx (mVar 0) (mC (.int 0))) mNil)))))) (mRet (mC (.bl false))) mSkip)
    (mRet (mAndV (mFn g__law_integer (mCons (m2 dIx (mVar 0) (mC (.int 1))) mNil)) (mAndV (mFn g__law_integer (mCons (m2 dIx (mVar 0) (mC (.int 2))) mNil)) (m2 dLe (m2 dIx (mVar 0) (mC (.int 1))) (m2 dIx (mVar 0) (mC (.int 2))))))))
def f__law_is_variable (g__law_is_name : Fn) (g__law_integer : Fn) : Fn := callM 1 1 (b__law_is_variable g__law_is_name g__law_integer)
theorem sc__law_is_variable : FnScope ["_law_item"] ["_law_item"] (defScope s__law_is_variable) := ⟨rfl, rfl, rfl, by decide +kernel, rfl, by decide +kernel, by decide +kernel⟩
theorem fn__law_is_variable {f : Addr} {fd : FuncData} {g__law_is_name : Fn} {g__law_integer : Fn} (F : Fun K "_law_is_variable" "_law_is_variable" s__law_is_variable f fd)
    (h__law_is_name : Has P w K mg base k "_law_is_name" ["_law_item"] g__law_is_name)
    (h__law_integer : Has P w K mg base k "_law_integer" ["_law_item"] g__law_integer) (z_isinstance : mg "isinstance" = none) (z_tuple : mg "tuple" = none) (z_len : mg "len" = none) :
    FnG P w K mg base (k + 1) f fd ["_law_item"] (f__law_is_variable g__law_is_name g__law_integer) := by
  refine fnG_of F sc__law_is_variable (fun cdv A outer s H E hr hg => ?_)
  have sc := sc__law_is_variable
  have u1 := hu_of hr
  have u64 := hr.units
  have uR := u100 hr
  exact (pmss_cons (pms_if (pmt_of (pmw_or (pmt_not (pmt_tru (pm_isi .tup rfl z_isinstance rfl z_tuple (by decide +kernel) (pm_var (pv 0))))) (pmw_or (pmt_cmp (od_ne u64) (pm_callB cd_len rfl z_len (by decide +kernel) (pma_cons (pm_var (pv 0)) pma_nil)) pm_int (nomark _)) (pmw_or1 (pmt_not (pmt_tru (pm_callH h__law_is_name hr hg (takes_of rfl rfl rfl rfl) rfl (pma_cons (pm_ix u1 (pm_var (pv 0)) pm_int (fun _ _ => rfl)) pma_nil)))))))) (pmss_one (pms_ret pm_bl)) pmss_nil)
    (pmss_one (pms_ret (pm_and (pm_callH h__law_integer hr hg (takes_of rfl rfl rfl rfl) rfl (pma_cons (pm_ix u1 (pm_var (pv 0)) pm_int (fun _ _ => rfl)) pma_nil)) (pm_and (pm_callH h__law_integer hr hg (takes_of rfl rfl rfl rfl) rfl (pma_cons (pm_ix u1 (pm_var (pv 0)) pm_int (fun _ _ => rfl)) pma_nil)) (pm_one (pm_cmp od_le (pm_ix u1 (pm_var (pv 0)) pm_int (fun _ _ => rfl)) (pm_ix u1 (pm_var (pv 0)) pm_int (fun _ _ => rfl)) (nomark _))))))))
theorem ok__law_is_variable {f : Addr} {fd : FuncData} {g__law_is_name : Fn} {g__law_integer : Fn} (F : Fun K "_law_is_variable" "_law_is_variable" s__law_is_variable f fd) (bF : Binds K fd ["_law_item"] []) (mF : mg "_law_is_variable" = some (.ref f))
    (h__law_is_name : Has P w K mg base k "_law_is_name" ["_law_item"] g__law_is_name)
    (h__law_integer : Has P w K mg base k "_law_integer" ["_law_item"] g__law_integer) (z_isinstance : mg "isinstance" = none) (z_tuple : mg "tuple" = none) (z_len : mg "len" = none) :
    Has P w K mg base (k + 1) "_law_is_variable" ["_law_item"] (f__law_is_variable g__law_is_name g__law_integer) := ⟨f, fd, fn__law_is_variable F h__law_is_name h__law_integer z_isinstance z_tuple z_len, bF, F.kp, mF⟩

/-! ### _law_is_test -/
abbrev s__law_is_test : Stmt := top 34
def b__law_is_test (g__law_integer : Fn) : MS :=
  (mSeq (mIfS (mOrT (mNotT (mTru (mIsi .tup (mVar 0)))) (mOrT (mTest (m2 dNe (mCall dLen (mCons (mVar 0) mNil)) (mC (.int 2)))) (mNotT (mTru (mIsi .tup (m2 dIx (mVar 0) (mC (.int 0)))))))) (mRet (mC (.bl false))) mSkip)
    (mRet (m2 dEq (mLc (mSeqI (m2 dAdd (m2 dIx (mVar 0) (mC (.int 0))) (mSl (mVar 0) (moSome (mC (.int 1))) moNone))) (.nm 1) (mNotT (mTru (mFn g__law_integer (mCons (mVar 1) mNil)))) (mVar 1) [1]) (mLst mNil))))
def f__law_is_test (g__law_integer : Fn) : Fn := callM 1 2 (b__law_is_test g__law_integer)
theorem sc__law_is_test : FnScope ["_law_item", "_law_own"] ["_law_item"] (defScope s__law_is_test) := ⟨rfl, rfl, rfl, by decide +kernel, rfl, by decide +kernel, by decide +kernel⟩
theorem fn__law_is_test {f : Addr} {fd : FuncData} {g__law_integer : Fn} (F : Fun K "_law_is_test" "_law_is_test" s__law_is_test f fd)
    (h__law_integer : Has P w K mg base k "_law_integer" ["_law_item"] g__law_integer) (z_isinstance : mg "isinstance" = none) (z_tuple : mg "tuple" = none) (z_len : mg "len" = none) :
    FnG P w K mg base (k + 1) f fd ["_law_item"] (f__law_is_test g__law_integer) := by
  refine fnG_of F sc__law_is_test (fun cdv A outer s H E hr hg => ?_)
  have sc := sc__law_is_test
  have u1 := hu_of hr
  have u64 := hr.units
  have uR := u100 hr
  exact (pmss_cons (pms_if (pmt_of (pmw_or (pmt_not (pmt_tru (pm_isi .tup rfl z_isinstance rfl z_tuple (by decide +kernel) (pm_var (pv 0))))) (pmw_or (pmt_cmp (od_ne u64) (pm_callB cd_len rfl z_len (by decide +kernel) (pma_cons (pm_var (pv 0)) pma_nil)) pm_int (nomark _)) (pmw_or1 (pmt_not (pmt_tru (pm_isi .tup rfl z_isinstance rfl z_tuple (by decide +kernel) (pm_ix u1 (pm_var (pv 0)) pm_int (fun _ _ => rfl))))))))) (pmss_one (pms_ret pm_bl)) pmss_nil)
    (pmss_one (pms_ret (pm_cmp (od_eq u64) (pm_lc rfl sc.nd (pmi_seq (pm_bin od_add (pm_ix u1 (pm_var (pv 0)) pm_int (fun _ _ => rfl)) (pm_sl (pm_var (pv 0)) (pmo_some pm_int) pmo_none))) (own := [("_law_own", 1)]) (blk_of rfl (by kernel_rfl)) (by decide) (fun _ _ _ _ _ => (pmg_name sc.nd rfl (.inl rfl))) (fun _ _ _ _ _ => (pmts_one (pmt_not (pmt_tru (pm_callH h__law_integer hr hg takes0 rfl (pma_cons (pm_var (pv 1)) pma_nil)))))) (fun _ _ _ _ _ => (pm_var (pv 1)))) (pm_lst pma_nil) (nomark _)))))
theorem ok__law_is_test {f : Addr} {fd : FuncData} {g__law_integer : Fn} (F : Fun K "_law_is_test" "_law_is_test" s__law_is_test f fd) (bF : Binds K fd ["_law_item"] []) (mF : mg "_law_is_test" = some (.ref f))
    (h__law_integer : Has P w K mg base k "_law_integer" ["_law_item"] g__law_integer) (z_isinstance : mg "isinstance" = none) (z_tuple : mg "tuple" = none) (z_len : mg "len" = none) :
    Has P w K mg base (k + 1) "_law_is_test" ["_law_item"] (f__law_is_test g__law_integer) := ⟨f, fd, fn__law_is_test F h__law_integer z_isinstance z_tuple z_len, bF, F.kp, mF⟩

/-! ### _law_names_of -/
abbrev s__law_names_of : Stmt := top 35
def b__law_names_of : MS :=
  (mRet (mCall dTuple (mCons (mLc (mSeqI (m2 dIx (mVar 0) (mC (.int 3)))) (.nm 1) mYes (m2 dIx (mVar 1) (mC (.int 0))) [1]) mNil)))
def f__law_names_of : Fn := callM 1 2 (b__law_names_of)
theorem sc__law_names_of : FnScope ["_law_whole", "_law_own"] ["_law_whole"] (defScope s__law_names_of) := ⟨rfl, rfl, rfl, by decide +kernel, rfl, by decide +kernel, by decide +kernel⟩
theorem fn__law_names_of {f : Addr} {fd : FuncData} (F : Fun K "_law_names_of" "_law_names_of" s__law_names_of f fd) (z_tuple : mg "tuple" = none) :
    FnG P w K mg base (k + 1) f fd ["_law_whole"] (f__law_names_of) := by
  refine fnG_of F sc__law_names_of (fun cdv A outer s H E hr hg => ?_)
  have sc := sc__law_names_of
  have u1 := hu_of hr
  have u64 := hr.units
  have uR := u100 hr
  exact (pmss_one (pms_ret (pm_callTy cd_tuple rfl z_tuple (by decide +kernel) (pma_cons (pm_lc rfl sc.nd (pmi_seq (pm_ix u1 (pm_var (pv 0)) pm_int (fun _ _ => rfl))) (own := [("_law_own", 1)]) (blk_of rfl (by kernel_rfl)) (by decide) (fun _ _ _ _ _ => (pmg_name sc.nd rfl (.inl rfl))) (fun _ _ _ _ _ => pmts_nil) (fun _ _ _ _ _ => (pm_ix u1 (pm_var (pv 1)) pm_int (fun _ _ => rfl)))) pma_nil))))
theorem ok__law_names_of {f : Addr} {fd : FuncData} (F : Fun K "_law_names_of" "_law_names_of" s__law_names_of f fd) (bF : Binds K fd ["_law_whole"] []) (mF : mg "_law_names_of" = some (.ref f)) (z_tuple : mg "tuple" = none) :
    Has P w K mg base (k + 1) "_law_names_of" ["_law_whole"] (f__law_names_of) := ⟨f, fd, fn__law_names_of F z_tuple, bF, F.kp, mF⟩

/-! ### _law_parts -/
abbrev s__law_parts : Stmt := top 36
def b__law_parts : MS :=
  (mSeq (mIfS (mTest (m2 dIn (m2 dIx (mVar 0) (mC (.int 0))) (mTup (mCons (mC (.str "else")) (mCons (mC (.str "end")) mNil))))) (mRet (mTup mNil)) mSkip)
    (mRet (mIf (mTest (m2 dEq (m2 dIx (mVar 0) (mC (.int 0))) (mC (.str "call")))) (m2 dIx (mVar 0) (mC (.int 3))) (mSl (mVar 0) (moSome (m1 dNeg (mC (.int 1)))) moNone))))
def f__law_parts : Fn := callM 1 1 (b__law_parts)
theorem sc__law_parts : FnScope ["_law_row"] ["_law_row"] (defScope s__law_parts) := ⟨rfl, rfl, rfl, by decide +kernel, rfl, by decide +kernel, by decide +kernel⟩
theorem fn__law_parts {f : Addr} {fd : FuncData} (F : Fun K "_law_parts" "_law_parts" s__law_parts f fd) :
    FnG P w K mg base (k + 1) f fd ["_law_row"] (f__law_parts) := by
  refine fnG_of F sc__law_parts (fun cdv A outer s H E hr hg => ?_)
  have sc := sc__law_parts
  have u1 := hu_of hr
  have u64 := hr.units
  have uR := u100 hr
  exact (pmss_cons (pms_if (pmt_cmp (od_in u1) (pm_ix u1 (pm_var (pv 0)) pm_int (fun _ _ => rfl)) (pm_tup (pma_cons pm_str (pma_cons pm_str pma_nil))) (by with_unfolding_all rfl)) (pmss_one (pms_ret (pm_tup pma_nil))) pmss_nil)
    (pmss_one (pms_ret (pm_if (pmt_cmp (od_eq u64) (pm_ix u1 (pm_var (pv 0)) pm_int (fun _ _ => rfl)) pm_str (nomark _)) (pm_ix u1 (pm_var (pv 0)) pm_int (fun _ _ => rfl)) (pm_sl (pm_var (pv 0)) (pmo_some (pm_un ud_neg pm_int)) pmo_none)))))
theorem ok__law_parts {f : Addr} {fd : FuncData} (F : Fun K "_law_parts" "_law_parts" s__law_parts f fd) (bF : Binds K fd ["_law_row"] []) (mF : mg "_law_parts" = some (.ref f)) :
    Has P w K mg base (k + 1) "_law_parts" ["_law_row"] (f__law_parts) := ⟨f, fd, fn__law_parts F, bF, F.kp, mF⟩

/-! ### _law_parts_of -/
abbrev s__law_parts_of : Stmt := top 37
def b__law_parts_of (g__law_parts : Fn) : MS :=
  (mSeq (mSet 1 (mLstC mNil))
    (mSeq (mFor (mSeqI (mVar 0)) (.nm 2) (mExpr (mMeth isL aExtend (mVar 1) (mCons (mCall dList (mCons (mFn g__law_parts (mCons (mVar 2) mNil)) mNil)) mNil))))
    (mRet (mVar 1))))
def f__law_parts_of (g__law_parts : Fn) : Fn := callM 1 3 (b__law_parts_of g__law_parts)
theorem sc__law_parts_of : FnScope ["_law_rows", "_law_found", "_law_row"] ["_law_rows"] (defScope s__law_parts_of) := ⟨rfl, rfl, rfl, by decide +kernel, rfl, by decide +kernel, by decide +kernel⟩
theorem fn__law_parts_of {f : Addr} {fd : FuncData} {g__law_parts : Fn} (F : Fun K "_law_parts_of" "_law_parts_of" s__law_parts_of f fd)
    (h__law_parts : Has P w K mg base k "_law_parts" ["_law_row"] g__law_parts) (z_list : mg "list" = none) :
    FnG P w K mg base (k + 1) f fd ["_law_rows"] (f__law_parts_of g__law_parts) := by
  refine fnG_of F sc__law_parts_of (fun cdv A outer s H E hr hg => ?_)
  have sc := sc__law_parts_of
  have u1 := hu_of hr
  have u64 := hr.units
  have uR := u100 hr
  exact (pmss_cons (pms_set (i := 1) sc.nd rfl (.inl rfl) (pm_lstC pma_nil))
    (pmss_cons (pms_for (passes_of rfl) rfl (pmi_seq (pm_var (pv 0))) (pmg_name sc.nd rfl (.inl rfl)) (pmss_one (pms_expr (pm_meth PySem.F.plainAttrs_list PySem.F.slot_list_extend PySem.F.type_list_extend (.inl ⟨rfl, rfl⟩) md_extend (pm_var (pv 1)) (pma_cons (pm_callTy cd_list rfl z_list (by decide +kernel) (pma_cons (pm_callH h__law_parts hr hg (takes_of rfl rfl rfl rfl) rfl (pma_cons (pm_var (pv 2)) pma_nil)) pma_nil)) pma_nil)))))
    (pmss_one (pms_ret (pm_var (pv 1))))))
theorem ok__law_parts_of {f : Addr} {fd : FuncData} {g__law_parts : Fn} (F : Fun K "_law_parts_of" "_law_parts_of" s__law_parts_of f fd) (bF : Binds K fd ["_law_rows"] []) (mF : mg "_law_parts_of" = some (.ref f))
    (h__law_parts : Has P w K mg base k "_law_parts" ["_law_row"] g__law_parts) (z_list : mg "list" = none) :
    Has P w K mg base (k + 1) "_law_parts_of" ["_law_rows"] (f__law_parts_of g__law_parts) := ⟨f, fd, fn__law_parts_of F h__law_parts z_list, bF, F.kp, mF⟩

/-! ### _law_leaf -/
abbrev s__law_leaf : Stmt := top 38
def b__law_leaf (g__law_draw : Fn) : MS :=
  (mSeq (mIfS (mOrT (mTest (m2 dEq (mVar 1) (mTup mNil))) (mTest (m2 dEq (mFn g__law_draw (mCons (mVar 0) (mCons (mC (.int 3)) mNil))) (mC (.int 0))))) (mRet (m2 dIx (mLst (mCons (mC (.int 0)) (mCons (mC (.int 1)) (mCons (mC (.int 2)) (mCons (m1 dNeg (mC (.int 1))) (mCons (mC (.int 3)) (mCons (m1 dNeg (mC (.int 2))) (mCons (mC (.int 7)) (mCons (mC (.int 1)) mNil))))))))) (mFn g__law_draw (mCons (mVar 0) (mCons (mC (.int 8)) mNil))))) mSkip)
    (mRet (m2 dIx (mVar 1) (mFn g__law_draw (mCons (mVar 0) (mCons (mCall dLen (mCons (mVar 1) mNil)) mNil))))))
def f__law_leaf (g__law_draw : Fn) : Fn := callM 2 2 (b__law_leaf g__law_draw)
theorem sc__law_leaf : FnScope ["_law_feed_here", "_law_names_in_now"] ["_law_feed_here", "_law_names_in_now"] (defScope s__law_leaf) := ⟨rfl, rfl, rfl, by decide +kernel, rfl, by decide +kernel, by decide +kernel⟩
theorem fn__law_leaf {f : Addr} {fd : FuncData} {g__law_draw : Fn} (F : Fun K "_law_leaf" "_law_leaf" s__law_leaf f fd)
    (h__law_draw : Has P w K mg base k "_law_draw" ["_law_feed_here", "_law_many"] g__law_draw) (z_len : mg "len" = none) :
    FnG P w K mg base (k + 1) f fd ["_law_feed_here", "_law_names_in_now"] (f__law_leaf g__law_draw) := by
  refine fnG_of F sc__law_leaf (fun cdv A outer s H E hr hg => ?_)
  have sc := sc__law_leaf
  have u1 := hu_of hr
  have u64 := hr.units
  have uR := u100 hr
  exact (pmss_cons (pms_if (pmt_of (pmw_or (pmt_cmp (od_eq u64) (pm_var (pv 1)) (pm_tup pma_nil) (nomark _)) (pmw_or1 (pmt_cmp (od_eq u64) (pm_callH h__law_draw hr hg (takes_of rfl rfl rfl rfl) rfl (pma_cons (pm_var (pv 0)) (pma_cons pm_int pma_nil))) pm_int (nomark _))))) (pmss_one (pms_ret (pm_ix u1 (pm_lst (pma_cons pm_int (pma_cons pm_int (pma_cons pm_int (pma_cons (pm_un ud_neg pm_int) (pma_cons pm_int (pma_cons (pm_un ud_neg pm_int) (pma_cons pm_int (pma_cons pm_int pma_nil))))))))) (pm_callH h__law_draw hr hg (takes_of rfl rfl rfl rfl) rfl (pma_cons (pm_var (pv 0)) (pma_cons pm_int pma_nil))) (fun _ _ => rfl)))) pmss_nil)
    (pmss_one (pms_ret (pm_ix u1 (pm_var (pv 1)) (pm_callH h__law_draw hr hg (takes_of rfl rfl rfl rfl) rfl (pma_cons (pm_var (pv 0)) (pma_cons (pm_callB cd_len rfl z_len (by decide +kernel) (pma_cons (pm_var (pv 1)) pma_nil)) pma_nil))) (fun _ _ => rfl)))))
theorem ok__law_leaf {f : Addr} {fd : FuncData} {g__law_draw : Fn} (F : Fun K "_law_leaf" "_law_leaf" s__law_leaf f fd) (bF : Binds K fd ["_law_feed_here", "_law_names_in_now"] []) (mF : mg "_law_leaf" = some (.ref f))
    (h__law_draw : Has P w K mg base k "_law_draw" ["_law_feed_here", "_law_many"] g__law_draw) (z_len : mg "len" = none) :
    Has P w K mg base (k + 1) "_law_leaf" ["_law_feed_here", "_law_names_in_now"] (f__law_leaf g__law_draw) := ⟨f, fd, fn__law_leaf F h__law_draw z_len, bF, F.kp, mF⟩

/-! ### _law_formula -/
abbrev s__law_formula : Stmt := top 39
def b__law_formula (g__law_draw : Fn) (g__law_leaf : Fn) (g__law_sizes : Fn) (g__law_formula : Fn) : MS :=
  (mSeq (mIfS (mOrT (mTest (m2 dLt (mVar 2) (mC (.int 1)))) (mTest (m2 dEq (mFn g__law_draw (mCons (mVar 0) (mCons (mC (.int 4)) mNil))) (mC (.int 0))))) (mRet (mFn g__law_leaf (mCons (mVar 0) (mCons (mVar 1) mNil)))) mSkip)
    (mSeq (mSet 3 (mLst (mCons (mC (.str "+")) (mCons (mC (.str "-")) (mCons (mC (.str "*")) (mCons (mC (.str "div")) (mCons (mC (.str "mod")) (mCons (mC (.str "least")) (mCons (mC (.str "most")) (mCons (mC (.str "=")) (mCons (mC (.str "<")) (mCons (mC (.str "<=")) (mCons (mC (.str "and")) (mCons (mC (.str "or")) (mCons (mC (.str "not")) (mCons (mC (.str "neg")) (mCons (mC (.str "if")) mNil)))))))))))))))))
    (mSeq (mSet 4 (m2 dIx (m2 dAdd (mVar 3) (mLst (mCons (mC (.str "if")) mNil))) (mFn g__law_draw (mCons (mVar 0) (mCons (mC (.int 16)) mNil)))))
    (mRet (m2 dAdd (mTup (mCons (mVar 4) mNil)) (mCall dTuple (mCons (mLc (mRange1 (m2 dIx (mFn g__law_sizes mNil) (mVar 4))) (.nm 5) mYes (mFn g__law_formula (mCons (mVar 0) (mCons (mVar 1) (mCons (m2 dSub (mVar 2) (mC (.int 1))) mNil)))) [5]) mNil)))))))
def f__law_formula (g__law_draw : Fn) (g__law_leaf : Fn) (g__law_sizes : Fn) (g__law_formula : Fn) : Fn := callM 3 6 (b__law_formula g__law_draw g__law_leaf g__law_sizes g__law_formula)
theorem sc__law_formula : FnScope ["_law_feed_here", "_law_names_in_now", "_law_deep", "_law_words", "_law_word", "_law_k"] ["_law_feed_here", "_law_names_in_now", "_law_deep"] (defScope s__law_formula) := ⟨rfl, rfl, rfl, by decide +kernel, rfl, by decide +kernel, by decide +kernel⟩
theorem fn__law_formula {f : Addr} {fd : FuncData} {g__law_draw : Fn} {g__law_leaf : Fn} {g__law_sizes : Fn} {g__law_formula : Fn} (F : Fun K "_law_formula" "_law_formula" s__law_formula f fd)
    (h__law_draw : Has P w K mg base k "_law_draw" ["_law_feed_here", "_law_many"] g__law_draw)
    (h__law_leaf : Has P w K mg base k "_law_leaf" ["_law_feed_here", "_law_names_in_now"] g__law_leaf)
    (h__law_sizes : Has P w K mg base k "_law_sizes" [] g__law_sizes)
    (h__law_formula : Has P w K mg base k "_law_formula" ["_law_feed_here", "_law_names_in_now", "_law_deep"] g__law_formula) (z_tuple : mg "tuple" = none) (z_range : mg "range" = none) :
    FnG P w K mg base (k + 1) f fd ["_law_feed_here", "_law_names_in_now", "_law_deep"] (f__law_formula g__law_draw g__law_leaf g__law_sizes g__law_formula) := by
  refine fnG_of F sc__law_formula (fun cdv A outer s H E hr hg => ?_)
  have sc := sc__law_formula
  have u1 := hu_of hr
  have u64 := hr.units
  have uR := u100 hr
  exact (pmss_cons (pms_if (pmt_of (pmw_or (pmt_cmp od_lt (pm_var (pv 2)) pm_int (nomark _)) (pmw_or1 (pmt_cmp (od_eq u64) (pm_callH h__law_draw hr hg (takes_of rfl rfl rfl rfl) rfl (pma_cons (pm_var (pv 0)) (pma_cons pm_int pma_nil))) pm_int (nomark _))))) (pmss_one (pms_ret (pm_callH h__law_leaf hr hg (takes_of rfl rfl rfl rfl) rfl (pma_cons (pm_var (pv 0)) (pma_cons (pm_var (pv 1)) pma_nil))))) pmss_nil)
    (pmss_cons (pms_set (i := 3) sc.nd rfl (.inl rfl) (pm_lst (pma_cons pm_str (pma_cons pm_str (pma_cons pm_str (pma_cons pm_str (pma_cons pm_str (pma_cons pm_str (pma_cons pm_str (pma_cons pm_str (pma_cons pm_str (pma_cons pm_str (pma_cons pm_str (pma_cons pm_str (pma_cons pm_str (pma_cons pm_str (pma_cons pm_str pma_nil)))))))))))))))))
    (pmss_cons (pms_set (i := 4) sc.nd rfl (.inl rfl) (pm_ix u1 (pm_bin od_add (pm_var (pv 3)) (pm_lst (pma_cons pm_str pma_nil))) (pm_callH h__law_draw hr hg (takes_of rfl rfl rfl rfl) rfl (pma_cons (pm_var (pv 0)) (pma_cons pm_int pma_nil))) (fun _ _ => rfl)))
    (pmss_one (pms_ret (pm_bin od_add (pm_tup (pma_cons (pm_var (pv 4)) pma_nil)) (pm_callTy cd_tuple rfl z_tuple (by decide +kernel) (pma_cons (pm_lc rfl sc.nd (pmi_range1 rfl z_range (pm_ix u1 (pm_callH0 h__law_sizes hr hg (takes_of rfl rfl rfl rfl) rfl) (pm_var (pv 4)) (fun _ _ => rfl))) (own := [("_law_k", 5)]) (blk_of rfl (by kernel_rfl)) (by decide) (fun _ _ _ _ _ => (pmg_name sc.nd rfl (.inl rfl))) (fun _ _ _ _ _ => pmts_nil) (fun _ _ _ _ _ => (pm_callH h__law_formula hr hg takes0 rfl (pma_cons (pm_var (pv 0)) (pma_cons (pm_var (pv 1)) (pma_cons (pm_bin od_sub (pm_var (pv 2)) pm_int) pma_nil)))))) pma_nil))))))))
theorem ok__law_formula {f : Addr} {fd : FuncData} {g__law_draw : Fn} {g__law_leaf : Fn} {g__law_sizes : Fn} {g__law_formula : Fn} (F : Fun K "_law_formula" "_law_formula" s__law_formula f fd) (bF : Binds K fd ["_law_feed_here", "_law_names_in_now", "_law_deep"] []) (mF : mg "_law_formula" = some (.ref f))
    (h__law_draw : Has P w K mg base k "_law_draw" ["_law_feed_here", "_law_many"] g__law_draw)
    (h__law_leaf : Has P w K mg base k "_law_leaf" ["_law_feed_here", "_law_names_in_now"] g__law_leaf)
    (h__law_sizes : Has P w K mg base k "_law_sizes" [] g__law_sizes)
    (h__law_formula : Has P w K mg base k "_law_formula" ["_law_feed_here", "_law_names_in_now", "_law_deep"] g__law_formula) (z_tuple : mg "tuple" = none) (z_range : mg "range" = none) :
    Has P w K mg base (k + 1) "_law_formula" ["_law_feed_here", "_law_names_in_now", "_law_deep"] (f__law_formula g__law_draw g__law_leaf g__law_sizes g__law_formula) := ⟨f, fd, fn__law_formula F h__law_draw h__law_leaf h__law_sizes h__law_formula z_tuple z_range, bF, F.kp, mF⟩

/-! ### _law_variables -/
abbrev s__law_variables : Stmt := top 40
def b__law_variables (g__law_draw : Fn) : MS :=
  (mSeq (mSet 1 (mLst (mCons (mTup (mCons (mC (.str "a")) (mCons (mC (.str "b")) (mCons (mC (.str "x")) mNil)))) (mCons (mTup (mCons (mC (.str "end")) (mCons (mC (.str "if")) (mCons (mC (.str "set")) mNil)))) (mCons (mTup (mCons (mC (.str "x")) (mCons (mC (.str "least")) (mCons (mC (.str "n")) mNil)))) (mCons (mTup (mCons (mC (.str "test")) (mCons (mC (.str "zzzzzzzz")) (mCons (mC (.str "y")) mNil)))) mNil))))))
    (mSeq (mPar [2, 3] (mCons (mLstC mNil) (mCons (m2 dIx (mVar 1) (mFn g__law_draw (mCons (mVar 0) (mCons (mC (.int 4)) mNil)))) mNil)))
    (mSeq (mFor (mSeqI (mSl (mVar 3) (moSome (mFn g__law_draw (mCons (mVar 0) (mCons (mC (.int 3)) mNil)))) moNone)) (.nm 4) (mSeq (mSet 5 (m2 dSub (mFn g__law_draw (mCons (mVar 0) (mCons (mC (.int 4)) mNil))) (mC (.int 2))))
    (mExpr (mMeth isL aAppend (mVar 2) (mCons (mTup (mCons (mVar 4) (mCons (mVar 5) (mCons (m2 dAdd (mVar 5) (mFn g__law_draw (mCons (mVar 0) (mCons (mC (.int 4)) mNil)))) mNil)))) mNil)))))
    (mRet (mCall dTuple (mCons (mVar 2) mNil))))))
def f__law_variables (g__law_draw : Fn) : Fn := callM 1 6 (b__law_variables g__law_draw)
theorem sc__law_variables : FnScope ["_law_feed_here", "_law_menus", "_law_found", "_law_menu", "_law_name", "_law_low"] ["_law_feed_here"] (defScope s__law_variables) := ⟨rfl, rfl, rfl, by decide +kernel, rfl, by decide +kernel, by decide +kernel⟩
theorem fn__law_variables {f : Addr} {fd : FuncData} {g__law_draw : Fn} (F : Fun K "_law_variables" "_law_variables" s__law_variables f fd)
    (h__law_draw : Has P w K mg base k "_law_draw" ["_law_feed_here", "_law_many"] g__law_draw) (z_tuple : mg "tuple" = none) :
    FnG P w K mg base (k + 1) f fd ["_law_feed_here"] (f__law_variables g__law_draw) := by
  refine fnG_of F sc__law_variables (fun cdv A outer s H E hr hg => ?_)
  have sc := sc__law_variables
  have u1 := hu_of hr
  have u64 := hr.units
  have uR := u100 hr
  exact (pmss_cons (pms_set (i := 1) sc.nd rfl (.inl rfl) (pm_lst (pma_cons (pm_tup (pma_cons pm_str (pma_cons pm_str (pma_cons pm_str pma_nil)))) (pma_cons (pm_tup (pma_cons pm_str (pma_cons pm_str (pma_cons pm_str pma_nil)))) (pma_cons (pm_tup (pma_cons pm_str (pma_cons pm_str (pma_cons pm_str pma_nil)))) (pma_cons (pm_tup (pma_cons pm_str (pma_cons pm_str (pma_cons pm_str pma_nil)))) pma_nil))))))
    (pmss_cons (pms_par (i := 2) (j := 3) rfl sc.nd rfl rfl (by decide) rfl rfl (pma_cons (pm_lstC pma_nil) (pma_cons (pm_ix u1 (pm_var (pv 1)) (pm_callH h__law_draw hr hg (takes_of rfl rfl rfl rfl) rfl (pma_cons (pm_var (pv 0)) (pma_cons pm_int pma_nil))) (fun _ _ => rfl)) pma_nil)))
    (pmss_cons (pms_for (passes_of rfl) rfl (pmi_seq (pm_sl (pm_var (pv 3)) (pmo_some (pm_callH h__law_draw hr hg (takes_of rfl rfl rfl rfl) rfl (pma_cons (pm_var (pv 0)) (pma_cons pm_int pma_nil)))) pmo_none)) (pmg_name sc.nd rfl (.inl rfl)) (pmss_cons (pms_set (i := 5) sc.nd rfl (.inl rfl) (pm_bin od_sub (pm_callH h__law_draw hr hg (takes_of rfl rfl rfl rfl) rfl (pma_cons (pm_var (pv 0)) (pma_cons pm_int pma_nil))) pm_int))
    (pmss_one (pms_expr (pm_meth PySem.F.plainAttrs_list PySem.F.slot_list_append PySem.F.type_list_append (.inl ⟨rfl, rfl⟩) md_append (pm_var (pv 2)) (pma_cons (pm_tup (pma_cons (pm_var (pv 4)) (pma_cons (pm_var (pv 5)) (pma_cons (pm_bin od_add (pm_var (pv 5)) (pm_callH h__law_draw hr hg (takes_of rfl rfl rfl rfl) rfl (pma_cons (pm_var (pv 0)) (pma_cons pm_int pma_nil)))) pma_nil)))) pma_nil))))))
    (pmss_one (pms_ret (pm_callTy cd_tuple rfl z_tuple (by decide +kernel) (pma_cons (pm_var (pv 2)) pma_nil)))))))
theorem ok__law_variables {f : Addr} {fd : FuncData} {g__law_draw : Fn} (F : Fun K "_law_variables" "_law_variables" s__law_variables f fd) (bF : Binds K fd ["_law_feed_here"] []) (mF : mg "_law_variables" = some (.ref f))
    (h__law_draw : Has P w K mg base k "_law_draw" ["_law_feed_here", "_law_many"] g__law_draw) (z_tuple : mg "tuple" = none) :
    Has P w K mg base (k + 1) "_law_variables" ["_law_feed_here"] (f__law_variables g__law_draw) := ⟨f, fd, fn__law_variables F h__law_draw z_tuple, bF, F.kp, mF⟩

/-! ### _law_heads -/
abbrev s__law_heads : Stmt := top 41
def b__law_heads (g__law_draw : Fn) (g__law_variables : Fn) : MS :=
  (mSeq (mSet 1 (mLstC mNil))
    (mSeq (mFor (mSeqI (m2 dIx (mLst (mCons (mTup (mCons (mC (.str "f")) (mCons (mC (.str "main")) mNil))) (mCons (mTup (mCons (mC (.str "call")) (mCons (mC (.str "end")) (mCons (mC (.str "g")) mNil)))) (mCons (mTup (mCons (mC (.str "p")) (mCons (mC (.str "q")) (mCons (mC (.str "zz")) mNil)))) (mCons (mTup (mCons (mC (.str "main")) (mCons (mC (.str "x")) mNil))) mNil))))) (mFn g__law_draw (mCons (mVar 0) (mCons (mC (.int 4)) mNil))))) (.nm 2) (mSeq (mPar [3, 4] (mCons (m2 dSub (mFn g__law_draw (mCons (mVar 0) (mCons (mC (.int 3)) mNil))) (mC (.int 1))) (mCons (mFn g__law_variables (mCons (mVar 0) mNil)) mNil)))
    (mExpr (mMeth isL aAppend (mVar 1) (mCons (mTup (mCons (mVar 2) (mCons (mVar 3) (mCons (m2 dAdd (mVar 3) (mFn g__law_draw (mCons (mVar 0) (mCons (mC (.int 4)) mNil)))) (mCons (mVar 4) (mCons (mFn g__law_draw (mCons (mVar 0) (mCons (m2 dAdd (mCall dLen (mCons (mVar 4) mNil)) (mC (.int 1))) mNil))) mNil)))))) mNil)))))
    (mRet (mVar 1))))
def f__law_heads (g__law_draw : Fn) (g__law_variables : Fn) : Fn := callM 1 5 (b__law_heads g__law_draw g__law_variables)
theorem sc__law_heads : FnScope ["_law_feed_here", "_law_found", "_law_name", "_law_low", "_law_variables_here"] ["_law_feed_here"] (defScope s__law_heads) := ⟨rfl, rfl, rfl, by decide +kernel, rfl, by decide +kernel, by decide +kernel⟩
theorem fn__law_heads {f : Addr} {fd : FuncData} {g__law_draw : Fn} {g__law_variables : Fn} (F : Fun K "_law_heads" "_law_heads" s__law_heads f fd)
    (h__law_draw : Has P w K mg base k "_law_draw" ["_law_feed_here", "_law_many"] g__law_draw)
    (h__law_variables : Has P w K mg base k "_law_variables" ["_law_feed_here"] g__law_variables) (z_len : mg "len" = none) :
    FnG P w K mg base (k + 1) f fd ["_law_feed_here"] (f__law_heads g__law_draw g__law_variables) := by
  refine fnG_of F sc__law_heads (fun cdv A outer s H E hr hg => ?_)
  have sc := sc__law_heads
  have u1 := hu_of hr
  have u64 := hr.units
  have uR := u100 hr
  exact (pmss_cons (pms_set (i := 1) sc.nd rfl (.inl rfl) (pm_lstC pma_nil))
    (pmss_cons (pms_for (passes_of rfl) rfl (pmi_seq (pm_ix u1 (pm_lst (pma_cons (pm_tup (pma_cons pm_str (pma_cons pm_str pma_nil))) (pma_cons (pm_tup (pma_cons pm_str (pma_cons pm_str (pma_cons pm_str pma_nil)))) (pma_cons (pm_tup (pma_cons pm_str (pma_cons pm_str (pma_cons pm_str pma_nil)))) (pma_cons (pm_tup (pma_cons pm_str (pma_cons pm_str pma_nil))) pma_nil))))) (pm_callH h__law_draw hr hg (takes_of rfl rfl rfl rfl) rfl (pma_cons (pm_var (pv 0)) (pma_cons pm_int pma_nil))) (fun _ _ => rfl))) (pmg_name sc.nd rfl (.inl rfl)) (pmss_cons (pms_par (i := 3) (j := 4) rfl sc.nd rfl rfl (by decide) rfl rfl (pma_cons (pm_bin od_sub (pm_callH h__law_draw hr hg (takes_of rfl rfl rfl rfl) rfl (pma_cons (pm_var (pv 0)) (pma_cons pm_int pma_nil))) pm_int) (pma_cons (pm_callH h__law_variables hr hg (takes_of rfl rfl rfl rfl) rfl (pma_cons (pm_var (pv 0)) pma_nil)) pma_nil)))
    (pmss_one (pms_expr (pm_meth PySem.F.plainAttrs_list PySem.F.slot_list_append PySem.F.type_list_append (.inl ⟨rfl, rfl⟩) md_append (pm_var (pv 1)) (pma_cons (pm_tup (pma_cons (pm_var (pv 2)) (pma_cons (pm_var (pv 3)) (pma_cons (pm_bin od_add (pm_var (pv 3)) (pm_callH h__law_draw hr hg (takes_of rfl rfl rfl rfl) rfl (pma_cons (pm_var (pv 0)) (pma_cons pm_int pma_nil)))) (pma_cons (pm_var (pv 4)) (pma_cons (pm_callH h__law_draw hr hg (takes_of rfl rfl rfl rfl) rfl (pma_cons (pm_var (pv 0)) (pma_cons (pm_bin od_add (pm_callB cd_len rfl z_len (by decide +kernel) (pma_cons (pm_var (pv 4)) pma_nil)) pm_int) pma_nil))) pma_nil)))))) pma_nil))))))
    (pmss_one (pms_ret (pm_var (pv 1))))))
theorem ok__law_heads {f : Addr} {fd : FuncData} {g__law_draw : Fn} {g__law_variables : Fn} (F : Fun K "_law_heads" "_law_heads" s__law_heads f fd) (bF : Binds K fd ["_law_feed_here"] []) (mF : mg "_law_heads" = some (.ref f))
    (h__law_draw : Has P w K mg base k "_law_draw" ["_law_feed_here", "_law_many"] g__law_draw)
    (h__law_variables : Has P w K mg base k "_law_variables" ["_law_feed_here"] g__law_variables) (z_len : mg "len" = none) :
    Has P w K mg base (k + 1) "_law_heads" ["_law_feed_here"] (f__law_heads g__law_draw g__law_variables) := ⟨f, fd, fn__law_heads F h__law_draw h__law_variables z_len, bF, F.kp, mF⟩

/-! ### _law_plain_row -/
abbrev s__law_plain_row : Stmt := top 42
def b__law_plain_row (g__law_formula : Fn) (g__law_draw : Fn) : MS :=
  (mSeq (mSet 4 (mFn g__law_formula (mCons (mVar 0) (mCons (mVar 1) (mCons (mC (.int 2)) mNil)))))
    (mSeq (mIfS (mTest (m2 dEq (mVar 3) (mC (.int 2)))) (mRet (mTup (mCons (mC (.str "return")) (mCons (mVar 4) mNil)))) mSkip)
    (mSeq (mSet 5 (m2 dIx (mVar 1) (mFn g__law_draw (mCons (mVar 0) (mCons (mCall dLen (mCons (mVar 1) mNil)) mNil)))))
    (mSeq (mIfS (mTest (m2 dNe (mVar 3) (mC (.int 5)))) (mRet (mTup (mCons (mC (.str "set")) (mCons (mVar 5) (mCons (mVar 4) mNil))))) mSkip)
    (mSeq (mSet 6 (m2 dIx (mVar 2) (mFn g__law_draw (mCons (mVar 0) (mCons (mCall dLen (mCons (mVar 2) mNil)) mNil)))))
    (mRet (mTup (mCons (mC (.str "call")) (mCons (mVar 5) (mCons (m2 dIx (mVar 6) (mC (.int 0))) (mCons (mCall dTuple (mCons (mLc (mRange1 (m2 dIx (mVar 6) (mC (.int 4)))) (.nm 7) mYes (mFn g__law_formula (mCons (mVar 0) (mCons (mVar 1) (mCons (mC (.int 1)) mNil)))) [7]) mNil)) mNil)))))))))))
def f__law_plain_row (g__law_formula : Fn) (g__law_draw : Fn) : Fn := callM 4 8 (b__law_plain_row g__law_formula g__law_draw)
theorem sc__law_plain_row : FnScope ["_law_feed_here", "_law_names_in_now", "_law_heads_here", "_law_way", "_law_e", "_law_name", "_law_other", "_law_k"] ["_law_feed_here", "_law_names_in_now", "_law_heads_here", "_law_way"] (defScope s__law_plain_row) := ⟨rfl, rfl, rfl, by decide +kernel, rfl, by decide +kernel, by decide +kernel⟩
theorem fn__law_plain_row {f : Addr} {fd : FuncData} {g__law_formula : Fn} {g__law_draw : Fn} (F : Fun K "_law_plain_row" "_law_plain_row" s__law_plain_row f fd)
    (h__law_formula : Has P w K mg base k "_law_formula" ["_law_feed_here", "_law_names_in_now", "_law_deep"] g__law_formula)
    (h__law_draw : Has P w K mg base k "_law_draw" ["_law_feed_here", "_law_many"] g__law_draw) (z_len : mg "len" = none) (z_tuple : mg "tuple" = none) (z_range : mg "range" = none) :
    FnG P w K mg base (k + 1) f fd ["_law_feed_here", "_law_names_in_now", "_law_heads_here", "_law_way"] (f__law_plain_row g__law_formula g__law_draw) := by
  refine fnG_of F sc__law_plain_row (fun cdv A outer s H E hr hg => ?_)
  have sc := sc__law_plain_row
  have u1 := hu_of hr
  have u64 := hr.units
  have uR := u100 hr
  exact (pmss_cons (pms_set (i := 4) sc.nd rfl (.inl rfl) (pm_callH h__law_formula hr hg (takes_of rfl rfl rfl rfl) rfl (pma_cons (pm_var (pv 0)) (pma_cons (pm_var (pv 1)) (pma_cons pm_int pma_nil)))))
    (pmss_cons (pms_if (pmt_cmp (od_eq u64) (pm_var (pv 3)) pm_int (nomark _)) (pmss_one (pms_ret (pm_tup (pma_cons pm_str (pma_cons (pm_var (pv 4)) pma_nil))))) pmss_nil)
    (pmss_cons (pms_set (i := 5) sc.nd rfl (.inl rfl) (pm_ix u1 (pm_var (pv 1)) (pm_callH h__law_draw hr hg (takes_of rfl rfl rfl rfl) rfl (pma_cons (pm_var (pv 0)) (pma_cons (pm_callB cd_len rfl z_len (by decide +kernel) (pma_cons (pm_var (pv 1)) pma_nil)) pma_nil))) (fun _ _ => rfl)))
    (pmss_cons (pms_if (pmt_cmp (od_ne u64) (pm_var (pv 3)) pm_int (nomark _)) (pmss_one (pms_ret (pm_tup (pma_cons pm_str (pma_cons (pm_var (pv 5)) (pma_cons (pm_var (pv 4)) pma_nil)))))) pmss_nil)
    (pmss_cons (pms_set (i := 6) sc.nd rfl (.inl rfl) (pm_ix u1 (pm_var (pv 2)) (pm_callH h__law_draw hr hg (takes_of rfl rfl rfl rfl) rfl (pma_cons (pm_var (pv 0)) (pma_cons (pm_callB cd_len rfl z_len (by decide +kernel) (pma_cons (pm_var (pv 2)) pma_nil)) pma_nil))) (fun _ _ => rfl)))
    (pmss_one (pms_ret (pm_tup (pma_cons pm_str (pma_cons (pm_var (pv 5)) (pma_cons (pm_ix u1 (pm_var (pv 6)) pm_int (fun _ _ => rfl)) (pma_cons (pm_callTy cd_tuple rfl z_tuple (by decide +kernel) (pma_cons (pm_lc rfl sc.nd (pmi_range1 rfl z_range (pm_ix u1 (pm_var (pv 6)) pm_int (fun _ _ => rfl))) (own := [("_law_k", 7)]) (blk_of rfl (by kernel_rfl)) (by decide) (fun _ _ _ _ _ => (pmg_name sc.nd rfl (.inl rfl))) (fun _ _ _ _ _ => pmts_nil) (fun _ _ _ _ _ => (pm_callH h__law_formula hr hg takes0 rfl (pma_cons (pm_var (pv 0)) (pma_cons (pm_var (pv 1)) (pma_cons pm_int pma_nil)))))) pma_nil)) pma_nil))))))))))))
theorem ok__law_plain_row {f : Addr} {fd : FuncData} {g__law_formula : Fn} {g__law_draw : Fn} (F : Fun K "_law_plain_row" "_law_plain_row" s__law_plain_row f fd) (bF : Binds K fd ["_law_feed_here", "_law_names_in_now", "_law_heads_here", "_law_way"] []) (mF : mg "_law_plain_row" = some (.ref f))
    (h__law_formula : Has P w K mg base k "_law_formula" ["_law_feed_here", "_law_names_in_now", "_law_deep"] g__law_formula)
    (h__law_draw : Has P w K mg base k "_law_draw" ["_law_feed_here", "_law_many"] g__law_draw) (z_len : mg "len" = none) (z_tuple : mg "tuple" = none) (z_range : mg "range" = none) :
    Has P w K mg base (k + 1) "_law_plain_row" ["_law_feed_here", "_law_names_in_now", "_law_heads_here", "_law_way"] (f__law_plain_row g__law_formula g__law_draw) := ⟨f, fd, fn__law_plain_row F h__law_formula h__law_draw z_len z_tuple z_range, bF, F.kp, mF⟩

/-! ### _law_block -/
abbrev s__law_block : Stmt := top 43
def b__law_block (g__law_draw : Fn) (g__law_block : Fn) (g__law_formula : Fn) (g__law_plain_row : Fn) (g__law_parts : Fn) : MS :=
  (mSeq (mSet 5 (mLstC mNil))
    (mSeq (mFor (mRange1 (m2 dAdd (mC (.int 1)) (mFn g__law_draw (mCons (mVar 0) (mCons (mC (.int 3)) mNil))))) (.nm 6) (mSeq (mSet 7 (mFn g__law_draw (mCons (mVar 0) (mCons (mC (.int 7)) mNil))))
    (mIfS (mAndT (mTest (m2 dIn (mVar 7) (mTup (mCons (mC (.int 3)) (mCons (mC (.int 4)) mNil))))) (mAndT (mTest (m2 dGt (mVar 3) (mC (.int 0)))) (mTest (m2 dGt (mVar 4) (mC (.int 0)))))) (mSeq (mPar [8, 9] (mCons (m2 dIx (mLst (mCons (mC (.str "if")) (mCons (mC (.str "while")) mNil))) (m2 dSub (mVar 7) (mC (.int 3)))) (mCons (mLst mNil) mNil)))
    (mSeq (mAsg (mFn g__law_block (mCons (mVar 0) (mCons (mVar 1) (mCons (mVar 2) (mCons (m2 dSub (mVar 3) (mC (.int 1))) (mCons (m2 dSub (mVar 4) (mC (.int 1))) mNil)))))) (.tp [10, 4]))
    (mSeq (mIfS (mAndT (mTest (m2 dEq (mVar 8) (mC (.str "if")))) (mTest (m2 dEq (mFn g__law_draw (mCons (mVar 0) (mCons (mC (.int 2)) mNil))) (mC (.int 0))))) (mSeq (mAsg (mFn g__law_block (mCons (mVar 0) (mCons (mVar 1) (mCons (mVar 2) (mCons (m2 dSub (mVar 3) (mC (.int 1))) (mCons (mVar 4) mNil)))))) (.tp [9, 4]))
    (mSet 9 (m2 dAdd (mLst (mCons (mTup (mCons (mC (.str "else")) mNil)) mNil)) (mVar 9)))) mSkip)
    (mExpr (mMeth isL aExtend (mVar 5) (mCons (m2 dAdd (m2 dAdd (m2 dAdd (mLst (mCons (mTup (mCons (mVar 8) (mCons (mFn g__law_formula (mCons (mVar 0) (mCons (mVar 1) (mCons (mC (.int 2)) mNil)))) mNil))) mNil)) (mVar 10)) (mVar 9)) (mLst (mCons (mTup (mCons (mC (.str "end")) mNil)) mNil))) mNil)))))) (mSeq (mSet 11 (mFn g__law_plain_row (mCons (mVar 0) (mCons (mVar 1) (mCons (mVar 2) (mCons (mVar 7) mNil))))))
    (mSeq (mSet 12 (mCall dMax (mCons (mC (.int 1)) (mCons (mCall dLen (mCons (mFn g__law_parts (mCons (mVar 11) mNil)) mNil)) mNil))))
    (mIfS (mTest (m2 dLe (mVar 12) (mVar 4))) (mSeq (mExpr (mMeth isL aAppend (mVar 5) (mCons (mVar 11) mNil)))
    (mSet 4 (m2 dSub (mVar 4) (mVar 12)))) mSkip))))))
    (mFz (mRet (mTup (mCons (mVar 5) (mCons (mVar 4) mNil)))))))
def f__law_block (g__law_draw : Fn) (g__law_block : Fn) (g__law_formula : Fn) (g__law_plain_row : Fn) (g__law_parts : Fn) : Fn := callM 5 13 (b__law_block g__law_draw g__law_block g__law_formula g__law_plain_row g__law_parts)
theorem sc__law_block : FnScope ["_law_feed_here", "_law_names_in_now", "_law_heads_here", "_law_deep", "_law_left", "_law_found", "_law_k", "_law_way", "_law_word", "_law_more", "_law_inner", "_law_row", "_law_size"] ["_law_feed_here", "_law_names_in_now", "_law_heads_here", "_law_deep", "_law_left"] (defScope s__law_block) := ⟨rfl, rfl, rfl, by decide +kernel, rfl, by decide +kernel, by decide +kernel⟩
theorem fn__law_block {f : Addr} {fd : FuncData} {g__law_draw : Fn} {g__law_block : Fn} {g__law_formula : Fn} {g__law_plain_row : Fn} {g__law_parts : Fn} (F : Fun K "_law_block" "_law_block" s__law_block f fd)
    (h__law_draw : Has P w K mg base k "_law_draw" ["_law_feed_here", "_law_many"] g__law_draw)
    (h__law_block : Has P w K mg base k "_law_block" ["_law_feed_here", "_law_names_in_now", "_law_heads_here", "_law_deep", "_law_left"] g__law_block)
    (h__law_formula : Has P w K mg base k "_law_formula" ["_law_feed_here", "_law_names_in_now", "_law_deep"] g__law_formula)
    (h__law_plain_row : Has P w K mg base k "_law_plain_row" ["_law_feed_here", "_law_names_in_now", "_law_heads_here", "_law_way"] g__law_plain_row)
    (h__law_parts : Has P w K mg base k "_law_parts" ["_law_row"] g__law_parts) (z_range : mg "range" = none) (z_max : mg "max" = none) (z_len : mg "len" = none) :
    FnG P w K mg base (k + 1) f fd ["_law_feed_here", "_law_names_in_now", "_law_heads_here", "_law_deep", "_law_left"] (f__law_block g__law_draw g__law_block g__law_formula g__law_plain_row g__law_parts) := by
  refine fnG_of F sc__law_block (fun cdv A outer s H E hr hg => ?_)
  have sc := sc__law_block
  have u1 := hu_of hr
  have u64 := hr.units
  have uR := u100 hr
  exact (pmss_cons (pms_set (i := 5) sc.nd rfl (.inl rfl) (pm_lstC pma_nil))
    (pmss_cons (pms_for (passes_of rfl) rfl (pmi_range1 rfl z_range (pm_bin od_add pm_int (pm_callH h__law_draw hr hg (takes_of rfl rfl rfl rfl) rfl (pma_cons (pm_var (pv 0)) (pma_cons pm_int pma_nil))))) (pmg_name sc.nd rfl (.inl rfl)) (pmss_cons (pms_set (i := 7) sc.nd rfl (.inl rfl) (pm_callH h__law_draw hr hg (takes_of rfl rfl rfl rfl) rfl (pma_cons (pm_var (pv 0)) (pma_cons pm_int pma_nil))))
    (pmss_one (pms_if (pmt_of (pmw_and (pmt_cmp (od_in u1) (pm_var (pv 7)) (pm_tup (pma_cons pm_int (pma_cons pm_int pma_nil))) (by with_unfolding_all rfl)) (pmw_and (pmt_cmp od_gt (pm_var (pv 3)) pm_int (nomark _)) (pmw_and1 (pmt_cmp od_gt (pm_var (pv 4)) pm_int (nomark _)))))) (pmss_cons (pms_par (i := 8) (j := 9) rfl sc.nd rfl rfl (by decide) rfl rfl (pma_cons (pm_ix u1 (pm_lst (pma_cons pm_str (pma_cons pm_str pma_nil))) (pm_bin od_sub (pm_var (pv 7)) pm_int) (fun _ _ => rfl)) (pma_cons (pm_lst pma_nil) pma_nil)))
    (pmss_cons (pms_asg (pm_callH h__law_block hr hg (takes_of rfl rfl rfl rfl) rfl (pma_cons (pm_var (pv 0)) (pma_cons (pm_var (pv 1)) (pma_cons (pm_var (pv 2)) (pma_cons (pm_bin od_sub (pm_var (pv 3)) pm_int) (pma_cons (pm_bin od_sub (pm_var (pv 4)) pm_int) pma_nil)))))) (pmg_tup rfl (pmgs_cons sc.nd (i := 10) rfl (.inl rfl) (pmgs_cons sc.nd (i := 4) rfl (.inl rfl) pmgs_nil))))
    (pmss_cons (pms_if (pmt_of (pmw_and (pmt_cmp (od_eq u64) (pm_var (pv 8)) pm_str (nomark _)) (pmw_and1 (pmt_cmp (od_eq u64) (pm_callH h__law_draw hr hg (takes_of rfl rfl rfl rfl) rfl (pma_cons (pm_var (pv 0)) (pma_cons pm_int pma_nil))) pm_int (nomark _))))) (pmss_cons (pms_asg (pm_callH h__law_block hr hg (takes_of rfl rfl rfl rfl) rfl (pma_cons (pm_var (pv 0)) (pma_cons (pm_var (pv 1)) (pma_cons (pm_var (pv 2)) (pma_cons (pm_bin od_sub (pm_var (pv 3)) pm_int) (pma_cons (pm_var (pv 4)) pma_nil)))))) (pmg_tup rfl (pmgs_cons sc.nd (i := 9) rfl (.inl rfl) (pmgs_cons sc.nd (i := 4) rfl (.inl rfl) pmgs_nil))))
    (pmss_one (pms_set (i := 9) sc.nd rfl (.inl rfl) (pm_bin od_add (pm_lst (pma_cons (pm_tup (pma_cons pm_str pma_nil)) pma_nil)) (pm_var (pv 9)))))) pmss_nil)
    (pmss_one (pms_expr (pm_meth PySem.F.plainAttrs_list PySem.F.slot_list_extend PySem.F.type_list_extend (.inl ⟨rfl, rfl⟩) md_extend (pm_var (pv 5)) (pma_cons (pm_bin od_add (pm_bin od_add (pm_bin od_add (pm_lst (pma_cons (pm_tup (pma_cons (pm_var (pv 8)) (pma_cons (pm_callH h__law_formula hr hg (takes_of rfl rfl rfl rfl) rfl (pma_cons (pm_var (pv 0)) (pma_cons (pm_var (pv 1)) (pma_cons pm_int pma_nil)))) pma_nil))) pma_nil)) (pm_var (pv 10))) (pm_var (pv 9))) (pm_lst (pma_cons (pm_tup (pma_cons pm_str pma_nil)) pma_nil))) pma_nil))))))) (pmss_cons (pms_set (i := 11) sc.nd rfl (.inl rfl) (pm_callH h__law_plain_row hr hg (takes_of rfl rfl rfl rfl) rfl (pma_cons (pm_var (pv 0)) (pma_cons (pm_var (pv 1)) (pma_cons (pm_var (pv 2)) (pma_cons (pm_var (pv 7)) pma_nil))))))
    (pmss_cons (pms_set (i := 12) sc.nd rfl (.inl rfl) (pm_callB (cd_max rfl) rfl z_max (by decide +kernel) (pma_cons pm_int (pma_cons (pm_callB cd_len rfl z_len (by decide +kernel) (pma_cons (pm_callH h__law_parts hr hg (takes_of rfl rfl rfl rfl) rfl (pma_cons (pm_var (pv 11)) pma_nil)) pma_nil)) pma_nil))))
    (pmss_one (pms_if (pmt_cmp od_le (pm_var (pv 12)) (pm_var (pv 4)) (nomark _)) (pmss_cons (pms_expr (pm_meth PySem.F.plainAttrs_list PySem.F.slot_list_append PySem.F.type_list_append (.inl ⟨rfl, rfl⟩) md_append (pm_var (pv 5)) (pma_cons (pm_var (pv 11)) pma_nil)))
    (pmss_one (pms_set (i := 4) sc.nd rfl (.inl rfl) (pm_bin od_sub (pm_var (pv 4)) (pm_var (pv 12)))))) pmss_nil))))))))
    (pmss_one (pms_fz (pms_ret (pm_tup (pma_cons (pm_var (pv 5)) (pma_cons (pm_var (pv 4)) pma_nil))))))))
theorem ok__law_block {f : Addr} {fd : FuncData} {g__law_draw : Fn} {g__law_block : Fn} {g__law_formula : Fn} {g__law_plain_row : Fn} {g__law_parts : Fn} (F : Fun K "_law_block" "_law_block" s__law_block f fd) (bF : Binds K fd ["_law_feed_here", "_law_names_in_now", "_law_heads_here", "_law_deep", "_law_left"] []) (mF : mg "_law_block" = some (.ref f))
    (h__law_draw : Has P w K mg base k "_law_draw" ["_law_feed_here", "_law_many"] g__law_draw)
    (h__law_block : Has P w K mg base k "_law_block" ["_law_feed_here", "_law_names_in_now", "_law_heads_here", "_law_deep", "_law_left"] g__law_block)
    (h__law_formula : Has P w K mg base k "_law_formula" ["_law_feed_here", "_law_names_in_now", "_law_deep"] g__law_formula)
    (h__law_plain_row : Has P w K mg base k "_law_plain_row" ["_law_feed_here", "_law_names_in_now", "_law_heads_here", "_law_way"] g__law_plain_row)
    (h__law_parts : Has P w K mg base k "_law_parts" ["_law_row"] g__law_parts) (z_range : mg "range" = none) (z_max : mg "max" = none) (z_len : mg "len" = none) :
    Has P w K mg base (k + 1) "_law_block" ["_law_feed_here", "_law_names_in_now", "_law_heads_here", "_law_deep", "_law_left"] (f__law_block g__law_draw g__law_block g__law_formula g__law_plain_row g__law_parts) := ⟨f, fd, fn__law_block F h__law_draw h__law_block h__law_formula h__law_plain_row h__law_parts z_range z_max z_len, bF, F.kp, mF⟩

/-! ### _law_program -/
abbrev s__law_program : Stmt := top 44
def b__law_program (g__law_heads : Fn) (g__law_block : Fn) (g__law_draw : Fn) : MS :=
  (mSeq (mPar [1, 2] (mCons (mFn g__law_heads (mCons (mVar 0) mNil)) (mCons (mLstC mNil) mNil)))
    (mSeq (mFor (mSeqI (mVar 1)) (.nm 3) (mSeq (mSet 4 (mCall dTuple (mCons (mLc (mSeqI (m2 dIx (mVar 3) (mC (.int 3)))) (.nm 5) mYes (m2 dIx (mVar 5) (mC (.int 0))) [5]) mNil)))
    (mExpr (mMeth isL aAppend (mVar 2) (mCons (m2 dAdd (mVar 3) (mTup (mCons (mCall dTuple (mCons (m2 dIx (mFn g__law_block (mCons (mVar 0) (mCons (mVar 4) (mCons (mVar 1) (mCons (mC (.int 2)) (mCons (mC (.int 5)) mNil)))))) (mC (.int 0))) mNil)) mNil))) mNil)))))
    (mRet (mTup (mCons (mCall dTuple (mCons (mVar 2) mNil)) (mCons (m2 dIx (m2 dIx (mVar 1) (mFn g__law_draw (mCons (mVar 0) (mCons (mCall dLen (mCons (mVar 1) mNil)) mNil)))) (mC (.int 0))) (mCons (m2 dAdd (mC (.int 1)) (mFn g__law_draw (mCons (mVar 0) (mCons (mC (.int 60)) mNil)))) mNil)))))))
def f__law_program (g__law_heads : Fn) (g__law_block : Fn) (g__law_draw : Fn) : Fn := callM 1 6 (b__law_program g__law_heads g__law_block g__law_draw)
theorem sc__law_program : FnScope ["_law_feed_here", "_law_heads_here", "_law_found", "_law_own", "_law_names_in_now", "_law_variable"] ["_law_feed_here"] (defScope s__law_program) := ⟨rfl, rfl, rfl, by decide +kernel, rfl, by decide +kernel, by decide +kernel⟩
theorem fn__law_program {f : Addr} {fd : FuncData} {g__law_heads : Fn} {g__law_block : Fn} {g__law_draw : Fn} (F : Fun K "_law_program" "_law_program" s__law_program f fd)
    (h__law_heads : Has P w K mg base k "_law_heads" ["_law_feed_here"] g__law_heads)
    (h__law_block : Has P w K mg base k "_law_block" ["_law_feed_here", "_law_names_in_now", "_law_heads_here", "_law_deep", "_law_left"] g__law_block)
    (h__law_draw : Has P w K mg base k "_law_draw" ["_law_feed_here", "_law_many"] g__law_draw) (z_tuple : mg "tuple" = none) (z_len : mg "len" = none) :
    FnG P w K mg base (k + 1) f fd ["_law_feed_here"] (f__law_program g__law_heads g__law_block g__law_draw) := by
  refine fnG_of F sc__law_program (fun cdv A outer s H E hr hg => ?_)
  have sc := sc__law_program
  have u1 := hu_of hr
  have u64 := hr.units
  have uR := u100 hr
  exact (pmss_cons (pms_par (i := 1) (j := 2) rfl sc.nd rfl rfl (by decide) rfl rfl (pma_cons (pm_callH h__law_heads hr hg (takes_of rfl rfl rfl rfl) rfl (pma_cons (pm_var (pv 0)) pma_nil)) (pma_cons (pm_lstC pma_nil) pma_nil)))
    (pmss_cons (pms_for (passes_of rfl) rfl (pmi_seq (pm_var (pv 1))) (pmg_name sc.nd rfl (.inl rfl)) (pmss_cons (pms_set (i := 4) sc.nd rfl (.inl rfl) (pm_callTy cd_tuple rfl z_tuple (by decide +kernel) (pma_cons (pm_lc rfl sc.nd (pmi_seq (pm_ix u1 (pm_var (pv 3)) pm_int (fun _ _ => rfl))) (own := [("_law_variable", 5)]) (blk_of rfl (by kernel_rfl)) (by decide) (fun _ _ _ _ _ => (pmg_name sc.nd rfl (.inl rfl))) (fun _ _ _ _ _ => pmts_nil) (fun _ _ _ _ _ => (pm_ix u1 (pm_var (pv 5)) pm_int (fun _ _ => rfl)))) pma_nil)))
    (pmss_one (pms_expr (pm_meth PySem.F.plainAttrs_list PySem.F.slot_list_append PySem.F.type_list_append (.inl ⟨rfl, rfl⟩) md_append (pm_var (pv 2)) (pma_cons (pm_bin od_add (pm_var (pv 3)) (pm_tup (pma_cons (pm_callTy cd_tuple rfl z_tuple (by decide +kernel) (pma_cons (pm_ix u1 (pm_callH h__law_block hr hg (takes_of rfl rfl rfl rfl) rfl (pma_cons (pm_var (pv 0)) (pma_cons (pm_var (pv 4)) (pma_cons (pm_var (pv 1)) (pma_cons pm_int (pma_cons pm_int pma_nil)))))) pm_int (fun _ _ => rfl)) pma_nil)) pma_nil))) pma_nil))))))
    (pmss_one (pms_ret (pm_tup (pma_cons (pm_callTy cd_tuple rfl z_tuple (by decide +kernel) (pma_cons (pm_var (pv 2)) pma_nil)) (pma_cons (pm_ix u1 (pm_ix u1 (pm_var (pv 1)) (pm_callH h__law_draw hr hg (takes_of rfl rfl rfl rfl) rfl (pma_cons (pm_var (pv 0)) (pma_cons (pm_callB cd_len rfl z_len (by decide +kernel) (pma_cons (pm_var (pv 1)) pma_nil)) pma_nil))) (fun _ _ => rfl)) pm_int (fun _ _ => rfl)) (pma_cons (pm_bin od_add pm_int (pm_callH h__law_draw hr hg (takes_of rfl rfl rfl rfl) rfl (pma_cons (pm_var (pv 0)) (pma_cons pm_int pma_nil)))) pma_nil))))))))
theorem ok__law_program {f : Addr} {fd : FuncData} {g__law_heads : Fn} {g__law_block : Fn} {g__law_draw : Fn} (F : Fun K "_law_program" "_law_program" s__law_program f fd) (bF : Binds K fd ["_law_feed_here"] []) (mF : mg "_law_program" = some (.ref f))
    (h__law_heads : Has P w K mg base k "_law_heads" ["_law_feed_here"] g__law_heads)
    (h__law_block : Has P w K mg base k "_law_block" ["_law_feed_here", "_law_names_in_now", "_law_heads_here", "_law_deep", "_law_left"] g__law_block)
    (h__law_draw : Has P w K mg base k "_law_draw" ["_law_feed_here", "_law_many"] g__law_draw) (z_tuple : mg "tuple" = none) (z_len : mg "len" = none) :
    Has P w K mg base (k + 1) "_law_program" ["_law_feed_here"] (f__law_program g__law_heads g__law_block g__law_draw) := ⟨f, fd, fn__law_program F h__law_heads h__law_block h__law_draw z_tuple z_len, bF, F.kp, mF⟩

/-! ### _law_first_program -/
abbrev s__law_first_program : Stmt := top 45
def b__law_first_program : MS :=
  (mSeq (mSet 0 (mTup (mCons (mC (.str "f")) (mCons (mC (.int 0)) (mCons (mC (.int 2)) (mCons (mTup (mCons (mTup (mCons (mC (.str "x")) (mCons (mC (.int 0)) (mCons (mC (.int 2)) mNil)))) mNil)) (mCons (mC (.int 1)) (mCons (mTup (mCons (mTup (mCons (mC (.str "return")) (mCons (mTup (mCons (mC (.str "if")) (mCons (mTup (mCons (mC (.str "=")) (mCons (mC (.str "x")) (mCons (mC (.int 1)) mNil)))) (mCons (mC (.int 0)) (mCons (mC (.str "x")) mNil))))) mNil))) mNil)) mNil))))))))
    (mSeq (mSet 1 (mTup (mCons (mTup (mCons (mC (.str "call")) (mCons (mC (.str "a")) (mCons (mC (.str "f")) (mCons (mTup (mCons (mC (.str "a")) mNil)) mNil))))) (mCons (mTup (mCons (mC (.str "call")) (mCons (mC (.str "b")) (mCons (mC (.str "f")) (mCons (mTup (mCons (mC (.str "b")) mNil)) mNil))))) (mCons (mTup (mCons (mC (.str "return")) (mCons (mTup (mCons (mC (.str "+")) (mCons (mC (.str "a")) (mCons (mC (.str "b")) mNil)))) mNil))) mNil)))))
    (mRet (mTup (mCons (mTup (mCons (mVar 0) (mCons (mTup (mCons (mC (.str "main")) (mCons (mC (.int 0)) (mCons (mC (.int 4)) (mCons (mTup (mCons (mTup (mCons (mC (.str "a")) (mCons (mC (.int 0)) (mCons (mC (.int 2)) mNil)))) (mCons (mTup (mCons (mC (.str "b")) (mCons (mC (.int 0)) (mCons (mC (.int 2)) mNil)))) mNil))) (mCons (mC (.int 2)) (mCons (mVar 1) mNil))))))) mNil))) (mCons (mC (.str "main")) (mCons (mC (.int 9)) mNil)))))))
def f__law_first_program : Fn := callM 0 2 (b__law_first_program)
theorem sc__law_first_program : FnScope ["_law_first", "_law_rows"] [] (defScope s__law_first_program) := ⟨rfl, rfl, rfl, by decide +kernel, rfl, by decide +kernel, by decide +kernel⟩
theorem fn__law_first_program {f : Addr} {fd : FuncData} (F : Fun K "_law_first_program" "_law_first_program" s__law_first_program f fd) :
    FnG P w K mg base (k + 1) f fd [] (f__law_first_program) := by
  refine fnG_of F sc__law_first_program (fun cdv A outer s H E hr hg => ?_)
  have sc := sc__law_first_program
  have u1 := hu_of hr
  have u64 := hr.units
  have uR := u100 hr
  exact (pmss_cons (pms_set (i := 0) sc.nd rfl (.inl rfl) (pm_tup (pma_cons pm_str (pma_cons pm_int (pma_cons pm_int (pma_cons (pm_tup (pma_cons (pm_tup (pma_cons pm_str (pma_cons pm_int (pma_cons pm_int pma_nil)))) pma_nil)) (pma_cons pm_int (pma_cons (pm_tup (pma_cons (pm_tup (pma_cons pm_str (pma_cons (pm_tup (pma_cons pm_str (pma_cons (pm_tup (pma_cons pm_str (pma_cons pm_str (pma_cons pm_int pma_nil)))) (pma_cons pm_int (pma_cons pm_str pma_nil))))) pma_nil))) pma_nil)) pma_nil))))))))
    (pmss_cons (pms_set (i := 1) sc.nd rfl (.inl rfl) (pm_tup (pma_cons (pm_tup (pma_cons pm_str (pma_cons pm_str (pma_cons pm_str (pma_cons (pm_tup (pma_cons pm_str pma_nil)) pma_nil))))) (pma_cons (pm_tup (pma_cons pm_str (pma_cons pm_str (pma_cons pm_str (pma_cons (pm_tup (pma_cons pm_str pma_nil)) pma_nil))))) (pma_cons (pm_tup (pma_cons pm_str (pma_cons (pm_tup (pma_cons pm_str (pma_cons pm_str (pma_cons pm_str pma_nil)))) pma_nil))) pma_nil)))))
    (pmss_one (pms_ret (pm_tup (pma_cons (pm_tup (pma_cons (pm_var (pv 0)) (pma_cons (pm_tup (pma_cons pm_str (pma_cons pm_int (pma_cons pm_int (pma_cons (pm_tup (pma_cons (pm_tup (pma_cons pm_str (pma_cons pm_int (pma_cons pm_int pma_nil)))) (pma_cons (pm_tup (pma_cons pm_str (pma_cons pm_int (pma_cons pm_int pma_nil)))) pma_nil))) (pma_cons pm_int (pma_cons (pm_var (pv 1)) pma_nil))))))) pma_nil))) (pma_cons pm_str (pma_cons pm_int pma_nil))))))))
theorem ok__law_first_program {f : Addr} {fd : FuncData} (F : Fun K "_law_first_program" "_law_first_program" s__law_first_program f fd) (bF : Binds K fd [] []) (mF : mg "_law_first_program" = some (.ref f)) :
    Has P w K mg base (k + 1) "_law_first_program" [] (f__law_first_program) := ⟨f, fd, fn__law_first_program F, bF, F.kp, mF⟩

/-! ### _law_word_program -/
abbrev s__law_word_program : Stmt := top 46
def b__law_word_program : MS :=
  (mSeq (mSet 0 (mTup (mCons (mTup (mCons (mC (.str "set")) (mCons (mC (.str "set")) (mCons (mC (.str "end")) mNil)))) (mCons (mTup (mCons (mC (.str "call")) (mCons (mC (.str "end")) (mCons (mC (.str "if")) (mCons (mTup (mCons (mC (.str "set")) (mCons (mC (.int 1)) mNil))) mNil))))) (mCons (mTup (mCons (mC (.str "call")) (mCons (mC (.str "set")) (mCons (mC (.str "while")) (mCons (mTup mNil) mNil))))) mNil)))))
    (mSeq (mSet 1 (mTup (mCons (mTup (mCons (mC (.str "if")) (mCons (mC (.str "else")) mNil))) (mCons (mTup (mCons (mC (.str "else")) mNil)) (mCons (mTup (mCons (mC (.str "while")) (mCons (mC (.int 0)) mNil))) (mCons (mTup (mCons (mC (.str "end")) mNil)) (mCons (mTup (mCons (mC (.str "end")) mNil)) (mCons (mTup (mCons (mC (.str "return")) (mCons (mTup (mCons (mC (.str "least")) (mCons (mC (.str "least")) (mCons (mC (.str "else")) mNil)))) mNil))) mNil))))))))
    (mSeq (mSet 2 (mTup (mCons (mTup (mCons (mC (.str "if")) (mCons (mC (.int 0)) (mCons (mC (.int 2)) (mCons (mTup (mCons (mTup (mCons (mC (.str "else")) (mCons (mC (.int 0)) (mCons (mC (.int 1)) mNil)))) (mCons (mTup (mCons (mC (.str "least")) (mCons (mC (.int 0)) (mCons (mC (.int 2)) mNil)))) mNil))) (mCons (mC (.int 2)) (mCons (mVar 1) mNil))))))) mNil)))
    (mSeq (mSet 2 (m2 dAdd (mVar 2) (mTup (mCons (mTup (mCons (mC (.str "set")) (mCons (m1 dNeg (mC (.int 1))) (mCons (mC (.int 1)) (mCons (mTup (mCons (mTup (mCons (mC (.str "set")) (mCons (m1 dNeg (mC (.int 1))) (mCons (mC (.int 1)) mNil)))) (mCons (mTup (mCons (mC (.str "end")) (mCons (mC (.int 0)) (mCons (mC (.int 0)) mNil)))) mNil))) (mCons (mC (.int 1)) (mCons (m2 dAdd (mVar 0) (mTup (mCons (mTup (mCons (mC (.str "return")) (mCons (mC (.str "set")) mNil))) mNil))) mNil))))))) mNil))))
    (mRet (mTup (mCons (m2 dAdd (mVar 2) (mTup (mCons (mTup (mCons (mC (.str "while")) (mCons (mC (.int 5)) (mCons (mC (.int 5)) (mCons (mTup mNil) (mCons (mC (.int 0)) (mCons (mTup mNil) mNil))))))) mNil))) (mCons (mC (.str "set")) (mCons (mC (.int 1)) mNil)))))))))
def f__law_word_program : Fn := callM 0 3 (b__law_word_program)
theorem sc__law_word_program : FnScope ["_law_rows", "_law_other", "_law_words"] [] (defScope s__law_word_program) := ⟨rfl, rfl, rfl, by decide +kernel, rfl, by decide +kernel, by decide +kernel⟩
theorem fn__law_word_program {f : Addr} {fd : FuncData} (F : Fun K "_law_word_program" "_law_word_program" s__law_word_program f fd) :
    FnG P w K mg base (k + 1) f fd [] (f__law_word_program) := by
  refine fnG_of F sc__law_word_program (fun cdv A outer s H E hr hg => ?_)
  have sc := sc__law_word_program
  have u1 := hu_of hr
  have u64 := hr.units
  have uR := u100 hr
  exact (pmss_cons (pms_set (i := 0) sc.nd rfl (.inl rfl) (pm_tup (pma_cons (pm_tup (pma_cons pm_str (pma_cons pm_str (pma_cons pm_str pma_nil)))) (pma_cons (pm_tup (pma_cons pm_str (pma_cons pm_str (pma_cons pm_str (pma_cons (pm_tup (pma_cons pm_str (pma_cons pm_int pma_nil))) pma_nil))))) (pma_cons (pm_tup (pma_cons pm_str (pma_cons pm_str (pma_cons pm_str (pma_cons (pm_tup pma_nil) pma_nil))))) pma_nil)))))
    (pmss_cons (pms_set (i := 1) sc.nd rfl (.inl rfl) (pm_tup (pma_cons (pm_tup (pma_cons pm_str (pma_cons pm_str pma_nil))) (pma_cons (pm_tup (pma_cons pm_str pma_nil)) (pma_cons (pm_tup (pma_cons pm_str (pma_cons pm_int pma_nil))) (pma_cons (pm_tup (pma_cons pm_str pma_nil)) (pma_cons (pm_tup (pma_cons pm_str pma_nil)) (pma_cons (pm_tup (pma_cons pm_str (pma_cons (pm_tup (pma_cons pm_str (pma_cons pm_str (pma_cons pm_str pma_nil)))) pma_nil))) pma_nil))))))))
    (pmss_cons (pms_set (i := 2) sc.nd rfl (.inl rfl) (pm_tup (pma_cons (pm_tup (pma_cons pm_str (pma_cons pm_int (pma_cons pm_int (pma_cons (pm_tup (pma_cons (pm_tup (pma_cons pm_str (pma_cons pm_int (pma_cons pm_int pma_nil)))) (pma_cons (pm_tup (pma_cons pm_str (pma_cons pm_int (pma_cons pm_int pma_nil)))) pma_nil))) (pma_cons pm_int (pma_cons (pm_var (pv 1)) pma_nil))))))) pma_nil)))
    (pmss_cons (pms_set (i := 2) sc.nd rfl (.inl rfl) (pm_bin od_add (pm_var (pv 2)) (pm_tup (pma_cons (pm_tup (pma_cons pm_str (pma_cons (pm_un ud_neg pm_int) (pma_cons pm_int (pma_cons (pm_tup (pma_cons (pm_tup (pma_cons pm_str (pma_cons (pm_un ud_neg pm_int) (pma_cons pm_int pma_nil)))) (pma_cons (pm_tup (pma_cons pm_str (pma_cons pm_int (pma_cons pm_int pma_nil)))) pma_nil))) (pma_cons pm_int (pma_cons (pm_bin od_add (pm_var (pv 0)) (pm_tup (pma_cons (pm_tup (pma_cons pm_str (pma_cons pm_str pma_nil))) pma_nil))) pma_nil))))))) pma_nil))))
    (pmss_one (pms_ret (pm_tup (pma_cons (pm_bin od_add (pm_var (pv 2)) (pm_tup (pma_cons (pm_tup (pma_cons pm_str (pma_cons pm_int (pma_cons pm_int (pma_cons (pm_tup pma_nil) (pma_cons pm_int (pma_cons (pm_tup pma_nil) pma_nil))))))) pma_nil))) (pma_cons pm_str (pma_cons pm_int pma_nil))))))))))
theorem ok__law_word_program {f : Addr} {fd : FuncData} (F : Fun K "_law_word_program" "_law_word_program" s__law_word_program f fd) (bF : Binds K fd [] []) (mF : mg "_law_word_program" = some (.ref f)) :
    Has P w K mg base (k + 1) "_law_word_program" [] (f__law_word_program) := ⟨f, fd, fn__law_word_program F, bF, F.kp, mF⟩

/-! ### _law_samples -/
abbrev s__law_samples : Stmt := top 47
def b__law_samples (g__law_first_program : Fn) (g__law_word_program : Fn) : MS :=
  (mSeq (mSet 0 (mLstC (mCons (mFn g__law_first_program mNil) mNil)))
    (mSeq (mSet 1 (mTup (mCons (mTup (mCons (mC (.str "while")) (mCons (mTup (mCons (mC (.str "<")) (mCons (mC (.str "s")) (mCons (mC (.str "n")) mNil)))) mNil))) (mCons (mTup (mCons (mC (.str "if")) (mCons (mTup (mCons (mC (.str "=")) (mCons (mC (.str "s")) (mCons (mC (.int 2)) mNil)))) mNil))) (mCons (mTup (mCons (mC (.str "set")) (mCons (mC (.str "s")) (mCons (mTup (mCons (mC (.str "+")) (mCons (mC (.str "s")) (mCons (mC (.str "n")) mNil)))) mNil)))) (mCons (mTup (mCons (mC (.str "else")) mNil)) mNil))))))
    (mSeq (mSet 1 (m2 dAdd (mVar 1) (mTup (mCons (mTup (mCons (mC (.str "set")) (mCons (mC (.str "s")) (mCons (mTup (mCons (mC (.str "+")) (mCons (mC (.str "s")) (mCons (mC (.int 1)) mNil)))) mNil)))) (mCons (mTup (mCons (mC (.str "end")) mNil)) (mCons (mTup (mCons (mC (.str "end")) mNil)) (mCons (mTup (mCons (mC (.str "return")) (mCons (mC (.str "s")) mNil))) mNil)))))))
    (mSeq (mExpr (mMeth isL aAppend (mVar 0) (mCons (mTup (mCons (mTup (mCons (mTup (mCons (mC (.str "go")) (mCons (mC (.int 0)) (mCons (mC (.int 3)) (mCons (mTup (mCons (mTup (mCons (mC (.str "n")) (mCons (mC (.int 0)) (mCons (mC (.int 3)) mNil)))) (mCons (mTup (mCons (mC (.str "s")) (mCons (mC (.int 0)) (mCons (mC (.int 3)) mNil)))) mNil))) (mCons (mC (.int 1)) (mCons (mVar 1) mNil))))))) mNil)) (mCons (mC (.str "go")) (mCons (mC (.int 60)) mNil)))) mNil)))
    (mSeq (mSet 2 (mCall dTuple (mCons (mLc (mRange1 (mC (.int 6))) (.nm 3) mYes (mIf (mTest (m2 dEq (m2 dMod (mCall dInt (mCons (mVar 3) mNil)) (mC (.int 2))) (mC (.int 0)))) (mTup (mCons (mC (.str "if")) (mCons (mTup (mCons (mC (.str "<")) (mCons (mC (.str "x")) (mCons (mVar 3) mNil)))) mNil))) (mTup (mCons (mC (.str "while")) (mCons (mC (.str "x")) mNil)))) [3]) mNil)))
    (mSeq (mExpr (mMeth isL aAppend (mVar 0) (mCons (mTup (mCons (mTup (mCons (mTup (mCons (mC (.str "f")) (mCons (mC (.int 0)) (mCons (mC (.int 1)) (mCons (mTup (mCons (mTup (mCons (mC (.str "x")) (mCons (m1 dNeg (mC (.int 1))) (mCons (mC (.int 1)) mNil)))) mNil)) (mCons (mC (.int 0)) (mCons (m2 dAdd (m2 dAdd (mVar 2) (mTup (mCons (mTup (mCons (mC (.str "set")) (mCons (mC (.str "x")) (mCons (mC (.int 0)) mNil)))) mNil))) (m2 dMul (mTup (mCons (mTup (mCons (mC (.str "end")) mNil)) mNil)) (mC (.int 6)))) mNil))))))) mNil)) (mCons (mC (.str "f")) (mCons (mC (.int 5)) mNil)))) mNil)))
    (mSeq (mExpr (mMeth isL aAppend (mVar 0) (mCons (mFn g__law_word_program mNil) mNil)))
    (mSeq (mExpr (mMeth isL aAppend (mVar 0) (mCons (mTup (mCons (mTup (mCons (mTup (mCons (mC (.str "f")) (mCons (m1 dNeg (mC (.int 3))) (mCons (m1 dNeg (mC (.int 3))) (mCons (mTup mNil) (mCons (mC (.int 0)) (mCons (mTup mNil) mNil))))))) (mCons (mTup (mCons (mC (.str "g")) (mCons (mC (.int 0)) (mCons (mC (.int 0)) (mCons (mTup mNil) (mCons (mC (.int 0)) (mCons (mTup (mCons (mTup (mCons (mC (.str "return")) (mCons (mC (.int 0)) mNil))) mNil)) mNil))))))) mNil))) (mCons (mC (.str "f")) (mCons (mC (.int 1)) mNil)))) mNil)))
    (mSeq (mSet 1 (mTup (mCons (mTup (mCons (mC (.str "if")) (mCons (mC (.str "k")) mNil))) (mCons (mTup (mCons (mC (.str "call")) (mCons (mC (.str "k")) (mCons (mC (.str "down")) (mCons (mTup (mCons (mTup (mCons (mC (.str "-")) (mCons (mC (.str "k")) (mCons (mC (.int 1)) mNil)))) mNil)) mNil))))) (mCons (mTup (mCons (mC (.str "end")) mNil)) (mCons (mTup (mCons (mC (.str "return")) (mCons (mTup (mCons (mC (.str "+")) (mCons (mC (.str "k")) (mCons (mC (.int 1)) mNil)))) mNil))) mNil))))))
    (mRet (m2 dAdd (mVar 0) (mLst (mCons (mTup (mCons (mTup (mCons (mTup (mCons (mC (.str "down")) (mCons (mC (.int 0)) (mCons (mC (.int 3)) (mCons (mTup (mCons (mTup (mCons (mC (.str "k")) (mCons (mC (.int 0)) (mCons (mC (.int 3)) mNil)))) mNil)) (mCons (mC (.int 1)) (mCons (mVar 1) mNil))))))) mNil)) (mCons (mC (.str "down")) (mCons (mC (.int 30)) mNil)))) mNil)))))))))))))
def f__law_samples (g__law_first_program : Fn) (g__law_word_program : Fn) : Fn := callM 0 4 (b__law_samples g__law_first_program g__law_word_program)
theorem sc__law_samples : FnScope ["_law_found", "_law_rows", "_law_deep", "_law_k"] [] (defScope s__law_samples) := ⟨rfl, rfl, rfl, by decide +kernel, rfl, by decide +kernel, by decide +kernel⟩
theorem fn__law_samples {f : Addr} {fd : FuncData} {g__law_first_program : Fn} {g__law_word_program : Fn} (F : Fun K "_law_samples" "_law_samples" s__law_samples f fd)
    (h__law_first_program : Has P w K mg base k "_law_first_program" [] g__law_first_program)
    (h__law_word_program : Has P w K mg base k "_law_word_program" [] g__law_word_program) (z_tuple : mg "tuple" = none) (z_range : mg "range" = none) (z_int : mg "int" = none) :
    FnG P w K mg base (k + 1) f fd [] (f__law_samples g__law_first_program g__law_word_program) := by
  refine fnG_of F sc__law_samples (fun cdv A outer s H E hr hg => ?_)
  have sc := sc__law_samples
  have u1 := hu_of hr
  have u64 := hr.units
  have uR := u100 hr
  exact (pmss_cons (pms_set (i := 0) sc.nd rfl (.inl rfl) (pm_lstC (pma_cons (pm_callH0 h__law_first_program hr hg (takes_of rfl rfl rfl rfl) rfl) pma_nil)))
    (pmss_cons (pms_set (i := 1) sc.nd rfl (.inl rfl) (pm_tup (pma_cons (pm_tup (pma_cons pm_str (pma_cons (pm_tup (pma_cons pm_str (pma_cons pm_str (pma_cons pm_str pma_nil)))) pma_nil))) (pma_cons (pm_tup (pma_cons pm_str (pma_cons (pm_tup (pma_cons pm_str (pma_cons pm_str (pma_cons pm_int pma_nil)))) pma_nil))) (pma_cons (pm_tup (pma_cons pm_str (pma_cons pm_str (pma_cons (pm_tup (pma_cons pm_str (pma_cons pm_str (pma_cons pm_str pma_nil)))) pma_nil)))) (pma_cons (pm_tup (pma_cons pm_str pma_nil)) pma_nil))))))
    (pmss_cons (pms_set (i := 1) sc.nd rfl (.inl rfl) (pm_bin od_add (pm_var (pv 1)) (pm_tup (pma_cons (pm_tup (pma_cons pm_str (pma_cons pm_str (pma_cons (pm_tup (pma_cons pm_str (pma_cons pm_str (pma_cons pm_int pma_nil)))) pma_nil)))) (pma_cons (pm_tup (pma_cons pm_str pma_nil)) (pma_cons (pm_tup (pma_cons pm_str pma_nil)) (pma_cons (pm_tup (pma_cons pm_str (pma_cons pm_str pma_nil))) pma_nil)))))))
    (pmss_cons (pms_expr (pm_meth PySem.F.plainAttrs_list PySem.F.slot_list_append PySem.F.type_list_append (.inl ⟨rfl, rfl⟩) md_append (pm_var (pv 0)) (pma_cons (pm_tup (pma_cons (pm_tup (pma_cons (pm_tup (pma_cons pm_str (pma_cons pm_int (pma_cons pm_int (pma_cons (pm_tup (pma_cons (pm_tup (pma_cons pm_str (pma_cons pm_int (pma_cons pm_int pma_nil)))) (pma_cons (pm_tup (pma_cons pm_str (pma_cons pm_int (pma_cons pm_int pma_nil)))) pma_nil))) (pma_cons pm_int (pma_cons (pm_var (pv 1)) pma_nil))))))) pma_nil)) (pma_cons pm_str (pma_cons pm_int pma_nil)))) pma_nil)))
    (pmss_cons (pms_set (i := 2) sc.nd rfl (.inl rfl) (pm_callTy cd_tuple rfl z_tuple (by decide +kernel) (pma_cons (pm_lc rfl sc.nd (pmi_range1 rfl z_range pm_int) (own := [("_law_k", 3)]) (blk_of rfl (by kernel_rfl)) (by decide) (fun _ _ _ _ _ => (pmg_name sc.nd rfl (.inl rfl))) (fun _ _ _ _ _ => pmts_nil) (fun _ _ _ _ _ => (pm_if (pmt_cmp (od_eq u64) (pm_bin od_mod (pm_callTy cd_int rfl z_int (by decide +kernel) (pma_cons (pm_var (pv 3)) pma_nil)) pm_int) pm_int (nomark _)) (pm_tup (pma_cons pm_str (pma_cons (pm_tup (pma_cons pm_str (pma_cons pm_str (pma_cons (pm_var (pv 3)) pma_nil)))) pma_nil))) (pm_tup (pma_cons pm_str (pma_cons pm_str pma_nil)))))) pma_nil)))
    (pmss_cons (pms_expr (pm_meth PySem.F.plainAttrs_list PySem.F.slot_list_append PySem.F.type_list_append (.inl ⟨rfl, rfl⟩) md_append (pm_var (pv 0)) (pma_cons (pm_tup (pma_cons (pm_tup (pma_cons (pm_tup (pma_cons pm_str (pma_cons pm_int (pma_cons pm_int (pma_cons (pm_tup (pma_cons (pm_tup (pma_cons pm_str (pma_cons (pm_un ud_neg pm_int) (pma_cons pm_int pma_nil)))) pma_nil)) (pma_cons pm_int (pma_cons (pm_bin od_add (pm_bin od_add (pm_var (pv 2)) (pm_tup (pma_cons (pm_tup (pma_cons pm_str (pma_cons pm_str (pma_cons pm_int pma_nil)))) pma_nil))) (pm_bin od_mul (pm_tup (pma_cons (pm_tup (pma_cons pm_str pma_nil)) pma_nil)) pm_int)) pma_nil))))))) pma_nil)) (pma_cons pm_str (pma_cons pm_int pma_nil)))) pma_nil)))
    (pmss_cons (pms_expr (pm_meth PySem.F.plainAttrs_list PySem.F.slot_list_append PySem.F.type_list_append (.inl ⟨rfl, rfl⟩) md_append (pm_var (pv 0)) (pma_cons (pm_callH0 h__law_word_program hr hg (takes_of rfl rfl rfl rfl) rfl) pma_nil)))
    (pmss_cons (pms_expr (pm_meth PySem.F.plainAttrs_list PySem.F.slot_list_append PySem.F.type_list_append (.inl ⟨rfl, rfl⟩) md_append (pm_var (pv 0)) (pma_cons (pm_tup (pma_cons (pm_tup (pma_cons (pm_tup (pma_cons pm_str (pma_cons (pm_un ud_neg pm_int) (pma_cons (pm_un ud_neg pm_int) (pma_cons (pm_tup pma_nil) (pma_cons pm_int (pma_cons (pm_tup pma_nil) pma_nil))))))) (pma_cons (pm_tup (pma_cons pm_str (pma_cons pm_int (pma_cons pm_int (pma_cons (pm_tup pma_nil) (pma_cons pm_int (pma_cons (pm_tup (pma_cons (pm_tup (pma_cons pm_str (pma_cons pm_int pma_nil))) pma_nil)) pma_nil))))))) pma_nil))) (pma_cons pm_str (pma_cons pm_int pma_nil)))) pma_nil)))
    (pmss_cons (pms_set (i := 1) sc.nd rfl (.inl rfl) (pm_tup (pma_cons (pm_tup (pma_cons pm_str (pma_cons pm_str pma_nil))) (pma_cons (pm_tup (pma_cons pm_str (pma_cons pm_str (pma_cons pm_str (pma_cons (pm_tup (pma_cons (pm_tup (pma_cons pm_str (pma_cons pm_str (pma_cons pm_int pma_nil)))) pma_nil)) pma_nil))))) (pma_cons (pm_tup (pma_cons pm_str pma_nil)) (pma_cons (pm_tup (pma_cons pm_str (pma_cons (pm_tup (pma_cons pm_str (pma_cons pm_str (pma_cons pm_int pma_nil)))) pma_nil))) pma_nil))))))
    (pmss_one (pms_ret (pm_bin od_add (pm_var (pv 0)) (pm_lst (pma_cons (pm_tup (pma_cons (pm_tup (pma_cons (pm_tup (pma_cons pm_str (pma_cons pm_int (pma_cons pm_int (pma_cons (pm_tup (pma_cons (pm_tup (pma_cons pm_str (pma_cons pm_int (pma_cons pm_int pma_nil)))) pma_nil)) (pma_cons pm_int (pma_cons (pm_var (pv 1)) pma_nil))))))) pma_nil)) (pma_cons pm_str (pma_cons pm_int pma_nil)))) pma_nil))))))))))))))
theorem ok__law_samples {f : Addr} {fd : FuncData} {g__law_first_program : Fn} {g__law_word_program : Fn} (F : Fun K "_law_samples" "_law_samples" s__law_samples f fd) (bF : Binds K fd [] []) (mF : mg "_law_samples" = some (.ref f))
    (h__law_first_program : Has P w K mg base k "_law_first_program" [] g__law_first_program)
    (h__law_word_program : Has P w K mg base k "_law_word_program" [] g__law_word_program) (z_tuple : mg "tuple" = none) (z_range : mg "range" = none) (z_int : mg "int" = none) :
    Has P w K mg base (k + 1) "_law_samples" [] (f__law_samples g__law_first_program g__law_word_program) := ⟨f, fd, fn__law_samples F h__law_first_program h__law_word_program z_tuple z_range z_int, bF, F.kp, mF⟩

/-! ### _law_odd -/
abbrev s__law_odd : Stmt := top 48
def b__law_odd (g__law_draw : Fn) : MS :=
  (mSeq (mSet 1 (mLst (mCons (mC .non) (mCons (mC (.bl true)) (mCons (mC (.bl false)) (mCons (mC (.int 0)) (mCons (m1 dNeg (mC (.int 1))) (mCons (mC (.int 1)) (mCons (mC (.str "")) (mCons (mC (.str "x")) (mCons (mC (.str "if")) (mCons (mTup mNil) (mCons (mLst mNil) (mCons (mTup (mCons (mC (.str "end")) mNil)) (mCons (mTup (mCons (mC (.str "+")) (mCons (mC (.int 1)) mNil))) (mCons (mTup (mCons (mC (.str "x")) mNil)) (mCons (mC (.str "X")) (mCons (mTup (mCons (mC (.str "not")) (mCons (mC (.int 1)) mNil))) (mCons (mC (.int 60)) mNil)))))))))))))))))))
    (mRet (m2 dIx (mVar 1) (mFn g__law_draw (mCons (mVar 0) (mCons (mC (.int 17)) mNil))))))
def f__law_odd (g__law_draw : Fn) : Fn := callM 1 2 (b__law_odd g__law_draw)
theorem sc__law_odd : FnScope ["_law_feed_here", "_law_odd_here"] ["_law_feed_here"] (defScope s__law_odd) := ⟨rfl, rfl, rfl, by decide +kernel, rfl, by decide +kernel, by decide +kernel⟩
theorem fn__law_odd {f : Addr} {fd : FuncData} {g__law_draw : Fn} (F : Fun K "_law_odd" "_law_odd" s__law_odd f fd)
    (h__law_draw : Has P w K mg base k "_law_draw" ["_law_feed_here", "_law_many"] g__law_draw) :
    FnG P w K mg base (k + 1) f fd ["_law_feed_here"] (f__law_odd g__law_draw) := by
  refine fnG_of F sc__law_odd (fun cdv A outer s H E hr hg => ?_)
  have sc := sc__law_odd
  have u1 := hu_of hr
  have u64 := hr.units
  have uR := u100 hr
  exact (pmss_cons (pms_set (i := 1) sc.nd rfl (.inl rfl) (pm_lst (pma_cons pm_non (pma_cons pm_bl (pma_cons pm_bl (pma_cons pm_int (pma_cons (pm_un ud_neg pm_int) (pma_cons pm_int (pma_cons pm_str (pma_cons pm_str (pma_cons pm_str (pma_cons (pm_tup pma_nil) (pma_cons (pm_lst pma_nil) (pma_cons (pm_tup (pma_cons pm_str pma_nil)) (pma_cons (pm_tup (pma_cons pm_str (pma_cons pm_int pma_nil))) (pma_cons (pm_tup (pma_cons pm_str pma_nil)) (pma_cons pm_str (pma_cons (pm_tup (pma_cons pm_str (pma_cons pm_int pma_nil))) (pma_cons pm_int pma_nil)))))))))))))))))))
    (pmss_one (pms_ret (pm_ix u1 (pm_var (pv 1)) (pm_callH h__law_draw hr hg (takes_of rfl rfl rfl rfl) rfl (pma_cons (pm_var (pv 0)) (pma_cons pm_int pma_nil))) (fun _ _ => rfl)))))
theorem ok__law_odd {f : Addr} {fd : FuncData} {g__law_draw : Fn} (F : Fun K "_law_odd" "_law_odd" s__law_odd f fd) (bF : Binds K fd ["_law_feed_here"] []) (mF : mg "_law_odd" = some (.ref f))
    (h__law_draw : Has P w K mg base k "_law_draw" ["_law_feed_here", "_law_many"] g__law_draw) :
    Has P w K mg base (k + 1) "_law_odd" ["_law_feed_here"] (f__law_odd g__law_draw) := ⟨f, fd, fn__law_odd F h__law_draw, bF, F.kp, mF⟩

/-! ### _law_bent -/
abbrev s__law_bent : Stmt := top 49
def b__law_bent (g__law_draw : Fn) (g__law_bent : Fn) (g__law_odd : Fn) : MS :=
  (mSeq (mIfS (mAndT (mTru (mIsi .tup (mVar 1))) (mAndT (mTest (m2 dNe (mVar 1) (mTup mNil))) (mTest (m2 dGt (mFn g__law_draw (mCons (mVar 0) (mCons (mC (.int 6)) mNil))) (mC (.int 0)))))) (mSeq (mSet 2 (mFn g__law_draw (mCons (mVar 0) (mCons (mCall dLen (mCons (mVar 1) mNil)) mNil))))
    (mRet (m2 dAdd (m2 dAdd (mSl (mVar 1) moNone (moSome (mVar 2))) (mTup (mCons (mFn g__law_bent (mCons (mVar 0) (mCons (m2 dIx (mVar 1) (mVar 2)) mNil))) mNil))) (mSl (mVar 1) (moSome (m2 dAdd (mVar 2) (mC (.int 1)))) moNone)))) mSkip)
    (mSeq (mSet 3 (mFn g__law_draw (mCons (mVar 0) (mCons (mC (.int 9)) mNil))))
    (mSeq (mIfS (mAndT (mTru (mIsi .tup (mVar 1))) (mTest (m2 dLt (mVar 3) (mC (.int 7))))) (mSeq (mSet 4 (mLst (mCons (mCall dList (mCons (mVar 1) mNil)) (mCons (mSl (mVar 1) (moSome (mC (.int 1))) moNone) (mCons (mSl (mVar 1) moNone (moSome (m1 dNeg (mC (.int 1))))) (mCons (m2 dAdd (mVar 1) (mSl (mVar 1) (moSome (m1 dNeg (mC (.int 1)))) moNone)) mNil))))))
    (mRet (m2 dIx (m2 dAdd (mVar 4) (mLst (mCons (mRev (mVar 1) (moSome (m1 dNeg (mC (.int 1))))) (mCons (mTup (mCons (mVar 1) mNil)) (mCons (m2 dAdd (mVar 1) (mTup (mCons (mC .non) mNil))) mNil))))) (mVar 3)))) mSkip)
    (mSeq (mIfS (mAndT (mTru (mIsi .str (mVar 1))) (mTest (m2 dLt (mVar 3) (mC (.int 6))))) (mRet (m2 dIx (mLst (mCons (m2 dAdd (mVar 1) (mC (.str "a"))) (mCons (mSl (mVar 1) moNone (moSome (m1 dNeg (mC (.int 1))))) (mCons (mUpper (mVar 1)) (mCons (m2 dAdd (mVar 1) (mC (.str " "))) (mCons (mLst (mCons (mVar 1) mNil)) (mCons (m2 dAdd (mVar 1) (mC (.str "abcdefgh"))) mNil))))))) (mVar 3))) mSkip)
    (mSeq (mIfS (mAndT (mTru (mIsi .int (mVar 1))) (mTest (m2 dLt (mVar 3) (mC (.int 6))))) (mRet (m2 dIx (mLst (mCons (m2 dAdd (mVar 1) (mC (.int 1))) (mCons (m2 dSub (mVar 1) (mC (.int 1))) (mCons (m2 dEq (mVar 1) (mC (.int 1))) (mCons (mCall dStr (mCons (mVar 1) mNil)) (mCons (m2 dSub (mC (.int 0)) (mVar 1)) (mCons (mLst (mCons (mVar 1) mNil)) mNil))))))) (mVar 3))) mSkip)
    (mRet (mFn g__law_odd (mCons (mVar 0) mNil))))))))
def f__law_bent (g__law_draw : Fn) (g__law_bent : Fn) (g__law_odd : Fn) : Fn := callM 2 5 (b__law_bent g__law_draw g__law_bent g__law_odd)
theorem sc__law_bent : FnScope ["_law_feed_here", "_law_item", "_law_at", "_law_way", "_law_some"] ["_law_feed_here", "_law_item"] (defScope s__law_bent) := ⟨rfl, rfl, rfl, by decide +kernel, rfl, by decide +kernel, by decide +kernel⟩
theorem fn__law_bent {f : Addr} {fd : FuncData} {g__law_draw : Fn} {g__law_bent : Fn} {g__law_odd : Fn} (F : Fun K "_law_bent" "_law_bent" s__law_bent f fd)
    (h__law_draw : Has P w K mg base k "_law_draw" ["_law_feed_here", "_law_many"] g__law_draw)
    (h__law_bent : Has P w K mg base k "_law_bent" ["_law_feed_here", "_law_item"] g__law_bent)
    (h__law_odd : Has P w K mg base k "_law_odd" ["_law_feed_here"] g__law_odd) (z_isinstance : mg "isinstance" = none) (z_tuple : mg "tuple" = none) (z_len : mg "len" = none) (z_list : mg "list" = none) (z_str : mg "str" = none) (z_int : mg "int" = none) :
    FnG P w K mg base (k + 1) f fd ["_law_feed_here", "_law_item"] (f__law_bent g__law_draw g__law_bent g__law_odd) := by
  refine fnG_of F sc__law_bent (fun cdv A outer s H E hr hg => ?_)
  have sc := sc__law_bent
  have u1 := hu_of hr
  have u64 := hr.units
  have uR := u100 hr
  exact (pmss_cons (pms_if (pmt_of (pmw_and (pmt_tru (pm_isi .tup rfl z_isinstance rfl z_tuple (by decide +kernel) (pm_var (pv 1)))) (pmw_and (pmt_cmp (od_ne u64) (pm_var (pv 1)) (pm_tup pma_nil) (nomark _)) (pmw_and1 (pmt_cmp od_gt (pm_callH h__law_draw hr hg (takes_of rfl rfl rfl rfl) rfl (pma_cons (pm_var (pv 0)) (pma_cons pm_int pma_nil))) pm_int (nomark _)))))) (pmss_cons (pms_set (i := 2) sc.nd rfl (.inl rfl) (pm_callH h__law_draw hr hg (takes_of rfl rfl rfl rfl) rfl (pma_cons (pm_var (pv 0)) (pma_cons (pm_callB cd_len rfl z_len (by decide +kernel) (pma_cons (pm_var (pv 1)) pma_nil)) pma_nil))))
    (pmss_one (pms_ret (pm_bin od_add (pm_bin od_add (pm_sl (pm_var (pv 1)) pmo_none (pmo_some (pm_var (pv 2)))) (pm_tup (pma_cons (pm_callH h__law_bent hr hg (takes_of rfl rfl rfl rfl) rfl (pma_cons (pm_var (pv 0)) (pma_cons (pm_ix u1 (pm_var (pv 1)) (pm_var (pv 2)) (fun _ _ => rfl)) pma_nil))) pma_nil))) (pm_sl (pm_var (pv 1)) (pmo_some (pm_bin od_add (pm_var (pv 2)) pm_int)) pmo_none))))) pmss_nil)
    (pmss_cons (pms_set (i := 3) sc.nd rfl (.inl rfl) (pm_callH h__law_draw hr hg (takes_of rfl rfl rfl rfl) rfl (pma_cons (pm_var (pv 0)) (pma_cons pm_int pma_nil))))
    (pmss_cons (pms_if (pmt_of (pmw_and (pmt_tru (pm_isi .tup rfl z_isinstance rfl z_tuple (by decide +kernel) (pm_var (pv 1)))) (pmw_and1 (pmt_cmp od_lt (pm_var (pv 3)) pm_int (nomark _))))) (pmss_cons (pms_set (i := 4) sc.nd rfl (.inl rfl) (pm_lst (pma_cons (pm_callTy cd_list rfl z_list (by decide +kernel) (pma_cons (pm_var (pv 1)) pma_nil)) (pma_cons (pm_sl (pm_var (pv 1)) (pmo_some pm_int) pmo_none) (pma_cons (pm_sl (pm_var (pv 1)) pmo_none (pmo_some (pm_un ud_neg pm_int))) (pma_cons (pm_bin od_add (pm_var (pv 1)) (pm_sl (pm_var (pv 1)) (pmo_some (pm_un ud_neg pm_int)) pmo_none)) pma_nil))))))
    (pmss_one (pms_ret (pm_ix u1 (pm_bin od_add (pm_var (pv 4)) (pm_lst (pma_cons (pm_rev (pm_var (pv 1)) (pmo_some (pm_un ud_neg pm_int))) (pma_cons (pm_tup (pma_cons (pm_var (pv 1)) pma_nil)) (pma_cons (pm_bin od_add (pm_var (pv 1)) (pm_tup (pma_cons pm_non pma_nil))) pma_nil))))) (pm_var (pv 3)) (fun _ _ => rfl))))) pmss_nil)
    (pmss_cons (pms_if (pmt_of (pmw_and (pmt_tru (pm_isi .str rfl z_isinstance rfl z_str (by decide +kernel) (pm_var (pv 1)))) (pmw_and1 (pmt_cmp od_lt (pm_var (pv 3)) pm_int (nomark _))))) (pmss_one (pms_ret (pm_ix u1 (pm_lst (pma_cons (pm_bin od_add (pm_var (pv 1)) pm_str) (pma_cons (pm_sl (pm_var (pv 1)) pmo_none (pmo_some (pm_un ud_neg pm_int))) (pma_cons (pm_upper (pm_var (pv 1))) (pma_cons (pm_bin od_add (pm_var (pv 1)) pm_str) (pma_cons (pm_lst (pma_cons (pm_var (pv 1)) pma_nil)) (pma_cons (pm_bin od_add (pm_var (pv 1)) pm_str) pma_nil))))))) (pm_var (pv 3)) (fun _ _ => rfl)))) pmss_nil)
    (pmss_cons (pms_if (pmt_of (pmw_and (pmt_tru (pm_isi .int rfl z_isinstance rfl z_int (by decide +kernel) (pm_var (pv 1)))) (pmw_and1 (pmt_cmp od_lt (pm_var (pv 3)) pm_int (nomark _))))) (pmss_one (pms_ret (pm_ix u1 (pm_lst (pma_cons (pm_bin od_add (pm_var (pv 1)) pm_int) (pma_cons (pm_bin od_sub (pm_var (pv 1)) pm_int) (pma_cons (pm_cmp (od_eq u64) (pm_var (pv 1)) pm_int (nomark _)) (pma_cons (pm_callTy cd_str rfl z_str (by decide +kernel) (pma_cons (pm_var (pv 1)) pma_nil)) (pma_cons (pm_bin od_sub pm_int (pm_var (pv 1))) (pma_cons (pm_lst (pma_cons (pm_var (pv 1)) pma_nil)) pma_nil))))))) (pm_var (pv 3)) (fun _ _ => rfl)))) pmss_nil)
    (pmss_one (pms_ret (pm_callH h__law_odd hr hg (takes_of rfl rfl rfl rfl) rfl (pma_cons (pm_var (pv 0)) pma_nil)))))))))
theorem ok__law_bent {f : Addr} {fd : FuncData} {g__law_draw : Fn} {g__law_bent : Fn} {g__law_odd : Fn} (F : Fun K "_law_bent" "_law_bent" s__law_bent f fd) (bF : Binds K fd ["_law_feed_here", "_law_item"] []) (mF : mg "_law_bent" = some (.ref f))
    (h__law_draw : Has P w K mg base k "_law_draw" ["_law_feed_here", "_law_many"] g__law_draw)
    (h__law_bent : Has P w K mg base k "_law_bent" ["_law_feed_here", "_law_item"] g__law_bent)
    (h__law_odd : Has P w K mg base k "_law_odd" ["_law_feed_here"] g__law_odd) (z_isinstance : mg "isinstance" = none) (z_tuple : mg "tuple" = none) (z_len : mg "len" = none) (z_list : mg "list" = none) (z_str : mg "str" = none) (z_int : mg "int" = none) :
    Has P w K mg base (k + 1) "_law_bent" ["_law_feed_here", "_law_item"] (f__law_bent g__law_draw g__law_bent g__law_odd) := ⟨f, fd, fn__law_bent F h__law_draw h__law_bent h__law_odd z_isinstance z_tuple z_len z_list z_str z_int, bF, F.kp, mF⟩

/-! ### _law_values -/
abbrev s__law_values : Stmt := top 50
def b__law_values : MS :=
  (mSeq (mSet 0 (m2 dPow (mC (.int 10)) (mC (.int 59))))
    (mSeq (mSet 1 (mLstC (mCons (mC (.int 0)) (mCons (mC (.int 1)) (mCons (m1 dNeg (mC (.int 1))) (mCons (mVar 0) (mCons (m1 dNeg (mVar 0)) (mCons (mC (.bl true)) (mCons (mC (.bl false)) (mCons (mC .non) (mCons (mC (.str "")) (mCons (mC (.str "a")) (mCons (mC (.str "abcdefgh")) (mCons (mC (.str "abcdefghi")) (mCons (mC (.str "A")) (mCons (mC (.str "a1")) mNil))))))))))))))))
    (mSeq (mExpr (mMeth isL aExtend (mVar 1) (mCons (mLst (mCons (mC (.str "a b")) (mCons (mC (.str "if")) (mCons (mC (.str "end")) (mCons (mC (.str "a_")) (mCons (mC (.str "_")) (mCons (mC (.str "`a")) (mCons (mC (.str "a`")) (mCons (mC (.str "{")) (mCons (mC (.str "a{")) (mCons (mC (.str "a-b")) (mCons (mC (.str "a.b")) mNil)))))))))))) mNil)))
    (mSeq (mExpr (mMeth isL aExtend (mVar 1) (mCons (mLst (mCons (mTup mNil) (mCons (mLst mNil) (mCons (mLst (mCons (mC (.str "x")) mNil)) (mCons (mTup (mCons (mC (.str "x")) mNil)) (mCons (mTup (mCons (mC (.int 1)) mNil)) (mCons (mTup (mCons (mC (.str "a")) (mCons (mC (.int 0)) (mCons (mC (.int 1)) mNil)))) (mCons (mTup (mCons (mC (.str "a")) (mCons (mC (.int 1)) (mCons (mC (.int 0)) mNil)))) (mCons (mTup (mCons (mC (.str "a")) (mCons (mC (.int 0)) (mCons (mC (.int 0)) mNil)))) (mCons (mTup (mCons (mC (.str "a")) (mCons (mC (.int 0)) mNil))) (mCons (mTup (mCons (mC (.str "a")) (mCons (mC (.int 0)) (mCons (mC (.int 1)) (mCons (mC (.int 2)) mNil))))) mNil))))))))))) mNil)))
    (mSeq (mExpr (mMeth isL aExtend (mVar 1) (mCons (mLst (mCons (mTup (mCons (mC (.str "A")) (mCons (mC (.int 0)) (mCons (mC (.int 1)) mNil)))) (mCons (mLst (mCons (mC (.str "a")) (mCons (mC (.int 0)) (mCons (mC (.int 1)) mNil)))) (mCons (mTup (mCons (mC (.str "a")) (mCons (mC (.bl true)) (mCons (mC (.int 1)) mNil)))) (mCons (mTup (mCons (mC (.str "a")) (mCons (mC (.int 0)) (mCons (mC (.bl true)) mNil)))) (mCons (mTup (mCons (mC (.str "a")) (mCons (mC (.str "0")) (mCons (mC (.int 1)) mNil)))) (mCons (mTup (mCons (mC (.str "a")) (mCons (m1 dNeg (mVar 0)) (mCons (mVar 0) mNil)))) mNil))))))) mNil)))
    (mSeq (mExpr (mMeth isL aExtend (mVar 1) (mCons (mLst (mCons (mTup (mCons (mC (.str "not")) (mCons (mC (.str "x")) mNil))) (mCons (mTup (mCons (mC (.str "neg")) (mCons (mC (.int 1)) mNil))) (mCons (mTup (mCons (mC (.str "not")) mNil)) (mCons (mTup (mCons (mC (.str "not")) (mCons (mC (.int 1)) (mCons (mC (.int 2)) mNil)))) (mCons (mTup (mCons (mC (.str "if")) (mCons (mC (.int 1)) (mCons (mC (.int 2)) (mCons (mC (.int 3)) mNil))))) (mCons (mTup (mCons (mC (.str "if")) (mCons (mC (.int 1)) (mCons (mC (.int 2)) mNil)))) mNil))))))) mNil)))
    (mSeq (mExpr (mMeth isL aExtend (mVar 1) (mCons (mLst (mCons (mTup (mCons (mC (.str "if")) (mCons (mC (.int 1)) (mCons (mC (.int 2)) (mCons (mC (.int 3)) (mCons (mC (.int 4)) mNil)))))) mNil)) mNil)))
    (mSeq (mExpr (mMeth isL aExtend (mVar 1) (mCons (mLst (mCons (mTup (mCons (mC (.str "+")) (mCons (mC (.int 1)) (mCons (mC (.int 2)) mNil)))) (mCons (mTup (mCons (mC (.str "+")) (mCons (mC (.int 1)) mNil))) (mCons (mTup (mCons (mC (.str "+")) (mCons (mC (.int 1)) (mCons (mC (.int 2)) (mCons (mC (.int 3)) mNil))))) (mCons (mTup (mCons (mC (.str "-")) (mCons (mC (.int 1)) (mCons (mC (.int 2)) mNil)))) mNil))))) mNil)))
    (mSeq (mExpr (mMeth isL aExtend (mVar 1) (mCons (mLst (mCons (mTup (mCons (mC (.str "-")) (mCons (mC (.int 1)) mNil))) (mCons (mTup (mCons (mC (.str "div")) (mCons (mC (.int 1)) (mCons (mC (.int 0)) mNil)))) (mCons (mTup (mCons (mC (.str "mod")) (mCons (mC (.str "x")) (mCons (mC (.str "y")) mNil)))) mNil)))) mNil)))
    (mSeq (mExpr (mMeth isL aExtend (mVar 1) (mCons (mLst (mCons (mTup (mCons (mC (.str "least")) (mCons (mC (.str "least")) (mCons (mC (.str "most")) mNil)))) (mCons (mTup (mCons (mC (.str "==")) (mCons (mC (.int 1)) (mCons (mC (.int 2)) mNil)))) (mCons (mTup (mCons (mC (.str ">")) (mCons (mC (.int 1)) (mCons (mC (.int 2)) mNil)))) (mCons (mTup (mCons (mC (.str "<=")) (mCons (mC (.int 1)) (mCons (mC (.str "x")) mNil)))) (mCons (mTup (mCons (mC (.str "=")) (mCons (mC (.str "b")) (mCons (mC (.str "zz")) mNil)))) mNil)))))) mNil)))
    (mSeq (mExpr (mMeth isL aExtend (mVar 1) (mCons (mLst (mCons (mTup (mCons (mC (.str "set")) (mCons (mC (.int 1)) (mCons (mC (.int 2)) mNil)))) mNil)) mNil)))
    (mSeq (mExpr (mMeth isL aExtend (mVar 1) (mCons (mLst (mCons (mTup (mCons (mC (.str "+")) (mCons (mC (.int 1)) (mCons (mC (.bl true)) mNil)))) (mCons (mTup (mCons (mC (.str "+")) (mCons (mC (.int 1)) (mCons (mC .non) mNil)))) (mCons (mTup (mCons (mC (.str "+")) (mCons (mLst (mCons (mC (.int 1)) mNil)) (mCons (mC (.int 2)) mNil)))) (mCons (mLst (mCons (mC (.str "+")) (mCons (mC (.int 1)) (mCons (mC (.int 2)) mNil)))) (mCons (mTup (mCons (mC (.str "not")) (mCons (mTup (mCons (mC (.str "not")) (mCons (mTup (mCons (mC (.str "x")) mNil)) mNil))) mNil))) mNil)))))) mNil)))
    (mSeq (mSet 2 (mC (.str "x")))
    (mSeq (mFor (mRange1 (mC (.int 25))) (.nm 3) (mSet 2 (mIf (mTest (m2 dEq (m2 dMod (mCall dInt (mCons (mVar 3) mNil)) (mC (.int 2))) (mC (.int 0)))) (mTup (mCons (mC (.str "not")) (mCons (mVar 2) mNil))) (mTup (mCons (mC (.str "+")) (mCons (mVar 2) (mCons (mC (.str "y")) mNil)))))))
    (mRet (m2 dAdd (mVar 1) (mLst (mCons (mVar 2) (mCons (mTup (mCons (mC (.str "and")) (mCons (mVar 2) (mCons (mTup (mCons (mC (.str "or")) (mCons (mC (.int 1)) (mCons (mC (.str "a")) mNil)))) mNil)))) (mCons (mTup (mCons (mC (.str "and")) (mCons (mVar 2) (mCons (mTup (mCons (mC (.str "or")) (mCons (mC (.int 1)) mNil))) mNil)))) (mCons (mTup (mCons (mC (.str "return")) (mCons (mVar 2) mNil))) mNil)))))))))))))))))))))
def f__law_values : Fn := callM 0 4 (b__law_values)
theorem sc__law_values : FnScope ["_law_far", "_law_found", "_law_deep", "_law_k"] [] (defScope s__law_values) := ⟨rfl, rfl, rfl, by decide +kernel, rfl, by decide +kernel, by decide +kernel⟩
theorem fn__law_values {f : Addr} {fd : FuncData} (F : Fun K "_law_values" "_law_values" s__law_values f fd) (z_range : mg "range" = none) (z_int : mg "int" = none) :
    FnG P w K mg base (k + 1) f fd [] (f__law_values) := by
  refine fnG_of F sc__law_values (fun cdv A outer s H E hr hg => ?_)
  have sc := sc__law_values
  have u1 := hu_of hr
  have u64 := hr.units
  have uR := u100 hr
  exact (pmss_cons (pms_set (i := 0) sc.nd rfl (.inl rfl) (pm_bin od_pow pm_int pm_int))
    (pmss_cons (pms_set (i := 1) sc.nd rfl (.inl rfl) (pm_lstC (pma_cons pm_int (pma_cons pm_int (pma_cons (pm_un ud_neg pm_int) (pma_cons (pm_var (pv 0)) (pma_cons (pm_un ud_neg (pm_var (pv 0))) (pma_cons pm_bl (pma_cons pm_bl (pma_cons pm_non (pma_cons pm_str (pma_cons pm_str (pma_cons pm_str (pma_cons pm_str (pma_cons pm_str (pma_cons pm_str pma_nil))))))))))))))))
    (pmss_cons (pms_expr (pm_meth PySem.F.plainAttrs_list PySem.F.slot_list_extend PySem.F.type_list_extend (.inl ⟨rfl, rfl⟩) md_extend (pm_var (pv 1)) (pma_cons (pm_lst (pma_cons pm_str (pma_cons pm_str (pma_cons pm_str (pma_cons pm_str (pma_cons pm_str (pma_cons pm_str (pma_cons pm_str (pma_cons pm_str (pma_cons pm_str (pma_cons pm_str (pma_cons pm_str pma_nil)))))))))))) pma_nil)))
    (pmss_cons (pms_expr (pm_meth PySem.F.plainAttrs_list PySem.F.slot_list_extend PySem.F.type_list_extend (.inl ⟨rfl, rfl⟩) md_extend (pm_var (pv 1)) (pma_cons (pm_lst (pma_cons (pm_tup pma_nil) (pma_cons (pm_lst pma_nil) (pma_cons (pm_lst (pma_cons pm_str pma_nil)) (pma_cons (pm_tup (pma_cons pm_str pma_nil)) (pma_cons (pm_tup (pma_cons pm_int pma_nil)) (pma_cons (pm_tup (pma_cons pm_str (pma_cons pm_int (pma_cons pm_int pma_nil)))) (pma_cons (pm_tup (pma_cons pm_str (pma_cons pm_int (pma_cons pm_int pma_nil)))) (pma_cons (pm_tup (pma_cons pm_str (pma_cons pm_int (pma_cons pm_int pma_nil)))) (pma_cons (pm_tup (pma_cons pm_str (pma_cons pm_int pma_nil))) (pma_cons (pm_tup (pma_cons pm_str (pma_cons pm_int (pma_cons pm_int (pma_cons pm_int pma_nil))))) pma_nil))))))))))) pma_nil)))
    (pmss_cons (pms_expr (pm_meth PySem.F.plainAttrs_list PySem.F.slot_list_extend PySem.F.type_list_extend (.inl ⟨rfl, rfl⟩) md_extend (pm_var (pv 1)) (pma_cons (pm_lst (pma_cons (pm_tup (pma_cons pm_str (pma_cons pm_int (pma_cons pm_int pma_nil)))) (pma_cons (pm_lst (pma_cons pm_str (pma_cons pm_int (pma_cons pm_int pma_nil)))) (pma_cons (pm_tup (pma_cons pm_str (pma_cons pm_bl (pma_cons pm_int pma_nil)))) (pma_cons (pm_tup (pma_cons pm_str (pma_cons pm_int (pma_cons pm_bl pma_nil)))) (pma_cons (pm_tup (pma_cons pm_str (pma_cons pm_str (pma_cons pm_int pma_nil)))) (pma_cons (pm_tup (pma_cons pm_str (pma_cons (pm_un ud_neg (pm_var (pv 0))) (pma_cons (pm_var (pv 0)) pma_nil)))) pma_nil))))))) pma_nil)))
    (pmss_cons (pms_expr (pm_meth PySem.F.plainAttrs_list PySem.F.slot_list_extend PySem.F.type_list_extend (.inl ⟨rfl, rfl⟩) md_extend (pm_var (pv 1)) (pma_cons (pm_lst (pma_cons (pm_tup (pma_cons pm_str (pma_cons pm_str pma_nil))) (pma_cons (pm_tup (pma_cons pm_str (pma_cons pm_int pma_nil))) (pma_cons (pm_tup (pma_cons pm_str pma_nil)) (pma_cons (pm_tup (pma_cons pm_str (pma_cons pm_int (pma_cons pm_int pma_nil)))) (pma_cons (pm_tup (pma_cons pm_str (pma_cons pm_int (pma_cons pm_int (pma_cons pm_int pma_nil))))) (pma_cons (pm_tup (pma_cons pm_str (pma_cons pm_int (pma_cons pm_int pma_nil)))) pma_nil))))))) pma_nil)))
    (pmss_cons (pms_expr (pm_meth PySem.F.plainAttrs_list PySem.F.slot_list_extend PySem.F.type_list_extend (.inl ⟨rfl, rfl⟩) md_extend (pm_var (pv 1)) (pma_cons (pm_lst (pma_cons (pm_tup (pma_cons pm_str (pma_cons pm_int (pma_cons pm_int (pma_cons pm_int (pma_cons pm_int pma_nil)))))) pma_nil)) pma_nil)))
    (pmss_cons (pms_expr (pm_meth PySem.F.plainAttrs_list PySem.F.slot_list_extend PySem.F.type_list_extend (.inl ⟨rfl, rfl⟩) md_extend (pm_var (pv 1)) (pma_cons (pm_lst (pma_cons (pm_tup (pma_cons pm_str (pma_cons pm_int (pma_cons pm_int pma_nil)))) (pma_cons (pm_tup (pma_cons pm_str (pma_cons pm_int pma_nil))) (pma_cons (pm_tup (pma_cons pm_str (pma_cons pm_int (pma_cons pm_int (pma_cons pm_int pma_nil))))) (pma_cons (pm_tup (pma_cons pm_str (pma_cons pm_int (pma_cons pm_int pma_nil)))) pma_nil))))) pma_nil)))
    (pmss_cons (pms_expr (pm_meth PySem.F.plainAttrs_list PySem.F.slot_list_extend PySem.F.type_list_extend (.inl ⟨rfl, rfl⟩) md_extend (pm_var (pv 1)) (pma_cons (pm_lst (pma_cons (pm_tup (pma_cons pm_str (pma_cons pm_int pma_nil))) (pma_cons (pm_tup (pma_cons pm_str (pma_cons pm_int (pma_cons pm_int pma_nil)))) (pma_cons (pm_tup (pma_cons pm_str (pma_cons pm_str (pma_cons pm_str pma_nil)))) pma_nil)))) pma_nil)))
    (pmss_cons (pms_expr (pm_meth PySem.F.plainAttrs_list PySem.F.slot_list_extend PySem.F.type_list_extend (.inl ⟨rfl, rfl⟩) md_extend (pm_var (pv 1)) (pma_cons (pm_lst (pma_cons (pm_tup (pma_cons pm_str (pma_cons pm_str (pma_cons pm_str pma_nil)))) (pma_cons (pm_tup (pma_cons pm_str (pma_cons pm_int (pma_cons pm_int pma_nil)))) (pma_cons (pm_tup (pma_cons pm_str (pma_cons pm_int (pma_cons pm_int pma_nil)))) (pma_cons (pm_tup (pma_cons pm_str (pma_cons pm_int (pma_cons pm_str pma_nil)))) (pma_cons (pm_tup (pma_cons pm_str (pma_cons pm_str (pma_cons pm_str pma_nil)))) pma_nil)))))) pma_nil)))
    (pmss_cons (pms_expr (pm_meth PySem.F.plainAttrs_list PySem.F.slot_list_extend PySem.F.type_list_extend (.inl ⟨rfl, rfl⟩) md_extend (pm_var (pv 1)) (pma_cons (pm_lst (pma_cons (pm_tup (pma_cons pm_str (pma_cons pm_int (pma_cons pm_int pma_nil)))) pma_nil)) pma_nil)))
    (pmss_cons (pms_expr (pm_meth PySem.F.plainAttrs_list PySem.F.slot_list_extend PySem.F.type_list_extend (.inl ⟨rfl, rfl⟩) md_extend (pm_var (pv 1)) (pma_cons (pm_lst (pma_cons (pm_tup (pma_cons pm_str (pma_cons pm_int (pma_cons pm_bl pma_nil)))) (pma_cons (pm_tup (pma_cons pm_str (pma_cons pm_int (pma_cons pm_non pma_nil)))) (pma_cons (pm_tup (pma_cons pm_str (pma_cons (pm_lst (pma_cons pm_int pma_nil)) (pma_cons pm_int pma_nil)))) (pma_cons (pm_lst (pma_cons pm_str (pma_cons pm_int (pma_cons pm_int pma_nil)))) (pma_cons (pm_tup (pma_cons pm_str (pma_cons (pm_tup (pma_cons pm_str (pma_cons (pm_tup (pma_cons pm_str pma_nil)) pma_nil))) pma_nil))) pma_nil)))))) pma_nil)))
    (pmss_cons (pms_set (i := 2) sc.nd rfl (.inl rfl) pm_str)
    (pmss_cons (pms_for (passes_of rfl) rfl (pmi_range1 rfl z_range pm_int) (pmg_name sc.nd rfl (.inl rfl)) (pmss_one (pms_set (i := 2) sc.nd rfl (.inl rfl) (pm_if (pmt_cmp (od_eq u64) (pm_bin od_mod (pm_callTy cd_int rfl z_int (by decide +kernel) (pma_cons (pm_var (pv 3)) pma_nil)) pm_int) pm_int (nomark _)) (pm_tup (pma_cons pm_str (pma_cons (pm_var (pv 2)) pma_nil))) (pm_tup (pma_cons pm_str (pma_cons (pm_var (pv 2)) (pma_cons pm_str pma_nil))))))))
    (pmss_one (pms_ret (pm_bin od_add (pm_var (pv 1)) (pm_lst (pma_cons (pm_var (pv 2)) (pma_cons (pm_tup (pma_cons pm_str (pma_cons (pm_var (pv 2)) (pma_cons (pm_tup (pma_cons pm_str (pma_cons pm_int (pma_cons pm_str pma_nil)))) pma_nil)))) (pma_cons (pm_tup (pma_cons pm_str (pma_cons (pm_var (pv 2)) (pma_cons (pm_tup (pma_cons pm_str (pma_cons pm_int pma_nil))) pma_nil)))) (pma_cons (pm_tup (pma_cons pm_str (pma_cons (pm_var (pv 2)) pma_nil))) pma_nil))))))))))))))))))))))
theorem ok__law_values {f : Addr} {fd : FuncData} (F : Fun K "_law_values" "_law_values" s__law_values f fd) (bF : Binds K fd [] []) (mF : mg "_law_values" = some (.ref f)) (z_range : mg "range" = none) (z_int : mg "int" = none) :
    Has P w K mg base (k + 1) "_law_values" [] (f__law_values) := ⟨f, fd, fn__law_values F z_range z_int, bF, F.kp, mF⟩

/-! ### _law_more_values -/
abbrev s__law_more_values : Stmt := top 51
def b__law_more_values : MS :=
  (mSeq (mSet 0 (mLstC (mCons (mTup (mCons (mC (.str "end")) mNil)) (mCons (mTup (mCons (mC (.str "else")) mNil)) (mCons (mTup (mCons (mC (.str "end")) (mCons (mC (.int 1)) mNil))) (mCons (mTup (mCons (mC (.str "else")) (mCons (mC (.str "x")) mNil))) (mCons (mLst (mCons (mC (.str "end")) mNil)) (mCons (mTup (mCons (mC (.str "END")) mNil)) (mCons (mTup (mCons (mTup (mCons (mC (.str "end")) mNil)) mNil)) (mCons (mTup (mCons (mC (.str "end")) (mCons (mTup mNil) mNil))) mNil))))))))))
    (mSeq (mExpr (mMeth isL aExtend (mVar 0) (mCons (mLst (mCons (mTup (mCons (mC (.str "set")) (mCons (mC (.str "x")) (mCons (mC (.int 1)) mNil)))) (mCons (mTup (mCons (mC (.str "set")) (mCons (mC (.str "x")) mNil))) (mCons (mTup (mCons (mC (.str "set")) (mCons (mC (.int 1)) (mCons (mC (.int 1)) mNil)))) (mCons (mTup (mCons (mC (.str "set")) (mCons (mC (.str "X")) (mCons (mC (.int 1)) mNil)))) (mCons (mTup (mCons (mC (.str "set")) (mCons (mC (.str "x")) (mCons (mC (.int 1)) (mCons (mC (.int 2)) mNil))))) mNil)))))) mNil)))
    (mSeq (mExpr (mMeth isL aExtend (mVar 0) (mCons (mLst (mCons (mTup (mCons (mC (.str "set")) (mCons (mC (.str "x")) (mCons (mC .non) mNil)))) mNil)) mNil)))
    (mSeq (mExpr (mMeth isL aExtend (mVar 0) (mCons (mLst (mCons (mTup (mCons (mC (.str "if")) (mCons (mC (.int 1)) mNil))) (mCons (mTup (mCons (mC (.str "if")) mNil)) (mCons (mTup (mCons (mC (.str "if")) (mCons (mC (.bl true)) mNil))) (mCons (mTup (mCons (mC (.str "while")) (mCons (mC (.str "x")) mNil))) (mCons (mTup (mCons (mC (.str "while")) mNil)) (mCons (mTup (mCons (mC (.str "while")) (mCons (mC (.int 1)) (mCons (mC (.int 2)) mNil)))) mNil))))))) mNil)))
    (mSeq (mExpr (mMeth isL aExtend (mVar 0) (mCons (mLst (mCons (mTup (mCons (mC (.str "while")) (mCons (mLst (mCons (mC (.str "x")) mNil)) mNil))) mNil)) mNil)))
    (mSeq (mExpr (mMeth isL aExtend (mVar 0) (mCons (mLst (mCons (mTup (mCons (mC (.str "return")) (mCons (mC (.int 0)) mNil))) (mCons (mTup (mCons (mC (.str "return")) mNil)) (mCons (mTup (mCons (mC (.str "return")) (mCons (mC (.int 0)) (mCons (mC (.int 1)) mNil)))) (mCons (mTup (mCons (mC (.str "return")) (mCons (mC (.str "X")) mNil))) (mCons (mTup (mCons (mC (.str "call")) (mCons (mC (.str "x")) (mCons (mC (.str "f")) (mCons (mTup mNil) mNil))))) mNil)))))) mNil)))
    (mSeq (mExpr (mMeth isL aExtend (mVar 0) (mCons (mLst (mCons (mTup (mCons (mC (.str "call")) (mCons (mC (.str "x")) (mCons (mC (.str "f")) (mCons (mTup (mCons (mC (.int 1)) (mCons (mC (.str "y")) mNil))) mNil))))) (mCons (mTup (mCons (mC (.str "call")) (mCons (mC (.str "x")) (mCons (mC (.str "f")) (mCons (mLst (mCons (mC (.int 1)) mNil)) mNil))))) (mCons (mTup (mCons (mC (.str "call")) (mCons (mC (.str "x")) (mCons (mC (.str "f")) (mCons (mTup (mCons (mC .non) mNil)) mNil))))) mNil)))) mNil)))
    (mSeq (mExpr (mMeth isL aExtend (mVar 0) (mCons (mLst (mCons (mTup (mCons (mC (.str "call")) (mCons (mC (.str "x")) (mCons (mC (.str "f")) mNil)))) mNil)) mNil)))
    (mSeq (mExpr (mMeth isL aExtend (mVar 0) (mCons (mLst (mCons (mTup (mCons (mC (.str "call")) (mCons (mC (.int 1)) (mCons (mC (.str "f")) (mCons (mTup mNil) mNil))))) (mCons (mTup (mCons (mC (.str "call")) (mCons (mC (.str "x")) (mCons (mC (.str "F")) (mCons (mTup mNil) mNil))))) (mCons (mTup (mCons (mC (.str "call")) (mCons (mC (.str "x")) (mCons (mC (.str "f")) (mCons (mC (.int 1)) mNil))))) mNil)))) mNil)))
    (mSeq (mExpr (mMeth isL aExtend (mVar 0) (mCons (mLst (mCons (mTup (mCons (mC (.str "call")) (mCons (mC (.str "x")) (mCons (mC (.str "f")) (mCons (mTup mNil) (mCons (mTup mNil) mNil)))))) mNil)) mNil)))
    (mSeq (mExpr (mMeth isL aExtend (mVar 0) (mCons (mLst (mCons (mTup (mCons (mTup mNil) (mCons (mC (.int 0)) mNil))) (mCons (mTup (mCons (mTup (mCons (mC (.int 1)) (mCons (mC (.int 2)) mNil))) (mCons (mC (.int 3)) mNil))) (mCons (mTup (mCons (mTup (mCons (mC (.bl true)) mNil)) (mCons (mC (.int 0)) mNil))) (mCons (mTup (mCons (mTup (mCons (mC (.int 1)) mNil)) (mCons (mC (.bl true)) mNil))) (mCons (mTup (mCons (mTup (mCons (mC (.int 1)) mNil)) (mCons (mC .non) mNil))) (mCons (mTup (mCons (mLst (mCons (mC (.int 1)) mNil)) (mCons (mC (.int 0)) mNil))) (mCons (mTup (mCons (mTup (mCons (mC (.int 1)) mNil)) mNil)) mNil)))))))) mNil)))
    (mSeq (mExpr (mMeth isL aExtend (mVar 0) (mCons (mLst (mCons (mTup (mCons (mTup (mCons (mC (.int 1)) mNil)) (mCons (mC (.int 0)) (mCons (mC (.int 0)) mNil)))) mNil)) mNil)))
    (mSeq (mSet 1 (m2 dPow (mC (.int 10)) (mC (.int 59))))
    (mRet (m2 dAdd (mVar 0) (mLst (mCons (mTup (mCons (mTup (mCons (m1 dNeg (mVar 1)) mNil)) (mCons (mVar 1) mNil))) (mCons (mTup (mCons (mC (.int 1)) (mCons (mC (.int 0)) mNil))) (mCons (mTup (mCons (mTup (mCons (mC (.str "1")) mNil)) (mCons (mC (.int 0)) mNil))) (mCons (mLst (mCons (mTup mNil) (mCons (mC (.int 0)) mNil))) (mCons (mTup (mCons (mTup mNil) (mCons (mTup mNil) mNil))) (mCons (mTup (mCons (mC (.str "x")) (mCons (mC (.int 0)) mNil))) (mCons (mTup (mCons (mTup (mCons (mC (.int 1)) (mCons (mC .non) mNil))) (mCons (mC (.int 0)) mNil))) (mCons (mTup (mCons (mTup mNil) (mCons (mC (.str "0")) mNil))) mNil))))))))))))))))))))))))
def f__law_more_values : Fn := callM 0 2 (b__law_more_values)
theorem sc__law_more_values : FnScope ["_law_found", "_law_far"] [] (defScope s__law_more_values) := ⟨rfl, rfl, rfl, by decide +kernel, rfl, by decide +kernel, by decide +kernel⟩
theorem fn__law_more_values {f : Addr} {fd : FuncData} (F : Fun K "_law_more_values" "_law_more_values" s__law_more_values f fd) :
    FnG P w K mg base (k + 1) f fd [] (f__law_more_values) := by
  refine fnG_of F sc__law_more_values (fun cdv A outer s H E hr hg => ?_)
  have sc := sc__law_more_values
  have u1 := hu_of hr
  have u64 := hr.units
  have uR := u100 hr
  exact (pmss_cons (pms_set (i := 0) sc.nd rfl (.inl rfl) (pm_lstC (pma_cons (pm_tup (pma_cons pm_str pma_nil)) (pma_cons (pm_tup (pma_cons pm_str pma_nil)) (pma_cons (pm_tup (pma_cons pm_str (pma_cons pm_int pma_nil))) (pma_cons (pm_tup (pma_cons pm_str (pma_cons pm_str pma_nil))) (pma_cons (pm_lst (pma_cons pm_str pma_nil)) (pma_cons (pm_tup (pma_cons pm_str pma_nil)) (pma_cons (pm_tup (pma_cons (pm_tup (pma_cons pm_str pma_nil)) pma_nil)) (pma_cons (pm_tup (pma_cons pm_str (pma_cons (pm_tup pma_nil) pma_nil))) pma_nil))))))))))
    (pmss_cons (pms_expr (pm_meth PySem.F.plainAttrs_list PySem.F.slot_list_extend PySem.F.type_list_extend (.inl ⟨rfl, rfl⟩) md_extend (pm_var (pv 0)) (pma_cons (pm_lst (pma_cons (pm_tup (pma_cons pm_str (pma_cons pm_str (pma_cons pm_int pma_nil)))) (pma_cons (pm_tup (pma_cons pm_str (pma_cons pm_str pma_nil))) (pma_cons (pm_tup (pma_cons pm_str (pma_cons pm_int (pma_cons pm_int pma_nil)))) (pma_cons (pm_tup (pma_cons pm_str (pma_cons pm_str (pma_cons pm_int pma_nil)))) (pma_cons (pm_tup (pma_cons pm_str (pma_cons pm_str (pma_cons pm_int (pma_cons pm_int pma_nil))))) pma_nil)))))) pma_nil)))
    (pmss_cons (pms_expr (pm_meth PySem.F.plainAttrs_list PySem.F.slot_list_extend PySem.F.type_list_extend (.inl ⟨rfl, rfl⟩) md_extend (pm_var (pv 0)) (pma_cons (pm_lst (pma_cons (pm_tup (pma_cons pm_str (pma_cons pm_str (pma_cons pm_non pma_nil)))) pma_nil)) pma_nil)))
    (pmss_cons (pms_expr (pm_meth PySem.F.plainAttrs_list PySem.F.slot_list_extend PySem.F.type_list_extend (.inl ⟨rfl, rfl⟩) md_extend (pm_var (pv 0)) (pma_cons (pm_lst (pma_cons (pm_tup (pma_cons pm_str (pma_cons pm_int pma_nil))) (pma_cons (pm_tup (pma_cons pm_str pma_nil)) (pma_cons (pm_tup (pma_cons pm_str (pma_cons pm_bl pma_nil))) (pma_cons (pm_tup (pma_cons pm_str (pma_cons pm_str pma_nil))) (pma_cons (pm_tup (pma_cons pm_str pma_nil)) (pma_cons (pm_tup (pma_cons pm_str (pma_cons pm_int (pma_cons pm_int pma_nil)))) pma_nil))))))) pma_nil)))
    (pmss_cons (pms_expr (pm_meth PySem.F.plainAttrs_list PySem.F.slot_list_extend PySem.F.type_list_extend (.inl ⟨rfl, rfl⟩) md_extend (pm_var (pv 0)) (pma_cons (pm_lst (pma_cons (pm_tup (pma_cons pm_str (pma_cons (pm_lst (pma_cons pm_str pma_nil)) pma_nil))) pma_nil)) pma_nil)))
    (pmss_cons (pms_expr (pm_meth PySem.F.plainAttrs_list PySem.F.slot_list_extend PySem.F.type_list_extend (.inl ⟨rfl, rfl⟩) md_extend (pm_var (pv 0)) (pma_cons (pm_lst (pma_cons (pm_tup (pma_cons pm_str (pma_cons pm_int pma_nil))) (pma_cons (pm_tup (pma_cons pm_str pma_nil)) (pma_cons (pm_tup (pma_cons pm_str (pma_cons pm_int (pma_cons pm_int pma_nil)))) (pma_cons (pm_tup (pma_cons pm_str (pma_cons pm_str pma_nil))) (pma_cons (pm_tup (pma_cons pm_str (pma_cons pm_str (pma_cons pm_str (pma_cons (pm_tup pma_nil) pma_nil))))) pma_nil)))))) pma_nil)))
    (pmss_cons (pms_expr (pm_meth PySem.F.plainAttrs_list PySem.F.slot_list_extend PySem.F.type_list_extend (.inl ⟨rfl, rfl⟩) md_extend (pm_var (pv 0)) (pma_cons (pm_lst (pma_cons (pm_tup (pma_cons pm_str (pma_cons pm_str (pma_cons pm_str (pma_cons (pm_tup (pma_cons pm_int (pma_cons pm_str pma_nil))) pma_nil))))) (pma_cons (pm_tup (pma_cons pm_str (pma_cons pm_str (pma_cons pm_str (pma_cons (pm_lst (pma_cons pm_int pma_nil)) pma_nil))))) (pma_cons (pm_tup (pma_cons pm_str (pma_cons pm_str (pma_cons pm_str (pma_cons (pm_tup (pma_cons pm_non pma_nil)) pma_nil))))) pma_nil)))) pma_nil)))
    (pmss_cons (pms_expr (pm_meth PySem.F.plainAttrs_list PySem.F.slot_list_extend PySem.F.type_list_extend (.inl ⟨rfl, rfl⟩) md_extend (pm_var (pv 0)) (pma_cons (pm_lst (pma_cons (pm_tup (pma_cons pm_str (pma_cons pm_str (pma_cons pm_str pma_nil)))) pma_nil)) pma_nil)))
    (pmss_cons (pms_expr (pm_meth PySem.F.plainAttrs_list PySem.F.slot_list_extend PySem.F.type_list_extend (.inl ⟨rfl, rfl⟩) md_extend (pm_var (pv 0)) (pma_cons (pm_lst (pma_cons (pm_tup (pma_cons pm_str (pma_cons pm_int (pma_cons pm_str (pma_cons (pm_tup pma_nil) pma_nil))))) (pma_cons (pm_tup (pma_cons pm_str (pma_cons pm_str (pma_cons pm_str (pma_cons (pm_tup pma_nil) pma_nil))))) (pma_cons (pm_tup (pma_cons pm_str (pma_cons pm_str (pma_cons pm_str (pma_cons pm_int pma_nil))))) pma_nil)))) pma_nil)))
    (pmss_cons (pms_expr (pm_meth PySem.F.plainAttrs_list PySem.F.slot_list_extend PySem.F.type_list_extend (.inl ⟨rfl, rfl⟩) md_extend (pm_var (pv 0)) (pma_cons (pm_lst (pma_cons (pm_tup (pma_cons pm_str (pma_cons pm_str (pma_cons pm_str (pma_cons (pm_tup pma_nil) (pma_cons (pm_tup pma_nil) pma_nil)))))) pma_nil)) pma_nil)))
    (pmss_cons (pms_expr (pm_meth PySem.F.plainAttrs_list PySem.F.slot_list_extend PySem.F.type_list_extend (.inl ⟨rfl, rfl⟩) md_extend (pm_var (pv 0)) (pma_cons (pm_lst (pma_cons (pm_tup (pma_cons (pm_tup pma_nil) (pma_cons pm_int pma_nil))) (pma_cons (pm_tup (pma_cons (pm_tup (pma_cons pm_int (pma_cons pm_int pma_nil))) (pma_cons pm_int pma_nil))) (pma_cons (pm_tup (pma_cons (pm_tup (pma_cons pm_bl pma_nil)) (pma_cons pm_int pma_nil))) (pma_cons (pm_tup (pma_cons (pm_tup (pma_cons pm_int pma_nil)) (pma_cons pm_bl pma_nil))) (pma_cons (pm_tup (pma_cons (pm_tup (pma_cons pm_int pma_nil)) (pma_cons pm_non pma_nil))) (pma_cons (pm_tup (pma_cons (pm_lst (pma_cons pm_int pma_nil)) (pma_cons pm_int pma_nil))) (pma_cons (pm_tup (pma_cons (pm_tup (pma_cons pm_int pma_nil)) pma_nil)) pma_nil)))))))) pma_nil)))
    (pmss_cons (pms_expr (pm_meth PySem.F.plainAttrs_list PySem.F.slot_list_extend PySem.F.type_list_extend (.inl ⟨rfl, rfl⟩) md_extend (pm_var (pv 0)) (pma_cons (pm_lst (pma_cons (pm_tup (pma_cons (pm_tup (pma_cons pm_int pma_nil)) (pma_cons pm_int (pma_cons pm_int pma_nil)))) pma_nil)) pma_nil)))
    (pmss_cons (pms_set (i := 1) sc.nd rfl (.inl rfl) (pm_bin od_pow pm_int pm_int))
    (pmss_one (pms_ret (pm_bin od_add (pm_var (pv 0)) (pm_lst (pma_cons (pm_tup (pma_cons (pm_tup (pma_cons (pm_un ud_neg (pm_var (pv 1))) pma_nil)) (pma_cons (pm_var (pv 1)) pma_nil))) (pma_cons (pm_tup (pma_cons pm_int (pma_cons pm_int pma_nil))) (pma_cons (pm_tup (pma_cons (pm_tup (pma_cons pm_str pma_nil)) (pma_cons pm_int pma_nil))) (pma_cons (pm_lst (pma_cons (pm_tup pma_nil) (pma_cons pm_int pma_nil))) (pma_cons (pm_tup (pma_cons (pm_tup pma_nil) (pma_cons (pm_tup pma_nil) pma_nil))) (pma_cons (pm_tup (pma_cons pm_str (pma_cons pm_int pma_nil))) (pma_cons (pm_tup (pma_cons (pm_tup (pma_cons pm_int (pma_cons pm_non pma_nil))) (pma_cons pm_int pma_nil))) (pma_cons (pm_tup (pma_cons (pm_tup pma_nil) (pma_cons pm_str pma_nil))) pma_nil)))))))))))))))))))))))))
theorem ok__law_more_values {f : Addr} {fd : FuncData} (F : Fun K "_law_more_values" "_law_more_values" s__law_more_values f fd) (bF : Binds K fd [] []) (mF : mg "_law_more_values" = some (.ref f)) :
    Has P w K mg base (k + 1) "_law_more_values" [] (f__law_more_values) := ⟨f, fd, fn__law_more_values F, bF, F.kp, mF⟩

/-! ### _law_kinds_right -/
abbrev s__law_kinds_right : Stmt := top 52
def b__law_kinds_right (g_is_expression : Fn) (g_is_variable : Fn) (g_is_name : Fn) (g_is_number : Fn) (g_is_integer : Fn) (g_is_row : Fn) (g_is_test : Fn) (g__law_is_variable : Fn) (g__law_is_name : Fn) (g__law_integer : Fn) (g__law_is_test : Fn) (g__law_is_row : Fn) (g__law_is_expression : Fn) : MS :=
  (mSeq (mSet 1 (mLstC (mCons (mFn g_is_integer (mCons (mVar 0) mNil)) (mCons (mFn g_is_number (mCons (mVar 0) mNil)) (mCons (mFn g_is_name (mCons (mVar 0) mNil)) (mCons (mFn g_is_variable (mCons (mVar 0) mNil)) (mCons (mFn g_is_expression (mCons (mVar 0) mNil)) mNil)))))))
    (mSeq (mExpr (mMeth isL aExtend (mVar 1) (mCons (mLst (mCons (mFn g_is_row (mCons (mVar 0) mNil)) mNil)) mNil)))
    (mSeq (mExpr (mMeth isL aAppend (mVar 1) (mCons (mFn g_is_test (mCons (mVar 0) mNil)) mNil)))
    (mSeq (mSet 2 (mLst (mCons (mFn g__law_integer (mCons (mVar 0) mNil)) (mCons (mAndV (mFn g__law_integer (mCons (mVar 0) mNil)) (m2 dGe (mVar 0) (mC (.int 0)))) (mCons (mFn g__law_is_name (mCons (mVar 0) mNil)) (mCons (mFn g__law_is_variable (mCons (mVar 0) mNil)) mNil))))))
    (mRet (m2 dEq (mCall dRepr (mCons (mVar 1) mNil)) (mCall dRepr (mCons (m2 dAdd (mVar 2) (mLst (mCons (mFn g__law_is_expression (mCons (mVar 0) mNil)) (mCons (mFn g__law_is_row (mCons (mVar 0) mNil)) (mCons (mFn g__law_is_test (mCons (mVar 0) mNil)) mNil))))) mNil))))))))
def f__law_kinds_right (g_is_expression : Fn) (g_is_variable : Fn) (g_is_name : Fn) (g_is_number : Fn) (g_is_integer : Fn) (g_is_row : Fn) (g_is_test : Fn) (g__law_is_variable : Fn) (g__law_is_name : Fn) (g__law_integer : Fn) (g__law_is_test : Fn) (g__law_is_row : Fn) (g__law_is_expression : Fn) : Fn := callM 1 3 (b__law_kinds_right g_is_expression g_is_variable g_is_name g_is_number g_is_integer g_is_row g_is_test g__law_is_variable g__law_is_name g__law_integer g__law_is_test g__law_is_row g__law_is_expression)
theorem sc__law_kinds_right : FnScope ["_law_item", "_law_told", "_law_due"] ["_law_item"] (defScope s__law_kinds_right) := ⟨rfl, rfl, rfl, by decide +kernel, rfl, by decide +kernel, by decide +kernel⟩
theorem fn__law_kinds_right {f : Addr} {fd : FuncData} {g_is_expression : Fn} {g_is_variable : Fn} {g_is_name : Fn} {g_is_number : Fn} {g_is_integer : Fn} {g_is_row : Fn} {g_is_test : Fn} {g__law_is_variable : Fn} {g__law_is_name : Fn} {g__law_integer : Fn} {g__law_is_test : Fn} {g__law_is_row : Fn} {g__law_is_expression : Fn} (F : Fun K "_law_kinds_right" "_law_kinds_right" s__law_kinds_right f fd)
    (h_is_expression : Has P w K mg base k "is_expression" ["thing"] g_is_expression)
    (h_is_variable : Has P w K mg base k "is_variable" ["thing"] g_is_variable)
    (h_is_name : Has P w K mg base k "is_name" ["thing"] g_is_name)
    (h_is_number : Has P w K mg base k "is_number" ["thing"] g_is_number)
    (h_is_integer : Has P w K mg base k "is_integer" ["thing"] g_is_integer)
    (h_is_row : Has P w K mg base k "is_row" ["thing"] g_is_row)
    (h_is_test : Has P w K mg base k "is_test" ["thing"] g_is_test)
    (h__law_is_variable : Has P w K mg base k "_law_is_variable" ["_law_item"] g__law_is_variable)
    (h__law_is_name : Has P w K mg base k "_law_is_name" ["_law_item"] g__law_is_name)
    (h__law_integer : Has P w K mg base k "_law_integer" ["_law_item"] g__law_integer)
    (h__law_is_test : Has P w K mg base k "_law_is_test" ["_law_item"] g__law_is_test)
    (h__law_is_row : Has P w K mg base k "_law_is_row" ["_law_item"] g__law_is_row)
    (h__law_is_expression : Has P w K mg base k "_law_is_expression" ["_law_item"] g__law_is_expression) (z_repr : mg "repr" = none) :
    FnG P w K mg base (k + 1) f fd ["_law_item"] (f__law_kinds_right g_is_expression g_is_variable g_is_name g_is_number g_is_integer g_is_row g_is_test g__law_is_variable g__law_is_name g__law_integer g__law_is_test g__law_is_row g__law_is_expression) := by
  refine fnG_of F sc__law_kinds_right (fun cdv A outer s H E hr hg => ?_)
  have sc := sc__law_kinds_right
  have u1 := hu_of hr
  have u64 := hr.units
  have uR := u100 hr
  exact (pmss_cons (pms_set (i := 1) sc.nd rfl (.inl rfl) (pm_lstC (pma_cons (pm_callH h_is_integer hr hg (takes_of rfl rfl rfl rfl) rfl (pma_cons (pm_var (pv 0)) pma_nil)) (pma_cons (pm_callH h_is_number hr hg (takes_of rfl rfl rfl rfl) rfl (pma_cons (pm_var (pv 0)) pma_nil)) (pma_cons (pm_callH h_is_name hr hg (takes_of rfl rfl rfl rfl) rfl (pma_cons (pm_var (pv 0)) pma_nil)) (pma_cons (pm_callH h_is_variable hr hg (takes_of rfl rfl rfl rfl) rfl (pma_cons (pm_var (pv 0)) pma_nil)) (pma_cons (pm_callH h_is_expression hr hg (takes_of rfl rfl rfl rfl) rfl (pma_cons (pm_var (pv 0)) pma_nil)) pma_nil)))))))
    (pmss_cons (pms_expr (pm_meth PySem.F.plainAttrs_list PySem.F.slot_list_extend PySem.F.type_list_extend (.inl ⟨rfl, rfl⟩) md_extend (pm_var (pv 1)) (pma_cons (pm_lst (pma_cons (pm_callH h_is_row hr hg (takes_of rfl rfl rfl rfl) rfl (pma_cons (pm_var (pv 0)) pma_nil)) pma_nil)) pma_nil)))
    (pmss_cons (pms_expr (pm_meth PySem.F.plainAttrs_list PySem.F.slot_list_append PySem.F.type_list_append (.inl ⟨rfl, rfl⟩) md_append (pm_var (pv 1)) (pma_cons (pm_callH h_is_test hr hg (takes_of rfl rfl rfl rfl) rfl (pma_cons (pm_var (pv 0)) pma_nil)) pma_nil)))
    (pmss_cons (pms_set (i := 2) sc.nd rfl (.inl rfl) (pm_lst (pma_cons (pm_callH h__law_integer hr hg (takes_of rfl rfl rfl rfl) rfl (pma_cons (pm_var (pv 0)) pma_nil)) (pma_cons (pm_and (pm_callH h__law_integer hr hg (takes_of rfl rfl rfl rfl) rfl (pma_cons (pm_var (pv 0)) pma_nil)) (pm_one (pm_cmp od_ge (pm_var (pv 0)) pm_int (nomark _)))) (pma_cons (pm_callH h__law_is_name hr hg (takes_of rfl rfl rfl rfl) rfl (pma_cons (pm_var (pv 0)) pma_nil)) (pma_cons (pm_callH h__law_is_variable hr hg (takes_of rfl rfl rfl rfl) rfl (pma_cons (pm_var (pv 0)) pma_nil)) pma_nil))))))
    (pmss_one (pms_ret (pm_cmp (od_eq u64) (pm_callB (cd_repr hg uR) rfl z_repr (by decide +kernel) (pma_cons (pm_var (pv 1)) pma_nil)) (pm_callB (cd_repr hg uR) rfl z_repr (by decide +kernel) (pma_cons (pm_bin od_add (pm_var (pv 2)) (pm_lst (pma_cons (pm_callH h__law_is_expression hr hg (takes_of rfl rfl rfl rfl) rfl (pma_cons (pm_var (pv 0)) pma_nil)) (pma_cons (pm_callH h__law_is_row hr hg (takes_of rfl rfl rfl rfl) rfl (pma_cons (pm_var (pv 0)) pma_nil)) (pma_cons (pm_callH h__law_is_test hr hg (takes_of rfl rfl rfl rfl) rfl (pma_cons (pm_var (pv 0)) pma_nil)) pma_nil))))) pma_nil)) (nomark _))))))))
theorem ok__law_kinds_right {f : Addr} {fd : FuncData} {g_is_expression : Fn} {g_is_variable : Fn} {g_is_name : Fn} {g_is_number : Fn} {g_is_integer : Fn} {g_is_row : Fn} {g_is_test : Fn} {g__law_is_variable : Fn} {g__law_is_name : Fn} {g__law_integer : Fn} {g__law_is_test : Fn} {g__law_is_row : Fn} {g__law_is_expression : Fn} (F : Fun K "_law_kinds_right" "_law_kinds_right" s__law_kinds_right f fd) (bF : Binds K fd ["_law_item"] []) (mF : mg "_law_kinds_right" = some (.ref f))
    (h_is_expression : Has P w K mg base k "is_expression" ["thing"] g_is_expression)
    (h_is_variable : Has P w K mg base k "is_variable" ["thing"] g_is_variable)
    (h_is_name : Has P w K mg base k "is_name" ["thing"] g_is_name)
    (h_is_number : Has P w K mg base k "is_number" ["thing"] g_is_number)
    (h_is_integer : Has P w K mg base k "is_integer" ["thing"] g_is_integer)
    (h_is_row : Has P w K mg base k "is_row" ["thing"] g_is_row)
    (h_is_test : Has P w K mg base k "is_test" ["thing"] g_is_test)
    (h__law_is_variable : Has P w K mg base k "_law_is_variable" ["_law_item"] g__law_is_variable)
    (h__law_is_name : Has P w K mg base k "_law_is_name" ["_law_item"] g__law_is_name)
    (h__law_integer : Has P w K mg base k "_law_integer" ["_law_item"] g__law_integer)
    (h__law_is_test : Has P w K mg base k "_law_is_test" ["_law_item"] g__law_is_test)
    (h__law_is_row : Has P w K mg base k "_law_is_row" ["_law_item"] g__law_is_row)
    (h__law_is_expression : Has P w K mg base k "_law_is_expression" ["_law_item"] g__law_is_expression) (z_repr : mg "repr" = none) :
    Has P w K mg base (k + 1) "_law_kinds_right" ["_law_item"] (f__law_kinds_right g_is_expression g_is_variable g_is_name g_is_number g_is_integer g_is_row g_is_test g__law_is_variable g__law_is_name g__law_integer g__law_is_test g__law_is_row g__law_is_expression) := ⟨f, fd, fn__law_kinds_right F h_is_expression h_is_variable h_is_name h_is_number h_is_integer h_is_row h_is_test h__law_is_variable h__law_is_name h__law_integer h__law_is_test h__law_is_row h__law_is_expression z_repr, bF, F.kp, mF⟩

/-! ### _law_kept_right -/
abbrev s__law_kept_right : Stmt := top 53
def b__law_kept_right (g_fits : Fn) (g__law_fits : Fn) : MS :=
  (mRet (m2 dEq (mCall dRepr (mCons (mFn g_fits (mCons (mVar 0) (mCons (mVar 1) mNil))) mNil)) (mCall dRepr (mCons (mFn g__law_fits (mCons (mVar 0) (mCons (mVar 1) mNil))) mNil))))
def f__law_kept_right (g_fits : Fn) (g__law_fits : Fn) : Fn := callM 2 2 (b__law_kept_right g_fits g__law_fits)
theorem sc__law_kept_right : FnScope ["_law_names_in_now", "_law_item"] ["_law_names_in_now", "_law_item"] (defScope s__law_kept_right) := ⟨rfl, rfl, rfl, by decide +kernel, rfl, by decide +kernel, by decide +kernel⟩
theorem fn__law_kept_right {f : Addr} {fd : FuncData} {g_fits : Fn} {g__law_fits : Fn} (F : Fun K "_law_kept_right" "_law_kept_right" s__law_kept_right f fd)
    (h_fits : Has P w K mg base k "fits" ["names", "thing"] g_fits)
    (h__law_fits : Has P w K mg base k "_law_fits" ["_law_names_in_now", "_law_item"] g__law_fits) (z_repr : mg "repr" = none) :
    FnG P w K mg base (k + 1) f fd ["_law_names_in_now", "_law_item"] (f__law_kept_right g_fits g__law_fits) := by
  refine fnG_of F sc__law_kept_right (fun cdv A outer s H E hr hg => ?_)
  have sc := sc__law_kept_right
  have u1 := hu_of hr
  have u64 := hr.units
  have uR := u100 hr
  exact (pmss_one (pms_ret (pm_cmp (od_eq u64) (pm_callB (cd_repr hg uR) rfl z_repr (by decide +kernel) (pma_cons (pm_callH h_fits hr hg (takes_of rfl rfl rfl rfl) rfl (pma_cons (pm_var (pv 0)) (pma_cons (pm_var (pv 1)) pma_nil))) pma_nil)) (pm_callB (cd_repr hg uR) rfl z_repr (by decide +kernel) (pma_cons (pm_callH h__law_fits hr hg (takes_of rfl rfl rfl rfl) rfl (pma_cons (pm_var (pv 0)) (pma_cons (pm_var (pv 1)) pma_nil))) pma_nil)) (nomark _))))
theorem ok__law_kept_right {f : Addr} {fd : FuncData} {g_fits : Fn} {g__law_fits : Fn} (F : Fun K "_law_kept_right" "_law_kept_right" s__law_kept_right f fd) (bF : Binds K fd ["_law_names_in_now", "_law_item"] []) (mF : mg "_law_kept_right" = some (.ref f))
    (h_fits : Has P w K mg base k "fits" ["names", "thing"] g_fits)
    (h__law_fits : Has P w K mg base k "_law_fits" ["_law_names_in_now", "_law_item"] g__law_fits) (z_repr : mg "repr" = none) :
    Has P w K mg base (k + 1) "_law_kept_right" ["_law_names_in_now", "_law_item"] (f__law_kept_right g_fits g__law_fits) := ⟨f, fd, fn__law_kept_right F h_fits h__law_fits z_repr, bF, F.kp, mF⟩

/-! ### law -/
abbrev s_law : Stmt := top 54
def b_law (g__law_feed : Fn) (g__law_values : Fn) (g__law_more_values : Fn) (g__law_kinds_right : Fn) (g__law_samples : Fn) (g__law_program : Fn) (g__law_parts_of : Fn) (g__law_bent : Fn) (g__law_names_of : Fn) (g__law_kept_right : Fn) (g_is_variable : Fn) (g_is_name : Fn) (g_is_number : Fn) (g_is_integer : Fn) (g_is_test : Fn) (g_is_row : Fn) (g_is_expression : Fn) (g_fits : Fn) : MS :=
  (mSeq (mSet 1 (mFn g__law_feed (mCons (mVar 0) mNil)))
    (mSeq (mSet 2 (m2 dAdd (mFn g__law_values mNil) (mFn g__law_more_values mNil)))
    (mSeq (mIfS (mTest (m2 dNe (mLc (mSeqI (mVar 2)) (.nm 15) (mNotT (mTru (mFn g__law_kinds_right (mCons (mVar 15) mNil)))) (mVar 15) [15]) (mLst mNil))) (mRet (mC (.bl false))) mSkip)
    (mSeq (mFor (mEnumI (m2 dAdd (mFn g__law_samples mNil) (mLc (mRange1 (mC (.int 4))) (.nm 16) mYes (mFn g__law_program (mCons (mVar 1) mNil)) [16]))) (.tp [3, 4]) (mSeq (mSet 5 (mStride true (mVar 2) (moSome (m2 dMod (mCall dInt (mCons (mVar 3) mNil)) (mC (.int 4)))) (moSome (mC (.int 4)))))
    (mSeq (mFor (mSeqI (m2 dIx (mVar 4) (mC (.int 0)))) (.nm 6) (mSeq (mSet 8 (mCall dTuple (mCons (mLc (mSeqI (mSl (m2 dIx (mVar 6) (mC (.int 3))) moNone (moSome (m2 dIx (mVar 6) (mC (.int 4)))))) (.nm 7) mYes (m2 dIx (mVar 7) (mC (.int 1))) [7]) mNil)))
    (mSeq (mSet 9 (m2 dAdd (m2 dAdd (mCall dList (mCons (m2 dIx (mVar 6) (mC (.int 3))) mNil)) (mCall dList (mCons (m2 dIx (mVar 6) (mC (.int 5))) mNil))) (mLst (mCons (mTup (mCons (mVar 8) (mCons (m2 dIx (mVar 6) (mC (.int 1))) mNil))) mNil))))
    (mFor (mSeqI (mStride false (m2 dAdd (mFn g__law_parts_of (mCons (m2 dIx (mVar 6) (mC (.int 5))) mNil)) (mVar 9)) (moSome (m2 dMod (mCall dInt (mCons (mVar 3) mNil)) (mC (.int 2)))) (moSome (mC (.int 2))))) (.nm 10) (mSeq (mSet 11 (mFn g__law_bent (mCons (mVar 1) (mCons (mVar 10) mNil))))
    (mExpr (mMeth isL aExtend (mVar 5) (mCons (mLst (mCons (mVar 10) (mCons (mVar 11) (mCons (mFn g__law_bent (mCons (mVar 1) (mCons (mVar 11) mNil))) mNil)))) mNil))))))))
    (mSeq (mFz (mSet 12 (mCall dRepr (mCons (mVar 5) mNil))))
    (mSeq (mIfS (mTest (m2 dNe (mLc (mSeqI (mVar 5)) (.nm 15) (mNotT (mTru (mFn g__law_kinds_right (mCons (mVar 15) mNil)))) (mVar 15) [15]) (mLst mNil))) (mRet (mC (.bl false))) mSkip)
    (mSeq (mSet 13 (mFn g__law_names_of (mCons (m2 dIx (m2 dIx (mVar 4) (mC (.int 0))) (m1 dNeg (mC (.int 1)))) mNil)))
    (mSeq (mFor (mSeqI (mTup (mCons (mVar 13) (mCons (mSl (mVar 13) (moSome (mC (.int 1))) moNone) (mCons (mTup mNil) (mCons (mTup (mCons (mC (.str "x")) (mCons (mC (.str "y")) (mCons (mC (.str "a")) mNil)))) mNil)))))) (.nm 7) (mIfS (mTest (m2 dNe (mLc (mSeqI (mVar 5)) (.nm 15) (mNotT (mTru (mFn g__law_kept_right (mCons (mVar 7) (mCons (mVar 15) mNil))))) (mVar 15) [15]) (mLst mNil))) (mRet (mC (.bl false))) mSkip))
    (mIfS (mTest (m2 dNe (mCall dRepr (mCons (mVar 5) mNil)) (mVar 12))) (mRet (mC (.bl false))) mSkip))))))))
    (mSeq (mSet 14 (mLstC (mCons (mFnK false g_is_integer (mCons (m1 dNeg (mC (.int 1))) mNil)) (mCons (mFnK false g_is_number (mCons (mC (.int 0)) mNil)) (mCons (mFnK false g_is_name (mCons (mC (.str "not")) mNil)) (mCons (mFnK false g_is_variable (mCons (mTup (mCons (mC (.str "a")) (mCons (mC (.int 0)) (mCons (mC (.int 0)) mNil)))) mNil)) mNil))))))
    (mSeq (mExpr (mMeth isL aExtend (mVar 14) (mCons (mLst (mCons (mFnK false g_is_expression (mCons (mC (.str "x")) mNil)) (mCons (mFnK false g_is_row (mCons (mTup (mCons (mC (.str "end")) mNil)) mNil)) (mCons (mFnK false g_is_test (mCons (mTup (mCons (mTup mNil) (mCons (mC (.int 0)) mNil))) mNil)) mNil)))) mNil)))
    (mSeq (mExpr (mMeth isL aExtend (mVar 14) (mCons (mLst (mCons (mFnK true g_fits (mCons (mC (.str "x")) (mCons (mTup (mCons (mC (.str "x")) mNil)) mNil))) mNil)) mNil)))
    (mRet (m2 dEq (mCall dRepr (mCons (mVar 14) mNil)) (mCall dRepr (mCons (m2 dMul (mLst (mCons (mC (.bl true)) mNil)) (mC (.int 8))) mNil)))))))))))
def f_law (g__law_feed : Fn) (g__law_values : Fn) (g__law_more_values : Fn) (g__law_kinds_right : Fn) (g__law_samples : Fn) (g__law_program : Fn) (g__law_parts_of : Fn) (g__law_bent : Fn) (g__law_names_of : Fn) (g__law_kept_right : Fn) (g_is_variable : Fn) (g_is_name : Fn) (g_is_number : Fn) (g_is_integer : Fn) (g_is_test : Fn) (g_is_row : Fn) (g_is_expression : Fn) (g_fits : Fn) : Fn := callM 1 17 (b_law g__law_feed g__law_values g__law_more_values g__law_kinds_right g__law_samples g__law_program g__law_parts_of g__law_bent g__law_names_of g__law_kept_right g_is_variable g_is_name g_is_number g_is_integer g_is_test g_is_row g_is_expression g_fits)
theorem sc_law : FnScope ["_law_script", "_law_feed_here", "_law_things", "_law_k", "_law_program_here", "_law_lot", "_law_whole", "_law_some", "_law_inputs", "_law_own", "_law_e", "_law_once", "_law_kept", "_law_names_in_now", "_law_told", "_law_item", "_law_j"] ["_law_script"] (defScope s_law) := ⟨rfl, rfl, rfl, by decide +kernel, rfl, by decide +kernel, by decide +kernel⟩
theorem fn_law {f : Addr} {fd : FuncData} {g__law_feed : Fn} {g__law_values : Fn} {g__law_more_values : Fn} {g__law_kinds_right : Fn} {g__law_samples : Fn} {g__law_program : Fn} {g__law_parts_of : Fn} {g__law_bent : Fn} {g__law_names_of : Fn} {g__law_kept_right : Fn} {g_is_variable : Fn} {g_is_name : Fn} {g_is_number : Fn} {g_is_integer : Fn} {g_is_test : Fn} {g_is_row : Fn} {g_is_expression : Fn} {g_fits : Fn} (F : Fun K "law" "law" s_law f fd)
    (h__law_feed : Has P w K mg base k "_law_feed" ["_law_script"] g__law_feed)
    (h__law_values : Has P w K mg base k "_law_values" [] g__law_values)
    (h__law_more_values : Has P w K mg base k "_law_more_values" [] g__law_more_values)
    (h__law_kinds_right : Has P w K mg base k "_law_kinds_right" ["_law_item"] g__law_kinds_right)
    (h__law_samples : Has P w K mg base k "_law_samples" [] g__law_samples)
    (h__law_program : Has P w K mg base k "_law_program" ["_law_feed_here"] g__law_program)
    (h__law_parts_of : Has P w K mg base k "_law_parts_of" ["_law_rows"] g__law_parts_of)
    (h__law_bent : Has P w K mg base k "_law_bent" ["_law_feed_here", "_law_item"] g__law_bent)
    (h__law_names_of : Has P w K mg base k "_law_names_of" ["_law_whole"] g__law_names_of)
    (h__law_kept_right : Has P w K mg base k "_law_kept_right" ["_law_names_in_now", "_law_item"] g__law_kept_right)
    (hk_is_variable : HasK P w K mg base k "is_variable" ["thing"] false g_is_variable)
    (hk_is_name : HasK P w K mg base k "is_name" ["thing"] false g_is_name)
    (hk_is_number : HasK P w K mg base k "is_number" ["thing"] false g_is_number)
    (hk_is_integer : HasK P w K mg base k "is_integer" ["thing"] false g_is_integer)
    (hk_is_test : HasK P w K mg base k "is_test" ["thing"] false g_is_test)
    (hk_is_row : HasK P w K mg base k "is_row" ["thing"] false g_is_row)
    (hk_is_expression : HasK P w K mg base k "is_expression" ["thing"] false g_is_expression)
    (hk_fits : HasK P w K mg base k "fits" ["names", "thing"] true g_fits) (z_enumerate : mg "enumerate" = none) (z_range : mg "range" = none) (z_int : mg "int" = none) (z_tuple : mg "tuple" = none) (z_list : mg "list" = none) (z_repr : mg "repr" = none) :
    FnG P w K mg base (k + 1) f fd ["_law_script"] (f_law g__law_feed g__law_values g__law_more_values g__law_kinds_right g__law_samples g__law_program g__law_parts_of g__law_bent g__law_names_of g__law_kept_right g_is_variable g_is_name g_is_number g_is_integer g_is_test g_is_row g_is_expression g_fits) := by
  refine fnG_of F sc_law (fun cdv A outer s H E hr hg => ?_)
  have sc := sc_law
  have u1 := hu_of hr
  have u64 := hr.units
  have uR := u100 hr
  exact (pmss_cons (pms_set (i := 1) sc.nd rfl (.inr rfl) (pm_callH h__law_feed hr hg (takes_of rfl rfl rfl rfl) rfl (pma_cons (pm_var (pv 0)) pma_nil)))
    (pmss_cons (pms_set (i := 2) sc.nd rfl (.inl rfl) (pm_bin od_add (pm_callH0 h__law_values hr hg (takes_of rfl rfl rfl rfl) rfl) (pm_callH0 h__law_more_values hr hg (takes_of rfl rfl rfl rfl) rfl)))
    (pmss_cons (pms_if (pmt_cmp (od_ne u64) (pm_lc rfl sc.nd (pmi_seq (pm_var (pv 2))) (own := [("_law_item", 15)]) (blk_of rfl (by kernel_rfl)) (by decide) (fun _ _ _ _ _ => (pmg_name sc.nd rfl (.inl rfl))) (fun _ _ _ _ _ => (pmts_one (pmt_not (pmt_tru (pm_callH h__law_kinds_right hr hg takes0 rfl (pma_cons (pm_var (pv 15)) pma_nil)))))) (fun _ _ _ _ _ => (pm_var (pv 15)))) (pm_lst pma_nil) (nomark _)) (pmss_one (pms_ret pm_bl)) pmss_nil)
    (pmss_cons (pms_for (passes_of rfl) rfl (pmi_enum rfl z_enumerate (pm_bin od_add (pm_callH0 h__law_samples hr hg (takes_of rfl rfl rfl rfl) rfl) (pm_lc rfl sc.nd (pmi_range1 rfl z_range pm_int) (own := [("_law_j", 16)]) (blk_of rfl (by kernel_rfl)) (by decide) (fun _ _ _ _ _ => (pmg_name sc.nd rfl (.inl rfl))) (fun _ _ _ _ _ => pmts_nil) (fun _ _ _ _ _ => (pm_callH h__law_program hr hg takes0 rfl (pma_cons (pm_var (pv 1)) pma_nil)))))) (pmg_tup rfl (pmgs_cons sc.nd (i := 3) rfl (.inl rfl) (pmgs_cons sc.nd (i := 4) rfl (.inl rfl) pmgs_nil))) (pmss_cons (pms_set (i := 5) sc.nd rfl (.inl rfl) (pm_stride (C := true) (pm_var (pv 2)) (pmo_some (pm_bin od_mod (pm_callTy cd_int rfl z_int (by decide +kernel) (pma_cons (pm_var (pv 3)) pma_nil)) pm_int)) (pmo_some pm_int)))
    (pmss_cons (pms_for (passes_of rfl) rfl (pmi_seq (pm_ix u1 (pm_var (pv 4)) pm_int (fun _ _ => rfl))) (pmg_name sc.nd rfl (.inl rfl)) (pmss_cons (pms_set (i := 8) sc.nd rfl (.inl rfl) (pm_callTy cd_tuple rfl z_tuple (by decide +kernel) (pma_cons (pm_lc rfl sc.nd (pmi_seq (pm_sl (pm_ix u1 (pm_var (pv 6)) pm_int (fun _ _ => rfl)) pmo_none (pmo_some (pm_ix u1 (pm_var (pv 6)) pm_int (fun _ _ => rfl))))) (own := [("_law_some", 7)]) (blk_of rfl (by kernel_rfl)) (by decide) (fun _ _ _ _ _ => (pmg_name sc.nd rfl (.inl rfl))) (fun _ _ _ _ _ => pmts_nil) (fun _ _ _ _ _ => (pm_ix u1 (pm_var (pv 7)) pm_int (fun _ _ => rfl)))) pma_nil)))
    (pmss_cons (pms_set (i := 9) sc.nd rfl (.inl rfl) (pm_bin od_add (pm_bin od_add (pm_callTy cd_list rfl z_list (by decide +kernel) (pma_cons (pm_ix u1 (pm_var (pv 6)) pm_int (fun _ _ => rfl)) pma_nil)) (pm_callTy cd_list rfl z_list (by decide +kernel) (pma_cons (pm_ix u1 (pm_var (pv 6)) pm_int (fun _ _ => rfl)) pma_nil))) (pm_lst (pma_cons (pm_tup (pma_cons (pm_var (pv 8)) (pma_cons (pm_ix u1 (pm_var (pv 6)) pm_int (fun _ _ => rfl)) pma_nil))) pma_nil))))
    (pmss_one (pms_for (passes_of rfl) rfl (pmi_seq (pm_stride (C := false) (pm_bin od_add (pm_callH h__law_parts_of hr hg (takes_of rfl rfl rfl rfl) rfl (pma_cons (pm_ix u1 (pm_var (pv 6)) pm_int (fun _ _ => rfl)) pma_nil)) (pm_var (pv 9))) (pmo_some (pm_bin od_mod (pm_callTy cd_int rfl z_int (by decide +kernel) (pma_cons (pm_var (pv 3)) pma_nil)) pm_int)) (pmo_some pm_int))) (pmg_name sc.nd rfl (.inl rfl)) (pmss_cons (pms_set (i := 11) sc.nd rfl (.inl rfl) (pm_callH h__law_bent hr hg (takes_of rfl rfl rfl rfl) rfl (pma_cons (pm_var (pv 1)) (pma_cons (pm_var (pv 10)) pma_nil))))
    (pmss_one (pms_expr (pm_meth PySem.F.plainAttrs_list PySem.F.slot_list_extend PySem.F.type_list_extend (.inl ⟨rfl, rfl⟩) md_extend (pm_var (pv 5)) (pma_cons (pm_lst (pma_cons (pm_var (pv 10)) (pma_cons (pm_var (pv 11)) (pma_cons (pm_callH h__law_bent hr hg (takes_of rfl rfl rfl rfl) rfl (pma_cons (pm_var (pv 1)) (pma_cons (pm_var (pv 11)) pma_nil))) pma_nil)))) pma_nil))))))))))
    (pmss_cons (pms_fz (pms_set (i := 12) sc.nd rfl (.inl rfl) (pm_callB (cd_repr hg uR) rfl z_repr (by decide +kernel) (pma_cons (pm_var (pv 5)) pma_nil))))
    (pmss_cons (pms_if (pmt_cmp (od_ne u64) (pm_lc rfl sc.nd (pmi_seq (pm_var (pv 5))) (own := [("_law_item", 15)]) (blk_of rfl (by kernel_rfl)) (by decide) (fun _ _ _ _ _ => (pmg_name sc.nd rfl (.inl rfl))) (fun _ _ _ _ _ => (pmts_one (pmt_not (pmt_tru (pm_callH h__law_kinds_right hr hg takes0 rfl (pma_cons (pm_var (pv 15)) pma_nil)))))) (fun _ _ _ _ _ => (pm_var (pv 15)))) (pm_lst pma_nil) (nomark _)) (pmss_one (pms_ret pm_bl)) pmss_nil)
    (pmss_cons (pms_set (i := 13) sc.nd rfl (.inl rfl) (pm_callH h__law_names_of hr hg (takes_of rfl rfl rfl rfl) rfl (pma_cons (pm_ix u1 (pm_ix u1 (pm_var (pv 4)) pm_int (fun _ _ => rfl)) (pm_un ud_neg pm_int) (fun _ _ => rfl)) pma_nil)))
    (pmss_cons (pms_for (passes_of rfl) rfl (pmi_seq (pm_tup (pma_cons (pm_var (pv 13)) (pma_cons (pm_sl (pm_var (pv 13)) (pmo_some pm_int) pmo_none) (pma_cons (pm_tup pma_nil) (pma_cons (pm_tup (pma_cons pm_str (pma_cons pm_str (pma_cons pm_str pma_nil)))) pma_nil)))))) (pmg_name sc.nd rfl (.inr rfl)) (pmss_one (pms_if (pmt_cmp (od_ne u64) (pm_lc rfl sc.nd (pmi_seq (pm_var (pv 5))) (own := [("_law_item", 15)]) (blk_of rfl (by kernel_rfl)) (by decide) (fun _ _ _ _ _ => (pmg_name sc.nd rfl (.inl rfl))) (fun _ _ _ _ _ => (pmts_one (pmt_not (pmt_tru (pm_callH h__law_kept_right hr hg takes0 rfl (pma_cons (pm_var (pv 7)) (pma_cons (pm_var (pv 15)) pma_nil))))))) (fun _ _ _ _ _ => (pm_var (pv 15)))) (pm_lst pma_nil) (nomark _)) (pmss_one (pms_ret pm_bl)) pmss_nil)))
    (pmss_one (pms_if (pmt_cmp (od_ne u64) (pm_callB (cd_repr hg uR) rfl z_repr (by decide +kernel) (pma_cons (pm_var (pv 5)) pma_nil)) (pm_var (pv 12)) (nomark _)) (pmss_one (pms_ret pm_bl)) pmss_nil)))))))))
    (pmss_cons (pms_set (i := 14) sc.nd rfl (.inl rfl) (pm_lstC (pma_cons (pm_callKw hk_is_integer hr hg (takes_of rfl rfl rfl rfl) rfl (pmk_cons (pm_un ud_neg pm_int) pmk_nil)) (pma_cons (pm_callKw hk_is_number hr hg (takes_of rfl rfl rfl rfl) rfl (pmk_cons pm_int pmk_nil)) (pma_cons (pm_callKw hk_is_name hr hg (takes_of rfl rfl rfl rfl) rfl (pmk_cons pm_str pmk_nil)) (pma_cons (pm_callKw hk_is_variable hr hg (takes_of rfl rfl rfl rfl) rfl (pmk_cons (pm_tup (pma_cons pm_str (pma_cons pm_int (pma_cons pm_int pma_nil)))) pmk_nil)) pma_nil))))))
    (pmss_cons (pms_expr (pm_meth PySem.F.plainAttrs_list PySem.F.slot_list_extend PySem.F.type_list_extend (.inl ⟨rfl, rfl⟩) md_extend (pm_var (pv 14)) (pma_cons (pm_lst (pma_cons (pm_callKw hk_is_expression hr hg (takes_of rfl rfl rfl rfl) rfl (pmk_cons pm_str pmk_nil)) (pma_cons (pm_callKw hk_is_row hr hg (takes_of rfl rfl rfl rfl) rfl (pmk_cons (pm_tup (pma_cons pm_str pma_nil)) pmk_nil)) (pma_cons (pm_callKw hk_is_test hr hg (takes_of rfl rfl rfl rfl) rfl (pmk_cons (pm_tup (pma_cons (pm_tup pma_nil) (pma_cons pm_int pma_nil))) pmk_nil)) pma_nil)))) pma_nil)))
    (pmss_cons (pms_expr (pm_meth PySem.F.plainAttrs_list PySem.F.slot_list_extend PySem.F.type_list_extend (.inl ⟨rfl, rfl⟩) md_extend (pm_var (pv 14)) (pma_cons (pm_lst (pma_cons (pm_callKw hk_fits hr hg (takes_of rfl rfl rfl rfl) rfl (pmk_cons pm_str (pmk_cons (pm_tup (pma_cons pm_str pma_nil)) pmk_nil))) pma_nil)) pma_nil)))
    (pmss_one (pms_ret (pm_cmp (od_eq u64) (pm_callB (cd_repr hg uR) rfl z_repr (by decide +kernel) (pma_cons (pm_var (pv 14)) pma_nil)) (pm_callB (cd_repr hg uR) rfl z_repr (by decide +kernel) (pma_cons (pm_bin od_mul (pm_lst (pma_cons pm_bl pma_nil)) pm_int) pma_nil)) (nomark _)))))))))))
theorem ok_law {f : Addr} {fd : FuncData} {g__law_feed : Fn} {g__law_values : Fn} {g__law_more_values : Fn} {g__law_kinds_right : Fn} {g__law_samples : Fn} {g__law_program : Fn} {g__law_parts_of : Fn} {g__law_bent : Fn} {g__law_names_of : Fn} {g__law_kept_right : Fn} {g_is_variable : Fn} {g_is_name : Fn} {g_is_number : Fn} {g_is_integer : Fn} {g_is_test : Fn} {g_is_row : Fn} {g_is_expression : Fn} {g_fits : Fn} (F : Fun K "law" "law" s_law f fd) (bF : Binds K fd ["_law_script"] []) (mF : mg "law" = some (.ref f))
    (h__law_feed : Has P w K mg base k "_law_feed" ["_law_script"] g__law_feed)
    (h__law_values : Has P w K mg base k "_law_values" [] g__law_values)
    (h__law_more_values : Has P w K mg base k "_law_more_values" [] g__law_more_values)
    (h__law_kinds_right : Has P w K mg base k "_law_kinds_right" ["_law_item"] g__law_kinds_right)
    (h__law_samples : Has P w K mg base k "_law_samples" [] g__law_samples)
    (h__law_program : Has P w K mg base k "_law_program" ["_law_feed_here"] g__law_program)
    (h__law_parts_of : Has P w K mg base k "_law_parts_of" ["_law_rows"] g__law_parts_of)
    (h__law_bent : Has P w K mg base k "_law_bent" ["_law_feed_here", "_law_item"] g__law_bent)
    (h__law_names_of : Has P w K mg base k "_law_names_of" ["_law_whole"] g__law_names_of)
    (h__law_kept_right : Has P w K mg base k "_law_kept_right" ["_law_names_in_now", "_law_item"] g__law_kept_right)
    (hk_is_variable : HasK P w K mg base k "is_variable" ["thing"] false g_is_variable)
    (hk_is_name : HasK P w K mg base k "is_name" ["thing"] false g_is_name)
    (hk_is_number : HasK P w K mg base k "is_number" ["thing"] false g_is_number)
    (hk_is_integer : HasK P w K mg base k "is_integer" ["thing"] false g_is_integer)
    (hk_is_test : HasK P w K mg base k "is_test" ["thing"] false g_is_test)
    (hk_is_row : HasK P w K mg base k "is_row" ["thing"] false g_is_row)
    (hk_is_expression : HasK P w K mg base k "is_expression" ["thing"] false g_is_expression)
    (hk_fits : HasK P w K mg base k "fits" ["names", "thing"] true g_fits) (z_enumerate : mg "enumerate" = none) (z_range : mg "range" = none) (z_int : mg "int" = none) (z_tuple : mg "tuple" = none) (z_list : mg "list" = none) (z_repr : mg "repr" = none) :
    Has P w K mg base (k + 1) "law" ["_law_script"] (f_law g__law_feed g__law_values g__law_more_values g__law_kinds_right g__law_samples g__law_program g__law_parts_of g__law_bent g__law_names_of g__law_kept_right g_is_variable g_is_name g_is_number g_is_integer g_is_test g_is_row g_is_expression g_fits) := ⟨f, fd, fn_law F h__law_feed h__law_values h__law_more_values h__law_kinds_right h__law_samples h__law_program h__law_parts_of h__law_bent h__law_names_of h__law_kept_right hk_is_variable hk_is_name hk_is_number hk_is_integer hk_is_test hk_is_row hk_is_expression hk_fits z_enumerate z_range z_int z_tuple z_list z_repr, bF, F.kp, mF⟩

end
end W

set_option Elab.async false
set_option linter.all false
set_option maxRecDepth 100000
set_option maxHeartbeats 4000000
/-! DSimp: the combinators' equations, for simp -/
namespace DL
open PySem L2
@[simp] theorem peek_l0 (ds : List D) (S : Store) : peek (.lst ds :: S) (.loc 0) = some (.lst ds) := rfl
@[simp] theorem peek_d0 (kv : List (Key × D)) (S : Store) : peek (.dct kv :: S) (.loc 0) = some (.dct kv) := rfl
@[simp] theorem peek_s (c : Cell) (S : Store) (n : Nat) : peek (c :: S) (.loc (n + 1)) = peek S (.loc n) := rfl
/-! what comes behind a part, as words of their own: simp goes on only where the part has its result -/
def op2 (g : D → D → Option D) (x y : U) (S : Store) : Res U := lift ((match peek S x, peek S y with | some d, some e => g d e | _, _ => none).map U.d) S
def kSeq (m : MS) (b : Nat) (r : SR) : SR := r.then_ fun δ S => m b δ S
def kSet (i : Nat) (δ : DEnv) (r : Res U) : SR := r.inS δ fun u S => .next (δ.set i (some u)) S
def kExpr (δ : DEnv) (r : Res U) : SR := r.inS δ fun _ S => .next δ S
def kRet (δ : DEnv) (r : Res U) : SR := r.inS δ fun u S => .ret u S
def kIfS (m m' : MS) (b : Nat) (δ : DEnv) (r : Res Bool) : SR := r.inS δ fun c S => if c then m b δ S else m' b δ S
def k2a (g : D → D → Option D) (mb : ME) (δ : DEnv) (r : Res U) : Res U := r.bind fun x S => (mb δ S).bind fun y S' => op2 g x y S'
def k2b (g : D → D → Option D) (x : U) (r : Res U) : Res U := r.bind fun y S => op2 g x y S
def k1 (g : D → Option D) (r : Res U) : Res U := r.bind fun x S => lift (((peek S x).bind g).map U.d) S
def kCall (g : List D → Option D) (r : Res (List U)) : Res U := r.bind fun xs S => lift (((peeks S xs).bind g).map U.d) S
def kTest (r : Res U) : Res Bool := r.bind fun u S => match u with | .d (.bl b) => .ok b S | _ => .stuck
def kTru (r : Res U) : Res Bool := r.bind fun u S => lift ((peek S u).bind truD) S
def kNot (r : Res Bool) : Res Bool := r.bind fun b S => .ok (!b) S
def kAndT (mt : MT) (δ : DEnv) (r : Res Bool) : Res Bool := r.bind fun b S => if b then mt δ S else .ok false S
def kOrT (mt : MT) (δ : DEnv) (r : Res Bool) : Res Bool := r.bind fun b S => if b then .ok true S else mt δ S
def kAndV (mb : ME) (δ : DEnv) (r : Res Bool) : Res U := r.bind fun b S => if b then mb δ S else .ok (.d (.bl false)) S
def kOrV (mb : ME) (δ : DEnv) (r : Res Bool) : Res U := r.bind fun b S => if b then .ok (.d (.bl true)) S else mb δ S
def kNotV (r : Res Bool) : Res U := r.bind fun b S => .ok (.d (.bl (!b))) S
def kIf (ma mb : ME) (δ : DEnv) (r : Res Bool) : Res U := r.bind fun b S => if b then ma δ S else mb δ S
def kC1 (mas : MA) (δ : DEnv) (r : Res U) : Res (List U) := r.bind fun u S => (mas δ S).bind fun us S' => .ok (u :: us) S'
def kC2 (u : U) (r : Res (List U)) : Res (List U) := r.bind fun us S => .ok (u :: us) S
def kStar (mas : MA) (δ : DEnv) (r : Res U) : Res (List U) := r.bind fun u S => match (peek S u).bind seqD with | none => .stuck | some ds => (mas δ S).bind fun us S' => .ok (ds.map U.d ++ us) S'
def kFn (f : Fn) (r : Res (List U)) : Res U := r.bind fun us S => f us S
def kIsi (T : Ty) (r : Res U) : Res U := r.bind fun u S => lift (((peek S u).bind fun d => (isT T d).map D.bl).map U.d) S
def kCh3 (h : D → D → Option D) (y : U) (mc : ME) (δ : DEnv) (S : Store) : Option D → Res U
  | some (.bl true) => (mc δ S).bind fun z S3 => op2 h y z S3
  | some (.bl false) => .ok (.d (.bl false)) S
  | _ => .stuck
def kCh2 (g h : D → D → Option D) (x : U) (mc : ME) (δ : DEnv) (r : Res U) : Res U := r.bind fun y S => match peek S x, peek S y with
  | some d, some e => kCh3 h y mc δ S (g d e)
  | _, _ => .stuck
def kCh1 (g h : D → D → Option D) (mb mc : ME) (δ : DEnv) (r : Res U) : Res U := r.bind fun x S => kCh2 g h x mc δ (mb δ S)
def kTup (r : Res (List U)) : Res U := r.bind fun us S => lift ((datas us).bind fun ds => (fits ds).map fun ds => .d (.tup ds)) S
def kLst (r : Res (List U)) : Res U := r.bind fun us S => lift ((datas us).bind fun ds => (fits ds).map fun ds => .d (.lst ds)) S
def kP3 (v o : U) (δ : DEnv) (r : Res U) : SR := r.inS δ fun i S => match o, v, peek S i with
  | .loc n, .d y, some kx => match S[n]?, keyD kx with
    | some (.dct es), some k => if es.length < sizeLine then .next δ (S.set n (.dct (putD es k y))) else .stuck
    | _, _ => .stuck
  | _, _, _ => .stuck
def kP2 (v : U) (mb : ME) (δ : DEnv) (r : Res U) : SR := r.inS δ fun o S => kP3 v o δ (mb δ S)
def kP1 (ma mb : ME) (δ : DEnv) (r : Res U) : SR := r.inS δ fun v S => kP2 v mb δ (ma δ S)
def kMatch (g : Str → MS) (b : Nat) (δ : DEnv) (r : Res U) : SR := r.inS δ fun u S => match u with | .d (.str x) => g x b δ S | _ => .stuck
def kO (r : Res U) : Res (Option Int) := r.bind fun u S => match u with | .d (.int i) => .ok (some i) S | _ => .stuck
def kS3 (u : U) (lo : Option Int) (r : Res (Option Int)) : Res U := r.bind fun hi S => lift (((peek S u).bind fun d => dSl d lo hi).map U.d) S
def kS2 (u : U) (mo : MO) (δ : DEnv) (r : Res (Option Int)) : Res U := r.bind fun lo S => kS3 u lo (mo δ S)
def kS1 (mo mo' : MO) (δ : DEnv) (r : Res U) : Res U := r.bind fun u S => kS2 u mo' δ (mo δ S)
def kPar (is : List Nat) (δ : DEnv) (r : Res (List U)) : SR := r.inS δ fun us S => if us.length = is.length then .next ((is.zip us).foldl (fun δ p => δ.set p.1 (some p.2)) δ) S else .stuck
def kStarT (n : Nat) (is : List Nat) (δ : DEnv) (r : Res U) : SR := r.inS δ fun u S => match u with
  | .d (.tup ds) => if n ≤ ds.length then match setAll is (ds.take n ++ [.lst (ds.drop n)]) δ with
      | some δ1 => .next δ1 S
      | none => .stuck
    else .stuck
  | _ => .stuck
def kSeqI (r : Res U) : Res (List D) := r.bind fun u S => match u with | .d x => lift (seqD x) S | .loc _ => .stuck
def kR1 (r : Res U) : Res (List D) := r.bind fun u S => match u with
  | .d (.int j) => if j < 4611686018427387904 ∧ -4611686018427387904 ≤ j then .ok (rangeD 0 j.toNat) S else .stuck
  | _ => .stuck
def kFor (t : Tg) (m : MS) (δ : DEnv) (r : Res (List D)) : SR := r.inS δ fun ds S => forD t m S.length ds δ S
def kL (r : Res (List D)) : Res U := r.bind fun ys S => .ok (.d (.lst ys)) S
def kLc (t : Tg) (mt : MT) (me : ME) (vs : List Nat) (δ : DEnv) (r : Res (List D)) : Res U := r.bind fun ds S => if ds.length ≤ sizeLine then kL (lcD t mt me (wipeD vs δ) ds S) else .stuck
def kZ2 (u : U) (r : Res U) : Res U := r.bind fun w S => match u, w with
  | .d (.tup xs), .d (.tup ys) => match keysD xs with
    | some ks => .ok (.d (.dct (mergeD [] (ks.zip ys)))) S
    | none => .stuck
  | _, _ => .stuck
def kZ1 (mb : ME) (δ : DEnv) (r : Res U) : Res U := r.bind fun u S => kZ2 u (mb δ S)
def kRv2 (u : U) (r : Res (Option Int)) : Res U := r.bind fun o S => match o, peek S u with
  | some i, some (.tup ds) => if i = -1 then .ok (.d (.tup ds.reverse)) S else .stuck
  | _, _ => .stuck
def kRv1 (mo : MO) (δ : DEnv) (r : Res U) : Res U := r.bind fun u S => kRv2 u (mo δ S)
def kM2 (act : Act) (n : Nat) (r : Res (List U)) : Res U := r.bind fun us S => match S[n]? with
  | none => .stuck
  | some c => match act S c us with
    | none => .stuck
    | some (x, c') => .ok (.d x) (S.set n c')
def kM1 (ty : Cell → Bool) (act : Act) (mas : MA) (δ : DEnv) (r : Res U) : Res U := r.bind fun o S => match o with
  | .d _ => .stuck
  | .loc n => match S[n]? with
    | none => .stuck
    | some c => if ty c then kM2 act n (mas δ S) else .stuck
def kF (t : Tg) (m : MS) (b : Nat) (ds : List D) (r : SR) : SR := match r with
  | .next δ S => forD t m b ds (trimE b S δ) (S.take b)
  | .cont δ S => forD t m b ds (trimE b S δ) (S.take b)
  | .brk δ S => .next δ S
  | .ret u S => .ret u S
  | .exc x δ S => .exc x δ S
  | .stuck => .stuck
def kFa (t : Tg) (m : MS) (b : Nat) (ds : List D) (S : Store) : Option DEnv → SR
  | none => .stuck
  | some δ => kF t m b ds (m b δ S)
def kLE (t : Tg) (mt : MT) (me : ME) (δ : DEnv) (ds : List D) (r : Res U) : Res (List D) := r.calm.bind fun u S => match u with
  | .d y => (lcD t mt me δ ds S).bind fun ys S' => .ok (y :: ys) S'
  | .loc _ => .stuck
def kLy (y : D) (r : Res (List D)) : Res (List D) := r.bind fun ys S => .ok (y :: ys) S
def kLT (t : Tg) (mt : MT) (me : ME) (δ δ1 : DEnv) (ds : List D) (r : Res Bool) : Res (List D) := r.calm.bind fun c S => if c then kLE t mt me δ ds (me δ1 S) else lcD t mt me δ ds S
def kLa (t : Tg) (mt : MT) (me : ME) (δ : DEnv) (ds : List D) (S : Store) : Option DEnv → Res (List D)
  | none => .stuck
  | some δ1 => kLT t mt me δ δ1 ds (mt δ1 S)
def kLstC (r : Res (List U)) : Res U := r.bind fun us S => match (datas us).bind fits with
  | some ds => .ok (.loc S.length) (S ++ [.lst ds])
  | none => .stuck
section
@[simp] theorem kLstC_ (us : List U) (S : Store) : kLstC (.ok us S) = match (datas us).bind fits with
  | some ds => .ok (.loc S.length) (S ++ [.lst ds])
  | none => .stuck := rfl
variable (b i j n : Nat) (δ δ' δ1 : DEnv) (S S1 : Store) (m m' : MS) (ma mb mc : ME) (mt mt' : MT) (mas : MA) (mi : MI) (mo mo' : MO) (t : Tg) (f : Fn) (u v o : U) (us : List U) (c : Bool) (d : D) (g h : D → D → Option D) (is vs : List Nat) (ds : List D) (x : Str)
@[simp] theorem kSeq_n : kSeq m b (.next δ S) = m b δ S := rfl
@[simp] theorem kSeq_r : kSeq m b (.ret u S) = .ret u S := rfl
@[simp] theorem kSeq_b : kSeq m b (.brk δ S) = .brk δ S := rfl
@[simp] theorem kSeq_c : kSeq m b (.cont δ S) = .cont δ S := rfl
@[simp] theorem kSet_ : kSet i δ (.ok u S) = .next (δ.set i (some u)) S := rfl
@[simp] theorem kExpr_ : kExpr δ (.ok u S) = .next δ S := rfl
@[simp] theorem kRet_ : kRet δ (.ok u S) = .ret u S := rfl
@[simp] theorem kIfS_ : kIfS m m' b δ (.ok c S) = if c then m b δ S else m' b δ S := rfl
@[simp] theorem k2a_ : k2a g mb δ (.ok u S) = k2b g u (mb δ S) := rfl
@[simp] theorem k2b_ : k2b g u (.ok v S) = lift ((match peek S u, peek S v with | some d, some e => g d e | _, _ => none).map U.d) S := rfl
@[simp] theorem k1_ (g1 : D → Option D) : k1 g1 (.ok u S) = lift (((peek S u).bind g1).map U.d) S := rfl
@[simp] theorem kCall_ (g1 : List D → Option D) : kCall g1 (.ok us S) = lift (((peeks S us).bind g1).map U.d) S := rfl
@[simp] theorem kTest_ : kTest (.ok (.d (.bl c)) S) = .ok c S := rfl
@[simp] theorem kTru_ : kTru (.ok u S) = lift ((peek S u).bind truD) S := rfl
@[simp] theorem kNot_ : kNot (.ok c S) = .ok (!c) S := rfl
@[simp] theorem kAndT_ : kAndT mt δ (.ok c S) = if c then mt δ S else .ok false S := rfl
@[simp] theorem kOrT_ : kOrT mt δ (.ok c S) = if c then .ok true S else mt δ S := rfl
@[simp] theorem kAndV_ : kAndV mb δ (.ok c S) = if c then mb δ S else .ok (.d (.bl false)) S := rfl
@[simp] theorem kOrV_ : kOrV mb δ (.ok c S) = if c then .ok (.d (.bl true)) S else mb δ S := rfl
@[simp] theorem kNotV_ : kNotV (.ok c S) = .ok (.d (.bl (!c))) S := rfl
@[simp] theorem kIf_ : kIf ma mb δ (.ok c S) = if c then ma δ S else mb δ S := rfl
@[simp] theorem kC1_ : kC1 mas δ (.ok u S) = kC2 u (mas δ S) := rfl
@[simp] theorem kC2_ : kC2 u (.ok us S) = .ok (u :: us) S := rfl
@[simp] theorem kStar_ : kStar mas δ (.ok u S) = match (peek S u).bind seqD with | none => .stuck | some ds => (mas δ S).bind fun us S' => .ok (ds.map U.d ++ us) S' := rfl
@[simp] theorem kFn_ : kFn f (.ok us S) = f us S := rfl
@[simp] theorem kIsi_ (T : Ty) : kIsi T (.ok u S) = lift (((peek S u).bind fun d => (isT T d).map D.bl).map U.d) S := rfl
@[simp] theorem kCh1_ : kCh1 g h mb mc δ (.ok u S) = kCh2 g h u mc δ (mb δ S) := rfl
@[simp] theorem kCh2_ : kCh2 g h u mc δ (.ok v S) = match peek S u, peek S v with
  | some d, some e => kCh3 h v mc δ S (g d e)
  | _, _ => .stuck := rfl
@[simp] theorem kCh3_ : kCh3 h v mc δ S (some (.bl c)) = if c then k2b h v (mc δ S) else .ok (.d (.bl false)) S := by cases c <;> rfl
@[simp] theorem kTup_ : kTup (.ok us S) = lift ((datas us).bind fun ds => (fits ds).map fun ds => .d (.tup ds)) S := rfl
@[simp] theorem kLst_ : kLst (.ok us S) = lift ((datas us).bind fun ds => (fits ds).map fun ds => .d (.lst ds)) S := rfl
@[simp] theorem kP1_ : kP1 ma mb δ (.ok v S) = kP2 v mb δ (ma δ S) := rfl
@[simp] theorem kP2_ : kP2 v mb δ (.ok o S) = kP3 v o δ (mb δ S) := rfl
@[simp] theorem kP3_ : kP3 (.d d) (.loc n) δ (.ok (.d (.str x)) S) = match S[n]? with
    | some (.dct es) => if es.length < sizeLine then .next δ (S.set n (.dct (putD es (.inr x) d))) else .stuck
    | _ => .stuck := by
  show (match S[n]?, keyD (.str x) with
    | some (.dct es), some k => if es.length < sizeLine then SR.next δ (S.set n (.dct (putD es k d))) else .stuck
    | _, _ => .stuck) = _
  cases S[n]? with
  | none => rfl
  | some c => cases c <;> rfl
@[simp] theorem kMatch_ (gm : Str → MS) : kMatch gm b δ (.ok (.d (.str x)) S) = gm x b δ S := rfl
@[simp] theorem kO_ (p : Int) : kO (.ok (.d (.int p)) S) = .ok (some p) S := rfl
@[simp] theorem kS1_ : kS1 mo mo' δ (.ok u S) = kS2 u mo' δ (mo δ S) := rfl
@[simp] theorem kS2_ (lo : Option Int) : kS2 u mo δ (.ok lo S) = kS3 u lo (mo δ S) := rfl
@[simp] theorem kS3_ (lo hi : Option Int) : kS3 u lo (.ok hi S) = lift (((peek S u).bind fun d => dSl d lo hi).map U.d) S := rfl
@[simp] theorem kPar_ : kPar is δ (.ok us S) = if us.length = is.length then .next ((is.zip us).foldl (fun δ p => δ.set p.1 (some p.2)) δ) S else .stuck := rfl
@[simp] theorem kStarT_ : kStarT n is δ (.ok (.d (.tup ds)) S) = if n ≤ ds.length then (match setAll is (ds.take n ++ [.lst (ds.drop n)]) δ with
      | some δ1 => .next δ1 S
      | none => .stuck)
    else .stuck := rfl
@[simp] theorem kSeqI_ : kSeqI (.ok (.d d) S) = lift (seqD d) S := rfl
theorem kR1_ (p : Int) : kR1 (.ok (.d (.int p)) S) = if p < 4611686018427387904 ∧ -4611686018427387904 ≤ p then .ok (rangeD 0 p.toNat) S else .stuck := rfl
theorem kR1_n (k : Nat) (h : k ≤ 1000000) : kR1 (.ok (.d (.int (k : Int))) S) = .ok (rangeD 0 k) S := by
  rw [kR1_, if_pos ⟨by omega, by omega⟩, Int.toNat_natCast]
@[simp] theorem kFor_ : kFor t m δ (.ok ds S) = forD t m S.length ds δ S := rfl
@[simp] theorem kLc_ : kLc t mt ma vs δ (.ok ds S) = if ds.length ≤ sizeLine then kL (lcD t mt ma (wipeD vs δ) ds S) else .stuck := rfl
@[simp] theorem kL_ : kL (.ok ds S) = .ok (.d (.lst ds)) S := rfl
@[simp] theorem kZ1_ : kZ1 mb δ (.ok u S) = kZ2 u (mb δ S) := rfl
@[simp] theorem kZ2_ (xs ys : List D) : kZ2 (.d (.tup xs)) (.ok (.d (.tup ys)) S) = match keysD xs with
    | some ks => .ok (.d (.dct (mergeD [] (ks.zip ys)))) S
    | none => .stuck := rfl
@[simp] theorem kRv1_ : kRv1 mo δ (.ok u S) = kRv2 u (mo δ S) := rfl
@[simp] theorem kRv2_ (p : Int) : kRv2 (.d (.tup ds)) (.ok (some p) S) = if p = -1 then .ok (.d (.tup ds.reverse)) S else .stuck := rfl
@[simp] theorem kM1_ (ty : Cell → Bool) (act : Act) : kM1 ty act mas δ (.ok (.loc n) S) = match S[n]? with
    | none => .stuck
    | some c => if ty c then kM2 act n (mas δ S) else .stuck := rfl
@[simp] theorem kM2_ (act : Act) : kM2 act n (.ok us S) = match S[n]? with
  | none => .stuck
  | some c => match act S c us with
    | none => .stuck
    | some (x, c') => .ok (.d x) (S.set n c') := rfl
@[simp] theorem kF_n : kF t m b ds (.next δ S) = forD t m b ds (trimE b S δ) (S.take b) := rfl
@[simp] theorem kF_c : kF t m b ds (.cont δ S) = forD t m b ds (trimE b S δ) (S.take b) := rfl
@[simp] theorem kF_b : kF t m b ds (.brk δ S) = .next δ S := rfl
@[simp] theorem kF_r : kF t m b ds (.ret u S) = .ret u S := rfl
@[simp] theorem kFa_ : kFa t m b ds S (some δ) = kF t m b ds (m b δ S) := rfl
@[simp] theorem kLa_ : kLa t mt ma δ ds S (some δ1) = kLT t mt ma δ δ1 ds (mt δ1 S) := rfl
@[simp] theorem kLT_ : kLT t mt ma δ δ1 ds (.ok c S) = if c then kLE t mt ma δ ds (ma δ1 S) else lcD t mt ma δ ds S := rfl
@[simp] theorem kLE_ : kLE t mt ma δ ds (.ok (.d d) S) = kLy d (lcD t mt ma δ ds S) := rfl
@[simp] theorem kLy_ : kLy d (.ok ds S) = .ok (d :: ds) S := rfl
@[simp] theorem mSeq_ : mSeq m m' b δ S = kSeq m' b (m b δ S) := rfl
@[simp] theorem mSet_ : mSet i ma b δ S = kSet i δ (ma δ S) := rfl
@[simp] theorem mExpr_ : mExpr ma b δ S = kExpr δ (ma δ S) := rfl
@[simp] theorem mRet_ : mRet ma b δ S = kRet δ (ma δ S) := rfl
@[simp] theorem mRetN_ : mRetN b δ S = .ret (.d .non) S := rfl
@[simp] theorem mIfS_ : mIfS mt m m' b δ S = kIfS m m' b δ (mt δ S) := rfl
@[simp] theorem mSkip_ : mSkip b δ S = .next δ S := rfl
@[simp] theorem mFz_ : mFz m b δ S = m b (trimE b S δ) (S.take b) := rfl
@[simp] theorem mVar_0 (r : DEnv) : mVar 0 (some u :: r) S = .ok u S := rfl
@[simp] theorem mVar_s (w : Option U) (r : DEnv) : mVar (i + 1) (w :: r) S = mVar i r S := rfl
@[simp] theorem mC_ : mC d δ S = .ok (.d d) S := rfl
@[simp] theorem m2_ : m2 g ma mb δ S = k2a g mb δ (ma δ S) := rfl
@[simp] theorem m1_ (g1 : D → Option D) : m1 g1 ma δ S = k1 g1 (ma δ S) := rfl
@[simp] theorem mCall_ (g1 : List D → Option D) : mCall g1 mas δ S = kCall g1 (mas δ S) := rfl
@[simp] theorem mTest_ : mTest ma δ S = kTest (ma δ S) := rfl
@[simp] theorem mTru_ : mTru ma δ S = kTru (ma δ S) := rfl
@[simp] theorem mNotT_ : mNotT mt δ S = kNot (mt δ S) := rfl
@[simp] theorem mAndT_ : mAndT mt mt' δ S = kAndT mt' δ (mt δ S) := rfl
@[simp] theorem mOrT_ : mOrT mt mt' δ S = kOrT mt' δ (mt δ S) := rfl
@[simp] theorem mAndV_ : mAndV ma mb δ S = kAndV mb δ (mTest ma δ S) := rfl
@[simp] theorem mOrV_ : mOrV ma mb δ S = kOrV mb δ (mTest ma δ S) := rfl
@[simp] theorem mNotV_ : mNotV ma δ S = kNotV (mTest ma δ S) := rfl
@[simp] theorem mIf_ : mIf mt ma mb δ S = kIf ma mb δ (mt δ S) := rfl
@[simp] theorem mNil_ : mNil δ S = .ok [] S := rfl
@[simp] theorem mCons_ : mCons ma mas δ S = kC1 mas δ (ma δ S) := rfl
@[simp] theorem mStar_ : mStar ma mas δ S = kStar mas δ (ma δ S) := rfl
@[simp] theorem mFn_ : mFn f mas δ S = kFn f (mas δ S) := rfl
@[simp] theorem mIsi_ (T : Ty) : mIsi T ma δ S = kIsi T (ma δ S) := rfl
@[simp] theorem mChain_ : mChain g h ma mb mc δ S = kCh1 g h mb mc δ (ma δ S) := by
  unfold mChain kCh1
  cases ma δ S with
  | ok x S1 =>
    simp only [Res.ok_bind]
    unfold kCh2
    cases mb δ S1 with
    | ok y S2 =>
      simp only [Res.ok_bind]
      cases peek S2 x with
      | none => rfl
      | some d =>
        cases peek S2 y with
        | none => rfl
        | some e =>
          show (match g d e with
            | some (D.bl true) => (mc δ S2).bind fun z S3 => lift (Option.map U.d (match peek S3 y, peek S3 z with | some d, some e => h d e | _, _ => none)) S3
            | some (D.bl false) => Res.ok (U.d (D.bl false)) S2
            | _ => Res.stuck) = kCh3 h y mc δ S2 (g d e)
          cases g d e with
          | none => rfl
          | some z => cases z with
            | bl c => cases c <;> rfl
            | _ => rfl
    | exc x S2 => rfl
    | stuck => rfl
  | exc x S1 => rfl
  | stuck => rfl
@[simp] theorem mLstC_ : mLstC mas δ S = kLstC (mas δ S) := rfl
@[simp] theorem mTup_ : mTup mas δ S = kTup (mas δ S) := rfl
@[simp] theorem mLst_ : mLst mas δ S = kLst (mas δ S) := rfl
@[simp] theorem mPut_ : mPut ma mb mc b δ S = kP1 ma mb δ (mc δ S) := rfl
@[simp] theorem mMatch_ (gm : Str → MS) : mMatch ma gm b δ S = kMatch gm b δ (ma δ S) := rfl
@[simp] theorem moNone_ : moNone δ S = .ok none S := rfl
@[simp] theorem moSome_ : moSome ma δ S = kO (ma δ S) := rfl
@[simp] theorem mSl_ : mSl ma mo mo' δ S = kS1 mo mo' δ (ma δ S) := rfl
@[simp] theorem mPar_ : mPar is mas b δ S = kPar is δ (mas δ S) := rfl
@[simp] theorem mStarT_ : mStarT ma n is b δ S = kStarT n is δ (ma δ S) := rfl
@[simp] theorem mSeqI_ : mSeqI ma δ S = kSeqI (ma δ S) := rfl
@[simp] theorem mRange1_ : mRange1 ma δ S = kR1 (ma δ S) := rfl
@[simp] theorem mFor_ : mFor mi t m b δ S = kFor t m δ (mi δ S) := rfl
@[simp] theorem mLc_ : mLc mi t mt ma vs δ S = kLc t mt ma vs δ (mi δ S) := rfl
@[simp] theorem mYes_ : mYes δ S = .ok true S := rfl
@[simp] theorem mDZ_ : mDZ ma mb δ S = kZ1 mb δ (ma δ S) := rfl
@[simp] theorem mRev_ : mRev ma mo δ S = kRv1 mo δ (ma δ S) := rfl
@[simp] theorem mMeth_ (ty : Cell → Bool) (act : Act) : mMeth ty act ma mas δ S = kM1 ty act mas δ (ma δ S) := rfl
theorem forD_cons : forD t m b (d :: ds) δ S = kFa t m b ds S (t.apply (.d d) δ) := by
  show (match t.apply (.d d) δ with | none => SR.stuck | some δ1 => _) = _
  cases t.apply (.d d) δ <;> rfl
theorem lcD_cons : lcD t mt ma δ (d :: ds) S = kLa t mt ma δ ds S (t.apply (.d d) δ) := by
  show (match t.apply (.d d) δ with | none => Res.stuck | some δ1 => _) = _
  cases t.apply (.d d) δ <;> rfl
@[simp] theorem callM_ (ar : Nat) (us : List U) : callM ar n m us S = if us.length = ar then exitM S.length (m S.length (enter n us) S) else .stuck := rfl
@[simp] theorem callK_ (ar : Nat) (us : List U) : callK ar n m us S = if us.length = ar then exitK S.length (m S.length (enter n us) S) else .stuck := rfl
@[simp] theorem exit_d (d : D) : exitM b (.ret (.d d) S) = .ok (.d d) (S.take b) := rfl
@[simp] theorem exit_n : exitM b (.next δ S) = .ok (.d .non) (S.take b) := rfl
@[simp] theorem peek_d (d : D) : peek S (.d d) = some d := rfl
@[simp] theorem peeks_nil : peeks S [] = some [] := rfl
@[simp] theorem peeks_d (d : D) (us : List U) : peeks S (.d d :: us) = (peeks S us).map (d :: ·) := by
  show (match peek S (.d d), peeks S us with | some d, some ds => some (d :: ds) | _, _ => none) = _
  cases peeks S us <;> rfl
theorem peeks_c (u : U) (us : List U) : peeks S (u :: us) = (peek S u).bind fun d => (peeks S us).map (d :: ·) := by
  show (match peek S u, peeks S us with | some d, some ds => some (d :: ds) | _, _ => none) = _
  cases peek S u <;> cases peeks S us <;> rfl
@[simp] theorem datas_nil : datas [] = some [] := rfl
@[simp] theorem datas_d (d : D) (us : List U) : datas (.d d :: us) = (datas us).map (d :: ·) := by
  show (match datas us with | some ds => some (d :: ds) | none => none) = _
  cases datas us <;> rfl
@[simp] theorem fits_ (ds : List D) : fits ds = if ds.length ≤ sizeLine then some ds else none := rfl
variable (p q : Int) (ds es : List D)
@[simp] theorem dAdd_i : dAdd (.int p) (.int q) = some (.int (p + q)) := rfl
@[simp] theorem dAdd_t : dAdd (.tup ds) (.tup es) = if ds.length + es.length ≤ sizeLine then some (.tup (ds ++ es)) else none := rfl
@[simp] theorem dAdd_l : dAdd (.lst ds) (.lst es) = if ds.length + es.length ≤ sizeLine then some (.lst (ds ++ es)) else none := rfl
@[simp] theorem dSub_i : dSub (.int p) (.int q) = some (.int (p - q)) := rfl
@[simp] theorem dMul_i : dMul (.int p) (.int q) = if mulOk p q = true then some (.int (p * q)) else none := rfl
@[simp] theorem dMul_l : dMul (.lst ds) (.int q) = if 0 ≤ q ∧ q < 1000 ∧ ds.length ≤ 1000 then some (.lst (List.replicate q.toNat ds).flatten) else none := rfl
@[simp] theorem dFdiv_i : dFdiv (.int p) (.int q) = if q ≠ 0 ∧ q.natAbs < 1073741824 then some (.int (p.fdiv q)) else none := rfl
@[simp] theorem dMod_i : dMod (.int p) (.int q) = if q ≠ 0 then some (.int (p.fmod q)) else none := rfl
@[simp] theorem dPow_i : dPow (.int p) (.int q) = if 0 ≤ q ∧ q ≤ 1000000 ∧ p.natAbs < 2 ^ 64 then some (.int (p ^ q.toNat)) else none := rfl
@[simp] theorem dNeg_i : dNeg (.int p) = some (.int (-p)) := rfl
@[simp] theorem dLt_i : dLt (.int p) (.int q) = some (.bl (decide (p < q))) := rfl
@[simp] theorem dLe_i : dLe (.int p) (.int q) = some (.bl (decide (p ≤ q))) := rfl
@[simp] theorem dGt_i : dGt (.int p) (.int q) = some (.bl (decide (p > q))) := rfl
@[simp] theorem dGe_i : dGe (.int p) (.int q) = some (.bl (decide (p ≥ q))) := rfl
@[simp] theorem dInt_i : dInt [.int p] = some (.int p) := rfl
@[simp] theorem dInt_b (c : Bool) : dInt [.bl c] = some (.int (if c then 1 else 0)) := rfl
@[simp] theorem dLen_t : dLen [.tup ds] = some (.int ds.length) := rfl
@[simp] theorem dLen_l : dLen [.lst ds] = some (.int ds.length) := rfl
@[simp] theorem dMin_i : dMin [.int p, .int q] = some (.int (if q < p then q else p)) := rfl
@[simp] theorem dMax_i : dMax [.int p, .int q] = some (.int (if q > p then q else p)) := rfl
@[simp] theorem dTuple_t : dTuple [.tup ds] = some (.tup ds) := rfl
@[simp] theorem dTuple_l : dTuple [.lst ds] = some (.tup ds) := rfl
@[simp] theorem dList_t : dList [.tup ds] = some (.lst ds) := rfl
@[simp] theorem dList_l : dList [.lst ds] = some (.lst ds) := rfl
@[simp] theorem dList_f : dList [.fl ds] = some (.lst ds) := rfl
variable (s s' : Str)
@[simp] theorem keyD_s : keyD (.str s) = some (.inr s) := rfl
@[simp] theorem keyD_i : keyD (.int p) = some (.inl p) := rfl
@[simp] theorem dIx_t : dIx (.tup ds) (.int p) = atI ds p := rfl
@[simp] theorem dIx_l : dIx (.lst ds) (.int p) = atI ds p := rfl
@[simp] theorem dIx_f : dIx (.fl ds) (.int p) = atI ds p := rfl
@[simp] theorem dIx_d (kv : List (Key × D)) : dIx (.dct kv) (.str s) = valD kv (.inr s) := rfl
@[simp] theorem valD_nil (k : Key) : valD [] k = none := rfl
@[simp] theorem valD_cons (k k' : Key) (d : D) (kv : List (Key × D)) : valD ((k, d) :: kv) k' = if k = k' then some d else valD kv k' := by
  unfold valD
  rw [List.find?_cons]
  by_cases h : k = k'
  · simp [h]
  · simp [h]
theorem putD_miss (k : Key) (d : D) (kv : List (Key × D)) (h : (kv.any fun e => decide (e.1 = k)) = false) : putD kv k d = kv ++ [(k, d)] := by unfold putD; rw [h]; rfl
@[simp] theorem isNon_n : isNon .non = true := rfl
@[simp] theorem isNon_i : isNon (.int p) = false := rfl
@[simp] theorem dIs_n (d : D) : dIs d .non = some (.bl (isNon d)) := rfl
@[simp] theorem dIsNot_n (d : D) : dIsNot d .non = some (.bl (!isNon d)) := rfl
@[simp] theorem dEq_i : dEq (.int p) (.int q) = some (.bl (decide (p = q))) := by
  show some (D.bl (decide (V.int p = V.int q))) = _
  simp
@[simp] theorem dEq_s : dEq (.str s) (.str s') = some (.bl (decide (s = s'))) := by
  show some (D.bl (decide (V.str s = V.str s'))) = _
  simp
@[simp] theorem dEq_b (c c' : Bool) : dEq (.bl c) (.bl c') = some (.bl (decide (c = c'))) := by
  show some (D.bl (decide (V.bl c = V.bl c'))) = _
  simp
@[simp] theorem dEq_nn : dEq .non .non = some (.bl true) := by
  show some (D.bl (decide (V.non = V.non))) = _
  simp
@[simp] theorem dEq_ni : dEq .non (.int p) = some (.bl false) := rfl
@[simp] theorem dEq_in : dEq (.int p) .non = some (.bl false) := rfl
theorem dNe_dEq (d e : D) : dNe d e = (eqD d e).map fun b => D.bl (!b) := rfl
@[simp] theorem dNe_i : dNe (.int p) (.int q) = some (.bl (!decide (p = q))) := by
  show some (D.bl (!decide (V.int p = V.int q))) = _
  simp
@[simp] theorem dNe_s : dNe (.str s) (.str s') = some (.bl (!decide (s = s'))) := by
  show some (D.bl (!decide (V.str s = V.str s'))) = _
  simp
@[simp] theorem dNe_nn : dNe .non .non = some (.bl false) := by
  show some (D.bl (!decide (V.non = V.non))) = _
  simp
@[simp] theorem dNe_ni : dNe .non (.int p) = some (.bl true) := rfl
@[simp] theorem dNe_in : dNe (.int p) .non = some (.bl true) := rfl
@[simp] theorem truD_b (c : Bool) : truD (.bl c) = some c := rfl
@[simp] theorem seqD_t : seqD (.tup ds) = some ds := rfl
@[simp] theorem seqD_l : seqD (.lst ds) = some ds := rfl
@[simp] theorem forD_nil : forD t m b [] δ S = .next δ S := rfl
@[simp] theorem apply_nm (u : U) : (Tg.nm i).apply u δ = some (δ.set i (some u)) := rfl
@[simp] theorem lcD_nil : lcD t mt ma δ [] S = .ok [] S := rfl
@[simp] theorem keysD_nil : keysD [] = some [] := rfl
@[simp] theorem isL_ : isL (.lst ds) = true := rfl
@[simp] theorem isDc_ (kv : List (Key × D)) : isDc (.dct kv) = true := rfl
@[simp] theorem append_ (d : D) : aAppend S (.lst ds) [.d d] = if ds.length < sizeLine then some (.non, .lst (ds ++ [d])) else none := rfl
@[simp] theorem extend_l : aExtend S (.lst ds) [.d (.lst es)] = if ds.length + es.length ≤ sizeLine then some (.non, .lst (ds ++ es)) else none := rfl
@[simp] theorem update_ (kv kw : List (Key × D)) : aUpdate S (.dct kv) [.d (.dct kw)] = if kv.length + kw.length ≤ sizeLine then some (.non, .dct (mergeD kv kw)) else none := rfl
end
@[simp] theorem dSl_t (ds : List D) (lo hi : Option Int) : dSl (.tup ds) lo hi = some (.tup (cutD ds lo hi)) := rfl
@[simp] theorem dSl_l (ds : List D) (lo hi : Option Int) : dSl (.lst ds) lo hi = some (.lst (cutD ds lo hi)) := rfl
@[simp] theorem dSl_f (ds : List D) (lo hi : Option Int) : dSl (.fl ds) lo hi = some (.lst (cutD ds lo hi)) := rfl
theorem cutD_to (ds : List D) {p : Int} (h : 0 ≤ p) : cutD ds none (some p) = ds.take p.toNat := by
  unfold cutD
  have e1 : HT.sIx ds.length 0 none = 0 := rfl
  have e2 : HT.sIx ds.length ds.length (some p) = min p.toNat ds.length := by
    show (if p < 0 then (p + (ds.length : Int)).toNat else min p.toNat ds.length) = _
    rw [if_neg (by omega)]
  rw [e1, e2, List.drop_zero, Nat.sub_zero]
  by_cases hp : p.toNat ≤ ds.length
  · rw [Nat.min_eq_left hp]
  · rw [Nat.min_eq_right (by omega), List.take_length, List.take_of_length_le (by omega)]
theorem cutD_from (ds : List D) {p : Int} (h : 0 ≤ p) : cutD ds (some p) none = ds.drop p.toNat := by
  unfold cutD
  have e1 : HT.sIx ds.length ds.length none = ds.length := rfl
  have e2 : HT.sIx ds.length 0 (some p) = min p.toNat ds.length := by
    show (if p < 0 then (p + (ds.length : Int)).toNat else min p.toNat ds.length) = _
    rw [if_neg (by omega)]
  rw [e1, e2]
  by_cases hp : p.toNat ≤ ds.length
  · rw [Nat.min_eq_left hp, List.take_of_length_le (by rw [List.length_drop]; omega)]
  · rw [Nat.min_eq_right (by omega), List.drop_length, List.drop_of_length_le (by omega)]; simp
theorem atI_in {ds : List D} {p : Int} (h0 : 0 ≤ p) (h1 : p < ds.length) : atI ds p = ds[p.toNat]? := by
  have e : p = ((p.toNat : Nat) : Int) := by omega
  rw [e]
  have h2 : p.toNat < ds.length := by omega
  rw [List.getElem?_eq_getElem (by omega)]
  exact atI_nat (by rw [List.getElem?_eq_getElem h2]; congr 1)
@[simp] theorem peek_last_l (S : Store) (ds : List D) : peek (S ++ [.lst ds]) (.loc S.length) = some (.lst ds) := by
  show (match (S ++ [Cell.lst ds])[S.length]? with | some (.lst ds) => some (D.lst ds) | some (.dct es) => some (.dct es) | _ => none) = _
  simp
@[simp] theorem peek_last_d (S : Store) (kv : List (Key × D)) : peek (S ++ [.dct kv]) (.loc S.length) = some (.dct kv) := by
  show (match (S ++ [Cell.dct kv])[S.length]? with | some (.lst ds) => some (D.lst ds) | some (.dct es) => some (.dct es) | _ => none) = _
  simp
@[simp] theorem set_last (S : Store) (c c' : Cell) : List.set (S ++ [c]) S.length c' = S ++ [c'] := by simp
@[simp] theorem take_last (S : Store) (c : Cell) : List.take (S.length + 1) (S ++ [c]) = S ++ [c] := List.take_of_length_le (by simp)
@[simp] theorem take_self (S : Store) : List.take S.length S = S := List.take_length
@[simp] theorem take_pre (S : Store) (c : Cell) : List.take S.length (S ++ [c]) = S := by simp
@[simp] theorem atI_0 (d : D) (ds : List D) : atI (d :: ds) 0 = some d := by rw [atI_in (by decide) (by simp)]; rfl
@[simp] theorem atI_1 (d e : D) (ds : List D) : atI (d :: e :: ds) 1 = some e := by rw [atI_in (by decide) (by simp only [List.length_cons]; omega)]; rfl
theorem small_line {n : Nat} (h : n ≤ 10000) : n ≤ sizeLine := Nat.le_trans h (by decide)
theorem small_line' {n : Nat} (h : n ≤ 10000) : n < sizeLine := Nat.lt_of_le_of_lt h (by decide)
end DL

set_option Elab.async false
set_option linter.all false
set_option maxRecDepth 100000
set_option maxHeartbeats 4000000
/-! DSimp2: dict displays, comprehensions over keys -/
namespace DL
open PySem L2
def kPr3 (k : Key) (y : D) (r : Res (List (Key × D))) : Res (List (Key × D)) := r.bind fun ps S => .ok ((k, y) :: ps) S
def kPr2 (u : U) (ps : List (ME × ME)) (δ : DEnv) (r : Res U) : Res (List (Key × D)) := r.calm.bind fun w S2 => match u, w with
    | .d x, .d y => match keyD x with
      | some k => kPr3 k y (mPairs ps δ S2)
      | none => .stuck
    | _, _ => .stuck
def kPr1 (mv : ME) (ps : List (ME × ME)) (δ : DEnv) (r : Res U) : Res (List (Key × D)) := r.calm.bind fun u S1 => kPr2 u ps δ (mv δ S1)
def kDict (r : Res (List (Key × D))) : Res U := r.bind fun kvs S1 => if kvs.length ≤ 15 then .ok (.d (.dct (mergeD [] kvs))) S1 else .stuck
def kDictC (r : Res (List (Key × D))) : Res U := r.bind fun kvs S1 => if kvs.length ≤ 15 then .ok (.loc S1.length) (S1 ++ [.dct (mergeD [] kvs)]) else .stuck
def kLcK (t : Tg) (mt : MT) (me : ME) (vs : List Nat) (δ : DEnv) (S : Store) (o : Option (Option U)) : Res U := match o with
  | some (some (.d (.dct es))) => if (es.map fun kv => kD kv.1).length ≤ sizeLine then kL (lcD t mt me (wipeD vs δ) (es.map fun kv => kD kv.1) S) else .stuck
  | _ => .stuck
section
variable (i : Nat) (δ : DEnv) (S : Store) (mk mv ma : ME) (mt : MT) (t : Tg) (ps : List (ME × ME)) (u : U) (x y : D) (k : Key) (vs : List Nat) (es : List (Key × D)) (s : Str)
@[simp] theorem mPairs_n : mPairs [] δ S = .ok [] S := rfl
@[simp] theorem mPairs_c : mPairs ((mk, mv) :: ps) δ S = kPr1 mv ps δ (mk δ S) := rfl
@[simp] theorem kPr1_ : kPr1 mv ps δ (.ok u S) = kPr2 u ps δ (mv δ S) := rfl
@[simp] theorem kPr2_ : kPr2 (.d (.str s)) ps δ (.ok (.d y) S) = kPr3 (.inr s) y (mPairs ps δ S) := rfl
@[simp] theorem kPr3_ : kPr3 k y (.ok es S) = .ok ((k, y) :: es) S := rfl
@[simp] theorem mDict_ : mDict ps δ S = kDict (mPairs ps δ S) := rfl
@[simp] theorem mDictC_ : mDictC ps δ S = kDictC (mPairs ps δ S) := rfl
@[simp] theorem kDict_ : kDict (.ok es S) = if es.length ≤ 15 then .ok (.d (.dct (mergeD [] es))) S else .stuck := rfl
@[simp] theorem kDictC_ : kDictC (.ok es S) = if es.length ≤ 15 then .ok (.loc S.length) (S ++ [.dct (mergeD [] es)]) else .stuck := rfl
@[simp] theorem mDict0C_ : mDict0C δ S = .ok (.loc S.length) (S ++ [.dct []]) := rfl
@[simp] theorem mLcK_ : mLcK i t mt ma vs δ S = kLcK t mt ma vs δ S δ[i]? := rfl
@[simp] theorem kLcK_ : kLcK t mt ma vs δ S (some (some (.d (.dct es)))) = if (es.map fun kv => kD kv.1).length ≤ sizeLine then kL (lcD t mt ma (wipeD vs δ) (es.map fun kv => kD kv.1) S) else .stuck := rfl
@[simp] theorem kD_r : kD (.inr s) = .str s := rfl
@[simp] theorem mergeD_n (kv : List (Key × D)) : mergeD kv [] = kv := rfl
@[simp] theorem mergeD_c (kv kw : List (Key × D)) : mergeD kv ((k, x) :: kw) = mergeD (putD kv k x) kw := rfl
@[simp] theorem dEq_l0 : dEq (.lst []) (.lst []) = some (.bl true) := rfl
@[simp] theorem dNe_l0 : dNe (.lst []) (.lst []) = some (.bl false) := rfl
end
end DL

set_option Elab.async false
set_option linter.all false
set_option maxRecDepth 100000
set_option maxHeartbeats 4000000
/-! DSimp3: the newer combinators' equations, for simp -/
namespace DL
open PySem L2 PyProof.Rows
def kCallV (T : Str → Option Fn) (r : Res (List U)) (x : Str) : Res U := match T x with
  | some m => r.bind fun us S1 => m us S1
  | none => .stuck
def kInK (tab : List (Str × D)) (r : Res U) : Res U := r.bind fun u S' => match u with
  | .d (.str z) => .ok (.d (.bl (lookT tab z).isSome)) S'
  | _ => .stuck
def kIxK (tab : List (Str × D)) (r : Res U) : Res U := r.bind fun u S' => match u with
  | .d (.str z) => (match lookT tab z with
    | some e => .ok (.d e) S'
    | none => .stuck)
  | _ => .stuck
def kZi2 (u : U) (r : Res U) : Res (List D) := r.bind fun w S2 => match u, w with
  | .d (.tup xs), .d (.tup ys) => .ok (zipD xs ys) S2
  | .d (.lst xs), .d (.lst ys) => .ok (zipD xs ys) S2
  | _, _ => .stuck
def kZi1 (mb : ME) (δ : DEnv) (r : Res U) : Res (List D) := r.bind fun u S1 => kZi2 u (mb δ S1)
def kEn (r : Res U) : Res (List D) := r.bind fun u S1 => match u with
  | .d (.lst xs) => .ok (enumD 0 xs) S1
  | _ => .stuck
def kStI (r : Res U) : Res (List D) := r.bind fun u S1 => match u with
  | .d (.str z) => .ok (charsD z) S1
  | _ => .stuck
def kUp (r : Res U) : Res U := r.bind fun u S' => match u with
  | .d (.str z) => if z.length ≤ 5592405 then .ok (.d (.str (Txt.upper z))) S' else .stuck
  | _ => .stuck
def kGe3 (es : List (Key × D)) (kx : U) (r : Res U) : Res U := r.bind fun z S3 => match kx with
    | .d kd => (match keyD kd with
      | some k => (match valD es k with
        | some v => .ok (.d v) S3
        | none => .ok z S3)
      | none => .stuck)
    | _ => .stuck
def kGe2 (es : List (Key × D)) (md : ME) (δ : DEnv) (r : Res U) : Res U := r.bind fun kx S2 => kGe3 es kx (md δ S2)
def kGe1 (mk md : ME) (δ : DEnv) (r : Res U) : Res U := r.bind fun o S1 => match o with
  | .d (.dct es) => kGe2 es md δ (mk δ S1)
  | _ => .stuck
def kSt3 (C : Bool) (u : U) (l : Option Int) (r : Res (Option Int)) : Res U := r.bind fun o S3 => strideM C u l o S3
def kSt2 (C : Bool) (u : U) (ms : MO) (δ : DEnv) (r : Res (Option Int)) : Res U := r.bind fun l S2 => kSt3 C u l (ms δ S2)
def kSt1 (C : Bool) (ml ms : MO) (δ : DEnv) (r : Res U) : Res U := r.bind fun u S1 => kSt2 C u ms δ (ml δ S1)
def kFnK (b : Bool) (m : Fn) (r : Res (List U)) : Res U := r.bind fun us S1 => m (flp b us) S1
def kAsg (t : Tg) (δ : DEnv) (r : Res U) : SR := r.inS δ fun u S1 => match t.apply u δ with
  | some δ1 => .next δ1 S1
  | none => .stuck
def kL2 (r : Res (List D)) : Res U := r.bind fun ys S2 => finL ys S2
def kLc2 (t : Tg) (mt : MT) (mi1 : MI) (t1 : Tg) (mt1 : MT) (me : ME) (vs vs1 : List Nat) (δ : DEnv) (r : Res (List D)) : Res U := r.bind fun ds S1 => kL2 (lcD2 t mt mi1 t1 mt1 me vs1 (wipeD vs δ) ds S1)
section
variable (i : Nat) (b : Nat) (δ : DEnv) (S : Store) (ma mb mk mv md : ME) (mt mt1 : MT) (mi mi1 : MI) (ml ms : MO) (t t1 : Tg) (u : U) (us : List U) (x y : D) (vs vs1 : List Nat) (es : List (Key × D)) (s z : Str) (T : Str → Option Fn) (mas : MA) (f : Fn) (C : Bool) (tab : List (Str × D)) (xs ys ds : List D) (l : Option Int)
@[simp] theorem mCallV_0 (r : DEnv) : mCallV 0 T mas (some (.d (.fn z)) :: r) S = kCallV T (mas (some (.d (.fn z)) :: r) S) z := rfl
theorem mCallV_ (h : δ[i]? = some (some (.d (.fn z)))) : mCallV i T mas δ S = kCallV T (mas δ S) z := by unfold mCallV; rw [h]; rfl
@[simp] theorem kCallV_ (h : T z = some f) : kCallV T (.ok us S) z = f us S := by unfold kCallV; rw [h]; rfl
@[simp] theorem mInK_ : mInK tab ma δ S = kInK tab (ma δ S) := rfl
@[simp] theorem kInK_ : kInK tab (.ok (.d (.str z)) S) = .ok (.d (.bl (lookT tab z).isSome)) S := rfl
@[simp] theorem mIxK_ : mIxK tab ma δ S = kIxK tab (ma δ S) := rfl
@[simp] theorem kIxK_ : kIxK tab (.ok (.d (.str z)) S) = match lookT tab z with
    | some e => .ok (.d e) S
    | none => .stuck := rfl
@[simp] theorem mZipI_ : mZipI ma mb δ S = kZi1 mb δ (ma δ S) := rfl
@[simp] theorem kZi1_ : kZi1 mb δ (.ok u S) = kZi2 u (mb δ S) := rfl
@[simp] theorem kZi2_t : kZi2 (.d (.tup xs)) (.ok (.d (.tup ys)) S) = .ok (zipD xs ys) S := rfl
@[simp] theorem kZi2_l : kZi2 (.d (.lst xs)) (.ok (.d (.lst ys)) S) = .ok (zipD xs ys) S := rfl
@[simp] theorem mEnumI_ : mEnumI ma δ S = kEn (ma δ S) := rfl
@[simp] theorem kEn_ : kEn (.ok (.d (.lst xs)) S) = .ok (enumD 0 xs) S := rfl
@[simp] theorem mStrI_ : mStrI ma δ S = kStI (ma δ S) := rfl
@[simp] theorem kStI_ : kStI (.ok (.d (.str z)) S) = .ok (charsD z) S := rfl
@[simp] theorem mUpper_ : mUpper ma δ S = kUp (ma δ S) := rfl
@[simp] theorem kUp_ : kUp (.ok (.d (.str z)) S) = if z.length ≤ 5592405 then .ok (.d (.str (Txt.upper z))) S else .stuck := rfl
@[simp] theorem mGet2_ : mGet2 ma mk md δ S = kGe1 mk md δ (ma δ S) := rfl
@[simp] theorem kGe1_ : kGe1 mk md δ (.ok (.d (.dct es)) S) = kGe2 es md δ (mk δ S) := rfl
@[simp] theorem kGe2_ : kGe2 es md δ (.ok u S) = kGe3 es u (md δ S) := rfl
@[simp] theorem kGe3_ : kGe3 es (.d (.str z)) (.ok u S) = match valD es (.inr z) with
    | some v => .ok (.d v) S
    | none => .ok u S := rfl
@[simp] theorem mStride_ : mStride C ma ml ms δ S = kSt1 C ml ms δ (ma δ S) := rfl
@[simp] theorem kSt1_ : kSt1 C ml ms δ (.ok u S) = kSt2 C u ms δ (ml δ S) := rfl
@[simp] theorem kSt2_ : kSt2 C u ms δ (.ok l S) = kSt3 C u l (ms δ S) := rfl
@[simp] theorem kSt3_ (p : Int) : kSt3 C (.d (.lst ds)) l (.ok (some p) S) = if 0 < p then (if C then .ok (.loc S.length) (S ++ [.lst (pickAt ds l (some p))]) else .ok (.d (.lst (pickAt ds l (some p)))) S) else .stuck := rfl
@[simp] theorem mFnK_ : mFnK C f mas δ S = kFnK C f (mas δ S) := rfl
@[simp] theorem kFnK_ : kFnK C f (.ok us S) = f (flp C us) S := rfl
@[simp] theorem mAsg_ : mAsg ma t b δ S = kAsg t δ (ma δ S) := rfl
@[simp] theorem kAsg_ : kAsg t δ (.ok u S) = match t.apply u δ with
  | some δ1 => .next δ1 S
  | none => .stuck := rfl
@[simp] theorem mLc2_ : mLc2 mi t mt mi1 t1 mt1 ma vs vs1 δ S = kLc2 t mt mi1 t1 mt1 ma vs vs1 δ (mi δ S) := rfl
@[simp] theorem kLc2_ : kLc2 t mt mi1 t1 mt1 ma vs vs1 δ (.ok ds S) = kL2 (lcD2 t mt mi1 t1 mt1 ma vs1 (wipeD vs δ) ds S) := rfl
@[simp] theorem kL2_ : kL2 (.ok ds S) = finL ds S := rfl
@[simp] theorem dStr_b (c : Bool) : dStr [.bl c] = some (.str (if c then "True" else "False")) := rfl
@[simp] theorem dStr_i (p : Int) : dStr [.int p] = if p.natAbs.log2 < 1920 then some (.str (toString p)) else none := rfl
@[simp] theorem dAdd_b (c : Bool) (p : Int) : dAdd (.bl c) (.int p) = some (.int ((if c = true then (1 : Int) else 0) + p)) := rfl
@[simp] theorem dSub_b (c : Bool) (p : Int) : dSub (.bl c) (.int p) = some (.int ((if c = true then (1 : Int) else 0) - p)) := rfl
@[simp] theorem dSub_ib (c : Bool) (p : Int) : dSub (.int p) (.bl c) = some (.int (p - if c = true then (1 : Int) else 0)) := rfl
@[simp] theorem dAdd_s : dAdd (.str s) (.str z) = if s.length + z.length ≤ sizeLine then some (.str (s ++ z)) else none := rfl
@[simp] theorem dMul_t (p : Int) : dMul (.tup ds) (.int p) = if 2 ≤ p ∧ p ≤ 1000 ∧ ds.length ≤ 1000 ∧ ds ≠ [] then some (.tup (List.replicate p.toNat ds).flatten) else none := rfl
/-- a comprehension whose parts change nothing -/
theorem lcD_pure {t : Tg} {mt : MT} {me : ME} {δ : DEnv} {S : Store} {c : D → Bool} {f : D → D} : ∀ ds : List D, (∀ d ∈ ds, ∃ δ1, t.apply (.d d) δ = some δ1 ∧ mt δ1 S = .ok (c d) S ∧ (c d = true → me δ1 S = .ok (.d (f d)) S)) → lcD t mt me δ ds S = .ok ((ds.filter c).map f) S
  | [], _ => rfl
  | d :: ds, h => by
    obtain ⟨δ1, h1, h2, h3⟩ := h d (List.mem_cons_self ..)
    have ih := lcD_pure ds fun e he => h e (List.mem_cons_of_mem _ he)
    rw [lcD_cons, h1, kLa_, h2, kLT_]
    cases hc : c d with
    | false => rw [if_neg Bool.false_ne_true, ih, List.filter_cons_of_neg (by rw [hc]; exact Bool.false_ne_true)]
    | true => rw [if_pos rfl, h3 hc, kLE_, ih, kLy_, List.filter_cons_of_pos hc, List.map_cons]
/-- one whose parts go on with the store -/
theorem lcD_inv {t : Tg} {mt : MT} {me : ME} {δ : DEnv} {I : Store → Prop} {P : D → Prop} : ∀ (ds : List D) (S : Store), I S → (∀ d ∈ ds, ∀ S, I S → ∃ δ1, t.apply (.d d) δ = some δ1 ∧ mt δ1 S = .ok true S ∧ ∃ y S', me δ1 S = .ok (.d y) S' ∧ I S' ∧ P y) →
    ∃ ys S', lcD t mt me δ ds S = .ok ys S' ∧ I S' ∧ ys.length = ds.length ∧ ∀ y ∈ ys, P y
  | [], S, i, _ => ⟨[], S, rfl, i, rfl, fun y h => by cases h⟩
  | d :: ds, S, i, h => by
    obtain ⟨δ1, h1, h2, y, S1, h3, i1, hp⟩ := h d (List.mem_cons_self ..) S i
    obtain ⟨ys, S2, h4, i2, h5, h6⟩ := lcD_inv ds S1 i1 fun e he => h e (List.mem_cons_of_mem _ he)
    refine ⟨y :: ys, S2, ?_, i2, by rw [List.length_cons, List.length_cons, h5], fun z hz => ?_⟩
    · rw [lcD_cons, h1, kLa_, h2, kLT_, if_pos rfl, h3, kLE_, h4, kLy_]
    · rcases List.mem_cons.mp hz with rfl | hz
      · exact hp
      · exact h6 z hz
end
end DL

set_option Elab.async false
set_option linter.all false
set_option maxRecDepth 100000
set_option maxHeartbeats 4000000
/-! DRepr: texts that differ; repr of small data -/
namespace DL
open PySem L2 PyProof.Rows
theorem ofString_inj {a b : String} : (Str.ofString a = Str.ofString b) ↔ a = b := by
  refine ⟨fun h => ?_, fun h => by rw [h]⟩
  rw [Str.ofString_eq_byList] at h
  unfold Str.ofStringByList at h
  have h1 : a.toList.map Char.toNat = b.toList.map Char.toNat := by simpa using h
  have inj : ∀ (xs ys : List Char), xs.map Char.toNat = ys.map Char.toNat → xs = ys := by
    intro xs
    induction xs with
    | nil => intro ys e; cases ys with
      | nil => rfl
      | cons _ _ => cases e
    | cons x xs ih => intro ys e; cases ys with
      | nil => cases e
      | cons y ys =>
        simp only [List.map_cons, List.cons.injEq] at e
        have : x = y := by
          apply Char.ext
          apply UInt32.toNat_inj.mp
          exact e.1
        rw [this, ih ys e.2]
  exact String.toList_injective (inj _ _ h1)
@[simp] theorem ofString_eq (a b : String) : (Str.ofString a = Str.ofString b) = (a = b) := propext ofString_inj
theorem ofString_len (s : String) : (Str.ofString s).length = s.toList.length := by
  rw [Str.ofString_eq_byList]
  unfold Str.ofStringByList Str.length
  simp
theorem shown_int_len {i : Int} {k : Nat} (hk : 1 ≤ k) (h : i.natAbs < 10 ^ k) : (PyData.shown (.int i)).length ≤ k + 1 := by
  have e : PyData.shown (.int i) = Str.ofString (toString i) := by simp only [PyData.shown]
  rw [e, ofString_len]
  have dig : ∀ n : Nat, n < 10 ^ k → (toString n).toList.length ≤ k := by
    intro n hn
    have q := toDigits_len_pow (b := 10) (by decide) hk hn
    have e2 : (toString n).toList = Nat.toDigits 10 n := by
      show (Nat.repr n).toList = _
      unfold Nat.repr
      simp
    rw [e2]; exact q
  cases i with
  | ofNat n => exact Nat.le_succ_of_le (dig n (by simpa using h))
  | negSucc n =>
    have e3 : toString (Int.negSucc n) = "-" ++ toString (n + 1) := rfl
    rw [e3]
    have := dig (n + 1) (by simpa [Int.natAbs] using h)
    rw [String.toList_append, List.length_append]
    have l1 : ("-" : String).toList.length = 1 := rfl
    omega
/-- nothing or a whole number of at most 20 digits -/
def Sm : D → Prop
  | .non => True
  | .int i => i.natAbs < 10 ^ 20
  | _ => False
theorem sm_py {d : D} (h : Sm d) : ∃ p, toPy d = some p ∧ p.showable = true ∧ p.shown.length ≤ 21 ∧ p.depth = 0 ∧ p.hasDict = false := by
  cases d with
  | non => exact ⟨.none, by simp only [toPy], by simp only [PyData.showable], by simp only [PyData.shown]; decide, by simp only [PyData.depth], by simp only [PyData.hasDict]⟩
  | int i =>
    refine ⟨.int i, by simp only [toPy], ?_, shown_int_len (by decide) h, by simp only [PyData.depth], by simp only [PyData.hasDict]⟩
    simp only [PyData.showable, decide_eq_true_eq]
    have h' : i.natAbs < 10 ^ 20 := h
    by_cases z : i.natAbs = 0
    · rw [z]; decide
    · exact (Nat.log2_lt z).mpr (Nat.lt_of_lt_of_le h' (Nat.le_trans (by decide : 10 ^ 20 ≤ 2 ^ 70) (Nat.pow_le_pow_right (by decide) (by decide))))
  | _ => exact h.elim
theorem repr_sm {d : D} (h : Sm d) : ∃ s, dRepr [d] = some (.str s) := by
  obtain ⟨p, h1, h2, h3, h4, h5⟩ := sm_py h
  refine ⟨p.shown, ?_⟩
  have : okR p = true := by
    unfold okR
    rw [h2, h5, h4]
    simp only [Bool.and_eq_true, decide_eq_true_eq]
    exact ⟨⟨⟨trivial, Nat.le_trans h3 (by decide)⟩, by decide⟩, rfl⟩
  unfold dRepr
  simp only [h1, this, if_true]
theorem sm_pyL : ∀ {ds : List D}, (∀ d ∈ ds, Sm d) → ∃ ps, toPyL ds = some ps ∧ PyData.showableAll ps = true ∧ (∀ t ∈ PyData.shownAll ps, t.length ≤ 21) ∧ (PyData.shownAll ps).length = ds.length ∧ (∀ p ∈ ps, p.depth = 0) ∧ PyData.hasDictAll ps = false
  | [], _ => by
    refine ⟨[], by simp only [toPyL], by simp only [PyData.showableAll], ?_, by simp only [PyData.shownAll, List.length_nil], ?_, by simp only [PyData.hasDictAll]⟩
    · simp only [PyData.shownAll]
      intro t h
      cases h
    · intro t h
      cases h
  | d :: ds, h => by
    obtain ⟨p, h1, h2, h3, h4, h5⟩ := sm_py (h d (List.mem_cons_self ..))
    obtain ⟨ps, g1, g2, g3, g4, g5, g6⟩ := sm_pyL fun d hd => h d (List.mem_cons_of_mem _ hd)
    refine ⟨p :: ps, by simp only [toPyL, h1, g1], by simp only [PyData.showableAll, h2, g2]; rfl, ?_, ?_, ?_, by simp only [PyData.hasDictAll, h5, g6]; rfl⟩
    · simp only [PyData.shownAll]
      intro t ht
      rcases List.mem_cons.mp ht with rfl | ht
      · exact h3
      · exact g3 t ht
    · simp only [PyData.shownAll, List.length_cons, g4]
    · intro q hq
      rcases List.mem_cons.mp hq with rfl | hq
      · exact h4
      · exact g5 q hq
theorem strLen_app (a b : Str) : (a ++ b).length = a.length + b.length := strLen_append ..
theorem textFrom_up : ∀ (ts : List Str) (k : Nat) (acc : Str), (∀ t ∈ ts, t.length ≤ 21) → (textFrom k acc ts).length ≤ acc.length + 23 * ts.length
  | [], k, acc, _ => Nat.le_refl _
  | t :: r, k, acc, h => by
    have ih := textFrom_up r (k + 1) (acc ++ (if k > 0 then ", " else "" : String) ++ t) fun x hx => h x (List.mem_cons_of_mem _ hx)
    show (textFrom (k + 1) (acc ++ (if k > 0 then ", " else "" : String) ++ t) r).length ≤ _
    rw [strLen_app, strLen_app] at ih
    have ht := h t (List.mem_cons_self ..)
    have l1 : (Str.ofString (if k > 0 then ", " else "" : String)).length ≤ 2 := by split <;> decide
    have l2 : ((if k > 0 then ", " else "" : String) : Str).length ≤ 2 := l1
    rw [List.length_cons]
    omega
theorem repr_sms {ds : List D} (h : ∀ d ∈ ds, Sm d) (hl : ds.length ≤ 100) : ∃ s, dRepr [.lst ds] = some (.str s) := by
  obtain ⟨ps, g1, g2, g3, g4, g5, g6⟩ := sm_pyL h
  have hp : toPy (.lst ds) = some (.list ps) := by simp only [toPy, g1]
  refine ⟨PyData.shown (.list ps), ?_⟩
  have d1 : (PyData.list ps).depth ≤ 64 := by
    have all : ∀ qs : List PyData, (∀ p ∈ qs, p.depth = 0) → PyData.depthAll qs = 0 := by
      intro qs
      induction qs with
      | nil => intro _; simp only [PyData.depthAll]
      | cons q qs ih =>
        intro hq
        simp only [PyData.depthAll, hq q (List.mem_cons_self ..), ih fun p hp => hq p (List.mem_cons_of_mem _ hp)]
        decide
    simp only [PyData.depth, all ps g5]
    decide
  have l1 : (PyData.shown (.list ps)).length ≤ sizeLine := by
    simp only [PyData.shown]
    have q := textFrom_up (PyData.shownAll ps) 0 "[" g3
    show (textFrom 0 "[" (PyData.shownAll ps) ++ "]").length ≤ _
    rw [strLen_app, sizeLine_eq]
    have a1 : (("[" : String) : Str).length = 1 := rfl
    have a2 : (("]" : String) : Str).length = 1 := rfl
    rw [g4] at q
    omega
  have : okR (.list ps) = true := by
    unfold okR
    simp only [Bool.and_eq_true, decide_eq_true_eq]
    exact ⟨⟨⟨by simp only [PyData.showable, g2], l1⟩, d1⟩, by simp only [PyData.hasDict, g6]; rfl⟩
  unfold dRepr
  simp only [hp, this, if_true]
end DL

set_option Elab.async false
set_option linter.all false
set_option maxRecDepth 100000
set_option maxHeartbeats 4000000
/-! DPlain: data as a law draws it: small ints, short texts of ASCII signs, tuples and lists of such -/
namespace DL
open PySem L2 PyProof.Rows
mutual
def pl (c : Nat) : D → Bool
  | .non => true
  | .bl _ => true
  | .int i => decide (i.natAbs ≤ c)
  | .str x => x.cps.toList.all fun k => decide (k < 128)
  | .tup ds => plL c ds
  | .lst ds => plL c ds
  | .dct _ => false
  | .fl _ => false
  | .ref _ => false
  | .fn _ => false
def plL (c : Nat) : List D → Bool
  | [] => true
  | d :: r => pl c d && plL c r
end
mutual
def sz : D → Nat
  | .non => 4
  | .bl _ => 5
  | .int i => if i.natAbs < 1000000 then 90 else 800
  | .str x => 10 * x.length + 2
  | .tup ds => szL ds + 3
  | .lst ds => szL ds + 3
  | .dct _ => 0
  | .fl _ => 0
  | .ref _ => 0
  | .fn _ => 0
def szL : List D → Nat
  | [] => 0
  | d :: r => sz d + 2 + szL r
end
mutual
def dp : D → Nat
  | .tup ds => dpL ds + 1
  | .lst ds => dpL ds + 1
  | .non => 0
  | .bl _ => 0
  | .int _ => 0
  | .str _ => 0
  | .dct _ => 0
  | .fl _ => 0
  | .ref _ => 0
  | .fn _ => 0
def dpL : List D → Nat
  | [] => 0
  | d :: r => max (dp d) (dpL r)
end
/-! ### lists -/
theorem plL_iff {c : Nat} : ∀ {ds : List D}, plL c ds = true ↔ ∀ d ∈ ds, pl c d = true
  | [] => by simp [plL]
  | d :: r => by
    rw [plL, Bool.and_eq_true, plL_iff (ds := r)]
    simp
theorem dpL_le {n : Nat} : ∀ {ds : List D}, dpL ds ≤ n ↔ ∀ d ∈ ds, dp d ≤ n
  | [] => by simp [dpL]
  | d :: r => by
    rw [dpL, Nat.max_le, dpL_le (ds := r)]
    simp
theorem szL_append : ∀ (as bs : List D), szL (as ++ bs) = szL as + szL bs
  | [], bs => by simp [szL]
  | a :: as, bs => by rw [List.cons_append, szL, szL, szL_append as bs]; omega
theorem szL_sub {as bs : List D} (h : as.Sublist bs) : szL as ≤ szL bs := by
  induction h with
  | slnil => exact Nat.le_refl _
  | cons a _ ih => rw [szL]; omega
  | cons_cons a _ ih => rw [szL, szL]; omega
theorem szL_len : ∀ ds : List D, 2 * ds.length ≤ szL ds
  | [] => Nat.le_refl _
  | d :: r => by have := szL_len r; rw [szL, List.length_cons]; omega
theorem szL_mem {d : D} : ∀ {ds : List D}, d ∈ ds → sz d + 2 ≤ szL ds
  | e :: r, h => by
    rw [szL]
    rcases List.mem_cons.mp h with rfl | h
    · omega
    · have := szL_mem h; omega
theorem szL_reverse (ds : List D) : szL ds.reverse = szL ds := by
  induction ds with
  | nil => rfl
  | cons d r ih => rw [List.reverse_cons, szL_append, ih, szL, szL, szL]; omega
theorem szL_bound {s : Nat} : ∀ {ds : List D}, (∀ d ∈ ds, sz d ≤ s) → szL ds ≤ (s + 2) * ds.length
  | [], _ => Nat.zero_le _
  | d :: r, h => by
    have := szL_bound (ds := r) fun e he => h e (List.mem_cons_of_mem _ he)
    have h0 := h d (List.mem_cons_self ..)
    rw [szL, List.length_cons, Nat.mul_succ]; omega
mutual
theorem pl_mono {c c' : Nat} (h : c ≤ c') : ∀ d : D, pl c d = true → pl c' d = true
  | .non, _ => rfl
  | .bl _, _ => rfl
  | .int i, q => by simp only [pl, decide_eq_true_eq] at q ⊢; omega
  | .str x, q => by simp only [pl] at q ⊢; exact q
  | .tup ds, q => by simp only [pl] at q ⊢; exact plL_mono h ds q
  | .lst ds, q => by simp only [pl] at q ⊢; exact plL_mono h ds q
  | .dct _, q => by simp [pl] at q
  | .fl _, q => by simp [pl] at q
  | .ref _, q => by simp [pl] at q
  | .fn _, q => by simp [pl] at q
theorem plL_mono {c c' : Nat} (h : c ≤ c') : ∀ ds : List D, plL c ds = true → plL c' ds = true
  | [], _ => by simp [plL]
  | d :: r, q => by
    rw [plL, Bool.and_eq_true] at q ⊢
    exact ⟨pl_mono h d q.1, plL_mono h r q.2⟩
end
/-! ### as the machine's own data -/
theorem shownAll_len : ∀ ps : List PyData, (PyData.shownAll ps).length = ps.length
  | [] => by simp only [PyData.shownAll, List.length_nil]
  | p :: r => by simp only [PyData.shownAll, List.length_cons, shownAll_len r]
def sumS (ps : List PyData) : Nat := ((PyData.shownAll ps).map (·.length)).sum
mutual
theorem py_of {c : Nat} (hc : c ≤ 10 ^ 70) : ∀ d : D, pl c d = true → ∃ p, toPy d = some p ∧ p.showable = true ∧ p.canLay0 = true ∧ p.depth ≤ dp d ∧ p.shown.length ≤ sz d
  | .non, _ => ⟨.none, by simp only [toPy], by simp only [PyData.showable], by simp only [PyData.canLay0], by simp only [PyData.depth]; exact Nat.zero_le _, by simp only [PyData.shown, sz]; decide⟩
  | .bl b, _ => ⟨.bool b, by simp only [toPy], by simp only [PyData.showable], by simp only [PyData.canLay0], by simp only [PyData.depth]; exact Nat.zero_le _, by simp only [PyData.shown, sz]; cases b <;> decide⟩
  | .int i, q => by
    simp only [pl, decide_eq_true_eq] at q
    refine ⟨.int i, by simp only [toPy], ?_, by simp only [PyData.canLay0], by simp only [PyData.depth]; exact Nat.zero_le _, ?_⟩
    · simp only [PyData.showable, decide_eq_true_eq]
      by_cases z : i.natAbs = 0
      · rw [z]; decide
      · exact (Nat.log2_lt z).mpr (Nat.lt_of_le_of_lt (Nat.le_trans q hc) (Nat.lt_of_lt_of_le (by decide : 10 ^ 70 < 2 ^ 300) (Nat.pow_le_pow_right (by decide) (by decide))))
    · have h2 : 10 ^ 70 < 10 ^ 71 := by decide
      have := shown_int_len (i := i) (k := 71) (by decide) (by omega)
      rw [sz]
      split
      · have := shown_int_len (i := i) (k := 6) (by decide) (by omega)
        omega
      · omega
  | .str x, q => by
    simp only [pl, List.all_eq_true, decide_eq_true_eq] at q
    refine ⟨.str x, by simp only [toPy], by simp only [PyData.showable], ?_, by simp only [PyData.depth]; exact Nat.zero_le _, ?_⟩
    · simp only [PyData.canLay0, PyData.strOk]
      rw [← Array.all_toList, List.all_eq_true]
      intro k hk
      have := q k hk
      simp only [decide_eq_true_eq]; omega
    · simp only [PyData.shown, sz]
      exact StrLaws.reprText_len x fun k hk => Nat.lt_of_lt_of_le (q k hk) (by decide)
  | .tup ds, q => by
    simp only [pl] at q
    obtain ⟨ps, h1, h2, h3, h4, h5, h6⟩ := pyL_of hc ds q
    refine ⟨.tuple ps, by simp only [toPy, h1], by simp only [PyData.showable, h2], by simp only [PyData.canLay0, h3], by simp only [PyData.depth, dp]; omega, ?_⟩
    simp only [PyData.shown, sz]
    have := tupleText_len_le (PyData.shownAll ps)
    rw [shownAll_len] at this
    unfold sumS at h5
    omega
  | .lst ds, q => by
    simp only [pl] at q
    obtain ⟨ps, h1, h2, h3, h4, h5, h6⟩ := pyL_of hc ds q
    refine ⟨.list ps, by simp only [toPy, h1], by simp only [PyData.showable, h2], by simp only [PyData.canLay0, h3], by simp only [PyData.depth, dp]; omega, ?_⟩
    simp only [PyData.shown, sz]
    have := listText_len_le (PyData.shownAll ps)
    rw [shownAll_len] at this
    unfold sumS at h5
    omega
  | .dct _, q => by simp [pl] at q
  | .fl _, q => by simp [pl] at q
  | .ref _, q => by simp [pl] at q
  | .fn _, q => by simp [pl] at q
theorem pyL_of {c : Nat} (hc : c ≤ 10 ^ 70) : ∀ ds : List D, plL c ds = true → ∃ ps, toPyL ds = some ps ∧ PyData.showableAll ps = true ∧ PyData.canLayAll0 ps = true ∧ PyData.depthAll ps ≤ dpL ds ∧ sumS ps + 2 * ps.length ≤ szL ds ∧ ps.length = ds.length
  | [], _ => ⟨[], by simp only [toPyL], by simp only [PyData.showableAll], by simp only [PyData.canLayAll0], by simp only [PyData.depthAll]; exact Nat.zero_le _, by simp [sumS, PyData.shownAll, szL], rfl⟩
  | d :: r, q => by
    rw [plL, Bool.and_eq_true] at q
    obtain ⟨p, a1, a2, a3, a4, a5⟩ := py_of hc d q.1
    obtain ⟨ps, h1, h2, h3, h4, h5, h6⟩ := pyL_of hc r q.2
    refine ⟨p :: ps, by simp only [toPyL, a1, h1], by simp only [PyData.showableAll, a2, h2, Bool.and_self], by simp only [PyData.canLayAll0, a3, h3, Bool.and_self], by simp only [PyData.depthAll, dpL]; omega, ?_, by simp [h6]⟩
    unfold sumS at h5 ⊢
    simp only [PyData.shownAll, List.map_cons, List.sum_cons, szL, List.length_cons]
    omega
end
theorem repr_ok {c : Nat} {d : D} (hc : c ≤ 10 ^ 70) (h : pl c d = true) (hs : sz d ≤ sizeLine) (hd : dp d ≤ 64) : ∃ s, dRepr [d] = some (.str s) := by
  obtain ⟨p, h1, h2, h3, h4, h5⟩ := py_of hc d h
  refine ⟨p.shown, ?_⟩
  have nd := PyData.hasDict_of_canLay p h3
  have : okR p = true := by
    unfold okR
    rw [h2, nd]
    simp only [Bool.and_eq_true, decide_eq_true_eq]
    exact ⟨⟨⟨trivial, by omega⟩, by omega⟩, rfl⟩
  unfold dRepr
  simp [h1, this]
theorem shaped_of {c : Nat} {d : D} (hc : c ≤ 10 ^ 70) (h : pl c d = true) (hd : dp d ≤ 64) : ∃ p, toPy d = some p ∧ SeqAt.shaped p = true := by
  obtain ⟨p, h1, h2, h3, h4, h5⟩ := py_of hc d h
  refine ⟨p, h1, ?_⟩
  unfold SeqAt.shaped
  rw [h3]
  simp; omega
theorem eq_lst_nil {c : Nat} {ds : List D} (hc : c ≤ 10 ^ 70) (h : plL c ds = true) (hd : dpL ds ≤ 63) : eqD (.lst ds) (.lst []) = some ds.isEmpty := by
  obtain ⟨p, h1, h2⟩ := shaped_of (d := .lst ds) hc (by simp only [pl]; exact h) (by simp only [dp]; omega)
  show (match toPy (.lst ds), toPy (.lst []) with | some p, some q => if SeqAt.shaped p && SeqAt.shaped q then some (PyData.eqv p q) else none | _, _ => none) = _
  obtain ⟨ps, a1, a2, a3, a4, a5, a6⟩ := pyL_of hc ds h
  have e : p = .list ps := by
    have : toPy (.lst ds) = some (.list ps) := by simp only [toPy, a1]
    rw [this] at h1; cases h1; rfl
  have e0 : toPy (.lst []) = some (.list []) := by simp only [toPy, toPyL]
  have s0 : SeqAt.shaped (.list []) = true := by decide
  subst e
  rw [h1, e0]
  simp only [h2, s0, Bool.and_self, if_true, PyData.eqv]
  cases ds with
  | nil => cases ps with
    | nil => simp [PyData.eqvAll]
    | cons _ _ => cases a6
  | cons d r => cases ps with
    | nil => cases a6
    | cons _ _ => simp [PyData.eqvAll]
theorem eq_tup_nil {c : Nat} {ds : List D} (hc : c ≤ 10 ^ 70) (h : plL c ds = true) (hd : dpL ds ≤ 63) : eqD (.tup ds) (.tup []) = some ds.isEmpty := by
  obtain ⟨p, h1, h2⟩ := shaped_of (d := .tup ds) hc (by simp only [pl]; exact h) (by simp only [dp]; omega)
  show (match toPy (.tup ds), toPy (.tup []) with | some p, some q => if SeqAt.shaped p && SeqAt.shaped q then some (PyData.eqv p q) else none | _, _ => none) = _
  obtain ⟨ps, a1, a2, a3, a4, a5, a6⟩ := pyL_of hc ds h
  have e : p = .tuple ps := by
    have : toPy (.tup ds) = some (.tuple ps) := by simp only [toPy, a1]
    rw [this] at h1; cases h1; rfl
  have e0 : toPy (.tup []) = some (.tuple []) := by simp only [toPy, toPyL]
  have s0 : SeqAt.shaped (.tuple []) = true := by decide
  subst e
  rw [h1, e0]
  simp only [h2, s0, Bool.and_self, if_true, PyData.eqv]
  cases ds with
  | nil => cases ps with
    | nil => simp [PyData.eqvAll]
    | cons _ _ => cases a6
  | cons d r => cases ps with
    | nil => cases a6
    | cons _ _ => simp [PyData.eqvAll]
theorem dEq_lst_nil {c : Nat} {ds : List D} (hc : c ≤ 10 ^ 70) (h : plL c ds = true) (hd : dpL ds ≤ 63) : dEq (.lst ds) (.lst []) = some (.bl ds.isEmpty) := by unfold dEq; rw [eq_lst_nil hc h hd]; rfl
theorem dNe_lst_nil {c : Nat} {ds : List D} (hc : c ≤ 10 ^ 70) (h : plL c ds = true) (hd : dpL ds ≤ 63) : dNe (.lst ds) (.lst []) = some (.bl !ds.isEmpty) := by unfold dNe; rw [eq_lst_nil hc h hd]; rfl
theorem dEq_tup_nil {c : Nat} {ds : List D} (hc : c ≤ 10 ^ 70) (h : plL c ds = true) (hd : dpL ds ≤ 63) : dEq (.tup ds) (.tup []) = some (.bl ds.isEmpty) := by unfold dEq; rw [eq_tup_nil hc h hd]; rfl
theorem dNe_tup_nil {c : Nat} {ds : List D} (hc : c ≤ 10 ^ 70) (h : plL c ds = true) (hd : dpL ds ≤ 63) : dNe (.tup ds) (.tup []) = some (.bl !ds.isEmpty) := by unfold dNe; rw [eq_tup_nil hc h hd]; rfl
end DL

set_option Elab.async false
set_option linter.all false
set_option maxRecDepth 100000
set_option maxHeartbeats 4000000
/-! M01a: the checks, as functions of data -/
namespace W
open DL PySem L2 PyProof.Rows
def C0 : Nat := 10 ^ 61
theorem C0_le : C0 ≤ 10 ^ 70 := by decide
structure Gd (d : D) : Prop where
  p : pl C0 d = true
  s : sz d ≤ 10000000
  d : dp d ≤ 40
theorem Gd.mem {ds : List D} (h : Gd (.tup ds)) {e : D} (he : e ∈ ds) : Gd e ∧ dp e + 1 ≤ dp (.tup ds) := by
  obtain ⟨p, s, d⟩ := h
  simp only [pl] at p
  simp only [sz] at s
  simp only [dp] at d ⊢
  have h1 := (dpL_le (n := dpL ds) (ds := ds)).mp (Nat.le_refl _) e he
  have h2 := szL_mem he
  exact ⟨⟨plL_iff.mp p e he, by omega, by omega⟩, by omega⟩
theorem Gd.pls {ds : List D} (h : Gd (.tup ds)) : plL C0 ds = true := by have := h.p; simpa only [pl] using this
theorem Gd.dps {ds : List D} (h : Gd (.tup ds)) : dpL ds ≤ 39 := by have := h.d; simp only [dp] at this; omega
theorem Gd.str {x : Str} (h : Gd (.str x)) : x.length ≤ sizeLine := by have := h.s; simp only [sz] at this; rw [sizeLine_eq]; omega
theorem Gd.lens {ds : List D} (h : Gd (.tup ds)) : ds.length ≤ sizeLine := by
  have := h.s; simp only [sz] at this
  have h2 := szL_len ds
  rw [sizeLine_eq]; omega
theorem Gd.sub {ds es : List D} (h : Gd (.tup ds)) (hs : ∀ e ∈ es, e ∈ ds) : plL C0 es = true ∧ dpL es ≤ 63 := by
  refine ⟨plL_iff.mpr fun e he => plL_iff.mp h.pls e (hs e he), dpL_le.mpr fun e he => ?_⟩
  have := (h.mem (hs e he)).1.d
  omega
/-! ### names -/
def lows (x : Str) : Bool := x.cps.toList.all fun c => decide (97 ≤ c) && decide (c ≤ 122)
def nameS (x : Str) : Bool := decide (1 ≤ x.length) && decide (x.length ≤ 8) && lows x
def isInt : D → Bool
  | .int _ => true
  | _ => false
def isNam : D → Bool
  | .str x => nameS x
  | _ => false
theorem letters : (Str.ofString "abcdefghijklmnopqrstuvwxyz").cps.toList = (List.range 26).map (· + 97) := by decide +kernel
theorem in_letters (c : Nat) : decide (c ∈ (Str.ofString "abcdefghijklmnopqrstuvwxyz").cps.toList) = (decide (97 ≤ c) && decide (c ≤ 122)) := by
  rw [letters, Bool.eq_iff_iff]
  simp only [decide_eq_true_eq, Bool.and_eq_true, List.mem_map, List.mem_range]
  constructor
  · rintro ⟨a, h, rfl⟩; omega
  · rintro ⟨h1, h2⟩; exact ⟨c - 97, by omega, by omega⟩
theorem in_letters' (c : Nat) : decide (c ∈ (Str.ofString "abcdefghijklmnopqrstuvwxyz").cps) = (decide (97 ≤ c) && decide (c ≤ 122)) := by
  rw [← in_letters]
  simp only [Array.mem_toList_iff]
theorem integer_ok {d : D} {S : Store} (h : Gd d) : f_is_integer [.d d] S = .ok (.d (.bl (isInt d))) S := by
  have p := h.p
  unfold f_is_integer b_is_integer
  cases d <;> first | (simp [pl] at p; done) | simp [enter, isT, isInt]
theorem linteger_ok {d : D} {S : Store} (h : Gd d) : f__law_integer [.d d] S = .ok (.d (.bl (isInt d))) S := by
  have p := h.p
  unfold f__law_integer b__law_integer
  cases d <;> first | (simp [pl] at p; done) | simp [enter, isT, isInt]
def isNum : D → Bool
  | .int i => decide (0 ≤ i)
  | _ => false
theorem number_ok {d : D} {S : Store} (h : Gd d) : f_is_number f_is_integer [.d d] S = .ok (.d (.bl (isNum d))) S := by
  unfold f_is_number b_is_number
  cases d <;> simp [enter, integer_ok h, isInt, isNum]
theorem bools_map (l : List Nat) (f : Nat → Bool) : bools (l.map fun c => D.bl (f c)) = some (l.map f) := by
  induction l with
  | nil => rfl
  | cons c r ih => simp only [List.map_cons, bools, ih, Option.map_some]
theorem bools_mapD {α : Type} (l : List α) (f : α → Bool) : bools (l.map fun c => D.bl (f c)) = some (l.map f) := by
  induction l with
  | nil => rfl
  | cons c r ih => simp only [List.map_cons, bools, ih, Option.map_some]
theorem chars_len (x : Str) : (charsD x).length = x.length := by unfold charsD; simp; rfl
@[simp] theorem dLen_s (x : Str) : dLen [.str x] = if x.length ≤ sizeLine then some (.int x.length) else none := rfl
def chC : D → Bool
  | .str x => lows x
  | _ => false
theorem lows_1 (c : Nat) : lows ⟨#[c]⟩ = (decide (97 ≤ c) && decide (c ≤ 122)) := by simp [lows]
theorem name_ok {d : D} {S : Store} (h : Gd d) : f_is_name [.d d] S = .ok (.d (.bl (isNam d))) S := by
  have p := h.p
  unfold f_is_name b_is_name
  cases d with
  | str x =>
    have hl := h.str
    by_cases h1 : 1 ≤ x.length
    · by_cases h2 : x.length ≤ 8
      · have q : lcD (.nm 1) mYes (m2 dInS (mVar 1) (mC (.str "abcdefghijklmnopqrstuvwxyz"))) (wipeD [1] [some (.d (.str x)), none]) (charsD x) S = .ok (((charsD x).filter fun _ => true).map fun e => .bl (chC e)) S := by
          refine lcD_pure _ fun e he => ?_
          obtain ⟨c, hc, rfl⟩ := List.mem_map.mp he
          refine ⟨[some (.d (.str x)), some (.d (.str ⟨#[c]⟩))], rfl, rfl, fun _ => ?_⟩
          simp [dInS, chC, lows_1, in_letters']
        have q3 : ((charsD x).filter fun _ => true).map (fun e => D.bl (chC e)) = x.cps.toList.map fun c => D.bl (decide (97 ≤ c) && decide (c ≤ 122)) := by
          have ft : ∀ l : List D, l.filter (fun _ => true) = l := fun l => List.filter_eq_self.mpr fun _ _ => rfl
          rw [ft]
          unfold charsD
          rw [List.map_map]
          apply List.map_congr_left
          intro c _
          simp [chC, lows_1]
        have q2 : (charsD x).length ≤ sizeLine := by rw [chars_len]; exact hl
        simp [enter, isT, hl, h1, h2, q, q2, q3, dAll, bools_map, isNam, nameS, lows, List.all_map, Function.comp_def]
        have e1 : (1 : Int) ≤ x.length := by omega
        have e2 : (x.length : Int) ≤ 8 := by omega
        simp [e1, e2, q, q2, q3, dAll, bools_map, lows, List.all_map, Function.comp_def]
      · have e1 : (1 : Int) ≤ x.length := by omega
        have e2 : ¬ (x.length : Int) ≤ 8 := by omega
        simp [enter, isT, hl, h1, h2, e1, e2, isNam, nameS]
    · have e1 : ¬ (1 : Int) ≤ x.length := by omega
      simp [enter, isT, hl, h1, e1, isNam, nameS]
  | _ => first | (simp [pl] at p; done) | simp [enter, isT, isNam]
theorem lname_ok {d : D} {S : Store} (h : Gd d) : f__law_is_name [.d d] S = .ok (.d (.bl (isNam d))) S := by
  have p := h.p
  unfold f__law_is_name b__law_is_name
  cases d with
  | str x =>
    have hl := h.str
    have pc : ∀ c ∈ x.cps.toList, c < 128 := by simpa only [pl, List.all_eq_true, decide_eq_true_eq] using p
    by_cases h1 : 1 ≤ x.length
    · by_cases h2 : x.length ≤ 8
      · have e1 : 0 < x.length := by omega
        have e2 : (x.length : Int) < 9 := by omega
        have q : lcD (.nm 1) (mNotT (mTest (mChain dLe dLe (mC (.int 97)) (mCall dOrd (mCons (mVar 1) mNil)) (mC (.int 122))))) (mVar 1) (wipeD [1] [some (.d (.str x)), none]) (charsD x) S = .ok (((charsD x).filter fun e => !chC e).map id) S := by
          refine lcD_pure _ fun e he => ?_
          obtain ⟨c, hc, rfl⟩ := List.mem_map.mp he
          have hlen : (Str.mk #[c]).length = 1 := rfl
          refine ⟨[some (.d (.str x)), some (.d (.str ⟨#[c]⟩))], rfl, ?_, fun _ => by simp⟩
          by_cases h97 : 97 ≤ c
          · have i97 : (97 : Int) ≤ (c : Int) := by omega
            by_cases h122 : c ≤ 122
            · have i122 : (c : Int) ≤ 122 := by omega
              simp [dOrd, hlen, chC, lows_1, h97, h122, i97, i122]
            · have i122 : ¬ (c : Int) ≤ 122 := by omega
              simp [dOrd, hlen, chC, lows_1, h97, h122, i97, i122]
          · have i97 : ¬ (97 : Int) ≤ (c : Int) := by omega
            simp [dOrd, hlen, chC, lows_1, h97, i97]
        have q2 : (charsD x).length ≤ sizeLine := by rw [chars_len]; exact hl
        have pq : plL C0 ((charsD x).filter fun e => !chC e) = true := plL_iff.mpr fun e he => by
          obtain ⟨c, hc, rfl⟩ := List.mem_map.mp (List.mem_filter.mp he).1
          simp [pl, pc c hc]
        have dq : dpL ((charsD x).filter fun e => !chC e) ≤ 63 := dpL_le.mpr fun e he => by
          obtain ⟨c, hc, rfl⟩ := List.mem_map.mp (List.mem_filter.mp he).1
          simp [dp]
        have em : ((charsD x).filter fun e => !chC e).isEmpty = lows x := by
          rw [Bool.eq_iff_iff, List.isEmpty_iff, List.filter_eq_nil_iff]
          unfold lows
          rw [List.all_eq_true]
          constructor
          · intro z c hc
            have := z (.str ⟨#[c]⟩) (List.mem_map.mpr ⟨c, hc, rfl⟩)
            simpa [chC, lows_1] using this
          · intro z e he
            obtain ⟨c, hc, rfl⟩ := List.mem_map.mp he
            have := z c hc
            simpa [chC, lows_1] using this
        simp [enter, isT, hl, e1, e2, q, q2, dEq_lst_nil C0_le pq dq, em, isNam, nameS, h1, h2]
      · have e1 : 0 < x.length := by omega
        have e2 : ¬ (x.length : Int) < 9 := by omega
        simp [enter, isT, hl, h1, h2, e1, e2, isNam, nameS]
    · have e1 : ¬ 0 < x.length := by omega
      simp [enter, isT, hl, h1, e1, isNam, nameS]
  | _ => first | (simp [pl] at p; done) | simp [enter, isT, isNam]
end W

set_option Elab.async false
set_option linter.all false
set_option maxRecDepth 100000
set_option maxHeartbeats 4000000
/-! M01b: expressions, rows, variables, tests: the program's checks -/
namespace W
open DL PySem L2 PyProof.Rows
def SZ : List (Str × Nat) := [("not", 1), ("neg", 1), ("+", 2), ("-", 2), ("*", 2), ("div", 2), ("mod", 2), ("least", 2), ("most", 2), ("=", 2), ("<", 2), ("<=", 2), ("and", 2), ("or", 2), ("if", 3)]
def arity (w : Str) : Option Nat := (SZ.find? fun kv => decide (kv.1 = w)).map (·.2)
mutual
def isExpr : D → Bool
  | .int _ => true
  | .str x => nameS x
  | .tup ds => isExprT ds
  | .non => false
  | .bl _ => false
  | .lst _ => false
  | .dct _ => false
  | .fl _ => false
  | .ref _ => false
  | .fn _ => false
def isExprT : List D → Bool
  | [] => false
  | d :: ps => (match d with
    | .str w => (match arity w with
      | some n => decide (ps.length = n)
      | none => false)
    | _ => false) && isExprL ps
def isExprL : List D → Bool
  | [] => true
  | d :: r => isExpr d && isExprL r
end
theorem isExprL_all : ∀ ds : List D, isExprL ds = ds.all isExpr
  | [] => by simp [isExprL]
  | d :: r => by rw [isExprL, List.all_cons, isExprL_all r]
def areExprs : D → Bool
  | .tup ds => ds.all isExpr
  | _ => false
def areInts : D → Bool
  | .tup ds => ds.all isInt
  | _ => false
def P (n : Str) (d : D) : Bool := if n = "is_expression" then isExpr d else if n = "is_name" then isNam d else if n = "is_integer" then isInt d else if n = "are_integers" then areInts d else areExprs d
@[simp] theorem P_e (d : D) : P "is_expression" d = isExpr d := rfl
@[simp] theorem P_n (d : D) : P "is_name" d = isNam d := by unfold P; rw [if_neg (by decide +kernel), if_pos rfl]
@[simp] theorem P_i (d : D) : P "is_integer" d = isInt d := by unfold P; rw [if_neg (by decide +kernel), if_neg (by decide +kernel), if_pos rfl]
@[simp] theorem P_I (d : D) : P "are_integers" d = areInts d := by unfold P; rw [if_neg (by decide +kernel), if_neg (by decide +kernel), if_neg (by decide +kernel), if_pos rfl]
@[simp] theorem P_E (d : D) : P "are_expressions" d = areExprs d := by unfold P; rw [if_neg (by decide +kernel), if_neg (by decide +kernel), if_neg (by decide +kernel), if_neg (by decide +kernel)]
def tw (ns : List Str) : D → Bool
  | .tup ds => decide (ds.length = ns.length) && (ns.zip ds).all fun q => P q.1 q.2
  | _ => false
/-- the table's functions answer for d's parts -/
def Tab (T : Str → Option Fn) (ns : List Str) (d : D) (S : Store) : Prop := ∀ ds, d = .tup ds → ∀ n ∈ ns, ∀ e ∈ ds, ∃ f, T n = some f ∧ f [.d e] S = .ok (.d (.bl (P n e))) S
def pairF : D → D
  | .tup [.fn n, e] => .bl (P n e)
  | _ => .non
theorem all_map_id {α : Type} (l : List α) (f : α → Bool) : (l.map f).all id = l.all f := by rw [List.all_map]; rfl
theorem tuple_with_ok {T : Str → Option Fn} {ns : List Str} {d : D} {S : Store} (h : Gd d) (hT : Tab T ns d S) : f_is_tuple_with T [.d d, .d (.tup (ns.map .fn))] S = .ok (.d (.bl (tw ns d))) S := by
  have p := h.p
  unfold f_is_tuple_with b_is_tuple_with
  cases d with
  | tup ds =>
    by_cases hl : ds.length = ns.length
    · have q : lcD (.tp [2, 3]) mYes (mCallV 2 T (mCons (mVar 3) mNil)) (wipeD [2, 3] [some (.d (.tup ds)), some (.d (.tup (ns.map .fn))), none, none]) (zipD (ns.map .fn) ds) S = .ok (((zipD (ns.map .fn) ds).filter fun _ => true).map pairF) S := by
        refine lcD_pure _ fun e he => ?_
        obtain ⟨i, hi⟩ := List.getElem?_of_mem he
        obtain ⟨x, y, h1, h2, rfl⟩ := zipD_at hi
        rw [List.getElem?_map] at h1
        obtain ⟨n, h3, rfl⟩ := Option.map_eq_some_iff.mp h1
        obtain ⟨f, hf1, hf2⟩ := hT ds rfl n (List.mem_of_getElem? h3) y (List.mem_of_getElem? h2)
        refine ⟨[some (.d (.tup ds)), some (.d (.tup (ns.map .fn))), some (.d (.fn n)), some (.d y)], rfl, rfl, fun _ => ?_⟩
        rw [mCallV_ (z := n) (h := rfl)]
        simp only [mCons_, mVar_s, mVar_0, kC1_, mNil_, kC2_]
        rw [kCallV_ (h := hf1), hf2]
        rfl
      have q2 : (zipD (ns.map .fn) ds).length ≤ sizeLine := by
        rw [zipD_len]
        have := h.lens
        omega
      have q3 : ((zipD (ns.map .fn) ds).filter fun _ => true).map pairF = (ns.zip ds).map fun q => D.bl (P q.1 q.2) := by
        have ft : ∀ l : List D, l.filter (fun _ => true) = l := fun l => List.filter_eq_self.mpr fun _ _ => rfl
        rw [ft]
        unfold zipD
        rw [List.zip_map_left, List.map_map, List.map_map]
        apply List.map_congr_left
        rintro ⟨n, e⟩ _
        rfl
      have hi : (ds.length : Int) = ns.length := by omega
      simp [enter, isT, hl, hi, q, q2, q3, dAll, bools_mapD, tw, all_map_id]
    · have hi : ¬ (ds.length : Int) = ns.length := by omega
      simp [enter, isT, hl, hi, tw]
  | _ => first | (simp [pl] at p; done) | simp [enter, isT, tw]
theorem tuple_of_ok {T : Str → Option Fn} {n : Str} {d : D} {S : Store} (h : Gd d) (hT : Tab T [n] d S) : f_is_tuple_of T [.d d, .d (.fn n)] S = .ok (.d (.bl (match d with | .tup ds => ds.all (P n) | _ => false))) S := by
  have p := h.p
  unfold f_is_tuple_of b_is_tuple_of
  cases d with
  | tup ds =>
    have q : lcD (.nm 2) mYes (mCallV 1 T (mCons (mVar 2) mNil)) (wipeD [2] [some (.d (.tup ds)), some (.d (.fn n)), none]) ds S = .ok ((ds.filter fun _ => true).map fun e => .bl (P n e)) S := by
      refine lcD_pure _ fun e he => ?_
      obtain ⟨f, hf1, hf2⟩ := hT ds rfl n (List.mem_singleton.mpr rfl) e he
      refine ⟨[some (.d (.tup ds)), some (.d (.fn n)), some (.d e)], rfl, rfl, fun _ => ?_⟩
      rw [mCallV_ (z := n) (h := rfl)]
      simp only [mCons_, mVar_s, mVar_0, kC1_, mNil_, kC2_]
      rw [kCallV_ (h := hf1), hf2]
    have ft : ∀ l : List D, l.filter (fun _ => true) = l := fun l => List.filter_eq_self.mpr fun _ _ => rfl
    rw [ft] at q
    have q2 := h.lens
    simp [enter, isT, q, q2, dAll, bools_mapD, all_map_id]
  | _ => first | (simp [pl] at p; done) | simp [enter, isT]
def isWd : D → Bool
  | .tup (.str _ :: _) => true
  | _ => false
theorem worded_ok {d : D} {S : Store} (h : Gd d) : f_is_worded [.d d] S = .ok (.d (.bl (isWd d))) S := by
  have p := h.p
  unfold f_is_worded b_is_worded
  cases d with
  | tup ds =>
    have e := dNe_tup_nil C0_le h.pls (by have := h.dps; omega)
    cases ds with
    | nil => simp [enter, isT, e, isWd]
    | cons w r =>
      have hw := (h.mem (List.mem_cons_self ..)).1.p
      cases w <;> first | (simp [pl] at hw; done) | simp [enter, isT, e, isWd]
  | _ => first | (simp [pl] at p; done) | simp [enter, isT, isWd]
theorem tabS_look (z : Str) : lookT tab_SHAPES z = (arity z).map fun n => .tup ((List.replicate n ("is_expression" : Str)).map .fn) := by
  have e : tab_SHAPES = SZ.map fun p => (p.1, D.tup ((List.replicate p.2 ("is_expression" : Str)).map .fn)) := rfl
  unfold lookT arity
  rw [e, List.find?_map]
  simp only [Option.map_map, Function.comp_def]
theorem all_rep {n : Nat} {x : Str} : ∀ {ds : List D}, ds.length = n → (((List.replicate n x).zip ds).all fun q => P q.1 q.2) = ds.all (P x) := by
  intro ds
  induction ds generalizing n with
  | nil => intro h; simp
  | cons d r ih =>
    intro h
    obtain ⟨n, rfl⟩ : ∃ k, n = k + 1 := ⟨n - 1, by simp at h; omega⟩
    rw [List.replicate_succ, List.zip_cons_cons, List.all_cons, List.all_cons, ih (by simpa using h)]
/-- the table of the parts of an expression -/
def tE (g : Fn) : Str → Option Fn := fun y => if y = "is_expression" then some g else none
def gE : Nat → Fn
  | 0 => fun _ _ => .stuck
  | n + 1 => f_is_expression f_is_integer f_is_name f_is_worded (f_is_tuple_with (tE (gE n)))
theorem Gd.tail {w : D} {ps : List D} (h : Gd (.tup (w :: ps))) : Gd (.tup ps) := by
  obtain ⟨p, s, d⟩ := h
  simp only [pl, plL, Bool.and_eq_true] at p
  simp only [sz, szL] at s
  simp only [dp, dpL] at d
  exact ⟨by simp only [pl]; exact p.2, by simp only [sz]; omega, by simp only [dp]; omega⟩
theorem dp_tail {w : D} {ps : List D} : dp (.tup ps) ≤ dp (.tup (w :: ps)) := by simp only [dp, dpL]; omega
theorem expr_ok : ∀ (n : Nat) {d : D} {S : Store}, Gd d → dp d < n → gE n [.d d] S = .ok (.d (.bl (isExpr d))) S
  | 0, _, _, _, h => absurd h (Nat.not_lt_zero _)
  | n + 1, d, S, h, hd => by
    show f_is_expression f_is_integer f_is_name f_is_worded (f_is_tuple_with (tE (gE n))) [.d d] S = _
    unfold f_is_expression b_is_expression
    cases d with
    | tup ds =>
      cases ds with
      | nil => simp [enter, integer_ok h, name_ok h, worded_ok h, isInt, isNam, isWd, isExpr, isExprT, truD]
      | cons w ps =>
        cases w with
        | str w =>
          have ht := h.tail
          cases ha : arity w with
          | none => simp [enter, integer_ok h, name_ok h, worded_ok h, isInt, isNam, isWd, isExpr, isExprT, truD, tabS_look, ha]
          | some k =>
            have hT : Tab (tE (gE n)) (List.replicate k "is_expression") (.tup ps) S := by
              intro ds e m hm y hy
              cases e
              cases List.eq_of_mem_replicate hm
              obtain ⟨gy, dy⟩ := ht.mem hy
              have := dp_tail (w := .str w) (ps := ps)
              exact ⟨gE n, if_pos rfl, by rw [P_e]; exact expr_ok n gy (by omega)⟩
            have q := tuple_with_ok ht hT
            have e1 := cutD_from (.str w :: ps) (p := 1) (by decide)
            simp only [Int.toNat_one, List.drop_succ_cons, List.drop_zero] at e1
            have r : tw (List.replicate k "is_expression") (.tup ps) = (decide (ps.length = k) && isExprL ps) := by
              rw [isExprL_all]
              show (decide (ps.length = (List.replicate k ("is_expression" : Str)).length) && ((List.replicate k ("is_expression" : Str)).zip ps).all fun q => P q.1 q.2) = _
              rw [List.length_replicate]
              by_cases hk : ps.length = k
              · rw [all_rep hk]; rfl
              · simp [hk]
            simp only [List.map_replicate] at q
            simp [enter, integer_ok h, name_ok h, worded_ok h, isInt, isNam, isWd, isExpr, isExprT, truD, tabS_look, ha, e1, q, r]
        | _ => simp [enter, integer_ok h, name_ok h, worded_ok h, isInt, isNam, isWd, isExpr, isExprT, truD]
    | str x =>
      by_cases hn : nameS x = true
      · simp [enter, integer_ok h, name_ok h, worded_ok h, isInt, isNam, isWd, isExpr, truD, hn]
      · simp [enter, integer_ok h, name_ok h, worded_ok h, isInt, isNam, isWd, isExpr, truD, hn]
    | _ => first | (have p := h.p; simp [pl] at p; done) | simp [enter, integer_ok h, name_ok h, worded_ok h, isInt, isNam, isWd, isExpr, truD]
/-! ### rows, variables, tests -/
def tR (g : Fn) : Str → Option Fn := fun y => if y = "is_expression" then some g else if y = "is_name" then some f_is_name else if y = "are_expressions" then some (f_are_expressions (f_is_tuple_of (tE g))) else none
def tV : Str → Option Fn := fun y => if y = "is_name" then some f_is_name else if y = "is_integer" then some f_is_integer else none
def tI1 : Str → Option Fn := fun y => if y = "is_integer" then some f_is_integer else none
def tS : Str → Option Fn := fun y => if y = "are_integers" then some (f_are_integers (f_is_tuple_of tI1)) else if y = "is_integer" then some f_is_integer else none
theorem are_exprs_ok {n : Nat} {d : D} {S : Store} (h : Gd d) (hd : dp d < n) : f_are_expressions (f_is_tuple_of (tE (gE n))) [.d d] S = .ok (.d (.bl (areExprs d))) S := by
  have q := tuple_of_ok (T := tE (gE n)) (n := "is_expression") (S := S) h (by
    intro ds e m hm y hy
    subst e
    cases List.mem_singleton.mp hm
    obtain ⟨gy, dy⟩ := h.mem hy
    exact ⟨gE n, if_pos rfl, by rw [P_e]; exact expr_ok n gy (by omega)⟩)
  unfold f_are_expressions b_are_expressions
  cases d <;> simp [enter, q, areExprs] <;> rfl
theorem are_ints_ok {d : D} {S : Store} (h : Gd d) : f_are_integers (f_is_tuple_of tI1) [.d d] S = .ok (.d (.bl (areInts d))) S := by
  have q := tuple_of_ok (T := tI1) (n := "is_integer") (S := S) h (by
    intro ds e m hm y hy
    subst e
    cases List.mem_singleton.mp hm
    obtain ⟨gy, dy⟩ := h.mem hy
    exact ⟨f_is_integer, if_pos rfl, by rw [P_i]; exact integer_ok gy⟩)
  unfold f_are_integers b_are_integers
  cases d <;> simp [enter, q, areInts]
  apply congrArg
  funext e
  exact P_i e
theorem tabR (n : Nat) (ns : List Str) (hns : ∀ m ∈ ns, m = "is_expression" ∨ m = "is_name" ∨ m = "are_expressions") {d : D} {S : Store} (h : Gd d) (hd : dp d < n + 1) : Tab (tR (gE n)) ns d S := by
  intro ds e m hm y hy
  subst e
  obtain ⟨gy, dy⟩ := h.mem hy
  rcases hns m hm with rfl | rfl | rfl
  · exact ⟨gE n, if_pos rfl, by rw [P_e]; exact expr_ok n gy (by omega)⟩
  · exact ⟨f_is_name, by unfold tR; rw [if_neg (by decide +kernel), if_pos rfl], by rw [P_n]; exact name_ok gy⟩
  · exact ⟨_, by unfold tR; rw [if_neg (by decide +kernel), if_neg (by decide +kernel), if_pos rfl], by rw [P_E]; exact are_exprs_ok gy (by omega)⟩
theorem tabV {d : D} {S : Store} (h : Gd d) : Tab tV ["is_name", "is_integer", "is_integer"] d S := by
  intro ds e m hm y hy
  subst e
  obtain ⟨gy, dy⟩ := h.mem hy
  have : m = "is_name" ∨ m = "is_integer" := by simpa using hm
  rcases this with rfl | rfl
  · exact ⟨f_is_name, if_pos rfl, by rw [P_n]; exact name_ok gy⟩
  · exact ⟨f_is_integer, by unfold tV; rw [if_neg (by decide +kernel), if_pos rfl], by rw [P_i]; exact integer_ok gy⟩
theorem tabT {d : D} {S : Store} (h : Gd d) : Tab tS ["are_integers", "is_integer"] d S := by
  intro ds e m hm y hy
  subst e
  obtain ⟨gy, dy⟩ := h.mem hy
  have : m = "are_integers" ∨ m = "is_integer" := by simpa using hm
  rcases this with rfl | rfl
  · exact ⟨_, if_pos rfl, by rw [P_I]; exact are_ints_ok gy⟩
  · exact ⟨f_is_integer, by unfold tS; rw [if_neg (by decide +kernel), if_pos rfl], by rw [P_i]; exact integer_ok gy⟩
instance decNil (ps : List D) : Decidable (ps = []) := match ps with
  | [] => isTrue rfl
  | _ :: _ => isFalse fun h => by cases h
def isVar : D → Bool
  | .tup [.str x, .int a, .int b] => nameS x && decide (a ≤ b)
  | _ => false
def isTst : D → Bool
  | .tup [.tup ds, .int _] => ds.all isInt
  | _ => false
def isRow : D → Bool
  | .tup (.str w :: ps) => if w = "else" ∨ w = "end" then decide (ps = []) else
      if w = "if" ∨ w = "while" ∨ w = "return" then (match ps with | [e] => isExpr e | _ => false) else
      if w = "set" then (match ps with | [x, e] => isNam x && isExpr e | _ => false) else
      if w = "call" then (match ps with | [x, f, .tup es] => isNam x && isNam f && es.all isExpr | _ => false) else false
  | _ => false
end W

set_option Elab.async false
set_option linter.all false
set_option maxRecDepth 100000
set_option maxHeartbeats 4000000
/-! M01c: variables, tests, rows: both sides -/
namespace W
open DL PySem L2 PyProof.Rows
theorem tw3 (a b c : D) : tw ["is_name", "is_integer", "is_integer"] (.tup [a, b, c]) = (isNam a && isInt b && isInt c) := by simp [tw, Bool.and_assoc]
theorem tw_len {ns : List Str} {ds : List D} (h : ds.length ≠ ns.length) : tw ns (.tup ds) = false := by simp [tw, h]
theorem shape_ok {d : D} {S : Store} (h : Gd d) : f_has_variable_shape (f_is_tuple_with tV) [.d d] S = .ok (.d (.bl (tw ["is_name", "is_integer", "is_integer"] d))) S := by
  have q := tuple_with_ok h (tabV (S := S) h)
  simp only [List.map_cons, List.map_nil] at q
  unfold f_has_variable_shape b_has_variable_shape
  simp [enter, sizeLine_eq, q]
theorem isVar3 (a b c : D) : isVar (.tup [a, b, c]) = (isNam a && isInt b && isInt c && (match b, c with | .int i, .int j => decide (i ≤ j) | _, _ => false)) := by
  cases a <;> cases b <;> cases c <;> simp [isVar, isNam, isInt]
theorem atI_2 (a b c : D) (r : List D) : atI (a :: b :: c :: r) 2 = some c := by rw [atI_in (by decide) (by simp only [List.length_cons]; omega)]; rfl
theorem atI_3 (a b c e : D) (r : List D) : atI (a :: b :: c :: e :: r) 3 = some e := by rw [atI_in (by decide) (by simp only [List.length_cons]; omega)]; rfl
theorem var_ok {d : D} {S : Store} (h : Gd d) : f_is_variable (f_has_variable_shape (f_is_tuple_with tV)) [.d d] S = .ok (.d (.bl (isVar d))) S := by
  have q := shape_ok (S := S) h
  unfold f_is_variable b_is_variable
  cases d with
  | tup ds =>
    match ds, h, q with
    | [a, b, c], h, q =>
      rw [tw3] at q
      cases hb : (isNam a && isInt b && isInt c) with
      | false => rw [hb] at q; simp [enter, q, isVar3, hb]
      | true =>
        rw [hb] at q
        have hb' := hb
        simp only [Bool.and_eq_true] at hb'
        cases b <;> first | (exact absurd hb'.1.2 Bool.false_ne_true) | skip
        cases c <;> first | (exact absurd hb'.2 Bool.false_ne_true) | skip
        simp only [isInt, Bool.and_true] at hb
        simp [enter, q, isVar3, atI_2, hb, isInt]
    | [], h, q => rw [tw_len (by decide)] at q; simp [enter, q, isVar]
    | [a], h, q => rw [tw_len (by simp)] at q; simp [enter, q, isVar]
    | [a, b], h, q => rw [tw_len (by simp)] at q; simp [enter, q, isVar]
    | a :: b :: c :: e :: r, h, q => rw [tw_len (by simp)] at q; simp [enter, q, isVar]
  | _ => simp only [tw] at q; simp [enter, q, isVar]
theorem lvar_ok {d : D} {S : Store} (h : Gd d) : f__law_is_variable f__law_is_name f__law_integer [.d d] S = .ok (.d (.bl (isVar d))) S := by
  have p := h.p
  unfold f__law_is_variable b__law_is_variable
  cases d with
  | tup ds =>
    match ds, h with
    | [a, b, c], h =>
      have ga := (h.mem (show a ∈ [a, b, c] by simp)).1
      have gb := (h.mem (show b ∈ [a, b, c] by simp)).1
      have gc := (h.mem (show c ∈ [a, b, c] by simp)).1
      have qa := lname_ok (S := S) ga
      have qb := linteger_ok (S := S) gb
      have qc := linteger_ok (S := S) gc
      cases ha : isNam a with
      | false => rw [ha] at qa; simp [enter, isT, qa, isVar3, ha, truD]
      | true =>
        rw [ha] at qa
        cases hb : isInt b with
        | false => rw [hb] at qb; simp [enter, isT, qa, qb, isVar3, ha, hb, truD]
        | true =>
          rw [hb] at qb
          cases hc : isInt c with
          | false => rw [hc] at qc; simp [enter, isT, qa, qb, qc, isVar3, ha, hb, hc, truD, atI_2]
          | true =>
            rw [hc] at qc
            cases b <;> first | (exact absurd hb Bool.false_ne_true) | skip
            cases c <;> first | (exact absurd hc Bool.false_ne_true) | skip
            simp [enter, isT, qa, qb, qc, isVar3, ha, hb, hc, truD, atI_2]
    | [], h => simp [enter, isT, isVar]
    | [a], h => simp [enter, isT, isVar]
    | [a, b], h => simp [enter, isT, isVar]
    | a :: b :: c :: e :: r, h =>
      have e1 : ¬ ((r.length : Int) + 1 + 1 + 1 + 1 = 3) := by omega
      simp [enter, isT, isVar, e1]
  | _ => first | (simp [pl] at p; done) | simp [enter, isT, isVar]
/-! ### tests -/
theorem tw2 (m n : Str) (a b : D) : tw [m, n] (.tup [a, b]) = (P m a && P n b) := by simp [tw]
theorem isTst2 (a b : D) : isTst (.tup [a, b]) = (areInts a && isInt b) := by cases a <;> cases b <;> simp [isTst, areInts, isInt]
theorem test_ok {d : D} {S : Store} (h : Gd d) : f_is_test (f_is_tuple_with tS) [.d d] S = .ok (.d (.bl (isTst d))) S := by
  have q := tuple_with_ok h (tabT (S := S) h)
  simp only [List.map_cons, List.map_nil] at q
  unfold f_is_test b_is_test
  have e : tw ["are_integers", "is_integer"] d = isTst d := by
    cases d with
    | tup ds =>
      match ds with
      | [a, b] => rw [tw2, isTst2, P_I, P_i]
      | [] => rw [tw_len (by decide)]; simp [isTst]
      | [a] => rw [tw_len (by simp)]; simp [isTst]
      | a :: b :: c :: r => rw [tw_len (by simp)]; simp [isTst]
    | _ => rfl
  rw [e] at q
  simp [enter, sizeLine_eq, q]
theorem ltest_ok {d : D} {S : Store} (h : Gd d) : f__law_is_test f__law_integer [.d d] S = .ok (.d (.bl (isTst d))) S := by
  have p := h.p
  unfold f__law_is_test b__law_is_test
  cases d with
  | tup ds =>
    match ds, h with
    | [a, b], h =>
      have ga := (h.mem (show a ∈ [a, b] by simp)).1
      have gb := (h.mem (show b ∈ [a, b] by simp)).1
      cases a with
      | tup es =>
        have all : ∀ y ∈ es ++ [b], Gd y := fun y hy => (List.mem_append.mp hy).elim (fun z => (ga.mem z).1) fun z => by rw [List.mem_singleton.mp z]; exact gb
        have q : lcD (.nm 1) (mNotT (mTru (mFn f__law_integer (mCons (mVar 1) mNil)))) (mVar 1) (wipeD [1] [some (.d (.tup [.tup es, b])), none]) (es ++ [b]) S = .ok (((es ++ [b]).filter fun y => !isInt y).map id) S := by
          refine lcD_pure _ fun y hy => ⟨[some (.d (.tup [.tup es, b])), some (.d y)], rfl, ?_, fun _ => by simp⟩
          simp [linteger_ok (all y hy), truD]
        have z1 : plL C0 ((es ++ [b]).filter fun y => !isInt y) = true := plL_iff.mpr fun y hy => (all y (List.mem_filter.mp hy).1).p
        have z2 : dpL ((es ++ [b]).filter fun y => !isInt y) ≤ 63 := dpL_le.mpr fun y hy => by have := (all y (List.mem_filter.mp hy).1).d; omega
        have z3 : ((es ++ [b]).filter fun y => !isInt y).isEmpty = (es.all isInt && isInt b) := by
          rw [Bool.eq_iff_iff, List.isEmpty_iff, List.filter_eq_nil_iff]
          simp only [Bool.and_eq_true, List.all_eq_true, Bool.not_eq_true', Bool.not_eq_false, List.mem_append, List.mem_singleton]
          exact ⟨fun z => ⟨fun y hy => z y (.inl hy), z b (.inr rfl)⟩, fun z y hy => hy.elim (z.1 y) fun e => by rw [e]; exact z.2⟩
        have z4 := h.s
        simp only [sz, szL] at z4
        have z5 := szL_len es
        have z6 : es.length + 1 ≤ sizeLine := by rw [sizeLine_eq]; omega
        have e1 := cutD_from [D.tup es, b] (p := 1) (by decide)
        simp only [Int.toNat_one, List.drop_succ_cons, List.drop_zero] at e1
        simp only [List.map_id] at q
        have z7 := dEq_lst_nil C0_le z1 z2
        rw [z3] at z7
        simp [enter, isT, e1, z6, seqD]
        rw [q]
        simp [z7, isTst2, areInts, -List.filter_append]
      | _ => first | (have p2 := ga.p; simp [pl] at p2; done) | simp [enter, isT, isTst2, areInts]
    | [], h => simp [enter, isT, isTst]
    | [a], h => simp [enter, isT, isTst]
    | a :: b :: c :: r, h =>
      have e1 : ¬ ((r.length : Int) + 1 + 1 + 1 = 2) := by omega
      simp [enter, isT, isTst, e1]
  | _ => first | (simp [pl] at p; done) | simp [enter, isT, isTst]
end W

set_option Elab.async false
set_option linter.all false
set_option maxRecDepth 100000
set_option maxHeartbeats 4000000
/-! M01d: the law's expressions -/
namespace W
open DL PySem L2 PyProof.Rows
def szKV : List (Key × D) := [(.inr "not", .int 1), (.inr "neg", .int 1), (.inr "if", .int 3), (.inr "+", .int 2), (.inr "-", .int 2), (.inr "*", .int 2), (.inr "div", .int 2), (.inr "mod", .int 2), (.inr "least", .int 2), (.inr "most", .int 2), (.inr "=", .int 2), (.inr "<", .int 2), (.inr "<=", .int 2), (.inr "and", .int 2), (.inr "or", .int 2)]
theorem sizes_ok (S : Store) : f__law_sizes [] S = .ok (.d (.dct szKV)) S := by
  unfold f__law_sizes b__law_sizes
  simp [enter, forD_cons, trimE, trimU, putD, sizeLine_eq, exitM, szKV]
theorem val_sz (w : Str) : valD szKV (.inr w) = (arity w).map fun n => .int (n : Nat) := by
  by_cases h0 : ("not" : Str) = w
  · subst h0; simp [valD, szKV, arity, SZ]
  by_cases h1 : ("neg" : Str) = w
  · subst h1; simp [valD, szKV, arity, SZ]
  by_cases h2 : ("+" : Str) = w
  · subst h2; simp [valD, szKV, arity, SZ]
  by_cases h3 : ("-" : Str) = w
  · subst h3; simp [valD, szKV, arity, SZ]
  by_cases h4 : ("*" : Str) = w
  · subst h4; simp [valD, szKV, arity, SZ]
  by_cases h5 : ("div" : Str) = w
  · subst h5; simp [valD, szKV, arity, SZ]
  by_cases h6 : ("mod" : Str) = w
  · subst h6; simp [valD, szKV, arity, SZ]
  by_cases h7 : ("least" : Str) = w
  · subst h7; simp [valD, szKV, arity, SZ]
  by_cases h8 : ("most" : Str) = w
  · subst h8; simp [valD, szKV, arity, SZ]
  by_cases h9 : ("=" : Str) = w
  · subst h9; simp [valD, szKV, arity, SZ]
  by_cases h10 : ("<" : Str) = w
  · subst h10; simp [valD, szKV, arity, SZ]
  by_cases h11 : ("<=" : Str) = w
  · subst h11; simp [valD, szKV, arity, SZ]
  by_cases h12 : ("and" : Str) = w
  · subst h12; simp [valD, szKV, arity, SZ]
  by_cases h13 : ("or" : Str) = w
  · subst h13; simp [valD, szKV, arity, SZ]
  by_cases h14 : ("if" : Str) = w
  · subst h14; simp [valD, szKV, arity, SZ]
  simp [valD, szKV, arity, SZ, h0, h1, h2, h3, h4, h5, h6, h7, h8, h9, h10, h11, h12, h13, h14]
def gL : Nat → Fn
  | 0 => fun _ _ => .stuck
  | n + 1 => f__law_is_expression f__law_integer f__law_is_name f__law_sizes (gL n)
theorem filter_none {p : D → Bool} {ds : List D} : (ds.filter fun y => !p y).isEmpty = ds.all p := by
  rw [Bool.eq_iff_iff, List.isEmpty_iff, List.filter_eq_nil_iff]
  simp
theorem lexpr_ok : ∀ (n : Nat) {d : D} {S : Store}, Gd d → dp d < n → gL n [.d d] S = .ok (.d (.bl (isExpr d))) S
  | 0, _, _, _, h => absurd h (Nat.not_lt_zero _)
  | n + 1, d, S, h, hd => by
    show f__law_is_expression f__law_integer f__law_is_name f__law_sizes (gL n) [.d d] S = _
    unfold f__law_is_expression b__law_is_expression
    cases d with
    | tup ds =>
      have e0 := dEq_tup_nil C0_le h.pls (by have := h.dps; omega)
      cases ds with
      | nil => simp [enter, isT, e0, isExpr, isExprT, truD]
      | cons w ps =>
        have hw := (h.mem (List.mem_cons_self ..)).1.p
        cases w with
        | str w =>
          have ht := h.tail
          have all : ∀ y ∈ ps, Gd y ∧ dp y < n := fun y hy => by
            obtain ⟨g1, g2⟩ := ht.mem hy
            have := dp_tail (w := .str w) (ps := ps)
            exact ⟨g1, by omega⟩
          have e1 := cutD_from (.str w :: ps) (p := 1) (by decide)
          simp only [Int.toNat_one, List.drop_succ_cons, List.drop_zero] at e1
          cases ha : arity w with
          | none =>
            have en : ¬ ((ps.length : Int) + 1 = 0) := by omega
            simp [enter, isT, e0, isExpr, isExprT, truD, sizes_ok, val_sz, ha, en]
          | some k =>
            by_cases hk : ps.length = k
            · have hk' : (ps.length : Int) = k := by omega
              have q : lcD (.nm 1) (mNotT (mTru (mFn (gL n) (mCons (mVar 1) mNil)))) (mVar 1) (wipeD [1] [some (.d (.tup (.str w :: ps))), none]) ps S = .ok ((ps.filter fun y => !isExpr y).map id) S := by
                refine lcD_pure _ fun y hy => ⟨[some (.d (.tup (.str w :: ps))), some (.d y)], rfl, ?_, fun _ => by simp⟩
                simp [lexpr_ok n (all y hy).1 (all y hy).2, truD]
              have z1 : plL C0 (ps.filter fun y => !isExpr y) = true := plL_iff.mpr fun y hy => (all y (List.mem_filter.mp hy).1).1.p
              have z2 : dpL (ps.filter fun y => !isExpr y) ≤ 63 := dpL_le.mpr fun y hy => by have := (all y (List.mem_filter.mp hy).1).1.d; omega
              have z7 := dEq_lst_nil C0_le z1 z2
              rw [filter_none] at z7
              have z6 := ht.lens
              simp only [List.map_id] at q
              simp [enter, isT, e0, isExpr, isExprT, truD, sizes_ok, val_sz, ha, hk', e1, seqD, z6]
              rw [q]
              simp [z7, hk, isExprL_all]
            · have hk' : ¬ (ps.length : Int) = k := by omega
              simp [enter, isT, e0, isExpr, isExprT, truD, sizes_ok, val_sz, ha, hk', hk]
        | _ => first | (simp [pl] at hw; done) | simp [enter, isT, e0, isExpr, isExprT, truD]
    | str x =>
      by_cases hn : nameS x = true
      · simp [enter, isT, linteger_ok h, lname_ok h, isInt, isNam, isExpr, truD, hn]
      · simp [enter, isT, linteger_ok h, lname_ok h, isInt, isNam, isExpr, truD, hn]
    | _ => first | (have p := h.p; simp [pl] at p; done) | simp [enter, isT, linteger_ok h, lname_ok h, isInt, isNam, isExpr, truD]
end W

set_option Elab.async false
set_option linter.all false
set_option maxRecDepth 100000
set_option maxHeartbeats 4000000
/-! M01e: rows, both sides -/
namespace W
open DL PySem L2 PyProof.Rows
theorem asVs_strs : ∀ L : List Str, asVs (L.map D.str) = some (L.map V.str)
  | [] => rfl
  | x :: r => by
    show (match DL.asV (.str x), DL.asVs (r.map D.str) with | some v, some vs => some (v :: vs) | _, _ => none) = _
    rw [asVs_strs r]; rfl
theorem eqV_s (x y : Str) : eqV (V.str x) (V.str y) = decide (x = y) := by
  show _ = _
  unfold eqV
  first | rfl | simp
theorem inV_strs (x : Str) (L : List Str) : inV (.str x) (L.map V.str) = decide (x ∈ L) := by
  unfold inV
  rw [List.any_map, Bool.eq_iff_iff, List.any_eq_true]
  simp only [Function.comp, eqV_s, decide_eq_true_eq]
  exact ⟨fun ⟨y, h, e⟩ => e ▸ h, fun h => ⟨x, h, rfl⟩⟩
theorem dIn_t (x : Str) (L : List Str) : dIn (.str x) (.tup (L.map D.str)) = some (.bl (decide (x ∈ L))) := by
  show (match DL.asV (.str x), DL.asVs (L.map D.str) with | some v, some vs => some (inV v vs) | _, _ => none).map D.bl = _
  rw [asVs_strs, ← inV_strs]; rfl
theorem dNotIn_t (x : Str) (L : List Str) : dNotIn (.str x) (.tup (L.map D.str)) = some (.bl (!decide (x ∈ L))) := by
  show (match DL.asV (.str x), DL.asVs (L.map D.str) with | some v, some vs => some (inV v vs) | _, _ => none).map (fun b => D.bl (!b)) = _
  rw [asVs_strs, ← inV_strs]; rfl
theorem dNotIn_l (x : Str) (L : List Str) : dNotIn (.str x) (.lst (L.map D.str)) = some (.bl (!decide (x ∈ L))) := by
  show (match DL.asV (.str x), DL.asVs (L.map D.str) with | some v, some vs => some (inV v vs) | _, _ => none).map (fun b => D.bl (!b)) = _
  rw [asVs_strs, ← inV_strs]; rfl
def RS : List (Str × List Str) := [("set", ["is_name", "is_expression"]), ("if", ["is_expression"]), ("else", []), ("while", ["is_expression"]), ("end", []), ("call", ["is_name", "is_name", "are_expressions"]), ("return", ["is_expression"])]
def rowS (w : Str) : Option (List Str) := (RS.find? fun kv => decide (kv.1 = w)).map (·.2)
def rowT (w : Str) (ps : List D) : Bool := match rowS w with
  | some ns => tw ns (.tup ps)
  | none => false
def isRw : D → Bool
  | .tup (.str w :: ps) => rowT w ps
  | _ => false
theorem tabRow_look (z : Str) : lookT tab_ROW_SHAPES z = (rowS z).map fun ns => .tup (ns.map .fn) := by
  have e : tab_ROW_SHAPES = RS.map fun p => (p.1, D.tup (p.2.map .fn)) := rfl
  unfold lookT rowS
  rw [e, List.find?_map]
  simp only [Option.map_map, Function.comp_def]
theorem rowS_names {w : Str} {ns : List Str} (h : rowS w = some ns) : ∀ m ∈ ns, m = "is_expression" ∨ m = "is_name" ∨ m = "are_expressions" := by
  obtain ⟨kv, h1, rfl⟩ := Option.map_eq_some_iff.mp h
  have h2 := List.mem_of_find?_eq_some h1
  simp only [RS, List.mem_cons, List.not_mem_nil, or_false] at h2
  intro m hm
  rcases h2 with rfl | rfl | rfl | rfl | rfl | rfl | rfl
  · simp at hm; rcases hm with rfl | rfl <;> simp
  · simp at hm; simp [hm]
  · simp at hm
  · simp at hm; simp [hm]
  · simp at hm
  · simp at hm; rcases hm with rfl | rfl <;> simp
  · simp at hm; simp [hm]
theorem row_ok {n : Nat} {d : D} {S : Store} (h : Gd d) (hd : dp d < n + 1) : f_is_row f_is_worded (f_is_tuple_with (tR (gE n))) [.d d] S = .ok (.d (.bl (isRw d))) S := by
  have qw := worded_ok (S := S) h
  unfold f_is_row b_is_row
  cases d with
  | tup ds =>
    cases ds with
    | nil => simp only [isWd] at qw; simp [enter, qw, isRw]
    | cons w ps =>
      cases w with
      | str w =>
        have ht := h.tail
        have e1 := cutD_from (.str w :: ps) (p := 1) (by decide)
        simp only [Int.toNat_one, List.drop_succ_cons, List.drop_zero] at e1
        simp only [isWd] at qw
        cases hr : rowS w with
        | none => simp [enter, qw, isRw, rowT, tabRow_look, hr]
        | some ns =>
          have q := tuple_with_ok ht (tabR n ns (rowS_names hr) (S := S) ht (by have := dp_tail (w := .str w) (ps := ps); omega))
          simp [enter, qw, isRw, rowT, tabRow_look, hr, e1, q]
      | _ => simp only [isWd] at qw; simp [enter, qw, isRw]
  | _ => simp only [isWd] at qw; simp [enter, qw, isRw]
theorem rowT_1 {w : Str} {ps : List D} {m : Str} (h : rowS w = some [m]) : rowT w ps = (match ps with | [e] => P m e | _ => false) := by
  unfold rowT
  rw [h]
  match ps with
  | [e] => simp [tw]
  | [] => simp [tw]
  | a :: b :: r => simp [tw]
theorem rowT_2 {w : Str} {ps : List D} {m k : Str} (h : rowS w = some [m, k]) : rowT w ps = (match ps with | [a, b] => P m a && P k b | _ => false) := by
  unfold rowT
  rw [h]
  match ps with
  | [a, b] => simp [tw]
  | [] => simp [tw]
  | [a] => simp [tw]
  | a :: b :: c :: r => simp [tw]
theorem rowT_3 {w : Str} {ps : List D} {m k l : Str} (h : rowS w = some [m, k, l]) : rowT w ps = (match ps with | [a, b, c] => P m a && P k b && P l c | _ => false) := by
  unfold rowT
  rw [h]
  match ps with
  | [a, b, c] => simp [tw, Bool.and_assoc]
  | [] => simp [tw]
  | [a] => simp [tw]
  | [a, b] => simp [tw]
  | a :: b :: c :: d :: r => simp [tw]
theorem rowT_0 {w : Str} {ps : List D} (h : rowS w = some []) : rowT w ps = ps.isEmpty := by
  unfold rowT
  rw [h]
  cases ps <;> simp [tw]
theorem i1 (w : Str) : dIn (.str w) (.tup [.str "else", .str "end"]) = some (.bl (decide (w ∈ ([Str.ofString "else", Str.ofString "end"])))) := dIn_t w ["else", "end"]
theorem i2 (w : Str) : dIn (.str w) (.tup [.str "if", .str "while", .str "return"]) = some (.bl (decide (w ∈ [Str.ofString "if", Str.ofString "while", Str.ofString "return"]))) := dIn_t w ["if", "while", "return"]
theorem lrow_ok {n : Nat} {d : D} {S : Store} (h : Gd d) (hd : dp d < n + 1) : f__law_is_row (gL n) f__law_is_name [.d d] S = .ok (.d (.bl (isRw d))) S := by
  have p := h.p
  unfold f__law_is_row b__law_is_row
  cases d with
  | tup ds =>
    have e0 := dEq_tup_nil C0_le h.pls (by have := h.dps; omega)
    cases ds with
    | nil => simp [enter, isT, e0, isRw, truD]
    | cons w ps =>
      have hw := (h.mem (List.mem_cons_self ..)).1.p
      cases w with
      | str w =>
        have mem : ∀ y ∈ ps, Gd y ∧ dp y < n := fun y hy => by
          obtain ⟨g1, g2⟩ := h.mem (List.mem_cons_of_mem _ hy)
          exact ⟨g1, by omega⟩
        have ex : ∀ y ∈ ps, gL n [.d y] S = .ok (.d (.bl (isExpr y))) S := fun y hy => lexpr_ok n (mem y hy).1 (mem y hy).2
        have nm : ∀ y ∈ ps, f__law_is_name [.d y] S = .ok (.d (.bl (isNam y))) S := fun y hy => lname_ok (mem y hy).1
        by_cases h0 : w = "else"
        · subst h0
          have hr : rowS "else" = some ([] : List Str) := by decide +kernel
          cases ps with
          | nil => simp [i1, i2, sizeLine_eq, enter, isT, e0, truD, isRw, rowT_0 hr]
          | cons a r =>
            have l : ¬ ((r.length : Int) + 1 + 1 = 1) := by omega
            simp [i1, i2, sizeLine_eq, enter, isT, e0, truD, isRw, rowT_0 hr, l]
        by_cases h1 : w = "end"
        · subst h1
          have hr : rowS "end" = some ([] : List Str) := by decide +kernel
          cases ps with
          | nil => simp [i1, i2, sizeLine_eq, enter, isT, e0, truD, isRw, rowT_0 hr]
          | cons a r =>
            have l : ¬ ((r.length : Int) + 1 + 1 = 1) := by omega
            simp [i1, i2, sizeLine_eq, enter, isT, e0, truD, isRw, rowT_0 hr, l]
        by_cases h2 : w = "if"
        · subst h2
          have hr : rowS "if" = some (["is_expression"] : List Str) := by decide +kernel
          match ps, ex, e0 with
          | [], ex, e0 => simp [i1, i2, sizeLine_eq, enter, isT, e0, truD, isRw, rowT_1 hr]
          | [e], ex, e0 => have := ex e (by simp); simp [i1, i2, sizeLine_eq, enter, isT, e0, truD, isRw, rowT_1 hr, this]
          | a :: b :: r, ex, e0 =>
            have l : ¬ ((r.length : Int) + 1 + 1 + 1 = 2) := by omega
            simp [i1, i2, sizeLine_eq, enter, isT, e0, truD, isRw, rowT_1 hr, l]
        by_cases h3 : w = "while"
        · subst h3
          have hr : rowS "while" = some (["is_expression"] : List Str) := by decide +kernel
          match ps, ex, e0 with
          | [], ex, e0 => simp [i1, i2, sizeLine_eq, enter, isT, e0, truD, isRw, rowT_1 hr]
          | [e], ex, e0 => have := ex e (by simp); simp [i1, i2, sizeLine_eq, enter, isT, e0, truD, isRw, rowT_1 hr, this]
          | a :: b :: r, ex, e0 =>
            have l : ¬ ((r.length : Int) + 1 + 1 + 1 = 2) := by omega
            simp [i1, i2, sizeLine_eq, enter, isT, e0, truD, isRw, rowT_1 hr, l]
        by_cases h4 : w = "return"
        · subst h4
          have hr : rowS "return" = some (["is_expression"] : List Str) := by decide +kernel
          match ps, ex, e0 with
          | [], ex, e0 => simp [i1, i2, sizeLine_eq, enter, isT, e0, truD, isRw, rowT_1 hr]
          | [e], ex, e0 => have := ex e (by simp); simp [i1, i2, sizeLine_eq, enter, isT, e0, truD, isRw, rowT_1 hr, this]
          | a :: b :: r, ex, e0 =>
            have l : ¬ ((r.length : Int) + 1 + 1 + 1 = 2) := by omega
            simp [i1, i2, sizeLine_eq, enter, isT, e0, truD, isRw, rowT_1 hr, l]
        by_cases h5 : w = "set"
        · subst h5
          have hr : rowS "set" = some (["is_name", "is_expression"] : List Str) := by decide +kernel
          match ps, ex, nm, e0 with
          | [], ex, nm, e0 => simp [i1, i2, sizeLine_eq, enter, isT, e0, truD, isRw, rowT_2 hr]
          | [a], ex, nm, e0 => simp [i1, i2, sizeLine_eq, enter, isT, e0, truD, isRw, rowT_2 hr]
          | [a, b], ex, nm, e0 =>
            have q1 := nm a (by simp)
            have q2 := ex b (by simp)
            cases ha : isNam a <;> rw [ha] at q1 <;> simp [i1, i2, sizeLine_eq, enter, isT, e0, truD, isRw, rowT_2 hr, q1, q2, ha, atI_2]
          | a :: b :: c :: r, ex, nm, e0 =>
            have l : ¬ ((r.length : Int) + 1 + 1 + 1 + 1 = 3) := by omega
            simp [i1, i2, sizeLine_eq, enter, isT, e0, truD, isRw, rowT_2 hr, l]
        by_cases h6 : w = "call"
        · subst h6
          have hr : rowS "call" = some (["is_name", "is_name", "are_expressions"] : List Str) := by decide +kernel
          match ps, ex, nm, e0, mem with
          | [], ex, nm, e0, mem => simp [i1, i2, sizeLine_eq, enter, isT, e0, truD, isRw, rowT_3 hr]
          | [a], ex, nm, e0, mem => simp [i1, i2, sizeLine_eq, enter, isT, e0, truD, isRw, rowT_3 hr]
          | [a, b], ex, nm, e0, mem => simp [i1, i2, sizeLine_eq, enter, isT, e0, truD, isRw, rowT_3 hr]
          | [a, b, c], ex, nm, e0, mem =>
            have q1 := nm a (by simp)
            have q2 := nm b (by simp)
            cases ha : isNam a with
            | false => rw [ha] at q1; simp [i1, i2, sizeLine_eq, enter, isT, e0, truD, isRw, rowT_3 hr, q1, ha]
            | true =>
              rw [ha] at q1
              cases hb : isNam b with
              | false => rw [hb] at q2; simp [i1, i2, sizeLine_eq, enter, isT, e0, truD, isRw, rowT_3 hr, q1, q2, ha, hb, atI_2]
              | true =>
                rw [hb] at q2
                obtain ⟨gc, dc⟩ := mem c (by simp)
                cases c with
                | tup es =>
                  have all : ∀ y ∈ es, Gd y ∧ dp y < n := fun y hy => by
                    obtain ⟨g1, g2⟩ := gc.mem hy
                    exact ⟨g1, by omega⟩
                  have q : lcD (.nm 1) (mNotT (mTru (mFn (gL n) (mCons (mVar 1) mNil)))) (mVar 1) (wipeD [1] [some (.d (.tup [.str "call", a, b, .tup es])), none]) es S = .ok ((es.filter fun y => !isExpr y).map id) S := by
                    refine lcD_pure _ fun y hy => ⟨[some (.d (.tup [.str "call", a, b, .tup es])), some (.d y)], rfl, ?_, fun _ => by simp⟩
                    simp [lexpr_ok n (all y hy).1 (all y hy).2, truD]
                  have z1 : plL C0 (es.filter fun y => !isExpr y) = true := plL_iff.mpr fun y hy => (all y (List.mem_filter.mp hy).1).1.p
                  have z2 : dpL (es.filter fun y => !isExpr y) ≤ 63 := dpL_le.mpr fun y hy => by have := (all y (List.mem_filter.mp hy).1).1.d; omega
                  have z7 := dEq_lst_nil C0_le z1 z2
                  rw [filter_none] at z7
                  have z6 := gc.lens
                  rw [sizeLine_eq] at z6
                  simp only [List.map_id] at q
                  simp [i1, i2, sizeLine_eq, enter, isT, e0, truD, isRw, rowT_3 hr, q1, q2, ha, hb, atI_2, atI_3, seqD, z6, areExprs]
                  rw [q]
                  simp [z7]
                | _ => first | (have pc := gc.p; simp [pl] at pc; done) | simp [i1, i2, sizeLine_eq, enter, isT, e0, truD, isRw, rowT_3 hr, q1, q2, ha, hb, atI_2, atI_3, areExprs]
          | a :: b :: c :: d :: r, ex, nm, e0, mem =>
            have l : ¬ ((r.length : Int) + 1 + 1 + 1 + 1 + 1 = 4) := by omega
            simp [i1, i2, sizeLine_eq, enter, isT, e0, truD, isRw, rowT_3 hr, l]
        have hr : rowS w = none := by
          unfold rowS RS
          simp [Ne.symm h0, Ne.symm h1, Ne.symm h2, Ne.symm h3, Ne.symm h4, Ne.symm h5, Ne.symm h6]
        simp [i1, i2, sizeLine_eq, enter, isT, e0, truD, isRw, rowT, hr, h0, h1, h2, h3, h4, h5, h6]
      | _ => first | (simp [pl] at hw; done) | simp [enter, isT, e0, isRw, truD]
  | _ => first | (simp [pl] at p; done) | simp [enter, isT, isRw, truD]
end W

set_option Elab.async false
set_option linter.all false
set_option maxRecDepth 100000
set_option maxHeartbeats 4000000
/-! M01f: the names of an expression; fits -/
namespace DL
theorem lcD2_pure {t : Tg} {mt : MT} {mi1 : MI} {t1 : Tg} {mt1 : MT} {me : ME} {vs1 : List Nat} {δ : DEnv} {S : Store} {f : D → List D} : ∀ ds : List D, (∀ d ∈ ds, ∃ δ1 es, t.apply (.d d) δ = some δ1 ∧ mt δ1 S = .ok true S ∧ mi1 δ1 S = .ok es S ∧ lcD t1 mt1 me (wipeD vs1 δ1) es S = .ok (f d) S) →
    lcD2 t mt mi1 t1 mt1 me vs1 δ ds S = .ok (ds.flatMap f) S
  | [], _ => rfl
  | d :: ds, h => by
    obtain ⟨δ1, es, h1, h2, h3, h4⟩ := h d (List.mem_cons_self ..)
    have ih := lcD2_pure (mi1 := mi1) (f := f) ds fun e he => h e (List.mem_cons_of_mem _ he)
    unfold lcD2
    simp only [h1, h2, h3, h4, Res.calm_ok, Res.ok_bind, if_true, ih, List.flatMap_cons]
end DL
namespace W
open DL PySem L2 PyProof.Rows
mutual
def nms : D → List Str
  | .str x => [x]
  | .tup ds => nmsT ds
  | .int _ => []
  | .non => []
  | .bl _ => []
  | .lst _ => []
  | .dct _ => []
  | .fl _ => []
  | .ref _ => []
  | .fn _ => []
def nmsT : List D → List Str
  | [] => []
  | _ :: ps => nmsL ps
def nmsL : List D → List Str
  | [] => []
  | d :: r => nms d ++ nmsL r
end
theorem nmsL_flat : ∀ ds : List D, nmsL ds = ds.flatMap nms
  | [] => rfl
  | d :: r => by rw [nmsL, List.flatMap_cons, nmsL_flat r]
mutual
theorem nms_len : ∀ d : D, (nms d).length ≤ sz d
  | .str x => by simp only [nms, sz, List.length_singleton]; omega
  | .tup ds => by
    simp only [nms, sz]
    have := nmsT_len ds
    omega
  | .int _ => by simp [nms]
  | .non => by simp [nms]
  | .bl _ => by simp [nms]
  | .lst _ => by simp [nms]
  | .dct _ => by simp [nms]
  | .fl _ => by simp [nms]
  | .ref _ => by simp [nms]
  | .fn _ => by simp [nms]
theorem nmsT_len : ∀ ds : List D, (nmsT ds).length ≤ szL ds
  | [] => by simp [nmsT]
  | d :: r => by
    simp only [nmsT, szL]
    have := nmsL_len r
    omega
theorem nmsL_len : ∀ ds : List D, (nmsL ds).length ≤ szL ds
  | [] => by simp [nmsL]
  | d :: r => by
    simp only [nmsL, szL, List.length_append]
    have := nms_len d
    have := nmsL_len r
    omega
end
mutual
theorem nms_pl {c : Nat} : ∀ {d : D}, pl c d = true → ∀ x ∈ nms d, pl c (.str x) = true
  | .str x, h => fun y hy => by simp only [nms, List.mem_singleton] at hy; rw [hy]; exact h
  | .tup ds, h => by simp only [pl] at h; simp only [nms]; exact nmsT_pl h
  | .int _, _ => fun y hy => by simp [nms] at hy
  | .non, _ => fun y hy => by simp [nms] at hy
  | .bl _, _ => fun y hy => by simp [nms] at hy
  | .lst _, _ => fun y hy => by simp [nms] at hy
  | .dct _, _ => fun y hy => by simp [nms] at hy
  | .fl _, _ => fun y hy => by simp [nms] at hy
  | .ref _, _ => fun y hy => by simp [nms] at hy
  | .fn _, _ => fun y hy => by simp [nms] at hy
theorem nmsT_pl {c : Nat} : ∀ {ds : List D}, plL c ds = true → ∀ x ∈ nmsT ds, pl c (.str x) = true
  | [], _ => fun y hy => by simp [nmsT] at hy
  | d :: r, h => by
    rw [plL, Bool.and_eq_true] at h
    simp only [nmsT]
    exact nmsL_pl h.2
theorem nmsL_pl {c : Nat} : ∀ {ds : List D}, plL c ds = true → ∀ x ∈ nmsL ds, pl c (.str x) = true
  | [], _ => fun y hy => by simp [nmsL] at hy
  | d :: r, h => fun y hy => by
    rw [plL, Bool.and_eq_true] at h
    simp only [nmsL, List.mem_append] at hy
    exact hy.elim (nms_pl h.1 y) (nmsL_pl h.2 y)
end
theorem expr_tup {w : D} {ps : List D} (h : isExpr (.tup (w :: ps)) = true) : ∀ y ∈ ps, isExpr y = true := by
  simp only [isExpr, isExprT, Bool.and_eq_true, isExprL_all, List.all_eq_true] at h
  exact h.2
theorem flatMap_str (ps : List D) : (ps.flatMap fun y => (nms y).map D.str) = (ps.flatMap nms).map D.str := by rw [List.map_flatMap]
theorem lc_id {δ : DEnv} {S : Store} {t : Tg} {i : Nat} (ds : List D) (h : ∀ d ∈ ds, ∃ δ1, t.apply (.d d) δ = some δ1 ∧ mVar i δ1 S = .ok (.d d) S) : lcD t mYes (mVar i) δ ds S = .ok ds S := by
  have := lcD_pure (t := t) (mt := mYes) (me := mVar i) (δ := δ) (S := S) (c := fun _ => true) (f := id) ds fun d hd => by
    obtain ⟨δ1, h1, h2⟩ := h d hd
    exact ⟨δ1, h1, rfl, fun _ => h2⟩
  rw [this]
  have ft : ds.filter (fun _ => true) = ds := List.filter_eq_self.mpr fun _ _ => rfl
  rw [ft, List.map_id]
def gNm : Nat → Fn
  | 0 => fun _ _ => .stuck
  | n + 1 => f_names_in f_is_integer (gNm n)
theorem names_ok : ∀ (n : Nat) {d : D} {S : Store}, Gd d → isExpr d = true → dp d < n → gNm n [.d d] S = .ok (.d (.lst ((nms d).map D.str))) S
  | 0, _, _, _, _, h => absurd h (Nat.not_lt_zero _)
  | n + 1, d, S, h, he, hd => by
    show f_names_in f_is_integer (gNm n) [.d d] S = _
    have qi := integer_ok (S := S) h
    unfold f_names_in b_names_in
    cases d with
    | int i => simp only [isInt] at qi; simp [enter, qi, truD, nms, sizeLine_eq]
    | str x => simp only [isInt] at qi; simp [enter, qi, truD, nms, isT, sizeLine_eq]
    | tup ds =>
      simp only [isInt] at qi
      cases ds with
      | nil => simp [isExpr, isExprT] at he
      | cons w ps =>
        have ex := expr_tup he
        have all : ∀ y ∈ ps, Gd y ∧ dp y < n := fun y hy => by
          obtain ⟨g1, g2⟩ := h.mem (List.mem_cons_of_mem _ hy)
          exact ⟨g1, by omega⟩
        have e1 := cutD_from (w :: ps) (p := 1) (by decide)
        simp only [Int.toNat_one, List.drop_succ_cons, List.drop_zero] at e1
        have q : lcD2 (.nm 1) mYes (mSeqI (mFn (gNm n) (mCons (mVar 1) mNil))) (.nm 2) mYes (mVar 2) [2] (wipeD [1, 2] [some (.d (.tup (w :: ps))), none, none]) ps S = .ok (ps.flatMap fun y => (nms y).map D.str) S := by
          refine lcD2_pure ps fun y hy => ⟨[some (.d (.tup (w :: ps))), some (.d y), none], (nms y).map D.str, rfl, rfl, ?_, ?_⟩
          · have := names_ok n (S := S) (all y hy).1 (ex y hy) (all y hy).2
            simp [this, seqD]
          · exact lc_id _ fun z hz => ⟨[some (.d (.tup (w :: ps))), some (.d y), some (.d z)], rfl, rfl⟩
        have hl : ((ps.flatMap nms).map D.str).length ≤ sizeLine := by
          have h1 := nmsL_len ps
          rw [nmsL_flat] at h1
          have h2 := h.s
          simp only [sz, szL] at h2
          rw [List.length_map, sizeLine_eq]; omega
        rw [flatMap_str] at q
        simp [enter, qi, truD, isT, e1, seqD]
        rw [q]
        simp only [kL2_, finL, if_pos hl]
        simp [nms, nmsT, nmsL_flat]
    | _ => simp [isExpr] at he
/-! ### the law's names -/
theorem lc_names (e : D) (L : List Str) (o2 : Option U) (S : Store) : ∀ M : List Str, lcD (.nm 3) (mTest (m2 dNotIn (mVar 3) (mVar 1))) (mVar 3) [some (.d e), some (.loc S.length), o2, none] (M.map D.str) (S ++ [.lst (L.map D.str)]) = .ok ((M.filter fun x => !decide (x ∈ L)).map D.str) (S ++ [.lst (L.map D.str)])
  | [] => rfl
  | x :: M => by
    have ih := lc_names e L o2 S M
    by_cases h : x ∈ L
    · simp [lcD_cons, dNotIn_l, h, ih]
    · simp [lcD_cons, dNotIn_l, h, ih]
/-- what the law's names_in answers -/
def NamesOk (g : Fn) (d : D) : Prop := ∀ S : Store, ∃ L : List Str, g [.d d] S = .ok (.d (.lst (L.map D.str))) S ∧ (∀ x, x ∈ L ↔ x ∈ nms d) ∧ L.length ≤ (nms d).length
def nBody (g : Fn) : MS := mExpr (mMeth isL aExtend (mVar 1) (mCons (mLc (mSeqI (mFn g (mCons (mVar 2) mNil))) (.nm 3) (mTest (m2 dNotIn (mVar 3) (mVar 1))) (mVar 3) [3]) mNil))
theorem names_loop (g : Fn) (e : D) (S : Store) : ∀ (ps : List D) (L : List Str) (o2 : Option U), (∀ d, o2 = some d → ∃ x, d = .d x) → (∀ p ∈ ps, NamesOk g p) → L.length + (nmsL ps).length ≤ 10000000 →
    ∃ (L' : List Str) (o2' : Option U), forD (.nm 2) (nBody g) (S.length + 1) ps [some (.d e), some (.loc S.length), o2, none] (S ++ [.lst (L.map D.str)]) = .next [some (.d e), some (.loc S.length), o2', none] (S ++ [.lst (L'.map D.str)]) ∧
      (∀ x, x ∈ L' ↔ x ∈ L ∨ x ∈ nmsL ps) ∧ L'.length ≤ L.length + (nmsL ps).length
  | [], L, o2, _, _, _ => ⟨L, o2, rfl, (fun x => by simp [nmsL]), Nat.le_add_right _ _⟩
  | p :: ps, L, o2, ho, hp, hl => by
    simp only [nmsL, List.length_append] at hl
    obtain ⟨M, e1, m1, m2⟩ := hp p (List.mem_cons_self ..) (S ++ [.lst (L.map D.str)])
    have hM : M.length ≤ sizeLine := by rw [sizeLine_eq]; omega
    have fl : (M.filter fun x => !decide (x ∈ L)).length ≤ M.length := List.length_filter_le ..
    have hz : L.length + (M.filter fun x => !decide (x ∈ L)).length ≤ sizeLine := by rw [sizeLine_eq]; omega
    have lc := lc_names e L (some (.d p)) S M
    obtain ⟨L', o2', h1, h2, h4⟩ := names_loop g e S ps (L ++ M.filter fun x => !decide (x ∈ L)) (some (.d p)) (fun d hd => by cases hd; exact ⟨_, rfl⟩) (fun q hq => hp q (List.mem_cons_of_mem _ hq)) (by rw [List.length_append]; omega)
    refine ⟨L', o2', ?_, fun x => ?_, ?_⟩
    · rw [forD_cons]
      rw [← h1, List.map_append]
      simp [nBody, e1, hM, wipeD, lc, hz, trimE, trimU]
    · rw [h2, nmsL]
      simp only [List.mem_append, List.mem_filter, m1, Bool.not_eq_true', decide_eq_false_iff_not]
      by_cases hL : x ∈ L
      · simp [hL]
      · simp [hL]
    · rw [List.length_append] at h4
      simp only [nmsL, List.length_append]
      omega
theorem names_tup (g : Fn) (w : D) (ps : List D) (hp : ∀ p ∈ ps, NamesOk g p) (hl : (nmsL ps).length ≤ 10000000) : NamesOk (f__law_names_in g) (.tup (w :: ps)) := by
  intro S
  obtain ⟨L, o2, h1, h2, h4⟩ := names_loop g (.tup (w :: ps)) S ps [] none (fun _ h => nomatch h) hp (by simpa using hl)
  refine ⟨L, ?_, fun x => by rw [h2]; simp [nms, nmsT], by simpa [nms, nmsT] using h4⟩
  simp only [List.map_nil] at h1
  unfold nBody at h1
  have c := cutD_from (w :: ps) (p := 1) (by decide)
  unfold f__law_names_in b__law_names_in
  simp [enter, isT, c, h1, exitM, trimU]
def gLN : Nat → Fn
  | 0 => fun _ _ => .stuck
  | n + 1 => f__law_names_in (gLN n)
theorem lnames_ok : ∀ (n : Nat) {d : D}, Gd d → isExpr d = true → dp d < n → NamesOk (gLN n) d
  | 0, _, _, _, h => absurd h (Nat.not_lt_zero _)
  | n + 1, d, h, he, hd => by
    show NamesOk (f__law_names_in (gLN n)) d
    cases d with
    | int i => intro S; exact ⟨[], by unfold f__law_names_in b__law_names_in; simp [enter, isT, truD, sizeLine_eq], by simp [nms], Nat.le_refl _⟩
    | str x => intro S; exact ⟨[x], by unfold f__law_names_in b__law_names_in; simp [enter, isT, truD, sizeLine_eq], by simp [nms], Nat.le_refl _⟩
    | tup ds =>
      cases ds with
      | nil => simp [isExpr, isExprT] at he
      | cons w ps =>
        refine names_tup (gLN n) w ps (fun y hy => ?_) ?_
        · obtain ⟨g1, g2⟩ := h.mem (List.mem_cons_of_mem _ hy)
          exact lnames_ok n g1 (expr_tup he y hy) (by omega)
        · have h1 := nmsL_len ps
          have h2 := h.s
          simp only [sz, szL] at h2
          omega
    | _ => simp [isExpr] at he
/-! ### fits -/
def fit (N : List Str) (d : D) : Bool := isExpr d && (nms d).all fun x => decide (x ∈ N)
def nmD (N : List Str) : D := .tup (N.map D.str)
theorem fits_ok {n : Nat} {N : List Str} {d : D} {S : Store} (h : Gd d) (hd : dp d < n) : f_fits (gE n) (gNm n) [.d (nmD N), .d d] S = .ok (.d (.bl (fit N d))) S := by
  have qe := expr_ok n (S := S) h hd
  unfold f_fits b_fits
  cases he : isExpr d with
  | false => rw [he] at qe; simp [enter, qe, fit, he]
  | true =>
    rw [he] at qe
    have qn := names_ok n (S := S) h he hd
    have q : lcD (.nm 2) mYes (m2 dIn (mVar 2) (mVar 0)) (wipeD [2] [some (.d (nmD N)), some (.d d), none]) ((nms d).map D.str) S = .ok ((((nms d).map D.str).filter fun _ => true).map fun y => match y with | .str x => .bl (decide (x ∈ N)) | _ => .non) S := by
      refine lcD_pure _ fun y hy => ?_
      obtain ⟨x, hx, rfl⟩ := List.mem_map.mp hy
      refine ⟨[some (.d (nmD N)), some (.d d), some (.d (.str x))], rfl, rfl, fun _ => ?_⟩
      simp [nmD, dIn_t]
    have ft : ∀ l : List D, l.filter (fun _ => true) = l := fun l => List.filter_eq_self.mpr fun _ _ => rfl
    rw [ft, List.map_map] at q
    have hl : ((nms d).map D.str).length ≤ sizeLine := by
      have h1 := nms_len d
      have h2 := h.s
      rw [List.length_map, sizeLine_eq]; omega
    have e2 : ((nms d).map ((fun y : D => match y with | .str x => D.bl (decide (x ∈ N)) | _ => .non) ∘ D.str)) = (nms d).map fun x => D.bl (decide (x ∈ N)) := rfl
    rw [e2] at q
    rw [List.length_map] at hl
    simp [enter, qe, qn, seqD, hl]
    rw [q]
    simp [dAll, bools_mapD, all_map_id, fit, he]
theorem lfits_ok {n : Nat} {N : List Str} {d : D} {S : Store} (h : Gd d) (hd : dp d < n) : f__law_fits (gL n) (gLN n) [.d (nmD N), .d d] S = .ok (.d (.bl (fit N d))) S := by
  have qe := lexpr_ok n (S := S) h hd
  unfold f__law_fits b__law_fits
  cases he : isExpr d with
  | false => rw [he] at qe; simp [enter, qe, fit, he]
  | true =>
    rw [he] at qe
    obtain ⟨L, qn, hL, hlen⟩ := lnames_ok n h he hd S
    have q : lcD (.nm 2) (mTest (m2 dNotIn (mVar 2) (mVar 0))) (mVar 2) (wipeD [2] [some (.d (nmD N)), some (.d d), none]) (L.map D.str) S = .ok (((L.map D.str).filter fun y => match y with | .str x => !decide (x ∈ N) | _ => true).map id) S := by
      refine lcD_pure _ fun y hy => ?_
      obtain ⟨x, hx, rfl⟩ := List.mem_map.mp hy
      refine ⟨[some (.d (nmD N)), some (.d d), some (.d (.str x))], rfl, ?_, fun _ => rfl⟩
      simp [nmD, dNotIn_t]
    have hl : L.length ≤ sizeLine := by
      have h1 := nms_len d
      have h2 := h.s
      rw [sizeLine_eq]; omega
    have e2 : ((L.map D.str).filter fun y => match y with | .str x => !decide (x ∈ N) | _ => true) = (L.filter fun x => !decide (x ∈ N)).map D.str := by
      rw [List.filter_map]; rfl
    rw [e2, List.map_id] at q
    have z3 : ((L.filter fun x => !decide (x ∈ N)).map D.str).isEmpty = (nms d).all fun x => decide (x ∈ N) := by
      rw [Bool.eq_iff_iff, List.isEmpty_iff, List.map_eq_nil_iff, List.filter_eq_nil_iff, List.all_eq_true]
      simp only [Bool.not_eq_true', Bool.not_eq_false, decide_eq_true_eq, decide_eq_false_iff_not, Decidable.not_not]
      exact ⟨fun z x hx => z x ((hL x).mpr hx), fun z x hx => z x ((hL x).mp hx)⟩
    have asc : ∀ x ∈ nms d, pl C0 (.str x) = true := nms_pl h.p
    have z1 : plL C0 ((L.filter fun x => !decide (x ∈ N)).map D.str) = true := plL_iff.mpr fun y hy => by
      obtain ⟨x, hx, rfl⟩ := List.mem_map.mp hy
      exact asc x ((hL x).mp (List.mem_filter.mp hx).1)
    have z2 : dpL ((L.filter fun x => !decide (x ∈ N)).map D.str) ≤ 63 := dpL_le.mpr fun y hy => by
      obtain ⟨x, hx, rfl⟩ := List.mem_map.mp hy
      simp [dp]
    have z7 := dEq_lst_nil C0_le z1 z2
    rw [z3] at z7
    simp [enter, qe, qn, seqD, hl]
    rw [q]
    simp [z7, fit, he]
end W

set_option Elab.async false
set_option linter.all false
set_option maxRecDepth 100000
set_option maxHeartbeats 4000000
/-! M01g: _law_kinds_right, _law_kept_right -/
namespace W
open DL PySem L2 PyProof.Rows
def gKR (n : Nat) : Fn := f__law_kinds_right (gE n) (f_is_variable (f_has_variable_shape (f_is_tuple_with tV))) f_is_name (f_is_number f_is_integer) f_is_integer (f_is_row f_is_worded (f_is_tuple_with (tR (gE n)))) (f_is_test (f_is_tuple_with tS)) (f__law_is_variable f__law_is_name f__law_integer) f__law_is_name f__law_integer (f__law_is_test f__law_integer) (f__law_is_row (gL n) f__law_is_name) (gL n)
theorem repr_bools (bs : List Bool) (h : bs.length ≤ 100) : ∃ s, dRepr [.lst (bs.map D.bl)] = some (.str s) := by
  refine repr_ok (c := 0) (by decide) ?_ ?_ ?_
  · simp only [pl]; exact plL_iff.mpr fun d hd => by obtain ⟨b, _, rfl⟩ := List.mem_map.mp hd; rfl
  · simp only [sz]
    have := szL_bound (s := 5) (ds := bs.map D.bl) fun d hd => by obtain ⟨b, _, rfl⟩ := List.mem_map.mp hd; simp [sz]
    rw [List.length_map] at this
    rw [sizeLine_eq]; omega
  · simp only [dp]
    have : dpL (bs.map D.bl) ≤ 0 := dpL_le.mpr fun d hd => by obtain ⟨b, _, rfl⟩ := List.mem_map.mp hd; simp [dp]
    omega
theorem dEq_self (s : Str) : dEq (.str s) (.str s) = some (.bl true) := by simp
theorem kinds_right {n : Nat} {d : D} {S : Store} (h : Gd d) (hd : dp d < n) : gKR n [.d d] S = .ok (.d (.bl true)) S := by
  have hS : ∀ S, gE n [.d d] S = .ok (.d (.bl (isExpr d))) S := fun S => expr_ok n h hd
  have hV : ∀ S, f_is_variable (f_has_variable_shape (f_is_tuple_with tV)) [.d d] S = .ok (.d (.bl (isVar d))) S := fun S => var_ok h
  have hN : ∀ S, f_is_name [.d d] S = .ok (.d (.bl (isNam d))) S := fun S => name_ok h
  have hNu : ∀ S, f_is_number f_is_integer [.d d] S = .ok (.d (.bl (isNum d))) S := fun S => number_ok h
  have hI : ∀ S, f_is_integer [.d d] S = .ok (.d (.bl (isInt d))) S := fun S => integer_ok h
  have hR : ∀ S, f_is_row f_is_worded (f_is_tuple_with (tR (gE n))) [.d d] S = .ok (.d (.bl (isRw d))) S := fun S => row_ok h (by omega)
  have hT : ∀ S, f_is_test (f_is_tuple_with tS) [.d d] S = .ok (.d (.bl (isTst d))) S := fun S => test_ok h
  have lV : ∀ S, f__law_is_variable f__law_is_name f__law_integer [.d d] S = .ok (.d (.bl (isVar d))) S := fun S => lvar_ok h
  have lN : ∀ S, f__law_is_name [.d d] S = .ok (.d (.bl (isNam d))) S := fun S => lname_ok h
  have lI : ∀ S, f__law_integer [.d d] S = .ok (.d (.bl (isInt d))) S := fun S => linteger_ok h
  have lT : ∀ S, f__law_is_test f__law_integer [.d d] S = .ok (.d (.bl (isTst d))) S := fun S => ltest_ok h
  have lR : ∀ S, f__law_is_row (gL n) f__law_is_name [.d d] S = .ok (.d (.bl (isRw d))) S := fun S => lrow_ok h (by omega)
  have lE : ∀ S, gL n [.d d] S = .ok (.d (.bl (isExpr d))) S := fun S => lexpr_ok n h hd
  unfold gKR f__law_kinds_right b__law_kinds_right
  obtain ⟨s, hs⟩ := repr_bools [isInt d, isNum d, isNam d, isVar d, isExpr d, isRw d, isTst d] (by simp)
  simp only [List.map_cons, List.map_nil] at hs
  cases d with
  | int i =>
    simp only [isInt, isNum] at *
    simp [enter, hS, hV, hN, hNu, hI, hR, hT, lV, lN, lI, lT, lR, lE, sizeLine_eq, hs, peeks_c]
  | _ =>
    simp only [isInt, isNum] at *
    simp [enter, hS, hV, hN, hNu, hI, hR, hT, lV, lN, lI, lT, lR, lE, sizeLine_eq, hs, peeks_c]
def gKp (n : Nat) : Fn := f__law_kept_right (f_fits (gE n) (gNm n)) (f__law_fits (gL n) (gLN n))
theorem repr_bl (b : Bool) : ∃ s, dRepr [.bl b] = some (.str s) := repr_ok (c := 0) (by decide) rfl (by simp only [sz]; rw [sizeLine_eq]; decide) (by simp [dp])
theorem kept_right {n : Nat} {N : List Str} {d : D} {S : Store} (h : Gd d) (hd : dp d < n) : gKp n [.d (nmD N), .d d] S = .ok (.d (.bl true)) S := by
  have h1 := fits_ok (n := n) (N := N) (S := S) h hd
  have h2 := lfits_ok (n := n) (N := N) (S := S) h hd
  obtain ⟨s, hs⟩ := repr_bl (fit N d)
  unfold gKp f__law_kept_right b__law_kept_right
  simp [enter, h1, h2, hs]
end W

set_option Elab.async false
set_option linter.all false
set_option maxRecDepth 100000
set_option maxHeartbeats 4000000
/-! M01h: the feed -/
namespace DL
open PySem L2 PyProof.Rows
theorem toPyL_ints : ∀ ns : List Int, toPyL (ns.map D.int) = some (ns.map PyData.int)
  | [] => by simp only [List.map_nil, toPyL]
  | n :: r => by simp only [List.map_cons, toPyL, toPy, toPyL_ints r]
theorem depthAll_ints : ∀ ns : List Int, PyData.depthAll (ns.map PyData.int) = 0
  | [] => by simp only [List.map_nil, PyData.depthAll]
  | n :: r => by simp only [List.map_cons, PyData.depthAll, PyData.depth, depthAll_ints r, Nat.max_self]
theorem canLayAll_ints : ∀ ns : List Int, PyData.canLayAll0 (ns.map PyData.int) = true
  | [] => by simp only [List.map_nil, PyData.canLayAll0]
  | n :: r => by simp only [List.map_cons, PyData.canLayAll0, PyData.canLay0, canLayAll_ints r, Bool.and_true]
theorem shaped_ints (ns : List Int) (h : ns.length ≤ sizeLine) : SeqAt.shaped (.list (ns.map PyData.int)) = true := by
  unfold SeqAt.shaped
  simp only [PyData.canLay0, PyData.depth, depthAll_ints, canLayAll_ints, Bool.and_true, List.length_map]
  simp [h]
@[simp] theorem dNe_ints (ns ms : List Int) (h : ns.length ≤ sizeLine) (h' : ms.length ≤ sizeLine) : dNe (.lst (ns.map D.int)) (.lst (ms.map D.int)) = some (.bl (!PyData.eqvAll (ns.map PyData.int) (ms.map PyData.int))) := by
  have e : eqD (.lst (ns.map D.int)) (.lst (ms.map D.int)) = some (PyData.eqvAll (ns.map PyData.int) (ms.map PyData.int)) := by
    show (match toPy (.lst (ns.map D.int)), toPy (.lst (ms.map D.int)) with | some p, some q => if SeqAt.shaped p && SeqAt.shaped q then some (PyData.eqv p q) else none | _, _ => none) = _
    simp only [toPy, toPyL_ints, shaped_ints ns h, shaped_ints ms h', Bool.and_self, if_true, PyData.eqv]
  unfold dNe
  rw [e]; rfl
theorem atI_ints {ns : List Int} {p : Int} (h0 : 0 ≤ p) (h1 : p < ns.length) : ∃ c, atI (ns.map D.int) p = some (.int c) := by
  have l : p.toNat < ns.length := by omega
  refine ⟨ns[p.toNat], ?_⟩
  rw [atI_in h0 (by rw [List.length_map]; exact h1), List.getElem?_map, List.getElem?_eq_getElem l]
  rfl
end DL
namespace W
open DL PySem L2
def feed (ns : List Int) (a l n : Int) : Cell := .dct [(.inr "cells", .lst (ns.map .int)), (.inr "at", .int a), (.inr "left", .int l), (.inr "count", .int n)]
theorem mulOk_fm (x y p : Int) (h : 0 < p) (h' : p ≤ 2 ^ 64) : mulOk (x.fmod p) y = true := by
  have a := Int.fmod_nonneg_of_pos x h
  have b := Int.fmod_lt_of_pos x h
  unfold mulOk
  simp only [Bool.or_eq_true, Bool.and_eq_true, decide_eq_true_eq]
  exact .inl ⟨by omega, by omega⟩
theorem mulOk_lit (x y : Int) (h : -(2 ^ 64) < x) (h' : x < 2 ^ 64) : mulOk x y = true := by
  unfold mulOk
  simp only [Bool.or_eq_true, Bool.and_eq_true, decide_eq_true_eq]
  exact .inl ⟨h, h'⟩
theorem draw_fm (R : Store) (ns : List Int) (a l n m : Int) (hm : 0 < m) (hm2 : m < 1000000) (hn : ns.length ≤ 1000) : ∃ r a' l' n' : Int, f__law_draw [.loc 0, .d (.int m)] (feed ns a l n :: R) = .ok (.d (.int (r.fmod m))) (feed ns a' l' n' :: R) := by
  have m0 : m ≠ 0 := by omega
  have m1 : m.natAbs < 1073741824 := by omega
  have nl : ns.length ≤ sizeLine := by rw [sizeLine_eq]; omega
  have k1 : ∀ y, mulOk 180007 y = true := fun y => mulOk_lit _ _ (by decide) (by decide)
  have k2 : ∀ y, mulOk 3800191 y = true := fun y => mulOk_lit _ _ (by decide) (by decide)
  have k3 : ∀ y, mulOk 83 y = true := fun y => mulOk_lit _ _ (by decide) (by decide)
  have k4 : ∀ x y : Int, mulOk (x.fmod 2147483323) y = true := fun x y => mulOk_fm _ _ _ (by decide) (by decide)
  have k5 : ∀ x y : Int, mulOk (x.fmod 2147483269) y = true := fun x y => mulOk_fm _ _ _ (by decide) (by decide)
  unfold f__law_draw b__law_draw
  by_cases hl : l > 0
  · simp [feed, enter, putD, sizeLine_eq, hl, m0, m1]
    exact ⟨_, rfl⟩
  · by_cases h0 : ns = []
    · subst h0
      have q := dNe_ints [] [] (by decide) (by decide)
      simp only [List.map_nil, PyData.eqvAll] at q
      simp [feed, enter, putD, sizeLine_eq, hl, m0, m1, q, k1, k2, k3, k4, k5]
      exact ⟨_, rfl⟩
    · have lp : (0 : Int) < ns.length := by
        have := List.length_pos_iff.mpr h0
        omega
      obtain ⟨c, hc⟩ := atI_ints (ns := ns) (p := a.fmod ns.length) (Int.fmod_nonneg_of_pos _ lp) (Int.fmod_lt_of_pos _ lp)
      have q := dNe_ints ns [] nl (by decide)
      have q2 : PyData.eqvAll (ns.map PyData.int) (([] : List Int).map PyData.int) = false := by
        cases ns with
        | nil => exact absurd rfl h0
        | cons x r => simp only [List.map_cons, List.map_nil, PyData.eqvAll]
      rw [q2] at q
      simp only [List.map_nil] at q
      by_cases h3 : (10 : Int) ^ 18 ≤ c
      · by_cases h4 : a < ns.length
        · simp at h3
          simp [feed, enter, putD, sizeLine_eq, hl, m0, m1, q, h0, hc, h3, h4]
          exact ⟨_, rfl⟩
        · simp at h3
          simp [feed, enter, putD, sizeLine_eq, hl, m0, m1, q, h0, hc, h3, h4, k1, k2, k3, k4, k5]
          exact ⟨_, rfl⟩
      · simp at h3
        have h3' : ¬ (1000000000000000000 ≤ c) := by omega
        simp [feed, enter, putD, sizeLine_eq, hl, m0, m1, q, h0, hc, h3', k1, k2, k3, k4, k5]
        exact ⟨_, rfl⟩
/-- a cell that is a feed -/
def Fd (c : Cell) : Prop := ∃ (ns : List Int) (a l n : Int), ns.length ≤ 1000 ∧ c = feed ns a l n
theorem draw_ok (R : Store) {c : Cell} (h : Fd c) (m : Int) (hm : 0 < m) (hm2 : m < 1000000) : ∃ (r : Int) (c' : Cell), f__law_draw [.loc 0, .d (.int m)] (c :: R) = .ok (.d (.int r)) (c' :: R) ∧ Fd c' ∧ 0 ≤ r ∧ r < m := by
  obtain ⟨ns, a, l, n, hn, rfl⟩ := h
  obtain ⟨r, a', l', n', e⟩ := draw_fm R ns a l n m hm hm2 hn
  exact ⟨_, _, e, ⟨ns, a', l', n', hn, rfl⟩, Int.fmod_nonneg_of_pos r hm, Int.fmod_lt_of_pos r hm⟩
theorem feed_ok (ns : List Int) (h : ns.length ≤ 63) (S : Store) : ∃ c, f__law_feed [.d (.fl (ns.map D.int))] S = .ok (.loc S.length) (S ++ [c]) ∧ Fd c := by
  refine ⟨feed (ns.take 63) 0 0 0, ?_, ns.take 63, 0, 0, 0, by rw [List.length_take]; omega, rfl⟩
  unfold f__law_feed b__law_feed
  have e := cutD_to (ns.map D.int) (p := 63) (by decide)
  simp [enter, mDictC, mPairs, feed, e, mergeD, putD, exitK, List.map_take]
  try exact List.take_of_length_le (by simp)
end W

set_option Elab.async false
set_option linter.all false
set_option maxRecDepth 100000
set_option maxHeartbeats 4000000
/-! M01i: _law_odd, _law_bent -/
namespace W
open DL PySem L2 PyProof.Rows
structure Bd (c s h : Nat) (d : D) : Prop where
  p : pl c d = true
  s : sz d ≤ s
  d : dp d ≤ h
theorem Bd.mono {c s h c' s' h' : Nat} {d : D} (b : Bd c s h d) (hc : c ≤ c') (hs : s ≤ s') (hh : h ≤ h') : Bd c' s' h' d := ⟨pl_mono hc d b.p, Nat.le_trans b.s hs, Nat.le_trans b.d hh⟩
theorem atI_mem {ds : List D} {r : Int} (h0 : 0 ≤ r) (h1 : r < ds.length) : ∃ y ∈ ds, atI ds r = some y := by
  have hl : r.toNat < ds.length := by omega
  exact ⟨ds[r.toNat], List.getElem_mem hl, by rw [atI_in h0 h1, List.getElem?_eq_getElem hl]⟩
/-- a pick from a list is handed back -/
theorem pick_ret {b : Nat} {δ : DEnv} {S : Store} {L : List D} {r : Int} {G : D → Prop} (h0 : 0 ≤ r) (h1 : r < L.length) (hG : ∀ y ∈ L, G y) : ∃ y, exitM b (kRet δ (lift (Option.map U.d (atI L r)) S)) = .ok (.d y) (S.take b) ∧ G y := by
  obtain ⟨y, hy, e⟩ := atI_mem h0 h1
  exact ⟨y, by rw [e]; rfl, hG y hy⟩
theorem pick_fin {δ : DEnv} {R : Store} {c' : Cell} {L : List D} {r : Int} {G : D → Prop} (hc : Fd c') (h0 : 0 ≤ r) (h1 : r < L.length) (hG : ∀ y ∈ L, G y) :
    ∃ (d : D) (c'' : Cell), exitM (List.length R + 1) (kRet δ (lift (Option.map U.d (atI L r)) (c' :: R))) = .ok (.d d) (c'' :: R) ∧ Fd c'' ∧ G d := by
  obtain ⟨y, e, g⟩ := pick_ret (b := R.length + 1) (δ := δ) (S := c' :: R) h0 h1 hG
  exact ⟨y, c', by rw [e]; simp, hc, g⟩
theorem str_pl {z : String} (h : (Str.ofString z).cps.toList.all (fun k => decide (k < 128)) = true) (c : Nat) : pl c (.str (Str.ofString z)) = true := by simp only [pl]; exact h
def gO : Fn := f__law_odd f__law_draw
theorem odd_ok (R : Store) {c : Cell} (h : Fd c) : ∃ (d : D) (c' : Cell), gO [.loc 0] (c :: R) = .ok (.d d) (c' :: R) ∧ Fd c' ∧ Bd 60 300 1 d := by
  obtain ⟨r, c', e, h', r0, r1⟩ := draw_ok R h 17 (by decide) (by decide)
  unfold gO f__law_odd b__law_odd
  simp [enter, sizeLine_eq, e]
  refine pick_fin h' r0 (by simpa using r1) fun y hy => ?_
  simp only [List.mem_cons, List.not_mem_nil, or_false] at hy
  rcases hy with rfl | rfl | rfl | rfl | rfl | rfl | rfl | rfl | rfl | rfl | rfl | rfl | rfl | rfl | rfl | rfl | rfl <;> exact ⟨by decide +kernel, by decide +kernel, by decide +kernel⟩
/-! ### bending -/
def asc (x : Str) : Prop := ∀ k ∈ x.cps.toList, k < 128
theorem pl_str {c : Nat} {x : Str} : pl c (.str x) = true ↔ asc x := by simp only [pl, List.all_eq_true, decide_eq_true_eq, asc]
theorem asc_app {x y : Str} (hx : asc x) (hy : asc y) : asc (x ++ y) := fun k hk => by
  have e : (x ++ y).cps = x.cps ++ y.cps := rfl
  rw [e, Array.toList_append, List.mem_append] at hk
  exact hk.elim (hx k) (hy k)
theorem asc_cut {x : Str} (hx : asc x) (lo hi : Option Int) : asc (cutS x lo hi) := fun k hk => by
  unfold cutS at hk
  exact hx k (List.mem_of_mem_drop (List.mem_of_mem_take (by simpa using hk)))
theorem cutS_len (x : Str) (lo hi : Option Int) : (cutS x lo hi).length ≤ x.length := by
  unfold cutS
  show (List.toArray _).size ≤ _
  rw [List.size_toArray]
  have h1 := List.length_take_le (HT.sIx x.length x.length hi - HT.sIx x.length 0 lo) (x.cps.toList.drop (HT.sIx x.length 0 lo))
  have h2 : (x.cps.toList.drop (HT.sIx x.length 0 lo)).length ≤ x.cps.toList.length := by rw [List.length_drop]; omega
  have h3 : x.cps.toList.length = x.length := Array.length_toList
  refine Nat.le_trans (List.length_take_le' ..) (h3 ▸ h2)
theorem upper_asc : ∀ c, c < 128 → Unicode.upperOf c = [if 97 ≤ c ∧ c ≤ 122 then c - 32 else c] := by
  have h : ∀ c ∈ List.range 128, Unicode.upperOf c = [if 97 ≤ c ∧ c ≤ 122 then c - 32 else c] := by decide +kernel
  exact fun c hc => h c (List.mem_range.mpr hc)
theorem asc_upper {x : Str} (hx : asc x) : asc (Txt.upper x) := fun k hk => by
  have e : (Txt.upper x).cps = x.cps.map fun c => if 97 ≤ c ∧ c ≤ 122 then c - 32 else c := PyProof.Rows.placed_single x _ _ fun i c h => upper_asc c (hx c (List.mem_of_getElem? h))
  rw [e, Array.toList_map, List.mem_map] at hk
  obtain ⟨c, hc, rfl⟩ := hk
  have := hx c hc
  show (if 97 ≤ c ∧ c ≤ 122 then c - 32 else c) < 128
  split <;> omega
theorem asc_int (i : Int) : asc (Str.ofString (toString i)) := fun k hk => by
  by_cases h : k < 128
  · exact h
  · exact absurd hk (PyProof.Rows.int_text_free' k ⟨by omega, .inr (by omega)⟩ i)
theorem asc_lit {z : String} (h : (Str.ofString z).cps.toList.all (fun k => decide (k < 128)) = true) : asc (Str.ofString z) := by
  unfold asc
  simpa only [List.all_eq_true, decide_eq_true_eq] using h
theorem int_len {i : Int} (h : i.natAbs < 1000000) : (Str.ofString (toString i)).length ≤ 7 := by
  have := shown_int_len (i := i) (k := 6) (by decide) h
  simpa only [PyData.shown] using this
def gB : Nat → Fn
  | 0 => fun _ _ => .stuck
  | n + 1 => f__law_bent f__law_draw (gB n) gO
structure Bent (k : Nat) (d d' : D) : Prop where
  p : pl (k + 1) d' = true
  s : sz d' ≤ 3 * sz d + 300
  d : dp d' ≤ dp d + 1
theorem Bent.odd {k : Nat} {d y : D} (hk : 60 ≤ k) (b : Bd 60 300 1 y) : Bent k d y := ⟨pl_mono (by omega) y b.p, by have := b.s; omega, by have := b.d; omega⟩
theorem sub_tup {k : Nat} {ds es : List D} (hp : pl k (.tup ds) = true) (hs : es.Sublist ds) : Bent k (.tup ds) (.tup es) := by
  simp only [pl] at hp
  refine ⟨?_, ?_, ?_⟩
  · simp only [pl]; exact plL_mono (Nat.le_succ k) _ (plL_iff.mpr fun y hy => plL_iff.mp hp y (hs.subset hy))
  · simp only [sz]; have := szL_sub hs; omega
  · simp only [dp]
    have : dpL es ≤ dpL ds := dpL_le.mpr fun y hy => dpL_le.mp (Nat.le_refl _) y (hs.subset hy)
    omega
theorem cutD_sub (ds : List D) (lo hi : Option Int) : (cutD ds lo hi).Sublist ds := (List.take_sublist _ _).trans (List.drop_sublist _ _)
theorem bent_tup7 {k : Nat} {ds : List D} (hp : pl k (.tup ds) = true) : ∀ y ∈ [D.lst ds, .tup (cutD ds (some 1) none), .tup (cutD ds none (some (-1))), .tup (ds ++ cutD ds (some (-1)) none), .tup ds.reverse, .tup [.tup ds], .tup (ds ++ [.non])], Bent k (.tup ds) y := by
  have hp' := hp
  simp only [pl] at hp'
  have hp2 := plL_mono (Nat.le_succ k) ds hp'
  intro y hy
  simp only [List.mem_cons, List.not_mem_nil, or_false] at hy
  rcases hy with rfl | rfl | rfl | rfl | rfl | rfl | rfl
  · exact ⟨by simp only [pl]; exact hp2, by simp only [sz]; omega, by simp only [dp]; omega⟩
  · exact sub_tup hp (cutD_sub _ _ _)
  · exact sub_tup hp (cutD_sub _ _ _)
  · have hs := cutD_sub ds (some (-1)) none
    refine ⟨?_, ?_, ?_⟩
    · simp only [pl]
      exact plL_iff.mpr fun y hy => (List.mem_append.mp hy).elim (plL_iff.mp hp2 y) fun z => plL_iff.mp hp2 y (hs.subset z)
    · simp only [sz, szL_append]; have := szL_sub hs; omega
    · simp only [dp]
      have : dpL (ds ++ cutD ds (some (-1)) none) ≤ dpL ds := dpL_le.mpr fun y hy => (List.mem_append.mp hy).elim (dpL_le.mp (Nat.le_refl _) y) fun z => dpL_le.mp (Nat.le_refl _) y (hs.subset z)
      omega
  · refine ⟨?_, ?_, ?_⟩
    · simp only [pl]; exact plL_iff.mpr fun y hy => plL_iff.mp hp2 y (List.mem_reverse.mp hy)
    · simp only [sz, szL_reverse]; omega
    · simp only [dp]
      have : dpL ds.reverse ≤ dpL ds := dpL_le.mpr fun y hy => dpL_le.mp (Nat.le_refl _) y (List.mem_reverse.mp hy)
      omega
  · exact ⟨by simp only [pl, plL, hp2, Bool.and_self], by simp only [sz, szL]; omega, by simp only [dp, dpL]; omega⟩
  · refine ⟨?_, ?_, ?_⟩
    · simp only [pl]
      exact plL_iff.mpr fun y hy => (List.mem_append.mp hy).elim (plL_iff.mp hp2 y) fun z => by rw [List.mem_singleton.mp z]; rfl
    · simp only [sz, szL_append, szL]; omega
    · simp only [dp]
      have : dpL (ds ++ [.non]) ≤ dpL ds := dpL_le.mpr fun y hy => (List.mem_append.mp hy).elim (dpL_le.mp (Nat.le_refl _) y) fun z => by rw [List.mem_singleton.mp z]; exact Nat.zero_le _
      omega
theorem bent_str6 {k : Nat} {x : Str} (hp : pl k (.str x) = true) : ∀ y ∈ [D.str (x ++ Str.ofString "a"), .str (cutS x none (some (-1))), .str (Txt.upper x), .str (x ++ Str.ofString " "), .lst [.str x], .str (x ++ Str.ofString "abcdefgh")], Bent k (.str x) y := by
  have hx := pl_str.mp hp
  have app : ∀ z : String, (Str.ofString z).cps.toList.all (fun k => decide (k < 128)) = true → (Str.ofString z).length ≤ 8 → Bent k (.str x) (.str (x ++ Str.ofString z)) := fun z h1 h2 => by
    refine ⟨pl_str.mpr (asc_app hx (asc_lit h1)), ?_, by simp [dp]⟩
    simp only [sz]
    have : (x ++ Str.ofString z).length = x.length + (Str.ofString z).length := by
      show (x.cps ++ (Str.ofString z).cps).size = _
      rw [Array.size_append]; rfl
    rw [this]; omega
  intro y hy
  simp only [List.mem_cons, List.not_mem_nil, or_false] at hy
  rcases hy with rfl | rfl | rfl | rfl | rfl | rfl
  · exact app "a" (by decide +kernel) (by decide +kernel)
  · exact ⟨pl_str.mpr (asc_cut hx _ _), by simp only [sz]; have := cutS_len x none (some (-1)); omega, by simp [dp]⟩
  · exact ⟨pl_str.mpr (asc_upper hx), by simp only [sz]; have := PyProof.Rows.len_upper x; omega, by simp [dp]⟩
  · exact app " " (by decide +kernel) (by decide +kernel)
  · exact ⟨by simp only [pl, plL, Bool.and_true]; exact List.all_eq_true.mpr fun c hc => decide_eq_true (hx c hc), by simp only [sz, szL]; omega, by simp [dp, dpL]⟩
  · exact app "abcdefgh" (by decide +kernel) (by decide +kernel)
theorem Bent.int {k : Nat} {d : D} {i : Int} (h : i.natAbs ≤ k + 1) (hk : k ≤ 100000) : Bent k d (.int i) := ⟨by simp only [pl, decide_eq_true_eq]; exact h, by simp only [sz]; split <;> omega, by simp [dp]⟩
theorem Bent.intS {k : Nat} {d : D} {i : Int} (h : i.natAbs ≤ k + 1) (hk : k ≤ 100000) : Bent k d (.str (Str.ofString (toString i))) := ⟨pl_str.mpr (asc_int i), by simp only [sz]; have := int_len (i := i) (by omega); omega, by simp [dp]⟩
theorem Bent.bl {k : Nat} {d : D} {b : Bool} : Bent k d (.bl b) := ⟨by simp [pl], by simp only [sz]; omega, by simp [dp]⟩
theorem Bent.one {k : Nat} {d : D} (hp : pl k d = true) : Bent k d (.lst [d]) := ⟨by simp only [pl, plL, pl_mono (Nat.le_succ k) d hp, Bool.and_true], by simp only [sz, szL]; omega, by simp only [dp, dpL]; omega⟩
theorem bent_ok : ∀ (n : Nat) (R : Store) {c : Cell} (h : Fd c) {k : Nat} {d : D}, pl k d = true → sz d ≤ 100000 → dp d ≤ 30 → dp d < n → 60 ≤ k → k ≤ 100000 → ∃ (d' : D) (c' : Cell), gB n [.loc 0, .d d] (c :: R) = .ok (.d d') (c' :: R) ∧ Fd c' ∧ Bent k d d'
  | 0, _, _, _, _, _, _, _, _, h, _, _ => absurd h (Nat.not_lt_zero _)
  | n + 1, R, c, h, k, d, hp, hs, hh, hd, hk, hk2 => by
    show ∃ (d' : D) (c' : Cell), f__law_bent f__law_draw (gB n) gO [.loc 0, .d d] (c :: R) = .ok (.d d') (c' :: R) ∧ Fd c' ∧ Bent k d d'
    have odd : ∀ (c1 : Cell), Fd c1 → ∃ (d' : D) (c' : Cell), gO [.loc 0] (c1 :: R) = .ok (.d d') (c' :: R) ∧ Fd c' ∧ Bent k d d' := fun c1 h1 => by
      obtain ⟨y, c2, e, h2, b⟩ := odd_ok R h1
      exact ⟨y, c2, e, h2, Bent.odd hk b⟩
    unfold f__law_bent b__law_bent
    cases d with
    | tup ds =>
      have ne := dNe_tup_nil (c := k) (ds := ds) (by omega) (by simpa only [pl] using hp) (by simp only [dp] at hh; omega)
      have hl : ds.length ≤ 50000 := by simp only [sz] at hs; have := szL_len ds; omega
      -- behind the first test
      have rest : ∀ (c1 : Cell), Fd c1 → ∃ (d' : D) (c' : Cell), exitM (R.length + 1) (mSeq (mSet 3 (mFn f__law_draw (mCons (mVar 0) (mCons (mC (.int 9)) mNil))))
    (mSeq (mIfS (mAndT (mTru (mIsi .tup (mVar 1))) (mTest (m2 dLt (mVar 3) (mC (.int 7))))) (mSeq (mSet 4 (mLst (mCons (mCall dList (mCons (mVar 1) mNil)) (mCons (mSl (mVar 1) (moSome (mC (.int 1))) moNone) (mCons (mSl (mVar 1) moNone (moSome (m1 dNeg (mC (.int 1))))) (mCons (m2 dAdd (mVar 1) (mSl (mVar 1) (moSome (m1 dNeg (mC (.int 1)))) moNone)) mNil))))))
    (mRet (m2 dIx (m2 dAdd (mVar 4) (mLst (mCons (mRev (mVar 1) (moSome (m1 dNeg (mC (.int 1))))) (mCons (mTup (mCons (mVar 1) mNil)) (mCons (m2 dAdd (mVar 1) (mTup (mCons (mC .non) mNil))) mNil))))) (mVar 3)))) mSkip)
    (mSeq (mIfS (mAndT (mTru (mIsi .str (mVar 1))) (mTest (m2 dLt (mVar 3) (mC (.int 6))))) (mRet (m2 dIx (mLst (mCons (m2 dAdd (mVar 1) (mC (.str "a"))) (mCons (mSl (mVar 1) moNone (moSome (m1 dNeg (mC (.int 1))))) (mCons (mUpper (mVar 1)) (mCons (m2 dAdd (mVar 1) (mC (.str " "))) (mCons (mLst (mCons (mVar 1) mNil)) (mCons (m2 dAdd (mVar 1) (mC (.str "abcdefgh"))) mNil))))))) (mVar 3))) mSkip)
    (mSeq (mIfS (mAndT (mTru (mIsi .int (mVar 1))) (mTest (m2 dLt (mVar 3) (mC (.int 6))))) (mRet (m2 dIx (mLst (mCons (m2 dAdd (mVar 1) (mC (.int 1))) (mCons (m2 dSub (mVar 1) (mC (.int 1))) (mCons (m2 dEq (mVar 1) (mC (.int 1))) (mCons (mCall dStr (mCons (mVar 1) mNil)) (mCons (m2 dSub (mC (.int 0)) (mVar 1)) (mCons (mLst (mCons (mVar 1) mNil)) mNil))))))) (mVar 3))) mSkip)
    (mRet (mFn gO (mCons (mVar 0) mNil)))))) (R.length + 1) [some (.loc 0), some (.d (.tup ds)), none, none, none] (c1 :: R)) = .ok (.d d') (c' :: R) ∧ Fd c' ∧ Bent k (.tup ds) d' := fun c1 h1 => by
        obtain ⟨w, c2, e, h2, w0, w1⟩ := draw_ok R h1 9 (by decide) (by decide)
        by_cases hw : w < 7
        · have l1 : ds.length + (cutD ds (some (-1)) none).length ≤ 16777216 := by have := (cutD_sub ds (some (-1)) none).length_le; omega
          have l2 : ds.length + 1 ≤ 16777216 := by omega
          obtain ⟨y, hy, ey⟩ := atI_mem (ds := [D.lst ds, .tup (cutD ds (some 1) none), .tup (cutD ds none (some (-1))), .tup (ds ++ cutD ds (some (-1)) none), .tup ds.reverse, .tup [.tup ds], .tup (ds ++ [.non])]) w0 (by simpa using hw)
          refine ⟨y, c2, ?_, h2, bent_tup7 hp y hy⟩
          simp [e, isT, truD, hw, sizeLine_eq, l1, l2, ey]
        · obtain ⟨y, c3, e3, h3, b⟩ := odd c2 h2
          refine ⟨y, c3, ?_, h3, b⟩
          simp [e, isT, truD, hw, e3]
      by_cases h0 : ds = []
      · subst h0
        obtain ⟨d', c', e, h', b⟩ := rest c h
        simp at ne
        refine ⟨d', c', ?_, h', b⟩
        rw [← e]
        simp [enter, isT, truD, ne]
      · obtain ⟨r, c1, e1, h1, r0, r1⟩ := draw_ok R h 6 (by decide) (by decide)
        have ne' : ds.isEmpty = false := by cases ds with | nil => exact absurd rfl h0 | cons _ _ => rfl
        rw [ne'] at ne
        by_cases hr : 0 < r
        · have lp : 0 < ds.length := List.length_pos_iff.mpr h0
          obtain ⟨a, c2, e2, h2, a0, a1⟩ := draw_ok R h1 ds.length (by omega) (by omega)
          have al : a.toNat < ds.length := by omega
          have ea : atI ds a = some ds[a.toNat] := by rw [atI_in a0 a1, List.getElem?_eq_getElem al]
          have mem : ds[a.toNat] ∈ ds := List.getElem_mem al
          have hp' := hp
          simp only [pl] at hp'
          have hs' := hs
          simp only [sz] at hs'
          have hh' := hh
          simp only [dp] at hh' hd
          have dm := dpL_le.mp (Nat.le_refl (dpL ds)) _ mem
          have sm := szL_mem mem
          obtain ⟨y, c3, e3, h3, b⟩ := bent_ok n R h2 (k := k) (d := ds[a.toNat]) (plL_iff.mp hp' _ mem) (by omega) (by omega) (by omega) hk hk2
          have t1 := cutD_to ds (p := a) a0
          have t2 := cutD_from ds (p := a + 1) (by omega)
          have split3 : ds = ds.take a.toNat ++ ds[a.toNat] :: ds.drop (a.toNat + 1) := by rw [← List.drop_eq_getElem_cons al, List.take_append_drop]
          have e4 : (a + 1).toNat = a.toNat + 1 := by omega
          rw [e4] at t2
          have l1 : min a.toNat ds.length + 1 ≤ 16777216 := by omega
          have l2 : min a.toNat ds.length + (1 + (ds.length - (a.toNat + 1))) ≤ 16777216 := by omega
          have l3 : min a.toNat ds.length + 1 + (ds.length - (a.toNat + 1)) ≤ 16777216 := by omega
          refine ⟨.tup (ds.take a.toNat ++ [y] ++ ds.drop (a.toNat + 1)), c3, ?_, h3, ?_, ?_, ?_⟩
          · simp [enter, isT, truD, ne, e1, hr, e2, ea, e3, t1, t2, sizeLine_eq, l1, l2, l3]
          · simp only [pl]
            have q := plL_mono (Nat.le_succ k) ds hp'
            refine plL_iff.mpr fun z hz => ?_
            simp only [List.mem_append, List.mem_singleton] at hz
            rcases hz with (hz | rfl) | hz
            · exact plL_iff.mp q z (List.mem_of_mem_take hz)
            · exact b.p
            · exact plL_iff.mp q z (List.mem_of_mem_drop hz)
          · have q : szL ds = szL (ds.take a.toNat) + (sz ds[a.toNat] + 2 + szL (ds.drop (a.toNat + 1))) := by
              have := congrArg szL split3
              rw [szL_append, szL] at this
              exact this
            have bs := b.s
            simp only [sz, szL_append, szL]
            omega
          · simp only [dp]
            have : dpL (ds.take a.toNat ++ [y] ++ ds.drop (a.toNat + 1)) ≤ dpL ds + 1 := dpL_le.mpr fun z hz => by
              simp only [List.mem_append, List.mem_singleton] at hz
              rcases hz with (hz | rfl) | hz
              · have := dpL_le.mp (Nat.le_refl (dpL ds)) z (List.mem_of_mem_take hz); omega
              · have := b.d; omega
              · have := dpL_le.mp (Nat.le_refl (dpL ds)) z (List.mem_of_mem_drop hz); omega
            omega
        · obtain ⟨d', c', e, h', b⟩ := rest c1 h1
          refine ⟨d', c', ?_, h', b⟩
          rw [← e]
          simp [enter, isT, truD, ne, e1, hr]
    | str x =>
      obtain ⟨w, c2, e, h2, w0, w1⟩ := draw_ok R h 9 (by decide) (by decide)
      by_cases hw : w < 6
      · have hx : x.length ≤ 10000 := by simp only [sz] at hs; omega
        have s1 : (Str.ofString "a").length = 1 := by decide +kernel
        have s2 : (Str.ofString " ").length = 1 := by decide +kernel
        have s3 : (Str.ofString "abcdefgh").length = 8 := by decide +kernel
        have l1 : x.length + 1 ≤ 16777216 := by omega
        have l2 : x.length + 8 ≤ 16777216 := by omega
        have l3 : x.length ≤ 16777216 := by omega
        have l4 : x.length ≤ 5592405 := by omega
        obtain ⟨y, hy, ey⟩ := atI_mem (ds := [D.str (x ++ Str.ofString "a"), .str (cutS x none (some (-1))), .str (Txt.upper x), .str (x ++ Str.ofString " "), .lst [.str x], .str (x ++ Str.ofString "abcdefgh")]) w0 (by simpa using hw)
        refine ⟨y, c2, ?_, h2, bent_str6 hp y hy⟩
        simp [enter, e, isT, truD, hw, sizeLine_eq, s1, s2, s3, l1, l2, l3, l4, dSl, ey]
      · obtain ⟨y, c3, e3, h3, b⟩ := odd c2 h2
        refine ⟨y, c3, ?_, h3, b⟩
        simp [enter, e, isT, truD, hw, e3]
    | int i =>
      obtain ⟨w, c2, e, h2, w0, w1⟩ := draw_ok R h 9 (by decide) (by decide)
      by_cases hw : w < 6
      · simp only [pl, decide_eq_true_eq] at hp
        have lg : i.natAbs.log2 < 1920 := by
          by_cases z : i.natAbs = 0
          · rw [z]; decide
          · exact Nat.lt_of_lt_of_le ((Nat.log2_lt z).mpr (Nat.lt_of_le_of_lt (Nat.le_trans hp hk2) (by decide : 100000 < 2 ^ 20))) (by decide)
        obtain ⟨y, hy, ey⟩ := atI_mem (ds := [D.int (i + 1), .int (i - 1), .bl (decide (i = 1)), .str (Str.ofString i.repr), .int (-i), .lst [.int i]]) w0 (by simpa using hw)
        refine ⟨y, c2, ?_, h2, ?_⟩
        · simp [enter, e, isT, truD, hw, sizeLine_eq, lg, ey]
        simp only [List.mem_cons, List.not_mem_nil, or_false] at hy
        rcases hy with rfl | rfl | rfl | rfl | rfl | rfl
        · exact Bent.int (by omega) hk2
        · exact Bent.int (by omega) hk2
        · exact Bent.bl
        · exact Bent.intS (by omega) hk2
        · exact Bent.int (by omega) hk2
        · exact Bent.one (by simp only [pl, decide_eq_true_eq]; exact hp)
      · obtain ⟨y, c3, e3, h3, b⟩ := odd c2 h2
        refine ⟨y, c3, ?_, h3, b⟩
        simp [enter, e, isT, truD, hw, e3]
    | bl v =>
      obtain ⟨w, c2, e, h2, w0, w1⟩ := draw_ok R h 9 (by decide) (by decide)
      by_cases hw : w < 6
      · have eqb : dEq (.bl v) (.int 1) = some (.bl v) := by cases v <;> rfl
        have sb : (if v = true then Str.ofString "True" else Str.ofString "False") = Str.ofString (if v then "True" else "False") := by cases v <;> rfl
        obtain ⟨y, hy, ey⟩ := atI_mem (ds := [D.int ((if v = true then 1 else 0) + 1), .int ((if v = true then 1 else 0) - 1), .bl v, .str (Str.ofString (if v then "True" else "False")), .int (-(if v = true then 1 else 0)), .lst [.bl v]]) w0 (by simpa using hw)
        refine ⟨y, c2, ?_, h2, ?_⟩
        · cases v <;> (simp at ey; simp [enter, e, isT, truD, hw, sizeLine_eq, eqb, ey])
        simp only [List.mem_cons, List.not_mem_nil, or_false] at hy
        rcases hy with rfl | rfl | rfl | rfl | rfl | rfl
        · exact Bent.int (by cases v <;> simp <;> omega) hk2
        · exact Bent.int (by cases v <;> simp <;> omega) hk2
        · exact Bent.bl
        · cases v
          · exact ⟨pl_str.mpr (asc_lit (by decide +kernel)), by decide +kernel, by decide +kernel⟩
          · exact ⟨pl_str.mpr (asc_lit (by decide +kernel)), by decide +kernel, by decide +kernel⟩
        · exact Bent.int (by cases v <;> simp <;> omega) hk2
        · exact Bent.one hp
      · obtain ⟨y, c3, e3, h3, b⟩ := odd c2 h2
        refine ⟨y, c3, ?_, h3, b⟩
        simp [enter, e, isT, truD, hw, e3]
    | _ => first | (simp [pl] at hp; done) | (
      obtain ⟨w, c2, e, h2, w0, w1⟩ := draw_ok R h 9 (by decide) (by decide)
      obtain ⟨y, c3, e3, h3, b⟩ := odd c2 h2
      refine ⟨y, c3, ?_, h3, b⟩
      simp [enter, e, isT, truD, e3])
end W

set_option Elab.async false
set_option linter.all false
set_option maxRecDepth 100000
set_option maxHeartbeats 4000000
/-! M01j: leaves, formulas -/
namespace DL
theorem forD_inv {t : Tg} {m : MS} {b : Nat} {I : DEnv → Store → Prop} : ∀ (ds : List D) (δ : DEnv) (S : Store), I δ S → (∀ d ∈ ds, ∀ δ S, I δ S → ∃ δ1, t.apply (.d d) δ = some δ1 ∧ ∃ δ2 S2, m b δ1 S = .next δ2 S2 ∧ I (trimE b S2 δ2) (S2.take b)) →
    ∃ δ' S', forD t m b ds δ S = .next δ' S' ∧ I δ' S'
  | [], δ, S, i, _ => ⟨δ, S, rfl, i⟩
  | d :: ds, δ, S, i, h => by
    obtain ⟨δ1, h1, δ2, S2, h2, i2⟩ := h d (List.mem_cons_self ..) δ S i
    obtain ⟨δ', S', h3, i3⟩ := forD_inv ds _ _ i2 fun e he => h e (List.mem_cons_of_mem _ he)
    exact ⟨δ', S', by rw [forD_cons, h1, kFa_, h2, kF_n, h3], i3⟩
end DL
namespace W
open DL PySem L2 PyProof.Rows
structure NmOk (N : List Str) : Prop where
  ne : N ≠ []
  le : N.length ≤ 10
  ok : ∀ x ∈ N, asc x ∧ x.length ≤ 8
theorem NmOk.pl {N : List Str} (h : NmOk N) (c : Nat) : plL c (N.map D.str) = true := plL_iff.mpr fun d hd => by
  obtain ⟨x, hx, rfl⟩ := List.mem_map.mp hd
  exact pl_str.mpr (h.ok x hx).1
theorem NmOk.dp {N : List Str} : dpL (N.map D.str) ≤ 0 := dpL_le.mpr fun d hd => by
  obtain ⟨x, hx, rfl⟩ := List.mem_map.mp hd
  simp [DL.dp]
theorem NmOk.bd {N : List Str} (h : NmOk N) {d : D} (hd : d ∈ N.map D.str) : ∃ x, d = .str x ∧ x ∈ N ∧ Bd 10 90 0 d := by
  obtain ⟨x, hx, rfl⟩ := List.mem_map.mp hd
  exact ⟨x, rfl, hx, pl_str.mpr (h.ok x hx).1, by simp only [sz]; have := (h.ok x hx).2; omega, by simp [DL.dp]⟩
theorem NmOk.eqNil {N : List Str} (h : NmOk N) : dEq (nmD N) (.tup []) = some (.bl false) := by
  have e := dEq_tup_nil (c := 0) (by decide) (h.pl 0) (Nat.le_trans NmOk.dp (by decide))
  have : (N.map D.str).isEmpty = false := by
    cases N with
    | nil => exact absurd rfl h.ne
    | cons _ _ => rfl
  rw [this] at e; exact e
/-- a draw of one of the names -/
theorem NmOk.draw {N : List Str} (h : NmOk N) (R : Store) {c : Cell} (hc : Fd c) : ∃ (r : Int) (c' : Cell) (x : Str), f__law_draw [.loc 0, .d (.int (N.length : Nat))] (c :: R) = .ok (.d (.int r)) (c' :: R) ∧ Fd c' ∧ atI (N.map D.str) r = some (.str x) ∧ x ∈ N := by
  have lp : 0 < N.length := List.length_pos_iff.mpr h.ne
  have := h.le
  obtain ⟨r, c', e, h', r0, r1⟩ := draw_ok R hc (N.length : Nat) (by omega) (by omega)
  obtain ⟨y, hy, ey⟩ := atI_mem (ds := N.map D.str) r0 (by simpa using r1)
  obtain ⟨x, rfl, hx, _⟩ := h.bd hy
  exact ⟨r, c', x, e, h', ey, hx⟩
def gLf : Fn := f__law_leaf f__law_draw
theorem leaf_ok {N : List Str} (hN : NmOk N) (R : Store) {c : Cell} (h : Fd c) : ∃ (d : D) (c' : Cell), gLf [.loc 0, .d (nmD N)] (c :: R) = .ok (.d d) (c' :: R) ∧ Fd c' ∧ Bd 10 90 0 d := by
  have en := hN.eqNil
  obtain ⟨r, c1, e1, h1, r0, r1⟩ := draw_ok R h 3 (by decide) (by decide)
  unfold gLf f__law_leaf b__law_leaf
  by_cases hr : r = 0
  · subst hr
    obtain ⟨w, c2, e2, h2, w0, w1⟩ := draw_ok R h1 8 (by decide) (by decide)
    obtain ⟨y, hy, ey⟩ := atI_mem (ds := [D.int 0, .int 1, .int 2, .int (-1), .int 3, .int (-2), .int 7, .int 1]) w0 (by simpa using w1)
    refine ⟨y, c2, ?_, h2, ?_⟩
    · have s8 : 8 ≤ sizeLine := by decide
      simp [enter, en, e1, s8, e2, ey]
    · simp only [List.mem_cons, List.not_mem_nil, or_false] at hy
      rcases hy with rfl | rfl | rfl | rfl | rfl | rfl | rfl | rfl <;> exact ⟨by decide +kernel, by decide +kernel, by decide +kernel⟩
  · obtain ⟨w, c2, x, e2, h2, ex, hx⟩ := hN.draw R h1
    refine ⟨.str x, c2, ?_, h2, ?_⟩
    · have el : dLen [nmD N] = some (.int (N.length : Nat)) := by unfold nmD; rw [dLen_t, List.length_map]
      have ei : ∀ r, dIx (nmD N) (.int r) = atI (N.map D.str) r := fun r => rfl
      simp [enter, en, e1, hr, el, e2, ei, ex]
    · exact ⟨pl_str.mpr (hN.ok x hx).1, by simp only [sz]; have := (hN.ok x hx).2; omega, by simp [DL.dp]⟩
def Fs : Nat → Nat
  | 0 => 90
  | k + 1 => 3 * Fs k + 63
def gF : Nat → Fn
  | 0 => fun _ _ => .stuck
  | n + 1 => f__law_formula f__law_draw gLf f__law_sizes (gF n)
theorem Fs_ge (k : Nat) : 90 ≤ Fs k := by
  induction k with
  | zero => exact Nat.le_refl _
  | succ k ih => unfold Fs; omega
def wd16 : List Str := ["+", "-", "*", "div", "mod", "least", "most", "=", "<", "<=", "and", "or", "not", "neg", "if", "if"]
theorem wd16_ok : ∀ w ∈ wd16, (∃ k : Nat, valD szKV (.inr w) = some (.int (k : Nat)) ∧ k ≤ 3) ∧ asc w ∧ w.length ≤ 5 := by
  have h : ∀ w ∈ wd16, (match arity w with | some k => decide (k ≤ 3) | none => false) = true ∧ (w.cps.toList.all fun k => decide (k < 128)) = true ∧ w.length ≤ 5 := by decide +kernel
  intro w hw
  obtain ⟨h1, h2, h3⟩ := h w hw
  refine ⟨?_, by unfold asc; simpa only [List.all_eq_true, decide_eq_true_eq] using h2, h3⟩
  rw [val_sz]
  cases ha : arity w with
  | none => rw [ha] at h1; cases h1
  | some k => rw [ha] at h1; exact ⟨k, rfl, of_decide_eq_true h1⟩
def FormOk (N : List Str) (k : Nat) (g : Fn) : Prop := ∀ (R : Store) (c : Cell), Fd c → ∃ (d : D) (c' : Cell), g [.loc 0, .d (nmD N), .d (.int (k : Nat))] (c :: R) = .ok (.d d) (c' :: R) ∧ Fd c' ∧ Bd 10 (Fs k) k d
theorem formula_ok {N : List Str} (hN : NmOk N) (k : Nat) : ∀ n : Nat, k < n → FormOk N k (gF n) := by
  induction k with
  | zero =>
    intro n hn R c h
    obtain ⟨n, rfl⟩ : ∃ j, n = j + 1 := ⟨n - 1, by omega⟩
    obtain ⟨d, c', e, h', b⟩ := leaf_ok hN R h
    refine ⟨d, c', ?_, h', b⟩
    show f__law_formula f__law_draw gLf f__law_sizes (gF n) _ _ = _
    unfold f__law_formula b__law_formula
    simp [enter, e]
  | succ k ih =>
    intro n hn R c h
    obtain ⟨n, rfl⟩ : ∃ j, n = j + 1 := ⟨n - 1, by omega⟩
    show ∃ (d : D) (c' : Cell), f__law_formula f__law_draw gLf f__law_sizes (gF n) [.loc 0, .d (nmD N), .d (.int ((k + 1 : Nat) : Int))] (c :: R) = .ok (.d d) (c' :: R) ∧ Fd c' ∧ Bd 10 (Fs (k + 1)) (k + 1) d
    obtain ⟨r, c1, e1, h1, r0, r1⟩ := draw_ok R h 4 (by decide) (by decide)
    have kp : ¬ ((k : Int) + 1 < 1) := by omega
    unfold f__law_formula b__law_formula
    by_cases hr : r = 0
    · subst hr
      obtain ⟨d, c', e, h', b⟩ := leaf_ok hN R h1
      refine ⟨d, c', ?_, h', b.mono (Nat.le_refl _) (Fs_ge _) (Nat.zero_le _)⟩
      simp [enter, kp, e1, e]
    · obtain ⟨w, c2, e2, h2, w0, w1⟩ := draw_ok R h1 16 (by decide) (by decide)
      obtain ⟨y, hy, ey⟩ := atI_mem (ds := wd16.map D.str) w0 (by simpa [wd16] using w1)
      obtain ⟨wd, hwd, rfl⟩ := List.mem_map.mp hy
      obtain ⟨⟨m, hm, hm3⟩, ha, hl⟩ := wd16_ok wd hwd
      simp only [wd16, List.map_cons, List.map_nil] at ey
      have kk : (k : Int) + 1 - 1 = (k : Nat) := by omega
      obtain ⟨ys, S', e3, ⟨c3, rfl, h3⟩, l3, b3⟩ := lcD_inv (t := .nm 5) (mt := mYes) (me := mFn (gF n) (mCons (mVar 0) (mCons (mVar 1) (mCons (m2 dSub (mVar 2) (mC (.int 1))) mNil))))
        (δ := wipeD [5] [some (.loc 0), some (.d (nmD N)), some (.d (.int ((k : Int) + 1))), some (.d (.lst [.str "+", .str "-", .str "*", .str "div", .str "mod", .str "least", .str "most", .str "=", .str "<", .str "<=", .str "and", .str "or", .str "not", .str "neg", .str "if"])), some (.d (.str wd)), none])
        (I := fun S => ∃ c, S = c :: R ∧ Fd c) (P := Bd 10 (Fs k) k) (rangeD 0 m) (c2 :: R) ⟨c2, rfl, h2⟩ (fun d hd S hS => by
          obtain ⟨c, rfl, hc⟩ := hS
          obtain ⟨y, c', e, h', b⟩ := ih n (by omega) R c hc
          refine ⟨_, rfl, rfl, y, c' :: R, ?_, ⟨c', rfl, h'⟩, b⟩
          simp [wipeD, kk, e])
      have lr : (rangeD 0 m).length = m := by unfold rangeD; simp
      rw [lr] at l3
      have z1 : ∀ S, kR1 (.ok (.d (.int (m : Int))) S) = .ok (rangeD 0 m) S := fun S => kR1_n _ _ (by omega)
      have z3 : m ≤ sizeLine := by rw [sizeLine_eq]; omega
      have z4 : ys.length + 1 ≤ sizeLine := by rw [sizeLine_eq]; omega
      have z5 : 1 + ys.length ≤ sizeLine := by rw [sizeLine_eq]; omega
      have s1 : 1 ≤ sizeLine := by decide
      have s15 : 15 ≤ sizeLine := by decide
      have s16 : 16 ≤ sizeLine := by decide
      refine ⟨.tup (.str wd :: ys), c3, ?_, h3, ?_, ?_, ?_⟩
      · have e3' := e3
        simp [wipeD] at e3'
        simp [enter, kp, e1, hr, e2, ey, s1, s15, s16, sizes_ok, hm, z1, lr, z3, wipeD, e3', z4, z5]
      · simp only [pl, plL, Bool.and_eq_true]
        exact ⟨List.all_eq_true.mpr fun c hc => decide_eq_true (ha c hc), plL_iff.mpr fun y hy => (b3 y hy).p⟩
      · have q := szL_bound (s := Fs k) (ds := ys) fun y hy => (b3 y hy).s
        have q2 : (Fs k + 2) * ys.length ≤ (Fs k + 2) * 3 := Nat.mul_le_mul_left _ (by omega)
        simp only [sz, szL, Fs]
        omega
      · simp only [dp, dpL]
        have : dpL ys ≤ k := dpL_le.mpr fun y hy => (b3 y hy).d
        omega
end W

set_option Elab.async false
set_option linter.all false
set_option maxRecDepth 100000
set_option maxHeartbeats 4000000
/-! M01k: variables, heads of functions -/
namespace DL
theorem forD_ix {t : Tg} {m : MS} {b : Nat} {I : Nat → DEnv → Store → Prop} : ∀ (ds : List D) (k : Nat) (δ : DEnv) (S : Store), I k δ S → (∀ d ∈ ds, ∀ i δ S, i < k + ds.length → I i δ S → ∃ δ1, t.apply (.d d) δ = some δ1 ∧ ∃ δ2 S2, m b δ1 S = .next δ2 S2 ∧ I (i + 1) (trimE b S2 δ2) (S2.take b)) →
    ∃ δ' S', forD t m b ds δ S = .next δ' S' ∧ I (k + ds.length) δ' S'
  | [], k, δ, S, i, _ => ⟨δ, S, rfl, i⟩
  | d :: ds, k, δ, S, i, h => by
    obtain ⟨δ1, h1, δ2, S2, h2, i2⟩ := h d (List.mem_cons_self ..) k δ S (by simp) i
    obtain ⟨δ', S', h3, i3⟩ := forD_ix ds (k + 1) _ _ i2 fun e he j δ S hj => h e (List.mem_cons_of_mem _ he) j δ S (by simp only [List.length_cons]; omega)
    refine ⟨δ', S', by rw [forD_cons, h1, kFa_, h2, kF_n, h3], ?_⟩
    have e : k + (d :: ds).length = k + 1 + ds.length := by simp only [List.length_cons]; omega
    rw [e]; exact i3
end DL
namespace W
open DL PySem L2 PyProof.Rows
def bdB (c s h : Nat) (d : D) : Bool := pl c d && decide (sz d ≤ s) && decide (dp d ≤ h)
theorem bdB_iff {c s h : Nat} {d : D} : bdB c s h d = true ↔ Bd c s h d := by
  unfold bdB
  simp only [Bool.and_eq_true, decide_eq_true_eq]
  exact ⟨fun z => ⟨z.1.1, z.1.2, z.2⟩, fun z => ⟨⟨z.p, z.s⟩, z.d⟩⟩
/-- a variable: a name and its bounds -/
def varB : D → Bool
  | .tup [.str x, .int a, .int b] => bdB 60 500 1 (.tup [.str x, .int a, .int b]) && decide (x.length ≤ 8)
  | _ => false
theorem varB_mk {x : Str} {a b : Int} (hx : asc x) (hl : x.length ≤ 8) (ha : a.natAbs ≤ 60) (hb : b.natAbs ≤ 60) : varB (.tup [.str x, .int a, .int b]) = true := by
  unfold varB
  rw [Bool.and_eq_true]
  refine ⟨bdB_iff.mpr ⟨?_, ?_, ?_⟩, decide_eq_true hl⟩
  · simp only [pl, plL, Bool.and_true, Bool.and_eq_true, decide_eq_true_eq]
    exact ⟨List.all_eq_true.mpr fun c hc => decide_eq_true (hx c hc), ha, hb⟩
  · simp only [sz, szL]
    rw [if_pos (by omega), if_pos (by omega)]; omega
  · simp [dp, dpL]
theorem varB_cases {v : D} (h : varB v = true) : ∃ x a b, v = .tup [.str x, .int a, .int b] ∧ asc x ∧ x.length ≤ 8 ∧ Bd 60 500 1 v ∧ a.natAbs ≤ 60 := by
  unfold varB at h
  split at h
  · rename_i x a b
    rw [Bool.and_eq_true] at h
    have hb := bdB_iff.mp h.1
    have hp := hb.p
    simp only [pl, plL, Bool.and_true, Bool.and_eq_true, decide_eq_true_eq, List.all_eq_true] at hp
    exact ⟨x, a, b, rfl, hp.1, of_decide_eq_true h.2, hb, hp.2.1⟩
  · cases h
def gVs : Fn := f__law_variables f__law_draw
def menus : List (List Str) := [["a", "b", "x"], ["end", "if", "set"], ["x", "least", "n"], ["test", "zzzzzzzz", "y"]]
theorem menus_ok : ∀ m ∈ menus, m.length = 3 ∧ ∀ x ∈ m, asc x ∧ x.length ≤ 8 := by
  have h : ∀ m ∈ menus, m.length = 3 ∧ ∀ x ∈ m, (x.cps.toList.all fun k => decide (k < 128)) = true ∧ x.length ≤ 8 := by decide +kernel
  intro m hm
  refine ⟨(h m hm).1, fun x hx => ⟨?_, ((h m hm).2 x hx).2⟩⟩
  unfold asc; simpa only [List.all_eq_true, decide_eq_true_eq] using ((h m hm).2 x hx).1
def vBody : MS := mSeq (mSet 5 (m2 dSub (mFn f__law_draw (mCons (mVar 0) (mCons (mC (.int 4)) mNil))) (mC (.int 2))))
    (mExpr (mMeth isL aAppend (mVar 2) (mCons (mTup (mCons (mVar 4) (mCons (mVar 5) (mCons (m2 dAdd (mVar 5) (mFn f__law_draw (mCons (mVar 0) (mCons (mC (.int 4)) mNil)))) mNil)))) mNil)))
theorem vars_loop (R : Store) (a1 a3 : U) (x1 x3 : D) (e1 : a1 = .d x1) (e3 : a3 = .d x3) (ds : List D) (hds : ∀ d ∈ ds, ∃ x, d = .str x ∧ asc x ∧ x.length ≤ 8) (hl : ds.length ≤ 10) {c : Cell} (h : Fd c) :
    ∃ (c' : Cell) (L : List D) (o4 o5 : Option U), forD (.nm 4) vBody (R.length + 1 + 1) ds [some (.loc 0), some a1, some (.loc (R.length + 1)), some a3, none, none] (c :: (R ++ [.lst []])) = .next [some (.loc 0), some a1, some (.loc (R.length + 1)), some a3, o4, o5] (c' :: (R ++ [.lst L])) ∧ Fd c' ∧ L.length = ds.length ∧ ∀ v ∈ L, varB v = true := by
  subst e1; subst e3
  obtain ⟨δ', S', e, c', L, o4, o5, rfl, rfl, h1, h2, h3⟩ := forD_ix (t := .nm 4) (m := vBody) (b := R.length + 1 + 1) (I := fun i δ S => ∃ (c : Cell) (L : List D) (o4 o5 : Option U), δ = [some (.loc 0), some (.d x1), some (.loc (R.length + 1)), some (.d x3), o4, o5] ∧ S = c :: (R ++ [.lst L]) ∧ Fd c ∧ L.length = i ∧ ∀ v ∈ L, varB v = true)
    ds 0 _ _ ⟨c, [], none, none, rfl, rfl, h, rfl, fun v hv => by cases hv⟩ (fun d hd i δ S hi hI => by
      obtain ⟨c, L, o4, o5, rfl, rfl, hc, hL, hv⟩ := hI
      obtain ⟨x, rfl, hx, hxl⟩ := hds d hd
      obtain ⟨r, c1, e1, h1, r0, r1⟩ := draw_ok (R ++ [.lst L]) hc 4 (by decide) (by decide)
      obtain ⟨w, c2, e2, h2, w0, w1⟩ := draw_ok (R ++ [.lst L]) h1 4 (by decide) (by decide)
      refine ⟨_, rfl, [some (.loc 0), some (.d x1), some (.loc (R.length + 1)), some (.d x3), some (.d (.str x)), some (.d (.int (r - 2)))], c2 :: (R ++ [.lst (L ++ [.tup [.str x, .int (r - 2), .int (r - 2 + w)]])]), ?_, c2, L ++ [.tup [.str x, .int (r - 2), .int (r - 2 + w)]], some (.d (.str x)), some (.d (.int (r - 2))), ?_, ?_, h2, by simp [hL], ?_⟩
      · have z : L.length < sizeLine := by rw [sizeLine_eq]; omega
        have s3 : 3 ≤ sizeLine := by decide
        unfold vBody
        simp [e1, e2, s3, z, aAppend]
      · simp [trimE, trimU]
      · simp
      · intro v hv'
        rcases List.mem_append.mp hv' with hv' | hv'
        · exact hv v hv'
        · rw [List.mem_singleton.mp hv']
          exact varB_mk hx hxl (by omega) (by omega))
  exact ⟨c', L, o4, o5, e, h1, by simpa using h2, h3⟩
theorem variables_ok (R : Store) {c : Cell} (h : Fd c) : ∃ (L : List D) (c' : Cell), gVs [.loc 0] (c :: R) = .ok (.d (.tup L)) (c' :: R) ∧ Fd c' ∧ 1 ≤ L.length ∧ L.length ≤ 3 ∧ ∀ v ∈ L, varB v = true := by
  obtain ⟨r, c1, e1, h1, r0, r1⟩ := draw_ok (R ++ [.lst []]) h 4 (by decide) (by decide)
  obtain ⟨y, hy, ey⟩ := atI_mem (ds := menus.map fun m => .tup (m.map D.str)) r0 (by simpa [menus] using r1)
  obtain ⟨m, hm, rfl⟩ := List.mem_map.mp hy
  obtain ⟨ml, mo⟩ := menus_ok m hm
  obtain ⟨w, c2, e2, h2, w0, w1⟩ := draw_ok (R ++ [.lst []]) h1 3 (by decide) (by decide)
  have cf := cutD_from (m.map D.str) (p := w) w0
  have wl : ((m.map D.str).drop w.toNat).length = 3 - w.toNat := by rw [List.length_drop, List.length_map, ml]
  obtain ⟨c', L, o4, o5, e, h', hl, hv⟩ := vars_loop R (.d (.lst (menus.map fun m => .tup (m.map D.str)))) (.d (.tup (m.map D.str))) _ _ rfl rfl ((m.map D.str).drop w.toNat) (fun d hd => by
    obtain ⟨x, hx, rfl⟩ := List.mem_map.mp (List.mem_of_mem_drop hd)
    exact ⟨x, rfl, mo x hx⟩) (by omega) h2
  refine ⟨L, c', ?_, h', by omega, by omega, hv⟩
  unfold vBody at e
  simp only [menus, List.map_cons, List.map_nil] at ey e
  have s4 : 4 ≤ sizeLine := by decide
  have s3 : 3 ≤ sizeLine := by decide
  unfold gVs f__law_variables b__law_variables
  simp [enter, s4, s3, e1, ey, e2, cf, seqD]
  rw [e]
  simp [peeks_c]
end W

set_option Elab.async false
set_option linter.all false
set_option maxRecDepth 100000
set_option maxHeartbeats 4000000
/-! M01l: heads, rows -/
namespace W
open DL PySem L2 PyProof.Rows
structure HeadOk (n : Str) (lo hi : Int) (vs : List D) (m : Int) : Prop where
  n : asc n ∧ n.length ≤ 8
  lo : lo.natAbs ≤ 60
  hi : hi.natAbs ≤ 60
  vl : 1 ≤ vs.length ∧ vs.length ≤ 3
  vs : ∀ v ∈ vs, varB v = true
  m : 0 ≤ m ∧ m ≤ 3
def IsHead (h : D) : Prop := ∃ n lo hi vs m, h = .tup [.str n, .int lo, .int hi, .tup vs, .int m] ∧ HeadOk n lo hi vs m
def gHd : Fn := f__law_heads f__law_draw gVs
def fnames : List (List Str) := [["f", "main"], ["call", "end", "g"], ["p", "q", "zz"], ["main", "x"]]
theorem fnames_ok : ∀ m ∈ fnames, (2 ≤ m.length ∧ m.length ≤ 3) ∧ ∀ x ∈ m, asc x ∧ x.length ≤ 8 := by
  have h : ∀ m ∈ fnames, (2 ≤ m.length ∧ m.length ≤ 3) ∧ ∀ x ∈ m, (x.cps.toList.all fun k => decide (k < 128)) = true ∧ x.length ≤ 8 := by decide +kernel
  intro m hm
  refine ⟨(h m hm).1, fun x hx => ⟨?_, ((h m hm).2 x hx).2⟩⟩
  unfold asc; simpa only [List.all_eq_true, decide_eq_true_eq] using ((h m hm).2 x hx).1
def hBody : MS := mSeq (mPar [3, 4] (mCons (m2 dSub (mFn f__law_draw (mCons (mVar 0) (mCons (mC (.int 3)) mNil))) (mC (.int 1))) (mCons (mFn gVs (mCons (mVar 0) mNil)) mNil)))
    (mExpr (mMeth isL aAppend (mVar 1) (mCons (mTup (mCons (mVar 2) (mCons (mVar 3) (mCons (m2 dAdd (mVar 3) (mFn f__law_draw (mCons (mVar 0) (mCons (mC (.int 4)) mNil)))) (mCons (mVar 4) (mCons (mFn f__law_draw (mCons (mVar 0) (mCons (m2 dAdd (mCall dLen (mCons (mVar 4) mNil)) (mC (.int 1))) mNil))) mNil)))))) mNil)))
theorem heads_loop (R : Store) (ds : List D) (hds : ∀ d ∈ ds, ∃ x, d = .str x ∧ asc x ∧ x.length ≤ 8) (hl : ds.length ≤ 10) {c : Cell} (h : Fd c) :
    ∃ (c' : Cell) (L : List D) (o2 o3 o4 : Option U), forD (.nm 2) hBody (R.length + 1 + 1) ds [some (.loc 0), some (.loc (R.length + 1)), none, none, none] (c :: (R ++ [.lst []])) = .next [some (.loc 0), some (.loc (R.length + 1)), o2, o3, o4] (c' :: (R ++ [.lst L])) ∧ Fd c' ∧ L.length = ds.length ∧ ∀ v ∈ L, IsHead v := by
  obtain ⟨δ', S', e, c', L, o2, o3, o4, rfl, rfl, h1, h2, h3⟩ := forD_ix (t := .nm 2) (m := hBody) (b := R.length + 1 + 1) (I := fun i δ S => ∃ (c : Cell) (L : List D) (o2 o3 o4 : Option U), δ = [some (.loc 0), some (.loc (R.length + 1)), o2, o3, o4] ∧ S = c :: (R ++ [.lst L]) ∧ Fd c ∧ L.length = i ∧ ∀ v ∈ L, IsHead v)
    ds 0 _ _ ⟨c, [], none, none, none, rfl, rfl, h, rfl, fun v hv => by cases hv⟩ (fun d hd i δ S hi hI => by
      obtain ⟨c, L, o2, o3, o4, rfl, rfl, hc, hL, hv⟩ := hI
      obtain ⟨x, rfl, hx, hxl⟩ := hds d hd
      obtain ⟨r, c1, e1, h1, r0, r1⟩ := draw_ok (R ++ [.lst L]) hc 3 (by decide) (by decide)
      obtain ⟨V, c2, e2, h2, v1, v3, vb⟩ := variables_ok (R ++ [.lst L]) h1
      obtain ⟨w, c3, e3, h3, w0, w1⟩ := draw_ok (R ++ [.lst L]) h2 4 (by decide) (by decide)
      obtain ⟨m, c4, e4, h4, m0, m1⟩ := draw_ok (R ++ [.lst L]) h3 ((V.length : Nat) + 1 : Int) (by omega) (by omega)
      refine ⟨_, rfl, [some (.loc 0), some (.loc (R.length + 1)), some (.d (.str x)), some (.d (.int (r - 1))), some (.d (.tup V))], c4 :: (R ++ [.lst (L ++ [.tup [.str x, .int (r - 1), .int (r - 1 + w), .tup V, .int m]])]), ?_, c4, L ++ [.tup [.str x, .int (r - 1), .int (r - 1 + w), .tup V, .int m]], some (.d (.str x)), some (.d (.int (r - 1))), some (.d (.tup V)), ?_, ?_, h4, by simp [hL], ?_⟩
      · have z : L.length < sizeLine := by rw [sizeLine_eq]; omega
        have s5 : 5 ≤ sizeLine := by decide
        unfold hBody
        simp [e1, e2, e3, e4, s5, z, aAppend]
      · simp [trimE, trimU]
      · simp
      · intro v hv'
        rcases List.mem_append.mp hv' with hv' | hv'
        · exact hv v hv'
        · rw [List.mem_singleton.mp hv']
          exact ⟨x, _, _, V, m, rfl, ⟨hx, hxl⟩, by omega, by omega, ⟨v1, v3⟩, vb, by omega, by omega⟩)
  exact ⟨c', L, o2, o3, o4, e, h1, by simpa using h2, h3⟩
theorem heads_ok (R : Store) {c : Cell} (h : Fd c) : ∃ (L : List D) (c' : Cell), gHd [.loc 0] (c :: R) = .ok (.d (.lst L)) (c' :: R) ∧ Fd c' ∧ 2 ≤ L.length ∧ L.length ≤ 3 ∧ ∀ v ∈ L, IsHead v := by
  obtain ⟨r, c1, e1, h1, r0, r1⟩ := draw_ok (R ++ [.lst []]) h 4 (by decide) (by decide)
  obtain ⟨y, hy, ey⟩ := atI_mem (ds := fnames.map fun m => .tup (m.map D.str)) r0 (by simpa [fnames] using r1)
  obtain ⟨m, hm, rfl⟩ := List.mem_map.mp hy
  obtain ⟨⟨ml, ml2⟩, mo⟩ := fnames_ok m hm
  obtain ⟨c', L, o2, o3, o4, e, h', hl, hv⟩ := heads_loop R (m.map D.str) (fun d hd => by
    obtain ⟨x, hx, rfl⟩ := List.mem_map.mp hd
    exact ⟨x, rfl, mo x hx⟩) (by rw [List.length_map]; omega) h1
  rw [List.length_map] at hl
  refine ⟨L, c', ?_, h', by omega, by omega, hv⟩
  unfold hBody at e
  simp only [fnames, List.map_cons, List.map_nil] at ey
  have s4 : 4 ≤ sizeLine := by decide
  have s3 : 3 ≤ sizeLine := by decide
  have s2 : 2 ≤ sizeLine := by decide
  unfold gHd f__law_heads b__law_heads
  simp [enter, s4, s3, s2, e1, ey, seqD]
  rw [e]
  simp [exitM, trimU]
/-! ### rows -/
def rwChk : D → Option (List D)
  | .tup [.str w] => if w = "else" ∨ w = "end" then some [] else none
  | .tup [.str w, e] => if w = "if" ∨ w = "while" ∨ w = "return" then some [e] else none
  | .tup [.str w, _, e] => if w = "set" then some [e] else none
  | .tup [.str w, _, _, .tup es] => if w = "call" then some es else none
  | _ => none
theorem cutD_last2 (a b : D) : cutD [a, b] (some (-1)) none = [b] := rfl
theorem cutD_last3 (a b c : D) : cutD [a, b, c] (some (-1)) none = [c] := rfl
theorem parts_ok {r : D} {ps : List D} (h : rwChk r = some ps) (S : Store) : f__law_parts [.d r] S = .ok (.d (.tup ps)) S := by
  unfold f__law_parts b__law_parts
  have s2 : 2 ≤ sizeLine := by decide
  have s0 : 0 ≤ sizeLine := by decide
  unfold rwChk at h
  split at h
  · rename_i w
    split at h
    · rename_i hw
      cases h
      rcases hw with rfl | rfl <;> simp [enter, i1, s2, s0]
    · cases h
  · rename_i w e
    split at h
    · rename_i hw
      cases h
      rcases hw with rfl | rfl | rfl <;> simp [enter, i1, s2, s0, cutD_last2]
    · cases h
  · rename_i w x e
    split at h
    · rename_i hw
      cases h
      subst hw
      simp [enter, i1, s2, s0, cutD_last3]
    · cases h
  · rename_i w x y es
    split at h
    · rename_i hw
      cases h
      subst hw
      simp [enter, i1, s2, s0, atI_3]
    · cases h
  · cases h
def pc (r : D) : Nat := match rwChk r with
  | some ps => ps.length
  | none => 0
def rowB (r : D) : Bool := match rwChk r with
  | some ps => bdB 10 1500 5 r && ps.all (bdB 10 1500 5)
  | none => false
theorem rowB_iff {r : D} : rowB r = true ↔ ∃ ps, rwChk r = some ps ∧ Bd 10 1500 5 r ∧ ∀ p ∈ ps, Bd 10 1500 5 p := by
  unfold rowB
  cases h : rwChk r with
  | none => simp
  | some ps =>
    simp only [Bool.and_eq_true, bdB_iff, List.all_eq_true]
    exact ⟨fun z => ⟨ps, rfl, z.1, z.2⟩, fun ⟨qs, e, a, b⟩ => by cases e; exact ⟨a, b⟩⟩
theorem rowB_mk {r : D} {ps : List D} (h : rwChk r = some ps) (b : Bd 10 1500 5 r) (bp : ∀ p ∈ ps, Bd 10 1500 5 p) : rowB r = true ∧ pc r = ps.length := ⟨rowB_iff.mpr ⟨ps, h, b, bp⟩, by unfold pc; rw [h]⟩
theorem bd_word {w : Str} {ds : List D} (hw : asc w) (hl : w.length ≤ 8) (hp : plL 10 ds = true) (hs : szL ds ≤ 1400) (hd : dpL ds ≤ 4) : Bd 10 1500 5 (.tup (.str w :: ds)) :=
  ⟨by simp only [pl, plL, Bool.and_eq_true]; exact ⟨List.all_eq_true.mpr fun c hc => decide_eq_true (hw c hc), hp⟩, by simp only [sz, szL]; omega, by simp only [dp, dpL]; omega⟩
theorem row_one {w : String} {e : D} (hw : (Str.ofString w) = "if" ∨ (Str.ofString w) = "while" ∨ (Str.ofString w) = "return") (b : Bd 10 (Fs 2) 2 e) : rowB (.tup [.str (Str.ofString w), e]) = true ∧ pc (.tup [.str (Str.ofString w), e]) = 1 := by
  have f2 : Fs 2 = 1062 := rfl
  have bs := b.s
  have ha : asc (Str.ofString w) ∧ (Str.ofString w).length ≤ 8 := by
    rcases hw with h | h | h <;> rw [h] <;> exact ⟨asc_lit (by decide +kernel), by decide +kernel⟩
  refine rowB_mk (ps := [e]) ?_ (bd_word ha.1 ha.2 ?_ ?_ ?_) fun p hp => by rw [List.mem_singleton.mp hp]; exact b.mono (by decide) (by omega) (by decide)
  · exact if_pos hw
  · simp only [plL, Bool.and_true]; exact b.p
  · simp only [szL]; omega
  · simp only [dpL]; have := b.d; omega
theorem row_end : rowB (.tup [.str "end"]) = true ∧ pc (.tup [.str "end"]) = 0 := rowB_mk (ps := []) (by simp [rwChk]) ⟨by decide +kernel, by decide +kernel, by decide +kernel⟩ fun p hp => by cases hp
theorem row_else : rowB (.tup [.str "else"]) = true ∧ pc (.tup [.str "else"]) = 0 := rowB_mk (ps := []) (by simp [rwChk]) ⟨by decide +kernel, by decide +kernel, by decide +kernel⟩ fun p hp => by cases hp
theorem row_set {x : Str} {e : D} (hx : asc x ∧ x.length ≤ 8) (b : Bd 10 (Fs 2) 2 e) : rowB (.tup [.str "set", .str x, e]) = true ∧ pc (.tup [.str "set", .str x, e]) = 1 := by
  have f2 : Fs 2 = 1062 := rfl
  have bs := b.s
  refine rowB_mk (ps := [e]) ?_ (bd_word (asc_lit (by decide +kernel)) (by decide +kernel) ?_ ?_ ?_) fun p hp => by rw [List.mem_singleton.mp hp]; exact b.mono (by decide) (by omega) (by decide)
  · simp [rwChk]
  · simp only [plL, Bool.and_true, Bool.and_eq_true]; exact ⟨pl_str.mpr hx.1, b.p⟩
  · simp only [szL, sz]; omega
  · simp only [dpL, dp]; have := b.d; omega
theorem row_call {x f : Str} {es : List D} (hx : asc x ∧ x.length ≤ 8) (hf : asc f ∧ f.length ≤ 8) (hl : es.length ≤ 3) (b : ∀ e ∈ es, Bd 10 (Fs 1) 1 e) : rowB (.tup [.str "call", .str x, .str f, .tup es]) = true ∧ pc (.tup [.str "call", .str x, .str f, .tup es]) = es.length := by
  have f1 : Fs 1 = 333 := rfl
  have q := szL_bound (s := 333) (ds := es) fun e he => (b e he).s
  have q2 : (333 + 2) * es.length ≤ (333 + 2) * 3 := Nat.mul_le_mul_left _ hl
  have q3 : dpL es ≤ 1 := dpL_le.mpr fun e he => (b e he).d
  refine rowB_mk (ps := es) ?_ (bd_word (asc_lit (by decide +kernel)) (by decide +kernel) ?_ ?_ ?_) fun p hp => (b p hp).mono (by decide) (by omega) (by decide)
  · simp [rwChk]
  · simp only [plL, Bool.and_true, Bool.and_eq_true, pl]
    exact ⟨List.all_eq_true.mpr fun c hc => decide_eq_true (hx.1 c hc), List.all_eq_true.mpr fun c hc => decide_eq_true (hf.1 c hc), plL_iff.mpr fun e he => (b e he).p⟩
  · simp only [szL, sz]; omega
  · simp only [dpL, dp]; omega
def gPR : Fn := f__law_plain_row (gF 3) f__law_draw
theorem nm_len (N : List Str) : dLen [nmD N] = some (.int (N.length : Nat)) := by unfold nmD; rw [dLen_t, List.length_map]
theorem nm_ix (N : List Str) (r : Int) : dIx (nmD N) (.int r) = atI (N.map D.str) r := rfl
theorem form2 {N : List Str} (hN : NmOk N) (R : Store) {c : Cell} (h : Fd c) : ∃ (d : D) (c' : Cell), gF 3 [.loc 0, .d (nmD N), .d (.int 2)] (c :: R) = .ok (.d d) (c' :: R) ∧ Fd c' ∧ Bd 10 (Fs 2) 2 d := formula_ok hN 2 3 (by decide) R c h
theorem form1 {N : List Str} (hN : NmOk N) (R : Store) {c : Cell} (h : Fd c) : ∃ (d : D) (c' : Cell), gF 3 [.loc 0, .d (nmD N), .d (.int 1)] (c :: R) = .ok (.d d) (c' :: R) ∧ Fd c' ∧ Bd 10 (Fs 1) 1 d := formula_ok hN 1 3 (by decide) R c h
theorem plain_ret {g : Fn} {n e : D} {hs : List D} {R R' : Store} (e1 : g [.loc 0, .d n, .d (.int 2)] R = .ok (.d e) R') (hR : R'.length = R.length) : f__law_plain_row g f__law_draw [.loc 0, .d n, .d (.lst hs), .d (.int 2)] R = .ok (.d (.tup [.str "return", e])) R' := by
  have s2 : 2 ≤ sizeLine := by decide
  have tk : R'.take R.length = R' := by rw [← hR]; exact List.take_length
  unfold f__law_plain_row b__law_plain_row
  simp [enter, e1, s2, tk]
theorem plain_set {g : Fn} {N : List Str} {e : D} {x : Str} {hs : List D} {R R' R2 : Store} {w r : Int} (w2 : w ≠ 2) (w5 : w ≠ 5) (e1 : g [.loc 0, .d (nmD N), .d (.int 2)] R = .ok (.d e) R') (e2 : f__law_draw [.loc 0, .d (.int (N.length : Nat))] R' = .ok (.d (.int r)) R2) (ex : atI (N.map D.str) r = some (.str x)) (hR : R2.length = R.length) :
    f__law_plain_row g f__law_draw [.loc 0, .d (nmD N), .d (.lst hs), .d (.int w)] R = .ok (.d (.tup [.str "set", .str x, e])) R2 := by
  have s3 : 3 ≤ sizeLine := by decide
  have tk : R2.take R.length = R2 := by rw [← hR]; exact List.take_length
  unfold f__law_plain_row b__law_plain_row
  simp [enter, e1, w2, w5, s3, nm_len, e2, nm_ix, ex, tk]
def lastC (g : Fn) : MS := mRet (mTup (mCons (mC (.str "call")) (mCons (mVar 5) (mCons (m2 dIx (mVar 6) (mC (.int 0))) (mCons (mCall dTuple (mCons (mLc (mRange1 (m2 dIx (mVar 6) (mC (.int 4)))) (.nm 7) mYes (mFn g (mCons (mVar 0) (mCons (mVar 1) (mCons (mC (.int 1)) mNil)))) [7]) mNil)) mNil)))))
theorem a4 (a b c d e : D) : atI [a, b, c, d, e] 4 = some e := by rw [atI_in (by decide) (by simp only [List.length_cons, List.length_nil]; decide)]; rfl

section
variable {g : Fn} {N e hs wv : D} {x n : Str} {lo hi : Int} {vs : List D} {m b : Nat} {ys : List D} {R3 R4 : Store}
theorem T1 : (m2 dIx (mVar 6) (mC (.int 4))) [some (.loc 0), some (.d N), some (.d hs), some (.d wv), some (.d e), some (.d (.str x)), some (.d (.tup [.str n, .int lo, .int hi, .tup vs, .int (m : Int)])), none] R3 = .ok (.d (.int (m : Int))) R3 := by
  simp only [m2_, k2a_, k2b_, mVar_s, mVar_0, mC_, peek_d, dIx_t, a4, Option.map_some, lift_some]
theorem T2 (hm : m ≤ 3) : (mRange1 (m2 dIx (mVar 6) (mC (.int 4)))) [some (.loc 0), some (.d N), some (.d hs), some (.d wv), some (.d e), some (.d (.str x)), some (.d (.tup [.str n, .int lo, .int hi, .tup vs, .int (m : Int)])), none] R3 = .ok (rangeD 0 m) R3 := by
  rw [mRange1_, T1]
  exact kR1_n _ _ (by omega)
theorem T3 (hm : m ≤ 3) (e4 : lcD (.nm 7) mYes (mFn g (mCons (mVar 0) (mCons (mVar 1) (mCons (mC (.int 1)) mNil)))) [some (.loc 0), some (.d N), some (.d hs), some (.d wv), some (.d e), some (.d (.str x)), some (.d (.tup [.str n, .int lo, .int hi, .tup vs, .int (m : Int)])), none] (rangeD 0 m) R3 = .ok ys R4) :
   (mLc (mRange1 (m2 dIx (mVar 6) (mC (.int 4)))) (.nm 7) mYes (mFn g (mCons (mVar 0) (mCons (mVar 1) (mCons (mC (.int 1)) mNil)))) [7]) [some (.loc 0), some (.d N), some (.d hs), some (.d wv), some (.d e), some (.d (.str x)), some (.d (.tup [.str n, .int lo, .int hi, .tup vs, .int (m : Int)])), none] R3 = .ok (.d (.lst ys)) R4 := by
  have lr : (rangeD 0 m).length = m := by unfold rangeD; simp
  have z3 : (rangeD 0 m).length ≤ sizeLine := by rw [lr, sizeLine_eq]; omega
  rw [mLc_, T2 hm, kLc_, if_pos z3]
  simp only [wipeD, List.foldr_cons, List.foldr_nil, List.set_cons_succ, List.set_cons_zero]
  rw [e4]; rfl
theorem lastC_ok (hm : m ≤ 3)
    (e4 : lcD (.nm 7) mYes (mFn g (mCons (mVar 0) (mCons (mVar 1) (mCons (mC (.int 1)) mNil)))) [some (.loc 0), some (.d N), some (.d hs), some (.d wv), some (.d e), some (.d (.str x)), some (.d (.tup [.str n, .int lo, .int hi, .tup vs, .int (m : Int)])), none] (rangeD 0 m) R3 = .ok ys R4) :
    lastC g b [some (.loc 0), some (.d N), some (.d hs), some (.d wv), some (.d e), some (.d (.str x)), some (.d (.tup [.str n, .int lo, .int hi, .tup vs, .int (m : Int)])), none] R3 = .ret (.d (.tup [.str "call", .str x, .str n, .tup ys])) R4 := by
  have s4 : 4 ≤ sizeLine := by decide
  have L := T3 hm e4
  unfold lastC
  rw [mRet_, mTup_, mCons_, mC_, kC1_, mCons_]
  simp only [mVar_s, mVar_0]
  rw [kC1_, mCons_, m2_]
  simp only [mVar_s, mVar_0, k2a_, mC_, k2b_, peek_d, dIx_t, atI_0, Option.map_some, lift_some]
  rw [kC1_, mCons_, mCall_, mCons_, L, kC1_, mNil_, kC2_, kCall_, peeks_d, peeks_nil]
  simp only [Option.map_some, Option.bind_some, dTuple_l, lift_some]
  rw [kC1_, mNil_, kC2_, kC2_, kC2_, kC2_, kTup_]
  simp only [datas_d, datas_nil, Option.map_some, Option.bind_some, fits_, List.length_cons, List.length_nil]
  rw [if_pos (show 0 + 1 + 1 + 1 + 1 ≤ sizeLine from s4)]
  rfl
end
theorem callM_go {ar n : Nat} {body : MS} {us : List U} {S : Store} {r : SR} (h : us.length = ar) (hb : body S.length (enter n us) S = r) : callM ar n body us S = exitM S.length r := by rw [callM_, if_pos h, hb]
section
variable {g : Fn} {N : List Str} {e : D} {x n : Str} {lo hi : Int} {vs : List D} {m b : Nat} {hs ys : List D} {R R' R2 R3 R4 : Store} {r q w : Int} {y : D}
theorem p1 (e1 : g [.loc 0, .d (nmD N), .d (.int 2)] R = .ok (.d e) R') : (mSet 4 (mFn g (mCons (mVar 0) (mCons (mVar 1) (mCons (mC (.int 2)) mNil))))) b [some (.loc 0), some (.d (nmD N)), some (.d (.lst hs)), some (.d (.int w)), none, none, none, none] R = .next [some (.loc 0), some (.d (nmD N)), some (.d (.lst hs)), some (.d (.int w)), some (.d e), none, none, none] R' := by
  simp [e1]
theorem p2 (w2 : w ≠ 2) {m' : MS} : (mIfS (mTest (m2 dEq (mVar 3) (mC (.int 2)))) m' mSkip) b [some (.loc 0), some (.d (nmD N)), some (.d (.lst hs)), some (.d (.int w)), some (.d e), none, none, none] R' = .next [some (.loc 0), some (.d (nmD N)), some (.d (.lst hs)), some (.d (.int w)), some (.d e), none, none, none] R' := by
  simp [w2]
theorem p3 (e2 : f__law_draw [.loc 0, .d (.int (N.length : Nat))] R' = .ok (.d (.int r)) R2) (ex : atI (N.map D.str) r = some (.str x)) : (mSet 5 (m2 dIx (mVar 1) (mFn f__law_draw (mCons (mVar 0) (mCons (mCall dLen (mCons (mVar 1) mNil)) mNil))))) b [some (.loc 0), some (.d (nmD N)), some (.d (.lst hs)), some (.d (.int w)), some (.d e), none, none, none] R' = .next [some (.loc 0), some (.d (nmD N)), some (.d (.lst hs)), some (.d (.int w)), some (.d e), some (.d (.str x)), none, none] R2 := by
  simp [nm_len, e2, nm_ix, ex]
theorem p4 (w5 : w = 5) {m' : MS} : (mIfS (mTest (m2 dNe (mVar 3) (mC (.int 5)))) m' mSkip) b [some (.loc 0), some (.d (nmD N)), some (.d (.lst hs)), some (.d (.int w)), some (.d e), some (.d (.str x)), none, none] R2 = .next [some (.loc 0), some (.d (nmD N)), some (.d (.lst hs)), some (.d (.int w)), some (.d e), some (.d (.str x)), none, none] R2 := by
  simp [w5]
theorem p5 (e3 : f__law_draw [.loc 0, .d (.int (hs.length : Nat))] R2 = .ok (.d (.int q)) R3) (ey : atI hs q = some y) : (mSet 6 (m2 dIx (mVar 2) (mFn f__law_draw (mCons (mVar 0) (mCons (mCall dLen (mCons (mVar 2) mNil)) mNil))))) b [some (.loc 0), some (.d (nmD N)), some (.d (.lst hs)), some (.d (.int w)), some (.d e), some (.d (.str x)), none, none] R2 = .next [some (.loc 0), some (.d (nmD N)), some (.d (.lst hs)), some (.d (.int w)), some (.d e), some (.d (.str x)), some (.d y), none] R3 := by
  simp [e3, ey]
theorem plain_call (w2 : w ≠ 2) (w5 : w = 5) (e1 : g [.loc 0, .d (nmD N), .d (.int 2)] R = .ok (.d e) R') (e2 : f__law_draw [.loc 0, .d (.int (N.length : Nat))] R' = .ok (.d (.int r)) R2) (ex : atI (N.map D.str) r = some (.str x))
    (e3 : f__law_draw [.loc 0, .d (.int (hs.length : Nat))] R2 = .ok (.d (.int q)) R3) (ey : atI hs q = some (.tup [.str n, .int lo, .int hi, .tup vs, .int (m : Int)])) (hm : m ≤ 3)
    (e4 : lcD (.nm 7) mYes (mFn g (mCons (mVar 0) (mCons (mVar 1) (mCons (mC (.int 1)) mNil)))) [some (.loc 0), some (.d (nmD N)), some (.d (.lst hs)), some (.d (.int w)), some (.d e), some (.d (.str x)), some (.d (.tup [.str n, .int lo, .int hi, .tup vs, .int (m : Int)])), none] (rangeD 0 m) R3 = .ok ys R4) (hR : R4.length = R.length) :
    f__law_plain_row g f__law_draw [.loc 0, .d (nmD N), .d (.lst hs), .d (.int w)] R = .ok (.d (.tup [.str "call", .str x, .str n, .tup ys])) R4 := by
  have tk : R4.take R.length = R4 := by rw [← hR]; exact List.take_length
  have L := lastC_ok (g := g) (b := R.length) hm e4
  have body : b__law_plain_row g f__law_draw R.length [some (.loc 0), some (.d (nmD N)), some (.d (.lst hs)), some (.d (.int w)), none, none, none, none] R = .ret (.d (.tup [.str "call", .str x, .str n, .tup ys])) R4 := by
    unfold b__law_plain_row
    rw [mSeq_, p1 e1, kSeq_n, mSeq_, p2 w2, kSeq_n, mSeq_, p3 e2 ex, kSeq_n, mSeq_, p4 w5, kSeq_n, mSeq_, p5 e3 ey, kSeq_n]
    exact L
  unfold f__law_plain_row
  refine (callM_go (ar := 4) (n := 8) rfl body).trans ?_
  rw [exit_d, tk]
end
theorem plain_ok {N : List Str} (hN : NmOk N) (R : Store) {hs : List D} (hh : ∀ v ∈ hs, IsHead v) (hl : 2 ≤ hs.length ∧ hs.length ≤ 3) (w : Int) {c : Cell} (h : Fd c) :
    ∃ (d : D) (c' : Cell), gPR [.loc 0, .d (nmD N), .d (.lst hs), .d (.int w)] (c :: R) = .ok (.d d) (c' :: R) ∧ Fd c' ∧ rowB d = true := by
  obtain ⟨e, c1, e1, h1, b1⟩ := form2 hN R h
  by_cases w2 : w = 2
  · subst w2
    exact ⟨_, c1, plain_ret e1 rfl, h1, (row_one (w := "return") (.inr (.inr rfl)) b1).1⟩
  · obtain ⟨r, c2, x, e2, h2, ex, hx⟩ := hN.draw R h1
    by_cases w5 : w = 5
    · obtain ⟨q, c3, e3, h3, q0, q1⟩ := draw_ok R h2 (hs.length : Nat) (by omega) (by omega)
      obtain ⟨y, hy, ey⟩ := atI_mem (ds := hs) q0 q1
      obtain ⟨n, lo, hi, vs, m, rfl, ho⟩ := hh y hy
      obtain ⟨m, rfl⟩ : ∃ k : Nat, m = (k : Int) := ⟨m.toNat, by have := ho.m; omega⟩
      have hm := ho.m
      obtain ⟨ys, S', e4, ⟨c4, rfl, h4⟩, l4, b4⟩ := lcD_inv (t := .nm 7) (mt := mYes) (me := mFn (gF 3) (mCons (mVar 0) (mCons (mVar 1) (mCons (mC (.int 1)) mNil))))
        (δ := [some (.loc 0), some (.d (nmD N)), some (.d (.lst hs)), some (.d (.int w)), some (.d e), some (.d (.str x)), some (.d (.tup [.str n, .int lo, .int hi, .tup vs, .int (m : Int)])), none])
        (I := fun S => ∃ c, S = c :: R ∧ Fd c) (P := Bd 10 (Fs 1) 1) (rangeD 0 m) (c3 :: R) ⟨c3, rfl, h3⟩ (fun d hd S hS => by
          obtain ⟨c, rfl, hc⟩ := hS
          obtain ⟨y, c', e', h', b⟩ := form1 hN R hc
          refine ⟨_, rfl, rfl, y, c' :: R, ?_, ⟨c', rfl, h'⟩, b⟩
          simp [e'])
      have lr : (rangeD 0 m).length = m := by unfold rangeD; simp
      rw [lr] at l4
      exact ⟨_, c4, plain_call w2 w5 e1 e2 ex e3 ey (by omega) e4 rfl, h4, (row_call (hN.ok x hx) ho.n (by omega) b4).1⟩
    · exact ⟨_, c2, plain_set w2 w5 e1 e2 ex rfl, h2, (row_set (hN.ok x hx) b1).1⟩
end W

set_option Elab.async false
set_option linter.all false
set_option maxRecDepth 100000
set_option maxHeartbeats 4000000
/-! M01m: blocks -/
namespace W
open DL PySem L2 PyProof.Rows
def pcs (rows : List D) : Nat := (rows.map pc).sum
theorem pcs_app (a b : List D) : pcs (a ++ b) = pcs a + pcs b := by unfold pcs; simp
structure RowsOk (rows : List D) (k : Int) : Prop where
  b : ∀ r ∈ rows, rowB r = true
  l : (rows.length : Int) ≤ 3 * k
  p : (pcs rows : Int) ≤ k
theorem RowsOk.app {a b : List D} {j k : Int} (x : RowsOk a j) (y : RowsOk b k) : RowsOk (a ++ b) (j + k) :=
  ⟨fun r hr => (List.mem_append.mp hr).elim (x.b r) (y.b r), by have := x.l; have := y.l; rw [List.length_append]; omega, by have := x.p; have := y.p; rw [pcs_app]; omega⟩
theorem RowsOk.mono {a : List D} {j k : Int} (x : RowsOk a j) (h : j ≤ k) : RowsOk a k := ⟨x.b, by have := x.l; omega, by have := x.p; omega⟩
def BlkG (N hs : D) (dv : Int) (g : Fn) : Prop := ∀ (R : Store) (c : Cell) (l : Int), Fd c → 0 ≤ l → l ≤ 5 → ∃ (rows : List D) (l' : Int) (c' : Cell), g [.loc 0, .d N, .d hs, .d (.int dv), .d (.int l)] (c :: R) = .ok (.d (.tup [.lst rows, .int l'])) (c' :: R) ∧ Fd c' ∧ 0 ≤ l' ∧ l' ≤ l ∧ RowsOk rows (l - l')
def pre (N hs : D) (dv l : Int) (p : Nat) (tl : List (Option U)) : DEnv := some (.loc 0) :: some (.d N) :: some (.d hs) :: some (.d (.int dv)) :: some (.d (.int l)) :: some (.loc p) :: tl
section
variable {g gf gp : Fn} {N hs row : D} {dv l w : Int} {p b : Nat} {R : Store} {c c' : Cell} {L : List D} {t6 t7 t8 t9 t10 t11 t12 : Option U} {x : D} {S S' : Store}
theorem b1 (e : f__law_draw [.loc 0, .d (.int 7)] S = .ok (.d (.int w)) S') : (mSet 7 (mFn f__law_draw (mCons (mVar 0) (mCons (mC (.int 7)) mNil)))) b (pre N hs dv l p [t6, t7, t8, t9, t10, t11, t12]) S = .next (pre N hs dv l p [t6, some (.d (.int w)), t8, t9, t10, t11, t12]) S' := by
  unfold pre; simp [e]
/-! a plain row -/
theorem c1 (e : gp [.loc 0, .d N, .d hs, .d (.int w)] S = .ok (.d row) S') : (mSet 11 (mFn gp (mCons (mVar 0) (mCons (mVar 1) (mCons (mVar 2) (mCons (mVar 7) mNil)))))) b (pre N hs dv l p [t6, some (.d (.int w)), t8, t9, t10, t11, t12]) S = .next (pre N hs dv l p [t6, some (.d (.int w)), t8, t9, t10, some (.d row), t12]) S' := by
  unfold pre; simp [e]
theorem c2 {ps : List D} (h : rwChk row = some ps) : (mSet 12 (mCall dMax (mCons (mC (.int 1)) (mCons (mCall dLen (mCons (mFn f__law_parts (mCons (mVar 11) mNil)) mNil)) mNil)))) b (pre N hs dv l p [t6, t7, t8, t9, t10, some (.d row), t12]) S = .next (pre N hs dv l p [t6, t7, t8, t9, t10, some (.d row), some (.d (.int (if (ps.length : Int) > 1 then (ps.length : Int) else 1)))]) S := by
  unfold pre; simp [parts_ok h]
theorem c3y {s : Int} (h : s ≤ l) (hL : L.length < sizeLine) : (mIfS (mTest (m2 dLe (mVar 12) (mVar 4))) (mSeq (mExpr (mMeth isL aAppend (mVar 5) (mCons (mVar 11) mNil)))
    (mSet 4 (m2 dSub (mVar 4) (mVar 12)))) mSkip) b (pre N hs dv l (R.length + 1) [t6, t7, t8, t9, t10, some (.d row), some (.d (.int s))]) (c :: (R ++ [.lst L])) = .next (pre N hs dv (l - s) (R.length + 1) [t6, t7, t8, t9, t10, some (.d row), some (.d (.int s))]) (c :: (R ++ [.lst (L ++ [row])])) := by
  unfold pre; simp [h, aAppend, hL]
theorem c3n {s : Int} {m' : MS} (h : ¬ s ≤ l) : (mIfS (mTest (m2 dLe (mVar 12) (mVar 4))) m' mSkip) b (pre N hs dv l p [t6, t7, t8, t9, t10, some (.d row), some (.d (.int s))]) S = .next (pre N hs dv l p [t6, t7, t8, t9, t10, some (.d row), some (.d (.int s))]) S := by
  unfold pre; simp [h]
/-! a block within -/
theorem d1 {wd : Str} (e : atI [D.str "if", .str "while"] (w - 3) = some (.str wd)) : (mPar [8, 9] (mCons (m2 dIx (mLst (mCons (mC (.str "if")) (mCons (mC (.str "while")) mNil))) (m2 dSub (mVar 7) (mC (.int 3)))) (mCons (mLst mNil) mNil))) b (pre N hs dv l p [t6, some (.d (.int w)), t8, t9, t10, t11, t12]) S = .next (pre N hs dv l p [t6, some (.d (.int w)), some (.d (.str wd)), some (.d (.lst [])), t10, t11, t12]) S := by
  have s2 : 2 ≤ sizeLine := by decide
  unfold pre; simp [e, s2]
theorem d2 {rows : List D} {l' : Int} (e : g [.loc 0, .d N, .d hs, .d (.int (dv - 1)), .d (.int (l - 1))] S = .ok (.d (.tup [.lst rows, .int l'])) S') : (mAsg (mFn g (mCons (mVar 0) (mCons (mVar 1) (mCons (mVar 2) (mCons (m2 dSub (mVar 3) (mC (.int 1))) (mCons (m2 dSub (mVar 4) (mC (.int 1))) mNil)))))) (.tp [10, 4])) b (pre N hs dv l p [t6, t7, t8, t9, t10, t11, t12]) S = .next (pre N hs dv l' p [t6, t7, t8, t9, some (.d (.lst rows)), t11, t12]) S' := by
  unfold pre; simp [e, Tg.apply, setAll]
theorem d3a {rows : List D} {l' : Int} (e : g [.loc 0, .d N, .d hs, .d (.int (dv - 1)), .d (.int l)] S = .ok (.d (.tup [.lst rows, .int l'])) S') : (mAsg (mFn g (mCons (mVar 0) (mCons (mVar 1) (mCons (mVar 2) (mCons (m2 dSub (mVar 3) (mC (.int 1))) (mCons (mVar 4) mNil)))))) (.tp [9, 4])) b (pre N hs dv l p [t6, t7, t8, t9, t10, t11, t12]) S = .next (pre N hs dv l' p [t6, t7, t8, some (.d (.lst rows)), t10, t11, t12]) S' := by
  unfold pre; simp [e, Tg.apply, setAll]
theorem d3b {rows : List D} (h : 1 + rows.length ≤ sizeLine) : (mSet 9 (m2 dAdd (mLst (mCons (mTup (mCons (mC (.str "else")) mNil)) mNil)) (mVar 9))) b (pre N hs dv l p [t6, t7, t8, some (.d (.lst rows)), t10, t11, t12]) S = .next (pre N hs dv l p [t6, t7, t8, some (.d (.lst (.tup [.str "else"] :: rows))), t10, t11, t12]) S := by
  have s1 : 1 ≤ sizeLine := by decide
  unfold pre; simp [s1, h]
theorem d3t {r : Int} {m' : MS} (e : f__law_draw [.loc 0, .d (.int 2)] S = .ok (.d (.int r)) S') : (mIfS (mAndT (mTest (m2 dEq (mVar 8) (mC (.str "if")))) (mTest (m2 dEq (mFn f__law_draw (mCons (mVar 0) (mCons (mC (.int 2)) mNil))) (mC (.int 0))))) m' mSkip) b (pre N hs dv l p [t6, t7, some (.d (.str "if")), t9, t10, t11, t12]) S =
    if r = 0 then m' b (pre N hs dv l p [t6, t7, some (.d (.str "if")), t9, t10, t11, t12]) S' else .next (pre N hs dv l p [t6, t7, some (.d (.str "if")), t9, t10, t11, t12]) S' := by
  unfold pre
  by_cases h : r = 0 <;> simp [e, h]
theorem d3f {m' : MS} : (mIfS (mAndT (mTest (m2 dEq (mVar 8) (mC (.str "if")))) (mTest (m2 dEq (mFn f__law_draw (mCons (mVar 0) (mCons (mC (.int 2)) mNil))) (mC (.int 0))))) m' mSkip) b (pre N hs dv l p [t6, t7, some (.d (.str "while")), t9, t10, t11, t12]) S = .next (pre N hs dv l p [t6, t7, some (.d (.str "while")), t9, t10, t11, t12]) S := by
  unfold pre; simp
theorem d4 {wd : Str} {ri rm : List D} {e : D} (ef : gf [.loc 0, .d N, .d (.int 2)] (c :: (R ++ [.lst L])) = .ok (.d e) (c' :: (R ++ [.lst L]))) (h1 : 1 + ri.length ≤ sizeLine) (h2 : 1 + ri.length + rm.length ≤ sizeLine) (h3 : 1 + ri.length + rm.length + 1 ≤ sizeLine) (h4 : L.length + (1 + ri.length + rm.length + 1) ≤ sizeLine) :
    (mExpr (mMeth isL aExtend (mVar 5) (mCons (m2 dAdd (m2 dAdd (m2 dAdd (mLst (mCons (mTup (mCons (mVar 8) (mCons (mFn gf (mCons (mVar 0) (mCons (mVar 1) (mCons (mC (.int 2)) mNil)))) mNil))) mNil)) (mVar 10)) (mVar 9)) (mLst (mCons (mTup (mCons (mC (.str "end")) mNil)) mNil))) mNil))) b (pre N hs dv l (R.length + 1) [t6, t7, some (.d (.str wd)), some (.d (.lst rm)), some (.d (.lst ri)), t11, t12]) (c :: (R ++ [.lst L])) =
    .next (pre N hs dv l (R.length + 1) [t6, t7, some (.d (.str wd)), some (.d (.lst rm)), some (.d (.lst ri)), t11, t12]) (c' :: (R ++ [.lst (L ++ ([.tup [.str wd, e]] ++ ri ++ rm ++ [.tup [.str "end"]]))])) := by
  have s1 : 1 ≤ sizeLine := by decide
  have s2 : 2 ≤ sizeLine := by decide
  have E : ∀ δ S, (mLst (mCons (mTup (mCons (mC (.str "end")) mNil)) mNil)) δ S = .ok (.d (.lst [.tup [.str "end"]])) S := fun δ S => by simp [s1]
  have A : (mLst (mCons (mTup (mCons (mVar 8) (mCons (mFn gf (mCons (mVar 0) (mCons (mVar 1) (mCons (mC (.int 2)) mNil)))) mNil))) mNil)) (pre N hs dv l (R.length + 1) [t6, t7, some (.d (.str wd)), some (.d (.lst rm)), some (.d (.lst ri)), t11, t12]) (c :: (R ++ [.lst L])) = .ok (.d (.lst [.tup [.str wd, e]])) (c' :: (R ++ [.lst L])) := by
    unfold pre; simp [ef, s1, s2]
  have B : (m2 dAdd (m2 dAdd (m2 dAdd (mLst (mCons (mTup (mCons (mVar 8) (mCons (mFn gf (mCons (mVar 0) (mCons (mVar 1) (mCons (mC (.int 2)) mNil)))) mNil))) mNil)) (mVar 10)) (mVar 9)) (mLst (mCons (mTup (mCons (mC (.str "end")) mNil)) mNil))) (pre N hs dv l (R.length + 1) [t6, t7, some (.d (.str wd)), some (.d (.lst rm)), some (.d (.lst ri)), t11, t12]) (c :: (R ++ [.lst L])) = .ok (.d (.lst ([.tup [.str wd, e]] ++ ri ++ rm ++ [.tup [.str "end"]]))) (c' :: (R ++ [.lst L])) := by
    rw [m2_, m2_, m2_, A]
    unfold pre
    have l1 : ([D.tup [.str wd, e]] : List D).length + ri.length ≤ sizeLine := h1
    have l2 : ([D.tup [.str wd, e]] ++ ri).length + rm.length ≤ sizeLine := by rw [List.length_append]; exact h2
    have l3 : ([D.tup [.str wd, e]] ++ ri ++ rm).length + ([D.tup [.str "end"]] : List D).length ≤ sizeLine := by rw [List.length_append, List.length_append]; exact h3
    simp only [k2a_, mVar_s, mVar_0, k2b_, peek_d, dAdd_l, if_pos l1, Option.map_some, lift_some, if_pos l2]
    rw [E]
    simp only [k2b_, peek_d, dAdd_l, if_pos l3, Option.map_some, lift_some]
  rw [mExpr_, mMeth_]
  have V : mVar 5 (pre N hs dv l (R.length + 1) [t6, t7, some (.d (.str wd)), some (.d (.lst rm)), some (.d (.lst ri)), t11, t12]) (c :: (R ++ [.lst L])) = .ok (.loc (R.length + 1)) (c :: (R ++ [.lst L])) := rfl
  have G : ∀ (c : Cell) (M : List D), (c :: (R ++ [Cell.lst M]))[R.length + 1]? = some (.lst M) := fun c M => by simp
  rw [V, kM1_, G]
  simp only [isL, if_true]
  rw [mCons_, B, kC1_, mNil_, kC2_, kM2_, G]
  have l4 : L.length + ([D.tup [.str wd, e]] ++ ri ++ rm ++ [D.tup [.str "end"]]).length ≤ sizeLine := by
    rw [List.length_append, List.length_append, List.length_append]; exact h4
  have X : aExtend (c' :: (R ++ [Cell.lst L])) (.lst L) [.d (.lst ([.tup [.str wd, e]] ++ ri ++ rm ++ [.tup [.str "end"]]))] = some (.non, .lst (L ++ ([.tup [.str wd, e]] ++ ri ++ rm ++ [.tup [.str "end"]]))) := by
    unfold aExtend
    simp only [peek_d]
    first | rw [if_pos l4] | (simp [l4])
  dsimp only
  rw [X]
  simp only [kExpr_]
  congr 1
  simp
end
end W

set_option Elab.async false
set_option linter.all false
set_option maxRecDepth 100000
set_option maxHeartbeats 4000000
/-! M01n: one turn of a block, blocks -/
namespace W
open DL PySem L2 PyProof.Rows
theorem dIn34 (w : Int) : dIn (.int w) (.tup [.int 3, .int 4]) = some (.bl (decide (w = 3 ∨ w = 4))) := by
  show (match DL.asV (.int w), DL.asVs [.int 3, .int 4] with | some v, some vs => some (inV v vs) | _, _ => none).map D.bl = _
  have e : DL.asVs [.int 3, .int 4] = some [.int 3, .int 4] := rfl
  rw [e]
  show some (D.bl (inV (.int w) [.int 3, .int 4])) = _
  have q : inV (.int w) [.int 3, .int 4] = decide (w = 3 ∨ w = 4) := by
    have ei : ∀ i j : Int, eqV (V.int i) (V.int j) = decide (i = j) := fun i j => by
      unfold eqV
      first | rfl | simp
    unfold inV
    rw [List.any_cons, List.any_cons, List.any_nil, ei, ei, Bool.or_false, Bool.eq_iff_iff]
    simp only [Bool.or_eq_true, decide_eq_true_eq]
    exact ⟨fun z => z.elim (fun h => .inl h.symm) fun h => .inr h.symm, fun z => z.elim (fun h => .inl h.symm) fun h => .inr h.symm⟩
  rw [q]
def cnd : MT := mAndT (mTest (m2 dIn (mVar 7) (mTup (mCons (mC (.int 3)) (mCons (mC (.int 4)) mNil))))) (mAndT (mTest (m2 dGt (mVar 3) (mC (.int 0)))) (mTest (m2 dGt (mVar 4) (mC (.int 0)))))
def brA (g gf : Fn) : MS := (mSeq (mPar [8, 9] (mCons (m2 dIx (mLst (mCons (mC (.str "if")) (mCons (mC (.str "while")) mNil))) (m2 dSub (mVar 7) (mC (.int 3)))) (mCons (mLst mNil) mNil)))
    (mSeq (mAsg (mFn g (mCons (mVar 0) (mCons (mVar 1) (mCons (mVar 2) (mCons (m2 dSub (mVar 3) (mC (.int 1))) (mCons (m2 dSub (mVar 4) (mC (.int 1))) mNil)))))) (.tp [10, 4]))
    (mSeq (mIfS (mAndT (mTest (m2 dEq (mVar 8) (mC (.str "if")))) (mTest (m2 dEq (mFn f__law_draw (mCons (mVar 0) (mCons (mC (.int 2)) mNil))) (mC (.int 0))))) (mSeq (mAsg (mFn g (mCons (mVar 0) (mCons (mVar 1) (mCons (mVar 2) (mCons (m2 dSub (mVar 3) (mC (.int 1))) (mCons (mVar 4) mNil)))))) (.tp [9, 4]))
    (mSet 9 (m2 dAdd (mLst (mCons (mTup (mCons (mC (.str "else")) mNil)) mNil)) (mVar 9)))) mSkip)
    (mExpr (mMeth isL aExtend (mVar 5) (mCons (m2 dAdd (m2 dAdd (m2 dAdd (mLst (mCons (mTup (mCons (mVar 8) (mCons (mFn gf (mCons (mVar 0) (mCons (mVar 1) (mCons (mC (.int 2)) mNil)))) mNil))) mNil)) (mVar 10)) (mVar 9)) (mLst (mCons (mTup (mCons (mC (.str "end")) mNil)) mNil))) mNil))))))
def brB (gp : Fn) : MS := (mSeq (mSet 11 (mFn gp (mCons (mVar 0) (mCons (mVar 1) (mCons (mVar 2) (mCons (mVar 7) mNil))))))
    (mSeq (mSet 12 (mCall dMax (mCons (mC (.int 1)) (mCons (mCall dLen (mCons (mFn f__law_parts (mCons (mVar 11) mNil)) mNil)) mNil))))
    (mIfS (mTest (m2 dLe (mVar 12) (mVar 4))) (mSeq (mExpr (mMeth isL aAppend (mVar 5) (mCons (mVar 11) mNil)))
    (mSet 4 (m2 dSub (mVar 4) (mVar 12)))) mSkip)))
def bTurn (g gf gp : Fn) : MS := mSeq (mSet 7 (mFn f__law_draw (mCons (mVar 0) (mCons (mC (.int 7)) mNil)))) (mIfS cnd (brA g gf) (brB gp))
theorem cnd_ok {N hs : D} {dv l w : Int} {p : Nat} {t6 t8 t9 t10 t11 t12 : Option U} {S : Store} : cnd (pre N hs dv l p [t6, some (.d (.int w)), t8, t9, t10, t11, t12]) S = .ok (decide ((w = 3 ∨ w = 4) ∧ 0 < dv ∧ 0 < l)) S := by
  have s2 : 2 ≤ sizeLine := by decide
  unfold cnd pre
  by_cases h1 : w = 3 ∨ w = 4
  · by_cases h2 : 0 < dv
    · by_cases h3 : 0 < l <;> simp [s2, dIn34, h1, h2, h3]
    · simp [s2, dIn34, h1, h2]
  · simp [s2, dIn34, h1]
section
variable {N : List Str} {hs : List D} {dv left : Int} {g : Fn}
/-- what a turn leaves -/
def After (R : Store) (N hs : D) (dv left : Int) (b : Nat) (r : SR) : Prop := ∃ (c : Cell) (L : List D) (l : Int) (t6 t7 t8 t9 t10 t11 t12 : Option U), r = .next (pre N hs dv l (R.length + 1) [t6, t7, t8, t9, t10, t11, t12]) (c :: (R ++ [.lst L])) ∧ Fd c ∧ 0 ≤ l ∧ l ≤ left ∧ RowsOk L (left - l)
theorem brB_ok (hN : NmOk N) (hh : ∀ v ∈ hs, IsHead v) (hl : 2 ≤ hs.length ∧ hs.length ≤ 3) (R : Store) {c : Cell} {L : List D} {l w : Int} {b : Nat} {t6 t8 t9 t10 t11 t12 : Option U} (hc : Fd c) (h0 : 0 ≤ l) (h1 : l ≤ left) (h5 : left ≤ 5) (hr : RowsOk L (left - l)) :
    After R (nmD N) (.lst hs) dv left b (brB gPR b (pre (nmD N) (.lst hs) dv l (R.length + 1) [t6, some (.d (.int w)), t8, t9, t10, t11, t12]) (c :: (R ++ [.lst L]))) := by
  obtain ⟨row, cc, e, h2, hb⟩ := plain_ok hN (R ++ [.lst L]) hh hl w hc
  obtain ⟨ps, hp, br, bp⟩ := rowB_iff.mp hb
  have pcr : pc row = ps.length := by unfold pc; rw [hp]
  unfold brB
  rw [mSeq_, c1 e, kSeq_n, mSeq_, c2 hp, kSeq_n]
  generalize hs' : (if (ps.length : Int) > 1 then (ps.length : Int) else 1) = s
  have s1 : 1 ≤ s ∧ (ps.length : Int) ≤ s := by rw [← hs']; split <;> omega
  by_cases hsl : s ≤ l
  · have hL : L.length < sizeLine := by have := hr.l; rw [sizeLine_eq]; omega
    rw [c3y hsl hL]
    refine ⟨_, _, _, _, _, _, _, _, _, _, rfl, h2, by omega, by omega, ?_⟩
    have q : RowsOk [row] s := ⟨fun r hr => by rw [List.mem_singleton.mp hr]; exact hb, by simp; omega, by unfold pcs; simp [pcr]; omega⟩
    exact (hr.app q).mono (by omega)
  · rw [c3n hsl]
    exact ⟨_, _, _, _, _, _, _, _, _, _, rfl, h2, h0, h1, hr⟩
theorem brA_ok (hN : NmOk N) (hg : BlkG (nmD N) (.lst hs) (dv - 1) g) (R : Store) {c : Cell} {L : List D} {l w : Int} {b : Nat} {t6 t8 t9 t10 t11 t12 : Option U} (hw : w = 3 ∨ w = 4) (hc : Fd c) (h0 : 0 < l) (h1 : l ≤ left) (h5 : left ≤ 5) (hr : RowsOk L (left - l)) :
    After R (nmD N) (.lst hs) dv left b (brA g (gF 3) b (pre (nmD N) (.lst hs) dv l (R.length + 1) [t6, some (.d (.int w)), t8, t9, t10, t11, t12]) (c :: (R ++ [.lst L]))) := by
  obtain ⟨wd, hwd, ew⟩ : ∃ wd : Str, (wd = "if" ∨ wd = "while") ∧ atI [D.str "if", .str "while"] (w - 3) = some (.str wd) := by
    rcases hw with rfl | rfl
    · exact ⟨"if", .inl rfl, rfl⟩
    · exact ⟨"while", .inr rfl, rfl⟩
  obtain ⟨ri, l1, c2, e2, h2, l10, l11, ok1⟩ := hg (R ++ [.lst L]) c (l - 1) hc (by omega) (by omega)
  have lri := ok1.l
  unfold brA
  rw [mSeq_, d1 ew, kSeq_n, mSeq_, d2 e2, kSeq_n, mSeq_]
  -- the rows of the else part
  have mid : ∃ (rm : List D) (l2 : Int) (c3 : Cell), (mIfS (mAndT (mTest (m2 dEq (mVar 8) (mC (.str "if")))) (mTest (m2 dEq (mFn f__law_draw (mCons (mVar 0) (mCons (mC (.int 2)) mNil))) (mC (.int 0))))) (mSeq (mAsg (mFn g (mCons (mVar 0) (mCons (mVar 1) (mCons (mVar 2) (mCons (m2 dSub (mVar 3) (mC (.int 1))) (mCons (mVar 4) mNil)))))) (.tp [9, 4]))
      (mSet 9 (m2 dAdd (mLst (mCons (mTup (mCons (mC (.str "else")) mNil)) mNil)) (mVar 9)))) mSkip) b (pre (nmD N) (.lst hs) dv l1 (R.length + 1) [t6, some (.d (.int w)), some (.d (.str wd)), some (.d (.lst [])), some (.d (.lst ri)), t11, t12]) (c2 :: (R ++ [.lst L])) =
      .next (pre (nmD N) (.lst hs) dv l2 (R.length + 1) [t6, some (.d (.int w)), some (.d (.str wd)), some (.d (.lst rm)), some (.d (.lst ri)), t11, t12]) (c3 :: (R ++ [.lst L])) ∧ Fd c3 ∧ 0 ≤ l2 ∧ l2 ≤ l1 ∧ (∀ r ∈ rm, rowB r = true) ∧ (rm.length : Int) ≤ 3 * (l1 - l2) + 1 ∧ (pcs rm : Int) ≤ l1 - l2 := by
    rcases hwd with rfl | rfl
    · obtain ⟨r, c3, e3, h3, _, _⟩ := draw_ok (R ++ [.lst L]) h2 2 (by decide) (by decide)
      rw [d3t e3]
      by_cases hr0 : r = 0
      · rw [if_pos hr0]
        obtain ⟨rm, l2, c4, e4, h4, l20, l21, ok2⟩ := hg (R ++ [.lst L]) c3 l1 h3 l10 (by omega)
        have lrm := ok2.l
        rw [mSeq_, d3a e4, kSeq_n, d3b (by rw [sizeLine_eq]; omega)]
        refine ⟨_, _, _, rfl, h4, l20, l21, fun r hr => ?_, by simp only [List.length_cons]; omega, ?_⟩
        · rcases List.mem_cons.mp hr with rfl | hr
          · exact row_else.1
          · exact ok2.b r hr
        · have := ok2.p
          unfold pcs at this ⊢
          simp only [List.map_cons, List.sum_cons, row_else.2]
          omega
      · rw [if_neg hr0]
        exact ⟨_, _, _, rfl, h3, l10, Int.le_refl _, fun r hr => (by cases hr), by simp, by simp [pcs]⟩
    · rw [d3f]
      exact ⟨_, _, _, rfl, h2, l10, Int.le_refl _, fun r hr => (by cases hr), by simp, by simp [pcs]⟩
  obtain ⟨rm, l2, c3, e3, h3, l20, l21, bm, lm, pm⟩ := mid
  rw [e3, kSeq_n]
  obtain ⟨e, c4, e4, h4, b4⟩ := form2 hN (R ++ [.lst L]) h3
  have hLl := hr.l
  rw [d4 e4 (by rw [sizeLine_eq]; omega) (by rw [sizeLine_eq]; omega) (by rw [sizeLine_eq]; omega) (by rw [sizeLine_eq]; omega)]
  refine ⟨_, _, _, _, _, _, _, _, _, _, rfl, h4, l20, by omega, ?_⟩
  have w1 : rowB (.tup [.str wd, e]) = true ∧ pc (.tup [.str wd, e]) = 1 := by
    rcases hwd with rfl | rfl
    · exact row_one (w := "if") (.inl rfl) b4
    · exact row_one (w := "while") (.inr (.inl rfl)) b4
  have q : RowsOk ([.tup [.str wd, e]] ++ ri ++ rm ++ [.tup [.str "end"]]) (l - l2) := by
    refine ⟨fun r hr => ?_, ?_, ?_⟩
    · simp only [List.mem_append, List.mem_singleton] at hr
      rcases hr with ((rfl | hr) | hr) | rfl
      · exact w1.1
      · exact ok1.b r hr
      · exact bm r hr
      · exact row_end.1
    · simp only [List.length_append, List.length_singleton]; omega
    · have := ok1.p
      rw [pcs_app, pcs_app, pcs_app]
      have a1 : pcs [.tup [.str wd, e]] = 1 := by unfold pcs; simp [w1.2]
      have a2 : pcs [.tup [.str "end"]] = 0 := by unfold pcs; simp [row_end.2]
      rw [a1, a2]; omega
  exact (hr.app q).mono (by omega)
theorem bTurn_ok (hN : NmOk N) (hh : ∀ v ∈ hs, IsHead v) (hl : 2 ≤ hs.length ∧ hs.length ≤ 3) (hg : 0 < dv → BlkG (nmD N) (.lst hs) (dv - 1) g) (R : Store) {c : Cell} {L : List D} {l : Int} {b : Nat} {t6 t7 t8 t9 t10 t11 t12 : Option U} (hc : Fd c) (h0 : 0 ≤ l) (h1 : l ≤ left) (h5 : left ≤ 5) (hr : RowsOk L (left - l)) :
    After R (nmD N) (.lst hs) dv left b (bTurn g (gF 3) gPR b (pre (nmD N) (.lst hs) dv l (R.length + 1) [t6, t7, t8, t9, t10, t11, t12]) (c :: (R ++ [.lst L]))) := by
  obtain ⟨w, c1, e1, h1', _, _⟩ := draw_ok (R ++ [.lst L]) hc 7 (by decide) (by decide)
  unfold bTurn
  rw [mSeq_, b1 e1, kSeq_n, mIfS_, cnd_ok, kIfS_]
  by_cases hw : (w = 3 ∨ w = 4) ∧ 0 < dv ∧ 0 < l
  · rw [if_pos (decide_eq_true hw)]
    exact brA_ok hN (hg hw.2.1) R hw.1 h1' hw.2.2 h1 h5 hr
  · rw [if_neg (by rw [decide_eq_false hw]; exact Bool.false_ne_true)]
    exact brB_ok hN hh hl R h1' h0 h1 h5 hr
theorem pre_trim {N hs : D} {dv l : Int} {n b : Nat} {S : Store} {tl : List (Option U)} (hb : n < b) : trimE b S (pre N hs dv l n tl) = pre N hs dv l n (trimE b S tl) := by
  have h0 : 0 < b := by omega
  unfold pre trimE
  simp [trimU, hb, h0]
theorem blk_loop (hN : NmOk N) (hh : ∀ v ∈ hs, IsHead v) (hl : 2 ≤ hs.length ∧ hs.length ≤ 3) (hg : 0 < dv → BlkG (nmD N) (.lst hs) (dv - 1) g) (R : Store) {c : Cell} (hc : Fd c) (h0 : 0 ≤ left) (h5 : left ≤ 5) (ds : List D) :
    ∃ (c' : Cell) (L : List D) (l : Int) (tl : List (Option U)), forD (.nm 6) (bTurn g (gF 3) gPR) (R.length + 1 + 1) ds (pre (nmD N) (.lst hs) dv left (R.length + 1) [none, none, none, none, none, none, none]) (c :: (R ++ [.lst []])) = .next (pre (nmD N) (.lst hs) dv l (R.length + 1) tl) (c' :: (R ++ [.lst L])) ∧ Fd c' ∧ 0 ≤ l ∧ l ≤ left ∧ RowsOk L (left - l) := by
  obtain ⟨δ', S', e, c', L, l, tl, rfl, rfl, _, h1, h2, h3, h4⟩ := forD_inv (t := .nm 6) (m := bTurn g (gF 3) gPR) (b := R.length + 1 + 1) (I := fun δ S => ∃ (c : Cell) (L : List D) (l : Int) (tl : List (Option U)), δ = pre (nmD N) (.lst hs) dv l (R.length + 1) tl ∧ S = c :: (R ++ [.lst L]) ∧ tl.length = 7 ∧ Fd c ∧ 0 ≤ l ∧ l ≤ left ∧ RowsOk L (left - l))
    ds (pre (nmD N) (.lst hs) dv left (R.length + 1) [none, none, none, none, none, none, none]) (c :: (R ++ [.lst []])) ⟨c, [], left, _, rfl, rfl, rfl, hc, h0, Int.le_refl _, fun r hr => (by cases hr), by simp, by simp [pcs]⟩ (fun d _ δ S hI => by
      obtain ⟨c, L, l, tl, rfl, rfl, h7, hc, l0, l1, hr⟩ := hI
      obtain ⟨t6, t7, t8, t9, t10, t11, t12, rfl⟩ : ∃ t6 t7 t8 t9 t10 t11 t12, tl = [t6, t7, t8, t9, t10, t11, t12] := by
        match tl, h7 with
        | [a, b, c, d, e, f, g], _ => exact ⟨a, b, c, d, e, f, g, rfl⟩
      refine ⟨pre (nmD N) (.lst hs) dv l (R.length + 1) [some (.d d), t7, t8, t9, t10, t11, t12], rfl, ?_⟩
      obtain ⟨c', L', l', u6, u7, u8, u9, u10, u11, u12, e, hc', l0', l1', hr'⟩ := bTurn_ok hN hh hl hg R (b := R.length + 1 + 1) (t6 := some (.d d)) (t7 := t7) (t8 := t8) (t9 := t9) (t10 := t10) (t11 := t11) (t12 := t12) hc l0 l1 h5 hr
      refine ⟨_, _, e, c', L', l', trimE (R.length + 1 + 1) (c' :: (R ++ [.lst L'])) [u6, u7, u8, u9, u10, u11, u12], pre_trim (by omega), by simp, by simp [trimE], hc', l0', l1', hr'⟩)
  exact ⟨c', L, l, tl, e, h1, h2, h3, h4⟩
theorem block_go (hN : NmOk N) (hh : ∀ v ∈ hs, IsHead v) (hl : 2 ≤ hs.length ∧ hs.length ≤ 3) (hg : 0 < dv → BlkG (nmD N) (.lst hs) (dv - 1) g) : BlkG (nmD N) (.lst hs) dv (f__law_block f__law_draw g (gF 3) gPR f__law_parts) := by
  intro R c l hc h0 h5
  obtain ⟨r, c1, e1, h1, r0, r1⟩ := draw_ok (R ++ [.lst []]) hc 3 (by decide) (by decide)
  obtain ⟨k, rfl⟩ : ∃ k : Nat, r = (k : Int) := ⟨r.toNat, by omega⟩
  obtain ⟨c', L, l', tl, e, hc', l0, l1, hr⟩ := blk_loop hN hh hl hg R h1 h0 h5 (rangeD 0 (1 + k))
  refine ⟨L, l', c', ?_, hc', l0, l1, hr⟩
  have body : b__law_block f__law_draw g (gF 3) gPR f__law_parts (c :: R).length [some (.loc 0), some (.d (nmD N)), some (.d (.lst hs)), some (.d (.int dv)), some (.d (.int l)), none, none, none, none, none, none, none, none] (c :: R) = .ret (.d (.tup [.lst L, .int l'])) (c' :: R) := by
    have st1 : (mSet 5 (mLstC mNil)) (c :: R).length [some (.loc 0), some (.d (nmD N)), some (.d (.lst hs)), some (.d (.int dv)), some (.d (.int l)), none, none, none, none, none, none, none, none] (c :: R) = .next (pre (nmD N) (.lst hs) dv l (R.length + 1) [none, none, none, none, none, none, none]) (c :: (R ++ [.lst []])) := by
      unfold pre; simp
    have st2 : (mRange1 (m2 dAdd (mC (.int 1)) (mFn f__law_draw (mCons (mVar 0) (mCons (mC (.int 3)) mNil))))) (pre (nmD N) (.lst hs) dv l (R.length + 1) [none, none, none, none, none, none, none]) (c :: (R ++ [.lst []])) = .ok (rangeD 0 (1 + k)) (c1 :: (R ++ [.lst []])) := by
      have z : (1 : Int) + (k : Int) = ((1 + k : Nat) : Int) := by omega
      have q : (m2 dAdd (mC (.int 1)) (mFn f__law_draw (mCons (mVar 0) (mCons (mC (.int 3)) mNil)))) (pre (nmD N) (.lst hs) dv l (R.length + 1) [none, none, none, none, none, none, none]) (c :: (R ++ [.lst []])) = .ok (.d (.int ((1 + k : Nat) : Int))) (c1 :: (R ++ [.lst []])) := by
        rw [← z]; unfold pre; simp [e1]
      rw [mRange1_, q]
      exact kR1_n _ _ (by omega)
    have st3 : (mFz (mRet (mTup (mCons (mVar 5) (mCons (mVar 4) mNil))))) (c :: R).length (pre (nmD N) (.lst hs) dv l' (R.length + 1) tl) (c' :: (R ++ [.lst L])) = .ret (.d (.tup [.lst L, .int l'])) (c' :: R) := by
      have s2 : 2 ≤ sizeLine := by decide
      have tr : trimE (c :: R).length (c' :: (R ++ [.lst L])) (pre (nmD N) (.lst hs) dv l' (R.length + 1) tl) = some (.loc 0) :: some (.d (nmD N)) :: some (.d (.lst hs)) :: some (.d (.int dv)) :: some (.d (.int l')) :: some (.d (.lst L)) :: trimE (c :: R).length (c' :: (R ++ [.lst L])) tl := by
        unfold pre trimE
        simp [trimU, peek]
      have tk : (c' :: (R ++ [Cell.lst L])).take (c :: R).length = c' :: R := by simp
      rw [mFz_, tr, tk]
      simp [s2]
    unfold b__law_block
    rw [mSeq_, st1, kSeq_n, mSeq_, mFor_, st2, kFor_]
    have lb : (c1 :: (R ++ [Cell.lst []])).length = R.length + 1 + 1 := by simp
    rw [lb]
    unfold bTurn cnd brA brB at e
    rw [e, kSeq_n, st3]
  unfold f__law_block
  refine (callM_go (ar := 5) (n := 13) rfl body).trans ?_
  rw [exit_d]
  simp
def gBk : Nat → Fn
  | 0 => fun _ _ => .stuck
  | n + 1 => f__law_block f__law_draw (gBk n) (gF 3) gPR f__law_parts
theorem block_ok (hN : NmOk N) (hh : ∀ v ∈ hs, IsHead v) (hl : 2 ≤ hs.length ∧ hs.length ≤ 3) : BlkG (nmD N) (.lst hs) 2 (gBk 3) := by
  have h0 : BlkG (nmD N) (.lst hs) 0 (gBk 1) := block_go hN hh hl fun z => absurd z (by decide)
  have h1 : BlkG (nmD N) (.lst hs) 1 (gBk 2) := block_go hN hh hl fun _ => h0
  exact block_go hN hh hl fun _ => h1
end
end W

set_option Elab.async false
set_option linter.all false
set_option maxRecDepth 100000
set_option maxHeartbeats 4000000
/-! M01o: programs, their parts -/
namespace W
open DL PySem L2 PyProof.Rows
def nameOf : D → Str
  | .tup (.str x :: _) => x
  | _ => ""
theorem name_lc {t : Tg} {i : Nat} {δ : DEnv} {S : Store} {vs : List D} (hv : ∀ v ∈ vs, varB v = true) (ht : ∀ d, ∃ δ1, t.apply (.d d) δ = some δ1 ∧ mVar i δ1 S = .ok (.d d) S) : lcD t mYes (m2 dIx (mVar i) (mC (.int 0))) δ vs S = .ok ((vs.map nameOf).map D.str) S := by
  have := lcD_pure (t := t) (mt := mYes) (me := m2 dIx (mVar i) (mC (.int 0))) (δ := δ) (S := S) (c := fun _ => true) (f := fun v => .str (nameOf v)) vs fun v hv' => by
    obtain ⟨x, a, b, rfl, _⟩ := varB_cases (hv v hv')
    obtain ⟨δ1, h1, h2⟩ := ht (.tup [.str x, .int a, .int b])
    refine ⟨δ1, h1, rfl, fun _ => ?_⟩
    rw [m2_, h2, k2a_, mC_, k2b_]
    simp [nameOf]
  rw [this]
  have ft : vs.filter (fun _ => true) = vs := List.filter_eq_self.mpr fun _ _ => rfl
  rw [ft, List.map_map]; rfl
theorem names_nm {vs : List D} (hv : ∀ v ∈ vs, varB v = true) (h1 : 1 ≤ vs.length) (h3 : vs.length ≤ 10) : NmOk (vs.map nameOf) := by
  refine ⟨fun e => ?_, by rw [List.length_map]; exact h3, fun x hx => ?_⟩
  · have := congrArg List.length e
    rw [List.length_map, List.length_nil] at this; omega
  · obtain ⟨v, hv', rfl⟩ := List.mem_map.mp hx
    obtain ⟨x, a, b, rfl, ha, hl, _⟩ := varB_cases (hv v hv')
    exact ⟨ha, hl⟩
structure FunOk (vs rows : List D) (lo : Int) : Prop where
  hlo : lo.natAbs ≤ 60
  hvs : ∀ v ∈ vs, varB v = true
  vl : vs.length ≤ 10
  hrows : ∀ r ∈ rows, rowB r = true
  rl : rows.length ≤ 30
  rp : pcs rows ≤ 30
def IsFun (f : D) : Prop := ∃ n lo hi vs m rows, f = .tup [.str n, .int lo, .int hi, .tup vs, .int m, .tup rows] ∧ FunOk vs rows lo
def IsProg (p : D) : Prop := ∃ fs r, p = .tup (.tup fs :: r) ∧ fs ≠ [] ∧ fs.length ≤ 3 ∧ ∀ f ∈ fs, IsFun f
def pBody : MS := mSeq (mSet 4 (mCall dTuple (mCons (mLc (mSeqI (m2 dIx (mVar 3) (mC (.int 3)))) (.nm 5) mYes (m2 dIx (mVar 5) (mC (.int 0))) [5]) mNil)))
    (mExpr (mMeth isL aAppend (mVar 2) (mCons (m2 dAdd (mVar 3) (mTup (mCons (mCall dTuple (mCons (m2 dIx (mFn (gBk 3) (mCons (mVar 0) (mCons (mVar 4) (mCons (mVar 1) (mCons (mC (.int 2)) (mCons (mC (.int 5)) mNil)))))) (mC (.int 0))) mNil)) mNil))) mNil)))
theorem pb1 {hs : List D} {n : Str} {lo hi m : Int} {vs : List D} {p b : Nat} {o4 : Option U} {S : Store} (hv : ∀ v ∈ vs, varB v = true) (hl : vs.length ≤ 10) : (mSet 4 (mCall dTuple (mCons (mLc (mSeqI (m2 dIx (mVar 3) (mC (.int 3)))) (.nm 5) mYes (m2 dIx (mVar 5) (mC (.int 0))) [5]) mNil))) b [some (.loc 0), some (.d (.lst hs)), some (.loc p), some (.d (.tup [.str n, .int lo, .int hi, .tup vs, .int m])), o4, none] S =
    .next [some (.loc 0), some (.d (.lst hs)), some (.loc p), some (.d (.tup [.str n, .int lo, .int hi, .tup vs, .int m])), some (.d (nmD (vs.map nameOf))), none] S := by
  have q := name_lc (t := .nm 5) (i := 5) (δ := [some (.loc 0), some (.d (.lst hs)), some (.loc p), some (.d (.tup [.str n, .int lo, .int hi, .tup vs, .int m])), o4, none]) (S := S) hv (fun d => ⟨_, rfl, rfl⟩)
  have L : (mLc (mSeqI (m2 dIx (mVar 3) (mC (.int 3)))) (.nm 5) mYes (m2 dIx (mVar 5) (mC (.int 0))) [5]) [some (.loc 0), some (.d (.lst hs)), some (.loc p), some (.d (.tup [.str n, .int lo, .int hi, .tup vs, .int m])), o4, none] S = .ok (.d (.lst ((vs.map nameOf).map D.str))) S := by
    have z : vs.length ≤ sizeLine := by rw [sizeLine_eq]; omega
    have i3 : (mSeqI (m2 dIx (mVar 3) (mC (.int 3)))) [some (.loc 0), some (.d (.lst hs)), some (.loc p), some (.d (.tup [.str n, .int lo, .int hi, .tup vs, .int m])), o4, none] S = .ok vs S := by
      simp [atI_3, seqD]
    rw [mLc_, i3, kLc_, if_pos z]
    show kL (lcD _ _ _ [some (.loc 0), some (.d (.lst hs)), some (.loc p), some (.d (.tup [.str n, .int lo, .int hi, .tup vs, .int m])), o4, none] vs S) = _
    rw [q]; rfl
  rw [mSet_, mCall_, mCons_, L, kC1_, mNil_, kC2_, kCall_, peeks_d, peeks_nil]
  rfl
theorem pb2 {R : Store} {c c' : Cell} {F rows hs : List D} {n : Str} {lo hi m l' : Int} {vs : List D} {b : Nat} {nm : D} (e : gBk 3 [.loc 0, .d nm, .d (.lst hs), .d (.int 2), .d (.int 5)] (c :: (R ++ [.lst F])) = .ok (.d (.tup [.lst rows, .int l'])) (c' :: (R ++ [.lst F]))) (hF : F.length < sizeLine) :
    (mExpr (mMeth isL aAppend (mVar 2) (mCons (m2 dAdd (mVar 3) (mTup (mCons (mCall dTuple (mCons (m2 dIx (mFn (gBk 3) (mCons (mVar 0) (mCons (mVar 4) (mCons (mVar 1) (mCons (mC (.int 2)) (mCons (mC (.int 5)) mNil)))))) (mC (.int 0))) mNil)) mNil))) mNil))) b [some (.loc 0), some (.d (.lst hs)), some (.loc (R.length + 1)), some (.d (.tup [.str n, .int lo, .int hi, .tup vs, .int m])), some (.d nm), none] (c :: (R ++ [.lst F])) =
    .next [some (.loc 0), some (.d (.lst hs)), some (.loc (R.length + 1)), some (.d (.tup [.str n, .int lo, .int hi, .tup vs, .int m])), some (.d nm), none] (c' :: (R ++ [.lst (F ++ [.tup [.str n, .int lo, .int hi, .tup vs, .int m, .tup rows]])])) := by
  have s1 : 1 ≤ sizeLine := by decide
  have s6 : 6 ≤ sizeLine := by decide
  have A : (m2 dIx (mFn (gBk 3) (mCons (mVar 0) (mCons (mVar 4) (mCons (mVar 1) (mCons (mC (.int 2)) (mCons (mC (.int 5)) mNil)))))) (mC (.int 0))) [some (.loc 0), some (.d (.lst hs)), some (.loc (R.length + 1)), some (.d (.tup [.str n, .int lo, .int hi, .tup vs, .int m])), some (.d nm), none] (c :: (R ++ [.lst F])) = .ok (.d (.lst rows)) (c' :: (R ++ [.lst F])) := by
    simp [e]
  have B : (m2 dAdd (mVar 3) (mTup (mCons (mCall dTuple (mCons (m2 dIx (mFn (gBk 3) (mCons (mVar 0) (mCons (mVar 4) (mCons (mVar 1) (mCons (mC (.int 2)) (mCons (mC (.int 5)) mNil)))))) (mC (.int 0))) mNil)) mNil))) [some (.loc 0), some (.d (.lst hs)), some (.loc (R.length + 1)), some (.d (.tup [.str n, .int lo, .int hi, .tup vs, .int m])), some (.d nm), none] (c :: (R ++ [.lst F])) = .ok (.d (.tup [.str n, .int lo, .int hi, .tup vs, .int m, .tup rows])) (c' :: (R ++ [.lst F])) := by
    have V : mVar 3 [some (.loc 0), some (.d (.lst hs)), some (.loc (R.length + 1)), some (.d (.tup [.str n, .int lo, .int hi, .tup vs, .int m])), some (.d nm), none] (c :: (R ++ [.lst F])) = .ok (.d (.tup [.str n, .int lo, .int hi, .tup vs, .int m])) (c :: (R ++ [.lst F])) := rfl
    rw [m2_, V, k2a_, mTup_, mCons_, mCall_, mCons_, A, kC1_, mNil_, kC2_, kCall_, peeks_d, peeks_nil]
    simp only [Option.map_some, Option.bind_some, dTuple_l, lift_some]
    rw [kC1_, mNil_, kC2_, kTup_]
    simp [s1, s6]
  have V : mVar 2 [some (.loc 0), some (.d (.lst hs)), some (.loc (R.length + 1)), some (.d (.tup [.str n, .int lo, .int hi, .tup vs, .int m])), some (.d nm), none] (c :: (R ++ [.lst F])) = .ok (.loc (R.length + 1)) (c :: (R ++ [.lst F])) := rfl
  have G : ∀ (c : Cell) (M : List D), (c :: (R ++ [Cell.lst M]))[R.length + 1]? = some (.lst M) := fun c M => by simp
  rw [mExpr_, mMeth_, V, kM1_, G]
  simp only [isL, if_true]
  rw [mCons_, B, kC1_, mNil_, kC2_, kM2_, G]
  simp [aAppend, hF]
def gPg : Fn := f__law_program gHd (gBk 3) f__law_draw
theorem prog_loop (R : Store) {hs : List D} (hh : ∀ v ∈ hs, IsHead v) (hl : 2 ≤ hs.length ∧ hs.length ≤ 3) {c : Cell} (hc : Fd c) (ds : List D) (hds : ∀ d ∈ ds, IsHead d) (hdl : ds.length ≤ 3) :
    ∃ (c' : Cell) (F : List D) (o3 o4 : Option U), forD (.nm 3) pBody (R.length + 1 + 1) ds [some (.loc 0), some (.d (.lst hs)), some (.loc (R.length + 1)), none, none, none] (c :: (R ++ [.lst []])) = .next [some (.loc 0), some (.d (.lst hs)), some (.loc (R.length + 1)), o3, o4, none] (c' :: (R ++ [.lst F])) ∧ Fd c' ∧ F.length = ds.length ∧ ∀ f ∈ F, IsFun f := by
  obtain ⟨δ', S', e, c', F, o3, o4, rfl, rfl, h1, h2, h3⟩ := forD_ix (t := .nm 3) (m := pBody) (b := R.length + 1 + 1) (I := fun i δ S => ∃ (c : Cell) (F : List D) (o3 o4 : Option U), δ = [some (.loc 0), some (.d (.lst hs)), some (.loc (R.length + 1)), o3, o4, none] ∧ S = c :: (R ++ [.lst F]) ∧ Fd c ∧ F.length = i ∧ ∀ f ∈ F, IsFun f)
    ds 0 _ _ ⟨c, [], none, none, rfl, rfl, hc, rfl, fun v hv => by cases hv⟩ (fun d hd i δ S hi hI => by
      obtain ⟨c, F, o3, o4, rfl, rfl, hc, hF, hf⟩ := hI
      obtain ⟨n, lo, hi', vs, m, rfl, ho⟩ := hds d hd
      have hN := names_nm ho.vs ho.vl.1 (by have := ho.vl.2; omega)
      obtain ⟨rows, l', c1, e1, h1, l0, l1, ok⟩ := block_ok hN hh hl (R ++ [.lst F]) c 5 hc (by decide) (by decide)
      refine ⟨[some (.loc 0), some (.d (.lst hs)), some (.loc (R.length + 1)), some (.d (.tup [.str n, .int lo, .int hi', .tup vs, .int m])), o4, none], rfl, [some (.loc 0), some (.d (.lst hs)), some (.loc (R.length + 1)), some (.d (.tup [.str n, .int lo, .int hi', .tup vs, .int m])), some (.d (nmD (vs.map nameOf))), none], c1 :: (R ++ [.lst (F ++ [.tup [.str n, .int lo, .int hi', .tup vs, .int m, .tup rows]])]), ?_, c1, F ++ [.tup [.str n, .int lo, .int hi', .tup vs, .int m, .tup rows]], some (.d (.tup [.str n, .int lo, .int hi', .tup vs, .int m])), some (.d (nmD (vs.map nameOf))), ?_, ?_, h1, by simp [hF], ?_⟩
      · unfold pBody
        rw [mSeq_, pb1 ho.vs (by have := ho.vl.2; omega), kSeq_n]
        exact pb2 e1 (by rw [sizeLine_eq]; omega)
      · simp [trimE, trimU]
      · simp
      · intro f hf'
        rcases List.mem_append.mp hf' with hf' | hf'
        · exact hf f hf'
        · rw [List.mem_singleton.mp hf']
          have q1 := ok.l
          have q2 := ok.p
          exact ⟨n, lo, hi', vs, m, rows, rfl, ho.lo, ho.vs, by have := ho.vl.2; omega, ok.b, by omega, by omega⟩)
  exact ⟨c', F, o3, o4, e, h1, by simpa using h2, h3⟩
theorem program_ok (R : Store) {c : Cell} (hc : Fd c) : ∃ (p : D) (c' : Cell), gPg [.loc 0] (c :: R) = .ok (.d p) (c' :: R) ∧ Fd c' ∧ IsProg p := by
  obtain ⟨hs, c1, e1, h1, l2, l3, hh⟩ := heads_ok R hc
  obtain ⟨c2, F, o3, o4, e2, h2, lF, hF⟩ := prog_loop R hh ⟨l2, l3⟩ h1 hs hh l3
  obtain ⟨r, c3, e3, h3, r0, r1⟩ := draw_ok (R ++ [.lst F]) h2 (hs.length : Nat) (by omega) (by omega)
  obtain ⟨y, hy, ey⟩ := atI_mem (ds := hs) r0 r1
  obtain ⟨n, lo, hi, vs, m, rfl, ho⟩ := hh y hy
  obtain ⟨w, c4, e4, h4, w0, w1⟩ := draw_ok (R ++ [.lst F]) h3 60 (by decide) (by decide)
  refine ⟨.tup [.tup F, .str n, .int (1 + w)], c4, ?_, h4, F, _, rfl, ?_, by omega, hF⟩
  · have body : b__law_program gHd (gBk 3) f__law_draw (c :: R).length [some (.loc 0), none, none, none, none, none] (c :: R) = .ret (.d (.tup [.tup F, .str n, .int (1 + w)])) (c4 :: (R ++ [.lst F])) := by
      have st1 : (mPar [1, 2] (mCons (mFn gHd (mCons (mVar 0) mNil)) (mCons (mLstC mNil) mNil))) (c :: R).length [some (.loc 0), none, none, none, none, none] (c :: R) = .next [some (.loc 0), some (.d (.lst hs)), some (.loc (R.length + 1)), none, none, none] (c1 :: (R ++ [.lst []])) := by
        simp [e1]
      have st2 : (mSeqI (mVar 1)) [some (.loc 0), some (.d (.lst hs)), some (.loc (R.length + 1)), none, none, none] (c1 :: (R ++ [.lst []])) = .ok hs (c1 :: (R ++ [.lst []])) := by simp [seqD]
      have st3 : (mRet (mTup (mCons (mCall dTuple (mCons (mVar 2) mNil)) (mCons (m2 dIx (m2 dIx (mVar 1) (mFn f__law_draw (mCons (mVar 0) (mCons (mCall dLen (mCons (mVar 1) mNil)) mNil)))) (mC (.int 0))) (mCons (m2 dAdd (mC (.int 1)) (mFn f__law_draw (mCons (mVar 0) (mCons (mC (.int 60)) mNil)))) mNil))))) (c :: R).length [some (.loc 0), some (.d (.lst hs)), some (.loc (R.length + 1)), o3, o4, none] (c2 :: (R ++ [.lst F])) = .ret (.d (.tup [.tup F, .str n, .int (1 + w)])) (c4 :: (R ++ [.lst F])) := by
        have s3 : 3 ≤ sizeLine := by decide
        have A : (mCall dTuple (mCons (mVar 2) mNil)) [some (.loc 0), some (.d (.lst hs)), some (.loc (R.length + 1)), o3, o4, none] (c2 :: (R ++ [.lst F])) = .ok (.d (.tup F)) (c2 :: (R ++ [.lst F])) := by
          simp [peeks_c, peek]
        have B : (m2 dIx (m2 dIx (mVar 1) (mFn f__law_draw (mCons (mVar 0) (mCons (mCall dLen (mCons (mVar 1) mNil)) mNil)))) (mC (.int 0))) [some (.loc 0), some (.d (.lst hs)), some (.loc (R.length + 1)), o3, o4, none] (c2 :: (R ++ [.lst F])) = .ok (.d (.str n)) (c3 :: (R ++ [.lst F])) := by
          simp [e3, ey]
        have C : (m2 dAdd (mC (.int 1)) (mFn f__law_draw (mCons (mVar 0) (mCons (mC (.int 60)) mNil)))) [some (.loc 0), some (.d (.lst hs)), some (.loc (R.length + 1)), o3, o4, none] (c3 :: (R ++ [.lst F])) = .ok (.d (.int (1 + w))) (c4 :: (R ++ [.lst F])) := by
          simp [e4]
        rw [mRet_, mTup_, mCons_, A, kC1_, mCons_, B, kC1_, mCons_, C, kC1_, mNil_, kC2_, kC2_, kC2_, kTup_]
        simp [s3]
      unfold b__law_program
      rw [mSeq_, st1, kSeq_n, mSeq_, mFor_, st2, kFor_]
      have lb : (c1 :: (R ++ [Cell.lst []])).length = R.length + 1 + 1 := by simp
      rw [lb]
      unfold pBody at e2
      rw [e2, kSeq_n, st3]
    unfold gPg f__law_program
    refine (callM_go (ar := 1) (n := 6) rfl body).trans ?_
    rw [exit_d]
    simp
  · intro z
    rw [z] at lF
    simp at lF; omega
/-! ### the parts of rows -/
def gPo : Fn := f__law_parts_of f__law_parts
def partsL (rows : List D) : List D := rows.flatMap fun r => (rwChk r).getD []
theorem parts_of_ok (R : Store) {rows : List D} (hr : ∀ r ∈ rows, rowB r = true) (hl : rows.length ≤ 30) (hp : pcs rows ≤ 30) : gPo [.d (.tup rows)] R = .ok (.d (.lst (partsL rows))) R := by
  have loop : ∀ (ds L : List D) (o2 : Option U), (∀ r ∈ ds, rowB r = true) → L.length + pcs ds ≤ 30 → ∃ o2', forD (.nm 2) (mExpr (mMeth isL aExtend (mVar 1) (mCons (mCall dList (mCons (mFn f__law_parts (mCons (mVar 2) mNil)) mNil)) mNil))) (R.length + 1) ds [some (.d (.tup rows)), some (.loc R.length), o2] (R ++ [.lst L]) = .next [some (.d (.tup rows)), some (.loc R.length), o2'] (R ++ [.lst (L ++ partsL ds)]) := by
    intro ds
    induction ds with
    | nil => intro L o2 _ _; exact ⟨o2, by simp [forD, partsL]⟩
    | cons r ds ih =>
      intro L o2 hb hL
      obtain ⟨ps, hp, _, _⟩ := rowB_iff.mp (hb r (List.mem_cons_self ..))
      have pcr : pc r = ps.length := by unfold pc; rw [hp]
      have hL' : L.length + (ps.length + pcs ds) ≤ 30 := by
        have : pcs (r :: ds) = pc r + pcs ds := by unfold pcs; simp
        rw [this, pcr] at hL; exact hL
      obtain ⟨o2', e⟩ := ih (L ++ ps) (some (.d r)) (fun x hx => hb x (List.mem_cons_of_mem _ hx)) (by rw [List.length_append]; omega)
      refine ⟨o2', ?_⟩
      have z : L.length + ps.length ≤ sizeLine := by rw [sizeLine_eq]; omega
      have st : (mExpr (mMeth isL aExtend (mVar 1) (mCons (mCall dList (mCons (mFn f__law_parts (mCons (mVar 2) mNil)) mNil)) mNil))) (R.length + 1) [some (.d (.tup rows)), some (.loc R.length), some (.d r)] (R ++ [.lst L]) = .next [some (.d (.tup rows)), some (.loc R.length), some (.d r)] (R ++ [.lst (L ++ ps)]) := by
        simp [parts_ok hp, aExtend, z]
      have pl : partsL (r :: ds) = ps ++ partsL ds := by unfold partsL; rw [List.flatMap_cons, hp]; rfl
      rw [forD_cons]
      show kFa _ _ _ _ _ (some [some (.d (.tup rows)), some (.loc R.length), some (.d r)]) = _
      rw [kFa_, st, kF_n]
      have tr : trimE (R.length + 1) (R ++ [.lst (L ++ ps)]) [some (.d (.tup rows)), some (.loc R.length), some (.d r)] = [some (.d (.tup rows)), some (.loc R.length), some (.d r)] := by simp [trimE, trimU]
      have tk : (R ++ [Cell.lst (L ++ ps)]).take (R.length + 1) = R ++ [.lst (L ++ ps)] := by
        rw [List.take_of_length_le]; simp
      rw [tr, tk, e, pl, List.append_assoc]
  obtain ⟨o2, e⟩ := loop rows [] none hr (by simpa using hp)
  unfold gPo f__law_parts_of b__law_parts_of
  simp [enter, seqD]
  rw [e]
  simp [exitM, trimU]
theorem parts_len {rows : List D} : (partsL rows).length = pcs rows := by
  unfold partsL pcs
  rw [List.length_flatMap]
  congr 1
  apply List.map_congr_left
  intro r _
  unfold pc
  cases rwChk r <;> rfl
theorem parts_bd {rows : List D} (hr : ∀ r ∈ rows, rowB r = true) : ∀ p ∈ partsL rows, Bd 10 1500 5 p := by
  intro p hp
  obtain ⟨r, hr', hp⟩ := List.mem_flatMap.mp hp
  obtain ⟨ps, h1, _, h2⟩ := rowB_iff.mp (hr r hr')
  rw [h1] at hp
  exact h2 p hp
/-! ### the names of a function -/
theorem names_of_ok (R : Store) {n : Str} {lo hi m : Int} {vs rows : List D} (hv : ∀ v ∈ vs, varB v = true) (hl : vs.length ≤ 10) : f__law_names_of [.d (.tup [.str n, .int lo, .int hi, .tup vs, .int m, .tup rows])] R = .ok (.d (nmD (vs.map nameOf))) R := by
  have q := name_lc (t := .nm 1) (i := 1) (δ := [some (.d (.tup [.str n, .int lo, .int hi, .tup vs, .int m, .tup rows])), none]) (S := R) hv (fun d => ⟨_, rfl, rfl⟩)
  have z : vs.length ≤ sizeLine := by rw [sizeLine_eq]; omega
  unfold f__law_names_of b__law_names_of
  simp [enter, atI_3, seqD, z, wipeD]
  rw [q]
  simp [nmD]
end W

set_option Elab.async false
set_option linter.all false
set_option maxRecDepth 100000
set_option maxHeartbeats 4000000
/-! M01p: the values and programs by hand -/
namespace W
open DL PySem L2 PyProof.Rows
def lstOf : Res U → List D
  | .ok (.d (.lst vs)) _ => vs
  | _ => []
def VAL : List D := lstOf (f__law_values [] [.dead])
def MOR : List D := lstOf (f__law_more_values [] [.dead])
def gSm : Fn := f__law_samples f__law_first_program f__law_word_program
def SAM : List D := lstOf (gSm [] [.dead])
theorem values_ok (c : Cell) : f__law_values [] [c] = .ok (.d (.lst VAL)) [c] := by kernel_rfl
theorem more_ok (c : Cell) : f__law_more_values [] [c] = .ok (.d (.lst MOR)) [c] := by kernel_rfl
theorem samples_ok (c : Cell) : gSm [] [c] = .ok (.d (.lst SAM)) [c] := by kernel_rfl
def gdB (d : D) : Bool := pl C0 d && decide (sz d ≤ 10000) && decide (dp d ≤ 30)
theorem val_good : VAL.all gdB = true := by decide +kernel
theorem mor_good : MOR.all gdB = true := by decide +kernel
theorem vm_len : VAL.length + MOR.length ≤ 200 := by decide +kernel
theorem vm_size : szL VAL + szL MOR ≤ 500000 := by decide +kernel
def funB : D → Bool
  | .tup [.str _, .int lo, .int _, .tup vs, .int _, .tup rows] => decide (lo.natAbs ≤ 60) && vs.all varB && decide (vs.length ≤ 10) && rows.all rowB && decide (rows.length ≤ 30) && decide (pcs rows ≤ 30)
  | _ => false
def progB : D → Bool
  | .tup (.tup fs :: _) => !fs.isEmpty && decide (fs.length ≤ 3) && fs.all funB
  | _ => false
theorem sam_good : SAM.all progB = true := by decide +kernel
theorem sam_len : SAM.length = 6 := by decide +kernel
theorem funB_ok {f : D} (h : funB f = true) : IsFun f := by
  unfold funB at h
  split at h
  · rename_i n lo hi vs m rows
    simp only [Bool.and_eq_true, decide_eq_true_eq, List.all_eq_true] at h
    obtain ⟨⟨⟨⟨⟨a, b⟩, c⟩, d⟩, e⟩, f⟩ := h
    exact ⟨n, lo, hi, vs, m, rows, rfl, a, b, c, d, e, f⟩
  · cases h
theorem progB_ok {p : D} (h : progB p = true) : IsProg p := by
  unfold progB at h
  split at h
  · rename_i fs r
    simp only [Bool.and_eq_true, decide_eq_true_eq, List.all_eq_true, Bool.not_eq_true', List.isEmpty_eq_false_iff] at h
    exact ⟨fs, r, rfl, h.1.1, h.1.2, fun f hf => funB_ok (h.2 f hf)⟩
  · cases h
end W

set_option Elab.async false
set_option linter.all false
set_option maxRecDepth 100000
set_option maxHeartbeats 4000000
/-! M01q: the lot of one program -/
namespace W
open DL PySem L2 PyProof.Rows
structure LG (d : D) : Prop where
  p : pl C0 d = true
  s : sz d ≤ 20000
  d : dp d ≤ 30
theorem LG.gd {d : D} (h : LG d) : Gd d := ⟨h.p, by have := h.s; omega, by have := h.d; omega⟩
structure Lot (L : List D) (s : Nat) : Prop where
  g : ∀ d ∈ L, LG d
  z : szL L ≤ s
theorem Lot.app {L M : List D} {s t : Nat} (a : Lot L s) (b : Lot M t) : Lot (L ++ M) (s + t) := ⟨fun d hd => (List.mem_append.mp hd).elim (a.g d) (b.g d), by rw [szL_append]; have := a.z; have := b.z; omega⟩
theorem Lot.len {L : List D} {s : Nat} (a : Lot L s) : 2 * L.length ≤ s := Nat.le_trans (szL_len L) a.z
theorem C0_big : 1000 ≤ C0 := by decide
section
variable {s0 : U} {TH : List D} {kv : Int} {pg : D} {b : Nat} {c : Cell} {t3 t4 t5 t6 t7 t8 t9 t10 t11 t12 t13 t14 t15 t16 : Option U}
def en (s0 : U) (TH : List D) (tl : List (Option U)) : DEnv := some s0 :: some (.loc 0) :: some (.d (.lst TH)) :: tl
theorem st_lot : (mSet 5 (mStride true (mVar 2) (moSome (m2 dMod (mCall dInt (mCons (mVar 3) mNil)) (mC (.int 4)))) (moSome (mC (.int 4))))) b (en s0 TH [some (.d (.int kv)), t4, t5, t6, t7, t8, t9, t10, t11, t12, t13, t14, t15, t16]) [c] = .next (en s0 TH [some (.d (.int kv)), t4, some (.loc 1), t6, t7, t8, t9, t10, t11, t12, t13, t14, t15, t16]) [c, .lst (pickAt TH (some (kv.fmod 4)) (some 4))] := by
  unfold en; simp
/-! ### bending an element -/
def iBody (g : Fn) : MS := mSeq (mSet 11 (mFn g (mCons (mVar 1) (mCons (mVar 10) mNil))))
    (mExpr (mMeth isL aExtend (mVar 5) (mCons (mLst (mCons (mVar 10) (mCons (mVar 11) (mCons (mFn g (mCons (mVar 1) (mCons (mVar 11) mNil))) mNil)))) mNil)))
theorem ib1 {g : Fn} {e o : D} {S S' : Store} (h : g [.loc 0, .d e] S = .ok (.d o) S') : (mSet 11 (mFn g (mCons (mVar 1) (mCons (mVar 10) mNil)))) b (en s0 TH [t3, t4, t5, t6, t7, t8, t9, some (.d e), t11, t12, t13, t14, t15, t16]) S = .next (en s0 TH [t3, t4, t5, t6, t7, t8, t9, some (.d e), some (.d o), t12, t13, t14, t15, t16]) S' := by
  unfold en; simp [h]
theorem ib2 {g : Fn} {e o o2 : D} {L : List D} {c' : Cell} (h : g [.loc 0, .d o] [c, .lst L] = .ok (.d o2) [c', .lst L]) (hl : L.length + 3 ≤ sizeLine) : (mExpr (mMeth isL aExtend (mVar 5) (mCons (mLst (mCons (mVar 10) (mCons (mVar 11) (mCons (mFn g (mCons (mVar 1) (mCons (mVar 11) mNil))) mNil)))) mNil))) b (en s0 TH [t3, t4, some (.loc 1), t6, t7, t8, t9, some (.d e), some (.d o), t12, t13, t14, t15, t16]) [c, .lst L] = .next (en s0 TH [t3, t4, some (.loc 1), t6, t7, t8, t9, some (.d e), some (.d o), t12, t13, t14, t15, t16]) [c', .lst (L ++ [e, o, o2])] := by
  have s3 : 3 ≤ sizeLine := by decide
  have A : (mLst (mCons (mVar 10) (mCons (mVar 11) (mCons (mFn g (mCons (mVar 1) (mCons (mVar 11) mNil))) mNil)))) (en s0 TH [t3, t4, some (.loc 1), t6, t7, t8, t9, some (.d e), some (.d o), t12, t13, t14, t15, t16]) [c, .lst L] = .ok (.d (.lst [e, o, o2])) [c', .lst L] := by
    unfold en; simp [h, s3]
  have V : mVar 5 (en s0 TH [t3, t4, some (.loc 1), t6, t7, t8, t9, some (.d e), some (.d o), t12, t13, t14, t15, t16]) [c, .lst L] = .ok (.loc 1) [c, .lst L] := rfl
  have G : ∀ c : Cell, ([c, Cell.lst L] : Store)[1]? = some (.lst L) := fun c => rfl
  rw [mExpr_, mMeth_, V, kM1_, G]
  simp only [isL, if_true]
  rw [mCons_, A, kC1_, mNil_, kC2_, kM2_, G]
  simp [aExtend, hl]
theorem en_trim {b : Nat} (hb : 1 ≤ b) {S : Store} {tl : List (Option U)} (x0 : D) : trimE b S (en (.d x0) TH tl) = en (.d x0) TH (trimE b S tl) := by
  unfold en trimE
  simp [trimU]; omega
theorem el_loop {x0 : D} (ds : List D) (hds : ∀ d ∈ ds, Bd 60 1500 5 d) (hdl : ds.length ≤ 71) {L : List D} {s : Nat} (hL : Lot L s) (hs : s ≤ 8000000) (hc : Fd c) {tl : List (Option U)} (h5 : tl = [t3, t4, some (.loc 1), t6, t7, t8, t9, t10, t11, t12, t13, t14, t15, t16]) :
    ∃ (c' : Cell) (L' : List D) (t10' t11' : Option U) (tr : List (Option U)), forD (.nm 10) (iBody (gB 10)) 2 ds (en (.d x0) TH tl) [c, .lst L] = .next (en (.d x0) TH tr) [c', .lst L'] ∧ tr.length = 14 ∧ (tr[2]? = some (some (.loc 1)) ∧ ∀ i x, i < 6 → tl[i]? = some (some (.d x)) → tr[i]? = some (some (.d x))) ∧ Fd c' ∧ Lot L' (s + 21100 * ds.length) := by
  obtain ⟨δ', S', e, c', L', tr, rfl, rfl, a1, a2, a3, a4⟩ := forD_ix (t := .nm 10) (m := iBody (gB 10)) (b := 2) (I := fun i δ S => ∃ (c : Cell) (L : List D) (tr : List (Option U)), δ = en (.d x0) TH tr ∧ S = [c, .lst L] ∧ tr.length = 14 ∧ (tr[2]? = some (some (.loc 1)) ∧ ∀ i x, i < 6 → tl[i]? = some (some (.d x)) → tr[i]? = some (some (.d x))) ∧ Fd c ∧ Lot L (s + 21100 * i))
    ds 0 _ _ ⟨c, L, tl, rfl, rfl, by rw [h5]; rfl, ⟨by rw [h5]; rfl, fun _ _ _ h => h⟩, hc, by simpa using hL⟩ (fun d hd i δ S hi hI => by
      obtain ⟨c, L, tr, rfl, rfl, l14, ⟨q2, qd⟩, hc, hL⟩ := hI
      obtain ⟨u3, u4, u5, u6, u7, u8, u9, u10, u11, u12, u13, u14, u15, u16, rfl⟩ : ∃ u3 u4 u5 u6 u7 u8 u9 u10 u11 u12 u13 u14 u15 u16, tr = [u3, u4, u5, u6, u7, u8, u9, u10, u11, u12, u13, u14, u15, u16] := by
        match tr, l14 with
        | [a, b, c, d, e, f, g, h, i, j, k, l, m, n], _ => exact ⟨a, b, c, d, e, f, g, h, i, j, k, l, m, n, rfl⟩
      have q2' : u5 = some (.loc 1) := by simpa using q2
      subst q2'
      have bd := hds d hd
      obtain ⟨o, c1, e1, h1, b1⟩ := bent_ok 10 [.lst L] hc (k := 60) (d := d) bd.p (by have := bd.s; omega) (by have := bd.d; omega) (by have := bd.d; omega) (by decide) (by decide)
      have s1 := b1.s
      have d1 := b1.d
      have bs := bd.s
      have bdd := bd.d
      obtain ⟨o2, c2, e2, h2, b2⟩ := bent_ok 10 [.lst L] h1 (k := 61) (d := o) b1.p (by omega) (by omega) (by omega) (by decide) (by decide)
      have s2 := b2.s
      have d2 := b2.d
      have ll := hL.len
      refine ⟨en (.d x0) TH [u3, u4, some (.loc 1), u6, u7, u8, u9, some (.d d), u11, u12, u13, u14, u15, u16], rfl, en (.d x0) TH [u3, u4, some (.loc 1), u6, u7, u8, u9, some (.d d), some (.d o), u12, u13, u14, u15, u16], [c2, .lst (L ++ [d, o, o2])], ?_, c2, L ++ [d, o, o2], trimE 2 [c2, .lst (L ++ [d, o, o2])] [u3, u4, some (.loc 1), u6, u7, u8, u9, some (.d d), some (.d o), u12, u13, u14, u15, u16], en_trim (by decide) x0, rfl, by simp [trimE], ⟨by simp [trimE, trimU], fun i x hi hx => ?_⟩, h2, ?_⟩
      · unfold iBody
        rw [mSeq_, ib1 e1, kSeq_n]
        exact ib2 e2 (by rw [sizeLine_eq]; omega)
      · have := qd i x hi hx
        unfold trimE
        rw [List.getElem?_map]
        have e6 : [u3, u4, some (.loc 1), u6, u7, u8, u9, some (.d d), some (.d o), u12, u13, u14, u15, u16][i]? = some (some (.d x)) := by
          match i, hi with
          | 0, _ => exact this
          | 1, _ => exact this
          | 2, _ => exact this
          | 3, _ => exact this
          | 4, _ => exact this
          | 5, _ => exact this
        rw [e6]; rfl
      · have k1 := C0_big
        have l3 : Lot [d, o, o2] 21100 := by
          refine ⟨fun z hz => ?_, by simp only [szL]; omega⟩
          simp only [List.mem_cons, List.not_mem_nil, or_false] at hz
          rcases hz with rfl | rfl | rfl
          · exact ⟨pl_mono (by omega) _ bd.p, by omega, by omega⟩
          · exact ⟨pl_mono (by omega) _ b1.p, by omega, by omega⟩
          · exact ⟨pl_mono (by omega) _ b2.p, by omega, by omega⟩
        have := hL.app l3
        exact ⟨this.g, by have := this.z; omega⟩)
  exact ⟨c', L', none, none, tr, e, a1, a2, a3, by simpa using a4⟩
end
end W

set_option Elab.async false
set_option linter.all false
set_option maxRecDepth 100000
set_option maxHeartbeats 4000000
/-! M01r: all functions of a program -/
namespace W
open DL PySem L2 PyProof.Rows
def low1 : D → D
  | .tup [_, .int a, _] => .int a
  | _ => .non
theorem a5 (a b c d e f : D) : atI [a, b, c, d, e, f] 5 = some f := by rw [atI_in (by decide) (by simp only [List.length_cons, List.length_nil]; decide)]; rfl
theorem a4' (a b c d e f : D) : atI [a, b, c, d, e, f] 4 = some e := by rw [atI_in (by decide) (by simp only [List.length_cons, List.length_nil]; decide)]; rfl
section
variable {s0 : U} {TH : List D} {kv : Int} {b : Nat} {c : Cell} {t3 t4 t5 t6 t7 t8 t9 t10 t11 t12 t13 t14 t15 t16 : Option U} {n : Str} {lo hi m : Int} {vs rows : List D} {S : Store}
theorem wb1 (hv : ∀ v ∈ vs, varB v = true) (hl : vs.length ≤ 10) : (mSet 8 (mCall dTuple (mCons (mLc (mSeqI (mSl (m2 dIx (mVar 6) (mC (.int 3))) moNone (moSome (m2 dIx (mVar 6) (mC (.int 4)))))) (.nm 7) mYes (m2 dIx (mVar 7) (mC (.int 1))) [7]) mNil))) b (en s0 TH [t3, t4, t5, some (.d (.tup [.str n, .int lo, .int hi, .tup vs, .int m, .tup rows])), t7, t8, t9, t10, t11, t12, t13, t14, t15, t16]) S =
    .next (en s0 TH [t3, t4, t5, some (.d (.tup [.str n, .int lo, .int hi, .tup vs, .int m, .tup rows])), t7, some (.d (.tup ((cutD vs none (some m)).map low1))), t9, t10, t11, t12, t13, t14, t15, t16]) S := by
  have sub := cutD_sub vs none (some m)
  have I1 : (mSeqI (mSl (m2 dIx (mVar 6) (mC (.int 3))) moNone (moSome (m2 dIx (mVar 6) (mC (.int 4)))))) (en s0 TH [t3, t4, t5, some (.d (.tup [.str n, .int lo, .int hi, .tup vs, .int m, .tup rows])), t7, t8, t9, t10, t11, t12, t13, t14, t15, t16]) S = .ok (cutD vs none (some m)) S := by
    unfold en; simp [atI_3, a4', dSl, seqD]
  have q : lcD (.nm 7) mYes (m2 dIx (mVar 7) (mC (.int 1))) (wipeD [7] (en s0 TH [t3, t4, t5, some (.d (.tup [.str n, .int lo, .int hi, .tup vs, .int m, .tup rows])), t7, t8, t9, t10, t11, t12, t13, t14, t15, t16])) (cutD vs none (some m)) S = .ok ((cutD vs none (some m)).map low1) S := by
    have := lcD_pure (t := .nm 7) (mt := mYes) (me := m2 dIx (mVar 7) (mC (.int 1))) (δ := wipeD [7] (en s0 TH [t3, t4, t5, some (.d (.tup [.str n, .int lo, .int hi, .tup vs, .int m, .tup rows])), t7, t8, t9, t10, t11, t12, t13, t14, t15, t16])) (S := S) (c := fun _ => true) (f := low1) (cutD vs none (some m)) fun v hv' => by
      obtain ⟨x, a, bb, rfl, _⟩ := varB_cases (hv v (sub.subset hv'))
      refine ⟨_, rfl, rfl, fun _ => ?_⟩
      unfold en
      simp [wipeD, low1]
    rw [this]
    have ft : (cutD vs none (some m)).filter (fun _ => true) = cutD vs none (some m) := List.filter_eq_self.mpr fun _ _ => rfl
    rw [ft]
  have z : (cutD vs none (some m)).length ≤ sizeLine := by have := sub.length_le; rw [sizeLine_eq]; omega
  rw [mSet_, mCall_, mCons_, mLc_, I1, kLc_, if_pos z, q, kL_, kC1_, mNil_, kC2_, kCall_, peeks_d, peeks_nil]
  rfl
theorem wb2 {ins : List D} (hl : vs.length ≤ 10) (hr : rows.length ≤ 30) : (mSet 9 (m2 dAdd (m2 dAdd (mCall dList (mCons (m2 dIx (mVar 6) (mC (.int 3))) mNil)) (mCall dList (mCons (m2 dIx (mVar 6) (mC (.int 5))) mNil))) (mLst (mCons (mTup (mCons (mVar 8) (mCons (m2 dIx (mVar 6) (mC (.int 1))) mNil))) mNil)))) b (en s0 TH [t3, t4, t5, some (.d (.tup [.str n, .int lo, .int hi, .tup vs, .int m, .tup rows])), t7, some (.d (.tup ins)), t9, t10, t11, t12, t13, t14, t15, t16]) S =
    .next (en s0 TH [t3, t4, t5, some (.d (.tup [.str n, .int lo, .int hi, .tup vs, .int m, .tup rows])), t7, some (.d (.tup ins)), some (.d (.lst (vs ++ rows ++ [.tup [.tup ins, .int lo]]))), t10, t11, t12, t13, t14, t15, t16]) S := by
  have s1 : 1 ≤ sizeLine := by decide
  have s2 : 2 ≤ sizeLine := by decide
  have z1 : vs.length + rows.length ≤ sizeLine := by rw [sizeLine_eq]; omega
  have z2 : (vs ++ rows).length + ([D.tup [.tup ins, .int lo]] : List D).length ≤ sizeLine := by rw [List.length_append, List.length_singleton, sizeLine_eq]; omega
  have A : (mCall dList (mCons (m2 dIx (mVar 6) (mC (.int 3))) mNil)) (en s0 TH [t3, t4, t5, some (.d (.tup [.str n, .int lo, .int hi, .tup vs, .int m, .tup rows])), t7, some (.d (.tup ins)), t9, t10, t11, t12, t13, t14, t15, t16]) S = .ok (.d (.lst vs)) S := by
    unfold en; simp [atI_3]
  have B : (mCall dList (mCons (m2 dIx (mVar 6) (mC (.int 5))) mNil)) (en s0 TH [t3, t4, t5, some (.d (.tup [.str n, .int lo, .int hi, .tup vs, .int m, .tup rows])), t7, some (.d (.tup ins)), t9, t10, t11, t12, t13, t14, t15, t16]) S = .ok (.d (.lst rows)) S := by
    unfold en; simp [a5]
  have C : (mLst (mCons (mTup (mCons (mVar 8) (mCons (m2 dIx (mVar 6) (mC (.int 1))) mNil))) mNil)) (en s0 TH [t3, t4, t5, some (.d (.tup [.str n, .int lo, .int hi, .tup vs, .int m, .tup rows])), t7, some (.d (.tup ins)), t9, t10, t11, t12, t13, t14, t15, t16]) S = .ok (.d (.lst [.tup [.tup ins, .int lo]])) S := by
    unfold en; simp [s1, s2]
  rw [mSet_, m2_, m2_, A, k2a_, B, k2b_]
  simp only [peek_d, dAdd_l, if_pos z1, Option.map_some, lift_some]
  rw [k2a_, C, k2b_]
  simp only [peek_d, dAdd_l, if_pos z2, Option.map_some, lift_some]
  rfl
theorem wb3 {own : List D} (hr : ∀ r ∈ rows, rowB r = true) (hl : rows.length ≤ 30) (hp : pcs rows ≤ 30) (ho : own.length ≤ 41) : (mSeqI (mStride false (m2 dAdd (mFn gPo (mCons (m2 dIx (mVar 6) (mC (.int 5))) mNil)) (mVar 9)) (moSome (m2 dMod (mCall dInt (mCons (mVar 3) mNil)) (mC (.int 2)))) (moSome (mC (.int 2))))) (en s0 TH [some (.d (.int kv)), t4, t5, some (.d (.tup [.str n, .int lo, .int hi, .tup vs, .int m, .tup rows])), t7, t8, some (.d (.lst own)), t10, t11, t12, t13, t14, t15, t16]) S = .ok (pickAt (partsL rows ++ own) (some (kv.fmod 2)) (some 2)) S := by
  have z1 : (partsL rows).length + own.length ≤ sizeLine := by rw [parts_len, sizeLine_eq]; omega
  have A : (mFn gPo (mCons (m2 dIx (mVar 6) (mC (.int 5))) mNil)) (en s0 TH [some (.d (.int kv)), t4, t5, some (.d (.tup [.str n, .int lo, .int hi, .tup vs, .int m, .tup rows])), t7, t8, some (.d (.lst own)), t10, t11, t12, t13, t14, t15, t16]) S = .ok (.d (.lst (partsL rows))) S := by
    unfold en; simp [a5, parts_of_ok S hr hl hp]
  have B : (m2 dAdd (mFn gPo (mCons (m2 dIx (mVar 6) (mC (.int 5))) mNil)) (mVar 9)) (en s0 TH [some (.d (.int kv)), t4, t5, some (.d (.tup [.str n, .int lo, .int hi, .tup vs, .int m, .tup rows])), t7, t8, some (.d (.lst own)), t10, t11, t12, t13, t14, t15, t16]) S = .ok (.d (.lst (partsL rows ++ own))) S := by
    rw [m2_, A, k2a_]
    show k2b dAdd (.d (.lst (partsL rows))) (.ok (.d (.lst own)) S) = _
    rw [k2b_]
    simp only [peek_d, dAdd_l, if_pos z1, Option.map_some, lift_some]
  have K : (moSome (m2 dMod (mCall dInt (mCons (mVar 3) mNil)) (mC (.int 2)))) (en s0 TH [some (.d (.int kv)), t4, t5, some (.d (.tup [.str n, .int lo, .int hi, .tup vs, .int m, .tup rows])), t7, t8, some (.d (.lst own)), t10, t11, t12, t13, t14, t15, t16]) S = .ok (some (kv.fmod 2)) S := by
    unfold en; simp
  rw [mSeqI_, mStride_, B, kSt1_, K, kSt2_]
  show kSeqI (kSt3 false _ _ (.ok (some 2) S)) = _
  rw [kSt3_, if_pos (by decide), if_neg Bool.false_ne_true]
  rfl
end
def wBody : MS := mSeq (mSet 8 (mCall dTuple (mCons (mLc (mSeqI (mSl (m2 dIx (mVar 6) (mC (.int 3))) moNone (moSome (m2 dIx (mVar 6) (mC (.int 4)))))) (.nm 7) mYes (m2 dIx (mVar 7) (mC (.int 1))) [7]) mNil)))
    (mSeq (mSet 9 (m2 dAdd (m2 dAdd (mCall dList (mCons (m2 dIx (mVar 6) (mC (.int 3))) mNil)) (mCall dList (mCons (m2 dIx (mVar 6) (mC (.int 5))) mNil))) (mLst (mCons (mTup (mCons (mVar 8) (mCons (m2 dIx (mVar 6) (mC (.int 1))) mNil))) mNil))))
    (mFor (mSeqI (mStride false (m2 dAdd (mFn gPo (mCons (m2 dIx (mVar 6) (mC (.int 5))) mNil)) (mVar 9)) (moSome (m2 dMod (mCall dInt (mCons (mVar 3) mNil)) (mC (.int 2)))) (moSome (mC (.int 2))))) (.nm 10) (iBody (gB 10))))
theorem el_good {vs rows : List D} {lo m : Int} (F : FunOk vs rows lo) : ∀ d ∈ partsL rows ++ (vs ++ rows ++ [.tup [.tup ((cutD vs none (some m)).map low1), .int lo]]), Bd 60 1500 5 d := by
  intro d hd
  simp only [List.mem_append, List.mem_singleton] at hd
  rcases hd with hd | (hd | hd) | rfl
  · exact (parts_bd F.hrows d hd).mono (by decide) (Nat.le_refl _) (Nat.le_refl _)
  · obtain ⟨_, _, _, _, _, _, b, _⟩ := varB_cases (F.hvs d hd)
    exact b.mono (Nat.le_refl _) (by decide) (by decide)
  · obtain ⟨_, _, b, _⟩ := rowB_iff.mp (F.hrows d hd)
    exact b.mono (by decide) (Nat.le_refl _) (Nat.le_refl _)
  · have sub := cutD_sub vs none (some m)
    have each : ∀ y ∈ (cutD vs none (some m)).map low1, pl 60 y = true ∧ sz y ≤ 90 ∧ dp y ≤ 0 := fun y hy => by
      obtain ⟨v, hv, rfl⟩ := List.mem_map.mp hy
      obtain ⟨x, a, bb, rfl, _, _, _, ha⟩ := varB_cases (F.hvs v (sub.subset hv))
      refine ⟨by simp only [low1, pl, decide_eq_true_eq]; exact ha, by simp only [low1, sz]; rw [if_pos (by omega)]; exact Nat.le_refl _, by simp [low1, dp]⟩
    have hl := sub.length_le
    have vl := F.vl
    refine ⟨?_, ?_, ?_⟩
    · simp only [pl, plL, Bool.and_true, Bool.and_eq_true, decide_eq_true_eq]
      exact ⟨plL_iff.mpr fun y hy => (each y hy).1, F.hlo⟩
    · have q := szL_bound (s := 90) (ds := (cutD vs none (some m)).map low1) fun y hy => (each y hy).2.1
      rw [List.length_map] at q
      have q2 : (90 + 2) * (cutD vs none (some m)).length ≤ (90 + 2) * 10 := Nat.mul_le_mul_left _ (by omega)
      have hlo := F.hlo
      simp only [sz, szL]
      rw [if_pos (by omega)]
      omega
    · simp only [dp, dpL]
      have : dpL ((cutD vs none (some m)).map low1) ≤ 0 := dpL_le.mpr fun y hy => (each y hy).2.2
      omega
theorem wh_loop {x0 pg : D} {TH : List D} {kv : Int} {c : Cell} (fs : List D) (hfs : ∀ f ∈ fs, IsFun f) (hfl : fs.length ≤ 3) {L : List D} (hL : Lot L 2100000) (hc : Fd c) {tl : List (Option U)} (hl : tl.length = 14) (h0 : tl[0]? = some (some (.d (.int kv)))) (h1 : tl[1]? = some (some (.d pg))) (h2 : tl[2]? = some (some (.loc 1))) :
    ∃ (c' : Cell) (L' : List D) (tr : List (Option U)), forD (.nm 6) wBody 2 fs (en (.d x0) TH tl) [c, .lst L] = .next (en (.d x0) TH tr) [c', .lst L'] ∧ tr.length = 14 ∧ tr[1]? = some (some (.d pg)) ∧ tr[2]? = some (some (.loc 1)) ∧ Fd c' ∧ Lot L' 7000000 := by
  obtain ⟨δ', S', e, c', L', tr, rfl, rfl, a1, a2, a3, a4, a5', a6⟩ := forD_ix (t := .nm 6) (m := wBody) (b := 2) (I := fun i δ S => ∃ (c : Cell) (L : List D) (tr : List (Option U)), δ = en (.d x0) TH tr ∧ S = [c, .lst L] ∧ tr.length = 14 ∧ tr[0]? = some (some (.d (.int kv))) ∧ tr[1]? = some (some (.d pg)) ∧ tr[2]? = some (some (.loc 1)) ∧ Fd c ∧ Lot L (2100000 + 1500000 * i))
    fs 0 _ _ ⟨c, L, tl, rfl, rfl, hl, h0, h1, h2, hc, by simpa using hL⟩ (fun d hd i δ S hi hI => by
      obtain ⟨c, L, tr, rfl, rfl, l14, q0, q1, q2, hc, hL⟩ := hI
      obtain ⟨n, lo, hi', vs, m, rows, rfl, F⟩ := hfs d hd
      obtain ⟨u3, u4, u5, u6, u7, u8, u9, u10, u11, u12, u13, u14, u15, u16, rfl⟩ : ∃ u3 u4 u5 u6 u7 u8 u9 u10 u11 u12 u13 u14 u15 u16, tr = [u3, u4, u5, u6, u7, u8, u9, u10, u11, u12, u13, u14, u15, u16] := by
        match tr, l14 with
        | [a, b, c, d, e, f, g, h, i, j, k, l, m, n], _ => exact ⟨a, b, c, d, e, f, g, h, i, j, k, l, m, n, rfl⟩
      have r0 : u3 = some (.d (.int kv)) := by simpa using q0
      have r1 : u4 = some (.d pg) := by simpa using q1
      have r2 : u5 = some (.loc 1) := by simpa using q2
      subst r0; subst r1; subst r2
      have ol : (vs ++ rows ++ [D.tup [.tup ((cutD vs none (some m)).map low1), .int lo]]).length ≤ 41 := by
        have := F.vl; have := F.rl
        rw [List.length_append, List.length_append, List.length_singleton]; omega
      have pk := pickAt_len (partsL rows ++ (vs ++ rows ++ [D.tup [.tup ((cutD vs none (some m)).map low1), .int lo]])) (some (kv.fmod 2)) 2 (by decide)
      have pl71 : (pickAt (partsL rows ++ (vs ++ rows ++ [D.tup [.tup ((cutD vs none (some m)).map low1), .int lo]])) (some (kv.fmod 2)) (some 2)).length ≤ 71 := by
        have := F.rp
        rw [List.length_append, parts_len] at pk
        omega
      obtain ⟨c1, L1, _, _, tr1, e1, k1, ⟨k2, k3⟩, k4, k5⟩ := el_loop (x0 := x0) (TH := TH) (pickAt (partsL rows ++ (vs ++ rows ++ [D.tup [.tup ((cutD vs none (some m)).map low1), .int lo]])) (some (kv.fmod 2)) (some 2)) (fun d hd => el_good F d (pickAt_mem hd)) pl71 hL (by omega) hc (tl := [some (.d (.int kv)), some (.d pg), some (.loc 1), some (.d (.tup [.str n, .int lo, .int hi', .tup vs, .int m, .tup rows])), u7, some (.d (.tup ((cutD vs none (some m)).map low1))), some (.d (.lst (vs ++ rows ++ [.tup [.tup ((cutD vs none (some m)).map low1), .int lo]]))), u10, u11, u12, u13, u14, u15, u16]) rfl
      refine ⟨en (.d x0) TH [some (.d (.int kv)), some (.d pg), some (.loc 1), some (.d (.tup [.str n, .int lo, .int hi', .tup vs, .int m, .tup rows])), u7, u8, u9, u10, u11, u12, u13, u14, u15, u16], rfl, en (.d x0) TH tr1, [c1, .lst L1], ?_, c1, L1, trimE 2 [c1, .lst L1] tr1, en_trim (by decide) x0, rfl, by simp [trimE, k1], ?_, ?_, ?_, k4, ?_⟩
      · unfold wBody
        rw [mSeq_, wb1 F.hvs F.vl, kSeq_n, mSeq_, wb2 F.vl F.rl, kSeq_n, mFor_, wb3 F.hrows F.rl F.rp ol, kFor_]
        exact e1
      · have := k3 0 (.int kv) (by decide) rfl
        unfold trimE; rw [List.getElem?_map, this]; rfl
      · have := k3 1 pg (by decide) rfl
        unfold trimE; rw [List.getElem?_map, this]; rfl
      · unfold trimE; rw [List.getElem?_map, k2]; rfl
      · exact ⟨k5.g, by have := k5.z; have : 21100 * (pickAt (partsL rows ++ (vs ++ rows ++ [D.tup [.tup ((cutD vs none (some m)).map low1), .int lo]])) (some (kv.fmod 2)) (some 2)).length ≤ 21100 * 71 := Nat.mul_le_mul_left _ pl71; omega⟩)
  exact ⟨c', L', tr, e, a1, a3, a4, a5', ⟨a6.g, by have := a6.z; omega⟩⟩
end W

set_option Elab.async false
set_option linter.all false
set_option maxRecDepth 100000
set_option maxHeartbeats 4000000
/-! M01s: one program's turn in the law -/
namespace W
open DL PySem L2 PyProof.Rows
def nK : Nat := 32
theorem none_lc {mt : MT} {i : Nat} {E : DEnv} {L : List D} {S : Store} (hi : mVar i E S = .ok (.d (.lst L)) S) (hl : L.length ≤ sizeLine) (hm : ∀ d ∈ L, mt ((wipeD [15] E).set 15 (some (.d d))) S = .ok false S) :
    (mTest (m2 dNe (mLc (mSeqI (mVar i)) (.nm 15) mt (mVar 15) [15]) (mLst mNil))) E S = .ok false S := by
  have q := lcD_pure (t := .nm 15) (mt := mt) (me := mVar 15) (δ := wipeD [15] E) (S := S) (c := fun _ => false) (f := id) L fun d hd => ⟨_, rfl, hm d hd, fun z => by cases z⟩
  have ft : L.filter (fun _ => false) = [] := List.filter_eq_nil_iff.mpr fun _ _ => Bool.false_ne_true
  rw [ft] at q
  have I1 : (mSeqI (mVar i)) E S = .ok L S := by rw [mSeqI_, hi]; rfl
  rw [mTest_, m2_, mLc_, I1, kLc_, if_pos hl, q]
  simp
theorem Lot.sl {L : List D} {s : Nat} (h : Lot L s) (hs : s ≤ 16000000) : L.length ≤ sizeLine := by have := h.len; rw [sizeLine_eq]; omega
theorem lot_repr {L : List D} (h : Lot L 7000000) : ∃ s, dRepr [.lst L] = some (.str s) := by
  refine repr_ok C0_le ?_ ?_ ?_
  · simp only [pl]; exact plL_iff.mpr fun d hd => (h.g d hd).p
  · simp only [sz]; have := h.z; rw [sizeLine_eq]; omega
  · simp only [dp]; have : dpL L ≤ 30 := dpL_le.mpr fun d hd => (h.g d hd).d
    omega
theorem last_at {fs : List D} (h : fs ≠ []) : ∃ f ∈ fs, atI fs (-1) = some f := by
  refine ⟨fs.getLast h, List.getLast_mem h, ?_⟩
  have := L2.atI_last fs.dropLast (fs.getLast h)
  rw [List.dropLast_concat_getLast] at this
  exact this
section
variable {x0 : D} {TH : List D} {b : Nat} {c : Cell} {t3 t4 t5 t6 t7 t8 t9 t10 t11 t12 t13 t14 t15 t16 : Option U} {L : List D} {S : Store}
theorem s3_ok {tr : List (Option U)} {s : Str} (hs : dRepr [.lst L] = some (.str s)) (h14 : tr.length = 14) (h1 : tr[1]? = some (some (.d pg))) (h2 : tr[2]? = some (some (.loc 1))) : ∃ t3 t6 t7 t8 t9 t10 t11 t13 t14 t15 t16 : Option U, (mFz (mSet 12 (mCall dRepr (mCons (mVar 5) mNil)))) 1 (en (.d x0) TH tr) [c, .lst L] = .next (en (.d x0) TH [t3, some (.d pg), some (.d (.lst L)), t6, t7, t8, t9, t10, t11, some (.d (.str s)), t13, t14, t15, t16]) [c] := by
  obtain ⟨u3, u4, u5, u6, u7, u8, u9, u10, u11, u12, u13, u14, u15, u16, rfl⟩ : ∃ u3 u4 u5 u6 u7 u8 u9 u10 u11 u12 u13 u14 u15 u16, tr = [u3, u4, u5, u6, u7, u8, u9, u10, u11, u12, u13, u14, u15, u16] := by
    match tr, h14 with
    | [a, b, c, d, e, f, g, h, i, j, k, l, m, n], _ => exact ⟨a, b, c, d, e, f, g, h, i, j, k, l, m, n, rfl⟩
  have r1 : u4 = some (.d pg) := by simpa using h1
  have r2 : u5 = some (.loc 1) := by simpa using h2
  subst r1; subst r2
  rw [mFz_, en_trim (by decide)]
  have f : ∀ o : Option U, ∃ o', o.bind (trimU 1 [c, .lst L]) = o' := fun o => ⟨_, rfl⟩
  obtain ⟨v3, e3⟩ := f u3; obtain ⟨v6, e6⟩ := f u6; obtain ⟨v7, e7⟩ := f u7; obtain ⟨v8, e8⟩ := f u8; obtain ⟨v9, e9⟩ := f u9; obtain ⟨v10, e10⟩ := f u10; obtain ⟨v11, e11⟩ := f u11; obtain ⟨v12, e12⟩ := f u12; obtain ⟨v13, e13⟩ := f u13; obtain ⟨v14, e14⟩ := f u14; obtain ⟨v15, e15⟩ := f u15; obtain ⟨v16, e16⟩ := f u16
  have tr : trimE 1 [c, .lst L] [u3, some (.d pg), some (.loc 1), u6, u7, u8, u9, u10, u11, u12, u13, u14, u15, u16] = [v3, some (.d pg), some (.d (.lst L)), v6, v7, v8, v9, v10, v11, v12, v13, v14, v15, v16] := by
    unfold trimE
    simp only [List.map_cons, List.map_nil, e3, e6, e7, e8, e9, e10, e11, e12, e13, e14, e15, e16]
    rfl
  rw [tr]
  refine ⟨v3, v6, v7, v8, v9, v10, v11, v13, v14, v15, v16, ?_⟩
  unfold en
  simp [hs]
theorem s4_ok {m' : MS} (hL : Lot L 7000000) : (mIfS (mTest (m2 dNe (mLc (mSeqI (mVar 5)) (.nm 15) (mNotT (mTru (mFn (gKR nK) (mCons (mVar 15) mNil)))) (mVar 15) [15]) (mLst mNil))) m' mSkip) b (en (.d x0) TH [t3, t4, some (.d (.lst L)), t6, t7, t8, t9, t10, t11, t12, t13, t14, t15, t16]) S = .next (en (.d x0) TH [t3, t4, some (.d (.lst L)), t6, t7, t8, t9, t10, t11, t12, t13, t14, t15, t16]) S := by
  rw [mIfS_, none_lc (L := L) rfl (hL.sl (by decide)) (fun d hd => ?_)]
  · rfl
  · have g := hL.g d hd
    have k := kinds_right (n := nK) (S := S) g.gd (by have := g.d; unfold nK; omega)
    unfold en
    simp [wipeD, k, truD]
theorem s5_ok {fs r : List D} {n : Str} {lo hi m : Int} {vs rows : List D} (ha : atI fs (-1) = some (.tup [.str n, .int lo, .int hi, .tup vs, .int m, .tup rows])) (hv : ∀ v ∈ vs, varB v = true) (hl : vs.length ≤ 10) : (mSet 13 (mFn f__law_names_of (mCons (m2 dIx (m2 dIx (mVar 4) (mC (.int 0))) (m1 dNeg (mC (.int 1)))) mNil))) b (en (.d x0) TH [t3, some (.d (.tup (.tup fs :: r))), t5, t6, t7, t8, t9, t10, t11, t12, t13, t14, t15, t16]) S = .next (en (.d x0) TH [t3, some (.d (.tup (.tup fs :: r))), t5, t6, t7, t8, t9, t10, t11, t12, some (.d (nmD (vs.map nameOf))), t14, t15, t16]) S := by
  unfold en
  simp [ha, names_of_ok S hv hl]
def kB : MS := mIfS (mTest (m2 dNe (mLc (mSeqI (mVar 5)) (.nm 15) (mNotT (mTru (mFn (gKp nK) (mCons (mVar 7) (mCons (mVar 15) mNil))))) (mVar 15) [15]) (mLst mNil))) (mRet (mC (.bl false))) mSkip
theorem kB_ok {N : List Str} (hL : Lot L 7000000) : kB b (en (.d x0) TH [t3, t4, some (.d (.lst L)), t6, some (.d (nmD N)), t8, t9, t10, t11, t12, t13, t14, t15, t16]) S = .next (en (.d x0) TH [t3, t4, some (.d (.lst L)), t6, some (.d (nmD N)), t8, t9, t10, t11, t12, t13, t14, t15, t16]) S := by
  unfold kB
  rw [mIfS_, none_lc (L := L) rfl (hL.sl (by decide)) (fun d hd => ?_)]
  · rfl
  · have g := hL.g d hd
    have k := kept_right (n := nK) (N := N) (S := S) g.gd (by have := g.d; unfold nK; omega)
    unfold en
    simp [wipeD, k, truD]
theorem s6_ok {N : List Str} {s : Str} (hL : Lot L 7000000) (pg : D) : ∃ tr : List (Option U), (mFor (mSeqI (mTup (mCons (mVar 13) (mCons (mSl (mVar 13) (moSome (mC (.int 1))) moNone) (mCons (mTup mNil) (mCons (mTup (mCons (mC (.str "x")) (mCons (mC (.str "y")) (mCons (mC (.str "a")) mNil)))) mNil)))))) (.nm 7) kB) b (en (.d x0) TH [t3, some (.d pg), some (.d (.lst L)), t6, t7, t8, t9, t10, t11, some (.d (.str s)), some (.d (nmD N)), t14, t15, t16]) [c] = .next (en (.d x0) TH tr) [c] ∧ tr.length = 14 ∧ tr[2]? = some (some (.d (.lst L))) ∧ tr[9]? = some (some (.d (.str s))) := by
  have s4 : 4 ≤ sizeLine := by decide
  have s3 : 3 ≤ sizeLine := by decide
  have s0 : 0 ≤ sizeLine := by decide
  have e1 := cutD_from (N.map D.str) (p := 1) (by decide)
  have dr : (N.map D.str).drop 1 = (N.drop 1).map D.str := (List.map_drop ..).symm
  have I1 : (mSeqI (mTup (mCons (mVar 13) (mCons (mSl (mVar 13) (moSome (mC (.int 1))) moNone) (mCons (mTup mNil) (mCons (mTup (mCons (mC (.str "x")) (mCons (mC (.str "y")) (mCons (mC (.str "a")) mNil)))) mNil)))))) (en (.d x0) TH [t3, some (.d pg), some (.d (.lst L)), t6, t7, t8, t9, t10, t11, some (.d (.str s)), some (.d (nmD N)), t14, t15, t16]) [c] = .ok ([N, N.drop 1, [], [Str.ofString "x", Str.ofString "y", Str.ofString "a"]].map nmD) [c] := by
    have sl : dSl (nmD N) (some 1) none = some (nmD (N.drop 1)) := by
      show some (D.tup (cutD (N.map D.str) (some 1) none)) = _
      rw [e1]
      show some (D.tup ((N.map D.str).drop 1)) = _
      rw [dr]; rfl
    have sl' : ∀ S, (mSl (mVar 13) (moSome (mC (.int 1))) moNone) (en (.d x0) TH [t3, some (.d pg), some (.d (.lst L)), t6, t7, t8, t9, t10, t11, some (.d (.str s)), some (.d (nmD N)), t14, t15, t16]) S = .ok (.d (nmD (N.drop 1))) S := fun S => by
      have V : mVar 13 (en (.d x0) TH [t3, some (.d pg), some (.d (.lst L)), t6, t7, t8, t9, t10, t11, some (.d (.str s)), some (.d (nmD N)), t14, t15, t16]) S = .ok (.d (nmD N)) S := rfl
      rw [mSl_, V, kS1_, moSome_, mC_, kO_, kS2_, moNone_, kS3_, peek_d]
      simp only [Option.bind_some, sl, Option.map_some, lift_some]
    have V : mVar 13 (en (.d x0) TH [t3, some (.d pg), some (.d (.lst L)), t6, t7, t8, t9, t10, t11, some (.d (.str s)), some (.d (nmD N)), t14, t15, t16]) [c] = .ok (.d (nmD N)) [c] := rfl
    have T0 : ∀ δ S, (mTup mNil) δ S = .ok (.d (nmD [])) S := fun δ S => by simp [s0, nmD]
    have T3' : ∀ δ S, (mTup (mCons (mC (.str "x")) (mCons (mC (.str "y")) (mCons (mC (.str "a")) mNil)))) δ S = .ok (.d (nmD [Str.ofString "x", Str.ofString "y", Str.ofString "a"])) S := fun δ S => by simp [s3, nmD]
    rw [mSeqI_, mTup_, mCons_, V, kC1_, mCons_, sl', kC1_, mCons_, T0, kC1_, mCons_, T3', kC1_, mNil_, kC2_, kC2_, kC2_, kC2_, kTup_]
    simp [s4, seqD]
  rw [mFor_, I1, kFor_]
  obtain ⟨δ', S', e, tr, rfl, rfl, a1, a2, a3⟩ := forD_inv (t := .nm 7) (m := kB) (b := 1) (I := fun δ S => ∃ tr : List (Option U), δ = en (.d x0) TH tr ∧ S = [c] ∧ tr.length = 14 ∧ tr[2]? = some (some (.d (.lst L))) ∧ tr[9]? = some (some (.d (.str s))))
    ([N, N.drop 1, [], [Str.ofString "x", Str.ofString "y", Str.ofString "a"]].map nmD) (en (.d x0) TH [t3, some (.d pg), some (.d (.lst L)), t6, t7, t8, t9, t10, t11, some (.d (.str s)), some (.d (nmD N)), t14, t15, t16]) [c] ⟨_, rfl, rfl, rfl, rfl, rfl⟩ (fun d hd δ S hI => by
      obtain ⟨tr, rfl, rfl, l14, q2, q9⟩ := hI
      obtain ⟨M, _, rfl⟩ := List.mem_map.mp hd
      obtain ⟨u3, u4, u5, u6, u7, u8, u9, u10, u11, u12, u13, u14, u15, u16, rfl⟩ : ∃ u3 u4 u5 u6 u7 u8 u9 u10 u11 u12 u13 u14 u15 u16, tr = [u3, u4, u5, u6, u7, u8, u9, u10, u11, u12, u13, u14, u15, u16] := by
        match tr, l14 with
        | [a, b, c, d, e, f, g, h, i, j, k, l, m, n], _ => exact ⟨a, b, c, d, e, f, g, h, i, j, k, l, m, n, rfl⟩
      have r2 : u5 = some (.d (.lst L)) := by simpa using q2
      have r9 : u12 = some (.d (.str s)) := by simpa using q9
      subst r2; subst r9
      refine ⟨en (.d x0) TH [u3, u4, some (.d (.lst L)), u6, some (.d (nmD M)), u8, u9, u10, u11, some (.d (.str s)), u13, u14, u15, u16], rfl, _, _, kB_ok hL, trimE 1 [c] [u3, u4, some (.d (.lst L)), u6, some (.d (nmD M)), u8, u9, u10, u11, some (.d (.str s)), u13, u14, u15, u16], en_trim (by decide) x0, rfl, by simp [trimE], rfl, rfl⟩)
  exact ⟨tr, e, a1, a2, a3⟩
theorem s7_ok {s : Str} {m' : MS} (hs : dRepr [.lst L] = some (.str s)) : (mIfS (mTest (m2 dNe (mCall dRepr (mCons (mVar 5) mNil)) (mVar 12))) m' mSkip) b (en (.d x0) TH [t3, t4, some (.d (.lst L)), t6, t7, t8, t9, t10, t11, some (.d (.str s)), t13, t14, t15, t16]) S = .next (en (.d x0) TH [t3, t4, some (.d (.lst L)), t6, t7, t8, t9, t10, t11, some (.d (.str s)), t13, t14, t15, t16]) S := by
  unfold en; simp [hs]
end
def oBody : MS := mSeq (mSet 5 (mStride true (mVar 2) (moSome (m2 dMod (mCall dInt (mCons (mVar 3) mNil)) (mC (.int 4)))) (moSome (mC (.int 4)))))
    (mSeq (mFor (mSeqI (m2 dIx (mVar 4) (mC (.int 0)))) (.nm 6) wBody)
    (mSeq (mFz (mSet 12 (mCall dRepr (mCons (mVar 5) mNil))))
    (mSeq (mIfS (mTest (m2 dNe (mLc (mSeqI (mVar 5)) (.nm 15) (mNotT (mTru (mFn (gKR nK) (mCons (mVar 15) mNil)))) (mVar 15) [15]) (mLst mNil))) (mRet (mC (.bl false))) mSkip)
    (mSeq (mSet 13 (mFn f__law_names_of (mCons (m2 dIx (m2 dIx (mVar 4) (mC (.int 0))) (m1 dNeg (mC (.int 1)))) mNil)))
    (mSeq (mFor (mSeqI (mTup (mCons (mVar 13) (mCons (mSl (mVar 13) (moSome (mC (.int 1))) moNone) (mCons (mTup mNil) (mCons (mTup (mCons (mC (.str "x")) (mCons (mC (.str "y")) (mCons (mC (.str "a")) mNil)))) mNil)))))) (.nm 7) kB)
    (mIfS (mTest (m2 dNe (mCall dRepr (mCons (mVar 5) mNil)) (mVar 12))) (mRet (mC (.bl false))) mSkip))))))
theorem oBody_ok {x0 : D} {TH : List D} {c : Cell} {kv : Int} {pg : D} (hT : ∀ d ∈ TH, LG d ∧ sz d ≤ 10000) (hTl : TH.length ≤ 200) (hp : IsProg pg) (hc : Fd c) {t5 t6 t7 t8 t9 t10 t11 t12 t13 t14 t15 t16 : Option U} :
    ∃ (c' : Cell) (tr : List (Option U)), oBody 1 (en (.d x0) TH [some (.d (.int kv)), some (.d pg), t5, t6, t7, t8, t9, t10, t11, t12, t13, t14, t15, t16]) [c] = .next (en (.d x0) TH tr) [c'] ∧ tr.length = 14 ∧ Fd c' := by
  obtain ⟨fs, r, rfl, fne, fl, ff⟩ := hp
  have pk := pickAt_len TH (some (kv.fmod 4)) 4 (by decide)
  have lot0 : Lot (pickAt TH (some (kv.fmod 4)) (some 4)) 2100000 := by
    refine ⟨fun d hd => (hT d (pickAt_mem hd)).1, ?_⟩
    have q := szL_bound (s := 10000) (ds := pickAt TH (some (kv.fmod 4)) (some 4)) fun d hd => (hT d (pickAt_mem hd)).2
    have q2 : (10000 + 2) * (pickAt TH (some (kv.fmod 4)) (some 4)).length ≤ (10000 + 2) * 200 := Nat.mul_le_mul_left _ (by omega)
    omega
  obtain ⟨c1, L, tr, e1, a1, a2, a3, h1, hL⟩ := wh_loop (x0 := x0) (TH := TH) (kv := kv) (pg := .tup (.tup fs :: r)) fs ff fl lot0 hc (tl := [some (.d (.int kv)), some (.d (.tup (.tup fs :: r))), some (.loc 1), t6, t7, t8, t9, t10, t11, t12, t13, t14, t15, t16]) rfl rfl rfl rfl
  obtain ⟨s, hs⟩ := lot_repr hL
  obtain ⟨v3, v6, v7, v8, v9, v10, v11, v13, v14, v15, v16, e3⟩ := s3_ok (x0 := x0) (TH := TH) (c := c1) hs a1 a2 a3
  obtain ⟨f, hf, ef⟩ := last_at fne
  obtain ⟨n, lo, hi, vs, m, rows, rfl, F⟩ := ff f hf
  obtain ⟨tr6, e6, b1, b2, b3⟩ := s6_ok (x0 := x0) (TH := TH) (b := 1) (c := c1) (N := vs.map nameOf) (s := s) (t3 := v3) (t6 := v6) (t7 := v7) (t8 := v8) (t9 := v9) (t10 := v10) (t11 := v11) (t14 := v14) (t15 := v15) (t16 := v16) hL (.tup (.tup fs :: r))
  obtain ⟨u3, u4, u5, u6, u7, u8, u9, u10, u11, u12, u13, u14, u15, u16, rfl⟩ : ∃ u3 u4 u5 u6 u7 u8 u9 u10 u11 u12 u13 u14 u15 u16, tr6 = [u3, u4, u5, u6, u7, u8, u9, u10, u11, u12, u13, u14, u15, u16] := by
    match tr6, b1 with
    | [a, b, c, d, e, f, g, h, i, j, k, l, m, n], _ => exact ⟨a, b, c, d, e, f, g, h, i, j, k, l, m, n, rfl⟩
  have r2 : u5 = some (.d (.lst L)) := by simpa using b2
  have r9 : u12 = some (.d (.str s)) := by simpa using b3
  subst r2; subst r9
  have i2 : (mSeqI (m2 dIx (mVar 4) (mC (.int 0)))) (en (.d x0) TH [some (.d (.int kv)), some (.d (.tup (.tup fs :: r))), some (.loc 1), t6, t7, t8, t9, t10, t11, t12, t13, t14, t15, t16]) [c, .lst (pickAt TH (some (kv.fmod 4)) (some 4))] = .ok fs [c, .lst (pickAt TH (some (kv.fmod 4)) (some 4))] := by
    unfold en; simp [seqD]
  refine ⟨c1, [u3, u4, some (.d (.lst L)), u6, u7, u8, u9, u10, u11, some (.d (.str s)), u13, u14, u15, u16], ?_, ?_, h1⟩
  · unfold oBody
    rw [mSeq_, st_lot, kSeq_n, mSeq_, mFor_, i2, kFor_]
    have lb : ([c, Cell.lst (pickAt TH (some (kv.fmod 4)) (some 4))] : Store).length = 2 := rfl
    rw [lb, e1, kSeq_n, mSeq_, e3, kSeq_n, mSeq_, s4_ok hL, kSeq_n, mSeq_, s5_ok ef F.hvs F.vl, kSeq_n, mSeq_, e6, kSeq_n]
    exact s7_ok hs
  · rfl
end W

set_option Elab.async false
set_option linter.all false
set_option maxRecDepth 100000
set_option maxHeartbeats 4000000
/-! M01t: the law's meaning answers True -/
namespace W
open DL PySem L2 PyProof.Rows
def gIV : Fn := f_is_variable (f_has_variable_shape (f_is_tuple_with tV))
def gIN : Fn := f_is_number f_is_integer
def gIT : Fn := f_is_test (f_is_tuple_with tS)
def gIR : Fn := f_is_row f_is_worded (f_is_tuple_with (tR (gE nK)))
def gFi : Fn := f_fits (gE nK) (gNm nK)
def LAW : Fn := f_law f__law_feed f__law_values f__law_more_values (gKR nK) gSm gPg gPo (gB 10) f__law_names_of (gKp nK) gIV f_is_name gIN f_is_integer gIT gIR (gE nK) gFi
def TH : List D := VAL ++ MOR
theorem th_good : ∀ d ∈ TH, LG d ∧ sz d ≤ 10000 := by
  intro d hd
  have h : gdB d = true := (List.mem_append.mp hd).elim (List.all_eq_true.mp val_good d) (List.all_eq_true.mp mor_good d)
  unfold gdB at h
  simp only [Bool.and_eq_true, decide_eq_true_eq] at h
  exact ⟨⟨h.1.1, by omega, h.2⟩, h.1.2⟩
theorem th_len : TH.length ≤ 200 := by unfold TH; rw [List.length_append]; exact vm_len
theorem gd_mk {d : D} (h : gdB d = true) : Gd d ∧ dp d < nK := by
  unfold gdB at h
  simp only [Bool.and_eq_true, decide_eq_true_eq] at h
  exact ⟨⟨h.1.1, by omega, by omega⟩, by unfold nK; omega⟩
section
variable {S : Store}
theorem k_int : f_is_integer [.d (.int (-1))] S = .ok (.d (.bl true)) S := integer_ok (gd_mk (d := .int (-1)) (by decide +kernel)).1
theorem k_num : gIN [.d (.int 0)] S = .ok (.d (.bl true)) S := number_ok (gd_mk (d := .int 0) (by decide +kernel)).1
theorem k_nam : f_is_name [.d (.str "not")] S = .ok (.d (.bl true)) S := by
  rw [name_ok (gd_mk (d := .str "not") (by decide +kernel)).1]
  have : isNam (.str "not") = true := by decide +kernel
  rw [this]
theorem k_var : gIV [.d (.tup [.str "a", .int 0, .int 0])] S = .ok (.d (.bl true)) S := by
  have h := var_ok (S := S) (gd_mk (d := .tup [.str "a", .int 0, .int 0]) (by decide +kernel)).1
  have : isVar (.tup [.str "a", .int 0, .int 0]) = true := by decide +kernel
  rw [this] at h; exact h
theorem k_exp : gE nK [.d (.str "x")] S = .ok (.d (.bl true)) S := by
  have h := expr_ok nK (S := S) (gd_mk (d := .str "x") (by decide +kernel)).1 (gd_mk (d := .str "x") (by decide +kernel)).2
  have : isExpr (.str "x") = true := by decide +kernel
  rw [this] at h; exact h
theorem k_row : gIR [.d (.tup [.str "end"])] S = .ok (.d (.bl true)) S := by
  have h := row_ok (n := nK) (S := S) (gd_mk (d := .tup [.str "end"]) (by decide +kernel)).1 (by have := (gd_mk (d := .tup [.str "end"]) (by decide +kernel)).2; omega)
  have : isRw (.tup [.str "end"]) = true := by decide +kernel
  rw [this] at h; exact h
theorem k_tst : gIT [.d (.tup [.tup [], .int 0])] S = .ok (.d (.bl true)) S := by
  have h := test_ok (S := S) (gd_mk (d := .tup [.tup [], .int 0]) (by decide +kernel)).1
  have : isTst (.tup [.tup [], .int 0]) = true := by decide +kernel
  rw [this] at h; exact h
theorem k_fit : gFi [.d (.tup [.str "x"]), .d (.str "x")] S = .ok (.d (.bl true)) S := by
  have h := fits_ok (n := nK) (N := ["x"]) (S := S) (gd_mk (d := .str "x") (by decide +kernel)).1 (gd_mk (d := .str "x") (by decide +kernel)).2
  have : fit ["x"] (.str "x") = true := by decide +kernel
  rw [this] at h; exact h
end
section
variable {x0 : D} {c : Cell} {tl : List (Option U)}
theorem law_loop (ds : List D) (hds : ∀ d ∈ ds, ∃ (k : Int) (p : D), d = .tup [.int k, p] ∧ IsProg p) (hc : Fd c) (hl : tl.length = 14) : ∃ (c' : Cell) (tr : List (Option U)), forD (.tp [3, 4]) oBody 1 ds (en (.d x0) TH tl) [c] = .next (en (.d x0) TH tr) [c'] ∧ tr.length = 14 ∧ Fd c' := by
  obtain ⟨δ', S', e, c', tr, rfl, rfl, a1, a2⟩ := forD_inv (t := .tp [3, 4]) (m := oBody) (b := 1) (I := fun δ S => ∃ (c : Cell) (tr : List (Option U)), δ = en (.d x0) TH tr ∧ S = [c] ∧ tr.length = 14 ∧ Fd c)
    ds _ _ ⟨c, tl, rfl, rfl, hl, hc⟩ (fun d hd δ S hI => by
      obtain ⟨c, tr, rfl, rfl, l14, hc⟩ := hI
      obtain ⟨k, p, rfl, hp⟩ := hds d hd
      obtain ⟨u3, u4, u5, u6, u7, u8, u9, u10, u11, u12, u13, u14, u15, u16, rfl⟩ : ∃ u3 u4 u5 u6 u7 u8 u9 u10 u11 u12 u13 u14 u15 u16, tr = [u3, u4, u5, u6, u7, u8, u9, u10, u11, u12, u13, u14, u15, u16] := by
        match tr, l14 with
        | [a, b, c, d, e, f, g, h, i, j, k, l, m, n], _ => exact ⟨a, b, c, d, e, f, g, h, i, j, k, l, m, n, rfl⟩
      obtain ⟨c', tr', e, l, h⟩ := oBody_ok (x0 := x0) (kv := k) (pg := p) (t5 := u5) (t6 := u6) (t7 := u7) (t8 := u8) (t9 := u9) (t10 := u10) (t11 := u11) (t12 := u12) (t13 := u13) (t14 := u14) (t15 := u15) (t16 := u16) th_good th_len hp hc
      exact ⟨en (.d x0) TH [some (.d (.int k)), some (.d p), u5, u6, u7, u8, u9, u10, u11, u12, u13, u14, u15, u16], rfl, _, _, e, c', trimE 1 [c'] tr', en_trim (by decide) x0, rfl, by simp [trimE, l], h⟩)
  exact ⟨c', tr, e, a1, a2⟩
theorem enum_all : ∀ (ps : List D) (n : Nat), (∀ p ∈ ps, IsProg p) → ∀ d ∈ enumD n ps, ∃ (k : Int) (p : D), d = .tup [.int k, p] ∧ IsProg p
  | [], _, _ => fun d hd => by cases hd
  | p :: ps, n, h => fun d hd => by
    rcases List.mem_cons.mp hd with rfl | hd
    · exact ⟨_, p, rfl, h p (List.mem_cons_self ..)⟩
    · exact enum_all ps (n + 1) (fun q hq => h q (List.mem_cons_of_mem _ hq)) d hd
theorem a2_ok {o1 : U} : (mSet 2 (m2 dAdd (mFn f__law_values mNil) (mFn f__law_more_values mNil))) 0 [some (.d x0), some (.loc 0), none, none, none, none, none, none, none, none, none, none, none, none, none, none, none] [c] = .next (en (.d x0) TH (List.replicate 14 none)) [c] := by
  have z : VAL.length + MOR.length ≤ sizeLine := by have := vm_len; rw [sizeLine_eq]; omega
  have A : (mFn f__law_values mNil) [some (.d x0), some (.loc 0), none, none, none, none, none, none, none, none, none, none, none, none, none, none, none] [c] = .ok (.d (.lst VAL)) [c] := by
    show kFn f__law_values (.ok [] [c]) = _
    rw [kFn_]; exact values_ok c
  have B : (mFn f__law_more_values mNil) [some (.d x0), some (.loc 0), none, none, none, none, none, none, none, none, none, none, none, none, none, none, none] [c] = .ok (.d (.lst MOR)) [c] := by
    show kFn f__law_more_values (.ok [] [c]) = _
    rw [kFn_]; exact more_ok c
  rw [mSet_, m2_, A, k2a_, B, k2b_]
  simp only [peek_d, dAdd_l, if_pos z, Option.map_some, lift_some]
  rfl
theorem a3_ok {m' : MS} : (mIfS (mTest (m2 dNe (mLc (mSeqI (mVar 2)) (.nm 15) (mNotT (mTru (mFn (gKR nK) (mCons (mVar 15) mNil)))) (mVar 15) [15]) (mLst mNil))) m' mSkip) 0 (en (.d x0) TH (List.replicate 14 none)) [c] = .next (en (.d x0) TH (List.replicate 14 none)) [c] := by
  rw [mIfS_, none_lc (L := TH) rfl (by have := th_len; rw [sizeLine_eq]; omega) (fun d hd => ?_)]
  · rfl
  · have g := (th_good d hd).1
    have k := kinds_right (n := nK) (S := [c]) g.gd (by have := g.d; unfold nK; omega)
    have e : (wipeD [15] (en (.d x0) TH (List.replicate 14 none))).set 15 (some (.d d)) = [some (.d x0), some (.loc 0), some (.d (.lst TH)), none, none, none, none, none, none, none, none, none, none, none, none, some (.d d), none] := rfl
    rw [e]
    simp [k, truD]
theorem a4_it (hc : Fd c) : ∃ (ps : List D) (c' : Cell), (mEnumI (m2 dAdd (mFn gSm mNil) (mLc (mRange1 (mC (.int 4))) (.nm 16) mYes (mFn gPg (mCons (mVar 1) mNil)) [16]))) (en (.d x0) TH (List.replicate 14 none)) [c] = .ok (enumD 0 ps) [c'] ∧ Fd c' ∧ ∀ p ∈ ps, IsProg p := by
  obtain ⟨ys, S', e, ⟨c', rfl, hc'⟩, hl, hp⟩ := lcD_inv (t := .nm 16) (mt := mYes) (me := mFn gPg (mCons (mVar 1) mNil)) (δ := wipeD [16] (en (.d x0) TH (List.replicate 14 none))) (I := fun S => ∃ c, S = [c] ∧ Fd c) (P := IsProg) (rangeD 0 4) [c] ⟨c, rfl, hc⟩ (fun d hd S hS => by
    obtain ⟨c, rfl, hc⟩ := hS
    obtain ⟨p, c', e, h', hp⟩ := program_ok [] hc
    refine ⟨_, rfl, rfl, p, [c'], ?_, ⟨c', rfl, h'⟩, hp⟩
    show kFn gPg (.ok [.loc 0] [c]) = _
    rw [kFn_]; exact e)
  have lr : (rangeD 0 4).length = 4 := by unfold rangeD; simp
  rw [lr] at hl
  have z4 : (rangeD 0 4).length ≤ sizeLine := by rw [lr, sizeLine_eq]; decide
  have A : (mFn gSm mNil) (en (.d x0) TH (List.replicate 14 none)) [c] = .ok (.d (.lst SAM)) [c] := by
    show kFn gSm (.ok [] [c]) = _
    rw [kFn_]; exact samples_ok c
  have R4 : (mRange1 (mC (.int 4))) (en (.d x0) TH (List.replicate 14 none)) [c] = .ok (rangeD 0 4) [c] := by
    rw [mRange1_, mC_]
    exact kR1_n _ 4 (by decide)
  have z : SAM.length + ys.length ≤ sizeLine := by rw [sam_len, hl, sizeLine_eq]; decide
  refine ⟨SAM ++ ys, c', ?_, hc', fun p hp' => (List.mem_append.mp hp').elim (fun q => progB_ok (List.all_eq_true.mp sam_good p q)) (hp p)⟩
  rw [mEnumI_, m2_, A, k2a_, mLc_, R4, kLc_, if_pos z4, e, kL_, k2b_]
  simp only [peek_d, dAdd_l, if_pos z, Option.map_some, lift_some]
  rfl
/-! ### the end -/
theorem a5_ok (h14 : tl.length = 14) : ∃ tr : List (Option U), (mSet 14 (mLstC (mCons (mFnK false f_is_integer (mCons (m1 dNeg (mC (.int 1))) mNil)) (mCons (mFnK false gIN (mCons (mC (.int 0)) mNil)) (mCons (mFnK false f_is_name (mCons (mC (.str "not")) mNil)) (mCons (mFnK false gIV (mCons (mTup (mCons (mC (.str "a")) (mCons (mC (.int 0)) (mCons (mC (.int 0)) mNil)))) mNil)) mNil)))))) 0 (en (.d x0) TH tl) [c] = .next (en (.d x0) TH tr) [c, .lst [.bl true, .bl true, .bl true, .bl true]] ∧ tr.length = 14 ∧ tr[11]? = some (some (.loc 1)) := by
  have s3 : 3 ≤ sizeLine := by decide
  have s4 : 4 ≤ sizeLine := by decide
  refine ⟨tl.set 11 (some (.loc 1)), ?_, by simp [h14], by rw [List.getElem?_set_self (by omega)]⟩
  simp [flp, k_int, k_num, k_nam, k_var, s3, s4]
  rfl
theorem a6_ok {M : List D} (h14 : tl.length = 14) (h11 : tl[11]? = some (some (.loc 1))) (hM : M.length ≤ 10) : (mExpr (mMeth isL aExtend (mVar 14) (mCons (mLst (mCons (mFnK false (gE nK) (mCons (mC (.str "x")) mNil)) (mCons (mFnK false gIR (mCons (mTup (mCons (mC (.str "end")) mNil)) mNil)) (mCons (mFnK false gIT (mCons (mTup (mCons (mTup mNil) (mCons (mC (.int 0)) mNil))) mNil)) mNil)))) mNil))) 0 (en (.d x0) TH tl) [c, .lst M] = .next (en (.d x0) TH tl) [c, .lst (M ++ [.bl true, .bl true, .bl true])] := by
  have s0 : 0 ≤ sizeLine := by decide
  have s1 : 1 ≤ sizeLine := by decide
  have s2 : 2 ≤ sizeLine := by decide
  have s3 : 3 ≤ sizeLine := by decide
  have z : M.length + 3 ≤ sizeLine := by rw [sizeLine_eq]; omega
  have V : ∀ S, mVar 14 (en (.d x0) TH tl) S = .ok (.loc 1) S := fun S => by
    show (match (en (.d x0) TH tl)[14]? with | some (some u) => Res.ok u S | _ => .stuck) = _
    have : (en (.d x0) TH tl)[14]? = some (some (.loc 1)) := h11
    rw [this]
  rw [mExpr_, mMeth_, V]
  simp [flp, k_exp, k_row, k_tst, s0, s1, s2, s3, isL, aExtend, z]
theorem a7_ok {M : List D} (h14 : tl.length = 14) (h11 : tl[11]? = some (some (.loc 1))) (hM : M.length ≤ 10) : (mExpr (mMeth isL aExtend (mVar 14) (mCons (mLst (mCons (mFnK true gFi (mCons (mC (.str "x")) (mCons (mTup (mCons (mC (.str "x")) mNil)) mNil))) mNil)) mNil))) 0 (en (.d x0) TH tl) [c, .lst M] = .next (en (.d x0) TH tl) [c, .lst (M ++ [.bl true])] := by
  have s1 : 1 ≤ sizeLine := by decide
  have z : M.length + 1 ≤ sizeLine := by rw [sizeLine_eq]; omega
  have V : ∀ S, mVar 14 (en (.d x0) TH tl) S = .ok (.loc 1) S := fun S => by
    show (match (en (.d x0) TH tl)[14]? with | some (some u) => Res.ok u S | _ => .stuck) = _
    have : (en (.d x0) TH tl)[14]? = some (some (.loc 1)) := h11
    rw [this]
  rw [mExpr_, mMeth_, V]
  simp [flp, k_fit, s1, isL, aExtend, z]
theorem a8_ok (h11 : tl[11]? = some (some (.loc 1))) : (mRet (m2 dEq (mCall dRepr (mCons (mVar 14) mNil)) (mCall dRepr (mCons (m2 dMul (mLst (mCons (mC (.bl true)) mNil)) (mC (.int 8))) mNil)))) 0 (en (.d x0) TH tl) [c, .lst [.bl true, .bl true, .bl true, .bl true, .bl true, .bl true, .bl true, .bl true]] = .ret (.d (.bl true)) [c, .lst [.bl true, .bl true, .bl true, .bl true, .bl true, .bl true, .bl true, .bl true]] := by
  have s1 : 1 ≤ sizeLine := by decide
  obtain ⟨s, hs⟩ := repr_bools [true, true, true, true, true, true, true, true] (by decide)
  simp only [List.map_cons, List.map_nil] at hs
  have V : ∀ S, mVar 14 (en (.d x0) TH tl) S = .ok (.loc 1) S := fun S => by
    show (match (en (.d x0) TH tl)[14]? with | some (some u) => Res.ok u S | _ => .stuck) = _
    have : (en (.d x0) TH tl)[14]? = some (some (.loc 1)) := h11
    rw [this]
  have A : (mCall dRepr (mCons (mVar 14) mNil)) (en (.d x0) TH tl) [c, .lst [.bl true, .bl true, .bl true, .bl true, .bl true, .bl true, .bl true, .bl true]] = .ok (.d (.str s)) [c, .lst [.bl true, .bl true, .bl true, .bl true, .bl true, .bl true, .bl true, .bl true]] := by
    rw [mCall_, mCons_, V, kC1_, mNil_, kC2_, kCall_]
    simp [peeks_c, peek, hs]
  have B : (mCall dRepr (mCons (m2 dMul (mLst (mCons (mC (.bl true)) mNil)) (mC (.int 8))) mNil)) (en (.d x0) TH tl) [c, .lst [.bl true, .bl true, .bl true, .bl true, .bl true, .bl true, .bl true, .bl true]] = .ok (.d (.str s)) [c, .lst [.bl true, .bl true, .bl true, .bl true, .bl true, .bl true, .bl true, .bl true]] := by
    have R8 : (List.replicate (8 : Int).toNat [D.bl true]).flatten = [.bl true, .bl true, .bl true, .bl true, .bl true, .bl true, .bl true, .bl true] := rfl
    have M8 : dMul (.lst [.bl true]) (.int 8) = some (.lst [.bl true, .bl true, .bl true, .bl true, .bl true, .bl true, .bl true, .bl true]) := rfl
    have A1 : (m2 dMul (mLst (mCons (mC (.bl true)) mNil)) (mC (.int 8))) (en (.d x0) TH tl) [c, .lst [.bl true, .bl true, .bl true, .bl true, .bl true, .bl true, .bl true, .bl true]] = .ok (.d (.lst [.bl true, .bl true, .bl true, .bl true, .bl true, .bl true, .bl true, .bl true])) [c, .lst [.bl true, .bl true, .bl true, .bl true, .bl true, .bl true, .bl true, .bl true]] := by
      simp [s1, M8, -dMul_l]
    rw [mCall_, mCons_, A1, kC1_, mNil_, kC2_, kCall_]
    simp [hs]
  rw [mRet_, m2_, A, k2a_, B, k2b_]
  simp
end
theorem a6' {x0 : D} {c : Cell} {tl : List (Option U)} (h14 : tl.length = 14) (h11 : tl[11]? = some (some (.loc 1))) : (mExpr (mMeth isL aExtend (mVar 14) (mCons (mLst (mCons (mFnK false (gE nK) (mCons (mC (.str "x")) mNil)) (mCons (mFnK false gIR (mCons (mTup (mCons (mC (.str "end")) mNil)) mNil)) (mCons (mFnK false gIT (mCons (mTup (mCons (mTup mNil) (mCons (mC (.int 0)) mNil))) mNil)) mNil)))) mNil))) 0 (en (.d x0) TH tl) [c, .lst [.bl true, .bl true, .bl true, .bl true]] = .next (en (.d x0) TH tl) [c, .lst [.bl true, .bl true, .bl true, .bl true, .bl true, .bl true, .bl true]] := a6_ok (M := [.bl true, .bl true, .bl true, .bl true]) h14 h11 (by decide)
theorem a7' {x0 : D} {c : Cell} {tl : List (Option U)} (h14 : tl.length = 14) (h11 : tl[11]? = some (some (.loc 1))) : (mExpr (mMeth isL aExtend (mVar 14) (mCons (mLst (mCons (mFnK true gFi (mCons (mC (.str "x")) (mCons (mTup (mCons (mC (.str "x")) mNil)) mNil))) mNil)) mNil))) 0 (en (.d x0) TH tl) [c, .lst [.bl true, .bl true, .bl true, .bl true, .bl true, .bl true, .bl true]] = .next (en (.d x0) TH tl) [c, .lst [.bl true, .bl true, .bl true, .bl true, .bl true, .bl true, .bl true, .bl true]] := a7_ok (M := [.bl true, .bl true, .bl true, .bl true, .bl true, .bl true, .bl true]) h14 h11 (by decide)
def e17 (x : D) : DEnv := [some (.d x), none, none, none, none, none, none, none, none, none, none, none, none, none, none, none, none]
theorem a1_ok {x0 : D} {c : Cell} (ef : f__law_feed [.d x0] [] = .ok (.loc ([] : Store).length) ([] ++ [c])) : (mSet 1 (mFn f__law_feed (mCons (mVar 0) mNil))) 0 (e17 x0) [] = .next [some (.d x0), some (.loc 0), none, none, none, none, none, none, none, none, none, none, none, none, none, none, none] [c] := by
  show kSet 1 _ (kFn f__law_feed (.ok [.d x0] [])) = _
  rw [kFn_, ef]; rfl
/-- the last four statements -/
def tailS : MS := mSeq (mSet 14 (mLstC (mCons (mFnK false f_is_integer (mCons (m1 dNeg (mC (.int 1))) mNil)) (mCons (mFnK false gIN (mCons (mC (.int 0)) mNil)) (mCons (mFnK false f_is_name (mCons (mC (.str "not")) mNil)) (mCons (mFnK false gIV (mCons (mTup (mCons (mC (.str "a")) (mCons (mC (.int 0)) (mCons (mC (.int 0)) mNil)))) mNil)) mNil))))))
    (mSeq (mExpr (mMeth isL aExtend (mVar 14) (mCons (mLst (mCons (mFnK false (gE nK) (mCons (mC (.str "x")) mNil)) (mCons (mFnK false gIR (mCons (mTup (mCons (mC (.str "end")) mNil)) mNil)) (mCons (mFnK false gIT (mCons (mTup (mCons (mTup mNil) (mCons (mC (.int 0)) mNil))) mNil)) mNil)))) mNil)))
    (mSeq (mExpr (mMeth isL aExtend (mVar 14) (mCons (mLst (mCons (mFnK true gFi (mCons (mC (.str "x")) (mCons (mTup (mCons (mC (.str "x")) mNil)) mNil))) mNil)) mNil)))
    (mRet (m2 dEq (mCall dRepr (mCons (mVar 14) mNil)) (mCall dRepr (mCons (m2 dMul (mLst (mCons (mC (.bl true)) mNil)) (mC (.int 8))) mNil))))))
theorem tail_ok {x0 : D} {c : Cell} {tl : List (Option U)} (h14 : tl.length = 14) : tailS 0 (en (.d x0) TH tl) [c] = .ret (.d (.bl true)) [c, .lst [.bl true, .bl true, .bl true, .bl true, .bl true, .bl true, .bl true, .bl true]] := by
  obtain ⟨tr, e6, l6, q6⟩ := a5_ok (x0 := x0) (c := c) h14
  unfold tailS
  rw [mSeq_, e6, kSeq_n, mSeq_, a6' l6 q6, kSeq_n, mSeq_, a7' l6 q6, kSeq_n, a8_ok q6]
def iterS : MI := mEnumI (m2 dAdd (mFn gSm mNil) (mLc (mRange1 (mC (.int 4))) (.nm 16) mYes (mFn gPg (mCons (mVar 1) mNil)) [16]))
def bodyL : MS := mSeq (mSet 1 (mFn f__law_feed (mCons (mVar 0) mNil)))
    (mSeq (mSet 2 (m2 dAdd (mFn f__law_values mNil) (mFn f__law_more_values mNil)))
    (mSeq (mIfS (mTest (m2 dNe (mLc (mSeqI (mVar 2)) (.nm 15) (mNotT (mTru (mFn (gKR nK) (mCons (mVar 15) mNil)))) (mVar 15) [15]) (mLst mNil))) (mRet (mC (.bl false))) mSkip)
    (mSeq (mFor iterS (.tp [3, 4]) oBody) tailS)))
theorem bodyL_eq : b_law f__law_feed f__law_values f__law_more_values (gKR nK) gSm gPg gPo (gB 10) f__law_names_of (gKp nK) gIV f_is_name gIN f_is_integer gIT gIR (gE nK) gFi = bodyL := by
  unfold b_law bodyL iterS tailS oBody wBody iBody kB
  exact rfl
theorem bodyL_ok {x0 : D} {c c1 c2 : Cell} {ps : List D} {tr : List (Option U)} (ef : f__law_feed [.d x0] [] = .ok (.loc ([] : Store).length) ([] ++ [c])) (e4 : iterS (en (.d x0) TH (List.replicate 14 none)) [c] = .ok (enumD 0 ps) [c1]) (e5 : forD (.tp [3, 4]) oBody 1 (enumD 0 ps) (en (.d x0) TH (List.replicate 14 none)) [c1] = .next (en (.d x0) TH tr) [c2]) (l5 : tr.length = 14) :
    bodyL 0 (e17 x0) [] = .ret (.d (.bl true)) [c2, .lst [.bl true, .bl true, .bl true, .bl true, .bl true, .bl true, .bl true, .bl true]] := by
  unfold bodyL
  rw [mSeq_, a1_ok ef, kSeq_n, mSeq_, a2_ok (o1 := .loc 0), kSeq_n, mSeq_, a3_ok, kSeq_n, mSeq_, mFor_, e4, kFor_, List.length_singleton, e5, kSeq_n, tail_ok l5]
theorem LAW_ok (ns : List Int) (hl : ns.length ≤ 63) : ∃ S, LAW [.d (.fl (ns.map D.int))] [] = .ok (.d (.bl true)) S := by
  obtain ⟨c, ef, hf⟩ := feed_ok ns hl []
  obtain ⟨ps, c1, e4, h1, hp⟩ := a4_it (x0 := .fl (ns.map D.int)) hf
  obtain ⟨c2, tr, e5, l5, h2⟩ := law_loop (x0 := .fl (ns.map D.int)) (tl := List.replicate 14 none) (enumD 0 ps) (enum_all ps 0 hp) h1 List.length_replicate
  have body := bodyL_ok ef e4 e5 l5
  have hen : enter 17 [U.d (.fl (ns.map D.int))] = e17 (.fl (ns.map D.int)) := rfl
  refine ⟨[], ?_⟩
  unfold LAW f_law
  rw [bodyL_eq, callM_, if_pos (show [U.d (.fl (ns.map D.int))].length = 1 from rfl), hen, List.length_nil, body, exit_d]
  rfl
end W

set_option Elab.async false
set_option linter.all false
set_option maxRecDepth 100000
set_option maxHeartbeats 4000000
/-! printed by genjoin2.py: the program's top and the law -/
namespace W
open PySem PySem.Spec PyProof.Rows L2 DL
theorem all_mk {l : PySem.W.OpenLaw} {w : World} {K : PySem.W.Frag} {h : Heap} {mg : Str → Option Value} {fa f1 f2 f3 f4 f5 f6 f7 f8 f9 f10 f11 f12 f13 f14 f15 f16 f17 f18 f19 f20 f21 f22 f23 f24 f25 f26 f27 f28 f29 f30 f31 f32 f33 f34 f35 f36 f37 f38 f39 f40 f41 f42 f43 f44 f45 f46 : Addr} (X : K.In h) (GG : h.Ns mainGlobals mg) (hfa : mg "law" = some (.ref fa))
    {od1 an1 od2 an2 od3 an3 od4 an4 od5 an5 od6 an6 od7 an7 od8 an8 od9 an9 od10 an10 od11 an11 od12 an12 od13 an13 od14 an14 od15 an15 od16 an16 od17 an17 od18 an18 od19 an19 od20 an20 od21 an21 od22 an22 od23 an23 od24 an24 od25 an25 od26 an26 od27 an27 od28 an28 od29 an29 od30 an30 od31 an31 od32 an32 od33 an33 od34 an34 od35 an35 od36 an36 od37 an37 od38 an38 od39 an39 od40 an40 od41 an41 od42 an42 od43 an43 od44 an44 od45 an45 od46 an46 : Option Addr} {sl1 sl2 sl3 sl4 sl5 sl6 sl7 sl8 sl9 sl10 sl11 sl12 sl13 sl14 sl15 sl16 sl17 sl18 sl19 sl20 sl21 sl22 sl23 sl24 sl25 sl26 sl27 sl28 sl29 sl30 sl31 sl32 sl33 sl34 sl35 sl36 sl37 sl38 sl39 sl40 sl41 sl42 sl43 sl44 sl45 sl46 : Array (Option Value)} {oc1 kV1 dc1 pm1 cd1 ct1 oc2 kV2 dc2 pm2 cd2 ct2 oc3 kV3 dc3 pm3 cd3 ct3 oc4 kV4 dc4 pm4 cd4 ct4 oc5 kV5 dc5 pm5 cd5 ct5 oc6 kV6 dc6 pm6 cd6 ct6 oc7 kV7 dc7 pm7 cd7 ct7 oc8 kV8 dc8 pm8 cd8 ct8 oc9 kV9 dc9 pm9 cd9 ct9 oc10 kV10 dc10 pm10 cd10 ct10 oc11 kV11 dc11 pm11 cd11 ct11 oc12 kV12 dc12 pm12 cd12 ct12 oc13 kV13 dc13 pm13 cd13 ct13 oc14 kV14 dc14 pm14 cd14 ct14 oc15 kV15 dc15 pm15 cd15 ct15 oc16 kV16 dc16 pm16 cd16 ct16 oc17 kV17 dc17 pm17 cd17 ct17 oc18 kV18 dc18 pm18 cd18 ct18 oc19 kV19 dc19 pm19 cd19 ct19 oc20 kV20 dc20 pm20 cd20 ct20 oc21 kV21 dc21 pm21 cd21 ct21 oc22 kV22 dc22 pm22 cd22 ct22 oc23 kV23 dc23 pm23 cd23 ct23 oc24 kV24 dc24 pm24 cd24 ct24 oc25 kV25 dc25 pm25 cd25 ct25 oc26 kV26 dc26 pm26 cd26 ct26 oc27 kV27 dc27 pm27 cd27 ct27 oc28 kV28 dc28 pm28 cd28 ct28 oc29 kV29 dc29 pm29 cd29 ct29 oc30 kV30 dc30 pm30 cd30 ct30 oc31 kV31 dc31 pm31 cd31 ct31 oc32 kV32 dc32 pm32 cd32 ct32 oc33 kV33 dc33 pm33 cd33 ct33 oc34 kV34 dc34 pm34 cd34 ct34 oc35 kV35 dc35 pm35 cd35 ct35 oc36 kV36 dc36 pm36 cd36 ct36 oc37 kV37 dc37 pm37 cd37 ct37 oc38 kV38 dc38 pm38 cd38 ct38 oc39 kV39 dc39 pm39 cd39 ct39 oc40 kV40 dc40 pm40 cd40 ct40 oc41 kV41 dc41 pm41 cd41 ct41 oc42 kV42 dc42 pm42 cd42 ct42 oc43 kV43 dc43 pm43 cd43 ct43 oc44 kV44 dc44 pm44 cd44 ct44 oc45 kV45 dc45 pm45 cd45 ct45 oc46 kV46 dc46 pm46 cd46 ct46 : Value}
    {tk_LONGEST_NAME : Tok} {tk_LETTERS : Tok} {d_SHAPES : Addr} {es_SHAPES : Array DictEntry} {n_SHAPES : Nat} {d_ROW_SHAPES : Addr} {es_ROW_SHAPES : Array DictEntry} {n_ROW_SHAPES : Nat} {p_ONE_PART : Addr} {od_ONE_PART : Option Addr} {nn_ONE_PART : Nat} {sl_ONE_PART : Array (Option Value)} {p_TWO_PARTS : Addr} {od_TWO_PARTS : Option Addr} {nn_TWO_PARTS : Nat} {sl_TWO_PARTS : Array (Option Value)} {p_SHAPES_14 : Addr} {od_SHAPES_14 : Option Addr} {nn_SHAPES_14 : Nat} {sl_SHAPES_14 : Array (Option Value)} {p_ROW_SHAPES_0 : Addr} {od_ROW_SHAPES_0 : Option Addr} {nn_ROW_SHAPES_0 : Nat} {sl_ROW_SHAPES_0 : Array (Option Value)} {p_ROW_SHAPES_2 : Addr} {od_ROW_SHAPES_2 : Option Addr} {nn_ROW_SHAPES_2 : Nat} {sl_ROW_SHAPES_2 : Array (Option Value)} {p_ROW_SHAPES_4 : Addr} {od_ROW_SHAPES_4 : Option Addr} {nn_ROW_SHAPES_4 : Nat} {sl_ROW_SHAPES_4 : Array (Option Value)} {p_ROW_SHAPES_5 : Addr} {od_ROW_SHAPES_5 : Option Addr} {nn_ROW_SHAPES_5 : Nat} {sl_ROW_SHAPES_5 : Array (Option Value)}
    (a1 : PySem.W.nsIn K mainGlobals "is_integer" = some (some (.ref f1))) (l1 : K.lookup f1 = some ⟨oc1, od1, .func (PySem.W.fnOf "is_integer" "is_integer" (defArgs s_is_integer) (defBody s_is_integer) (defScope s_is_integer) .none kV1 dc1 pm1 an1 cd1 ct1), sl1⟩) (c1 : PySem.W.codeIn K cd1 "is_integer" = true) (k1 : PySem.W.keepIn K (.ref f1) = true)
    (a2 : PySem.W.nsIn K mainGlobals "is_number" = some (some (.ref f2))) (l2 : K.lookup f2 = some ⟨oc2, od2, .func (PySem.W.fnOf "is_number" "is_number" (defArgs s_is_number) (defBody s_is_number) (defScope s_is_number) .none kV2 dc2 pm2 an2 cd2 ct2), sl2⟩) (c2 : PySem.W.codeIn K cd2 "is_number" = true) (k2 : PySem.W.keepIn K (.ref f2) = true)
    (a3 : PySem.W.nsIn K mainGlobals "is_name" = some (some (.ref f3))) (l3 : K.lookup f3 = some ⟨oc3, od3, .func (PySem.W.fnOf "is_name" "is_name" (defArgs s_is_name) (defBody s_is_name) (defScope s_is_name) .none kV3 dc3 pm3 an3 cd3 ct3), sl3⟩) (c3 : PySem.W.codeIn K cd3 "is_name" = true) (k3 : PySem.W.keepIn K (.ref f3) = true)
    (a4 : PySem.W.nsIn K mainGlobals "is_tuple_with" = some (some (.ref f4))) (l4 : K.lookup f4 = some ⟨oc4, od4, .func (PySem.W.fnOf "is_tuple_with" "is_tuple_with" (defArgs s_is_tuple_with) (defBody s_is_tuple_with) (defScope s_is_tuple_with) .none kV4 dc4 pm4 an4 cd4 ct4), sl4⟩) (c4 : PySem.W.codeIn K cd4 "is_tuple_with" = true) (k4 : PySem.W.keepIn K (.ref f4) = true)
    (a5 : PySem.W.nsIn K mainGlobals "is_tuple_of" = some (some (.ref f5))) (l5 : K.lookup f5 = some ⟨oc5, od5, .func (PySem.W.fnOf "is_tuple_of" "is_tuple_of" (defArgs s_is_tuple_of) (defBody s_is_tuple_of) (defScope s_is_tuple_of) .none kV5 dc5 pm5 an5 cd5 ct5), sl5⟩) (c5 : PySem.W.codeIn K cd5 "is_tuple_of" = true) (k5 : PySem.W.keepIn K (.ref f5) = true)
    (a6 : PySem.W.nsIn K mainGlobals "has_variable_shape" = some (some (.ref f6))) (l6 : K.lookup f6 = some ⟨oc6, od6, .func (PySem.W.fnOf "has_variable_shape" "has_variable_shape" (defArgs s_has_variable_shape) (defBody s_has_variable_shape) (defScope s_has_variable_shape) .none kV6 dc6 pm6 an6 cd6 ct6), sl6⟩) (c6 : PySem.W.codeIn K cd6 "has_variable_shape" = true) (k6 : PySem.W.keepIn K (.ref f6) = true)
    (a7 : PySem.W.nsIn K mainGlobals "is_variable" = some (some (.ref f7))) (l7 : K.lookup f7 = some ⟨oc7, od7, .func (PySem.W.fnOf "is_variable" "is_variable" (defArgs s_is_variable) (defBody s_is_variable) (defScope s_is_variable) .none kV7 dc7 pm7 an7 cd7 ct7), sl7⟩) (c7 : PySem.W.codeIn K cd7 "is_variable" = true) (k7 : PySem.W.keepIn K (.ref f7) = true)
    (a8 : PySem.W.nsIn K mainGlobals "is_worded" = some (some (.ref f8))) (l8 : K.lookup f8 = some ⟨oc8, od8, .func (PySem.W.fnOf "is_worded" "is_worded" (defArgs s_is_worded) (defBody s_is_worded) (defScope s_is_worded) .none kV8 dc8 pm8 an8 cd8 ct8), sl8⟩) (c8 : PySem.W.codeIn K cd8 "is_worded" = true) (k8 : PySem.W.keepIn K (.ref f8) = true)
    (a9 : PySem.W.nsIn K mainGlobals "is_expression" = some (some (.ref f9))) (l9 : K.lookup f9 = some ⟨oc9, od9, .func (PySem.W.fnOf "is_expression" "is_expression" (defArgs s_is_expression) (defBody s_is_expression) (defScope s_is_expression) .none kV9 dc9 pm9 an9 cd9 ct9), sl9⟩) (c9 : PySem.W.codeIn K cd9 "is_expression" = true) (k9 : PySem.W.keepIn K (.ref f9) = true)
    (a10 : PySem.W.nsIn K mainGlobals "are_expressions" = some (some (.ref f10))) (l10 : K.lookup f10 = some ⟨oc10, od10, .func (PySem.W.fnOf "are_expressions" "are_expressions" (defArgs s_are_expressions) (defBody s_are_expressions) (defScope s_are_expressions) .none kV10 dc10 pm10 an10 cd10 ct10), sl10⟩) (c10 : PySem.W.codeIn K cd10 "are_expressions" = true) (k10 : PySem.W.keepIn K (.ref f10) = true)
    (a11 : PySem.W.nsIn K mainGlobals "is_row" = some (some (.ref f11))) (l11 : K.lookup f11 = some ⟨oc11, od11, .func (PySem.W.fnOf "is_row" "is_row" (defArgs s_is_row) (defBody s_is_row) (defScope s_is_row) .none kV11 dc11 pm11 an11 cd11 ct11), sl11⟩) (c11 : PySem.W.codeIn K cd11 "is_row" = true) (k11 : PySem.W.keepIn K (.ref f11) = true)
    (a12 : PySem.W.nsIn K mainGlobals "are_integers" = some (some (.ref f12))) (l12 : K.lookup f12 = some ⟨oc12, od12, .func (PySem.W.fnOf "are_integers" "are_integers" (defArgs s_are_integers) (defBody s_are_integers) (defScope s_are_integers) .none kV12 dc12 pm12 an12 cd12 ct12), sl12⟩) (c12 : PySem.W.codeIn K cd12 "are_integers" = true) (k12 : PySem.W.keepIn K (.ref f12) = true)
    (a13 : PySem.W.nsIn K mainGlobals "is_test" = some (some (.ref f13))) (l13 : K.lookup f13 = some ⟨oc13, od13, .func (PySem.W.fnOf "is_test" "is_test" (defArgs s_is_test) (defBody s_is_test) (defScope s_is_test) .none kV13 dc13 pm13 an13 cd13 ct13), sl13⟩) (c13 : PySem.W.codeIn K cd13 "is_test" = true) (k13 : PySem.W.keepIn K (.ref f13) = true)
    (a14 : PySem.W.nsIn K mainGlobals "names_in" = some (some (.ref f14))) (l14 : K.lookup f14 = some ⟨oc14, od14, .func (PySem.W.fnOf "names_in" "names_in" (defArgs s_names_in) (defBody s_names_in) (defScope s_names_in) .none kV14 dc14 pm14 an14 cd14 ct14), sl14⟩) (c14 : PySem.W.codeIn K cd14 "names_in" = true) (k14 : PySem.W.keepIn K (.ref f14) = true)
    (a15 : PySem.W.nsIn K mainGlobals "fits" = some (some (.ref f15))) (l15 : K.lookup f15 = some ⟨oc15, od15, .func (PySem.W.fnOf "fits" "fits" (defArgs s_fits) (defBody s_fits) (defScope s_fits) .none kV15 dc15 pm15 an15 cd15 ct15), sl15⟩) (c15 : PySem.W.codeIn K cd15 "fits" = true) (k15 : PySem.W.keepIn K (.ref f15) = true)
    (a16 : PySem.W.nsIn K mainGlobals "_law_feed" = some (some (.ref f16))) (l16 : K.lookup f16 = some ⟨oc16, od16, .func (PySem.W.fnOf "_law_feed" "_law_feed" (defArgs s__law_feed) (defBody s__law_feed) (defScope s__law_feed) .none kV16 dc16 pm16 an16 cd16 ct16), sl16⟩) (c16 : PySem.W.codeIn K cd16 "_law_feed" = true) (k16 : PySem.W.keepIn K (.ref f16) = true)
    (a17 : PySem.W.nsIn K mainGlobals "_law_draw" = some (some (.ref f17))) (l17 : K.lookup f17 = some ⟨oc17, od17, .func (PySem.W.fnOf "_law_draw" "_law_draw" (defArgs s__law_draw) (defBody s__law_draw) (defScope s__law_draw) .none kV17 dc17 pm17 an17 cd17 ct17), sl17⟩) (c17 : PySem.W.codeIn K cd17 "_law_draw" = true) (k17 : PySem.W.keepIn K (.ref f17) = true)
    (a18 : PySem.W.nsIn K mainGlobals "_law_integer" = some (some (.ref f18))) (l18 : K.lookup f18 = some ⟨oc18, od18, .func (PySem.W.fnOf "_law_integer" "_law_integer" (defArgs s__law_integer) (defBody s__law_integer) (defScope s__law_integer) .none kV18 dc18 pm18 an18 cd18 ct18), sl18⟩) (c18 : PySem.W.codeIn K cd18 "_law_integer" = true) (k18 : PySem.W.keepIn K (.ref f18) = true)
    (a19 : PySem.W.nsIn K mainGlobals "_law_is_name" = some (some (.ref f19))) (l19 : K.lookup f19 = some ⟨oc19, od19, .func (PySem.W.fnOf "_law_is_name" "_law_is_name" (defArgs s__law_is_name) (defBody s__law_is_name) (defScope s__law_is_name) .none kV19 dc19 pm19 an19 cd19 ct19), sl19⟩) (c19 : PySem.W.codeIn K cd19 "_law_is_name" = true) (k19 : PySem.W.keepIn K (.ref f19) = true)
    (a20 : PySem.W.nsIn K mainGlobals "_law_sizes" = some (some (.ref f20))) (l20 : K.lookup f20 = some ⟨oc20, od20, .func (PySem.W.fnOf "_law_sizes" "_law_sizes" (defArgs s__law_sizes) (defBody s__law_sizes) (defScope s__law_sizes) .none kV20 dc20 pm20 an20 cd20 ct20), sl20⟩) (c20 : PySem.W.codeIn K cd20 "_law_sizes" = true) (k20 : PySem.W.keepIn K (.ref f20) = true)
    (a21 : PySem.W.nsIn K mainGlobals "_law_is_expression" = some (some (.ref f21))) (l21 : K.lookup f21 = some ⟨oc21, od21, .func (PySem.W.fnOf "_law_is_expression" "_law_is_expression" (defArgs s__law_is_expression) (defBody s__law_is_expression) (defScope s__law_is_expression) .none kV21 dc21 pm21 an21 cd21 ct21), sl21⟩) (c21 : PySem.W.codeIn K cd21 "_law_is_expression" = true) (k21 : PySem.W.keepIn K (.ref f21) = true)
    (a22 : PySem.W.nsIn K mainGlobals "_law_names_in" = some (some (.ref f22))) (l22 : K.lookup f22 = some ⟨oc22, od22, .func (PySem.W.fnOf "_law_names_in" "_law_names_in" (defArgs s__law_names_in) (defBody s__law_names_in) (defScope s__law_names_in) .none kV22 dc22 pm22 an22 cd22 ct22), sl22⟩) (c22 : PySem.W.codeIn K cd22 "_law_names_in" = true) (k22 : PySem.W.keepIn K (.ref f22) = true)
    (a23 : PySem.W.nsIn K mainGlobals "_law_fits" = some (some (.ref f23))) (l23 : K.lookup f23 = some ⟨oc23, od23, .func (PySem.W.fnOf "_law_fits" "_law_fits" (defArgs s__law_fits) (defBody s__law_fits) (defScope s__law_fits) .none kV23 dc23 pm23 an23 cd23 ct23), sl23⟩) (c23 : PySem.W.codeIn K cd23 "_law_fits" = true) (k23 : PySem.W.keepIn K (.ref f23) = true)
    (a24 : PySem.W.nsIn K mainGlobals "_law_is_row" = some (some (.ref f24))) (l24 : K.lookup f24 = some ⟨oc24, od24, .func (PySem.W.fnOf "_law_is_row" "_law_is_row" (defArgs s__law_is_row) (defBody s__law_is_row) (defScope s__law_is_row) .none kV24 dc24 pm24 an24 cd24 ct24), sl24⟩) (c24 : PySem.W.codeIn K cd24 "_law_is_row" = true) (k24 : PySem.W.keepIn K (.ref f24) = true)
    (a25 : PySem.W.nsIn K mainGlobals "_law_is_variable" = some (some (.ref f25))) (l25 : K.lookup f25 = some ⟨oc25, od25, .func (PySem.W.fnOf "_law_is_variable" "_law_is_variable" (defArgs s__law_is_variable) (defBody s__law_is_variable) (defScope s__law_is_variable) .none kV25 dc25 pm25 an25 cd25 ct25), sl25⟩) (c25 : PySem.W.codeIn K cd25 "_law_is_variable" = true) (k25 : PySem.W.keepIn K (.ref f25) = true)
    (a26 : PySem.W.nsIn K mainGlobals "_law_is_test" = some (some (.ref f26))) (l26 : K.lookup f26 = some ⟨oc26, od26, .func (PySem.W.fnOf "_law_is_test" "_law_is_test" (defArgs s__law_is_test) (defBody s__law_is_test) (defScope s__law_is_test) .none kV26 dc26 pm26 an26 cd26 ct26), sl26⟩) (c26 : PySem.W.codeIn K cd26 "_law_is_test" = true) (k26 : PySem.W.keepIn K (.ref f26) = true)
    (a27 : PySem.W.nsIn K mainGlobals "_law_names_of" = some (some (.ref f27))) (l27 : K.lookup f27 = some ⟨oc27, od27, .func (PySem.W.fnOf "_law_names_of" "_law_names_of" (defArgs s__law_names_of) (defBody s__law_names_of) (defScope s__law_names_of) .none kV27 dc27 pm27 an27 cd27 ct27), sl27⟩) (c27 : PySem.W.codeIn K cd27 "_law_names_of" = true) (k27 : PySem.W.keepIn K (.ref f27) = true)
    (a28 : PySem.W.nsIn K mainGlobals "_law_parts" = some (some (.ref f28))) (l28 : K.lookup f28 = some ⟨oc28, od28, .func (PySem.W.fnOf "_law_parts" "_law_parts" (defArgs s__law_parts) (defBody s__law_parts) (defScope s__law_parts) .none kV28 dc28 pm28 an28 cd28 ct28), sl28⟩) (c28 : PySem.W.codeIn K cd28 "_law_parts" = true) (k28 : PySem.W.keepIn K (.ref f28) = true)
    (a29 : PySem.W.nsIn K mainGlobals "_law_parts_of" = some (some (.ref f29))) (l29 : K.lookup f29 = some ⟨oc29, od29, .func (PySem.W.fnOf "_law_parts_of" "_law_parts_of" (defArgs s__law_parts_of) (defBody s__law_parts_of) (defScope s__law_parts_of) .none kV29 dc29 pm29 an29 cd29 ct29), sl29⟩) (c29 : PySem.W.codeIn K cd29 "_law_parts_of" = true) (k29 : PySem.W.keepIn K (.ref f29) = true)
    (a30 : PySem.W.nsIn K mainGlobals "_law_leaf" = some (some (.ref f30))) (l30 : K.lookup f30 = some ⟨oc30, od30, .func (PySem.W.fnOf "_law_leaf" "_law_leaf" (defArgs s__law_leaf) (defBody s__law_leaf) (defScope s__law_leaf) .none kV30 dc30 pm30 an30 cd30 ct30), sl30⟩) (c30 : PySem.W.codeIn K cd30 "_law_leaf" = true) (k30 : PySem.W.keepIn K (.ref f30) = true)
    (a31 : PySem.W.nsIn K mainGlobals "_law_formula" = some (some (.ref f31))) (l31 : K.lookup f31 = some ⟨oc31, od31, .func (PySem.W.fnOf "_law_formula" "_law_formula" (defArgs s__law_formula) (defBody s__law_formula) (defScope s__law_formula) .none kV31 dc31 pm31 an31 cd31 ct31), sl31⟩) (c31 : PySem.W.codeIn K cd31 "_law_formula" = true) (k31 : PySem.W.keepIn K (.ref f31) = true)
    (a32 : PySem.W.nsIn K mainGlobals "_law_variables" = some (some (.ref f32))) (l32 : K.lookup f32 = some ⟨oc32, od32, .func (PySem.W.fnOf "_law_variables" "_law_variables" (defArgs s__law_variables) (defBody s__law_variables) (defScope s__law_variables) .none kV32 dc32 pm32 an32 cd32 ct32), sl32⟩) (c32 : PySem.W.codeIn K cd32 "_law_variables" = true) (k32 : PySem.W.keepIn K (.ref f32) = true)
    (a33 : PySem.W.nsIn K mainGlobals "_law_heads" = some (some (.ref f33))) (l33 : K.lookup f33 = some ⟨oc33, od33, .func (PySem.W.fnOf "_law_heads" "_law_heads" (defArgs s__law_heads) (defBody s__law_heads) (defScope s__law_heads) .none kV33 dc33 pm33 an33 cd33 ct33), sl33⟩) (c33 : PySem.W.codeIn K cd33 "_law_heads" = true) (k33 : PySem.W.keepIn K (.ref f33) = true)
    (a34 : PySem.W.nsIn K mainGlobals "_law_plain_row" = some (some (.ref f34))) (l34 : K.lookup f34 = some ⟨oc34, od34, .func (PySem.W.fnOf "_law_plain_row" "_law_plain_row" (defArgs s__law_plain_row) (defBody s__law_plain_row) (defScope s__law_plain_row) .none kV34 dc34 pm34 an34 cd34 ct34), sl34⟩) (c34 : PySem.W.codeIn K cd34 "_law_plain_row" = true) (k34 : PySem.W.keepIn K (.ref f34) = true)
    (a35 : PySem.W.nsIn K mainGlobals "_law_block" = some (some (.ref f35))) (l35 : K.lookup f35 = some ⟨oc35, od35, .func (PySem.W.fnOf "_law_block" "_law_block" (defArgs s__law_block) (defBody s__law_block) (defScope s__law_block) .none kV35 dc35 pm35 an35 cd35 ct35), sl35⟩) (c35 : PySem.W.codeIn K cd35 "_law_block" = true) (k35 : PySem.W.keepIn K (.ref f35) = true)
    (a36 : PySem.W.nsIn K mainGlobals "_law_program" = some (some (.ref f36))) (l36 : K.lookup f36 = some ⟨oc36, od36, .func (PySem.W.fnOf "_law_program" "_law_program" (defArgs s__law_program) (defBody s__law_program) (defScope s__law_program) .none kV36 dc36 pm36 an36 cd36 ct36), sl36⟩) (c36 : PySem.W.codeIn K cd36 "_law_program" = true) (k36 : PySem.W.keepIn K (.ref f36) = true)
    (a37 : PySem.W.nsIn K mainGlobals "_law_first_program" = some (some (.ref f37))) (l37 : K.lookup f37 = some ⟨oc37, od37, .func (PySem.W.fnOf "_law_first_program" "_law_first_program" (defArgs s__law_first_program) (defBody s__law_first_program) (defScope s__law_first_program) .none kV37 dc37 pm37 an37 cd37 ct37), sl37⟩) (c37 : PySem.W.codeIn K cd37 "_law_first_program" = true) (k37 : PySem.W.keepIn K (.ref f37) = true)
    (a38 : PySem.W.nsIn K mainGlobals "_law_word_program" = some (some (.ref f38))) (l38 : K.lookup f38 = some ⟨oc38, od38, .func (PySem.W.fnOf "_law_word_program" "_law_word_program" (defArgs s__law_word_program) (defBody s__law_word_program) (defScope s__law_word_program) .none kV38 dc38 pm38 an38 cd38 ct38), sl38⟩) (c38 : PySem.W.codeIn K cd38 "_law_word_program" = true) (k38 : PySem.W.keepIn K (.ref f38) = true)
    (a39 : PySem.W.nsIn K mainGlobals "_law_samples" = some (some (.ref f39))) (l39 : K.lookup f39 = some ⟨oc39, od39, .func (PySem.W.fnOf "_law_samples" "_law_samples" (defArgs s__law_samples) (defBody s__law_samples) (defScope s__law_samples) .none kV39 dc39 pm39 an39 cd39 ct39), sl39⟩) (c39 : PySem.W.codeIn K cd39 "_law_samples" = true) (k39 : PySem.W.keepIn K (.ref f39) = true)
    (a40 : PySem.W.nsIn K mainGlobals "_law_odd" = some (some (.ref f40))) (l40 : K.lookup f40 = some ⟨oc40, od40, .func (PySem.W.fnOf "_law_odd" "_law_odd" (defArgs s__law_odd) (defBody s__law_odd) (defScope s__law_odd) .none kV40 dc40 pm40 an40 cd40 ct40), sl40⟩) (c40 : PySem.W.codeIn K cd40 "_law_odd" = true) (k40 : PySem.W.keepIn K (.ref f40) = true)
    (a41 : PySem.W.nsIn K mainGlobals "_law_bent" = some (some (.ref f41))) (l41 : K.lookup f41 = some ⟨oc41, od41, .func (PySem.W.fnOf "_law_bent" "_law_bent" (defArgs s__law_bent) (defBody s__law_bent) (defScope s__law_bent) .none kV41 dc41 pm41 an41 cd41 ct41), sl41⟩) (c41 : PySem.W.codeIn K cd41 "_law_bent" = true) (k41 : PySem.W.keepIn K (.ref f41) = true)
    (a42 : PySem.W.nsIn K mainGlobals "_law_values" = some (some (.ref f42))) (l42 : K.lookup f42 = some ⟨oc42, od42, .func (PySem.W.fnOf "_law_values" "_law_values" (defArgs s__law_values) (defBody s__law_values) (defScope s__law_values) .none kV42 dc42 pm42 an42 cd42 ct42), sl42⟩) (c42 : PySem.W.codeIn K cd42 "_law_values" = true) (k42 : PySem.W.keepIn K (.ref f42) = true)
    (a43 : PySem.W.nsIn K mainGlobals "_law_more_values" = some (some (.ref f43))) (l43 : K.lookup f43 = some ⟨oc43, od43, .func (PySem.W.fnOf "_law_more_values" "_law_more_values" (defArgs s__law_more_values) (defBody s__law_more_values) (defScope s__law_more_values) .none kV43 dc43 pm43 an43 cd43 ct43), sl43⟩) (c43 : PySem.W.codeIn K cd43 "_law_more_values" = true) (k43 : PySem.W.keepIn K (.ref f43) = true)
    (a44 : PySem.W.nsIn K mainGlobals "_law_kinds_right" = some (some (.ref f44))) (l44 : K.lookup f44 = some ⟨oc44, od44, .func (PySem.W.fnOf "_law_kinds_right" "_law_kinds_right" (defArgs s__law_kinds_right) (defBody s__law_kinds_right) (defScope s__law_kinds_right) .none kV44 dc44 pm44 an44 cd44 ct44), sl44⟩) (c44 : PySem.W.codeIn K cd44 "_law_kinds_right" = true) (k44 : PySem.W.keepIn K (.ref f44) = true)
    (a45 : PySem.W.nsIn K mainGlobals "_law_kept_right" = some (some (.ref f45))) (l45 : K.lookup f45 = some ⟨oc45, od45, .func (PySem.W.fnOf "_law_kept_right" "_law_kept_right" (defArgs s__law_kept_right) (defBody s__law_kept_right) (defScope s__law_kept_right) .none kV45 dc45 pm45 an45 cd45 ct45), sl45⟩) (c45 : PySem.W.codeIn K cd45 "_law_kept_right" = true) (k45 : PySem.W.keepIn K (.ref f45) = true)
    (a46 : PySem.W.nsIn K mainGlobals "law" = some (some (.ref f46))) (l46 : K.lookup f46 = some ⟨oc46, od46, .func (PySem.W.fnOf "law" "law" (defArgs s_law) (defBody s_law) (defScope s_law) .none kV46 dc46 pm46 an46 cd46 ct46), sl46⟩) (c46 : PySem.W.codeIn K cd46 "law" = true) (k46 : PySem.W.keepIn K (.ref f46) = true)
    (y_isinstance : PySem.W.nsIn K mainGlobals "isinstance" = some none)
    (y_int : PySem.W.nsIn K mainGlobals "int" = some none)
    (y_bool : PySem.W.nsIn K mainGlobals "bool" = some none)
    (y_str : PySem.W.nsIn K mainGlobals "str" = some none)
    (y_len : PySem.W.nsIn K mainGlobals "len" = some none)
    (y_all : PySem.W.nsIn K mainGlobals "all" = some none)
    (y_tuple : PySem.W.nsIn K mainGlobals "tuple" = some none)
    (y_zip : PySem.W.nsIn K mainGlobals "zip" = some none)
    (y_list : PySem.W.nsIn K mainGlobals "list" = some none)
    (y_ord : PySem.W.nsIn K mainGlobals "ord" = some none)
    (y_range : PySem.W.nsIn K mainGlobals "range" = some none)
    (y_max : PySem.W.nsIn K mainGlobals "max" = some none)
    (y_repr : PySem.W.nsIn K mainGlobals "repr" = some none)
    (y_enumerate : PySem.W.nsIn K mainGlobals "enumerate" = some none)
    (g_LONGEST_NAME : PySem.W.nsIn K mainGlobals "LONGEST_NAME" = some (some (.int 8 tk_LONGEST_NAME)))
    (g_LETTERS : PySem.W.nsIn K mainGlobals "LETTERS" = some (some (.str "abcdefghijklmnopqrstuvwxyz" tk_LETTERS)))
    (da_SHAPES : PySem.W.nsIn K mainGlobals "SHAPES" = some (some (.ref d_SHAPES))) (dl_SHAPES : K.lookup d_SHAPES = some ⟨.type "dict", none, .dict es_SHAPES n_SHAPES, #[]⟩) (dk_SHAPES : PySem.W.KeysLit w.params es_SHAPES.toList) (do_SHAPES : (d_SHAPES == sysModules) = false) (de_SHAPES : entL es_SHAPES.toList = some ([("not", Value.ref p_ONE_PART), ("neg", Value.ref p_ONE_PART), ("+", Value.ref p_TWO_PARTS), ("-", Value.ref p_TWO_PARTS), ("*", Value.ref p_TWO_PARTS), ("div", Value.ref p_TWO_PARTS), ("mod", Value.ref p_TWO_PARTS), ("least", Value.ref p_TWO_PARTS), ("most", Value.ref p_TWO_PARTS), ("=", Value.ref p_TWO_PARTS), ("<", Value.ref p_TWO_PARTS), ("<=", Value.ref p_TWO_PARTS), ("and", Value.ref p_TWO_PARTS), ("or", Value.ref p_TWO_PARTS), ("if", Value.ref p_SHAPES_14)] : List (Str × Value)))
    (da_ROW_SHAPES : PySem.W.nsIn K mainGlobals "ROW_SHAPES" = some (some (.ref d_ROW_SHAPES))) (dl_ROW_SHAPES : K.lookup d_ROW_SHAPES = some ⟨.type "dict", none, .dict es_ROW_SHAPES n_ROW_SHAPES, #[]⟩) (dk_ROW_SHAPES : PySem.W.KeysLit w.params es_ROW_SHAPES.toList) (do_ROW_SHAPES : (d_ROW_SHAPES == sysModules) = false) (de_ROW_SHAPES : entL es_ROW_SHAPES.toList = some ([("set", Value.ref p_ROW_SHAPES_0), ("if", Value.ref p_ONE_PART), ("else", Value.ref p_ROW_SHAPES_2), ("while", Value.ref p_ONE_PART), ("end", Value.ref p_ROW_SHAPES_4), ("call", Value.ref p_ROW_SHAPES_5), ("return", Value.ref p_ONE_PART)] : List (Str × Value)))
    (pl_ONE_PART : K.lookup p_ONE_PART = some ⟨.type "tuple", od_ONE_PART, .seq #[.ref f9] nn_ONE_PART, sl_ONE_PART⟩)
    (pl_TWO_PARTS : K.lookup p_TWO_PARTS = some ⟨.type "tuple", od_TWO_PARTS, .seq #[.ref f9, .ref f9] nn_TWO_PARTS, sl_TWO_PARTS⟩)
    (pl_SHAPES_14 : K.lookup p_SHAPES_14 = some ⟨.type "tuple", od_SHAPES_14, .seq #[.ref f9, .ref f9, .ref f9] nn_SHAPES_14, sl_SHAPES_14⟩)
    (pl_ROW_SHAPES_0 : K.lookup p_ROW_SHAPES_0 = some ⟨.type "tuple", od_ROW_SHAPES_0, .seq #[.ref f3, .ref f9] nn_ROW_SHAPES_0, sl_ROW_SHAPES_0⟩)
    (pl_ROW_SHAPES_2 : K.lookup p_ROW_SHAPES_2 = some ⟨.type "tuple", od_ROW_SHAPES_2, .seq #[] nn_ROW_SHAPES_2, sl_ROW_SHAPES_2⟩)
    (pl_ROW_SHAPES_4 : K.lookup p_ROW_SHAPES_4 = some ⟨.type "tuple", od_ROW_SHAPES_4, .seq #[] nn_ROW_SHAPES_4, sl_ROW_SHAPES_4⟩)
    (pl_ROW_SHAPES_5 : K.lookup p_ROW_SHAPES_5 = some ⟨.type "tuple", od_ROW_SHAPES_5, .seq #[.ref f3, .ref f3, .ref f10] nn_ROW_SHAPES_5, sl_ROW_SHAPES_5⟩) :
    ∃ fd : FuncData, (∀ (s : Shared) (v : Value), BindsTo s fd ⟨[v], []⟩ [("_law_script", v)]) ∧ ∀ base : Heap, K.In base → base.Ns mainGlobals mg → FnG l.prog w K mg base 71 fa fd ["_law_script"] LAW := by
  have e := hfa.symm.trans (PySem.W.mg_of X GG a46)
  cases e
  have F1 := fun_mk (st := s_is_integer) l1 c1 k1
  have b1 := F1.binds (ps := ["thing"]) fun _ _ _ _ _ _ us hl => match us, hl with | [_], _ => rfl
  have m1 := PySem.W.mg_of X GG a1
  have A1 : FnAt K mg "is_integer" := ⟨f1, a1, m1⟩
  have F2 := fun_mk (st := s_is_number) l2 c2 k2
  have b2 := F2.binds (ps := ["thing"]) fun _ _ _ _ _ _ us hl => match us, hl with | [_], _ => rfl
  have m2 := PySem.W.mg_of X GG a2
  have A2 : FnAt K mg "is_number" := ⟨f2, a2, m2⟩
  have F3 := fun_mk (st := s_is_name) l3 c3 k3
  have b3 := F3.binds (ps := ["thing"]) fun _ _ _ _ _ _ us hl => match us, hl with | [_], _ => rfl
  have m3 := PySem.W.mg_of X GG a3
  have A3 : FnAt K mg "is_name" := ⟨f3, a3, m3⟩
  have F4 := fun_mk (st := s_is_tuple_with) l4 c4 k4
  have b4 := F4.binds (ps := ["thing", "checks"]) fun _ _ _ _ _ _ us hl => match us, hl with | [_, _], _ => rfl
  have m4 := PySem.W.mg_of X GG a4
  have A4 : FnAt K mg "is_tuple_with" := ⟨f4, a4, m4⟩
  have F5 := fun_mk (st := s_is_tuple_of) l5 c5 k5
  have b5 := F5.binds (ps := ["thing", "check"]) fun _ _ _ _ _ _ us hl => match us, hl with | [_, _], _ => rfl
  have m5 := PySem.W.mg_of X GG a5
  have A5 : FnAt K mg "is_tuple_of" := ⟨f5, a5, m5⟩
  have F6 := fun_mk (st := s_has_variable_shape) l6 c6 k6
  have b6 := F6.binds (ps := ["thing"]) fun _ _ _ _ _ _ us hl => match us, hl with | [_], _ => rfl
  have m6 := PySem.W.mg_of X GG a6
  have A6 : FnAt K mg "has_variable_shape" := ⟨f6, a6, m6⟩
  have F7 := fun_mk (st := s_is_variable) l7 c7 k7
  have b7 := F7.binds (ps := ["thing"]) fun _ _ _ _ _ _ us hl => match us, hl with | [_], _ => rfl
  have m7 := PySem.W.mg_of X GG a7
  have A7 : FnAt K mg "is_variable" := ⟨f7, a7, m7⟩
  have F8 := fun_mk (st := s_is_worded) l8 c8 k8
  have b8 := F8.binds (ps := ["thing"]) fun _ _ _ _ _ _ us hl => match us, hl with | [_], _ => rfl
  have m8 := PySem.W.mg_of X GG a8
  have A8 : FnAt K mg "is_worded" := ⟨f8, a8, m8⟩
  have F9 := fun_mk (st := s_is_expression) l9 c9 k9
  have b9 := F9.binds (ps := ["thing"]) fun _ _ _ _ _ _ us hl => match us, hl with | [_], _ => rfl
  have m9 := PySem.W.mg_of X GG a9
  have A9 : FnAt K mg "is_expression" := ⟨f9, a9, m9⟩
  have F10 := fun_mk (st := s_are_expressions) l10 c10 k10
  have b10 := F10.binds (ps := ["thing"]) fun _ _ _ _ _ _ us hl => match us, hl with | [_], _ => rfl
  have m10 := PySem.W.mg_of X GG a10
  have A10 : FnAt K mg "are_expressions" := ⟨f10, a10, m10⟩
  have F11 := fun_mk (st := s_is_row) l11 c11 k11
  have b11 := F11.binds (ps := ["thing"]) fun _ _ _ _ _ _ us hl => match us, hl with | [_], _ => rfl
  have m11 := PySem.W.mg_of X GG a11
  have A11 : FnAt K mg "is_row" := ⟨f11, a11, m11⟩
  have F12 := fun_mk (st := s_are_integers) l12 c12 k12
  have b12 := F12.binds (ps := ["thing"]) fun _ _ _ _ _ _ us hl => match us, hl with | [_], _ => rfl
  have m12 := PySem.W.mg_of X GG a12
  have A12 : FnAt K mg "are_integers" := ⟨f12, a12, m12⟩
  have F13 := fun_mk (st := s_is_test) l13 c13 k13
  have b13 := F13.binds (ps := ["thing"]) fun _ _ _ _ _ _ us hl => match us, hl with | [_], _ => rfl
  have m13 := PySem.W.mg_of X GG a13
  have A13 : FnAt K mg "is_test" := ⟨f13, a13, m13⟩
  have F14 := fun_mk (st := s_names_in) l14 c14 k14
  have b14 := F14.binds (ps := ["e"]) fun _ _ _ _ _ _ us hl => match us, hl with | [_], _ => rfl
  have m14 := PySem.W.mg_of X GG a14
  have A14 : FnAt K mg "names_in" := ⟨f14, a14, m14⟩
  have F15 := fun_mk (st := s_fits) l15 c15 k15
  have b15 := F15.binds (ps := ["names", "thing"]) fun _ _ _ _ _ _ us hl => match us, hl with | [_, _], _ => rfl
  have m15 := PySem.W.mg_of X GG a15
  have A15 : FnAt K mg "fits" := ⟨f15, a15, m15⟩
  have F16 := fun_mk (st := s__law_feed) l16 c16 k16
  have b16 := F16.binds (ps := ["_law_script"]) fun _ _ _ _ _ _ us hl => match us, hl with | [_], _ => rfl
  have m16 := PySem.W.mg_of X GG a16
  have A16 : FnAt K mg "_law_feed" := ⟨f16, a16, m16⟩
  have F17 := fun_mk (st := s__law_draw) l17 c17 k17
  have b17 := F17.binds (ps := ["_law_feed_here", "_law_many"]) fun _ _ _ _ _ _ us hl => match us, hl with | [_, _], _ => rfl
  have m17 := PySem.W.mg_of X GG a17
  have A17 : FnAt K mg "_law_draw" := ⟨f17, a17, m17⟩
  have F18 := fun_mk (st := s__law_integer) l18 c18 k18
  have b18 := F18.binds (ps := ["_law_item"]) fun _ _ _ _ _ _ us hl => match us, hl with | [_], _ => rfl
  have m18 := PySem.W.mg_of X GG a18
  have A18 : FnAt K mg "_law_integer" := ⟨f18, a18, m18⟩
  have F19 := fun_mk (st := s__law_is_name) l19 c19 k19
  have b19 := F19.binds (ps := ["_law_item"]) fun _ _ _ _ _ _ us hl => match us, hl with | [_], _ => rfl
  have m19 := PySem.W.mg_of X GG a19
  have A19 : FnAt K mg "_law_is_name" := ⟨f19, a19, m19⟩
  have F20 := fun_mk (st := s__law_sizes) l20 c20 k20
  have b20 := F20.binds (ps := []) fun _ _ _ _ _ _ us hl => match us, hl with | [], _ => rfl
  have m20 := PySem.W.mg_of X GG a20
  have A20 : FnAt K mg "_law_sizes" := ⟨f20, a20, m20⟩
  have F21 := fun_mk (st := s__law_is_expression) l21 c21 k21
  have b21 := F21.binds (ps := ["_law_item"]) fun _ _ _ _ _ _ us hl => match us, hl with | [_], _ => rfl
  have m21 := PySem.W.mg_of X GG a21
  have A21 : FnAt K mg "_law_is_expression" := ⟨f21, a21, m21⟩
  have F22 := fun_mk (st := s__law_names_in) l22 c22 k22
  have b22 := F22.binds (ps := ["_law_e"]) fun _ _ _ _ _ _ us hl => match us, hl with | [_], _ => rfl
  have m22 := PySem.W.mg_of X GG a22
  have A22 : FnAt K mg "_law_names_in" := ⟨f22, a22, m22⟩
  have F23 := fun_mk (st := s__law_fits) l23 c23 k23
  have b23 := F23.binds (ps := ["_law_names_in_now", "_law_item"]) fun _ _ _ _ _ _ us hl => match us, hl with | [_, _], _ => rfl
  have m23 := PySem.W.mg_of X GG a23
  have A23 : FnAt K mg "_law_fits" := ⟨f23, a23, m23⟩
  have F24 := fun_mk (st := s__law_is_row) l24 c24 k24
  have b24 := F24.binds (ps := ["_law_item"]) fun _ _ _ _ _ _ us hl => match us, hl with | [_], _ => rfl
  have m24 := PySem.W.mg_of X GG a24
  have A24 : FnAt K mg "_law_is_row" := ⟨f24, a24, m24⟩
  have F25 := fun_mk (st := s__law_is_variable) l25 c25 k25
  have b25 := F25.binds (ps := ["_law_item"]) fun _ _ _ _ _ _ us hl => match us, hl with | [_], _ => rfl
  have m25 := PySem.W.mg_of X GG a25
  have A25 : FnAt K mg "_law_is_variable" := ⟨f25, a25, m25⟩
  have F26 := fun_mk (st := s__law_is_test) l26 c26 k26
  have b26 := F26.binds (ps := ["_law_item"]) fun _ _ _ _ _ _ us hl => match us, hl with | [_], _ => rfl
  have m26 := PySem.W.mg_of X GG a26
  have A26 : FnAt K mg "_law_is_test" := ⟨f26, a26, m26⟩
  have F27 := fun_mk (st := s__law_names_of) l27 c27 k27
  have b27 := F27.binds (ps := ["_law_whole"]) fun _ _ _ _ _ _ us hl => match us, hl with | [_], _ => rfl
  have m27 := PySem.W.mg_of X GG a27
  have A27 : FnAt K mg "_law_names_of" := ⟨f27, a27, m27⟩
  have F28 := fun_mk (st := s__law_parts) l28 c28 k28
  have b28 := F28.binds (ps := ["_law_row"]) fun _ _ _ _ _ _ us hl => match us, hl with | [_], _ => rfl
  have m28 := PySem.W.mg_of X GG a28
  have A28 : FnAt K mg "_law_parts" := ⟨f28, a28, m28⟩
  have F29 := fun_mk (st := s__law_parts_of) l29 c29 k29
  have b29 := F29.binds (ps := ["_law_rows"]) fun _ _ _ _ _ _ us hl => match us, hl with | [_], _ => rfl
  have m29 := PySem.W.mg_of X GG a29
  have A29 : FnAt K mg "_law_parts_of" := ⟨f29, a29, m29⟩
  have F30 := fun_mk (st := s__law_leaf) l30 c30 k30
  have b30 := F30.binds (ps := ["_law_feed_here", "_law_names_in_now"]) fun _ _ _ _ _ _ us hl => match us, hl with | [_, _], _ => rfl
  have m30 := PySem.W.mg_of X GG a30
  have A30 : FnAt K mg "_law_leaf" := ⟨f30, a30, m30⟩
  have F31 := fun_mk (st := s__law_formula) l31 c31 k31
  have b31 := F31.binds (ps := ["_law_feed_here", "_law_names_in_now", "_law_deep"]) fun _ _ _ _ _ _ us hl => match us, hl with | [_, _, _], _ => rfl
  have m31 := PySem.W.mg_of X GG a31
  have A31 : FnAt K mg "_law_formula" := ⟨f31, a31, m31⟩
  have F32 := fun_mk (st := s__law_variables) l32 c32 k32
  have b32 := F32.binds (ps := ["_law_feed_here"]) fun _ _ _ _ _ _ us hl => match us, hl with | [_], _ => rfl
  have m32 := PySem.W.mg_of X GG a32
  have A32 : FnAt K mg "_law_variables" := ⟨f32, a32, m32⟩
  have F33 := fun_mk (st := s__law_heads) l33 c33 k33
  have b33 := F33.binds (ps := ["_law_feed_here"]) fun _ _ _ _ _ _ us hl => match us, hl with | [_], _ => rfl
  have m33 := PySem.W.mg_of X GG a33
  have A33 : FnAt K mg "_law_heads" := ⟨f33, a33, m33⟩
  have F34 := fun_mk (st := s__law_plain_row) l34 c34 k34
  have b34 := F34.binds (ps := ["_law_feed_here", "_law_names_in_now", "_law_heads_here", "_law_way"]) fun _ _ _ _ _ _ us hl => match us, hl with | [_, _, _, _], _ => rfl
  have m34 := PySem.W.mg_of X GG a34
  have A34 : FnAt K mg "_law_plain_row" := ⟨f34, a34, m34⟩
  have F35 := fun_mk (st := s__law_block) l35 c35 k35
  have b35 := F35.binds (ps := ["_law_feed_here", "_law_names_in_now", "_law_heads_here", "_law_deep", "_law_left"]) fun _ _ _ _ _ _ us hl => match us, hl with | [_, _, _, _, _], _ => rfl
  have m35 := PySem.W.mg_of X GG a35
  have A35 : FnAt K mg "_law_block" := ⟨f35, a35, m35⟩
  have F36 := fun_mk (st := s__law_program) l36 c36 k36
  have b36 := F36.binds (ps := ["_law_feed_here"]) fun _ _ _ _ _ _ us hl => match us, hl with | [_], _ => rfl
  have m36 := PySem.W.mg_of X GG a36
  have A36 : FnAt K mg "_law_program" := ⟨f36, a36, m36⟩
  have F37 := fun_mk (st := s__law_first_program) l37 c37 k37
  have b37 := F37.binds (ps := []) fun _ _ _ _ _ _ us hl => match us, hl with | [], _ => rfl
  have m37 := PySem.W.mg_of X GG a37
  have A37 : FnAt K mg "_law_first_program" := ⟨f37, a37, m37⟩
  have F38 := fun_mk (st := s__law_word_program) l38 c38 k38
  have b38 := F38.binds (ps := []) fun _ _ _ _ _ _ us hl => match us, hl with | [], _ => rfl
  have m38 := PySem.W.mg_of X GG a38
  have A38 : FnAt K mg "_law_word_program" := ⟨f38, a38, m38⟩
  have F39 := fun_mk (st := s__law_samples) l39 c39 k39
  have b39 := F39.binds (ps := []) fun _ _ _ _ _ _ us hl => match us, hl with | [], _ => rfl
  have m39 := PySem.W.mg_of X GG a39
  have A39 : FnAt K mg "_law_samples" := ⟨f39, a39, m39⟩
  have F40 := fun_mk (st := s__law_odd) l40 c40 k40
  have b40 := F40.binds (ps := ["_law_feed_here"]) fun _ _ _ _ _ _ us hl => match us, hl with | [_], _ => rfl
  have m40 := PySem.W.mg_of X GG a40
  have A40 : FnAt K mg "_law_odd" := ⟨f40, a40, m40⟩
  have F41 := fun_mk (st := s__law_bent) l41 c41 k41
  have b41 := F41.binds (ps := ["_law_feed_here", "_law_item"]) fun _ _ _ _ _ _ us hl => match us, hl with | [_, _], _ => rfl
  have m41 := PySem.W.mg_of X GG a41
  have A41 : FnAt K mg "_law_bent" := ⟨f41, a41, m41⟩
  have F42 := fun_mk (st := s__law_values) l42 c42 k42
  have b42 := F42.binds (ps := []) fun _ _ _ _ _ _ us hl => match us, hl with | [], _ => rfl
  have m42 := PySem.W.mg_of X GG a42
  have A42 : FnAt K mg "_law_values" := ⟨f42, a42, m42⟩
  have F43 := fun_mk (st := s__law_more_values) l43 c43 k43
  have b43 := F43.binds (ps := []) fun _ _ _ _ _ _ us hl => match us, hl with | [], _ => rfl
  have m43 := PySem.W.mg_of X GG a43
  have A43 : FnAt K mg "_law_more_values" := ⟨f43, a43, m43⟩
  have F44 := fun_mk (st := s__law_kinds_right) l44 c44 k44
  have b44 := F44.binds (ps := ["_law_item"]) fun _ _ _ _ _ _ us hl => match us, hl with | [_], _ => rfl
  have m44 := PySem.W.mg_of X GG a44
  have A44 : FnAt K mg "_law_kinds_right" := ⟨f44, a44, m44⟩
  have F45 := fun_mk (st := s__law_kept_right) l45 c45 k45
  have b45 := F45.binds (ps := ["_law_names_in_now", "_law_item"]) fun _ _ _ _ _ _ us hl => match us, hl with | [_, _], _ => rfl
  have m45 := PySem.W.mg_of X GG a45
  have A45 : FnAt K mg "_law_kept_right" := ⟨f45, a45, m45⟩
  have F46 := fun_mk (st := s_law) l46 c46 k46
  have b46 := F46.binds (ps := ["_law_script"]) fun _ _ _ _ _ _ us hl => match us, hl with | [_], _ => rfl
  have m46 := PySem.W.mg_of X GG a46
  have kb7 := Fun_bindsK (p := false) (ps := ["thing"]) F7 fun _ _ _ _ _ _ us hl => match us, hl with | [_], _ => rfl
  have kb3 := Fun_bindsK (p := false) (ps := ["thing"]) F3 fun _ _ _ _ _ _ us hl => match us, hl with | [_], _ => rfl
  have kb2 := Fun_bindsK (p := false) (ps := ["thing"]) F2 fun _ _ _ _ _ _ us hl => match us, hl with | [_], _ => rfl
  have kb1 := Fun_bindsK (p := false) (ps := ["thing"]) F1 fun _ _ _ _ _ _ us hl => match us, hl with | [_], _ => rfl
  have kb13 := Fun_bindsK (p := false) (ps := ["thing"]) F13 fun _ _ _ _ _ _ us hl => match us, hl with | [_], _ => rfl
  have kb11 := Fun_bindsK (p := false) (ps := ["thing"]) F11 fun _ _ _ _ _ _ us hl => match us, hl with | [_], _ => rfl
  have kb9 := Fun_bindsK (p := false) (ps := ["thing"]) F9 fun _ _ _ _ _ _ us hl => match us, hl with | [_], _ => rfl
  have kb15 := Fun_bindsK (p := true) (ps := ["names", "thing"]) F15 fun _ _ _ _ _ _ us hl => match us, hl with | [_, _], _ => rfl
  have z_isinstance := PySem.W.mg_none_of X GG y_isinstance
  have z_int := PySem.W.mg_none_of X GG y_int
  have z_bool := PySem.W.mg_none_of X GG y_bool
  have z_str := PySem.W.mg_none_of X GG y_str
  have z_len := PySem.W.mg_none_of X GG y_len
  have z_all := PySem.W.mg_none_of X GG y_all
  have z_tuple := PySem.W.mg_none_of X GG y_tuple
  have z_zip := PySem.W.mg_none_of X GG y_zip
  have z_list := PySem.W.mg_none_of X GG y_list
  have z_ord := PySem.W.mg_none_of X GG y_ord
  have z_range := PySem.W.mg_none_of X GG y_range
  have z_max := PySem.W.mg_none_of X GG y_max
  have z_repr := PySem.W.mg_none_of X GG y_repr
  have z_enumerate := PySem.W.mg_none_of X GG y_enumerate
  have c_LONGEST_NAME : ConstI mg "LONGEST_NAME" 8 := ⟨tk_LONGEST_NAME, PySem.W.mg_of X GG g_LONGEST_NAME⟩
  have c_LETTERS : ConstS mg "LETTERS" "abcdefghijklmnopqrstuvwxyz" := ⟨tk_LETTERS, PySem.W.mg_of X GG g_LETTERS⟩
  have r_ONE_PART : ∀ ok H, Rep K ok H (.ref p_ONE_PART) (.tup [.fn "is_expression"]) := rep_kt (oc := .none) (xs := [.ref f9]) pl_ONE_PART (.cons rfl .nil) (show 1 ≤ sizeLine by decide) (fun _ _ => (.cons (.fn a9) .nil))
  have r_TWO_PARTS : ∀ ok H, Rep K ok H (.ref p_TWO_PARTS) (.tup [.fn "is_expression", .fn "is_expression"]) := rep_kt (oc := .none) (xs := [.ref f9, .ref f9]) pl_TWO_PARTS (.cons rfl (.cons rfl .nil)) (show 2 ≤ sizeLine by decide) (fun _ _ => (.cons (.fn a9) (.cons (.fn a9) .nil)))
  have r_SHAPES_14 : ∀ ok H, Rep K ok H (.ref p_SHAPES_14) (.tup [.fn "is_expression", .fn "is_expression", .fn "is_expression"]) := rep_kt (oc := .none) (xs := [.ref f9, .ref f9, .ref f9]) pl_SHAPES_14 (.cons rfl (.cons rfl (.cons rfl .nil))) (show 3 ≤ sizeLine by decide) (fun _ _ => (.cons (.fn a9) (.cons (.fn a9) (.cons (.fn a9) .nil))))
  have r_ROW_SHAPES_0 : ∀ ok H, Rep K ok H (.ref p_ROW_SHAPES_0) (.tup [.fn "is_name", .fn "is_expression"]) := rep_kt (oc := .none) (xs := [.ref f3, .ref f9]) pl_ROW_SHAPES_0 (.cons rfl (.cons rfl .nil)) (show 2 ≤ sizeLine by decide) (fun _ _ => (.cons (.fn a3) (.cons (.fn a9) .nil)))
  have r_ROW_SHAPES_2 : ∀ ok H, Rep K ok H (.ref p_ROW_SHAPES_2) (.tup []) := rep_kt (oc := .none) (xs := []) pl_ROW_SHAPES_2 .nil (show 0 ≤ sizeLine by decide) (fun _ _ => .nil)
  have r_ROW_SHAPES_4 : ∀ ok H, Rep K ok H (.ref p_ROW_SHAPES_4) (.tup []) := rep_kt (oc := .none) (xs := []) pl_ROW_SHAPES_4 .nil (show 0 ≤ sizeLine by decide) (fun _ _ => .nil)
  have r_ROW_SHAPES_5 : ∀ ok H, Rep K ok H (.ref p_ROW_SHAPES_5) (.tup [.fn "is_name", .fn "is_name", .fn "are_expressions"]) := rep_kt (oc := .none) (xs := [.ref f3, .ref f3, .ref f10]) pl_ROW_SHAPES_5 (.cons rfl (.cons rfl (.cons rfl .nil))) (show 3 ≤ sizeLine by decide) (fun _ _ => (.cons (.fn a3) (.cons (.fn a3) (.cons (.fn a10) .nil))))
  have t_SHAPES : KTab K w mg "SHAPES" tab_SHAPES := ktab_of dl_SHAPES dk_SHAPES do_SHAPES (PySem.W.mg_of X GG da_SHAPES) de_SHAPES (.cons (v := .ref p_ONE_PART) rfl r_ONE_PART (.cons (v := .ref p_ONE_PART) rfl r_ONE_PART (.cons (v := .ref p_TWO_PARTS) rfl r_TWO_PARTS (.cons (v := .ref p_TWO_PARTS) rfl r_TWO_PARTS (.cons (v := .ref p_TWO_PARTS) rfl r_TWO_PARTS (.cons (v := .ref p_TWO_PARTS) rfl r_TWO_PARTS (.cons (v := .ref p_TWO_PARTS) rfl r_TWO_PARTS (.cons (v := .ref p_TWO_PARTS) rfl r_TWO_PARTS (.cons (v := .ref p_TWO_PARTS) rfl r_TWO_PARTS (.cons (v := .ref p_TWO_PARTS) rfl r_TWO_PARTS (.cons (v := .ref p_TWO_PARTS) rfl r_TWO_PARTS (.cons (v := .ref p_TWO_PARTS) rfl r_TWO_PARTS (.cons (v := .ref p_TWO_PARTS) rfl r_TWO_PARTS (.cons (v := .ref p_TWO_PARTS) rfl r_TWO_PARTS (.cons (v := .ref p_SHAPES_14) rfl r_SHAPES_14 .nil)))))))))))))))
  have t_ROW_SHAPES : KTab K w mg "ROW_SHAPES" tab_ROW_SHAPES := ktab_of dl_ROW_SHAPES dk_ROW_SHAPES do_ROW_SHAPES (PySem.W.mg_of X GG da_ROW_SHAPES) de_ROW_SHAPES (.cons (v := .ref p_ROW_SHAPES_0) rfl r_ROW_SHAPES_0 (.cons (v := .ref p_ONE_PART) rfl r_ONE_PART (.cons (v := .ref p_ROW_SHAPES_2) rfl r_ROW_SHAPES_2 (.cons (v := .ref p_ONE_PART) rfl r_ONE_PART (.cons (v := .ref p_ROW_SHAPES_4) rfl r_ROW_SHAPES_4 (.cons (v := .ref p_ROW_SHAPES_5) rfl r_ROW_SHAPES_5 (.cons (v := .ref p_ONE_PART) rfl r_ONE_PART .nil)))))))
  refine ⟨PySem.W.fnOf "law" "law" (defArgs s_law) (defBody s_law) (defScope s_law) .none kV46 dc46 pm46 an46 cd46 ct46, fun s v => .of_eq rfl, fun base _ _ => ?_⟩
  have hInt := fun k => (ok_is_integer (P := l.prog) (w := w) (base := base) F1 b1 m1 (k := 0) z_isinstance z_int z_bool).mono (k := k + 1) (by omega)
  have hName := fun k => (ok_is_name (P := l.prog) (w := w) (base := base) F3 b3 m3 (k := 0) c_LONGEST_NAME c_LETTERS z_isinstance z_str z_len z_all).mono (k := k + 1) (by omega)
  have hWd := fun k => (ok_is_worded (P := l.prog) (w := w) (base := base) F8 b8 m8 (k := 0) z_isinstance z_tuple z_str).mono (k := k + 1) (by omega)
  have hNum := fun k => (ok_is_number (P := l.prog) (w := w) (base := base) F2 b2 m2 (k := 1) (hInt 0)).mono (k := k + 2) (by omega)
  have hE : ∀ n, Has l.prog w K mg base (2 * n + 1) "is_expression" ["thing"] (gE n) := by
    intro n
    induction n with
    | zero => exact Has.none b9 F9.kp m9
    | succ n ih =>
      have hTW := ok_is_tuple_with (P := l.prog) (w := w) (base := base) F4 b4 m4 (k := 2 * n + 1) (tT := tE (gE n)) (fun y m hy => by
        unfold tE at hy
        split at hy
        · rename_i e; subst e; cases hy; exact ⟨_, ih⟩
        · cases hy) z_isinstance z_tuple z_len z_all z_zip
      exact ok_is_expression (P := l.prog) (w := w) (base := base) F9 b9 m9 (k := 2 * n + 2) (hInt (2 * n + 1)) (hName (2 * n + 1)) (hWd (2 * n + 1)) hTW t_SHAPES
  have hE32 : Has l.prog w K mg base 65 "is_expression" ["thing"] (gE nK) := hE 32
  have hTO := ok_is_tuple_of (P := l.prog) (w := w) (base := base) F5 b5 m5 (k := 65) (tT := tE (gE nK)) (fun y m hy => by
        unfold tE at hy
        split at hy
        · rename_i e; subst e; cases hy; exact ⟨_, hE32⟩
        · cases hy) z_isinstance z_tuple z_all
  have hAE := ok_are_expressions (P := l.prog) (w := w) (base := base) F10 b10 m10 (k := 66) hTO A9
  have hTWR := ok_is_tuple_with (P := l.prog) (w := w) (base := base) F4 b4 m4 (k := 67) (tT := tR (gE nK)) (fun y m hy => by
        unfold tR at hy
        split at hy
        · rename_i e; subst e; cases hy; exact ⟨_, hE32.mono (by omega)⟩
        · split at hy
          · rename_i e; subst e; cases hy; exact ⟨_, hName 66⟩
          · split at hy
            · rename_i e; subst e; cases hy; exact ⟨_, hAE⟩
            · cases hy) z_isinstance z_tuple z_len z_all z_zip
  have hRow : Has l.prog w K mg base 69 "is_row" ["thing"] gIR := ok_is_row (P := l.prog) (w := w) (base := base) F11 b11 m11 (k := 68) (hWd 67) hTWR t_ROW_SHAPES
  have hTWV := ok_is_tuple_with (P := l.prog) (w := w) (base := base) F4 b4 m4 (k := 1) (tT := tV) (fun y m hy => by
        unfold tV at hy
        split at hy
        · rename_i e; subst e; cases hy; exact ⟨_, hName 0⟩
        · split at hy
          · rename_i e; subst e; cases hy; exact ⟨_, hInt 0⟩
          · cases hy) z_isinstance z_tuple z_len z_all z_zip
  have hSh := ok_has_variable_shape (P := l.prog) (w := w) (base := base) F6 b6 m6 (k := 2) hTWV A1 A3
  have hVar : Has l.prog w K mg base 4 "is_variable" ["thing"] gIV := ok_is_variable (P := l.prog) (w := w) (base := base) F7 b7 m7 (k := 3) hSh
  have hTOI := ok_is_tuple_of (P := l.prog) (w := w) (base := base) F5 b5 m5 (k := 1) (tT := tI1) (fun y m hy => by
        unfold tI1 at hy
        split at hy
        · rename_i e; subst e; cases hy; exact ⟨_, hInt 0⟩
        · cases hy) z_isinstance z_tuple z_all
  have hAI := ok_are_integers (P := l.prog) (w := w) (base := base) F12 b12 m12 (k := 2) hTOI A1
  have hTWS := ok_is_tuple_with (P := l.prog) (w := w) (base := base) F4 b4 m4 (k := 3) (tT := tS) (fun y m hy => by
        unfold tS at hy
        split at hy
        · rename_i e; subst e; cases hy; exact ⟨_, hAI⟩
        · split at hy
          · rename_i e; subst e; cases hy; exact ⟨_, hInt 2⟩
          · cases hy) z_isinstance z_tuple z_len z_all z_zip
  have hTst : Has l.prog w K mg base 5 "is_test" ["thing"] gIT := ok_is_test (P := l.prog) (w := w) (base := base) F13 b13 m13 (k := 4) hTWS A1 A12
  have hNm : ∀ n, Has l.prog w K mg base (n + 1) "names_in" ["e"] (gNm n) := by
    intro n
    induction n with
    | zero => exact Has.none b14 F14.kp m14
    | succ n ih => exact ok_names_in (P := l.prog) (w := w) (base := base) F14 b14 m14 (k := n + 1) (hInt n) ih z_isinstance z_str
  have hFit : Has l.prog w K mg base 66 "fits" ["names", "thing"] gFi := ok_fits (P := l.prog) (w := w) (base := base) F15 b15 m15 (k := 65) hE32 ((hNm 32).mono (by omega)) z_all
  have hLI := fun k => (ok__law_integer (P := l.prog) (w := w) (base := base) F18 b18 m18 (k := 0) z_isinstance z_int z_bool).mono (k := k + 1) (by omega)
  have hLN := fun k => (ok__law_is_name (P := l.prog) (w := w) (base := base) F19 b19 m19 (k := 0) z_isinstance z_str z_len z_ord).mono (k := k + 1) (by omega)
  have hSz := fun k => (ok__law_sizes (P := l.prog) (w := w) (base := base) F20 b20 m20 (k := 0)).mono (k := k + 1) (by omega)
  have hLE : ∀ n, Has l.prog w K mg base (n + 1) "_law_is_expression" ["_law_item"] (gL n) := by
    intro n
    induction n with
    | zero => exact Has.none b21 F21.kp m21
    | succ n ih => exact ok__law_is_expression (P := l.prog) (w := w) (base := base) F21 b21 m21 (k := n + 1) (hLI n) (hLN n) (hSz n) ih z_isinstance z_tuple z_str z_len
  have hLNm : ∀ n, Has l.prog w K mg base (n + 1) "_law_names_in" ["_law_e"] (gLN n) := by
    intro n
    induction n with
    | zero => exact Has.none b22 F22.kp m22
    | succ n ih => exact ok__law_names_in (P := l.prog) (w := w) (base := base) F22 b22 m22 (k := n + 1) ih z_isinstance z_tuple z_str
  have hLFit := ok__law_fits (P := l.prog) (w := w) (base := base) F23 b23 m23 (k := 33) (hLE 32) (hLNm 32)
  have hLRow := ok__law_is_row (P := l.prog) (w := w) (base := base) F24 b24 m24 (k := 33) (hLE 32) (hLN 32) z_isinstance z_tuple z_str z_len
  have hLVar := ok__law_is_variable (P := l.prog) (w := w) (base := base) F25 b25 m25 (k := 1) (hLN 0) (hLI 0) z_isinstance z_tuple z_len
  have hLTst := ok__law_is_test (P := l.prog) (w := w) (base := base) F26 b26 m26 (k := 1) (hLI 0) z_isinstance z_tuple z_len
  have hKR : Has l.prog w K mg base 70 "_law_kinds_right" ["_law_item"] (gKR nK) := ok__law_kinds_right (P := l.prog) (w := w) (base := base) F44 b44 m44 (k := 69) (hE32.mono (by omega)) (hVar.mono (by omega)) (hName 68) (hNum 67) (hInt 68) hRow (hTst.mono (by omega)) (hLVar.mono (by omega)) (hLN 68) (hLI 68) (hLTst.mono (by omega)) (hLRow.mono (by omega)) ((hLE 32).mono (by omega)) z_repr
  have hKp : Has l.prog w K mg base 67 "_law_kept_right" ["_law_names_in_now", "_law_item"] (gKp nK) := ok__law_kept_right (P := l.prog) (w := w) (base := base) F45 b45 m45 (k := 66) hFit (hLFit.mono (by omega)) z_repr
  have hFd := ok__law_feed (P := l.prog) (w := w) (base := base) F16 b16 m16 (k := 0) z_list
  have hD := fun k => (ok__law_draw (P := l.prog) (w := w) (base := base) F17 b17 m17 (k := 0) z_int z_len).mono (k := k + 1) (by omega)
  have hNo := ok__law_names_of (P := l.prog) (w := w) (base := base) F27 b27 m27 (k := 0) z_tuple
  have hPt := fun k => (ok__law_parts (P := l.prog) (w := w) (base := base) F28 b28 m28 (k := 0)).mono (k := k + 1) (by omega)
  have hPo : Has l.prog w K mg base 2 "_law_parts_of" ["_law_rows"] gPo := ok__law_parts_of (P := l.prog) (w := w) (base := base) F29 b29 m29 (k := 1) (hPt 0) z_list
  have hLf := fun k => (ok__law_leaf (P := l.prog) (w := w) (base := base) F30 b30 m30 (k := 1) (hD 0) z_len).mono (k := k + 2) (by omega)
  have hF : ∀ n, Has l.prog w K mg base (n + 3) "_law_formula" ["_law_feed_here", "_law_names_in_now", "_law_deep"] (gF n) := by
    intro n
    induction n with
    | zero => exact Has.none b31 F31.kp m31
    | succ n ih => exact ok__law_formula (P := l.prog) (w := w) (base := base) F31 b31 m31 (k := n + 3) (hD (n + 2)) (hLf (n + 1)) (hSz (n + 2)) ih z_tuple z_range
  have hVs := ok__law_variables (P := l.prog) (w := w) (base := base) F32 b32 m32 (k := 1) (hD 0) z_tuple
  have hHd := ok__law_heads (P := l.prog) (w := w) (base := base) F33 b33 m33 (k := 2) (hD 1) hVs z_len
  have hPR := ok__law_plain_row (P := l.prog) (w := w) (base := base) F34 b34 m34 (k := 6) (hF 3) (hD 5) z_len z_tuple z_range
  have hBk : ∀ n, Has l.prog w K mg base (n + 8) "_law_block" ["_law_feed_here", "_law_names_in_now", "_law_heads_here", "_law_deep", "_law_left"] (gBk n) := by
    intro n
    induction n with
    | zero => exact Has.none b35 F35.kp m35
    | succ n ih => exact ok__law_block (P := l.prog) (w := w) (base := base) F35 b35 m35 (k := n + 8) (hD (n + 7)) ih ((hF 3).mono (by omega)) (hPR.mono (by omega)) (hPt (n + 7)) z_range z_max z_len
  have hPg : Has l.prog w K mg base 12 "_law_program" ["_law_feed_here"] gPg := ok__law_program (P := l.prog) (w := w) (base := base) F36 b36 m36 (k := 11) (hHd.mono (by omega)) (hBk 3) (hD 10) z_tuple z_len
  have hFP := ok__law_first_program (P := l.prog) (w := w) (base := base) F37 b37 m37 (k := 0)
  have hWP := ok__law_word_program (P := l.prog) (w := w) (base := base) F38 b38 m38 (k := 0)
  have hSm : Has l.prog w K mg base 2 "_law_samples" [] gSm := ok__law_samples (P := l.prog) (w := w) (base := base) F39 b39 m39 (k := 1) hFP hWP z_tuple z_range z_int
  have hOd := ok__law_odd (P := l.prog) (w := w) (base := base) F40 b40 m40 (k := 1) (hD 0)
  have hB : ∀ n, Has l.prog w K mg base (n + 3) "_law_bent" ["_law_feed_here", "_law_item"] (gB n) := by
    intro n
    induction n with
    | zero => exact Has.none b41 F41.kp m41
    | succ n ih => exact ok__law_bent (P := l.prog) (w := w) (base := base) F41 b41 m41 (k := n + 3) (hD (n + 2)) ih (hOd.mono (by omega)) z_isinstance z_tuple z_len z_list z_str z_int
  have hVa := ok__law_values (P := l.prog) (w := w) (base := base) F42 b42 m42 (k := 0) z_range z_int
  have hMo := ok__law_more_values (P := l.prog) (w := w) (base := base) F43 b43 m43 (k := 0)
  have kk : ∀ {j : Nat} {x : Str} {ps : List Str} {m : Fn} {f : Addr} {fd : FuncData} {p : Bool}, FnG l.prog w K mg base j f fd ps m → KB fd ps p → PySem.W.keepIn K (.ref f) = true → mg x = some (.ref f) → j ≤ 70 → HasK l.prog w K mg base 70 x ps p m := fun a b c d e => ⟨_, _, a.mono e, b, c, d⟩
  have qInt := kk (fn_is_integer (P := l.prog) (w := w) (base := base) (k := 0) F1 z_isinstance z_int z_bool) kb1 F1.kp m1 (by omega)
  have qName := kk (fn_is_name (P := l.prog) (w := w) (base := base) (k := 0) F3 c_LONGEST_NAME c_LETTERS z_isinstance z_str z_len z_all) kb3 F3.kp m3 (by omega)
  have qNum := kk (fn_is_number (P := l.prog) (w := w) (base := base) (k := 1) F2 (hInt 0)) kb2 F2.kp m2 (by omega)
  have qVar := kk (fn_is_variable (P := l.prog) (w := w) (base := base) (k := 3) F7 hSh) kb7 F7.kp m7 (by omega)
  have qTst := kk (fn_is_test (P := l.prog) (w := w) (base := base) (k := 4) F13 hTWS A1 A12) kb13 F13.kp m13 (by omega)
  have qRow := kk (fn_is_row (P := l.prog) (w := w) (base := base) (k := 68) F11 (hWd 67) hTWR t_ROW_SHAPES) kb11 F11.kp m11 (by omega)
  have qFit := kk (fn_fits (P := l.prog) (w := w) (base := base) (k := 65) F15 hE32 ((hNm 32).mono (by omega)) z_all) kb15 F15.kp m15 (by omega)
  have hTW31 := ok_is_tuple_with (P := l.prog) (w := w) (base := base) F4 b4 m4 (k := 63) (tT := tE (gE 31)) (fun y m hy => by
        unfold tE at hy
        split at hy
        · rename_i e; subst e; cases hy; exact ⟨_, hE 31⟩
        · cases hy) z_isinstance z_tuple z_len z_all z_zip
  have qExp : HasK l.prog w K mg base 70 "is_expression" ["thing"] false (gE nK) := kk (fn_is_expression (P := l.prog) (w := w) (base := base) (k := 64) F9 (hInt 63) (hName 63) (hWd 63) hTW31 t_SHAPES) kb9 F9.kp m9 (by omega)
  exact fn_law (k := 70) F46 (hFd.mono (by omega)) (hVa.mono (by omega)) (hMo.mono (by omega)) hKR (hSm.mono (by omega)) (hPg.mono (by omega)) (hPo.mono (by omega)) ((hB 10).mono (by omega)) (hNo.mono (by omega)) (hKp.mono (by omega)) qVar qName qNum qInt qTst qRow qExp qFit z_enumerate z_range z_int z_tuple z_list z_repr
end W
open PySem PySem.W PyProof.Rows
set_option maxRecDepth 100000 in
set_option maxHeartbeats 0 in
theorem PySem.Challenge.cw_blameplaces_k01_kinds_and_fits_holds : PySem.Challenge.rw_blameplaces_k01_kinds_and_fits.Holds := by
  w_on; o_law; k_head; (case hw => w_witness2)
  k_fill
  refine DL.law_walk (l := PySem.Challenge.rw_blameplaces_k01_kinds_and_fits) (k := 71) (x := "_law_script") (m := fun _ => W.LAW) rfl (by decide) rfl ⟨rfl, by decide, by decide⟩ (fun w h Y => PySem.W.kIn_of Y) ?F (fun w ns hl => W.LAW_ok ns hl)
  case F =>
    intro w mg fa h KX G hmg
    refine' W.all_mk KX G hmg ?a1 ?l1 ?c1 ?k1 ?a2 ?l2 ?c2 ?k2 ?a3 ?l3 ?c3 ?k3 ?a4 ?l4 ?c4 ?k4 ?a5 ?l5 ?c5 ?k5 ?a6 ?l6 ?c6 ?k6 ?a7 ?l7 ?c7 ?k7 ?a8 ?l8 ?c8 ?k8 ?a9 ?l9 ?c9 ?k9 ?a10 ?l10 ?c10 ?k10 ?a11 ?l11 ?c11 ?k11 ?a12 ?l12 ?c12 ?k12 ?a13 ?l13 ?c13 ?k13 ?a14 ?l14 ?c14 ?k14 ?a15 ?l15 ?c15 ?k15 ?a16 ?l16 ?c16 ?k16 ?a17 ?l17 ?c17 ?k17 ?a18 ?l18 ?c18 ?k18 ?a19 ?l19 ?c19 ?k19 ?a20 ?l20 ?c20 ?k20 ?a21 ?l21 ?c21 ?k21 ?a22 ?l22 ?c22 ?k22 ?a23 ?l23 ?c23 ?k23 ?a24 ?l24 ?c24 ?k24 ?a25 ?l25 ?c25 ?k25 ?a26 ?l26 ?c26 ?k26 ?a27 ?l27 ?c27 ?k27 ?a28 ?l28 ?c28 ?k28 ?a29 ?l29 ?c29 ?k29 ?a30 ?l30 ?c30 ?k30 ?a31 ?l31 ?c31 ?k31 ?a32 ?l32 ?c32 ?k32 ?a33 ?l33 ?c33 ?k33 ?a34 ?l34 ?c34 ?k34 ?a35 ?l35 ?c35 ?k35 ?a36 ?l36 ?c36 ?k36 ?a37 ?l37 ?c37 ?k37 ?a38 ?l38 ?c38 ?k38 ?a39 ?l39 ?c39 ?k39 ?a40 ?l40 ?c40 ?k40 ?a41 ?l41 ?c41 ?k41 ?a42 ?l42 ?c42 ?k42 ?a43 ?l43 ?c43 ?k43 ?a44 ?l44 ?c44 ?k44 ?a45 ?l45 ?c45 ?k45 ?a46 ?l46 ?c46 ?k46 ?y_isinstance ?y_int ?y_bool ?y_str ?y_len ?y_all ?y_tuple ?y_zip ?y_list ?y_ord ?y_range ?y_max ?y_repr ?y_enumerate ?g_LONGEST_NAME ?g_LETTERS ?da_SHAPES ?dl_SHAPES ?dk_SHAPES ?do_SHAPES ?de_SHAPES ?da_ROW_SHAPES ?dl_ROW_SHAPES ?dk_ROW_SHAPES ?do_ROW_SHAPES ?de_ROW_SHAPES ?pl_ONE_PART ?pl_TWO_PARTS ?pl_SHAPES_14 ?pl_ROW_SHAPES_0 ?pl_ROW_SHAPES_2 ?pl_ROW_SHAPES_4 ?pl_ROW_SHAPES_5
    (case a1 => k_is); (case l1 => k_is); (case c1 => k_is); (case k1 => k_is)
    (case a2 => k_is); (case l2 => k_is); (case c2 => k_is); (case k2 => k_is)
    (case a3 => k_is); (case l3 => k_is); (case c3 => k_is); (case k3 => k_is)
    (case a4 => k_is); (case l4 => k_is); (case c4 => k_is); (case k4 => k_is)
    (case a5 => k_is); (case l5 => k_is); (case c5 => k_is); (case k5 => k_is)
    (case a6 => k_is); (case l6 => k_is); (case c6 => k_is); (case k6 => k_is)
    (case a7 => k_is); (case l7 => k_is); (case c7 => k_is); (case k7 => k_is)
    (case a8 => k_is); (case l8 => k_is); (case c8 => k_is); (case k8 => k_is)
    (case a9 => k_is); (case l9 => k_is); (case c9 => k_is); (case k9 => k_is)
    (case a10 => k_is); (case l10 => k_is); (case c10 => k_is); (case k10 => k_is)
    (case a11 => k_is); (case l11 => k_is); (case c11 => k_is); (case k11 => k_is)
    (case a12 => k_is); (case l12 => k_is); (case c12 => k_is); (case k12 => k_is)
    (case a13 => k_is); (case l13 => k_is); (case c13 => k_is); (case k13 => k_is)
    (case a14 => k_is); (case l14 => k_is); (case c14 => k_is); (case k14 => k_is)
    (case a15 => k_is); (case l15 => k_is); (case c15 => k_is); (case k15 => k_is)
    (case a16 => k_is); (case l16 => k_is); (case c16 => k_is); (case k16 => k_is)
    (case a17 => k_is); (case l17 => k_is); (case c17 => k_is); (case k17 => k_is)
    (case a18 => k_is); (case l18 => k_is); (case c18 => k_is); (case k18 => k_is)
    (case a19 => k_is); (case l19 => k_is); (case c19 => k_is); (case k19 => k_is)
    (case a20 => k_is); (case l20 => k_is); (case c20 => k_is); (case k20 => k_is)
    (case a21 => k_is); (case l21 => k_is); (case c21 => k_is); (case k21 => k_is)
    (case a22 => k_is); (case l22 => k_is); (case c22 => k_is); (case k22 => k_is)
    (case a23 => k_is); (case l23 => k_is); (case c23 => k_is); (case k23 => k_is)
    (case a24 => k_is); (case l24 => k_is); (case c24 => k_is); (case k24 => k_is)
    (case a25 => k_is); (case l25 => k_is); (case c25 => k_is); (case k25 => k_is)
    (case a26 => k_is); (case l26 => k_is); (case c26 => k_is); (case k26 => k_is)
    (case a27 => k_is); (case l27 => k_is); (case c27 => k_is); (case k27 => k_is)
    (case a28 => k_is); (case l28 => k_is); (case c28 => k_is); (case k28 => k_is)
    (case a29 => k_is); (case l29 => k_is); (case c29 => k_is); (case k29 => k_is)
    (case a30 => k_is); (case l30 => k_is); (case c30 => k_is); (case k30 => k_is)
    (case a31 => k_is); (case l31 => k_is); (case c31 => k_is); (case k31 => k_is)
    (case a32 => k_is); (case l32 => k_is); (case c32 => k_is); (case k32 => k_is)
    (case a33 => k_is); (case l33 => k_is); (case c33 => k_is); (case k33 => k_is)
    (case a34 => k_is); (case l34 => k_is); (case c34 => k_is); (case k34 => k_is)
    (case a35 => k_is); (case l35 => k_is); (case c35 => k_is); (case k35 => k_is)
    (case a36 => k_is); (case l36 => k_is); (case c36 => k_is); (case k36 => k_is)
    (case a37 => k_is); (case l37 => k_is); (case c37 => k_is); (case k37 => k_is)
    (case a38 => k_is); (case l38 => k_is); (case c38 => k_is); (case k38 => k_is)
    (case a39 => k_is); (case l39 => k_is); (case c39 => k_is); (case k39 => k_is)
    (case a40 => k_is); (case l40 => k_is); (case c40 => k_is); (case k40 => k_is)
    (case a41 => k_is); (case l41 => k_is); (case c41 => k_is); (case k41 => k_is)
    (case a42 => k_is); (case l42 => k_is); (case c42 => k_is); (case k42 => k_is)
    (case a43 => k_is); (case l43 => k_is); (case c43 => k_is); (case k43 => k_is)
    (case a44 => k_is); (case l44 => k_is); (case c44 => k_is); (case k44 => k_is)
    (case a45 => k_is); (case l45 => k_is); (case c45 => k_is); (case k45 => k_is)
    (case a46 => k_is); (case l46 => k_is); (case c46 => k_is); (case k46 => k_is)
    (case y_isinstance => k_is)
    (case y_int => k_is)
    (case y_bool => k_is)
    (case y_str => k_is)
    (case y_len => k_is)
    (case y_all => k_is)
    (case y_tuple => k_is)
    (case y_zip => k_is)
    (case y_list => k_is)
    (case y_ord => k_is)
    (case y_range => k_is)
    (case y_max => k_is)
    (case y_repr => k_is)
    (case y_enumerate => k_is)
    (case g_LONGEST_NAME => k_is)
    (case g_LETTERS => k_is)
    (case da_SHAPES => k_is); (case dl_SHAPES => k_is); (case dk_SHAPES => k_keys); (case do_SHAPES => decide); (case de_SHAPES => rfl)
    (case da_ROW_SHAPES => k_is); (case dl_ROW_SHAPES => k_is); (case dk_ROW_SHAPES => k_keys); (case do_ROW_SHAPES => decide); (case de_ROW_SHAPES => rfl)
    (case pl_ONE_PART => k_is)
    (case pl_TWO_PARTS => k_is)
    (case pl_SHAPES_14 => k_is)
    (case pl_ROW_SHAPES_0 => k_is)
    (case pl_ROW_SHAPES_2 => k_is)
    (case pl_ROW_SHAPES_4 => k_is)
    (case pl_ROW_SHAPES_5 => k_is)
