import PyProof.Rows.All
import Wide.All
import OpenK.AllK
import Wide.FinOn
import HandS.ForMost
import HandS.ForExc
import HandS.CallSlots
import HandS.Wide
import HandS.Deep
import HandS.Flow
import HandS.Style
import HandS.TupAny
import HandS.SortInts
import HandS.Zip
import HandS.SetFor
import HandS.More
import HandS.Small
import PySem.Challenge.RW_trueimage_k01_whole_words
set_option Elab.async false
set_option linter.all false
set_option maxRecDepth 100000
set_option maxHeartbeats 4000000
/-! Sm: a small functional reading of Python bodies, shown once over the hand layer's rules. -/
namespace Sm
open PySem PySem.Spec PyProof.Rows L2

/-- a value: data that never changes, a cell of the store, a list that is only read -/
inductive W where
  | d (x : PyData)
  | r (n : Nat)
  | k (xs : List PyData)
inductive Cell where
  | lst (xs : List W)
  | dK (kvs : List (Key × W))
  | dT (kvs : List (List Key × W))
  | dead
def Cell.alive : Cell → Bool
  | .dead => false
  | _ => true

/-! ### values against the heap -/
/-- the program, the world, what the top has written -/
structure Kx where
  P : Program
  w : World
  K : PySem.W.Frag
def keyOf : PyData → Option Key
  | .int i => some (.inl i)
  | .str x => some (.inr x)
  | _ => none
/-- a dict of the written part -/
def KD (K : Kx) (a : Addr) (us : List (Key × V)) : Prop := us.length ≤ sizeLine ∧ (a == sysModules) = false ∧ ∃ vs, KV us vs ∧ ∀ h : Heap, K.K.In h → h.DictOf (mixKind K.P K.w) a vs
def FD (K : Kx) (H : Hp) (L : Addr → Prop) (a : Addr) (us : List (Key × V)) : Prop := (H a = some (.dK us) ∧ ¬ L a) ∨ KD K a us
def KT (K : Kx) (a : Addr) (xs : List V) : Prop :=
  ∃ (o : Obj) (its : Array Value) (n : Nat), K.K.lookup a = some o ∧ o.cls = .type "tuple" ∧ o.data = .seq its n ∧ its.size ≤ sizeLine ∧ Vals xs its.toList
def FT (K : Kx) (H : Hp) (L : Addr → Prop) (a : Addr) (xs : List V) : Prop := (H a = some (.tup xs) ∧ ¬ L a) ∨ KT K a xs
theorem FT.sq {K : Kx} {H : Hp} {L : Addr → Prop} {a : Addr} {xs : List V} (h : FT K H L a xs) : SqT K.K H a xs := by
  rcases h with h | h
  · exact .inl (.inl h.1)
  · exact .inr h
/-- a list that is only read -/
def FK (K : Kx) (H : Hp) (L : Addr → Prop) (a : Addr) (xs : List V) : Prop := (Rd H a (.lst xs) ∧ ¬ L a) ∨
  ∃ (o : Obj) (its : Array Value) (n : Nat), K.K.lookup a = some o ∧ o.cls = .type "list" ∧ o.dict = none ∧ o.data = .seq its n ∧ its.size ≤ sizeLine ∧ Vals xs its.toList
theorem FK.sq {K : Kx} {H : Hp} {L : Addr → Prop} {a : Addr} {xs : List V} (h : FK K H L a xs) : SqL K.K H a xs := by
  rcases h with h | h
  · exact .inl h.1
  · exact .inr h
mutual
def RD (K : Kx) (H : Hp) (L : Addr → Prop) : PyData → V → Prop
  | .none, v => v = .non
  | .bool b, v => v = .bl b
  | .int i, v => v = .int i
  | .str x, v => v = .str x
  | .list ds, v => ∃ a xs, v = .ref a ∧ H a = some (.lst xs) ∧ ¬ L a ∧ RDs K H L ds xs
  | .tuple ds, v => ∃ a xs, v = .ref a ∧ FT K H L a xs ∧ RDs K H L ds xs
  | .dict kvs, v => ∃ a us, v = .ref a ∧ FD K H L a us ∧ RDk K H L kvs us
def RDs (K : Kx) (H : Hp) (L : Addr → Prop) : List PyData → List V → Prop
  | [], vs => vs = []
  | d :: ds, vs => ∃ v r, vs = v :: r ∧ RD K H L d v ∧ RDs K H L ds r
def RDk (K : Kx) (H : Hp) (L : Addr → Prop) : List (PyData × PyData) → List (Key × V) → Prop
  | [], vs => vs = []
  | (k, d) :: ds, vs => ∃ kk v r, vs = (kk, v) :: r ∧ keyOf k = some kk ∧ RD K H L d v ∧ RDk K H L ds r
end
def RW (K : Kx) (H : Hp) (L : Addr → Prop) (ρ : List Addr) : W → V → Prop
  | .d x, v => RD K H L x v
  | .r n, v => ∃ a, ρ[n]? = some a ∧ v = .ref a
  | .k xs, v => ∃ a vs, v = .ref a ∧ FK K H L a vs ∧ RDs K H L xs vs
def RWs (K : Kx) (H : Hp) (L : Addr → Prop) (ρ : List Addr) (ws : List W) (vs : List V) : Prop := Paired (fun w v => RW K H L ρ w v) ws vs
/-- what changes may not touch -/
def keep (H : Hp) (L : Addr → Prop) (H' : Hp) (L' : Addr → Prop) : Prop := ∀ a o, H a = some o → ¬ L a → H' a = some o ∧ ¬ L' a
section
variable {K : Kx} {H H' : Hp} {L L' : Addr → Prop} {ρ ρ' : List Addr}
mutual
theorem RD.go (k : keep H L H' L') : ∀ (d : PyData) {v : V}, RD K H L d v → RD K H' L' d v
  | .none, _, h => h
  | .bool _, _, h => h
  | .int _, _, h => h
  | .str _, _, h => h
  | .list ds, _, h => by
    obtain ⟨a, xs, rfl, h1, h2, h3⟩ := h
    exact ⟨a, xs, rfl, (k _ _ h1 h2).1, (k _ _ h1 h2).2, RDs.go k ds h3⟩
  | .tuple ds, _, h => by
    obtain ⟨a, xs, rfl, h1, h3⟩ := h
    refine ⟨a, xs, rfl, ?_, RDs.go k ds h3⟩
    rcases h1 with ⟨h1, h2⟩ | h1
    · exact .inl (k _ _ h1 h2)
    · exact .inr h1
  | .dict kvs, _, h => by
    obtain ⟨a, us, rfl, h1, h3⟩ := h
    refine ⟨a, us, rfl, ?_, RDk.go k kvs h3⟩
    rcases h1 with ⟨h1, h2⟩ | h1
    · exact .inl (k _ _ h1 h2)
    · exact .inr h1
theorem RDs.go (k : keep H L H' L') : ∀ (ds : List PyData) {vs : List V}, RDs K H L ds vs → RDs K H' L' ds vs
  | [], _, h => h
  | d :: ds, _, h => by
    obtain ⟨v, r, rfl, h1, h2⟩ := h
    exact ⟨v, r, rfl, RD.go k d h1, RDs.go k ds h2⟩
theorem RDk.go (k : keep H L H' L') : ∀ (ds : List (PyData × PyData)) {vs : List (Key × V)}, RDk K H L ds vs → RDk K H' L' ds vs
  | [], _, h => h
  | (q, d) :: ds, _, h => by
    obtain ⟨kk, v, r, rfl, h0, h1, h2⟩ := h
    exact ⟨kk, v, r, rfl, h0, RD.go k d h1, RDk.go k ds h2⟩
end
mutual
theorem RD.weak (hL : ∀ a, L' a → L a) : ∀ (d : PyData) {v : V}, RD K H L d v → RD K H L' d v
  | .none, _, h => h
  | .bool _, _, h => h
  | .int _, _, h => h
  | .str _, _, h => h
  | .list ds, _, h => by
    obtain ⟨a, xs, rfl, h1, h2, h3⟩ := h
    exact ⟨a, xs, rfl, h1, fun z => h2 (hL _ z), RDs.weak hL ds h3⟩
  | .tuple ds, _, h => by
    obtain ⟨a, xs, rfl, h1, h3⟩ := h
    refine ⟨a, xs, rfl, ?_, RDs.weak hL ds h3⟩
    rcases h1 with ⟨h1, h2⟩ | h1
    · exact .inl ⟨h1, fun z => h2 (hL _ z)⟩
    · exact .inr h1
  | .dict kvs, _, h => by
    obtain ⟨a, us, rfl, h1, h3⟩ := h
    refine ⟨a, us, rfl, ?_, RDk.weak hL kvs h3⟩
    rcases h1 with ⟨h1, h2⟩ | h1
    · exact .inl ⟨h1, fun z => h2 (hL _ z)⟩
    · exact .inr h1
theorem RDs.weak (hL : ∀ a, L' a → L a) : ∀ (ds : List PyData) {vs : List V}, RDs K H L ds vs → RDs K H L' ds vs
  | [], _, h => h
  | d :: ds, _, h => by
    obtain ⟨v, r, rfl, h1, h2⟩ := h
    exact ⟨v, r, rfl, RD.weak hL d h1, RDs.weak hL ds h2⟩
theorem RDk.weak (hL : ∀ a, L' a → L a) : ∀ (ds : List (PyData × PyData)) {vs : List (Key × V)}, RDk K H L ds vs → RDk K H L' ds vs
  | [], _, h => h
  | (q, d) :: ds, _, h => by
    obtain ⟨kk, v, r, rfl, h0, h1, h2⟩ := h
    exact ⟨kk, v, r, rfl, h0, RD.weak hL d h1, RDk.weak hL ds h2⟩
end
theorem RDs.length : ∀ {ds : List PyData} {vs : List V}, RDs K H L ds vs → vs.length = ds.length
  | [], _, h => by
    have h : _ = [] := h
    rw [h]
    rfl
  | d :: ds, _, h => by
    obtain ⟨v, r, rfl, _, h2⟩ := h
    rw [List.length_cons, List.length_cons, RDs.length h2]
theorem RDs.get : ∀ {ds : List PyData} {vs : List V} {i : Nat} {d : PyData}, RDs K H L ds vs → ds[i]? = some d → ∃ v, vs[i]? = some v ∧ RD K H L d v
  | [], _, _, _, _, e => by simp at e
  | x :: ds, _, 0, d, h, e => by
    obtain ⟨v, r, rfl, h1, h2⟩ := h
    have e : x = d := by simpa using e
    exact ⟨v, rfl, e ▸ h1⟩
  | x :: ds, _, i + 1, d, h, e => by
    obtain ⟨v, r, rfl, h1, h2⟩ := h
    obtain ⟨u, h3, h4⟩ := RDs.get (i := i) h2 (by simpa using e)
    exact ⟨u, by simpa using h3, h4⟩
theorem RDs.get' : ∀ {ds : List PyData} {vs : List V} {i : Nat} {v : V}, RDs K H L ds vs → vs[i]? = some v → ∃ d, ds[i]? = some d ∧ RD K H L d v := fun {ds vs i v} h e => by
  have hl := h.length
  have hi : i < vs.length := (List.getElem?_eq_some_iff.mp e).1
  have h1 : ds[i]? = some ds[i] := List.getElem?_eq_getElem (by omega)
  obtain ⟨u, h2, h3⟩ := h.get h1
  rw [e] at h2
  cases h2
  exact ⟨_, h1, h3⟩
theorem RDs.append : ∀ {ds es : List PyData} {vs us : List V}, RDs K H L ds vs → RDs K H L es us → RDs K H L (ds ++ es) (vs ++ us)
  | [], _, _, _, h, g => by
    have h : _ = [] := h
    rw [h]
    exact g
  | d :: ds, _, _, _, h, g => by
    obtain ⟨v, r, rfl, h1, h2⟩ := h
    exact ⟨v, _, rfl, h1, RDs.append h2 g⟩
theorem RDs.drop : ∀ {ds : List PyData} {vs : List V} (n : Nat), RDs K H L ds vs → RDs K H L (ds.drop n) (vs.drop n)
  | _, _, 0, h => h
  | [], _, n + 1, h => by
    have h : _ = [] := h
    rw [h]
    rfl
  | d :: ds, _, n + 1, h => by
    obtain ⟨v, r, rfl, h1, h2⟩ := h
    exact RDs.drop n h2
theorem RDs.take : ∀ {ds : List PyData} {vs : List V} (n : Nat), RDs K H L ds vs → RDs K H L (ds.take n) (vs.take n)
  | ds, vs, 0, h => by
    rw [List.take_zero, List.take_zero]
    rfl
  | [], _, n + 1, h => by
    have h : _ = [] := h
    rw [h]
    rfl
  | d :: ds, _, n + 1, h => by
    obtain ⟨v, r, rfl, h1, h2⟩ := h
    exact ⟨v, _, rfl, h1, RDs.take n h2⟩
theorem RDs.nil_iff {ds : List PyData} {vs : List V} (h : RDs K H L ds vs) : ds = [] ↔ vs = [] := by
  have := h.length
  constructor
  · rintro rfl
    exact h
  · rintro rfl
    cases ds with
    | nil => rfl
    | cons => simp at this
theorem RDs.ints : ∀ {ns : List Int} {vs : List V}, RDs K H L (ns.map .int) vs → vs = ns.map V.int
  | [], _, h => h
  | n :: ns, _, h => by
    obtain ⟨v, r, rfl, h1, h2⟩ := h
    have h1 : v = .int n := h1
    rw [RDs.ints h2, h1]
    rfl
theorem RDs.strs : ∀ {ns : List Str} {vs : List V}, RDs K H L (ns.map .str) vs → vs = ns.map V.str
  | [], _, h => h
  | n :: ns, _, h => by
    obtain ⟨v, r, rfl, h1, h2⟩ := h
    have h1 : v = .str n := h1
    rw [RDs.strs h2, h1]
    rfl
theorem RDs.bools : ∀ {ns : List Bool} {vs : List V}, RDs K H L (ns.map .bool) vs → vs = ns.map V.bl
  | [], _, h => h
  | n :: ns, _, h => by
    obtain ⟨v, r, rfl, h1, h2⟩ := h
    have h1 : v = .bl n := h1
    rw [RDs.bools h2, h1]
    rfl
theorem RDs.mk_ints : ∀ {ns : List Int}, RDs K H L (ns.map .int) (ns.map V.int)
  | [] => rfl
  | n :: ns => ⟨_, _, rfl, rfl, RDs.mk_ints⟩
theorem RDs.mk_strs : ∀ {ns : List Str}, RDs K H L (ns.map .str) (ns.map V.str)
  | [] => rfl
  | n :: ns => ⟨_, _, rfl, rfl, RDs.mk_strs⟩
mutual
theorem RD.dp : ∀ (d : PyData) {v : V}, d.canLay0 = true → RD K H L d v → Dp K.K H v d
  | .none, _, _, h => by
    have h : _ = _ := h
    subst h
    exact .non
  | .bool b, _, _, h => by
    have h : _ = _ := h
    subst h
    exact .bl b
  | .int b, _, _, h => by
    have h : _ = _ := h
    subst h
    exact .int b
  | .str b, _, _, h => by
    have h : _ = _ := h
    subst h
    exact .str b
  | .list ds, _, c, h => by
    obtain ⟨a, xs, rfl, h1, h2, h3⟩ := h
    exact .lst (.inl (.inl h1)) (RDs.dp ds c h3)
  | .tuple ds, _, c, h => by
    obtain ⟨a, xs, rfl, h1, h3⟩ := h
    exact .tup h1.sq (RDs.dp ds c h3)
  | .dict _, _, c, _ => nomatch c
theorem RDs.dp : ∀ (ds : List PyData) {vs : List V}, PyData.canLayAll0 ds = true → RDs K H L ds vs → DpAll K.K H vs ds
  | [], _, _, h => by
    have h : _ = [] := h
    rw [h]
    exact .nil
  | d :: ds, _, c, h => by
    obtain ⟨v, r, rfl, h1, h2⟩ := h
    have c : (d.canLay0 && PyData.canLayAll0 ds) = true := c
    rw [Bool.and_eq_true] at c
    exact .cons (RD.dp d c.1 h1) (RDs.dp ds c.2 h2)
end
theorem FK.go (k : keep H L H' L') {a : Addr} {vs : List V} (h : FK K H L a vs) : FK K H' L' a vs := by
  rcases h with ⟨h | ⟨o, h⟩, n⟩ | h
  · exact .inl ⟨.inl (k _ _ h n).1, (k _ _ h n).2⟩
  · exact .inl ⟨.inr ⟨o, (k _ _ h n).1⟩, (k _ _ h n).2⟩
  · exact .inr h
end
/-! ### the store -/
def Lv (La : Addr → Prop) (ρ : List Addr) (cs : List Cell) (a : Addr) : Prop := La a ∨ ∃ (n : Nat) (c : Cell), ρ[n]? = some a ∧ cs[n]? = some c ∧ c.alive = true
theorem Lv.nil {La : Addr → Prop} {a : Addr} : Lv La [] [] a ↔ La a := by
  constructor
  · rintro (h | ⟨n, c, h, _⟩)
    · exact h
    · simp at h
  · exact .inl
def CellAt (K : Kx) (H : Hp) (L : Addr → Prop) (ρ : List Addr) (a : Addr) : Cell → Prop
  | .lst ws => ∃ vs, H a = some (.lst vs) ∧ RWs K H L ρ ws vs
  | .dK kvs => ∃ us, H a = some (.dK us) ∧ Paired (fun p q => p.1 = q.1 ∧ RW K H L ρ p.2 q.2) kvs us
  | .dT kvs => ∃ us, H a = some (.dT us) ∧ Paired (fun p q => p.1 = q.1 ∧ RW K H L ρ p.2 q.2) kvs us
  | .dead => True
structure Rl (K : Kx) (La : Addr → Prop) (H : Hp) (ρ : List Addr) (cs : List Cell) : Prop where
  len : ρ.length = cs.length
  nd : ρ.Nodup
  amb : ∀ a, La a → ∃ o, H a = some o
  dis : ∀ a, a ∈ ρ → ¬ La a
  trk : ∀ a, a ∈ ρ → ∃ o, H a = some o
  cel : ∀ (n : Nat) (c : Cell) (a : Addr), cs[n]? = some c → ρ[n]? = some a → CellAt K H (Lv La ρ cs) ρ a c
structure Go (La : Addr → Prop) (H : Hp) (ρ : List Addr) (cs : List Cell) (H' : Hp) (ρ' : List Addr) (cs' : List Cell) : Prop where
  keep : keep H (Lv La ρ cs) H' (Lv La ρ' cs')
  amb : ∀ a, La a → H' a = H a
  pre : ∃ more, ρ' = ρ ++ more
section
variable {K : Kx} {La L L' : Addr → Prop} {H H' H1 H2 : Hp} {ρ ρ' ρ1 ρ2 : List Addr} {cs cs' cs1 cs2 : List Cell} {p : Addr} {o : HO}
theorem Go.refl : Go La H ρ cs H ρ cs := ⟨fun _ _ h n => ⟨h, n⟩, fun _ _ => rfl, [], by rw [List.append_nil]⟩
theorem Go.trans (a : Go La H ρ cs H1 ρ1 cs1) (b : Go La H1 ρ1 cs1 H2 ρ2 cs2) : Go La H ρ cs H2 ρ2 cs2 := by
  refine ⟨fun x o h n => ?_, fun x h => (b.amb x h).trans (a.amb x h), ?_⟩
  · obtain ⟨h1, n1⟩ := a.keep x o h n
    exact b.keep x o h1 n1
  · obtain ⟨m, e⟩ := a.pre
    obtain ⟨k, f⟩ := b.pre
    exact ⟨m ++ k, by rw [f, e, List.append_assoc]⟩
theorem pre_get {ρ ρ' : List Addr} {n : Nat} {a : Addr} (h : ∃ more, ρ' = ρ ++ more) (e : ρ[n]? = some a) : ρ'[n]? = some a := by
  obtain ⟨m, rfl⟩ := h
  rw [List.getElem?_append_left (List.getElem?_eq_some_iff.mp e).1]
  exact e
theorem RW.go (k : keep H L H' L') (hp : ∃ more, ρ' = ρ ++ more) : ∀ {w : W} {v : V}, RW K H L ρ w v → RW K H' L' ρ' w v
  | .d x, _, h => RD.go k x h
  | .r n, _, h => by
    obtain ⟨a, h1, rfl⟩ := h
    exact ⟨a, pre_get hp h1, rfl⟩
  | .k xs, _, h => by
    obtain ⟨a, vs, rfl, h1, h2⟩ := h
    exact ⟨a, vs, rfl, h1.go k, RDs.go k xs h2⟩
theorem RWs.go (k : keep H L H' L') (hp : ∃ more, ρ' = ρ ++ more) {ws : List W} {vs : List V} (h : RWs K H L ρ ws vs) : RWs K H' L' ρ' ws vs := Paired.mapP h fun _ _ r => r.go k hp
theorem RWs.data : ∀ {ds : List PyData} {vs : List V}, RDs K H L ds vs → RWs K H L ρ (ds.map .d) vs
  | [], _, h => by
    have h : _ = [] := h
    rw [h]
    exact .nil
  | d :: ds, _, h => by
    obtain ⟨v, r, rfl, h1, h2⟩ := h
    exact .cons h1 (RWs.data h2)
theorem RWs.to_data : ∀ {ds : List PyData} {vs : List V}, RWs K H L ρ (ds.map .d) vs → RDs K H L ds vs
  | [], _, .nil => rfl
  | d :: ds, _, .cons h1 h2 => ⟨_, _, rfl, h1, RWs.to_data h2⟩
theorem RWs.get : ∀ {ws : List W} {vs : List V} {i : Nat} {w : W}, RWs K H L ρ ws vs → ws[i]? = some w → ∃ v, vs[i]? = some v ∧ RW K H L ρ w v
  | _, _, _, _, .nil, e => by simp at e
  | _, _, 0, _, .cons r _, e => by
    have e : _ = _ := Option.some.inj e
    exact ⟨_, rfl, e ▸ r⟩
  | _, _, i + 1, _, .cons r t, e => by
    obtain ⟨v, h1, h2⟩ := RWs.get (i := i) t (by simpa using e)
    exact ⟨v, by simpa using h1, h2⟩
theorem RWs.set {w : W} {v : V} (r : RW K H L ρ w v) : ∀ {ws : List W} {vs : List V} (i : Nat), RWs K H L ρ ws vs → RWs K H L ρ (ws.set i w) (vs.set i v)
  | _, _, _, .nil => .nil
  | _, _, 0, .cons _ t => .cons r t
  | _, _, i + 1, .cons q t => .cons q (RWs.set r i t)
theorem RWs.snoc {w : W} {v : V} {ws : List W} {vs : List V} (h : RWs K H L ρ ws vs) (r : RW K H L ρ w v) : RWs K H L ρ (ws ++ [w]) (vs ++ [v]) := Paired.snoc h r
theorem CellAt.go (k : keep H L H' L') (hp : ∃ more, ρ' = ρ ++ more) {a : Addr} {c : Cell} (e : H' a = H a) (h : CellAt K H L ρ a c) : CellAt K H' L' ρ' a c := by
  cases c with
  | lst ws =>
    obtain ⟨vs, h1, h2⟩ := h
    exact ⟨vs, e.trans h1, h2.go k hp⟩
  | dK kvs =>
    obtain ⟨vs, h1, h2⟩ := h
    exact ⟨vs, e.trans h1, Paired.mapP h2 fun _ _ r => ⟨r.1, r.2.go k hp⟩⟩
  | dT kvs =>
    obtain ⟨vs, h1, h2⟩ := h
    exact ⟨vs, e.trans h1, Paired.mapP h2 fun _ _ r => ⟨r.1, r.2.go k hp⟩⟩
  | dead => trivial
theorem Rl.tr (R : Rl K La H ρ cs) {a : Addr} (h : Lv La ρ cs a) : ∃ o, H a = some o := by
  rcases h with h | ⟨n, c, h, _⟩
  · exact R.amb a h
  · exact R.trk a (List.mem_of_getElem? h)
/-- a new thing that no cell knows -/
theorem Rl.new (R : Rl K La H ρ cs) (hp : H p = none) (o : HO) : Rl K La (upd H p o) ρ cs ∧ Go La H ρ cs (upd H p o) ρ cs ∧ ¬ Lv La ρ cs p := by
  have np : ¬ Lv La ρ cs p := fun z => by
    obtain ⟨o, e⟩ := R.tr z
    rw [hp] at e
    cases e
  have k : keep H (Lv La ρ cs) (upd H p o) (Lv La ρ cs) := fun a u h n => ⟨by rw [upd_ne (ne_of_none h hp)]; exact h, n⟩
  have st : ∀ a u, H a = some u → upd H p o a = some u := fun a u h => by rw [upd_ne (ne_of_none h hp)]; exact h
  have ne : ∀ a, Lv La ρ cs a → a ≠ p := fun a h z => np (z ▸ h)
  refine ⟨⟨R.len, R.nd, fun a h => ?_, R.dis, fun a h => ?_, fun n c a hc ha => ?_⟩, ⟨k, fun a h => upd_ne (ne a (.inl h)), [], by rw [List.append_nil]⟩, np⟩
  · obtain ⟨u, e⟩ := R.amb a h
    exact ⟨u, st _ _ e⟩
  · obtain ⟨u, e⟩ := R.trk a h
    exact ⟨u, st _ _ e⟩
  · have ha' : a ≠ p := fun z => by
      obtain ⟨u, e⟩ := R.trk a (List.mem_of_getElem? ha)
      rw [z, hp] at e
      cases e
    exact (R.cel n c a hc ha).go k ⟨[], by rw [List.append_nil]⟩ (upd_ne ha')
/-- a new cell -/
theorem Rl.cell (R : Rl K La H ρ cs) (hp : H p = none) (c : Cell) (o : HO) (hc : CellAt K (upd H p o) (Lv La (ρ ++ [p]) (cs ++ [c])) (ρ ++ [p]) p c) : Rl K La (upd H p o) (ρ ++ [p]) (cs ++ [c]) ∧ Go La H ρ cs (upd H p o) (ρ ++ [p]) (cs ++ [c]) := by
  have np : ¬ Lv La ρ cs p := fun z => by
    obtain ⟨o, e⟩ := R.tr z
    rw [hp] at e
    cases e
  have npm : p ∉ ρ := fun z => by
    obtain ⟨o, e⟩ := R.trk p z
    rw [hp] at e
    cases e
  have st : ∀ a u, H a = some u → upd H p o a = some u := fun a u h => by rw [upd_ne (ne_of_none h hp)]; exact h
  have back : ∀ a, a ≠ p → Lv La (ρ ++ [p]) (cs ++ [c]) a → Lv La ρ cs a := fun a hne h => by
    rcases h with h | ⟨n, d, h1, h2, h3⟩
    · exact .inl h
    · by_cases hn : n < ρ.length
      · rw [List.getElem?_append_left hn] at h1
        rw [List.getElem?_append_left (by have := R.len; omega)] at h2
        exact .inr ⟨n, d, h1, h2, h3⟩
      · have hm := List.mem_of_getElem? h1
        rw [List.getElem?_append_right (by omega)] at h1
        have : n - ρ.length = 0 := by
          have := (List.getElem?_eq_some_iff.mp h1).1
          simp at this
          omega
        rw [this] at h1
        exact absurd (Option.some.inj h1).symm hne
  have k : keep H (Lv La ρ cs) (upd H p o) (Lv La (ρ ++ [p]) (cs ++ [c])) := fun a u h n => ⟨st _ _ h, fun z => n (back a (ne_of_none h hp) z)⟩
  have pre : ∃ more, ρ ++ [p] = ρ ++ more := ⟨[p], rfl⟩
  refine ⟨⟨by simp [R.len], ?_, fun a h => ?_, fun a h => ?_, fun a h => ?_, fun n d a hd ha => ?_⟩, ⟨k, fun a h => upd_ne fun z => np (z ▸ .inl h), pre⟩⟩
  · rw [List.nodup_append]
    refine ⟨R.nd, by simp, fun a ha b hb z => ?_⟩
    have hb : b = p := by simpa using hb
    exact npm (hb ▸ z ▸ ha)
  · obtain ⟨u, e⟩ := R.amb a h
    exact ⟨u, st _ _ e⟩
  · rcases List.mem_append.mp h with h | h
    · exact R.dis a h
    · have h : a = p := by simpa using h
      exact fun z => np (h ▸ .inl z)
  · rcases List.mem_append.mp h with h | h
    · obtain ⟨u, e⟩ := R.trk a h
      exact ⟨u, st _ _ e⟩
    · have h : a = p := by simpa using h
      exact ⟨o, by rw [h, upd_same]⟩
  · by_cases hn : n < ρ.length
    · rw [List.getElem?_append_left hn] at ha
      rw [List.getElem?_append_left (by have := R.len; omega)] at hd
      have ha' : a ≠ p := fun z => npm (z ▸ List.mem_of_getElem? ha)
      exact (R.cel n d a hd ha).go k pre (upd_ne ha')
    · have h1 := (List.getElem?_eq_some_iff.mp ha).1
      have e0 : n = ρ.length := by simp at h1; omega
      subst e0
      have ha : p = a := by simpa using ha
      rw [R.len] at hd
      have hd : c = d := by simpa using hd
      subst ha hd
      exact hc
theorem set_alive {n m : Nat} {c d : Cell} {cs : List Cell} (hn : cs[n]? = some d) (hal : d.alive = true ∨ c.alive = false) {e : Cell} (h : (cs.set n c)[m]? = some e) (he : e.alive = true) : ∃ f, cs[m]? = some f ∧ f.alive = true := by
  by_cases hm : n = m
  · subst hm
    have hl := (List.getElem?_eq_some_iff.mp hn).1
    rw [List.getElem?_set_self hl] at h
    cases h
    rcases hal with h | h
    · exact ⟨d, hn, h⟩
    · rw [h] at he
      cases he
  · rw [List.getElem?_set_ne hm] at h
    exact ⟨e, h, he⟩
/-- a cell that lives is changed; or dies -/
theorem Rl.put (R : Rl K La H ρ cs) {n : Nat} {d c : Cell} (hd : cs[n]? = some d) (hal : d.alive = true) (ha : ρ[n]? = some p) (o : HO)
    (hc : keep H (Lv La ρ cs) (upd H p o) (Lv La ρ (cs.set n c)) → CellAt K (upd H p o) (Lv La ρ (cs.set n c)) ρ p c) : Rl K La (upd H p o) ρ (cs.set n c) ∧ Go La H ρ cs (upd H p o) ρ (cs.set n c) := by
  have lp : Lv La ρ cs p := .inr ⟨n, d, ha, hd, hal⟩
  have hl := (List.getElem?_eq_some_iff.mp hd).1
  have back : ∀ a, Lv La ρ (cs.set n c) a → Lv La ρ cs a := fun a h => by
    rcases h with h | ⟨m, e, h1, h2, h3⟩
    · exact .inl h
    · obtain ⟨f, h4, h5⟩ := set_alive hd (.inl hal) h2 h3
      exact .inr ⟨m, f, h1, h4, h5⟩
  have k : keep H (Lv La ρ cs) (upd H p o) (Lv La ρ (cs.set n c)) := fun a u h nl => ⟨by
    have hap : a ≠ p := fun z => nl (by rw [z]; exact lp)
    rw [upd_ne hap]
    exact h, fun z => nl (back a z)⟩
  have pre : ∃ more, ρ = ρ ++ more := ⟨[], by rw [List.append_nil]⟩
  refine ⟨⟨by rw [List.length_set]; exact R.len, R.nd, fun a h => ?_, R.dis, fun a h => ?_, fun m e a he hae => ?_⟩, ⟨k, fun a h => upd_ne fun z => R.dis p (List.mem_of_getElem? ha) (z ▸ h), pre⟩⟩
  · by_cases hap : a = p
    · exact ⟨o, by rw [hap, upd_same]⟩
    · obtain ⟨u, e⟩ := R.amb a h
      exact ⟨u, by rw [upd_ne hap]; exact e⟩
  · by_cases hap : a = p
    · exact ⟨o, by rw [hap, upd_same]⟩
    · obtain ⟨u, e⟩ := R.trk a h
      exact ⟨u, by rw [upd_ne hap]; exact e⟩
  · by_cases hm : n = m
    · subst hm
      rw [List.getElem?_set_self hl] at he
      cases he
      rw [ha] at hae
      cases hae
      exact hc k
    · rw [List.getElem?_set_ne hm] at he
      have hap : a ≠ p := fun z => by
        subst z
        have h1 := List.getElem?_eq_some_iff.mp ha
        have h2 := List.getElem?_eq_some_iff.mp hae
        exact hm ((List.getElem_inj R.nd).mp (h1.2.trans h2.2.symm))
      exact (R.cel m e a he hae).go k pre (upd_ne hap)
/-- a cell dies: what it held may be taken for data -/
theorem Rl.die (R : Rl K La H ρ cs) {n : Nat} {d : Cell} (hd : cs[n]? = some d) (ha : ρ[n]? = some p) : Rl K La H ρ (cs.set n .dead) ∧ Go La H ρ cs H ρ (cs.set n .dead) ∧ ¬ Lv La ρ (cs.set n .dead) p := by
  have hl := (List.getElem?_eq_some_iff.mp hd).1
  have back : ∀ a, Lv La ρ (cs.set n .dead) a → Lv La ρ cs a := fun a h => by
    rcases h with h | ⟨m, e, h1, h2, h3⟩
    · exact .inl h
    · obtain ⟨f, h4, h5⟩ := set_alive (c := .dead) hd (.inr rfl) h2 h3
      exact .inr ⟨m, f, h1, h4, h5⟩
  have k : keep H (Lv La ρ cs) H (Lv La ρ (cs.set n .dead)) := fun a u h nl => ⟨h, fun z => nl (back a z)⟩
  have pre : ∃ more, ρ = ρ ++ more := ⟨[], by rw [List.append_nil]⟩
  refine ⟨⟨by rw [List.length_set]; exact R.len, R.nd, R.amb, R.dis, R.trk, fun m e a he hae => ?_⟩, ⟨k, fun _ _ => rfl, pre⟩, ?_⟩
  · by_cases hm : n = m
    · subst hm
      rw [List.getElem?_set_self hl] at he
      cases he
      trivial
    · rw [List.getElem?_set_ne hm] at he
      exact (R.cel m e a he hae).go k pre rfl
  · rintro (h | ⟨m, e, h1, h2, h3⟩)
    · exact R.dis p (List.mem_of_getElem? ha) h
    · have e1 := List.getElem?_eq_some_iff.mp ha
      have e2 := List.getElem?_eq_some_iff.mp h1
      have hm : n = m := (List.getElem_inj R.nd).mp (e1.2.trans e2.2.symm)
      subst hm
      rw [List.getElem?_set_self hl] at h2
      cases h2
      cases h3
end
end Sm
namespace Sm
open PySem PySem.Spec PyProof.Rows L2

/-! ### what a piece of a body comes to -/
inductive Rs (α : Type) where
  | ok (a : α) (cs : List Cell)
  | ex (e : Str) (fs : List (Str × W)) (cs : List Cell)
def bnd {α β : Type} (o : Option (Rs α)) (f : α → List Cell → Option (Rs β)) : Option (Rs β) :=
  match o with
  | some (.ok a cs) => f a cs
  | some (.ex e fs cs) => some (.ex e fs cs)
  | none => none
@[simp] theorem bnd_ok {α β : Type} (a : α) (cs : List Cell) (f : α → List Cell → Option (Rs β)) : bnd (some (.ok a cs)) f = f a cs := rfl
@[simp] theorem bnd_ex {α β : Type} (e : Str) (fs : List (Str × W)) (cs : List Cell) (f : α → List Cell → Option (Rs β)) : bnd (some (.ex e fs cs)) f = some (.ex e fs cs) := rfl
@[simp] theorem bnd_none {α β : Type} (f : α → List Cell → Option (Rs β)) : bnd none f = none := rfl
abbrev Sg := List (Option W)
abbrev MS (α : Type) := Sg → List Cell → Option (Rs α)
abbrev ES := MS W
abbrev AS := MS (List W)
abbrev BS := MS Bool
/-- classes of errors by name, and what is wished where one is raised -/
structure Cg where
  cl : Str → Option Addr
  wx : WX
section
variable {α β γ δ : Type} {K : Kx} {c : Cg} {La : Addr → Prop} {σ : L2.St} {H H1 : Hp} {ρ ρ1 : List Addr} {cs cs1 : List Cell}
def Post (K : Kx) (c : Cg) (La : Addr → Prop) (σ : L2.St) (H : Hp) (ρ : List Addr) (cs : List Cell) (RR : Hp → (Addr → Prop) → List Addr → α → β → Prop) (Q : β → Hp → Prop) : Option (Rs α) → Prop
  | some (.ok a cs') => ∀ b H' ρ', Rl K La H' ρ' cs' → Go La H ρ cs H' ρ' cs' → RR H' (Lv La ρ' cs') ρ' a b → Q b H'
  | some (.ex e fs cs') => ∀ C d us H' ρ', c.cl e = some C → Rl K La H' ρ' cs' → Go La H ρ cs H' ρ' cs' → H' d = some (.xd us) → Paired (fun p q => p.1 = q.1 ∧ RW K H' (Lv La ρ' cs') ρ' p.2 q.2) fs us → c.wx (.ref C) (some d) σ H'
  | none => False
theorem Post.shift {RR : Hp → (Addr → Prop) → List Addr → α → β → Prop} {Q : β → Hp → Prop} {o : Option (Rs α)} (g : Go La H ρ cs H1 ρ1 cs1) (h : Post K c La σ H ρ cs RR Q o) : Post K c La σ H1 ρ1 cs1 RR Q o := by
  match o, h with
  | some (.ok a cs'), h => exact fun b H' ρ' R G r => h b H' ρ' R (g.trans G) r
  | some (.ex e fs cs'), h => exact fun C d us H' ρ' hc R G hd hp => h C d us H' ρ' hc R (g.trans G) hd hp
theorem Post.imp {RR : Hp → (Addr → Prop) → List Addr → α → β → Prop} {Q Q' : β → Hp → Prop} {o : Option (Rs α)} (h : Post K c La σ H ρ cs RR Q o) (i : ∀ b H', Q b H' → Q' b H') : Post K c La σ H ρ cs RR Q' o := by
  match o, h with
  | some (.ok a cs'), h => exact fun b H' ρ' R G r => i _ _ (h b H' ρ' R G r)
  | some (.ex e fs cs'), h => exact h
theorem Post.bind {RR : Hp → (Addr → Prop) → List Addr → α → β → Prop} {R2 : Hp → (Addr → Prop) → List Addr → γ → δ → Prop} {Q : δ → Hp → Prop} {o : Option (Rs α)} {f : α → List Cell → Option (Rs γ)}
    (h : Post K c La σ H ρ cs R2 Q (bnd o f)) : Post K c La σ H ρ cs RR (fun b H1 => ∃ a ρ1 cs1, Rl K La H1 ρ1 cs1 ∧ Go La H ρ cs H1 ρ1 cs1 ∧ RR H1 (Lv La ρ1 cs1) ρ1 a b ∧ Post K c La σ H1 ρ1 cs1 R2 Q (f a cs1)) o := by
  match o, h with
  | some (.ok a cs'), h => exact fun b H' ρ' R G r => ⟨a, ρ', cs', R, G, r, Post.shift G h⟩
  | some (.ex e fs cs'), h => exact h
abbrev RRw (K : Kx) : Hp → (Addr → Prop) → List Addr → W → V → Prop := fun H L ρ w v => RW K H L ρ w v
abbrev RRs (K : Kx) : Hp → (Addr → Prop) → List Addr → List W → List V → Prop := fun H L ρ w v => RWs K H L ρ w v
abbrev RRb : Hp → (Addr → Prop) → List Addr → Bool → Bool → Prop := fun _ _ _ a b => a = b
theorem Post.here {w : W} {v : V} {Q : V → Hp → Prop} (h : Post K c La σ H ρ cs (RRw K) Q (some (.ok w cs))) (R : Rl K La H ρ cs) (r : RW K H (Lv La ρ cs) ρ w v) : Q v H := h v H ρ R Go.refl r
/-- the result is a new thing -/
theorem Post.newd {d : PyData} {p : Addr} {o : HO} {Q : V → Hp → Prop} (h : Post K c La σ H ρ cs (RRw K) Q (some (.ok (.d d) cs))) (R : Rl K La H ρ cs) (hp : H p = none)
    (r : ¬ Lv La ρ cs p → keep H (Lv La ρ cs) (upd H p o) (Lv La ρ cs) → RD K (upd H p o) (Lv La ρ cs) d (.ref p)) : Q (.ref p) (upd H p o) := by
  obtain ⟨R', G', n⟩ := R.new hp o
  exact h _ _ ρ R' G' (r n G'.keep)
def RS (K : Kx) (H : Hp) (L : Addr → Prop) (ρ : List Addr) (s : Sg) (σ : L2.St) : Prop := s.length = σ.length ∧ ∀ (i : Nat) (w : W), s[i]? = some (some w) → ∃ v, σ[i]? = some (some v) ∧ RW K H L ρ w v
theorem RS.go {s : Sg} {H H' : Hp} {L L' : Addr → Prop} {ρ ρ' : List Addr} (k : keep H L H' L') (hp : ∃ more, ρ' = ρ ++ more) (h : RS K H L ρ s σ) : RS K H' L' ρ' s σ := ⟨h.1, fun i w e => by
  obtain ⟨v, h1, h2⟩ := h.2 i w e
  exact ⟨v, h1, h2.go k hp⟩⟩
theorem RS.set {s : Sg} {L : Addr → Prop} {w : W} {v : V} (h : RS K H L ρ s σ) (i : Nat) (r : RW K H L ρ w v) : RS K H L ρ (s.set i (some w)) (σ.set i (some v)) := ⟨by rw [List.length_set, List.length_set]; exact h.1, fun j u e => by
  by_cases hj : i = j
  · subst hj
    have hl : i < s.length := by
      have := (List.getElem?_eq_some_iff.mp e).1
      rw [List.length_set] at this
      exact this
    rw [List.getElem?_set_self hl] at e
    have e : w = u := Option.some.inj (Option.some.inj e)
    subst e
    exact ⟨v, List.getElem?_set_self (by rw [← h.1]; exact hl), r⟩
  · rw [List.getElem?_set_ne hj] at e
    rw [List.getElem?_set_ne hj]
    exact h.2 j u e⟩
def tE (K : Kx) (c : Cg) (m : ES) : TE := fun σ H Q => ∃ La ρ cs s, Rl K La H ρ cs ∧ RS K H (Lv La ρ cs) ρ s σ ∧ Post K c La σ H ρ cs (RRw K) Q (m s cs)
def tA (K : Kx) (c : Cg) (m : AS) : TA := fun σ H Q => ∃ La ρ cs s, Rl K La H ρ cs ∧ RS K H (Lv La ρ cs) ρ s σ ∧ Post K c La σ H ρ cs (RRs K) Q (m s cs)
def tT (K : Kx) (c : Cg) (m : BS) : TT := fun σ H Q => ∃ La ρ cs s, Rl K La H ρ cs ∧ RS K H (Lv La ρ cs) ρ s σ ∧ Post K c La σ H ρ cs RRb Q (m s cs)
end
theorem _root_.L2.PE.imp {X : Cx} {e : Expr} {t t' : TE} (h : PE X e t) (i : ∀ σ H Q, t' σ H Q → t σ H Q) : PE X e t' := ⟨fun pins s σ H Q I hw => h.run pins s σ H Q I (i σ H Q hw)⟩
theorem _root_.L2.PT.imp {X : Cx} {e : Expr} {t t' : TT} (h : PT X e t) (i : ∀ σ H Q, t' σ H Q → t σ H Q) : PT X e t' := ⟨fun pins s σ H Q I hw => h.run pins s σ H Q I (i σ H Q hw)⟩
theorem _root_.L2.PW.imp {X : Cx} {e : Expr} {t t' : TT} (h : PW X e t) (i : ∀ σ H Q, t' σ H Q → t σ H Q) : PW X e t' := ⟨fun w pins s σ H Q I hw => h.run w pins s σ H Q I (i σ H Q hw)⟩
theorem _root_.L2.PA.imp {X : Cx} {e : List Expr} {t t' : TA} (h : PA X e t) (i : ∀ σ H Q, t' σ H Q → t σ H Q) : PA X e t' := ⟨fun w pins s σ H Q I hw => h.run w pins s σ H Q I (i σ H Q hw)⟩
theorem _root_.L2.PS.imp {X : Cx} {e : Stmt} {t t' : TS} (h : PS X e t) (i : ∀ D σ H, t' D σ H → t D σ H) : PS X e t' := ⟨fun pins s σ H D I hw => h.run pins s σ H D I (i D σ H hw)⟩
theorem _root_.L2.PSs.imp {X : Cx} {e : List Stmt} {t t' : TS} (h : PSs X e t) (i : ∀ D σ H, t' D σ H → t D σ H) : PSs X e t' := ⟨fun pins s σ H D I hw => h.run pins s σ H D I (i D σ H hw)⟩

/-! ### names, constants -/
def mV (i : Nat) : ES := fun s cs => match s[i]? with
  | some (some w) => some (.ok w cs)
  | _ => none
def mC (d : PyData) : ES := fun _ cs => some (.ok (.d d) cs)
def mK (w : W) : ES := fun _ cs => some (.ok w cs)
def m1 (f : W → List Cell → Option (Rs W)) (a : ES) : ES := fun s cs => bnd (a s cs) f
def m2 (f : W → W → List Cell → Option (Rs W)) (a b : ES) : ES := fun s cs => bnd (a s cs) fun x cs => bnd (b s cs) fun y cs => f x y cs
def ret? (o : Option PyData) (cs : List Cell) : Option (Rs W) := match o with
  | some z => some (.ok (.d z) cs)
  | none => none
def dd1 (f : PyData → Option PyData) : W → List Cell → Option (Rs W)
  | .d a, cs => ret? (f a) cs
  | _, _ => none
def dd2 (f : PyData → PyData → Option PyData) : W → W → List Cell → Option (Rs W)
  | .d a, .d b, cs => ret? (f a b) cs
  | _, _, _ => none
def OpS (K : Kx) (c : Cg) (r : R2) (f : W → W → List Cell → Option (Rs W)) : Prop := ∀ (La : Addr → Prop) (σ : L2.St) (H : Hp) (ρ : List Addr) (cs : List Cell) (x y : W) (v u : V) (Q : V → Hp → Prop),
  Rl K La H ρ cs → RW K H (Lv La ρ cs) ρ x v → RW K H (Lv La ρ cs) ρ y u → Post K c La σ H ρ cs (RRw K) Q (f x y cs) → r v u H Q
def UnS (K : Kx) (c : Cg) (r : V → Hp → VK → Prop) (f : W → List Cell → Option (Rs W)) : Prop := ∀ (La : Addr → Prop) (σ : L2.St) (H : Hp) (ρ : List Addr) (cs : List Cell) (x : W) (v : V) (Q : V → Hp → Prop),
  Rl K La H ρ cs → RW K H (Lv La ρ cs) ρ x v → Post K c La σ H ρ cs (RRw K) Q (f x cs) → r v H Q
/-- a call by values -/
def CaS (K : Kx) (c : Cg) (r : List V → Hp → VK → Prop) (f : List W → List Cell → Option (Rs W)) : Prop := ∀ (La : Addr → Prop) (σ : L2.St) (H : Hp) (ρ : List Addr) (cs : List Cell) (xs : List W) (vs : List V) (Q : V → Hp → Prop),
  Rl K La H ρ cs → RWs K H (Lv La ρ cs) ρ xs vs → Post K c La σ H ρ cs (RRw K) Q (f xs cs) → r vs H Q
section
variable {K : Kx} {c : Cg} {σ : L2.St} {H : Hp} {Q : V → Hp → Prop} {ma mb mc : ES}
theorem tVar_of {i : Nat} (h : tE K c (mV i) σ H Q) : tVar i σ H Q := by
  obtain ⟨La, ρ, cs, s, R, S, h⟩ := h
  unfold mV at h
  match e : s[i]?, h with
  | some (some w), h =>
    obtain ⟨v, h1, h2⟩ := S.2 i w e
    exact ⟨v, h1, Post.here h R h2⟩
theorem tC_of {d : PyData} {v : V} (hd : ∀ H L, RD K H L d v) (h : tE K c (mC d) σ H Q) : tC v σ H Q := by
  obtain ⟨La, ρ, cs, s, R, S, h⟩ := h
  exact Post.here h R (hd _ _)
theorem tK_of {w : W} {v : V} (hd : ∀ H L ρ, RW K H L ρ w v) (h : tE K c (mK w) σ H Q) : tC v σ H Q := by
  obtain ⟨La, ρ, cs, s, R, S, h⟩ := h
  exact Post.here h R (hd _ _ _)
theorem tOp_of {r : R2} {f : W → W → List Cell → Option (Rs W)} (hs : OpS K c r f) (h : tE K c (m2 f ma mb) σ H Q) : tOp r (tE K c ma) (tE K c mb) σ H Q := by
  obtain ⟨La, ρ, cs, s, R, S, h⟩ := h
  refine ⟨La, ρ, cs, s, R, S, (Post.bind h).imp fun v H1 ⟨x, ρ1, cs1, R1, G1, r1, h1⟩ => ?_⟩
  refine ⟨La, ρ1, cs1, s, R1, S.go G1.keep G1.pre, (Post.bind h1).imp fun u H2 ⟨y, ρ2, cs2, R2, G2, r2, h2⟩ => ?_⟩
  exact hs La σ H2 ρ2 cs2 x y v u Q R2 (r1.go G2.keep G2.pre) r2 h2
theorem tUn_of {r : V → Hp → VK → Prop} {f : W → List Cell → Option (Rs W)} (hs : UnS K c r f) (h : tE K c (m1 f ma) σ H Q) : tUn r (tE K c ma) σ H Q := by
  obtain ⟨La, ρ, cs, s, R, S, h⟩ := h
  refine ⟨La, ρ, cs, s, R, S, (Post.bind h).imp fun v H1 ⟨x, ρ1, cs1, R1, G1, r1, h1⟩ => ?_⟩
  exact hs La σ H1 ρ1 cs1 x v Q R1 r1 h1
end
abbrev _root_.L2.Cx.kx (X : Cx) : Kx := ⟨X.prog, X.w, X.K⟩
section
variable {X : Cx} {c : Cg} {a b : Expr} {pos : Pos} {ma mb mc : ES}
theorem se_var (i : Nat) {x : Str} (hN : X.N[i]? = some x := by rfl) (hv : Vis X.env.scope x := by first | exact Or.inl rfl | exact Or.inr (Or.inl rfl) | exact Or.inr (Or.inr rfl)) (hd : (x == ("__debug__" : Str)) = false := by decide)
    (hcd : (x == ("__classdict__" : Str)) = false := by decide) : PE X (.Name x pos) (tE X.kx c (mV i)) := (pe_var hN hv hd hcd).imp fun _ _ _ h => tVar_of h
theorem se_int {i : Int} {j : Nat} : PE X (.Constant (.int i) j pos) (tE X.kx c (mC (.int i))) := pe_int.imp fun _ _ _ h => tC_of (d := .int i) (fun _ _ => rfl) h
theorem se_bl {i : Bool} {j : Nat} : PE X (.Constant (.bool i) j pos) (tE X.kx c (mC (.bool i))) := pe_bl.imp fun _ _ _ h => tC_of (d := .bool i) (fun _ _ => rfl) h
theorem se_non {j : Nat} : PE X (.Constant .none j pos) (tE X.kx c (mC .none)) := pe_non.imp fun _ _ _ h => tC_of (d := .none) (fun _ _ => rfl) h
theorem se_str {i : Str} {j : Nat} : PE X (.Constant (.str i) j pos) (tE X.kx c (mC (.str i))) := pe_str.imp fun _ _ _ h => tC_of (d := .str i) (fun _ _ => rfl) h
theorem se_glob {x : Str} {d : PyData} {v : V} {u : Value} (hg : Gl X x) (hm : X.mg x = some u) (r : RelV v u) (hd : ∀ H L, RD X.kx H L d v) (hb : (x == ("__debug__" : Str)) = false := by decide) : PE X (.Name x pos) (tE X.kx c (mC d)) :=
  (pe_glob hg hm r hb).imp fun _ _ _ h => tC_of hd h
theorem se_globk {x : Str} {w : W} {v : V} {u : Value} (hg : Gl X x) (hm : X.mg x = some u) (r : RelV v u) (hd : ∀ H L ρ, RW X.kx H L ρ w v) (hb : (x == ("__debug__" : Str)) = false := by decide) : PE X (.Name x pos) (tE X.kx c (mK w)) :=
  (pe_glob hg hm r hb).imp fun _ _ _ h => tK_of hd h
theorem se_op {op : Operator} {r : R2} {f : W → W → List Cell → Option (Rs W)} (ho : OpR X (binaryOp op) r) (hs : OpS X.kx c r f) (ha : PE X a (tE X.kx c ma)) (hb : PE X b (tE X.kx c mb)) : PE X (.BinOp a op b pos) (tE X.kx c (m2 f ma mb)) :=
  (pe_op ho ha hb).imp fun _ _ _ h => tOp_of hs h
theorem se_un {op : UnaryOp} {r : V → Hp → VK → Prop} {f : W → List Cell → Option (Rs W)} (ho : UnR X (unaryOp op) r) (hs : UnS X.kx c r f) (ha : PE X a (tE X.kx c ma)) : PE X (.UnaryOp op a pos) (tE X.kx c (m1 f ma)) :=
  (pe_un ho ha).imp fun _ _ _ h => tUn_of hs h
theorem se_cmp {op : CmpOp} {r : R2} {f : W → W → List Cell → Option (Rs W)} (ho : OpR X (compareOp op) r) (hs : OpS X.kx c r f) (ha : PE X a (tE X.kx c ma)) (hb : PE X b (tE X.kx c mb)) (hm : behindInMarks op b = false) : PE X (.Compare a [op] [b] pos) (tE X.kx c (m2 f ma mb)) :=
  (pe_cmpR ho ha hb hm).imp fun _ _ _ h => tOp_of hs h
theorem se_ix {r : R2} {f : W → W → List Cell → Option (Rs W)} (ho : IxR X r) (hs : OpS X.kx c r f) (ha : PE X a (tE X.kx c ma)) (hb : PE X b (tE X.kx c mb)) (hp : PlainIx b) : PE X (.Subscript a b pos) (tE X.kx c (m2 f ma mb)) :=
  (pe_ix ho ha hb hp).imp fun _ _ _ h => tOp_of hs h
end

/-! ### operators on data -/
/-- shape of an operator's soundness on data that makes nothing new -/
theorem ops_data {K : Kx} {c : Cg} {r : R2} {f : PyData → PyData → Option PyData}
    (h : ∀ (La : Addr → Prop) (H : Hp) (ρ : List Addr) (cs : List Cell) (a b z : PyData) (v u : V) (Q : V → Hp → Prop), Rl K La H ρ cs → RD K H (Lv La ρ cs) a v → RD K H (Lv La ρ cs) b u → f a b = some z →
      (∀ t H', (∀ a o, H a = some o → H' a = some o) → (Rl K La H' ρ cs ∧ Go La H ρ cs H' ρ cs) → RD K H' (Lv La ρ cs) z t → Q t H') → r v u H Q) : OpS K c r (dd2 f) := by
  intro La σ H ρ cs x y v u Q R rx ry q
  cases x with
  | d a =>
    cases y with
    | d b =>
      have q : Post K c La σ H ρ cs (RRw K) Q (ret? (f a b) cs) := q
      cases e : f a b with
      | none =>
        rw [e] at q
        exact False.elim q
      | some z =>
        rw [e] at q
        exact h La H ρ cs a b z v u Q R rx ry e fun t H' _ RG rt => q t H' ρ RG.1 RG.2 rt
    | r n => exact False.elim q
    | k n => exact False.elim q
  | r n => exact False.elim q
  | k n => exact False.elim q
theorem uns_data {K : Kx} {c : Cg} {r : V → Hp → VK → Prop} {f : PyData → Option PyData}
    (h : ∀ (La : Addr → Prop) (H : Hp) (ρ : List Addr) (cs : List Cell) (a z : PyData) (v : V) (Q : V → Hp → Prop), Rl K La H ρ cs → RD K H (Lv La ρ cs) a v → f a = some z →
      (∀ t H', (∀ a o, H a = some o → H' a = some o) → (Rl K La H' ρ cs ∧ Go La H ρ cs H' ρ cs) → RD K H' (Lv La ρ cs) z t → Q t H') → r v H Q) : UnS K c r (dd1 f) := by
  intro La σ H ρ cs x v Q R rx q
  cases x with
  | d a =>
    have q : Post K c La σ H ρ cs (RRw K) Q (ret? (f a) cs) := q
    cases e : f a with
    | none =>
      rw [e] at q
      exact False.elim q
    | some z =>
      rw [e] at q
      exact h La H ρ cs a z v Q R rx e fun t H' _ RG rt => q t H' ρ RG.1 RG.2 rt
  | r n => exact False.elim q
  | k n => exact False.elim q
theorem same_here {K : Kx} {La : Addr → Prop} {H : Hp} {ρ : List Addr} {cs : List Cell} (R : Rl K La H ρ cs) : Rl K La H ρ cs ∧ Go La H ρ cs H ρ cs := ⟨R, Go.refl⟩
theorem grown {H : Hp} {p : Addr} {o : HO} (hp : H p = none) : ∀ a u, H a = some u → upd H p o a = some u := fun a u h => by rw [upd_ne (ne_of_none h hp)]; exact h
/-- two ints -/
def fI (C : Int → Int → Bool) (g : Int → Int → Int) : PyData → PyData → Option PyData
  | .int i, .int j => if C i j = true then some (.int (g i j)) else none
  | _, _ => none
def fB (g : Int → Int → Bool) : PyData → PyData → Option PyData
  | .int i, .int j => some (.bool (g i j))
  | _, _ => none
theorem fI_some {C : Int → Int → Bool} {g : Int → Int → Int} {a b z : PyData} (h : fI C g a b = some z) : ∃ i j, a = .int i ∧ b = .int j ∧ C i j = true ∧ z = .int (g i j) := by
  unfold fI at h
  split at h
  · split at h
    · exact ⟨_, _, rfl, rfl, ‹_›, (Option.some.inj h).symm⟩
    · cases h
  · cases h
theorem fB_some {g : Int → Int → Bool} {a b z : PyData} (h : fB g a b = some z) : ∃ i j, a = .int i ∧ b = .int j ∧ z = .bool (g i j) := by
  unfold fB at h
  split at h
  · exact ⟨_, _, rfl, rfl, (Option.some.inj h).symm⟩
  · cases h
section
variable {K : Kx} {c : Cg}
theorem os_I {C : Int → Int → Prop} {C' : Int → Int → Bool} {g : Int → Int → Int} (hC : ∀ i j, C' i j = true → C i j) : OpS K c (rI C fun i j => .int (g i j)) (dd2 (fI C' g)) := ops_data fun La H ρ cs a b z v u Q R ra rb e q => by
  obtain ⟨i, j, rfl, rfl, hc, rfl⟩ := fI_some e
  exact ⟨i, j, ra, rb, hC i j hc, q _ H (fun _ _ h => h) (same_here R) rfl⟩
theorem os_I0 {g : Int → Int → Int} : OpS K c (rI0 fun i j => .int (g i j)) (dd2 (fI (fun _ _ => true) g)) := ops_data fun La H ρ cs a b z v u Q R ra rb e q => by
  obtain ⟨i, j, rfl, rfl, hc, rfl⟩ := fI_some e
  exact ⟨i, j, ra, rb, q _ H (fun _ _ h => h) (same_here R) rfl⟩
theorem os_B0 {g : Int → Int → Bool} : OpS K c (rI0 fun i j => .bl (g i j)) (dd2 (fB g)) := ops_data fun La H ρ cs a b z v u Q R ra rb e q => by
  obtain ⟨i, j, rfl, rfl, rfl⟩ := fB_some e
  exact ⟨i, j, ra, rb, q _ H (fun _ _ h => h) (same_here R) rfl⟩
end
def cDiv (i j : Int) : Bool := decide (0 < j ∧ j.natAbs.log2 < 9000)
def cMod (i j : Int) : Bool := decide (0 < j)
def cMul (i j : Int) : Bool := decide ((-(2 ^ 64) < i ∧ i < 2 ^ 64) ∨ (-(2 ^ 64) < j ∧ j < 2 ^ 64))
def cPow (i j : Int) : Bool := decide (0 ≤ j ∧ j ≤ 1000000 ∧ i.natAbs < 2 ^ 64)
def cShr (i j : Int) : Bool := decide (0 ≤ j)
abbrev fSub := fI (fun _ _ => true) fun i j => i - j
abbrev fDiv := fI cDiv fun i j => i / j
abbrev fMod := fI cMod fun i j => i % j
abbrev fPow := fI cPow fun i j => i ^ j.toNat
abbrev fShl := fI cPow fun i j => i * 2 ^ j.toNat
abbrev fShr := fI cShr fun i j => i / 2 ^ j.toNat
abbrev fAnd := fI (fun _ _ => true) Builtin.bitAnd
abbrev fOr := fI (fun _ _ => true) Builtin.bitOr
abbrev fXor := fI (fun _ _ => true) Builtin.bitXor
section
variable {X : Cx} {c : Cg} {a b : Expr} {pos : Pos} {ma mb mc : ES}
theorem se_sub (ha : PE X a (tE X.kx c ma)) (hb : PE X b (tE X.kx c mb)) : PE X (.BinOp a .Sub b pos) (tE X.kx c (m2 (dd2 fSub) ma mb)) := se_op op_sub os_I0 ha hb
theorem se_div (ha : PE X a (tE X.kx c ma)) (hb : PE X b (tE X.kx c mb)) : PE X (.BinOp a .FloorDiv b pos) (tE X.kx c (m2 (dd2 fDiv) ma mb)) := se_op op_fdivW (os_I fun i j h => (show CDivW i j from (of_decide_eq_true h : 0 < j ∧ j.natAbs.log2 < 9000))) ha hb
theorem se_mod (ha : PE X a (tE X.kx c ma)) (hb : PE X b (tE X.kx c mb)) : PE X (.BinOp a .Mod b pos) (tE X.kx c (m2 (dd2 fMod) ma mb)) := se_op op_mod (os_I fun _ _ h => of_decide_eq_true h) ha hb
theorem se_pow (ha : PE X a (tE X.kx c ma)) (hb : PE X b (tE X.kx c mb)) : PE X (.BinOp a .Pow b pos) (tE X.kx c (m2 (dd2 fPow) ma mb)) := se_op op_pow (os_I fun i j h => (show CPow i j from (of_decide_eq_true h : 0 ≤ j ∧ j ≤ 1000000 ∧ i.natAbs < 2 ^ 64))) ha hb
theorem se_shl (ha : PE X a (tE X.kx c ma)) (hb : PE X b (tE X.kx c mb)) : PE X (.BinOp a .LShift b pos) (tE X.kx c (m2 (dd2 fShl) ma mb)) := se_op op_shl (os_I fun i j h => (show CPow i j from (of_decide_eq_true h : 0 ≤ j ∧ j ≤ 1000000 ∧ i.natAbs < 2 ^ 64))) ha hb
theorem se_shr (ha : PE X a (tE X.kx c ma)) (hb : PE X b (tE X.kx c mb)) : PE X (.BinOp a .RShift b pos) (tE X.kx c (m2 (dd2 fShr) ma mb)) := se_op op_shr (os_I fun _ _ h => of_decide_eq_true h) ha hb
theorem se_and (ha : PE X a (tE X.kx c ma)) (hb : PE X b (tE X.kx c mb)) : PE X (.BinOp a .BitAnd b pos) (tE X.kx c (m2 (dd2 fAnd) ma mb)) := se_op op_and os_I0 ha hb
theorem se_or (ha : PE X a (tE X.kx c ma)) (hb : PE X b (tE X.kx c mb)) : PE X (.BinOp a .BitOr b pos) (tE X.kx c (m2 (dd2 fOr) ma mb)) := se_op op_or os_I0 ha hb
theorem se_xor (ha : PE X a (tE X.kx c ma)) (hb : PE X b (tE X.kx c mb)) : PE X (.BinOp a .BitXor b pos) (tE X.kx c (m2 (dd2 fXor) ma mb)) := se_op op_xor os_I0 ha hb
end
/-! + : ints, texts, tuples, lists -/
def fAdd : PyData → PyData → Option PyData
  | .int i, .int j => some (.int (i + j))
  | .str a, .str b => if a.length + b.length ≤ sizeLine then some (.str (a ++ b)) else none
  | .tuple a, .tuple b => if a.length + b.length ≤ sizeLine then some (.tuple (a ++ b)) else none
  | .list a, .list b => if a.length + b.length ≤ sizeLine then some (.list (a ++ b)) else none
  | _, _ => none
section
variable {K : Kx} {c : Cg}
abbrev rAddAll (K : PySem.W.Frag) : R2 := fun x y H Q => rI0 (fun i j => .int (i + j)) x y H Q ∨ (∃ i j, x = .str i ∧ y = .str j ∧ i.length + j.length ≤ sizeLine ∧ Q (.str (i ++ j)) H) ∨ rCatA K x y H Q ∨ rCat x y H Q
theorem os_add : OpS K c (rAddAll K.K) (dd2 fAdd) := ops_data fun La H ρ cs a b z v u Q R ra rb e q => by
  unfold fAdd at e
  split at e
  · cases e
    exact .inl ⟨_, _, ra, rb, q _ H (fun _ _ h => h) (same_here R) rfl⟩
  · split at e
    · cases e
      exact .inr (.inl ⟨_, _, ra, rb, ‹_›, q _ H (fun _ _ h => h) (same_here R) rfl⟩)
    · cases e
  · split at e
    · cases e
      rename_i x y hl
      obtain ⟨p, xs, rfl, f1, r1⟩ := ra
      obtain ⟨p2, ys, rfl, f2, r2⟩ := rb
      refine .inr (.inr (.inl ⟨p, p2, xs, ys, rfl, rfl, f1.sq, f2.sq, by rw [r1.length, r2.length]; exact hl, fun e => ?_, fun e1 e => ?_, fun e1 e2 n hn => ?_⟩))
      · refine q _ H (fun _ _ h => h) (same_here R) ?_
        have e0 := r1.nil_iff.mpr e
        subst e0
        exact ⟨p2, ys, rfl, f2, r2⟩
      · refine q _ H (fun _ _ h => h) (same_here R) ?_
        have e0 := r2.nil_iff.mpr e
        subst e0
        rw [List.append_nil]
        exact ⟨p, xs, rfl, f1, r1⟩
      · obtain ⟨R', G', nl⟩ := R.new hn (.tup (xs ++ ys))
        exact q _ _ (grown hn) ⟨R', G'⟩ ⟨n, _, rfl, .inl ⟨upd_same, nl⟩, (r1.append r2).go G'.keep⟩
    · cases e
  · split at e
    · cases e
      rename_i x y hl
      obtain ⟨p, xs, rfl, f1, g1, r1⟩ := ra
      obtain ⟨p2, ys, rfl, f2, g2, r2⟩ := rb
      refine .inr (.inr (.inr ⟨p, p2, xs, ys, rfl, rfl, f1, f2, by rw [r1.length, r2.length]; exact hl, fun n hn => ?_⟩))
      obtain ⟨R', G', nl⟩ := R.new hn (.lst (xs ++ ys))
      exact q _ _ (grown hn) ⟨R', G'⟩ ⟨n, _, rfl, upd_same, nl, (r1.append r2).go G'.keep⟩
    · cases e
  · cases e
end
theorem se_add {X : Cx} {c : Cg} {a b : Expr} {pos : Pos} {ma mb : ES} (ha : PE X a (tE X.kx c ma)) (hb : PE X b (tE X.kx c mb)) : PE X (.BinOp a .Add b pos) (tE X.kx c (m2 (dd2 fAdd) ma mb)) :=
  se_op (op_add.or (op_add_str.or (op_catA.or op_cat))) os_add ha hb
/-! == and != -/
def eqD (a b : PyData) : Option Bool := match a, b with
  | .str x, .str y => some (x == y)
  | a, b => if SeqAt.shaped a = true ∧ SeqAt.shaped b = true then some (PyData.eqv a b) else none
def fEq (a b : PyData) : Option PyData := (eqD a b).map .bool
def fNe (a b : PyData) : Option PyData := (eqD a b).map fun k => .bool (!k)
theorem eqD_cases {a b : PyData} {k : Bool} (h : eqD a b = some k) : (∃ x y, a = .str x ∧ b = .str y ∧ k = (x == y)) ∨ (SeqAt.shaped a = true ∧ SeqAt.shaped b = true ∧ k = PyData.eqv a b) := by
  unfold eqD at h
  split at h
  · exact .inl ⟨_, _, rfl, rfl, (Option.some.inj h).symm⟩
  · split at h
    · exact .inr ⟨(‹_ ∧ _›).1, (‹_ ∧ _›).2, (Option.some.inj h).symm⟩
    · cases h
section
variable {K : Kx} {c : Cg}
theorem os_eq : OpS K c (fun x y H Q => rEq x y H Q ∨ rEqD K.K x y H Q) (dd2 fEq) := ops_data fun La H ρ cs a b z v u Q R ra rb e q => by
  unfold fEq at e
  match h : eqD a b, e with
  | some k, e =>
    cases e
    have q' := q (.bl k) H (fun _ _ h => h) (same_here R) rfl
    rcases eqD_cases h with ⟨x, y, rfl, rfl, rfl⟩ | ⟨h1, h2, rfl⟩
    · have ra : v = .str x := ra
      have rb : u = .str y := rb
      subst ra rb
      refine .inl ⟨rfl, ?_⟩
      rw [dec_str]
      exact q'
    · exact .inr ⟨a, b, RD.dp a (SeqAt.canLay_of_shaped h1) ra, RD.dp b (SeqAt.canLay_of_shaped h2) rb, h1, h2, q'⟩
theorem os_ne : OpS K c (fun x y H Q => rNe x y H Q ∨ rNeD K.K x y H Q) (dd2 fNe) := ops_data fun La H ρ cs a b z v u Q R ra rb e q => by
  unfold fNe at e
  match h : eqD a b, e with
  | some k, e =>
    cases e
    have q' := q (.bl (!k)) H (fun _ _ h => h) (same_here R) rfl
    rcases eqD_cases h with ⟨x, y, rfl, rfl, rfl⟩ | ⟨h1, h2, rfl⟩
    · have ra : v = .str x := ra
      have rb : u = .str y := rb
      subst ra rb
      refine .inl ⟨rfl, ?_⟩
      rw [dec_str]
      exact q'
    · exact .inr ⟨a, b, RD.dp a (SeqAt.canLay_of_shaped h1) ra, RD.dp b (SeqAt.canLay_of_shaped h2) rb, h1, h2, q'⟩
end
end Sm
namespace Sm
open PySem PySem.Spec PyProof.Rows L2

theorem se_eq {X : Cx} {c : Cg} {a b : Expr} {pos : Pos} {ma mb : ES} {k : Nat} (hr : Room k X.A) (ha : PE X a (tE X.kx c ma)) (hb : PE X b (tE X.kx c mb)) : PE X (.Compare a [.Eq] [b] pos) (tE X.kx c (m2 (dd2 fEq) ma mb)) :=
  se_cmp (op_eq.or (op_eqD hr.units)) os_eq ha hb (nomark _)
theorem se_ne {X : Cx} {c : Cg} {a b : Expr} {pos : Pos} {ma mb : ES} {k : Nat} (hr : Room k X.A) (ha : PE X a (tE X.kx c ma)) (hb : PE X b (tE X.kx c mb)) : PE X (.Compare a [.NotEq] [b] pos) (tE X.kx c (m2 (dd2 fNe) ma mb)) :=
  se_cmp (op_ne.or (op_neD hr.units)) os_ne ha hb (nomark _)
section
variable {X : Cx} {c : Cg} {a b : Expr} {pos : Pos} {ma mb mc : ES}
abbrev fLt := fB fun i j => decide (i < j)
abbrev fLe := fB fun i j => decide (i ≤ j)
abbrev fGt := fB fun i j => decide (j < i)
abbrev fGe := fB fun i j => decide (j ≤ i)
theorem se_lt (ha : PE X a (tE X.kx c ma)) (hb : PE X b (tE X.kx c mb)) : PE X (.Compare a [.Lt] [b] pos) (tE X.kx c (m2 (dd2 fLt) ma mb)) := se_cmp op_lt os_B0 ha hb (nomark _)
theorem se_le (ha : PE X a (tE X.kx c ma)) (hb : PE X b (tE X.kx c mb)) : PE X (.Compare a [.LtE] [b] pos) (tE X.kx c (m2 (dd2 fLe) ma mb)) := se_cmp op_le os_B0 ha hb (nomark _)
theorem se_gt (ha : PE X a (tE X.kx c ma)) (hb : PE X b (tE X.kx c mb)) : PE X (.Compare a [.Gt] [b] pos) (tE X.kx c (m2 (dd2 fGt) ma mb)) := se_cmp op_gt os_B0 ha hb (nomark _)
theorem se_ge (ha : PE X a (tE X.kx c ma)) (hb : PE X b (tE X.kx c mb)) : PE X (.Compare a [.GtE] [b] pos) (tE X.kx c (m2 (dd2 fGe) ma mb)) := se_cmp op_ge os_B0 ha hb (nomark _)
end
/-! * -/
abbrev fMul := fI cMul fun i j => i * j
theorem se_mul {X : Cx} {c : Cg} {a b : Expr} {pos : Pos} {ma mb : ES} (ha : PE X a (tE X.kx c ma)) (hb : PE X b (tE X.kx c mb)) : PE X (.BinOp a .Mult b pos) (tE X.kx c (m2 (dd2 fMul) ma mb)) :=
  se_op op_mul (os_I fun i j h => (show CMul i j from (of_decide_eq_true h : (-(2 ^ 64) < i ∧ i < 2 ^ 64) ∨ (-(2 ^ 64) < j ∧ j < 2 ^ 64)))) ha hb
/-! -a, ~a -/
def fU (g : Int → Int) : PyData → Option PyData
  | .int i => some (.int (g i))
  | _ => none
theorem us_U {K : Kx} {c : Cg} {g : Int → Int} : UnS K c (rU fun i => .int (g i)) (dd1 (fU g)) := uns_data fun La H ρ cs a z v Q R ra e q => by
  unfold fU at e
  split at e
  · cases e
    exact ⟨_, ra, q _ H (fun _ _ h => h) (same_here R) rfl⟩
  · cases e
theorem se_neg {X : Cx} {c : Cg} {a : Expr} {pos : Pos} {ma : ES} (ha : PE X a (tE X.kx c ma)) : PE X (.UnaryOp .USub a pos) (tE X.kx c (m1 (dd1 (fU fun i => -i)) ma)) := se_un un_neg us_U ha
theorem se_inv {X : Cx} {c : Cg} {a : Expr} {pos : Pos} {ma : ES} (ha : PE X a (tE X.kx c ma)) : PE X (.UnaryOp .Invert a pos) (tE X.kx c (m1 (dd1 (fU Builtin.bitNot)) ma)) := se_un un_inv us_U ha
/-! is None -/
def fIsN (neg : Bool) : W → W → List Cell → Option (Rs W)
  | .d .none, .d .none, cs => some (.ok (.d (.bool (!neg))) cs)
  | _, .d .none, cs => some (.ok (.d (.bool neg)) cs)
  | _, _, _ => none
theorem RW.not_non {K : Kx} {H : Hp} {L : Addr → Prop} {ρ : List Addr} {w : W} {v : V} (h : RW K H L ρ w v) (hw : w ≠ .d .none) : v ≠ .non := by
  intro hv
  subst hv
  cases w with
  | r n =>
    obtain ⟨_, _, h⟩ := h
    cases h
  | k n =>
    obtain ⟨_, _, h, _⟩ := h
    cases h
  | d x =>
    cases x with
    | none => exact hw rfl
    | bool b => exact V.noConfusion (show V.non = .bl b from h)
    | int b => exact V.noConfusion (show V.non = .int b from h)
    | str b => exact V.noConfusion (show V.non = .str b from h)
    | list ds =>
      obtain ⟨_, _, h, _⟩ := h
      cases h
    | tuple ds =>
      obtain ⟨_, _, h, _⟩ := h
      cases h
    | dict ds =>
      obtain ⟨_, _, h, _⟩ := h
      cases h
theorem fIsN_some {neg : Bool} {x y : W} {cs : List Cell} : (y = .d .none ∧ x = .d .none ∧ fIsN neg x y cs = some (.ok (.d (.bool (!neg))) cs)) ∨ (y = .d .none ∧ x ≠ .d .none ∧ fIsN neg x y cs = some (.ok (.d (.bool neg)) cs)) ∨ fIsN neg x y cs = none := by
  unfold fIsN
  split
  · exact .inl ⟨rfl, rfl, rfl⟩
  · rename_i h
    exact .inr (.inl ⟨rfl, fun z => h z, rfl⟩)
  · exact .inr (.inr rfl)
section
variable {K : Kx} {c : Cg}
theorem os_isN : OpS K c (fun x y H Q => y = .non ∧ Q (.bl (decide (x = .non))) H) (fIsN false) := by
  intro La σ H ρ cs x y v u Q R rx ry q
  rcases fIsN_some (neg := false) (x := x) (y := y) (cs := cs) with ⟨rfl, rfl, e⟩ | ⟨rfl, hx, e⟩ | e
  · rw [e] at q
    have hv : v = .non := rx
    subst hv
    exact ⟨ry, Post.here q R rfl⟩
  · rw [e] at q
    refine ⟨ry, ?_⟩
    rw [decide_eq_false (rx.not_non hx)]
    exact Post.here q R rfl
  · rw [e] at q
    exact False.elim q
theorem os_notN : OpS K c (fun x y H Q => y = .non ∧ Q (.bl (!decide (x = .non))) H) (fIsN true) := by
  intro La σ H ρ cs x y v u Q R rx ry q
  rcases fIsN_some (neg := true) (x := x) (y := y) (cs := cs) with ⟨rfl, rfl, e⟩ | ⟨rfl, hx, e⟩ | e
  · rw [e] at q
    have hv : v = .non := rx
    subst hv
    exact ⟨ry, Post.here q R rfl⟩
  · rw [e] at q
    refine ⟨ry, ?_⟩
    rw [decide_eq_false (rx.not_non hx)]
    exact Post.here q R rfl
  · rw [e] at q
    exact False.elim q
end
section
variable {X : Cx} {c : Cg} {a b : Expr} {pos : Pos} {ma mb mc : ES}
theorem se_is (ha : PE X a (tE X.kx c ma)) (hb : PE X b (tE X.kx c mb)) : PE X (.Compare a [.Is] [b] pos) (tE X.kx c (m2 (fIsN false) ma mb)) := se_cmp op_isN os_isN ha hb (nomark _)
theorem se_isnot (ha : PE X a (tE X.kx c ma)) (hb : PE X b (tE X.kx c mb)) : PE X (.Compare a [.IsNot] [b] pos) (tE X.kx c (m2 (fIsN true) ma mb)) := se_cmp op_notN os_notN ha hb (nomark _)
end
/-! ### lists and tuples as rows of values -/
def asL : W → List Cell → Option (List W)
  | .d (.list ds), _ => some (ds.map .d)
  | .r n, cs => match cs[n]? with
    | some (.lst ws) => some ws
    | _ => none
  | .k ds, _ => some (ds.map .d)
  | _, _ => none
def asT : W → Option (List W)
  | .d (.tuple ds) => some (ds.map .d)
  | _ => none
def toD : List W → Option (List PyData)
  | [] => some []
  | .d x :: r => match toD r with
    | some ds => some (x :: ds)
    | none => none
  | _ :: _ => none
theorem toD_map : ∀ {ws : List W} {ds : List PyData}, toD ws = some ds → ws = ds.map .d
  | [], _, h => by
    cases h
    rfl
  | .d x :: r, _, h => by
    unfold toD at h
    match e : toD r, h with
    | some es, h =>
      cases h
      rw [toD_map e]
      rfl
  | .r _ :: _, _, h => nomatch h
  | .k _ :: _, _, h => nomatch h
@[simp] theorem toD_of : ∀ (ds : List PyData), toD (ds.map .d) = some ds
  | [] => rfl
  | d :: ds => by
    show (match toD (ds.map .d) with
      | some es => some (d :: es)
      | none => none) = _
    rw [toD_of ds]
section
variable {K : Kx} {La : Addr → Prop} {H : Hp} {ρ : List Addr} {cs : List Cell} {w : W} {v : V} {ws : List W}
theorem asL_ok (R : Rl K La H ρ cs) (r : RW K H (Lv La ρ cs) ρ w v) (h : asL w cs = some ws) : ∃ a vs, v = .ref a ∧ SqL K.K H a vs ∧ RWs K H (Lv La ρ cs) ρ ws vs := by
  unfold asL at h
  split at h
  · cases h
    obtain ⟨a, xs, rfl, h1, h2, h3⟩ := r
    exact ⟨a, xs, rfl, .inl (.inl h1), RWs.data h3⟩
  · split at h
    · cases h
      obtain ⟨a, h1, rfl⟩ := r
      obtain ⟨vs, h2, h3⟩ := R.cel _ _ a ‹_› h1
      exact ⟨a, vs, rfl, .inl (.inl h2), h3⟩
    · cases h
  · cases h
    obtain ⟨a, xs, rfl, h1, h3⟩ := r
    exact ⟨a, xs, rfl, h1.sq, RWs.data h3⟩
  · cases h
theorem asT_ok (r : RW K H (Lv La ρ cs) ρ w v) (h : asT w = some ws) : ∃ a vs, v = .ref a ∧ SqT K.K H a vs ∧ RWs K H (Lv La ρ cs) ρ ws vs := by
  unfold asT at h
  split at h
  · cases h
    obtain ⟨a, xs, rfl, h1, h3⟩ := r
    exact ⟨a, xs, rfl, h1.sq, RWs.data h3⟩
  · cases h
theorem RWs.len {L : Addr → Prop} {vs : List V} (h : RWs K H L ρ ws vs) : ws.length = vs.length := Paired.length h
theorem RWs.at {L : Addr → Prop} {vs : List V} {i : Int} (h : RWs K H L ρ ws vs) (e : atI ws i = some w) : ∃ v, atI vs i = some v ∧ RW K H L ρ w v := by
  unfold atI at e
  cases hn : ixN ws.length i with
  | none =>
    rw [hn] at e
    cases e
  | some j =>
    rw [hn] at e
    obtain ⟨v, h1, h2⟩ := h.get (i := j) e
    refine ⟨v, ?_, h2⟩
    unfold atI
    rw [← h.len, hn]
    exact h1
end
/-! dicts by keys -/
section
variable {κ : Type} [DecidableEq κ]
def valW (kvs : List (κ × W)) (k : κ) : Option W := (kvs.find? fun kv => decide (kv.1 = k)).map (·.2)
def putW (kvs : List (κ × W)) (k : κ) (v : W) : List (κ × W) :=
  if (kvs.any fun kv => decide (kv.1 = k)) = true then kvs.map (fun kv => if kv.1 = k then (kv.1, v) else kv) else kvs ++ [(k, v)]
variable {K : Kx} {H : Hp} {L : Addr → Prop} {ρ : List Addr}
abbrev PW2 (K : Kx) (H : Hp) (L : Addr → Prop) (ρ : List Addr) (kvs : List (κ × W)) (us : List (κ × V)) : Prop := Paired (fun p q => p.1 = q.1 ∧ RW K H L ρ p.2 q.2) kvs us
theorem valW_ok {k : κ} : ∀ {kvs : List (κ × W)} {us : List (κ × V)}, PW2 K H L ρ kvs us → (∀ w, valW kvs k = some w → ∃ v, valV us k = some v ∧ RW K H L ρ w v) ∧ (valW kvs k = none → valV us k = none)
  | _, _, .nil => ⟨fun w h => (nomatch h), fun _ => rfl⟩
  | _, _, .cons (a := p) (b := q) r t => by
    have ih := valW_ok (k := k) t
    by_cases e : p.1 = k
    · have e2 : q.1 = k := r.1 ▸ e
      refine ⟨fun w h => ?_, fun h => ?_⟩
      · simp only [valW, List.find?_cons, e, decide_true] at h
        cases h
        exact ⟨q.2, valV_pos e2, r.2⟩
      · simp only [valW, List.find?_cons, e, decide_true] at h
        cases h
    · have e2 : ¬ q.1 = k := r.1 ▸ e
      refine ⟨fun w h => ?_, fun h => ?_⟩
      · simp only [valW, List.find?_cons, e, decide_false] at h
        rw [valV_neg e2]
        exact ih.1 w h
      · simp only [valW, List.find?_cons, e, decide_false] at h
        rw [valV_neg e2]
        exact ih.2 h
theorem any_ok {k : κ} : ∀ {kvs : List (κ × W)} {us : List (κ × V)}, PW2 K H L ρ kvs us → (kvs.any fun kv => decide (kv.1 = k)) = us.any fun kv => decide (kv.1 = k)
  | _, _, .nil => rfl
  | _, _, .cons r t => by
    rw [List.any_cons, List.any_cons, any_ok t, r.1]
theorem map_ok {k : κ} {w : W} {v : V} (rw : RW K H L ρ w v) : ∀ {kvs : List (κ × W)} {us : List (κ × V)}, PW2 K H L ρ kvs us → PW2 K H L ρ (kvs.map fun kv => if kv.1 = k then (kv.1, w) else kv) (us.map fun kv => if kv.1 = k then (kv.1, v) else kv)
  | _, _, .nil => .nil
  | _, _, .cons (a := p) (b := q) r t => by
    refine .cons ?_ (map_ok rw t)
    by_cases e : p.1 = k
    · have e2 : q.1 = k := r.1 ▸ e
      simp only [e, e2, if_true]
      exact ⟨trivial, rw⟩
    · have e2 : ¬ q.1 = k := r.1 ▸ e
      simp only [e, e2, if_false]
      exact r
theorem putW_ok {k : κ} {w : W} {v : V} {kvs : List (κ × W)} {us : List (κ × V)} (h : PW2 K H L ρ kvs us) (rw : RW K H L ρ w v) : PW2 K H L ρ (putW kvs k w) (putK us k v) := by
  unfold putW putK
  rw [any_ok h]
  split
  · exact map_ok rw h
  · exact Paired.snoc h ⟨rfl, rw⟩
end
theorem keyOf_ok {K : Kx} {H : Hp} {L : Addr → Prop} {d : PyData} {v : V} {k : Key} (h : RD K H L d v) (e : keyOf d = some k) : v = kV k := by
  unfold keyOf at e
  split at e
  · cases e
    exact h
  · cases e
    exact h
  · cases e
/-! a[i] -/
def fIx (w i : W) (cs : List Cell) : Option (Rs W) :=
  match w, i with
  | .d (.str z), .d (.int i) => if z.length ≤ sizeLine then (match atI z.cps.toList i with
    | some c => some (.ok (.d (.str ⟨#[c]⟩)) cs)
    | none => none) else none
  | w, .d (.int i) => match asL w cs with
    | some ws => (match atI ws i with
      | some x => some (.ok x cs)
      | none => none)
    | none => match asT w with
      | some ws => (match atI ws i with
        | some x => some (.ok x cs)
        | none => none)
      | none => match w with
        | .r n => (match cs[n]? with
          | some (.dK kvs) => (match valW kvs (Sum.inl i : Key) with
            | some x => some (.ok x cs)
            | none => none)
          | _ => none)
        | _ => none
  | .r n, .d (.str z) => (match cs[n]? with
    | some (.dK kvs) => (match valW kvs (Sum.inr z : Key) with
      | some x => some (.ok x cs)
      | none => none)
    | _ => none)
  | _, _ => none
abbrev rDIx : R2 := fun x y H Q => ∃ a v, x = .ref a ∧ DGet H a y (some v) ∧ Q v H
theorem ix_dict {X : Cx} (hu : X.A.units + 1 < cLine) : IxR X rDIx := by
  intro value slice pins s σ H x y v u Q I rx ry h hs
  obtain ⟨a, z, rfl, g, q⟩ := h
  obtain rfl : v = Value.ref a := rx
  exact tail_any (dict_typeIs I g) PySem.F.slot_dict_getitem.lookup (d_getItem hu I g ry fun w' s' I' rw' => ⟨z, H, I', rw', q⟩) hs
abbrev rIxAll (K : PySem.W.Frag) : R2 := fun x y H Q => rIx K x y H Q ∨ rDIx x y H Q
theorem os_ix {K : Kx} {c : Cg} : OpS K c (rIxAll K.K) fIx := by
  intro La σ H ρ cs x y v u Q R rx ry q
  unfold fIx at q
  split at q
  · rename_i z i
    split at q
    · split at q
      · have rx : v = .str z := rx
        have ry : u = .int i := ry
        subst rx ry
        exact .inl (.inr (.inr ⟨_, _, _, rfl, rfl, ‹_›, ‹_›, Post.here q R rfl⟩))
      · exact False.elim q
    · exact False.elim q
  · rename_i i _
    have ry : u = .int i := ry
    subst ry
    split at q
    · rename_i ws hw
      obtain ⟨a, vs, rfl, h1, h2⟩ := asL_ok R rx hw
      split at q
      · obtain ⟨t, h3, h4⟩ := h2.at ‹_›
        exact .inl (.inl ⟨a, vs, i, t, rfl, rfl, h1, h3, Post.here q R h4⟩)
      · exact False.elim q
    · split at q
      · rename_i ws hw
        obtain ⟨a, vs, rfl, h1, h2⟩ := asT_ok rx hw
        split at q
        · obtain ⟨t, h3, h4⟩ := h2.at ‹_›
          exact .inl (.inr (.inl ⟨a, vs, i, t, rfl, rfl, h1, h3, Post.here q R h4⟩))
        · exact False.elim q
      · split at q
        · split at q
          · rename_i kvs hc
            obtain ⟨a, h1, rfl⟩ := rx
            obtain ⟨us, h2, h3⟩ := R.cel _ _ a hc h1
            split at q
            · rename_i x hx
              obtain ⟨t, h4, h5⟩ := (valW_ok h3).1 _ hx
              exact .inr ⟨a, t, rfl, .inl ⟨us, Sum.inl i, .inl h2, rfl, h4.symm⟩, Post.here q R h5⟩
            · exact False.elim q
          · exact False.elim q
        · exact False.elim q
  · rename_i n z
    have ry : u = .str z := ry
    subst ry
    split at q
    · rename_i kvs hc
      obtain ⟨a, h1, rfl⟩ := rx
      obtain ⟨us, h2, h3⟩ := R.cel _ _ a hc h1
      split at q
      · rename_i x hx
        obtain ⟨t, h4, h5⟩ := (valW_ok h3).1 _ hx
        exact .inr ⟨a, t, rfl, .inl ⟨us, Sum.inr z, .inl h2, rfl, h4.symm⟩, Post.here q R h5⟩
      · exact False.elim q
    · exact False.elim q
  · exact False.elim q
theorem _root_.L2.Room.hu {k : Nat} {A : Around} (hr : Room k A) : A.units + 1 < cLine := hu_of hr
theorem se_item {X : Cx} {c : Cg} {a b : Expr} {pos : Pos} {ma mb : ES} {k : Nat} (hr : Room k X.A) (ha : PE X a (tE X.kx c ma)) (hb : PE X b (tE X.kx c mb)) (hp : PlainIx b := by exact fun _ _ => rfl) : PE X (.Subscript a b pos) (tE X.kx c (m2 fIx ma mb)) :=
  se_ix (ix_seq.or (ix_dict hr.hu)) os_ix ha hb hp
/-! a in b -/
def flatD : PyData → Bool
  | .none => true
  | .bool _ => true
  | .int _ => true
  | .str _ => true
  | _ => false
theorem flat_ok {K : Kx} {H : Hp} {L : Addr → Prop} {d : PyData} {v : V} (h : RD K H L d v) (hd : flatD d = true) : flatV v = true := by
  cases d with
  | list _ => exact absurd hd (by simp [flatD])
  | tuple _ => exact absurd hd (by simp [flatD])
  | dict _ => exact absurd hd (by simp [flatD])
  | none => have h : _ = _ := h; rw [h]; rfl
  | bool _ => have h : _ = _ := h; rw [h]; rfl
  | int _ => have h : _ = _ := h; rw [h]; rfl
  | str _ => have h : _ = _ := h; rw [h]; rfl
theorem eqv_ok {K : Kx} {H : Hp} {L : Addr → Prop} : ∀ {d e : PyData} {v u : V}, RD K H L d v → RD K H L e u → flatD d = true → flatD e = true → eqV v u = PyData.eqv d e := by
  intro d e v u h g hd he
  cases d with
  | list _ => exact absurd hd (by simp [flatD])
  | tuple _ => exact absurd hd (by simp [flatD])
  | dict _ => exact absurd hd (by simp [flatD])
  | none =>
    have h : _ = _ := h
    subst h
    cases e with
    | list _ => exact absurd he (by simp [flatD])
    | tuple _ => exact absurd he (by simp [flatD])
    | dict _ => exact absurd he (by simp [flatD])
    | none => have g : _ = _ := g; subst g; rfl
    | bool _ => have g : _ = _ := g; subst g; rfl
    | int _ => have g : _ = _ := g; subst g; rfl
    | str _ => have g : _ = _ := g; subst g; rfl
  | bool _ =>
    have h : _ = _ := h
    subst h
    cases e with
    | list _ => exact absurd he (by simp [flatD])
    | tuple _ => exact absurd he (by simp [flatD])
    | dict _ => exact absurd he (by simp [flatD])
    | none => have g : _ = _ := g; subst g; rfl
    | bool _ => have g : _ = _ := g; subst g; rfl
    | int _ => have g : _ = _ := g; subst g; rfl
    | str _ => have g : _ = _ := g; subst g; rfl
  | int _ =>
    have h : _ = _ := h
    subst h
    cases e with
    | list _ => exact absurd he (by simp [flatD])
    | tuple _ => exact absurd he (by simp [flatD])
    | dict _ => exact absurd he (by simp [flatD])
    | none => have g : _ = _ := g; subst g; rfl
    | bool _ => have g : _ = _ := g; subst g; rfl
    | int _ => have g : _ = _ := g; subst g; rfl
    | str _ => have g : _ = _ := g; subst g; rfl
  | str _ =>
    have h : _ = _ := h
    subst h
    cases e with
    | list _ => exact absurd he (by simp [flatD])
    | tuple _ => exact absurd he (by simp [flatD])
    | dict _ => exact absurd he (by simp [flatD])
    | none => have g : _ = _ := g; subst g; rfl
    | bool _ => have g : _ = _ := g; subst g; rfl
    | int _ => have g : _ = _ := g; subst g; rfl
    | str _ => have g : _ = _ := g; subst g; rfl
def anyD (ds : List PyData) (d : PyData) : Bool := ds.any fun z => PyData.eqv z d
theorem any_flat {K : Kx} {H : Hp} {L : Addr → Prop} {d : PyData} {v : V} (h : RD K H L d v) (hd : flatD d = true) (ds : List PyData) : ∀ {vs : List V}, RDs K H L ds vs → ds.all flatD = true → vs.all flatV = true ∧ inV v vs = anyD ds d := by
  induction ds with
  | nil =>
    intro vs r _
    have r : _ = _ := r
    rw [r]
    exact ⟨rfl, rfl⟩
  | cons e ds ih =>
    intro vs r f
    obtain ⟨u, us, rfl, r1, r2⟩ := r
    rw [List.all_cons, Bool.and_eq_true] at f
    obtain ⟨i1, i2⟩ := ih r2 f.2
    refine ⟨?_, ?_⟩
    · rw [List.all_cons, flat_ok r1 f.1, i1]
      rfl
    · unfold inV anyD
      rw [List.any_cons, List.any_cons, eqv_ok r1 h f.1 hd]
      unfold inV anyD at i2
      rw [i2]
def fIn0 (x y : W) (cs : List Cell) : Option Bool :=
  match x, y with
  | .d a, .d (.tuple ds) => if flatD a = true ∧ ds.all flatD = true then some (anyD ds a) else none
  | .d (.str a), .d (.str b) => some (!(Builtin.Str.occurrences b a 0 b.length 1).isEmpty)
  | .d a, y => match asL y cs with
    | some ws => (match toD ws with
      | some ds => if SeqAt.shaped a = true ∧ SeqAt.shaped (.list ds) = true then some (anyD ds a) else if flatD a = true ∧ ds.all flatD = true then some (anyD ds a) else none
      | none => none)
    | none => match y with
      | .r n => (match cs[n]? with
        | some (.dK kvs) => (match keyOf a with
          | some k => some (valW kvs k).isSome
          | none => none)
        | _ => none)
      | _ => none
  | _, _ => none
def fIn (neg : Bool) (x y : W) (cs : List Cell) : Option (Rs W) := match fIn0 x y cs with
  | some b => some (.ok (.d (.bool (if neg then !b else b))) cs)
  | none => none
abbrev rDIn (neg : Bool) : R2 := fun y x H Q => ∃ a o, x = .ref a ∧ DGet H a y o ∧ Q (.bl (if neg then !o.isSome else o.isSome)) H
theorem op_din {X : Cx} (hu : X.A.units + 1 < cLine) : OpR X (compareOp .In) (rDIn false) := by
  intro pins s σ H x y v u Q I rx ry h
  obtain ⟨a, o, rfl, g, q⟩ := h
  obtain rfl : u = Value.ref a := ry
  exact d_in hu I g rx fun s' I' => ⟨.bl o.isSome, H, I', rfl, q⟩
theorem op_dnotin {X : Cx} (hu : X.A.units + 1 < cLine) : OpR X (compareOp .NotIn) (rDIn true) := by
  intro pins s σ H x y v u Q I rx ry h
  obtain ⟨a, o, rfl, g, q⟩ := h
  obtain rfl : u = Value.ref a := ry
  exact d_notIn hu I g rx fun s' I' => ⟨.bl (!o.isSome), H, I', rfl, q⟩
abbrev rInAll (neg : Bool) (K : PySem.W.Frag) : R2 := fun x y H Q => (if neg then rNotInD K x y H Q else rInD K x y H Q) ∨ rIn K neg x y H Q ∨ (∃ i j, x = .str i ∧ y = .str j ∧ Q (.bl (if neg then !(!(Builtin.Str.occurrences j i 0 j.length 1).isEmpty) else (!(Builtin.Str.occurrences j i 0 j.length 1).isEmpty))) H) ∨ rDIn neg x y H Q
theorem RWs.toRDs {K : Kx} {H : Hp} {L : Addr → Prop} {ρ : List Addr} {ws : List W} {ds : List PyData} {vs : List V} (h : RWs K H L ρ ws vs) (e : toD ws = some ds) : RDs K H L ds vs := by
  rw [toD_map e] at h
  exact RWs.to_data h
theorem RDs.dpl {K : Kx} {H : Hp} {L : Addr → Prop} {a : Addr} {ds : List PyData} {vs : List V} (h : RDs K H L ds vs) (hl : SqL K.K H a vs) (hs : SeqAt.shaped (.list ds) = true) : Dp K.K H (.ref a) (.list ds) :=
  .lst hl (RDs.dp ds (SeqAt.canLay_of_shaped hs) h)
theorem os_in {K : Kx} {c : Cg} {neg : Bool} : OpS K c (rInAll neg K.K) (fIn neg) := by
  intro La σ H ρ cs x y v u Q R rx ry q
  unfold fIn at q
  split at q
  · rename_i b e
    have q' : Q (.bl (if neg then !b else b)) H := Post.here q R rfl
    unfold fIn0 at e
    split at e
    · rename_i a ds
      split at e
      · cases e
        rename_i hf
        obtain ⟨p, us, rfl, h1, h2⟩ := ry
        obtain ⟨h3, h4⟩ := any_flat rx hf.1 _ h2 hf.2
        refine .inr (.inl ⟨p, us, rfl, .inr h1.sq, flat_ok rx hf.1, h3, ?_⟩)
        rw [h4]
        exact q'
      · cases e
    · cases e
      exact .inr (.inr (.inl ⟨_, _, rx, ry, q'⟩))
    · rename_i a _ _
      split at e
      · rename_i ws hw
        obtain ⟨p, vs, rfl, h1, h2⟩ := asL_ok R ry hw
        split at e
        · rename_i ds hd
          have h2 := h2.toRDs hd
          split at e
          · cases e
            rename_i hs
            refine .inl ?_
            cases neg with
            | false => exact ⟨a, ds, RD.dp a (SeqAt.canLay_of_shaped hs.1) rx, h2.dpl h1 hs.2, hs.1, hs.2, q'⟩
            | true => exact ⟨a, ds, RD.dp a (SeqAt.canLay_of_shaped hs.1) rx, h2.dpl h1 hs.2, hs.1, hs.2, q'⟩
          · split at e
            · cases e
              rename_i hf
              obtain ⟨h3, h4⟩ := any_flat rx hf.1 _ h2 hf.2
              refine .inr (.inl ⟨p, vs, rfl, .inl h1, flat_ok rx hf.1, h3, ?_⟩)
              rw [h4]
              exact q'
            · cases e
        · cases e
      · split at e
        · split at e
          · rename_i kvs hc
            split at e
            · rename_i k hk
              cases e
              obtain ⟨p, h1, rfl⟩ := ry
              obtain ⟨us, h2, h3⟩ := R.cel _ _ p hc h1
              have hv := keyOf_ok rx hk
              subst hv
              refine .inr (.inr (.inr ⟨p, valV us k, rfl, .inl ⟨us, k, .inl h2, rfl, rfl⟩, ?_⟩))
              have he : (valV us k).isSome = (valW kvs k).isSome := by
                cases hw : valW kvs k with
                | none => rw [(valW_ok h3).2 hw]; rfl
                | some w =>
                  obtain ⟨t, h4, _⟩ := (valW_ok h3).1 w hw
                  rw [h4]
                  rfl
              rw [he]
              exact q'
            · cases e
          · cases e
        · cases e
    · cases e
  · exact False.elim q
theorem _root_.L2.Room.u65 {k : Nat} {A : Around} (hr : Room k A) : A.units + 65 < cLine := by
  have := hr.un
  omega
theorem se_in {X : Cx} {c : Cg} {a b : Expr} {pos : Pos} {ma mb : ES} {k : Nat} (hr : Room k X.A) (ha : PE X a (tE X.kx c ma)) (hb : PE X b (tE X.kx c mb)) (hm : behindInMarks .In b = false := by rfl) : PE X (.Compare a [.In] [b] pos) (tE X.kx c (m2 (fIn false) ma mb)) :=
  se_cmp ((op_inD hr.u65).or (op_in_seq.or (op_in_str.or (op_din hr.hu)))) os_in ha hb hm
theorem se_notin {X : Cx} {c : Cg} {a b : Expr} {pos : Pos} {ma mb : ES} {k : Nat} (hr : Room k X.A) (ha : PE X a (tE X.kx c ma)) (hb : PE X b (tE X.kx c mb)) (hm : behindInMarks .NotIn b = false := by rfl) : PE X (.Compare a [.NotIn] [b] pos) (tE X.kx c (m2 (fIn true) ma mb)) :=
  se_cmp ((op_notInD hr.u65).or (op_notIn_seq.or (op_notin_str.or (op_dnotin hr.hu)))) os_in ha hb hm
end Sm
namespace Sm
open PySem PySem.Spec PyProof.Rows L2

/-! ### comparisons: as values, as tests, in a chain -/
structure CmpS (X : Cx) (c : Cg) (op : CmpOp) (f : W → W → List Cell → Option (Rs W)) : Prop where
  ex : ∃ r, OpR X (compareOp op) r ∧ OpS X.kx c r f
section
variable {X : Cx} {c : Cg} {k : Nat}
theorem cs_eq (hr : Room k X.A) : CmpS X c .Eq (dd2 fEq) := ⟨_, op_eq.or (op_eqD hr.units), os_eq⟩
theorem cs_ne (hr : Room k X.A) : CmpS X c .NotEq (dd2 fNe) := ⟨_, op_ne.or (op_neD hr.units), os_ne⟩
theorem cs_lt (hr : Room k X.A) : CmpS X c .Lt (dd2 fLt) := ⟨_, op_lt, os_B0⟩
theorem cs_le (hr : Room k X.A) : CmpS X c .LtE (dd2 fLe) := ⟨_, op_le, os_B0⟩
theorem cs_gt (hr : Room k X.A) : CmpS X c .Gt (dd2 fGt) := ⟨_, op_gt, os_B0⟩
theorem cs_ge (hr : Room k X.A) : CmpS X c .GtE (dd2 fGe) := ⟨_, op_ge, os_B0⟩
theorem cs_is (hr : Room k X.A) : CmpS X c .Is (fIsN false) := ⟨_, op_isN, os_isN⟩
theorem cs_isnot (hr : Room k X.A) : CmpS X c .IsNot (fIsN true) := ⟨_, op_notN, os_notN⟩
theorem cs_in (hr : Room k X.A) : CmpS X c .In (fIn false) := ⟨_, (op_inD hr.u65).or (op_in_seq.or (op_in_str.or (op_din hr.hu))), os_in⟩
theorem cs_notin (hr : Room k X.A) : CmpS X c .NotIn (fIn true) := ⟨_, (op_notInD hr.u65).or (op_notIn_seq.or (op_notin_str.or (op_dnotin hr.hu))), os_in⟩
end
def asB : W → Option Bool
  | .d (.bool b) => some b
  | _ => none
def retB (o : Option Bool) (cs : List Cell) : Option (Rs Bool) := match o with
  | some b => some (.ok b cs)
  | none => none
/-- the truth of a value -/
def truW (w : W) (cs : List Cell) : Option Bool := match w with
  | .d .none => some false
  | .d (.bool b) => some b
  | .d (.int i) => some (i != 0)
  | .d (.str y) => if y.length ≤ sizeLine then some ((y.length : Int) != 0) else none
  | w => match asL w cs with
    | some ws => some (!ws.isEmpty)
    | none => match asT w with
      | some ws => some (!ws.isEmpty)
      | none => match w with
        | .r n => (match cs[n]? with
          | some (.dK kvs) => some (!kvs.isEmpty)
          | _ => none)
        | _ => none
theorem paired_empty {α β : Type} {F : α → β → Prop} : ∀ {xs : List α} {ys : List β}, Paired F xs ys → (!xs.isEmpty) = !ys.isEmpty
  | _, _, .nil => rfl
  | _, _, .cons _ _ => rfl
section
variable {K : Kx} {c : Cg} {La : Addr → Prop} {σ : L2.St} {H : Hp} {ρ : List Addr} {cs : List Cell} {Q : V → Hp → Prop} {ma mb mc : ES}
theorem truW_ok {w : W} {v : V} {b : Bool} (R : Rl K La H ρ cs) (r : RW K H (Lv La ρ cs) ρ w v) (h : truW w cs = some b) : TruV K.K v H b := by
  unfold truW at h
  split at h
  · cases h
    have r : v = .non := r
    rw [r]
    exact rfl
  · cases h
    have r : v = .bl _ := r
    rw [r]
    exact rfl
  · cases h
    have r : v = .int _ := r
    rw [r]
    exact rfl
  · split at h
    · cases h
      have r : v = .str _ := r
      rw [r]
      exact ⟨‹_›, rfl⟩
    · cases h
  · split at h
    · cases h
      obtain ⟨a, vs, rfl, h1, h2⟩ := asL_ok R r ‹_›
      exact .inl ⟨vs, h1, paired_empty h2⟩
    · split at h
      · cases h
        obtain ⟨a, vs, rfl, h1, h2⟩ := asT_ok r ‹_›
        exact .inr (.inl ⟨vs, h1, paired_empty h2⟩)
      · split at h
        · split at h
          · cases h
            rename_i kvs hc
            obtain ⟨a, h1, rfl⟩ := r
            obtain ⟨us, h2, h3⟩ := R.cel _ _ a hc h1
            exact .inr (.inr ⟨us, h2, paired_empty h3⟩)
          · cases h
        · cases h
end
def mCh (f f' : W → W → List Cell → Option (Rs W)) (a b c : ES) : ES := fun s cs => bnd (a s cs) fun x cs => bnd (b s cs) fun y cs => bnd (f x y cs) fun z cs => match asB z with
  | some true => bnd (c s cs) fun u cs => f' y u cs
  | some false => some (.ok (.d (.bool false)) cs)
  | none => none
/-- an answer as a test -/
def mTs (a : ES) : BS := fun s cs => bnd (a s cs) fun x cs => retB (asB x) cs
/-- a value's truth as a test -/
def mTr (a : ES) : BS := fun s cs => bnd (a s cs) fun x cs => retB (truW x cs) cs
def mAndB (a b : BS) : BS := fun s cs => bnd (a s cs) fun x cs => if x = true then b s cs else some (.ok false cs)
def mOrB (a b : BS) : BS := fun s cs => bnd (a s cs) fun x cs => if x = true then some (.ok true cs) else b s cs
def mNotB (a : BS) : BS := fun s cs => bnd (a s cs) fun x cs => some (.ok (!x) cs)
def mAnd (a b : ES) : ES := fun s cs => bnd (a s cs) fun x cs => match truW x cs with
  | some true => b s cs
  | some false => some (.ok x cs)
  | none => none
def mOr (a b : ES) : ES := fun s cs => bnd (a s cs) fun x cs => match truW x cs with
  | some true => some (.ok x cs)
  | some false => b s cs
  | none => none
def mNot (a : ES) : ES := fun s cs => bnd (a s cs) fun x cs => match truW x cs with
  | some b => some (.ok (.d (.bool (!b))) cs)
  | none => none
def mIf (t : BS) (a b : ES) : ES := fun s cs => bnd (t s cs) fun x cs => if x = true then a s cs else b s cs
section
variable {K : Kx} {c : Cg} {La : Addr → Prop} {σ : L2.St} {H : Hp} {ρ : List Addr} {cs : List Cell} {ma mb mc : ES} {ta tb tc : BS}
theorem asB_ok {w : W} {v : V} {b : Bool} {L : Addr → Prop} (r : RW K H L ρ w v) (h : asB w = some b) : v = .bl b := by
  unfold asB at h
  split at h
  · cases h
    exact r
  · cases h
theorem Post.hereB {b : Bool} {Q : Bool → Hp → Prop} (h : Post K c La σ H ρ cs RRb Q (some (.ok b cs))) (R : Rl K La H ρ cs) : Q b H := h b H ρ R Go.refl rfl
theorem tTest_of {Q : Bool → Hp → Prop} (h : tT K c (mTs ma) σ H Q) : tE K c ma σ H (fun x H' => ∃ k, x = .bl k ∧ Q k H') := by
  obtain ⟨La, ρ, cs, s, R, S, h⟩ := h
  refine ⟨La, ρ, cs, s, R, S, (Post.bind h).imp fun v H1 ⟨x, ρ1, cs1, R1, G1, r1, h1⟩ => ?_⟩
  cases e : asB x with
  | none =>
    rw [e] at h1
    exact False.elim h1
  | some b =>
    rw [e] at h1
    exact ⟨b, asB_ok r1 e, Post.hereB h1 R1⟩
theorem tTru_of {Q : Bool → Hp → Prop} (h : tT K c (mTr ma) σ H Q) : tE K c ma σ H (fun x H' => ∃ k, TruV K.K x H' k ∧ Q k H') := by
  obtain ⟨La, ρ, cs, s, R, S, h⟩ := h
  refine ⟨La, ρ, cs, s, R, S, (Post.bind h).imp fun v H1 ⟨x, ρ1, cs1, R1, G1, r1, h1⟩ => ?_⟩
  cases e : truW x cs1 with
  | none =>
    rw [e] at h1
    exact False.elim h1
  | some b =>
    rw [e] at h1
    exact ⟨b, truW_ok R1 r1 e, Post.hereB h1 R1⟩
theorem tChain_of {r r' : R2} {f f' : W → W → List Cell → Option (Rs W)} {Q : V → Hp → Prop} (hs : OpS K c r f) (hs' : OpS K c r' f') (h : tE K c (mCh f f' ma mb mc) σ H Q) : tChain r r' (tE K c ma) (tE K c mb) (tE K c mc) σ H Q := by
  obtain ⟨La, ρ, cs, s, R, S, h⟩ := h
  refine ⟨La, ρ, cs, s, R, S, (Post.bind h).imp fun v H1 ⟨x, ρ1, cs1, R1, G1, r1, h1⟩ => ?_⟩
  have S1 := S.go G1.keep G1.pre
  refine ⟨La, ρ1, cs1, s, R1, S1, (Post.bind h1).imp fun u H2 ⟨y, ρ2, cs2, R2, G2, r2, h2⟩ => ?_⟩
  have S2 := S1.go G2.keep G2.pre
  refine hs La σ H2 ρ2 cs2 x y v u _ R2 (r1.go G2.keep G2.pre) r2 ((Post.bind h2).imp fun z H3 ⟨b, ρ3, cs3, R3, G3, r3, h3⟩ => ?_)
  cases e : asB b with
  | none =>
    rw [e] at h3
    exact False.elim h3
  | some k =>
    rw [e] at h3
    refine ⟨k, asB_ok r3 e, ?_⟩
    cases k with
    | true =>
      rw [if_pos rfl]
      refine ⟨La, ρ3, cs3, s, R3, S2.go G3.keep G3.pre, (Post.bind h3).imp fun t H4 ⟨w, ρ4, cs4, R4, G4, r4, h4⟩ => ?_⟩
      exact hs' La σ H4 ρ4 cs4 y w u t Q R4 ((r2.go G3.keep G3.pre).go G4.keep G4.pre) r4 h4
    | false =>
      rw [if_neg Bool.false_ne_true]
      exact Post.here h3 R3 rfl
theorem tAnd_of {Q : Bool → Hp → Prop} (h : tT K c (mAndB ta tb) σ H Q) : tAnd (tT K c ta) (tT K c tb) σ H Q := by
  obtain ⟨La, ρ, cs, s, R, S, h⟩ := h
  refine ⟨La, ρ, cs, s, R, S, (Post.bind (RR := RRb) h).imp fun v H1 ⟨x, ρ1, cs1, R1, G1, r1, h1⟩ => ?_⟩
  have r1 : x = v := r1
  subst r1
  cases x with
  | true => exact ⟨La, ρ1, cs1, s, R1, S.go G1.keep G1.pre, h1⟩
  | false => exact Post.hereB h1 R1
theorem tOr_of {Q : Bool → Hp → Prop} (h : tT K c (mOrB ta tb) σ H Q) : tOr (tT K c ta) (tT K c tb) σ H Q := by
  obtain ⟨La, ρ, cs, s, R, S, h⟩ := h
  refine ⟨La, ρ, cs, s, R, S, (Post.bind (RR := RRb) h).imp fun v H1 ⟨x, ρ1, cs1, R1, G1, r1, h1⟩ => ?_⟩
  have r1 : x = v := r1
  subst r1
  cases x with
  | false => exact ⟨La, ρ1, cs1, s, R1, S.go G1.keep G1.pre, h1⟩
  | true => exact Post.hereB h1 R1
theorem tNot_of {Q : Bool → Hp → Prop} (h : tT K c (mNotB ta) σ H Q) : tNot (tT K c ta) σ H Q := by
  obtain ⟨La, ρ, cs, s, R, S, h⟩ := h
  refine ⟨La, ρ, cs, s, R, S, (Post.bind (RR := RRb) h).imp fun v H1 ⟨x, ρ1, cs1, R1, G1, r1, h1⟩ => ?_⟩
  have r1 : x = v := r1
  subst r1
  exact Post.hereB h1 R1
theorem tIf_of {Q : V → Hp → Prop} (h : tE K c (mIf ta ma mb) σ H Q) : tIf (tT K c ta) (tE K c ma) (tE K c mb) σ H Q := by
  obtain ⟨La, ρ, cs, s, R, S, h⟩ := h
  refine ⟨La, ρ, cs, s, R, S, (Post.bind (RR := RRb) h).imp fun v H1 ⟨x, ρ1, cs1, R1, G1, r1, h1⟩ => ?_⟩
  have r1 : x = v := r1
  subst r1
  cases x with
  | true => exact ⟨La, ρ1, cs1, s, R1, S.go G1.keep G1.pre, h1⟩
  | false => exact ⟨La, ρ1, cs1, s, R1, S.go G1.keep G1.pre, h1⟩
theorem tAndT_of {Q : V → Hp → Prop} (h : tE K c (mAnd ma mb) σ H Q) : tAndT K.K (tE K c ma) (tE K c mb) σ H Q := by
  obtain ⟨La, ρ, cs, s, R, S, h⟩ := h
  refine ⟨La, ρ, cs, s, R, S, (Post.bind h).imp fun v H1 ⟨x, ρ1, cs1, R1, G1, r1, h1⟩ => ?_⟩
  cases e : truW x cs1 with
  | none =>
    rw [e] at h1
    exact False.elim h1
  | some b =>
    rw [e] at h1
    refine ⟨b, truW_ok R1 r1 e, ?_⟩
    cases b with
    | true => exact ⟨La, ρ1, cs1, s, R1, S.go G1.keep G1.pre, h1⟩
    | false => exact Post.here h1 R1 r1
theorem tOrT_of {Q : V → Hp → Prop} (h : tE K c (mOr ma mb) σ H Q) : tOrT K.K (tE K c ma) (tE K c mb) σ H Q := by
  obtain ⟨La, ρ, cs, s, R, S, h⟩ := h
  refine ⟨La, ρ, cs, s, R, S, (Post.bind h).imp fun v H1 ⟨x, ρ1, cs1, R1, G1, r1, h1⟩ => ?_⟩
  cases e : truW x cs1 with
  | none =>
    rw [e] at h1
    exact False.elim h1
  | some b =>
    rw [e] at h1
    refine ⟨b, truW_ok R1 r1 e, ?_⟩
    cases b with
    | false => exact ⟨La, ρ1, cs1, s, R1, S.go G1.keep G1.pre, h1⟩
    | true => exact Post.here h1 R1 r1
theorem tNotT_of {Q : V → Hp → Prop} (h : tE K c (mNot ma) σ H Q) : tNotT K.K (tE K c ma) σ H Q := by
  obtain ⟨La, ρ, cs, s, R, S, h⟩ := h
  refine ⟨La, ρ, cs, s, R, S, (Post.bind h).imp fun v H1 ⟨x, ρ1, cs1, R1, G1, r1, h1⟩ => ?_⟩
  cases e : truW x cs1 with
  | none =>
    rw [e] at h1
    exact False.elim h1
  | some b =>
    rw [e] at h1
    exact ⟨b, truW_ok R1 r1 e, Post.here h1 R1 rfl⟩
end
section
variable {X : Cx} {c : Cg} {a b d : Expr} {rest : List Expr} {pos : Pos} {ma mb mc : ES} {ta tb : BS} {op op' : CmpOp} {f f' : W → W → List Cell → Option (Rs W)}
theorem sv_cmp (hs : CmpS X c op f) (ha : PE X a (tE X.kx c ma)) (hb : PE X b (tE X.kx c mb)) (hm : behindInMarks op b = false := by first | exact nomark _ | rfl) : PE X (.Compare a [op] [b] pos) (tE X.kx c (m2 f ma mb)) := by
  obtain ⟨r, h1, h2⟩ := hs.ex
  exact se_cmp h1 h2 ha hb hm
theorem st_cmp (hs : CmpS X c op f) (ha : PE X a (tE X.kx c ma)) (hb : PE X b (tE X.kx c mb)) (hm : behindInMarks op b = false := by first | exact nomark _ | rfl) : PT X (.Compare a [op] [b] pos) (tT X.kx c (mTs (m2 f ma mb))) := by
  obtain ⟨r, h1, h2⟩ := hs.ex
  exact (pt_cmpR h1 ha hb hm).imp fun _ _ _ h => tOp_of h2 (tTest_of h)
theorem sv_chain (hs : CmpS X c op f) (hs' : CmpS X c op' f') (ha : PE X a (tE X.kx c ma)) (hb : PE X b (tE X.kx c mb)) (hc : PE X d (tE X.kx c mc)) (hm : lastMarks [op, op'] [b, d] = false := by with_unfolding_all rfl) : PE X (.Compare a [op, op'] [b, d] pos) (tE X.kx c (mCh f f' ma mb mc)) := by
  obtain ⟨r, h1, h2⟩ := hs.ex
  obtain ⟨r', h1', h2'⟩ := hs'.ex
  exact (pe_chain h1 h1' ha hb hc hm).imp fun _ _ _ h => tChain_of h2 h2' h
theorem st_chain (hs : CmpS X c op f) (hs' : CmpS X c op' f') (ha : PE X a (tE X.kx c ma)) (hb : PE X b (tE X.kx c mb)) (hc : PE X d (tE X.kx c mc)) (hm : lastMarks [op, op'] [b, d] = false := by with_unfolding_all rfl) : PT X (.Compare a [op, op'] [b, d] pos) (tT X.kx c (mTs (mCh f f' ma mb mc))) := by
  obtain ⟨r, h1, h2⟩ := hs.ex
  obtain ⟨r', h1', h2'⟩ := hs'.ex
  exact (pt_chain h1 h1' ha hb hc hm).imp fun _ _ _ h => tChain_of h2 h2' (tTest_of h)
theorem st_tru (ha : PE X a (tE X.kx c ma)) (he : ∀ whole, isTrue a X.env whole = (do let v ← whole; standAt a.pos; holding [v] (truthy v)) := by intro _; rfl) : PT X a (tT X.kx c (mTr ma)) := (pt_truth ha he).imp fun _ _ _ h => tTru_of h
theorem sw_and1 (ha : PT X a (tT X.kx c ta)) : PW X (.BoolOp .And [a] pos) (tT X.kx c ta) := pw_and1 ha
theorem sw_or1 (ha : PT X a (tT X.kx c ta)) : PW X (.BoolOp .Or [a] pos) (tT X.kx c ta) := pw_or1 ha
theorem sw_and (ha : PT X a (tT X.kx c ta)) (hb : PW X (.BoolOp .And (b :: rest) pos) (tT X.kx c tb)) : PW X (.BoolOp .And (a :: b :: rest) pos) (tT X.kx c (mAndB ta tb)) := (pw_and ha hb).imp fun _ _ _ h => tAnd_of h
theorem sw_or (ha : PT X a (tT X.kx c ta)) (hb : PW X (.BoolOp .Or (b :: rest) pos) (tT X.kx c tb)) : PW X (.BoolOp .Or (a :: b :: rest) pos) (tT X.kx c (mOrB ta tb)) := (pw_or ha hb).imp fun _ _ _ h => tOr_of h
theorem st_not (ha : PT X a (tT X.kx c ta)) : PT X (.UnaryOp .Not a pos) (tT X.kx c (mNotB ta)) := (pt_not ha).imp fun _ _ _ h => tNot_of h
theorem sv_one (ha : PE X a (tE X.kx c ma)) {op : BoolOp} : PE X (.BoolOp op [a] pos) (tE X.kx c ma) := pe_one ha
theorem sv_and (ha : PE X a (tE X.kx c ma)) (hb : PE X (.BoolOp .And (b :: rest) pos) (tE X.kx c mb)) : PE X (.BoolOp .And (a :: b :: rest) pos) (tE X.kx c (mAnd ma mb)) := (pe_andT ha hb).imp fun _ _ _ h => tAndT_of h
theorem sv_or (ha : PE X a (tE X.kx c ma)) (hb : PE X (.BoolOp .Or (b :: rest) pos) (tE X.kx c mb)) : PE X (.BoolOp .Or (a :: b :: rest) pos) (tE X.kx c (mOr ma mb)) := (pe_orT ha hb).imp fun _ _ _ h => tOrT_of h
theorem sv_not (ha : PE X a (tE X.kx c ma)) : PE X (.UnaryOp .Not a pos) (tE X.kx c (mNot ma)) := (pe_notT ha).imp fun _ _ _ h => tNotT_of h
theorem sv_if {t : Expr} (ht : PT X t (tT X.kx c ta)) (ha : PE X a (tE X.kx c ma)) (hb : PE X b (tE X.kx c mb)) : PE X (.IfExp t a b pos) (tE X.kx c (mIf ta ma mb)) := (pe_ifExp ht ha hb).imp fun _ _ _ h => tIf_of h
end

/-! ### arguments, tuples, lists -/
def mNil : AS := fun _ cs => some (.ok [] cs)
def mCons (a : ES) (r : AS) : AS := fun s cs => bnd (a s cs) fun x cs => bnd (r s cs) fun xs cs => some (.ok (x :: xs) cs)
def mCall (f : List W → List Cell → Option (Rs W)) (a : AS) : ES := fun s cs => bnd (a s cs) f
def mkT (ws : List W) (cs : List Cell) : Option (Rs W) := match toD ws with
  | some ds => if ds.length ≤ sizeLine then some (.ok (.d (.tuple ds)) cs) else none
  | none => none
def mkL (ws : List W) (cs : List Cell) : Option (Rs W) := match toD ws with
  | some ds => if ds.length ≤ sizeLine then some (.ok (.d (.list ds)) cs) else none
  | none => none
def mkC (ws : List W) (cs : List Cell) : Option (Rs W) := if ws.length ≤ sizeLine then some (.ok (.r cs.length) (cs ++ [.lst ws])) else none
section
variable {K : Kx} {c : Cg} {La : Addr → Prop} {σ : L2.St} {H : Hp} {ρ : List Addr} {cs : List Cell} {ma mb mc : ES} {aa : AS}
theorem tNil_of {Q : List V → Hp → Prop} (h : tA K c mNil σ H Q) : tNil σ H Q := by
  obtain ⟨La, ρ, cs, s, R, S, h⟩ := h
  exact h [] H ρ R Go.refl .nil
theorem tCons_of {Q : List V → Hp → Prop} (h : tA K c (mCons ma aa) σ H Q) : tCons (tE K c ma) (tA K c aa) σ H Q := by
  obtain ⟨La, ρ, cs, s, R, S, h⟩ := h
  refine ⟨La, ρ, cs, s, R, S, (Post.bind h).imp fun v H1 ⟨x, ρ1, cs1, R1, G1, r1, h1⟩ => ?_⟩
  refine ⟨La, ρ1, cs1, s, R1, S.go G1.keep G1.pre, (Post.bind h1).imp fun vs H2 ⟨xs, ρ2, cs2, R2, G2, r2, h2⟩ => ?_⟩
  exact h2 (v :: vs) H2 ρ2 R2 Go.refl (.cons (r1.go G2.keep G2.pre) r2)
theorem tCB_of {r : List V → Hp → VK → Prop} {f : List W → List Cell → Option (Rs W)} {Q : V → Hp → Prop} (hs : CaS K c r f) (h : tE K c (mCall f aa) σ H Q) : tCB r (tA K c aa) σ H Q := by
  obtain ⟨La, ρ, cs, s, R, S, h⟩ := h
  refine ⟨La, ρ, cs, s, R, S, (Post.bind h).imp fun vs H1 ⟨x, ρ1, cs1, R1, G1, r1, h1⟩ => ?_⟩
  exact hs La σ H1 ρ1 cs1 x vs Q R1 r1 h1
theorem cas_tup : CaS K c (fun xs H1 Q => xs.length ≤ sizeLine ∧ ∀ p, H1 p = none → Q (.ref p) (upd H1 p (.tup xs))) mkT := by
  intro La σ H ρ cs xs vs Q R r q
  unfold mkT at q
  split at q
  · rename_i ds hd
    split at q
    · rename_i hl
      have r := r.toRDs hd
      refine ⟨by rw [r.length]; exact hl, fun p hp => ?_⟩
      exact Post.newd q R hp fun nl k => ⟨p, vs, rfl, .inl ⟨upd_same, nl⟩, r.go k⟩
    · exact False.elim q
  · exact False.elim q
theorem cas_lst : CaS K c (fun xs H1 Q => xs.length ≤ sizeLine ∧ ∀ p, H1 p = none → Q (.ref p) (upd H1 p (.lst xs))) mkL := by
  intro La σ H ρ cs xs vs Q R r q
  unfold mkL at q
  split at q
  · rename_i ds hd
    split at q
    · rename_i hl
      have r := r.toRDs hd
      refine ⟨by rw [r.length]; exact hl, fun p hp => ?_⟩
      exact Post.newd q R hp fun nl k => ⟨p, vs, rfl, upd_same, nl, r.go k⟩
    · exact False.elim q
  · exact False.elim q
theorem cas_lstC : CaS K c (fun xs H1 Q => xs.length ≤ sizeLine ∧ ∀ p, H1 p = none → Q (.ref p) (upd H1 p (.lst xs))) mkC := by
  intro La σ H ρ cs xs vs Q R r q
  unfold mkC at q
  split at q
  · rename_i hl
    refine ⟨by rw [← r.len]; exact hl, fun p hp => ?_⟩
    have hc : CellAt K (upd H p (.lst vs)) (Lv La (ρ ++ [p]) (cs ++ [.lst xs])) (ρ ++ [p]) p (.lst xs) := by
      refine ⟨vs, upd_same, ?_⟩
      have np : ∀ a u, H a = some u → a ≠ p := fun a u h => ne_of_none h hp
      refine r.go (fun a u h n => ⟨by rw [upd_ne (np a u h)]; exact h, fun z => ?_⟩) ⟨[p], rfl⟩
      rcases z with z | ⟨n', d, h1, h2, h3⟩
      · exact n (.inl z)
      · by_cases hn : n' < ρ.length
        · rw [List.getElem?_append_left hn] at h1
          rw [List.getElem?_append_left (by have := R.len; omega)] at h2
          exact n (.inr ⟨n', d, h1, h2, h3⟩)
        · rw [List.getElem?_append_right (by omega)] at h1
          have hm := List.mem_of_getElem? h1
          have hm : a = p := by simpa using hm
          exact np a u h hm
    obtain ⟨R', G'⟩ := R.cell hp (.lst xs) (.lst vs) hc
    refine q _ _ (ρ ++ [p]) R' G' ⟨p, ?_, rfl⟩
    rw [← R.len]
    simp
  · exact False.elim q
end
section
variable {X : Cx} {c : Cg} {e : Expr} {es : List Expr} {pos : Pos} {ma : ES} {aa : AS}
theorem sa_nil : PA X [] (tA X.kx c mNil) := pa_nil.imp fun _ _ _ h => tNil_of h
theorem sa_cons (ha : PE X e (tE X.kx c ma)) (hr : PA X es (tA X.kx c aa)) (hs : starEach (e :: es) X.env = (false, eval e X.env) :: starEach es X.env := by rfl) : PA X (e :: es) (tA X.kx c (mCons ma aa)) := (pa_cons ha hr hs).imp fun _ _ _ h => tCons_of h
theorem sv_tup {x1} (ha : PA X es (tA X.kx c aa)) : PE X (.Tuple es x1 pos) (tE X.kx c (mCall mkT aa)) := (pe_tup ha).imp fun _ _ _ h => tCB_of cas_tup h
/-- a list that is not changed -/
theorem sv_lst (ha : PA X es (tA X.kx c aa)) : PE X (.List es pos) (tE X.kx c (mCall mkL aa)) := (pe_lst ha).imp fun _ _ _ h => tCB_of cas_lst h
/-- a list that is changed -/
theorem sv_lstC (ha : PA X es (tA X.kx c aa)) : PE X (.List es pos) (tE X.kx c (mCall mkC aa)) := (pe_lst ha).imp fun _ _ _ h => tCB_of cas_lstC h
theorem sv_callB {id : String} {x : Str} {p : Pos} {r : List V → Hp → VK → Prop} {f : List W → List Cell → Option (Rs W)} (hc : CallR X (.builtin id) r) (hs : CaS X.kx c r f) (hg : Gl X x) (hm : X.mg x = none) (hv : bootBuiltins x = some (.builtin id)) (ha : PA X (e :: es) (tA X.kx c aa))
    (hn : x ≠ "__name__" := by decide) (hdb : (x == ("__debug__" : Str)) = false := by decide) (he : starEach (e :: es) X.env = (false, eval e X.env) :: starEach es X.env := by rfl) (hpl : (backTo pos (starEach es X.env)).any (·.1) = false := by rfl) :
    PE X (.Call (.Name x p) (e :: es) [] pos) (tE X.kx c (mCall f aa)) := (pe_callB hc hg hm hv ha hn hdb he hpl).imp fun _ _ _ h => tCB_of hs h
theorem sv_callTy {T : String} {x : Str} {p : Pos} {r : List V → Hp → VK → Prop} {f : List W → List Cell → Option (Rs W)} (hc : CallR X (.type T) r) (hs : CaS X.kx c r f) (hg : Gl X x) (hm : X.mg x = none) (hv : bootBuiltins x = some (.type T)) (ha : PA X (e :: es) (tA X.kx c aa))
    (hn : x ≠ "__name__" := by decide) (hdb : (x == ("__debug__" : Str)) = false := by decide) (he : starEach (e :: es) X.env = (false, eval e X.env) :: starEach es X.env := by rfl) (hpl : (backTo pos (starEach es X.env)).any (·.1) = false := by rfl) :
    PE X (.Call (.Name x p) (e :: es) [] pos) (tE X.kx c (mCall f aa)) := (pe_callTy hc hg hm hv ha hn hdb he hpl).imp fun _ _ _ h => tCB_of hs h
end
end Sm
namespace Sm
open PySem PySem.Spec PyProof.Rows L2

/-! ### dicts that do not change -/
def DkR (K : Kx) (H : Hp) (a : Addr) (us : List (Key × V)) : Prop := Rd H a (.dK us) ∨ KD K a us
theorem FD.r {K : Kx} {H : Hp} {L : Addr → Prop} {a : Addr} {us : List (Key × V)} (h : FD K H L a us) : DkR K H a us := by
  rcases h with h | h
  · exact .inl (.inl h.1)
  · exact .inr h
theorem dkr_facts {X : Cx} {pins : List (Addr × Obj)} {σ : L2.St} {H : Hp} {s : Shared} {a : Addr} {us : List (Key × V)} (I : Inv X pins σ H s) (h : DkR X.kx H a us) :
    us.length ≤ sizeLine ∧ (a == sysModules) = false ∧ ∃ vs, KV us vs ∧ s.heap.DictOf (mixKind X.prog X.w) a vs := by
  rcases h with h | ⟨h1, h2, vs, h3, h4⟩
  · exact dk_rd I.hok h
  · exact ⟨h1, h2, vs, h3, h4 _ I.kIn⟩
abbrev rFdIx (K : Kx) : R2 := fun x y H Q => ∃ a us k v, x = .ref a ∧ y = kV k ∧ DkR K H a us ∧ valV us k = some v ∧ Q v H
theorem ix_fd {X : Cx} : IxR X (rFdIx X.kx) := by
  intro value slice pins s σ H x y v u Q I rx ry h hs
  obtain ⟨a, us, k, z, rfl, rfl, g, l, q⟩ := h
  obtain rfl : v = Value.ref a := rx
  obtain ⟨hz, hd, vs, rel, dd⟩ := dkr_facts I g
  obtain ⟨w', hw, rw'⟩ := RelO.some_of (v := z) (o := valueAt vs k) (by rw [← l]; exact rel.val k)
  exact tail_any dd.typeIs PySem.F.slot_dict_getitem.lookup (wpAny_getItem_of (kV_is ry) dd.mapOf hw ⟨z, H, I.tok _, rw', q⟩) hs
abbrev rFdIn (K : Kx) (neg : Bool) : R2 := fun y x H Q => ∃ a us k, x = .ref a ∧ y = kV k ∧ DkR K H a us ∧ Q (.bl (if neg then !(valV us k).isSome else (valV us k).isSome)) H
theorem op_fdin {X : Cx} : OpR X (compareOp .In) (rFdIn X.kx false) := by
  intro pins s σ H x y v u Q I rx ry h
  obtain ⟨a, us, k, rfl, rfl, g, q⟩ := h
  obtain rfl : u = Value.ref a := ry
  obtain ⟨hz, hd, vs, rel, dd⟩ := dkr_facts I g
  refine wpAny_in_of (kV_is rx) hd dd.mapOf ?_
  rw [← (rel.val k).isSome_eq]
  exact ⟨.bl (valV us k).isSome, H, I.tok _, rfl, q⟩
theorem op_fdnotin {X : Cx} : OpR X (compareOp .NotIn) (rFdIn X.kx true) := by
  intro pins s σ H x y v u Q I rx ry h
  obtain ⟨a, us, k, rfl, rfl, g, q⟩ := h
  obtain rfl : u = Value.ref a := ry
  obtain ⟨hz, hd, vs, rel, dd⟩ := dkr_facts I g
  refine wpAny_notIn_of (kV_is rx) hd dd.mapOf ?_
  rw [← (rel.val k).isSome_eq]
  exact ⟨.bl (!(valV us k).isSome), H, I.tok _, rfl, q⟩
def valD (kvs : List (PyData × PyData)) (k : Key) : Option PyData := match kvs with
  | [] => none
  | (q, d) :: r => if keyOf q = some k then some d else valD r k
theorem valD_ok {K : Kx} {H : Hp} {L : Addr → Prop} {k : Key} : ∀ (kvs : List (PyData × PyData)) {us : List (Key × V)}, RDk K H L kvs us → (∀ d, valD kvs k = some d → ∃ v, valV us k = some v ∧ RD K H L d v) ∧ (valD kvs k = none → valV us k = none) := by
  intro kvs
  induction kvs with
  | nil =>
    intro us h
    have h : us = [] := h
    subst h
    exact ⟨fun d e => (nomatch e), fun _ => rfl⟩
  | cons p r ih =>
    intro us h
    obtain ⟨q, d⟩ := p
    obtain ⟨kk, v, us', rfl, h1, h2, h3⟩ := h
    have ih := ih h3
    by_cases e : kk = k
    · subst e
      refine ⟨fun d' e' => ?_, fun e' => ?_⟩
      · unfold valD at e'
        rw [if_pos h1] at e'
        cases e'
        exact ⟨v, valV_pos rfl, h2⟩
      · unfold valD at e'
        rw [if_pos h1] at e'
        cases e'
    · have hne : ¬ keyOf q = some k := fun z => e (Option.some.inj (h1.symm.trans z))
      refine ⟨fun d' e' => ?_, fun e' => ?_⟩
      · unfold valD at e'
        rw [if_neg hne] at e'
        rw [valV_neg (p := (kk, v)) e]
        exact ih.1 _ e'
      · unfold valD at e'
        rw [if_neg hne] at e'
        rw [valV_neg (p := (kk, v)) e]
        exact ih.2 e'
def fIx2 (w i : W) (cs : List Cell) : Option (Rs W) := match w, i with
  | .d (.dict kvs), .d i => (match keyOf i with
    | some k => (match valD kvs k with
      | some d => some (.ok (.d d) cs)
      | none => none)
    | none => none)
  | w, i => fIx w i cs
theorem os_ix2 {K : Kx} {c : Cg} : OpS K c (fun x y H Q => rIxAll K.K x y H Q ∨ rFdIx K x y H Q) fIx2 := by
  intro La σ H ρ cs x y v u Q R rx ry q
  unfold fIx2 at q
  split at q
  · rename_i kvs i
    split at q
    · rename_i k hk
      split at q
      · rename_i d hd
        obtain ⟨a, us, rfl, h1, h2⟩ := rx
        obtain ⟨t, h3, h4⟩ := (valD_ok kvs h2).1 d hd
        exact .inr ⟨a, us, k, t, rfl, keyOf_ok ry hk, h1.r, h3, Post.here q R h4⟩
      · exact False.elim q
    · exact False.elim q
  · exact .inl (os_ix La σ H ρ cs _ _ v u Q R rx ry q)
theorem sv_ix {X : Cx} {c : Cg} {a b : Expr} {pos : Pos} {ma mb : ES} {k : Nat} (hr : Room k X.A) (ha : PE X a (tE X.kx c ma)) (hb : PE X b (tE X.kx c mb)) (hp : PlainIx b := by exact fun _ _ => rfl) : PE X (.Subscript a b pos) (tE X.kx c (m2 fIx2 ma mb)) :=
  se_ix ((ix_seq.or (ix_dict hr.hu)).or ix_fd) os_ix2 ha hb hp
def fIn2 (neg : Bool) (x y : W) (cs : List Cell) : Option (Rs W) := match x, y with
  | .d i, .d (.dict kvs) => (match keyOf i with
    | some k => some (.ok (.d (.bool (if neg then !(valD kvs k).isSome else (valD kvs k).isSome))) cs)
    | none => none)
  | x, y => fIn neg x y cs
theorem os_in2 {K : Kx} {c : Cg} {neg : Bool} : OpS K c (fun x y H Q => rInAll neg K.K x y H Q ∨ rFdIn K neg x y H Q) (fIn2 neg) := by
  intro La σ H ρ cs x y v u Q R rx ry q
  unfold fIn2 at q
  split at q
  · rename_i i kvs
    split at q
    · rename_i k hk
      obtain ⟨a, us, rfl, h1, h2⟩ := ry
      refine .inr ⟨a, us, k, rfl, keyOf_ok rx hk, h1.r, ?_⟩
      have e : (valV us k).isSome = (valD kvs k).isSome := by
        cases hd : valD kvs k with
        | none => rw [(valD_ok kvs h2).2 hd]; rfl
        | some d =>
          obtain ⟨t, h3, _⟩ := (valD_ok kvs h2).1 d hd
          rw [h3]
          rfl
      rw [e]
      exact Post.here q R rfl
    · exact False.elim q
  · exact .inl (os_in La σ H ρ cs _ _ v u Q R rx ry q)
section
variable {X : Cx} {c : Cg} {k : Nat}
theorem cs_in2 (hr : Room k X.A) : CmpS X c .In (fIn2 false) := ⟨_, ((op_inD hr.u65).or (op_in_seq.or (op_in_str.or (op_din hr.hu)))).or op_fdin, os_in2⟩
theorem cs_notin2 (hr : Room k X.A) : CmpS X c .NotIn (fIn2 true) := ⟨_, ((op_notInD hr.u65).or (op_notIn_seq.or (op_notin_str.or (op_dnotin hr.hu)))).or op_fdnotin, os_in2⟩
end
/-! ### built-in calls -/
def bLen (ws : List W) (cs : List Cell) : Option (Rs W) := match ws with
  | [.d (.str y)] => if y.length ≤ sizeLine then some (.ok (.d (.int y.length)) cs) else none
  | [w] => (match asL w cs with
    | some xs => some (.ok (.d (.int xs.length)) cs)
    | none => match asT w with
      | some xs => some (.ok (.d (.int xs.length)) cs)
      | none => match w with
        | .r n => (match cs[n]? with
          | some (.dK kvs) => some (.ok (.d (.int kvs.length)) cs)
          | _ => none)
        | _ => none)
  | _ => none
def dI (f : List PyData → Option PyData) (ws : List W) (cs : List Cell) : Option (Rs W) := match toD ws with
  | some ds => ret? (f ds) cs
  | none => none
def gInt : List PyData → Option PyData
  | [.int i] => some (.int i)
  | [.bool b] => some (.int (if b then 1 else 0))
  | _ => none
def gAbs : List PyData → Option PyData
  | [.int i] => some (.int (if i < 0 then -i else i))
  | _ => none
def gMax2 : List PyData → Option PyData
  | [.int i, .int j] => some (.int (if j > i then j else i))
  | _ => none
def gMin2 : List PyData → Option PyData
  | [.int i, .int j] => some (.int (if j < i then j else i))
  | _ => none
def toInts : List PyData → Option (List Int)
  | [] => some []
  | .int i :: r => match toInts r with
    | some is => some (i :: is)
    | none => none
  | _ :: _ => none
def maxI : List Int → Int
  | [] => 0
  | [i] => i
  | i :: r => max i (maxI r)
def minI : List Int → Int
  | [] => 0
  | [i] => i
  | i :: r => min i (minI r)
theorem toInts_map : ∀ (ds : List PyData) {is : List Int}, toInts ds = some is → ds = is.map .int := by
  intro ds
  induction ds with
  | nil =>
    intro is h
    cases h
    rfl
  | cons d ds ih =>
    intro is h
    cases d with
    | int i =>
      unfold toInts at h
      split at h
      · cases h
        rw [ih ‹_›]
        rfl
      · cases h
    | none => exact nomatch h
    | bool _ => exact nomatch h
    | str _ => exact nomatch h
    | list _ => exact nomatch h
    | tuple _ => exact nomatch h
    | dict _ => exact nomatch h
theorem maxI_uniq : ∀ (is : List Int) {m : Int}, is ≠ [] → m ∈ is → (∀ y ∈ is, y ≤ m) → m = maxI is
  | [], _, h, _, _ => absurd rfl h
  | [i], m, _, h, _ => by
    have h : m = i := by simpa using h
    exact h
  | i :: j :: r, m, _, h, g => by
    show m = max i (maxI (j :: r))
    have key : ∀ y ∈ j :: r, y ≤ maxI (j :: r) := by
      have : ∀ (l : List Int), l ≠ [] → (∀ y ∈ l, y ≤ maxI l) := by
        intro l
        induction l with
        | nil => intro h; exact absurd rfl h
        | cons a t ih =>
          intro _ y hy
          cases t with
          | nil =>
            have : y = a := by simpa using hy
            rw [this]
            exact Int.le_refl _
          | cons b u =>
            show y ≤ max a (maxI (b :: u))
            rcases List.mem_cons.mp hy with e | e
            · rw [e]; omega
            · have := ih (by simp) y e
              omega
      exact this _ (by simp)
    have inn : maxI (j :: r) ∈ j :: r := by
      have : ∀ (l : List Int), l ≠ [] → maxI l ∈ l := by
        intro l
        induction l with
        | nil => intro h; exact absurd rfl h
        | cons a t ih =>
          intro _
          cases t with
          | nil => simp [maxI]
          | cons b u =>
            show max a (maxI (b :: u)) ∈ a :: b :: u
            have := ih (by simp)
            by_cases h : a ≤ maxI (b :: u)
            · rw [Int.max_eq_right h]
              exact List.mem_cons_of_mem _ this
            · rw [Int.max_eq_left (by omega)]
              exact List.mem_cons_self
      exact this _ (by simp)
    have h1 := g _ (List.mem_cons_of_mem i inn)
    have h2 := g i List.mem_cons_self
    rcases List.mem_cons.mp h with e | e
    · subst e; omega
    · have := key m e
      omega
def bMaxL (ws : List W) (cs : List Cell) : Option (Rs W) := match ws with
  | [w] => (match asL w cs with
    | some xs => (match toD xs with
      | some ds => (match toInts ds with
        | some (i :: is) => some (.ok (.d (.int (maxI (i :: is)))) cs)
        | _ => none)
      | none => none)
    | none => none)
  | _ => none
def bSum (ws : List W) (cs : List Cell) : Option (Rs W) := match ws with
  | [w] => (match asL w cs with
    | some xs => (match toD xs with
      | some ds => (match toInts ds with
        | some is => some (.ok (.d (.int is.sum)) cs)
        | none => none)
      | none => none)
    | none => none)
  | _ => none
section
variable {K : Kx} {c : Cg}
theorem RWs.one {H : Hp} {L : Addr → Prop} {ρ : List Addr} {w : W} {vs : List V} (h : RWs K H L ρ [w] vs) : ∃ v, vs = [v] ∧ RW K H L ρ w v := by
  match h with
  | .cons r .nil => exact ⟨_, rfl, r⟩
abbrev rLenAll (K : PySem.W.Frag) : List V → Hp → VK → Prop := fun xs H Q => (∃ x n, xs = [x] ∧ LenV K x H n ∧ Q (.int n) H) ∨ ∃ a kvs, xs = [V.ref a] ∧ H a = some (.dK kvs) ∧ Q (.int kvs.length) H
theorem ca_len : CaS K c (rLenAll K.K) bLen := by
  intro La σ H ρ cs xs vs Q R r q
  unfold bLen at q
  split at q
  · split at q
    · rename_i y hl
      obtain ⟨v, rfl, r1⟩ := r.one
      have r1 : v = .str y := r1
      subst r1
      exact .inl ⟨.str y, y.length, rfl, ⟨hl, rfl⟩, Post.here q R rfl⟩
    · exact False.elim q
  · rename_i w _
    obtain ⟨v, rfl, r1⟩ := r.one
    split at q
    · rename_i ws hw
      obtain ⟨a, us, rfl, h1, h2⟩ := asL_ok R r1 hw
      refine .inl ⟨.ref a, us.length, rfl, .inl ⟨us, h1, rfl⟩, ?_⟩
      rw [h2.len] at q
      exact Post.here q R rfl
    · split at q
      · rename_i ws hw
        obtain ⟨a, us, rfl, h1, h2⟩ := asT_ok r1 hw
        refine .inl ⟨.ref a, us.length, rfl, .inr ⟨us, h1, rfl⟩, ?_⟩
        rw [h2.len] at q
        exact Post.here q R rfl
      · split at q
        · split at q
          · rename_i kvs hc
            obtain ⟨a, h1, rfl⟩ := r1
            obtain ⟨us, h2, h3⟩ := R.cel _ _ a hc h1
            refine .inr ⟨a, us, rfl, h2, ?_⟩
            rw [Paired.length h3] at q
            exact Post.here q R rfl
          · exact False.elim q
        · exact False.elim q
  · exact False.elim q
/-- a built-in on data -/
theorem ca_data {r : List V → Hp → VK → Prop} {f : List PyData → Option PyData}
    (h : ∀ (H : Hp) (L : Addr → Prop) (ds : List PyData) (z : PyData) (vs : List V) (Q : V → Hp → Prop), RDs K H L ds vs → f ds = some z → (∀ v, RD K H L z v → Q v H) → r vs H Q) : CaS K c r (dI f) := by
  intro La σ H ρ cs xs vs Q R rx q
  unfold dI at q
  split at q
  · rename_i ds hd
    cases e : f ds with
    | none =>
      rw [e] at q
      exact False.elim q
    | some z =>
      rw [e] at q
      exact h H _ ds z vs Q (rx.toRDs hd) e fun v rv => Post.here q R rv
  · exact False.elim q
theorem RDs.one {H : Hp} {L : Addr → Prop} {d : PyData} {vs : List V} (h : RDs K H L [d] vs) : ∃ v, vs = [v] ∧ RD K H L d v := by
  obtain ⟨v, r, rfl, h1, h2⟩ := h
  have h2 : r = [] := h2
  exact ⟨v, by rw [h2], h1⟩
theorem RDs.two {H : Hp} {L : Addr → Prop} {d e : PyData} {vs : List V} (h : RDs K H L [d, e] vs) : ∃ v u, vs = [v, u] ∧ RD K H L d v ∧ RD K H L e u := by
  obtain ⟨v, r, rfl, h1, h2⟩ := h
  obtain ⟨u, rfl, h3⟩ := RDs.one h2
  exact ⟨v, u, rfl, h1, h3⟩
theorem ca_int : CaS K c (fun xs H Q => (∃ i, xs = [.int i] ∧ Q (.int i) H) ∨ ∃ k, xs = [.bl k] ∧ Q (.int (if k then 1 else 0)) H) (dI gInt) := ca_data fun H L ds z vs Q r e q => by
  unfold gInt at e
  split at e
  · cases e
    obtain ⟨v, rfl, h⟩ := r.one
    have h : v = .int _ := h
    subst h
    exact .inl ⟨_, rfl, q _ rfl⟩
  · cases e
    obtain ⟨v, rfl, h⟩ := r.one
    have h : v = .bl _ := h
    subst h
    exact .inr ⟨_, rfl, q _ rfl⟩
  · cases e
theorem ca_abs : CaS K c (fun xs H Q => ∃ i, xs = [.int i] ∧ Q (.int (if i < 0 then -i else i)) H) (dI gAbs) := ca_data fun H L ds z vs Q r e q => by
  unfold gAbs at e
  split at e
  · cases e
    obtain ⟨v, rfl, h⟩ := r.one
    have h : v = .int _ := h
    subst h
    exact ⟨_, rfl, q _ rfl⟩
  · cases e
theorem ca_max2 : CaS K c (fun xs H Q => ∃ i j, xs = [.int i, .int j] ∧ Q (.int (if j > i then j else i)) H) (dI gMax2) := ca_data fun H L ds z vs Q r e q => by
  unfold gMax2 at e
  split at e
  · cases e
    obtain ⟨v, u, rfl, h, g⟩ := r.two
    have h : v = .int _ := h
    have g : u = .int _ := g
    subst h g
    exact ⟨_, _, rfl, q _ rfl⟩
  · cases e
theorem ca_min2 : CaS K c (fun xs H Q => ∃ i j, xs = [.int i, .int j] ∧ Q (.int (if j < i then j else i)) H) (dI gMin2) := ca_data fun H L ds z vs Q r e q => by
  unfold gMin2 at e
  split at e
  · cases e
    obtain ⟨v, u, rfl, h, g⟩ := r.two
    have h : v = .int _ := h
    have g : u = .int _ := g
    subst h g
    exact ⟨_, _, rfl, q _ rfl⟩
  · cases e
theorem ca_maxL : CaS K c (rMax K.K) bMaxL := by
  intro La σ H ρ cs xs vs Q R r q
  unfold bMaxL at q
  split at q
  · obtain ⟨v, rfl, r1⟩ := r.one
    split at q
    · rename_i ws hw
      obtain ⟨a, us, rfl, h1, h2⟩ := asL_ok R r1 hw
      split at q
      · rename_i ds hd
        have h2 := h2.toRDs hd
        split at q
        · rename_i i is hi
          have e := toInts_map ds hi
          subst e
          have e := RDs.ints h2
          subst e
          refine ⟨a, i :: is, rfl, h1, by simp, fun m hm hle => ?_⟩
          rw [maxI_uniq (i :: is) (by simp) hm hle]
          exact Post.here q R rfl
        · exact False.elim q
      · exact False.elim q
    · exact False.elim q
  · exact False.elim q
theorem ca_sum : CaS K c (rSum K.K) bSum := by
  intro La σ H ρ cs xs vs Q R r q
  unfold bSum at q
  split at q
  · obtain ⟨v, rfl, r1⟩ := r.one
    split at q
    · rename_i ws hw
      obtain ⟨a, us, rfl, h1, h2⟩ := asL_ok R r1 hw
      split at q
      · rename_i ds hd
        have h2 := h2.toRDs hd
        split at q
        · rename_i is hi
          have e := toInts_map ds hi
          subst e
          have e := RDs.ints h2
          subst e
          exact ⟨a, is, rfl, h1, Post.here q R rfl⟩
        · exact False.elim q
      · exact False.elim q
    · exact False.elim q
  · exact False.elim q
end
section
variable {X : Cx} {c : Cg} {e : Expr} {es : List Expr} {pos p : Pos} {aa : AS}
theorem sv_len (hg : Gl X "len") (hm : X.mg "len" = none) (ha : PA X (e :: es) (tA X.kx c aa)) (he : starEach (e :: es) X.env = (false, eval e X.env) :: starEach es X.env := by rfl) (hpl : (backTo pos (starEach es X.env)).any (·.1) = false := by rfl) :
    PE X (.Call (.Name "len" p) (e :: es) [] pos) (tE X.kx c (mCall bLen aa)) := sv_callB (call_len.or call_lenD) ca_len hg hm boot_len ha (by decide) (by decide) he hpl
theorem sv_int (hg : Gl X "int") (hm : X.mg "int" = none) (ha : PA X (e :: es) (tA X.kx c aa)) (he : starEach (e :: es) X.env = (false, eval e X.env) :: starEach es X.env := by rfl) (hpl : (backTo pos (starEach es X.env)).any (·.1) = false := by rfl) :
    PE X (.Call (.Name "int" p) (e :: es) [] pos) (tE X.kx c (mCall (dI gInt) aa)) := sv_callTy call_int1 ca_int hg hm (by decide +kernel) ha (by decide) (by decide) he hpl
theorem sv_abs (hg : Gl X "abs") (hm : X.mg "abs" = none) (ha : PA X (e :: es) (tA X.kx c aa)) (he : starEach (e :: es) X.env = (false, eval e X.env) :: starEach es X.env := by rfl) (hpl : (backTo pos (starEach es X.env)).any (·.1) = false := by rfl) :
    PE X (.Call (.Name "abs" p) (e :: es) [] pos) (tE X.kx c (mCall (dI gAbs) aa)) := sv_callB call_abs ca_abs hg hm (by decide +kernel) ha (by decide) (by decide) he hpl
theorem sv_max2 (hc : X.calm = true) (hg : Gl X "max") (hm : X.mg "max" = none) (ha : PA X (e :: es) (tA X.kx c aa)) (he : starEach (e :: es) X.env = (false, eval e X.env) :: starEach es X.env := by rfl) (hpl : (backTo pos (starEach es X.env)).any (·.1) = false := by rfl) :
    PE X (.Call (.Name "max" p) (e :: es) [] pos) (tE X.kx c (mCall (dI gMax2) aa)) := sv_callB (call_max2 hc) ca_max2 hg hm (by decide +kernel) ha (by decide) (by decide) he hpl
theorem sv_min2 (hc : X.calm = true) (hg : Gl X "min") (hm : X.mg "min" = none) (ha : PA X (e :: es) (tA X.kx c aa)) (he : starEach (e :: es) X.env = (false, eval e X.env) :: starEach es X.env := by rfl) (hpl : (backTo pos (starEach es X.env)).any (·.1) = false := by rfl) :
    PE X (.Call (.Name "min" p) (e :: es) [] pos) (tE X.kx c (mCall (dI gMin2) aa)) := sv_callB (call_min2 hc) ca_min2 hg hm (by decide +kernel) ha (by decide) (by decide) he hpl
theorem sv_maxL (hc : X.calm = true) (hg : Gl X "max") (hm : X.mg "max" = none) (ha : PA X (e :: es) (tA X.kx c aa)) (he : starEach (e :: es) X.env = (false, eval e X.env) :: starEach es X.env := by rfl) (hpl : (backTo pos (starEach es X.env)).any (·.1) = false := by rfl) :
    PE X (.Call (.Name "max" p) (e :: es) [] pos) (tE X.kx c (mCall bMaxL aa)) := sv_callB (cr_max hc) ca_maxL hg hm (by decide +kernel) ha (by decide) (by decide) he hpl
theorem sv_sum (hc : X.calm = true) (hg : Gl X "sum") (hm : X.mg "sum" = none) (ha : PA X (e :: es) (tA X.kx c aa)) (he : starEach (e :: es) X.env = (false, eval e X.env) :: starEach es X.env := by rfl) (hpl : (backTo pos (starEach es X.env)).any (·.1) = false := by rfl) :
    PE X (.Call (.Name "sum" p) (e :: es) [] pos) (tE X.kx c (mCall bSum aa)) := sv_callB (cr_sum hc) ca_sum hg hm (by decide +kernel) ha (by decide) (by decide) he hpl
end
/-! ### slices -/
abbrev OS := MS (Option Int)
def mNo : OS := fun _ cs => some (.ok none cs)
def mPt (a : ES) : OS := fun s cs => bnd (a s cs) fun x cs => match x with
  | .d (.int i) => some (.ok (some i) cs)
  | _ => none
def cutA {α : Type} (xs : List α) (lo hi : Option Int) : List α := (xs.drop (HT.sIx xs.length 0 lo)).take (HT.sIx xs.length xs.length hi - HT.sIx xs.length 0 lo)
def fSl (w : W) (lo hi : Option Int) (cs : List Cell) : Option (Rs W) := match w with
  | .d (.str z) => if z.length ≤ sizeLine then some (.ok (.d (.str (cutS z lo hi))) cs) else none
  | .d (.tuple ds) => some (.ok (.d (.tuple (cutA ds lo hi))) cs)
  | w => match asL w cs with
    | some ws => (match toD ws with
      | some ds => some (.ok (.d (.list (cutA ds lo hi))) cs)
      | none => none)
    | none => none
def mSl (a : ES) (lo hi : OS) : ES := fun s cs => bnd (a s cs) fun x cs => bnd (lo s cs) fun l cs => bnd (hi s cs) fun h cs => fSl x l h cs
abbrev RRo : Hp → (Addr → Prop) → List Addr → Option Int → Option Int → Prop := fun _ _ _ a b => a = b
def tO (K : Kx) (c : Cg) (m : OS) : TO := fun σ H Q => ∃ La ρ cs s, Rl K La H ρ cs ∧ RS K H (Lv La ρ cs) ρ s σ ∧ Post K c La σ H ρ cs RRo Q (m s cs)
theorem _root_.L2.PO.imp {X : Cx} {e : Option Expr} {t t' : TO} (h : PO X e t) (i : ∀ σ H Q, t' σ H Q → t σ H Q) : PO X e t' := ⟨fun pins s σ H Q I hw => h.run pins s σ H Q I (i σ H Q hw)⟩
theorem RDs.cut {K : Kx} {H : Hp} {L : Addr → Prop} {ds : List PyData} {vs : List V} (h : RDs K H L ds vs) (lo hi : Option Int) : RDs K H L (cutA ds lo hi) (cutV vs lo hi) := by
  unfold cutA cutV
  rw [h.length]
  exact (h.drop _).take _
theorem cutA_whole {α : Type} {ds : List α} {lo hi : Option Int} (h : HT.sIx ds.length 0 lo = 0 ∧ HT.sIx ds.length ds.length hi = ds.length) : cutA ds lo hi = ds := by
  unfold cutA
  rw [h.1, h.2, List.drop_zero, Nat.sub_zero, List.take_length]
abbrev rSlAll (K : PySem.W.Frag) : V → Option Int → Option Int → Hp → VK → Prop := fun x lo hi H Q => rSlL K x lo hi H Q ∨ rSlA K x lo hi H Q ∨ rSlS x lo hi H Q
theorem fSl_ok {K : Kx} {c : Cg} {La : Addr → Prop} {σ : L2.St} {H : Hp} {ρ : List Addr} {cs : List Cell} {x : W} {v : V} {lo hi : Option Int} {Q : V → Hp → Prop} (R : Rl K La H ρ cs) (rx : RW K H (Lv La ρ cs) ρ x v)
    (q : Post K c La σ H ρ cs (RRw K) Q (fSl x lo hi cs)) : rSlAll K.K v lo hi H Q := by
  unfold fSl at q
  split at q
  · split at q
    · rename_i z hl
      have rx : v = .str z := rx
      exact .inr (.inr ⟨z, rx, hl, Post.here q R rfl⟩)
    · exact False.elim q
  · rename_i ds
    obtain ⟨a, xs, rfl, h1, h2⟩ := rx
    have hl := h2.length
    refine .inr (.inl ⟨a, xs, rfl, h1.sq, fun hw => ?_, fun hw p hp => ?_⟩)
    · rw [hl] at hw
      rw [cutA_whole hw] at q
      exact Post.here q R ⟨a, xs, rfl, h1, h2⟩
    · exact Post.newd q R hp fun nl k => ⟨p, _, rfl, .inl ⟨upd_same, nl⟩, (h2.cut lo hi).go k⟩
  · split at q
    · rename_i ws hw
      obtain ⟨a, us, rfl, h1, h2⟩ := asL_ok R rx hw
      split at q
      · rename_i ds hd
        have h2 := h2.toRDs hd
        exact .inl ⟨a, us, rfl, h1, fun p hp => Post.newd q R hp fun nl k => ⟨p, _, rfl, upd_same, nl, (h2.cut lo hi).go k⟩⟩
      · exact False.elim q
    · exact False.elim q
theorem tSl_of {K : Kx} {c : Cg} {σ : L2.St} {H : Hp} {Q : V → Hp → Prop} {ma : ES} {lo hi : OS} (h : tE K c (mSl ma lo hi) σ H Q) : tSl (rSlAll K.K) (tE K c ma) (tO K c lo) (tO K c hi) σ H Q := by
  obtain ⟨La, ρ, cs, s, R, S, h⟩ := h
  refine ⟨La, ρ, cs, s, R, S, (Post.bind h).imp fun v H1 ⟨x, ρ1, cs1, R1, G1, r1, h1⟩ => ?_⟩
  have S1 := S.go G1.keep G1.pre
  refine ⟨La, ρ1, cs1, s, R1, S1, (Post.bind (RR := RRo) h1).imp fun l H2 ⟨l', ρ2, cs2, R2, G2, r2, h2⟩ => ?_⟩
  have r2 : l' = l := r2
  subst r2
  have S2 := S1.go G2.keep G2.pre
  refine ⟨La, ρ2, cs2, s, R2, S2, (Post.bind (RR := RRo) h2).imp fun u H3 ⟨u', ρ3, cs3, R3, G3, r3, h3⟩ => ?_⟩
  have r3 : u' = u := r3
  subst r3
  exact fSl_ok R3 ((r1.go G2.keep G2.pre).go G3.keep G3.pre) h3
section
variable {X : Cx} {c : Cg} {e : Expr} {pos p2 : Pos} {ma : ES} {lo hi : OS} {el eh : Option Expr}
theorem so_no : PO X none (tO X.kx c mNo) := po_none.imp fun _ _ _ ⟨La, ρ, cs, s, R, S, h⟩ => h none _ ρ R Go.refl rfl
theorem so_pt (h : PE X e (tE X.kx c ma)) : PO X (some e) (tO X.kx c (mPt ma)) := (po_some h).imp fun σ H Q ⟨La, ρ, cs, s, R, S, h⟩ =>
  ⟨La, ρ, cs, s, R, S, (Post.bind h).imp fun v H1 ⟨x, ρ1, cs1, R1, G1, r1, h1⟩ => by
    split at h1
    · exact ⟨_, r1, h1 _ H1 ρ1 R1 Go.refl rfl⟩
    · exact False.elim h1⟩
theorem sv_sl (ha : PE X e (tE X.kx c ma)) (hl : PO X el (tO X.kx c lo)) (hh : PO X eh (tO X.kx c hi)) : PE X (.Subscript e (.Slice el eh none p2) pos) (tE X.kx c (mSl ma lo hi)) := (pe_slice (sl_list.or (sl_tupA.or sl_str)) ha hl hh).imp fun _ _ _ h => tSl_of h
end
end Sm
namespace Sm
open PySem PySem.Spec PyProof.Rows L2

/-! ### statements -/
inductive So where
  | nx (s : Sg) (cs : List Cell)
  | rt (w : W) (cs : List Cell)
  | bk (s : Sg) (cs : List Cell)
  | ct (s : Sg) (cs : List Cell)
  | ex (e : Str) (fs : List (Str × W)) (s : Sg) (cs : List Cell)
abbrev SS := Sg → List Cell → Option So
def bndS {α : Type} (o : Option (Rs α)) (s : Sg) (f : α → List Cell → Option So) : Option So := match o with
  | some (.ok a cs) => f a cs
  | some (.ex e fs cs) => some (.ex e fs s cs)
  | none => none
@[simp] theorem bndS_ok {α : Type} (a : α) (cs : List Cell) (s : Sg) (f : α → List Cell → Option So) : bndS (some (.ok a cs)) s f = f a cs := rfl
@[simp] theorem bndS_ex {α : Type} (e : Str) (fs : List (Str × W)) (cs : List Cell) (s : Sg) (f : α → List Cell → Option So) : bndS (some (.ex e fs cs)) s f = some (.ex e fs s cs) := rfl
@[simp] theorem bndS_none {α : Type} (s : Sg) (f : α → List Cell → Option So) : bndS none s f = none := rfl
def PostS (K : Kx) (c : Cg) (La : Addr → Prop) (H : Hp) (ρ : List Addr) (cs : List Cell) (D : Ends) : Option So → Prop
  | some (.nx s cs') => ∀ σ' H' ρ', Rl K La H' ρ' cs' → Go La H ρ cs H' ρ' cs' → RS K H' (Lv La ρ' cs') ρ' s σ' → D.nx σ' H'
  | some (.bk s cs') => ∀ σ' H' ρ', Rl K La H' ρ' cs' → Go La H ρ cs H' ρ' cs' → RS K H' (Lv La ρ' cs') ρ' s σ' → D.bk σ' H'
  | some (.ct s cs') => ∀ σ' H' ρ', Rl K La H' ρ' cs' → Go La H ρ cs H' ρ' cs' → RS K H' (Lv La ρ' cs') ρ' s σ' → D.ct σ' H'
  | some (.rt w cs') => ∀ v H' ρ', Rl K La H' ρ' cs' → Go La H ρ cs H' ρ' cs' → RW K H' (Lv La ρ' cs') ρ' w v → D.rt v H'
  | some (.ex e fs s cs') => ∀ C d us σ' H' ρ', c.cl e = some C → Rl K La H' ρ' cs' → Go La H ρ cs H' ρ' cs' → RS K H' (Lv La ρ' cs') ρ' s σ' → H' d = some (.xd us) → Paired (fun p q => p.1 = q.1 ∧ RW K H' (Lv La ρ' cs') ρ' p.2 q.2) fs us → c.wx (.ref C) (some d) σ' H'
  | none => False
section
variable {K : Kx} {c : Cg} {La : Addr → Prop} {H H1 : Hp} {ρ ρ1 : List Addr} {cs cs1 : List Cell} {D D' : Ends}
theorem PostS.shift {o : Option So} (g : Go La H ρ cs H1 ρ1 cs1) (h : PostS K c La H ρ cs D o) : PostS K c La H1 ρ1 cs1 D o := by
  match o, h with
  | some (.nx s cs'), h => exact fun σ' H' ρ' R G r => h σ' H' ρ' R (g.trans G) r
  | some (.bk s cs'), h => exact fun σ' H' ρ' R G r => h σ' H' ρ' R (g.trans G) r
  | some (.ct s cs'), h => exact fun σ' H' ρ' R G r => h σ' H' ρ' R (g.trans G) r
  | some (.rt w cs'), h => exact fun σ' H' ρ' R G r => h σ' H' ρ' R (g.trans G) r
  | some (.ex e fs s cs'), h => exact fun C d us σ' H' ρ' hc R G hs hd hp => h C d us σ' H' ρ' hc R (g.trans G) hs hd hp
theorem PostS.bind {α β : Type} {RR : Hp → (Addr → Prop) → List Addr → α → β → Prop} {σ : L2.St} {s : Sg} {o : Option (Rs α)} {f : α → List Cell → Option So} (S : RS K H (Lv La ρ cs) ρ s σ) (h : PostS K c La H ρ cs D (bndS o s f)) :
    Post K c La σ H ρ cs RR (fun b H1 => ∃ a ρ1 cs1, Rl K La H1 ρ1 cs1 ∧ Go La H ρ cs H1 ρ1 cs1 ∧ RR H1 (Lv La ρ1 cs1) ρ1 a b ∧ PostS K c La H1 ρ1 cs1 D (f a cs1)) o := by
  match o, h with
  | some (.ok a cs'), h => exact fun b H' ρ' R G r => ⟨a, ρ', cs', R, G, r, PostS.shift G h⟩
  | some (.ex e fs cs'), h => exact fun C d us H' ρ' hc R G hd hp => h C d us σ H' ρ' hc R G (S.go G.keep G.pre) hd hp
def tS (K : Kx) (c : Cg) (m : SS) : TS := fun D σ H => ∃ La ρ cs s, Rl K La H ρ cs ∧ RS K H (Lv La ρ cs) ρ s σ ∧ PostS K c La H ρ cs D (m s cs)
end
def mSkip : SS := fun s cs => some (.nx s cs)
def mBrk : SS := fun s cs => some (.bk s cs)
def mCnt : SS := fun s cs => some (.ct s cs)
def mNever : SS := fun _ _ => none
def mAsg (i : Nat) (a : ES) : SS := fun s cs => bndS (a s cs) s fun x cs => some (.nx (s.set i (some x)) cs)
def mDo (a : ES) : SS := fun s cs => bndS (a s cs) s fun _ cs => some (.nx s cs)
def mRet (a : ES) : SS := fun s cs => bndS (a s cs) s fun x cs => some (.rt x cs)
def mRetN : SS := fun _ cs => some (.rt (.d .none) cs)
def mIfS (t : BS) (a b : SS) : SS := fun s cs => bndS (t s cs) s fun x cs => if x = true then a s cs else b s cs
def mSeq (a b : SS) : SS := fun s cs => match a s cs with
  | some (.nx s' cs') => b s' cs'
  | o => o
/-! targets -/
abbrev Tg := W → Sg → Option Sg
abbrev Tgs := List W → Sg → Option Sg
def gN (i : Nat) : Tg := fun w s => some (s.set i (some w))
def gNl : Tgs := fun ws s => match ws with
  | [] => some s
  | _ => none
def gCs (g : Tg) (r : Tgs) : Tgs := fun ws s => match ws with
  | w :: ws => (match g w s with
    | some s' => r ws s'
    | none => none)
  | [] => none
def gTp (n : Nat) (r : Tgs) : Tg := fun w s => match asT w with
  | some ws => if ws.length = n then r ws s else none
  | none => none
def mTg (g : Tg) (a : ES) : SS := fun s cs => bndS (a s cs) s fun x cs => match g x s with
  | some s' => some (.nx s' cs)
  | none => none
def mPar (i j : Nat) (a : AS) : SS := fun s cs => bndS (a s cs) s fun xs cs => match xs with
  | [x, y] => some (.nx ((s.set i (some x)).set j (some y)) cs)
  | _ => none
/-- a target's soundness -/
def TgS (K : Kx) (t : TG) (g : Tg) : Prop := ∀ (La : Addr → Prop) (σ : L2.St) (s s' : Sg) (H : Hp) (ρ : List Addr) (cs : List Cell) (w : W) (v : V) (Q : L2.St → Hp → Prop), Rl K La H ρ cs → RW K H (Lv La ρ cs) ρ w v → RS K H (Lv La ρ cs) ρ s σ → g w s = some s' →
  (∀ σ', RS K H (Lv La ρ cs) ρ s' σ' → Q σ' H) → t v σ H Q
def TgsS (K : Kx) (t : TGs) (g : Tgs) : Prop := ∀ (La : Addr → Prop) (σ : L2.St) (s s' : Sg) (H : Hp) (ρ : List Addr) (cs : List Cell) (ws : List W) (vs : List V) (Q : L2.St → Hp → Prop), Rl K La H ρ cs → RWs K H (Lv La ρ cs) ρ ws vs → RS K H (Lv La ρ cs) ρ s σ → g ws s = some s' →
  (∀ σ', RS K H (Lv La ρ cs) ρ s' σ' → Q σ' H) → t vs σ H Q
structure STg (X : Cx) (tg : Expr) (g : Tg) : Prop where
  ex : ∃ t, PG X tg t ∧ TgS X.kx t g
structure STgs (X : Cx) (tgs : List Expr) (g : Tgs) : Prop where
  ex : ∃ t, PGs X tgs t ∧ TgsS X.kx t g
section
variable {K : Kx} {i : Nat}
theorem tgs_name : TgS K (gName i) (gN i) := fun La σ s s' H ρ cs w v Q R r S e q => by
  cases e
  exact q _ (S.set i r)
theorem tgs_nil : TgsS K gNil gNl := fun La σ s s' H ρ cs ws vs Q R r S e q => by
  unfold gNl at e
  split at e
  · cases e
    cases r
    exact ⟨rfl, q _ S⟩
  · cases e
theorem tgs_cons {t : TG} {u : TGs} {g : Tg} {h : Tgs} (h1 : TgS K t g) (h2 : TgsS K u h) : TgsS K (gCons t u) (gCs g h) := fun La σ s s' H ρ cs ws vs Q R r S e q => by
  unfold gCs at e
  split at e
  · split at e
    · rename_i s1 hs
      cases r with
      | cons r1 r2 => exact ⟨_, _, rfl, h1 La σ s s1 H ρ cs _ _ _ R r1 S hs fun σ1 S1 => h2 La σ1 s1 s' H ρ cs _ _ Q R r2 S1 e q⟩
    · cases e
  · cases e
theorem tgs_tup {u : TGs} {h : Tgs} {n : Nat} (h2 : TgsS K u h) : TgS K (gTup K.K n u) (gTp n h) := fun La σ s s' H ρ cs w v Q R r S e q => by
  unfold gTp at e
  split at e
  · rename_i ws hw
    split at e
    · rename_i hn
      obtain ⟨a, us, rfl, k1, k2⟩ := asT_ok r hw
      exact ⟨a, us, rfl, k1, by rw [← k2.len]; exact hn, h2 La σ s s' H ρ cs ws us Q R k2 S e q⟩
    · cases e
  · cases e
end
section
variable {X : Cx}
theorem sg_name {i : Nat} {x : Str} {pos : Pos} (hN : X.N.Nodup) (hi : X.N[i]? = some x) (hx : Loc X.env.scope x) (hf : X.fn x = true ∨ X.env.scope.names.lookup x = some .local := by first | exact .inl rfl | exact .inr rfl | assumption) : STg X (.Name x pos) (gN i) :=
  ⟨_, pg_name hN hi hx hf, tgs_name⟩
theorem sg_tup {es : List Expr} {k : Nat} {g : Tgs} {n : Nat} {pos : Pos} (hc : X.calm = true) (h : STgs X es g) (hn : (assignEach es X.env).length = n := by rfl) (hst : (assignEach es X.env).findIdx? (·.1) = none := by rfl) : STg X (.Tuple es k pos) (gTp n g) := by
  obtain ⟨t, h1, h2⟩ := h.ex
  exact ⟨_, pg_tup hc h1 hn hst, tgs_tup h2⟩
theorem sg_nil : STgs X [] gNl := ⟨_, pgs_nil, tgs_nil⟩
theorem sg_cons {e : Expr} {es : List Expr} {g : Tg} {h : Tgs} (h1 : STg X e g) (h2 : STgs X es h) (hs : (assignEach (e :: es) X.env).map (·.2) = assign e X.env :: (assignEach es X.env).map (·.2) := by rfl) : STgs X (e :: es) (gCs g h) := by
  obtain ⟨t, a1, a2⟩ := h1.ex
  obtain ⟨u, b1, b2⟩ := h2.ex
  exact ⟨_, pgs_cons a1 b1 hs, tgs_cons a2 b2⟩
end
section
variable {K : Kx} {c : Cg} {D : Ends} {σ : L2.St} {H : Hp} {ma : ES} {mt : BS} {m1 m2 : SS}
theorem tNext_of (h : tS K c mSkip D σ H) : tNext D σ H := by
  obtain ⟨La, ρ, cs, s, R, S, h⟩ := h
  exact h σ H ρ R Go.refl S
theorem tBreak_of (h : tS K c mBrk D σ H) : tBreak D σ H := by
  obtain ⟨La, ρ, cs, s, R, S, h⟩ := h
  exact h σ H ρ R Go.refl S
theorem tCont_of (h : tS K c mCnt D σ H) : tCont D σ H := by
  obtain ⟨La, ρ, cs, s, R, S, h⟩ := h
  exact h σ H ρ R Go.refl S
theorem tNever_of (h : tS K c mNever D σ H) : tNever D σ H := by
  obtain ⟨La, ρ, cs, s, R, S, h⟩ := h
  exact h
theorem tAsg_of {t : TG} {g : Tg} (hg : TgS K t g) (h : tS K c (mTg g ma) D σ H) : tAsg (tE K c ma) t D σ H := by
  obtain ⟨La, ρ, cs, s, R, S, h⟩ := h
  refine ⟨La, ρ, cs, s, R, S, (PostS.bind S h).imp fun v H1 ⟨x, ρ1, cs1, R1, G1, r1, h1⟩ => ?_⟩
  split at h1
  · rename_i s' e
    exact hg La σ s s' H1 ρ1 cs1 x v _ R1 r1 (S.go G1.keep G1.pre) e fun σ' S' => h1 σ' H1 ρ1 R1 Go.refl S'
  · exact False.elim h1
theorem tPar_of {i j : Nat} {aa : AS} (h : tS K c (mPar i j aa) D σ H) : tPar i j (tA K c aa) D σ H := by
  obtain ⟨La, ρ, cs, s, R, S, h⟩ := h
  refine ⟨La, ρ, cs, s, R, S, (PostS.bind S h).imp fun vs H1 ⟨xs, ρ1, cs1, R1, G1, r1, h1⟩ => ?_⟩
  split at h1
  · rename_i x y
    cases r1 with
    | cons r2 r3 =>
      cases r3 with
      | cons r3 r4 =>
        cases r4
        exact ⟨_, _, rfl, h1 _ H1 ρ1 R1 Go.refl (((S.go G1.keep G1.pre).set i r2).set j r3)⟩
  · exact False.elim h1
theorem tSet_of {i : Nat} (h : tS K c (mAsg i ma) D σ H) : tAsg (tE K c ma) (gName i) D σ H := tAsg_of (g := gN i) tgs_name h
theorem tDrop_of (h : tS K c (mDo ma) D σ H) : tDrop (tE K c ma) D σ H := by
  obtain ⟨La, ρ, cs, s, R, S, h⟩ := h
  refine ⟨La, ρ, cs, s, R, S, (PostS.bind S h).imp fun v H1 ⟨x, ρ1, cs1, R1, G1, r1, h1⟩ => ?_⟩
  exact h1 σ H1 ρ1 R1 Go.refl (S.go G1.keep G1.pre)
theorem tRet_of (h : tS K c (mRet ma) D σ H) : tRet (tE K c ma) D σ H := by
  obtain ⟨La, ρ, cs, s, R, S, h⟩ := h
  refine ⟨La, ρ, cs, s, R, S, (PostS.bind S h).imp fun v H1 ⟨x, ρ1, cs1, R1, G1, r1, h1⟩ => ?_⟩
  exact h1 v H1 ρ1 R1 Go.refl r1
theorem tRetN_of (h : tS K c mRetN D σ H) : tRetN D σ H := by
  obtain ⟨La, ρ, cs, s, R, S, h⟩ := h
  exact h .non H ρ R Go.refl rfl
theorem tIfS_of (h : tS K c (mIfS mt m1 m2) D σ H) : tIfS (tT K c mt) (tS K c m1) (tS K c m2) D σ H := by
  obtain ⟨La, ρ, cs, s, R, S, h⟩ := h
  refine ⟨La, ρ, cs, s, R, S, (PostS.bind (RR := RRb) S h).imp fun v H1 ⟨x, ρ1, cs1, R1, G1, r1, h1⟩ => ?_⟩
  have r1 : x = v := r1
  subst r1
  cases x with
  | true => exact ⟨La, ρ1, cs1, s, R1, S.go G1.keep G1.pre, h1⟩
  | false => exact ⟨La, ρ1, cs1, s, R1, S.go G1.keep G1.pre, h1⟩
theorem tSeq_of (h : tS K c (mSeq m1 m2) D σ H) : tSeq (tS K c m1) (tS K c m2) D σ H := by
  obtain ⟨La, ρ, cs, s, R, S, h⟩ := h
  unfold mSeq at h
  refine ⟨La, ρ, cs, s, R, S, ?_⟩
  cases e : m1 s cs with
  | none =>
    rw [e] at h
    exact h
  | some o =>
    rw [e] at h
    cases o with
    | nx s' cs' => exact fun σ' H' ρ' R' G' S' => ⟨La, ρ', cs', s', R', S', PostS.shift G' h⟩
    | rt w cs' => exact h
    | bk s' cs' => exact h
    | ct s' cs' => exact h
    | ex e fs s' cs' => exact h
end
section
variable {X : Cx} {c : Cg} {e : Expr} {pos : Pos} {ma : ES} {mt : BS} {m1 m2 : SS} {st : Stmt} {rest : List Stmt}
theorem ss_nil : PSs X [] (tS X.kx c mSkip) := pss_nil.imp fun _ _ _ h => tNext_of h
theorem ss_one (h : PS X st (tS X.kx c m1)) : PSs X [st] (tS X.kx c m1) := pss_one h
theorem ss_cons (h1 : PS X st (tS X.kx c m1)) (h2 : PSs X rest (tS X.kx c m2)) : PSs X (st :: rest) (tS X.kx c (mSeq m1 m2)) := (pss_cons h1 h2).imp fun _ _ _ h => tSeq_of h
theorem ss_pass : PS X (.Pass pos) (tS X.kx c mSkip) := ps_pass.imp fun _ _ _ h => tNext_of h
theorem ss_break : PS X (.Break pos) (tS X.kx c mBrk) := ps_break.imp fun _ _ _ h => tBreak_of h
theorem ss_cont : PS X (.Continue pos) (tS X.kx c mCnt) := ps_continue.imp fun _ _ _ h => tCont_of h
theorem ss_never : PS X st (tS X.kx c mNever) := ps_never.imp fun _ _ _ h => tNever_of h
theorem ss_set {i : Nat} {x : Str} {pos' : Pos} (hN : X.N.Nodup) (hi : X.N[i]? = some x) (hx : Loc X.env.scope x) (he : PE X e (tE X.kx c ma)) (hs : swapsWith e (some (.Name x pos')) pos.line X.env = pure false := by rfl) (hf : X.fn x = true ∨ X.env.scope.names.lookup x = some .local := by first | exact .inl rfl | exact .inr rfl | assumption) :
    PS X (.Assign [.Name x pos'] e pos) (tS X.kx c (mAsg i ma)) := (ps_set hN hi hx he hs hf).imp fun _ _ _ h => tSet_of h
theorem ss_asg {tg : Expr} {g : Tg} (he : PE X e (tE X.kx c ma)) (hg : STg X tg g) (hs : swapsWithSole [tg] e pos.line X.env = pure false := by rfl) (hw : swappedStores [tg] e X.env = pure none := by rfl) (h1' : (assignEach [tg] X.env).map (·.2) = [assign tg X.env] := by rfl) : PS X (.Assign [tg] e pos) (tS X.kx c (mTg g ma)) := by
  obtain ⟨t, h1, h2⟩ := hg.ex
  exact (ps_asg he h1 hs hw h1').imp fun _ _ _ h => tAsg_of h2 h
theorem ss_par {i j : Nat} {x y : Str} {a b : Expr} {aa : AS} {px py pt : Pos} {kt k2 pt2} (hc : X.calm = true) (hN : X.N.Nodup) (hi : X.N[i]? = some x) (hj : X.N[j]? = some y) (hij : i ≠ j)
    (hx : X.env.scope.names.lookup x = some .local) (hy : X.env.scope.names.lookup y = some .local) (ha : PA X [a, b] (tA X.kx c aa))
    (hw : swappedStores [.Tuple [.Name x px, .Name y py] kt pt] (.Tuple [a, b] k2 pt2) X.env = pure (some [x, y]))
    (hs : swapsWithSole [.Tuple [.Name x px, .Name y py] kt pt] (.Tuple [a, b] k2 pt2) pos.line X.env = pure false := by rfl) :
    PS X (.Assign [.Tuple [.Name x px, .Name y py] kt pt] (.Tuple [a, b] k2 pt2) pos) (tS X.kx c (mPar i j aa)) := (ps_par hc hN hi hj hij hx hy ha hw hs).imp fun _ _ _ h => tPar_of h
theorem ss_expr (he : PE X e (tE X.kx c ma)) (hs : swapsWith e none pos.line X.env = pure false := by rfl) : PS X (.Expr e pos) (tS X.kx c (mDo ma)) := (ps_expr he hs).imp fun _ _ _ h => tDrop_of h
theorem ss_ret (he : PE X e (tE X.kx c ma)) : PS X (.Return (some e) pos) (tS X.kx c (mRet ma)) := (ps_ret he).imp fun _ _ _ h => tRet_of h
theorem ss_retN : PS X (.Return none pos) (tS X.kx c mRetN) := ps_retN.imp fun _ _ _ h => tRetN_of h
theorem ss_if {a b : List Stmt} (ht : PT X e (tT X.kx c mt)) (ha : PSs X a (tS X.kx c m1)) (hb : PSs X b (tS X.kx c m2)) : PS X (.If e a b pos) (tS X.kx c (mIfS mt m1 m2)) := (ps_if ht ha hb).imp fun _ _ _ h => tIfS_of h
end
/-! ### x += e -/
def mAug (i : Nat) (f : W → W → List Cell → Option (Rs W)) (a : ES) : SS := fun s cs => match s[i]? with
  | some (some x) => bndS (a s cs) s fun y cs => bndS (f x y cs) s fun z cs => some (.nx (s.set i (some z)) cs)
  | _ => none
def fAugAdd : PyData → PyData → Option PyData
  | .int i, .int j => some (.int (i + j))
  | .str a, .str b => if a.length + b.length ≤ sizeLine then some (.str (a ++ b)) else none
  | _, _ => none
theorem os_augadd {K : Kx} {c : Cg} : OpS K c (fun x y H Q => rI0 (fun i j => .int (i + j)) x y H Q ∨ ∃ i j, x = .str i ∧ y = .str j ∧ i.length + j.length ≤ sizeLine ∧ Q (.str (i ++ j)) H) (dd2 fAugAdd) := ops_data fun La H ρ cs a b z v u Q R ra rb e q => by
  unfold fAugAdd at e
  split at e
  · cases e
    exact .inl ⟨_, _, ra, rb, q _ H (fun _ _ h => h) (same_here R) rfl⟩
  · split at e
    · cases e
      exact .inr ⟨_, _, ra, rb, ‹_›, q _ H (fun _ _ h => h) (same_here R) rfl⟩
    · cases e
  · cases e
theorem tAug_of {K : Kx} {c : Cg} {D : Ends} {σ : L2.St} {H : Hp} {i : Nat} {ma : ES} {r : R2} {f : W → W → List Cell → Option (Rs W)} (hs : OpS K c r f) (h : tS K c (mAug i f ma) D σ H) : tAug i (tE K c ma) r D σ H := by
  obtain ⟨La, ρ, cs, s, R, S, h⟩ := h
  unfold mAug at h
  split at h
  · rename_i x hx
    obtain ⟨v, h1, h2⟩ := S.2 i x hx
    refine ⟨v, h1, La, ρ, cs, s, R, S, (PostS.bind S h).imp fun u H1 ⟨y, ρ1, cs1, R1, G1, r1, h3⟩ => ?_⟩
    have S1 := S.go G1.keep G1.pre
    refine hs La σ H1 ρ1 cs1 x y v u _ R1 (h2.go G1.keep G1.pre) r1 ((PostS.bind S1 h3).imp fun z H2 ⟨w, ρ2, cs2, R2, G2, r2, h4⟩ => ?_)
    exact h4 _ H2 ρ2 R2 Go.refl ((S1.go G2.keep G2.pre).set i r2)
  · exact False.elim h
theorem pip_of {X : Cx} {op : Operator} {r : R2} (h : OpR X (inplaceOp op) r) : PIp X op r := h
theorem ss_augadd {X : Cx} {c : Cg} {e : Expr} {pos pos' : Pos} {ma : ES} {i : Nat} {x : Str} (hN : X.N.Nodup) (hi : X.N[i]? = some x) (hx : Loc X.env.scope x) (he : PE X e (tE X.kx c ma)) (hf : X.fn x = true ∨ X.env.scope.names.lookup x = some .local := by first | exact .inl rfl | exact .inr rfl | assumption) :
    PS X (.AugAssign (.Name x pos') .Add e pos) (tS X.kx c (mAug i (dd2 fAugAdd) ma)) := (ps_aug hN hi hx he (pip_of (iop_add.or iop_add_str)) hf).imp fun _ _ _ h => tAug_of os_augadd h
theorem ss_augsub {X : Cx} {c : Cg} {e : Expr} {pos pos' : Pos} {ma : ES} {i : Nat} {x : Str} (hN : X.N.Nodup) (hi : X.N[i]? = some x) (hx : Loc X.env.scope x) (he : PE X e (tE X.kx c ma)) (hf : X.fn x = true ∨ X.env.scope.names.lookup x = some .local := by first | exact .inl rfl | exact .inr rfl | assumption) :
    PS X (.AugAssign (.Name x pos') .Sub e pos) (tS X.kx c (mAug i (dd2 fSub) ma)) := (ps_aug hN hi hx he (pip_of iop_sub) hf).imp fun _ _ _ h => tAug_of os_I0 h
/-! ### o[i] = e -/
def fSt (o i v : W) (cs : List Cell) : Option (List Cell) := match o, i with
  | .r n, .d (.int k) => (match cs[n]? with
    | some (.lst ws) => (match ixN ws.length k with
      | some j => some (cs.set n (.lst (ws.set j v)))
      | none => none)
    | some (.dK kvs) => if kvs.length < sizeLine then some (cs.set n (.dK (putW kvs (Sum.inl k) v))) else none
    | _ => none)
  | .r n, .d (.str z) => (match cs[n]? with
    | some (.dK kvs) => if kvs.length < sizeLine then some (cs.set n (.dK (putW kvs (Sum.inr z) v))) else none
    | _ => none)
  | _, _ => none
def mSt (o i e : ES) : SS := fun s cs => bndS (e s cs) s fun v cs => bndS (o s cs) s fun x cs => bndS (i s cs) s fun y cs => match fSt x y v cs with
  | some cs => some (.nx s cs)
  | none => none
abbrev rStAll : TSet := fun o i v H Q => rSetL o i v H Q ∨ rSetD o i v H Q
theorem PSet.or {X : Cx} {t t' : TSet} (h : PSet X t) (h' : PSet X t') : PSet X (fun o i v H Q => t o i v H Q ∨ t' o i v H Q) := by
  intro pins s σ H o i v ov iv u Q I ro ri rv h1
  rcases h1 with h1 | h1
  · exact h pins s σ H o i v ov iv u Q I ro ri rv h1
  · exact h' pins s σ H o i v ov iv u Q I ro ri rv h1
theorem fSt_ok {K : Kx} {c : Cg} {La : Addr → Prop} {H : Hp} {ρ : List Addr} {cs cs' : List Cell} {o i v : W} {ov iv vv : V} {Q : Hp → Prop} (R : Rl K La H ρ cs) (ro : RW K H (Lv La ρ cs) ρ o ov) (ri : RW K H (Lv La ρ cs) ρ i iv) (rv : RW K H (Lv La ρ cs) ρ v vv)
    (e : fSt o i v cs = some cs') (q : ∀ H', Rl K La H' ρ cs' → Go La H ρ cs H' ρ cs' → Q H') : rStAll ov iv vv H Q := by
  have pre : ∃ more, ρ = ρ ++ more := ⟨[], by rw [List.append_nil]⟩
  have dput : ∀ (n : Nat) (kvs : List (Key × W)) (k : Key) (a : Addr), ρ[n]? = some a → cs[n]? = some (.dK kvs) → kvs.length < sizeLine → iv = kV k → cs' = cs.set n (.dK (putW kvs k v)) → rStAll (.ref a) iv vv H Q := fun n kvs k a ha hc hl hk hcs => by
    subst hcs hk
    obtain ⟨us, h2, h3⟩ := R.cel _ _ a hc ha
    have hl' : us.length < sizeLine := by rw [← Paired.length h3]; exact hl
    refine .inr ⟨a, upd H a (.dK (putK us k vv)), rfl, DPut.k h2 hl', ?_⟩
    obtain ⟨R', G'⟩ := R.put hc rfl ha (.dK (putK us k vv)) (c := .dK (putW kvs k v)) fun kk => ⟨_, upd_same, putW_ok (Paired.mapP h3 fun _ _ r => ⟨r.1, r.2.go kk pre⟩) (rv.go kk pre)⟩
    exact q _ R' G'
  unfold fSt at e
  split at e
  · rename_i n k
    obtain ⟨a, ha, rfl⟩ := ro
    have ri : iv = .int k := ri
    split at e
    · rename_i ws hc
      split at e
      · rename_i j hj
        cases e
        obtain ⟨us, h2, h3⟩ := R.cel _ _ a hc ha
        subst ri
        refine .inl ⟨a, us, k, j, rfl, rfl, h2, by rw [← h3.len]; exact hj, ?_⟩
        obtain ⟨R', G'⟩ := R.put hc rfl ha (.lst (us.set j vv)) (c := .lst (ws.set j v)) fun kk => ⟨_, upd_same, (h3.go kk pre).set (rv.go kk pre) j⟩
        exact q _ R' G'
      · cases e
    · rename_i kvs hc
      split at e
      · cases e
        exact dput n kvs (Sum.inl k) a ha hc ‹_› ri rfl
      · cases e
    · cases e
  · rename_i n z
    obtain ⟨a, ha, rfl⟩ := ro
    have ri : iv = .str z := ri
    split at e
    · rename_i kvs hc
      split at e
      · cases e
        exact dput n kvs (Sum.inr z) a ha hc ‹_› ri rfl
      · cases e
    · cases e
  · cases e
theorem tSt_of {K : Kx} {c : Cg} {D : Ends} {σ : L2.St} {H : Hp} {mo mi me : ES} (h : tS K c (mSt mo mi me) D σ H) : tAsg (tE K c me) (gSub (tE K c mo) (tE K c mi) rStAll) D σ H := by
  obtain ⟨La, ρ, cs, s, R, S, h⟩ := h
  refine ⟨La, ρ, cs, s, R, S, (PostS.bind S h).imp fun v H1 ⟨x, ρ1, cs1, R1, G1, r1, h1⟩ => ?_⟩
  have S1 := S.go G1.keep G1.pre
  refine ⟨La, ρ1, cs1, s, R1, S1, (PostS.bind S1 h1).imp fun o H2 ⟨y, ρ2, cs2, R2, G2, r2, h2⟩ => ?_⟩
  have S2 := S1.go G2.keep G2.pre
  refine ⟨La, ρ2, cs2, s, R2, S2, (PostS.bind S2 h2).imp fun i H3 ⟨z, ρ3, cs3, R3, G3, r3, h3⟩ => ?_⟩
  have S3 := S2.go G3.keep G3.pre
  split at h3
  · rename_i cs' e
    exact fSt_ok (c := c) R3 (r2.go G3.keep G3.pre) r3 ((r1.go G2.keep G2.pre).go G3.keep G3.pre) e fun H' R' G' => h3 σ H' ρ3 R' G' (S3.go G'.keep G'.pre)
  · exact False.elim h3
theorem ss_st {X : Cx} {c : Cg} {o i e : Expr} {pos p' : Pos} {mo mi me : ES} {k : Nat} (hr : Room k X.A) (ho : PE X o (tE X.kx c mo)) (hi : PE X i (tE X.kx c mi)) (he : PE X e (tE X.kx c me)) (hs : swapsWithSole [.Subscript o i p'] e pos.line X.env = pure false := by rfl) (hw : swappedStores [.Subscript o i p'] e X.env = pure none := by rfl)
    (ha : ∀ v, assign (.Subscript o i p') X.env v = (do
      let ov ← holding [v] (eval o X.env)
      let iv ← holding [v, ov] (eval i X.env)
      standAt p'
      holding [v, ov, iv] (setItem ov iv v)
      release [v, ov, iv] []) := by intro _; rfl) (h1 : (assignEach [.Subscript o i p'] X.env).map (·.2) = [assign (.Subscript o i p') X.env] := by rfl) :
    PS X (.Assign [.Subscript o i p'] e pos) (tS X.kx c (mSt mo mi me)) := (ps_asg he (pg_sub ho hi (PSet.or set_list (set_dict hr.hu)) ha) hs hw h1).imp fun _ _ _ h => tSt_of h
end Sm
namespace Sm
open PySem PySem.Spec PyProof.Rows L2

/-! ### while -/
def mWhile (t : BS) (b : SS) : Nat → SS
  | 0 => fun _ _ => none
  | n + 1 => fun s cs => bndS (t s cs) s fun x cs => if x = true then (match b s cs with
    | some (.nx s' cs') => mWhile t b n s' cs'
    | some (.ct s' cs') => mWhile t b n s' cs'
    | some (.bk s' cs') => some (.nx s' cs')
    | o => o) else some (.nx s cs)
theorem tWhile_of {K : Kx} {c : Cg} {D : Ends} {σ : L2.St} {H : Hp} {mt : BS} {mb : SS} {n : Nat} (h : tS K c (mWhile mt mb n) D σ H) : tWhile (tT K c mt) (tS K c mb) D σ H := by
  obtain ⟨La, ρ, cs, s, R, S, h⟩ := h
  refine ⟨fun m σ' H' => ∃ ρ' cs' s', Rl K La H' ρ' cs' ∧ RS K H' (Lv La ρ' cs') ρ' s' σ' ∧ PostS K c La H' ρ' cs' D (mWhile mt mb m s' cs'), ⟨n, ρ, cs, s, R, S, h⟩, fun m σ' H' hw => ?_⟩
  obtain ⟨ρ', cs', s', R', S', h'⟩ := hw
  cases m with
  | zero => exact False.elim h'
  | succ m =>
    refine ⟨La, ρ', cs', s', R', S', (PostS.bind (RR := RRb) S' h').imp fun v H1 ⟨x, ρ1, cs1, R1, G1, r1, h1⟩ => ?_⟩
    have r1 : x = v := r1
    subst r1
    have S1 := S'.go G1.keep G1.pre
    cases x with
    | false =>
      rw [if_neg Bool.false_ne_true] at h1
      rw [if_neg Bool.false_ne_true]
      exact h1 σ' H1 ρ1 R1 Go.refl S1
    | true =>
      rw [if_pos rfl] at h1
      rw [if_pos rfl]
      refine ⟨fun σ2 H2 => ∃ ρ2 cs2 s2, Rl K La H2 ρ2 cs2 ∧ RS K H2 (Lv La ρ2 cs2) ρ2 s2 σ2 ∧ PostS K c La H2 ρ2 cs2 D (mWhile mt mb m s2 cs2), fun σ2 H2 w => ⟨m, Nat.lt_succ_self m, w⟩, La, ρ1, cs1, s', R1, S1, ?_⟩
      cases e : mb s' cs1 with
      | none =>
        rw [e] at h1
        exact h1
      | some o =>
        rw [e] at h1
        cases o with
        | nx s2 cs2 => exact fun σ2 H2 ρ2 R2 G2 S2 => ⟨ρ2, cs2, s2, R2, S2, PostS.shift G2 h1⟩
        | ct s2 cs2 => exact fun σ2 H2 ρ2 R2 G2 S2 => ⟨ρ2, cs2, s2, R2, S2, PostS.shift G2 h1⟩
        | bk s2 cs2 => exact fun σ2 H2 ρ2 R2 G2 S2 => h1 σ2 H2 ρ2 R2 G2 S2
        | rt w cs2 => exact h1
        | ex e fs s2 cs2 => exact h1
theorem ss_while {X : Cx} {c : Cg} {e : Expr} {body : List Stmt} {pos : Pos} {mt : BS} {mb : SS} (n : Nat) (hp : PassesOwn (model X.prog X.w) X.A X.env X.xe) (ht : PT X e (tT X.kx c mt)) (hb : PSs X body (tS X.kx c mb)) :
    PS X (.While e body [] pos) (tS X.kx c (mWhile mt mb n)) := (ps_while hp ht hb).imp fun _ _ _ h => tWhile_of h
/-! ### for -/
def mLoop (g : Tg) (b : SS) : List W → SS
  | [] => fun s cs => some (.nx s cs)
  | w :: r => fun s cs => match g w s with
    | some s1 => (match b s1 cs with
      | some (.nx s' cs') => mLoop g b r s' cs'
      | some (.ct s' cs') => mLoop g b r s' cs'
      | some (.bk s' cs') => some (.nx s' cs')
      | o => o)
    | none => none
def mFor (it : AS) (g : Tg) (b : SS) : SS := fun s cs => bndS (it s cs) s fun ws cs => mLoop g b ws s cs
structure Wk (K : Kx) (J : It) (ws : List W) (Iv : Hp → (Addr → Prop) → List Addr → Prop) : Prop where
  st : ∀ {H L ρ H' L' ρ'}, Iv H L ρ → keep H L H' L' → (∃ more, ρ' = ρ ++ more) → Iv H' L' ρ'
  go : ∀ {i : Nat} {w : W} {La : Addr → Prop} {H : Hp} {ρ : List Addr} {cs : List Cell}, Rl K La H ρ cs → Iv H (Lv La ρ cs) ρ → ws[i]? = some w → J.go i H ∧ ∀ x H', J.yld i H x H' → Rl K La H' ρ cs ∧ Go La H ρ cs H' ρ cs ∧ RW K H' (Lv La ρ cs) ρ w x
  stop : ∀ {i : Nat} {La : Addr → Prop} {H : Hp} {ρ : List Addr} {cs : List Cell}, Rl K La H ρ cs → Iv H (Lv La ρ cs) ρ → ws.length ≤ i → J.stop i H
abbrev RRi (K : Kx) : Hp → (Addr → Prop) → List Addr → List W → It → Prop := fun H L ρ ws J => ∃ Iv, Wk K J ws Iv ∧ Iv H L ρ
def tI (K : Kx) (c : Cg) (m : AS) : TI := fun σ H R => ∃ La ρ cs s, Rl K La H ρ cs ∧ RS K H (Lv La ρ cs) ρ s σ ∧ Post K c La σ H ρ cs (RRi K) R (m s cs)
theorem tFor_of {K : Kx} {c : Cg} {D : Ends} {σ : L2.St} {H : Hp} {it : AS} {t : TG} {g : Tg} {mb : SS} (hg : TgS K t g) (h : tS K c (mFor it g mb) D σ H) : tFor (tI K c it) t (tS K c mb) D σ H := by
  obtain ⟨La, ρ, cs, s, R, S, h⟩ := h
  refine ⟨La, ρ, cs, s, R, S, (PostS.bind S h).imp fun J H1 ⟨ws, ρ1, cs1, R1, G1, ⟨Iv, wk, iv⟩, h1⟩ => ?_⟩
  refine ⟨fun i m σ' H' => m = ws.length - i ∧ i ≤ ws.length ∧ ∃ ρ' cs' s', Rl K La H' ρ' cs' ∧ RS K H' (Lv La ρ' cs') ρ' s' σ' ∧ Iv H' (Lv La ρ' cs') ρ' ∧ PostS K c La H' ρ' cs' D (mLoop g mb (ws.drop i) s' cs'),
    ⟨ws.length, by simp, Nat.zero_le _, ρ1, cs1, s, R1, S.go G1.keep G1.pre, iv, h1⟩, fun i m σ' H' hw => ?_⟩
  obtain ⟨hm, hi, ρ', cs', s', R', S', iv', h'⟩ := hw
  by_cases hlt : i < ws.length
  · have hd : ws.drop i = ws[i] :: ws.drop (i + 1) := List.drop_eq_getElem_cons hlt
    have hgt : ws[i]? = some ws[i] := List.getElem?_eq_getElem hlt
    obtain ⟨j1, j2⟩ := wk.go R' iv' hgt
    refine .inr ⟨j1, fun σ2 H2 => ∃ ρ2 cs2 s2, Rl K La H2 ρ2 cs2 ∧ RS K H2 (Lv La ρ2 cs2) ρ2 s2 σ2 ∧ Iv H2 (Lv La ρ2 cs2) ρ2 ∧ PostS K c La H2 ρ2 cs2 D (mLoop g mb (ws.drop (i + 1)) s2 cs2), fun σ2 H2 w2 => ⟨ws.length - (i + 1), by omega, rfl, hlt, w2⟩, fun x H2 hy => ?_⟩
    obtain ⟨R2, G2, r2⟩ := j2 x H2 hy
    rw [hd] at h'
    unfold mLoop at h'
    cases e : g ws[i] s' with
    | none =>
      rw [e] at h'
      exact False.elim h'
    | some s1 =>
      rw [e] at h'
      refine hg La σ' s' s1 H2 ρ' cs' ws[i] x _ R2 r2 (S'.go G2.keep G2.pre) e fun σ3 S3 => ⟨La, ρ', cs', s1, R2, S3, ?_⟩
      have h' := PostS.shift G2 h'
      have iv2 := wk.st iv' G2.keep G2.pre
      cases e2 : mb s1 cs' with
      | none =>
        simp only [e2] at h'
        exact h'
      | some o =>
        simp only [e2] at h'
        cases o with
        | nx s2 cs2 => exact fun σ4 H4 ρ4 R4 G4 S4 => ⟨ρ4, cs2, s2, R4, S4, wk.st iv2 G4.keep G4.pre, PostS.shift G4 h'⟩
        | ct s2 cs2 => exact fun σ4 H4 ρ4 R4 G4 S4 => ⟨ρ4, cs2, s2, R4, S4, wk.st iv2 G4.keep G4.pre, PostS.shift G4 h'⟩
        | bk s2 cs2 => exact fun σ4 H4 ρ4 R4 G4 S4 => h' σ4 H4 ρ4 R4 G4 S4
        | rt w cs2 => exact h'
        | ex e fs s2 cs2 => exact h'
  · have e : i = ws.length := by omega
    subst e
    rw [List.drop_length] at h'
    exact .inl ⟨wk.stop R' iv' (Nat.le_refl _), h' σ' H' ρ' R' Go.refl S'⟩
theorem ss_for {X : Cx} {c : Cg} {tg iter : Expr} {body : List Stmt} {pos : Pos} {it : AS} {g : Tg} {mb : SS} (hp : PassesOwn (model X.prog X.w) X.A X.env X.xe) (hc : X.calm = true) (hi : PI X tg iter (tI X.kx c it)) (hg : STg X tg g) (hb : PSs X body (tS X.kx c mb))
    (hs : ∀ x, foldedSetIterable iter X.env x = pure x := by intro _; rfl) : PS X (.For tg iter body [] pos) (tS X.kx c (mFor it g mb)) := by
  obtain ⟨t, h1, h2⟩ := hg.ex
  exact (ps_for hp hc hi h1 hb hs).imp fun _ _ _ h => tFor_of h2 h
theorem _root_.L2.PI.imp {X : Cx} {tg iter : Expr} {t t' : TI} (h : PI X tg iter t) (i : ∀ σ H R, t' σ H R → t σ H R) : PI X tg iter t' := ⟨fun pins s σ H R I hw => h.run pins s σ H R I (i σ H R hw)⟩
theorem _root_.L2.PI.or {X : Cx} {tg iter : Expr} {t t' : TI} (h : PI X tg iter t) (h' : PI X tg iter t') : PI X tg iter (fun σ H R => t σ H R ∨ t' σ H R) := ⟨fun pins s σ H R I hw => by
  rcases hw with hw | hw
  · exact h.run pins s σ H R I hw
  · exact h'.run pins s σ H R I hw⟩
/-! over a list that does not change, a tuple -/
def itW : W → Option (List W)
  | .d (.list ds) => some (ds.map .d)
  | .k ds => some (ds.map .d)
  | .d (.tuple ds) => some (ds.map .d)
  | _ => none
def mIt (e : ES) : AS := fun s cs => bnd (e s cs) fun x cs => match itW x with
  | some ws => some (.ok ws cs)
  | none => none
theorem wk_list {K : Kx} {a : Addr} {ds : List PyData} : Wk K (Itl K.K a) (ds.map .d) (fun H L _ => ∃ vs, FK K H L a vs ∧ RDs K H L ds vs) where
  st := fun ⟨vs, h1, h2⟩ k _ => ⟨vs, h1.go k, h2.go k⟩
  go := fun {i w La H ρ cs} R ⟨vs, h1, h2⟩ e => by
    rw [List.getElem?_map] at e
    cases hd : ds[i]? with
    | none =>
      rw [hd] at e
      cases e
    | some d =>
      rw [hd] at e
      cases e
      obtain ⟨v, h3, h4⟩ := h2.get hd
      refine ⟨⟨vs, v, h1.sq, h3⟩, fun x H' hy => ?_⟩
      obtain ⟨rfl, hy⟩ := hy
      have := hy vs h1.sq
      rw [h3] at this
      cases this
      exact ⟨R, Go.refl, h4⟩
  stop := fun {i La H ρ cs} R ⟨vs, h1, h2⟩ hl => ⟨vs, h1.sq, by rw [h2.length]; rw [List.length_map] at hl; exact hl⟩
theorem wk_tup {K : Kx} {a : Addr} {ds : List PyData} : Wk K (Itt K.K a) (ds.map .d) (fun H L _ => ∃ vs, FT K H L a vs ∧ RDs K H L ds vs) where
  st := fun ⟨vs, h1, h2⟩ k _ => ⟨vs, by
    rcases h1 with ⟨h1, n1⟩ | h1
    · exact .inl (k _ _ h1 n1)
    · exact .inr h1, h2.go k⟩
  go := fun {i w La H ρ cs} R ⟨vs, h1, h2⟩ e => by
    rw [List.getElem?_map] at e
    cases hd : ds[i]? with
    | none =>
      rw [hd] at e
      cases e
    | some d =>
      rw [hd] at e
      cases e
      obtain ⟨v, h3, h4⟩ := h2.get hd
      refine ⟨⟨vs, v, h1.sq, h3⟩, fun x H' hy => ?_⟩
      obtain ⟨rfl, hy⟩ := hy
      have := hy vs h1.sq
      rw [h3] at this
      cases this
      exact ⟨R, Go.refl, h4⟩
  stop := fun {i La H ρ cs} R ⟨vs, h1, h2⟩ hl => ⟨vs, h1.sq, by rw [h2.length]; rw [List.length_map] at hl; exact hl⟩
theorem tIt_of {K : Kx} {c : Cg} {σ : L2.St} {H : Hp} {R : It → Hp → Prop} {ma : ES} (h : tI K c (mIt ma) σ H R) : iList K.K (tE K c ma) σ H R ∨ iTup K.K (tE K c ma) σ H R := by
  obtain ⟨La, ρ, cs, s, Rr, S, h⟩ := h
  unfold mIt at h
  cases e : ma s cs with
  | none =>
    rw [e] at h
    exact False.elim h
  | some o =>
    rw [e] at h
    cases o with
    | ex f fs cs1 =>
      refine .inl ⟨La, ρ, cs, s, Rr, S, ?_⟩
      rw [e]
      exact h
    | ok x cs1 =>
      rw [bnd_ok] at h
      cases hw : itW x with
      | none =>
        rw [hw] at h
        exact False.elim h
      | some ws =>
        rw [hw] at h
        unfold itW at hw
        split at hw
        · cases hw
          refine .inl ⟨La, ρ, cs, s, Rr, S, ?_⟩
          rw [e]
          intro v H1 ρ1 R1 G1 r1
          obtain ⟨a, vs, rfl, k1, k2, k3⟩ := r1
          exact ⟨a, rfl, ⟨vs, .inl (.inl k1)⟩, h _ H1 ρ1 R1 G1 ⟨_, wk_list, vs, .inl ⟨.inl k1, k2⟩, k3⟩⟩
        · cases hw
          refine .inl ⟨La, ρ, cs, s, Rr, S, ?_⟩
          rw [e]
          intro v H1 ρ1 R1 G1 r1
          obtain ⟨a, vs, rfl, k1, k3⟩ := r1
          exact ⟨a, rfl, ⟨vs, k1.sq⟩, h _ H1 ρ1 R1 G1 ⟨_, wk_list, vs, k1, k3⟩⟩
        · cases hw
          refine .inr ⟨La, ρ, cs, s, Rr, S, ?_⟩
          rw [e]
          intro v H1 ρ1 R1 G1 r1
          obtain ⟨a, vs, rfl, k1, k3⟩ := r1
          exact ⟨a, rfl, ⟨vs, k1.sq⟩, h _ H1 ρ1 R1 G1 ⟨_, wk_tup, vs, k1, k3⟩⟩
        · cases hw
theorem si_seq {X : Cx} {c : Cg} {tg e : Expr} {ma : ES} (he : PE X e (tE X.kx c ma)) : PI X tg e (tI X.kx c (mIt ma)) := ((pi_list he).or (pi_tup he)).imp fun _ _ _ h => tIt_of h
/-! over a range -/
def rgW (lo : Int) (n : Nat) : List W := (List.range n).map fun (i : Nat) => .d (.int (lo + (i : Int)))
def bnd62 (i : Int) : Bool := decide (-(2 ^ 62) ≤ i ∧ i < 2 ^ 62)
def rgL (ws : List W) (cs : List Cell) : Option (Rs (List W)) := match ws with
  | [.d (.int j)] => if bnd62 j = true then some (.ok (rgW 0 j.toNat) cs) else none
  | [.d (.int i), .d (.int j)] => if (bnd62 i && bnd62 j) = true then some (.ok (rgW i (j - i).toNat) cs) else none
  | _ => none
def mRg (a : AS) : AS := fun s cs => bnd (a s cs) rgL
theorem wk_rg {K : Kx} {lo : Int} {n : Nat} : Wk K (Itr lo n) (rgW lo n) (fun _ _ _ => True) where
  st := fun _ _ _ => trivial
  go := fun {i w La H ρ cs} R _ e => by
    unfold rgW at e
    rw [List.getElem?_map] at e
    cases hd : (List.range n)[i]? with
    | none =>
      rw [hd] at e
      cases e
    | some d =>
      rw [hd] at e
      cases e
      have h1 := List.getElem?_eq_some_iff.mp hd
      have hi : i < n := by simpa using h1.1
      have hd : i = d := by simpa using h1.2
      refine ⟨hi, fun x H' hy => ?_⟩
      obtain ⟨rfl, rfl⟩ := hy
      subst hd
      exact ⟨R, Go.refl, rfl⟩
  stop := fun {i La H ρ cs} R _ hl => by
    unfold rgW at hl
    rw [List.length_map, List.length_range] at hl
    exact hl
section
variable {X : Cx} {c : Cg} {tg a b : Expr} {p pos : Pos} {aa : AS}
theorem RWs.two {K : Kx} {H : Hp} {L : Addr → Prop} {ρ : List Addr} {x y : W} {vs : List V} (h : RWs K H L ρ [x, y] vs) : ∃ v u, vs = [v, u] ∧ RW K H L ρ x v ∧ RW K H L ρ y u := by
  match h with
  | .cons r (.cons r' .nil) => exact ⟨_, _, rfl, r, r'⟩
def rgL1 (ws : List W) (cs : List Cell) : Option (Rs (List W)) := match ws with
  | [.d (.int j)] => if bnd62 j = true then some (.ok (rgW 0 j.toNat) cs) else none
  | _ => none
def rgL2 (ws : List W) (cs : List Cell) : Option (Rs (List W)) := match ws with
  | [.d (.int i), .d (.int j)] => if (bnd62 i && bnd62 j) = true then some (.ok (rgW i (j - i).toNat) cs) else none
  | _ => none
def mRg1 (a : AS) : AS := fun s cs => bnd (a s cs) rgL1
def mRg2 (a : AS) : AS := fun s cs => bnd (a s cs) rgL2
theorem tRg1_of {K : Kx} {σ : L2.St} {H : Hp} {R : It → Hp → Prop} (h : tI K c (mRg1 aa) σ H R) : iRng1 (tA K c aa) σ H R := by
  obtain ⟨La, ρ, cs, s, Rr, S, h⟩ := h
  refine ⟨La, ρ, cs, s, Rr, S, (Post.bind h).imp fun vs H1 ⟨ws, ρ1, cs1, R1, G1, r1, h1⟩ => ?_⟩
  unfold rgL1 at h1
  split at h1
  · rename_i j
    split at h1
    · rename_i hb
      obtain ⟨v, rfl, r2⟩ := r1.one
      have r2 : v = .int j := r2
      subst r2
      have hb : -(2 ^ 62) ≤ j ∧ j < 2 ^ 62 := of_decide_eq_true hb
      exact ⟨j, rfl, hb.1, hb.2, h1 _ H1 ρ1 R1 Go.refl ⟨_, wk_rg, trivial⟩⟩
    · exact False.elim h1
  · exact False.elim h1
theorem tRg2_of {K : Kx} {σ : L2.St} {H : Hp} {R : It → Hp → Prop} (h : tI K c (mRg2 aa) σ H R) : iRng2 (tA K c aa) σ H R := by
  obtain ⟨La, ρ, cs, s, Rr, S, h⟩ := h
  refine ⟨La, ρ, cs, s, Rr, S, (Post.bind h).imp fun vs H1 ⟨ws, ρ1, cs1, R1, G1, r1, h1⟩ => ?_⟩
  unfold rgL2 at h1
  split at h1
  · rename_i i j
    split at h1
    · rename_i hb
      obtain ⟨v, u, rfl, r2, r3⟩ := r1.two
      have r2 : v = .int i := r2
      have r3 : u = .int j := r3
      subst r2 r3
      rw [Bool.and_eq_true] at hb
      have hb1 : -(2 ^ 62) ≤ i ∧ i < 2 ^ 62 := of_decide_eq_true hb.1
      have hb2 : -(2 ^ 62) ≤ j ∧ j < 2 ^ 62 := of_decide_eq_true hb.2
      exact ⟨i, j, rfl, ⟨hb1.1, hb1.2, hb2.1, hb2.2⟩, h1 _ H1 ρ1 R1 Go.refl ⟨_, wk_rg, trivial⟩⟩
    · exact False.elim h1
  · exact False.elim h1
theorem si_rg1 (hg : Gl X "range") (hm : X.mg "range" = none) (ha : PA X [a] (tA X.kx c aa)) (hs : starEach [a] X.env = [(false, eval a X.env)] := by rfl) : PI X tg (.Call (.Name "range" p) [a] [] pos) (tI X.kx c (mRg1 aa)) := (pi_range1 hg hm ha hs).imp fun _ _ _ h => tRg1_of h
theorem si_rg2 (hg : Gl X "range") (hm : X.mg "range" = none) (ha : PA X [a, b] (tA X.kx c aa)) (hs : starEach [a, b] X.env = [(false, eval a X.env), (false, eval b X.env)] := by rfl) (hs2 : starEach [b] X.env = [(false, eval b X.env)] := by rfl) :
    PI X tg (.Call (.Name "range" p) [a, b] [] pos) (tI X.kx c (mRg2 aa)) := (pi_range2 hg hm ha hs hs2).imp fun _ _ _ h => tRg2_of h
end
/-! ### defs -/
def spI (K : Kx) (cl : Str → Option Addr) (n : Nat) (F : List W → List Cell → Option (Rs W)) : Sp := fun vs H Q E => vs.length = n ∧ ∃ La ρ cs ws, Rl K La H ρ cs ∧ RWs K H (Lv La ρ cs) ρ ws vs ∧ Post K ⟨cl, fun C d _ H => E C d H⟩ La [] H ρ cs (RRw K) Q (F ws cs)
/-- a def called, of n parameters -/
def mDef (n : Nat) (F : List W → List Cell → Option (Rs W)) (a : AS) : ES := fun s cs => bnd (a s cs) fun ws cs => if ws.length = n then F ws cs else none
theorem Post.wx {K : Kx} {c c' : Cg} {La : Addr → Prop} {σ σ' : L2.St} {H : Hp} {ρ : List Addr} {cs : List Cell} {α β : Type} {RR : Hp → (Addr → Prop) → List Addr → α → β → Prop} {Q : β → Hp → Prop} {o : Option (Rs α)} (hc : c'.cl = c.cl)
    (hw : ∀ C d H, c.wx C d σ H → c'.wx C d σ' H) (h : Post K c La σ H ρ cs RR Q o) : Post K c' La σ' H ρ cs RR Q o := by
  match o, h with
  | some (.ok a cs'), h => exact h
  | some (.ex e fs cs'), h => exact fun C d us H' ρ' he R G hd hp => hw _ _ _ (h C d us H' ρ' (by rw [← hc]; exact he) R G hd hp)
theorem tDef_of {K : Kx} {c : Cg} {σ : L2.St} {H : Hp} {Q : V → Hp → Prop} {aa : AS} {n : Nat} {F : List W → List Cell → Option (Rs W)} (h : tE K c (mDef n F aa) σ H Q) : tCallS (spI K c.cl n F) (WE c.wx) (tA K c aa) σ H Q := by
  obtain ⟨La, ρ, cs, s, R, S, h⟩ := h
  refine ⟨La, ρ, cs, s, R, S, (Post.bind h).imp fun vs H1 ⟨ws, ρ1, cs1, R1, G1, r1, h1⟩ => ?_⟩
  split at h1
  · rename_i hn
    exact ⟨by rw [← r1.len]; exact hn, La, ρ1, cs1, ws, R1, r1, Post.wx rfl (fun C d H h => h) h1⟩
  · exact False.elim h1
theorem sv_def {X : Cx} {c : Cg} {k n : Nat} {f : Addr} {fd : FuncData} {ps : List Str} {F : List W → List Cell → Option (Rs W)} {x : Str} {p pos : Pos} {e : Expr} {es : List Expr} {aa : AS} (tk : Takes X c.wx) (G : FnOk X.prog X.w X.K X.mg X.base (L2.CX X.prog X.w) k f fd ps (spI X.kx c.cl n F)) (hr : Room k X.A)
    (hg : Gl X x) (hm : X.mg x = some (.ref f)) (hk : PySem.W.keepIn X.K (.ref f) = true) (hb : Binds X.K fd ps []) (ha : PA X (e :: es) (tA X.kx c aa))
    (hdb : (x == ("__debug__" : Str)) = false := by decide) (he : starEach (e :: es) X.env = (false, eval e X.env) :: starEach es X.env := by rfl) (hpl : (backTo pos (starEach es X.env)).any (·.1) = false := by rfl) :
    PE X (.Call (.Name x p) (e :: es) [] pos) (tE X.kx c (mDef n F aa)) := (pe_callS G hr hg hm hk hb (passAt tk) ha hdb he hpl).imp fun _ _ _ h => tDef_of h
/-- a body as a function -/
def runF (n : Nat) (m : SS) (ws : List W) (cs : List Cell) : Option (Rs W) := match m (ws.map some ++ List.replicate (n - ws.length) none) cs with
  | some (.rt w cs') => some (.ok w cs')
  | some (.nx _ cs') => some (.ok (.d .none) cs')
  | some (.ex e fs _ cs') => some (.ex e fs cs')
  | _ => none
theorem rs_start {K : Kx} {H : Hp} {L : Addr → Prop} {ρ : List Addr} (N : List Str) {ws : List W} {vs : List V} (h : RWs K H L ρ ws vs) : RS K H L ρ (ws.map some ++ List.replicate (N.length - ws.length) none) (start N vs) := by
  have hl := h.len
  refine ⟨by simp [L2.start, hl], fun i w e => ?_⟩
  by_cases hi : i < ws.length
  · rw [List.getElem?_append_left (by simpa using hi), List.getElem?_map] at e
    cases hw : ws[i]? with
    | none =>
      rw [hw] at e
      cases e
    | some u =>
      rw [hw] at e
      cases e
      obtain ⟨v, h1, h2⟩ := h.get hw
      refine ⟨v, ?_, h2⟩
      unfold L2.start
      rw [List.getElem?_append_left (by rw [List.length_map]; omega), List.getElem?_map, h1]
      rfl
  · rw [List.getElem?_append_right (by simpa using hi)] at e
    have := List.mem_of_getElem? e
    simp at this
section
variable {P : Program} {w : World} {K : PySem.W.Frag} {mg : Str → Option Value} {base : Heap} {cl : Str → Option Addr}
abbrev cgE (cl : Str → Option Addr) (E : XK) : Cg := ⟨cl, fun C d _ H => E C d H⟩
theorem ok_def {x qual : Str} {st : Stmt} {f : Addr} {fd : FuncData} {N ps : List Str} {k n : Nat} (F : Fun K x qual st f fd) (S : FnScope N ps (defScope st)) (m : SS) (hn : ps.length = n)
    (hb : ∀ (cdv : Value) (A : Around) (outer : List Env) (s : Shared) (H : Hp) (E : XK), Room k (A.deeper (envOfC qual (defScope st) s.heap.objs.size f cdv)) →
      PSs (cxOf (L2.CX P w) P w K mg base N qual (defScope st) f cdv A outer s H E) (defBody st) (tS ⟨P, w, K⟩ (cgE cl E) m)) :
    FnOk P w K mg base (L2.CX P w) (k + 1) f fd ps (spI ⟨P, w, K⟩ cl n (runF N.length m)) := by
  refine F.okX S (fun vs H Q E h => by rw [hn]; exact h.1) (fun cdv A outer s H vs Q E hr h => ?_)
  obtain ⟨hl, La, ρ, cs, ws, R, r, h⟩ := h
  refine ⟨_, hb cdv A outer s H E hr, La, ρ, cs, _, R, rs_start N r, ?_⟩
  unfold runF at h
  cases e : m (ws.map some ++ List.replicate (N.length - ws.length) none) cs with
  | none =>
    rw [e] at h
    exact False.elim h
  | some o =>
    rw [e] at h
    cases o with
    | nx s' cs' => exact fun σ' H' ρ' R' G' S' => h .non H' ρ' R' G' rfl
    | rt w' cs' => exact fun v H' ρ' R' G' r' => h v H' ρ' R' G' r'
    | bk s' cs' => exact False.elim h
    | ct s' cs' => exact False.elim h
    | ex e fs s' cs' => exact fun C d us σ' H' ρ' hc R' G' S' hd hp => h C d us H' ρ' hc R' G' hd hp
end
/-- a def of data alone: its own store is empty, and is forgotten -/
def pureF (F : List W → List Cell → Option (Rs W)) : List W → List Cell → Option (Rs W) := fun ws cs => match toD ws with
  | none => none
  | some _ => match F ws [] with
    | some (.ok (.d d) _) => some (.ok (.d d) cs)
    | _ => none
theorem FnOk.pure {P : Program} {w : World} {K : PySem.W.Frag} {mg : Str → Option Value} {base : Heap} {cl : Str → Option Addr} {k n : Nat} {f : Addr} {fd : FuncData} {ps : List Str} {F : List W → List Cell → Option (Rs W)}
    (h : FnOk P w K mg base (L2.CX P w) k f fd ps (spI ⟨P, w, K⟩ cl n F)) : FnOk P w K mg base (L2.CX P w) k f fd ps (spI ⟨P, w, K⟩ cl n (pureF F)) := h.imp fun vs H Q E hh => by
  obtain ⟨hl, La, ρ, cs, ws, R, r, q⟩ := hh
  unfold pureF at q
  split at q
  · exact False.elim q
  · rename_i ds hd
    split at q
    · rename_i d cs1 e
      have e0 := toD_map hd
      subst e0
      have rd := RWs.to_data r
      refine ⟨hl, Lv La ρ cs, [], [], _, ⟨rfl, List.nodup_nil, fun a h => R.tr h, fun a h => by simp at h, fun a h => by simp at h, fun n c a h => by simp at h⟩, RWs.data (rd.weak (fun a h => Lv.nil.mp h)), ?_⟩
      rw [e]
      intro v H' ρ' R' G' r'
      have kk : keep H (Lv La ρ cs) H' (Lv La ρ cs) := fun a o h n => ⟨(G'.keep a o h (fun z => n (Lv.nil.mp z))).1, n⟩
      have pre : ∃ more, ρ = ρ ++ more := ⟨[], by rw [List.append_nil]⟩
      have same : ∀ a, a ∈ ρ → H' a = H a := fun a ha => by
        obtain ⟨o, ho⟩ := R.trk a ha
        by_cases hl : Lv La ρ cs a
        · exact G'.amb a hl
        · rw [ho]
          exact (kk a o ho hl).1
      refine q v H' ρ ⟨R.len, R.nd, fun a h => ?_, R.dis, fun a h => ?_, fun n c a hc ha => ?_⟩ ⟨kk, fun a h => G'.amb a (.inl h), pre⟩ (RD.weak (fun a h => .inl h) d r')
      · obtain ⟨o, ho⟩ := R.amb a h
        exact ⟨o, by rw [G'.amb a (.inl h)]; exact ho⟩
      · obtain ⟨o, ho⟩ := R.trk a h
        exact ⟨o, by rw [same a h]; exact ho⟩
      · exact (R.cel n c a hc ha).go kk pre (same a (List.mem_of_getElem? ha))
    · exact False.elim q
end Sm
namespace Sm
open PySem PySem.Spec PyProof.Rows L2

/-! ### a thing that is built while other things happen -/
section
variable {K : Kx} {La : Addr → Prop} {H H' : Hp} {ρ ρ' : List Addr} {cs cs' : List Cell} {p : Addr} {o o' : HO}
abbrev wth (La : Addr → Prop) (p : Addr) : Addr → Prop := fun a => La a ∨ a = p
theorem lv_wth {a : Addr} (hne : a ≠ p) : Lv (wth La p) ρ cs a ↔ Lv La ρ cs a := by
  constructor
  · rintro ((h | h) | h)
    · exact .inl h
    · exact absurd h hne
    · exact .inr h
  · rintro (h | h)
    · exact .inl (.inl h)
    · exact .inr h
theorem amb_in (R : Rl K La H ρ cs) (hp : H p = none) (o : HO) : Rl K (wth La p) (upd H p o) ρ cs ∧ keep H (Lv La ρ cs) (upd H p o) (Lv (wth La p) ρ cs) := by
  have st : ∀ a u, H a = some u → upd H p o a = some u := fun a u h => by rw [upd_ne (ne_of_none h hp)]; exact h
  have k : keep H (Lv La ρ cs) (upd H p o) (Lv (wth La p) ρ cs) := fun a u h n => ⟨st a u h, fun z => n ((lv_wth (ne_of_none h hp)).mp z)⟩
  have pre : ∃ more, ρ = ρ ++ more := ⟨[], by rw [List.append_nil]⟩
  have npm : ∀ a, a ∈ ρ → a ≠ p := fun a ha => by
    obtain ⟨u, e⟩ := R.trk a ha
    exact ne_of_none e hp
  refine ⟨⟨R.len, R.nd, fun a h => ?_, fun a h => ?_, fun a h => ?_, fun n c a hc ha => ?_⟩, k⟩
  · rcases h with h | h
    · obtain ⟨u, e⟩ := R.amb a h
      exact ⟨u, st _ _ e⟩
    · exact ⟨o, by rw [h, upd_same]⟩
  · rintro (z | z)
    · exact R.dis a h z
    · exact npm a h z
  · obtain ⟨u, e⟩ := R.trk a h
    exact ⟨u, st _ _ e⟩
  · exact (R.cel n c a hc ha).go k pre (upd_ne (npm a (List.mem_of_getElem? ha)))
theorem amb_put (R : Rl K (wth La p) H ρ cs) (o : HO) : Rl K (wth La p) (upd H p o) ρ cs ∧ keep H (Lv (wth La p) ρ cs) (upd H p o) (Lv (wth La p) ρ cs) := by
  have lp : Lv (wth La p) ρ cs p := .inl (.inr rfl)
  have k : keep H (Lv (wth La p) ρ cs) (upd H p o) (Lv (wth La p) ρ cs) := fun a u h n => ⟨by
    have : a ≠ p := fun z => n (by rw [z]; exact lp)
    rw [upd_ne this]
    exact h, n⟩
  have pre : ∃ more, ρ = ρ ++ more := ⟨[], by rw [List.append_nil]⟩
  have trk : ∀ a u, H a = some u → ∃ u', upd H p o a = some u' := fun a u h => by
    by_cases e : a = p
    · exact ⟨o, by rw [e, upd_same]⟩
    · exact ⟨u, by rw [upd_ne e]; exact h⟩
  refine ⟨⟨R.len, R.nd, fun a h => ?_, R.dis, fun a h => ?_, fun n c a hc ha => ?_⟩, k⟩
  · obtain ⟨u, e⟩ := R.amb a h
    exact trk _ _ e
  · obtain ⟨u, e⟩ := R.trk a h
    exact trk _ _ e
  · exact (R.cel n c a hc ha).go k pre (upd_ne fun z => R.dis a (List.mem_of_getElem? ha) (.inr z))
theorem amb_out (nl : ¬ La p) (R : Rl K (wth La p) H ρ cs) (o : HO) : Rl K La (upd H p o) ρ cs ∧ keep H (Lv (wth La p) ρ cs) (upd H p o) (Lv La ρ cs) ∧ ¬ Lv La ρ cs p := by
  obtain ⟨R1, k1⟩ := amb_put R o
  have np : ¬ Lv La ρ cs p := by
    rintro (h | ⟨n, c, h, _⟩)
    · exact nl h
    · exact R.dis p (List.mem_of_getElem? h) (.inr rfl)
  have k : keep H (Lv (wth La p) ρ cs) (upd H p o) (Lv La ρ cs) := fun a u h n => ⟨(k1 a u h n).1, fun z => n (by
    rcases z with z | z
    · exact .inl (.inl z)
    · exact .inr z)⟩
  have pre : ∃ more, ρ = ρ ++ more := ⟨[], by rw [List.append_nil]⟩
  refine ⟨⟨R.len, R.nd, fun a h => R1.amb a (.inl h), fun a h z => R.dis a h (.inl z), R1.trk, fun n c a hc ha => ?_⟩, k, np⟩
  exact (R.cel n c a hc ha).go k pre (upd_ne fun z => R.dis a (List.mem_of_getElem? ha) (.inr z))
/-- from before the thing to behind it -/
structure Gq (La : Addr → Prop) (p : Addr) (H : Hp) (ρ : List Addr) (cs : List Cell) (H' : Hp) (ρ' : List Addr) (cs' : List Cell) : Prop where
  keep : keep H (Lv La ρ cs) H' (Lv (wth La p) ρ' cs')
  amb : ∀ a, La a → H' a = H a
  pre : ∃ more, ρ' = ρ ++ more
theorem Gq.start (R : Rl K La H ρ cs) (hp : H p = none) (o : HO) : Gq La p H ρ cs (upd H p o) ρ cs :=
  ⟨(amb_in R hp o).2, fun a h => by
    obtain ⟨u, e⟩ := R.amb a h
    exact upd_ne (ne_of_none e hp), [], by rw [List.append_nil]⟩
theorem Gq.go {H2 : Hp} {ρ2 : List Addr} {cs2 : List Cell} (g : Gq La p H ρ cs H' ρ' cs') (G : Go (wth La p) H' ρ' cs' H2 ρ2 cs2) : Gq La p H ρ cs H2 ρ2 cs2 := by
  refine ⟨fun a u h n => ?_, fun a h => (G.amb a (.inl h)).trans (g.amb a h), ?_⟩
  · obtain ⟨h1, n1⟩ := g.keep a u h n
    exact G.keep a u h1 n1
  · obtain ⟨m, e⟩ := g.pre
    obtain ⟨m', e'⟩ := G.pre
    exact ⟨m ++ m', by rw [e', e, List.append_assoc]⟩
theorem Gq.put (hp : H p = none) (g : Gq La p H ρ cs H' ρ' cs') (R : Rl K La H ρ cs) (o : HO) : Gq La p H ρ cs (upd H' p o) ρ' cs' := by
  refine ⟨fun a u h n => ?_, fun a h => ?_, g.pre⟩
  · obtain ⟨h1, n1⟩ := g.keep a u h n
    exact ⟨by rw [upd_ne (ne_of_none h hp)]; exact h1, n1⟩
  · obtain ⟨u, e⟩ := R.amb a h
    rw [upd_ne (ne_of_none e hp)]
    exact g.amb a h
theorem Gq.fin (hp : H p = none) (g : Gq La p H ρ cs H' ρ' cs') (R : Rl K La H ρ cs) (o : HO) : Go La H ρ cs (upd H' p o) ρ' cs' := by
  have g := g.put hp R o
  exact ⟨fun a u h n => ⟨(g.keep a u h n).1, fun z => (g.keep a u h n).2 ((lv_wth (ne_of_none h hp)).mpr z)⟩, g.amb, g.pre⟩
end
theorem upd_self {H : Hp} {p : Addr} {o : HO} (h : H p = some o) : upd H p o = H := by
  funext a
  by_cases e : a = p
  · rw [e, upd_same, h]
  · rw [upd_ne e]
/-! ### a dict written in its place, that does not change -/
def mPairs : List (ES × ES) → MS (List (W × W))
  | [] => fun _ cs => some (.ok [] cs)
  | (a, b) :: r => fun s cs => bnd (a s cs) fun x cs => bnd (b s cs) fun y cs => bnd (mPairs r s cs) fun ps cs => some (.ok ((x, y) :: ps) cs)
def toKV : List (W × W) → Option (List (PyData × PyData))
  | [] => some []
  | (.d k, .d v) :: r => match toKV r with
    | some kvs => some ((k, v) :: kvs)
    | none => none
  | _ :: _ => none
/-- keys that are ints and texts, none twice -/
def okKeys : List (PyData × PyData) → Bool
  | [] => true
  | (k, _) :: r => (keyOf k).isSome && (r.all fun q => !decide (keyOf q.1 = keyOf k)) && okKeys r
def mDisp (prs : List (ES × ES)) : ES := fun s cs => bnd (mPairs prs s cs) fun ps cs => match toKV ps with
  | some kvs => if kvs.length ≤ 15 ∧ okKeys kvs = true then some (.ok (.d (.dict kvs)) cs) else none
  | none => none
abbrev RRp (K : Kx) : Hp → (Addr → Prop) → List Addr → List (W × W) → List (V × V) → Prop := fun H L ρ ws vs => Paired (fun p q => RW K H L ρ p.1 q.1 ∧ RW K H L ρ p.2 q.2) ws vs
theorem tPairs_of {K : Kx} {c : Cg} {La : Addr → Prop} {σ : L2.St} {s : Sg} : ∀ (prs : List (ES × ES)) {H : Hp} {ρ : List Addr} {cs : List Cell} {Q : List (V × V) → Hp → Prop}, Rl K La H ρ cs → RS K H (Lv La ρ cs) ρ s σ → Post K c La σ H ρ cs (RRp K) Q (mPairs prs s cs) →
    tPairs (prs.map fun q => (tE K c q.1, tE K c q.2)) σ H Q := by
  intro prs
  induction prs with
  | nil =>
    intro H ρ cs Q R S h
    exact h [] H ρ R Go.refl .nil
  | cons q r ih =>
    obtain ⟨a, b⟩ := q
    intro H ρ cs Q R S h
    refine ⟨La, ρ, cs, s, R, S, (Post.bind h).imp fun v H1 ⟨x, ρ1, cs1, R1, G1, r1, h1⟩ => ?_⟩
    have S1 := S.go G1.keep G1.pre
    refine ⟨La, ρ1, cs1, s, R1, S1, (Post.bind h1).imp fun u H2 ⟨y, ρ2, cs2, R2, G2, r2, h2⟩ => ?_⟩
    have S2 := S1.go G2.keep G2.pre
    refine ih R2 S2 ((Post.bind h2).imp fun ps H3 ⟨qs, ρ3, cs3, R3, G3, r3, h3⟩ => ?_)
    exact h3 _ H3 ρ3 R3 Go.refl (.cons ⟨(r1.go G2.keep G2.pre).go G3.keep G3.pre, r2.go G3.keep G3.pre⟩ r3)
theorem toKV_ok {K : Kx} {H : Hp} {L : Addr → Prop} {ρ : List Addr} : ∀ (ws : List (W × W)) {vs : List (V × V)} {kvs : List (PyData × PyData)}, RRp K H L ρ ws vs → toKV ws = some kvs → okKeys kvs = true → ∃ us : List (Key × V), vs = us.map (fun kv => (kV kv.1, kv.2)) ∧ RDk K H L kvs us := by
  intro ws
  induction ws with
  | nil =>
    intro vs kvs h e _
    cases e
    cases h
    exact ⟨[], rfl, rfl⟩
  | cons w r ih =>
    obtain ⟨x, y⟩ := w
    intro vs kvs h e ok
    cases x with
    | r n => exact nomatch e
    | k n => exact nomatch e
    | d k =>
      cases y with
      | r n => exact nomatch e
      | k n => exact nomatch e
      | d v =>
        unfold toKV at e
        split at e
        · rename_i kvs' e'
          cases e
          cases h with
          | @cons _ q _ qs h1 h2 =>
            unfold okKeys at ok
            rw [Bool.and_eq_true, Bool.and_eq_true] at ok
            obtain ⟨us, rfl, hu⟩ := ih h2 e' ok.2
            obtain ⟨kk, hk⟩ := Option.isSome_iff_exists.mp ok.1.1
            obtain ⟨q1, q2⟩ := q
            have e1 : q1 = kV kk := keyOf_ok h1.1 hk
            subst e1
            exact ⟨(kk, q2) :: us, rfl, kk, q2, us, rfl, hk, h1.2, hu⟩
        · cases e
theorem putK_fresh (kvs : List (Key × V)) {k : Key} {v : V} (h : ∀ p ∈ kvs, p.1 ≠ k) : putK kvs k v = kvs ++ [(k, v)] := by
  unfold putK
  rw [if_neg]
  intro z
  rw [List.any_eq_true] at z
  obtain ⟨p, hp, e⟩ := z
  exact h p hp (of_decide_eq_true e)
theorem rdk_keys {K : Kx} {H : Hp} {L : Addr → Prop} (kvs : List (PyData × PyData)) : ∀ {us : List (Key × V)}, RDk K H L kvs us → ∀ p ∈ us, ∃ q ∈ kvs, keyOf q.1 = some p.1 := by
  induction kvs with
  | nil =>
    intro us h p hp
    have h : us = [] := h
    subst h
    cases hp
  | cons q r ih =>
    obtain ⟨k, d⟩ := q
    intro us h p hp
    obtain ⟨kk, v, us', rfl, h1, h2, h3⟩ := h
    rcases List.mem_cons.mp hp with e | e
    · subst e
      exact ⟨(k, d), List.mem_cons_self, h1⟩
    · obtain ⟨q, hq, e2⟩ := ih h3 p e
      exact ⟨q, List.mem_cons_of_mem _ hq, e2⟩
theorem merge_nodup {K : Kx} {H : Hp} {L : Addr → Prop} (kvs : List (PyData × PyData)) : ∀ {us acc : List (Key × V)}, RDk K H L kvs us → okKeys kvs = true → (∀ p ∈ acc, ∀ q ∈ us, p.1 ≠ q.1) → mergeK acc us = acc ++ us := by
  induction kvs with
  | nil =>
    intro us acc h _ _
    have h : us = [] := h
    subst h
    rw [List.append_nil]
    rfl
  | cons q r ih =>
    obtain ⟨k, d⟩ := q
    intro us acc h ok dj
    obtain ⟨kk, v, us', rfl, h1, h2, h3⟩ := h
    unfold okKeys at ok
    rw [Bool.and_eq_true, Bool.and_eq_true] at ok
    show mergeK (putK acc kk v) us' = acc ++ (kk, v) :: us'
    have e1 : putK acc kk v = acc ++ [(kk, v)] := putK_fresh acc fun p hp => dj p hp (kk, v) List.mem_cons_self
    rw [e1, ih h3 ok.2, List.append_assoc]
    · rfl
    · intro p hp q hq
      rcases List.mem_append.mp hp with hp | hp
      · exact dj p hp q (List.mem_cons_of_mem _ hq)
      · have hp : p = (kk, v) := by simpa using hp
        subst hp
        intro z
        obtain ⟨q', hq', e2⟩ := rdk_keys r h3 q hq
        have := List.all_eq_true.mp ok.1.2 q' hq'
        rw [h1, e2, ← z] at this
        simp at this
theorem tDisp_of {K : Kx} {c : Cg} {σ : L2.St} {H : Hp} {Q : V → Hp → Prop} {prs : List (ES × ES)} (h : tE K c (mDisp prs) σ H Q) : tDisp (prs.map fun q => (tE K c q.1, tE K c q.2)) σ H Q := by
  obtain ⟨La, ρ, cs, s, R, S, h⟩ := h
  intro p hp
  obtain ⟨R1, k1⟩ := amb_in R hp (.dK [])
  have pre : ∃ more, ρ = ρ ++ more := ⟨[], by rw [List.append_nil]⟩
  have nla : ¬ La p := fun z => by
    obtain ⟨u, e⟩ := R.amb p z
    rw [hp] at e
    cases e
  refine tPairs_of prs R1 (S.go k1 pre) ?_
  unfold mDisp at h
  cases e : mPairs prs s cs with
  | none =>
    rw [e] at h
    exact False.elim h
  | some o =>
    rw [e] at h
    cases o with
    | ex f fs cs' =>
      intro C d us H' ρ' hc R' G' hd hpr
      have hH : H' p = some (.dK []) := by rw [G'.amb p (.inr rfl), upd_same]
      obtain ⟨R2, k2, n2⟩ := amb_out nla R' (.dK [])
      rw [upd_self hH] at R2 k2
      have G2 := ((Gq.start R hp (.dK [])).go G').fin hp R (.dK [])
      rw [upd_self hH] at G2
      exact h C d us H' ρ' hc R2 G2 hd (Paired.mapP hpr fun _ _ r => ⟨r.1, r.2.go k2 ⟨[], by rw [List.append_nil]⟩⟩)
    | ok ps cs' =>
      rw [bnd_ok] at h
      intro b H' ρ' R' G' r'
      have hH : H' p = some (.dK []) := by rw [G'.amb p (.inr rfl), upd_same]
      refine ⟨hH, ?_⟩
      split at h
      · rename_i kvs hk
        split at h
        · rename_i ok
          obtain ⟨us, rfl, hu⟩ := toKV_ok ps r' hk ok.2
          have hl : us.length = kvs.length := by
            have : ∀ (kvs : List (PyData × PyData)) {us : List (Key × V)}, RDk K H' (Lv (wth La p) ρ' cs') kvs us → us.length = kvs.length := by
              intro kvs
              induction kvs with
              | nil =>
                intro us h
                have h : us = [] := h
                rw [h]
                rfl
              | cons q r ih =>
                obtain ⟨k, d⟩ := q
                intro us h
                obtain ⟨kk, v, us', rfl, h1, h2, h3⟩ := h
                rw [List.length_cons, List.length_cons, ih h3]
            exact this kvs hu
          refine ⟨us, rfl, by omega, ?_⟩
          have em : mergeK [] us = us := by
            rw [merge_nodup kvs hu ok.2 (fun p hp => by cases hp)]
            rfl
          rw [em]
          obtain ⟨R2, k2, n2⟩ := amb_out nla R' (.dK us)
          have G2 := ((Gq.start R hp (.dK [])).go G').fin hp R (.dK us)
          exact h _ _ ρ' R2 G2 ⟨p, us, rfl, .inl ⟨upd_same, n2⟩, RDk.go k2 kvs hu⟩
        · exact False.elim h
      · exact False.elim h
section
variable {X : Cx} {c : Cg} {pos : Pos}
theorem sp_nil : PPs X pos [] [] (([] : List (ES × ES)).map fun q => (tE X.kx c q.1, tE X.kx c q.2)) := pps_nil
theorem sp_cons {k v : Expr} {ks : List (Option Expr)} {vs : List Expr} {mk mv : ES} {prs : List (ES × ES)} (hk : PE X k (tE X.kx c mk)) (hv : PE X v (tE X.kx c mv)) (hr : PPs X pos ks vs (prs.map fun q => (tE X.kx c q.1, tE X.kx c q.2))) :
    PPs X pos (some k :: ks) (v :: vs) (((mk, mv) :: prs).map fun q => (tE X.kx c q.1, tE X.kx c q.2)) := pps_cons hk hv hr
theorem sv_disp {keys : List (Option Expr)} {values : List Expr} {prs : List (ES × ES)} (h : PPs X pos keys values (prs.map fun q => (tE X.kx c q.1, tE X.kx c q.2))) (hall : keys.all (·.isSome) = true := by rfl) (hl : keys.length = values.length := by rfl) (h0 : keys ≠ [] := by exact List.cons_ne_nil _ _)
    (h15 : keys.length ≤ 15 := by decide) : PE X (.Dict keys values pos) (tE X.kx c (mDisp prs)) := (pe_disp h hall hl h0 h15).imp fun _ _ _ h => tDisp_of h
end
/-! a, b, c = x, y, z -/
def mPar3 (i j l : Nat) (a : AS) : SS := fun s cs => bndS (a s cs) s fun xs cs => match xs with
  | [x, y, z] => some (.nx (((s.set i (some x)).set j (some y)).set l (some z)) cs)
  | _ => none
theorem tPar3_of {K : Kx} {c : Cg} {D : Ends} {σ : L2.St} {H : Hp} {i j l : Nat} {aa : AS} (h : tS K c (mPar3 i j l aa) D σ H) : tPar3 i j l (tA K c aa) D σ H := by
  obtain ⟨La, ρ, cs, s, R, S, h⟩ := h
  refine ⟨La, ρ, cs, s, R, S, (PostS.bind S h).imp fun vs H1 ⟨xs, ρ1, cs1, R1, G1, r1, h1⟩ => ?_⟩
  split at h1
  · rename_i x y z
    match r1, h1 with
    | .cons r2 (.cons r3 (.cons r4 .nil)), h1 => exact ⟨_, _, _, rfl, h1 _ H1 ρ1 R1 Go.refl ((((S.go G1.keep G1.pre).set i r2).set j r3).set l r4)⟩
  · exact False.elim h1
theorem ss_par3 {X : Cx} {c : Cg} {i j l : Nat} {x y z : Str} {a b d : Expr} {aa : AS} {px py pz pt pos : Pos} {kt k2 pt2} (hc : X.calm = true) (hN : X.N.Nodup) (hi : X.N[i]? = some x) (hj : X.N[j]? = some y) (hl : X.N[l]? = some z) (hij : i ≠ j) (hil : i ≠ l) (hjl : j ≠ l)
    (hx : X.env.scope.names.lookup x = some .local) (hy : X.env.scope.names.lookup y = some .local) (hz : X.env.scope.names.lookup z = some .local) (ha : PA X [a, b, d] (tA X.kx c aa))
    (hw : swappedStores [.Tuple [.Name x px, .Name y py, .Name z pz] kt pt] (.Tuple [a, b, d] k2 pt2) X.env = pure (some [x, y, z]))
    (hs : swapsWithSole [.Tuple [.Name x px, .Name y py, .Name z pz] kt pt] (.Tuple [a, b, d] k2 pt2) pos.line X.env = pure false := by rfl) :
    PS X (.Assign [.Tuple [.Name x px, .Name y py, .Name z pz] kt pt] (.Tuple [a, b, d] k2 pt2) pos) (tS X.kx c (mPar3 i j l aa)) := (ps_par3 hc hN hi hj hl hij hil hjl hx hy hz ha hw hs).imp fun _ _ _ h => tPar3_of h
end Sm
/-! SmM: how the readings are reckoned. -/
namespace Sm
open PySem PySem.Spec PyProof.Rows L2
section
variable {w x y : W} {s : Sg} {cs : List Cell} {a b c : ES} {ta tb : BS} {aa : AS} {i n : Nat} {f f' : W → W → List Cell → Option (Rs W)} {m1' m2' : SS} {g : Tg}
@[simp] theorem mV_0 : mV 0 (some w :: s) cs = some (.ok w cs) := id rfl
@[simp] theorem mV_s {x : Option W} : mV (i + 1) (x :: s) cs = mV i s cs := by
  unfold mV
  rw [List.getElem?_cons_succ]
@[simp] theorem mC_e {d : PyData} : mC d s cs = some (.ok (.d d) cs) := id rfl
@[simp] theorem mK_e : mK w s cs = some (.ok w cs) := id rfl
@[simp] theorem m2_e : m2 f a b s cs = bnd (a s cs) fun x cs => bnd (b s cs) fun y cs => f x y cs := id rfl
@[simp] theorem m1_e {f : W → List Cell → Option (Rs W)} : m1 f a s cs = bnd (a s cs) f := id rfl
@[simp] theorem dd2_e {f : PyData → PyData → Option PyData} {d e : PyData} : dd2 f (.d d) (.d e) cs = ret? (f d e) cs := id rfl
@[simp] theorem dd1_e {f : PyData → Option PyData} {d : PyData} : dd1 f (.d d) cs = ret? (f d) cs := id rfl
@[simp] theorem ret?_s {d : PyData} : ret? (some d) cs = some (.ok (.d d) cs) := id rfl
@[simp] theorem fB_e {g : Int → Int → Bool} {i j : Int} : fB g (.int i) (.int j) = some (.bool (g i j)) := id rfl
@[simp] theorem fAdd_i {i j : Int} : fAdd (.int i) (.int j) = some (.int (i + j)) := id rfl
@[simp] theorem fI_t {g : Int → Int → Int} {i j : Int} : fI (fun _ _ => true) g (.int i) (.int j) = some (.int (g i j)) := id rfl
theorem fI_c {C : Int → Int → Bool} {g : Int → Int → Int} {i j : Int} (h : C i j = true) : fI C g (.int i) (.int j) = some (.int (g i j)) := by
  show (if C i j = true then some (PyData.int (g i j)) else none) = _
  rw [if_pos h]
@[simp] theorem fU_e {g : Int → Int} {i : Int} : fU g (.int i) = some (.int (g i)) := id rfl
@[simp] theorem eqD_i {i j : Int} : eqD (.int i) (.int j) = some (i == j) := by
  show (if SeqAt.shaped (.int i) = true ∧ SeqAt.shaped (.int j) = true then some (PyData.eqv (.int i) (.int j)) else none) = _
  rw [if_pos ⟨by rfl, by rfl⟩]
  rfl
@[simp] theorem eqD_s {i j : Str} : eqD (.str i) (.str j) = some (i == j) := id rfl
@[simp] theorem eqD_b {i j : Bool} : eqD (.bool i) (.bool j) = some (i == j) := by
  show (if SeqAt.shaped (.bool i) = true ∧ SeqAt.shaped (.bool j) = true then some (PyData.eqv (.bool i) (.bool j)) else none) = _
  rw [if_pos ⟨by rfl, by rfl⟩]
  rfl
@[simp] theorem fEq_e {d e : PyData} : fEq d e = (eqD d e).map .bool := id rfl
@[simp] theorem fNe_e {d e : PyData} : fNe d e = (eqD d e).map fun k => .bool (!k) := id rfl
@[simp] theorem mTs_e : mTs a s cs = bnd (a s cs) fun x cs => retB (asB x) cs := id rfl
@[simp] theorem mTr_e : mTr a s cs = bnd (a s cs) fun x cs => retB (truW x cs) cs := id rfl
@[simp] theorem asB_b {k : Bool} : asB (.d (.bool k)) = some k := id rfl
@[simp] theorem retB_s {k : Bool} : retB (some k) cs = some (.ok k cs) := id rfl
@[simp] theorem mAndB_e : mAndB ta tb s cs = bnd (ta s cs) fun x cs => if x = true then tb s cs else some (.ok false cs) := id rfl
@[simp] theorem mOrB_e : mOrB ta tb s cs = bnd (ta s cs) fun x cs => if x = true then some (.ok true cs) else tb s cs := id rfl
@[simp] theorem mNotB_e : mNotB ta s cs = bnd (ta s cs) fun x cs => some (.ok (!x) cs) := id rfl
@[simp] theorem mIf_e : mIf ta a b s cs = bnd (ta s cs) fun x cs => if x = true then a s cs else b s cs := id rfl
@[simp] theorem mNil_e : mNil s cs = some (.ok [] cs) := id rfl
@[simp] theorem mCons_e : mCons a aa s cs = bnd (a s cs) fun x cs => bnd (aa s cs) fun xs cs => some (.ok (x :: xs) cs) := id rfl
@[simp] theorem mCall_e {f : List W → List Cell → Option (Rs W)} : mCall f aa s cs = bnd (aa s cs) f := id rfl
@[simp] theorem mDef_e {f : List W → List Cell → Option (Rs W)} : mDef n f aa s cs = bnd (aa s cs) fun ws cs => if ws.length = n then f ws cs else none := id rfl
@[simp] theorem mSkip_e : mSkip s cs = some (.nx s cs) := id rfl
@[simp] theorem mAsg_e : mAsg i a s cs = bndS (a s cs) s fun x cs => some (.nx (s.set i (some x)) cs) := id rfl
@[simp] theorem mDo_e : mDo a s cs = bndS (a s cs) s fun _ cs => some (.nx s cs) := id rfl
@[simp] theorem mRet_e : mRet a s cs = bndS (a s cs) s fun x cs => some (.rt x cs) := id rfl
@[simp] theorem mRetN_e : mRetN s cs = some (.rt (.d .none) cs) := id rfl
@[simp] theorem mIfS_e : mIfS ta m1' m2' s cs = bndS (ta s cs) s fun x cs => if x = true then m1' s cs else m2' s cs := id rfl
def seqK (o : Option So) (b : SS) : Option So := match o with
  | some (.nx s' cs') => b s' cs'
  | o => o
@[simp] theorem mSeq_e : mSeq m1' m2' s cs = seqK (m1' s cs) m2' := id rfl
@[simp] theorem seqK_nx : seqK (some (.nx s cs)) m2' = m2' s cs := id rfl
@[simp] theorem seqK_rt : seqK (some (.rt w cs)) m2' = some (.rt w cs) := id rfl
@[simp] theorem seqK_bk : seqK (some (.bk s cs)) m2' = some (.bk s cs) := id rfl
@[simp] theorem seqK_ct : seqK (some (.ct s cs)) m2' = some (.ct s cs) := id rfl
@[simp] theorem seqK_ex {e : Str} {fs : List (Str × W)} : seqK (some (.ex e fs s cs)) m2' = some (.ex e fs s cs) := id rfl
@[simp] theorem seqK_none : seqK none m2' = none := id rfl
@[simp] theorem mTg_e : mTg g a s cs = bndS (a s cs) s fun x cs => match g x s with
  | some s' => some (.nx s' cs)
  | none => none := id rfl
@[simp] theorem gN_e : gN i w s = some (s.set i (some w)) := id rfl
@[simp] theorem mPar_e {j : Nat} : mPar i j aa s cs = bndS (aa s cs) s fun xs cs => match xs with
  | [x, y] => some (.nx ((s.set i (some x)).set j (some y)) cs)
  | _ => none := id rfl
@[simp] theorem mPar3_e {j l : Nat} : mPar3 i j l aa s cs = bndS (aa s cs) s fun xs cs => match xs with
  | [x, y, z] => some (.nx (((s.set i (some x)).set j (some y)).set l (some z)) cs)
  | _ => none := id rfl
@[simp] theorem mAug_e : mAug i f a s cs = match s[i]? with
  | some (some x) => bndS (a s cs) s fun y cs => bndS (f x y cs) s fun z cs => some (.nx (s.set i (some z)) cs)
  | _ => none := id rfl
@[simp] theorem mSt_e : mSt a b c s cs = bndS (c s cs) s fun v cs => bndS (a s cs) s fun x cs => bndS (b s cs) s fun y cs => match fSt x y v cs with
  | some cs => some (.nx s cs)
  | none => none := id rfl
@[simp] theorem mFor_e {it : AS} : mFor it g m1' s cs = bndS (it s cs) s fun ws cs => mLoop g m1' ws s cs := id rfl
@[simp] theorem mIt_e : mIt a s cs = bnd (a s cs) fun x cs => match itW x with
  | some ws => some (.ok ws cs)
  | none => none := id rfl
@[simp] theorem mRg1_e : mRg1 aa s cs = bnd (aa s cs) rgL1 := id rfl
@[simp] theorem mRg2_e : mRg2 aa s cs = bnd (aa s cs) rgL2 := id rfl
@[simp] theorem mSl_e {lo hi : OS} : mSl a lo hi s cs = bnd (a s cs) fun x cs => bnd (lo s cs) fun l cs => bnd (hi s cs) fun h cs => fSl x l h cs := id rfl
@[simp] theorem mNo_e : mNo s cs = some (.ok none cs) := id rfl
@[simp] theorem mPt_e : mPt a s cs = bnd (a s cs) fun x cs => match x with
  | .d (.int i) => some (.ok (some i) cs)
  | _ => none := id rfl
@[simp] theorem dI_1 {f : List PyData → Option PyData} {d : PyData} : dI f [.d d] cs = ret? (f [d]) cs := id rfl
@[simp] theorem dI_2 {f : List PyData → Option PyData} {d e : PyData} : dI f [.d d, .d e] cs = ret? (f [d, e]) cs := id rfl
@[simp] theorem gInt_i {i : Int} : gInt [.int i] = some (.int i) := id rfl
@[simp] theorem gAbs_i {i : Int} : gAbs [.int i] = some (.int (if i < 0 then -i else i)) := id rfl
end
/-- what a pure def of data hands back -/
theorem pureF_ok {F : List W → List Cell → Option (Rs W)} {ds : List PyData} {d : PyData} {cs cs1 : List Cell} (h : F (ds.map .d) [] = some (.ok (.d d) cs1)) : pureF F (ds.map .d) cs = some (.ok (.d d) cs) := by
  unfold pureF
  rw [toD_of]
  simp only
  rw [h]
theorem atI_map {α β : Type} (f : α → β) (xs : List α) (i : Int) : atI (xs.map f) i = (atI xs i).map f := by
  unfold atI
  rw [List.length_map]
  cases ixN xs.length i with
  | none => rfl
  | some j =>
    show (xs.map f)[j]? = (xs[j]?).map f
    rw [List.getElem?_map]
theorem atI_nn {α : Type} {xs : List α} {i : Int} (h0 : 0 ≤ i) (h : i < xs.length) : atI xs i = some (xs[i.toNat]'(by omega)) := by
  unfold atI ixN
  rw [if_pos h0, if_pos h]
  exact List.getElem?_eq_getElem (by omega)
def okW (o : Option W) (cs : List Cell) : Option (Rs W) := match o with
  | some w => some (.ok w cs)
  | none => none
@[simp] theorem okW_s {w : W} {cs : List Cell} : okW (some w) cs = some (.ok w cs) := id rfl
@[simp] theorem fIx2_list {ds : List PyData} {i : Int} {cs : List Cell} : fIx2 (.d (.list ds)) (.d (.int i)) cs = okW ((atI ds i).map .d) cs := by
  show (match atI (ds.map W.d) i with
    | some x => some (Rs.ok x cs)
    | none => none) = _
  rw [atI_map]
  cases atI ds i <;> rfl
@[simp] theorem fIx2_tup {ds : List PyData} {i : Int} {cs : List Cell} : fIx2 (.d (.tuple ds)) (.d (.int i)) cs = okW ((atI ds i).map .d) cs := by
  show (match atI (ds.map W.d) i with
    | some x => some (Rs.ok x cs)
    | none => none) = _
  rw [atI_map]
  cases atI ds i <;> rfl
theorem fIx2_cell {n : Nat} {ws : List W} {i : Int} {cs : List Cell} (h : cs[n]? = some (.lst ws)) : fIx2 (.r n) (.d (.int i)) cs = okW (atI ws i) cs := by
  show (match asL (.r n) cs with
    | some ws => (match atI ws i with
      | some x => some (Rs.ok x cs)
      | none => none)
    | none => _) = _
  have e : asL (.r n) cs = some ws := by
    show (match cs[n]? with
      | some (.lst ws) => some ws
      | _ => none) = _
    rw [h]
  rw [e]
  show (match atI ws i with
      | some x => some (Rs.ok x cs)
      | none => none) = _
  cases atI ws i <;> rfl
theorem fSt_cell {n : Nat} {ws : List W} {i : Int} {v : W} {cs : List Cell} (h : cs[n]? = some (.lst ws)) : fSt (.r n) (.d (.int i)) v cs = (ixN ws.length i).map fun j => cs.set n (.lst (ws.set j v)) := by
  show (match cs[n]? with
    | some (.lst ws) => (match ixN ws.length i with
      | some j => some (cs.set n (.lst (ws.set j v)))
      | none => none)
    | some (.dK kvs) => if kvs.length < sizeLine then some (cs.set n (.dK (putW kvs (Sum.inl i) v))) else none
    | _ => none) = _
  rw [h]
  show (match ixN ws.length i with
      | some j => some (cs.set n (Cell.lst (ws.set j v)))
      | none => none) = _
  cases ixN ws.length i <;> rfl
def endF (o : Option So) : Option (Rs W) := match o with
  | some (.rt w cs') => some (.ok w cs')
  | some (.nx _ cs') => some (.ok (.d .none) cs')
  | some (.ex e fs _ cs') => some (.ex e fs cs')
  | _ => none
@[simp] theorem runF_e {n : Nat} {m : SS} {ws : List W} {cs : List Cell} : runF n m ws cs = endF (m (ws.map some ++ List.replicate (n - ws.length) none) cs) := id rfl
@[simp] theorem endF_rt {w : W} {cs : List Cell} : endF (some (.rt w cs)) = some (.ok w cs) := id rfl
@[simp] theorem endF_nx {s : Sg} {cs : List Cell} : endF (some (.nx s cs)) = some (.ok (.d .none) cs) := id rfl
@[simp] theorem endF_none : endF none = none := id rfl
@[simp] theorem mkT_ds {ds : List PyData} {cs : List Cell} : mkT (ds.map .d) cs = if ds.length ≤ sizeLine then some (.ok (.d (.tuple ds)) cs) else none := by
  unfold mkT
  rw [toD_of]
@[simp] theorem mkL_ds {ds : List PyData} {cs : List Cell} : mkL (ds.map .d) cs = if ds.length ≤ sizeLine then some (.ok (.d (.list ds)) cs) else none := by
  unfold mkL
  rw [toD_of]
theorem szl : sizeLine = 16777216 := sizeLine_eq
@[simp] theorem bLen_list {ds : List PyData} {cs : List Cell} : bLen [.d (.list ds)] cs = some (.ok (.d (.int ds.length)) cs) := by
  show some (Rs.ok (W.d (.int (ds.map W.d).length)) cs) = _
  rw [List.length_map]
@[simp] theorem bLen_tup {ds : List PyData} {cs : List Cell} : bLen [.d (.tuple ds)] cs = some (.ok (.d (.int ds.length)) cs) := by
  show some (Rs.ok (W.d (.int (ds.map W.d).length)) cs) = _
  rw [List.length_map]
/-! loops -/
def loopK (o : Option So) (g : Tg) (b : SS) (r : List W) : Option So := match o with
  | some (.nx s' cs') => mLoop g b r s' cs'
  | some (.ct s' cs') => mLoop g b r s' cs'
  | some (.bk s' cs') => some (.nx s' cs')
  | o => o
@[simp] theorem mLoop_nil {g : Tg} {b : SS} {s : Sg} {cs : List Cell} : mLoop g b [] s cs = some (.nx s cs) := id rfl
theorem mLoop_cons {g : Tg} {b : SS} {w : W} {r : List W} {s s1 : Sg} {cs : List Cell} (h : g w s = some s1) : mLoop g b (w :: r) s cs = loopK (b s1 cs) g b r := by
  show (match g w s with
    | some s1 => (match b s1 cs with
      | some (.nx s' cs') => mLoop g b r s' cs'
      | some (.ct s' cs') => mLoop g b r s' cs'
      | some (.bk s' cs') => some (.nx s' cs')
      | o => o)
    | none => none) = _
  rw [h]
  rfl
@[simp] theorem loopK_nx {g : Tg} {b : SS} {r : List W} {s : Sg} {cs : List Cell} : loopK (some (.nx s cs)) g b r = mLoop g b r s cs := id rfl
@[simp] theorem loopK_ct {g : Tg} {b : SS} {r : List W} {s : Sg} {cs : List Cell} : loopK (some (.ct s cs)) g b r = mLoop g b r s cs := id rfl
@[simp] theorem loopK_bk {g : Tg} {b : SS} {r : List W} {s : Sg} {cs : List Cell} : loopK (some (.bk s cs)) g b r = some (.nx s cs) := id rfl
@[simp] theorem loopK_rt {g : Tg} {b : SS} {r : List W} {w : W} {cs : List Cell} : loopK (some (.rt w cs)) g b r = some (.rt w cs) := id rfl
/-- a loop whose turns go on, by what holds ahead of each -/
theorem mLoop_inv {g : Tg} {b : SS} (I : Nat → Sg → List Cell → Prop) : ∀ (ws : List W) (k : Nat) (s : Sg) (cs : List Cell), I k s cs →
    (∀ j w s cs, ws[j]? = some w → I (k + j) s cs → ∃ s1, g w s = some s1 ∧ ∃ s2 cs2, (b s1 cs = some (.nx s2 cs2) ∨ b s1 cs = some (.ct s2 cs2)) ∧ I (k + j + 1) s2 cs2) →
    ∃ s' cs', mLoop g b ws s cs = some (.nx s' cs') ∧ I (k + ws.length) s' cs' := by
  intro ws
  induction ws with
  | nil => exact fun k s cs h _ => ⟨s, cs, rfl, h⟩
  | cons w r ih =>
    intro k s cs h t
    obtain ⟨s1, e1, s2, cs2, e2, h2⟩ := t 0 w s cs rfl h
    rw [mLoop_cons e1]
    obtain ⟨s', cs', e3, h3⟩ := ih (k + 1) s2 cs2 h2 fun j w' s cs hj hI => by
      have := t (j + 1) w' s cs (by simpa using hj) (by rw [show k + (j + 1) = k + 1 + j by omega]; exact hI)
      rw [show k + (j + 1) + 1 = k + 1 + j + 1 by omega] at this
      exact this
    refine ⟨s', cs', ?_, by rw [show k + (w :: r).length = k + 1 + r.length by simp; omega]; exact h3⟩
    rcases e2 with e2 | e2
    · rw [e2]
      exact e3
    · rw [e2]
      exact e3
theorem rgW_at {lo : Int} {n j : Nat} {w : W} (h : (rgW lo n)[j]? = some w) : j < n ∧ w = .d (.int (lo + (j : Int))) := by
  unfold rgW at h
  rw [List.getElem?_map] at h
  cases e : (List.range n)[j]? with
  | none =>
    rw [e] at h
    cases h
  | some k =>
    rw [e] at h
    have h1 := List.getElem?_eq_some_iff.mp e
    have : j = k := by simpa using h1.2
    cases h
    exact ⟨by simpa using h1.1, by rw [this]⟩
@[simp] theorem rgW_len {lo : Int} {n : Nat} : (rgW lo n).length = n := by simp [rgW]
@[simp] theorem rgL1_e {i : Int} {cs : List Cell} : rgL1 [.d (.int i)] cs = if bnd62 i = true then some (.ok (rgW 0 i.toNat) cs) else none := id rfl
/-! arithmetic -/
section
variable {i j : Int}
theorem fMul_r (h1 : -(2 ^ 64) < j) (h2 : j < 2 ^ 64) : fMul (.int i) (.int j) = some (.int (i * j)) := fI_c (decide_eq_true (.inr ⟨h1, h2⟩))
theorem fMul_l (h1 : -(2 ^ 64) < i) (h2 : i < 2 ^ 64) : fMul (.int i) (.int j) = some (.int (i * j)) := fI_c (decide_eq_true (.inl ⟨h1, h2⟩))
theorem fMod_p (h : 0 < j) : fMod (.int i) (.int j) = some (.int (i % j)) := fI_c (decide_eq_true h)
theorem fDiv_c (h : cDiv i j = true) : fDiv (.int i) (.int j) = some (.int (i / j)) := fI_c h
theorem cDiv_of {n : Nat} (h : 0 < j) (h0 : 0 < n) (hn : n ≤ 9000) (h2 : j.natAbs < 2 ^ n) : cDiv i j = true := by
  refine decide_eq_true ⟨h, ?_⟩
  have := PySem.Flt.log2_lt_of h0 h2
  omega
theorem fDiv_s (h : 0 < j) (h2 : j < 4611686018427387904) : fDiv (.int i) (.int j) = some (.int (i / j)) := fDiv_c (cDiv_of (n := 62) h (by decide) (by decide) (by omega))
theorem fPow_c (h : cPow i j = true) : fPow (.int i) (.int j) = some (.int (i ^ j.toNat)) := fI_c h
theorem fShl_c (h : cPow i j = true) : fShl (.int i) (.int j) = some (.int (i * 2 ^ j.toNat)) := fI_c h
theorem fShr_c (h : 0 ≤ j) : fShr (.int i) (.int j) = some (.int (i / 2 ^ j.toNat)) := fI_c (decide_eq_true h)
theorem cPow_of (h0 : 0 ≤ j) (h1 : j ≤ 1000000) (h2 : i.natAbs < 2 ^ 64) : cPow i j = true := decide_eq_true ⟨h0, h1, h2⟩
end
/-! while -/
def whileK (o : Option So) (t : BS) (b : SS) (n : Nat) : Option So := match o with
  | some (.nx s' cs') => mWhile t b n s' cs'
  | some (.ct s' cs') => mWhile t b n s' cs'
  | some (.bk s' cs') => some (.nx s' cs')
  | o => o
section
variable {t : BS} {b : SS} {n : Nat} {s : Sg} {cs : List Cell} {w : W}
theorem mWhile_s : mWhile t b (n + 1) s cs = bndS (t s cs) s fun x cs => if x = true then whileK (b s cs) t b n else some (.nx s cs) := id rfl
@[simp] theorem whileK_nx : whileK (some (.nx s cs)) t b n = mWhile t b n s cs := id rfl
@[simp] theorem whileK_ct : whileK (some (.ct s cs)) t b n = mWhile t b n s cs := id rfl
@[simp] theorem whileK_bk : whileK (some (.bk s cs)) t b n = some (.nx s cs) := id rfl
@[simp] theorem whileK_rt : whileK (some (.rt w cs)) t b n = some (.rt w cs) := id rfl
end
@[simp] theorem gTp_e {n : Nat} {g : Tgs} {ds : List PyData} {s : Sg} : gTp n g (.d (.tuple ds)) s = if ds.length = n then g (ds.map .d) s else none := by
  show (if (ds.map W.d).length = n then g (ds.map W.d) s else none) = _
  rw [List.length_map]
@[simp] theorem gCs_e {g : Tg} {r : Tgs} {w : W} {ws : List W} {s : Sg} : gCs g r (w :: ws) s = match g w s with
  | some s' => r ws s'
  | none => none := id rfl
@[simp] theorem gNl_e {s : Sg} : gNl [] s = some s := id rfl
@[simp] theorem mkT_2 {d e : PyData} {cs : List Cell} : mkT [.d d, .d e] cs = some (.ok (.d (.tuple [d, e])) cs) := id rfl
@[simp] theorem mkL_2 {d e : PyData} {cs : List Cell} : mkL [.d d, .d e] cs = some (.ok (.d (.list [d, e])) cs) := id rfl
@[simp] theorem bMaxL_2 {i j : Int} {cs : List Cell} : bMaxL [.d (.list [.int i, .int j])] cs = some (.ok (.d (.int (max i j))) cs) := id rfl
/-! texts that are written -/
@[simp] theorem ofString_inj {s t : String} : (Str.ofString s = Str.ofString t) ↔ s = t := by
  rw [Str.ofString_eq_toList, Str.ofString_eq_toList]
  constructor
  · intro h
    have h1 : (s.toList.map Char.toNat).toArray = (t.toList.map Char.toNat).toArray := congrArg Str.cps h
    have h2 : s.toList.map Char.toNat = t.toList.map Char.toNat := by simpa using h1
    have h3 : s.toList = t.toList := by
      have inj : ∀ (a b : List Char), a.map Char.toNat = b.map Char.toNat → a = b := by
        intro a
        induction a with
        | nil => intro b h; cases b with
          | nil => rfl
          | cons => simp at h
        | cons x r ih => intro b h; cases b with
          | nil => simp at h
          | cons y q =>
            simp only [List.map_cons, List.cons.injEq] at h
            rw [ih q h.2, show x = y from Char.toNat_inj.mp h.1]
      exact inj _ _ h2
    exact String.toList_inj.mp h3
  · rintro rfl
    rfl
@[simp] theorem ofString_beq {s t : String} : (Str.ofString s == Str.ofString t) = (s == t) := by
  rw [Bool.eq_iff_iff]
  simp [ofString_inj]
@[simp] theorem keyOf_s {x : Str} : keyOf (.str x) = some (Sum.inr x) := id rfl
@[simp] theorem keyOf_i {x : Int} : keyOf (.int x) = some (Sum.inl x) := id rfl
/-! dicts written in their place -/
def dispK (ps : List (W × W)) (cs : List Cell) : Option (Rs W) := match toKV ps with
  | some kvs => if kvs.length ≤ 15 ∧ okKeys kvs = true then some (.ok (.d (.dict kvs)) cs) else none
  | none => none
section
variable {s : Sg} {cs : List Cell} {a b : ES} {prs : List (ES × ES)} {k v : PyData}
@[simp] theorem mDisp_e : mDisp prs s cs = bnd (mPairs prs s cs) dispK := id rfl
@[simp] theorem mPairs_nil : mPairs [] s cs = some (.ok [] cs) := id rfl
@[simp] theorem mPairs_cons : mPairs ((a, b) :: prs) s cs = bnd (a s cs) fun x cs => bnd (b s cs) fun y cs => bnd (mPairs prs s cs) fun ps cs => some (.ok ((x, y) :: ps) cs) := id rfl
@[simp] theorem toKV_nil : toKV [] = some [] := id rfl
@[simp] theorem toKV_cons {r : List (W × W)} : toKV ((.d k, .d v) :: r) = (toKV r).map fun kvs => (k, v) :: kvs := by
  show (match toKV r with
    | some kvs => some ((k, v) :: kvs)
    | none => none) = _
  cases toKV r <;> rfl
@[simp] theorem okKeys_nil : okKeys [] = true := id rfl
@[simp] theorem okKeys_cons {r : List (PyData × PyData)} : okKeys ((k, v) :: r) = ((keyOf k).isSome && (r.all fun q => !decide (keyOf q.1 = keyOf k)) && okKeys r) := id rfl
@[simp] theorem valD_nil {k : Key} : valD [] k = none := id rfl
@[simp] theorem valD_cons {q d : PyData} {r : List (PyData × PyData)} {k : Key} : valD ((q, d) :: r) k = if keyOf q = some k then some d else valD r k := id rfl
theorem dispK_of {ps : List (W × W)} {kvs : List (PyData × PyData)} (h : toKV ps = some kvs) (hl : kvs.length ≤ 15) (hk : okKeys kvs = true) : dispK ps cs = some (.ok (.d (.dict kvs)) cs) := by
  unfold dispK
  rw [h]
  show (if kvs.length ≤ 15 ∧ okKeys kvs = true then _ else _) = _
  rw [if_pos ⟨hl, hk⟩]
@[simp] theorem fIx2_dict_s {kvs : List (PyData × PyData)} {x : Str} : fIx2 (.d (.dict kvs)) (.d (.str x)) cs = okW ((valD kvs (Sum.inr x)).map .d) cs := by
  show (match valD kvs (Sum.inr x) with
    | some d => some (Rs.ok (W.d d) cs)
    | none => none) = _
  cases valD kvs (Sum.inr x) <;> rfl
@[simp] theorem fIx2_dict_i {kvs : List (PyData × PyData)} {x : Int} : fIx2 (.d (.dict kvs)) (.d (.int x)) cs = okW ((valD kvs (Sum.inl x)).map .d) cs := by
  show (match valD kvs (Sum.inl x) with
    | some d => some (Rs.ok (W.d d) cs)
    | none => none) = _
  cases valD kvs (Sum.inl x) <;> rfl
/-- a text in a written row of texts -/
theorem fIn2_tup {d : PyData} {ds : List PyData} {neg : Bool} (h : flatD d = true ∧ ds.all flatD = true) : fIn2 neg (.d d) (.d (.tuple ds)) cs = some (.ok (.d (.bool (if neg then !anyD ds d else anyD ds d))) cs) := by
  have e : fIn0 (.d d) (.d (.tuple ds)) cs = some (anyD ds d) := by
    show (if flatD d = true ∧ ds.all flatD = true then some (anyD ds d) else none) = _
    rw [if_pos h]
  show fIn neg (.d d) (.d (.tuple ds)) cs = _
  unfold fIn
  rw [e]
@[simp] theorem anyD_nil {d : PyData} : anyD [] d = false := id rfl
@[simp] theorem anyD_cons {d e : PyData} {ds : List PyData} : anyD (e :: ds) d = (PyData.eqv e d || anyD ds d) := id rfl
@[simp] theorem eqv_ss {x y : Str} : PyData.eqv (.str x) (.str y) = (x == y) := id rfl
@[simp] theorem eqv_ii {x y : Int} : PyData.eqv (.int x) (.int y) = (x == y) := id rfl
@[simp] theorem flatD_s {x : Str} : flatD (.str x) = true := id rfl
@[simp] theorem flatD_i {x : Int} : flatD (.int x) = true := id rfl
end
theorem bnd62_nat {n : Nat} (h : n ≤ 1000000) : bnd62 (n : Int) = true := decide_eq_true ⟨by omega, by omega⟩
theorem rgL1_of {n : Nat} {cs : List Cell} (h : n ≤ 1000000) : rgL1 [.d (.int (n : Int))] cs = some (.ok (rgW 0 n) cs) := by
  rw [rgL1_e, if_pos (bnd62_nat h), Int.toNat_natCast]
def tupK (o : Option (List PyData)) (cs : List Cell) : Option (Rs W) := match o with
  | some ds => if ds.length ≤ sizeLine then some (.ok (.d (.tuple ds)) cs) else none
  | none => none
def lstK (o : Option (List PyData)) (cs : List Cell) : Option (Rs W) := match o with
  | some ds => if ds.length ≤ sizeLine then some (.ok (.d (.list ds)) cs) else none
  | none => none
def dispR (o : Option (List (PyData × PyData))) (cs : List Cell) : Option (Rs W) := match o with
  | some kvs => if kvs.length ≤ 15 ∧ okKeys kvs = true then some (.ok (.d (.dict kvs)) cs) else none
  | none => none
section
variable {cs : List Cell} {x : PyData} {r ws : List W} {ds : List PyData}
@[simp] theorem toD_nil : toD [] = some [] := id rfl
@[simp] theorem toD_c : toD (.d x :: r) = (toD r).map (x :: ·) := by
  show (match toD r with
    | some ds => some (x :: ds)
    | none => none) = _
  cases toD r <;> rfl
theorem mkT_e : mkT ws cs = tupK (toD ws) cs := id rfl
theorem mkL_e : mkL ws cs = lstK (toD ws) cs := id rfl
theorem tupK_s : tupK (some ds) cs = if ds.length ≤ sizeLine then some (.ok (.d (.tuple ds)) cs) else none := id rfl
theorem lstK_s : lstK (some ds) cs = if ds.length ≤ sizeLine then some (.ok (.d (.list ds)) cs) else none := id rfl
theorem dispK_e {ps : List (W × W)} : dispK ps cs = dispR (toKV ps) cs := id rfl
theorem dispR_s {kvs : List (PyData × PyData)} : dispR (some kvs) cs = if kvs.length ≤ 15 ∧ okKeys kvs = true then some (.ok (.d (.dict kvs)) cs) else none := id rfl
end
end Sm
namespace Pg
open PySem PySem.Spec PyProof.Rows L2 Sm
def topS (i : Nat) : Stmt := PySem.Challenge.pw_trueimage_k01_whole_words.main.body.getD i (.Pass ⟨0, 0, 0, 0⟩)
abbrev s_word_of : Stmt := topS 3
theorem sc_word_of : FnScope ["number"] ["number"] (defScope s_word_of) := ⟨rfl, rfl, rfl, by decide +kernel, rfl, by decide +kernel, by decide +kernel⟩
abbrev s_signed : Stmt := topS 4
theorem sc_signed : FnScope ["word"] ["word"] (defScope s_signed) := ⟨rfl, rfl, rfl, by decide +kernel, rfl, by decide +kernel, by decide +kernel⟩
abbrev s_quotient : Stmt := topS 5
theorem sc_quotient : FnScope ["a", "b", "found"] ["a", "b"] (defScope s_quotient) := ⟨rfl, rfl, rfl, by decide +kernel, rfl, by decide +kernel, by decide +kernel⟩
abbrev s_divided : Stmt := topS 6
theorem sc_divided : FnScope ["kind", "a", "b", "x", "y", "found"] ["kind", "a", "b"] (defScope s_divided) := ⟨rfl, rfl, rfl, by decide +kernel, rfl, by decide +kernel, by decide +kernel⟩
abbrev s_shifted : Stmt := topS 7
theorem sc_shifted : FnScope ["kind", "a", "b", "many"] ["kind", "a", "b"] (defScope s_shifted) := ⟨rfl, rfl, rfl, by decide +kernel, rfl, by decide +kernel, by decide +kernel⟩
abbrev s_compared : Stmt := topS 8
theorem sc_compared : FnScope ["kind", "a", "b"] ["kind", "a", "b"] (defScope s_compared) := ⟨rfl, rfl, rfl, by decide +kernel, rfl, by decide +kernel, by decide +kernel⟩
abbrev s_apply : Stmt := topS 9
theorem sc_apply : FnScope ["kind", "a", "b"] ["kind", "a", "b"] (defScope s_apply) := ⟨rfl, rfl, rfl, by decide +kernel, rfl, by decide +kernel, by decide +kernel⟩
abbrev s__law_cell_at : Stmt := topS 11
theorem sc__law_cell_at : FnScope ["_law_script", "_law_k"] ["_law_script", "_law_k"] (defScope s__law_cell_at) := ⟨rfl, rfl, rfl, by decide +kernel, rfl, by decide +kernel, by decide +kernel⟩
abbrev s__law_draw : Stmt := topS 12
theorem sc__law_draw : FnScope ["_law_cell", "_law_k", "_law_bound", "_law_primes"] ["_law_cell", "_law_k", "_law_bound"] (defScope s__law_draw) := ⟨rfl, rfl, rfl, by decide +kernel, rfl, by decide +kernel, by decide +kernel⟩
abbrev s__law_number : Stmt := topS 13
theorem sc__law_number : FnScope ["_law_cell", "_law_k", "_law_bound", "_law_power_here", "_law_lap", "_law_remains", "_law_small"] ["_law_cell", "_law_k", "_law_bound"] (defScope s__law_number) := ⟨rfl, rfl, rfl, by decide +kernel, rfl, by decide +kernel, by decide +kernel⟩
abbrev s__law_next : Stmt := topS 14
theorem sc__law_next : FnScope ["_law_draw_here", "_law_bound", "_law_at", "_law_cell"] ["_law_draw_here", "_law_bound"] (defScope s__law_next) := ⟨rfl, rfl, rfl, by decide +kernel, rfl, by decide +kernel, by decide +kernel⟩
abbrev s__law_pick : Stmt := topS 15
theorem sc__law_pick : FnScope ["_law_draw_here", "_law_things"] ["_law_draw_here", "_law_things"] (defScope s__law_pick) := ⟨rfl, rfl, rfl, by decide +kernel, rfl, by decide +kernel, by decide +kernel⟩
abbrev s__law_word : Stmt := topS 16
theorem sc__law_word : FnScope ["_law_draw_here", "_law_near"] ["_law_draw_here"] (defScope s__law_word) := ⟨rfl, rfl, rfl, by decide +kernel, rfl, by decide +kernel, by decide +kernel⟩
abbrev s__law_signed : Stmt := topS 17
theorem sc__law_signed : FnScope ["_law_word_here"] ["_law_word_here"] (defScope s__law_signed) := ⟨rfl, rfl, rfl, by decide +kernel, rfl, by decide +kernel, by decide +kernel⟩
abbrev s__law_quotient : Stmt := topS 18
theorem sc__law_quotient : FnScope ["_law_a", "_law_b", "_law_found", "_law_low", "_law_high"] ["_law_a", "_law_b"] (defScope s__law_quotient) := ⟨rfl, rfl, rfl, by decide +kernel, rfl, by decide +kernel, by decide +kernel⟩
abbrev s__law_power : Stmt := topS 19
theorem sc__law_power : FnScope ["_law_many", "_law_found", "_law_turn"] ["_law_many"] (defScope s__law_power) := ⟨rfl, rfl, rfl, by decide +kernel, rfl, by decide +kernel, by decide +kernel⟩
abbrev s__law_bits : Stmt := topS 20
theorem sc__law_bits : FnScope ["_law_kind", "_law_a", "_law_b", "_law_found", "_law_at", "_law_one", "_law_other", "_law_bit"] ["_law_kind", "_law_a", "_law_b"] (defScope s__law_bits) := ⟨rfl, rfl, rfl, by decide +kernel, rfl, by decide +kernel, by decide +kernel⟩
abbrev s__law_due : Stmt := topS 21
theorem sc__law_due : FnScope ["_law_kind", "_law_a", "_law_b", "_law_x", "_law_y", "_law_by", "_law_one", "_law_other", "_law_found", "_law_plain"] ["_law_kind", "_law_a", "_law_b"] (defScope s__law_due) := ⟨rfl, rfl, rfl, by decide +kernel, rfl, by decide +kernel, by decide +kernel⟩
abbrev s_law : Stmt := topS 22
theorem sc_law : FnScope ["_law_script", "_law_draw_here", "_law_kinds", "_law_turn", "_law_a", "_law_b", "_law_kind"] ["_law_script"] (defScope s_law) := ⟨rfl, rfl, rfl, by decide +kernel, rfl, by decide +kernel, by decide +kernel⟩
structure Df (K : PySem.W.Frag) (mg : Str → Option Value) (x : Str) (st : Stmt) (ps : List Str) (f : Addr) (fd : FuncData) : Prop where
  F : Fun K x x st f fd
  m : mg x = some (.ref f)
  b : Binds K fd ps []
structure Tx (K : PySem.W.Frag) (mg : Str → Option Value) (ad : Nat → Addr) (fd : Nat → FuncData) : Prop where
  d_word_of : Df K mg "word_of" s_word_of ["number"] (ad 0) (fd 0)
  d_signed : Df K mg "signed" s_signed ["word"] (ad 1) (fd 1)
  d_quotient : Df K mg "quotient" s_quotient ["a", "b"] (ad 2) (fd 2)
  d_divided : Df K mg "divided" s_divided ["kind", "a", "b"] (ad 3) (fd 3)
  d_shifted : Df K mg "shifted" s_shifted ["kind", "a", "b"] (ad 4) (fd 4)
  d_compared : Df K mg "compared" s_compared ["kind", "a", "b"] (ad 5) (fd 5)
  d_apply : Df K mg "apply" s_apply ["kind", "a", "b"] (ad 6) (fd 6)
  d__law_cell_at : Df K mg "_law_cell_at" s__law_cell_at ["_law_script", "_law_k"] (ad 7) (fd 7)
  d__law_draw : Df K mg "_law_draw" s__law_draw ["_law_cell", "_law_k", "_law_bound"] (ad 8) (fd 8)
  d__law_number : Df K mg "_law_number" s__law_number ["_law_cell", "_law_k", "_law_bound"] (ad 9) (fd 9)
  d__law_next : Df K mg "_law_next" s__law_next ["_law_draw_here", "_law_bound"] (ad 10) (fd 10)
  d__law_pick : Df K mg "_law_pick" s__law_pick ["_law_draw_here", "_law_things"] (ad 11) (fd 11)
  d__law_word : Df K mg "_law_word" s__law_word ["_law_draw_here"] (ad 12) (fd 12)
  d__law_signed : Df K mg "_law_signed" s__law_signed ["_law_word_here"] (ad 13) (fd 13)
  d__law_quotient : Df K mg "_law_quotient" s__law_quotient ["_law_a", "_law_b"] (ad 14) (fd 14)
  d__law_power : Df K mg "_law_power" s__law_power ["_law_many"] (ad 15) (fd 15)
  d__law_bits : Df K mg "_law_bits" s__law_bits ["_law_kind", "_law_a", "_law_b"] (ad 16) (fd 16)
  d__law_due : Df K mg "_law_due" s__law_due ["_law_kind", "_law_a", "_law_b"] (ad 17) (fd 17)
  d_law : Df K mg "law" s_law ["_law_script"] (ad 18) (fd 18)
  z_abs : mg "abs" = none
  z_int : mg "int" = none
  z_len : mg "len" = none
  z_max : mg "max" = none
  z_range : mg "range" = none
  g_HALF : ∃ t, mg "HALF" = some (.int 2147483648 t)
  g_ROUND : ∃ t, mg "ROUND" = some (.int 4294967296 t)
def m_word_of : SS := mRet (m2 (dd2 fMod) (mV 0) (mC (.int 4294967296)))
def F_word_of : List W → List Cell → Option (Rs W) := pureF (runF 1 m_word_of)
def m_signed : SS := mRet (mIf (mTs (m2 (dd2 fGe) (mV 0) (mC (.int 2147483648)))) (m2 (dd2 fSub) (mV 0) (mC (.int 4294967296))) (mV 0))
def F_signed : List W → List Cell → Option (Rs W) := pureF (runF 1 m_signed)
def m_quotient : SS := mSeq (mAsg 2 (m2 (dd2 fDiv) (mCall (dI gAbs) (mCons (mV 0) (mNil))) (mCall (dI gAbs) (mCons (mV 1) (mNil))))) (mRet (mIf (mTs (m2 (dd2 fEq) (m2 (dd2 fLt) (mV 0) (mC (.int 0))) (m2 (dd2 fLt) (mV 1) (mC (.int 0))))) (mV 2) (m1 (dd1 (fU fun i => -i)) (mV 2))))
def F_quotient : List W → List Cell → Option (Rs W) := pureF (runF 3 m_quotient)
def m_divided : SS := mSeq (mIfS (mTs (m2 (dd2 fEq) (mV 2) (mC (.int 0)))) (mRet (mIf (mTs (m2 (fIn2 false) (mV 0) (mCall mkT (mCons (mC (.str "divs")) (mCons (mC (.str "divu")) (mNil)))))) (m2 (dd2 fSub) (mC (.int 4294967296)) (mC (.int 1))) (mV 1))) (mSkip)) (mSeq (mIfS (mTs (m2 (dd2 fEq) (mV 0) (mC (.str "divu")))) (mRet (m2 (dd2 fDiv) (mV 1) (mV 2))) (mSkip)) (mSeq (mIfS (mTs (m2 (dd2 fEq) (mV 0) (mC (.str "remu")))) (mRet (m2 (dd2 fMod) (mV 1) (mV 2))) (mSkip)) (mSeq (mPar 3 4 (mCons (mDef 1 F_signed (mCons (mV 1) (mNil))) (mCons (mDef 1 F_signed (mCons (mV 2) (mNil))) (mNil)))) (mSeq (mAsg 5 (mDef 2 F_quotient (mCons (mV 3) (mCons (mV 4) (mNil))))) (mRet (mDef 1 F_word_of (mCons (mIf (mTs (m2 (dd2 fEq) (mV 0) (mC (.str "divs")))) (mV 5) (m2 (dd2 fSub) (mV 3) (m2 (dd2 fMul) (mV 5) (mV 4)))) (mNil))))))))
def F_divided : List W → List Cell → Option (Rs W) := pureF (runF 6 m_divided)
def m_shifted : SS := mSeq (mAsg 3 (m2 (dd2 fMod) (mV 2) (mC (.int 32)))) (mSeq (mIfS (mTs (m2 (dd2 fEq) (mV 0) (mC (.str "shl")))) (mRet (mDef 1 F_word_of (mCons (m2 (dd2 fShl) (mV 1) (mV 3)) (mNil)))) (mSkip)) (mRet (mIf (mTs (m2 (dd2 fEq) (mV 0) (mC (.str "shr")))) (m2 (dd2 fShr) (mV 1) (mV 3)) (mDef 1 F_word_of (mCons (m2 (dd2 fShr) (mDef 1 F_signed (mCons (mV 1) (mNil))) (mV 3)) (mNil))))))
def F_shifted : List W → List Cell → Option (Rs W) := pureF (runF 4 m_shifted)
def m_compared : SS := mSeq (mIfS (mTs (m2 (dd2 fEq) (mV 0) (mC (.str "eq")))) (mRet (mIf (mTs (m2 (dd2 fEq) (mV 1) (mV 2))) (mC (.int 1)) (mC (.int 0)))) (mSkip)) (mSeq (mIfS (mTs (m2 (dd2 fEq) (mV 0) (mC (.str "ltu")))) (mRet (mIf (mTs (m2 (dd2 fLt) (mV 1) (mV 2))) (mC (.int 1)) (mC (.int 0)))) (mSkip)) (mRet (mIf (mTs (m2 (dd2 fLt) (mDef 1 F_signed (mCons (mV 1) (mNil))) (mDef 1 F_signed (mCons (mV 2) (mNil))))) (mC (.int 1)) (mC (.int 0)))))
def F_compared : List W → List Cell → Option (Rs W) := pureF (runF 3 m_compared)
def m_apply : SS := mSeq (mIfS (mTs (m2 (dd2 fEq) (mV 0) (mC (.str "add")))) (mRet (mDef 1 F_word_of (mCons (m2 (dd2 fAdd) (mV 1) (mV 2)) (mNil)))) (mSkip)) (mSeq (mIfS (mTs (m2 (dd2 fEq) (mV 0) (mC (.str "sub")))) (mRet (mDef 1 F_word_of (mCons (m2 (dd2 fSub) (mV 1) (mV 2)) (mNil)))) (mSkip)) (mSeq (mIfS (mTs (m2 (dd2 fEq) (mV 0) (mC (.str "mul")))) (mRet (mDef 1 F_word_of (mCons (m2 (dd2 fMul) (mV 1) (mV 2)) (mNil)))) (mSkip)) (mSeq (mIfS (mTs (m2 (dd2 fEq) (mV 0) (mC (.str "and")))) (mRet (m2 (dd2 fAnd) (mV 1) (mV 2))) (mSkip)) (mSeq (mIfS (mTs (m2 (dd2 fEq) (mV 0) (mC (.str "or")))) (mRet (m2 (dd2 fOr) (mV 1) (mV 2))) (mSkip)) (mSeq (mIfS (mTs (m2 (dd2 fEq) (mV 0) (mC (.str "xor")))) (mRet (m2 (dd2 fXor) (mV 1) (mV 2))) (mSkip)) (mSeq (mIfS (mTs (m2 (fIn2 false) (mV 0) (mCall mkT (mCons (mC (.str "shl")) (mCons (mC (.str "shr")) (mCons (mC (.str "sar")) (mNil))))))) (mRet (mDef 3 F_shifted (mCons (mV 0) (mCons (mV 1) (mCons (mV 2) (mNil)))))) (mSkip)) (mSeq (mIfS (mTs (m2 (fIn2 false) (mV 0) (mCall mkT (mCons (mC (.str "lts")) (mCons (mC (.str "ltu")) (mCons (mC (.str "eq")) (mNil))))))) (mRet (mDef 3 F_compared (mCons (mV 0) (mCons (mV 1) (mCons (mV 2) (mNil)))))) (mSkip)) (mRet (mDef 3 F_divided (mCons (mV 0) (mCons (mV 1) (mCons (mV 2) (mNil)))))))))))))
def F_apply : List W → List Cell → Option (Rs W) := pureF (runF 3 m_apply)
def m__law_cell_at : SS := mSeq (mIfS (mTs (m2 (dd2 fLt) (mV 1) (mCall bLen (mCons (mV 0) (mNil))))) (mRet (m2 fIx2 (mV 0) (mV 1))) (mSkip)) (mRet (mC (.int 0)))
def F__law_cell_at : List W → List Cell → Option (Rs W) := pureF (runF 2 m__law_cell_at)
def m__law_draw : SS := mSeq (mAsg 3 (mCall mkT (mCons (mC (.int 1000003)) (mCons (mC (.int 1000033)) (mCons (mC (.int 1000037)) (mCons (mC (.int 1000039)) (mCons (mC (.int 1000081)) (mCons (mC (.int 1000099)) (mCons (mC (.int 1000117)) (mCons (mC (.int 1000121)) (mCons (mC (.int 1000133)) (mCons (mC (.int 1000151)) (mCons (mC (.int 1000159)) (mCons (mC (.int 1000171)) (mCons (mC (.int 1000183)) (mCons (mC (.int 1000187)) (mCons (mC (.int 1000193)) (mCons (mC (.int 1000199)) (mNil))))))))))))))))))) (mRet (m2 (dd2 fMod) (m2 (dd2 fMod) (mCall (dI gInt) (mCons (m2 (dd2 fAdd) (m2 (dd2 fMul) (mV 0) (mC (.int 48271))) (m2 (dd2 fMul) (mV 1) (mC (.int 69621)))) (mNil))) (m2 fIx2 (mV 3) (m2 (dd2 fMod) (mCall (dI gInt) (mCons (mV 1) (mNil))) (mC (.int 16))))) (mV 2)))
def F__law_draw : List W → List Cell → Option (Rs W) := pureF (runF 4 m__law_draw)
def b__law_number_1 : SS := mAsg 3 (m2 (dd2 fMul) (mV 3) (mC (.int 1009)))
def m__law_number : SS := mSeq (mAsg 3 (mC (.int 1))) (mSeq (mFor (mRg1 (mCons (m2 (dd2 fMod) (mCall (dI gInt) (mCons (mV 1) (mNil))) (mC (.int 24))) (mNil))) (gN 4) b__law_number_1) (mSeq (mAsg 5 (m2 (dd2 fDiv) (m2 (dd2 fSub) (mV 0) (m2 (dd2 fPow) (mC (.int 10)) (mC (.int 18)))) (mV 3))) (mSeq (mIfS (mTs (m2 (dd2 fGt) (mV 5) (mC (.int 0)))) (mRet (m2 (dd2 fMod) (m2 (dd2 fMod) (mCall (dI gInt) (mCons (mV 5) (mNil))) (mC (.int 1009))) (mV 2))) (mSkip)) (mSeq (mAsg 6 (m2 (dd2 fMod) (mCall (dI gInt) (mCons (mV 0) (mNil))) (mC (.int 1000003)))) (mRet (m2 (dd2 fMod) (mDef 3 F__law_draw (mCons (m2 (dd2 fMul) (m2 (dd2 fAdd) (mV 6) (m2 (dd2 fMul) (mC (.int 977)) (mV 1))) (m2 (dd2 fAdd) (m2 (dd2 fAdd) (mV 6) (m2 (dd2 fMul) (mC (.int 31)) (mV 1))) (mC (.int 5)))) (mCons (m2 (dd2 fAdd) (m2 (dd2 fMod) (mCall (dI gInt) (mCons (mV 1) (mNil))) (mC (.int 9))) (mC (.int 1))) (mCons (mC (.int 999983)) (mNil))))) (mV 2)))))))
def F__law_number : List W → List Cell → Option (Rs W) := pureF (runF 7 m__law_number)
def m__law_next : SS := mSeq (mSt (mV 0) (mC (.int 2)) (m2 (dd2 fAdd) (m2 fIx2 (mV 0) (mC (.int 2))) (mC (.int 1)))) (mSeq (mAsg 2 (m2 (dd2 fDiv) (m2 fIx2 (mV 0) (mC (.int 2))) (mC (.int 12)))) (mSeq (mAsg 3 (m2 (dd2 fAdd) (mDef 2 F__law_cell_at (mCons (m2 fIx2 (mV 0) (mC (.int 0))) (mCons (m2 (dd2 fAdd) (m2 fIx2 (mV 0) (mC (.int 1))) (mV 2)) (mNil)))) (m2 (dd2 fMul) (mC (.int 31)) (mV 2)))) (mRet (mDef 3 F__law_number (mCons (mV 3) (mCons (m2 (dd2 fAdd) (m2 (dd2 fMod) (mCall (dI gInt) (mCons (m2 fIx2 (mV 0) (mC (.int 2))) (mNil))) (mC (.int 12))) (mC (.int 1))) (mCons (mV 1) (mNil))))))))
def F__law_next : List W → List Cell → Option (Rs W) := runF 4 m__law_next
def m__law_pick : SS := mRet (m2 fIx2 (mV 1) (mDef 2 F__law_next (mCons (mV 0) (mCons (mCall bLen (mCons (mV 1) (mNil))) (mNil)))))
def F__law_pick : List W → List Cell → Option (Rs W) := runF 2 m__law_pick
def m__law_word : SS := mSeq (mAsg 1 (mDef 2 F__law_pick (mCons (mV 0) (mCons (mCall mkL (mCons (mC (.int 0)) (mCons (mC (.int 1)) (mCons (m2 (dd2 fPow) (mC (.int 2)) (mC (.int 31))) (mCons (m2 (dd2 fSub) (m2 (dd2 fPow) (mC (.int 2)) (mC (.int 32))) (mC (.int 1))) (mCons (m2 (dd2 fSub) (m2 (dd2 fPow) (mC (.int 2)) (mC (.int 31))) (mC (.int 1))) (mCons (m2 (dd2 fPow) (mC (.int 2)) (mC (.int 16))) (mCons (m2 (dd2 fPow) (mC (.int 2)) (mC (.int 5))) (mCons (m2 (dd2 fSub) (m2 (dd2 fPow) (mC (.int 2)) (mC (.int 32))) (m2 (dd2 fPow) (mC (.int 2)) (mC (.int 31)))) (mNil)))))))))) (mNil))))) (mSeq (mIfS (mTs (m2 (dd2 fEq) (mDef 2 F__law_next (mCons (mV 0) (mCons (mC (.int 3)) (mNil)))) (mC (.int 0)))) (mRet (m2 (dd2 fMod) (m2 (dd2 fAdd) (m2 (dd2 fAdd) (m2 (dd2 fMul) (mDef 2 F__law_next (mCons (mV 0) (mCons (mC (.int 1009)) (mNil)))) (mC (.int 4256233))) (m2 (dd2 fMul) (mDef 2 F__law_next (mCons (mV 0) (mCons (mC (.int 1009)) (mNil)))) (mC (.int 7)))) (mV 1)) (m2 (dd2 fPow) (mC (.int 2)) (mC (.int 32))))) (mSkip)) (mRet (m2 (dd2 fMod) (m2 (dd2 fSub) (m2 (dd2 fAdd) (mV 1) (mDef 2 F__law_next (mCons (mV 0) (mCons (mC (.int 7)) (mNil))))) (mC (.int 3))) (m2 (dd2 fPow) (mC (.int 2)) (mC (.int 32))))))
def F__law_word : List W → List Cell → Option (Rs W) := runF 2 m__law_word
def m__law_signed : SS := mRet (mIf (mTs (m2 (dd2 fLt) (mV 0) (m2 (dd2 fPow) (mC (.int 2)) (mC (.int 31))))) (mV 0) (m2 (dd2 fSub) (mV 0) (m2 (dd2 fPow) (mC (.int 2)) (mC (.int 32)))))
def F__law_signed : List W → List Cell → Option (Rs W) := pureF (runF 1 m__law_signed)
def t__law_quotient_1 : BS := mTs (m2 (dd2 fGt) (m2 (dd2 fSub) (mV 4) (mV 3)) (mC (.int 1)))
def b__law_quotient_1 : SS := mSeq (mAsg 2 (m2 (dd2 fDiv) (m2 (dd2 fAdd) (mV 3) (mV 4)) (mC (.int 2)))) (mTg (gTp 2 (gCs (gN 3) (gCs (gN 4) (gNl)))) (mIf (mTs (m2 (dd2 fLe) (m2 (dd2 fMul) (mV 2) (mCall (dI gAbs) (mCons (mV 1) (mNil)))) (mCall (dI gAbs) (mCons (mV 0) (mNil))))) (mCall mkT (mCons (mV 2) (mCons (mV 4) (mNil)))) (mCall mkT (mCons (mV 3) (mCons (mV 2) (mNil))))))
def m__law_quotient : SS := mSeq (mAsg 2 (mC (.int 0))) (mSeq (mPar 3 4 (mCons (mC (.int 0)) (mCons (m2 (dd2 fAdd) (mCall (dI gAbs) (mCons (mV 0) (mNil))) (mC (.int 1))) (mNil)))) (mSeq (mWhile t__law_quotient_1 b__law_quotient_1 100) (mRet (mIf (mTs (m2 (dd2 fEq) (m2 (dd2 fLt) (mV 0) (mC (.int 0))) (m2 (dd2 fLt) (mV 1) (mC (.int 0))))) (mV 3) (m1 (dd1 (fU fun i => -i)) (mV 3))))))
def F__law_quotient : List W → List Cell → Option (Rs W) := pureF (runF 5 m__law_quotient)
def b__law_power_1 : SS := mAsg 1 (m2 (dd2 fMul) (mV 1) (mC (.int 2)))
def m__law_power : SS := mSeq (mAsg 1 (mC (.int 1))) (mSeq (mFor (mRg1 (mCons (mV 0) (mNil))) (gN 2) b__law_power_1) (mRet (mV 1)))
def F__law_power : List W → List Cell → Option (Rs W) := pureF (runF 3 m__law_power)
def b__law_bits_1 : SS := mSeq (mPar 5 6 (mCons (m2 (dd2 fMod) (m2 (dd2 fDiv) (mV 1) (mDef 1 F__law_power (mCons (mV 4) (mNil)))) (mC (.int 2))) (mCons (m2 (dd2 fMod) (m2 (dd2 fDiv) (mV 2) (mDef 1 F__law_power (mCons (mV 4) (mNil)))) (mC (.int 2))) (mNil)))) (mSeq (mAsg 7 (m2 fIx2 (mDisp ((mC (.str "and"), m2 (dd2 fMul) (mV 5) (mV 6)) :: (mC (.str "or"), mCall bMaxL (mCons (mCall mkL (mCons (mV 5) (mCons (mV 6) (mNil)))) (mNil))) :: (mC (.str "xor"), m2 (dd2 fMod) (m2 (dd2 fAdd) (mV 5) (mV 6)) (mC (.int 2))) :: [])) (mV 0))) (mAsg 3 (m2 (dd2 fAdd) (mV 3) (m2 (dd2 fMul) (mV 7) (mDef 1 F__law_power (mCons (mV 4) (mNil)))))))
def m__law_bits : SS := mSeq (mAsg 3 (mC (.int 0))) (mSeq (mFor (mRg1 (mCons (mC (.int 32)) (mNil))) (gN 4) b__law_bits_1) (mRet (mV 3)))
def F__law_bits : List W → List Cell → Option (Rs W) := pureF (runF 8 m__law_bits)
def m__law_due : SS := mSeq (mPar3 3 4 5 (mCons (mDef 1 F__law_signed (mCons (mV 1) (mNil))) (mCons (mDef 1 F__law_signed (mCons (mV 2) (mNil))) (mCons (mDef 1 F__law_power (mCons (m2 (dd2 fMod) (mV 2) (mC (.int 32))) (mNil))) (mNil))))) (mSeq (mIfS (mTs (m2 (fIn2 false) (mV 0) (mCall mkT (mCons (mC (.str "and")) (mCons (mC (.str "or")) (mCons (mC (.str "xor")) (mNil))))))) (mRet (mDef 3 F__law_bits (mCons (mV 0) (mCons (mV 1) (mCons (mV 2) (mNil)))))) (mSkip)) (mSeq (mIfS (mTs (m2 (fIn2 false) (mV 0) (mCall mkT (mCons (mC (.str "divs")) (mCons (mC (.str "divu")) (mCons (mC (.str "rems")) (mCons (mC (.str "remu")) (mNil)))))))) (mSeq (mTg (gTp 2 (gCs (gN 6) (gCs (gN 7) (gNl)))) (mIf (mTs (m2 (dd2 fEq) (m2 fIx2 (mV 0) (mC (.int 3))) (mC (.str "s")))) (mCall mkT (mCons (mV 3) (mCons (mV 4) (mNil)))) (mCall mkT (mCons (mV 1) (mCons (mV 2) (mNil)))))) (mSeq (mIfS (mTs (m2 (dd2 fEq) (mV 2) (mC (.int 0)))) (mRet (mIf (mTs (m2 (dd2 fEq) (mSl (mV 0) (mNo) (mPt (mC (.int 3)))) (mC (.str "div")))) (m2 (dd2 fSub) (m2 (dd2 fPow) (mC (.int 2)) (mC (.int 32))) (mC (.int 1))) (mV 1))) (mSkip)) (mSeq (mAsg 8 (mDef 2 F__law_quotient (mCons (mV 6) (mCons (mV 7) (mNil))))) (mRet (m2 (dd2 fMod) (mIf (mTs (m2 (dd2 fEq) (mSl (mV 0) (mNo) (mPt (mC (.int 3)))) (mC (.str "div")))) (mV 8) (m2 (dd2 fSub) (mV 6) (m2 (dd2 fMul) (mV 8) (mV 7)))) (m2 (dd2 fPow) (mC (.int 2)) (mC (.int 32)))))))) (mSkip)) (mSeq (mAsg 9 (mDisp ((mC (.str "add"), m2 (dd2 fAdd) (mV 3) (mV 4)) :: (mC (.str "sub"), m2 (dd2 fSub) (mV 3) (mV 4)) :: (mC (.str "mul"), m2 (dd2 fMul) (mV 3) (mV 4)) :: (mC (.str "shl"), m2 (dd2 fMul) (mV 1) (mV 5)) :: (mC (.str "shr"), m2 (dd2 fDiv) (mV 1) (mV 5)) :: (mC (.str "sar"), m2 (dd2 fDiv) (mV 3) (mV 5)) :: (mC (.str "lts"), mIf (mTs (m2 (dd2 fLt) (mV 3) (mV 4))) (mC (.int 1)) (mC (.int 0))) :: (mC (.str "ltu"), mIf (mTs (m2 (dd2 fLt) (mV 1) (mV 2))) (mC (.int 1)) (mC (.int 0))) :: (mC (.str "eq"), mIf (mTs (m2 (dd2 fEq) (mV 1) (mV 2))) (mC (.int 1)) (mC (.int 0))) :: []))) (mRet (m2 (dd2 fMod) (m2 fIx2 (mV 9) (mV 0)) (m2 (dd2 fPow) (mC (.int 2)) (mC (.int 32))))))))
def F__law_due : List W → List Cell → Option (Rs W) := pureF (runF 10 m__law_due)
def b_law_2 : SS := mIfS (mTs (m2 (dd2 fNe) (mDef 3 F_apply (mCons (mV 6) (mCons (mV 4) (mCons (mV 5) (mNil))))) (mDef 3 F__law_due (mCons (mV 6) (mCons (mV 4) (mCons (mV 5) (mNil))))))) (mRet (mC (.bool false))) (mSkip)
def b_law_1 : SS := mSeq (mPar 4 5 (mCons (mDef 1 F__law_word (mCons (mV 1) (mNil))) (mCons (mDef 1 F__law_word (mCons (mV 1) (mNil))) (mNil)))) (mSeq (mFor (mIt (mV 2)) (gN 6) b_law_2) (mIfS (mOrB (mTs (m2 (dd2 fNe) (mDef 1 F_signed (mCons (mV 4) (mNil))) (mDef 1 F__law_signed (mCons (mV 4) (mNil))))) (mOrB (mTs (m2 (dd2 fNe) (mDef 1 F_word_of (mCons (mDef 1 F_signed (mCons (mV 4) (mNil))) (mNil))) (mV 4))) (mTs (m2 (dd2 fNe) (mDef 1 F_word_of (mCons (m2 (dd2 fSub) (mV 4) (m2 (dd2 fMul) (mC (.int 3)) (m2 (dd2 fPow) (mC (.int 2)) (mC (.int 32))))) (mNil))) (mV 4))))) (mRet (mC (.bool false))) (mSkip)))
def m_law : SS := mSeq (mAsg 1 (mCall mkC (mCons (mSl (mV 0) (mNo) (mPt (mC (.int 63)))) (mCons (mC (.int 0)) (mCons (mC (.int 0)) (mNil)))))) (mSeq (mAsg 2 (mCall mkT (mCons (mC (.str "add")) (mCons (mC (.str "sub")) (mCons (mC (.str "mul")) (mCons (mC (.str "and")) (mCons (mC (.str "or")) (mCons (mC (.str "xor")) (mCons (mC (.str "shl")) (mCons (mC (.str "shr")) (mCons (mC (.str "sar")) (mCons (mC (.str "lts")) (mCons (mC (.str "ltu")) (mCons (mC (.str "eq")) (mCons (mC (.str "divs")) (mCons (mC (.str "divu")) (mCons (mC (.str "rems")) (mCons (mC (.str "remu")) (mNil))))))))))))))))))) (mSeq (mFor (mRg1 (mCons (mC (.int 8)) (mNil))) (gN 3) b_law_1) (mRet (mC (.bool true)))))
def F_law : List W → List Cell → Option (Rs W) := runF 7 m_law
section
variable {P : Program} {w : World} {K : PySem.W.Frag} {mg : Str → Option Value} {base : Heap} {cl : Str → Option Addr} {ad : Nat → Addr} {fd : Nat → FuncData}
theorem ok_word_of (T : Tx K mg ad fd) : FnOk P w K mg base (L2.CX P w) 1 (ad 0) (fd 0) ["number"] (spI ⟨P, w, K⟩ cl 1 F_word_of) := by
  refine FnOk.pure (ok_def (k := 0) T.d_word_of.F sc_word_of m_word_of rfl fun cdv A outer s H E hr => ?_)
  exact ss_one (ss_ret (se_mod (se_var 0) (se_glob (d := .int 4294967296) (v := .int 4294967296) rfl T.g_ROUND.choose_spec ⟨_, rfl⟩ (fun _ _ => rfl))))
theorem ok_signed (T : Tx K mg ad fd) : FnOk P w K mg base (L2.CX P w) 1 (ad 1) (fd 1) ["word"] (spI ⟨P, w, K⟩ cl 1 F_signed) := by
  refine FnOk.pure (ok_def (k := 0) T.d_signed.F sc_signed m_signed rfl fun cdv A outer s H E hr => ?_)
  exact ss_one (ss_ret (sv_if (st_cmp (cs_ge hr) (se_var 0) (se_glob (d := .int 2147483648) (v := .int 2147483648) rfl T.g_HALF.choose_spec ⟨_, rfl⟩ (fun _ _ => rfl))) (se_sub (se_var 0) (se_glob (d := .int 4294967296) (v := .int 4294967296) rfl T.g_ROUND.choose_spec ⟨_, rfl⟩ (fun _ _ => rfl))) (se_var 0)))
theorem ok_quotient (T : Tx K mg ad fd) : FnOk P w K mg base (L2.CX P w) 1 (ad 2) (fd 2) ["a", "b"] (spI ⟨P, w, K⟩ cl 2 F_quotient) := by
  refine FnOk.pure (ok_def (k := 0) T.d_quotient.F sc_quotient m_quotient rfl fun cdv A outer s H E hr => ?_)
  exact ss_cons (ss_set (i := 2) sc_quotient.nd rfl (Or.inl rfl) (se_div (sv_abs rfl T.z_abs (sa_cons (se_var 0) (sa_nil))) (sv_abs rfl T.z_abs (sa_cons (se_var 1) (sa_nil)))))
    (ss_one (ss_ret (sv_if (st_cmp (cs_eq hr) (sv_cmp (cs_lt hr) (se_var 0) (se_int)) (sv_cmp (cs_lt hr) (se_var 1) (se_int))) (se_var 2) (se_neg (se_var 2)))))
theorem ok_divided (T : Tx K mg ad fd) : FnOk P w K mg base (L2.CX P w) 2 (ad 3) (fd 3) ["kind", "a", "b"] (spI ⟨P, w, K⟩ cl 3 F_divided) := by
  refine FnOk.pure (ok_def (k := 1) T.d_divided.F sc_divided m_divided rfl fun cdv A outer s H E hr => ?_)
  exact ss_cons (ss_if (st_cmp (cs_eq hr) (se_var 2) (se_int)) (ss_one (ss_ret (sv_if (st_cmp (cs_in2 hr) (se_var 0) (sv_tup (sa_cons (se_str) (sa_cons (se_str) (sa_nil))))) (se_sub (se_glob (d := .int 4294967296) (v := .int 4294967296) rfl T.g_ROUND.choose_spec ⟨_, rfl⟩ (fun _ _ => rfl)) (se_int)) (se_var 1)))) (ss_nil))
    (ss_cons (ss_if (st_cmp (cs_eq hr) (se_var 0) (se_str)) (ss_one (ss_ret (se_div (se_var 1) (se_var 2)))) (ss_nil))
    (ss_cons (ss_if (st_cmp (cs_eq hr) (se_var 0) (se_str)) (ss_one (ss_ret (se_mod (se_var 1) (se_var 2)))) (ss_nil))
    (ss_cons (ss_par (i := 3) (j := 4) rfl sc_divided.nd rfl rfl (by decide) rfl rfl (sa_cons (sv_def (takes_of rfl rfl rfl rfl) (ok_signed T) (hr.mono (by decide)) rfl T.d_signed.m T.d_signed.F.kp T.d_signed.b (sa_cons (se_var 1) (sa_nil))) (sa_cons (sv_def (takes_of rfl rfl rfl rfl) (ok_signed T) (hr.mono (by decide)) rfl T.d_signed.m T.d_signed.F.kp T.d_signed.b (sa_cons (se_var 2) (sa_nil))) (sa_nil))) (by rfl))
    (ss_cons (ss_set (i := 5) sc_divided.nd rfl (Or.inl rfl) (sv_def (takes_of rfl rfl rfl rfl) (ok_quotient T) (hr.mono (by decide)) rfl T.d_quotient.m T.d_quotient.F.kp T.d_quotient.b (sa_cons (se_var 3) (sa_cons (se_var 4) (sa_nil)))))
    (ss_one (ss_ret (sv_def (takes_of rfl rfl rfl rfl) (ok_word_of T) (hr.mono (by decide)) rfl T.d_word_of.m T.d_word_of.F.kp T.d_word_of.b (sa_cons (sv_if (st_cmp (cs_eq hr) (se_var 0) (se_str)) (se_var 5) (se_sub (se_var 3) (se_mul (se_var 5) (se_var 4)))) (sa_nil)))))))))
theorem ok_shifted (T : Tx K mg ad fd) : FnOk P w K mg base (L2.CX P w) 2 (ad 4) (fd 4) ["kind", "a", "b"] (spI ⟨P, w, K⟩ cl 3 F_shifted) := by
  refine FnOk.pure (ok_def (k := 1) T.d_shifted.F sc_shifted m_shifted rfl fun cdv A outer s H E hr => ?_)
  exact ss_cons (ss_set (i := 3) sc_shifted.nd rfl (Or.inl rfl) (se_mod (se_var 2) (se_int)))
    (ss_cons (ss_if (st_cmp (cs_eq hr) (se_var 0) (se_str)) (ss_one (ss_ret (sv_def (takes_of rfl rfl rfl rfl) (ok_word_of T) (hr.mono (by decide)) rfl T.d_word_of.m T.d_word_of.F.kp T.d_word_of.b (sa_cons (se_shl (se_var 1) (se_var 3)) (sa_nil))))) (ss_nil))
    (ss_one (ss_ret (sv_if (st_cmp (cs_eq hr) (se_var 0) (se_str)) (se_shr (se_var 1) (se_var 3)) (sv_def (takes_of rfl rfl rfl rfl) (ok_word_of T) (hr.mono (by decide)) rfl T.d_word_of.m T.d_word_of.F.kp T.d_word_of.b (sa_cons (se_shr (sv_def (takes_of rfl rfl rfl rfl) (ok_signed T) (hr.mono (by decide)) rfl T.d_signed.m T.d_signed.F.kp T.d_signed.b (sa_cons (se_var 1) (sa_nil))) (se_var 3)) (sa_nil)))))))
theorem ok_compared (T : Tx K mg ad fd) : FnOk P w K mg base (L2.CX P w) 2 (ad 5) (fd 5) ["kind", "a", "b"] (spI ⟨P, w, K⟩ cl 3 F_compared) := by
  refine FnOk.pure (ok_def (k := 1) T.d_compared.F sc_compared m_compared rfl fun cdv A outer s H E hr => ?_)
  exact ss_cons (ss_if (st_cmp (cs_eq hr) (se_var 0) (se_str)) (ss_one (ss_ret (sv_if (st_cmp (cs_eq hr) (se_var 1) (se_var 2)) (se_int) (se_int)))) (ss_nil))
    (ss_cons (ss_if (st_cmp (cs_eq hr) (se_var 0) (se_str)) (ss_one (ss_ret (sv_if (st_cmp (cs_lt hr) (se_var 1) (se_var 2)) (se_int) (se_int)))) (ss_nil))
    (ss_one (ss_ret (sv_if (st_cmp (cs_lt hr) (sv_def (takes_of rfl rfl rfl rfl) (ok_signed T) (hr.mono (by decide)) rfl T.d_signed.m T.d_signed.F.kp T.d_signed.b (sa_cons (se_var 1) (sa_nil))) (sv_def (takes_of rfl rfl rfl rfl) (ok_signed T) (hr.mono (by decide)) rfl T.d_signed.m T.d_signed.F.kp T.d_signed.b (sa_cons (se_var 2) (sa_nil)))) (se_int) (se_int)))))
theorem ok_apply (T : Tx K mg ad fd) : FnOk P w K mg base (L2.CX P w) 3 (ad 6) (fd 6) ["kind", "a", "b"] (spI ⟨P, w, K⟩ cl 3 F_apply) := by
  refine FnOk.pure (ok_def (k := 2) T.d_apply.F sc_apply m_apply rfl fun cdv A outer s H E hr => ?_)
  exact ss_cons (ss_if (st_cmp (cs_eq hr) (se_var 0) (se_str)) (ss_one (ss_ret (sv_def (takes_of rfl rfl rfl rfl) (ok_word_of T) (hr.mono (by decide)) rfl T.d_word_of.m T.d_word_of.F.kp T.d_word_of.b (sa_cons (se_add (se_var 1) (se_var 2)) (sa_nil))))) (ss_nil))
    (ss_cons (ss_if (st_cmp (cs_eq hr) (se_var 0) (se_str)) (ss_one (ss_ret (sv_def (takes_of rfl rfl rfl rfl) (ok_word_of T) (hr.mono (by decide)) rfl T.d_word_of.m T.d_word_of.F.kp T.d_word_of.b (sa_cons (se_sub (se_var 1) (se_var 2)) (sa_nil))))) (ss_nil))
    (ss_cons (ss_if (st_cmp (cs_eq hr) (se_var 0) (se_str)) (ss_one (ss_ret (sv_def (takes_of rfl rfl rfl rfl) (ok_word_of T) (hr.mono (by decide)) rfl T.d_word_of.m T.d_word_of.F.kp T.d_word_of.b (sa_cons (se_mul (se_var 1) (se_var 2)) (sa_nil))))) (ss_nil))
    (ss_cons (ss_if (st_cmp (cs_eq hr) (se_var 0) (se_str)) (ss_one (ss_ret (se_and (se_var 1) (se_var 2)))) (ss_nil))
    (ss_cons (ss_if (st_cmp (cs_eq hr) (se_var 0) (se_str)) (ss_one (ss_ret (se_or (se_var 1) (se_var 2)))) (ss_nil))
    (ss_cons (ss_if (st_cmp (cs_eq hr) (se_var 0) (se_str)) (ss_one (ss_ret (se_xor (se_var 1) (se_var 2)))) (ss_nil))
    (ss_cons (ss_if (st_cmp (cs_in2 hr) (se_var 0) (sv_tup (sa_cons (se_str) (sa_cons (se_str) (sa_cons (se_str) (sa_nil)))))) (ss_one (ss_ret (sv_def (takes_of rfl rfl rfl rfl) (ok_shifted T) (hr.mono (by decide)) rfl T.d_shifted.m T.d_shifted.F.kp T.d_shifted.b (sa_cons (se_var 0) (sa_cons (se_var 1) (sa_cons (se_var 2) (sa_nil))))))) (ss_nil))
    (ss_cons (ss_if (st_cmp (cs_in2 hr) (se_var 0) (sv_tup (sa_cons (se_str) (sa_cons (se_str) (sa_cons (se_str) (sa_nil)))))) (ss_one (ss_ret (sv_def (takes_of rfl rfl rfl rfl) (ok_compared T) (hr.mono (by decide)) rfl T.d_compared.m T.d_compared.F.kp T.d_compared.b (sa_cons (se_var 0) (sa_cons (se_var 1) (sa_cons (se_var 2) (sa_nil))))))) (ss_nil))
    (ss_one (ss_ret (sv_def (takes_of rfl rfl rfl rfl) (ok_divided T) (hr.mono (by decide)) rfl T.d_divided.m T.d_divided.F.kp T.d_divided.b (sa_cons (se_var 0) (sa_cons (se_var 1) (sa_cons (se_var 2) (sa_nil))))))))))))))
theorem ok__law_cell_at (T : Tx K mg ad fd) : FnOk P w K mg base (L2.CX P w) 1 (ad 7) (fd 7) ["_law_script", "_law_k"] (spI ⟨P, w, K⟩ cl 2 F__law_cell_at) := by
  refine FnOk.pure (ok_def (k := 0) T.d__law_cell_at.F sc__law_cell_at m__law_cell_at rfl fun cdv A outer s H E hr => ?_)
  exact ss_cons (ss_if (st_cmp (cs_lt hr) (se_var 1) (sv_len rfl T.z_len (sa_cons (se_var 0) (sa_nil)))) (ss_one (ss_ret (sv_ix hr (se_var 0) (se_var 1)))) (ss_nil))
    (ss_one (ss_ret (se_int)))
theorem ok__law_draw (T : Tx K mg ad fd) : FnOk P w K mg base (L2.CX P w) 1 (ad 8) (fd 8) ["_law_cell", "_law_k", "_law_bound"] (spI ⟨P, w, K⟩ cl 3 F__law_draw) := by
  refine FnOk.pure (ok_def (k := 0) T.d__law_draw.F sc__law_draw m__law_draw rfl fun cdv A outer s H E hr => ?_)
  exact ss_cons (ss_set (i := 3) sc__law_draw.nd rfl (Or.inl rfl) (sv_tup (sa_cons (se_int) (sa_cons (se_int) (sa_cons (se_int) (sa_cons (se_int) (sa_cons (se_int) (sa_cons (se_int) (sa_cons (se_int) (sa_cons (se_int) (sa_cons (se_int) (sa_cons (se_int) (sa_cons (se_int) (sa_cons (se_int) (sa_cons (se_int) (sa_cons (se_int) (sa_cons (se_int) (sa_cons (se_int) (sa_nil)))))))))))))))))))
    (ss_one (ss_ret (se_mod (se_mod (sv_int rfl T.z_int (sa_cons (se_add (se_mul (se_var 0) (se_int)) (se_mul (se_var 1) (se_int))) (sa_nil))) (sv_ix hr (se_var 3) (se_mod (sv_int rfl T.z_int (sa_cons (se_var 1) (sa_nil))) (se_int)))) (se_var 2))))
theorem ok__law_number (T : Tx K mg ad fd) : FnOk P w K mg base (L2.CX P w) 2 (ad 9) (fd 9) ["_law_cell", "_law_k", "_law_bound"] (spI ⟨P, w, K⟩ cl 3 F__law_number) := by
  refine FnOk.pure (ok_def (k := 1) T.d__law_number.F sc__law_number m__law_number rfl fun cdv A outer s H E hr => ?_)
  exact ss_cons (ss_set (i := 3) sc__law_number.nd rfl (Or.inl rfl) (se_int))
    (ss_cons (ss_for (passes_of rfl) rfl (si_rg1 rfl T.z_range (sa_cons (se_mod (sv_int rfl T.z_int (sa_cons (se_var 1) (sa_nil))) (se_int)) (sa_nil))) (sg_name (i := 4) sc__law_number.nd rfl (Or.inl rfl)) (ss_one (ss_set (i := 3) sc__law_number.nd rfl (Or.inl rfl) (se_mul (se_var 3) (se_int)))))
    (ss_cons (ss_set (i := 5) sc__law_number.nd rfl (Or.inl rfl) (se_div (se_sub (se_var 0) (se_pow (se_int) (se_int))) (se_var 3)))
    (ss_cons (ss_if (st_cmp (cs_gt hr) (se_var 5) (se_int)) (ss_one (ss_ret (se_mod (se_mod (sv_int rfl T.z_int (sa_cons (se_var 5) (sa_nil))) (se_int)) (se_var 2)))) (ss_nil))
    (ss_cons (ss_set (i := 6) sc__law_number.nd rfl (Or.inl rfl) (se_mod (sv_int rfl T.z_int (sa_cons (se_var 0) (sa_nil))) (se_int)))
    (ss_one (ss_ret (se_mod (sv_def (takes_of rfl rfl rfl rfl) (ok__law_draw T) (hr.mono (by decide)) rfl T.d__law_draw.m T.d__law_draw.F.kp T.d__law_draw.b (sa_cons (se_mul (se_add (se_var 6) (se_mul (se_int) (se_var 1))) (se_add (se_add (se_var 6) (se_mul (se_int) (se_var 1))) (se_int))) (sa_cons (se_add (se_mod (sv_int rfl T.z_int (sa_cons (se_var 1) (sa_nil))) (se_int)) (se_int)) (sa_cons (se_int) (sa_nil))))) (se_var 2))))))))
theorem ok__law_next (T : Tx K mg ad fd) : FnOk P w K mg base (L2.CX P w) 3 (ad 10) (fd 10) ["_law_draw_here", "_law_bound"] (spI ⟨P, w, K⟩ cl 2 F__law_next) := by
  refine ok_def (k := 2) T.d__law_next.F sc__law_next m__law_next rfl fun cdv A outer s H E hr => ?_
  exact ss_cons (ss_st hr (se_var 0) (se_int) (se_add (sv_ix hr (se_var 0) (se_int)) (se_int)))
    (ss_cons (ss_set (i := 2) sc__law_next.nd rfl (Or.inl rfl) (se_div (sv_ix hr (se_var 0) (se_int)) (se_int)))
    (ss_cons (ss_set (i := 3) sc__law_next.nd rfl (Or.inl rfl) (se_add (sv_def (takes_of rfl rfl rfl rfl) (ok__law_cell_at T) (hr.mono (by decide)) rfl T.d__law_cell_at.m T.d__law_cell_at.F.kp T.d__law_cell_at.b (sa_cons (sv_ix hr (se_var 0) (se_int)) (sa_cons (se_add (sv_ix hr (se_var 0) (se_int)) (se_var 2)) (sa_nil)))) (se_mul (se_int) (se_var 2))))
    (ss_one (ss_ret (sv_def (takes_of rfl rfl rfl rfl) (ok__law_number T) (hr.mono (by decide)) rfl T.d__law_number.m T.d__law_number.F.kp T.d__law_number.b (sa_cons (se_var 3) (sa_cons (se_add (se_mod (sv_int rfl T.z_int (sa_cons (sv_ix hr (se_var 0) (se_int)) (sa_nil))) (se_int)) (se_int)) (sa_cons (se_var 1) (sa_nil)))))))))
theorem ok__law_pick (T : Tx K mg ad fd) : FnOk P w K mg base (L2.CX P w) 4 (ad 11) (fd 11) ["_law_draw_here", "_law_things"] (spI ⟨P, w, K⟩ cl 2 F__law_pick) := by
  refine ok_def (k := 3) T.d__law_pick.F sc__law_pick m__law_pick rfl fun cdv A outer s H E hr => ?_
  exact ss_one (ss_ret (sv_ix hr (se_var 1) (sv_def (takes_of rfl rfl rfl rfl) (ok__law_next T) (hr.mono (by decide)) rfl T.d__law_next.m T.d__law_next.F.kp T.d__law_next.b (sa_cons (se_var 0) (sa_cons (sv_len rfl T.z_len (sa_cons (se_var 1) (sa_nil))) (sa_nil))))))
theorem ok__law_word (T : Tx K mg ad fd) : FnOk P w K mg base (L2.CX P w) 5 (ad 12) (fd 12) ["_law_draw_here"] (spI ⟨P, w, K⟩ cl 1 F__law_word) := by
  refine ok_def (k := 4) T.d__law_word.F sc__law_word m__law_word rfl fun cdv A outer s H E hr => ?_
  exact ss_cons (ss_set (i := 1) sc__law_word.nd rfl (Or.inl rfl) (sv_def (takes_of rfl rfl rfl rfl) (ok__law_pick T) (hr.mono (by decide)) rfl T.d__law_pick.m T.d__law_pick.F.kp T.d__law_pick.b (sa_cons (se_var 0) (sa_cons (sv_lst (sa_cons (se_int) (sa_cons (se_int) (sa_cons (se_pow (se_int) (se_int)) (sa_cons (se_sub (se_pow (se_int) (se_int)) (se_int)) (sa_cons (se_sub (se_pow (se_int) (se_int)) (se_int)) (sa_cons (se_pow (se_int) (se_int)) (sa_cons (se_pow (se_int) (se_int)) (sa_cons (se_sub (se_pow (se_int) (se_int)) (se_pow (se_int) (se_int))) (sa_nil)))))))))) (sa_nil)))))
    (ss_cons (ss_if (st_cmp (cs_eq hr) (sv_def (takes_of rfl rfl rfl rfl) (ok__law_next T) (hr.mono (by decide)) rfl T.d__law_next.m T.d__law_next.F.kp T.d__law_next.b (sa_cons (se_var 0) (sa_cons (se_int) (sa_nil)))) (se_int)) (ss_one (ss_ret (se_mod (se_add (se_add (se_mul (sv_def (takes_of rfl rfl rfl rfl) (ok__law_next T) (hr.mono (by decide)) rfl T.d__law_next.m T.d__law_next.F.kp T.d__law_next.b (sa_cons (se_var 0) (sa_cons (se_int) (sa_nil)))) (se_int)) (se_mul (sv_def (takes_of rfl rfl rfl rfl) (ok__law_next T) (hr.mono (by decide)) rfl T.d__law_next.m T.d__law_next.F.kp T.d__law_next.b (sa_cons (se_var 0) (sa_cons (se_int) (sa_nil)))) (se_int))) (se_var 1)) (se_pow (se_int) (se_int))))) (ss_nil))
    (ss_one (ss_ret (se_mod (se_sub (se_add (se_var 1) (sv_def (takes_of rfl rfl rfl rfl) (ok__law_next T) (hr.mono (by decide)) rfl T.d__law_next.m T.d__law_next.F.kp T.d__law_next.b (sa_cons (se_var 0) (sa_cons (se_int) (sa_nil))))) (se_int)) (se_pow (se_int) (se_int))))))
theorem ok__law_signed (T : Tx K mg ad fd) : FnOk P w K mg base (L2.CX P w) 1 (ad 13) (fd 13) ["_law_word_here"] (spI ⟨P, w, K⟩ cl 1 F__law_signed) := by
  refine FnOk.pure (ok_def (k := 0) T.d__law_signed.F sc__law_signed m__law_signed rfl fun cdv A outer s H E hr => ?_)
  exact ss_one (ss_ret (sv_if (st_cmp (cs_lt hr) (se_var 0) (se_pow (se_int) (se_int))) (se_var 0) (se_sub (se_var 0) (se_pow (se_int) (se_int)))))
theorem ok__law_quotient (T : Tx K mg ad fd) : FnOk P w K mg base (L2.CX P w) 1 (ad 14) (fd 14) ["_law_a", "_law_b"] (spI ⟨P, w, K⟩ cl 2 F__law_quotient) := by
  refine FnOk.pure (ok_def (k := 0) T.d__law_quotient.F sc__law_quotient m__law_quotient rfl fun cdv A outer s H E hr => ?_)
  exact ss_cons (ss_set (i := 2) sc__law_quotient.nd rfl (Or.inl rfl) (se_int))
    (ss_cons (ss_par (i := 3) (j := 4) rfl sc__law_quotient.nd rfl rfl (by decide) rfl rfl (sa_cons (se_int) (sa_cons (se_add (sv_abs rfl T.z_abs (sa_cons (se_var 0) (sa_nil))) (se_int)) (sa_nil))) (by rfl))
    (ss_cons (ss_while _ (passes_of rfl) (st_cmp (cs_gt hr) (se_sub (se_var 4) (se_var 3)) (se_int)) (ss_cons (ss_set (i := 2) sc__law_quotient.nd rfl (Or.inl rfl) (se_div (se_add (se_var 3) (se_var 4)) (se_int)))
    (ss_one (ss_asg (sv_if (st_cmp (cs_le hr) (se_mul (se_var 2) (sv_abs rfl T.z_abs (sa_cons (se_var 1) (sa_nil)))) (sv_abs rfl T.z_abs (sa_cons (se_var 0) (sa_nil)))) (sv_tup (sa_cons (se_var 2) (sa_cons (se_var 4) (sa_nil)))) (sv_tup (sa_cons (se_var 3) (sa_cons (se_var 2) (sa_nil))))) (sg_tup rfl (sg_cons (sg_name (i := 3) sc__law_quotient.nd rfl (Or.inl rfl)) (sg_cons (sg_name (i := 4) sc__law_quotient.nd rfl (Or.inl rfl)) (sg_nil))))))))
    (ss_one (ss_ret (sv_if (st_cmp (cs_eq hr) (sv_cmp (cs_lt hr) (se_var 0) (se_int)) (sv_cmp (cs_lt hr) (se_var 1) (se_int))) (se_var 3) (se_neg (se_var 3)))))))
theorem ok__law_power (T : Tx K mg ad fd) : FnOk P w K mg base (L2.CX P w) 1 (ad 15) (fd 15) ["_law_many"] (spI ⟨P, w, K⟩ cl 1 F__law_power) := by
  refine FnOk.pure (ok_def (k := 0) T.d__law_power.F sc__law_power m__law_power rfl fun cdv A outer s H E hr => ?_)
  exact ss_cons (ss_set (i := 1) sc__law_power.nd rfl (Or.inl rfl) (se_int))
    (ss_cons (ss_for (passes_of rfl) rfl (si_rg1 rfl T.z_range (sa_cons (se_var 0) (sa_nil))) (sg_name (i := 2) sc__law_power.nd rfl (Or.inl rfl)) (ss_one (ss_set (i := 1) sc__law_power.nd rfl (Or.inl rfl) (se_mul (se_var 1) (se_int)))))
    (ss_one (ss_ret (se_var 1))))
theorem ok__law_bits (T : Tx K mg ad fd) : FnOk P w K mg base (L2.CX P w) 2 (ad 16) (fd 16) ["_law_kind", "_law_a", "_law_b"] (spI ⟨P, w, K⟩ cl 3 F__law_bits) := by
  refine FnOk.pure (ok_def (k := 1) T.d__law_bits.F sc__law_bits m__law_bits rfl fun cdv A outer s H E hr => ?_)
  exact ss_cons (ss_set (i := 3) sc__law_bits.nd rfl (Or.inl rfl) (se_int))
    (ss_cons (ss_for (passes_of rfl) rfl (si_rg1 rfl T.z_range (sa_cons (se_int) (sa_nil))) (sg_name (i := 4) sc__law_bits.nd rfl (Or.inl rfl)) (ss_cons (ss_par (i := 5) (j := 6) rfl sc__law_bits.nd rfl rfl (by decide) rfl rfl (sa_cons (se_mod (se_div (se_var 1) (sv_def (takes_of rfl rfl rfl rfl) (ok__law_power T) (hr.mono (by decide)) rfl T.d__law_power.m T.d__law_power.F.kp T.d__law_power.b (sa_cons (se_var 4) (sa_nil)))) (se_int)) (sa_cons (se_mod (se_div (se_var 2) (sv_def (takes_of rfl rfl rfl rfl) (ok__law_power T) (hr.mono (by decide)) rfl T.d__law_power.m T.d__law_power.F.kp T.d__law_power.b (sa_cons (se_var 4) (sa_nil)))) (se_int)) (sa_nil))) (by rfl))
    (ss_cons (ss_set (i := 7) sc__law_bits.nd rfl (Or.inl rfl) (sv_ix hr (sv_disp (sp_cons (se_str) (se_mul (se_var 5) (se_var 6)) (sp_cons (se_str) (sv_maxL rfl rfl T.z_max (sa_cons (sv_lst (sa_cons (se_var 5) (sa_cons (se_var 6) (sa_nil)))) (sa_nil))) (sp_cons (se_str) (se_mod (se_add (se_var 5) (se_var 6)) (se_int)) (sp_nil))))) (se_var 0)))
    (ss_one (ss_set (i := 3) sc__law_bits.nd rfl (Or.inl rfl) (se_add (se_var 3) (se_mul (se_var 7) (sv_def (takes_of rfl rfl rfl rfl) (ok__law_power T) (hr.mono (by decide)) rfl T.d__law_power.m T.d__law_power.F.kp T.d__law_power.b (sa_cons (se_var 4) (sa_nil))))))))))
    (ss_one (ss_ret (se_var 3))))
theorem ok__law_due (T : Tx K mg ad fd) : FnOk P w K mg base (L2.CX P w) 3 (ad 17) (fd 17) ["_law_kind", "_law_a", "_law_b"] (spI ⟨P, w, K⟩ cl 3 F__law_due) := by
  refine FnOk.pure (ok_def (k := 2) T.d__law_due.F sc__law_due m__law_due rfl fun cdv A outer s H E hr => ?_)
  exact ss_cons (ss_par3 (i := 3) (j := 4) (l := 5) rfl sc__law_due.nd rfl rfl rfl (by decide) (by decide) (by decide) rfl rfl rfl (sa_cons (sv_def (takes_of rfl rfl rfl rfl) (ok__law_signed T) (hr.mono (by decide)) rfl T.d__law_signed.m T.d__law_signed.F.kp T.d__law_signed.b (sa_cons (se_var 1) (sa_nil))) (sa_cons (sv_def (takes_of rfl rfl rfl rfl) (ok__law_signed T) (hr.mono (by decide)) rfl T.d__law_signed.m T.d__law_signed.F.kp T.d__law_signed.b (sa_cons (se_var 2) (sa_nil))) (sa_cons (sv_def (takes_of rfl rfl rfl rfl) (ok__law_power T) (hr.mono (by decide)) rfl T.d__law_power.m T.d__law_power.F.kp T.d__law_power.b (sa_cons (se_mod (se_var 2) (se_int)) (sa_nil))) (sa_nil)))) (by rfl))
    (ss_cons (ss_if (st_cmp (cs_in2 hr) (se_var 0) (sv_tup (sa_cons (se_str) (sa_cons (se_str) (sa_cons (se_str) (sa_nil)))))) (ss_one (ss_ret (sv_def (takes_of rfl rfl rfl rfl) (ok__law_bits T) (hr.mono (by decide)) rfl T.d__law_bits.m T.d__law_bits.F.kp T.d__law_bits.b (sa_cons (se_var 0) (sa_cons (se_var 1) (sa_cons (se_var 2) (sa_nil))))))) (ss_nil))
    (ss_cons (ss_if (st_cmp (cs_in2 hr) (se_var 0) (sv_tup (sa_cons (se_str) (sa_cons (se_str) (sa_cons (se_str) (sa_cons (se_str) (sa_nil))))))) (ss_cons (ss_asg (sv_if (st_cmp (cs_eq hr) (sv_ix hr (se_var 0) (se_int)) (se_str)) (sv_tup (sa_cons (se_var 3) (sa_cons (se_var 4) (sa_nil)))) (sv_tup (sa_cons (se_var 1) (sa_cons (se_var 2) (sa_nil))))) (sg_tup rfl (sg_cons (sg_name (i := 6) sc__law_due.nd rfl (Or.inl rfl)) (sg_cons (sg_name (i := 7) sc__law_due.nd rfl (Or.inl rfl)) (sg_nil)))))
    (ss_cons (ss_if (st_cmp (cs_eq hr) (se_var 2) (se_int)) (ss_one (ss_ret (sv_if (st_cmp (cs_eq hr) (sv_sl (se_var 0) (so_no) (so_pt (se_int))) (se_str)) (se_sub (se_pow (se_int) (se_int)) (se_int)) (se_var 1)))) (ss_nil))
    (ss_cons (ss_set (i := 8) sc__law_due.nd rfl (Or.inl rfl) (sv_def (takes_of rfl rfl rfl rfl) (ok__law_quotient T) (hr.mono (by decide)) rfl T.d__law_quotient.m T.d__law_quotient.F.kp T.d__law_quotient.b (sa_cons (se_var 6) (sa_cons (se_var 7) (sa_nil)))))
    (ss_one (ss_ret (se_mod (sv_if (st_cmp (cs_eq hr) (sv_sl (se_var 0) (so_no) (so_pt (se_int))) (se_str)) (se_var 8) (se_sub (se_var 6) (se_mul (se_var 8) (se_var 7)))) (se_pow (se_int) (se_int)))))))) (ss_nil))
    (ss_cons (ss_set (i := 9) sc__law_due.nd rfl (Or.inl rfl) (sv_disp (sp_cons (se_str) (se_add (se_var 3) (se_var 4)) (sp_cons (se_str) (se_sub (se_var 3) (se_var 4)) (sp_cons (se_str) (se_mul (se_var 3) (se_var 4)) (sp_cons (se_str) (se_mul (se_var 1) (se_var 5)) (sp_cons (se_str) (se_div (se_var 1) (se_var 5)) (sp_cons (se_str) (se_div (se_var 3) (se_var 5)) (sp_cons (se_str) (sv_if (st_cmp (cs_lt hr) (se_var 3) (se_var 4)) (se_int) (se_int)) (sp_cons (se_str) (sv_if (st_cmp (cs_lt hr) (se_var 1) (se_var 2)) (se_int) (se_int)) (sp_cons (se_str) (sv_if (st_cmp (cs_eq hr) (se_var 1) (se_var 2)) (se_int) (se_int)) (sp_nil))))))))))))
    (ss_one (ss_ret (se_mod (sv_ix hr (se_var 9) (se_var 0)) (se_pow (se_int) (se_int))))))))
theorem ok_law (T : Tx K mg ad fd) : FnOk P w K mg base (L2.CX P w) 6 (ad 18) (fd 18) ["_law_script"] (spI ⟨P, w, K⟩ cl 1 F_law) := by
  refine ok_def (k := 5) T.d_law.F sc_law m_law rfl fun cdv A outer s H E hr => ?_
  exact ss_cons (ss_set (i := 1) sc_law.nd rfl (Or.inl rfl) (sv_lstC (sa_cons (sv_sl (se_var 0) (so_no) (so_pt (se_int))) (sa_cons (se_int) (sa_cons (se_int) (sa_nil))))))
    (ss_cons (ss_set (i := 2) sc_law.nd rfl (Or.inl rfl) (sv_tup (sa_cons (se_str) (sa_cons (se_str) (sa_cons (se_str) (sa_cons (se_str) (sa_cons (se_str) (sa_cons (se_str) (sa_cons (se_str) (sa_cons (se_str) (sa_cons (se_str) (sa_cons (se_str) (sa_cons (se_str) (sa_cons (se_str) (sa_cons (se_str) (sa_cons (se_str) (sa_cons (se_str) (sa_cons (se_str) (sa_nil)))))))))))))))))))
    (ss_cons (ss_for (passes_of rfl) rfl (si_rg1 rfl T.z_range (sa_cons (se_int) (sa_nil))) (sg_name (i := 3) sc_law.nd rfl (Or.inl rfl)) (ss_cons (ss_par (i := 4) (j := 5) rfl sc_law.nd rfl rfl (by decide) rfl rfl (sa_cons (sv_def (takes_of rfl rfl rfl rfl) (ok__law_word T) (hr.mono (by decide)) rfl T.d__law_word.m T.d__law_word.F.kp T.d__law_word.b (sa_cons (se_var 1) (sa_nil))) (sa_cons (sv_def (takes_of rfl rfl rfl rfl) (ok__law_word T) (hr.mono (by decide)) rfl T.d__law_word.m T.d__law_word.F.kp T.d__law_word.b (sa_cons (se_var 1) (sa_nil))) (sa_nil))) (by rfl))
    (ss_cons (ss_for (passes_of rfl) rfl (si_seq (se_var 2)) (sg_name (i := 6) sc_law.nd rfl (Or.inl rfl)) (ss_one (ss_if (st_cmp (cs_ne hr) (sv_def (takes_of rfl rfl rfl rfl) (ok_apply T) (hr.mono (by decide)) rfl T.d_apply.m T.d_apply.F.kp T.d_apply.b (sa_cons (se_var 6) (sa_cons (se_var 4) (sa_cons (se_var 5) (sa_nil))))) (sv_def (takes_of rfl rfl rfl rfl) (ok__law_due T) (hr.mono (by decide)) rfl T.d__law_due.m T.d__law_due.F.kp T.d__law_due.b (sa_cons (se_var 6) (sa_cons (se_var 4) (sa_cons (se_var 5) (sa_nil)))))) (ss_one (ss_ret (se_bl))) (ss_nil))))
    (ss_one (ss_if (PW.pt (sw_or (st_cmp (cs_ne hr) (sv_def (takes_of rfl rfl rfl rfl) (ok_signed T) (hr.mono (by decide)) rfl T.d_signed.m T.d_signed.F.kp T.d_signed.b (sa_cons (se_var 4) (sa_nil))) (sv_def (takes_of rfl rfl rfl rfl) (ok__law_signed T) (hr.mono (by decide)) rfl T.d__law_signed.m T.d__law_signed.F.kp T.d__law_signed.b (sa_cons (se_var 4) (sa_nil)))) (sw_or (st_cmp (cs_ne hr) (sv_def (takes_of rfl rfl rfl rfl) (ok_word_of T) (hr.mono (by decide)) rfl T.d_word_of.m T.d_word_of.F.kp T.d_word_of.b (sa_cons (sv_def (takes_of rfl rfl rfl rfl) (ok_signed T) (hr.mono (by decide)) rfl T.d_signed.m T.d_signed.F.kp T.d_signed.b (sa_cons (se_var 4) (sa_nil))) (sa_nil))) (se_var 4)) (sw_or1 (st_cmp (cs_ne hr) (sv_def (takes_of rfl rfl rfl rfl) (ok_word_of T) (hr.mono (by decide)) rfl T.d_word_of.m T.d_word_of.F.kp T.d_word_of.b (sa_cons (se_sub (se_var 4) (se_mul (se_int) (se_pow (se_int) (se_int)))) (sa_nil))) (se_var 4)))))) (ss_one (ss_ret (se_bl))) (ss_nil))))))
    (ss_one (ss_ret (se_bl)))))
end
end Pg
namespace Pg
open PySem PySem.Spec PyProof.Rows L2 Sm
/-! ### what is drawn -/
theorem cell_at_ok (ns : List Int) (k : Int) (hk : 0 ≤ k) (cs : List Cell) : ∃ v : Int, F__law_cell_at [.d (.list (ns.map .int)), .d (.int k)] cs = some (.ok (.d (.int v)) cs) := by
  by_cases h : k < ns.length
  · refine ⟨ns[k.toNat]'(by omega), ?_⟩
    refine pureF_ok (ds := [.list (ns.map .int), .int k]) (cs1 := []) ?_
    have e := atI_nn hk h
    simp [m__law_cell_at, h, atI_map, e]
  · refine ⟨0, ?_⟩
    refine pureF_ok (ds := [.list (ns.map .int), .int k]) (cs1 := []) ?_
    simp [m__law_cell_at, h]
theorem draw_ok (c k b : Int) (hb : 0 < b) (cs : List Cell) : ∃ v : Int, F__law_draw [.d (.int c), .d (.int k), .d (.int b)] cs = some (.ok (.d (.int v)) cs) ∧ 0 ≤ v ∧ v < b := by
  have h16 : ∃ p : Int, atI ([.int 1000003, .int 1000033, .int 1000037, .int 1000039, .int 1000081, .int 1000099, .int 1000117, .int 1000121, .int 1000133, .int 1000151, .int 1000159, .int 1000171, .int 1000183, .int 1000187, .int 1000193, .int 1000199] : List PyData) (k % 16) = some (.int p) ∧ 0 < p := by
    have h0 : 0 ≤ k % 16 := Int.emod_nonneg k (by decide)
    have h1 : k % 16 < 16 := Int.emod_lt_of_pos k (by decide)
    generalize k % 16 = j at h0 h1
    have : j = 0 ∨ j = 1 ∨ j = 2 ∨ j = 3 ∨ j = 4 ∨ j = 5 ∨ j = 6 ∨ j = 7 ∨ j = 8 ∨ j = 9 ∨ j = 10 ∨ j = 11 ∨ j = 12 ∨ j = 13 ∨ j = 14 ∨ j = 15 := by omega
    rcases this with h | h | h | h | h | h | h | h | h | h | h | h | h | h | h | h <;> (subst h; exact ⟨_, rfl, by decide⟩)
  obtain ⟨p, hp, hp0⟩ := h16
  refine ⟨(c * 48271 + k * 69621) % p % b, ?_, Int.emod_nonneg _ (by omega), Int.emod_lt_of_pos _ hb⟩
  refine pureF_ok (ds := [.int c, .int k, .int b]) (cs1 := []) ?_
  have ht : ∀ cs, mkT [.d (.int 1000003), .d (.int 1000033), .d (.int 1000037), .d (.int 1000039), .d (.int 1000081), .d (.int 1000099), .d (.int 1000117), .d (.int 1000121), .d (.int 1000133), .d (.int 1000151), .d (.int 1000159), .d (.int 1000171), .d (.int 1000183), .d (.int 1000187), .d (.int 1000193), .d (.int 1000199)] cs =
    some (.ok (.d (.tuple [.int 1000003, .int 1000033, .int 1000037, .int 1000039, .int 1000081, .int 1000099, .int 1000117, .int 1000121, .int 1000133, .int 1000151, .int 1000159, .int 1000171, .int 1000183, .int 1000187, .int 1000193, .int 1000199])) cs) := fun cs => rfl
  simp (disch := omega) [m__law_draw, ht, fMul_r, fMod_p, hp]
theorem pow_ok (j : Nat) (hj : j ≤ 24) : (0 : Int) < 1009 ^ j ∧ ((1009 : Int) ^ j).natAbs < 2 ^ 240 := by
  refine ⟨Int.pow_pos (by decide), ?_⟩
  have h1 : 1009 ^ j ≤ 1009 ^ 24 := Nat.pow_le_pow_right (by decide) hj
  have h2 : ((1009 : Int) ^ j).natAbs = 1009 ^ j := by
    rw [Int.natAbs_pow]
    rfl
  rw [h2]
  exact Nat.lt_of_le_of_lt h1 (by decide +kernel)
theorem number_ok (c k b : Int) (hk0 : 1 ≤ k) (hk : k ≤ 12) (hb : 0 < b) (cs : List Cell) : ∃ v : Int, F__law_number [.d (.int c), .d (.int k), .d (.int b)] cs = some (.ok (.d (.int v)) cs) ∧ 0 ≤ v ∧ v < b := by
  have hk24 : k % 24 = k := Int.emod_eq_of_lt (by omega) (by omega)
  have hloop : ∃ s' cs', mLoop (gN 4) b__law_number_1 (rgW 0 k.toNat) [some (.d (.int c)), some (.d (.int k)), some (.d (.int b)), some (.d (.int 1)), none, none, none] [] = some (.nx s' cs') ∧ ∃ l p, s' = [some (.d (.int c)), some (.d (.int k)), some (.d (.int b)), some (.d (.int p)), l, none, none] ∧ cs' = [] ∧ p = 1009 ^ k.toNat := by
    obtain ⟨s', cs', h1, h2⟩ := mLoop_inv (g := gN 4) (b := mAsg 3 (m2 (dd2 fMul) (mV 3) (mC (.int 1009)))) (fun j s cs => ∃ l p, s = [some (.d (.int c)), some (.d (.int k)), some (.d (.int b)), some (.d (.int p)), l, none, none] ∧ cs = [] ∧ p = 1009 ^ j) (rgW 0 k.toNat) 0 [some (.d (.int c)), some (.d (.int k)), some (.d (.int b)), some (.d (.int 1)), none, none, none] [] ⟨none, 1, rfl, rfl, rfl⟩ fun j w s cs hw hI => by
      obtain ⟨l, p, rfl, rfl, hp⟩ := hI
      obtain ⟨hj, rfl⟩ := rgW_at hw
      refine ⟨_, rfl, [some (.d (.int c)), some (.d (.int k)), some (.d (.int b)), some (.d (.int (p * 1009))), some (.d (.int (0 + (j : Int)))), none, none], [], .inl ?_, _, _, rfl, rfl, ?_⟩
      · simp (disch := omega) [b__law_number_1, fMul_r]
      · rw [hp]
        exact (Int.pow_succ _ _).symm
    refine ⟨s', cs', h1, ?_⟩
    rw [rgW_len, Nat.zero_add] at h2
    exact h2
  obtain ⟨s', cs', e1, l, p1009, rfl, rfl, hp⟩ := hloop
  have hb62 : bnd62 k = true := decide_eq_true ⟨by omega, by omega⟩
  have hdiv : ∀ a : Int, fDiv (.int a) (.int p1009) = some (.int (a / p1009)) := by
    rw [hp]
    exact fun a => fDiv_c (cDiv_of (pow_ok k.toNat (by omega)).1 (by decide) (by decide) (pow_ok k.toNat (by omega)).2)
  clear hp
  have h10 : fPow (.int 10) (.int 18) = some (.int 1000000000000000000) := by rfl
  by_cases hr : 0 < (c - 1000000000000000000) / p1009
  · refine ⟨(c - 1000000000000000000) / p1009 % 1009 % b, ?_, Int.emod_nonneg _ (by omega), Int.emod_lt_of_pos _ hb⟩
    refine pureF_ok (ds := [.int c, .int k, .int b]) (cs1 := []) ?_
    simp (disch := omega) [m__law_number, fMod_p, hk24, hb62, e1, h10, hdiv, hr]
  · obtain ⟨v, hv, _⟩ := draw_ok ((c % 1000003 + 977 * k) * (c % 1000003 + 31 * k + 5)) (k % 9 + 1) 999983 (by decide) []
    refine ⟨v % b, ?_, Int.emod_nonneg _ (by omega), Int.emod_lt_of_pos _ hb⟩
    refine pureF_ok (ds := [.int c, .int k, .int b]) (cs1 := []) ?_
    have s0 : 0 ≤ c % 1000003 := Int.emod_nonneg _ (by decide)
    have s1 : c % 1000003 < 1000003 := Int.emod_lt_of_pos _ (by decide)
    simp (disch := omega) [m__law_number, fMod_p, hk24, hb62, e1, h10, hdiv, hr, fMul_l, hv]
/-- where the draws stand: what is drawn from, and how many were -/
def Dr (n : Nat) (ns : List Int) (cs : List Cell) : Prop := ∃ t : Int, 0 ≤ t ∧ cs[n]? = some (.lst [.d (.list (ns.map .int)), .d (.int 0), .d (.int t)])
def Kp (n : Nat) (cs cs' : List Cell) : Prop := cs'.length = cs.length ∧ ∀ m, m ≠ n → cs'[m]? = cs[m]?
theorem Kp.trans {n : Nat} {a b c : List Cell} (h : Kp n a b) (g : Kp n b c) : Kp n a c := ⟨g.1.trans h.1, fun m hm => (g.2 m hm).trans (h.2 m hm)⟩
theorem next_ok (n : Nat) (ns : List Int) (b : Int) (hb : 0 < b) (cs : List Cell) (hd : Dr n ns cs) : ∃ (v : Int) (cs' : List Cell), F__law_next [.r n, .d (.int b)] cs = some (.ok (.d (.int v)) cs') ∧ 0 ≤ v ∧ v < b ∧ Dr n ns cs' ∧ Kp n cs cs' := by
  obtain ⟨t, ht, hc⟩ := hd
  have hn := (List.getElem?_eq_some_iff.mp hc).1
  have hset : (cs.set n (.lst [.d (.list (ns.map .int)), .d (.int 0), .d (.int (t + 1))]))[n]? = some (.lst [.d (.list (ns.map .int)), .d (.int 0), .d (.int (t + 1))]) := List.getElem?_set_self hn
  generalize hcs : cs.set n (.lst [.d (.list (ns.map .int)), .d (.int 0), .d (.int (t + 1))]) = cs1 at hset
  have hat : 0 ≤ (t + 1) / 12 := Int.ediv_nonneg (by omega) (by decide)
  obtain ⟨c, hcell⟩ := cell_at_ok ns ((t + 1) / 12) hat cs1
  have hk0 : 0 ≤ (t + 1) % 12 := Int.emod_nonneg _ (by decide)
  have hk1 : (t + 1) % 12 < 12 := Int.emod_lt_of_pos _ (by decide)
  obtain ⟨v, hv, hv0, hv1⟩ := number_ok (c + 31 * ((t + 1) / 12)) ((t + 1) % 12 + 1) b (by omega) (by omega) hb cs1
  refine ⟨v, cs1, ?_, hv0, hv1, ⟨t + 1, by omega, hset⟩, ?_⟩
  · have i2 : fIx2 (.r n) (.d (.int 2)) cs = some (.ok (.d (.int t)) cs) := by
      rw [fIx2_cell hc]
      rfl
    have i2' : fIx2 (.r n) (.d (.int 2)) cs1 = some (.ok (.d (.int (t + 1))) cs1) := by
      rw [fIx2_cell hset]
      rfl
    have i1' : fIx2 (.r n) (.d (.int 1)) cs1 = some (.ok (.d (.int 0)) cs1) := by
      rw [fIx2_cell hset]
      rfl
    have i0' : fIx2 (.r n) (.d (.int 0)) cs1 = some (.ok (.d (.list (ns.map .int))) cs1) := by
      rw [fIx2_cell hset]
      rfl
    have st : fSt (.r n) (.d (.int 2)) (.d (.int (t + 1))) cs = some cs1 := by
      rw [fSt_cell hc, ← hcs]
      rfl
    unfold F__law_next
    simp (disch := omega) [m__law_next, i2, st, i2', i1', i0', fDiv_s, fMod_p, hcell, fMul_l, hv]
  · rw [← hcs]
    exact ⟨List.length_set, fun m hm => List.getElem?_set_ne (Ne.symm hm)⟩
end Pg
namespace Pg
open PySem PySem.Spec PyProof.Rows L2 Sm
theorem pick_list_ok (n : Nat) (ns : List Int) (ds : List PyData) (hds : ds ≠ []) (cs : List Cell) (hd : Dr n ns cs) : ∃ (d : PyData) (cs' : List Cell), F__law_pick [.r n, .d (.list ds)] cs = some (.ok (.d d) cs') ∧ d ∈ ds ∧ Dr n ns cs' ∧ Kp n cs cs' := by
  have hl : 0 < ds.length := List.length_pos_iff.mpr hds
  obtain ⟨v, cs', h, h0, h1, h2, h3⟩ := next_ok n ns (ds.length : Int) (by omega) cs hd
  have e := atI_nn h0 h1
  refine ⟨_, cs', ?_, List.getElem_mem (by omega : v.toNat < ds.length), h2, h3⟩
  unfold F__law_pick
  simp [m__law_pick, h, e]
def M32 : Int := 4294967296
/-- the integer that a word stands for -/
def sg (a : Int) : Int := if a < 2147483648 then a else a - 4294967296
theorem p2_32 : fPow (.int 2) (.int 32) = some (.int 4294967296) := by rfl
theorem p2_31 : fPow (.int 2) (.int 31) = some (.int 2147483648) := by rfl
theorem p2_16 : fPow (.int 2) (.int 16) = some (.int 65536) := by rfl
theorem p2_5 : fPow (.int 2) (.int 5) = some (.int 32) := by rfl
theorem word_ok (n : Nat) (ns : List Int) (cs : List Cell) (hd : Dr n ns cs) : ∃ (v : Int) (cs' : List Cell), F__law_word [.r n] cs = some (.ok (.d (.int v)) cs') ∧ 0 ≤ v ∧ v < 4294967296 ∧ Dr n ns cs' ∧ Kp n cs cs' := by
  obtain ⟨d, cs1, h1, hm, d1, k1⟩ := pick_list_ok n ns [.int 0, .int 1, .int 2147483648, .int 4294967295, .int 2147483647, .int 65536, .int 32, .int 2147483648] (by simp) cs hd
  obtain ⟨near, rfl⟩ : ∃ i, d = .int i := by
    simp at hm
    rcases hm with h | h | h | h | h | h | h | h <;> exact ⟨_, h⟩
  have hl : ∀ cs, mkL [.d (.int 0), .d (.int 1), .d (.int 2147483648), .d (.int 4294967295), .d (.int 2147483647), .d (.int 65536), .d (.int 32), .d (.int 2147483648)] cs = some (.ok (.d (.list [.int 0, .int 1, .int 2147483648, .int 4294967295, .int 2147483647, .int 65536, .int 32, .int 2147483648])) cs) := fun cs => rfl
  obtain ⟨v2, cs2, h2, a2, b2, d2, k2⟩ := next_ok n ns 3 (by decide) cs1 d1
  by_cases hv : v2 = 0
  · subst hv
    obtain ⟨v3, cs3, h3, a3, b3, d3, k3⟩ := next_ok n ns 1009 (by decide) cs2 d2
    obtain ⟨v4, cs4, h4, a4, b4, d4, k4⟩ := next_ok n ns 1009 (by decide) cs3 d3
    refine ⟨(v3 * 4256233 + v4 * 7 + near) % 4294967296, cs4, ?_, Int.emod_nonneg _ (by decide), Int.emod_lt_of_pos _ (by decide), d4, ((k1.trans k2).trans k3).trans k4⟩
    unfold F__law_word
    simp (disch := omega) [m__law_word, p2_32, p2_31, p2_16, p2_5, hl, h1, h2, h3, h4, fMul_r, fMod_p]
  · obtain ⟨v3, cs3, h3, a3, b3, d3, k3⟩ := next_ok n ns 7 (by decide) cs2 d2
    refine ⟨(near + v3 - 3) % 4294967296, cs3, ?_, Int.emod_nonneg _ (by decide), Int.emod_lt_of_pos _ (by decide), d3, (k1.trans k2).trans k3⟩
    unfold F__law_word
    simp (disch := omega) [m__law_word, p2_32, p2_31, p2_16, p2_5, hl, h1, h2, h3, hv, fMul_r, fMod_p]
theorem lsigned_ok (a : Int) (cs : List Cell) : F__law_signed [.d (.int a)] cs = some (.ok (.d (.int (sg a))) cs) := by
  refine pureF_ok (ds := [.int a]) (cs1 := []) ?_
  by_cases h : a < 2147483648
  · simp [m__law_signed, p2_32, p2_31, h, sg]
  · simp [m__law_signed, p2_32, p2_31, h, sg]
theorem signed_ok (a : Int) (cs : List Cell) : F_signed [.d (.int a)] cs = some (.ok (.d (.int (sg a))) cs) := by
  refine pureF_ok (ds := [.int a]) (cs1 := []) ?_
  by_cases h : a < 2147483648
  · have h2 : ¬ 2147483648 ≤ a := by omega
    simp [m_signed, h, h2, sg]
  · have h2 : 2147483648 ≤ a := by omega
    simp [m_signed, h, h2, sg]
theorem word_of_ok (a : Int) (cs : List Cell) : F_word_of [.d (.int a)] cs = some (.ok (.d (.int (a % 4294967296))) cs) := by
  refine pureF_ok (ds := [.int a]) (cs1 := []) ?_
  simp (disch := omega) [m_word_of, fMod_p]
theorem lpower_ok (k : Int) (h0 : 0 ≤ k) (h1 : k < 32) (cs : List Cell) : ∃ p : Int, F__law_power [.d (.int k)] cs = some (.ok (.d (.int p)) cs) ∧ p = 2 ^ k.toNat ∧ 0 < p ∧ p < 4294967296 := by
  have hloop : ∃ s' cs', mLoop (gN 2) b__law_power_1 (rgW 0 k.toNat) [some (.d (.int k)), some (.d (.int 1)), none] [] = some (.nx s' cs') ∧ ∃ l p, s' = [some (.d (.int k)), some (.d (.int p)), l] ∧ cs' = [] ∧ p = 2 ^ k.toNat := by
    obtain ⟨s', cs', h1, h2⟩ := mLoop_inv (g := gN 2) (b := mAsg 1 (m2 (dd2 fMul) (mV 1) (mC (.int 2)))) (fun j s cs => ∃ l p, s = [some (.d (.int k)), some (.d (.int p)), l] ∧ cs = [] ∧ p = 2 ^ j) (rgW 0 k.toNat) 0 [some (.d (.int k)), some (.d (.int 1)), none] [] ⟨none, 1, rfl, rfl, rfl⟩ fun j w s cs hw hI => by
      obtain ⟨l, p, rfl, rfl, hp⟩ := hI
      obtain ⟨hj, rfl⟩ := rgW_at hw
      refine ⟨_, rfl, [some (.d (.int k)), some (.d (.int (p * 2))), some (.d (.int (0 + (j : Int))))], [], .inl ?_, _, _, rfl, rfl, ?_⟩
      · simp (disch := omega) [b__law_power_1, fMul_r]
      · rw [hp]
        exact (Int.pow_succ _ _).symm
    refine ⟨s', cs', h1, ?_⟩
    rw [rgW_len, Nat.zero_add] at h2
    exact h2
  obtain ⟨s', cs', e1, l, p, rfl, rfl, hp⟩ := hloop
  refine ⟨p, ?_, hp, ?_, ?_⟩
  · refine pureF_ok (ds := [.int k]) (cs1 := []) ?_
    have hb : bnd62 k = true := decide_eq_true ⟨by omega, by omega⟩
    simp [m__law_power, hb, e1]
  · rw [hp]
    exact Int.pow_pos (by decide)
  · rw [hp]
    have h2 : 2 ^ k.toNat ≤ 2 ^ 31 := Nat.pow_le_pow_right (by decide) (by omega)
    have h3 : (2 : Int) ^ k.toNat = ((2 ^ k.toNat : Nat) : Int) := by simp
    rw [h3]
    omega
end Pg
namespace Pg
open PySem PySem.Spec PyProof.Rows L2 Sm
/-! ### quotients -/
def ab (a : Int) : Int := if a < 0 then -a else a
/-- rounded towards 0 -/
def quo (a b : Int) : Int := if (decide (a < 0) == decide (b < 0)) = true then ab a / ab b else -(ab a / ab b)
theorem ab_pos {b : Int} (hb : b ≠ 0) : 0 < ab b := by unfold ab; split <;> omega
theorem ab_nn (b : Int) : 0 ≤ ab b := by unfold ab; split <;> omega
theorem quotient_ok (a b : Int) (hb : b ≠ 0) (hb2 : -4611686018427387904 < b ∧ b < 4611686018427387904) (cs : List Cell) : F_quotient [.d (.int a), .d (.int b)] cs = some (.ok (.d (.int (quo a b))) cs) := by
  refine pureF_ok (ds := [.int a, .int b]) (cs1 := []) ?_
  have h1 : 0 < ab b := ab_pos hb
  have h2 : ab b < 4611686018427387904 := by unfold ab; split <;> omega
  have e : fDiv (.int (if a < 0 then -a else a)) (.int (if b < 0 then -b else b)) = some (.int (ab a / ab b)) := fDiv_s h1 h2
  unfold quo
  generalize ab a / ab b = q at e
  by_cases h : (decide (a < 0) == decide (b < 0)) = true
  · simp only [h, if_true]
    have h' : decide (a < 0) = decide (b < 0) := by simpa using h
    simp [m_quotient, e, h']
  · simp only [h]
    have h' : ¬ decide (a < 0) = decide (b < 0) := by simpa using h
    simp [m_quotient, e, h']
theorem ediv_between {A B q : Int} (hB : 0 < B) (h1 : q * B ≤ A) (h2 : A < (q + 1) * B) : A / B = q := by
  have a1 : q ≤ A / B := Int.le_ediv_of_mul_le hB h1
  have a2 : A / B < q + 1 := Int.ediv_lt_of_lt_mul hB h2
  omega
abbrev qS (a b f l h : Int) : Sg := [some (.d (.int a)), some (.d (.int b)), some (.d (.int f)), some (.d (.int l)), some (.d (.int h))]
theorem lq_loop (a b : Int) (hb : b ≠ 0) : ∀ (n : Nat) (f l h : Int), 0 ≤ l → l < h → h ≤ 4294967297 → h - l ≤ 2 ^ n → l * ab b ≤ ab a → ab a < h * ab b →
    ∃ f' h', mWhile t__law_quotient_1 b__law_quotient_1 (n + 1) (qS a b f l h) [] = some (.nx (qS a b f' (ab a / ab b) h') []) := by
  intro n
  have hB := ab_pos hb
  have stop : ∀ (m : Nat) (f l h : Int), h = l + 1 → l * ab b ≤ ab a → ab a < h * ab b → mWhile t__law_quotient_1 b__law_quotient_1 (m + 1) (qS a b f l h) [] = some (.nx (qS a b f (ab a / ab b) h) []) := by
    intro m f l h hh h1 h2
    subst hh
    rw [ediv_between hB h1 h2, mWhile_s]
    have e : ¬ (1 < l + 1 - l) := by omega
    simp [t__law_quotient_1, e]
  induction n with
  | zero =>
    intro f l h h0 h1 _ h2 h3 h4
    have hh : h = l + 1 := by
      have : (2 : Int) ^ 0 = 1 := rfl
      omega
    exact ⟨f, h, stop 0 f l h hh h3 h4⟩
  | succ n ih =>
    intro f l h h0 h1 hm h2 h3 h4
    by_cases hh : h = l + 1
    · exact ⟨f, h, stop (n + 1) f l h hh h3 h4⟩
    · have e : 1 < h - l := by omega
      have hp : (2 : Int) ^ (n + 1) = 2 * 2 ^ n := by rw [Int.pow_succ]; omega
      rw [hp] at h2
      generalize hq : (2 : Int) ^ n = p at h2 ih
      obtain ⟨m, hmid⟩ : ∃ m, m = (l + h) / 2 := ⟨_, rfl⟩
      have ed : fDiv (.int (l + h)) (.int 2) = some (.int m) := by rw [hmid]; exact fDiv_s (by decide) (by decide)
      have m1 : l < m := by omega
      have m2 : m < h := by omega
      have em : fMul (.int m) (.int (if b < 0 then -b else b)) = some (.int (m * ab b)) := fMul_l (by omega) (by omega)
      rw [mWhile_s]
      by_cases hc : m * ab b ≤ ab a
      · obtain ⟨f', h', ih⟩ := ih m m h (by omega) m2 hm (by omega) hc h4
        refine ⟨f', h', ?_⟩
        have hc' : m * ab b ≤ if a < 0 then -a else a := hc
        simp [t__law_quotient_1, b__law_quotient_1, e, ed, em, hc']
        exact ih
      · obtain ⟨f', h', ih⟩ := ih m l m h0 m1 (by omega) (by omega) h3 (by omega)
        refine ⟨f', h', ?_⟩
        have hc' : ¬ m * ab b ≤ if a < 0 then -a else a := hc
        simp [t__law_quotient_1, b__law_quotient_1, e, ed, em, hc']
        exact ih
theorem lquotient_ok (a b : Int) (hb : b ≠ 0) (ha : -4294967296 ≤ a ∧ a ≤ 4294967296) (cs : List Cell) : F__law_quotient [.d (.int a), .d (.int b)] cs = some (.ok (.d (.int (quo a b))) cs) := by
  refine pureF_ok (ds := [.int a, .int b]) (cs1 := []) ?_
  have hB := ab_pos hb
  have hA := ab_nn a
  have hA2 : ab a ≤ 4294967296 := by unfold ab; split <;> omega
  have hlt : ab a < (ab a + 1) * ab b := by
    have : (ab a + 1) * 1 ≤ (ab a + 1) * ab b := Int.mul_le_mul_of_nonneg_left (by omega) (by omega)
    omega
  have hbig : ab a + 1 - 0 ≤ 2 ^ 99 := Int.le_trans (show ab a + 1 - 0 ≤ 4294967297 by omega) (by decide +kernel)
  obtain ⟨f', h', e⟩ := lq_loop a b hb 99 0 0 (ab a + 1) (by omega) (by omega) (by omega) hbig (by omega) hlt
  have e : mWhile t__law_quotient_1 b__law_quotient_1 100 [some (.d (.int a)), some (.d (.int b)), some (.d (.int 0)), some (.d (.int 0)), some (.d (.int ((if a < 0 then -a else a) + 1)))] [] = some (.nx (qS a b f' (ab a / ab b) h') []) := e
  unfold quo
  generalize ab a / ab b = q at e
  by_cases h : (decide (a < 0) == decide (b < 0)) = true
  · simp only [h, if_true]
    have h2 : decide (a < 0) = decide (b < 0) := by simpa using h
    simp [m__law_quotient, e, h2]
  · simp only [h]
    have h2 : ¬ decide (a < 0) = decide (b < 0) := by simpa using h
    simp [m__law_quotient, e, h2]
end Pg
namespace Pg
open PySem PySem.Spec PyProof.Rows L2 Sm
/-! ### bits -/
def bt (x j : Nat) : Int := ((x / 2 ^ j % 2 : Nat) : Int)
theorem bt_01 (x j : Nat) : bt x j = 0 ∨ bt x j = 1 := by
  unfold bt
  have : x / 2 ^ j % 2 < 2 := Nat.mod_lt _ (by decide)
  omega
abbrev bD (o u : Int) : List (PyData × PyData) := [(.str "and", .int (o * u)), (.str "or", .int (max o u)), (.str "xor", .int ((o + u) % 2))]
theorem dv (o u : Int) (cs : List Cell) : dispK [(.d (.str "and"), .d (.int (o * u))), (.d (.str "or"), .d (.int (max o u))), (.d (.str "xor"), .d (.int ((o + u) % 2)))] cs = some (.ok (.d (.dict (bD o u))) cs) := dispK_of rfl (show 3 ≤ 15 by decide) (by simp [bD])
theorem bits_body (kd : Str) (x y f o u r p j : Int) (l2 l3 l4 : Option W) (hp : F__law_power [.d (.int j)] [] = some (.ok (.d (.int p)) []))
  (d1 : fDiv (.int x) (.int p) = some (.int (x / p))) (d2 : fDiv (.int y) (.int p) = some (.int (y / p))) (ex : x / p % 2 = o) (ey : y / p % 2 = u) (mm : fMul (.int o) (.int u) = some (.int (o * u))) (mr : fMul (.int r) (.int p) = some (.int (r * p)))
  (hvv : valD (bD o u) (Sum.inr kd) = some (.int r)) :
  b__law_bits_1 [some (.d (.str kd)), some (.d (.int x)), some (.d (.int y)), some (.d (.int f)), some (.d (.int j)), l2, l3, l4] [] = some (.nx [some (.d (.str kd)), some (.d (.int x)), some (.d (.int y)), some (.d (.int (f + r * p))), some (.d (.int j)), some (.d (.int o)), some (.d (.int u)), some (.d (.int r))] []) := by
  simp (disch := omega) [b__law_bits_1, hp, d1, d2, fMod_p, ex, ey, mm, dv, hvv, mr]
theorem lpower_nat (j : Nat) (hj : j < 32) (cs : List Cell) : ∃ p : Int, F__law_power [.d (.int (j : Int))] cs = some (.ok (.d (.int p)) cs) ∧ p = ((2 ^ j : Nat) : Int) ∧ 0 < p ∧ p < 4294967296 := by
  obtain ⟨p, hp, hp2, hp0, hp1⟩ := lpower_ok (j : Int) (by omega) (by omega) cs
  refine ⟨p, hp, ?_, hp0, hp1⟩
  rw [hp2, Int.toNat_natCast]
  simp
theorem lbits_fin (kd : Str) (x y : Int) (f : Int) (l1 l2 l3 l4 : Option W) (e1 : mLoop (gN 4) b__law_bits_1 (rgW 0 32) [some (.d (.str kd)), some (.d (.int x)), some (.d (.int y)), some (.d (.int 0)), none, none, none, none] [] = some (.nx [some (.d (.str kd)), some (.d (.int x)), some (.d (.int y)), some (.d (.int f)), l1, l2, l3, l4] [])) :
    runF 8 m__law_bits [.d (.str kd), .d (.int x), .d (.int y)] [] = some (.ok (.d (.int f)) []) := by
  have rg : ∀ cs, rgL1 [.d (.int 32)] cs = some (.ok (rgW 0 32) cs) := fun cs => rgL1_of (n := 32) (by decide)
  simp [m__law_bits, rg, e1, -rgL1_e]
theorem lbits_pure (kd : Str) (x y : Int) (d : PyData) (cs : List Cell) (h : runF 8 m__law_bits [.d (.str kd), .d (.int x), .d (.int y)] [] = some (.ok (.d d) [])) : F__law_bits [.d (.str kd), .d (.int x), .d (.int y)] cs = some (.ok (.d d) cs) :=
  pureF_ok (ds := [.str kd, .int x, .int y]) (cs1 := []) h
theorem lbits_gen (kd : Str) (x y : Nat) (g : Nat → Int) (op : Int → Int → Int) (hv : ∀ o u : Int, valD (bD o u) (Sum.inr kd) = some (.int (op o u))) (hb : ∀ o u : Int, (o = 0 ∨ o = 1) → (u = 0 ∨ u = 1) → 0 ≤ op o u ∧ op o u ≤ 1)
    (h0 : g 0 = 0) (hs : ∀ j : Nat, j < 32 → ∀ p : Int, p = ((2 ^ j : Nat) : Int) → g (j + 1) = g j + op (bt x j) (bt y j) * p) (cs : List Cell) : F__law_bits [.d (.str kd), .d (.int (x : Int)), .d (.int (y : Int))] cs = some (.ok (.d (.int (g 32))) cs) := by
  refine lbits_pure kd x y _ cs ?_
  have hloop : ∃ s' cs', mLoop (gN 4) b__law_bits_1 (rgW 0 32) [some (.d (.str kd)), some (.d (.int x)), some (.d (.int y)), some (.d (.int 0)), none, none, none, none] [] = some (.nx s' cs') ∧
      ∃ l1 l2 l3 l4 f, s' = [some (.d (.str kd)), some (.d (.int x)), some (.d (.int y)), some (.d (.int f)), l1, l2, l3, l4] ∧ cs' = [] ∧ f = g 32 := by
    obtain ⟨s', cs', h1, h2⟩ := mLoop_inv (g := gN 4) (b := b__law_bits_1) (fun j s cs => ∃ l1 l2 l3 l4 f, s = [some (.d (.str kd)), some (.d (.int x)), some (.d (.int y)), some (.d (.int f)), l1, l2, l3, l4] ∧ cs = [] ∧ f = g j) (rgW 0 32) 0 _ _ ⟨none, none, none, none, 0, rfl, rfl, h0.symm⟩ fun j w s cs hw hI => by
      obtain ⟨l1, l2, l3, l4, f, rfl, rfl, hf⟩ := hI
      obtain ⟨hj, rfl⟩ := rgW_at hw
      obtain ⟨p, hp, hp2, hp0, hp1⟩ := lpower_nat j hj []
      obtain ⟨o, ho⟩ : ∃ o, o = bt x j := ⟨_, rfl⟩
      obtain ⟨u, hu⟩ : ∃ u, u = bt y j := ⟨_, rfl⟩
      have ho1 : o = 0 ∨ o = 1 := by rw [ho]; exact bt_01 x j
      have hu1 : u = 0 ∨ u = 1 := by rw [hu]; exact bt_01 y j
      have key : ∀ z q : Nat, (z : Int) / (q : Int) % 2 = ((z / q % 2 : Nat) : Int) := fun z q => by rw [Int.natCast_emod, Int.natCast_ediv]; rfl
      have ex : (x : Int) / p % 2 = o := by rw [ho, hp2]; exact key x (2 ^ j)
      have ey : (y : Int) / p % 2 = u := by rw [hu, hp2]; exact key y (2 ^ j)
      obtain ⟨r, hr⟩ : ∃ r, r = op o u := ⟨_, rfl⟩
      have hr2 := hb o u ho1 hu1
      rw [← hr] at hr2
      have hvv := hv o u
      rw [← hr] at hvv
      have d1 : fDiv (.int x) (.int p) = some (.int (x / p)) := fDiv_s hp0 (by omega)
      have d2 : fDiv (.int y) (.int p) = some (.int (y / p)) := fDiv_s hp0 (by omega)
      have mm : fMul (.int o) (.int u) = some (.int (o * u)) := fMul_l (by omega) (by omega)
      have mr : fMul (.int r) (.int p) = some (.int (r * p)) := fMul_l (by omega) (by omega)
      refine ⟨_, rfl, [some (.d (.str kd)), some (.d (.int x)), some (.d (.int y)), some (.d (.int (f + r * p))), some (.d (.int (0 + (j : Int)))), some (.d (.int o)), some (.d (.int u)), some (.d (.int r))], [], .inl ?_, _, _, _, _, _, rfl, rfl, ?_⟩
      · exact bits_body kd x y f o u r p (0 + (j : Int)) l2 l3 l4 (by rw [Int.zero_add]; exact hp) d1 d2 ex ey mm mr hvv
      · have e1 : 0 + j + 1 = j + 1 := by omega
        have e2 : 0 + j = j := by omega
        rw [e2] at hf
        rw [e1, hs j hj p hp2, hf, hr, ho, hu]
    refine ⟨s', cs', h1, ?_⟩
    rw [rgW_len, Nat.zero_add] at h2
    exact h2
  obtain ⟨s', cs', e1, l1, l2, l3, l4, f, rfl, rfl, hf⟩ := hloop
  rw [← hf]
  exact lbits_fin kd x y f l1 l2 l3 l4 e1
theorem tb (x j : Nat) : x / 2 ^ j % 2 = (x.testBit j).toNat := (Nat.toNat_testBit x j).symm
theorem and_bit (x y j : Nat) : (x &&& y) / 2 ^ j % 2 = (x / 2 ^ j % 2) * (y / 2 ^ j % 2) := by
  rw [tb, tb, tb, Nat.testBit_and]
  cases x.testBit j <;> cases y.testBit j <;> rfl
theorem or_bit (x y j : Nat) : (x ||| y) / 2 ^ j % 2 = max (x / 2 ^ j % 2) (y / 2 ^ j % 2) := by
  rw [tb, tb, tb, Nat.testBit_or]
  cases x.testBit j <;> cases y.testBit j <;> rfl
theorem gstep {z : Nat} (j : Nat) (p : Int) (hp : p = ((2 ^ j : Nat) : Int)) : ((z % 2 ^ (j + 1) : Nat) : Int) = ((z % 2 ^ j : Nat) : Int) + bt z j * p := by
  rw [Nat.mod_pow_succ, hp]
  unfold bt
  rw [Nat.mul_comm]
  simp only [Int.natCast_add, Int.natCast_mul]
theorem and_ok (x y : Nat) (hx : x < 4294967296) (cs : List Cell) : F__law_bits [.d (.str "and"), .d (.int (x : Int)), .d (.int (y : Int))] cs = some (.ok (.d (.int (Builtin.bitAnd x y))) cs) := by
  have h := lbits_gen "and" x y (fun j => (((x &&& y) % 2 ^ j : Nat) : Int)) (fun o u => o * u) (fun o u => by simp [bD, ofString_inj]) (fun o u ho hu => by rcases ho with rfl | rfl <;> rcases hu with rfl | rfl <;> decide) (by simp [Nat.mod_one]) (fun j hj p hp => by
    show _ = _ + (bt x j * bt y j) * _
    rw [gstep j p hp]
    have : bt (x &&& y) j = bt x j * bt y j := by
      unfold bt
      rw [and_bit]
      simp only [Int.natCast_mul]
    rw [this]) cs
  rw [h]
  have e : (x &&& y) % 2 ^ 32 = x &&& y := Nat.mod_eq_of_lt (Nat.lt_of_le_of_lt Nat.and_le_left hx)
  show some (Rs.ok (W.d (.int (((x &&& y) % 2 ^ 32 : Nat) : Int))) cs) = _
  rw [e]
  rfl
theorem or_lt (x y : Nat) (hx : x < 4294967296) (hy : y < 4294967296) : x ||| y < 2 ^ 32 := Nat.or_lt_two_pow (n := 32) hx hy
theorem bitOr_nat (x y : Nat) : Builtin.bitOr x y = ((x ||| y : Nat) : Int) := by
  unfold Builtin.bitOr
  have h1 : Builtin.bitNot (x : Int) < 0 := by unfold Builtin.bitNot; omega
  have h2 : Builtin.bitNot (y : Int) < 0 := by unfold Builtin.bitNot; omega
  unfold Builtin.bitAnd
  rw [decide_eq_false (by omega), decide_eq_false (by omega)]
  have n1 : Builtin.bitNot (Builtin.bitNot (x : Int)) = x := by unfold Builtin.bitNot; omega
  have n2 : Builtin.bitNot (Builtin.bitNot (y : Int)) = y := by unfold Builtin.bitNot; omega
  simp only [n1, n2]
  unfold Builtin.bitNot
  simp only [Int.toNat_natCast]
  omega
theorem or_ok (x y : Nat) (hx : x < 4294967296) (hy : y < 4294967296) (cs : List Cell) : F__law_bits [.d (.str "or"), .d (.int (x : Int)), .d (.int (y : Int))] cs = some (.ok (.d (.int (Builtin.bitOr x y))) cs) := by
  have h := lbits_gen "or" x y (fun j => (((x ||| y) % 2 ^ j : Nat) : Int)) (fun o u => max o u) (fun o u => by simp [bD, ofString_inj]) (fun o u ho hu => by rcases ho with rfl | rfl <;> rcases hu with rfl | rfl <;> decide) (by simp [Nat.mod_one]) (fun j hj p hp => by
    show _ = _ + (max (bt x j) (bt y j)) * _
    rw [gstep j p hp]
    have : bt (x ||| y) j = max (bt x j) (bt y j) := by
      unfold bt
      rw [or_bit]
      omega
    rw [this]) cs
  rw [h, bitOr_nat]
  show some (Rs.ok (W.d (.int (((x ||| y) % 2 ^ 32 : Nat) : Int))) cs) = _
  rw [Nat.mod_eq_of_lt (or_lt x y hx hy)]
theorem xor_ok (x y : Nat) (hx : x < 4294967296) (hy : y < 4294967296) (cs : List Cell) : F__law_bits [.d (.str "xor"), .d (.int (x : Int)), .d (.int (y : Int))] cs = some (.ok (.d (.int (Builtin.bitXor x y))) cs) := by
  have h := lbits_gen "xor" x y (fun j => (((x ||| y) % 2 ^ j : Nat) : Int) - (((x &&& y) % 2 ^ j : Nat) : Int)) (fun o u => (o + u) % 2) (fun o u => by simp [bD, ofString_inj]) (fun o u ho hu => by rcases ho with rfl | rfl <;> rcases hu with rfl | rfl <;> decide) (by simp [Nat.mod_one]) (fun j hj p hp => by
    show _ - _ = _ + ((bt x j + bt y j) % 2) * _
    rw [gstep j p hp, gstep j p hp]
    have : bt (x ||| y) j - bt (x &&& y) j = (bt x j + bt y j) % 2 := by
      unfold bt
      rw [or_bit, and_bit]
      have a1 : x / 2 ^ j % 2 = 0 ∨ x / 2 ^ j % 2 = 1 := by have : x / 2 ^ j % 2 < 2 := Nat.mod_lt _ (by decide); omega
      have a2 : y / 2 ^ j % 2 = 0 ∨ y / 2 ^ j % 2 = 1 := by have : y / 2 ^ j % 2 < 2 := Nat.mod_lt _ (by decide); omega
      rcases a1 with a1 | a1 <;> rcases a2 with a2 | a2 <;> rw [a1, a2] <;> decide
    rw [← this, Int.sub_mul]
    omega) cs
  rw [h]
  show some (Rs.ok (W.d (.int ((((x ||| y) % 2 ^ 32 : Nat) : Int) - (((x &&& y) % 2 ^ 32 : Nat) : Int)))) cs) = _
  rw [Nat.mod_eq_of_lt (or_lt x y hx hy), Nat.mod_eq_of_lt (Nat.lt_of_le_of_lt Nat.and_le_left hx : x &&& y < 2 ^ 32)]
  unfold Builtin.bitXor
  rw [bitOr_nat]
  rfl
end Pg
namespace Pg
open PySem PySem.Spec PyProof.Rows L2 Sm
/-! ### what each kind of work makes -/
abbrev Agree (kd : Str) (a b : Int) : Prop := ∃ r : Int, F_apply [.d (.str kd), .d (.int a), .d (.int b)] [] = some (.ok (.d (.int r)) []) ∧ F__law_due [.d (.str kd), .d (.int a), .d (.int b)] [] = some (.ok (.d (.int r)) [])
theorem pure_cs {F : List W → List Cell → Option (Rs W)} {ds : List PyData} {d : PyData} {cs : List Cell} (h : pureF F (ds.map .d) [] = some (.ok (.d d) [])) : pureF F (ds.map .d) cs = some (.ok (.d d) cs) := by
  unfold pureF at h ⊢
  rw [toD_of] at h ⊢
  simp only at h ⊢
  split at h
  · rename_i d' cs1 e
    cases h
    rfl
  · cases h
section
variable {a b : Int} (ha : 0 ≤ a ∧ a < 4294967296) (hb : 0 ≤ b ∧ b < 4294967296)
include ha hb
theorem sg_b : -2147483648 ≤ sg a ∧ sg a < 2147483648 := by unfold sg; split <;> omega
theorem apply_run (kd : Str) (d : PyData) (h : runF 3 m_apply [.d (.str kd), .d (.int a), .d (.int b)] [] = some (.ok (.d d) [])) : F_apply [.d (.str kd), .d (.int a), .d (.int b)] [] = some (.ok (.d d) []) := pureF_ok (ds := [.str kd, .int a, .int b]) (cs1 := []) h
theorem due_run (kd : Str) (d : PyData) (h : runF 10 m__law_due [.d (.str kd), .d (.int a), .d (.int b)] [] = some (.ok (.d d) [])) : F__law_due [.d (.str kd), .d (.int a), .d (.int b)] [] = some (.ok (.d d) []) := pureF_ok (ds := [.str kd, .int a, .int b]) (cs1 := []) h
/-- the plain kinds: the table of what is due -/
theorem due_plain (kd : Str) (r : Int) (p : Int) (hp : F__law_power [.d (.int (b % 32))] [] = some (.ok (.d (.int p)) [])) (hp0 : 0 < p) (hp1 : p < 4294967296)
    (h1 : anyD [.str "and", .str "or", .str "xor"] (.str kd) = false) (h2 : anyD [.str "divs", .str "divu", .str "rems", .str "remu"] (.str kd) = false)
    (hv : valD [(.str "add", .int (sg a + sg b)), (.str "sub", .int (sg a - sg b)), (.str "mul", .int (sg a * sg b)), (.str "shl", .int (a * p)), (.str "shr", .int (a / p)), (.str "sar", .int (sg a / p)), (.str "lts", .int (if decide (sg a < sg b) = true then 1 else 0)), (.str "ltu", .int (if decide (a < b) = true then 1 else 0)), (.str "eq", .int (if (a == b) = true then 1 else 0))] (Sum.inr kd) = some (.int r)) :
    F__law_due [.d (.str kd), .d (.int a), .d (.int b)] [] = some (.ok (.d (.int (r % 4294967296))) []) := by
  refine due_run ha hb kd _ ?_
  have sa := sg_b ha hb
  have m1 : fMul (.int (sg a)) (.int (sg b)) = some (.int (sg a * sg b)) := fMul_l (by omega) (by omega)
  have m2 : fMul (.int a) (.int p) = some (.int (a * p)) := fMul_l (by omega) (by omega)
  have d1 : fDiv (.int a) (.int p) = some (.int (a / p)) := fDiv_s hp0 (by omega)
  have d2 : fDiv (.int (sg a)) (.int p) = some (.int (sg a / p)) := fDiv_s hp0 (by omega)
  generalize hx : sg a = x at *
  generalize hy : sg b = y at *
  have e1 : ∀ cs, F__law_signed [.d (.int a)] cs = some (.ok (.d (.int x)) cs) := fun cs => by rw [lsigned_ok, hx]
  have e2 : ∀ cs, F__law_signed [.d (.int b)] cs = some (.ok (.d (.int y)) cs) := fun cs => by rw [lsigned_ok, hy]
  have i1 : ∀ cs, fIn2 false (.d (.str kd)) (.d (.tuple [.str "and", .str "or", .str "xor"])) cs = some (.ok (.d (.bool false)) cs) := fun cs => by rw [fIn2_tup ⟨rfl, rfl⟩, h1]; rfl
  have i2 : ∀ cs, fIn2 false (.d (.str kd)) (.d (.tuple [.str "divs", .str "divu", .str "rems", .str "remu"])) cs = some (.ok (.d (.bool false)) cs) := fun cs => by rw [fIn2_tup ⟨rfl, rfl⟩, h2]; rfl
  cases c1 : decide (x < y) <;> cases c2 : decide (a < b) <;> cases c3 : (a == b) <;>
    (simp only [c1, c2, c3, if_true, if_false, Bool.false_eq_true] at hv
     simp (disch := omega) only [m__law_due, e1, e2, fMod_p, hp, mkT_e, tupK_s, szl, i1, i2, m1, m2, d1, d2, dispK_e, dispR_s, hv, p2_32, c1, c2, c3, runF_e, mSeq_e, mPar3_e, mCons_e, mDef_e, mNil_e, mV_0, mV_s, mC_e, bnd_ok, bndS_ok, m2_e, dd2_e, ret?_s, seqK_nx, seqK_rt, mIfS_e, mTs_e, mCall_e, toD_c, toD_nil, Option.map_some, asB_b, retB_s, if_true, if_false, Bool.false_eq_true, mSkip_e, mAsg_e, mDisp_e, mPairs_cons, mPairs_nil, fAdd_i, fI_t, mIf_e, fB_e, fEq_e, eqD_i, toKV_cons, toKV_nil, mRet_e, fIx2_dict_s, okW_s, endF_rt, List.map_cons, List.map_nil, List.length_cons, List.length_nil, List.set_cons_zero, List.set_cons_succ, List.replicate, List.cons_append, List.nil_append, Nat.reduceAdd, Nat.reduceSub, Nat.reduceLeDiff, okKeys_cons, okKeys_nil, keyOf_s, List.all_cons, List.all_nil, Option.isSome_some, Option.some.injEq, Sum.inr.injEq, ofString_inj, String.reduceEq, decide_false, Bool.not_false, Bool.and_self, Bool.and_true, and_self])
end
end Pg
namespace Pg
open PySem PySem.Spec PyProof.Rows L2 Sm
theorem in_t (kd : Str) (ks : List PyData) (v : Bool) (hf : ks.all flatD = true) (h : anyD ks (.str kd) = v) (cs : List Cell) : fIn2 false (.d (.str kd)) (.d (.tuple ks)) cs = some (.ok (.d (.bool v)) cs) := by rw [fIn2_tup ⟨rfl, hf⟩, h]; rfl
section
variable {a b : Int} (ha : 0 ≤ a ∧ a < 4294967296) (hb : 0 ≤ b ∧ b < 4294967296)
include ha hb
theorem ag_add : Agree (.ofString "add") a b := by
  obtain ⟨p, hp, hp2, h0, h1⟩ := lpower_ok (b % 32) (by omega) (by omega) []
  refine ⟨(a + b) % 4294967296, apply_run ha hb _ _ (by simp [m_apply, word_of_ok]), ?_⟩
  have e := due_plain ha hb (.ofString "add") (sg a + sg b) p hp h0 h1 (by decide +kernel) (by decide +kernel) (by rfl)
  rw [e]
  have : (sg a + sg b) % 4294967296 = (a + b) % 4294967296 := by unfold sg; split <;> split <;> omega
  rw [this]
theorem ag_sub : Agree (.ofString "sub") a b := by
  obtain ⟨p, hp, hp2, h0, h1⟩ := lpower_ok (b % 32) (by omega) (by omega) []
  refine ⟨(a - b) % 4294967296, apply_run ha hb _ _ (by simp [m_apply, word_of_ok]), ?_⟩
  have e := due_plain ha hb (.ofString "sub") (sg a - sg b) p hp h0 h1 (by decide +kernel) (by decide +kernel) (by rfl)
  rw [e]
  have : (sg a - sg b) % 4294967296 = (a - b) % 4294967296 := by unfold sg; split <;> split <;> omega
  rw [this]
theorem sg_mod (a : Int) : sg a % 4294967296 = a % 4294967296 := by unfold sg; split <;> omega
theorem ag_mul : Agree (.ofString "mul") a b := by
  obtain ⟨p, hp, hp2, h0, h1⟩ := lpower_ok (b % 32) (by omega) (by omega) []
  have m : fMul (.int a) (.int b) = some (.int (a * b)) := fMul_l (by omega) (by omega)
  refine ⟨(a * b) % 4294967296, apply_run ha hb _ _ (by simp [m_apply, word_of_ok, m]), ?_⟩
  have e := due_plain ha hb (.ofString "mul") (sg a * sg b) p hp h0 h1 (by decide +kernel) (by decide +kernel) (by rfl)
  rw [e]
  have : (sg a * sg b) % 4294967296 = (a * b) % 4294967296 := by
    rw [Int.mul_emod, sg_mod ha hb, sg_mod ha hb, ← Int.mul_emod]
  rw [this]
theorem due_bits (kd : Str) (h1 : anyD [.str "and", .str "or", .str "xor"] (.str kd) = true) (r : Int) (h : F__law_bits [.d (.str kd), .d (.int a), .d (.int b)] [] = some (.ok (.d (.int r)) [])) : F__law_due [.d (.str kd), .d (.int a), .d (.int b)] [] = some (.ok (.d (.int r)) []) := by
  obtain ⟨p, hp, hp2, h0, h1'⟩ := lpower_ok (b % 32) (by omega) (by omega) []
  have i := in_t kd [.str "and", .str "or", .str "xor"] true rfl h1
  exact due_run ha hb kd _ (by simp (disch := omega) [m__law_due, lsigned_ok, fMod_p, hp, i, h, mkT_e, tupK_s, szl])
theorem apply_and : F_apply [.d (.str (.ofString "and")), .d (.int a), .d (.int b)] [] = some (.ok (.d (.int (Builtin.bitAnd a b))) []) := apply_run ha hb _ _ (by simp [m_apply])
theorem ag_and : Agree (.ofString "and") a b := by
  obtain ⟨x, rfl⟩ := Int.eq_ofNat_of_zero_le ha.1
  obtain ⟨y, rfl⟩ := Int.eq_ofNat_of_zero_le hb.1
  exact ⟨Builtin.bitAnd x y, apply_and ha hb, due_bits ha hb _ (by decide +kernel) _ (and_ok x y (by omega) [])⟩
theorem apply_or : F_apply [.d (.str (.ofString "or")), .d (.int a), .d (.int b)] [] = some (.ok (.d (.int (Builtin.bitOr a b))) []) := apply_run ha hb _ _ (by simp [m_apply])
theorem ag_or : Agree (.ofString "or") a b := by
  obtain ⟨x, rfl⟩ := Int.eq_ofNat_of_zero_le ha.1
  obtain ⟨y, rfl⟩ := Int.eq_ofNat_of_zero_le hb.1
  exact ⟨Builtin.bitOr x y, apply_or ha hb, due_bits ha hb _ (by decide +kernel) _ (or_ok x y (by omega) (by omega) [])⟩
theorem apply_xor : F_apply [.d (.str (.ofString "xor")), .d (.int a), .d (.int b)] [] = some (.ok (.d (.int (Builtin.bitXor a b))) []) := apply_run ha hb _ _ (by simp [m_apply])
theorem ag_xor : Agree (.ofString "xor") a b := by
  obtain ⟨x, rfl⟩ := Int.eq_ofNat_of_zero_le ha.1
  obtain ⟨y, rfl⟩ := Int.eq_ofNat_of_zero_le hb.1
  exact ⟨Builtin.bitXor x y, apply_xor ha hb, due_bits ha hb _ (by decide +kernel) _ (xor_ok x y (by omega) (by omega) [])⟩
/-! ### shifts and orders -/
theorem shifted_run (kd : Str) (d : PyData) (h : runF 4 m_shifted [.d (.str kd), .d (.int a), .d (.int b)] [] = some (.ok (.d d) [])) (cs : List Cell) : F_shifted [.d (.str kd), .d (.int a), .d (.int b)] cs = some (.ok (.d d) cs) := pureF_ok (ds := [.str kd, .int a, .int b]) (cs1 := []) h
theorem compared_run (kd : Str) (d : PyData) (h : runF 3 m_compared [.d (.str kd), .d (.int a), .d (.int b)] [] = some (.ok (.d d) [])) (cs : List Cell) : F_compared [.d (.str kd), .d (.int a), .d (.int b)] cs = some (.ok (.d d) cs) := pureF_ok (ds := [.str kd, .int a, .int b]) (cs1 := []) h
theorem divided_run (kd : Str) (d : PyData) (h : runF 6 m_divided [.d (.str kd), .d (.int a), .d (.int b)] [] = some (.ok (.d d) [])) (cs : List Cell) : F_divided [.d (.str kd), .d (.int a), .d (.int b)] cs = some (.ok (.d d) cs) := pureF_ok (ds := [.str kd, .int a, .int b]) (cs1 := []) h
theorem apply_sh (kd : Str) (r : Int) (h0 : anyD [.str "shl", .str "shr", .str "sar"] (.str kd) = true) (hn : kd ≠ .ofString "add" ∧ kd ≠ .ofString "sub" ∧ kd ≠ .ofString "mul" ∧ kd ≠ .ofString "and" ∧ kd ≠ .ofString "or" ∧ kd ≠ .ofString "xor")
    (h : ∀ cs, F_shifted [.d (.str kd), .d (.int a), .d (.int b)] cs = some (.ok (.d (.int r)) cs)) : F_apply [.d (.str kd), .d (.int a), .d (.int b)] [] = some (.ok (.d (.int r)) []) := by
  obtain ⟨n1, n2, n3, n4, n5, n6⟩ := hn
  have i := in_t kd [.str "shl", .str "shr", .str "sar"] true rfl h0
  exact apply_run ha hb kd _ (by simp [m_apply, n1, n2, n3, n4, n5, n6, i, h, mkT_e, tupK_s, szl])
theorem apply_cm (kd : Str) (r : Int) (h00 : anyD [.str "shl", .str "shr", .str "sar"] (.str kd) = false) (h0 : anyD [.str "lts", .str "ltu", .str "eq"] (.str kd) = true) (hn : kd ≠ .ofString "add" ∧ kd ≠ .ofString "sub" ∧ kd ≠ .ofString "mul" ∧ kd ≠ .ofString "and" ∧ kd ≠ .ofString "or" ∧ kd ≠ .ofString "xor")
    (h : ∀ cs, F_compared [.d (.str kd), .d (.int a), .d (.int b)] cs = some (.ok (.d (.int r)) cs)) : F_apply [.d (.str kd), .d (.int a), .d (.int b)] [] = some (.ok (.d (.int r)) []) := by
  obtain ⟨n1, n2, n3, n4, n5, n6⟩ := hn
  have i0 := in_t kd [.str "shl", .str "shr", .str "sar"] false rfl h00
  have i := in_t kd [.str "lts", .str "ltu", .str "eq"] true rfl h0
  exact apply_run ha hb kd _ (by simp [m_apply, n1, n2, n3, n4, n5, n6, i, i0, h, mkT_e, tupK_s, szl])
theorem apply_dv (kd : Str) (r : Int) (h00 : anyD [.str "shl", .str "shr", .str "sar"] (.str kd) = false) (h0 : anyD [.str "lts", .str "ltu", .str "eq"] (.str kd) = false) (hn : kd ≠ .ofString "add" ∧ kd ≠ .ofString "sub" ∧ kd ≠ .ofString "mul" ∧ kd ≠ .ofString "and" ∧ kd ≠ .ofString "or" ∧ kd ≠ .ofString "xor")
    (h : ∀ cs, F_divided [.d (.str kd), .d (.int a), .d (.int b)] cs = some (.ok (.d (.int r)) cs)) : F_apply [.d (.str kd), .d (.int a), .d (.int b)] [] = some (.ok (.d (.int r)) []) := by
  obtain ⟨n1, n2, n3, n4, n5, n6⟩ := hn
  have i0 := in_t kd [.str "shl", .str "shr", .str "sar"] false rfl h00
  have i := in_t kd [.str "lts", .str "ltu", .str "eq"] false rfl h0
  exact apply_run ha hb kd _ (by simp [m_apply, n1, n2, n3, n4, n5, n6, i, i0, h, mkT_e, tupK_s, szl])
end
end Pg
namespace Pg
open PySem PySem.Spec PyProof.Rows L2 Sm
section
variable {a b : Int} (ha : 0 ≤ a ∧ a < 4294967296) (hb : 0 ≤ b ∧ b < 4294967296)
include ha hb
theorem shl_c {i j : Int} (h0 : 0 ≤ i ∧ i < 4294967296) (h : 0 ≤ j ∧ j < 32) : fShl (.int i) (.int j) = some (.int (i * 2 ^ j.toNat)) := fShl_c (decide_eq_true ⟨h.1, by omega, by omega⟩)
theorem shifted_shl (p : Int) (hp : p = 2 ^ (b % 32).toNat) (cs : List Cell) : F_shifted [.d (.str (.ofString "shl")), .d (.int a), .d (.int b)] cs = some (.ok (.d (.int (a * p % 4294967296))) cs) := by
  have h1 : fShl (.int a) (.int (b % 32)) = some (.int (a * p)) := by rw [hp]; exact shl_c ha hb ha (by omega)
  clear hp
  exact shifted_run ha hb _ _ (by simp (disch := omega) [m_shifted, fMod_p, h1, word_of_ok]) cs
theorem shifted_shr (p : Int) (hp : p = 2 ^ (b % 32).toNat) (cs : List Cell) : F_shifted [.d (.str (.ofString "shr")), .d (.int a), .d (.int b)] cs = some (.ok (.d (.int (a / p))) cs) := by
  have h1 : fShr (.int a) (.int (b % 32)) = some (.int (a / p)) := by rw [hp]; exact fShr_c (by omega)
  clear hp
  exact shifted_run ha hb _ _ (by simp (disch := omega) [m_shifted, fMod_p, h1, word_of_ok]) cs
theorem shifted_sar (p : Int) (hp : p = 2 ^ (b % 32).toNat) (cs : List Cell) : F_shifted [.d (.str (.ofString "sar")), .d (.int a), .d (.int b)] cs = some (.ok (.d (.int (sg a / p % 4294967296))) cs) := by
  have h1 : fShr (.int (sg a)) (.int (b % 32)) = some (.int (sg a / p)) := by rw [hp]; exact fShr_c (by omega)
  clear hp
  exact shifted_run ha hb _ _ (by simp (disch := omega) [m_shifted, fMod_p, h1, word_of_ok, signed_ok]) cs
theorem ag_shl : Agree (.ofString "shl") a b := by
  obtain ⟨p, hp, hp2, h0, h1⟩ := lpower_ok (b % 32) (by omega) (by omega) []
  exact ⟨_, apply_sh ha hb _ _ (by decide +kernel) (by decide +kernel) (shifted_shl ha hb p hp2), due_plain ha hb _ _ p hp h0 h1 (by decide +kernel) (by decide +kernel) (by rfl)⟩
theorem ag_shr : Agree (.ofString "shr") a b := by
  obtain ⟨p, hp, hp2, h0, h1⟩ := lpower_ok (b % 32) (by omega) (by omega) []
  have e : a / p % 4294967296 = a / p := Int.emod_eq_of_lt (Int.ediv_nonneg ha.1 (by omega)) (Int.lt_of_le_of_lt (Int.ediv_le_self p ha.1) ha.2)
  have q := due_plain ha hb (.ofString "shr") (a / p) p hp h0 h1 (by decide +kernel) (by decide +kernel) (by rfl)
  rw [e] at q
  exact ⟨_, apply_sh ha hb _ _ (by decide +kernel) (by decide +kernel) (shifted_shr ha hb p hp2), q⟩
theorem ag_sar : Agree (.ofString "sar") a b := by
  obtain ⟨p, hp, hp2, h0, h1⟩ := lpower_ok (b % 32) (by omega) (by omega) []
  exact ⟨_, apply_sh ha hb _ _ (by decide +kernel) (by decide +kernel) (shifted_sar ha hb p hp2), due_plain ha hb _ _ p hp h0 h1 (by decide +kernel) (by decide +kernel) (by rfl)⟩
theorem cmp_lts (cs : List Cell) : F_compared [.d (.str (.ofString "lts")), .d (.int a), .d (.int b)] cs = some (.ok (.d (.int (if decide (sg a < sg b) = true then 1 else 0))) cs) := by
  refine compared_run ha hb _ _ ?_ cs
  by_cases h : sg a < sg b
  · simp [m_compared, signed_ok, h]
  · simp [m_compared, signed_ok, h]
theorem cmp_ltu (cs : List Cell) : F_compared [.d (.str (.ofString "ltu")), .d (.int a), .d (.int b)] cs = some (.ok (.d (.int (if decide (a < b) = true then 1 else 0))) cs) := by
  refine compared_run ha hb _ _ ?_ cs
  by_cases h : a < b
  · simp [m_compared, h]
  · simp [m_compared, h]
theorem cmp_eq (cs : List Cell) : F_compared [.d (.str (.ofString "eq")), .d (.int a), .d (.int b)] cs = some (.ok (.d (.int (if (a == b) = true then 1 else 0))) cs) := by
  refine compared_run ha hb _ _ ?_ cs
  by_cases h : a = b
  · simp [m_compared, h]
  · simp [m_compared, h]
theorem m01 (c : Bool) : (if c = true then (1 : Int) else 0) % 4294967296 = if c = true then 1 else 0 := by cases c <;> rfl
theorem ag_lts : Agree (.ofString "lts") a b := by
  obtain ⟨p, hp, hp2, h0, h1⟩ := lpower_ok (b % 32) (by omega) (by omega) []
  have q := due_plain ha hb (.ofString "lts") (if decide (sg a < sg b) = true then 1 else 0) p hp h0 h1 (by decide +kernel) (by decide +kernel) (by rfl)
  rw [m01 ha hb] at q
  exact ⟨_, apply_cm ha hb _ _ (by decide +kernel) (by decide +kernel) (by decide +kernel) (cmp_lts ha hb), q⟩
theorem ag_ltu : Agree (.ofString "ltu") a b := by
  obtain ⟨p, hp, hp2, h0, h1⟩ := lpower_ok (b % 32) (by omega) (by omega) []
  have q := due_plain ha hb (.ofString "ltu") (if decide (a < b) = true then 1 else 0) p hp h0 h1 (by decide +kernel) (by decide +kernel) (by rfl)
  rw [m01 ha hb] at q
  exact ⟨_, apply_cm ha hb _ _ (by decide +kernel) (by decide +kernel) (by decide +kernel) (cmp_ltu ha hb), q⟩
theorem ag_eq : Agree (.ofString "eq") a b := by
  obtain ⟨p, hp, hp2, h0, h1⟩ := lpower_ok (b % 32) (by omega) (by omega) []
  have q := due_plain ha hb (.ofString "eq") (if (a == b) = true then 1 else 0) p hp h0 h1 (by decide +kernel) (by decide +kernel) (by rfl)
  rw [m01 ha hb] at q
  exact ⟨_, apply_cm ha hb _ _ (by decide +kernel) (by decide +kernel) (by decide +kernel) (cmp_eq ha hb), q⟩
end
end Pg
namespace Pg
open PySem PySem.Spec PyProof.Rows L2 Sm
theorem q_c1s : fIx2 (.d (.str (.ofString "divs"))) (.d (.int 3)) cs = some (.ok (.d (.str (.ofString "s"))) cs) := by rfl
theorem q_c1u : fIx2 (.d (.str (.ofString "divu"))) (.d (.int 3)) cs = some (.ok (.d (.str (.ofString "u"))) cs) := by rfl
theorem q_c2s : fIx2 (.d (.str (.ofString "rems"))) (.d (.int 3)) cs = some (.ok (.d (.str (.ofString "s"))) cs) := by rfl
theorem q_c2u : fIx2 (.d (.str (.ofString "remu"))) (.d (.int 3)) cs = some (.ok (.d (.str (.ofString "u"))) cs) := by rfl
theorem q_s (k : Str) (v : Str) (h : k.length ≤ 16) (hv : cutS k none (some 3) = v) : fSl (.d (.str k)) none (some 3) cs = some (.ok (.d (.str v)) cs) := by
  show (if k.length ≤ sizeLine then some (Rs.ok (W.d (.str (cutS k none (some 3)))) cs) else none) = _
  rw [szl, if_pos (by omega), hv]
section
variable {a b : Int} (ha : 0 ≤ a ∧ a < 4294967296) (hb : 0 ≤ b ∧ b < 4294967296)
include ha hb
theorem due_divs (r : Int) (hr : r = if b = 0 then 4294967295 else quo (sg a) (sg b) % 4294967296) : F__law_due [.d (.str (.ofString "divs")), .d (.int a), .d (.int b)] [] = some (.ok (.d (.int r)) []) := by
  have i1 := in_t (.ofString "divs") [.str "and", .str "or", .str "xor"] false rfl (by decide +kernel)
  have i2 := in_t (.ofString "divs") [.str "divs", .str "divu", .str "rems", .str "remu"] true rfl (by decide +kernel)
  have c1 := fun cs => q_c1s (cs := cs)
  have c2 := fun cs => q_s (cs := cs) (.ofString "divs") (.ofString "div") (by decide +kernel) (by decide +kernel)
  have sa := sg_b ha hb
  by_cases h : b = 0
  · subst h
    obtain ⟨p, hp, hp2, h0, h1'⟩ := lpower_ok 0 (by omega) (by omega) []
    clear hp2
    simp only [if_true] at hr
    subst hr
    refine due_run ha hb _ _ ?_
    simp (disch := omega) [m__law_due, lsigned_ok, fMod_p, hp, i1, i2, c1, mkT_e, tupK_s, szl, p2_32, c2]
  · obtain ⟨p, hp, hp2, h0, h1'⟩ := lpower_ok (b % 32) (by omega) (by omega) []
    clear hp2
    rw [if_neg h] at hr
    subst hr
    have hs : sg b ≠ 0 := by unfold sg; split <;> omega
    have q := lquotient_ok (sg a) (sg b) hs (by omega)
    refine due_run ha hb _ _ ?_
    simp (disch := omega) [m__law_due, lsigned_ok, fMod_p, hp, i1, i2, c1, mkT_e, tupK_s, szl, p2_32, c2, h, q]
theorem due_divu (r : Int) (hr : r = if b = 0 then 4294967295 else quo a b % 4294967296) : F__law_due [.d (.str (.ofString "divu")), .d (.int a), .d (.int b)] [] = some (.ok (.d (.int r)) []) := by
  have i1 := in_t (.ofString "divu") [.str "and", .str "or", .str "xor"] false rfl (by decide +kernel)
  have i2 := in_t (.ofString "divu") [.str "divs", .str "divu", .str "rems", .str "remu"] true rfl (by decide +kernel)
  have c1 := fun cs => q_c1u (cs := cs)
  have c2 := fun cs => q_s (cs := cs) (.ofString "divu") (.ofString "div") (by decide +kernel) (by decide +kernel)
  have sa := sg_b ha hb
  by_cases h : b = 0
  · subst h
    obtain ⟨p, hp, hp2, h0, h1'⟩ := lpower_ok 0 (by omega) (by omega) []
    clear hp2
    simp only [if_true] at hr
    subst hr
    refine due_run ha hb _ _ ?_
    simp (disch := omega) [m__law_due, lsigned_ok, fMod_p, hp, i1, i2, c1, mkT_e, tupK_s, szl, p2_32, c2]
  · obtain ⟨p, hp, hp2, h0, h1'⟩ := lpower_ok (b % 32) (by omega) (by omega) []
    clear hp2
    rw [if_neg h] at hr
    subst hr
    have hs : b ≠ 0 := h
    have q := lquotient_ok a b hs (by omega)
    refine due_run ha hb _ _ ?_
    simp (disch := omega) [m__law_due, lsigned_ok, fMod_p, hp, i1, i2, c1, mkT_e, tupK_s, szl, p2_32, c2, h, q]
theorem due_rems (r : Int) (hr : r = if b = 0 then a else (sg a - quo (sg a) (sg b) * sg b) % 4294967296) : F__law_due [.d (.str (.ofString "rems")), .d (.int a), .d (.int b)] [] = some (.ok (.d (.int r)) []) := by
  have i1 := in_t (.ofString "rems") [.str "and", .str "or", .str "xor"] false rfl (by decide +kernel)
  have i2 := in_t (.ofString "rems") [.str "divs", .str "divu", .str "rems", .str "remu"] true rfl (by decide +kernel)
  have c1 := fun cs => q_c2s (cs := cs)
  have c2 := fun cs => q_s (cs := cs) (.ofString "rems") (.ofString "rem") (by decide +kernel) (by decide +kernel)
  have sa := sg_b ha hb
  by_cases h : b = 0
  · subst h
    obtain ⟨p, hp, hp2, h0, h1'⟩ := lpower_ok 0 (by omega) (by omega) []
    clear hp2
    simp only [if_true] at hr
    subst hr
    refine due_run ha hb _ _ ?_
    simp (disch := omega) [m__law_due, lsigned_ok, fMod_p, hp, i1, i2, c1, mkT_e, tupK_s, szl, p2_32, c2]
  · obtain ⟨p, hp, hp2, h0, h1'⟩ := lpower_ok (b % 32) (by omega) (by omega) []
    clear hp2
    rw [if_neg h] at hr
    subst hr
    have hs : sg b ≠ 0 := by unfold sg; split <;> omega
    have q := lquotient_ok (sg a) (sg b) hs (by omega)
    have sb := sg_b hb ha
    have m : fMul (.int (quo (sg a) (sg b))) (.int (sg b)) = some (.int (quo (sg a) (sg b) * sg b)) := fMul_r (by omega) (by omega)
    refine due_run ha hb _ _ ?_
    simp (disch := omega) [m__law_due, lsigned_ok, fMod_p, hp, i1, i2, c1, mkT_e, tupK_s, szl, p2_32, c2, h, q, m]
theorem due_remu (r : Int) (hr : r = if b = 0 then a else (a - quo a b * b) % 4294967296) : F__law_due [.d (.str (.ofString "remu")), .d (.int a), .d (.int b)] [] = some (.ok (.d (.int r)) []) := by
  have i1 := in_t (.ofString "remu") [.str "and", .str "or", .str "xor"] false rfl (by decide +kernel)
  have i2 := in_t (.ofString "remu") [.str "divs", .str "divu", .str "rems", .str "remu"] true rfl (by decide +kernel)
  have c1 := fun cs => q_c2u (cs := cs)
  have c2 := fun cs => q_s (cs := cs) (.ofString "remu") (.ofString "rem") (by decide +kernel) (by decide +kernel)
  have sa := sg_b ha hb
  by_cases h : b = 0
  · subst h
    obtain ⟨p, hp, hp2, h0, h1'⟩ := lpower_ok 0 (by omega) (by omega) []
    clear hp2
    simp only [if_true] at hr
    subst hr
    refine due_run ha hb _ _ ?_
    simp (disch := omega) [m__law_due, lsigned_ok, fMod_p, hp, i1, i2, c1, mkT_e, tupK_s, szl, p2_32, c2]
  · obtain ⟨p, hp, hp2, h0, h1'⟩ := lpower_ok (b % 32) (by omega) (by omega) []
    clear hp2
    rw [if_neg h] at hr
    subst hr
    have hs : b ≠ 0 := h
    have q := lquotient_ok a b hs (by omega)
    have m : fMul (.int (quo a b)) (.int b) = some (.int (quo a b * b)) := fMul_r (by omega) (by omega)
    refine due_run ha hb _ _ ?_
    simp (disch := omega) [m__law_due, lsigned_ok, fMod_p, hp, i1, i2, c1, mkT_e, tupK_s, szl, p2_32, c2, h, q, m]
theorem dvd_divs (cs : List Cell) : F_divided [.d (.str (.ofString "divs")), .d (.int a), .d (.int b)] cs = some (.ok (.d (.int (if b = 0 then 4294967295 else quo (sg a) (sg b) % 4294967296))) cs) := by
  have i1 := in_t (.ofString "divs") [.str "divs", .str "divu"] true rfl (by decide +kernel)
  refine divided_run ha hb _ _ ?_ cs
  by_cases h : b = 0
  · subst h
    simp (disch := omega) [m_divided, i1, mkT_e, tupK_s, szl]
  · rw [if_neg h]
    have hs : sg b ≠ 0 := by unfold sg; split <;> omega
    have sa := sg_b ha hb
    have sb := sg_b hb ha
    have q := quotient_ok (sg a) (sg b) hs (by omega)
    have m : fMul (.int (quo (sg a) (sg b))) (.int (sg b)) = some (.int (quo (sg a) (sg b) * sg b)) := fMul_r (by omega) (by omega)
    simp (disch := omega) [m_divided, i1, mkT_e, tupK_s, szl, h, signed_ok, word_of_ok, q, m]
theorem dvd_divu (cs : List Cell) : F_divided [.d (.str (.ofString "divu")), .d (.int a), .d (.int b)] cs = some (.ok (.d (.int (if b = 0 then 4294967295 else a / b))) cs) := by
  have i1 := in_t (.ofString "divu") [.str "divs", .str "divu"] true rfl (by decide +kernel)
  refine divided_run ha hb _ _ ?_ cs
  by_cases h : b = 0
  · subst h
    simp (disch := omega) [m_divided, i1, mkT_e, tupK_s, szl]
  · rw [if_neg h]
    simp (disch := omega) [m_divided, i1, mkT_e, tupK_s, szl, h, signed_ok, word_of_ok, fDiv_s]
theorem dvd_rems (cs : List Cell) : F_divided [.d (.str (.ofString "rems")), .d (.int a), .d (.int b)] cs = some (.ok (.d (.int (if b = 0 then a else (sg a - quo (sg a) (sg b) * sg b) % 4294967296))) cs) := by
  have i1 := in_t (.ofString "rems") [.str "divs", .str "divu"] false rfl (by decide +kernel)
  refine divided_run ha hb _ _ ?_ cs
  by_cases h : b = 0
  · subst h
    simp (disch := omega) [m_divided, i1, mkT_e, tupK_s, szl]
  · rw [if_neg h]
    have hs : sg b ≠ 0 := by unfold sg; split <;> omega
    have sa := sg_b ha hb
    have sb := sg_b hb ha
    have q := quotient_ok (sg a) (sg b) hs (by omega)
    have m : fMul (.int (quo (sg a) (sg b))) (.int (sg b)) = some (.int (quo (sg a) (sg b) * sg b)) := fMul_r (by omega) (by omega)
    simp (disch := omega) [m_divided, i1, mkT_e, tupK_s, szl, h, signed_ok, word_of_ok, q, m]
theorem dvd_remu (cs : List Cell) : F_divided [.d (.str (.ofString "remu")), .d (.int a), .d (.int b)] cs = some (.ok (.d (.int (if b = 0 then a else a % b))) cs) := by
  have i1 := in_t (.ofString "remu") [.str "divs", .str "divu"] false rfl (by decide +kernel)
  refine divided_run ha hb _ _ ?_ cs
  by_cases h : b = 0
  · subst h
    simp (disch := omega) [m_divided, i1, mkT_e, tupK_s, szl]
  · rw [if_neg h]
    simp (disch := omega) [m_divided, i1, mkT_e, tupK_s, szl, h, signed_ok, word_of_ok, fMod_p]
theorem quo_u (h : b ≠ 0) : quo a b = a / b := by
  unfold quo ab
  have h1 : ¬ a < 0 := by omega
  have h2 : ¬ b < 0 := by omega
  simp [h1, h2]
theorem ag_divs : Agree (.ofString "divs") a b := ⟨_, apply_dv ha hb _ _ (by decide +kernel) (by decide +kernel) (by decide +kernel) (dvd_divs ha hb), due_divs ha hb _ rfl⟩
theorem ag_rems : Agree (.ofString "rems") a b := ⟨_, apply_dv ha hb _ _ (by decide +kernel) (by decide +kernel) (by decide +kernel) (dvd_rems ha hb), due_rems ha hb _ rfl⟩
theorem ag_divu : Agree (.ofString "divu") a b := ⟨_, apply_dv ha hb _ _ (by decide +kernel) (by decide +kernel) (by decide +kernel) (dvd_divu ha hb), due_divu ha hb _ (by
  by_cases h : b = 0
  · rw [if_pos h, if_pos h]
  · rw [if_neg h, if_neg h, quo_u ha hb h]
    exact (Int.emod_eq_of_lt (Int.ediv_nonneg ha.1 hb.1) (Int.lt_of_le_of_lt (Int.ediv_le_self b ha.1) ha.2)).symm)⟩
theorem ag_remu : Agree (.ofString "remu") a b := ⟨_, apply_dv ha hb _ _ (by decide +kernel) (by decide +kernel) (by decide +kernel) (dvd_remu ha hb), due_remu ha hb _ (by
  by_cases h : b = 0
  · rw [if_pos h, if_pos h]
  · rw [if_neg h, if_neg h, quo_u ha hb h]
    have e1 : a - a / b * b = a % b := by rw [Int.emod_def, Int.mul_comm]
    have e2 : 0 ≤ a % b := Int.emod_nonneg a h
    have e3 : a % b < b := Int.emod_lt_of_pos a (by omega)
    rw [e1]
    exact (Int.emod_eq_of_lt e2 (by omega)).symm)⟩
end
end Pg
namespace Pg
open PySem PySem.Spec PyProof.Rows L2 Sm
theorem script_ok (ns : List Int) (h : ns.length ≤ 63) (cs : List Cell) : fSl (.k (ns.map .int)) none (some 63) cs = some (.ok (.d (.list (ns.map .int))) cs) := by
  have e : cutA (ns.map PyData.int) none (some 63) = ns.map .int := cutA_whole ⟨rfl, by
    rw [List.length_map]
    show HT.sIx ns.length ns.length (some 63) = ns.length
    show (if (63 : Int) < 0 then ((63 : Int) + ns.length).toNat else min (63 : Int).toNat ns.length) = ns.length
    rw [if_neg (by decide)]
    exact Nat.min_eq_right h⟩
  show (match toD ((ns.map PyData.int).map W.d) with
      | some ds => some (Rs.ok (W.d (.list (cutA ds none (some 63)))) cs)
      | none => none) = _
  rw [toD_of]
  show some (Rs.ok (W.d (.list (cutA (ns.map PyData.int) none (some 63)))) cs) = _
  rw [e]
def KT : List PyData := [.str "add", .str "sub", .str "mul", .str "and", .str "or", .str "xor", .str "shl", .str "shr", .str "sar", .str "lts", .str "ltu", .str "eq", .str "divs", .str "divu", .str "rems", .str "remu"]
theorem kt_ok {a b : Int} (ha : 0 ≤ a ∧ a < 4294967296) (hb : 0 ≤ b ∧ b < 4294967296) {d : PyData} (h : d ∈ KT) : ∃ kd, d = .str kd ∧ Agree kd a b := by
  simp only [KT, List.mem_cons, List.not_mem_nil, or_false] at h
  rcases h with h | h | h | h | h | h | h | h | h | h | h | h | h | h | h | h
  · exact ⟨_, h, ag_add ha hb⟩
  · exact ⟨_, h, ag_sub ha hb⟩
  · exact ⟨_, h, ag_mul ha hb⟩
  · exact ⟨_, h, ag_and ha hb⟩
  · exact ⟨_, h, ag_or ha hb⟩
  · exact ⟨_, h, ag_xor ha hb⟩
  · exact ⟨_, h, ag_shl ha hb⟩
  · exact ⟨_, h, ag_shr ha hb⟩
  · exact ⟨_, h, ag_sar ha hb⟩
  · exact ⟨_, h, ag_lts ha hb⟩
  · exact ⟨_, h, ag_ltu ha hb⟩
  · exact ⟨_, h, ag_eq ha hb⟩
  · exact ⟨_, h, ag_divs ha hb⟩
  · exact ⟨_, h, ag_divu ha hb⟩
  · exact ⟨_, h, ag_rems ha hb⟩
  · exact ⟨_, h, ag_remu ha hb⟩
theorem inner_ok {a b : Int} (ha : 0 ≤ a ∧ a < 4294967296) (hb : 0 ≤ b ∧ b < 4294967296) (s0 s1 s2 s3 s6 : Option W) (cs : List Cell) :
    ∃ l, mLoop (gN 6) b_law_2 (KT.map .d) [s0, s1, s2, s3, some (.d (.int a)), some (.d (.int b)), s6] cs = some (.nx [s0, s1, s2, s3, some (.d (.int a)), some (.d (.int b)), l] cs) := by
  obtain ⟨s', cs', e, l, rfl, rfl⟩ := mLoop_inv (g := gN 6) (b := b_law_2) (fun _ s c => ∃ l, s = [s0, s1, s2, s3, some (.d (.int a)), some (.d (.int b)), l] ∧ c = cs) (KT.map .d) 0 [s0, s1, s2, s3, some (.d (.int a)), some (.d (.int b)), s6] cs ⟨s6, rfl, rfl⟩ fun j w s c hw hI => by
    obtain ⟨l, rfl, rfl⟩ := hI
    have hm := List.mem_of_getElem? hw
    obtain ⟨d, hd, rfl⟩ := List.mem_map.mp hm
    obtain ⟨kd, rfl, r, h1, h2⟩ := kt_ok ha hb hd
    have h1 := pure_cs (F := runF 3 m_apply) (ds := [.str kd, .int a, .int b]) (cs := c) h1
    have h2 := pure_cs (F := runF 10 m__law_due) (ds := [.str kd, .int a, .int b]) (cs := c) h2
    have g1 : F_apply [.d (.str kd), .d (.int a), .d (.int b)] c = some (.ok (.d (.int r)) c) := h1
    have g2 : F__law_due [.d (.str kd), .d (.int a), .d (.int b)] c = some (.ok (.d (.int r)) c) := h2
    refine ⟨_, rfl, [s0, s1, s2, s3, some (.d (.int a)), some (.d (.int b)), some (.d (.str kd))], c, .inl ?_, _, rfl, rfl⟩
    simp [b_law_2, g1, g2]
  exact ⟨l, e⟩
theorem outer_ok (ns : List Int) (s0 s2 s3 s4 s5 s6 : Option W) (cs : List Cell) (hd : Dr 0 ns cs) (hT : s2 = some (.d (.tuple KT))) :
    ∃ s' cs', mLoop (gN 3) b_law_1 (rgW 0 8) [s0, some (.r 0), s2, s3, s4, s5, s6] cs = some (.nx s' cs') := by
  obtain ⟨s', cs', e, _⟩ := mLoop_inv (g := gN 3) (b := b_law_1) (fun _ s c => ∃ l3 l4 l5 l6, s = [s0, some (.r 0), s2, l3, l4, l5, l6] ∧ Dr 0 ns c) (rgW 0 8) 0 [s0, some (.r 0), s2, s3, s4, s5, s6] cs ⟨_, _, _, _, rfl, hd⟩ fun j w s c hw hI => by
    obtain ⟨l3, l4, l5, l6, rfl, hd⟩ := hI
    obtain ⟨a, c1, h1, a0, a1, d1, k1⟩ := word_ok 0 ns c hd
    obtain ⟨b, c2, h2, b0, b1, d2, k2⟩ := word_ok 0 ns c1 d1
    obtain ⟨l, hl⟩ := inner_ok ⟨a0, a1⟩ ⟨b0, b1⟩ s0 (some (.r 0)) s2 (some w) l6 c2
    subst hT
    have hit : itW (.d (.tuple KT)) = some (KT.map .d) := rfl
    have m1 : sg a % 4294967296 = a := by rw [sg_mod ⟨a0, a1⟩ ⟨b0, b1⟩]; exact Int.emod_eq_of_lt a0 a1
    have m2 : (a - 12884901888) % 4294967296 = a := by omega
    refine ⟨_, rfl, [s0, some (.r 0), some (.d (.tuple KT)), some w, some (.d (.int a)), some (.d (.int b)), l], c2, .inl ?_, _, _, _, _, rfl, d2⟩
    simp [b_law_1, h1, h2, hit, hl, signed_ok, lsigned_ok, word_of_ok, m1, m2, p2_32, fMul_l]
  exact ⟨s', cs', e⟩
theorem law_true (ns : List Int) (h : ns.length ≤ 63) : ∃ cs, F_law [.k (ns.map .int)] [] = some (.ok (.d (.bool true)) cs) := by
  have hs := script_ok ns h
  have hc : mkC [.d (.list (ns.map .int)), .d (.int 0), .d (.int 0)] [] = some (.ok (.r 0) [.lst [.d (.list (ns.map .int)), .d (.int 0), .d (.int 0)]]) := by
    unfold mkC
    rw [szl]
    rfl
  have hT : ∀ cs, mkT [.d (.str "add"), .d (.str "sub"), .d (.str "mul"), .d (.str "and"), .d (.str "or"), .d (.str "xor"), .d (.str "shl"), .d (.str "shr"), .d (.str "sar"), .d (.str "lts"), .d (.str "ltu"), .d (.str "eq"), .d (.str "divs"), .d (.str "divu"), .d (.str "rems"), .d (.str "remu")] cs = some (.ok (.d (.tuple KT)) cs) := fun cs => by
    rw [mkT_e]
    show tupK (some KT) cs = _
    rw [tupK_s, szl, if_pos (by decide)]
  have hr := fun cs => rgL1_of (n := 8) (cs := cs) (by decide)
  obtain ⟨s', cs', e⟩ := outer_ok ns (some (.k (ns.map .int))) (some (.d (.tuple KT))) none none none none [.lst [.d (.list (ns.map .int)), .d (.int 0), .d (.int 0)]] ⟨0, by decide, rfl⟩ rfl
  refine ⟨cs', ?_⟩
  unfold F_law
  have hr : ∀ cs, rgL1 [.d (.int 8)] cs = some (.ok (rgW 0 8) cs) := hr
  simp [m_law, hs, hc, hT, hr, e, -rgL1_e]
end Pg
namespace Pg
open PySem PySem.Spec PyProof.Rows L2 Sm
theorem tx_mk {K : PySem.W.Frag} {h : Heap} {mg : Str → Option Value} (X : K.In h) (G : h.Ns mainGlobals mg)
    {f0 : Addr} {od0 an0 : Option Addr} {sl0 : Array (Option Value)} {oc0 kV0 dc0 pm0 cd0 ct0 : Value}
    (a0 : PySem.W.nsIn K mainGlobals "word_of" = some (some (.ref f0))) (l0 : K.lookup f0 = some ⟨oc0, od0, .func (PySem.W.fnOf "word_of" "word_of" (defArgs s_word_of) (defBody s_word_of) (defScope s_word_of) .none kV0 dc0 pm0 an0 cd0 ct0), sl0⟩) (c0 : PySem.W.codeIn K cd0 "word_of" = true) (k0 : PySem.W.keepIn K (.ref f0) = true)
    {f1 : Addr} {od1 an1 : Option Addr} {sl1 : Array (Option Value)} {oc1 kV1 dc1 pm1 cd1 ct1 : Value}
    (a1 : PySem.W.nsIn K mainGlobals "signed" = some (some (.ref f1))) (l1 : K.lookup f1 = some ⟨oc1, od1, .func (PySem.W.fnOf "signed" "signed" (defArgs s_signed) (defBody s_signed) (defScope s_signed) .none kV1 dc1 pm1 an1 cd1 ct1), sl1⟩) (c1 : PySem.W.codeIn K cd1 "signed" = true) (k1 : PySem.W.keepIn K (.ref f1) = true)
    {f2 : Addr} {od2 an2 : Option Addr} {sl2 : Array (Option Value)} {oc2 kV2 dc2 pm2 cd2 ct2 : Value}
    (a2 : PySem.W.nsIn K mainGlobals "quotient" = some (some (.ref f2))) (l2 : K.lookup f2 = some ⟨oc2, od2, .func (PySem.W.fnOf "quotient" "quotient" (defArgs s_quotient) (defBody s_quotient) (defScope s_quotient) .none kV2 dc2 pm2 an2 cd2 ct2), sl2⟩) (c2 : PySem.W.codeIn K cd2 "quotient" = true) (k2 : PySem.W.keepIn K (.ref f2) = true)
    {f3 : Addr} {od3 an3 : Option Addr} {sl3 : Array (Option Value)} {oc3 kV3 dc3 pm3 cd3 ct3 : Value}
    (a3 : PySem.W.nsIn K mainGlobals "divided" = some (some (.ref f3))) (l3 : K.lookup f3 = some ⟨oc3, od3, .func (PySem.W.fnOf "divided" "divided" (defArgs s_divided) (defBody s_divided) (defScope s_divided) .none kV3 dc3 pm3 an3 cd3 ct3), sl3⟩) (c3 : PySem.W.codeIn K cd3 "divided" = true) (k3 : PySem.W.keepIn K (.ref f3) = true)
    {f4 : Addr} {od4 an4 : Option Addr} {sl4 : Array (Option Value)} {oc4 kV4 dc4 pm4 cd4 ct4 : Value}
    (a4 : PySem.W.nsIn K mainGlobals "shifted" = some (some (.ref f4))) (l4 : K.lookup f4 = some ⟨oc4, od4, .func (PySem.W.fnOf "shifted" "shifted" (defArgs s_shifted) (defBody s_shifted) (defScope s_shifted) .none kV4 dc4 pm4 an4 cd4 ct4), sl4⟩) (c4 : PySem.W.codeIn K cd4 "shifted" = true) (k4 : PySem.W.keepIn K (.ref f4) = true)
    {f5 : Addr} {od5 an5 : Option Addr} {sl5 : Array (Option Value)} {oc5 kV5 dc5 pm5 cd5 ct5 : Value}
    (a5 : PySem.W.nsIn K mainGlobals "compared" = some (some (.ref f5))) (l5 : K.lookup f5 = some ⟨oc5, od5, .func (PySem.W.fnOf "compared" "compared" (defArgs s_compared) (defBody s_compared) (defScope s_compared) .none kV5 dc5 pm5 an5 cd5 ct5), sl5⟩) (c5 : PySem.W.codeIn K cd5 "compared" = true) (k5 : PySem.W.keepIn K (.ref f5) = true)
    {f6 : Addr} {od6 an6 : Option Addr} {sl6 : Array (Option Value)} {oc6 kV6 dc6 pm6 cd6 ct6 : Value}
    (a6 : PySem.W.nsIn K mainGlobals "apply" = some (some (.ref f6))) (l6 : K.lookup f6 = some ⟨oc6, od6, .func (PySem.W.fnOf "apply" "apply" (defArgs s_apply) (defBody s_apply) (defScope s_apply) .none kV6 dc6 pm6 an6 cd6 ct6), sl6⟩) (c6 : PySem.W.codeIn K cd6 "apply" = true) (k6 : PySem.W.keepIn K (.ref f6) = true)
    {f7 : Addr} {od7 an7 : Option Addr} {sl7 : Array (Option Value)} {oc7 kV7 dc7 pm7 cd7 ct7 : Value}
    (a7 : PySem.W.nsIn K mainGlobals "_law_cell_at" = some (some (.ref f7))) (l7 : K.lookup f7 = some ⟨oc7, od7, .func (PySem.W.fnOf "_law_cell_at" "_law_cell_at" (defArgs s__law_cell_at) (defBody s__law_cell_at) (defScope s__law_cell_at) .none kV7 dc7 pm7 an7 cd7 ct7), sl7⟩) (c7 : PySem.W.codeIn K cd7 "_law_cell_at" = true) (k7 : PySem.W.keepIn K (.ref f7) = true)
    {f8 : Addr} {od8 an8 : Option Addr} {sl8 : Array (Option Value)} {oc8 kV8 dc8 pm8 cd8 ct8 : Value}
    (a8 : PySem.W.nsIn K mainGlobals "_law_draw" = some (some (.ref f8))) (l8 : K.lookup f8 = some ⟨oc8, od8, .func (PySem.W.fnOf "_law_draw" "_law_draw" (defArgs s__law_draw) (defBody s__law_draw) (defScope s__law_draw) .none kV8 dc8 pm8 an8 cd8 ct8), sl8⟩) (c8 : PySem.W.codeIn K cd8 "_law_draw" = true) (k8 : PySem.W.keepIn K (.ref f8) = true)
    {f9 : Addr} {od9 an9 : Option Addr} {sl9 : Array (Option Value)} {oc9 kV9 dc9 pm9 cd9 ct9 : Value}
    (a9 : PySem.W.nsIn K mainGlobals "_law_number" = some (some (.ref f9))) (l9 : K.lookup f9 = some ⟨oc9, od9, .func (PySem.W.fnOf "_law_number" "_law_number" (defArgs s__law_number) (defBody s__law_number) (defScope s__law_number) .none kV9 dc9 pm9 an9 cd9 ct9), sl9⟩) (c9 : PySem.W.codeIn K cd9 "_law_number" = true) (k9 : PySem.W.keepIn K (.ref f9) = true)
    {f10 : Addr} {od10 an10 : Option Addr} {sl10 : Array (Option Value)} {oc10 kV10 dc10 pm10 cd10 ct10 : Value}
    (a10 : PySem.W.nsIn K mainGlobals "_law_next" = some (some (.ref f10))) (l10 : K.lookup f10 = some ⟨oc10, od10, .func (PySem.W.fnOf "_law_next" "_law_next" (defArgs s__law_next) (defBody s__law_next) (defScope s__law_next) .none kV10 dc10 pm10 an10 cd10 ct10), sl10⟩) (c10 : PySem.W.codeIn K cd10 "_law_next" = true) (k10 : PySem.W.keepIn K (.ref f10) = true)
    {f11 : Addr} {od11 an11 : Option Addr} {sl11 : Array (Option Value)} {oc11 kV11 dc11 pm11 cd11 ct11 : Value}
    (a11 : PySem.W.nsIn K mainGlobals "_law_pick" = some (some (.ref f11))) (l11 : K.lookup f11 = some ⟨oc11, od11, .func (PySem.W.fnOf "_law_pick" "_law_pick" (defArgs s__law_pick) (defBody s__law_pick) (defScope s__law_pick) .none kV11 dc11 pm11 an11 cd11 ct11), sl11⟩) (c11 : PySem.W.codeIn K cd11 "_law_pick" = true) (k11 : PySem.W.keepIn K (.ref f11) = true)
    {f12 : Addr} {od12 an12 : Option Addr} {sl12 : Array (Option Value)} {oc12 kV12 dc12 pm12 cd12 ct12 : Value}
    (a12 : PySem.W.nsIn K mainGlobals "_law_word" = some (some (.ref f12))) (l12 : K.lookup f12 = some ⟨oc12, od12, .func (PySem.W.fnOf "_law_word" "_law_word" (defArgs s__law_word) (defBody s__law_word) (defScope s__law_word) .none kV12 dc12 pm12 an12 cd12 ct12), sl12⟩) (c12 : PySem.W.codeIn K cd12 "_law_word" = true) (k12 : PySem.W.keepIn K (.ref f12) = true)
    {f13 : Addr} {od13 an13 : Option Addr} {sl13 : Array (Option Value)} {oc13 kV13 dc13 pm13 cd13 ct13 : Value}
    (a13 : PySem.W.nsIn K mainGlobals "_law_signed" = some (some (.ref f13))) (l13 : K.lookup f13 = some ⟨oc13, od13, .func (PySem.W.fnOf "_law_signed" "_law_signed" (defArgs s__law_signed) (defBody s__law_signed) (defScope s__law_signed) .none kV13 dc13 pm13 an13 cd13 ct13), sl13⟩) (c13 : PySem.W.codeIn K cd13 "_law_signed" = true) (k13 : PySem.W.keepIn K (.ref f13) = true)
    {f14 : Addr} {od14 an14 : Option Addr} {sl14 : Array (Option Value)} {oc14 kV14 dc14 pm14 cd14 ct14 : Value}
    (a14 : PySem.W.nsIn K mainGlobals "_law_quotient" = some (some (.ref f14))) (l14 : K.lookup f14 = some ⟨oc14, od14, .func (PySem.W.fnOf "_law_quotient" "_law_quotient" (defArgs s__law_quotient) (defBody s__law_quotient) (defScope s__law_quotient) .none kV14 dc14 pm14 an14 cd14 ct14), sl14⟩) (c14 : PySem.W.codeIn K cd14 "_law_quotient" = true) (k14 : PySem.W.keepIn K (.ref f14) = true)
    {f15 : Addr} {od15 an15 : Option Addr} {sl15 : Array (Option Value)} {oc15 kV15 dc15 pm15 cd15 ct15 : Value}
    (a15 : PySem.W.nsIn K mainGlobals "_law_power" = some (some (.ref f15))) (l15 : K.lookup f15 = some ⟨oc15, od15, .func (PySem.W.fnOf "_law_power" "_law_power" (defArgs s__law_power) (defBody s__law_power) (defScope s__law_power) .none kV15 dc15 pm15 an15 cd15 ct15), sl15⟩) (c15 : PySem.W.codeIn K cd15 "_law_power" = true) (k15 : PySem.W.keepIn K (.ref f15) = true)
    {f16 : Addr} {od16 an16 : Option Addr} {sl16 : Array (Option Value)} {oc16 kV16 dc16 pm16 cd16 ct16 : Value}
    (a16 : PySem.W.nsIn K mainGlobals "_law_bits" = some (some (.ref f16))) (l16 : K.lookup f16 = some ⟨oc16, od16, .func (PySem.W.fnOf "_law_bits" "_law_bits" (defArgs s__law_bits) (defBody s__law_bits) (defScope s__law_bits) .none kV16 dc16 pm16 an16 cd16 ct16), sl16⟩) (c16 : PySem.W.codeIn K cd16 "_law_bits" = true) (k16 : PySem.W.keepIn K (.ref f16) = true)
    {f17 : Addr} {od17 an17 : Option Addr} {sl17 : Array (Option Value)} {oc17 kV17 dc17 pm17 cd17 ct17 : Value}
    (a17 : PySem.W.nsIn K mainGlobals "_law_due" = some (some (.ref f17))) (l17 : K.lookup f17 = some ⟨oc17, od17, .func (PySem.W.fnOf "_law_due" "_law_due" (defArgs s__law_due) (defBody s__law_due) (defScope s__law_due) .none kV17 dc17 pm17 an17 cd17 ct17), sl17⟩) (c17 : PySem.W.codeIn K cd17 "_law_due" = true) (k17 : PySem.W.keepIn K (.ref f17) = true)
    {f18 : Addr} {od18 an18 : Option Addr} {sl18 : Array (Option Value)} {oc18 kV18 dc18 pm18 cd18 ct18 : Value}
    (a18 : PySem.W.nsIn K mainGlobals "law" = some (some (.ref f18))) (l18 : K.lookup f18 = some ⟨oc18, od18, .func (PySem.W.fnOf "law" "law" (defArgs s_law) (defBody s_law) (defScope s_law) .none kV18 dc18 pm18 an18 cd18 ct18), sl18⟩) (c18 : PySem.W.codeIn K cd18 "law" = true) (k18 : PySem.W.keepIn K (.ref f18) = true)
    (z_abs : PySem.W.nsIn K mainGlobals "abs" = some none)
    (z_int : PySem.W.nsIn K mainGlobals "int" = some none)
    (z_len : PySem.W.nsIn K mainGlobals "len" = some none)
    (z_max : PySem.W.nsIn K mainGlobals "max" = some none)
    (z_range : PySem.W.nsIn K mainGlobals "range" = some none)
    {t_HALF : Tok} (g_HALF : PySem.W.nsIn K mainGlobals "HALF" = some (some (.int 2147483648 t_HALF)))
    {t_ROUND : Tok} (g_ROUND : PySem.W.nsIn K mainGlobals "ROUND" = some (some (.int 4294967296 t_ROUND))) :
    Tx K mg (fun j => [f0, f1, f2, f3, f4, f5, f6, f7, f8, f9, f10, f11, f12, f13, f14, f15, f16, f17, f18].getD j 0) (fun j => [PySem.W.fnOf "word_of" "word_of" (defArgs s_word_of) (defBody s_word_of) (defScope s_word_of) .none kV0 dc0 pm0 an0 cd0 ct0, PySem.W.fnOf "signed" "signed" (defArgs s_signed) (defBody s_signed) (defScope s_signed) .none kV1 dc1 pm1 an1 cd1 ct1, PySem.W.fnOf "quotient" "quotient" (defArgs s_quotient) (defBody s_quotient) (defScope s_quotient) .none kV2 dc2 pm2 an2 cd2 ct2, PySem.W.fnOf "divided" "divided" (defArgs s_divided) (defBody s_divided) (defScope s_divided) .none kV3 dc3 pm3 an3 cd3 ct3, PySem.W.fnOf "shifted" "shifted" (defArgs s_shifted) (defBody s_shifted) (defScope s_shifted) .none kV4 dc4 pm4 an4 cd4 ct4, PySem.W.fnOf "compared" "compared" (defArgs s_compared) (defBody s_compared) (defScope s_compared) .none kV5 dc5 pm5 an5 cd5 ct5, PySem.W.fnOf "apply" "apply" (defArgs s_apply) (defBody s_apply) (defScope s_apply) .none kV6 dc6 pm6 an6 cd6 ct6, PySem.W.fnOf "_law_cell_at" "_law_cell_at" (defArgs s__law_cell_at) (defBody s__law_cell_at) (defScope s__law_cell_at) .none kV7 dc7 pm7 an7 cd7 ct7, PySem.W.fnOf "_law_draw" "_law_draw" (defArgs s__law_draw) (defBody s__law_draw) (defScope s__law_draw) .none kV8 dc8 pm8 an8 cd8 ct8, PySem.W.fnOf "_law_number" "_law_number" (defArgs s__law_number) (defBody s__law_number) (defScope s__law_number) .none kV9 dc9 pm9 an9 cd9 ct9, PySem.W.fnOf "_law_next" "_law_next" (defArgs s__law_next) (defBody s__law_next) (defScope s__law_next) .none kV10 dc10 pm10 an10 cd10 ct10, PySem.W.fnOf "_law_pick" "_law_pick" (defArgs s__law_pick) (defBody s__law_pick) (defScope s__law_pick) .none kV11 dc11 pm11 an11 cd11 ct11, PySem.W.fnOf "_law_word" "_law_word" (defArgs s__law_word) (defBody s__law_word) (defScope s__law_word) .none kV12 dc12 pm12 an12 cd12 ct12, PySem.W.fnOf "_law_signed" "_law_signed" (defArgs s__law_signed) (defBody s__law_signed) (defScope s__law_signed) .none kV13 dc13 pm13 an13 cd13 ct13, PySem.W.fnOf "_law_quotient" "_law_quotient" (defArgs s__law_quotient) (defBody s__law_quotient) (defScope s__law_quotient) .none kV14 dc14 pm14 an14 cd14 ct14, PySem.W.fnOf "_law_power" "_law_power" (defArgs s__law_power) (defBody s__law_power) (defScope s__law_power) .none kV15 dc15 pm15 an15 cd15 ct15, PySem.W.fnOf "_law_bits" "_law_bits" (defArgs s__law_bits) (defBody s__law_bits) (defScope s__law_bits) .none kV16 dc16 pm16 an16 cd16 ct16, PySem.W.fnOf "_law_due" "_law_due" (defArgs s__law_due) (defBody s__law_due) (defScope s__law_due) .none kV17 dc17 pm17 an17 cd17 ct17, PySem.W.fnOf "law" "law" (defArgs s_law) (defBody s_law) (defScope s_law) .none kV18 dc18 pm18 an18 cd18 ct18].getD j (PySem.W.fnOf "word_of" "word_of" (defArgs s_word_of) (defBody s_word_of) (defScope s_word_of) .none kV0 dc0 pm0 an0 cd0 ct0)) := by
  have F0 := fun_mk (st := s_word_of) l0 c0 k0
  have F1 := fun_mk (st := s_signed) l1 c1 k1
  have F2 := fun_mk (st := s_quotient) l2 c2 k2
  have F3 := fun_mk (st := s_divided) l3 c3 k3
  have F4 := fun_mk (st := s_shifted) l4 c4 k4
  have F5 := fun_mk (st := s_compared) l5 c5 k5
  have F6 := fun_mk (st := s_apply) l6 c6 k6
  have F7 := fun_mk (st := s__law_cell_at) l7 c7 k7
  have F8 := fun_mk (st := s__law_draw) l8 c8 k8
  have F9 := fun_mk (st := s__law_number) l9 c9 k9
  have F10 := fun_mk (st := s__law_next) l10 c10 k10
  have F11 := fun_mk (st := s__law_pick) l11 c11 k11
  have F12 := fun_mk (st := s__law_word) l12 c12 k12
  have F13 := fun_mk (st := s__law_signed) l13 c13 k13
  have F14 := fun_mk (st := s__law_quotient) l14 c14 k14
  have F15 := fun_mk (st := s__law_power) l15 c15 k15
  have F16 := fun_mk (st := s__law_bits) l16 c16 k16
  have F17 := fun_mk (st := s__law_due) l17 c17 k17
  have F18 := fun_mk (st := s_law) l18 c18 k18
  exact {
    d_word_of := ⟨F0, PySem.W.mg_of X G a0, F0.binds (ps := ["number"]) fun _ _ _ _ _ _ us hl => match us, hl with | [_], _ => rfl⟩,
    d_signed := ⟨F1, PySem.W.mg_of X G a1, F1.binds (ps := ["word"]) fun _ _ _ _ _ _ us hl => match us, hl with | [_], _ => rfl⟩,
    d_quotient := ⟨F2, PySem.W.mg_of X G a2, F2.binds (ps := ["a", "b"]) fun _ _ _ _ _ _ us hl => match us, hl with | [_, _], _ => rfl⟩,
    d_divided := ⟨F3, PySem.W.mg_of X G a3, F3.binds (ps := ["kind", "a", "b"]) fun _ _ _ _ _ _ us hl => match us, hl with | [_, _, _], _ => rfl⟩,
    d_shifted := ⟨F4, PySem.W.mg_of X G a4, F4.binds (ps := ["kind", "a", "b"]) fun _ _ _ _ _ _ us hl => match us, hl with | [_, _, _], _ => rfl⟩,
    d_compared := ⟨F5, PySem.W.mg_of X G a5, F5.binds (ps := ["kind", "a", "b"]) fun _ _ _ _ _ _ us hl => match us, hl with | [_, _, _], _ => rfl⟩,
    d_apply := ⟨F6, PySem.W.mg_of X G a6, F6.binds (ps := ["kind", "a", "b"]) fun _ _ _ _ _ _ us hl => match us, hl with | [_, _, _], _ => rfl⟩,
    d__law_cell_at := ⟨F7, PySem.W.mg_of X G a7, F7.binds (ps := ["_law_script", "_law_k"]) fun _ _ _ _ _ _ us hl => match us, hl with | [_, _], _ => rfl⟩,
    d__law_draw := ⟨F8, PySem.W.mg_of X G a8, F8.binds (ps := ["_law_cell", "_law_k", "_law_bound"]) fun _ _ _ _ _ _ us hl => match us, hl with | [_, _, _], _ => rfl⟩,
    d__law_number := ⟨F9, PySem.W.mg_of X G a9, F9.binds (ps := ["_law_cell", "_law_k", "_law_bound"]) fun _ _ _ _ _ _ us hl => match us, hl with | [_, _, _], _ => rfl⟩,
    d__law_next := ⟨F10, PySem.W.mg_of X G a10, F10.binds (ps := ["_law_draw_here", "_law_bound"]) fun _ _ _ _ _ _ us hl => match us, hl with | [_, _], _ => rfl⟩,
    d__law_pick := ⟨F11, PySem.W.mg_of X G a11, F11.binds (ps := ["_law_draw_here", "_law_things"]) fun _ _ _ _ _ _ us hl => match us, hl with | [_, _], _ => rfl⟩,
    d__law_word := ⟨F12, PySem.W.mg_of X G a12, F12.binds (ps := ["_law_draw_here"]) fun _ _ _ _ _ _ us hl => match us, hl with | [_], _ => rfl⟩,
    d__law_signed := ⟨F13, PySem.W.mg_of X G a13, F13.binds (ps := ["_law_word_here"]) fun _ _ _ _ _ _ us hl => match us, hl with | [_], _ => rfl⟩,
    d__law_quotient := ⟨F14, PySem.W.mg_of X G a14, F14.binds (ps := ["_law_a", "_law_b"]) fun _ _ _ _ _ _ us hl => match us, hl with | [_, _], _ => rfl⟩,
    d__law_power := ⟨F15, PySem.W.mg_of X G a15, F15.binds (ps := ["_law_many"]) fun _ _ _ _ _ _ us hl => match us, hl with | [_], _ => rfl⟩,
    d__law_bits := ⟨F16, PySem.W.mg_of X G a16, F16.binds (ps := ["_law_kind", "_law_a", "_law_b"]) fun _ _ _ _ _ _ us hl => match us, hl with | [_, _, _], _ => rfl⟩,
    d__law_due := ⟨F17, PySem.W.mg_of X G a17, F17.binds (ps := ["_law_kind", "_law_a", "_law_b"]) fun _ _ _ _ _ _ us hl => match us, hl with | [_, _, _], _ => rfl⟩,
    d_law := ⟨F18, PySem.W.mg_of X G a18, F18.binds (ps := ["_law_script"]) fun _ _ _ _ _ _ us hl => match us, hl with | [_], _ => rfl⟩,
    z_abs := PySem.W.mg_none_of X G z_abs,
    z_int := PySem.W.mg_none_of X G z_int,
    z_len := PySem.W.mg_none_of X G z_len,
    z_max := PySem.W.mg_none_of X G z_max,
    z_range := PySem.W.mg_none_of X G z_range,
    g_HALF := ⟨_, PySem.W.mg_of X G g_HALF⟩,
    g_ROUND := ⟨_, PySem.W.mg_of X G g_ROUND⟩ }
theorem all_mk {l : PySem.W.OpenLaw} {w : World} {K : PySem.W.Frag} {h : Heap} {mg : Str → Option Value} {fa : Addr} (X : K.In h) (G : h.Ns mainGlobals mg) (hfa : mg "law" = some (.ref fa))
    {f0 : Addr} {od0 an0 : Option Addr} {sl0 : Array (Option Value)} {oc0 kV0 dc0 pm0 cd0 ct0 : Value}
    (a0 : PySem.W.nsIn K mainGlobals "word_of" = some (some (.ref f0))) (l0 : K.lookup f0 = some ⟨oc0, od0, .func (PySem.W.fnOf "word_of" "word_of" (defArgs s_word_of) (defBody s_word_of) (defScope s_word_of) .none kV0 dc0 pm0 an0 cd0 ct0), sl0⟩) (c0 : PySem.W.codeIn K cd0 "word_of" = true) (k0 : PySem.W.keepIn K (.ref f0) = true)
    {f1 : Addr} {od1 an1 : Option Addr} {sl1 : Array (Option Value)} {oc1 kV1 dc1 pm1 cd1 ct1 : Value}
    (a1 : PySem.W.nsIn K mainGlobals "signed" = some (some (.ref f1))) (l1 : K.lookup f1 = some ⟨oc1, od1, .func (PySem.W.fnOf "signed" "signed" (defArgs s_signed) (defBody s_signed) (defScope s_signed) .none kV1 dc1 pm1 an1 cd1 ct1), sl1⟩) (c1 : PySem.W.codeIn K cd1 "signed" = true) (k1 : PySem.W.keepIn K (.ref f1) = true)
    {f2 : Addr} {od2 an2 : Option Addr} {sl2 : Array (Option Value)} {oc2 kV2 dc2 pm2 cd2 ct2 : Value}
    (a2 : PySem.W.nsIn K mainGlobals "quotient" = some (some (.ref f2))) (l2 : K.lookup f2 = some ⟨oc2, od2, .func (PySem.W.fnOf "quotient" "quotient" (defArgs s_quotient) (defBody s_quotient) (defScope s_quotient) .none kV2 dc2 pm2 an2 cd2 ct2), sl2⟩) (c2 : PySem.W.codeIn K cd2 "quotient" = true) (k2 : PySem.W.keepIn K (.ref f2) = true)
    {f3 : Addr} {od3 an3 : Option Addr} {sl3 : Array (Option Value)} {oc3 kV3 dc3 pm3 cd3 ct3 : Value}
    (a3 : PySem.W.nsIn K mainGlobals "divided" = some (some (.ref f3))) (l3 : K.lookup f3 = some ⟨oc3, od3, .func (PySem.W.fnOf "divided" "divided" (defArgs s_divided) (defBody s_divided) (defScope s_divided) .none kV3 dc3 pm3 an3 cd3 ct3), sl3⟩) (c3 : PySem.W.codeIn K cd3 "divided" = true) (k3 : PySem.W.keepIn K (.ref f3) = true)
    {f4 : Addr} {od4 an4 : Option Addr} {sl4 : Array (Option Value)} {oc4 kV4 dc4 pm4 cd4 ct4 : Value}
    (a4 : PySem.W.nsIn K mainGlobals "shifted" = some (some (.ref f4))) (l4 : K.lookup f4 = some ⟨oc4, od4, .func (PySem.W.fnOf "shifted" "shifted" (defArgs s_shifted) (defBody s_shifted) (defScope s_shifted) .none kV4 dc4 pm4 an4 cd4 ct4), sl4⟩) (c4 : PySem.W.codeIn K cd4 "shifted" = true) (k4 : PySem.W.keepIn K (.ref f4) = true)
    {f5 : Addr} {od5 an5 : Option Addr} {sl5 : Array (Option Value)} {oc5 kV5 dc5 pm5 cd5 ct5 : Value}
    (a5 : PySem.W.nsIn K mainGlobals "compared" = some (some (.ref f5))) (l5 : K.lookup f5 = some ⟨oc5, od5, .func (PySem.W.fnOf "compared" "compared" (defArgs s_compared) (defBody s_compared) (defScope s_compared) .none kV5 dc5 pm5 an5 cd5 ct5), sl5⟩) (c5 : PySem.W.codeIn K cd5 "compared" = true) (k5 : PySem.W.keepIn K (.ref f5) = true)
    {f6 : Addr} {od6 an6 : Option Addr} {sl6 : Array (Option Value)} {oc6 kV6 dc6 pm6 cd6 ct6 : Value}
    (a6 : PySem.W.nsIn K mainGlobals "apply" = some (some (.ref f6))) (l6 : K.lookup f6 = some ⟨oc6, od6, .func (PySem.W.fnOf "apply" "apply" (defArgs s_apply) (defBody s_apply) (defScope s_apply) .none kV6 dc6 pm6 an6 cd6 ct6), sl6⟩) (c6 : PySem.W.codeIn K cd6 "apply" = true) (k6 : PySem.W.keepIn K (.ref f6) = true)
    {f7 : Addr} {od7 an7 : Option Addr} {sl7 : Array (Option Value)} {oc7 kV7 dc7 pm7 cd7 ct7 : Value}
    (a7 : PySem.W.nsIn K mainGlobals "_law_cell_at" = some (some (.ref f7))) (l7 : K.lookup f7 = some ⟨oc7, od7, .func (PySem.W.fnOf "_law_cell_at" "_law_cell_at" (defArgs s__law_cell_at) (defBody s__law_cell_at) (defScope s__law_cell_at) .none kV7 dc7 pm7 an7 cd7 ct7), sl7⟩) (c7 : PySem.W.codeIn K cd7 "_law_cell_at" = true) (k7 : PySem.W.keepIn K (.ref f7) = true)
    {f8 : Addr} {od8 an8 : Option Addr} {sl8 : Array (Option Value)} {oc8 kV8 dc8 pm8 cd8 ct8 : Value}
    (a8 : PySem.W.nsIn K mainGlobals "_law_draw" = some (some (.ref f8))) (l8 : K.lookup f8 = some ⟨oc8, od8, .func (PySem.W.fnOf "_law_draw" "_law_draw" (defArgs s__law_draw) (defBody s__law_draw) (defScope s__law_draw) .none kV8 dc8 pm8 an8 cd8 ct8), sl8⟩) (c8 : PySem.W.codeIn K cd8 "_law_draw" = true) (k8 : PySem.W.keepIn K (.ref f8) = true)
    {f9 : Addr} {od9 an9 : Option Addr} {sl9 : Array (Option Value)} {oc9 kV9 dc9 pm9 cd9 ct9 : Value}
    (a9 : PySem.W.nsIn K mainGlobals "_law_number" = some (some (.ref f9))) (l9 : K.lookup f9 = some ⟨oc9, od9, .func (PySem.W.fnOf "_law_number" "_law_number" (defArgs s__law_number) (defBody s__law_number) (defScope s__law_number) .none kV9 dc9 pm9 an9 cd9 ct9), sl9⟩) (c9 : PySem.W.codeIn K cd9 "_law_number" = true) (k9 : PySem.W.keepIn K (.ref f9) = true)
    {f10 : Addr} {od10 an10 : Option Addr} {sl10 : Array (Option Value)} {oc10 kV10 dc10 pm10 cd10 ct10 : Value}
    (a10 : PySem.W.nsIn K mainGlobals "_law_next" = some (some (.ref f10))) (l10 : K.lookup f10 = some ⟨oc10, od10, .func (PySem.W.fnOf "_law_next" "_law_next" (defArgs s__law_next) (defBody s__law_next) (defScope s__law_next) .none kV10 dc10 pm10 an10 cd10 ct10), sl10⟩) (c10 : PySem.W.codeIn K cd10 "_law_next" = true) (k10 : PySem.W.keepIn K (.ref f10) = true)
    {f11 : Addr} {od11 an11 : Option Addr} {sl11 : Array (Option Value)} {oc11 kV11 dc11 pm11 cd11 ct11 : Value}
    (a11 : PySem.W.nsIn K mainGlobals "_law_pick" = some (some (.ref f11))) (l11 : K.lookup f11 = some ⟨oc11, od11, .func (PySem.W.fnOf "_law_pick" "_law_pick" (defArgs s__law_pick) (defBody s__law_pick) (defScope s__law_pick) .none kV11 dc11 pm11 an11 cd11 ct11), sl11⟩) (c11 : PySem.W.codeIn K cd11 "_law_pick" = true) (k11 : PySem.W.keepIn K (.ref f11) = true)
    {f12 : Addr} {od12 an12 : Option Addr} {sl12 : Array (Option Value)} {oc12 kV12 dc12 pm12 cd12 ct12 : Value}
    (a12 : PySem.W.nsIn K mainGlobals "_law_word" = some (some (.ref f12))) (l12 : K.lookup f12 = some ⟨oc12, od12, .func (PySem.W.fnOf "_law_word" "_law_word" (defArgs s__law_word) (defBody s__law_word) (defScope s__law_word) .none kV12 dc12 pm12 an12 cd12 ct12), sl12⟩) (c12 : PySem.W.codeIn K cd12 "_law_word" = true) (k12 : PySem.W.keepIn K (.ref f12) = true)
    {f13 : Addr} {od13 an13 : Option Addr} {sl13 : Array (Option Value)} {oc13 kV13 dc13 pm13 cd13 ct13 : Value}
    (a13 : PySem.W.nsIn K mainGlobals "_law_signed" = some (some (.ref f13))) (l13 : K.lookup f13 = some ⟨oc13, od13, .func (PySem.W.fnOf "_law_signed" "_law_signed" (defArgs s__law_signed) (defBody s__law_signed) (defScope s__law_signed) .none kV13 dc13 pm13 an13 cd13 ct13), sl13⟩) (c13 : PySem.W.codeIn K cd13 "_law_signed" = true) (k13 : PySem.W.keepIn K (.ref f13) = true)
    {f14 : Addr} {od14 an14 : Option Addr} {sl14 : Array (Option Value)} {oc14 kV14 dc14 pm14 cd14 ct14 : Value}
    (a14 : PySem.W.nsIn K mainGlobals "_law_quotient" = some (some (.ref f14))) (l14 : K.lookup f14 = some ⟨oc14, od14, .func (PySem.W.fnOf "_law_quotient" "_law_quotient" (defArgs s__law_quotient) (defBody s__law_quotient) (defScope s__law_quotient) .none kV14 dc14 pm14 an14 cd14 ct14), sl14⟩) (c14 : PySem.W.codeIn K cd14 "_law_quotient" = true) (k14 : PySem.W.keepIn K (.ref f14) = true)
    {f15 : Addr} {od15 an15 : Option Addr} {sl15 : Array (Option Value)} {oc15 kV15 dc15 pm15 cd15 ct15 : Value}
    (a15 : PySem.W.nsIn K mainGlobals "_law_power" = some (some (.ref f15))) (l15 : K.lookup f15 = some ⟨oc15, od15, .func (PySem.W.fnOf "_law_power" "_law_power" (defArgs s__law_power) (defBody s__law_power) (defScope s__law_power) .none kV15 dc15 pm15 an15 cd15 ct15), sl15⟩) (c15 : PySem.W.codeIn K cd15 "_law_power" = true) (k15 : PySem.W.keepIn K (.ref f15) = true)
    {f16 : Addr} {od16 an16 : Option Addr} {sl16 : Array (Option Value)} {oc16 kV16 dc16 pm16 cd16 ct16 : Value}
    (a16 : PySem.W.nsIn K mainGlobals "_law_bits" = some (some (.ref f16))) (l16 : K.lookup f16 = some ⟨oc16, od16, .func (PySem.W.fnOf "_law_bits" "_law_bits" (defArgs s__law_bits) (defBody s__law_bits) (defScope s__law_bits) .none kV16 dc16 pm16 an16 cd16 ct16), sl16⟩) (c16 : PySem.W.codeIn K cd16 "_law_bits" = true) (k16 : PySem.W.keepIn K (.ref f16) = true)
    {f17 : Addr} {od17 an17 : Option Addr} {sl17 : Array (Option Value)} {oc17 kV17 dc17 pm17 cd17 ct17 : Value}
    (a17 : PySem.W.nsIn K mainGlobals "_law_due" = some (some (.ref f17))) (l17 : K.lookup f17 = some ⟨oc17, od17, .func (PySem.W.fnOf "_law_due" "_law_due" (defArgs s__law_due) (defBody s__law_due) (defScope s__law_due) .none kV17 dc17 pm17 an17 cd17 ct17), sl17⟩) (c17 : PySem.W.codeIn K cd17 "_law_due" = true) (k17 : PySem.W.keepIn K (.ref f17) = true)
    {f18 : Addr} {od18 an18 : Option Addr} {sl18 : Array (Option Value)} {oc18 kV18 dc18 pm18 cd18 ct18 : Value}
    (a18 : PySem.W.nsIn K mainGlobals "law" = some (some (.ref f18))) (l18 : K.lookup f18 = some ⟨oc18, od18, .func (PySem.W.fnOf "law" "law" (defArgs s_law) (defBody s_law) (defScope s_law) .none kV18 dc18 pm18 an18 cd18 ct18), sl18⟩) (c18 : PySem.W.codeIn K cd18 "law" = true) (k18 : PySem.W.keepIn K (.ref f18) = true)
    (z_abs : PySem.W.nsIn K mainGlobals "abs" = some none)
    (z_int : PySem.W.nsIn K mainGlobals "int" = some none)
    (z_len : PySem.W.nsIn K mainGlobals "len" = some none)
    (z_max : PySem.W.nsIn K mainGlobals "max" = some none)
    (z_range : PySem.W.nsIn K mainGlobals "range" = some none)
    {t_HALF : Tok} (g_HALF : PySem.W.nsIn K mainGlobals "HALF" = some (some (.int 2147483648 t_HALF)))
    {t_ROUND : Tok} (g_ROUND : PySem.W.nsIn K mainGlobals "ROUND" = some (some (.int 4294967296 t_ROUND))) :
    ∃ fd : FuncData, (∀ (s : Shared) (v : Value), BindsTo s fd ⟨[v], []⟩ [("_law_script", v)]) ∧ ∀ base : Heap, K.In base → base.Ns mainGlobals mg → FnOk l.prog w K mg base (L2.CX l.prog w) 6 fa fd ["_law_script"] (spI ⟨l.prog, w, K⟩ (fun _ => none) 1 F_law) := by
  have e := hfa.symm.trans (PySem.W.mg_of X G a18)
  cases e
  have T := tx_mk X G a0 l0 c0 k0 a1 l1 c1 k1 a2 l2 c2 k2 a3 l3 c3 k3 a4 l4 c4 k4 a5 l5 c5 k5 a6 l6 c6 k6 a7 l7 c7 k7 a8 l8 c8 k8 a9 l9 c9 k9 a10 l10 c10 k10 a11 l11 c11 k11 a12 l12 c12 k12 a13 l13 c13 k13 a14 l14 c14 k14 a15 l15 c15 k15 a16 l16 c16 k16 a17 l17 c17 k17 a18 l18 c18 k18 z_abs z_int z_len z_max z_range g_HALF g_ROUND
  exact ⟨PySem.W.fnOf "law" "law" (defArgs s_law) (defBody s_law) (defScope s_law) .none kV18 dc18 pm18 an18 cd18 ct18, fun s v => .of_eq rfl, fun base _ _ => ok_law (base := base) (P := l.prog) (w := w) (cl := fun _ => none) T⟩
theorem law_sp {P : Program} {w : World} {K : PySem.W.Frag} {H : Hp} {a : Addr} {ns : List Int} (h : ∃ cs, F_law [.k (ns.map .int)] [] = some (.ok (.d (.bool true)) cs)) (hs : SqL K H a (ns.map V.int)) :
    spI ⟨P, w, K⟩ (fun _ => none) 1 F_law [.ref a] H (fun v _ => v = .bl true) (fun _ _ _ => False) := by
  obtain ⟨cs, h⟩ := h
  refine ⟨rfl, fun _ => False, [], [], [.k (ns.map .int)], ⟨rfl, List.nodup_nil, fun a h => h.elim, fun a h => by simp at h, fun a h => by simp at h, fun n c a h => by simp at h⟩, ?_, ?_⟩
  · refine .cons ⟨a, _, rfl, ?_, RDs.mk_ints⟩ .nil
    rcases hs with hs | hs
    · exact .inl ⟨hs, fun z => Lv.nil.mp z⟩
    · exact .inr hs
  · rw [h]
    intro v H' ρ' R' G' r'
    exact r'
theorem nocx {P : Program} {w : World} {H : Hp} {s s' : Shared} {e : Value} (h : L2.CX P w [] H s (fun _ _ _ => False) e s') : False := by
  obtain ⟨_, _, _, _, _, _, _, _, _, _, _, _, z⟩ := h
  exact z.elim
end Pg
open PySem PySem.W PyProof.Rows
theorem PySem.Challenge.cw_trueimage_k01_whole_words_holds : PySem.Challenge.rw_trueimage_k01_whole_words.Holds := by
  w_on; o_law; k_head; (case hw => w_witness2)
  k_fill
  refine L2.walk_of (l := PySem.Challenge.rw_trueimage_k01_whole_words) (n := 63) (k := 6) (x := "_law_script") (CX := fun w => L2.CX PySem.Challenge.rw_trueimage_k01_whole_words.prog w) (sp := fun w => Sm.spI ⟨PySem.Challenge.rw_trueimage_k01_whole_words.prog, w, _⟩ (fun _ => none) 1 Pg.F_law) rfl (by decide) rfl ⟨rfl, by decide, by decide⟩ (fun w h Y => PySem.W.kIn_of Y) ?F (fun _ _ a ns hl _ hS => Pg.law_sp (Pg.law_true ns hl) hS) (fun _ _ _ _ _ h => Pg.nocx h)
  case F =>
    intro w mg fa h KX G hmg
    refine' Pg.all_mk KX G hmg ?a0 ?l0 ?c0 ?k0 ?a1 ?l1 ?c1 ?k1 ?a2 ?l2 ?c2 ?k2 ?a3 ?l3 ?c3 ?k3 ?a4 ?l4 ?c4 ?k4 ?a5 ?l5 ?c5 ?k5 ?a6 ?l6 ?c6 ?k6 ?a7 ?l7 ?c7 ?k7 ?a8 ?l8 ?c8 ?k8 ?a9 ?l9 ?c9 ?k9 ?a10 ?l10 ?c10 ?k10 ?a11 ?l11 ?c11 ?k11 ?a12 ?l12 ?c12 ?k12 ?a13 ?l13 ?c13 ?k13 ?a14 ?l14 ?c14 ?k14 ?a15 ?l15 ?c15 ?k15 ?a16 ?l16 ?c16 ?k16 ?a17 ?l17 ?c17 ?k17 ?a18 ?l18 ?c18 ?k18 ?z_abs ?z_int ?z_len ?z_max ?z_range ?g_HALF ?g_ROUND
    (case a0 => k_is); (case l0 => k_is); (case c0 => k_is); (case k0 => k_is); (case a1 => k_is); (case l1 => k_is); (case c1 => k_is); (case k1 => k_is); (case a2 => k_is); (case l2 => k_is); (case c2 => k_is); (case k2 => k_is); (case a3 => k_is); (case l3 => k_is); (case c3 => k_is); (case k3 => k_is); (case a4 => k_is); (case l4 => k_is); (case c4 => k_is); (case k4 => k_is); (case a5 => k_is); (case l5 => k_is); (case c5 => k_is); (case k5 => k_is); (case a6 => k_is); (case l6 => k_is); (case c6 => k_is); (case k6 => k_is); (case a7 => k_is); (case l7 => k_is); (case c7 => k_is); (case k7 => k_is); (case a8 => k_is); (case l8 => k_is); (case c8 => k_is); (case k8 => k_is); (case a9 => k_is); (case l9 => k_is); (case c9 => k_is); (case k9 => k_is); (case a10 => k_is); (case l10 => k_is); (case c10 => k_is); (case k10 => k_is); (case a11 => k_is); (case l11 => k_is); (case c11 => k_is); (case k11 => k_is); (case a12 => k_is); (case l12 => k_is); (case c12 => k_is); (case k12 => k_is); (case a13 => k_is); (case l13 => k_is); (case c13 => k_is); (case k13 => k_is); (case a14 => k_is); (case l14 => k_is); (case c14 => k_is); (case k14 => k_is); (case a15 => k_is); (case l15 => k_is); (case c15 => k_is); (case k15 => k_is); (case a16 => k_is); (case l16 => k_is); (case c16 => k_is); (case k16 => k_is); (case a17 => k_is); (case l17 => k_is); (case c17 => k_is); (case k17 => k_is); (case a18 => k_is); (case l18 => k_is); (case c18 => k_is); (case k18 => k_is); (case z_abs => k_is); (case z_int => k_is); (case z_len => k_is); (case z_max => k_is); (case z_range => k_is); (case g_HALF => k_is); (case g_ROUND => k_is)
