import PyProof.Rows.All
import Wide.All
import OpenK.AllK
import Wide.FinOn
import HandS.ForMost
import HandS.TupAny
import HandS.SortInts
import HandS.SortRule
import HandS.IsInst
import HandS.Wide
import HandS.Deep
import HandS.DictComp
import HandS.Zip
import HandS.WordsDict
import HandS.Conv
import HandS.TupMul
import HandS.Defaults
import HandS.Style
import KE.KDictPairs
import HandS.DictTup
import HandS.ListItems
import HandS.HeadHook2
import HandS.Head0
import HandS.Head1
import HandS.Head2
import HandS.HeadEnd
import HandS.HeadHook1
import PySem.Challenge.RW_evertold_k34_whole_counts_told_exactly
set_option Elab.async false
set_option linter.all false
set_option maxRecDepth 100000
set_option maxHeartbeats 0
namespace Rf
open PySem L2

/-! ### data, cells, worlds -/
abbrev D := PyData
/-- what a mutable thing of a def's own holds -/
inductive Cell where
  | lst (ds : List D)
  | dK (kvs : List (Key × D))
  | dT (kvs : List (List Key × D))
/-- what an expression gives: data, a cell by its number, a new mutable thing, the law's script -/
inductive A where
  | dat (d : D)
  | cell (k : Nat)
  | new (c : Cell)
  | scr (ns : List Int)
  | ptu (ds : List D)
abbrev Sl := List (Option A)
abbrev Cs := List (Option (Bool × Cell))

def kD : Key → D
  | .inl i => .int i
  | .inr x => .str x
def tD (k : List Key) : D := .tuple (k.map kD)
def cD : Cell → D
  | .lst ds => .list ds
  | .dK kvs => .dict (kvs.map fun p => (kD p.1, p.2))
  | .dT kvs => .dict ((.none, .none) :: kvs.map fun p => (tD p.1, p.2))

mutual
inductive Dq (F : Addr → Prop) (H : Hp) : V → D → Prop
  | non : Dq F H .non .none
  | bl (b : Bool) : Dq F H (.bl b) (.bool b)
  | int (i : Int) : Dq F H (.int i) (.int i)
  | str (x : Str) : Dq F H (.str x) (.str x)
  | lst {a : Addr} {xs : List V} {ds : List D} : ¬ F a → H a = some (.lst xs) → xs.length ≤ sizeLine → DqA F H xs ds → Dq F H (.ref a) (.list ds)
  | tup {a : Addr} {xs : List V} {ds : List D} : ¬ F a → H a = some (.tup xs) → xs.length ≤ sizeLine → DqA F H xs ds → Dq F H (.ref a) (.tuple ds)
  | dK {a : Addr} {kv : List (Key × V)} {ds : List D} : ¬ F a → Rd H a (.dK kv) → DqA F H (kv.map (·.2)) ds → Dq F H (.ref a) (.dict ((kv.map fun p => kD p.1).zip ds))
  | dT {a : Addr} {kv : List (List Key × V)} {ds : List D} : ¬ F a → Rd H a (.dT kv) → DqA F H (kv.map (·.2)) ds → Dq F H (.ref a) (.dict ((.none, .none) :: (kv.map fun p => tD p.1).zip ds))
inductive DqA (F : Addr → Prop) (H : Hp) : List V → List D → Prop
  | nil : DqA F H [] []
  | cons {v : V} {vs : List V} {d : D} {ds : List D} : Dq F H v d → DqA F H vs ds → DqA F H (v :: vs) (d :: ds)
end

/-- from one heap and one set of forbidden addresses to others -/
structure Tr (F : Addr → Prop) (H : Hp) (F' : Addr → Prop) (H' : Hp) : Prop where
  fo : ∀ a, H a ≠ none → ¬ F a → ¬ F' a
  rd : ∀ a u, ¬ F a → Rd H a u → Rd H' a u
  ls : ∀ a xs, ¬ F a → H a = some (.lst xs) → H' a = some (.lst xs)
  tu : ∀ a xs, ¬ F a → H a = some (.tup xs) → H' a = some (.tup xs)
  fz : ∀ a o u, ¬ F a → H a = some (.frz o u) → H' a = some (.frz o u)
theorem rd_some {H : Hp} {a : Addr} {u : HO} (h : Rd H a u) : H a ≠ none := by
  rcases h with h | ⟨o, h⟩ <;> rw [h] <;> exact fun z => nomatch z
mutual
theorem Dq.tr {F F' : Addr → Prop} {H H' : Hp} (T : Tr F H F' H') : ∀ {v : V} {d : D}, Dq F H v d → Dq F' H' v d
  | _, _, .non => .non
  | _, _, .bl b => .bl b
  | _, _, .int i => .int i
  | _, _, .str x => .str x
  | _, _, .lst f h z q => .lst (T.fo _ (by rw [h]; exact fun z => nomatch z) f) (T.ls _ _ f h) z (DqA.tr T q)
  | _, _, .tup f h z q => .tup (T.fo _ (by rw [h]; exact fun z => nomatch z) f) (T.tu _ _ f h) z (DqA.tr T q)
  | _, _, .dK f h q => .dK (T.fo _ (rd_some h) f) (T.rd _ _ f h) (DqA.tr T q)
  | _, _, .dT f h q => .dT (T.fo _ (rd_some h) f) (T.rd _ _ f h) (DqA.tr T q)
theorem DqA.tr {F F' : Addr → Prop} {H H' : Hp} (T : Tr F H F' H') : ∀ {vs : List V} {ds : List D}, DqA F H vs ds → DqA F' H' vs ds
  | _, _, .nil => .nil
  | _, _, .cons a b => .cons (Dq.tr T a) (DqA.tr T b)
end
theorem DqA.len {F : Addr → Prop} {H : Hp} : ∀ {vs : List V} {ds : List D}, DqA F H vs ds → vs.length = ds.length
  | _, _, .nil => rfl
  | _, _, .cons _ b => congrArg (· + 1) (DqA.len b)
theorem DqA.get {F : Addr → Prop} {H : Hp} : ∀ {vs : List V} {ds : List D}, DqA F H vs ds → ∀ {i : Nat} {d : D}, ds[i]? = some d → ∃ v, vs[i]? = some v ∧ Dq F H v d
  | _, _, .nil, _, _, h => by simp at h
  | _, _, .cons a b, 0, _, h => by
    simp at h; subst h; exact ⟨_, rfl, a⟩
  | _, _, .cons a b, i + 1, _, h => by
    obtain ⟨v, e, q⟩ := DqA.get b (i := i) (by simpa using h)
    exact ⟨v, by simpa using e, q⟩
theorem DqA.getv {F : Addr → Prop} {H : Hp} : ∀ {vs : List V} {ds : List D}, DqA F H vs ds → ∀ {i : Nat} {v : V}, vs[i]? = some v → ∃ d, ds[i]? = some d ∧ Dq F H v d
  | _, _, .nil, _, _, h => by simp at h
  | _, _, .cons a b, 0, _, h => by
    simp at h; subst h; exact ⟨_, rfl, a⟩
  | _, _, .cons a b, i + 1, _, h => by
    obtain ⟨v, e, q⟩ := DqA.getv b (i := i) (by simpa using h)
    exact ⟨v, by simpa using e, q⟩
theorem DqA.app {F : Addr → Prop} {H : Hp} : ∀ {vs ws : List V} {ds es : List D}, DqA F H vs ds → DqA F H ws es → DqA F H (vs ++ ws) (ds ++ es)
  | _, _, _, _, .nil, q => q
  | _, _, _, _, .cons a b, q => .cons a (DqA.app b q)
theorem DqA.drop {F : Addr → Prop} {H : Hp} : ∀ (n : Nat) {vs : List V} {ds : List D}, DqA F H vs ds → DqA F H (vs.drop n) (ds.drop n)
  | 0, _, _, q => q
  | _ + 1, _, _, .nil => .nil
  | n + 1, _, _, .cons _ b => DqA.drop n b
theorem DqA.take {F : Addr → Prop} {H : Hp} : ∀ (n : Nat) {vs : List V} {ds : List D}, DqA F H vs ds → DqA F H (vs.take n) (ds.take n)
  | 0, _, _, _ => .nil
  | _ + 1, _, _, .nil => .nil
  | n + 1, _, _, .cons a b => .cons a (DqA.take n b)
theorem DqA.set {F : Addr → Prop} {H : Hp} {v : V} {d : D} (q : Dq F H v d) : ∀ (i : Nat) {vs : List V} {ds : List D}, DqA F H vs ds → DqA F H (vs.set i v) (ds.set i d)
  | _, _, _, .nil => .nil
  | 0, _, _, .cons _ b => .cons q b
  | i + 1, _, _, .cons a b => .cons a (DqA.set q i b)
theorem DqA.ints {F : Addr → Prop} {H : Hp} : ∀ {vs : List V} {ns : List Int}, DqA F H vs (ns.map PyData.int) → vs = ns.map V.int
  | _, [], .nil => rfl
  | _, n :: ns, .cons a b => by
    cases a
    rw [DqA.ints b]; rfl
theorem DqA.mkInts {F : Addr → Prop} {H : Hp} : ∀ (ns : List Int), DqA F H (ns.map V.int) (ns.map PyData.int)
  | [] => .nil
  | n :: ns => .cons (.int n) (DqA.mkInts ns)
theorem DqA.bools {F : Addr → Prop} {H : Hp} : ∀ {vs : List V} {ns : List Bool}, DqA F H vs (ns.map PyData.bool) → vs = ns.map V.bl
  | _, [], .nil => rfl
  | _, n :: ns, .cons a b => by
    cases a
    rw [DqA.bools b]; rfl
theorem DqA.rev {F : Addr → Prop} {H : Hp} {vs : List V} {ds : List D} (h : DqA F H vs ds) : DqA F H vs.reverse ds.reverse := by
  induction vs generalizing ds with
  | nil => cases h; exact .nil
  | cons v vs ih =>
    cases h with
    | cons a b =>
      rw [List.reverse_cons, List.reverse_cons]
      exact (ih b).app (.cons a .nil)

/-! ### heaps that go on -/
def Ev (M : Addr → Prop) (H H' : Hp) : Prop := ∀ a o, H a = some o → ¬ M a → H' a = some o
def Ex (H H' : Hp) : Prop := ∀ a o, H a = some o → H' a = some o
theorem Ex.refl (H : Hp) : Ex H H := fun _ _ h => h
theorem Ex.trans {H H1 H2 : Hp} (a : Ex H H1) (b : Ex H1 H2) : Ex H H2 := fun x o h => b x o (a x o h)
theorem Ex.new {H : Hp} {p : Addr} {o : HO} (h : H p = none) : Ex H (upd H p o) := fun a u e => by
  rw [upd_ne (ne_of_none e h)]
  exact e
theorem Ex.ev {M : Addr → Prop} {H H' : Hp} (e : Ex H H') : Ev M H H' := fun a o h _ => e a o h
theorem Ev.refl {M : Addr → Prop} (H : Hp) : Ev M H H := fun _ _ h _ => h
theorem Ev.trans {M : Addr → Prop} {H H1 H2 : Hp} (a : Ev M H H1) (b : Ev M H1 H2) : Ev M H H2 := fun x o h n => b x o (a x o h n) n
theorem Ev.mono {M M' : Addr → Prop} {H H1 : Hp} (a : Ev M H H1) (h : ∀ x, M x → M' x) : Ev M' H H1 := fun x o e n => a x o e fun z => n (h x z)
theorem Ev.rd {M : Addr → Prop} {H H' : Hp} {a : Addr} {u : HO} (e : Ev M H H') (h : Rd H a u) (n : ¬ M a) : Rd H' a u := by
  rcases h with h | ⟨o, h⟩
  · exact .inl (e a _ h n)
  · exact .inr ⟨o, e a _ h n⟩
theorem Tr.of {F M : Addr → Prop} {H H' : Hp} (e : Ev M H H') (mf : ∀ a, M a → F a) : Tr F H F H' :=
  ⟨fun _ _ n => n, fun _ _ n r => e.rd r fun z => n (mf _ z), fun _ _ n h => e _ _ h fun z => n (mf _ z), fun _ _ n h => e _ _ h fun z => n (mf _ z), fun _ _ _ n h => e _ _ h fun z => n (mf _ z)⟩
theorem Tr.ofF {F F' M : Addr → Prop} {H H' : Hp} (e : Ev M H H') (mf : ∀ a, M a → F a) (hf : ∀ a, F' a → F a ∨ H a = none) : Tr F H F' H' :=
  ⟨fun a h n z => (hf a z).elim n h, fun _ _ n r => e.rd r fun z => n (mf _ z), fun _ _ n h => e _ _ h fun z => n (mf _ z), fun _ _ n h => e _ _ h fun z => n (mf _ z), fun _ _ _ n h => e _ _ h fun z => n (mf _ z)⟩
theorem Tr.weak {F F' : Addr → Prop} {H : Hp} (h : ∀ a, F' a → F a) : Tr F H F' H := ⟨fun a _ n z => n (h a z), fun _ _ _ r => r, fun _ _ _ r => r, fun _ _ _ r => r, fun _ _ _ _ r => r⟩

/-! ### cells in the heap -/
def CellOk (F : Addr → Prop) (H : Hp) (p : Addr) (b : Bool) : Cell → Prop
  | .lst ds => ∃ xs, H p = some (.lst xs) ∧ xs.length ≤ sizeLine ∧ DqA F H xs ds
  | .dK kvs => ∃ kv : List (Key × V), (if b = true then ∃ o, H p = some (.frz o (.dK kv)) else H p = some (.dK kv)) ∧ kv.map (·.1) = kvs.map (·.1) ∧ DqA F H (kv.map (·.2)) (kvs.map (·.2))
  | .dT kvs => ∃ kv : List (List Key × V), (if b = true then ∃ o, H p = some (.frz o (.dT kv)) else H p = some (.dT kv)) ∧ kv.map (·.1) = kvs.map (·.1) ∧ DqA F H (kv.map (·.2)) (kvs.map (·.2))
theorem CellOk.tr {F F' : Addr → Prop} {H H' : Hp} {p : Addr} {b : Bool} (T : Tr F H F' H') (hp : ∀ o, H p = some o → H' p = some o) : ∀ {c : Cell}, CellOk F H p b c → CellOk F' H' p b c
  | .lst ds, ⟨xs, h, z, q⟩ => ⟨xs, hp _ h, z, q.tr T⟩
  | .dK kvs, ⟨kv, h, e, q⟩ => ⟨kv, by
      cases b with
      | true => obtain ⟨o, h⟩ := h; exact ⟨o, hp _ h⟩
      | false => exact hp _ h, e, q.tr T⟩
  | .dT kvs, ⟨kv, h, e, q⟩ => ⟨kv, by
      cases b with
      | true => obtain ⟨o, h⟩ := h; exact ⟨o, hp _ h⟩
      | false => exact hp _ h, e, q.tr T⟩
theorem CellOk.has {F : Addr → Prop} {H : Hp} {p : Addr} {b : Bool} : ∀ {c : Cell}, CellOk F H p b c → H p ≠ none
  | .lst ds, ⟨xs, h, z, q⟩ => by rw [h]; exact fun z => nomatch z
  | .dK kvs, ⟨kv, h, e, q⟩ => by
      cases b with
      | true => obtain ⟨o, h⟩ := h; rw [h]; exact fun z => nomatch z
      | false => rw [show H p = _ from h]; exact fun z => nomatch z
  | .dT kvs, ⟨kv, h, e, q⟩ => by
      cases b with
      | true => obtain ⟨o, h⟩ := h; rw [h]; exact fun z => nomatch z
      | false => rw [show H p = _ from h]; exact fun z => nomatch z

/-- what may not be touched as data (F), what may change (M), where the cells stand -/
structure W where
  F : Addr → Prop
  C : Addr → Prop
  M : Addr → Prop
  ad : Nat → Addr
structure WOk (w : W) (H : Hp) (cs : Cs) : Prop where
  fx : ∀ a, w.F a → H a ≠ none
  cf : ∀ a, w.C a → w.F a
  mc : ∀ a, w.M a → w.C a
  cl : ∀ k b c, cs[k]? = some (some (b, c)) → w.C (w.ad k) ∧ (b = false → w.M (w.ad k)) ∧ (b = true → ¬ w.M (w.ad k)) ∧ CellOk w.F H (w.ad k) b c
  inj : ∀ j k x y, cs[j]? = some (some x) → cs[k]? = some (some y) → w.ad j = w.ad k → j = k

theorem WOk.mf {w : W} {H : Hp} {cs : Cs} (k : WOk w H cs) (a : Addr) (h : w.M a) : w.F a := k.cf a (k.mc a h)
section
variable (K : PySem.W.Frag)
def ScrOk (F : Addr → Prop) (H : Hp) (p : Addr) (ns : List Int) : Prop := (¬ F p ∧ Rd H p (.lst (ns.map V.int))) ∨
    ∃ (o : Obj) (its : Array Value) (n : Nat), K.lookup p = some o ∧ o.cls = .type "list" ∧ o.dict = none ∧ o.data = .seq its n ∧ its.size ≤ sizeLine ∧ Vals (ns.map V.int) its.toList
theorem ScrOk.sq {K : PySem.W.Frag} {F : Addr → Prop} {H : Hp} {p : Addr} {ns : List Int} (h : ScrOk K F H p ns) : SqL K H p (ns.map V.int) := by
  rcases h with ⟨_, h⟩ | h
  · exact .inl h
  · exact .inr h
theorem ScrOk.tr {K : PySem.W.Frag} {F F' : Addr → Prop} {H H' : Hp} {p : Addr} {ns : List Int} (T : Tr F H F' H') (h : ScrOk K F H p ns) : ScrOk K F' H' p ns := by
  rcases h with ⟨n, h⟩ | h
  · exact .inl ⟨T.fo _ (rd_some h) n, T.rd _ _ n h⟩
  · exact .inr h
/-- a tuple whose object is known to be plain -/
def PtuOk (F : Addr → Prop) (H : Hp) (v : V) (ds : List D) : Prop := ∃ (p : Addr) (o : Obj) (xs : List V), v = .ref p ∧ ¬ F p ∧ H p = some (.frz o (.tup xs)) ∧ o.cls = .type "tuple" ∧ o.dict = none ∧ xs.length ≤ sizeLine ∧ DqA F H xs ds
theorem PtuOk.tr {F F' : Addr → Prop} {H H' : Hp} {v : V} {ds : List D} (T : Tr F H F' H') (h : PtuOk F H v ds) : PtuOk F' H' v ds := by
  obtain ⟨p, o, xs, h1, h2, h3, h4, h5, h6, h7⟩ := h
  exact ⟨p, o, xs, h1, T.fo _ (by rw [h3]; exact fun z => nomatch z) h2, T.fz _ _ _ h2 h3, h4, h5, h6, h7.tr T⟩
/-- a value in a slot -/
def AOk (w : W) (H : Hp) (v : V) : A → Prop
  | .dat d => Dq w.F H v d
  | .cell k => v = .ref (w.ad k)
  | .new _ => False
  | .scr ns => ∃ p, v = .ref p ∧ ScrOk K w.F H p ns
  | .ptu ds => PtuOk w.F H v ds
structure SlOk (w : W) (H : Hp) (σ : St) (sl : Sl) : Prop where
  len : σ.length = sl.length
  at_ : ∀ (i : Nat) (a : A), sl[i]? = some (some a) → ∃ v, σ[i]? = some (some v) ∧ AOk K w H v a
/-- what an operation gives -/
def NOk (F : Addr → Prop) (H H' : Hp) (v : V) : A → Prop
  | .dat d => Dq F H' v d
  | .new c => ∃ p, v = .ref p ∧ H p = none ∧ CellOk (fun a => F a ∨ a = p) H' p false c
  | .ptu ds => PtuOk F H' v ds
  | .cell _ => False
  | .scr _ => False
/-- what an expression gives -/
def ROk (w : W) (H H' : Hp) (v : V) : A → Prop
  | .dat d => Dq w.F H' v d
  | .cell k => v = .ref (w.ad k)
  | .new c => ∃ p, v = .ref p ∧ H p = none ∧ CellOk (fun a => w.F a ∨ a = p) H' p false c
  | .scr ns => ∃ p, v = .ref p ∧ ScrOk K w.F H' p ns
  | .ptu ds => PtuOk w.F H' v ds
end

abbrev ME := Sl → Cs → Option (A × Cs)
abbrev MT := Sl → Cs → Option (Bool × Cs)
abbrev MA := Sl → Cs → Option (List A × Cs)

theorem fresh_back {M F : Addr → Prop} {H H' : Hp} (e : Ev M H H') (mf : ∀ a, M a → F a) (fx : ∀ a, F a → H' a ≠ none) {p : Addr} (h : H' p = none) : H p = none := by
  cases h1 : H p with
  | none => rfl
  | some o =>
    by_cases m : M p
    · exact absurd h (fx p (mf p m))
    · rw [e p o h1 m] at h; cases h

section
variable {K : PySem.W.Frag} {w : W} {H H1 H2 : Hp} {cs cs1 : Cs} {v : V}
theorem WOk.tr (k : WOk w H cs) (e : Ev w.M H H1) : Tr w.F H w.F H1 := Tr.of e k.mf
theorem AOk.mono (mf : ∀ a, w.M a → w.F a) (e : Ev w.M H H1) : ∀ {a : A}, AOk K w H v a → AOk K w H1 v a
  | .dat d, h => Dq.tr (Tr.of e mf) h
  | .cell k, h => h
  | .new _, h => h
  | .scr ns, ⟨p, h1, h2⟩ => ⟨p, h1, h2.tr (Tr.of e mf)⟩
  | .ptu ds, h => PtuOk.tr (Tr.of e mf) h
theorem SlOk.mono {σ : St} {sl : Sl} (h : SlOk K w H σ sl) (mf : ∀ a, w.M a → w.F a) (e : Ev w.M H H1) : SlOk K w H1 σ sl :=
  ⟨h.len, fun i a hi => let ⟨v, h1, h2⟩ := h.at_ i a hi; ⟨v, h1, h2.mono mf e⟩⟩
/-- the world with one more address that may not be touched -/
abbrev W.ban (w : W) (p : Addr) : W := { w with F := fun a => w.F a ∨ a = p }
theorem Tr.ban {F : Addr → Prop} {p : Addr} (h : H p = none) : Tr F H (fun a => F a ∨ a = p) H :=
  ⟨fun a ha n z => z.elim n (fun e => ha (e ▸ h)), fun _ _ _ r => r, fun _ _ _ r => r, fun _ _ _ r => r, fun _ _ _ _ r => r⟩
theorem AOk.trF {w w' : W} (T : Tr w.F H w'.F H1) (ha : w'.ad = w.ad) : ∀ {a : A}, AOk K w H v a → AOk K w' H1 v a
  | .dat d, h => Dq.tr T h
  | .cell k, h => by show v = .ref (w'.ad k); rw [ha]; exact h
  | .new _, h => h
  | .scr ns, ⟨p, h1, h2⟩ => ⟨p, h1, h2.tr T⟩
  | .ptu ds, h => PtuOk.tr T h
theorem SlOk.trF {w w' : W} {σ : St} {sl : Sl} (h : SlOk K w H σ sl) (T : Tr w.F H w'.F H1) (ha : w'.ad = w.ad) : SlOk K w' H1 σ sl :=
  ⟨h.len, fun i a hi => let ⟨v, h1, h2⟩ := h.at_ i a hi; ⟨v, h1, h2.trF T ha⟩⟩
theorem ROk.mono (k : WOk w H1 cs) (f : H = H ∧ ∀ p, H p = none → ¬ w.F p) (e : Ev w.M H1 H2) : ∀ {a : A}, ROk K w H H1 v a → ROk K w H H2 v a
  | .dat d, h => Dq.tr (Tr.of e k.mf) h
  | .cell k, h => h
  | .new c, ⟨p, h1, h2, h3⟩ => ⟨p, h1, h2, h3.tr (Tr.of (F := fun a => w.F a ∨ a = p) e (fun a z => .inl (k.mf a z))) fun o ho => e p o ho fun z => f.2 p h2 (k.mf p z)⟩
  | .scr ns, ⟨p, h1, h2⟩ => ⟨p, h1, h2.tr (Tr.of e k.mf)⟩
  | .ptu ds, h => PtuOk.tr (Tr.of e k.mf) h
theorem ROk.back (hb : ∀ p, H1 p = none → H p = none) : ∀ {a : A}, ROk K w H1 H2 v a → ROk K w H H2 v a
  | .dat d, h => h
  | .cell k, h => h
  | .new c, ⟨p, h1, h2, h3⟩ => ⟨p, h1, hb p h2, h3⟩
  | .scr ns, h => h
  | .ptu ds, h => h
theorem ROk.ofN (h : NOk w.F H H1 v a) : ROk K w H H1 v a := by
  cases a with
  | dat d => exact h
  | new c => exact h
  | cell k => exact h.elim
  | scr ns => exact h.elim
  | ptu ds => exact h
theorem ROk.ofA {a : A} (h : AOk K w H v a) : ROk K w H1 H v a := by
  cases a with
  | dat d => exact h
  | new c => exact h.elim
  | cell k => exact h
  | scr ns => exact h
  | ptu ds => exact h
end

/-! ### data as it is read -/
/-- of a cell, a new thing, data: what may be read there -/
inductive Dv (F : Addr → Prop) (H : Hp) : V → D → Prop
  | dat {v : V} {d : D} : Dq F H v d → Dv F H v d
  | cl {p : Addr} {b : Bool} {c : Cell} : CellOk F H p b c → Dv F H (.ref p) (cD c)
  | ptu {v : V} {ds : List D} : PtuOk F H v ds → Dv F H v (.tuple ds)
def toD (cs : Cs) : A → Option D
  | .dat d => some d
  | .cell k => match cs[k]? with
    | some (some (_, c)) => some (cD c)
    | _ => none
  | .new c => some (cD c)
  | .scr _ => none
  | .ptu ds => some (.tuple ds)
def asD : A → Option D
  | .dat d => some d
  | .new c => some (cD c)
  | _ => none
section
variable {K : PySem.W.Frag} {w : W} {H H0 : Hp} {cs : Cs} {v : V} {F : Addr → Prop}
theorem ROk.dv {a : A} {d : D} (k : WOk w H cs) (h : ROk K w H0 H v a) (e : toD cs a = some d) : Dv w.F H v d := by
  cases a with
  | dat d' => cases e; exact .dat h
  | cell j =>
    simp only [toD] at e
    split at e
    · rename_i b c hc
      cases e
      rw [show v = _ from h]
      exact .cl (k.cl j b c hc).2.2.2
    · cases e
  | new c =>
    cases e
    obtain ⟨p, rfl, _, h3⟩ := h
    exact .cl (h3.tr (Tr.weak fun a z => .inl z) fun _ z => z)
  | scr ns => cases e
  | ptu ds => cases e; exact .ptu h
theorem kz1 (kv : List (Key × V)) : ∀ (kvs : List (Key × D)), kv.map (·.1) = kvs.map (·.1) → kvs.map (fun p => (kD p.1, p.2)) = (kv.map fun p => kD p.1).zip (kvs.map (·.2)) := by
  induction kv with
  | nil => intro kvs h; cases kvs with | nil => rfl | cons _ _ => cases h
  | cons a r ih =>
    intro kvs h
    cases kvs with
    | nil => cases h
    | cons b t =>
      simp only [List.map_cons, List.cons.injEq] at h
      simp only [List.map_cons, List.zip_cons_cons]
      rw [ih t h.2, h.1]
theorem kz2 (kv : List (List Key × V)) : ∀ (kvs : List (List Key × D)), kv.map (·.1) = kvs.map (·.1) → kvs.map (fun p => (tD p.1, p.2)) = (kv.map fun p => tD p.1).zip (kvs.map (·.2)) := by
  induction kv with
  | nil => intro kvs h; cases kvs with | nil => rfl | cons _ _ => cases h
  | cons a r ih =>
    intro kvs h
    cases kvs with
    | nil => cases h
    | cons b t =>
      simp only [List.map_cons, List.cons.injEq] at h
      simp only [List.map_cons, List.zip_cons_cons]
      rw [ih t h.2, h.1]
/-- a cell that is let go is data -/
theorem CellOk.dq {p : Addr} {c : Cell} (n : ¬ F p) (h : CellOk F H p false c) : Dq F H (.ref p) (cD c) := by
  cases c with
  | lst ds => obtain ⟨xs, h1, z, q⟩ := h; exact .lst n h1 z q
  | dK kvs =>
    obtain ⟨kv, h1, e, q⟩ := h
    show Dq F H _ (.dict _)
    rw [kz1 kv kvs e]
    exact .dK n (.inl h1) q
  | dT kvs =>
    obtain ⟨kv, h1, e, q⟩ := h
    show Dq F H _ (.dict _)
    show Dq F H _ (.dict ((.none, .none) :: kvs.map fun p => (tD p.1, p.2)))
    rw [kz2 kv kvs e]
    exact .dT n (.inl h1) q
theorem ROk.dq {a : A} {d : D} (k : WOk w H cs) (f : ∀ p, H0 p = none → ¬ w.F p) (h : ROk K w H0 H v a) (e : asD a = some d) : Dq w.F H v d := by
  cases a with
  | dat d' => cases e; exact h
  | cell j => cases e
  | new c =>
    cases e
    obtain ⟨p, rfl, h2, h3⟩ := h
    exact (h3.tr (F' := w.F) (Tr.weak fun a z => .inl z) fun _ z => z).dq (f p h2)
  | scr ns => cases e
  | ptu ds => cases e
theorem Dv.int {i : Int} (h : Dv F H v (.int i)) : v = .int i := by
  generalize e : PyData.int i = d at h
  cases h with
  | dat h => subst e; cases h; rfl
  | cl h => rename_i c; cases c <;> cases e
  | ptu h => cases e
theorem Dv.bl {b : Bool} (h : Dv F H v (.bool b)) : v = .bl b := by
  generalize e : PyData.bool b = d at h
  cases h with
  | dat h => subst e; cases h; rfl
  | cl h => rename_i c; cases c <;> cases e
  | ptu h => cases e
theorem Dv.str {b : Str} (h : Dv F H v (.str b)) : v = .str b := by
  generalize e : PyData.str b = d at h
  cases h with
  | dat h => subst e; cases h; rfl
  | cl h => rename_i c; cases c <;> cases e
  | ptu h => cases e
theorem Dv.non (h : Dv F H v .none) : v = .non := by
  generalize e : PyData.none = d at h
  cases h with
  | dat h => subst e; cases h; rfl
  | cl h => rename_i c; cases c <;> cases e
  | ptu h => cases e
theorem Dv.tup {ds : List D} (h : Dv F H v (.tuple ds)) : ∃ a xs, v = .ref a ∧ ¬ F a ∧ Rd H a (.tup xs) ∧ xs.length ≤ sizeLine ∧ DqA F H xs ds := by
  generalize e : PyData.tuple ds = d at h
  cases h with
  | dat h =>
    subst e
    cases h with
    | tup f h z q => exact ⟨_, _, rfl, f, .inl h, z, q⟩
  | cl h => rename_i c; cases c <;> cases e
  | ptu h =>
    cases e
    obtain ⟨p, o, xs, h1, h2, h3, h4, h5, h6, h7⟩ := h
    exact ⟨p, xs, h1, h2, .inr ⟨o, h3⟩, h6, h7⟩
/-- a tuple that is data through and through -/
theorem Dq.tupE {ds : List D} (h : Dq F H v (.tuple ds)) : ∃ a xs, v = .ref a ∧ ¬ F a ∧ H a = some (.tup xs) ∧ xs.length ≤ sizeLine ∧ DqA F H xs ds := by
  generalize e : PyData.tuple ds = d at h
  cases h with
  | tup f h z q => cases e; exact ⟨_, _, rfl, f, h, z, q⟩
  | _ => cases e
theorem Dv.lst {ds : List D} (h : Dv F H v (.list ds)) : ∃ a xs, v = .ref a ∧ H a = some (.lst xs) ∧ xs.length ≤ sizeLine ∧ DqA F H xs ds := by
  generalize e : PyData.list ds = d at h
  cases h with
  | dat h =>
    subst e
    cases h with
    | lst f h z q => exact ⟨_, _, rfl, h, z, q⟩
  | cl h =>
    rename_i c
    cases c with
    | lst es =>
      cases e
      obtain ⟨xs, h1, z, q⟩ := h
      exact ⟨_, xs, rfl, h1, z, q⟩
    | dK _ => cases e
    | dT _ => cases e
  | ptu h => cases e
/-- .. but no tuple that is kept apart -/
inductive Dn (F : Addr → Prop) (H : Hp) : V → D → Prop
  | dat {v : V} {d : D} : Dq F H v d → Dn F H v d
  | cl {p : Addr} {b : Bool} {c : Cell} : CellOk F H p b c → Dn F H (.ref p) (cD c)
theorem Dn.dv {d : D} (h : Dn F H v d) : Dv F H v d := by
  cases h with
  | dat h => exact .dat h
  | cl h => exact .cl h
theorem Dn.tup {ds : List D} (h : Dn F H v (.tuple ds)) : Dq F H v (.tuple ds) := by
  generalize e : PyData.tuple ds = d at h
  cases h with
  | dat h => subst e; exact h
  | cl h => rename_i c; cases c <;> cases e
def toDn (cs : Cs) : A → Option D
  | .dat d => some d
  | .cell k => match cs[k]? with
    | some (some (_, c)) => some (cD c)
    | _ => none
  | .new c => some (cD c)
  | .scr _ => none
  | .ptu _ => none
theorem ROk.dn {a : A} {d : D} (k : WOk w H cs) (h : ROk K w H0 H v a) (e : toDn cs a = some d) : Dn w.F H v d := by
  cases a with
  | dat d' => cases e; exact .dat h
  | cell j =>
    simp only [toDn] at e
    split at e
    · rename_i b c hc
      cases e
      rw [show v = _ from h]
      exact .cl (k.cl j b c hc).2.2.2
    · cases e
  | new c =>
    cases e
    obtain ⟨p, rfl, _, h3⟩ := h
    exact .cl (h3.tr (Tr.weak fun a z => .inl z) fun _ z => z)
  | scr ns => cases e
  | ptu ds => cases e
theorem Dv.mono {F' : Addr → Prop} {H' : Hp} {d : D} (e : Ex H H') (h : Dv F H v d) : Dv F H' v d := by
  cases h with
  | dat h => exact .dat (h.tr (Tr.of (M := fun _ => False) e.ev fun _ z => z.elim))
  | cl h => exact .cl (h.tr (Tr.of (M := fun _ => False) e.ev fun _ z => z.elim) fun o => e _ o)
  | ptu h => exact .ptu (h.tr (Tr.of (M := fun _ => False) e.ev fun _ z => z.elim))
end
end Rf

namespace Rf
open PySem L2

theorem WOk.ev {w : W} {H H' : Hp} {cs : Cs} (k : WOk w H cs) (e : Ex H H') : WOk w H' cs where
  fx := fun a f => by
    cases h : H a with
    | none => exact absurd h (k.fx a f)
    | some o => rw [e a o h]; exact fun z => nomatch z
  cf := k.cf
  mc := k.mc
  cl := fun j b c h => ⟨(k.cl j b c h).1, (k.cl j b c h).2.1, (k.cl j b c h).2.2.1, (k.cl j b c h).2.2.2.tr (k.tr e.ev) fun o => e _ o⟩
  inj := k.inj
theorem WOk.nf {w : W} {H : Hp} {cs : Cs} (k : WOk w H cs) {p : Addr} (h : H p = none) : ¬ w.F p := fun z => k.fx p z h
theorem WOk.nm {w : W} {H : Hp} {cs : Cs} (k : WOk w H cs) {p : Addr} (h : H p = none) : ¬ w.M p := fun z => k.nf h (k.mf p z)

/-- a new thing stands apart from all cells -/
def BOk (w : W) (H : Hp) (cs : Cs) (v : V) : A → Prop
  | .new _ => ∀ p, v = .ref p → WOk (w.ban p) H cs
  | _ => True
theorem WOk.banAt {w : W} {H H' : Hp} {cs : Cs} {p : Addr} (k : WOk w H cs) (hp : H p = none) (e : Ex H H') (hp' : H' p ≠ none) : WOk (w.ban p) H' cs where
  fx := fun a f => by
    rcases f with f | f
    · cases h : H a with
      | none => exact absurd h (k.fx a f)
      | some u => rw [e a u h]; exact fun z => nomatch z
    · subst f; exact hp'
  cf := fun a z => .inl (k.cf a z)
  mc := k.mc
  cl := fun j b c h => ⟨(k.cl j b c h).1, (k.cl j b c h).2.1, (k.cl j b c h).2.2.1, (k.cl j b c h).2.2.2.tr (Tr.ofF (M := fun _ => False) e.ev (fun _ z => z.elim) fun a z => z.elim .inl fun z => .inr (by rw [z]; exact hp)) fun o => e _ o⟩
  inj := k.inj
theorem BOk.ofN {w : W} {H H' : Hp} {cs : Cs} {v : V} {a : A} (k : WOk w H cs) (e : Ex H H') (n : NOk w.F H H' v a) : BOk w H' cs v a := by
  cases a with
  | dat d => trivial
  | cell j => trivial
  | scr ns => trivial
  | ptu ds => trivial
  | new c =>
    intro p hp
    obtain ⟨q, rfl, h1, h2⟩ := n
    cases hp
    exact k.banAt h1 e h2.has
section
variable (K : PySem.W.Frag)
def Ref (t : TE) (m : ME) : Prop := ∀ (w : W) (sl : Sl) (cs : Cs) (r : A) (cs' : Cs), m sl cs = some (r, cs') → ∀ (σ : St) (H : Hp), WOk w H cs → SlOk K w H σ sl → ∀ Q : VK,
  (∀ v H', Ev w.M H H' → WOk w H' cs' → ROk K w H H' v r → BOk w H' cs' v r → Q v H') → t σ H Q
def RefT (t : TT) (m : MT) : Prop := ∀ (w : W) (sl : Sl) (cs : Cs) (r : Bool) (cs' : Cs), m sl cs = some (r, cs') → ∀ (σ : St) (H : Hp), WOk w H cs → SlOk K w H σ sl → ∀ Q : Bool → Hp → Prop,
  (∀ H', Ev w.M H H' → WOk w H' cs' → Q r H') → t σ H Q
inductive ROkL (w : W) (H H' : Hp) : List V → List A → Prop
  | nil : ROkL w H H' [] []
  | cons {v : V} {vs : List V} {a : A} {as : List A} : ROk K w H H' v a → ROkL w H H' vs as → ROkL w H H' (v :: vs) (a :: as)
def RefA (t : TA) (m : MA) : Prop := ∀ (w : W) (sl : Sl) (cs : Cs) (r : List A) (cs' : Cs), m sl cs = some (r, cs') → ∀ (σ : St) (H : Hp), WOk w H cs → SlOk K w H σ sl → ∀ Q : List V → Hp → Prop,
  (∀ vs H', Ev w.M H H' → WOk w H' cs' → ROkL K w H H' vs r → Q vs H') → t σ H Q
end

/-! ### mirrors of expressions -/
def mVar (i : Nat) : ME := fun sl cs => match sl[i]? with
  | some (some a) => some (a, cs)
  | _ => none
def mC (d : D) : ME := fun _ cs => some (.dat d, cs)
def mOp (f : D → D → Option A) (ma mb : ME) : ME := fun sl cs => match ma sl cs with
  | some (a, c1) => match mb sl c1 with
    | some (b, c2) => match toD c2 a, toD c2 b with
      | some d, some e => match f d e with
        | some z => some (z, c2)
        | none => none
      | _, _ => none
    | none => none
  | none => none
def mUn (f : D → Option A) (ma : ME) : ME := fun sl cs => match ma sl cs with
  | some (a, c1) => match toD c1 a with
    | some d => match f d with
      | some z => some (z, c1)
      | none => none
    | none => none
  | none => none
def aNil : MA := fun _ cs => some ([], cs)
def aCons (ma : ME) (mr : MA) : MA := fun sl cs => match ma sl cs with
  | some (a, c1) => match mr sl c1 with
    | some (as, c2) => some (a :: as, c2)
    | none => none
  | none => none
def toDs (cs : Cs) : List A → Option (List D)
  | [] => some []
  | a :: as => match toD cs a, toDs cs as with
    | some d, some ds => some (d :: ds)
    | _, _ => none
def asDs : List A → Option (List D)
  | [] => some []
  | a :: as => match asD a, asDs as with
    | some d, some ds => some (d :: ds)
    | _, _ => none
def mCB (f : List D → Option A) (ma : MA) : ME := fun sl cs => match ma sl cs with
  | some (as, c1) => match toDs c1 as with
    | some ds => match f ds with
      | some z => some (z, c1)
      | none => none
    | none => none
  | none => none
def mTup (ma : MA) : ME := fun sl cs => match ma sl cs with
  | some (as, c1) => match asDs as with
    | some ds => if ds.length ≤ 1000 then some (.dat (.tuple ds), c1) else none
    | none => none
  | none => none
def mLst (ma : MA) : ME := fun sl cs => match ma sl cs with
  | some (as, c1) => match asDs as with
    | some ds => if ds.length ≤ 1000 then some (.new (.lst ds), c1) else none
    | none => none
  | none => none
def mIf (mt : MT) (ma mb : ME) : ME := fun sl cs => match mt sl cs with
  | some (true, c1) => ma sl c1
  | some (false, c1) => mb sl c1
  | none => none
def mTest (ma : ME) : MT := fun sl cs => match ma sl cs with
  | some (a, c1) => match toD c1 a with
    | some (.bool b) => some (b, c1)
    | _ => none
  | none => none
def mAnd (ma mb : MT) : MT := fun sl cs => match ma sl cs with
  | some (true, c1) => mb sl c1
  | some (false, c1) => some (false, c1)
  | none => none
def mOr (ma mb : MT) : MT := fun sl cs => match ma sl cs with
  | some (true, c1) => some (true, c1)
  | some (false, c1) => mb sl c1
  | none => none
def mNot (ma : MT) : MT := fun sl cs => match ma sl cs with
  | some (b, c1) => some (!b, c1)
  | none => none
/-- and, or, not as values, over truth values -/
def mAndV (ma mb : ME) : ME := fun sl cs => match mTest ma sl cs with
  | some (true, c1) => mb sl c1
  | some (false, c1) => some (.dat (.bool false), c1)
  | none => none
def mOrV (ma mb : ME) : ME := fun sl cs => match mTest ma sl cs with
  | some (true, c1) => some (.dat (.bool true), c1)
  | some (false, c1) => mb sl c1
  | none => none
def mNotV (ma : ME) : ME := fun sl cs => match mTest ma sl cs with
  | some (b, c1) => some (.dat (.bool (!b)), c1)
  | none => none
/-- a op b op c -/
def mChain (f g : D → D → Option A) (ma mb mc : ME) : ME := fun sl cs => match ma sl cs with
  | some (a, c1) => match mb sl c1 with
    | some (b, c2) => match toD c2 a, toD c2 b with
      | some d, some e => match f d e with
        | some (.dat (.bool true)) => match mc sl c2 with
          | some (c, c3) => match toD c3 b, toD c3 c with
            | some e', some h => match g e' h with
              | some z => some (z, c3)
              | none => none
            | _, _ => none
          | none => none
        | some (.dat (.bool false)) => some (.dat (.bool false), c2)
        | _ => none
      | _, _ => none
    | none => none
  | none => none

section
variable {K : PySem.W.Frag} {ta tb tc te : TE} {ma mb mc me : ME} {t u : TT} {mt mu : MT} {tA : TA} {mA : MA}

theorem ref_var {i : Nat} : Ref K (tVar i) (mVar i) := fun w sl cs r cs' e σ H k s Q q => by
  unfold mVar at e
  split at e
  · rename_i a h
    cases e
    obtain ⟨v, h1, h2⟩ := s.at_ i _ h
    refine ⟨v, h1, q v H (Ev.refl H) k (ROk.ofA h2) ?_⟩
    cases r with
    | new c => exact h2.elim
    | _ => trivial
  · cases e
theorem ref_c {v : V} {d : D} (h : ∀ F H, Dq F H v d) : Ref K (tC v) (mC d) := fun w sl cs r cs' e σ H k s Q q => by
  cases e
  exact q v H (Ev.refl H) k (h _ _) trivial
theorem ref_int {i : Int} : Ref K (tC (.int i)) (mC (.int i)) := ref_c fun _ _ => .int i
theorem ref_bl {i : Bool} : Ref K (tC (.bl i)) (mC (.bool i)) := ref_c fun _ _ => .bl i
theorem ref_str {i : Str} : Ref K (tC (.str i)) (mC (.str i)) := ref_c fun _ _ => .str i
theorem ref_non : Ref K (tC .non) (mC .none) := ref_c fun _ _ => .non

/-- an operation on two, on one, a call on a row, as it is read and as it is mirrored -/
def OpS (r : R2) (f : D → D → Option A) : Prop := ∀ (F : Addr → Prop) (H : Hp) (x y : V) (d e : D) (z : A), (∀ a, F a → H a ≠ none) → Dv F H x d → Dv F H y e → f d e = some z → ∀ Q : VK, (∀ v H', Ex H H' → NOk F H H' v z → Q v H') → r x y H Q
def UnS (r : V → Hp → VK → Prop) (f : D → Option A) : Prop := ∀ (F : Addr → Prop) (H : Hp) (x : V) (d : D) (z : A), (∀ a, F a → H a ≠ none) → Dv F H x d → f d = some z → ∀ Q : VK, (∀ v H', Ex H H' → NOk F H H' v z → Q v H') → r x H Q
inductive DvL (F : Addr → Prop) (H : Hp) : List V → List D → Prop
  | nil : DvL F H [] []
  | cons {v : V} {vs : List V} {a : D} {as : List D} : Dv F H v a → DvL F H vs as → DvL F H (v :: vs) (a :: as)
def CalS (r : List V → Hp → VK → Prop) (f : List D → Option A) : Prop := ∀ (F : Addr → Prop) (H : Hp) (xs : List V) (ds : List D) (z : A), (∀ a, F a → H a ≠ none) → DvL F H xs ds → f ds = some z → ∀ Q : VK, (∀ v H', Ex H H' → NOk F H H' v z → Q v H') → r xs H Q

def OpSn (r : R2) (f : D → D → Option A) : Prop := ∀ (F : Addr → Prop) (H : Hp) (x y : V) (d e : D) (z : A), (∀ a, F a → H a ≠ none) → Dn F H x d → Dn F H y e → f d e = some z → ∀ Q : VK, (∀ v H', Ex H H' → NOk F H H' v z → Q v H') → r x y H Q
theorem OpS.n {r : R2} {f : D → D → Option A} (h : OpS r f) : OpSn r f := fun F H x y d e z fx hx hy hf Q q => h F H x y d e z fx hx.dv hy.dv hf Q q
/-- one of two, by what is there -/
def orF (f g : D → D → Option A) : D → D → Option A := fun d e => match f d e with
  | some z => some z
  | none => g d e
theorem OpSn.or {r r' : R2} {f g : D → D → Option A} (h : OpSn r f) (h' : OpSn r' g) : OpSn (fun x y H Q => r x y H Q ∨ r' x y H Q) (orF f g) := fun F H x y d e z fx hx hy hf Q q => by
  unfold orF at hf
  split at hf
  · rename_i z' hz
    cases hf
    exact .inl (h F H x y d e _ fx hx hy hz Q q)
  · exact .inr (h' F H x y d e z fx hx hy hf Q q)
theorem OpR.or {X : Cx} {f : Value → Value → Sem Value} {r r' : R2} (h : OpR X f r) (h' : OpR X f r') : OpR X f (fun x y H Q => r x y H Q ∨ r' x y H Q) := fun pins s σ H x y v u Q I rx ry hh => hh.elim (h pins s σ H x y v u Q I rx ry) (h' pins s σ H x y v u Q I rx ry)
def mOpN (f : D → D → Option A) (ma mb : ME) : ME := fun sl cs => match ma sl cs with
  | some (a, c1) => match mb sl c1 with
    | some (b, c2) => match toDn c2 a, toDn c2 b with
      | some d, some e => match f d e with
        | some z => some (z, c2)
        | none => none
      | _, _ => none
    | none => none
  | none => none
theorem back_of {w : W} {H H' : Hp} {cs : Cs} (e : Ev w.M H H') (k : WOk w H' cs) : ∀ p, H' p = none → H p = none := fun p h => fresh_back e k.mf k.fx h
theorem ROk.on {w : W} {H H1 H2 : Hp} {cs cs1 : Cs} {v : V} {a : A} (k0 : WOk w H cs) (k : WOk w H1 cs1) (e : Ev w.M H1 H2) (h : ROk K w H H1 v a) : ROk K w H H2 v a := h.mono k ⟨rfl, fun p hp => k0.nf hp⟩ e
theorem ROk.end_ {w : W} {H H1 H2 : Hp} {cs1 : Cs} {v : V} {a : A} (e : Ev w.M H H1) (k : WOk w H1 cs1) (h : NOk w.F H1 H2 v a) : ROk K w H H2 v a := (ROk.ofN h).back (back_of e k)

theorem ref_op {r : R2} {f : D → D → Option A} (ho : OpS r f) (ha : Ref K ta ma) (hb : Ref K tb mb) : Ref K (tOp r ta tb) (mOp f ma mb) := fun w sl cs z cs' e σ H k s Q q => by
  unfold mOp at e
  split at e
  · rename_i a c1 h1
    split at e
    · rename_i b c2 h2
      split at e
      · rename_i d e' hd he
        split at e
        · rename_i z' hf
          cases e
          refine ha w sl cs a c1 h1 σ H k s _ fun x H1 e1 k1 r1 _ => hb w sl c1 b _ h2 σ H1 k1 (s.mono k.mf e1) _ fun y H2 e2 k2 r2 _ => ?_
          exact ho w.F H2 x y d e' _ k2.fx ((r1.on k k1 e2).dv k2 hd) (r2.dv k2 he) hf Q fun v H3 e3 n => q v H3 ((e1.trans e2).trans e3.ev) (k2.ev e3) (ROk.end_ (e1.trans e2) k2 n) (BOk.ofN k2 e3 n)
        · cases e
      · cases e
    · cases e
  · cases e
theorem ref_opN {r : R2} {f : D → D → Option A} (ho : OpSn r f) (ha : Ref K ta ma) (hb : Ref K tb mb) : Ref K (tOp r ta tb) (mOpN f ma mb) := fun w sl cs z cs' e σ H k s Q q => by
  unfold mOpN at e
  split at e
  · rename_i a c1 h1
    split at e
    · rename_i b c2 h2
      split at e
      · rename_i d e' hd he
        split at e
        · rename_i z' hf
          cases e
          refine ha w sl cs a c1 h1 σ H k s _ fun x H1 e1 k1 r1 _ => hb w sl c1 b _ h2 σ H1 k1 (s.mono k.mf e1) _ fun y H2 e2 k2 r2 _ => ?_
          exact ho w.F H2 x y d e' _ k2.fx ((r1.on k k1 e2).dn k2 hd) (r2.dn k2 he) hf Q fun v H3 e3 n => q v H3 ((e1.trans e2).trans e3.ev) (k2.ev e3) (ROk.end_ (e1.trans e2) k2 n) (BOk.ofN k2 e3 n)
        · cases e
      · cases e
    · cases e
  · cases e
theorem ref_un {r : V → Hp → VK → Prop} {f : D → Option A} (ho : UnS r f) (ha : Ref K ta ma) : Ref K (tUn r ta) (mUn f ma) := fun w sl cs z cs' e σ H k s Q q => by
  unfold mUn at e
  split at e
  · rename_i a c1 h1
    split at e
    · rename_i d hd
      split at e
      · rename_i z' hf
        cases e
        refine ha w sl cs a _ h1 σ H k s _ fun x H1 e1 k1 r1 _ => ?_
        exact ho w.F H1 x d _ k1.fx (r1.dv k1 hd) hf Q fun v H3 e3 n => q v H3 (e1.trans e3.ev) (k1.ev e3) (ROk.end_ e1 k1 n) (BOk.ofN k1 e3 n)
      · cases e
    · cases e
  · cases e
theorem refa_nil : RefA K tNil aNil := fun w sl cs z cs' e σ H k s Q q => by
  cases e
  exact q [] H (Ev.refl H) k .nil
theorem ROkL.on {w : W} {H H1 H2 : Hp} {cs cs1 : Cs} (k0 : WOk w H cs) (k : WOk w H1 cs1) (e : Ev w.M H1 H2) : ∀ {vs : List V} {as : List A}, ROkL K w H H1 vs as → ROkL K w H H2 vs as
  | _, _, .nil => .nil
  | _, _, .cons a b => .cons (a.on k0 k e) (ROkL.on k0 k e b)
theorem ROkL.back {w : W} {H H1 H2 : Hp} (hb : ∀ p, H1 p = none → H p = none) : ∀ {vs : List V} {as : List A}, ROkL K w H1 H2 vs as → ROkL K w H H2 vs as
  | _, _, .nil => .nil
  | _, _, .cons a b => .cons (a.back hb) (ROkL.back hb b)
theorem refa_cons (ha : Ref K ta ma) (hr : RefA K tA mA) : RefA K (tCons ta tA) (aCons ma mA) := fun w sl cs z cs' e σ H k s Q q => by
  unfold aCons at e
  split at e
  · rename_i a c1 h1
    split at e
    · rename_i as c2 h2
      cases e
      refine ha w sl cs a c1 h1 σ H k s _ fun x H1 e1 k1 r1 _ => hr w sl c1 as _ h2 σ H1 k1 (s.mono k.mf e1) _ fun xs H2 e2 k2 r2 => ?_
      exact q _ H2 (e1.trans e2) k2 (.cons (r1.on k k1 e2) (r2.back (back_of e1 k1)))
    · cases e
  · cases e
theorem ROkL.dv {w : W} {H0 H : Hp} {cs : Cs} (k : WOk w H cs) : ∀ {vs : List V} {as : List A} {ds : List D}, ROkL K w H0 H vs as → toDs cs as = some ds → DvL w.F H vs ds
  | _, _, _, .nil, e => by cases e; exact .nil
  | _, _, _, .cons a b, e => by
    unfold toDs at e
    split at e
    · rename_i d ds' h1 h2
      cases e
      exact .cons (a.dv k h1) (ROkL.dv k b h2)
    · cases e
theorem ROkL.dq {w : W} {H0 H : Hp} {cs : Cs} (k : WOk w H cs) (f : ∀ p, H0 p = none → ¬ w.F p) : ∀ {vs : List V} {as : List A} {ds : List D}, ROkL K w H0 H vs as → asDs as = some ds → DqA w.F H vs ds
  | _, _, _, .nil, e => by cases e; exact .nil
  | _, _, _, .cons a b, e => by
    unfold asDs at e
    split at e
    · rename_i d ds' h1 h2
      cases e
      exact .cons (a.dq k f h1) (ROkL.dq k f b h2)
    · cases e
theorem ref_cb {r : List V → Hp → VK → Prop} {f : List D → Option A} (ho : CalS r f) (ha : RefA K tA mA) : Ref K (tCB r tA) (mCB f mA) := fun w sl cs z cs' e σ H k s Q q => by
  unfold mCB at e
  split at e
  · rename_i a c1 h1
    split at e
    · rename_i d hd
      split at e
      · rename_i z' hf
        cases e
        refine ha w sl cs a _ h1 σ H k s _ fun x H1 e1 k1 r1 => ?_
        exact ho w.F H1 x d _ k1.fx (r1.dv k1 hd) hf Q fun v H3 e3 n => q v H3 (e1.trans e3.ev) (k1.ev e3) (ROk.end_ e1 k1 n) (BOk.ofN k1 e3 n)
      · cases e
    · cases e
  · cases e
theorem sz1000 {n : Nat} (h : n ≤ 1000) : n ≤ sizeLine := Nat.le_trans h (by decide)
theorem ref_tup (ha : RefA K tA mA) : Ref K (tTup tA) (mTup mA) := fun w sl cs z cs' e σ H k s Q q => by
  unfold mTup at e
  split at e
  · rename_i as c1 h1
    split at e
    · rename_i ds hd
      split at e
      · rename_i hl
        cases e
        refine ha w sl cs as _ h1 σ H k s _ fun xs H1 e1 k1 r1 => ?_
        have r2 : DqA w.F H1 xs ds := r1.dq k1 (fun p hp => k.nf hp) hd
        have hz : xs.length ≤ sizeLine := by rw [r2.len]; exact sz1000 hl
        refine ⟨hz, fun p hp => q _ _ (e1.trans (Ex.new hp).ev) (k1.ev (Ex.new hp)) ?_ trivial⟩
        exact .tup (k1.nf hp) upd_same hz (r2.tr (Tr.of (Ex.new hp).ev k1.mf))
      · cases e
    · cases e
  · cases e
theorem ref_lst (ha : RefA K tA mA) : Ref K (tLst tA) (mLst mA) := fun w sl cs z cs' e σ H k s Q q => by
  unfold mLst at e
  split at e
  · rename_i as c1 h1
    split at e
    · rename_i ds hd
      split at e
      · rename_i hl
        cases e
        refine ha w sl cs as _ h1 σ H k s _ fun xs H1 e1 k1 r1 => ?_
        have r2 : DqA w.F H1 xs ds := r1.dq k1 (fun p hp => k.nf hp) hd
        have hz : xs.length ≤ sizeLine := by rw [r2.len]; exact sz1000 hl
        refine ⟨hz, fun p hp => q _ _ (e1.trans (Ex.new hp).ev) (k1.ev (Ex.new hp)) ?_ fun p' e' => by cases e'; exact k1.banAt hp (Ex.new hp) (by rw [upd_same]; exact fun z => nomatch z)⟩
        exact ⟨p, rfl, back_of e1 k1 p hp, xs, upd_same, hz, r2.tr (Tr.ofF (Ex.new hp).ev k1.mf fun a z => z.elim .inl fun z => .inr (z ▸ hp))⟩
      · cases e
    · cases e
  · cases e
theorem ref_if (ht : RefT K t mt) (ha : Ref K ta ma) (hb : Ref K tb mb) : Ref K (tIf t ta tb) (mIf mt ma mb) := fun w sl cs z cs' e σ H k s Q q => by
  unfold mIf at e
  split at e
  · rename_i c1 h1
    refine ht w sl cs _ _ h1 σ H k s _ fun H1 e1 k1 => ?_
    show ta σ H1 Q
    exact ha w sl c1 z cs' e σ H1 k1 (s.mono k.mf e1) Q fun v H2 e2 k2 r2 b2 => q v H2 (e1.trans e2) k2 (r2.back (back_of e1 k1)) b2
  · rename_i c1 h1
    refine ht w sl cs _ _ h1 σ H k s _ fun H1 e1 k1 => ?_
    show tb σ H1 Q
    exact hb w sl c1 z cs' e σ H1 k1 (s.mono k.mf e1) Q fun v H2 e2 k2 r2 b2 => q v H2 (e1.trans e2) k2 (r2.back (back_of e1 k1)) b2
  · cases e
theorem ref_test0 {sl : Sl} {cs cs' : Cs} {b : Bool} (e : mTest ma sl cs = some (b, cs')) : ∃ a, ma sl cs = some (a, cs') ∧ toD cs' a = some (.bool b) := by
  unfold mTest at e
  split at e
  · rename_i a c1 h1
    split at e
    · rename_i b' hb
      cases e
      exact ⟨a, h1, hb⟩
    · cases e
  · cases e
theorem reft_test (ha : Ref K ta ma) : RefT K (tTest ta) (mTest ma) := fun w sl cs z cs' e σ H k s Q q => by
  obtain ⟨a, h1, hb⟩ := ref_test0 e
  refine ha w sl cs a _ h1 σ H k s _ fun x H1 e1 k1 r1 _ => ⟨z, ?_, q H1 e1 k1⟩
  exact (r1.dv k1 hb).bl
theorem reft_B (ha : Ref K ta ma) : RefT K (tB ta) (mTest ma) := fun w sl cs z cs' e σ H k s Q q => by
  obtain ⟨a, h1, hb⟩ := ref_test0 e
  refine ha w sl cs a _ h1 σ H k s _ fun x H1 e1 k1 r1 _ => ⟨z, ?_, q H1 e1 k1⟩
  exact (r1.dv k1 hb).bl
theorem reft_and (h1 : RefT K t mt) (h2 : RefT K u mu) : RefT K (tAnd t u) (mAnd mt mu) := fun w sl cs z cs' e σ H k s Q q => by
  unfold mAnd at e
  split at e
  · rename_i c1 g1
    refine h1 w sl cs _ _ g1 σ H k s _ fun H1 e1 k1 => ?_
    show u σ H1 Q
    exact h2 w sl c1 z cs' e σ H1 k1 (s.mono k.mf e1) Q fun H2 e2 k2 => q H2 (e1.trans e2) k2
  · rename_i c1 g1
    cases e
    refine h1 w sl cs _ _ g1 σ H k s _ fun H1 e1 k1 => ?_
    exact q H1 e1 k1
  · cases e
theorem reft_or (h1 : RefT K t mt) (h2 : RefT K u mu) : RefT K (tOr t u) (mOr mt mu) := fun w sl cs z cs' e σ H k s Q q => by
  unfold mOr at e
  split at e
  · rename_i c1 g1
    cases e
    refine h1 w sl cs _ _ g1 σ H k s _ fun H1 e1 k1 => ?_
    exact q H1 e1 k1
  · rename_i c1 g1
    refine h1 w sl cs _ _ g1 σ H k s _ fun H1 e1 k1 => ?_
    show u σ H1 Q
    exact h2 w sl c1 z cs' e σ H1 k1 (s.mono k.mf e1) Q fun H2 e2 k2 => q H2 (e1.trans e2) k2
  · cases e
theorem reft_not (h1 : RefT K t mt) : RefT K (tNot t) (mNot mt) := fun w sl cs z cs' e σ H k s Q q => by
  unfold mNot at e
  split at e
  · rename_i b c1 g1
    cases e
    exact h1 w sl cs _ _ g1 σ H k s _ fun H1 e1 k1 => q H1 e1 k1
  · cases e
theorem ref_andV (ha : Ref K ta ma) (hb : Ref K tb mb) : Ref K (tAndV ta tb) (mAndV ma mb) := fun w sl cs z cs' e σ H k s Q q => by
  unfold mAndV at e
  split at e
  · rename_i c1 g1
    obtain ⟨a, h1, h2⟩ := ref_test0 g1
    refine ha w sl cs _ _ h1 σ H k s _ fun x H1 e1 k1 r1 _ => ⟨true, (r1.dv k1 h2).bl, ?_⟩
    show tb σ H1 Q
    exact hb w sl c1 z cs' e σ H1 k1 (s.mono k.mf e1) Q fun v H2 e2 k2 r2 b2 => q v H2 (e1.trans e2) k2 (r2.back (back_of e1 k1)) b2
  · rename_i c1 g1
    obtain ⟨a, h1, h2⟩ := ref_test0 g1
    cases e
    refine ha w sl cs _ _ h1 σ H k s _ fun x H1 e1 k1 r1 _ => ⟨false, (r1.dv k1 h2).bl, ?_⟩
    exact q _ H1 e1 k1 (.bl false) trivial
  · cases e
theorem ref_orV (ha : Ref K ta ma) (hb : Ref K tb mb) : Ref K (tOrV ta tb) (mOrV ma mb) := fun w sl cs z cs' e σ H k s Q q => by
  unfold mOrV at e
  split at e
  · rename_i c1 g1
    obtain ⟨a, h1, h2⟩ := ref_test0 g1
    cases e
    refine ha w sl cs _ _ h1 σ H k s _ fun x H1 e1 k1 r1 _ => ⟨true, (r1.dv k1 h2).bl, ?_⟩
    exact q _ H1 e1 k1 (.bl true) trivial
  · rename_i c1 g1
    obtain ⟨a, h1, h2⟩ := ref_test0 g1
    refine ha w sl cs _ _ h1 σ H k s _ fun x H1 e1 k1 r1 _ => ⟨false, (r1.dv k1 h2).bl, ?_⟩
    show tb σ H1 Q
    exact hb w sl c1 z cs' e σ H1 k1 (s.mono k.mf e1) Q fun v H2 e2 k2 r2 b2 => q v H2 (e1.trans e2) k2 (r2.back (back_of e1 k1)) b2
  · cases e
theorem ref_notV (ha : Ref K ta ma) : Ref K (tNotV ta) (mNotV ma) := fun w sl cs z cs' e σ H k s Q q => by
  unfold mNotV at e
  split at e
  · rename_i b c1 g1
    obtain ⟨a, h1, h2⟩ := ref_test0 g1
    cases e
    refine ha w sl cs _ _ h1 σ H k s _ fun x H1 e1 k1 r1 _ => ⟨b, (r1.dv k1 h2).bl, ?_⟩
    exact q _ H1 e1 k1 (.bl _) trivial
  · cases e
theorem ref_chain {r r' : R2} {f g : D → D → Option A} (ho : OpS r f) (ho' : OpS r' g) (ha : Ref K ta ma) (hb : Ref K tb mb) (hc : Ref K tc mc) : Ref K (tChain r r' ta tb tc) (mChain f g ma mb mc) := fun w sl cs z cs' e σ H k s Q q => by
  unfold mChain at e
  split at e
  · rename_i a c1 h1
    split at e
    · rename_i b c2 h2
      split at e
      · rename_i d e' hd he
        refine ha w sl cs a c1 h1 σ H k s _ fun x H1 e1 k1 r1 _ => hb w sl c1 b _ h2 σ H1 k1 (s.mono k.mf e1) _ fun y H2 e2 k2 r2 _ => ?_
        split at e
        · rename_i hf
          refine ho w.F H2 x y d e' _ k2.fx ((r1.on k k1 e2).dv k2 hd) (r2.dv k2 he) hf _ fun v H3 e3 n => ⟨true, ?_, ?_⟩
          · exact (Dv.dat n).bl
          · show tc σ H3 _
            have k3 := k2.ev e3
            have e13 : Ev w.M H H3 := (e1.trans e2).trans e3.ev
            split at e
            · rename_i c c3 h3
              split at e
              · rename_i d2 g2 hd2 hg2
                split at e
                · rename_i z' hz
                  cases e
                  refine hc w sl c2 c _ h3 σ H3 k3 (s.mono k.mf e13) _ fun y2 H4 e4 k4 r4 _ => ?_
                  have rb : ROk K w H H4 y b := (r2.back (back_of e1 k1)).on (cs1 := c2) k k2 (e3.ev.trans e4)
                  exact ho' w.F H4 y y2 d2 g2 _ k4.fx (rb.dv k4 hd2) (r4.dv k4 hg2) hz Q fun v H5 e5 n5 => q v H5 ((e13.trans e4).trans e5.ev) (k4.ev e5) (ROk.end_ (e13.trans e4) k4 n5) (BOk.ofN k4 e5 n5)
                · cases e
              · cases e
            · cases e
        · rename_i hf
          cases e
          refine ho w.F H2 x y d e' _ k2.fx ((r1.on k k1 e2).dv k2 hd) (r2.dv k2 he) hf _ fun v H3 e3 n => ⟨false, ?_, ?_⟩
          · exact (Dv.dat n).bl
          · show Q (.bl false) H3
            exact q _ H3 ((e1.trans e2).trans e3.ev) (k2.ev e3) (.bl false) trivial
        · cases e
      · cases e
    · cases e
  · cases e
end
end Rf

namespace Rf
open PySem L2

/-! ### operations on data -/
def fI (g : Int → Int → Int) : D → D → Option A
  | .int i, .int j => some (.dat (.int (g i j)))
  | _, _ => none
def fIc (c : Int → Int → Bool) (g : Int → Int → Int) : D → D → Option A
  | .int i, .int j => if c i j = true then some (.dat (.int (g i j))) else none
  | _, _ => none
def fB (g : Int → Int → Bool) : D → D → Option A
  | .int i, .int j => some (.dat (.bool (g i j)))
  | _, _ => none
def fEq (neg : Bool) : D → D → Option A := fun d e => if (SeqAt.shaped d && SeqAt.shaped e) = true then some (.dat (.bool (if neg = true then !PyData.eqv d e else PyData.eqv d e))) else none
def fU (g : Int → Int) : D → Option A
  | .int i => some (.dat (.int (g i)))
  | _ => none
def fIx : D → D → Option A
  | .list ds, .int i => match atI ds i with
    | some d => some (.dat d)
    | none => none
  | .tuple ds, .int i => match atI ds i with
    | some d => some (.dat d)
    | none => none
  | _, _ => none
/-- xs + ys, of lists; of tuples -/
def fCatL : D → D → Option A
  | .list a, .list b => if a.length + b.length ≤ 16777216 then some (.new (.lst (a ++ b))) else none
  | _, _ => none
def fCatT : D → D → Option A
  | .tuple a, .tuple b => if a.length + b.length ≤ 16777216 then some (.dat (.tuple (a ++ b))) else none
  | _, _ => none
def isNone : D → Bool
  | .none => true
  | _ => false
def fIsN (neg : Bool) : D → D → Option A
  | d, .none => some (.dat (.bool (if neg = true then !isNone d else isNone d)))
  | _, _ => none

section
theorem ops_I {g : Int → Int → Int} : OpS (rI0 fun i j => .int (g i j)) (fI g) := fun F H x y d e z fx hx hy hf Q q => by
  unfold fI at hf
  split at hf
  · cases hf
    exact ⟨_, _, hx.int, hy.int, q _ H (Ex.refl H) (.int _)⟩
  · cases hf
theorem ops_Ic {C : Int → Int → Prop} {c : Int → Int → Bool} {g : Int → Int → Int} (hc : ∀ i j, c i j = true → C i j) : OpS (rI C fun i j => .int (g i j)) (fIc c g) := fun F H x y d e z fx hx hy hf Q q => by
  unfold fIc at hf
  split at hf
  · rename_i i j
    split at hf
    · rename_i h
      cases hf
      exact ⟨_, _, hx.int, hy.int, hc i j h, q _ H (Ex.refl H) (.int _)⟩
    · cases hf
  · cases hf
theorem ops_B {g : Int → Int → Bool} : OpS (rI0 fun i j => .bl (g i j)) (fB g) := fun F H x y d e z fx hx hy hf Q q => by
  unfold fB at hf
  split at hf
  · cases hf
    exact ⟨_, _, hx.int, hy.int, q _ H (Ex.refl H) (.bl _)⟩
  · cases hf
def cMul (i j : Int) : Bool := decide ((-(2 ^ 64) < i ∧ i < 2 ^ 64) ∨ (-(2 ^ 64) < j ∧ j < 2 ^ 64))
def cDivW (_ j : Int) : Bool := decide (0 < j ∧ j < 1073741824)
def cPos (_ j : Int) : Bool := decide (0 < j)
def cNz (_ j : Int) : Bool := decide (j ≠ 0)
theorem ops_mul : OpS (rI CMul fun i j => .int (i * j)) (fIc cMul fun i j => i * j) := ops_Ic fun i j h => by
  unfold cMul at h
  have h2 := of_decide_eq_true h
  exact h2
theorem ops_mod : OpS (rI (fun _ j => 0 < j) fun i j => .int (i % j)) (fIc cPos fun i j => i % j) := ops_Ic fun i j h => of_decide_eq_true h
theorem ops_div : OpS (rI CDivW fun i j => .int (i / j)) (fIc cDivW fun i j => i / j) := ops_Ic fun i j h => by
  have h1 : 0 < j ∧ j < 1073741824 := of_decide_eq_true h
  exact wide_div (b := 30) h1.1 (by have : (2:Nat)^30 = 1073741824 := by decide
                                    omega) (by decide) (by decide)
mutual
theorem Dq.dp {K : PySem.W.Frag} {F : Addr → Prop} {H : Hp} : ∀ {v : V} {d : D}, Dq F H v d → d.canLay0 = true → Dp K H v d
  | _, _, .non, _ => .non
  | _, _, .bl b, _ => .bl b
  | _, _, .int i, _ => .int i
  | _, _, .str x, _ => .str x
  | _, _, .lst f h z q, e => .lst (SqL.of h) (DqA.dp q (by rw [PyData.canLay0] at e; exact e))
  | _, _, .tup f h z q, e => .tup (SqT.of h) (DqA.dp q (by rw [PyData.canLay0] at e; exact e))
  | _, _, .dK f h q, e => by simp [PyData.canLay0] at e
  | _, _, .dT f h q, e => by simp [PyData.canLay0] at e
theorem DqA.dp {K : PySem.W.Frag} {F : Addr → Prop} {H : Hp} : ∀ {vs : List V} {ds : List D}, DqA F H vs ds → PyData.canLayAll0 ds = true → DpAll K H vs ds
  | _, _, .nil, _ => .nil
  | _, _, .cons a b, e => by
    rw [PyData.canLayAll0, Bool.and_eq_true] at e
    exact .cons (Dq.dp a e.1) (DqA.dp b e.2)
end
theorem shaped_lay {d : D} (h : SeqAt.shaped d = true) : d.canLay0 = true := by
  unfold SeqAt.shaped at h
  rw [Bool.and_eq_true] at h
  exact h.1
theorem Dv.dp {K : PySem.W.Frag} {F : Addr → Prop} {H : Hp} {v : V} {d : D} (h : Dv F H v d) (e : SeqAt.shaped d = true) : Dp K H v d := by
  cases h with
  | dat h => exact h.dp (shaped_lay e)
  | cl h =>
    rename_i p b c
    cases c with
    | lst ds =>
      obtain ⟨xs, h1, z, q⟩ := h
      have e' := shaped_lay e
      exact .lst (SqL.of h1) (DqA.dp q (by rw [cD, PyData.canLay0] at e'; exact e'))
    | dK kvs => have e' := shaped_lay e; simp [cD, PyData.canLay0] at e'
    | dT kvs => have e' := shaped_lay e; simp [cD, PyData.canLay0] at e'
  | ptu h =>
    obtain ⟨p, o, xs, rfl, h2, h3, h4, h5, h6, h7⟩ := h
    have e' := shaped_lay e
    exact .tup (.inl (.inr ⟨o, h3⟩)) (DqA.dp h7 (by rw [PyData.canLay0] at e'; exact e'))
theorem ops_eq {K : PySem.W.Frag} : OpS (rEqD K) (fEq false) := fun F H x y d e z fx hx hy hf Q q => by
  unfold fEq at hf
  split at hf
  · rename_i h
    rw [Bool.and_eq_true] at h
    cases hf
    exact ⟨d, e, hx.dp h.1, hy.dp h.2, h.1, h.2, q _ H (Ex.refl H) (.bl _)⟩
  · cases hf
theorem ops_ne {K : PySem.W.Frag} : OpS (rNeD K) (fEq true) := fun F H x y d e z fx hx hy hf Q q => by
  unfold fEq at hf
  split at hf
  · rename_i h
    rw [Bool.and_eq_true] at h
    cases hf
    exact ⟨d, e, hx.dp h.1, hy.dp h.2, h.1, h.2, q _ H (Ex.refl H) (.bl _)⟩
  · cases hf
theorem uns_U {g : Int → Int} : UnS (rU fun i => .int (g i)) (fU g) := fun F H x d z fx hx hf Q q => by
  unfold fU at hf
  split at hf
  · cases hf
    exact ⟨_, hx.int, q _ H (Ex.refl H) (.int _)⟩
  · cases hf
theorem atI_dq {F : Addr → Prop} {H : Hp} {xs : List V} {ds : List D} {i : Int} {d : D} (q : DqA F H xs ds) (h : atI ds i = some d) : ∃ v, atI xs i = some v ∧ Dq F H v d := by
  unfold atI at h ⊢
  rw [q.len]
  cases hj : ixN ds.length i with
  | none => rw [hj] at h; cases h
  | some j =>
    rw [hj] at h
    exact q.get h
theorem ops_ix {K : PySem.W.Frag} : OpS (rIx K) fIx := fun F H x y d e z fx hx hy hf Q q => by
  unfold fIx at hf
  split at hf
  · rename_i ds i
    split at hf
    · rename_i d' h
      cases hf
      obtain ⟨a, xs, rfl, h1, _, h2⟩ := hx.lst
      obtain ⟨v, h3, h4⟩ := atI_dq h2 h
      exact .inl ⟨a, xs, i, v, rfl, hy.int, SqL.of h1, h3, q v H (Ex.refl H) h4⟩
    · cases hf
  · rename_i ds i
    split at hf
    · rename_i d' h
      cases hf
      obtain ⟨a, xs, rfl, _, h1, _, h2⟩ := hx.tup
      obtain ⟨v, h3, h4⟩ := atI_dq h2 h
      exact .inr (.inl ⟨a, xs, i, v, rfl, hy.int, (.inl h1 : SqT K H a xs), h3, q v H (Ex.refl H) h4⟩)
    · cases hf
  · cases hf
theorem sizeLine_is : sizeLine = 16777216 := by decide
theorem new_tr {F : Addr → Prop} {H : Hp} {p : Addr} {o : HO} (hp : H p = none) : Tr F H (fun a => F a ∨ a = p) (upd H p o) := Tr.ofF (M := fun _ => False) (Ex.new hp).ev (fun _ z => z.elim) fun a z => z.elim .inl fun z => .inr (z ▸ hp)
theorem ex_tr {F : Addr → Prop} {H H' : Hp} (e : Ex H H') : Tr F H F H' := Tr.of (M := fun _ => False) e.ev (fun _ z => z.elim)
theorem nok_lst {F : Addr → Prop} {H : Hp} {p : Addr} {xs : List V} {ds : List D} (hp : H p = none) (z : xs.length ≤ sizeLine) (q : DqA F H xs ds) : NOk F H (upd H p (.lst xs)) (.ref p) (.new (.lst ds)) :=
  ⟨p, rfl, hp, xs, upd_same, z, q.tr (new_tr hp)⟩
theorem nok_tup {F : Addr → Prop} {H : Hp} {p : Addr} {xs : List V} {ds : List D} (fx : ∀ a, F a → H a ≠ none) (hp : H p = none) (z : xs.length ≤ sizeLine) (q : DqA F H xs ds) : NOk F H (upd H p (.tup xs)) (.ref p) (.dat (.tuple ds)) :=
  .tup (fun f => fx p f hp) upd_same z (q.tr (ex_tr (Ex.new hp)))
theorem ops_catL : OpS rCat fCatL := fun F H x y d e z fx hx hy hf Q q => by
  unfold fCatL at hf
  split at hf
  · rename_i as bs
    split at hf
    · rename_i h
      cases hf
      obtain ⟨a, xs, rfl, h1, z1, q1⟩ := hx.lst
      obtain ⟨b, ys, rfl, h2, z2, q2⟩ := hy.lst
      have hz : xs.length + ys.length ≤ sizeLine := by rw [q1.len, q2.len, sizeLine_is]; exact h
      exact ⟨a, b, xs, ys, rfl, rfl, h1, h2, hz, fun p hp => q _ _ (Ex.new hp) (nok_lst hp (by rw [List.length_append]; exact hz) (q1.app q2))⟩
    · cases hf
  · cases hf
theorem ops_catT {K : PySem.W.Frag} : OpSn (rCatA K) fCatT := fun F H x y d e z fx hx hy hf Q q => by
  unfold fCatT at hf
  split at hf
  · rename_i as bs
    split at hf
    · rename_i h
      cases hf
      have dx := hx.tup
      have dy := hy.tup
      obtain ⟨a, xs, rfl, f1, h1, z1, q1⟩ := dx.tupE
      obtain ⟨b, ys, rfl, f2, h2, z2, q2⟩ := dy.tupE
      have hz : xs.length + ys.length ≤ sizeLine := by rw [q1.len, q2.len, sizeLine_is]; exact h
      refine ⟨a, b, xs, ys, rfl, rfl, SqT.of h1, SqT.of h2, hz, fun e => ?_, fun _ e => ?_, fun _ _ p hp => ?_⟩
      · subst e
        cases q1
        exact q _ H (Ex.refl H) dy
      · subst e
        cases q2
        refine q _ H (Ex.refl H) ?_
        show Dq F H _ (.tuple (as ++ []))
        rw [List.append_nil]
        exact dx
      · exact q _ _ (Ex.new hp) (nok_tup fx hp (by rw [List.length_append]; exact hz) (q1.app q2))
    · cases hf
  · cases hf
def fCatS : D → D → Option A
  | .str a, .str b => if a.length + b.length ≤ 16777216 then some (.dat (.str (a ++ b))) else none
  | _, _ => none
theorem ops_catS : OpS (fun x y H Q => ∃ i j, x = .str i ∧ y = .str j ∧ i.length + j.length ≤ sizeLine ∧ Q (.str (i ++ j)) H) fCatS := fun F H x y d e z fx hx hy hf Q q => by
  unfold fCatS at hf
  split at hf
  · split at hf
    · rename_i h
      cases hf
      exact ⟨_, _, hx.str, hy.str, by rw [sizeLine_is]; exact h, q _ H (Ex.refl H) (.str _)⟩
    · cases hf
  · cases hf
/-- + of ints, lists, tuples, texts -/
def rAddU (K : PySem.W.Frag) : R2 := fun x y H Q => (rI0 fun i j => .int (i + j)) x y H Q ∨ (rCat x y H Q ∨ (rCatA K x y H Q ∨ (fun x y H Q => ∃ i j, x = .str i ∧ y = .str j ∧ i.length + j.length ≤ sizeLine ∧ Q (.str (i ++ j)) H : R2) x y H Q))
def fAdd : D → D → Option A := orF (fI fun i j => i + j) (orF fCatL (orF fCatT fCatS))
theorem op_addU {X : Cx} : OpR X (binaryOp .Add) (rAddU X.K) := op_add.or (op_cat.or (op_catA.or op_add_str))
theorem ops_addU {K : PySem.W.Frag} : OpSn (rAddU K) fAdd := ops_I.n.or (ops_catL.n.or (ops_catT.or ops_catS.n))
theorem Dv.isNone {F : Addr → Prop} {H : Hp} {v : V} {d : D} (h : Dv F H v d) : decide (v = .non) = isNone d := by
  cases h with
  | dat h => cases h <;> rfl
  | cl h => rename_i p b c; cases c <;> rfl
  | ptu h => obtain ⟨p, o, xs, rfl, _⟩ := h; rfl
theorem ops_isN : OpS (fun x y H Q => y = .non ∧ Q (.bl (decide (x = .non))) H) (fIsN false) := fun F H x y d e z fx hx hy hf Q q => by
  unfold fIsN at hf
  split at hf
  · cases hf
    refine ⟨hy.non, q _ H (Ex.refl H) ?_⟩
    rw [hx.isNone]; exact .bl _
  · cases hf
theorem ops_notN : OpS (fun x y H Q => y = .non ∧ Q (.bl (!decide (x = .non))) H) (fIsN true) := fun F H x y d e z fx hx hy hf Q q => by
  unfold fIsN at hf
  split at hf
  · cases hf
    refine ⟨hy.non, q _ H (Ex.refl H) ?_⟩
    rw [hx.isNone]; exact .bl _
  · cases hf
end

/-! ### calls of built-ins on data -/
def f1 (g : D → Option A) : List D → Option A
  | [d] => g d
  | _ => none
def f2 (g : D → D → Option A) : List D → Option A
  | [d, e] => g d e
  | _ => none
def fAbs : D → Option A
  | .int i => some (.dat (.int (if i < 0 then -i else i)))
  | _ => none
def fInt : D → Option A
  | .int i => some (.dat (.int i))
  | .bool k => some (.dat (.int (if k then 1 else 0)))
  | _ => none
def fLen : D → Option A
  | .list ds => some (.dat (.int ds.length))
  | .tuple ds => some (.dat (.int ds.length))
  | _ => none
def fLenD : D → Option A
  | .dict kvs => some (.dat (.int kvs.length))
  | _ => none
def intsOf : List D → Option (List Int)
  | [] => some []
  | .int i :: r => (intsOf r).map (i :: ·)
  | _ => none
def boolsOf : List D → Option (List Bool)
  | [] => some []
  | .bool i :: r => (boolsOf r).map (i :: ·)
  | _ => none
def fSum : D → Option A
  | .list ds => match intsOf ds with
    | some ns => some (.dat (.int ns.sum))
    | none => none
  | _ => none
def minL : Int → List Int → Int
  | m, [] => m
  | m, x :: r => minL (if x < m then x else m) r
def maxL : Int → List Int → Int
  | m, [] => m
  | m, x :: r => maxL (if m < x then x else m) r
def fMin : D → Option A
  | .list ds => match intsOf ds with
    | some (n :: ns) => some (.dat (.int (minL n ns)))
    | _ => none
  | _ => none
def fMax : D → Option A
  | .list ds => match intsOf ds with
    | some (n :: ns) => some (.dat (.int (maxL n ns)))
    | _ => none
  | _ => none
def fMin2 : D → D → Option A
  | .int i, .int j => some (.dat (.int (if j < i then j else i)))
  | _, _ => none
def fMax2 : D → D → Option A
  | .int i, .int j => some (.dat (.int (if j > i then j else i)))
  | _, _ => none
def ins (x : Int) : List Int → List Int
  | [] => [x]
  | y :: r => if x ≤ y then x :: y :: r else y :: ins x r
def isort : List Int → List Int
  | [] => []
  | x :: r => ins x (isort r)
def fSortI : D → Option A
  | .list ds => match intsOf ds with
    | some ns => some (.new (.lst ((isort ns).map .int)))
    | _ => none
  | _ => none
def fList : D → Option A
  | .list ds => some (.new (.lst ds))
  | .tuple ds => some (.new (.lst ds))
  | _ => none
def fAll : D → Option A
  | .list ds => match boolsOf ds with
    | some ns => some (.dat (.bool (ns.all id)))
    | _ => none
  | _ => none
def fAny : D → Option A
  | .list ds => match boolsOf ds with
    | some ns => some (.dat (.bool (ns.any id)))
    | _ => none
  | _ => none
theorem intsOf_eq : ∀ {ds : List D} {ns : List Int}, intsOf ds = some ns → ds = ns.map PyData.int
  | [], _, h => by cases h; rfl
  | .int i :: r, ns, h => by
    unfold intsOf at h
    cases hr : intsOf r with
    | none => rw [hr] at h; cases h
    | some ms =>
      rw [hr] at h
      cases h
      rw [intsOf_eq hr]; rfl
  | .none :: _, _, h => by cases h
  | .bool _ :: _, _, h => by cases h
  | .str _ :: _, _, h => by cases h
  | .list _ :: _, _, h => by cases h
  | .tuple _ :: _, _, h => by cases h
  | .dict _ :: _, _, h => by cases h
theorem boolsOf_eq : ∀ {ds : List D} {ns : List Bool}, boolsOf ds = some ns → ds = ns.map PyData.bool
  | [], _, h => by cases h; rfl
  | .bool i :: r, ns, h => by
    unfold boolsOf at h
    cases hr : boolsOf r with
    | none => rw [hr] at h; cases h
    | some ms =>
      rw [hr] at h
      cases h
      rw [boolsOf_eq hr]; rfl
  | .none :: _, _, h => by cases h
  | .int _ :: _, _, h => by cases h
  | .str _ :: _, _, h => by cases h
  | .list _ :: _, _, h => by cases h
  | .tuple _ :: _, _, h => by cases h
  | .dict _ :: _, _, h => by cases h
theorem intsOf_map (ns : List Int) : intsOf (ns.map PyData.int) = some ns := by
  induction ns with
  | nil => rfl
  | cons n r ih => simp only [List.map_cons, intsOf, ih, Option.map_some]
theorem boolsOf_map (ns : List Bool) : boolsOf (ns.map PyData.bool) = some ns := by
  induction ns with
  | nil => rfl
  | cons n r ih => simp only [List.map_cons, boolsOf, ih, Option.map_some]
theorem ins_perm (x : Int) : ∀ l : List Int, (ins x l).Perm (x :: l)
  | [] => .refl _
  | y :: r => by
    unfold ins
    split
    · exact .refl _
    · exact ((ins_perm x r).cons y).trans (.swap x y r)
theorem isort_perm : ∀ l : List Int, (isort l).Perm l
  | [] => .refl _
  | x :: r => (ins_perm x _).trans ((isort_perm r).cons x)
theorem ins_sorted (x : Int) : ∀ {l : List Int}, l.Pairwise (· ≤ ·) → (ins x l).Pairwise (· ≤ ·)
  | [], _ => List.pairwise_singleton _ _
  | y :: r, h => by
    unfold ins
    split
    · rename_i hxy
      refine List.pairwise_cons.mpr ⟨fun z hz => ?_, h⟩
      rcases List.mem_cons.mp hz with rfl | hz
      · exact hxy
      · exact Int.le_trans hxy ((List.pairwise_cons.mp h).1 z hz)
    · rename_i hxy
      refine List.pairwise_cons.mpr ⟨fun z hz => ?_, ins_sorted x (List.pairwise_cons.mp h).2⟩
      rcases List.mem_cons.mp ((ins_perm x r).mem_iff.mp hz) with rfl | hz
      · omega
      · exact (List.pairwise_cons.mp h).1 z hz
theorem isort_sorted : ∀ l : List Int, (isort l).Pairwise (· ≤ ·)
  | [] => .nil
  | x :: r => ins_sorted x (isort_sorted r)
theorem sorted_uniq : ∀ {a b : List Int}, a.Perm b → a.Pairwise (· ≤ ·) → b.Pairwise (· ≤ ·) → a = b
  | [], b, p, _, _ => (List.nil_perm.mp p).symm
  | x :: a, [], p, _, _ => absurd p.length_eq (by simp)
  | x :: a, y :: b, p, ha, hb => by
    have e : x = y := by
      have h1 : x ∈ y :: b := p.mem_iff.mp List.mem_cons_self
      have h2 : y ∈ x :: a := p.mem_iff.mpr List.mem_cons_self
      rcases List.mem_cons.mp h1 with h1 | h1
      · exact h1
      · rcases List.mem_cons.mp h2 with h2 | h2
        · exact h2.symm
        · have := (List.pairwise_cons.mp hb).1 x h1
          have := (List.pairwise_cons.mp ha).1 y h2
          omega
    subst e
    rw [sorted_uniq (List.Perm.cons_inv p) (List.pairwise_cons.mp ha).2 (List.pairwise_cons.mp hb).2]
theorem minL_le : ∀ (l : List Int) (m : Int), minL m l ≤ m ∧ (∀ y ∈ l, minL m l ≤ y) ∧ (minL m l = m ∨ minL m l ∈ l)
  | [], m => ⟨Int.le_refl _, (fun _ h => nomatch h), .inl rfl⟩
  | x :: r, m => by
    obtain ⟨h1, h2, h3⟩ := minL_le r (if x < m then x else m)
    unfold minL
    refine ⟨?_, fun y hy => ?_, ?_⟩
    · split at h1 <;> split <;> omega
    · rcases List.mem_cons.mp hy with rfl | hy
      · split at h1 <;> split <;> omega
      · exact h2 y hy
    · rcases h3 with h3 | h3
      · split at h3
        · rename_i hc; rw [if_pos hc]; exact .inr (by rw [h3]; exact List.mem_cons_self)
        · rename_i hc; rw [if_neg hc]; exact .inl h3
      · exact .inr (List.mem_cons_of_mem _ h3)
theorem maxL_le : ∀ (l : List Int) (m : Int), m ≤ maxL m l ∧ (∀ y ∈ l, y ≤ maxL m l) ∧ (maxL m l = m ∨ maxL m l ∈ l)
  | [], m => ⟨Int.le_refl _, (fun _ h => nomatch h), .inl rfl⟩
  | x :: r, m => by
    obtain ⟨h1, h2, h3⟩ := maxL_le r (if m < x then x else m)
    unfold maxL
    refine ⟨?_, fun y hy => ?_, ?_⟩
    · split at h1 <;> split <;> omega
    · rcases List.mem_cons.mp hy with rfl | hy
      · split at h1 <;> split <;> omega
      · exact h2 y hy
    · rcases h3 with h3 | h3
      · split at h3
        · rename_i hc; rw [if_pos hc]; exact .inr (by rw [h3]; exact List.mem_cons_self)
        · rename_i hc; rw [if_neg hc]; exact .inl h3
      · exact .inr (List.mem_cons_of_mem _ h3)

section
variable {K : PySem.W.Frag}
theorem cal_1 {r : List V → Hp → VK → Prop} {g : D → Option A} (h : ∀ (F : Addr → Prop) (H : Hp) (x : V) (d : D) (z : A), (∀ a, F a → H a ≠ none) → Dv F H x d → g d = some z → ∀ Q : VK, (∀ v H', Ex H H' → NOk F H H' v z → Q v H') → r [x] H Q) : CalS r (f1 g) := fun F H xs ds z fx hx hf Q q => by
  unfold f1 at hf
  split at hf
  · cases hx with
    | cons a b =>
      cases b
      exact h F H _ _ z fx a hf Q q
  · cases hf
theorem cal_2 {r : List V → Hp → VK → Prop} {g : D → D → Option A} (h : ∀ (F : Addr → Prop) (H : Hp) (x y : V) (d e : D) (z : A), (∀ a, F a → H a ≠ none) → Dv F H x d → Dv F H y e → g d e = some z → ∀ Q : VK, (∀ v H', Ex H H' → NOk F H H' v z → Q v H') → r [x, y] H Q) : CalS r (f2 g) := fun F H xs ds z fx hx hf Q q => by
  unfold f2 at hf
  split at hf
  · cases hx with
    | cons a b =>
      cases b with
      | cons b c =>
        cases c
        exact h F H _ _ _ _ z fx a b hf Q q
  · cases hf
theorem cal_abs : CalS (fun xs H Q => ∃ i, xs = [.int i] ∧ Q (.int (if i < 0 then -i else i)) H) (f1 fAbs) := cal_1 fun F H x d z fx hx hf Q q => by
  unfold fAbs at hf
  split at hf
  · cases hf
    exact ⟨_, by rw [hx.int], q _ H (Ex.refl H) (.int _)⟩
  · cases hf
theorem cal_int : CalS (fun xs H Q => (∃ i, xs = [.int i] ∧ Q (.int i) H) ∨ ∃ k, xs = [.bl k] ∧ Q (.int (if k then 1 else 0)) H) (f1 fInt) := cal_1 fun F H x d z fx hx hf Q q => by
  unfold fInt at hf
  split at hf
  · cases hf
    exact .inl ⟨_, by rw [hx.int], q _ H (Ex.refl H) (.int _)⟩
  · cases hf
    exact .inr ⟨_, by rw [hx.bl], q _ H (Ex.refl H) (.int _)⟩
  · cases hf
theorem cal_len : CalS (fun xs H Q => ∃ p ys, xs = [.ref p] ∧ (SqL K H p ys ∨ SqT K H p ys) ∧ Q (.int ys.length) H) (f1 fLen) := cal_1 fun F H x d z fx hx hf Q q => by
  unfold fLen at hf
  split at hf
  · cases hf
    obtain ⟨a, xs, rfl, h1, _, h2⟩ := hx.lst
    refine ⟨a, xs, rfl, .inl (SqL.of h1), q _ H (Ex.refl H) ?_⟩
    rw [h2.len]; exact .int _
  · cases hf
    obtain ⟨a, xs, rfl, _, h1, _, h2⟩ := hx.tup
    refine ⟨a, xs, rfl, .inr (.inl h1), q _ H (Ex.refl H) ?_⟩
    rw [h2.len]; exact .int _
  · cases hf
theorem cal_sum : CalS (rSum K) (f1 fSum) := cal_1 fun F H x d z fx hx hf Q q => by
  unfold fSum at hf
  split at hf
  · split at hf
    · rename_i ns hns
      cases hf
      obtain ⟨a, xs, rfl, h1, _, h2⟩ := hx.lst
      rw [intsOf_eq hns] at h2
      have e := h2.ints
      subst e
      exact ⟨a, ns, rfl, SqL.of h1, q _ H (Ex.refl H) (.int _)⟩
    · cases hf
  · cases hf
theorem cal_min : CalS (rMin K) (f1 fMin) := cal_1 fun F H x d z fx hx hf Q q => by
  unfold fMin at hf
  split at hf
  · split at hf
    · rename_i n ns hns
      cases hf
      obtain ⟨a, xs, rfl, h1, _, h2⟩ := hx.lst
      rw [intsOf_eq hns] at h2
      have e := h2.ints
      subst e
      refine ⟨a, n :: ns, rfl, SqL.of h1, Nat.succ_pos _, fun m hm hl => ?_⟩
      obtain ⟨g1, g2, g3⟩ := minL_le ns n
      have e : m = minL n ns := by
        have := hl _ (show minL n ns ∈ n :: ns by rcases g3 with g3 | g3 <;> simp [g3])
        rcases List.mem_cons.mp hm with rfl | hm
        · omega
        · have := g2 m hm; omega
      subst e
      exact q _ H (Ex.refl H) (.int _)
    · cases hf
  · cases hf
theorem cal_max : CalS (rMax K) (f1 fMax) := cal_1 fun F H x d z fx hx hf Q q => by
  unfold fMax at hf
  split at hf
  · split at hf
    · rename_i n ns hns
      cases hf
      obtain ⟨a, xs, rfl, h1, _, h2⟩ := hx.lst
      rw [intsOf_eq hns] at h2
      have e := h2.ints
      subst e
      refine ⟨a, n :: ns, rfl, SqL.of h1, Nat.succ_pos _, fun m hm hl => ?_⟩
      obtain ⟨g1, g2, g3⟩ := maxL_le ns n
      have e : m = maxL n ns := by
        have := hl _ (show maxL n ns ∈ n :: ns by rcases g3 with g3 | g3 <;> simp [g3])
        rcases List.mem_cons.mp hm with rfl | hm
        · omega
        · have := g2 m hm; omega
      subst e
      exact q _ H (Ex.refl H) (.int _)
    · cases hf
  · cases hf
theorem cal_min2 : CalS (fun xs H Q => ∃ i j, xs = [.int i, .int j] ∧ Q (.int (if j < i then j else i)) H) (f2 fMin2) := cal_2 fun F H x y d e z fx hx hy hf Q q => by
  unfold fMin2 at hf
  split at hf
  · cases hf
    exact ⟨_, _, by rw [hx.int, hy.int], q _ H (Ex.refl H) (.int _)⟩
  · cases hf
theorem cal_max2 : CalS (fun xs H Q => ∃ i j, xs = [.int i, .int j] ∧ Q (.int (if j > i then j else i)) H) (f2 fMax2) := cal_2 fun F H x y d e z fx hx hy hf Q q => by
  unfold fMax2 at hf
  split at hf
  · cases hf
    exact ⟨_, _, by rw [hx.int, hy.int], q _ H (Ex.refl H) (.int _)⟩
  · cases hf
theorem cal_sortI : CalS (rSortedI K) (f1 fSortI) := cal_1 fun F H x d z fx hx hf Q q => by
  unfold fSortI at hf
  split at hf
  · split at hf
    · rename_i ns hns
      cases hf
      obtain ⟨a, xs, rfl, h1, hz, h2⟩ := hx.lst
      rw [intsOf_eq hns] at h2
      have e := h2.ints
      subst e
      refine ⟨a, ns, rfl, SqL.of h1, fun ns' p hperm hs hp => ?_⟩
      have e : ns' = isort ns := sorted_uniq (hperm.trans (isort_perm ns).symm) hs (isort_sorted ns)
      subst e
      refine q _ _ (Ex.new hp) (nok_lst hp ?_ (DqA.mkInts _))
      rw [List.length_map, (isort_perm ns).length_eq, ← List.length_map (f := V.int)]
      exact hz
    · cases hf
  · cases hf
theorem cal_list : CalS (fun xs H Q => ∃ p ys, xs = [.ref p] ∧ (SqL K H p ys ∨ SqT K H p ys) ∧ ∀ l, H l = none → Q (.ref l) (upd H l (.lst ys))) (f1 fList) := cal_1 fun F H x d z fx hx hf Q q => by
  unfold fList at hf
  split at hf
  · cases hf
    obtain ⟨a, xs, rfl, h1, hz, h2⟩ := hx.lst
    exact ⟨a, xs, rfl, .inl (SqL.of h1), fun p hp => q _ _ (Ex.new hp) (nok_lst hp hz h2)⟩
  · cases hf
    obtain ⟨a, xs, rfl, f, h1, hz, h2⟩ := hx.tup
    exact ⟨a, xs, rfl, .inr (.inl h1), fun p hp => q _ _ (Ex.new hp) (nok_lst hp hz h2)⟩
  · cases hf
theorem cal_all : CalS (rAll K) (f1 fAll) := cal_1 fun F H x d z fx hx hf Q q => by
  unfold fAll at hf
  split at hf
  · split at hf
    · rename_i ns hns
      cases hf
      obtain ⟨a, xs, rfl, h1, _, h2⟩ := hx.lst
      rw [boolsOf_eq hns] at h2
      have e := h2.bools
      subst e
      exact ⟨a, ns, rfl, SqL.of h1, q _ H (Ex.refl H) (.bl _)⟩
    · cases hf
  · cases hf
theorem cal_any : CalS (rAny K) (f1 fAny) := cal_1 fun F H x d z fx hx hf Q q => by
  unfold fAny at hf
  split at hf
  · split at hf
    · rename_i ns hns
      cases hf
      obtain ⟨a, xs, rfl, h1, _, h2⟩ := hx.lst
      rw [boolsOf_eq hns] at h2
      have e := h2.bools
      subst e
      exact ⟨a, ns, rfl, SqL.of h1, q _ H (Ex.refl H) (.bl _)⟩
    · cases hf
  · cases hf
end
end Rf

namespace Rf
open PySem L2

/-! ### targets -/
abbrev MG := D → Sl → Option Sl
def Off (ix : List Nat) (σ σ' : St) : Prop := σ'.length = σ.length ∧ ∀ i, i ∉ ix → σ'[i]? = σ[i]?
section
variable (K : PySem.W.Frag)
def RefG (g : TG) (mg : MG) (ix : List Nat) : Prop := ∀ (w : W) (H : Hp) (v : V) (d : D) (sl sl' : Sl), Dq w.F H v d → mg d sl = some sl' → ∀ σ : St, SlOk K w H σ sl → ∀ Q : St → Hp → Prop, (∀ σ', SlOk K w H σ' sl' → Off ix σ σ' → Q σ' H) → g v σ H Q
def RefGs (g : TGs) (mg : List D → Sl → Option Sl) (ix : List Nat) : Prop := ∀ (w : W) (H : Hp) (vs : List V) (ds : List D) (sl sl' : Sl), DqA w.F H vs ds → mg ds sl = some sl' → ∀ σ : St, SlOk K w H σ sl → ∀ Q : St → Hp → Prop, (∀ σ', SlOk K w H σ' sl' → Off ix σ σ' → Q σ' H) → g vs σ H Q
end
def mgN (i : Nat) : MG := fun d sl => some (sl.set i (some (.dat d)))
def mgNil : List D → Sl → Option Sl
  | [], sl => some sl
  | _, _ => none
def mgCons (m : MG) (r : List D → Sl → Option Sl) : List D → Sl → Option Sl
  | d :: ds, sl => match m d sl with
    | some sl1 => r ds sl1
    | none => none
  | [], _ => none
def mgT (n : Nat) (m : List D → Sl → Option Sl) : MG := fun d sl => match d with
  | .tuple ds => if ds.length = n then m ds sl else none
  | _ => none
section
variable {K : PySem.W.Frag}
theorem SlOk.set {w : W} {H : Hp} {σ : St} {sl : Sl} (s : SlOk K w H σ sl) (i : Nat) {v : V} {a : A} (h : AOk K w H v a) : SlOk K w H (σ.set i (some v)) (sl.set i (some a)) where
  len := by rw [List.length_set, List.length_set]; exact s.len
  at_ := fun j b hb => by
    rw [List.getElem?_set] at hb ⊢
    split at hb
    · rename_i e
      subst e
      rw [if_pos rfl]
      split at hb
      · rename_i hl
        rw [if_pos (by rw [s.len]; exact hl)]
        cases hb
        exact ⟨v, rfl, h⟩
      · cases hb
    · rename_i e
      rw [if_neg e]
      exact s.at_ j b hb
theorem SlOk.setNone {w : W} {H : Hp} {σ : St} {sl : Sl} (s : SlOk K w H σ sl) (i : Nat) : SlOk K w H (σ.set i none) (sl.set i none) where
  len := by rw [List.length_set, List.length_set]; exact s.len
  at_ := fun j b hb => by
    rw [List.getElem?_set] at hb ⊢
    split at hb
    · split at hb <;> cases hb
    · rename_i e
      rw [if_neg e]
      exact s.at_ j b hb
/-- a slot forgotten -/
theorem SlOk.forget {w : W} {H : Hp} {σ : St} {sl : Sl} (s : SlOk K w H σ sl) (i : Nat) : SlOk K w H σ (sl.set i none) where
  len := by rw [List.length_set]; exact s.len
  at_ := fun j b hb => by
    rw [List.getElem?_set] at hb
    split at hb
    · split at hb <;> cases hb
    · exact s.at_ j b hb
theorem Off.refl {ix : List Nat} (σ : St) : Off ix σ σ := ⟨rfl, fun _ _ => rfl⟩
theorem Off.trans {ix iy : List Nat} {σ σ1 σ2 : St} (a : Off ix σ σ1) (b : Off iy σ1 σ2) : Off (ix ++ iy) σ σ2 :=
  ⟨b.1.trans a.1, fun i h => (b.2 i fun z => h (List.mem_append_right _ z)).trans (a.2 i fun z => h (List.mem_append_left _ z))⟩
theorem refg_name {i : Nat} : RefG K (gName i) (mgN i) [i] := fun w H v d sl sl' h e σ s Q q => by
  cases e
  refine q _ (s.set i (a := .dat d) h) ⟨List.length_set, fun j hj => ?_⟩
  rw [List.getElem?_set_ne]
  exact fun z => hj (by simp [z])
theorem refgs_nil : RefGs K gNil mgNil [] := fun w H vs ds sl sl' h e σ s Q q => by
  cases ds with
  | nil =>
    cases e
    cases h
    exact ⟨rfl, q σ s (Off.refl σ)⟩
  | cons d r => cases e
theorem refgs_cons {g : TG} {gs : TGs} {mg : MG} {mgs : List D → Sl → Option Sl} {ix iy : List Nat} (h1 : RefG K g mg ix) (h2 : RefGs K gs mgs iy) : RefGs K (gCons g gs) (mgCons mg mgs) (ix ++ iy) := fun w H vs ds sl sl' h e σ s Q q => by
  cases ds with
  | nil => cases e
  | cons d r =>
    dsimp only [mgCons] at e
    cases e1 : mg d sl with
    | none => rw [e1] at e; cases e
    | some sl1 =>
      rw [e1] at e
      cases h with
      | cons a b =>
        exact ⟨_, _, rfl, h1 w H _ d sl sl1 a e1 σ s _ fun σ1 s1 o1 => h2 w H _ r sl1 sl' b e σ1 s1 Q fun σ2 s2 o2 => q σ2 s2 (o1.trans o2)⟩
theorem refg_tup {gs : TGs} {mgs : List D → Sl → Option Sl} {ix : List Nat} {n : Nat} (h1 : RefGs K gs mgs ix) : RefG K (gTup K n gs) (mgT n mgs) ix := fun w H v d sl sl' h e σ s Q q => by
  unfold mgT at e
  split at e
  · rename_i ds
    split at e
    · rename_i hl
      obtain ⟨a, xs, rfl, _, h3, _, h4⟩ := (Dv.dat h).tup
      exact ⟨a, xs, rfl, .inl h3, by rw [h4.len]; exact hl, h1 w H xs ds sl sl' h4 e σ s Q q⟩
    · cases e
  · cases e
end

/-! ### what is walked -/
abbrev MI := Sl → Cs → Option (List D × Cs)
structure Walks (J : It) (F M : Addr → Prop) (H0 : Hp) (ds : List D) : Prop where
  len : ds.length ≤ sizeLine
  go : ∀ (H : Hp) (i : Nat), Ev M H0 H → i < ds.length → J.go i H
  stop : ∀ (H : Hp) (i : Nat), Ev M H0 H → ds.length ≤ i → J.stop i H
  yld : ∀ (F' : Addr → Prop) (H : Hp) (i : Nat) (d : D) (x : V) (H' : Hp), (∀ a, F' a → F a ∨ H0 a = none) → (∀ a, F' a → H a ≠ none) → Ev M H0 H → ds[i]? = some d → J.yld i H x H' → Ex H H' ∧ Dq F' H' x d
def RefI (K : PySem.W.Frag) (wi : TI) (mi : MI) : Prop := ∀ (w : W) (sl : Sl) (cs : Cs) (ds : List D) (cs' : Cs), mi sl cs = some (ds, cs') → ∀ (σ : St) (H : Hp), WOk w H cs → SlOk K w H σ sl → ∀ R : It → Hp → Prop,
  (∀ J H', Ev w.M H H' → WOk w H' cs' → Walks J w.F w.M H' ds → R J H') → wi σ H R
section
variable {K : PySem.W.Frag} {F M : Addr → Prop} {H0 : Hp}
theorem walks_l {a : Addr} {xs : List V} {ds : List D} (mf : ∀ a, M a → F a) (h : H0 a = some (.lst xs)) (n : ¬ M a) (z : xs.length ≤ sizeLine) (q : DqA F H0 xs ds) : Walks (Itl K a) F M H0 ds where
  len := by rw [← q.len]; exact z
  go := fun H i e hi => by
    obtain ⟨v, hv, _⟩ := q.get (List.getElem?_eq_getElem hi)
    exact ⟨xs, v, SqL.of (e a _ h n), hv⟩
  stop := fun H i e hi => ⟨xs, SqL.of (e a _ h n), by rw [q.len]; exact hi⟩
  yld := fun F' H i d x H' hf fx e hd y => by
    obtain ⟨rfl, y⟩ := y
    obtain ⟨v, hv, hq⟩ := q.get hd
    have := y xs (SqL.of (e a _ h n))
    rw [hv] at this
    cases this
    exact ⟨Ex.refl _, hq.tr (Tr.ofF e mf hf)⟩
theorem walks_t {a : Addr} {xs : List V} {ds : List D} (mf : ∀ a, M a → F a) (h : Rd H0 a (.tup xs)) (n : ¬ M a) (z : xs.length ≤ sizeLine) (q : DqA F H0 xs ds) : Walks (Itt K a) F M H0 ds where
  len := by rw [← q.len]; exact z
  go := fun H i e hi => by
    obtain ⟨v, hv, _⟩ := q.get (List.getElem?_eq_getElem hi)
    exact ⟨xs, v, (.inl (e.rd h n) : SqT K _ a xs), hv⟩
  stop := fun H i e hi => ⟨xs, (.inl (e.rd h n) : SqT K _ a xs), by rw [q.len]; exact hi⟩
  yld := fun F' H i d x H' hf fx e hd y => by
    obtain ⟨rfl, y⟩ := y
    obtain ⟨v, hv, hq⟩ := q.get hd
    have := y xs ((.inl (e.rd h n) : SqT K _ a xs))
    rw [hv] at this
    cases this
    exact ⟨Ex.refl _, hq.tr (Tr.ofF e mf hf)⟩
def rng (lo : Int) (n : Nat) : List D := (List.range n).map fun (i : Nat) => PyData.int (lo + (i : Int))
theorem walks_r {lo : Int} {n : Nat} (z : n ≤ sizeLine) : Walks (Itr lo n) F M H0 (rng lo n) where
  len := by unfold rng; rw [List.length_map, List.length_range]; exact z
  go := fun H i e hi => by unfold rng at hi; rw [List.length_map, List.length_range] at hi; exact hi
  stop := fun H i e hi => by unfold rng at hi; rw [List.length_map, List.length_range] at hi; exact hi
  yld := fun F' H i d x H' hf fx e hd y => by
    obtain ⟨rfl, rfl⟩ := y
    unfold rng at hd
    rw [List.getElem?_map] at hd
    have hi : i < n := by
      cases h : (List.range n)[i]? with
      | none => rw [h] at hd; cases hd
      | some j => have := (List.getElem?_eq_some_iff.mp h).1; rw [List.length_range] at this; exact this
    rw [List.getElem?_range hi] at hd
    cases hd
    exact ⟨Ex.refl _, .int _⟩
def zipD : List D → List D → List D
  | a :: as, b :: bs => .tuple [a, b] :: zipD as bs
  | _, _ => []
theorem zipD_len : ∀ (as bs : List D), (zipD as bs).length = min as.length bs.length
  | [], _ => by unfold zipD; simp
  | _ :: _, [] => by unfold zipD; simp
  | a :: as, b :: bs => by unfold zipD; rw [List.length_cons, zipD_len as bs]; simp only [List.length_cons]; omega
theorem zipD_get : ∀ (as bs : List D) (i : Nat) (d : D), (zipD as bs)[i]? = some d → ∃ a b, as[i]? = some a ∧ bs[i]? = some b ∧ d = .tuple [a, b]
  | [], _, i, d, h => by unfold zipD at h; simp at h
  | _ :: _, [], i, d, h => by unfold zipD at h; simp at h
  | a :: as, b :: bs, 0, d, h => by unfold zipD at h; simp at h; exact ⟨a, b, rfl, rfl, h.symm⟩
  | a :: as, b :: bs, i + 1, d, h => by
    unfold zipD at h
    obtain ⟨x, y, h1, h2, h3⟩ := zipD_get as bs i d (by simpa using h)
    exact ⟨x, y, by simpa using h1, by simpa using h2, h3⟩
theorem pairT {F' : Addr → Prop} {H : Hp} {T : Addr} {x y : V} {d e : D} (fx : ∀ a, F' a → H a ≠ none) (hT : H T = none) (hx : Dq F' H x d) (hy : Dq F' H y e) : Ex H (upd H T (.tup [x, y])) ∧ Dq F' (upd H T (.tup [x, y])) (.ref T) (.tuple [d, e]) :=
  ⟨Ex.new hT, .tup (fun z => fx T z hT) upd_same (by show 2 ≤ sizeLine; decide) (.cons (hx.tr (ex_tr (Ex.new hT))) (.cons (hy.tr (ex_tr (Ex.new hT))) .nil))⟩
theorem walks_zl {a b : Addr} {xs ys : List V} {ds es : List D} (mf : ∀ a, M a → F a) (h : H0 a = some (.lst xs)) (n : ¬ M a) (z : xs.length ≤ sizeLine) (q : DqA F H0 xs ds) (h' : H0 b = some (.lst ys)) (n' : ¬ M b) (q' : DqA F H0 ys es) : Walks (Itz K a b) F M H0 (zipD ds es) where
  len := by rw [zipD_len, ← q.len]; omega
  go := fun H i e hi => by
    rw [zipD_len] at hi
    obtain ⟨v, hv, _⟩ := q.get (List.getElem?_eq_getElem (show i < ds.length by omega))
    obtain ⟨u, hu, _⟩ := q'.get (List.getElem?_eq_getElem (show i < es.length by omega))
    exact ⟨xs, ys, v, u, SqL.of (e a _ h n), SqL.of (e b _ h' n'), hv, hu⟩
  stop := fun H i e hi => by
    rw [zipD_len] at hi
    refine ⟨xs, ys, SqL.of (e a _ h n), SqL.of (e b _ h' n'), ?_⟩
    rw [q.len, q'.len]; omega
  yld := fun F' H i d x H' hf fx e hd y => by
    obtain ⟨T, x1, y1, rfl, hT, rfl, y1', y2'⟩ := y
    obtain ⟨d1, e1, hd1, he1, rfl⟩ := zipD_get _ _ _ _ hd
    obtain ⟨v, hv, hq⟩ := q.get hd1
    obtain ⟨u, hu, hr⟩ := q'.get he1
    have t1 := y1' xs (SqL.of (e a _ h n))
    have t2 := y2' ys (SqL.of (e b _ h' n'))
    rw [hv] at t1
    rw [hu] at t2
    cases t1
    cases t2
    exact pairT fx hT (hq.tr (Tr.ofF e mf hf)) (hr.tr (Tr.ofF e mf hf))
theorem walks_zt {a b : Addr} {xs ys : List V} {ds es : List D} (mf : ∀ a, M a → F a) (h : Rd H0 a (.tup xs)) (n : ¬ M a) (z : xs.length ≤ sizeLine) (q : DqA F H0 xs ds) (h' : Rd H0 b (.tup ys)) (n' : ¬ M b) (q' : DqA F H0 ys es) : Walks (RZ.ItzT K a b) F M H0 (zipD ds es) where
  len := by rw [zipD_len, ← q.len]; omega
  go := fun H i e hi => by
    rw [zipD_len] at hi
    obtain ⟨v, hv, _⟩ := q.get (List.getElem?_eq_getElem (show i < ds.length by omega))
    obtain ⟨u, hu, _⟩ := q'.get (List.getElem?_eq_getElem (show i < es.length by omega))
    exact ⟨xs, ys, v, u, (.inl (e.rd h n) : SqT K _ a xs), (.inl (e.rd h' n') : SqT K _ b ys), hv, hu⟩
  stop := fun H i e hi => by
    rw [zipD_len] at hi
    refine ⟨xs, ys, (.inl (e.rd h n) : SqT K _ a xs), (.inl (e.rd h' n') : SqT K _ b ys), ?_⟩
    rw [q.len, q'.len]; omega
  yld := fun F' H i d x H' hf fx e hd y => by
    obtain ⟨T, x1, y1, rfl, hT, rfl, y1', y2'⟩ := y
    obtain ⟨d1, e1, hd1, he1, rfl⟩ := zipD_get _ _ _ _ hd
    obtain ⟨v, hv, hq⟩ := q.get hd1
    obtain ⟨u, hu, hr⟩ := q'.get he1
    have t1 := y1' xs ((.inl (e.rd h n) : SqT K _ a xs))
    have t2 := y2' ys ((.inl (e.rd h' n') : SqT K _ b ys))
    rw [hv] at t1
    rw [hu] at t2
    cases t1
    cases t2
    exact pairT fx hT (hq.tr (Tr.ofF e mf hf)) (hr.tr (Tr.ofF e mf hf))
end

/-- the thing that is walked may not change: data, a new thing, a cell that is locked -/
def still (cs : Cs) : A → Option D
  | .dat d => some d
  | .new c => some (cD c)
  | .cell k => match cs[k]? with
    | some (some (true, c)) => some (cD c)
    | _ => none
  | .scr _ => none
  | .ptu ds => some (.tuple ds)
inductive Sv (F M : Addr → Prop) (H : Hp) : V → D → Prop
  | dat {v : V} {d : D} : Dq F H v d → Sv F M H v d
  | cl {p : Addr} {b : Bool} {c : Cell} : ¬ M p → CellOk F H p b c → Sv F M H (.ref p) (cD c)
  | ptu {v : V} {ds : List D} : PtuOk F H v ds → Sv F M H v (.tuple ds)
section
variable {K : PySem.W.Frag}
theorem ROk.sv {w : W} {H0 H : Hp} {cs : Cs} {v : V} {a : A} {d : D} (k : WOk w H cs) (f : ∀ p, H0 p = none → ¬ w.F p) (h : ROk K w H0 H v a) (e : still cs a = some d) : Sv w.F w.M H v d := by
  cases a with
  | dat d' => cases e; exact .dat h
  | cell j =>
    simp only [still] at e
    split at e
    · rename_i c hc
      cases e
      rw [show v = _ from h]
      exact .cl ((k.cl j true c hc).2.2.1 rfl) (k.cl j true c hc).2.2.2
    · cases e
  | new c =>
    cases e
    obtain ⟨p, rfl, h2, h3⟩ := h
    exact .cl (fun z => f p h2 (k.mf p z)) (h3.tr (Tr.weak fun a z => .inl z) fun _ z => z)
  | scr ns => cases e
  | ptu ds => cases e; exact .ptu h
theorem Sv.lst {F M : Addr → Prop} {H : Hp} {v : V} {ds : List D} (mf : ∀ a, M a → F a) (h : Sv F M H v (.list ds)) : ∃ a xs, v = .ref a ∧ ¬ M a ∧ H a = some (.lst xs) ∧ xs.length ≤ sizeLine ∧ DqA F H xs ds := by
  generalize e : PyData.list ds = d at h
  cases h with
  | dat h =>
    subst e
    cases h with
    | lst f h z q => exact ⟨_, _, rfl, fun z => f (mf _ z), h, z, q⟩
  | cl n h =>
    rename_i c
    cases c with
    | lst es =>
      cases e
      obtain ⟨xs, h1, z, q⟩ := h
      exact ⟨_, xs, rfl, n, h1, z, q⟩
    | dK _ => cases e
    | dT _ => cases e
  | ptu h => cases e
theorem Sv.tup {F M : Addr → Prop} {H : Hp} {v : V} {ds : List D} (mf : ∀ a, M a → F a) (h : Sv F M H v (.tuple ds)) : ∃ a xs, v = .ref a ∧ ¬ M a ∧ Rd H a (.tup xs) ∧ xs.length ≤ sizeLine ∧ DqA F H xs ds := by
  generalize e : PyData.tuple ds = d at h
  cases h with
  | dat h =>
    subst e
    cases h with
    | tup f h z q => exact ⟨_, _, rfl, fun z => f (mf _ z), .inl h, z, q⟩
  | cl n h => rename_i c; cases c <;> cases e
  | ptu h =>
    cases e
    obtain ⟨p, o, xs, h1, h2, h3, h4, h5, h6, h7⟩ := h
    exact ⟨p, xs, h1, fun z => h2 (mf _ z), .inr ⟨o, h3⟩, h6, h7⟩

def iSeq (K : PySem.W.Frag) (tl : TE) : TI := fun σ H R => iList K tl σ H R ∨ iTup K tl σ H R
theorem pi_seq {X : Cx} {tg l : Expr} {tl : TE} (hl : PE X l tl) : PI X tg l (iSeq X.K tl) := ⟨fun pins s σ H R I h => h.elim ((pi_list hl).run pins s σ H R I) ((pi_tup hl).run pins s σ H R I)⟩
def miSeq (me : ME) : MI := fun sl cs => match me sl cs with
  | some (a, c1) => match still c1 a with
    | some (.list ds) => some (ds, c1)
    | some (.tuple ds) => some (ds, c1)
    | _ => none
  | none => none
theorem refi_seq {tl : TE} {me : ME} (h : Ref K tl me) : RefI K (iSeq K tl) (miSeq me) := fun w sl cs ds cs' e σ H k s R q => by
  unfold miSeq at e
  split at e
  · rename_i a c1 h1
    split at e
    · rename_i es hs
      cases e
      refine .inl (h w sl cs a _ h1 σ H k s _ fun x H1 e1 k1 r1 _ => ?_)
      obtain ⟨p, xs, rfl, n, hp, z, qd⟩ := (r1.sv k1 (fun p hp => k.nf hp) hs).lst k1.mf
      exact ⟨p, rfl, ⟨xs, SqL.of hp⟩, q _ H1 e1 k1 (walks_l k1.mf hp n z qd)⟩
    · rename_i es hs
      cases e
      refine .inr (h w sl cs a _ h1 σ H k s _ fun x H1 e1 k1 r1 _ => ?_)
      obtain ⟨p, xs, rfl, n, hp, z, qd⟩ := (r1.sv k1 (fun p hp => k.nf hp) hs).tup k1.mf
      exact ⟨p, rfl, ⟨xs, .inl hp⟩, q _ H1 e1 k1 (walks_t k1.mf hp n z qd)⟩
    · cases e
  · cases e
def miR1 (ma : MA) : MI := fun sl cs => match ma sl cs with
  | some (as, c1) => match toDs c1 as with
    | some [.int n] => if n ≤ 16777216 ∧ -1000000 ≤ n then some (rng 0 n.toNat, c1) else none
    | _ => none
  | none => none
def miR2 (ma : MA) : MI := fun sl cs => match ma sl cs with
  | some (as, c1) => match toDs c1 as with
    | some [.int lo, .int n] => if (-1000000000 ≤ lo ∧ lo ≤ 1000000000) ∧ (-1000000000 ≤ n ∧ n ≤ 1000000000) ∧ n - lo ≤ 16777216 then some (rng lo (n - lo).toNat, c1) else none
    | _ => none
  | none => none
theorem refi_r1 {ta : TA} {ma : MA} (h : RefA K ta ma) : RefI K (iRng1 ta) (miR1 ma) := fun w sl cs ds cs' e σ H k s R q => by
  unfold miR1 at e
  split at e
  · rename_i as c1 h1
    split at e
    · rename_i n hn
      split at e
      · rename_i hz
        cases e
        refine h w sl cs as _ h1 σ H k s _ fun xs H1 e1 k1 r1 => ?_
        have d := r1.dv k1 hn
        cases d with
        | cons a b =>
          cases b
          refine ⟨n, by rw [a.int], by omega, by omega, q _ H1 e1 k1 (walks_r ?_)⟩
          rw [sizeLine_is]; omega
      · cases e
    · cases e
  · cases e
theorem refi_r2 {ta : TA} {ma : MA} (h : RefA K ta ma) : RefI K (iRng2 ta) (miR2 ma) := fun w sl cs ds cs' e σ H k s R q => by
  unfold miR2 at e
  split at e
  · rename_i as c1 h1
    split at e
    · rename_i lo n hn
      split at e
      · rename_i hz
        cases e
        refine h w sl cs as _ h1 σ H k s _ fun xs H1 e1 k1 r1 => ?_
        have d := r1.dv k1 hn
        cases d with
        | cons a b =>
          cases b with
          | cons b c =>
            cases c
            refine ⟨lo, n, by rw [a.int, b.int], by omega, q _ H1 e1 k1 (walks_r ?_)⟩
            rw [sizeLine_is]; omega
      · cases e
    · cases e
  · cases e
def stills (cs : Cs) : List A → Option (List D)
  | [] => some []
  | a :: as => match still cs a, stills cs as with
    | some d, some ds => some (d :: ds)
    | _, _ => none
def miZip (ma : MA) : MI := fun sl cs => match ma sl cs with
  | some (as, c1) => match stills c1 as with
    | some [.list a, .list b] => some (zipD a b, c1)
    | some [.tuple a, .tuple b] => some (zipD a b, c1)
    | _ => none
  | none => none
inductive SvL (F M : Addr → Prop) (H : Hp) : List V → List D → Prop
  | nil : SvL F M H [] []
  | cons {v : V} {vs : List V} {a : D} {as : List D} : Sv F M H v a → SvL F M H vs as → SvL F M H (v :: vs) (a :: as)
theorem ROkL.sv {w : W} {H0 H : Hp} {cs : Cs} (k : WOk w H cs) (f : ∀ p, H0 p = none → ¬ w.F p) : ∀ {vs : List V} {as : List A} {ds : List D}, ROkL K w H0 H vs as → stills cs as = some ds → SvL w.F w.M H vs ds
  | _, _, _, .nil, e => by cases e; exact .nil
  | _, _, _, .cons a b, e => by
    unfold stills at e
    split at e
    · rename_i d ds' h1 h2
      cases e
      exact .cons (a.sv k f h1) (ROkL.sv k f b h2)
    · cases e
theorem refi_zip {ta : TA} {ma : MA} (h : RefA K ta ma) : RefI K (RZ.iZipA K ta) (miZip ma) := fun w sl cs ds cs' e σ H k s R q => by
  unfold miZip at e
  split at e
  · rename_i as c1 h1
    split at e
    · rename_i x y hn
      cases e
      refine h w sl cs as _ h1 σ H k s _ fun xs H1 e1 k1 r1 => ?_
      have d := r1.sv k1 (fun p hp => k.nf hp) hn
      cases d with
      | cons a b =>
        cases b with
        | cons b c =>
          cases c
          obtain ⟨p, us, rfl, n, hp, z, qd⟩ := a.lst k1.mf
          obtain ⟨p', us', rfl, n', hp', z', qd'⟩ := b.lst k1.mf
          exact ⟨p, p', us, us', rfl, .inl ⟨SqL.of hp, SqL.of hp', q _ H1 e1 k1 (walks_zl k1.mf hp n z qd hp' n' qd')⟩⟩
    · rename_i x y hn
      cases e
      refine h w sl cs as _ h1 σ H k s _ fun xs H1 e1 k1 r1 => ?_
      have d := r1.sv k1 (fun p hp => k.nf hp) hn
      cases d with
      | cons a b =>
        cases b with
        | cons b c =>
          cases c
          obtain ⟨p, us, rfl, n, hp, z, qd⟩ := a.tup k1.mf
          obtain ⟨p', us', rfl, n', hp', z', qd'⟩ := b.tup k1.mf
          exact ⟨p, p', us, us', rfl, .inr ⟨.inl hp, .inl hp', q _ H1 e1 k1 (walks_zt k1.mf hp n z qd hp' n' qd')⟩⟩
    · cases e
  · cases e
end

/-! ### comprehensions -/
def wipeA (sl : Sl) : List Nat → Sl
  | [] => sl
  | v :: vs => (wipeA sl vs).set v none
def lcLoop (mg : MG) (mt : MT) (me : ME) (sl : Sl) : List D → Cs → Option (List D × Cs)
  | [], cs => some ([], cs)
  | d :: ds, cs => match mg d sl with
    | some sl2 => match mt sl2 cs with
      | some (true, c1) => match me sl2 c1 with
        | some (a, c2) => match asD a with
          | some e => match lcLoop mg mt me sl ds c2 with
            | some (es, c3) => some (e :: es, c3)
            | none => none
          | none => none
        | none => none
      | some (false, c1) => lcLoop mg mt me sl ds c1
      | none => none
    | none => none
def mLc (mi : MI) (mg : MG) (mt : MT) (me : ME) (vs : List Nat) : ME := fun sl cs => match mi sl cs with
  | some (ds, c1) => match lcLoop mg mt me (wipeA sl vs) ds c1 with
    | some (es, c2) => some (.new (.lst es), c2)
    | none => none
  | none => none
def mYes : MT := fun _ cs => some (true, cs)
section
variable {K : PySem.W.Frag}
theorem reft_yes : RefT K tYes mYes := fun w sl cs r cs' e σ H k s Q q => by
  cases e
  exact q H (Ev.refl H) k
theorem SlOk.wipe {w : W} {H : Hp} {σ : St} {sl : Sl} (s : SlOk K w H σ sl) : ∀ vs : List Nat, SlOk K w H (wipe σ vs) (wipeA sl vs)
  | [] => s
  | v :: vs => (SlOk.wipe s vs).setNone v
theorem wipe_get (σ : St) (i : Nat) : ∀ vs : List Nat, i < σ.length → (L2.wipe σ vs)[i]? = if i ∈ vs then some none else σ[i]?
  | [], h => by simp [L2.wipe]
  | v :: vs, h => by
    unfold L2.wipe
    rw [List.getElem?_set]
    by_cases e : v = i
    · subst e
      rw [if_pos rfl, if_pos (by rw [wipe_length]; exact h), if_pos List.mem_cons_self]
    · rw [if_neg e, wipe_get σ i vs h]
      by_cases hm : i ∈ vs
      · rw [if_pos hm, if_pos (List.mem_cons_of_mem _ hm)]
      · rw [if_neg hm, if_neg]
        intro z
        rcases List.mem_cons.mp z with z | z
        · exact e z.symm
        · exact hm z
theorem wipe_off {σ σ2 : St} {vs ix : List Nat} (h : ∀ i ∈ ix, i ∈ vs) (o : Off ix (L2.wipe σ vs) σ2) : L2.wipe σ2 vs = L2.wipe σ vs := by
  have hl : σ2.length = σ.length := by rw [o.1, wipe_length]
  apply List.ext_getElem?
  intro i
  by_cases hi : i < σ.length
  · rw [wipe_get σ2 i vs (by rw [hl]; exact hi), wipe_get σ i vs hi]
    by_cases hm : i ∈ vs
    · rw [if_pos hm, if_pos hm]
    · rw [if_neg hm, if_neg hm, o.2 i (fun z => hm (h i z)), wipe_get σ i vs hi, if_neg hm]
  · rw [List.getElem?_eq_none (by rw [wipe_length, hl]; omega), List.getElem?_eq_none (by rw [wipe_length]; omega)]
theorem WOk.ban {w : W} {H : Hp} {cs : Cs} {p : Addr} {o : HO} (k : WOk w H cs) (hp : H p = none) : WOk (w.ban p) (upd H p o) cs where
  fx := fun a f => by
    rcases f with f | f
    · cases h : H a with
      | none => exact absurd h (k.fx a f)
      | some u => rw [Ex.new hp a u h]; exact fun z => nomatch z
    · subst f; rw [upd_same]; exact fun z => nomatch z
  cf := fun a z => .inl (k.cf a z)
  mc := k.mc
  cl := fun j b c h => ⟨(k.cl j b c h).1, (k.cl j b c h).2.1, (k.cl j b c h).2.2.1, (k.cl j b c h).2.2.2.tr (new_tr hp) fun o => Ex.new hp _ o⟩
  inj := k.inj
/-- an address that nobody may touch as data changes -/
theorem upd_tr {F : Addr → Prop} {H : Hp} {p : Addr} {o : HO} (f : F p) : Tr F H F (upd H p o) := by
  have ne : ∀ a, ¬ F a → a ≠ p := fun a n z => n (by rw [z]; exact f)
  refine ⟨fun _ _ n => n, fun a u n r => ?_, fun a xs n h => ?_, fun a xs n h => ?_, fun a o u n h => ?_⟩
  · rcases r with r | ⟨x, r⟩
    · exact .inl (by rw [upd_ne (ne a n)]; exact r)
    · exact .inr ⟨x, by rw [upd_ne (ne a n)]; exact r⟩
  · rw [upd_ne (ne a n)]; exact h
  · rw [upd_ne (ne a n)]; exact h
  · rw [upd_ne (ne a n)]; exact h
theorem WOk.updB {w : W} {H : Hp} {cs : Cs} {p : Addr} {o : HO} (k : WOk w H cs) (f : w.F p) (ha : ¬ w.C p) : WOk w (upd H p o) cs where
  fx := fun a f => by
    by_cases e : a = p
    · subst e; rw [upd_same]; exact fun z => nomatch z
    · rw [upd_ne e]; exact k.fx a f
  cf := k.cf
  mc := k.mc
  cl := fun j b c h => ⟨(k.cl j b c h).1, (k.cl j b c h).2.1, (k.cl j b c h).2.2.1, (k.cl j b c h).2.2.2.tr (upd_tr f) fun o ho => by
    rw [upd_ne (fun z => ha (by rw [← z]; exact (k.cl j b c h).1))]; exact ho⟩
  inj := k.inj
theorem WOk.unban {w : W} {H : Hp} {cs : Cs} {p : Addr} (k : WOk (w.ban p) H cs) (cf : ∀ a, w.C a → w.F a) : WOk w H cs where
  fx := fun a f => k.fx a (.inl f)
  cf := cf
  mc := k.mc
  cl := fun j b c h => ⟨(k.cl j b c h).1, (k.cl j b c h).2.1, (k.cl j b c h).2.2.1, (k.cl j b c h).2.2.2.tr (Tr.weak fun a z => .inl z) fun o ho => ho⟩
  inj := k.inj
theorem lt_size {n i n' : Nat} (h : n ≤ i) (h2 : i < n') (h3 : n' ≤ sizeLine) : n < sizeLine := by omega
theorem ref_lc {wi : TI} {g : TG} {tt : TT} {te : TE} {vs ix : List Nat} {mi : MI} {mg : MG} {mt : MT} {me : ME} (hi : RefI K wi mi) (hg : RefG K g mg ix) (ht : RefT K tt mt) (he : Ref K te me) (hix : ∀ i ∈ ix, i ∈ vs) : Ref K (tLc wi g tt te vs) (mLc mi mg mt me vs) := fun w sl cs r cs' e σ H k s Q q => by
  unfold mLc at e
  split at e
  · rename_i ds c1 h1
    split at e
    · rename_i es c2 h2
      cases e
      refine hi w sl cs ds c1 h1 σ H k s _ fun J H1 e1 k1 wk p hp => ?_
      have hpF : ¬ w.F p := fun z => k1.fx p z hp
      have hpC : ¬ w.C p := fun z => hpF (k1.cf p z)
      have hpM : ¬ w.M p := fun z => hpC (k1.mc p z)
      have s1 : SlOk K (w.ban p) H1 (L2.wipe σ vs) (wipeA sl vs) := ((s.mono k.mf e1).trF (w' := w.ban p) (Tr.ban hp) rfl).wipe vs
      have kb : WOk (w.ban p) (upd H1 p (.lst [])) c1 := k1.ban hp
      have noH1 : ∀ {b : Addr} {o : HO}, H1 b = some o → b ≠ p := fun hb z => by rw [z, hp] at hb; cases hb
      refine ⟨fun i m H2 => ∃ (acc rest : List D) (ci : Cs) (xs : List V), i + m = ds.length ∧ lcLoop mg mt me (wipeA sl vs) (ds.drop i) ci = some (rest, cs') ∧ acc ++ rest = es ∧ H2 p = some (.lst xs) ∧ DqA (w.ban p).F H2 xs acc ∧ xs.length ≤ i ∧ WOk (w.ban p) H2 ci ∧ Ev w.M H1 H2,
        ⟨ds.length, [], es, c1, [], by omega, h2, rfl, upd_same, .nil, Nat.le_refl _, kb, (Ex.new hp).ev⟩, ?_⟩
      rintro i m H2 ⟨acc, rest, ci, xs, hm, hl, ha, hx, hq, hlen, k2, e2⟩
      by_cases hi : i < ds.length
      · refine .inr ⟨wk.go H2 i e2 hi, fun H' => ∃ (acc rest : List D) (cj : Cs) (xs : List V), lcLoop mg mt me (wipeA sl vs) (ds.drop (i + 1)) cj = some (rest, cs') ∧ acc ++ rest = es ∧ H' p = some (.lst xs) ∧ DqA (w.ban p).F H' xs acc ∧ xs.length ≤ i + 1 ∧ WOk (w.ban p) H' cj ∧ Ev w.M H1 H', fun H' hN => ?_, fun x H' hy => ?_⟩
        · obtain ⟨acc, rest, cj, xs, g1, g2, g3, g4, g5, g6, g7⟩ := hN
          exact ⟨m - 1, by omega, acc, rest, cj, xs, by omega, g1, g2, g3, g4, g5, g6, g7⟩
        · have hd : ds[i]? = some ds[i] := List.getElem?_eq_getElem hi
          rw [List.drop_eq_getElem_cons hi] at hl
          unfold lcLoop at hl
          obtain ⟨ey, qy⟩ := wk.yld (w.ban p).F H2 i ds[i] x H' (fun a z => z.elim .inl fun z => .inr (z ▸ hp)) k2.fx e2 hd hy
          have k3 := k2.ev ey
          have e3 : Ev w.M H1 H' := e2.trans ey.ev
          split at hl
          · rename_i sl2 hg2
            have s3 : SlOk K (w.ban p) H' (L2.wipe σ vs) (wipeA sl vs) := s1.mono k3.mf e3
            refine hg (w.ban p) H' x ds[i] _ sl2 qy hg2 _ s3 _ fun σ2 s4 off => ⟨wipe_off hix off, ?_⟩
            have hxp : H' p = some (.lst xs) := ey p _ hx
            have hq' : DqA (w.ban p).F H' xs acc := hq.tr (ex_tr ey)
            split at hl
            · rename_i cc ht2
              refine ht (w.ban p) sl2 ci true cc ht2 σ2 H' k3 s4 _ fun H3 e4 k4 => ?_
              show te σ2 H3 _
              split at hl
              · rename_i a c5 he2
                split at hl
                · rename_i ee hee
                  split at hl
                  · rename_i es2 c6 hl2
                    cases hl
                    refine he (w.ban p) sl2 cc a c5 he2 σ2 H3 k4 (s4.mono k3.mf e4) _ fun y H4 e5 k5 r5 _ => ?_
                    have hd2 : Dq (w.ban p).F H4 y ee := r5.dq k5 (fun b hb => k4.nf hb) hee
                    have hx4 : H4 p = some (.lst xs) := e5 p _ (e4 p _ hxp hpM) hpM
                    have hq4 : DqA (w.ban p).F H4 xs acc := (hq'.tr (Tr.of e4 k3.mf)).tr (Tr.of e5 k4.mf)
                    refine ⟨xs, hx4, lt_size hlen hi wk.len, acc ++ [ee], es2, c5, xs ++ [y], hl2, by rw [← ha]; simp, upd_same, (hq4.app (.cons hd2 .nil)).tr (upd_tr (.inr rfl)), by rw [List.length_append]; exact Nat.add_le_add_right hlen 1, k5.updB (.inr rfl) hpC, ?_⟩
                    intro b o hb nb
                    rw [upd_ne (noH1 hb)]
                    exact e5 b o (e4 b o (e3 b o hb nb) nb) nb
                  · cases hl
                · cases hl
              · cases hl
            · rename_i cc ht2
              refine ht (w.ban p) sl2 ci false cc ht2 σ2 H' k3 s4 _ fun H3 e4 k4 => ?_
              exact ⟨acc, rest, cc, xs, hl, ha, e4 p _ hxp hpM, hq'.tr (Tr.of e4 k3.mf), Nat.le_succ_of_le hlen, k4, e3.trans e4⟩
            · cases hl
          · cases hl
      · refine .inl ⟨wk.stop H2 i e2 (by omega), ?_⟩
        rw [List.drop_eq_nil_of_le (by omega)] at hl
        unfold lcLoop at hl
        cases hl
        rw [List.append_nil] at ha
        subst ha
        refine q _ H2 (e1.trans e2) (k2.unban k1.cf) ?_ fun p' e' => by cases e'; exact k2
        exact ⟨p, rfl, back_of e1 k1 p hp, xs, hx, Nat.le_trans hlen (Nat.le_trans (by omega) wk.len), hq⟩
    · cases e
  · cases e
end
end Rf

namespace Rf
open PySem L2

/-! ### statements -/
inductive Out where
  | nx (sl : Sl) (cs : Cs)
  | rt (a : A) (cs : Cs)
  | bk (sl : Sl) (cs : Cs)
  | ct (sl : Sl) (cs : Cs)
abbrev MS := Sl → Cs → Option Out
structure Step (np : Nat) (w : W) (H : Hp) (w' : W) (H' : Hp) : Prop where
  f1 : ∀ a, w.F a → w'.F a
  f2 : ∀ a, w'.F a → w.F a ∨ H a = none
  m1 : ∀ a, w.M a → w'.M a
  m2 : ∀ a, w'.M a → w.M a ∨ H a = none
  c2 : ∀ a, w'.C a → w.C a ∨ H a = none
  ev : Ev w.M H H'
  bk : ∀ a, H' a = none → H a = none
  ad : ∀ k, k < np → w'.ad k = w.ad k
theorem Step.of {np : Nat} {w : W} {H H' : Hp} {cs : Cs} (e : Ev w.M H H') (k : WOk w H' cs) : Step np w H w H' :=
  ⟨fun _ h => h, fun _ h => .inl h, fun _ h => h, fun _ h => .inl h, fun _ h => .inl h, e, back_of e k, fun _ _ => rfl⟩
theorem Step.trans {np : Nat} {w w1 w2 : W} {H H1 H2 : Hp} (a : Step np w H w1 H1) (b : Step np w1 H1 w2 H2) : Step np w H w2 H2 where
  f1 := fun x h => b.f1 x (a.f1 x h)
  f2 := fun x h => (b.f2 x h).elim (a.f2 x) fun z => .inr (a.bk x z)
  m1 := fun x h => b.m1 x (a.m1 x h)
  m2 := fun x h => (b.m2 x h).elim (a.m2 x) fun z => .inr (a.bk x z)
  c2 := fun x h => (b.c2 x h).elim (a.c2 x) fun z => .inr (a.bk x z)
  ev := fun x o h n => b.ev x o (a.ev x o h n) fun z => (a.m2 x z).elim n fun z => by rw [h] at z; cases z
  bk := fun x h => a.bk x (b.bk x h)
  ad := fun k h => (b.ad k h).trans (a.ad k h)
section
variable (K : PySem.W.Frag) (np : Nat)
def ContOk (w : W) (H : Hp) (o : Out) (Dn : Ends) : Prop :=
  match o with
  | .nx sl cs => ∀ w' σ H', Step np w H w' H' → WOk w' H' cs → SlOk K w' H' σ sl → Dn.nx σ H'
  | .bk sl cs => ∀ w' σ H', Step np w H w' H' → WOk w' H' cs → SlOk K w' H' σ sl → Dn.bk σ H'
  | .ct sl cs => ∀ w' σ H', Step np w H w' H' → WOk w' H' cs → SlOk K w' H' σ sl → Dn.ct σ H'
  | .rt a cs => ∀ w' v H', Step np w H w' H' → WOk w' H' cs → ROk K w' H H' v a → BOk w' H' cs v a → Dn.rt v H'
def RefS (t : TS) (m : MS) : Prop := ∀ (w : W) (sl : Sl) (cs : Cs) (o : Out), m sl cs = some o → ∀ (σ : St) (H : Hp), WOk w H cs → SlOk K w H σ sl → ∀ Dn : Ends, ContOk K np w H o Dn → t Dn σ H
end
def sNext : MS := fun sl cs => some (.nx sl cs)
def sSeq (m r : MS) : MS := fun sl cs => match m sl cs with
  | some (.nx sl1 c1) => r sl1 c1
  | some (.rt a c1) => some (.rt a c1)
  | some (.bk sl1 c1) => some (.bk sl1 c1)
  | some (.ct sl1 c1) => some (.ct sl1 c1)
  | none => none
/-- x = e, data; x = e, a new thing, held as cell k -/
def sAsg (i : Nat) (me : ME) : MS := fun sl cs => match me sl cs with
  | some (.scr ns, c1) => some (.nx (sl.set i (some (.scr ns))) c1)
  | some (.ptu ds, c1) => some (.nx (sl.set i (some (.ptu ds))) c1)
  | some (a, c1) => match asD a with
    | some d => some (.nx (sl.set i (some (.dat d))) c1)
    | none => none
  | none => none
def sAsgC (np i k : Nat) (me : ME) : MS := fun sl cs => match me sl cs with
  | some (.new c, c1) => if np ≤ k then some (.nx (sl.set i (some (.cell k))) (c1.set k (some (false, c)))) else none
  | _ => none
def sAsgG (mg : MG) (me : ME) : MS := fun sl cs => match me sl cs with
  | some (a, c1) => match asD a with
    | some d => match mg d sl with
      | some sl1 => some (.nx sl1 c1)
      | none => none
    | none => none
  | none => none
def sIf (mt : MT) (a b : MS) : MS := fun sl cs => match mt sl cs with
  | some (true, c1) => a sl c1
  | some (false, c1) => b sl c1
  | none => none
def sRet (me : ME) : MS := fun sl cs => match me sl cs with
  | some (a, c1) => some (.rt a c1)
  | none => none
def sRetN : MS := fun _ cs => some (.rt (.dat .none) cs)
def sDrop (me : ME) : MS := fun sl cs => match me sl cs with
  | some (_, c1) => some (.nx sl c1)
  | none => none
def sBreak : MS := fun sl cs => some (.bk sl cs)
def sCont : MS := fun sl cs => some (.ct sl cs)
def sNever : MS := fun _ _ => none
def kill : List Nat → Sl → Sl
  | [], sl => sl
  | i :: r, sl => kill r (sl.set i none)
/-- names forgotten behind a statement -/
def sKill (kl : List Nat) (m : MS) : MS := fun sl cs => match m sl cs with
  | some (.nx sl1 c1) => some (.nx (kill kl sl1) c1)
  | some o => some o
  | none => none
def forLoop (mg : MG) (mb : MS) (kl : List Nat) : List D → Sl → Cs → Option Out
  | [], sl, cs => some (.nx sl cs)
  | d :: ds, sl, cs => match mg d sl with
    | some sl1 => match mb sl1 cs with
      | some (.nx sl2 c2) => forLoop mg mb kl ds (kill kl sl2) c2
      | some (.ct sl2 c2) => forLoop mg mb kl ds (kill kl sl2) c2
      | some (.bk sl2 c2) => some (.nx (kill kl sl2) c2)
      | some (.rt a c2) => some (.rt a c2)
      | none => none
    | none => none
def sFor (mi : MI) (mg : MG) (kl : List Nat) (mb : MS) : MS := fun sl cs => match mi sl cs with
  | some (ds, c1) => forLoop mg mb kl ds (kill kl sl) c1
  | none => none
def whLoop (mt : MT) (mb : MS) (kl : List Nat) : Nat → Sl → Cs → Option Out
  | 0, _, _ => none
  | n + 1, sl, cs => match mt sl cs with
    | some (true, c1) => match mb sl c1 with
      | some (.nx sl2 c2) => whLoop mt mb kl n (kill kl sl2) c2
      | some (.ct sl2 c2) => whLoop mt mb kl n (kill kl sl2) c2
      | some (.bk sl2 c2) => some (.nx (kill kl sl2) c2)
      | some (.rt a c2) => some (.rt a c2)
      | none => none
    | some (false, c1) => some (.nx sl c1)
    | none => none
def sWhile (fuel : Nat) (mt : MT) (kl : List Nat) (mb : MS) : MS := fun sl cs => whLoop mt mb kl fuel (kill kl sl) cs
section
variable {K : PySem.W.Frag} {np : Nat} {t u : TS} {m r : MS} {te : TE} {me : ME}
theorem ContOk.step {w w1 : W} {H H1 : Hp} {o : Out} {Dn : Ends} (s : Step np w H w1 H1) (c : ContOk K np w H o Dn) : ContOk K np w1 H1 o Dn := by
  cases o with
  | nx sl cs => exact fun w' σ H' s1 k1 l1 => c w' σ H' (s.trans s1) k1 l1
  | bk sl cs => exact fun w' σ H' s1 k1 l1 => c w' σ H' (s.trans s1) k1 l1
  | ct sl cs => exact fun w' σ H' s1 k1 l1 => c w' σ H' (s.trans s1) k1 l1
  | rt a cs => exact fun w' v H' s1 k1 r1 b1 => c w' v H' (s.trans s1) k1 (r1.back s.bk) b1
theorem kill_ok {w : W} {H : Hp} {σ : St} : ∀ (kl : List Nat) {sl : Sl}, SlOk K w H σ sl → SlOk K w H σ (kill kl sl)
  | [], _, s => s
  | i :: r, _, s => kill_ok r (s.forget i)
theorem refs_next : RefS K np tNext sNext := fun w sl cs o e σ H k s Dn c => by
  cases e
  exact c w σ H (Step.of (Ev.refl H) k) k s
theorem refs_seq (h1 : RefS K np t m) (h2 : RefS K np u r) : RefS K np (tSeq t u) (sSeq m r) := fun w sl cs o e σ H k s Dn c => by
  unfold sSeq at e
  split at e
  · rename_i sl1 c1 e1
    exact h1 w sl cs _ e1 σ H k s _ fun w' σ' H' st k' s' => h2 w' sl1 c1 o e σ' H' k' s' Dn (c.step st)
  · rename_i a c1 e1
    cases e
    exact h1 w sl cs _ e1 σ H k s _ c
  · rename_i a c1 e1
    cases e
    exact h1 w sl cs _ e1 σ H k s _ c
  · rename_i a c1 e1
    cases e
    exact h1 w sl cs _ e1 σ H k s _ c
  · cases e
theorem refs_asg {i : Nat} (h : Ref K te me) : RefS K np (tAsg te (gName i)) (sAsg i me) := fun w sl cs o e σ H k s Dn c => by
  unfold sAsg at e
  split at e
  · rename_i ns c1 e1
    cases e
    refine h w sl cs _ _ e1 σ H k s _ fun v H1 ev1 k1 r1 _ => ?_
    exact c w _ H1 (Step.of ev1 k1) k1 ((s.mono k.mf ev1).set i (a := .scr ns) r1)
  · rename_i ds c1 e1
    cases e
    refine h w sl cs _ _ e1 σ H k s _ fun v H1 ev1 k1 r1 _ => ?_
    exact c w _ H1 (Step.of ev1 k1) k1 ((s.mono k.mf ev1).set i (a := .ptu ds) r1)
  · rename_i a c1 _ _ e1
    split at e
    · rename_i d hd
      cases e
      refine h w sl cs _ _ e1 σ H k s _ fun v H1 ev1 k1 r1 _ => ?_
      exact c w _ H1 (Step.of ev1 k1) k1 ((s.mono k.mf ev1).set i (a := .dat d) (r1.dq k1 (fun p hp => k.nf hp) hd))
    · cases e
  · cases e
/-- the world with one new cell -/
def W.put (w : W) (k : Nat) (p : Addr) : W := ⟨fun a => w.F a ∨ a = p, fun a => w.C a ∨ a = p, fun a => w.M a ∨ a = p, fun j => if j = k then p else w.ad j⟩
theorem WOk.put {w : W} {H : Hp} {cs : Cs} {k : Nat} {p : Addr} {c : Cell} (kk : WOk (w.ban p) H cs) (nC : ¬ w.C p) (hp : CellOk (fun a => w.F a ∨ a = p) H p false c) : WOk (w.put k p) H (cs.set k (some (false, c))) where
  fx := kk.fx
  cf := fun a h => h.elim (fun h => kk.cf a h) .inr
  mc := fun a h => h.elim (fun h => .inl (kk.mc a h)) .inr
  cl := fun j b c' h => by
    rw [List.getElem?_set] at h
    split at h
    · rename_i e
      subst e
      split at h
      · cases h
        have ea : (w.put k p).ad k = p := if_pos rfl
        rw [ea]
        exact ⟨.inr rfl, fun _ => .inr rfl, (fun z => nomatch z), hp⟩
      · cases h
    · rename_i e
      have ea : (w.put k p).ad j = w.ad j := if_neg (Ne.symm e)
      rw [ea]
      obtain ⟨h1, h2, h3, h4⟩ := kk.cl j b c' h
      have hne : w.ad j ≠ p := fun z => nC (by rw [← z]; exact h1)
      exact ⟨.inl h1, fun z => .inl (h2 z), fun z y => y.elim (h3 z) hne, h4⟩
  inj := fun j j' x y h h' e => by
    rw [List.getElem?_set] at h h'
    have key : ∀ {i : Nat} {x : Bool × Cell}, i ≠ k → cs[i]? = some (some x) → (w.put k p).ad i = w.ad i ∧ w.ad i ≠ p := fun {i x} hi hx =>
      ⟨if_neg hi, fun z => nC (by rw [← z]; exact (kk.cl i x.1 x.2 hx).1)⟩
    have ek : (w.put k p).ad k = p := if_pos rfl
    by_cases e1 : k = j
    · by_cases e2 : k = j'
      · rw [← e1, ← e2]
      · rw [if_neg e2] at h'
        obtain ⟨g1, g2⟩ := key (Ne.symm e2) h'
        rw [← e1, ek, g1] at e
        exact absurd e.symm g2
    · rw [if_neg e1] at h
      obtain ⟨g1, g2⟩ := key (Ne.symm e1) h
      by_cases e2 : k = j'
      · rw [← e2, ek, g1] at e
        exact absurd e g2
      · rw [if_neg e2] at h'
        obtain ⟨g1', g2'⟩ := key (Ne.symm e2) h'
        rw [g1, g1'] at e
        exact kk.inj j j' x y h h' e
/-- where cell k is made anew, the slots that hold other things stay -/
theorem SlOk.put {w : W} {H : Hp} {σ : St} {sl : Sl} {k : Nat} {p : Addr} (s : SlOk K (w.ban p) H σ sl) (nk : ∀ i : Nat, sl[i]? ≠ some (some (.cell k))) : SlOk K (w.put k p) H σ sl where
  len := s.len
  at_ := fun i a hi => by
    obtain ⟨v, h1, h2⟩ := s.at_ i a hi
    refine ⟨v, h1, ?_⟩
    cases a with
    | dat d => exact h2
    | cell j =>
      have hj : j ≠ k := fun z => nk i (by rw [← z]; exact hi)
      show v = .ref (if j = k then p else w.ad j)
      rw [if_neg hj]; exact h2
    | new c => exact h2
    | scr ns => exact h2
    | ptu ds => exact h2
theorem Step.put {np : Nat} {w : W} {H H1 : Hp} {k : Nat} {p : Addr} {cs : Cs} (e : Ev w.M H H1) (k1 : WOk w H1 cs) (hp : H p = none) (h1 : H1 p ≠ none) (hk : np ≤ k) : Step np w H (w.put k p) H1 where
  f1 := fun _ h => .inl h
  f2 := fun a h => h.elim .inl fun z => .inr (by rw [z]; exact hp)
  m1 := fun _ h => .inl h
  m2 := fun a h => h.elim .inl fun z => .inr (by rw [z]; exact hp)
  c2 := fun a h => h.elim .inl fun z => .inr (by rw [z]; exact hp)
  ev := e
  bk := back_of e k1
  ad := fun j hj => if_neg (by omega)
end
/-- no slot but i holds cell k -/
def noCell (k : Nat) : Sl → Bool
  | [] => true
  | some (.cell j) :: r => decide (j ≠ k) && noCell k r
  | _ :: r => noCell k r
theorem noCell_ok {k : Nat} : ∀ {sl : Sl}, noCell k sl = true → ∀ i : Nat, sl[i]? ≠ some (some (.cell k))
  | [], _, i => by simp
  | a :: r, h, i => by
    cases i with
    | zero =>
      intro z
      simp only [List.getElem?_cons_zero, Option.some.injEq] at z
      subst z
      simp [noCell] at h
    | succ i =>
      simp only [List.getElem?_cons_succ]
      refine noCell_ok ?_ i
      cases a with
      | none => exact h
      | some a =>
        cases a with
        | cell j => simp only [noCell, Bool.and_eq_true] at h; exact h.2
        | dat d => exact h
        | new c => exact h
        | scr ns => exact h
        | ptu ds => exact h
def sPutC (np i k : Nat) (c : Cell) (sl : Sl) (cs : Cs) : Option (Sl × Cs) := if (decide (np ≤ k) && noCell k (sl.set i none)) = true then some ((sl.set i none).set i (some (.cell k)), cs.set k (some (false, c))) else none
def sNew (np i k : Nat) (me : ME) : MS := fun sl cs => match me sl cs with
  | some (.new c, c1) => match sPutC np i k c sl c1 with
    | some (sl1, c2) => some (.nx sl1 c2)
    | none => none
  | _ => none
section
variable {K : PySem.W.Frag} {np : Nat} {t u : TS} {m r : MS} {te : TE} {me : ME}
theorem fresh_trb {w : W} {H H1 : Hp} {cs : Cs} {σ : St} {sl : Sl} {p : Addr} (k : WOk w H cs) (s : SlOk K w H σ sl) (e : Ev w.M H H1) (hp : H p = none) : SlOk K (w.ban p) H1 σ sl :=
  (s.trF (w' := w.ban p) (Tr.ban hp) rfl).mono (fun a z => .inl (k.mf a z)) e
theorem refs_new {i k : Nat} (h : Ref K te me) : RefS K np (tAsg te (gName i)) (sNew np i k me) := fun w sl cs o e σ H kk s Dn c => by
  unfold sNew at e
  split at e
  · rename_i c0 c1 e1
    split at e
    · rename_i sl1 c2 e2
      cases e
      unfold sPutC at e2
      split at e2
      · rename_i hk
        cases e2
        rw [Bool.and_eq_true] at hk
        have hk1 : np ≤ k := of_decide_eq_true hk.1
        refine h w sl cs _ _ e1 σ H kk s _ fun v H1 ev1 k1 r1 b1 => ?_
        obtain ⟨p, rfl, hp, hc⟩ := r1
        have hpF : ¬ w.F p := fun z => kk.fx p z hp
        have s2 : SlOk K (w.put k p) H1 σ (sl.set i none) := ((fresh_trb kk s ev1 hp).forget i).put (noCell_ok hk.2)
        have ea : (w.put k p).ad k = p := if_pos rfl
        exact c (w.put k p) _ H1 (Step.put ev1 k1 hp hc.has hk1) ((b1 p rfl).put (fun z => hpF (kk.cf p z)) hc) (s2.set i (a := .cell k) (by show V.ref p = .ref ((w.put k p).ad k); rw [ea]))
      · cases e2
    · cases e
  · cases e
theorem refs_asgG {g : TG} {mg : MG} {ix : List Nat} (h : Ref K te me) (hg : RefG K g mg ix) : RefS K np (tAsg te g) (sAsgG mg me) := fun w sl cs o e σ H k s Dn c => by
  unfold sAsgG at e
  split at e
  · rename_i a c1 e1
    split at e
    · rename_i d hd
      split at e
      · rename_i sl1 hs
        cases e
        refine h w sl cs _ _ e1 σ H k s _ fun v H1 ev1 k1 r1 _ => ?_
        exact hg w H1 v d sl sl1 (r1.dq k1 (fun p hp => k.nf hp) hd) hs σ (s.mono k.mf ev1) _ fun σ' s' _ => c w σ' H1 (Step.of ev1 k1) k1 s'
      · cases e
    · cases e
  · cases e
theorem refs_if {tt : TT} {mt : MT} (ht : RefT K tt mt) (h1 : RefS K np t m) (h2 : RefS K np u r) : RefS K np (tIfS tt t u) (sIf mt m r) := fun w sl cs o e σ H k s Dn c => by
  unfold sIf at e
  split at e
  · rename_i c1 e1
    refine ht w sl cs _ _ e1 σ H k s _ fun H1 ev1 k1 => ?_
    show t Dn σ H1
    exact h1 w sl c1 o e σ H1 k1 (s.mono k.mf ev1) Dn (c.step (Step.of ev1 k1))
  · rename_i c1 e1
    refine ht w sl cs _ _ e1 σ H k s _ fun H1 ev1 k1 => ?_
    show u Dn σ H1
    exact h2 w sl c1 o e σ H1 k1 (s.mono k.mf ev1) Dn (c.step (Step.of ev1 k1))
  · cases e
theorem refs_ret (h : Ref K te me) : RefS K np (tRet te) (sRet me) := fun w sl cs o e σ H k s Dn c => by
  unfold sRet at e
  split at e
  · rename_i a c1 e1
    cases e
    exact h w sl cs _ _ e1 σ H k s _ fun v H1 ev1 k1 r1 b1 => c w v H1 (Step.of ev1 k1) k1 r1 b1
  · cases e
theorem refs_retN : RefS K np tRetN sRetN := fun w sl cs o e σ H k s Dn c => by
  cases e
  exact c w _ H (Step.of (Ev.refl H) k) k .non trivial
theorem refs_drop (h : Ref K te me) : RefS K np (tDrop te) (sDrop me) := fun w sl cs o e σ H k s Dn c => by
  unfold sDrop at e
  split at e
  · rename_i a c1 e1
    cases e
    exact h w sl cs _ _ e1 σ H k s _ fun v H1 ev1 k1 r1 _ => c w σ H1 (Step.of ev1 k1) k1 (s.mono k.mf ev1)
  · cases e
theorem refs_break : RefS K np tBreak sBreak := fun w sl cs o e σ H k s Dn c => by
  cases e
  exact c w σ H (Step.of (Ev.refl H) k) k s
theorem refs_cont : RefS K np tCont sCont := fun w sl cs o e σ H k s Dn c => by
  cases e
  exact c w σ H (Step.of (Ev.refl H) k) k s
theorem refs_never : RefS K np tNever sNever := fun w sl cs o e σ H k s Dn c => nomatch e
theorem refs_kill {kl : List Nat} (h : RefS K np t m) : RefS K np t (sKill kl m) := fun w sl cs o e σ H k s Dn c => by
  unfold sKill at e
  split at e
  · rename_i sl1 c1 e1
    cases e
    exact h w sl cs _ e1 σ H k s Dn fun w' σ' H' st k' s' => c w' σ' H' st k' (kill_ok kl s')
  · rename_i o' _ e1
    cases e
    exact h w sl cs _ e1 σ H k s Dn c
  · cases e
theorem refs_for {wi : TI} {mi : MI} {g : TG} {mg : MG} {ix kl : List Nat} (hi : RefI K wi mi) (hg : RefG K g mg ix) (hb : RefS K np t m) : RefS K np (tFor wi g t) (sFor mi mg kl m) := fun w sl cs o e σ H k s Dn c => by
  unfold sFor at e
  split at e
  · rename_i ds c1 e1
    refine hi w sl cs ds c1 e1 σ H k s _ fun J H1 ev1 k1 wk => ?_
    have st1 : Step np w H w H1 := Step.of ev1 k1
    refine ⟨fun i m' σ' H' => ∃ w' sl' cs', i + m' = ds.length ∧ forLoop mg m kl (ds.drop i) sl' cs' = some o ∧ Step np w H1 w' H' ∧ WOk w' H' cs' ∧ SlOk K w' H' σ' sl',
      ⟨ds.length, w, kill kl sl, c1, by omega, e, Step.of (Ev.refl H1) k1, k1, kill_ok kl (s.mono k.mf ev1)⟩, ?_⟩
    rintro i m' σ' H' ⟨w', sl', cs', hm, hl, st, k', s'⟩
    by_cases hi : i < ds.length
    · refine .inr ⟨wk.go H' i st.ev hi, fun σ2 H2 => ∃ w' sl' cs', forLoop mg m kl (ds.drop (i + 1)) sl' cs' = some o ∧ Step np w H1 w' H2 ∧ WOk w' H2 cs' ∧ SlOk K w' H2 σ2 sl', fun σ2 H2 hN => ?_, fun x H2 hy => ?_⟩
      · obtain ⟨w2, sl2, cs2, g1, g2, g3, g4⟩ := hN
        exact ⟨m' - 1, by omega, w2, sl2, cs2, by omega, g1, g2, g3, g4⟩
      · have hd : ds[i]? = some ds[i] := List.getElem?_eq_getElem hi
        rw [List.drop_eq_getElem_cons hi] at hl
        unfold forLoop at hl
        obtain ⟨ey, qy⟩ := wk.yld w'.F H' i ds[i] x H2 st.f2 k'.fx st.ev hd hy
        have k2 := k'.ev ey
        have st2 : Step np w H1 w' H2 := st.trans (Step.of ey.ev k2)
        split at hl
        · rename_i sl1 hg1
          refine hg w' H2 x ds[i] sl' sl1 qy hg1 σ' (s'.mono k'.mf ey.ev) _ fun σ2 s2 _ => ?_
          split at hl
          · rename_i sl2 c2 hb2
            exact hb w' sl1 cs' _ hb2 σ2 H2 k2 s2 _ fun w3 σ3 H3 st3 k3 s3 => ⟨w3, _, _, hl, st2.trans st3, k3, kill_ok kl s3⟩
          · rename_i sl2 c2 hb2
            exact hb w' sl1 cs' _ hb2 σ2 H2 k2 s2 _ fun w3 σ3 H3 st3 k3 s3 => ⟨w3, _, _, hl, st2.trans st3, k3, kill_ok kl s3⟩
          · rename_i sl2 c2 hb2
            cases hl
            exact hb w' sl1 cs' _ hb2 σ2 H2 k2 s2 _ fun w3 σ3 H3 st3 k3 s3 => c w3 σ3 H3 (st1.trans (st2.trans st3)) k3 (kill_ok kl s3)
          · rename_i a c2 hb2
            cases hl
            refine hb w' sl1 cs' _ hb2 σ2 H2 k2 s2 _ fun w3 v H3 st3 k3 r3 b3 => ?_
            exact c w3 v H3 (st1.trans (st2.trans st3)) k3 (r3.back fun q hq => st1.bk q (st2.bk q hq)) b3
          · cases hl
        · cases hl
    · refine .inl ⟨wk.stop H' i st.ev (by omega), ?_⟩
      rw [List.drop_eq_nil_of_le (by omega)] at hl
      unfold forLoop at hl
      cases hl
      exact c w' σ' H' (st1.trans st) k' s'
  · cases e
theorem refs_while {tt : TT} {mt : MT} {fuel : Nat} {kl : List Nat} (ht : RefT K tt mt) (hb : RefS K np t m) : RefS K np (tWhile tt t) (sWhile fuel mt kl m) := fun w sl cs o e σ H k s Dn c => by
  unfold sWhile at e
  refine ⟨fun n σ' H' => ∃ w' sl' cs', whLoop mt m kl n sl' cs' = some o ∧ Step np w H w' H' ∧ WOk w' H' cs' ∧ SlOk K w' H' σ' sl', ⟨fuel, w, kill kl sl, cs, e, Step.of (Ev.refl H) k, k, kill_ok kl s⟩, ?_⟩
  rintro n σ' H' ⟨w', sl', cs', hl, st, k', s'⟩
  cases n with
  | zero => cases hl
  | succ n =>
    unfold whLoop at hl
    split at hl
    · rename_i c1 h1
      refine ht w' sl' cs' _ _ h1 σ' H' k' s' _ fun H1 ev1 k1 => ?_
      have st1 : Step np w H w' H1 := st.trans (Step.of ev1 k1)
      rw [if_pos rfl]
      refine ⟨fun σ2 H2 => ∃ w' sl' cs', whLoop mt m kl n sl' cs' = some o ∧ Step np w H w' H2 ∧ WOk w' H2 cs' ∧ SlOk K w' H2 σ2 sl', fun σ2 H2 hN => ⟨n, Nat.lt_succ_self n, hN⟩, ?_⟩
      have s1 := s'.mono k'.mf ev1
      split at hl
      · rename_i sl2 c2 hb2
        exact hb w' sl' c1 _ hb2 σ' H1 k1 s1 _ fun w3 σ3 H3 st3 k3 s3 => ⟨w3, _, _, hl, st1.trans st3, k3, kill_ok kl s3⟩
      · rename_i sl2 c2 hb2
        exact hb w' sl' c1 _ hb2 σ' H1 k1 s1 _ fun w3 σ3 H3 st3 k3 s3 => ⟨w3, _, _, hl, st1.trans st3, k3, kill_ok kl s3⟩
      · rename_i sl2 c2 hb2
        cases hl
        exact hb w' sl' c1 _ hb2 σ' H1 k1 s1 _ fun w3 σ3 H3 st3 k3 s3 => c w3 σ3 H3 (st1.trans st3) k3 (kill_ok kl s3)
      · rename_i a c2 hb2
        cases hl
        exact hb w' sl' c1 _ hb2 σ' H1 k1 s1 _ fun w3 v H3 st3 k3 r3 b3 => c w3 v H3 (st1.trans st3) k3 (r3.back st1.bk) b3
      · cases hl
    · rename_i c1 h1
      cases hl
      refine ht w' sl' cs' _ _ h1 σ' H' k' s' _ fun H1 ev1 k1 => ?_
      exact c w' σ' H1 (st.trans (Step.of ev1 k1)) k1 (s'.mono k'.mf ev1)
    · cases hl
end

/-! ### defs -/
def renum : List A → Nat → List A
  | [], _ => []
  | .cell _ :: r, n => .cell n :: renum r (n + 1)
  | .new c :: r, n => .dat (cD c) :: renum r n
  | .dat d :: r, n => .dat d :: renum r n
  | .scr ns :: r, n => .scr ns :: renum r n
  | .ptu ds :: r, n => .ptu ds :: renum r n
def cellsOf : List A → List Nat
  | [] => []
  | .cell k :: r => k :: cellsOf r
  | _ :: r => cellsOf r
def putBack (c1 : Cs) : List Nat → Cs → Cs
  | k :: ks, x :: xs => (putBack c1 ks xs).set k x
  | k :: ks, [] => (putBack c1 ks []).set k none
  | [], _ => c1
def isIn (x : Option (Bool × Cell)) : Bool := match x with
  | some _ => true
  | none => false
abbrev MF := List A → Cs → Option (A × Cs)
def mCall (n : Nat) (f : MF) (ma : MA) : ME := fun sl cs => match ma sl cs with
  | some (as, c1) => if (decide (as.length = n) && decide (cellsOf as).Nodup && (cellsOf as).all fun k => isIn (c1.getD k none)) = true then
      match f (renum as 0) ((cellsOf as).map fun k => c1.getD k none) with
      | some (.cell _, _) => none
      | some (r, c') => some (r, putBack c1 (cellsOf as) c')
      | none => none
    else none
  | none => none
section
variable {K : PySem.W.Frag}
inductive AOkL (K : PySem.W.Frag) (w : W) (H : Hp) : List V → List A → Prop
  | nil : AOkL K w H [] []
  | cons {v : V} {vs : List V} {a : A} {as : List A} : AOk K w H v a → AOkL K w H vs as → AOkL K w H (v :: vs) (a :: as)
theorem AOkL.len {w : W} {H : Hp} : ∀ {vs : List V} {as : List A}, AOkL K w H vs as → vs.length = as.length
  | _, _, .nil => rfl
  | _, _, .cons _ b => congrArg (· + 1) b.len
/-- a def's promise by its mirror -/
def spM (K : PySem.W.Frag) (n : Nat) (f : MF) : Sp := fun vs H Q _ => ∃ (w : W) (as : List A) (cs : Cs) (r : A) (cs' : Cs), vs.length = n ∧ WOk w H cs ∧ AOkL K w H vs as ∧ (∀ a, w.C a → ∃ j x, cs[j]? = some (some x) ∧ a = w.ad j) ∧ f as cs = some (r, cs') ∧
  ∀ v H', Ev w.M H H' → WOk w H' cs' → ROk K w H H' v r → BOk w H' cs' v r → Q v H'
end
end Rf

namespace Rf
open PySem L2

theorem putBack_get : ∀ (ks : List Nat) (c1 c' : Cs) (k : Nat) (x : Bool × Cell), (putBack c1 ks c')[k]? = some (some x) → (k ∉ ks ∧ c1[k]? = some (some x)) ∨ ∃ j : Nat, ks[j]? = some k ∧ c'[j]? = some (some x)
  | [], c1, c', k, x, h => by unfold putBack at h; exact .inl ⟨by simp, h⟩
  | i :: ks, c1, [], k, x, h => by
    unfold putBack at h
    rw [List.getElem?_set] at h
    split at h
    · split at h <;> cases h
    · rename_i e
      rcases putBack_get ks c1 [] k x h with ⟨h1, h2⟩ | ⟨j, h1, h2⟩
      · exact .inl ⟨by simp only [List.mem_cons, not_or]; exact ⟨fun z => e z.symm, h1⟩, h2⟩
      · simp at h2
  | i :: ks, c1, y :: ys, k, x, h => by
    unfold putBack at h
    rw [List.getElem?_set] at h
    split at h
    · rename_i e
      subst e
      split at h
      · cases h
        exact .inr ⟨0, rfl, rfl⟩
      · cases h
    · rename_i e
      rcases putBack_get ks c1 ys k x h with ⟨h1, h2⟩ | ⟨j, h1, h2⟩
      · exact .inl ⟨by simp only [List.mem_cons, not_or]; exact ⟨fun z => e z.symm, h1⟩, h2⟩
      · exact .inr ⟨j + 1, by simpa using h1, by simpa using h2⟩
theorem getD_some {c1 : Cs} {k : Nat} {x : Bool × Cell} (h : c1.getD k none = some x) : c1[k]? = some (some x) := by
  rw [List.getD_eq_getElem?_getD] at h
  cases e : c1[k]? with
  | none => rw [e] at h; cases h
  | some y => rw [e] at h; exact congrArg some h
section
variable {K : PySem.W.Frag}
/-- the world of a call: its cells alone may change -/
def W.sub (w : W) (ks : List Nat) : W := ⟨w.F, fun a => ∃ k ∈ ks, a = w.ad k, fun a => w.M a ∧ ∃ k ∈ ks, a = w.ad k, fun j => w.ad (ks.getD j 0)⟩
theorem sub_cs {c1 : Cs} {ks : List Nat} {j : Nat} {x : Bool × Cell} (h : (ks.map fun k => c1.getD k none)[j]? = some (some x)) : ∃ k, ks[j]? = some k ∧ c1[k]? = some (some x) := by
  rw [List.getElem?_map] at h
  cases e : ks[j]? with
  | none => rw [e] at h; cases h
  | some k =>
    rw [e] at h
    exact ⟨k, rfl, getD_some (Option.some.inj h)⟩
theorem getD_ix {ks : List Nat} {j k : Nat} (h : ks[j]? = some k) : ks.getD j 0 = k := by rw [List.getD_eq_getElem?_getD, h]; rfl
theorem WOk.sub {w : W} {H : Hp} {c1 : Cs} {ks : List Nat} (k1 : WOk w H c1) (nd : ks.Nodup) (hin : ∀ k ∈ ks, ∃ x, c1[k]? = some (some x)) : WOk (w.sub ks) H (ks.map fun k => c1.getD k none) where
  fx := k1.fx
  cf := fun a h => by
    obtain ⟨k, hk, rfl⟩ := h
    obtain ⟨x, hx⟩ := hin k hk
    exact k1.cf _ (k1.cl k x.1 x.2 hx).1
  mc := fun a h => h.2
  cl := fun j b c h => by
    obtain ⟨k, h1, h2⟩ := sub_cs h
    have ea : (w.sub ks).ad j = w.ad k := by show w.ad (ks.getD j 0) = _; rw [getD_ix h1]
    have hm : k ∈ ks := List.mem_of_getElem? h1
    obtain ⟨g1, g2, g3, g4⟩ := k1.cl k b c h2
    rw [ea]
    exact ⟨⟨k, hm, rfl⟩, fun z => ⟨g2 z, k, hm, rfl⟩, fun z y => g3 z y.1, g4⟩
  inj := fun i j x y hi hj e => by
    obtain ⟨k, h1, h2⟩ := sub_cs hi
    obtain ⟨k', h1', h2'⟩ := sub_cs hj
    have e1 : w.ad k = w.ad k' := by
      have := e
      show w.ad k = w.ad k'
      rw [← getD_ix h1, ← getD_ix h1']; exact this
    have e2 := k1.inj k k' x y h2 h2' e1
    subst e2
    obtain ⟨l1, q1⟩ := List.getElem?_eq_some_iff.mp h1
    obtain ⟨l2, q2⟩ := List.getElem?_eq_some_iff.mp h1'
    exact (List.getElem_inj nd).mp (q1.trans q2.symm)
theorem WOk.back {w : W} {H1 H2 : Hp} {c1 c' : Cs} {ks : List Nat} {F2 : Addr → Prop} (k1 : WOk w H1 c1) (hin : ∀ k ∈ ks, ∃ x, c1[k]? = some (some x)) (e : Ev (w.sub ks).M H1 H2) (k2 : WOk { w.sub ks with F := F2 } H2 c') (tr : Tr w.F H1 F2 H2) (cf2 : ∀ a, w.C a → F2 a) : WOk { w with F := F2 } H2 (putBack c1 ks c') where
  fx := k2.fx
  cf := cf2
  mc := k1.mc
  cl := fun k b c h => by
    rcases putBack_get ks c1 c' k (b, c) h with ⟨h1, h2⟩ | ⟨j, h1, h2⟩
    · obtain ⟨g1, g2, g3, g4⟩ := k1.cl k b c h2
      refine ⟨g1, g2, g3, g4.tr tr fun o ho => e _ o ho fun z => ?_⟩
      obtain ⟨k', hk', ea⟩ := z.2
      obtain ⟨x, hx⟩ := hin k' hk'
      exact h1 (by rw [k1.inj k k' (b, c) x h2 hx ea]; exact hk')
    · obtain ⟨g1, g2, g3, g4⟩ := k2.cl j b c h2
      have ea : (w.sub ks).ad j = w.ad k := by show w.ad (ks.getD j 0) = _; rw [getD_ix h1]
      have hm : k ∈ ks := List.mem_of_getElem? h1
      obtain ⟨x, hx⟩ := hin k hm
      replace g4 : CellOk F2 H2 (w.ad k) b c := by rw [← ea]; exact g4
      replace g2 : b = false → w.M (w.ad k) := fun z => by rw [← ea]; exact (g2 z).1
      replace g3 : b = true → ¬ w.M (w.ad k) := fun z y => g3 z (by rw [show ({ w.sub ks with F := F2 } : W).ad j = w.ad k from ea]; exact ⟨y, k, hm, rfl⟩)
      exact ⟨(k1.cl k x.1 x.2 hx).1, g2, g3, g4⟩
  inj := fun i j x y hi hj ea => by
    have init : ∀ {k : Nat} {x : Bool × Cell}, (putBack c1 ks c')[k]? = some (some x) → ∃ y, c1[k]? = some (some y) := fun {k x} h => by
      rcases putBack_get ks c1 c' k x h with ⟨h1, h2⟩ | ⟨j, h1, h2⟩
      · exact ⟨x, h2⟩
      · exact hin k (List.mem_of_getElem? h1)
    obtain ⟨x', hx'⟩ := init hi
    obtain ⟨y', hy'⟩ := init hj
    exact k1.inj i j x' y' hx' hy' ea
theorem renum_len : ∀ (as : List A) (n : Nat), (renum as n).length = as.length
  | [], _ => rfl
  | .cell _ :: r, n => congrArg (· + 1) (renum_len r (n + 1))
  | .new _ :: r, n => congrArg (· + 1) (renum_len r n)
  | .dat _ :: r, n => congrArg (· + 1) (renum_len r n)
  | .scr _ :: r, n => congrArg (· + 1) (renum_len r n)
  | .ptu _ :: r, n => congrArg (· + 1) (renum_len r n)
theorem renum_ok {w w' : W} {H H1 : Hp} {cs : Cs} (hF : w'.F = w.F) (k : WOk w H1 cs) (f : ∀ p, H p = none → ¬ w.F p) : ∀ {vs : List V} {as : List A} (n : Nat), (∀ j i, (cellsOf as)[j]? = some i → w'.ad (n + j) = w.ad i) → ROkL K w H H1 vs as → AOkL K w' H1 vs (renum as n)
  | _, _, n, _, .nil => .nil
  | _, .cell i :: as, n, h, .cons a b => .cons (by
      have e : w'.ad n = w.ad i := h 0 i rfl
      show _ = V.ref (w'.ad n)
      rw [e]; exact a) (renum_ok hF k f (n + 1) (fun j i' hj => by rw [show n + 1 + j = n + (j + 1) by omega]; exact h (j + 1) i' (by simpa [cellsOf] using hj)) b)
  | _, .dat d :: as, n, h, .cons a b => .cons (by show Dq w'.F H1 _ d; rw [hF]; exact a) (renum_ok hF k f n h b)
  | _, .new c :: as, n, h, .cons a b => .cons (by
      show Dq w'.F H1 _ (cD c)
      rw [hF]
      exact ROk.dq (K := K) (a := .new c) k f a rfl) (renum_ok hF k f n h b)
  | _, .scr ns :: as, n, h, .cons a b => .cons (by
      obtain ⟨p, h1, h2⟩ := a
      exact ⟨p, h1, by rw [hF]; exact h2⟩) (renum_ok hF k f n h b)
  | _, .ptu ds :: as, n, h, .cons a b => .cons (by show PtuOk w'.F H1 _ ds; rw [hF]; exact a) (renum_ok hF k f n h b)
theorem ROkL.len {w : W} {H H1 : Hp} : ∀ {vs : List V} {as : List A}, ROkL K w H H1 vs as → vs.length = as.length
  | _, _, .nil => rfl
  | _, _, .cons _ b => congrArg (· + 1) (ROkL.len b)
theorem ref_call {n : Nat} {f : MF} {E : XK} {tA : TA} {mA : MA} (ha : RefA K tA mA) : Ref K (tCall (spM K n f) [] E tA) (mCall n f mA) := fun w sl cs r cs' e σ H k s Q q => by
  unfold mCall at e
  split at e
  · rename_i as c1 h1
    split at e
    · rename_i hc
      rw [Bool.and_eq_true, Bool.and_eq_true] at hc
      obtain ⟨⟨hn, hnd⟩, hall⟩ := hc
      have hn : as.length = n := of_decide_eq_true hn
      have hnd : (cellsOf as).Nodup := of_decide_eq_true hnd
      have hin : ∀ k ∈ cellsOf as, ∃ x, c1[k]? = some (some x) := fun k hk => by
        have h := List.all_eq_true.mp hall k hk
        cases hg : c1.getD k none with
        | none => rw [hg] at h; cases h
        | some x => exact ⟨x, getD_some hg⟩
      split at e
      · cases e
      · rename_i r' c' hrc hf
        cases e
        refine ha w sl cs as c1 h1 σ H k s _ fun vs H1 e1 k1 r1 => ?_
        have hvl : vs.length = n := by
          rw [← hn]; exact r1.len
        rw [List.append_nil]
        refine ⟨w.sub (cellsOf as), renum as 0, _, _, c', hvl, k1.sub hnd hin, renum_ok (w := w) (w' := w.sub (cellsOf as)) rfl k1 (fun p hp => k.nf hp) 0 (fun j i hj => by
          show w.ad ((cellsOf as).getD (0 + j) 0) = _
          rw [Nat.zero_add, getD_ix hj]) r1, fun a z => ?_, hf, fun v H2 e2 k2 r2 b2 => ?_⟩
        · obtain ⟨i, hi, rfl⟩ := z
          obtain ⟨j, hj⟩ := List.getElem?_of_mem hi
          obtain ⟨x, hx⟩ := hin i hi
          refine ⟨j, x, ?_, ?_⟩
          · rw [List.getElem?_map, hj]
            show some (c1.getD i none) = _
            rw [List.getD_eq_getElem?_getD, hx]; rfl
          · show _ = w.ad ((cellsOf as).getD j 0)
            rw [getD_ix hj]
        · have e2' : Ev w.M H1 H2 := e2.mono fun a z => z.1
          refine q v H2 (e1.trans e2') (k1.back hin e2 k2 (Tr.of e2' k1.mf) k1.cf) ?_ ?_
          · cases r with
            | dat d => exact r2
            | new c =>
              obtain ⟨p, g1, g2, g3⟩ := r2
              exact ⟨p, g1, back_of e1 k1 p g2, g3⟩
            | cell j => exact (hrc _ rfl).elim
            | scr ns => exact r2
            | ptu ds => exact r2
          · cases r with
            | new c =>
              intro p hp
              obtain ⟨p', g1, g2, g3⟩ := r2
              have hpp : p' = p := by rw [hp] at g1; cases g1; rfl
              subst hpp
              exact k1.back hin e2 (b2 p' hp) (Tr.ofF e2' k1.mf fun a z => z.elim .inl fun z => .inr (by rw [z]; exact g2)) fun a z => .inl (k1.cf a z)
            | dat d => trivial
            | cell j => trivial
            | scr ns => trivial
            | ptu ds => trivial
      · cases e
    · cases e
  · cases e
end

/-! ### a def's body -/
def retA (np : Nat) (c2 : Cs) : A → Option A
  | .dat d => some (.dat d)
  | .new c => some (.new c)
  | .cell k => if np ≤ k then match c2[k]? with
    | some (some (false, c)) => some (.new c)
    | _ => none
    else none
  | .scr _ => none
  | .ptu ds => some (.ptu ds)
def runF (N np nc : Nat) (m : MS) : MF := fun as cs => if (decide (cs.length = np) && cs.all isIn) = true then
    match m (as.map some ++ List.replicate (N - as.length) none) (cs ++ List.replicate nc none) with
    | some (.nx _ c2) => if (c2.take np).all isIn = true then some (.dat .none, c2.take np) else none
    | some (.rt a c2) => if (c2.take np).all isIn = true then match retA np c2 a with
      | some r => some (r, c2.take np)
      | none => none
      else none
    | _ => none
  else none
section
variable {K : PySem.W.Frag} {np : Nat}
theorem all_in {cs : Cs} (h : cs.all isIn = true) {k : Nat} (hk : k < cs.length) : ∃ x, cs[k]? = some (some x) := by
  have h1 := List.all_eq_true.mp h cs[k] (List.getElem_mem hk)
  cases e : cs[k] with
  | none => rw [e] at h1; cases h1
  | some x => exact ⟨x, by rw [List.getElem?_eq_getElem hk, e]⟩
theorem WOk.end_ {w w' : W} {H H' : Hp} {cs c2 : Cs} {F1 F2 : Addr → Prop} (k0 : WOk w H cs) (hl : cs.length = np) (h0 : cs.all isIn = true) (st : Step np w H w' H') (k' : WOk { w' with F := F1 } H' c2) (hF : ∀ a, F2 a → F1 a) (hC : ∀ a, w.C a → F2 a) : WOk { w with F := F2 } H' (c2.take np) where
  fx := fun a f => k'.fx a (hF a f)
  cf := hC
  mc := k0.mc
  cl := fun k b c h => by
    rw [List.getElem?_take] at h
    split at h
    · rename_i hk
      obtain ⟨x, hx⟩ := all_in h0 (show k < cs.length by omega)
      obtain ⟨q1, q2, q3, q4⟩ := k0.cl k x.1 x.2 hx
      obtain ⟨g1, g2, g3, g4⟩ := k'.cl k b c h
      have ea : w'.ad k = w.ad k := st.ad k hk
      replace g4 : CellOk F1 H' (w.ad k) b c := by rw [← ea]; exact g4
      replace g2 : b = false → w'.M (w.ad k) := fun z => by rw [← ea]; exact g2 z
      replace g3 : b = true → ¬ w'.M (w.ad k) := fun z => by rw [← ea]; exact g3 z
      refine ⟨q1, fun z => (st.m2 _ (g2 z)).elim id fun y => absurd y q4.has, fun z y => g3 z (st.m1 _ y), g4.tr (Tr.weak hF) fun o ho => ho⟩
    · cases h
  inj := fun i j x y hi hj e => by
    rw [List.getElem?_take] at hi hj
    split at hi
    · split at hj
      · rename_i h1 h2
        obtain ⟨x, hx⟩ := all_in h0 (show i < cs.length by omega)
        obtain ⟨y, hy⟩ := all_in h0 (show j < cs.length by omega)
        exact k0.inj i j x y hx hy e
      · cases hj
    · cases hi
theorem WOk.more {w : W} {H : Hp} {cs : Cs} (k : WOk w H cs) (n : Nat) : WOk w H (cs ++ List.replicate n none) := by
  have key : ∀ {i : Nat} {x : Bool × Cell}, (cs ++ List.replicate n none)[i]? = some (some x) → cs[i]? = some (some x) := fun {i x} h => by
    rw [List.getElem?_append] at h
    split at h
    · exact h
    · rw [List.getElem?_replicate] at h
      split at h <;> cases h
  exact ⟨k.fx, k.cf, k.mc, fun j b c h => k.cl j b c (key h), fun i j x y hi hj e => k.inj i j x y (key hi) (key hj) e⟩
theorem AOkL.get {w : W} {H : Hp} : ∀ {vs : List V} {as : List A}, AOkL K w H vs as → ∀ {i : Nat} {a : A}, as[i]? = some a → ∃ v, vs[i]? = some v ∧ AOk K w H v a
  | _, _, .nil, _, _, h => by simp at h
  | _, _, .cons a b, 0, _, h => by
    simp at h; subst h; exact ⟨_, rfl, a⟩
  | _, _, .cons a b, i + 1, _, h => by
    obtain ⟨v, e, q⟩ := AOkL.get b (i := i) (by simpa using h)
    exact ⟨v, by simpa using e, q⟩
theorem slok_start {w : W} {H : Hp} {N : List Str} {vs : List V} {as : List A} (h : AOkL K w H vs as) : SlOk K w H (L2.start N vs) (as.map some ++ List.replicate (N.length - as.length) none) where
  len := by unfold L2.start; rw [List.length_append, List.length_append, List.length_map, List.length_map, List.length_replicate, List.length_replicate, h.len]
  at_ := fun i a hi => by
    rw [List.getElem?_append] at hi
    split at hi
    · rename_i hl
      rw [List.length_map] at hl
      rw [List.getElem?_map] at hi
      cases e : as[i]? with
      | none => rw [e] at hi; cases hi
      | some a' =>
        rw [e] at hi
        cases hi
        obtain ⟨v, h1, h2⟩ := h.get e
        refine ⟨v, ?_, h2⟩
        unfold L2.start
        rw [List.getElem?_append_left (by rw [List.length_map, h.len]; exact hl), List.getElem?_map, h1]; rfl
    · rw [List.getElem?_replicate] at hi
      split at hi <;> cases hi
theorem body_ok {N : List Str} {n nc : Nat} {t : TS} {m : MS} (h : RefS K np t m) {vs : List V} {H : Hp} {Q : VK} {E : XK} (sp : spM K n (runF N.length np nc m) vs H Q E) : t { nx := fun _ H' => Q .non H', rt := Q } (L2.start N vs) H := by
  obtain ⟨w, as, cs, r, cs', hn, k, ha, hC, hf, q⟩ := sp
  unfold runF at hf
  split at hf
  · rename_i hc
    rw [Bool.and_eq_true] at hc
    have hl : cs.length = np := of_decide_eq_true hc.1
    have h0 := hc.2
    split at hf
    · rename_i sl2 c2 e
      split at hf
      · rename_i hi
        cases hf
        refine h w _ _ _ e (L2.start N vs) H (k.more nc) (slok_start ha) _ fun w' σ' H' st k' s' => ?_
        exact q _ H' st.ev (k.end_ (F1 := w'.F) (F2 := w.F) hl h0 st k' st.f1 k.cf) .non trivial
      · cases hf
    · rename_i a c2 e
      split at hf
      · rename_i hi
        split at hf
        · rename_i r' hr
          cases hf
          refine h w _ _ _ e (L2.start N vs) H (k.more nc) (slok_start ha) _ fun w' v H' st k' r1 b1 => ?_
          have kE : WOk w H' (c2.take np) := k.end_ (F1 := w'.F) (F2 := w.F) hl h0 st k' st.f1 k.cf
          cases a with
          | dat d =>
            cases hr
            exact q v H' st.ev kE (Dq.tr (Tr.weak st.f1) r1) trivial
          | new c =>
            cases hr
            obtain ⟨p, rfl, g2, g3⟩ := r1
            refine q _ H' st.ev kE ⟨p, rfl, g2, g3.tr (Tr.weak fun a z => z.elim (fun z => .inl (st.f1 a z)) .inr) fun o ho => ho⟩ fun p' e' => ?_
            cases e'
            exact k.end_ (F1 := fun a => w'.F a ∨ a = p) (F2 := fun a => w.F a ∨ a = p) hl h0 st (b1 p rfl) (fun a z => z.elim (fun z => .inl (st.f1 a z)) .inr) fun a z => .inl (k.cf a z)
          | cell j =>
            dsimp only [retA] at hr
            split at hr
            · rename_i hj
              split at hr
              · rename_i c hcj
                cases hr
                obtain ⟨g1, g2, g3, g4⟩ := k'.cl j false c hcj
                have ev : v = .ref (w'.ad j) := r1
                subst ev
                have pF : w'.F (w'.ad j) := k'.cf _ g1
                have hw : ∀ a, (w.F a ∨ a = w'.ad j) → w'.F a := fun a z => z.elim (st.f1 a) fun z => by rw [z]; exact pF
                have hnone : H (w'.ad j) = none := by
                  rcases st.c2 _ g1 with z | z
                  · obtain ⟨i, x, hx, ea⟩ := hC _ z
                    have hil : i < np := by rw [← hl]; exact (List.getElem?_eq_some_iff.mp hx).1
                    obtain ⟨y, hy⟩ := all_in hi (k := i) (by
                      rw [List.length_take]
                      have := (List.getElem?_eq_some_iff.mp hcj).1
                      omega)
                    rw [List.getElem?_take, if_pos hil] at hy
                    have := k'.inj j i _ y hcj hy (by rw [ea, st.ad i hil])
                    omega
                  · exact z
                refine q _ H' st.ev kE ⟨w'.ad j, rfl, hnone, g4.tr (Tr.weak hw) fun o ho => ho⟩ fun p' e' => ?_
                cases e'
                exact k.end_ (F1 := w'.F) (F2 := fun a => w.F a ∨ a = w'.ad j) hl h0 st k' hw fun a z => .inl (k.cf a z)
              · cases hr
            · cases hr
          | scr ns => cases hr
          | ptu ds =>
            cases hr
            exact q v H' st.ev kE (PtuOk.tr (Tr.weak st.f1) r1) trivial
        · cases hf
      · cases hf
    · cases hf
  · cases hf
theorem fn_okM {P : Program} {w : World} {mg : Str → Option Value} {base : Heap} {x qual : Str} {params : Arguments} {body : List Stmt} {scope : Scope} {f : Addr} {fd : FuncData} {N ps : List Str} {k n nc : Nat} {m : MS} (F : FunD K x qual params body scope [] [] f fd) (S : FnScope N ps scope) (hn : n = ps.length)
    (h : ∀ (cdv : Value) (A : Around) (outer : List Env) (s : Shared) (H : Hp) (E : XK), Room k (A.deeper (PyProof.Rows.envOfC qual scope s.heap.objs.size f cdv)) → ∃ t, PSs (cxOf CX0 P w K mg base N qual scope f cdv A outer s H E).nox body t ∧ RefS K np t m) :
    FnOk P w K mg base CX0 (k + 1) f fd ps (spM K n (runF N.length np nc m)) := by
  refine F.ok S (fun vs H Q E sp => ?_) fun cdv A outer s H vs Q E hr sp => ?_
  · obtain ⟨_, _, _, _, _, h1, _⟩ := sp
    rw [h1, hn]
  · obtain ⟨t, h1, h2⟩ := h cdv A outer s H E hr
    exact ⟨t, h1.nox, body_ok h2 sp⟩
end
end Rf

namespace Rf
open PySem L2

/-! ### dicts as they are read -/
def keyOf : D → Option Key
  | .int i => some (.inl i)
  | .str x => some (.inr x)
  | _ => none
def keysOf : List D → Option (List Key)
  | [] => some []
  | d :: r => match keyOf d, keysOf r with
    | some k, some ks => some (k :: ks)
    | _, _ => none
def tkeyOf : D → Option (List Key)
  | .tuple ds => keysOf ds
  | _ => none
theorem keyOf_kD (k : Key) : keyOf (kD k) = some k := by cases k <;> rfl
theorem keysOf_kD (k : List Key) : keysOf (k.map kD) = some k := by
  induction k with
  | nil => rfl
  | cons a r ih => simp only [List.map_cons, keysOf, keyOf_kD, ih]
theorem tkeyOf_tD (k : List Key) : tkeyOf (tD k) = some k := keysOf_kD k
def unK : List (D × D) → Option (List (Key × D))
  | [] => some []
  | (a, b) :: r => match keyOf a, unK r with
    | some k, some ks => some ((k, b) :: ks)
    | _, _ => none
def unT' : List (D × D) → Option (List (List Key × D))
  | [] => some []
  | (a, b) :: r => match tkeyOf a, unT' r with
    | some k, some ks => some ((k, b) :: ks)
    | _, _ => none
def unT : List (D × D) → Option (List (List Key × D))
  | (.none, .none) :: r => unT' r
  | _ => none
def viewK (cs : Cs) : A → Option (List (Key × D))
  | .dat (.dict l) => unK l
  | .new (.dK kvs) => some kvs
  | .cell k => match cs[k]? with
    | some (some (_, .dK kvs)) => some kvs
    | _ => none
  | _ => none
def viewT (cs : Cs) : A → Option (List (List Key × D))
  | .dat (.dict l) => unT l
  | .new (.dT kvs) => some kvs
  | .cell k => match cs[k]? with
    | some (some (_, .dT kvs)) => some kvs
    | _ => none
  | _ => none
variable {κ : Type} [DecidableEq κ]
def look (kvs : List (κ × D)) (k : κ) : Option D := (kvs.find? fun p => decide (p.1 = k)).map (·.2)
def put (kvs : List (κ × D)) (k : κ) (v : D) : List (κ × D) := if (kvs.any fun p => decide (p.1 = k)) = true then kvs.map (fun p => if p.1 = k then (p.1, v) else p) else kvs ++ [(k, v)]
def mergeD (kvs more : List (κ × D)) : List (κ × D) := more.foldl (fun acc p => put acc p.1 p.2) kvs
/-- what is read there is a dict of these -/
def KvOk (F : Addr → Prop) (H : Hp) (kv : List (κ × V)) (kvs : List (κ × D)) : Prop := kv.map (·.1) = kvs.map (·.1) ∧ DqA F H (kv.map (·.2)) (kvs.map (·.2))
theorem KvOk.nil {F : Addr → Prop} {H : Hp} {kvs : List (κ × D)} (h : KvOk F H [] kvs) : kvs = [] := by
  have := h.1
  cases kvs with
  | nil => rfl
  | cons a r => cases this
theorem KvOk.cons {F : Addr → Prop} {H : Hp} {k : κ} {v : V} {r : List (κ × V)} {kvs : List (κ × D)} (h : KvOk F H ((k, v) :: r) kvs) : ∃ d s, kvs = (k, d) :: s ∧ Dq F H v d ∧ KvOk F H r s := by
  obtain ⟨h1, h2⟩ := h
  cases kvs with
  | nil => cases h1
  | cons a s =>
    obtain ⟨k', d⟩ := a
    simp only [List.map_cons, List.cons.injEq] at h1
    obtain ⟨rfl, h1⟩ := h1
    cases h2 with
    | cons a b => exact ⟨d, s, rfl, a, h1, b⟩
theorem KvOk.mk {F : Addr → Prop} {H : Hp} {k : κ} {v : V} {d : D} {r : List (κ × V)} {s : List (κ × D)} (a : Dq F H v d) (h : KvOk F H r s) : KvOk F H ((k, v) :: r) ((k, d) :: s) :=
  ⟨by simp only [List.map_cons]; rw [h.1], .cons a h.2⟩
theorem KvOk.tr {F F' : Addr → Prop} {H H' : Hp} {kv : List (κ × V)} {kvs : List (κ × D)} (T : Tr F H F' H') (h : KvOk F H kv kvs) : KvOk F' H' kv kvs := ⟨h.1, h.2.tr T⟩
theorem KvOk.len {F : Addr → Prop} {H : Hp} {kv : List (κ × V)} {kvs : List (κ × D)} (h : KvOk F H kv kvs) : kv.length = kvs.length := by
  have := congrArg List.length h.1
  simpa using this
theorem KvOk.look {F : Addr → Prop} {H : Hp} (k : κ) : ∀ {kv : List (κ × V)} {kvs : List (κ × D)}, KvOk F H kv kvs → (∀ d, Rf.look kvs k = some d → ∃ v, valV kv k = some v ∧ Dq F H v d) ∧ (Rf.look kvs k = none → valV kv k = none)
  | [], kvs, h => by
    obtain rfl := h.nil
    exact ⟨(fun d e => by cases e), fun _ => rfl⟩
  | (k', v) :: r, kvs, h => by
    obtain ⟨d, s, rfl, h1, h2⟩ := h.cons
    by_cases e : k' = k
    · subst e
      have e1 : Rf.look ((k', d) :: s) k' = some d := by unfold Rf.look; rw [List.find?_cons_of_pos (by simp)]; rfl
      have e2 : valV ((k', v) :: r) k' = some v := by unfold valV; rw [List.find?_cons_of_pos (by simp)]; rfl
      rw [e1, e2]
      exact ⟨fun d' e => by cases e; exact ⟨v, rfl, h1⟩, fun e => by cases e⟩
    · have e1 : Rf.look ((k', d) :: s) k = Rf.look s k := by unfold Rf.look; rw [List.find?_cons_of_neg (by simpa using e)]
      have e2 : valV ((k', v) :: r) k = valV r k := by unfold valV; rw [List.find?_cons_of_neg (by simpa using e)]
      rw [e1, e2]
      exact KvOk.look k h2
theorem KvOk.any {F : Addr → Prop} {H : Hp} (k : κ) : ∀ {kv : List (κ × V)} {kvs : List (κ × D)}, KvOk F H kv kvs → (kv.any fun p => decide (p.1 = k)) = (kvs.any fun p => decide (p.1 = k))
  | [], kvs, h => by obtain rfl := h.nil; rfl
  | (k', v) :: r, kvs, h => by
    obtain ⟨d, s, rfl, h1, h2⟩ := h.cons
    simp only [List.any_cons]
    rw [KvOk.any k h2]
theorem KvOk.repl {F : Addr → Prop} {H : Hp} {k : κ} {v : V} {d : D} (q : Dq F H v d) : ∀ {kv : List (κ × V)} {kvs : List (κ × D)}, KvOk F H kv kvs → KvOk F H (kv.map fun p => if p.1 = k then (p.1, v) else p) (kvs.map fun p => if p.1 = k then (p.1, d) else p)
  | [], kvs, h => by obtain rfl := h.nil; exact ⟨rfl, .nil⟩
  | (k', v') :: r, kvs, h => by
    obtain ⟨d', s, rfl, h1, h2⟩ := h.cons
    simp only [List.map_cons]
    by_cases e : k' = k
    · rw [if_pos e, if_pos e]; exact .mk q (KvOk.repl q h2)
    · rw [if_neg e, if_neg e]; exact .mk h1 (KvOk.repl q h2)
theorem KvOk.snoc {F : Addr → Prop} {H : Hp} {k : κ} {v : V} {d : D} {kv : List (κ × V)} {kvs : List (κ × D)} (h : KvOk F H kv kvs) (q : Dq F H v d) : KvOk F H (kv ++ [(k, v)]) (kvs ++ [(k, d)]) :=
  ⟨by rw [List.map_append, List.map_append, h.1]; rfl, by rw [List.map_append, List.map_append]; exact h.2.app (.cons q .nil)⟩
theorem KvOk.put {F : Addr → Prop} {H : Hp} {k : κ} {v : V} {d : D} {kv : List (κ × V)} {kvs : List (κ × D)} (h : KvOk F H kv kvs) (q : Dq F H v d) : KvOk F H (putK kv k v) (Rf.put kvs k d) := by
  unfold putK Rf.put
  rw [h.any k]
  split
  · exact h.repl q
  · exact h.snoc q
theorem unK_zip : ∀ (kv : List (Key × V)) (ds : List D), kv.length = ds.length → unK ((kv.map fun p => kD p.1).zip ds) = some ((kv.map (·.1)).zip ds)
  | [], ds, _ => by cases ds <;> rfl
  | a :: r, [], h => by cases h
  | a :: r, d :: ds, h => by
    simp only [List.map_cons, List.zip_cons_cons, unK, keyOf_kD, unK_zip r ds (by simpa using h)]
theorem unT_zip' : ∀ (kv : List (List Key × V)) (ds : List D), kv.length = ds.length → unT' ((kv.map fun p => tD p.1).zip ds) = some ((kv.map (·.1)).zip ds)
  | [], ds, _ => by cases ds <;> rfl
  | a :: r, [], h => by cases h
  | a :: r, d :: ds, h => by
    simp only [List.map_cons, List.zip_cons_cons, unT', tkeyOf_tD, unT_zip' r ds (by simpa using h)]
theorem unT_K (kv : List (Key × V)) (ds : List D) {kvs : List (List Key × D)} (e : unT ((kv.map fun p => kD p.1).zip ds) = some kvs) : False := by
  cases kv with
  | nil => cases ds <;> cases e
  | cons a r =>
    cases ds with
    | nil => cases e
    | cons d ds => obtain ⟨k, v⟩ := a; cases k <;> cases e
theorem zip_fst {α β : Type} : ∀ (a : List α) (b : List β), a.length = b.length → (a.zip b).map (·.1) = a
  | [], b, _ => by cases b <;> rfl
  | x :: a, [], h => by cases h
  | x :: a, y :: b, h => by simp only [List.zip_cons_cons, List.map_cons, zip_fst a b (by simpa using h)]
theorem zip_snd {α β : Type} : ∀ (a : List α) (b : List β), a.length = b.length → (a.zip b).map (·.2) = b
  | [], b, h => by cases b with | nil => rfl | cons _ _ => cases h
  | x :: a, [], h => by cases h
  | x :: a, y :: b, h => by simp only [List.zip_cons_cons, List.map_cons, zip_snd a b (by simpa using h)]
section
variable {K : PySem.W.Frag} {w : W} {H H0 : Hp} {cs : Cs} {v : V}
theorem ROk.viewK {a : A} {kvs : List (Key × D)} (k : WOk w H cs) (h : ROk K w H0 H v a) (e : viewK cs a = some kvs) : ∃ p kv, v = .ref p ∧ Rd H p (.dK kv) ∧ KvOk w.F H kv kvs := by
  cases a with
  | dat d =>
    cases d with
    | dict l =>
      have h : Dq w.F H v (.dict l) := h
      generalize ed : PyData.dict l = dd at h
      cases h with
      | dK f hr q =>
        rename_i p kv ds
        cases ed
        have e' : unK _ = some kvs := e
        have hl : kv.length = ds.length := by have := q.len; simpa using this
        rw [unK_zip kv ds hl] at e'
        cases e'
        refine ⟨p, kv, rfl, hr, ?_, ?_⟩
        · rw [zip_fst _ _ (by simpa using hl)]
        · rw [zip_snd _ _ (by simpa using hl)]; exact q
      | dT f hr q =>
        rename_i p kv ds
        cases ed
        cases e
      | _ => cases ed
    | _ => cases e
  | cell j =>
    simp only [Rf.viewK] at e
    split at e
    · rename_i b kvs' hc
      cases e
      obtain ⟨kv, h1, h2, h3⟩ := (k.cl j b _ hc).2.2.2
      refine ⟨w.ad j, kv, h, ?_, h2, h3⟩
      cases b with
      | true => exact .inr h1
      | false => exact .inl h1
    · cases e
  | new c =>
    cases c with
    | dK kvs' =>
      cases e
      obtain ⟨p, h1, h2, kv, h3, h4, h5⟩ := h
      exact ⟨p, kv, h1, .inl h3, h4, h5.tr (Tr.weak fun a z => .inl z)⟩
    | _ => cases e
  | scr ns => cases e
  | ptu ds => cases e
theorem ROk.viewT {a : A} {kvs : List (List Key × D)} (k : WOk w H cs) (h : ROk K w H0 H v a) (e : viewT cs a = some kvs) : ∃ p kv, v = .ref p ∧ Rd H p (.dT kv) ∧ KvOk w.F H kv kvs := by
  cases a with
  | dat d =>
    cases d with
    | dict l =>
      have h : Dq w.F H v (.dict l) := h
      generalize ed : PyData.dict l = dd at h
      cases h with
      | dT f hr q =>
        rename_i p kv ds
        cases ed
        have e' : unT' _ = some kvs := e
        have hl : kv.length = ds.length := by have := q.len; simpa using this
        rw [unT_zip' kv ds hl] at e'
        cases e'
        refine ⟨p, kv, rfl, hr, ?_, ?_⟩
        · rw [zip_fst _ _ (by simpa using hl)]
        · rw [zip_snd _ _ (by simpa using hl)]; exact q
      | dK f hr q =>
        rename_i p kv ds
        cases ed
        exact (unT_K kv ds e).elim
      | _ => cases ed
    | _ => cases e
  | cell j =>
    simp only [Rf.viewT] at e
    split at e
    · rename_i b kvs' hc
      cases e
      obtain ⟨kv, h1, h2, h3⟩ := (k.cl j b _ hc).2.2.2
      refine ⟨w.ad j, kv, h, ?_, h2, h3⟩
      cases b with
      | true => exact .inr h1
      | false => exact .inl h1
    · cases e
  | new c =>
    cases c with
    | dT kvs' =>
      cases e
      obtain ⟨p, h1, h2, kv, h3, h4, h5⟩ := h
      exact ⟨p, kv, h1, .inl h3, h4, h5.tr (Tr.weak fun a z => .inl z)⟩
    | _ => cases e
  | scr ns => cases e
  | ptu ds => cases e
theorem Dv.key {F : Addr → Prop} {d : D} {k : Key} (h : Dv F H v d) (e : keyOf d = some k) : v = kV k := by
  cases d with
  | int i => cases e; exact h.int
  | str x => cases e; exact h.str
  | _ => cases e
theorem DqA.keys {F : Addr → Prop} : ∀ {vs : List V} {ds : List D} {ks : List Key}, DqA F H vs ds → keysOf ds = some ks → vs = ks.map kV
  | _, _, _, .nil, e => by cases e; rfl
  | _, _, _, .cons a b, e => by
    unfold keysOf at e
    split at e
    · rename_i k ks h1 h2
      cases e
      rw [DqA.keys b h2, Dv.key (.dat a) h1]; rfl
    · cases e
theorem Dn.tkey {F : Addr → Prop} {d : D} {k : List Key} (h : Dn F H v d) (e : tkeyOf d = some k) : ∃ b, v = .ref b ∧ H b = some (.tup (k.map kV)) := by
  cases d with
  | tuple ds =>
    obtain ⟨a, xs, rfl, _, h1, _, h2⟩ := h.tup.tupE
    rw [h2.keys e] at h1
    exact ⟨a, rfl, h1⟩
  | _ => cases e
/-- one look: what is there (none: nothing), or no such dict -/
def lookA (cs : Cs) (a k : A) : Option (Option D) := match toDn cs k with
  | some kd => match keyOf kd with
    | some key => match Rf.viewK cs a with
      | some kvs => some (look kvs key)
      | none => none
    | none => match tkeyOf kd with
      | some key => match Rf.viewT cs a with
        | some kvs => some (look kvs key)
        | none => none
      | none => none
  | none => none
theorem lookA_ok {a ak : A} {H0' : Hp} {x y : V} {r : Option D} (k : WOk w H cs) (h : ROk K w H0 H x a) (hk : ROk K w H0' H y ak) (e : lookA cs a ak = some r) : ∃ p, x = .ref p ∧ IsD H p ∧ ((r = none ∧ DGet H p y none) ∨ ∃ d v, r = some d ∧ DGet H p y (some v) ∧ Dq w.F H v d) := by
  unfold lookA at e
  split at e
  · rename_i kd hkd
    have dk := hk.dn k hkd
    split at e
    · rename_i key hkey
      split at e
      · rename_i kvs hv
        cases e
        have ey := dk.dv.key hkey
        subst ey
        obtain ⟨p, kv, rfl, hr, ho⟩ := h.viewK k hv
        refine ⟨p, rfl, .inl ⟨kv, hr⟩, ?_⟩
        obtain ⟨g1, g2⟩ := ho.look key
        cases hl : look kvs key with
        | none => exact .inl ⟨rfl, .inl ⟨kv, key, hr, rfl, (g2 hl).symm⟩⟩
        | some d =>
          obtain ⟨v, g3, g4⟩ := g1 d hl
          exact .inr ⟨d, v, rfl, .inl ⟨kv, key, hr, rfl, g3.symm⟩, g4⟩
      · cases e
    · split at e
      · rename_i key hkey
        split at e
        · rename_i kvs hv
          cases e
          obtain ⟨b, rfl, hb⟩ := dk.tkey hkey
          obtain ⟨p, kv, rfl, hr, ho⟩ := h.viewT k hv
          refine ⟨p, rfl, .inr ⟨kv, hr⟩, ?_⟩
          obtain ⟨g1, g2⟩ := ho.look key
          cases hl : look kvs key with
          | none => exact .inl ⟨rfl, .inr ⟨kv, key, b, hr, rfl, hb, (g2 hl).symm⟩⟩
          | some d =>
            obtain ⟨v, g3, g4⟩ := g1 d hl
            exact .inr ⟨d, v, rfl, .inr ⟨kv, key, b, hr, rfl, hb, g3.symm⟩, g4⟩
        · cases e
      · cases e
  · cases e
end
end Rf

namespace Rf
open PySem L2

/-! ### a[i], of a dict, a list, a tuple -/
def tSub (K : PySem.W.Frag) (td ty : TE) : TE := fun σ H Q => tDGet td ty σ H Q ∨ tOp (rIx K) td ty σ H Q
theorem pe_sub {X : Cx} {o i : Expr} {td ty : TE} {pos : Pos} (hu : X.A.units + 1 < cLine) (ho : PE X o td) (hi : PE X i ty) (hs : NoSl i) : PE X (.Subscript o i pos) (tSub X.K td ty) :=
  ⟨fun pins s σ H Q I h => h.elim ((pe_dget hu ho hi hs).run pins s σ H Q I) ((pe_ix ix_seq ho hi hs).run pins s σ H Q I)⟩
def mSub (ma mb : ME) : ME := fun sl cs => match ma sl cs with
  | some (a, c1) => match mb sl c1 with
    | some (b, c2) => match lookA c2 a b with
      | some (some d) => some (.dat d, c2)
      | some none => none
      | none => match toD c2 a, toD c2 b with
        | some d, some e => match fIx d e with
          | some z => some (z, c2)
          | none => none
        | _, _ => none
    | none => none
  | none => none
/-! ### k in d -/
def tIn (K : PySem.W.Frag) (ty td : TE) : TE := fun σ H Q => tDIn ty td σ H Q ∨ tOp (rInD K) ty td σ H Q ∨ tOp (rIn K false) ty td σ H Q
def tNotIn (K : PySem.W.Frag) (ty td : TE) : TE := fun σ H Q => tDNotIn ty td σ H Q ∨ tOp (rNotInD K) ty td σ H Q ∨ tOp (rIn K true) ty td σ H Q
theorem pe_in {X : Cx} {o i : Expr} {td ty : TE} {pos : Pos} (hu : X.A.units + 65 < cLine) (hi : PE X i ty) (ho : PE X o td) (hm : behindInMarks .In o = false) : PE X (.Compare i [.In] [o] pos) (tIn X.K ty td) :=
  ⟨fun pins s σ H Q I h => h.elim ((pe_cmp (pc_din (by omega) hi ho) hm).run pins s σ H Q I) fun h => h.elim ((pe_cmpR (op_inD hu) hi ho hm).run pins s σ H Q I) ((pe_cmpR op_in_seq hi ho hm).run pins s σ H Q I)⟩
theorem pe_notin {X : Cx} {o i : Expr} {td ty : TE} {pos : Pos} (hu : X.A.units + 65 < cLine) (hi : PE X i ty) (ho : PE X o td) (hm : behindInMarks .NotIn o = false) : PE X (.Compare i [.NotIn] [o] pos) (tNotIn X.K ty td) :=
  ⟨fun pins s σ H Q I h => h.elim ((pe_cmp (pc_dnotin (by omega) hi ho) hm).run pins s σ H Q I) fun h => h.elim ((pe_cmpR (op_notInD hu) hi ho hm).run pins s σ H Q I) ((pe_cmpR op_notIn_seq hi ho hm).run pins s σ H Q I)⟩
def fInL : D → D → Option Bool
  | d, .list ds => if (SeqAt.shaped d && SeqAt.shaped (.list ds)) = true then some (ds.any fun z => PyData.eqv z d) else none
  | d, .tuple ds => match keyOf d, keysOf ds with
    | some k, some ks => some (ks.any fun a => decide (a = k))
    | _, _ => none
  | _, _ => none
def mIn (neg : Bool) (mk md : ME) : ME := fun sl cs => match mk sl cs with
  | some (k, c1) => match md sl c1 with
    | some (a, c2) => match lookA c2 a k with
      | some r => some (.dat (.bool (if neg = true then !r.isSome else r.isSome)), c2)
      | none => match toD c2 k, toD c2 a with
        | some d, some e => match fInL d e with
          | some b => some (.dat (.bool (if neg = true then !b else b)), c2)
          | none => none
        | _, _ => none
    | none => none
  | none => none
theorem kV_eq (a b : Key) : eqV (kV a) (kV b) = decide (a = b) := by
  cases a with
  | inl i => cases b with
    | inl j => show (i == j) = _; rw [key_ll]
    | inr y => show false = _; rw [key_lr]
  | inr x => cases b with
    | inl j => show false = _; rw [key_rl]
    | inr y =>
      show (x == y) = _
      rw [key_rr]
      by_cases e : x = y
      · subst e; simp
      · rw [decide_eq_false e]; exact beq_eq_false_iff_ne.mpr e
theorem inV_keys (k : Key) : ∀ ks : List Key, inV (kV k) (ks.map kV) = ks.any fun a => decide (a = k)
  | [] => rfl
  | a :: r => by
    have ih := inV_keys k r
    unfold inV at ih ⊢
    rw [List.map_cons, List.any_cons, List.any_cons, ih, kV_eq]
theorem flat_keys (ks : List Key) : (ks.map kV).all flatV = true := by
  induction ks with
  | nil => rfl
  | cons a r ih => rw [List.map_cons, List.all_cons, ih]; cases a <;> rfl
theorem flat_key (k : Key) : flatV (kV k) = true := by cases k <;> rfl
theorem Dv.anyL {F : Addr → Prop} {H : Hp} {K : PySem.W.Frag} {x y : V} {d : D} {ds : List D} {b : Bool} (hx : Dv F H x d) (hy : Dv F H y (.list ds)) (e : fInL d (.list ds) = some b) : ∃ d' ds', Dp K H x d' ∧ Dp K H y (.list ds') ∧ SeqAt.shaped d' = true ∧ SeqAt.shaped (.list ds') = true ∧ (ds'.any fun z => PyData.eqv z d') = b := by
  dsimp only [fInL] at e
  split at e
  · rename_i h
    rw [Bool.and_eq_true] at h
    cases e
    exact ⟨d, ds, hx.dp h.1, hy.dp h.2, h.1, h.2, rfl⟩
  · cases e
section
variable {K : PySem.W.Frag} {td ty tx : TE} {ma mk mx me : ME}
theorem ref_sub (ha : Ref K td ma) (hb : Ref K ty mk) : Ref K (tSub K td ty) (mSub ma mk) := fun w sl cs z cs' e σ H k s Q q => by
  unfold mSub at e
  split at e
  · rename_i a c1 h1
    split at e
    · rename_i b c2 h2
      split at e
      · rename_i d hd
        cases e
        refine .inl (ha w sl cs a c1 h1 σ H k s _ fun x H1 e1 k1 r1 _ => hb w sl c1 b _ h2 σ H1 k1 (s.mono k.mf e1) _ fun y H2 e2 k2 r2 _ => ?_)
        obtain ⟨p, rfl, _, h⟩ := lookA_ok k2 (r1.on k k1 e2) r2 hd
        rcases h with ⟨h, _⟩ | ⟨d', v, h, g, qd⟩
        · cases h
        · cases h
          exact ⟨p, v, rfl, g, q v H2 (e1.trans e2) k2 qd trivial⟩
      · cases e
      · split at e
        · rename_i d e' hd he
          split at e
          · rename_i z' hf
            cases e
            refine .inr (ha w sl cs a c1 h1 σ H k s _ fun x H1 e1 k1 r1 _ => hb w sl c1 b _ h2 σ H1 k1 (s.mono k.mf e1) _ fun y H2 e2 k2 r2 _ => ?_)
            exact ops_ix w.F H2 x y d e' _ k2.fx ((r1.on k k1 e2).dv k2 hd) (r2.dv k2 he) hf Q fun v H3 e3 n => q v H3 ((e1.trans e2).trans e3.ev) (k2.ev e3) (ROk.end_ (e1.trans e2) k2 n) (BOk.ofN k2 e3 n)
          · cases e
        · cases e
    · cases e
  · cases e
theorem ref_in (hk : Ref K ty mk) (hd : Ref K td ma) : Ref K (tIn K ty td) (mIn false mk ma) := fun w sl cs z cs' e σ H k s Q q => by
  unfold mIn at e
  split at e
  · rename_i a c1 h1
    split at e
    · rename_i b c2 h2
      split at e
      · rename_i r hr
        cases e
        refine .inl (hk w sl cs a c1 h1 σ H k s _ fun x H1 e1 k1 r1 _ => hd w sl c1 b _ h2 σ H1 k1 (s.mono k.mf e1) _ fun y H2 e2 k2 r2 _ => ?_)
        obtain ⟨p, rfl, _, h⟩ := lookA_ok k2 r2 (r1.on k k1 e2) hr
        rcases h with ⟨h, g⟩ | ⟨d', v, h, g, qd⟩
        · subst h
          exact ⟨p, none, rfl, g, q _ H2 (e1.trans e2) k2 (.bl _) trivial⟩
        · subst h
          exact ⟨p, some v, rfl, g, q _ H2 (e1.trans e2) k2 (.bl _) trivial⟩
      · split at e
        · rename_i d e' hd1 he1
          split at e
          · rename_i bb hf
            cases e
            cases e' with
            | list ds =>
              refine .inr (.inl (hk w sl cs a c1 h1 σ H k s _ fun x H1 e1 k1 r1 _ => hd w sl c1 b _ h2 σ H1 k1 (s.mono k.mf e1) _ fun y H2 e2 k2 r2 _ => ?_))
              obtain ⟨d', ds', g1, g2, g3, g4, g5⟩ := Dv.anyL (K := K) ((r1.on k k1 e2).dv k2 hd1) (r2.dv k2 he1) hf
              refine ⟨d', ds', g1, g2, g3, g4, ?_⟩
              rw [g5]
              exact q _ H2 (e1.trans e2) k2 (.bl _) trivial
            | tuple ds =>
              refine .inr (.inr (hk w sl cs a c1 h1 σ H k s _ fun x H1 e1 k1 r1 _ => hd w sl c1 b _ h2 σ H1 k1 (s.mono k.mf e1) _ fun y H2 e2 k2 r2 _ => ?_))
              dsimp only [fInL] at hf
              split at hf
              · rename_i ke ks hke hks
                cases hf
                have ex := ((r1.on k k1 e2).dv k2 hd1).key hke
                subst ex
                obtain ⟨p, xs, rfl, _, g1, _, g2⟩ := (r2.dv k2 he1).tup
                have e3 := g2.keys hks
                subst e3
                refine ⟨p, _, rfl, .inr (.inl g1), flat_key ke, flat_keys ks, ?_⟩
                have e4 : (if false = true then !inV (kV ke) (ks.map kV) else inV (kV ke) (ks.map kV)) = (ks.any fun a => decide (a = ke)) := inV_keys ke ks
                rw [e4]
                exact q _ H2 (e1.trans e2) k2 (.bl _) trivial
              · cases hf
            | _ => cases hf
          · cases e
        · cases e
    · cases e
  · cases e
theorem ref_notin (hk : Ref K ty mk) (hd : Ref K td ma) : Ref K (tNotIn K ty td) (mIn true mk ma) := fun w sl cs z cs' e σ H k s Q q => by
  unfold mIn at e
  split at e
  · rename_i a c1 h1
    split at e
    · rename_i b c2 h2
      split at e
      · rename_i r hr
        cases e
        refine .inl (hk w sl cs a c1 h1 σ H k s _ fun x H1 e1 k1 r1 _ => hd w sl c1 b _ h2 σ H1 k1 (s.mono k.mf e1) _ fun y H2 e2 k2 r2 _ => ?_)
        obtain ⟨p, rfl, _, h⟩ := lookA_ok k2 r2 (r1.on k k1 e2) hr
        rcases h with ⟨h, g⟩ | ⟨d', v, h, g, qd⟩
        · subst h
          exact ⟨p, none, rfl, g, q _ H2 (e1.trans e2) k2 (.bl _) trivial⟩
        · subst h
          exact ⟨p, some v, rfl, g, q _ H2 (e1.trans e2) k2 (.bl _) trivial⟩
      · split at e
        · rename_i d e' hd1 he1
          split at e
          · rename_i bb hf
            cases e
            cases e' with
            | list ds =>
              refine .inr (.inl (hk w sl cs a c1 h1 σ H k s _ fun x H1 e1 k1 r1 _ => hd w sl c1 b _ h2 σ H1 k1 (s.mono k.mf e1) _ fun y H2 e2 k2 r2 _ => ?_))
              obtain ⟨d', ds', g1, g2, g3, g4, g5⟩ := Dv.anyL (K := K) ((r1.on k k1 e2).dv k2 hd1) (r2.dv k2 he1) hf
              refine ⟨d', ds', g1, g2, g3, g4, ?_⟩
              rw [g5]
              exact q _ H2 (e1.trans e2) k2 (.bl _) trivial
            | tuple ds =>
              refine .inr (.inr (hk w sl cs a c1 h1 σ H k s _ fun x H1 e1 k1 r1 _ => hd w sl c1 b _ h2 σ H1 k1 (s.mono k.mf e1) _ fun y H2 e2 k2 r2 _ => ?_))
              dsimp only [fInL] at hf
              split at hf
              · rename_i ke ks hke hks
                cases hf
                have ex := ((r1.on k k1 e2).dv k2 hd1).key hke
                subst ex
                obtain ⟨p, xs, rfl, _, g1, _, g2⟩ := (r2.dv k2 he1).tup
                have e3 := g2.keys hks
                subst e3
                refine ⟨p, _, rfl, .inr (.inl g1), flat_key ke, flat_keys ks, ?_⟩
                have e4 : (if true = true then !inV (kV ke) (ks.map kV) else inV (kV ke) (ks.map kV)) = !(ks.any fun a => decide (a = ke)) := congrArg (!·) (inV_keys ke ks)
                rw [e4]
                exact q _ H2 (e1.trans e2) k2 (.bl _) trivial
              · cases hf
            | _ => cases hf
          · cases e
        · cases e
    · cases e
  · cases e
end

/-! ### d.get(k, x); a dict as it stands -/
def isDictA (cs : Cs) (a : A) : Bool := (viewK cs a).isSome || (viewT cs a).isSome
def mGetX (ma mk mx : ME) : ME := fun sl cs => match ma sl cs with
  | some (a, c1) => if isDictA c1 a = true then match mk sl c1 with
    | some (k, c2) => match mx sl c2 with
      | some (x, c3) => match lookA c3 a k with
        | some (some d) => some (.dat d, c3)
        | some none => match asD x with
          | some d => some (.dat d, c3)
          | none => none
        | none => none
      | none => none
    | none => none
    else none
  | none => none
section
variable {K : PySem.W.Frag} {td ty tx : TE} {ma mk mx me : ME}
theorem isDict_ok {w : W} {H0 H : Hp} {cs : Cs} {v : V} {a : A} (k : WOk w H cs) (h : ROk K w H0 H v a) (e : isDictA cs a = true) : ∃ p, v = .ref p ∧ IsD H p := by
  unfold isDictA at e
  rw [Bool.or_eq_true] at e
  rcases e with e | e
  · cases hv : viewK cs a with
    | none => rw [hv] at e; cases e
    | some kvs =>
      obtain ⟨p, kv, h1, h2, _⟩ := h.viewK k hv
      exact ⟨p, h1, .inl ⟨kv, h2⟩⟩
  · cases hv : viewT cs a with
    | none => rw [hv] at e; cases e
    | some kvs =>
      obtain ⟨p, kv, h1, h2, _⟩ := h.viewT k hv
      exact ⟨p, h1, .inr ⟨kv, h2⟩⟩
theorem ref_get2 (ha : Ref K td ma) (hk : Ref K ty mk) (hx : Ref K tx mx) : Ref K (tDGet2 td ty tx) (mGetX ma mk mx) := fun w sl cs z cs' e σ H k s Q q => by
  unfold mGetX at e
  split at e
  · rename_i a c1 h1
    split at e
    · rename_i hD
      split at e
      · rename_i b c2 h2
        split at e
        · rename_i x c3 h3
          refine ha w sl cs a c1 h1 σ H k s _ fun v H1 e1 k1 r1 _ => ?_
          obtain ⟨p, rfl, hp⟩ := isDict_ok k1 r1 hD
          refine ⟨p, rfl, hp, hk w sl c1 b c2 h2 σ H1 k1 (s.mono k.mf e1) _ fun y H2 e2 k2 r2 _ => ?_⟩
          refine hx w sl c2 x c3 h3 σ H2 k2 (s.mono k.mf (e1.trans e2)) _ fun u H3 e3 k3 r3 _ => ?_
          have e123 := (e1.trans e2).trans e3
          split at e
          · rename_i d hd
            cases e
            obtain ⟨p', hp', _, h⟩ := lookA_ok k3 (r1.on k k1 (e2.trans e3)) (r2.on k1 k2 e3) hd
            cases hp'
            rcases h with ⟨h, _⟩ | ⟨d', v, h, g, qd⟩
            · cases h
            · cases h
              exact ⟨some v, g, q v H3 e123 k3 qd trivial⟩
          · rename_i hd
            obtain ⟨p', hp', _, h⟩ := lookA_ok k3 (r1.on k k1 (e2.trans e3)) (r2.on k1 k2 e3) hd
            cases hp'
            split at e
            · rename_i d hxd
              cases e
              rcases h with ⟨_, g⟩ | ⟨d', v, h, g, qd⟩
              · exact ⟨none, g, q u H3 e123 k3 (r3.dq k3 (fun p hp => k2.nf hp) hxd) trivial⟩
              · cases h
            · cases e
          · cases e
        · cases e
      · cases e
    · cases e
  · cases e
end
end Rf

namespace Rf
open PySem L2

/-! ### things that change -/
section
variable {K : PySem.W.Frag} {np : Nat}
theorem WOk.chg {w : W} {H : Hp} {cs : Cs} {k : Nat} {c c' : Cell} {o : HO} (kk : WOk w H cs) (hk : cs[k]? = some (some (false, c))) (hc : CellOk w.F (upd H (w.ad k) o) (w.ad k) false c') : WOk w (upd H (w.ad k) o) (cs.set k (some (false, c'))) where
  fx := fun a f => by
    by_cases e : a = w.ad k
    · rw [e, upd_same]; exact fun z => nomatch z
    · rw [upd_ne e]; exact kk.fx a f
  cf := kk.cf
  mc := kk.mc
  cl := fun j b c2 h => by
    obtain ⟨g1, g2, g3, g4⟩ := kk.cl k false c hk
    rw [List.getElem?_set] at h
    split at h
    · rename_i e
      subst e
      split at h
      · cases h
        exact ⟨g1, g2, g3, hc⟩
      · cases h
    · rename_i e
      obtain ⟨q1, q2, q3, q4⟩ := kk.cl j b c2 h
      refine ⟨q1, q2, q3, q4.tr (upd_tr (kk.cf _ g1)) fun o ho => ?_⟩
      rw [upd_ne (fun z => e (kk.inj j k _ _ h hk z).symm)]
      exact ho
  inj := fun i j x y hi hj e => by
    have init : ∀ {i : Nat} {x : Bool × Cell}, (cs.set k (some (false, c')))[i]? = some (some x) → ∃ y, cs[i]? = some (some y) := fun {i x} h => by
      rw [List.getElem?_set] at h
      split at h
      · rename_i e; subst e; exact ⟨_, hk⟩
      · exact ⟨x, h⟩
    obtain ⟨x', hx⟩ := init hi
    obtain ⟨y', hy⟩ := init hj
    exact kk.inj i j x' y' hx hy e
theorem ev_upd {w : W} {H : Hp} {p : Addr} {o : HO} (m : w.M p) : Ev w.M H (upd H p o) := fun a u h n => by
  rw [upd_ne (fun z => n (by rw [z]; exact m))]; exact h
/-- d[k] = v -/
def putA (cs : Cs) (j : Nat) (kd v : D) : Option Cs := match cs[j]? with
  | some (some (false, .dK kvs)) => match keyOf kd with
    | some key => if kvs.length ≤ 1000000 then some (cs.set j (some (false, .dK (put kvs key v)))) else none
    | none => none
  | some (some (false, .dT kvs)) => match tkeyOf kd with
    | some key => if kvs.length ≤ 1000000 then some (cs.set j (some (false, .dT (put kvs key v)))) else none
    | none => none
  | _ => none
def sPut (md mk mv : ME) : MS := fun sl cs => match mv sl cs with
  | some (v, c1) => match md sl c1 with
    | some (.cell j, c2) => match mk sl c2 with
      | some (k, c3) => match asD v, toDn c3 k with
        | some vd, some kd => match putA c3 j kd vd with
          | some c4 => some (.nx sl c4)
          | none => none
        | _, _ => none
      | none => none
    | _ => none
  | none => none
theorem mil {n : Nat} (h : n ≤ 1000000) : n < sizeLine := Nat.lt_of_le_of_lt h (by decide)
theorem refs_put {td ty tv : TE} {md mk mv : ME} (hd : Ref K td md) (hk : Ref K ty mk) (hv : Ref K tv mv) : RefS K np (sDPut td ty tv) (sPut md mk mv) := fun w sl cs o e σ H k s Dn c => by
  unfold sPut at e
  split at e
  · rename_i v c1 h1
    split at e
    · rename_i j c2 h2
      split at e
      · rename_i kk c3 h3
        split at e
        · rename_i vd kd hvd hkd
          split at e
          · rename_i c4 hp
            cases e
            refine hv w sl cs v c1 h1 σ H k s _ fun x H1 e1 k1 r1 _ => hd w sl c1 _ c2 h2 σ H1 k1 (s.mono k.mf e1) _ fun y H2 e2 k2 r2 _ => hk w sl c2 _ c3 h3 σ H2 k2 (s.mono k.mf (e1.trans e2)) _ fun z H3 e3 k3 r3 _ => ?_
            have e123 := (e1.trans e2).trans e3
            have ey : y = .ref (w.ad j) := r2
            subst ey
            have qv : Dq w.F H3 x vd := (r1.on k k1 (e2.trans e3)).dq k3 (fun p hp => k.nf hp) hvd
            have dk := r3.dn k3 hkd
            unfold putA at hp
            split at hp
            · rename_i kvs hj
              obtain ⟨g1, g2, g3, kv, g4, g5⟩ := k3.cl j false _ hj
              have ok : KvOk w.F H3 kv kvs := g5
              have m := g2 rfl
              split at hp
              · rename_i key hkey
                split at hp
                · rename_i hl
                  cases hp
                  have ez := dk.dv.key hkey
                  subst ez
                  have T : Tr w.F H3 w.F (upd H3 (w.ad j) (.dK (putK kv key x))) := upd_tr (k3.cf _ g1)
                  refine ⟨w.ad j, _, rfl, .inl ⟨kv, key, g4, rfl, by rw [ok.len]; exact mil hl, rfl⟩, ?_⟩
                  have kN := k3.chg (c' := .dK (put kvs key vd)) (o := .dK (putK kv key x)) hj ⟨_, upd_same, ((ok.put qv).tr T).1, ((ok.put qv).tr T).2⟩
                  have eN := e123.trans (ev_upd (o := .dK (putK kv key x)) m)
                  exact c w σ _ (Step.of eN kN) kN (s.mono k.mf eN)
                · cases hp
              · cases hp
            · rename_i kvs hj
              obtain ⟨g1, g2, g3, kv, g4, g5⟩ := k3.cl j false _ hj
              have ok : KvOk w.F H3 kv kvs := g5
              have m := g2 rfl
              split at hp
              · rename_i key hkey
                split at hp
                · rename_i hl
                  cases hp
                  obtain ⟨b, rfl, hb⟩ := dk.tkey hkey
                  have T : Tr w.F H3 w.F (upd H3 (w.ad j) (.dT (putK kv key x))) := upd_tr (k3.cf _ g1)
                  refine ⟨w.ad j, _, rfl, .inr ⟨kv, key, b, g4, rfl, hb, by rw [ok.len]; exact mil hl, rfl⟩, ?_⟩
                  have kN := k3.chg (c' := .dT (put kvs key vd)) (o := .dT (putK kv key x)) hj ⟨_, upd_same, ((ok.put qv).tr T).1, ((ok.put qv).tr T).2⟩
                  have eN := e123.trans (ev_upd (o := .dT (putK kv key x)) m)
                  exact c w σ _ (Step.of eN kN) kN (s.mono k.mf eN)
                · cases hp
              · cases hp
            · cases hp
          · cases e
        · cases e
      · cases e
    · cases e
  · cases e
/-- xs.append(e) -/
def mApp (mo me : ME) : ME := fun sl cs => match mo sl cs with
  | some (.cell j, c1) => match me sl c1 with
    | some (a, c2) => match asD a, c1[j]?, c2[j]? with
      | some d, some (some (_, .lst _)), some (some (false, .lst ds)) => if ds.length ≤ 1000000 then some (.dat .none, c2.set j (some (false, .lst (ds ++ [d])))) else none
      | _, _, _ => none
    | none => none
  | _ => none
theorem ref_app {to te : TE} {mo me : ME} (ho : Ref K to mo) (he : Ref K te me) : Ref K (tBM K "list" rAppend to (tCons te tNil)) (mApp mo me) := fun w sl cs z cs' e σ H k s Q q => by
  unfold mApp at e
  split at e
  · rename_i j c1 h1
    split at e
    · rename_i a c2 h2
      split at e
      · rename_i d b0 ds0 ds hd hj0 hj
        split at e
        · rename_i hl
          cases e
          refine ho w sl cs _ c1 h1 σ H k s _ fun x H1 e1 k1 r1 _ => ?_
          have ex : x = .ref (w.ad j) := r1
          subst ex
          obtain ⟨xs0, t1, _, _⟩ := (k1.cl j _ _ hj0).2.2.2
          refine ⟨.inl ⟨rfl, xs0, SqL.of t1⟩, he w sl c1 a c2 h2 σ H1 k1 (s.mono k.mf e1) _ fun y H2 e2 k2 r2 _ => ?_⟩
          obtain ⟨g1, g2, g3, xs, g4, g5, g6⟩ := k2.cl j false _ hj
          have m := g2 rfl
          have T : Tr w.F H2 w.F (upd H2 (w.ad j) (.lst (xs ++ [y]))) := upd_tr (k2.cf _ g1)
          have hz : xs.length < sizeLine := by rw [g6.len]; exact mil hl
          have qy : Dq w.F H2 y d := r2.dq k2 (fun p hp => k1.nf hp) hd
          refine ⟨w.ad j, xs, y, rfl, rfl, g4, hz, ?_⟩
          have kN := k2.chg (c' := .lst (ds ++ [d])) (o := .lst (xs ++ [y])) hj ⟨_, upd_same, by rw [List.length_append]; exact hz, (g6.app (.cons qy .nil)).tr T⟩
          exact q _ _ ((e1.trans e2).trans (ev_upd m)) kN .non trivial
        · cases e
      · cases e
    · cases e
  · cases e
/-- xs[i] = e -/
def sSetL (mo mi me : ME) : MS := fun sl cs => match me sl cs with
  | some (a, c1) => match mo sl c1 with
    | some (.cell j, c2) => match mi sl c2 with
      | some (i, c3) => match asD a, toD c3 i, c3[j]? with
        | some d, some (.int z), some (some (false, .lst ds)) => match ixN ds.length z with
          | some n => some (.nx sl (c3.set j (some (false, .lst (ds.set n d)))))
          | none => none
        | _, _, _ => none
      | none => none
    | _ => none
  | none => none
theorem refs_setL {to ti te : TE} {mo mi me : ME} (ho : Ref K to mo) (hi : Ref K ti mi) (he : Ref K te me) : RefS K np (tAsg te (gSub to ti rSetL)) (sSetL mo mi me) := fun w sl cs o e σ H k s Dn c => by
  unfold sSetL at e
  split at e
  · rename_i a c1 h1
    split at e
    · rename_i j c2 h2
      split at e
      · rename_i i c3 h3
        split at e
        · rename_i d z ds hd hz hj
          split at e
          · rename_i n hn
            cases e
            refine he w sl cs a c1 h1 σ H k s _ fun x H1 e1 k1 r1 _ => ho w sl c1 _ c2 h2 σ H1 k1 (s.mono k.mf e1) _ fun y H2 e2 k2 r2 _ => hi w sl c2 _ c3 h3 σ H2 k2 (s.mono k.mf (e1.trans e2)) _ fun u H3 e3 k3 r3 _ => ?_
            have e123 := (e1.trans e2).trans e3
            have ey : y = .ref (w.ad j) := r2
            subst ey
            have qv : Dq w.F H3 x d := (r1.on k k1 (e2.trans e3)).dq k3 (fun p hp => k.nf hp) hd
            obtain ⟨g1, g2, g3, xs, g4, g5, g6⟩ := k3.cl j false _ hj
            have m := g2 rfl
            have T : Tr w.F H3 w.F (upd H3 (w.ad j) (.lst (xs.set n x))) := upd_tr (k3.cf _ g1)
            refine ⟨w.ad j, xs, z, n, rfl, (r3.dv k3 hz).int, g4, by rw [g6.len]; exact hn, ?_⟩
            have kN := k3.chg (c' := .lst (ds.set n d)) (o := .lst (xs.set n x)) hj ⟨_, upd_same, by rw [List.length_set]; exact g5, (g6.set qv n).tr T⟩
            have eN := e123.trans (ev_upd (o := .lst (xs.set n x)) m)
            exact c w σ _ (Step.of eN kN) kN (s.mono k.mf eN)
          · cases e
        · cases e
      · cases e
    · cases e
  · cases e
/-- x op= e, x an int -/
def sAug (i : Nat) (g : Int → Int → Int) (me : ME) : MS := fun sl cs => match sl[i]? with
  | some (some (.dat (.int x))) => match me sl cs with
    | some (a, c1) => match toD c1 a with
      | some (.int y) => some (.nx (sl.set i (some (.dat (.int (g x y))))) c1)
      | _ => none
    | none => none
  | _ => none
theorem refs_aug {i : Nat} {g : Int → Int → Int} {te : TE} {me : ME} (he : Ref K te me) : RefS K np (tAug i te (ipI g)) (sAug i g me) := fun w sl cs o e σ H k s Dn c => by
  unfold sAug at e
  split at e
  · rename_i x hx
    split at e
    · rename_i a c1 h1
      split at e
      · rename_i y hy
        cases e
        obtain ⟨v, hv, q⟩ := s.at_ i _ hx
        have ev : v = .int x := (Dv.dat q).int
        subst ev
        refine ⟨_, hv, he w sl cs a _ h1 σ H k s _ fun u H1 e1 k1 r1 _ => ?_⟩
        refine ⟨x, y, rfl, (r1.dv k1 hy).int, ?_⟩
        exact c w _ H1 (Step.of e1 k1) k1 ((s.mono k.mf e1).set i (a := .dat (.int (g x y))) (.int _))
      · cases e
    · cases e
  · cases e
/-- two names at once -/
def par1 (np i : Nat) (k : Option Nat) (a : A) (sl : Sl) (cs : Cs) : Option (Sl × Cs) := match k with
  | none => match asD a with
    | some d => some (sl.set i (some (.dat d)), cs)
    | none => none
  | some _ => none
def sPar (i j : Nat) (ma : MA) : MS := fun sl cs => match ma sl cs with
  | some ([a, b], c1) => match asD a, asD b with
    | some d, some e => some (.nx ((sl.set i (some (.dat d))).set j (some (.dat e))) c1)
    | _, _ => none
  | _ => none
theorem refs_par {i j : Nat} {ta : TA} {ma : MA} (ha : RefA K ta ma) : RefS K np (tPar i j ta) (sPar i j ma) := fun w sl cs o e σ H k s Dn c => by
  unfold sPar at e
  split at e
  · rename_i a b c1 h1
    split at e
    · rename_i d e' hd he
      cases e
      refine ha w sl cs _ _ h1 σ H k s _ fun vs H1 e1 k1 r1 => ?_
      cases r1 with
      | cons x r =>
        cases r with
        | cons y r =>
          cases r
          refine ⟨_, _, rfl, ?_⟩
          exact c w _ H1 (Step.of e1 k1) k1 (((s.mono k.mf e1).set i (a := .dat d) (x.dq k1 (fun p hp => k.nf hp) hd)).set j (a := .dat e') (y.dq k1 (fun p hp => k.nf hp) he))
    · cases e
  · cases e
end

/-! ### a dict under its lock -/
def setLk (b : Bool) (k : Nat) (cs : Cs) : Option Cs := match cs[k]? with
  | some (some (b', .dK kvs)) => if b' = b then none else some (cs.set k (some (b, .dK kvs)))
  | some (some (b', .dT kvs)) => if b' = b then none else some (cs.set k (some (b, .dT kvs)))
  | _ => none
def mLock (i : Nat) (m : ME) : ME := fun sl cs => match sl[i]? with
  | some (some (.cell k)) => match setLk true k cs with
    | some c1 => match m sl c1 with
      | some (.cell _, _) => none
      | some (r, c2) => match setLk false k c2 with
        | some c3 => some (r, c3)
        | none => none
      | none => none
    | none => none
  | _ => none
section
variable {K : PySem.W.Frag} {np : Nat}
theorem setLk_get {b : Bool} {k : Nat} {cs c1 : Cs} (h : setLk b k cs = some c1) : ∃ c, cs[k]? = some (some (!b, c)) ∧ (∀ ds, c ≠ .lst ds) ∧ c1 = cs.set k (some (b, c)) := by
  unfold setLk at h
  split at h
  · rename_i b' kvs hk
    split at h
    · cases h
    · rename_i hb
      cases h
      refine ⟨.dK kvs, ?_, (fun ds z => nomatch z), rfl⟩
      rw [hk]; cases b <;> cases b' <;> simp_all
  · rename_i b' kvs hk
    split at h
    · cases h
    · rename_i hb
      cases h
      refine ⟨.dT kvs, ?_, (fun ds z => nomatch z), rfl⟩
      rw [hk]; cases b <;> cases b' <;> simp_all
  · cases h
abbrev W.lock (w : W) (p : Addr) : W := { w with M := fun a => w.M a ∧ a ≠ p }
def dHO : Cell → Option HO → Prop
  | .dK _, u => ∃ kv, u = some (.dK kv)
  | .dT _, u => ∃ kv, u = some (.dT kv)
  | .lst _, _ => False
theorem CellOk.un {F : Addr → Prop} {H : Hp} {p : Addr} {c : Cell} (n : ∀ ds, c ≠ .lst ds) (h : CellOk F H p false c) : ∃ u, H p = some u ∧ Mut (some u) ∧ ∀ (F' : Addr → Prop) (H' : Hp) (od : Obj), Tr F H F' H' → H' p = some (.frz od u) → CellOk F' H' p true c := by
  cases c with
  | lst ds => exact absurd rfl (n ds)
  | dK kvs =>
    obtain ⟨kv, h1, h2, h3⟩ := h
    exact ⟨_, h1, trivial, fun F' H' od T e => ⟨kv, ⟨od, e⟩, h2, h3.tr T⟩⟩
  | dT kvs =>
    obtain ⟨kv, h1, h2, h3⟩ := h
    exact ⟨_, h1, trivial, fun F' H' od T e => ⟨kv, ⟨od, e⟩, h2, h3.tr T⟩⟩
theorem CellOk.re {F F' : Addr → Prop} {H H' : Hp} {p : Addr} {c : Cell} {od : Obj} {u : HO} (n : ∀ ds, c ≠ .lst ds) (h : CellOk F H p true c) (e : H p = some (.frz od u)) (T : Tr F H F' H') (e' : H' p = some u) : CellOk F' H' p false c := by
  cases c with
  | lst ds => exact absurd rfl (n ds)
  | dK kvs =>
    obtain ⟨kv, ⟨o, h1⟩, h2, h3⟩ := h
    rw [e] at h1
    cases h1
    exact ⟨kv, e', h2, h3.tr T⟩
  | dT kvs =>
    obtain ⟨kv, ⟨o, h1⟩, h2, h3⟩ := h
    rw [e] at h1
    cases h1
    exact ⟨kv, e', h2, h3.tr T⟩
/-- a cell locked, let loose, in some world -/
theorem WOk.relk {w : W} {M' : Addr → Prop} {H : Hp} {cs : Cs} {k : Nat} {b : Bool} {c c0 : Cell} {o : HO} (kk : WOk w H cs) (hk : cs[k]? = some (some (!b, c0))) (hm : ∀ a, a ≠ w.ad k → (M' a ↔ w.M a)) (hp : b = false → M' (w.ad k)) (hp' : b = true → ¬ M' (w.ad k)) (hc : CellOk w.F (upd H (w.ad k) o) (w.ad k) b c) : WOk { w with M := M' } (upd H (w.ad k) o) (cs.set k (some (b, c))) where
  fx := fun a f => by
    by_cases e : a = w.ad k
    · rw [e, upd_same]; exact fun z => nomatch z
    · rw [upd_ne e]; exact kk.fx a f
  cf := kk.cf
  mc := fun a h => by
    by_cases e : a = w.ad k
    · rw [e]; exact (kk.cl k _ _ hk).1
    · exact kk.mc a ((hm a e).mp h)
  cl := fun j b' c2 h => by
    obtain ⟨g1, g2, g3, g4⟩ := kk.cl k _ c0 hk
    rw [List.getElem?_set] at h
    split at h
    · rename_i e
      subst e
      split at h
      · cases h
        exact ⟨g1, hp, hp', hc⟩
      · cases h
    · rename_i e
      obtain ⟨q1, q2, q3, q4⟩ := kk.cl j b' c2 h
      have ne : w.ad j ≠ w.ad k := fun z => e (kk.inj j k _ _ h hk z).symm
      refine ⟨q1, fun z => (hm _ ne).mpr (q2 z), fun z y => q3 z ((hm _ ne).mp y), q4.tr (upd_tr (kk.cf _ g1)) fun o ho => ?_⟩
      rw [upd_ne ne]
      exact ho
  inj := fun i j x y hi hj e => by
    have init : ∀ {i : Nat} {x : Bool × Cell}, (cs.set k (some (b, c)))[i]? = some (some x) → ∃ y, cs[i]? = some (some y) := fun {i x} h => by
      rw [List.getElem?_set] at h
      split at h
      · rename_i e; subst e; exact ⟨_, hk⟩
      · exact ⟨x, h⟩
    obtain ⟨x', hx⟩ := init hi
    obtain ⟨y', hy⟩ := init hj
    exact kk.inj i j x' y' hx hy e
theorem ref_lock {i : Nat} {t : TE} {m : ME} (h : Ref K t m) : Ref K (tLockE t) (mLock i m) := fun w sl cs z cs' e σ H k s Q q => by
  unfold mLock at e
  split at e
  · rename_i j hj
    split at e
    · rename_i c1 hl
      obtain ⟨c, hc, hn, rfl⟩ := setLk_get hl
      split at e
      · cases e
      · rename_i r c2 hrc hm
        split at e
        · rename_i c3 hl2
          obtain ⟨c', hc', hn', rfl⟩ := setLk_get hl2
          cases e
          obtain ⟨g1, g2, g3, g4⟩ := k.cl j false c hc
          have mp := g2 rfl
          have fp := k.cf _ g1
          obtain ⟨u, hu, hmu, hlk⟩ := g4.un hn
          refine ⟨w.ad j, u, hu, hmu, fun od => ?_⟩
          have T : Tr w.F H w.F (upd H (w.ad j) (.frz od u)) := upd_tr fp
          have k1 : WOk (w.lock (w.ad j)) (upd H (w.ad j) (.frz od u)) (cs.set j (some (true, c))) :=
            k.relk (b := true) (M' := fun a => w.M a ∧ a ≠ w.ad j) hc (fun a ne => ⟨fun z => z.1, fun z => ⟨z, ne⟩⟩) (fun z => nomatch z) (fun _ z => z.2 rfl) (hlk _ _ od T upd_same)
          have s1 : SlOk K (w.lock (w.ad j)) (upd H (w.ad j) (.frz od u)) σ sl := s.trF (w' := w.lock (w.ad j)) T rfl
          refine h (w.lock (w.ad j)) sl _ z _ hm σ _ k1 s1 _ fun v H2 e2 k2 r2 b2 => ?_
          have hd : H2 (w.ad j) = some (.frz od u) := e2 _ _ upd_same fun z => z.2 rfl
          refine ⟨hd, ?_⟩
          have T2 : Tr w.F H2 w.F (upd H2 (w.ad j) u) := upd_tr fp
          have again : ∀ (F' : Addr → Prop), (∀ a, w.F a → F' a) → WOk { w.lock (w.ad j) with F := F' } H2 c2 → WOk { w with F := F' } (upd H2 (w.ad j) u) (c2.set j (some (false, c'))) := fun F' hF kk => by
            have kx := WOk.relk (w := { w.lock (w.ad j) with F := F' }) (M' := w.M) (b := false) (c := c') (o := u) kk hc' (fun a ne => ⟨fun z => ⟨z, ne⟩, fun z => z.1⟩) (fun _ => mp) (fun z => nomatch z) ((kk.cl j true c' hc').2.2.2.re hn' hd (upd_tr (hF _ fp)) upd_same)
            exact kx
          refine q v _ ?_ (again w.F (fun _ z => z) k2) ?_ ?_
          · intro a o ha na
            have ne : a ≠ w.ad j := fun z => na (by rw [z]; exact mp)
            rw [upd_ne ne]
            exact e2 a o (by rw [upd_ne ne]; exact ha) fun z => na z.1
          · cases z with
            | dat _ => exact Dq.tr T2 r2
            | new cc =>
              obtain ⟨p, rfl, h2, h3⟩ := r2
              have np : p ≠ w.ad j := fun z => by rw [z, upd_same] at h2; cases h2
              refine ⟨p, rfl, by rw [upd_ne np] at h2; exact h2, h3.tr (upd_tr (.inl fp)) fun o ho => ?_⟩
              rw [upd_ne np]; exact ho
            | cell n => exact (hrc _ rfl).elim
            | scr ns =>
              obtain ⟨p, h1, h2⟩ := r2
              exact ⟨p, h1, h2.tr T2⟩
            | ptu ds => exact PtuOk.tr T2 r2
          · cases z with
            | new cc =>
              intro p hp
              exact again (fun a => w.F a ∨ a = p) (fun a z => .inl z) (b2 p hp)
            | dat d => trivial
            | cell n => trivial
            | scr ns => trivial
            | ptu ds => trivial
        · cases e
      · cases e
    · cases e
  · cases e
/-- the keys, the items, of a locked dict -/
def lockedK (i : Nat) (sl : Sl) (cs : Cs) : Option (List (Key × D)) := match sl[i]? with
  | some (some (.cell k)) => match cs[k]? with
    | some (some (true, .dK kvs)) => if kvs.length ≤ 16777216 then some kvs else none
    | _ => none
  | _ => none
def miKeys (i : Nat) : MI := fun sl cs => match lockedK i sl cs with
  | some kvs => some (kvs.map fun p => kD p.1, cs)
  | none => none
def miItems (i : Nat) : MI := fun sl cs => match lockedK i sl cs with
  | some kvs => some (kvs.map fun p => .tuple [kD p.1, p.2], cs)
  | none => none
def miVals (i : Nat) : MI := fun sl cs => match lockedK i sl cs with
  | some kvs => some (kvs.map fun p => p.2, cs)
  | none => none
theorem lockedK_ok {i : Nat} {sl : Sl} {cs : Cs} {w : W} {H : Hp} {σ : St} {kvs : List (Key × D)} (k : WOk w H cs) (s : SlOk K w H σ sl) (e : lockedK i sl cs = some kvs) : ∃ p o kv, σ[i]? = some (some (.ref p)) ∧ ¬ w.M p ∧ H p = some (.frz o (.dK kv)) ∧ KvOk w.F H kv kvs ∧ kvs.length ≤ sizeLine := by
  unfold lockedK at e
  split at e
  · rename_i j hj
    split at e
    · rename_i kvs' hc
      split at e
      · rename_i hl
        cases e
        obtain ⟨g1, g2, g3, kv, ⟨o, g4⟩, g5⟩ := k.cl j true _ hc
        obtain ⟨v, hv, ha⟩ := s.at_ i _ hj
        have ev : v = .ref (w.ad j) := ha
        subst ev
        exact ⟨w.ad j, o, kv, hv, g3 rfl, g4, g5, by rw [sizeLine_is]; exact hl⟩
      · cases e
    · cases e
  · cases e
theorem kD_dq {F : Addr → Prop} {H : Hp} (k : Key) : Dq F H (kV k) (kD k) := by cases k with
  | inl i => exact .int i
  | inr x => exact .str x
theorem KvOk.at {κ : Type} [DecidableEq κ] {F : Addr → Prop} {H : Hp} {kv : List (κ × V)} {kvs : List (κ × D)} (h : KvOk F H kv kvs) {i : Nat} {k : κ} {v : V} (e : kv[i]? = some (k, v)) : ∃ d, kvs[i]? = some (k, d) ∧ Dq F H v d := by
  have h1 : (kv.map (·.1))[i]? = some k := by rw [List.getElem?_map, e]; rfl
  have h2 : (kv.map (·.2))[i]? = some v := by rw [List.getElem?_map, e]; rfl
  rw [h.1] at h1
  obtain ⟨d, h3, h4⟩ := h.2.getv h2
  rw [List.getElem?_map] at h1 h3
  cases hk : kvs[i]? with
  | none => rw [hk] at h1; cases h1
  | some p =>
    rw [hk] at h1 h3
    obtain ⟨k', d'⟩ := p
    cases h1
    cases h3
    exact ⟨_, rfl, h4⟩
theorem refi_keys {i : Nat} : RefI K (iKeys (tVar i)) (miKeys i) := fun w sl cs ds cs' e σ H k s R q => by
  unfold miKeys at e
  split at e
  · rename_i kvs hl
    cases e
    obtain ⟨p, o, kv, hv, nm, hp, ok, hz⟩ := lockedK_ok k s hl
    refine ⟨_, hv, p, o, rfl, .inl ⟨kv, hp, q _ H (Ev.refl H) k ?_⟩⟩
    refine ⟨by rw [List.length_map]; exact hz, fun H' n e hn => ⟨e p _ hp nm, ?_⟩, fun H' n e hn => ⟨e p _ hp nm, ?_⟩, fun F' H' n d x H2 hf fx e hd y => ?_⟩
    · rw [List.length_map] at hn; rw [ok.len]; exact hn
    · rw [List.length_map] at hn; rw [ok.len]; exact hn
    · obtain ⟨rfl, ke, v, h1, rfl⟩ := y
      obtain ⟨d', h2, _⟩ := ok.at h1
      rw [List.getElem?_map, h2] at hd
      cases hd
      exact ⟨Ex.refl _, kD_dq ke⟩
  · cases e
theorem refi_items {i : Nat} : RefI K (iItems (tVar i)) (miItems i) := fun w sl cs ds cs' e σ H k s R q => by
  unfold miItems at e
  split at e
  · rename_i kvs hl
    cases e
    obtain ⟨p, o, kv, hv, nm, hp, ok, hz⟩ := lockedK_ok k s hl
    refine ⟨_, hv, p, o, kv, rfl, hp, q _ H (Ev.refl H) k ?_⟩
    refine ⟨by rw [List.length_map]; exact hz, fun H' n e hn => ⟨e p _ hp nm, ?_⟩, fun H' n e hn => ⟨e p _ hp nm, ?_⟩, fun F' H' n d x H2 hf fx e hd y => ?_⟩
    · rw [List.length_map] at hn; rw [ok.len]; exact hn
    · rw [List.length_map] at hn; rw [ok.len]; exact hn
    · obtain ⟨T, ke, v, h1, rfl, hT, rfl⟩ := y
      obtain ⟨d', h2, h3⟩ := ok.at h1
      rw [List.getElem?_map, h2] at hd
      cases hd
      exact pairT fx hT (kD_dq ke) (h3.tr (Tr.ofF e k.mf hf))
  · cases e
theorem refi_vals {i : Nat} : RefI K (iVals (tVar i)) (miVals i) := fun w sl cs ds cs' e σ H k s R q => by
  unfold miVals at e
  split at e
  · rename_i kvs hl
    cases e
    obtain ⟨p, o, kv, hv, nm, hp, ok, hz⟩ := lockedK_ok k s hl
    refine ⟨_, hv, p, o, kv, rfl, hp, q _ H (Ev.refl H) k ?_⟩
    refine ⟨by rw [List.length_map]; exact hz, fun H' n e hn => ⟨e p _ hp nm, ?_⟩, fun H' n e hn => ⟨e p _ hp nm, ?_⟩, fun F' H' n d x H2 hf fx e hd y => ?_⟩
    · rw [List.length_map] at hn; rw [ok.len]; exact hn
    · rw [List.length_map] at hn; rw [ok.len]; exact hn
    · obtain ⟨rfl, ke, h1⟩ := y
      obtain ⟨d', h2, h3⟩ := ok.at h1
      rw [List.getElem?_map, h2] at hd
      cases hd
      exact ⟨Ex.refl _, h3.tr (Tr.ofF e k.mf hf)⟩
  · cases e
end
end Rf

namespace Rf
open PySem L2

/-! ### {k: v for ..} -/
def dcLoop (mg : MG) (mt : MT) (mk mv : ME) (sl : Sl) : List D → List (Key × D) → Cs → Option (List (Key × D) × Cs)
  | [], acc, cs => some (acc, cs)
  | d :: ds, acc, cs => match mg d sl with
    | some sl2 => match mt sl2 cs with
      | some (true, c1) => match mk sl2 c1 with
        | some (a, c2) => match mv sl2 c2 with
          | some (b, c3) => match toD c3 a, asD b with
            | some kd, some e => match keyOf kd with
              | some key => dcLoop mg mt mk mv sl ds (put acc key e) c3
              | none => none
            | _, _ => none
          | none => none
        | none => none
      | some (false, c1) => dcLoop mg mt mk mv sl ds acc c1
      | none => none
    | none => none
def mDc (mi : MI) (mg : MG) (mt : MT) (mk mv : ME) (vs : List Nat) : ME := fun sl cs => match mi sl cs with
  | some (ds, c1) => match dcLoop mg mt mk mv (wipeA sl vs) ds [] c1 with
    | some (kvs, c2) => some (.new (.dK kvs), c2)
    | none => none
  | none => none
theorem put_len {κ : Type} [DecidableEq κ] (kvs : List (κ × D)) (k : κ) (v : D) : (put kvs k v).length ≤ kvs.length + 1 := by
  unfold put
  split
  · rw [List.length_map]; omega
  · rw [List.length_append]; exact Nat.le_refl _
section
variable {K : PySem.W.Frag}
theorem ref_dc {wi : TI} {g : TG} {tt : TT} {tk tv : TE} {vs ix : List Nat} {mi : MI} {mg : MG} {mt : MT} {mk mv : ME} (hi : RefI K wi mi) (hg : RefG K g mg ix) (ht : RefT K tt mt) (hk : Ref K tk mk) (hv : Ref K tv mv) (hix : ∀ i ∈ ix, i ∈ vs) : Ref K (tDc wi g tt tk tv vs) (mDc mi mg mt mk mv vs) := fun w sl cs r cs' e σ H k s Q q => by
  unfold mDc at e
  split at e
  · rename_i ds c1 h1
    split at e
    · rename_i kvs c2 h2
      cases e
      refine hi w sl cs ds c1 h1 σ H k s _ fun J H1 e1 k1 wk p hp => ?_
      have hpF : ¬ w.F p := fun z => k1.fx p z hp
      have hpC : ¬ w.C p := fun z => hpF (k1.cf p z)
      have hpM : ¬ w.M p := fun z => hpC (k1.mc p z)
      have s1 : SlOk K (w.ban p) H1 (L2.wipe σ vs) (wipeA sl vs) := ((s.mono k.mf e1).trF (w' := w.ban p) (Tr.ban hp) rfl).wipe vs
      have kb : WOk (w.ban p) (upd H1 p (.dK [])) c1 := k1.ban hp
      have noH1 : ∀ {b : Addr} {o : HO}, H1 b = some o → b ≠ p := fun hb z => by rw [z, hp] at hb; cases hb
      refine ⟨fun i m H2 => ∃ (acc : List (Key × D)) (ci : Cs) (kv : List (Key × V)), i + m = ds.length ∧ dcLoop mg mt mk mv (wipeA sl vs) (ds.drop i) acc ci = some (kvs, cs') ∧ H2 p = some (.dK kv) ∧ KvOk (w.ban p).F H2 kv acc ∧ acc.length ≤ i ∧ WOk (w.ban p) H2 ci ∧ Ev w.M H1 H2,
        ⟨ds.length, [], c1, [], by omega, h2, upd_same, ⟨rfl, .nil⟩, Nat.le_refl _, kb, (Ex.new hp).ev⟩, ?_⟩
      rintro i m H2 ⟨acc, ci, kv, hm, hl, hx, hq, hlen, k2, e2⟩
      by_cases hi : i < ds.length
      · refine .inr ⟨wk.go H2 i e2 hi, fun H' => ∃ (acc : List (Key × D)) (cj : Cs) (kv : List (Key × V)), dcLoop mg mt mk mv (wipeA sl vs) (ds.drop (i + 1)) acc cj = some (kvs, cs') ∧ H' p = some (.dK kv) ∧ KvOk (w.ban p).F H' kv acc ∧ acc.length ≤ i + 1 ∧ WOk (w.ban p) H' cj ∧ Ev w.M H1 H', fun H' hN => ?_, fun x H' hy => ?_⟩
        · obtain ⟨acc, cj, xs, g1, g2, g3, g4, g5, g6⟩ := hN
          exact ⟨m - 1, by omega, acc, cj, xs, by omega, g1, g2, g3, g4, g5, g6⟩
        · have hd : ds[i]? = some ds[i] := List.getElem?_eq_getElem hi
          rw [List.drop_eq_getElem_cons hi] at hl
          unfold dcLoop at hl
          obtain ⟨ey, qy⟩ := wk.yld (w.ban p).F H2 i ds[i] x H' (fun a z => z.elim .inl fun z => .inr (by rw [z]; exact hp)) k2.fx e2 hd hy
          have k3 := k2.ev ey
          have e3 : Ev w.M H1 H' := e2.trans ey.ev
          split at hl
          · rename_i sl2 hg2
            have s3 : SlOk K (w.ban p) H' (L2.wipe σ vs) (wipeA sl vs) := s1.mono k3.mf e3
            refine hg (w.ban p) H' x ds[i] _ sl2 qy hg2 _ s3 _ fun σ2 s4 off => ⟨wipe_off hix off, ?_⟩
            have hxp : H' p = some (.dK kv) := ey p _ hx
            have hq' : KvOk (w.ban p).F H' kv acc := hq.tr (ex_tr ey)
            split at hl
            · rename_i cc ht2
              refine ht (w.ban p) sl2 ci true cc ht2 σ2 H' k3 s4 _ fun H3 e4 k4 => ?_
              show tk σ2 H3 _
              split at hl
              · rename_i a c5 hk2
                split at hl
                · rename_i b c6 hv2
                  split at hl
                  · rename_i kd ee hkd hee
                    split at hl
                    · rename_i key hkey
                      refine hk (w.ban p) sl2 cc a c5 hk2 σ2 H3 k4 (s4.mono k3.mf e4) _ fun y H4 e5 k5 r5 _ => hv (w.ban p) sl2 c5 b c6 hv2 σ2 H4 k5 (s4.mono k3.mf (e4.trans e5)) _ fun z H5 e6 k6 r6 _ => ?_
                      have e456 := (e4.trans e5).trans e6
                      have hd2 : Dq (w.ban p).F H5 z ee := r6.dq k6 (fun b hb => k5.nf hb) hee
                      have ey2 : y = kV key := ((r5.on k4 k5 e6).dv k6 hkd).key hkey
                      have hx5 : H5 p = some (.dK kv) := e456 p _ hxp hpM
                      have hq5 : KvOk (w.ban p).F H5 kv acc := hq'.tr (Tr.of e456 k3.mf)
                      refine ⟨kv, key, ey2, hx5, by rw [hq5.len]; exact lt_size hlen hi wk.len, put acc key ee, c6, putK kv key z, hl, upd_same, (hq5.put hd2).tr (upd_tr (.inr rfl)), Nat.le_trans (put_len acc key ee) (Nat.add_le_add_right hlen 1), k6.updB (.inr rfl) hpC, ?_⟩
                      intro b o hb nb
                      rw [upd_ne (noH1 hb)]
                      exact e456 b o (e3 b o hb nb) nb
                    · cases hl
                  · cases hl
                · cases hl
              · cases hl
            · rename_i cc ht2
              refine ht (w.ban p) sl2 ci false cc ht2 σ2 H' k3 s4 _ fun H3 e4 k4 => ?_
              exact ⟨acc, cc, kv, hl, e4 p _ hxp hpM, hq'.tr (Tr.of e4 k3.mf), Nat.le_succ_of_le hlen, k4, e3.trans e4⟩
            · cases hl
          · cases hl
      · refine .inl ⟨wk.stop H2 i e2 (by omega), ?_⟩
        rw [List.drop_eq_nil_of_le (by omega)] at hl
        unfold dcLoop at hl
        cases hl
        refine q _ H2 (e1.trans e2) (k2.unban k1.cf) ?_ fun p' e' => by cases e'; exact k2
        exact ⟨p, rfl, back_of e1 k1 p hp, kv, hx, hq.1, hq.2⟩
    · cases e
  · cases e
end

/-! ### isinstance -/
def tyName : D → String
  | .none => "NoneType"
  | .bool _ => "bool"
  | .int _ => "int"
  | .str _ => "str"
  | .list _ => "list"
  | .tuple _ => "tuple"
  | .dict _ => "dict"
def fIsi (T : String) (d : D) : Option Bool := match T, d with
  | "int", .int _ => some true
  | "int", .bool _ => some true
  | "int", .str _ => some false
  | "int", .tuple _ => some false
  | "int", .list _ => some false
  | "int", .none => some false
  | "bool", .bool _ => some true
  | "bool", .int _ => some false
  | "bool", .str _ => some false
  | "bool", .tuple _ => some false
  | "bool", .list _ => some false
  | "bool", .none => some false
  | "tuple", .tuple _ => some true
  | "tuple", .int _ => some false
  | "tuple", .bool _ => some false
  | "tuple", .str _ => some false
  | "tuple", .list _ => some false
  | "tuple", .none => some false
  | "str", .str _ => some true
  | "str", .int _ => some false
  | "str", .bool _ => some false
  | "str", .tuple _ => some false
  | "str", .list _ => some false
  | "str", .none => some false
  | "list", .list _ => some true
  | "list", .int _ => some false
  | "list", .bool _ => some false
  | "list", .tuple _ => some false
  | "list", .str _ => some false
  | "list", .none => some false
  | _, _ => none
def mIsi (T : String) (ma : ME) : ME := fun sl cs => match ma sl cs with
  | some (a, c1) => match toD c1 a with
    | some d => match fIsi T d with
      | some b => some (.dat (.bool b), c1)
      | none => none
    | none => none
  | none => none
section
variable {K : PySem.W.Frag}
theorem Dv.ty {F : Addr → Prop} {H : Hp} {v : V} {d : D} (h : Dv F H v d) (n : ∀ l, d ≠ .dict l) : TyX K H v (.type (tyName d)) := by
  cases d with
  | none => rw [h.non]; exact .base .non
  | bool b => rw [h.bl]; exact .base (.bl b)
  | int b => rw [h.int]; exact .base (.int b)
  | str b => rw [h.str]; exact .base (.str b)
  | list ds => obtain ⟨a, xs, rfl, h1, _⟩ := h.lst; exact .base (.lst h1)
  | tuple ds =>
    obtain ⟨a, xs, rfl, _, h1, _⟩ := h.tup
    rcases h1 with h1 | ⟨o, h1⟩
    · exact .base (.tup h1)
    · exact .fTuple h1
  | dict l => exact absurd rfl (n l)
theorem isi_kit {T : String} {d : D} {b : Bool} (h : fIsi T d = some b) : kitB (tyName d) T = some b ∧ ∀ l, d ≠ .dict l := by
  unfold fIsi at h
  split at h <;> first | (cases h; done) | (cases h; dsimp only [tyName]; exact ⟨by decide +kernel, fun l z => nomatch z⟩)
theorem ref_isi {T : String} {ta : TE} {ma : ME} (ha : Ref K ta ma) : Ref K (tCB (rIsi K) (tCons ta (tCons (tC (.ty T)) tNil))) (mIsi T ma) := fun w sl cs z cs' e σ H k s Q q => by
  unfold mIsi at e
  split at e
  · rename_i a c1 h1
    split at e
    · rename_i d hd
      split at e
      · rename_i b hb
        cases e
        refine ha w sl cs a _ h1 σ H k s _ fun x H1 e1 k1 r1 _ => ?_
        obtain ⟨g1, g2⟩ := isi_kit hb
        exact ⟨x, .ty T, .type (tyName d), .type T, b, rfl, .ty T, (r1.dv k1 hd).ty g2, kit_ty g1, q _ H1 e1 k1 (.bl b) trivial⟩
      · cases e
    · cases e
  · cases e

/-! ### the script -/
def mScrIx (i : Nat) (mk : ME) : ME := fun sl cs => match sl[i]? with
  | some (some (.scr ns)) => match mk sl cs with
    | some (a, c1) => match toD c1 a with
      | some (.int z) => match atI ns z with
        | some n => some (.dat (.int n), c1)
        | none => none
      | _ => none
    | none => none
  | _ => none
def mScrLen (i : Nat) : ME := fun sl cs => match sl[i]? with
  | some (some (.scr ns)) => some (.dat (.int ns.length), cs)
  | _ => none
theorem ScrOk.mono {w : W} {H H1 : Hp} {cs : Cs} {p : Addr} {ns : List Int} (k : WOk w H cs) (e : Ev w.M H H1) (h : ScrOk K w.F H p ns) : ScrOk K w.F H1 p ns := h.tr (Tr.of e k.mf)
theorem ref_scrIx {i : Nat} {tk : TE} {mk : ME} (hk : Ref K tk mk) : Ref K (tSub K (tVar i) tk) (mScrIx i mk) := fun w sl cs z cs' e σ H k s Q q => by
  unfold mScrIx at e
  split at e
  · rename_i ns hi
    split at e
    · rename_i a c1 h1
      split at e
      · rename_i zz hz
        split at e
        · rename_i n hn
          cases e
          obtain ⟨v, hv, p, rfl, hp⟩ := s.at_ i _ hi
          refine .inr ⟨_, hv, hk w sl cs a _ h1 σ H k s _ fun y H1 e1 k1 r1 _ => ?_⟩
          have hp1 := ScrOk.mono k e1 hp
          have ea : atI (ns.map V.int) zz = some (.int n) := by
            unfold atI at hn ⊢
            rw [List.length_map]
            cases hj : ixN ns.length zz with
            | none => rw [hj] at hn; cases hn
            | some j =>
              rw [hj] at hn
              show (ns.map V.int)[j]? = _
              rw [List.getElem?_map, show ns[j]? = some n from hn]; rfl
          exact .inl ⟨p, ns.map V.int, zz, _, rfl, (r1.dv k1 hz).int, hp1.sq, ea, q _ H1 e1 k1 (.int n) trivial⟩
        · cases e
      · cases e
    · cases e
  · cases e
def rLenU (K : PySem.W.Frag) : List V → Hp → VK → Prop := fun xs H Q => (∃ p ys, xs = [.ref p] ∧ (SqL K H p ys ∨ SqT K H p ys) ∧ Q (.int ys.length) H) ∨ (∃ a kvs, xs = [V.ref a] ∧ H a = some (.dK kvs) ∧ Q (.int kvs.length) H)
theorem call_lenU {X : Cx} : CallR X (.builtin "len") (rLenU X.K) := fun pins s σ H xs us Q I r h => h.elim (call_len_seq pins s σ H xs us Q I r) (call_lenD pins s σ H xs us Q I r)
theorem ref_scrLen {i : Nat} : Ref K (tCB (rLenU K) (tCons (tVar i) tNil)) (mScrLen i) := fun w sl cs z cs' e σ H k s Q q => by
  unfold mScrLen at e
  split at e
  · rename_i ns hi
    cases e
    obtain ⟨v, hv, p, rfl, hp⟩ := s.at_ i _ hi
    refine ⟨_, hv, .inl ⟨p, ns.map V.int, rfl, .inl hp.sq, ?_⟩⟩
    rw [List.length_map]
    exact q _ H (Ev.refl H) k (.int _) trivial
  · cases e
/-- len of a list, a tuple, a dict -/
def mLen (ma : ME) : ME := fun sl cs => match ma sl cs with
  | some (a, c1) => match viewK c1 a with
    | some kvs => match a with
      | .cell j => match c1[j]? with
        | some (some (false, _)) => some (.dat (.int kvs.length), c1)
        | _ => none
      | .new _ => some (.dat (.int kvs.length), c1)
      | _ => none
    | none => match toD c1 a with
      | some d => match fLen d with
        | some z => some (z, c1)
        | none => none
      | none => none
  | none => none
theorem ref_len {ta : TE} {ma : ME} (ha : Ref K ta ma) : Ref K (tCB (rLenU K) (tCons ta tNil)) (mLen ma) := fun w sl cs z cs' e σ H k s Q q => by
  unfold mLen at e
  split at e
  · rename_i a c1 h1
    split at e
    · rename_i kvs hv
      split at e
      · rename_i j
        split at e
        · rename_i c hj
          cases e
          refine ha w sl cs _ _ h1 σ H k s _ fun x H1 e1 k1 r1 _ => ?_
          have ex : x = .ref (w.ad j) := r1
          subst ex
          dsimp only [viewK] at hv
          rw [hj] at hv
          cases c with
          | dK kvs' =>
            cases hv
            obtain ⟨kv, g1, g2, g3⟩ := (k1.cl j false _ hj).2.2.2
            refine .inr ⟨w.ad j, kv, rfl, g1, ?_⟩
            rw [(show KvOk w.F H1 kv kvs from ⟨g2, g3⟩).len]
            exact q _ H1 e1 k1 (.int _) trivial
          | _ => cases hv
        · cases e
      · rename_i c
        cases e
        refine ha w sl cs _ _ h1 σ H k s _ fun x H1 e1 k1 r1 _ => ?_
        cases c with
        | dK kvs' =>
          cases hv
          obtain ⟨p, rfl, _, kv, g1, g2, g3⟩ := r1
          refine .inr ⟨p, kv, rfl, g1, ?_⟩
          rw [(show KvOk (fun a => w.F a ∨ a = p) H1 kv kvs from ⟨g2, g3⟩).len]
          exact q _ H1 e1 k1 (.int _) trivial
        | _ => cases hv
      · cases e
    · split at e
      · rename_i d hd
        split at e
        · rename_i z' hz
          cases e
          refine ha w sl cs _ _ h1 σ H k s _ fun x H1 e1 k1 r1 _ => .inl ?_
          exact cal_len (K := K) w.F H1 [x] [d] z k1.fx (.cons (r1.dv k1 hd) .nil) hz Q fun v H3 e3 n => q v H3 (e1.trans e3.ev) (k1.ev e3) (ROk.end_ e1 k1 n) (BOk.ofN k1 e3 n)
        · cases e
      · cases e
  · cases e

/-! ### new dicts, slices, rows turned round, list(range ..) -/
def mNewK : ME := fun _ cs => some (.new (.dK []), cs)
def mNewT : ME := fun _ cs => some (.new (.dT []), cs)
theorem ref_newK : Ref K tDNewK mNewK := fun w sl cs z cs' e σ H k s Q q => by
  cases e
  intro p hp
  exact q _ _ (Ex.new hp).ev (k.ev (Ex.new hp)) ⟨p, rfl, hp, [], upd_same, rfl, .nil⟩ fun p' e' => by cases e'; exact k.banAt hp (Ex.new hp) (by rw [upd_same]; exact fun z => nomatch z)
theorem ref_newT : Ref K tDNewT mNewT := fun w sl cs z cs' e σ H k s Q q => by
  cases e
  intro p hp
  exact q _ _ (Ex.new hp).ev (k.ev (Ex.new hp)) ⟨p, rfl, hp, [], upd_same, rfl, .nil⟩ fun p' e' => by cases e'; exact k.banAt hp (Ex.new hp) (by rw [upd_same]; exact fun z => nomatch z)
theorem nok_end {w : W} {H H1 H' : Hp} {cs : Cs} {v : V} {z : A} {Q : VK} (e1 : Ev w.M H H1) (k1 : WOk w H1 cs) (q : ∀ v H', Ev w.M H H' → WOk w H' cs → ROk K w H H' v z → BOk w H' cs v z → Q v H') (ex : Ex H1 H') (n : NOk w.F H1 H' v z) : Q v H' :=
  q v H' (e1.trans ex.ev) (k1.ev ex) (ROk.end_ e1 k1 n) (BOk.ofN k1 ex n)
def fRevL : D → Option A
  | .list ds => some (.new (.lst ds.reverse))
  | _ => none
def mRevL (ma : ME) : ME := mUn fRevL ma
theorem ref_revL {ta : TE} {ma : ME} (ha : Ref K ta ma) : Ref K (tRevL K ta) (mRevL ma) := fun w sl cs z cs' e σ H k s Q q => by
  unfold mRevL mUn at e
  split at e
  · rename_i a c1 h1
    split at e
    · rename_i d hd
      split at e
      · rename_i z' hz
        cases e
        unfold fRevL at hz
        split at hz
        · rename_i ds
          cases hz
          refine ha w sl cs _ _ h1 σ H k s _ fun x H1 e1 k1 r1 _ => ?_
          obtain ⟨p, xs, rfl, g1, g2, g3⟩ := (r1.dv k1 hd).lst
          exact ⟨p, xs, rfl, SqL.of g1, fun l hl => nok_end e1 k1 q (Ex.new hl) (nok_lst hl (by rw [List.length_reverse]; exact g2) g3.rev)⟩
        · cases hz
      · cases e
    · cases e
  · cases e
def cutD (ds : List D) (lo hi : Option Int) : List D := (ds.drop (HT.sIx ds.length 0 lo)).take (HT.sIx ds.length ds.length hi - HT.sIx ds.length 0 lo)
theorem cut_dq {F : Addr → Prop} {H : Hp} {xs : List V} {ds : List D} (q : DqA F H xs ds) (lo hi : Option Int) : DqA F H (cutV xs lo hi) (cutD ds lo hi) := by
  unfold cutV cutD
  rw [q.len]
  exact (q.drop _).take _
theorem cutV_len {xs : List V} {lo hi : Option Int} : (cutV xs lo hi).length ≤ xs.length := by
  unfold cutV
  rw [List.length_take, List.length_drop]
  omega
abbrev MO := Sl → Cs → Option (Option Int × Cs)
def RefO (K : PySem.W.Frag) (t : TO) (m : MO) : Prop := ∀ (w : W) (sl : Sl) (cs : Cs) (r : Option Int) (cs' : Cs), m sl cs = some (r, cs') → ∀ (σ : St) (H : Hp), WOk w H cs → SlOk K w H σ sl → ∀ Q : Option Int → Hp → Prop,
  (∀ H', Ev w.M H H' → WOk w H' cs' → Q r H') → t σ H Q
def mNoPart : MO := fun _ cs => some (none, cs)
def mPart (me : ME) : MO := fun sl cs => match me sl cs with
  | some (a, c1) => match toD c1 a with
    | some (.int i) => some (some i, c1)
    | _ => none
  | none => none
theorem refo_none : RefO K tNoPart mNoPart := fun w sl cs z cs' e σ H k s Q q => by
  cases e
  exact q H (Ev.refl H) k
theorem refo_some {te : TE} {me : ME} (h : Ref K te me) : RefO K (tPart te) (mPart me) := fun w sl cs z cs' e σ H k s Q q => by
  unfold mPart at e
  split at e
  · rename_i a c1 h1
    split at e
    · rename_i i hi
      cases e
      exact h w sl cs _ _ h1 σ H k s _ fun x H1 e1 k1 r1 _ => ⟨i, (r1.dv k1 hi).int, q H1 e1 k1⟩
    · cases e
  · cases e
def rSlU (K : PySem.W.Frag) : V → Option Int → Option Int → Hp → VK → Prop := fun x lo hi H Q => rSlL K x lo hi H Q ∨ rSlA K x lo hi H Q
theorem sl_U {X : Cx} : SlR X (rSlU X.K) := fun pins s σ H x v vl vu lo hi sl Q I rx hs pl pu h => h.elim (sl_list pins s σ H x v vl vu lo hi sl Q I rx hs pl pu) (sl_tupA pins s σ H x v vl vu lo hi sl Q I rx hs pl pu)
def fCut : D → Option Int → Option Int → Option A
  | .list ds, lo, hi => some (.new (.lst (cutD ds lo hi)))
  | .tuple ds, lo, hi => some (.dat (.tuple (cutD ds lo hi)))
  | _, _, _ => none
def mSl (me : ME) (ml mh : MO) : ME := fun sl cs => match me sl cs with
  | some (a, c1) => match ml sl c1 with
    | some (lo, c2) => match mh sl c2 with
      | some (hi, c3) => match toDn c3 a with
        | some d => match fCut d lo hi with
          | some z => some (z, c3)
          | none => none
        | none => none
      | none => none
    | none => none
  | none => none
theorem ref_sl {te : TE} {tl th : TO} {me : ME} {ml mh : MO} (h : Ref K te me) (hl : RefO K tl ml) (hh : RefO K th mh) : Ref K (tSl (rSlU K) te tl th) (mSl me ml mh) := fun w sl cs z cs' e σ H k s Q q => by
  unfold mSl at e
  split at e
  · rename_i a c1 h1
    split at e
    · rename_i lo c2 h2
      split at e
      · rename_i hi c3 h3
        split at e
        · rename_i d hd
          split at e
          · rename_i z' hz
            cases e
            refine h w sl cs _ _ h1 σ H k s _ fun x H1 e1 k1 r1 _ => hl w sl c1 _ _ h2 σ H1 k1 (s.mono k.mf e1) _ fun H2 e2 k2 => hh w sl c2 _ _ h3 σ H2 k2 (s.mono k.mf (e1.trans e2)) _ fun H3 e3 k3 => ?_
            have e123 := (e1.trans e2).trans e3
            have dv := (r1.on k k1 (e2.trans e3)).dn k3 hd
            unfold fCut at hz
            split at hz
            · rename_i ds
              cases hz
              obtain ⟨p, xs, rfl, g1, g2, g3⟩ := dv.dv.lst
              exact .inl ⟨p, xs, rfl, SqL.of g1, fun l hl => nok_end e123 k3 q (Ex.new hl) (nok_lst hl (Nat.le_trans cutV_len g2) (cut_dq g3 lo hi))⟩
            · rename_i ds
              cases hz
              obtain ⟨p, xs, rfl, gf, g1, g2, g3⟩ := dv.tup.tupE
              refine .inr ⟨p, xs, rfl, SqT.of g1, fun hall => ?_, fun _ l hl => nok_end e123 k3 q (Ex.new hl) (nok_tup k3.fx hl (Nat.le_trans cutV_len g2) (cut_dq g3 lo hi))⟩
              refine q _ H3 e123 k3 ?_ trivial
              have ec : cutV xs lo hi = xs := by
                unfold cutV
                rw [hall.1, hall.2, List.drop_zero, Nat.sub_zero, List.take_length]
              have g4 := cut_dq g3 lo hi
              rw [ec] at g4
              exact .tup gf g1 g2 g4
            · cases hz
          · cases e
        · cases e
      · cases e
    · cases e
  · cases e
def mLstR1 (ma : ME) : ME := fun sl cs => match ma sl cs with
  | some (a, c1) => match toD c1 a with
    | some (.int n) => if -1000000000 ≤ n ∧ n ≤ 16777216 then some (.new (.lst (rng 0 n.toNat)), c1) else none
    | _ => none
  | none => none
def mLstR2 (ma mb : ME) : ME := fun sl cs => match ma sl cs with
  | some (a, c1) => match mb sl c1 with
    | some (b, c2) => match toD c2 a, toD c2 b with
      | some (.int i), some (.int n) => if (-1000000000 ≤ i ∧ i ≤ 1000000000) ∧ (-1000000000 ≤ n ∧ n ≤ 1000000000) ∧ n - i ≤ 16777216 then some (.new (.lst (rng i (n - i).toNat)), c2) else none
      | _, _ => none
    | none => none
  | none => none
theorem rg_dq {F : Addr → Prop} {H : Hp} (a b : Int) : DqA F H (rgV a b) (rng a (b - a).toNat) := by
  unfold rgV rng
  generalize List.range (b - a).toNat = l
  induction l with
  | nil => exact .nil
  | cons x r ih => exact .cons (.int _) ih
theorem ref_lstR1 {ta : TE} {ma : ME} (ha : Ref K ta ma) : Ref K (tLstRg (tRg1 ta)) (mLstR1 ma) := fun w sl cs z cs' e σ H k s Q q => by
  unfold mLstR1 at e
  split at e
  · rename_i a c1 h1
    split at e
    · rename_i n hn
      split at e
      · rename_i hz
        cases e
        refine ha w sl cs _ _ h1 σ H k s _ fun x H1 e1 k1 r1 _ => ⟨n, (r1.dv k1 hn).int, ⟨by omega, by omega, by omega, by omega, by omega⟩, fun l hl => ?_⟩
        have g := rg_dq (F := w.F) (H := H1) 0 n
        rw [Int.sub_zero] at g
        exact nok_end e1 k1 q (Ex.new hl) (nok_lst hl (by rw [rgV_length, sizeLine_is]; omega) g)
      · cases e
    · cases e
  · cases e
theorem ref_lstR2 {ta tb : TE} {ma mb : ME} (ha : Ref K ta ma) (hb : Ref K tb mb) : Ref K (tLstRg (tRg2 ta tb)) (mLstR2 ma mb) := fun w sl cs z cs' e σ H k s Q q => by
  unfold mLstR2 at e
  split at e
  · rename_i a c1 h1
    split at e
    · rename_i b c2 h2
      split at e
      · rename_i i n hi hn
        split at e
        · rename_i hz
          cases e
          refine ha w sl cs _ _ h1 σ H k s _ fun x H1 e1 k1 r1 _ => hb w sl c1 _ _ h2 σ H1 k1 (s.mono k.mf e1) _ fun y H2 e2 k2 r2 _ => ⟨i, n, ((r1.on k k1 e2).dv k2 hi).int, (r2.dv k2 hn).int, ⟨by omega, by omega, by omega, by omega, by omega⟩, fun l hl => ?_⟩
          exact nok_end (e1.trans e2) k2 q (Ex.new hl) (nok_lst hl (by rw [rgV_length, sizeLine_is]; omega) (rg_dq i n))
        · cases e
      · cases e
    · cases e
  · cases e
end
end Rf

namespace Rf
open PySem L2

/-! ### tuple(x): data, or kept apart with its object known -/
def mTuple (ma : ME) : ME := fun sl cs => match ma sl cs with
  | some (a, c1) => match a with
    | .ptu ds => some (.ptu ds, c1)
    | _ => match toDn c1 a with
      | some (.list ds) => some (.dat (.tuple ds), c1)
      | some (.tuple ds) => some (.dat (.tuple ds), c1)
      | _ => none
  | none => none
def rTup (K : PySem.W.Frag) : List V → Hp → VK → Prop := fun xs H Q => ∃ p ys, xs = [.ref p] ∧ ((SqL K H p ys ∧ ∀ l, H l = none → Q (.ref l) (upd H l (.tup ys))) ∨ (SqT K H p ys ∧ Q (.ref p) H))
/-- tuple(list), the object told -/
def rTupP (K : PySem.W.Frag) : List V → Hp → VK → Prop := fun xs H Q => ∃ p ys, xs = [.ref p] ∧ SqL K H p ys ∧ ∀ l (o : Obj), H l = none → o.cls = .type "tuple" → o.dict = none → Q (.ref l) (upd H l (.frz o (.tup ys)))
def mTupleP (ma : ME) : ME := fun sl cs => match ma sl cs with
  | some (a, c1) => match toDn c1 a with
    | some (.list ds) => some (.ptu ds, c1)
    | _ => none
  | none => none
section
variable {K : PySem.W.Frag} {ta : TE} {ma : ME}
theorem ref_tuple (ha : Ref K ta ma) : Ref K (tCB (rTup K) (tCons ta tNil)) (mTuple ma) := fun w sl cs z cs' e σ H k s Q q => by
  unfold mTuple at e
  split at e
  · rename_i a c1 h1
    split at e
    · rename_i ds
      cases e
      refine ha w sl cs _ _ h1 σ H k s _ fun x H1 e1 k1 r1 _ => ?_
      obtain ⟨p, o, xs, rfl, g2, g3, g4, g5, g6, g7⟩ := r1
      exact ⟨p, xs, rfl, .inr ⟨.inl (.inr ⟨o, g3⟩), q _ H1 e1 k1 ⟨p, o, xs, rfl, g2, g3, g4, g5, g6, g7⟩ trivial⟩⟩
    · split at e
      · rename_i ds hd
        cases e
        refine ha w sl cs _ _ h1 σ H k s _ fun x H1 e1 k1 r1 _ => ?_
        obtain ⟨p, xs, rfl, g1, g2, g3⟩ := (r1.dn k1 hd).dv.lst
        exact ⟨p, xs, rfl, .inl ⟨SqL.of g1, fun l hl => nok_end e1 k1 q (Ex.new hl) (nok_tup k1.fx hl g2 g3)⟩⟩
      · rename_i ds hd
        cases e
        refine ha w sl cs _ _ h1 σ H k s _ fun x H1 e1 k1 r1 _ => ?_
        have g := (r1.dn k1 hd).tup
        obtain ⟨p, xs, rfl, gf, g1, g2, g3⟩ := g.tupE
        exact ⟨p, xs, rfl, .inr ⟨SqT.of g1, q _ H1 e1 k1 (.tup gf g1 g2 g3) trivial⟩⟩
      · cases e
  · cases e
theorem ref_tupleP (ha : Ref K ta ma) : Ref K (tCB (rTupP K) (tCons ta tNil)) (mTupleP ma) := fun w sl cs z cs' e σ H k s Q q => by
  unfold mTupleP at e
  split at e
  · rename_i a c1 h1
    split at e
    · rename_i ds hd
      cases e
      refine ha w sl cs _ _ h1 σ H k s _ fun x H1 e1 k1 r1 _ => ?_
      obtain ⟨p, xs, rfl, g1, g2, g3⟩ := (r1.dn k1 hd).dv.lst
      exact ⟨p, xs, rfl, SqL.of g1, fun l o hl hc hdn => nok_end e1 k1 q (Ex.new hl) ⟨l, o, xs, rfl, k1.nf hl, upd_same, hc, hdn, g2, g3.tr (ex_tr (Ex.new hl))⟩⟩
    · cases e
  · cases e
theorem call_tupleP {X : Cx} : CallR X (.type "tuple") (rTupP X.K) := by
  intro pins s σ H xs us Q I r h
  obtain ⟨p, ys, rfl, hq, q⟩ := h
  obtain ⟨u, rfl, rx⟩ := vals1 r
  cases rx
  obtain ⟨its, r', pl, hz⟩ := I.list hq
  have hlen := r'.length
  refine call_tuple_list pl.isList (fun h' kp => ?_) (by simp only [List.size_toArray] <;> omega)
  have I1 : Inv X pins σ H { s with heap := h' } := I.kept (t' := s.toks) kp
  have I2 : Inv X pins σ (upd H h'.objs.size (.frz { cls := .type "tuple", data := .seq its.toArray } (.tup ys))) { s with heap := h'.push { cls := .type "tuple", data := .seq its.toArray } } :=
    I1.laid (t' := s.toks) (fun b o e => Heap.get?_push_of_some _ e) (Nat.le_refl _) ⟨Heap.get?_push_size _ rfl, (show ObjOk X.prog X.w _ _ _ (.tup ys) from ⟨hz, its, r', PyProof.Rows.IsTup.new _ _⟩)⟩
  exact ⟨.ref h'.objs.size, _, I2, rfl, q _ _ (I1.hok.fresh (Nat.le_refl _)) rfl rfl⟩

/-! ### dict(pairs): a list, a plain tuple -/
def pairsOf : List D → Option (List (Key × D))
  | [] => some []
  | .tuple [k, v] :: r => match keyOf k, pairsOf r with
    | some key, some kvs => some ((key, v) :: kvs)
    | _, _ => none
  | _ => none
def mDict (ma : ME) : ME := fun sl cs => match ma sl cs with
  | some (a, c1) => match a with
    | .ptu ds => match pairsOf ds with
      | some kvs => some (.new (.dK (mergeD [] kvs)), c1)
      | none => none
    | _ => match toDn c1 a with
      | some (.list ds) => match pairsOf ds with
        | some kvs => some (.new (.dK (mergeD [] kvs)), c1)
        | none => none
      | _ => none
  | none => none
def rDictL (K : PySem.W.Frag) : List V → Hp → VK → Prop := fun xs H Q => ∃ (a : Addr) (ps : List Addr) (kvs : List (Key × V)), xs = [.ref a] ∧ SqL K H a (ps.map V.ref) ∧ Paired (fun p kv => SqT K H p [kV kv.1, kv.2]) ps kvs ∧
    ∀ p, H p = none → Q (.ref p) (upd H p (.dK (mergeK [] kvs)))
def rDictP (K : PySem.W.Frag) : List V → Hp → VK → Prop := fun xs H Q => ∃ (a : Addr) (o : Obj) (ps : List Addr) (kvs : List (Key × V)), xs = [.ref a] ∧ H a = some (.frz o (.tup (ps.map V.ref))) ∧ o.cls = .type "tuple" ∧ o.dict = none ∧ ps.length ≤ sizeLine ∧ Paired (fun p kv => SqT K H p [kV kv.1, kv.2]) ps kvs ∧
    ∀ p, H p = none → Q (.ref p) (upd H p (.dK (mergeK [] kvs)))
def rDictU (K : PySem.W.Frag) : List V → Hp → VK → Prop := fun xs H Q => rDictL K xs H Q ∨ rDictP K xs H Q
theorem call_dictT {X : Cx} (hcalm : X.calm = true) : CallR X (.type "dict") (rDictP X.K) := by
  intro pins s σ H xs us Q I r q
  obtain ⟨a, o, ps, kvs, ex, hq, hcl, hdn, hz, hp, q⟩ := q
  subst ex
  obtain ⟨u, eu, rx⟩ := vals1 r
  subst eu
  cases rx
  obtain ⟨ho, hz', its, rv, o', ho', hc', n, hdat⟩ := (show ObjOk X.prog X.w H s.heap a (.frz o (.tup (ps.map V.ref))) from I.hok a _ hq)
  have eo : o' = o := Option.some.inj (ho'.symm.trans ho)
  subst eo
  have ei := refs_at rv
  subst ei
  obtain ⟨prs, rel, hl, hpr⟩ := pairs_of I hp
  have hat : ∀ (j : Nat) (q' : Key × Value), prs[j]? = some q' → ∃ (b : Addr) (u : Value), ps[j]? = some b ∧ PyProof.Rows.IsTup s.heap b #[u, q'.2] ∧ keyIs q'.1 u = true := hpr
  -- the pairs as the library's rule wants them
  let vals : List (Value × Value) := (List.range prs.length).map fun j => (match prs[j]?, ps[j]? with
    | some q', some b => (match s.heap.get? b with
      | some ob => (match ob.data with
        | .seq it _ => (it.getD 0 .none, q'.2)
        | _ => (.none, q'.2))
      | none => (.none, q'.2))
    | _, _ => (Value.none, Value.none))
  have hvl : vals.length = prs.length := by simp [vals]
  have hv : ∀ (j : Nat) (k v : Value), vals[j]? = some (k, v) → ∃ (q' : Key × Value) (b : Addr), prs[j]? = some q' ∧ ps[j]? = some b ∧ PyProof.Rows.IsTup s.heap b #[k, q'.2] ∧ keyIs q'.1 k = true ∧ v = q'.2 := by
    intro j k v e
    have hj : j < prs.length := by rw [← hvl]; exact (List.getElem?_eq_some_iff.mp e).1
    have ep : prs[j]? = some prs[j] := List.getElem?_eq_getElem hj
    obtain ⟨b, u, hb, ht, hk⟩ := hat j _ ep
    obtain ⟨ob, hob, hc2, n2, hd2⟩ := ht
    have e2 : vals[j]? = some (u, prs[j].2) := by
      simp only [vals, List.getElem?_map, List.getElem?_range hj, Option.map_some, ep, hb, hob, hd2]
      rfl
    rw [e2] at e
    cases e
    exact ⟨_, b, ep, hb, ⟨ob, hob, hc2, n2, hd2⟩, hk, rfl⟩
  have PI := PairArg.tuple (prog := X.prog) (w := X.w) a (ps.map Value.ref).toArray (fun j => ps.getD j 0) vals
  refine call_dict_pairs (knd := mixKind X.prog X.w) (kvs := prs) PI (I.ok.hd hcalm) ⟨⟨o', n, ho, hcl, hdn, hdat⟩, ⟨?_, fun j k v e => ?_⟩⟩ ⟨hvl.symm, fun j k v e => ?_⟩ (by rw [hvl, hl]; exact hz) fun h' tk hd' kp => ?_
  · rw [hvl, hl]; simp
  · obtain ⟨q', b, h1, h2, h3, h4, h5⟩ := hv j k v e
    subst h5
    have eb : ps.getD j 0 = b := by rw [List.getD_eq_getElem?_getD, h2]; rfl
    refine ⟨?_, .inl ?_⟩
    · show (List.map Value.ref ps).toArray[j]? = some (Value.ref (ps.getD j 0))
      rw [eb]; simp [h2]
    · show s.heap.IsTuple (ps.getD j 0) _
      rw [eb]; exact h3
  · obtain ⟨q', b, h1, h2, h3, h4, h5⟩ := hv j k v e
    subst h5
    exact ⟨q'.1, h1, h4⟩
  · have hm : (s.heap.objs.size == sysModules) = false := beq_eq_false_iff_ne.mpr (Nat.ne_of_gt I.big)
    have hlen : (mergeK [] kvs).length ≤ sizeLine := by
      refine Nat.le_trans (length_mergeK kvs []) ?_
      rw [List.length_nil, Nat.zero_add, rel.length, hl]
      exact hz
    exact ⟨.ref s.heap.objs.size, upd H s.heap.objs.size (.dK (mergeK [] kvs)), I.laid (t' := tk) (fun b o e => kp b o (by simp) e) (Nat.le_refl _) (show ObjOk X.prog X.w _ _ _ (.dK (mergeK [] kvs)) from ⟨hlen, hm, merged [] prs, KV.merge rel .nil, hd'⟩), rfl, q _ (I.hok.fresh (Nat.le_refl _))⟩
theorem call_dictU {X : Cx} (hc : X.calm = true) : CallR X (.type "dict") (rDictU X.K) := fun pins s σ H xs us Q I r h => h.elim (call_dictP hc pins s σ H xs us Q I r) (call_dictT hc pins s σ H xs us Q I r)
theorem mergeD_ok {F : Addr → Prop} {H : Hp} : ∀ {kv : List (Key × V)} {kvs : List (Key × D)} {a : List (Key × V)} {b : List (Key × D)}, KvOk F H kv kvs → KvOk F H a b → KvOk F H (mergeK a kv) (mergeD b kvs)
  | [], kvs, a, b, h, h' => by obtain rfl := h.nil; exact h'
  | (k, v) :: r, kvs, a, b, h, h' => by
    obtain ⟨d, s, rfl, h1, h2⟩ := h.cons
    show KvOk F H (mergeK (putK a k v) r) (mergeD (put b k d) s)
    exact mergeD_ok h2 (h'.put h1)
theorem pairs_dq {F : Addr → Prop} {H : Hp} : ∀ {xs : List V} {ds : List D} {kvs : List (Key × D)}, DqA F H xs ds → pairsOf ds = some kvs → ∃ (ps : List Addr) (kv : List (Key × V)), xs = ps.map V.ref ∧ Paired (fun p (q : Key × V) => SqT K H p [kV q.1, q.2]) ps kv ∧ KvOk F H kv kvs
  | _, _, _, .nil, e => by cases e; exact ⟨[], [], rfl, .nil, rfl, .nil⟩
  | _, d :: ds, kvs, .cons a b, e => by
    unfold pairsOf at e
    split at e
    · cases (show d :: ds = [] from by assumption)
    · rename_i k v r heq
      cases heq
      split at e
      · rename_i key kvs' hk hr
        cases e
        obtain ⟨ps, kv, h1, h2, h3⟩ := pairs_dq b hr
        obtain ⟨p, xs, rfl, _, g1, _, g2⟩ := a.tupE
        cases g2 with
        | cons q1 q2 =>
          cases q2 with
          | cons q2 q3 =>
            cases q3
            have ek := Dv.key (.dat q1) hk
            subst ek
            exact ⟨p :: ps, (key, _) :: kv, by rw [h1]; rfl, .cons (SqT.of g1) h2, .mk q2 h3⟩
      · cases e
    · cases e
theorem ref_dict (ha : Ref K ta ma) : Ref K (tCB (rDictU K) (tCons ta tNil)) (mDict ma) := fun w sl cs z cs' e σ H k s Q q => by
  have fin : ∀ {H1 : Hp} {cs1 : Cs} {kv : List (Key × V)} {kvs : List (Key × D)} {p : Addr} {Q : VK} {z : A}, Ev w.M H H1 → WOk w H1 cs1 → KvOk w.F H1 kv kvs → z = .new (.dK (mergeD [] kvs)) → (∀ v H', Ev w.M H H' → WOk w H' cs1 → ROk K w H H' v z → BOk w H' cs1 v z → Q v H') → H1 p = none → Q (.ref p) (upd H1 p (.dK (mergeK [] kv))) := fun {H1 cs1 kv kvs p Q z} e1 k1 ok ez q hp => by
    subst ez
    have ok' : KvOk w.F H1 (mergeK [] kv) (mergeD [] kvs) := mergeD_ok ok ⟨rfl, .nil⟩
    refine nok_end e1 k1 q (Ex.new hp) ⟨p, rfl, hp, mergeK [] kv, upd_same, ok'.1, ok'.2.tr (new_tr hp)⟩
  unfold mDict at e
  split at e
  · rename_i a c1 h1
    split at e
    · rename_i ds
      split at e
      · rename_i kvs hk
        cases e
        refine ha w sl cs _ _ h1 σ H k s _ fun x H1 e1 k1 r1 _ => ?_
        obtain ⟨p, o, xs, rfl, g2, g3, g4, g5, g6, g7⟩ := r1
        obtain ⟨ps, kv, rfl, h2, h3⟩ := pairs_dq (K := K) g7 hk
        exact .inr ⟨p, o, ps, kv, rfl, g3, g4, g5, by rw [List.length_map] at g6; exact g6, h2, fun l hl => fin e1 k1 h3 rfl q hl⟩
      · cases e
    · split at e
      · rename_i ds hd
        split at e
        · rename_i kvs hk
          cases e
          refine ha w sl cs _ _ h1 σ H k s _ fun x H1 e1 k1 r1 _ => ?_
          obtain ⟨p, xs, rfl, g1, g2, g3⟩ := (r1.dn k1 hd).dv.lst
          obtain ⟨ps, kv, rfl, h2, h3⟩ := pairs_dq (K := K) g3 hk
          exact .inl ⟨p, ps, kv, rfl, SqL.of g1, h2, fun l hl => fin e1 k1 h3 rfl q hl⟩
        · cases e
      · cases e
  · cases e

/-! ### sum of a list, a tuple -/
def rSumT (K : PySem.W.Frag) : List V → Hp → VK → Prop := fun vs H Q => ∃ (a : Addr) (ns : List Int), vs = [V.ref a] ∧ SqT K H a (ns.map V.int) ∧ Q (.int ns.sum) H
theorem sum_rawT {prog : Program} {w : World} {A : Around} {E : Value → Shared → Prop} {s : Shared} {l : Addr} {its : List Value} {ns : List Int} {Q : Value → Shared → Prop} (hh : A.handled = none) (hl : s.heap.IsTuple l its.toArray) (hi : PyProof.Rows.IntsAre its ns)
    (h : ∀ h' tk t', (∀ b o, s.heap.get? b = some o → h'.get? b = some o) → Q (.int ns.sum t') { s with heap := h', toks := tk }) : wpAny (model prog w) A (call (.builtin "sum") [.ref l]) Q E s := by
  obtain ⟨xs, e⟩ := hi.allInts.items
  have hn : numsOf (intItems xs).toList = ns := by rw [← e]; exact hi.numsOf
  rw [nums_intItems] at hn
  rw [e] at hl
  have hlt : l < s.heap.objs.size := by obtain ⟨_, e, _⟩ := hl; exact Heap.lt_size e
  refine call_sum_walkG (wpAny_pyIter_tuple hl ?_)
  refine ⟨_, _, _, _, _, _, numAt xs, rfl, Walks.tuple (A := A.in1) hh s.heap.objs.size l (Nat.ne_of_lt hlt) (intItems xs), ⟨⟨_, Heap.get?_push_size _ rfl, rfl, rfl⟩, hl.push _⟩, fun b hb => ?_, (fun _ _ => intItems_at), fun h' tk t' hk => ?_⟩
  · show b < (s.heap.push _).objs.size
    rw [Heap.size_push]
    rcases List.mem_cons.mp hb with rfl | hb
    · exact Nat.lt_succ_self _
    · rcases List.mem_cons.mp hb with rfl | hb
      · exact Nat.lt_succ_of_lt hlt
      · cases hb
  · have := h h' tk t' fun b o e => hk b o (fun hm => by
      rcases List.mem_cons.mp hm with e1 | hm
      · exact absurd (e1 ▸ Heap.lt_size e) (Nat.lt_irrefl _)
      · cases hm) (Heap.get?_push_of_some _ e)
    rw [show (intItems xs).size = xs.size by simp [intItems], preSum_eq, List.take_of_length_le (by simp), hn]; exact this
theorem cr_sumT {X : Cx} (hc : X.calm = true) : CallR X (.builtin "sum") (rSumT X.K) := by
  intro pins s σ H vs us Q I r h
  obtain ⟨a, ns, rfl, hs, q⟩ := h
  obtain ⟨its, rv, hl, _⟩ := I.tuple hs
  rw [Vals.ref1 r]
  exact sum_rawT (I.ok.hd hc) hl rv.ints fun h' tk t' hk => ⟨.int _, H, I.kept hk, ⟨_, rfl⟩, q⟩
def rSumU (K : PySem.W.Frag) : List V → Hp → VK → Prop := fun xs H Q => rSum K xs H Q ∨ rSumT K xs H Q
theorem cr_sumU {X : Cx} (hc : X.calm = true) : CallR X (.builtin "sum") (rSumU X.K) := fun pins s σ H xs us Q I r h => h.elim (cr_sum hc pins s σ H xs us Q I r) (cr_sumT hc pins s σ H xs us Q I r)
def fSumU : D → Option A
  | .list ds => match intsOf ds with
    | some ns => some (.dat (.int ns.sum))
    | none => none
  | .tuple ds => match intsOf ds with
    | some ns => some (.dat (.int ns.sum))
    | none => none
  | _ => none
theorem cal_sumU : CalS (rSumU K) (f1 fSumU) := cal_1 fun F H x d z fx hx hf Q q => by
  unfold fSumU at hf
  split at hf
  · split at hf
    · rename_i ns hns
      cases hf
      obtain ⟨a, xs, rfl, h1, _, h2⟩ := hx.lst
      rw [intsOf_eq hns] at h2
      have e := h2.ints
      subst e
      exact .inl ⟨a, ns, rfl, SqL.of h1, q _ H (Ex.refl H) (.int _)⟩
    · cases hf
  · split at hf
    · rename_i ns hns
      cases hf
      obtain ⟨a, xs, rfl, _, h1, _, h2⟩ := hx.tup
      rw [intsOf_eq hns] at h2
      have e := h2.ints
      subst e
      exact .inr ⟨a, ns, rfl, .inl h1, q _ H (Ex.refl H) (.int _)⟩
    · cases hf
  · cases hf

/-! ### sorted(d.items()), keys and values ints -/
def rItemsK : V → List V → Hp → VK → Prop := fun x xs H Q => ∃ (a : Addr) (kvs : List (Key × V)), x = .ref a ∧ xs = [] ∧ H a = some (.dK kvs) ∧ ∀ p, H p = none → Q (.ref p) (upd H p (DX.itemsO p a))
theorem mt_itemsK {X : Cx} : MtR X "dict.items" rItemsK := by
  intro pins s σ H x xs v us Q I rx rxs h
  obtain ⟨a, kvs, rfl, rfl, ha, q⟩ := h
  cases rx
  cases rxs
  obtain ⟨z, hd, vs, kv, o, es, ep, ho, hx, hdat, _⟩ := (show ObjOk X.prog X.w H s.heap a (.dK kvs) from I.hok a _ ha)
  refine DT.callItems (es := es) (ep := ep) hd ⟨o, ho, hx, hdat⟩ ?_
  have hf : H s.heap.objs.size = none := I.hok.fresh (Nat.le_refl _)
  exact ⟨.ref s.heap.objs.size, upd H s.heap.objs.size (DX.itemsO s.heap.objs.size a), I.laid (t' := s.toks) (fun b u e => Heap.get?_push_of_some _ e) (Nat.le_refl _) (DX.itemsO_ok (Heap.get?_push_size _ rfl)), rfl, q _ hf⟩
abbrev ik (q : Int × Int) : Key × V := (Sum.inl q.1, V.int q.2)
def rSortK : List V → Hp → VK → Prop := fun vs H Q => ∃ (p a : Addr) (ns : List (Int × Int)), vs = [.ref p] ∧ H p = some (DX.itemsO p a) ∧ H a = some (.dK (ns.map ik)) ∧
  ∀ (H' : Hp) (l : Addr) (ps : List (Addr × (Int × Int))), (∀ b o, H b = some o → H' b = some o) → H l = none → (ps.map (·.2)).Perm ns → (ps.map (·.2)).Pairwise (fun e f => SrtO.lexB f e = false) → H' l = some (.lst (ps.map fun z => V.ref z.1)) →
    (∀ z ∈ ps, H z.1 = none ∧ z.1 ≠ l ∧ H' z.1 = some (.tup [.int z.2.1, .int z.2.2])) → Q (.ref l) H'

def i0 : Value → Int
  | .int i _ => i
  | _ => 0
def kf (h : Heap) : Value → Int × Int
  | .ref b => match h.get? b with
    | some ob => match ob.data with
      | .seq it _ => (i0 (it.getD 0 .none), i0 (it.getD 1 .none))
      | _ => (0, 0)
    | none => (0, 0)
  | _ => (0, 0)
theorem pairs_at {prog : Program} {w : World} {knd : KeyKind prog w Key} : ∀ {es : List DictEntry} {vs : List (Key × Value)}, Pairs knd es vs → es.length = vs.length ∧ ∀ (j : Nat) (e : DictEntry), es[j]? = some e → ∃ k, knd.is k e.key = true ∧ vs[j]? = some (k, e.val)
  | _, _, .nil => ⟨rfl, fun j e h => by simp at h⟩
  | _, _, .cons (e := e) (kv := kv) a b c => by
    obtain ⟨h1, h2⟩ := pairs_at c
    refine ⟨by rw [List.length_cons, List.length_cons, h1], fun j e' h => ?_⟩
    cases j with
    | zero =>
      simp only [List.getElem?_cons_zero, Option.some.injEq] at h
      subst h
      exact ⟨kv.1, a, by rw [b]; rfl⟩
    | succ j =>
      simp only [List.getElem?_cons_succ] at h ⊢
      exact h2 j e' h
theorem cr_sortedK {X : Cx} (hc : X.calm = true) : CallR X (.builtin "sorted") rSortK := by
  intro pins s σ H xs us Q I r h
  obtain ⟨p, a, ns, rfl, hp, ha, q⟩ := h
  obtain rfl := Vals.ref1 r
  have view : s.heap.IsItemsView p a := (show ObjOk X.prog X.w H s.heap p (DX.itemsO p a) from I.hok p _ hp).1
  obtain ⟨hz, hd, vs, kv, o, es, ep, ho, hx, hdat, hkeys, hpairs, hnd⟩ := (show ObjOk X.prog X.w H s.heap a (.dK (ns.map ik)) from I.hok a _ ha)
  have l1 : (ns.map ik).length = vs.length := Paired.length kv
  obtain ⟨l2, hpa⟩ := pairs_at hpairs
  rw [List.length_map] at l1 hz
  have l3 : es.size = vs.length := by rw [← Array.length_toList]; exact l2
  have hh : X.A.handled = none := I.ok.hd hc
  refine DT.sortedI (es := es) (ep := ep) hh view ⟨o, ho, hx, hdat⟩ (by omega) fun h' tk as hk hlt hl hG => ?_
  have lak : as.length = ns.length := by omega
  have nd : as.Nodup := List.Pairwise.imp (fun h => Nat.ne_of_lt h) hG.rise
  have pr : ∀ (j : Nat) (b : Addr), as[j]? = some b → ∃ (e : Int × Int) (t u : Tok), ns[j]? = some e ∧ h'.get? b = some { cls := .type "tuple", data := .seq #[Value.int e.1 t, Value.int e.2 u] } := by
    intro j b hj
    obtain ⟨en, he, hg⟩ := hG.pairs j b hj
    have he' : es.toList[j]? = some en := by rw [Array.getElem?_toList]; exact he
    obtain ⟨k, hk1, hv⟩ := hpa j en he'
    have hjn : j < ns.length := by
      have := (List.getElem?_eq_some_iff.mp hv).1
      omega
    have hn : (ns.map ik)[j]? = some (ik ns[j]) := by rw [List.getElem?_map, List.getElem?_eq_getElem hjn]; rfl
    obtain ⟨y, g1, g2, g3⟩ := LiI.paired_get kv hn
    rw [hv] at g1
    cases g1
    obtain ⟨u, hu⟩ := g3
    have g2' : k = Sum.inl ns[j].1 := g2.symm
    have hu' : en.val = Value.int ns[j].2 u := hu
    have hk2 : keyIs (Sum.inl ns[j].1) en.key = true := by rw [← g2']; exact hk1
    rcases keyIs_shape hk2 with ⟨i, t, e1, e2⟩ | ⟨x, t, e1, _⟩
    · cases e1
      refine ⟨ns[j], t, u, List.getElem?_eq_getElem hjn, ?_⟩
      rw [hg, e2, hu']
    · cases e1
  have kfb : ∀ (j : Nat) (b : Addr) (e : Int × Int), as[j]? = some b → ns[j]? = some e → kf h' (.ref b) = e := by
    intro j b e hj he
    obtain ⟨e', t, u, he', hg⟩ := pr j b hj
    rw [he] at he'
    cases he'
    simp only [kf, hg]
    rfl
  have hob : (h'.push { cls := .type "list", data := .seq (as.map Value.ref).toArray }).get? h'.objs.size = some (PyProof.Rows.seqObj "list" (as.map Value.ref).toArray 0) := Heap.get?_push_size _ rfl
  have ne0 : ∀ b o, h'.get? b = some o → b ≠ h'.objs.size := fun b o e => Nat.ne_of_lt (Heap.lt_size e)
  have ka : ∀ b o, h'.get? b = some o → (h'.push { cls := .type "list", data := .seq (as.map Value.ref).toArray }).get? b = some o := fun b o e => Heap.get?_push_of_some _ e
  generalize hh2 : h'.push { cls := .type "list", data := .seq (as.map Value.ref).toArray } = h2 at hob ka ⊢
  have kb : ∀ b o, s.heap.get? b = some o → h2.get? b = some o := fun b o e => ka b o (hk b o e)
  have at_ : ∀ v ∈ as.map Value.ref, ∃ (j : Nat) (b : Addr) (e : Int × Int) (t u : Tok), v = .ref b ∧ as[j]? = some b ∧ ns[j]? = some e ∧ h'.get? b = some { cls := .type "tuple", data := .seq #[Value.int e.1 t, Value.int e.2 u] } := by
    intro v hv'
    obtain ⟨b, hb, rfl⟩ := List.mem_map.mp hv'
    obtain ⟨j, hj⟩ := List.mem_iff_getElem?.mp hb
    obtain ⟨e, t, u, he, hg⟩ := pr j b hj
    exact ⟨j, b, e, t, u, rfl, hj, he, hg⟩
  have isp : ∀ v ∈ as.map Value.ref, Srt.IsPair h2 v (kf h' v).1 (kf h' v).2 := by
    intro v hv'
    obtain ⟨j, b, e, t, u, rfl, hj, he, hg⟩ := at_ v hv'
    rw [kfb j b e hj he]
    exact ⟨b, _, t, u, 0, rfl, ka _ _ hg, rfl, rfl⟩
  refine wpAny_call_entry PyProof.Rows.slot_list_sort ⟨_, hob, rfl⟩ PyProof.Rows.entry_list_sort
    (SrtO.list_sort_ord (s := { s with heap := h2, toks := tk }) (SrtO.swo_lex (kf h')) hob (by rw [List.length_map]; omega) (fun h2' => SrtO.pairs_sortableO (by omega) isp fun o e => ?_) fun out o1 o2 => ⟨.none, rfl, ?_⟩) (PyProof.Rows.args_list_sort _)
  · have e' : some o = some (PyProof.Rows.seqObj "list" (as.map Value.ref).toArray 0) := e.symm.trans hob
    cases e'
    intro c
    exact absurd (Value.type.inj c) (by decide)
  · show EP X pins σ Q (.ref h'.objs.size) { s with heap := PyProof.Rows.sortedHeap h2 h'.objs.size (as.map Value.ref) out.toArray, toks := tk }
    have zf : ∀ (bs : List Addr) (ks : List (Int × Int)), bs.length = ks.length → (bs.zip ks).map (fun z => Value.ref z.1) = bs.map Value.ref := by
      intro bs
      induction bs with
      | nil => intro ks _; rfl
      | cons b r ih =>
        intro ks hks
        cases ks with
        | nil => cases hks
        | cons k t => simp only [List.zip_cons_cons, List.map_cons, ih t (by simpa using hks)]
    obtain ⟨zs, pz, ez⟩ := perm_lift (fun z : Addr × (Int × Int) => Value.ref z.1) o2.perm (as.zip ns) (zf as ns lak)
    have idx : ∀ z ∈ zs, ∃ j : Nat, as[j]? = some z.1 ∧ ns[j]? = some z.2 := by
      intro z' hz'
      obtain ⟨j, hj⟩ := List.mem_iff_getElem?.mp (pz.mem_iff.mp hz')
      exact ⟨j, List.getElem?_zip_eq_some.mp hj⟩
    have hperm : (zs.map (·.2)).Perm ns := by
      have e := pz.map (·.2)
      have m2 : (as.zip ns).map (·.2) = ns := List.map_snd_zip (by rw [lak]; exact Nat.le_refl _)
      rw [m2] at e
      exact e
    have hsort : (zs.map (·.2)).Pairwise (fun e f => SrtO.lexB f e = false) := by
      have o1' : List.Pairwise (fun x y => SrtO.lexB (kf h' y) (kf h' x) = false) out := o1
      rw [← ez, List.pairwise_map] at o1'
      rw [List.pairwise_map]
      refine List.Pairwise.imp_of_mem (fun {x y} hx hy h => ?_) o1'
      obtain ⟨j, j1, j2⟩ := idx x hx
      obtain ⟨i, i1, i2⟩ := idx y hy
      rw [kfb j _ _ j1 j2, kfb i _ _ i1 i2] at h
      exact h
    have kF : ∀ b o, b ≠ h'.objs.size → h2.get? b = some o → (PyProof.Rows.sortedHeap h2 h'.objs.size (as.map Value.ref) out.toArray).get? b = some o := fun b o hb e => (PyProof.Rows.sortedHeap_old hb (Heap.lt_size e)).trans e
    have kS : ∀ b o, s.heap.get? b = some o → (PyProof.Rows.sortedHeap h2 h'.objs.size (as.map Value.ref) out.toArray).get? b = some o := fun b o e => kF b o (ne0 _ _ (hk b o e)) (kb b o e)
    obtain ⟨eF, heF⟩ := PyProof.Rows.sortedHeap_at (vs := as.map Value.ref) (out := out.toArray) hob
    have I1 : Inv X pins σ H { s with heap := PyProof.Rows.sortedHeap h2 h'.objs.size (as.map Value.ref) out.toArray, toks := tk } := I.kept (t' := tk) kS
    have hn0 : H h'.objs.size = none := I.hok.fresh (Nat.le_of_lt hlt)
    have hlen : (zs.map fun z => V.ref z.1).length ≤ sizeLine := by
      have e := hperm.length_eq
      rw [List.length_map] at e
      rw [List.length_map]
      omega
    have rv : Vals (zs.map fun z => V.ref z.1) out := by
      rw [← ez]
      exact vals_maps (fun z : Addr × (Int × Int) => V.ref z.1) (fun z => Value.ref z.1) zs fun _ _ => rfl
    have I2 : Inv X pins σ (upd H h'.objs.size (.lst (zs.map fun z => V.ref z.1))) { s with heap := PyProof.Rows.sortedHeap h2 h'.objs.size (as.map Value.ref) out.toArray, toks := tk } :=
      I1.take (h' := PyProof.Rows.sortedHeap h2 h'.objs.size (as.map Value.ref) out.toArray) (t' := tk) (fun b ob _ e => e) (I.fpOk (Nat.le_of_lt hlt) hn0) ⟨hlen, out, eF, rv, heF⟩
    obtain ⟨H2, I3, g, qt⟩ := DX.takeT (P := fun b vs => ∃ (j : Nat) (e : Int × Int), as[j]? = some b ∧ ns[j]? = some e ∧ vs = [.int e.1, .int e.2]) I as _ I2 nd fun b hb => by
      obtain ⟨j, hj⟩ := List.mem_iff_getElem?.mp hb
      obtain ⟨e, t, u, he, hg⟩ := pr j b hj
      have hbl : s.heap.objs.size ≤ b := Nat.le_of_lt (hG.above b hb)
      refine ⟨hbl, ?_, [.int e.1, .int e.2], ⟨j, e, hj, he, rfl⟩, fun H3 => ⟨(by show 2 ≤ sizeLine; decide), [Value.int e.1 t, Value.int e.2 u], .cons ⟨t, rfl⟩ (.cons ⟨u, rfl⟩ .nil), ⟨_, kF _ _ (ne0 _ _ hg) (ka _ _ hg), rfl, 0, rfl⟩⟩⟩
      rw [upd_ne (ne0 _ _ hg)]
      exact I.hok.fresh hbl
    have gr : ∀ b o, H b = some o → H2 b = some o := fun b o e => g b o (by rw [upd_ne (ne_of_none e hn0)]; exact e)
    refine ⟨.ref h'.objs.size, H2, I3, rfl, q H2 h'.objs.size zs gr hn0 hperm hsort (g _ _ upd_same) fun z' hz' => ?_⟩
    obtain ⟨i, i1, i2⟩ := idx z' hz'
    obtain ⟨vs', ⟨j, e, j1, j2, ev⟩, hH⟩ := qt z'.1 (List.mem_of_getElem? i1)
    have eij : i = j := (List.getElem?_inj (List.getElem?_eq_some_iff.mp i1).1 nd).mp (i1.trans j1.symm)
    subst eij
    have ee : e = z'.2 := Option.some.inj (j2.symm.trans i2)
    rw [ev, ee] at hH
    obtain ⟨e0, t0, u0, _, hg0⟩ := pr i z'.1 i1
    exact ⟨I.hok.fresh (Nat.le_of_lt (hG.above _ (List.mem_of_getElem? i1))), ne0 _ _ hg0, hH⟩

/-! ### their mirrors -/
def ikD (q : Int × Int) : Key × D := (Sum.inl q.1, PyData.int q.2)
def iksOf : List (Key × D) → Option (List (Int × Int))
  | [] => some []
  | (.inl i, .int j) :: r => match iksOf r with
    | some l => some ((i, j) :: l)
    | none => none
  | _ => none
theorem iksOf_eq : ∀ {kvs : List (Key × D)} {ns : List (Int × Int)}, iksOf kvs = some ns → kvs = ns.map ikD
  | [], ns, e => by cases e; rfl
  | (.inl i, .int j) :: r, ns, e => by
    unfold iksOf at e
    split at e
    · rename_i l hl
      cases e
      rw [iksOf_eq hl]; rfl
    · cases e
  | (.inr x, d) :: r, ns, e => by cases d <;> cases e
  | (.inl x, .none) :: r, ns, e => by cases e
  | (.inl x, .bool _) :: r, ns, e => by cases e
  | (.inl x, .str _) :: r, ns, e => by cases e
  | (.inl x, .list _) :: r, ns, e => by cases e
  | (.inl x, .tuple _) :: r, ns, e => by cases e
  | (.inl x, .dict _) :: r, ns, e => by cases e
theorem iksOf_map (ns : List (Int × Int)) : iksOf (ns.map ikD) = some ns := by
  induction ns with
  | nil => rfl
  | cons a r ih =>
    show (match iksOf (r.map ikD) with
    | some l => some ((a.1, a.2) :: l)
    | none => none) = _
    rw [ih]
theorem kv_ik {F : Addr → Prop} {H : Hp} : ∀ {kv : List (Key × V)} {ns : List (Int × Int)}, KvOk F H kv (ns.map ikD) → kv = ns.map ik
  | [], [], _ => rfl
  | [], _ :: _, h => by cases h.1
  | _ :: _, [], h => by cases h.1
  | (k, v) :: r, a :: ns, h => by
    obtain ⟨d, s, e, h1, h2⟩ := h.cons
    simp only [List.map_cons, List.cons.injEq] at e
    obtain ⟨e1, e2⟩ := e
    subst e2
    cases e1
    rw [kv_ik h2, List.map_cons]
    cases h1
    rfl
def insP (x : Int × Int) : List (Int × Int) → List (Int × Int)
  | [] => [x]
  | y :: r => if SrtO.lexB y x = true then y :: insP x r else x :: y :: r
def isortP : List (Int × Int) → List (Int × Int)
  | [] => []
  | x :: r => insP x (isortP r)
theorem insP_perm (x : Int × Int) : ∀ l : List (Int × Int), (insP x l).Perm (x :: l)
  | [] => .refl _
  | y :: r => by
    unfold insP
    split
    · exact ((insP_perm x r).cons y).trans (.swap x y r)
    · exact .refl _
theorem isortP_perm : ∀ l : List (Int × Int), (isortP l).Perm l
  | [] => .refl _
  | x :: r => (insP_perm x _).trans ((isortP_perm r).cons x)
abbrev LeP (e f : Int × Int) : Prop := SrtO.lexB f e = false
theorem lep_iff {e f : Int × Int} : LeP e f ↔ e.1 < f.1 ∨ (e.1 = f.1 ∧ e.2 ≤ f.2) := by
  show SrtO.lexB f e = false ↔ _
  rw [SrtO.lexB_no]
  omega
theorem insP_sorted (x : Int × Int) : ∀ {l : List (Int × Int)}, l.Pairwise LeP → (insP x l).Pairwise LeP
  | [], _ => List.pairwise_singleton _ _
  | y :: r, h => by
    unfold insP
    split
    · rename_i hxy
      refine List.pairwise_cons.mpr ⟨fun z hz => ?_, insP_sorted x (List.pairwise_cons.mp h).2⟩
      rcases List.mem_cons.mp ((insP_perm x r).mem_iff.mp hz) with rfl | hz
      · have := SrtO.lexB_iff.mp hxy
        exact lep_iff.mpr (by omega)
      · exact (List.pairwise_cons.mp h).1 z hz
    · rename_i hxy
      have hxy' : LeP x y := by simpa using hxy
      refine List.pairwise_cons.mpr ⟨fun z hz => ?_, h⟩
      rcases List.mem_cons.mp hz with rfl | hz
      · exact hxy'
      · have h1 := lep_iff.mp hxy'
        have h2 := lep_iff.mp ((List.pairwise_cons.mp h).1 z hz)
        exact lep_iff.mpr (by omega)
theorem isortP_sorted : ∀ l : List (Int × Int), (isortP l).Pairwise LeP
  | [] => .nil
  | x :: r => insP_sorted x (isortP_sorted r)
theorem sortedP_uniq : ∀ {a b : List (Int × Int)}, a.Perm b → a.Pairwise LeP → b.Pairwise LeP → a = b
  | [], b, p, _, _ => (List.nil_perm.mp p).symm
  | x :: a, [], p, _, _ => absurd p.length_eq (by simp)
  | x :: a, y :: b, p, ha, hb => by
    have e : x = y := by
      have h1 : x ∈ y :: b := p.mem_iff.mp List.mem_cons_self
      have h2 : y ∈ x :: a := p.mem_iff.mpr List.mem_cons_self
      rcases List.mem_cons.mp h1 with h1 | h1
      · exact h1
      · rcases List.mem_cons.mp h2 with h2 | h2
        · exact h2.symm
        · have g1 := lep_iff.mp ((List.pairwise_cons.mp hb).1 x h1)
          have g2 := lep_iff.mp ((List.pairwise_cons.mp ha).1 y h2)
          exact Prod.ext (by omega) (by omega)
    subst e
    rw [sortedP_uniq (List.Perm.cons_inv p) (List.pairwise_cons.mp ha).2 (List.pairwise_cons.mp hb).2]
def pD (q : Int × Int) : D := .tuple [.int q.1, .int q.2]
/-- sorted(x.items()), x the cell in slot i -/
def mSortItems (i : Nat) : ME := fun sl cs => match sl[i]? with
  | some (some (.cell k)) => match cs[k]? with
    | some (some (false, .dK kvs)) => match iksOf kvs with
      | some ns => if ns.length ≤ 1000000 then some (.new (.lst ((isortP ns).map pD)), cs) else none
      | none => none
    | _ => none
  | _ => none
theorem pd_all {F : Addr → Prop} {H : Hp} : ∀ (ps : List (Addr × (Int × Int))), (∀ z ∈ ps, ¬ F z.1 ∧ H z.1 = some (.tup [.int z.2.1, .int z.2.2])) → DqA F H (ps.map fun z => V.ref z.1) (ps.map fun z => pD z.2)
  | [], _ => .nil
  | z :: r, h => .cons (.tup (h z List.mem_cons_self).1 (h z List.mem_cons_self).2 (by show 2 ≤ sizeLine; decide) (.cons (.int _) (.cons (.int _) .nil))) (pd_all r fun y hy => h y (List.mem_cons_of_mem _ hy))
theorem ref_sortItems {i : Nat} : Ref K (tCB rSortK (tCons (tBM0 K "dict" rItemsK (tVar i)) tNil)) (mSortItems i) := fun w sl cs z cs' e σ H k s Q q => by
  unfold mSortItems at e
  split at e
  · rename_i j hj
    split at e
    · rename_i kvs hc
      split at e
      · rename_i ns hn
        split at e
        case isFalse => cases e
        rename_i hzz
        cases e
        obtain ⟨g1, g2, g3, kv, g4, g5⟩ := k.cl j false _ hc
        obtain ⟨v, hv, ha⟩ := s.at_ i _ hj
        have ev : v = .ref (w.ad j) := ha
        subst ev
        have ok : KvOk w.F H kv kvs := g5
        have en := iksOf_eq hn
        subst en
        have ek := kv_ik ok
        subst ek
        refine ⟨_, hv, .inr (.inr (.inl ⟨rfl, .inl ⟨_, g4⟩⟩)), w.ad j, ns.map ik, rfl, rfl, g4, fun p hp => ?_⟩
        have ne : w.ad j ≠ p := ne_of_none g4 hp
        refine ⟨p, w.ad j, ns, rfl, upd_same, by rw [upd_ne ne]; exact g4, fun H' l ps hk hl hperm hsrt hL hps => ?_⟩
        have ex : Ex H H' := (Ex.new hp).trans hk
        have hlH : H l = none := by
          cases h : H l with
          | none => rfl
          | some o => rw [Ex.new hp l o h] at hl; cases hl
        have e1 : ps.map (·.2) = isortP ns := sortedP_uniq (hperm.trans (isortP_perm ns).symm) hsrt (isortP_sorted ns)
        have e2 : (isortP ns).map pD = ps.map fun z => pD z.2 := by rw [← e1, List.map_map]; rfl
        have hz : ps.length ≤ sizeLine := by
          have h1 := hperm.length_eq
          rw [List.length_map] at h1
          rw [h1]
          exact Nat.le_of_lt (mil hzz)
        refine nok_end (Ev.refl H) k q ex ?_
        refine ⟨l, rfl, hlH, ps.map fun z => V.ref z.1, hL, by rw [List.length_map]; exact hz, ?_⟩
        rw [e2]
        refine pd_all ps fun y hy => ?_
        obtain ⟨n1, n2, n3⟩ := hps y hy
        refine ⟨fun f => ?_, n3⟩
        rcases f with f | f
        · refine k.fx _ f ?_
          cases h : H y.1 with
          | none => rfl
          | some o => rw [Ex.new hp _ o h] at n1; cases n1
        · exact n2 f
      · cases e
    · cases e
  · cases e

/-! ### sorted of a list of ints, of a dict's keys (ints) -/
def intKeys : List (Key × D) → Option (List Int)
  | [] => some []
  | (.inl i, _) :: r => match intKeys r with
    | some l => some (i :: l)
    | none => none
  | _ => none
theorem intKeys_eq {F : Addr → Prop} {H : Hp} : ∀ {kv : List (Key × V)} {kvs : List (Key × D)} {ns : List Int}, KvOk F H kv kvs → intKeys kvs = some ns → kv.map (·.1) = ns.map Sum.inl
  | [], kvs, ns, h, e => by obtain rfl := h.nil; cases e; rfl
  | (k, v) :: r, kvs, ns, h, e => by
    obtain ⟨d, s, rfl, h1, h2⟩ := h.cons
    cases k with
    | inl i =>
      unfold intKeys at e
      split at e
      · rename_i l hl
        cases e
        rw [List.map_cons, List.map_cons, intKeys_eq h2 hl]
      · cases e
    | inr x => cases e
def rSortD : List V → Hp → VK → Prop := fun xs H Q => ∃ (a : Addr) (kvs : List (Key × V)) (ks : List Int), xs = [.ref a] ∧ Rd H a (.dK kvs) ∧ kvs.map (·.1) = ks.map Sum.inl ∧ ks.length < 64 ∧
    ∀ (ys : List Int) (p : Addr), ys.Perm ks → ys.Pairwise (· ≤ ·) → H p = none → Q (.ref p) (upd H p (.lst (ys.map V.int)))
def rSortU (K : PySem.W.Frag) : List V → Hp → VK → Prop := fun xs H Q => rSortedI K xs H Q ∨ rSortD xs H Q
theorem cr_sortU {X : Cx} (hc : X.calm = true) : CallR X (.builtin "sorted") (rSortU X.K) := fun pins s σ H xs us Q I r h => h.elim (cr_sortedI pins s σ H xs us Q I r) (call_sortedDI hc pins s σ H xs us Q I r)
def mSort (ma : ME) : ME := fun sl cs => match ma sl cs with
  | some (a, c1) => match viewK c1 a with
    | some kvs => match intKeys kvs with
      | some ns => if ns.length < 64 then some (.new (.lst ((isort ns).map .int)), c1) else none
      | none => none
    | none => match toD c1 a with
      | some d => match fSortI d with
        | some z => some (z, c1)
        | none => none
      | none => none
  | none => none
theorem ref_sort (ha : Ref K ta ma) : Ref K (tCB (rSortU K) (tCons ta tNil)) (mSort ma) := fun w sl cs z cs' e σ H k s Q q => by
  unfold mSort at e
  split at e
  · rename_i a c1 h1
    split at e
    · rename_i kvs hv
      split at e
      · rename_i ns hn
        split at e
        · rename_i hl
          cases e
          refine ha w sl cs _ _ h1 σ H k s _ fun x H1 e1 k1 r1 _ => ?_
          obtain ⟨p, kv, rfl, hr, ok⟩ := r1.viewK k1 hv
          refine .inr ⟨p, kv, ns, rfl, hr, intKeys_eq ok hn, hl, fun ys l hperm hs hl' => ?_⟩
          have e : ys = isort ns := sorted_uniq (hperm.trans (isort_perm ns).symm) hs (isort_sorted ns)
          subst e
          refine nok_end e1 k1 q (Ex.new hl') (nok_lst hl' ?_ (DqA.mkInts _))
          rw [List.length_map, (isort_perm ns).length_eq]
          exact Nat.le_of_lt (Nat.lt_trans hl (by decide))
        · cases e
      · cases e
    · split at e
      · rename_i d hd
        split at e
        · rename_i z' hz
          cases e
          refine ha w sl cs _ _ h1 σ H k s _ fun x H1 e1 k1 r1 _ => .inl ?_
          exact cal_sortI (K := K) w.F H1 [x] [d] z k1.fx (.cons (r1.dv k1 hd) .nil) hz Q fun v H3 e3 n => nok_end e1 k1 q e3 n
        · cases e
      · cases e
  · cases e
/-- a loop or a comprehension's row behind an own def's call -/
theorem same_ref {t : TE} {m m' : ME} (h : Ref K t m) (e : m = m') : Ref K t m' := e ▸ h
end
end Rf

namespace Rf
open PySem L2

/-! ### what a program's defs lean on -/
structure Bl (mg : Str → Option Value) : Prop where
  abs : mg "abs" = none
  all : mg "all" = none
  any : mg "any" = none
  dict : mg "dict" = none
  enumerate : mg "enumerate" = none
  int : mg "int" = none
  isinstance : mg "isinstance" = none
  bool : mg "bool" = none
  len : mg "len" = none
  list : mg "list" = none
  max : mg "max" = none
  min : mg "min" = none
  range : mg "range" = none
  repr : mg "repr" = none
  reversed : mg "reversed" = none
  set : mg "set" = none
  sorted : mg "sorted" = none
  str : mg "str" = none
  sum : mg "sum" = none
  tuple : mg "tuple" = none
  zip : mg "zip" = none
def Cal (P : Program) (w : World) (K : PySem.W.Frag) (mg : Str → Option Value) (base : Heap) (k : Nat) (x : Str) (ps : List Str) (n : Nat) (f : MF) : Prop :=
  ∃ (a : Addr) (fd : FuncData), FnOk P w K mg base CX0 k a fd ps (spM K n f) ∧ mg x = some (.ref a) ∧ PySem.W.keepIn K (.ref a) = true ∧ Binds K fd ps []
def GInt (mg : Str → Option Value) (x : Str) (i : Int) : Prop := ∃ t, mg x = some (.int i t)
section
variable {X : Cx}
theorem pe_callM {k n : Nat} {x : Str} {ps : List Str} {f : MF} {e : Expr} {es : List Expr} {t : TA} {p pos : Pos} (C : Cal X.prog X.w X.K X.mg X.base k x ps n f) (hr : Room k X.A) (hg : Gl X x) (ha : PA X (e :: es) t) (hdb : (x == ("__debug__" : Str)) = false := by decide)
    (he : starEach (e :: es) X.env = (false, eval e X.env) :: starEach es X.env := by rfl) (hpl : (backTo pos (starEach es X.env)).any (·.1) = false := by rfl) : PE X (.Call (.Name x p) (e :: es) [] pos) (tCall (spM X.K n f) [] E0 t) := by
  obtain ⟨a, fd, F, hm, hk, hb⟩ := C
  exact pe_call F hr hg hm hk hb .nil pass0 ha hdb he hpl
theorem pe_gint {x : Str} {i : Int} {pos : Pos} (hg : Gl X x) (G : GInt X.mg x i) (hd : (x == ("__debug__" : Str)) = false := by decide) : PE X (.Name x pos) (tC (.int i)) := by
  obtain ⟨t, h⟩ := G
  exact pe_glob hg h ⟨t, rfl⟩ hd
theorem pt_in {o i : Expr} {td ty : TE} {pos : Pos} (hu : X.A.units + 65 < cLine) (hi : PE X i ty) (ho : PE X o td) (hm : behindInMarks .In o = false) : PT X (.Compare i [.In] [o] pos) (tB (tIn X.K ty td)) :=
  ⟨fun pins s σ H Q I h => Or.elim h ((pt_cmp (pc_din (by omega) hi ho) hm).run pins s σ H Q I) fun h => Or.elim h ((pt_cmpR (op_inD hu) hi ho hm).run pins s σ H Q I) ((pt_cmpR op_in_seq hi ho hm).run pins s σ H Q I)⟩
theorem pt_notin {o i : Expr} {td ty : TE} {pos : Pos} (hu : X.A.units + 65 < cLine) (hi : PE X i ty) (ho : PE X o td) (hm : behindInMarks .NotIn o = false) : PT X (.Compare i [.NotIn] [o] pos) (tB (tNotIn X.K ty td)) :=
  ⟨fun pins s σ H Q I h => Or.elim h ((pt_cmp (pc_dnotin (by omega) hi ho) hm).run pins s σ H Q I) fun h => Or.elim h ((pt_cmpR (op_notInD hu) hi ho hm).run pins s σ H Q I) ((pt_cmpR op_notIn_seq hi ho hm).run pins s σ H Q I)⟩
theorem u65 {k : Nat} {A : Around} (r : Room k A) : A.units + 65 < cLine := by have := r.un; omega
/-- isinstance(x, T) -/
theorem pe_isi {x : Expr} {T : String} {Ts : Str} {ta : TE} {p q pos : Pos} (hx : PE X x ta) (hg : Gl X "isinstance") (hm : X.mg "isinstance" = none) (hgT : Gl X Ts) (hmT : X.mg Ts = none) (hvT : bootBuiltins Ts = some (.type T)) (hn : Ts ≠ "__name__" := by decide) (hd : (Ts == ("__debug__" : Str)) = false := by decide)
    (h1 : starEach [x, .Name Ts q] X.env = (false, eval x X.env) :: starEach [.Name Ts q] X.env := by rfl) (h2 : starEach [.Name Ts q] X.env = (false, eval (.Name Ts q) X.env) :: starEach [] X.env := by rfl) (h3 : (backTo pos (starEach [.Name Ts q] X.env)).any (·.1) = false := by rfl) :
    PE X (.Call (.Name "isinstance" p) [x, .Name Ts q] [] pos) (tCB (rIsi X.K) (tCons ta (tCons (tC (.ty T)) tNil))) :=
  pe_callB call_isi hg hm (by decide +kernel) (pa_cons hx (pa_cons (pe_bltn hgT hmT hvT (v := .ty T) rfl hn hd) pa_nil h2) h1) (he := h1) (hpl := h3)
theorem pe_sortItems {xe : Expr} {te : TE} {p apos cpos pos : Pos} (hc : X.calm = true) (hx : PE X xe te) (hg : Gl X "sorted") (hm : X.mg "sorted" = none) (hbase : attributeBase xe "items" X.env (eval xe X.env) = eval xe X.env := by rfl) (hline : (apos.endLine == cpos.line) = true := by rfl)
    (h1 : starEach [.Call (.Attribute xe "items" apos) [] [] cpos] X.env = (false, eval (.Call (.Attribute xe "items" apos) [] [] cpos) X.env) :: starEach [] X.env := by rfl) (h3 : (backTo pos (starEach [] X.env)).any (·.1) = false := by rfl) :
    PE X (.Call (.Name "sorted" p) [.Call (.Attribute xe "items" apos) [] [] cpos] [] pos) (tCB rSortK (tCons (tBM0 X.K "dict" rItemsK te) tNil)) :=
  pe_callB (cr_sortedK hc) hg hm (by decide +kernel) (pa_cons (pe_bm0 PySem.F.plainAttrs_dict PySem.F.slot_dict_items PySem.F.type_dict_items mt_itemsK hx hbase hline) pa_nil h1) (he := h1) (hpl := h3)
theorem pe_append {xe e : Expr} {tx te : TE} {apos cpos : Pos} (hx : PE X xe tx) (he : PE X e te) (hbase : attributeBase xe "append" X.env (eval xe X.env) = eval xe X.env := by rfl)
    (hst : starEach [e] X.env = (false, eval e X.env) :: starEach [] X.env := by rfl) : True := trivial
end
section
variable {K : PySem.W.Frag} {np : Nat}
/-- two new things at once: i, j = e, f -/
def sParN (np i k j l : Nat) (ma mb : ME) : MS := fun sl cs => match ma sl cs with
  | some (.new c, c1) => if (decide (np ≤ k) && noCell k sl) = true then (match mb sl (c1.set k (some (false, c))) with
    | some (.new d, c2) => match sPutC np j l d (sl.set i (some (.cell k))) c2 with
      | some (sl1, c3) => some (.nx sl1 c3)
      | none => none
    | _ => none) else none
  | _ => none
theorem refs_parN {i k j l : Nat} {ta tb : TE} {ma mb : ME} (ha : Ref K ta ma) (hb : Ref K tb mb) : RefS K np (tPar i j (tCons ta (tCons tb tNil))) (sParN np i k j l ma mb) := fun w sl cs o e σ H kk s Dn c => by
  unfold sParN at e
  split at e
  · rename_i c0 c1 e1
    split at e
    · rename_i hk
      split at e
      · rename_i d c2 e2
        split at e
        · rename_i sl1 c3 e3
          cases e
          unfold sPutC at e3
          split at e3
          · rename_i hl
            cases e3
            rw [Bool.and_eq_true] at hk hl
            have hk1 : np ≤ k := of_decide_eq_true hk.1
            have hl1 : np ≤ l := of_decide_eq_true hl.1
            refine ha w sl cs _ _ e1 σ H kk s _ fun v H1 ev1 k1 r1 b1 => ?_
            obtain ⟨p, rfl, hp, hc⟩ := r1
            have hpF : ¬ w.F p := fun z => kk.fx p z hp
            have s2 : SlOk K (w.put k p) H1 σ sl := (fresh_trb kk s ev1 hp).put (noCell_ok hk.2)
            have ea : (w.put k p).ad k = p := if_pos rfl
            have kp : WOk (w.put k p) H1 (c1.set k (some (false, c0))) := (b1 p rfl).put (fun z => hpF (kk.cf p z)) hc
            have st1 : Step np w H (w.put k p) H1 := Step.put ev1 k1 hp hc.has hk1
            refine hb (w.put k p) sl _ _ _ e2 σ H1 kp s2 _ fun v2 H2 ev2 k2 r2 b2 => ?_
            obtain ⟨p2, rfl, hp2, hc2⟩ := r2
            have hpF2 : ¬ (w.put k p).F p2 := fun z => kp.fx p2 z hp2
            have s3 : SlOk K (w.put k p) H1 (σ.set i (some (.ref p))) (sl.set i (some (.cell k))) := s2.set i (a := .cell k) (by show V.ref p = .ref ((w.put k p).ad k); rw [ea])
            have s4 : SlOk K ((w.put k p).put l p2) H2 (σ.set i (some (.ref p))) ((sl.set i (some (.cell k))).set j none) := ((fresh_trb kp s3 ev2 hp2).forget j).put (noCell_ok hl.2)
            have ea2 : ((w.put k p).put l p2).ad l = p2 := if_pos rfl
            refine ⟨_, _, rfl, ?_⟩
            exact c ((w.put k p).put l p2) _ H2 (st1.trans (Step.put ev2 k2 hp2 hc2.has hl1)) ((b2 p2 rfl).put (fun z => hpF2 (kp.cf p2 z)) hc2) (s4.set j (a := .cell l) (by show V.ref p2 = .ref (((w.put k p).put l p2).ad l); rw [ea2]))
          · cases e3
        · cases e
      · cases e
    · cases e
  · cases e
/-- three names at once -/
def sPar3 (i j l : Nat) (ma : MA) : MS := fun sl cs => match ma sl cs with
  | some ([a, b, c], c1) => match asD a, asD b, asD c with
    | some d, some e, some f => some (.nx (((sl.set i (some (.dat d))).set j (some (.dat e))).set l (some (.dat f))) c1)
    | _, _, _ => none
  | _ => none
theorem refs_par3 {i j l : Nat} {ta : TA} {ma : MA} (ha : RefA K ta ma) : RefS K np (tPar3 i j l ta) (sPar3 i j l ma) := fun w sl cs o e σ H k s Dn c => by
  unfold sPar3 at e
  split at e
  · rename_i a b a3 c1 h1
    split at e
    · rename_i d e' f hd he hf
      cases e
      refine ha w sl cs _ _ h1 σ H k s _ fun vs H1 e1 k1 r1 => ?_
      cases r1 with
      | cons x r =>
        cases r with
        | cons y r =>
          cases r with
          | cons z r =>
            cases r
            refine ⟨_, _, _, rfl, ?_⟩
            exact c w _ H1 (Step.of e1 k1) k1 ((((s.mono k.mf e1).set i (a := .dat d) (x.dq k1 (fun p hp => k.nf hp) hd)).set j (a := .dat e') (y.dq k1 (fun p hp => k.nf hp) he)).set l (a := .dat f) (z.dq k1 (fun p hp => k.nf hp) hf))
    · cases e
  · cases e
end
theorem fn_okF {P : Program} {w : World} {K : PySem.W.Frag} {mg : Str → Option Value} {base : Heap} {x qual : Str} {params : Arguments} {body : List Stmt} {scope : Scope} {f : Addr} {fd : FuncData} {N ps : List Str} {k n np nc : Nat} {m : MS} {g : MF} (F : FunD K x qual params body scope [] [] f fd) (S : FnScope N ps scope) (hn : n = ps.length) (hg : g = runF N.length np nc m)
    (h : ∀ (cdv : Value) (A : Around) (outer : List Env) (s : Shared) (H : Hp) (E : XK), Room k (A.deeper (PyProof.Rows.envOfC qual scope s.heap.objs.size f cdv)) → ∃ t, PSs (cxOf CX0 P w K mg base N qual scope f cdv A outer s H E).nox body t ∧ RefS K np t m) :
    FnOk P w K mg base CX0 (k + 1) f fd ps (spM K n g) := hg ▸ fn_okM F S hn h
/-! ### builtins at the start -/
theorem bb_abs : bootBuiltins "abs" = some (.builtin "abs") := by decide +kernel
theorem bb_all : bootBuiltins "all" = some (.builtin "all") := by decide +kernel
theorem bb_any : bootBuiltins "any" = some (.builtin "any") := by decide +kernel
theorem bb_isinstance : bootBuiltins "isinstance" = some (.builtin "isinstance") := by decide +kernel
theorem bb_len : bootBuiltins "len" = some (.builtin "len") := by decide +kernel
theorem bb_max : bootBuiltins "max" = some (.builtin "max") := by decide +kernel
theorem bb_min : bootBuiltins "min" = some (.builtin "min") := by decide +kernel
theorem bb_repr : bootBuiltins "repr" = some (.builtin "repr") := by decide +kernel
theorem bb_sorted : bootBuiltins "sorted" = some (.builtin "sorted") := by decide +kernel
theorem bb_sum : bootBuiltins "sum" = some (.builtin "sum") := by decide +kernel
theorem bb_dict : bootBuiltins "dict" = some (.type "dict") := by decide +kernel
theorem bb_int : bootBuiltins "int" = some (.type "int") := by decide +kernel
theorem bb_bool : bootBuiltins "bool" = some (.type "bool") := by decide +kernel
theorem bb_list : bootBuiltins "list" = some (.type "list") := by decide +kernel
theorem bb_set : bootBuiltins "set" = some (.type "set") := by decide +kernel
theorem bb_str : bootBuiltins "str" = some (.type "str") := by decide +kernel
theorem bb_tuple : bootBuiltins "tuple" = some (.type "tuple") := by decide +kernel
/-! ### name = {..: .. for ..} on one line -/
section
variable {X : Cx}
theorem ps_setDc {i : Nat} {y : Str} {py : Pos} {kx vx tg iter : Expr} {ifs : List Expr} {scope : Scope} {own : List (Str × Nat)} {pos spos : Pos} {wi : TI} {g : TG} {tt : TT} {tk tv : TE} (hc : X.calm = true) (hN : X.N.Nodup) (hy : X.N[i]? = some y) (hyl : X.env.scope.names.lookup y = some .local)
    (hsw : swapsWith (.DictComp kx vx [⟨tg, iter, ifs, 0⟩] scope pos) (some (.Name y py)) spos.line X.env = pure true) (hi : PI X tg iter wi) (ok : BlkOk X.N X.env.scope scope own)
    (hg : ∀ (s : Shared) (H : Hp) (C : Addr) (cl : List (Str × Addr)) (fp : List Addr), PG (X.blk s H scope (compEnvC scope cl C X.env) fp) tg g) (ht : ∀ (s : Shared) (H : Hp) (C : Addr) (cl : List (Str × Addr)) (fp : List Addr), PTs (X.blk s H scope (compEnvC scope cl C X.env) fp) ifs tt)
    (hk : ∀ (s : Shared) (H : Hp) (C : Addr) (cl : List (Str × Addr)) (fp : List Addr), PE (X.blk s H scope (compEnvC scope cl C X.env) fp) kx tk)
    (he : ∀ (s : Shared) (H : Hp) (C : Addr) (cl : List (Str × Addr)) (fp : List Addr), PE (X.blk s H scope (compEnvC scope cl C X.env) fp) vx tv) (hs : ∀ x, foldedSetIterable iter X.env x = pure x := by intro _; rfl) :
    PS X (.Assign [.Name y py] (.DictComp kx vx [⟨tg, iter, ifs, 0⟩] scope pos) spos) (tAsg (tDc wi g tt tk tv (own.map (·.2))) (gName i)) := by
  refine ⟨fun pins s σ H D I h => ?_⟩
  rw [exec_Assign_Name_used _ _ _ _ hsw]
  refine wpAny_bind (wpAny_standAt (wpAny_bind ?_))
  show wpAny _ X.A (do let _ ← comprehension (.DictComp kx vx [⟨tg, iter, ifs, 0⟩] scope pos) scope X.env (firstIterPos [⟨tg, iter, ifs, 0⟩] pos) newDict false (eval iter X.env) (some (assign (.Name y py) X.env))) _ _ s
  have h : tDc wi g tt tk tv (own.map (·.2)) σ H (fun x H1 => gName i x σ H1 D.nx) := h
  refine wpAny_bind (thn (dc_core (Qf := fun _ s' => SP X pins D .next s') hc hN I hi ok hg ht hk he hs h fun L C s' m H' I' q hn f => ?_) fun _ s' hq => wpAny_pure (wpAny_pure hq))
  show wpAny _ _ (assign (.Name y py) X.env (.ref L)) _ _ _
  refine wpAny_assign_Name (store_ok2 (v := V.ref L) I' hN hy (.inl hyl) rfl (fun s2 I2 ⟨a, sb, ha⟩ => ?_) (.inr hyl))
  obtain ⟨f0, f1, f2, f3, f4, f5⟩ := f
  have haC : C ≠ a := by
    rcases ha with z | z
    · rw [z]; exact f1
    · exact fun e => f4 y a z e.symm
  refine ⟨m, hn.sameBut sb haC, fun h3 sb3 => ?_⟩
  exact ⟨_, H', I2.turned (t' := s2.toks) (fun b o hb e => (sb3.2 b hb).trans e) f0 f1 f3 f4 f5, q⟩
theorem sw_trueD {kx vx : Expr} {gs : List Comprehension} {scope : Scope} {pos py : Pos} {y : Str} {l : Nat} {env : Env} (hk : env.scope.kind = .function) (hy : env.scope.names.lookup y = some .local) (hl : (py.line == pos.line) = true)
    (ha : (scope.names.any fun (n, k) => n == y && (k == .local || k == .cell)) = false) : swapsWith (.DictComp kx vx gs scope pos) (some (.Name y py)) l env = pure true := by
  have ky : env.kindOf y = some .local := hy
  have hb : env.blockKind = .function := by unfold Env.blockKind; rw [hk]; rfl
  unfold swapsWith
  simp only [hb, ky, ha, Expr.pos, hl]
  rfl
theorem ps_lockA {st : Stmt} {te : TE} {i : Nat} (h : PS X st (tAsg te (gName i))) : PS X st (tAsg (tLockE te) (gName i)) := ⟨fun pins s σ H D I hw => (ps_lock h).run pins s σ H D I hw⟩
end
theorem mkT {K : PySem.W.Frag} {np : Nat} {X : Cx} {body : List Stmt} {t : TS} {m : MS} (r : RefS K np t m) (p : PSs X body t) : ∃ t, PSs X body t ∧ RefS K np t m := ⟨t, p, r⟩
end Rf

namespace Rf
open PySem L2
def topS (i : Nat) : Stmt := PySem.Challenge.pw_evertold_k34_whole_counts_told_exactly.main.body.getD i (.Pass ⟨0,0,0,0⟩)
section
variable {P : Program} {w : World} {K : PySem.W.Frag} {mg : Str → Option Value} {base : Heap}
/-! ### is_integer -/
abbrev s_is_integer : Stmt := topS 5
theorem sc_is_integer : FnScope ["thing"] ["thing"] (defScope s_is_integer) := ⟨rfl, rfl, rfl, by decide +kernel, rfl, by decide +kernel, by decide +kernel⟩
def B_is_integer : MS := sRet (mAndV (mIsi "int" (mVar 0)) (mNotV (mIsi "bool" (mVar 0))))
def M_is_integer : MF := runF 1 0 0 B_is_integer
theorem ok_is_integer (Bb : Bl mg) {f : Addr} {fd : FuncData} (F : FunD K "is_integer" "is_integer" (defArgs s_is_integer) (defBody s_is_integer) (defScope s_is_integer) [] [] f fd) : FnOk P w K mg base CX0 1 f fd ["thing"] (spM K 1 M_is_integer) :=
  fn_okF (np := 0) (nc := 0) (m := B_is_integer) F sc_is_integer rfl rfl fun cdv A outer s H E hr => mkT
   (by exact refs_ret (ref_andV (ref_isi (T := "int") (ref_var (i := 0))) (ref_notV (ref_isi (T := "bool") (ref_var (i := 0))))))
   (by
    conv in (defScope s_is_integer) => whnf
    conv in (defBody s_is_integer) => whnf
    exact pss_one (ps_ret (pe_and (pe_isi (T := "int") (pv 0) rfl Bb.isinstance rfl Bb.int bb_int) (pe_one (pe_not (pe_isi (T := "bool") (pv 0) rfl Bb.isinstance rfl Bb.bool bb_bool))))))

/-! ### _law_cell -/
abbrev s__law_cell : Stmt := topS 21
theorem sc__law_cell : FnScope ["script", "k"] ["script", "k"] (defScope s__law_cell) := ⟨rfl, rfl, rfl, by decide +kernel, rfl, by decide +kernel, by decide +kernel⟩
def B__law_cell : MS := sRet (mIf (mTest (mOp (fB fun i j => decide (i < j)) (mVar 1) (mScrLen 0))) (mCB (f1 fInt) (aCons (mScrIx 0 (mVar 1)) (aNil))) (mC (.int 0)))
def M__law_cell : MF := runF 2 0 0 B__law_cell
theorem ok__law_cell (Bb : Bl mg) {f : Addr} {fd : FuncData} (F : FunD K "_law_cell" "_law_cell" (defArgs s__law_cell) (defBody s__law_cell) (defScope s__law_cell) [] [] f fd) : FnOk P w K mg base CX0 1 f fd ["script", "k"] (spM K 2 M__law_cell) :=
  fn_okF (np := 0) (nc := 0) (m := B__law_cell) F sc__law_cell rfl rfl fun cdv A outer s H E hr => mkT
   (by exact refs_ret (ref_if (reft_test (ref_op ops_B (ref_var (i := 1)) (ref_scrLen (i := 0)))) (ref_cb cal_int (refa_cons (ref_scrIx (i := 0) (ref_var (i := 1))) (refa_nil))) (ref_int)))
   (by
    conv in (defScope s__law_cell) => whnf
    conv in (defBody s__law_cell) => whnf
    exact pss_one (ps_ret (pe_ifExp (pt_cmpR (op_lt) (pv 1) (pe_callB (call_lenU) (by rfl) Bb.len bb_len (pa_cons (pv 0) (pa_nil))) (nomark _)) (pe_callTy (call_int1) (by rfl) Bb.int bb_int (pa_cons (pe_sub (hu_of hr) (pv 0) (pv 1) (fun _ _ => rfl)) (pa_nil))) (pe_int))))

/-! ### _law_draw -/
abbrev s__law_draw : Stmt := topS 23
theorem sc__law_draw : FnScope ["box", "many", "told"] ["box", "many"] (defScope s__law_draw) := ⟨rfl, rfl, rfl, by decide +kernel, rfl, by decide +kernel, by decide +kernel⟩
def B__law_draw : MS := sSeq (sIf (mTest (mOp (fB fun i j => decide (j < i)) (mSub (mVar 0) (mC (.int 0))) (mC (.int 0)))) (sSeq (sAsg 2 (mOp (fIc cPos fun i j => i % j) (mSub (mVar 0) (mC (.int 0))) (mVar 1)))
    (sSeq (sSetL (mVar 0) (mC (.int 0)) (mOp (fIc cDivW fun i j => i / j) (mSub (mVar 0) (mC (.int 0))) (mVar 1)))
    (sRet (mCB (f1 fInt) (aCons (mVar 2) (aNil)))))) (sNext))
    (sSeq (sSetL (mVar 0) (mC (.int 1)) (mOp (fIc cPos fun i j => i % j) (mCB (f1 fInt) (aCons (mOpN fAdd (mOp (fIc cMul fun i j => i * j) (mSub (mVar 0) (mC (.int 1))) (mC (.int 48271))) (mC (.int 12345))) (aNil))) (mC (.int 2147483647))))
    (sRet (mOp (fIc cPos fun i j => i % j) (mCB (f1 fInt) (aCons (mOp (fIc cDivW fun i j => i / j) (mSub (mVar 0) (mC (.int 1))) (mC (.int 64))) (aNil))) (mVar 1))))
def M__law_draw : MF := runF 3 1 0 B__law_draw
theorem ok__law_draw (Bb : Bl mg) {f : Addr} {fd : FuncData} (F : FunD K "_law_draw" "_law_draw" (defArgs s__law_draw) (defBody s__law_draw) (defScope s__law_draw) [] [] f fd) : FnOk P w K mg base CX0 1 f fd ["box", "many"] (spM K 2 M__law_draw) :=
  fn_okF (np := 1) (nc := 0) (m := B__law_draw) F sc__law_draw rfl rfl fun cdv A outer s H E hr => mkT
   (by exact refs_seq (refs_if (reft_test (ref_op ops_B (ref_sub (ref_var (i := 0)) (ref_int)) (ref_int))) (refs_seq (refs_asg (ref_op ops_mod (ref_sub (ref_var (i := 0)) (ref_int)) (ref_var (i := 1))))
        (refs_seq (refs_setL (ref_var (i := 0)) (ref_int) (ref_op ops_div (ref_sub (ref_var (i := 0)) (ref_int)) (ref_var (i := 1))))
        (refs_ret (ref_cb cal_int (refa_cons (ref_var (i := 2)) (refa_nil)))))) (refs_next))
        (refs_seq (refs_setL (ref_var (i := 0)) (ref_int) (ref_op ops_mod (ref_cb cal_int (refa_cons (ref_opN (ops_addU (K := K)) (ref_op ops_mul (ref_sub (ref_var (i := 0)) (ref_int)) (ref_int)) (ref_int)) (refa_nil))) (ref_int)))
        (refs_ret (ref_op ops_mod (ref_cb cal_int (refa_cons (ref_op ops_div (ref_sub (ref_var (i := 0)) (ref_int)) (ref_int)) (refa_nil))) (ref_var (i := 1))))))
   (by
    conv in (defScope s__law_draw) => whnf
    conv in (defBody s__law_draw) => whnf
    exact pss_cons (ps_if (pt_cmpR (op_gt) (pe_sub (hu_of hr) (pv 0) (pe_int) (fun _ _ => rfl)) (pe_int) (nomark _)) (pss_cons (ps_set (i := 2) sc__law_draw.nd rfl (Or.inl rfl) (pe_op op_mod (pe_sub (hu_of hr) (pv 0) (pe_int) (fun _ _ => rfl)) (pv 1)))
        (pss_cons (ps_asg (pe_op op_fdivW (pe_sub (hu_of hr) (pv 0) (pe_int) (fun _ _ => rfl)) (pv 1)) (pg_sub (pv 0) (pe_int) set_list))
        (pss_one (ps_ret (pe_callTy (call_int1) (by rfl) Bb.int bb_int (pa_cons (pv 2) (pa_nil))))))) (pss_nil))
        (pss_cons (ps_asg (pe_op op_mod (pe_callTy (call_int1) (by rfl) Bb.int bb_int (pa_cons (pe_op op_addU (pe_op op_mul (pe_sub (hu_of hr) (pv 0) (pe_int) (fun _ _ => rfl)) (pe_int)) (pe_int)) (pa_nil))) (pe_int)) (pg_sub (pv 0) (pe_int) set_list))
        (pss_one (ps_ret (pe_op op_mod (pe_callTy (call_int1) (by rfl) Bb.int bb_int (pa_cons (pe_op op_fdivW (pe_sub (hu_of hr) (pv 0) (pe_int) (fun _ _ => rfl)) (pe_int)) (pa_nil))) (pv 1))))))

/-! ### _law_rows -/
abbrev s__law_rows : Stmt := topS 25
theorem sc__law_rows : FnScope ["n", "kinds", "rows", "again", "more", "row", "x"] ["n", "kinds"] (defScope s__law_rows) := ⟨rfl, rfl, rfl, by decide +kernel, rfl, by decide +kernel, by decide +kernel⟩
def L__law_rows_1 : ME := mLc (miR1 (aCons (mVar 1) (aNil))) (mgN 6) (mYes) (mOpN fAdd (mVar 5) (mTup (aCons (mVar 6) (aNil)))) [6]
def S__law_rows_2 : MS := sFor (miSeq (mVar 2)) (mgN 5) [5]
    (sAsg 4 (mOpN fAdd (mVar 4) (L__law_rows_1)))
def S__law_rows_3 : MS := sFor (miR1 (aCons (mVar 0) (aNil))) (mgN 3) [3, 4, 5]
    (sSeq (sAsg 4 (mLst (aNil)))
    (sSeq (S__law_rows_2)
    (sAsg 2 (mVar 4))))
def B__law_rows : MS := sSeq (sAsg 2 (mLst (aCons (mTup (aNil)) (aNil))))
    (sSeq (S__law_rows_3)
    (sRet (mVar 2)))
def M__law_rows : MF := runF 7 0 0 B__law_rows
theorem ok__law_rows (Bb : Bl mg) {f : Addr} {fd : FuncData} (F : FunD K "_law_rows" "_law_rows" (defArgs s__law_rows) (defBody s__law_rows) (defScope s__law_rows) [] [] f fd) : FnOk P w K mg base CX0 1 f fd ["n", "kinds"] (spM K 2 M__law_rows) :=
  fn_okF (np := 0) (nc := 0) (m := B__law_rows) F sc__law_rows rfl rfl fun cdv A outer s H E hr => mkT
   (by exact refs_seq (refs_asg (ref_lst (refa_cons (ref_tup (refa_nil)) (refa_nil))))
        (refs_seq (refs_for (kl := [3, 4, 5]) (refi_r1 (refa_cons (ref_var (i := 0)) (refa_nil))) (refg_name (i := 3))
        (refs_seq (refs_asg (ref_lst (refa_nil)))
        (refs_seq (refs_for (kl := [5]) (refi_seq (ref_var (i := 2))) (refg_name (i := 5))
        (refs_asg (ref_opN (ops_addU (K := K)) (ref_var (i := 4)) (ref_lc (refi_r1 (refa_cons (ref_var (i := 1)) (refa_nil))) (refg_name (i := 6)) (reft_yes) (ref_opN (ops_addU (K := K)) (ref_var (i := 5)) (ref_tup (refa_cons (ref_var (i := 6)) (refa_nil)))) (by decide)))))
        (refs_asg (ref_var (i := 4))))))
        (refs_ret (ref_var (i := 2)))))
   (by
    conv in (defScope s__law_rows) => whnf
    conv in (defBody s__law_rows) => whnf
    exact pss_cons (ps_set (i := 2) sc__law_rows.nd rfl (Or.inl rfl) (pe_lst (pa_cons (pe_tup (pa_nil)) (pa_nil))))
        (pss_cons (ps_for PassesOwn.never rfl (pi_range1 rfl Bb.range (pa_cons (pv 0) (pa_nil))) (pg_name (i := 3) sc__law_rows.nd rfl (Or.inl rfl))
        (pss_cons (ps_set (i := 4) sc__law_rows.nd rfl (Or.inl rfl) (pe_lst (pa_nil)))
        (pss_cons (ps_for PassesOwn.never rfl (pi_seq (pv 2)) (pg_name (i := 5) sc__law_rows.nd rfl (Or.inr rfl))
        (pss_one (ps_set (i := 4) sc__law_rows.nd rfl (Or.inl rfl) (pe_op op_addU (pv 4) (pe_lc (own := [("x", 6)]) rfl sc__law_rows.nd (pi_range1 rfl Bb.range (pa_cons (pv 1) (pa_nil))) (blkOk_by (by kernel_rfl)) (fun _ _ _ _ _ => pg_name (i := 6) sc__law_rows.nd rfl (Or.inl rfl)) (fun _ _ _ _ _ => pts_nil) (fun _ _ _ _ _ => pe_op op_addU (pv 5) (pe_tup (pa_cons (pv 6) (pa_nil)))))))))
        (pss_one (ps_set (i := 2) sc__law_rows.nd rfl (Or.inl rfl) (pv 4))))))
        (pss_one (ps_ret (pv 2)))))

/-! ### _law_numbers -/
abbrev s__law_numbers : Stmt := topS 26
theorem sc__law_numbers : FnScope ["row", "kinds", "x", "y"] ["row", "kinds"] (defScope s__law_numbers) := ⟨rfl, rfl, rfl, by decide +kernel, rfl, by decide +kernel, by decide +kernel⟩
def L__law_numbers_1 : ME := mLc (miSeq (mVar 0)) (mgN 2) (mTest (mOp (fEq false) (mVar 2) (mVar 3))) (mVar 2) [2]
def L__law_numbers_2 : ME := mLc (miR1 (aCons (mVar 1) (aNil))) (mgN 3) (mYes) (mLen (L__law_numbers_1)) [3]
def B__law_numbers : MS := sRet (mTuple (L__law_numbers_2))
def M__law_numbers : MF := runF 4 0 0 B__law_numbers
theorem ok__law_numbers (Bb : Bl mg) {f : Addr} {fd : FuncData} (F : FunD K "_law_numbers" "_law_numbers" (defArgs s__law_numbers) (defBody s__law_numbers) (defScope s__law_numbers) [] [] f fd) : FnOk P w K mg base CX0 1 f fd ["row", "kinds"] (spM K 2 M__law_numbers) :=
  fn_okF (np := 0) (nc := 0) (m := B__law_numbers) F sc__law_numbers rfl rfl fun cdv A outer s H E hr => mkT
   (by exact refs_ret (ref_tuple (ref_lc (refi_r1 (refa_cons (ref_var (i := 1)) (refa_nil))) (refg_name (i := 3)) (reft_yes) (ref_len (ref_lc (refi_seq (ref_var (i := 0))) (refg_name (i := 2)) (reft_test (ref_op (ops_eq (K := K)) (ref_var (i := 2)) (ref_var (i := 3)))) (ref_var (i := 2)) (by decide))) (by decide))))
   (by
    conv in (defScope s__law_numbers) => whnf
    conv in (defBody s__law_numbers) => whnf
    exact pss_one (ps_ret (pe_callTy (call_tuple_of) (by rfl) Bb.tuple bb_tuple (pa_cons (pe_lc (own := [("y", 3)]) rfl sc__law_numbers.nd (pi_range1 rfl Bb.range (pa_cons (pv 1) (pa_nil))) (blkOk_by (by kernel_rfl)) (fun _ _ _ _ _ => pg_name (i := 3) sc__law_numbers.nd rfl (Or.inr rfl)) (fun _ _ _ _ _ => pts_nil) (fun _ _ _ _ _ => pe_callB (call_lenU) (by rfl) Bb.len bb_len (pa_cons (pe_lc (own := [("x", 2)]) rfl sc__law_numbers.nd (pi_seq (pv 0)) (blkOk_by (by kernel_rfl)) (fun _ _ _ _ _ => pg_name (i := 2) sc__law_numbers.nd rfl (Or.inl rfl)) (fun _ _ _ _ _ => pts_one (pt_cmpR (op_eqD hr.units) (pv 2) (pv 3) (nomark _))) (fun _ _ _ _ _ => pv 2)) (pa_nil)))) (pa_nil)))))

/-! ### _law_sums -/
abbrev s__law_sums : Stmt := topS 28
theorem sc__law_sums : FnScope ["n", "kinds", "rows", "again", "more", "row", "x"] ["n", "kinds"] (defScope s__law_sums) := ⟨rfl, rfl, rfl, by decide +kernel, rfl, by decide +kernel, by decide +kernel⟩
def L__law_sums_1 : ME := mLc (miR1 (aCons (mOpN fAdd (mOp (fI fun i j => i - j) (mVar 0) (mCB (f1 fSumU) (aCons (mVar 5) (aNil)))) (mC (.int 1))) (aNil))) (mgN 6) (mYes) (mOpN fAdd (mVar 5) (mTup (aCons (mVar 6) (aNil)))) [6]
def S__law_sums_2 : MS := sFor (miSeq (mVar 2)) (mgN 5) [5]
    (sAsg 4 (mOpN fAdd (mVar 4) (L__law_sums_1)))
def S__law_sums_3 : MS := sFor (miR1 (aCons (mVar 1) (aNil))) (mgN 3) [3, 4, 5]
    (sSeq (sAsg 4 (mLst (aNil)))
    (sSeq (S__law_sums_2)
    (sAsg 2 (mVar 4))))
def L__law_sums_4 : ME := mLc (miSeq (mVar 2)) (mgN 5) (mTest (mOp (fEq false) (mCB (f1 fSumU) (aCons (mVar 5) (aNil))) (mVar 0))) (mVar 5) [5]
def B__law_sums : MS := sSeq (sAsg 2 (mLst (aCons (mTup (aNil)) (aNil))))
    (sSeq (S__law_sums_3)
    (sRet (L__law_sums_4)))
def M__law_sums : MF := runF 7 0 0 B__law_sums
theorem ok__law_sums (Bb : Bl mg) {f : Addr} {fd : FuncData} (F : FunD K "_law_sums" "_law_sums" (defArgs s__law_sums) (defBody s__law_sums) (defScope s__law_sums) [] [] f fd) : FnOk P w K mg base CX0 1 f fd ["n", "kinds"] (spM K 2 M__law_sums) :=
  fn_okF (np := 0) (nc := 0) (m := B__law_sums) F sc__law_sums rfl rfl fun cdv A outer s H E hr => mkT
   (by exact refs_seq (refs_asg (ref_lst (refa_cons (ref_tup (refa_nil)) (refa_nil))))
        (refs_seq (refs_for (kl := [3, 4, 5]) (refi_r1 (refa_cons (ref_var (i := 1)) (refa_nil))) (refg_name (i := 3))
        (refs_seq (refs_asg (ref_lst (refa_nil)))
        (refs_seq (refs_for (kl := [5]) (refi_seq (ref_var (i := 2))) (refg_name (i := 5))
        (refs_asg (ref_opN (ops_addU (K := K)) (ref_var (i := 4)) (ref_lc (refi_r1 (refa_cons (ref_opN (ops_addU (K := K)) (ref_op ops_I (ref_var (i := 0)) (ref_cb (cal_sumU (K := K)) (refa_cons (ref_var (i := 5)) (refa_nil)))) (ref_int)) (refa_nil))) (refg_name (i := 6)) (reft_yes) (ref_opN (ops_addU (K := K)) (ref_var (i := 5)) (ref_tup (refa_cons (ref_var (i := 6)) (refa_nil)))) (by decide)))))
        (refs_asg (ref_var (i := 4))))))
        (refs_ret (ref_lc (refi_seq (ref_var (i := 2))) (refg_name (i := 5)) (reft_test (ref_op (ops_eq (K := K)) (ref_cb (cal_sumU (K := K)) (refa_cons (ref_var (i := 5)) (refa_nil))) (ref_var (i := 0)))) (ref_var (i := 5)) (by decide)))))
   (by
    conv in (defScope s__law_sums) => whnf
    conv in (defBody s__law_sums) => whnf
    exact pss_cons (ps_set (i := 2) sc__law_sums.nd rfl (Or.inl rfl) (pe_lst (pa_cons (pe_tup (pa_nil)) (pa_nil))))
        (pss_cons (ps_for PassesOwn.never rfl (pi_range1 rfl Bb.range (pa_cons (pv 1) (pa_nil))) (pg_name (i := 3) sc__law_sums.nd rfl (Or.inl rfl))
        (pss_cons (ps_set (i := 4) sc__law_sums.nd rfl (Or.inl rfl) (pe_lst (pa_nil)))
        (pss_cons (ps_for PassesOwn.never rfl (pi_seq (pv 2)) (pg_name (i := 5) sc__law_sums.nd rfl (Or.inr rfl))
        (pss_one (ps_set (i := 4) sc__law_sums.nd rfl (Or.inl rfl) (pe_op op_addU (pv 4) (pe_lc (own := [("x", 6)]) rfl sc__law_sums.nd (pi_range1 rfl Bb.range (pa_cons (pe_op op_addU (pe_op op_sub (pv 0) (pe_callB (cr_sumU rfl) (by rfl) Bb.sum bb_sum (pa_cons (pv 5) (pa_nil)))) (pe_int)) (pa_nil))) (blkOk_by (by kernel_rfl)) (fun _ _ _ _ _ => pg_name (i := 6) sc__law_sums.nd rfl (Or.inl rfl)) (fun _ _ _ _ _ => pts_nil) (fun _ _ _ _ _ => pe_op op_addU (pv 5) (pe_tup (pa_cons (pv 6) (pa_nil)))))))))
        (pss_one (ps_set (i := 2) sc__law_sums.nd rfl (Or.inl rfl) (pv 4))))))
        (pss_one (ps_ret (pe_lc (own := [("row", 5)]) rfl sc__law_sums.nd (pi_seq (pv 2)) (blkOk_by (by kernel_rfl)) (fun _ _ _ _ _ => pg_name (i := 5) sc__law_sums.nd rfl (Or.inl rfl)) (fun _ _ _ _ _ => pts_one (pt_cmpR (op_eqD hr.units) (pe_callB (cr_sumU rfl) (by rfl) Bb.sum bb_sum (pa_cons (pv 5) (pa_nil))) (pv 0) (nomark _))) (fun _ _ _ _ _ => pv 5))))))

/-! ### _law_choices -/
abbrev s__law_choices : Stmt := topS 31
theorem sc__law_choices : FnScope ["n", "kinds", "low", "rows", "again", "more", "row", "x"] ["n", "kinds", "low"] (defScope s__law_choices) := ⟨rfl, rfl, rfl, by decide +kernel, rfl, by decide +kernel, by decide +kernel⟩
def L__law_choices_1 : ME := mLc (miR2 (aCons (mIf (mTest (mOp (fEq true) (mVar 6) (mTup (aNil)))) (mSub (mVar 6) (mUn (fU fun i => -i) (mC (.int 1)))) (mVar 2)) (aCons (mVar 1) (aNil)))) (mgN 7) (mYes) (mOpN fAdd (mVar 6) (mTup (aCons (mVar 7) (aNil)))) [7]
def S__law_choices_2 : MS := sFor (miSeq (mVar 3)) (mgN 6) [6]
    (sAsg 5 (mOpN fAdd (mVar 5) (L__law_choices_1)))
def S__law_choices_3 : MS := sFor (miR1 (aCons (mVar 0) (aNil))) (mgN 4) [4, 5, 6]
    (sSeq (sAsg 5 (mLst (aNil)))
    (sSeq (S__law_choices_2)
    (sAsg 3 (mVar 5))))
def B__law_choices : MS := sSeq (sAsg 3 (mLst (aCons (mTup (aNil)) (aNil))))
    (sSeq (S__law_choices_3)
    (sRet (mVar 3)))
def M__law_choices : MF := runF 8 0 0 B__law_choices
theorem ok__law_choices (Bb : Bl mg) {f : Addr} {fd : FuncData} (F : FunD K "_law_choices" "_law_choices" (defArgs s__law_choices) (defBody s__law_choices) (defScope s__law_choices) [] [] f fd) : FnOk P w K mg base CX0 1 f fd ["n", "kinds", "low"] (spM K 3 M__law_choices) :=
  fn_okF (np := 0) (nc := 0) (m := B__law_choices) F sc__law_choices rfl rfl fun cdv A outer s H E hr => mkT
   (by exact refs_seq (refs_asg (ref_lst (refa_cons (ref_tup (refa_nil)) (refa_nil))))
        (refs_seq (refs_for (kl := [4, 5, 6]) (refi_r1 (refa_cons (ref_var (i := 0)) (refa_nil))) (refg_name (i := 4))
        (refs_seq (refs_asg (ref_lst (refa_nil)))
        (refs_seq (refs_for (kl := [6]) (refi_seq (ref_var (i := 3))) (refg_name (i := 6))
        (refs_asg (ref_opN (ops_addU (K := K)) (ref_var (i := 5)) (ref_lc (refi_r2 (refa_cons (ref_if (reft_test (ref_op (ops_ne (K := K)) (ref_var (i := 6)) (ref_tup (refa_nil)))) (ref_sub (ref_var (i := 6)) (ref_un uns_U (ref_int))) (ref_var (i := 2))) (refa_cons (ref_var (i := 1)) (refa_nil)))) (refg_name (i := 7)) (reft_yes) (ref_opN (ops_addU (K := K)) (ref_var (i := 6)) (ref_tup (refa_cons (ref_var (i := 7)) (refa_nil)))) (by decide)))))
        (refs_asg (ref_var (i := 5))))))
        (refs_ret (ref_var (i := 3)))))
   (by
    conv in (defScope s__law_choices) => whnf
    conv in (defBody s__law_choices) => whnf
    exact pss_cons (ps_set (i := 3) sc__law_choices.nd rfl (Or.inl rfl) (pe_lst (pa_cons (pe_tup (pa_nil)) (pa_nil))))
        (pss_cons (ps_for PassesOwn.never rfl (pi_range1 rfl Bb.range (pa_cons (pv 0) (pa_nil))) (pg_name (i := 4) sc__law_choices.nd rfl (Or.inl rfl))
        (pss_cons (ps_set (i := 5) sc__law_choices.nd rfl (Or.inl rfl) (pe_lst (pa_nil)))
        (pss_cons (ps_for PassesOwn.never rfl (pi_seq (pv 3)) (pg_name (i := 6) sc__law_choices.nd rfl (Or.inr rfl))
        (pss_one (ps_set (i := 5) sc__law_choices.nd rfl (Or.inl rfl) (pe_op op_addU (pv 5) (pe_lc (own := [("x", 7)]) rfl sc__law_choices.nd (pi_range2 rfl Bb.range (pa_cons (pe_ifExp (pt_cmpR (op_neD hr.units) (pv 6) (pe_tup (pa_nil)) (nomark _)) (pe_sub (hu_of hr) (pv 6) (pe_un un_neg (pe_int)) (fun _ _ => rfl)) (pv 2)) (pa_cons (pv 1) (pa_nil)))) (blkOk_by (by kernel_rfl)) (fun _ _ _ _ _ => pg_name (i := 7) sc__law_choices.nd rfl (Or.inl rfl)) (fun _ _ _ _ _ => pts_nil) (fun _ _ _ _ _ => pe_op op_addU (pv 6) (pe_tup (pa_cons (pv 7) (pa_nil)))))))))
        (pss_one (ps_set (i := 3) sc__law_choices.nd rfl (Or.inl rfl) (pv 5))))))
        (pss_one (ps_ret (pv 3)))))

/-! ### is_between -/
abbrev s_is_between : Stmt := topS 6
theorem sc_is_between : FnScope ["thing", "low", "high"] ["thing", "low", "high"] (defScope s_is_between) := ⟨rfl, rfl, rfl, by decide +kernel, rfl, by decide +kernel, by decide +kernel⟩
def B_is_between : MS := sRet (mAndV (mCall 1 M_is_integer (aCons (mVar 0) (aNil))) (mChain (fB fun i j => decide (i ≤ j)) (fB fun i j => decide (i ≤ j)) (mVar 1) (mVar 0) (mVar 2)))
def M_is_between : MF := runF 3 0 0 B_is_between
theorem ok_is_between (Bb : Bl mg) (c_is_integer : Cal P w K mg base 1 "is_integer" ["thing"] 1 M_is_integer) {f : Addr} {fd : FuncData} (F : FunD K "is_between" "is_between" (defArgs s_is_between) (defBody s_is_between) (defScope s_is_between) [] [] f fd) : FnOk P w K mg base CX0 2 f fd ["thing", "low", "high"] (spM K 3 M_is_between) :=
  fn_okF (np := 0) (nc := 0) (m := B_is_between) F sc_is_between rfl rfl fun cdv A outer s H E hr => mkT
   (by exact refs_ret (ref_andV (ref_call (E := E0) (refa_cons (ref_var (i := 0)) (refa_nil))) (ref_chain ops_B ops_B (ref_var (i := 1)) (ref_var (i := 0)) (ref_var (i := 2)))))
   (by
    conv in (defScope s_is_between) => whnf
    conv in (defBody s_is_between) => whnf
    exact pss_one (ps_ret (pe_and (pe_callM c_is_integer (hr.mono (by decide)) rfl (pa_cons (pv 0) (pa_nil))) (pe_one (pe_chain (op_le) (op_le) (pv 1) (pv 0) (pv 2))))))

/-! ### _law_stream -/
abbrev s__law_stream : Stmt := topS 22
theorem sc__law_stream : FnScope ["script", "k"] ["script", "k"] (defScope s__law_stream) := ⟨rfl, rfl, rfl, by decide +kernel, rfl, by decide +kernel, by decide +kernel⟩
def B__law_stream : MS := sRet (mLst (aCons (mCB (f1 fAbs) (aCons (mCall 2 M__law_cell (aCons (mVar 0) (aCons (mVar 1) (aNil)))) (aNil))) (aCons (mOpN fAdd (mOp (fIc cPos fun i j => i % j) (mCB (f1 fAbs) (aCons (mCall 2 M__law_cell (aCons (mVar 0) (aCons (mVar 1) (aNil)))) (aNil))) (mC (.int 1000003))) (mC (.int 7))) (aNil))))
def M__law_stream : MF := runF 2 0 0 B__law_stream
theorem ok__law_stream (Bb : Bl mg) (c__law_cell : Cal P w K mg base 1 "_law_cell" ["script", "k"] 2 M__law_cell) {f : Addr} {fd : FuncData} (F : FunD K "_law_stream" "_law_stream" (defArgs s__law_stream) (defBody s__law_stream) (defScope s__law_stream) [] [] f fd) : FnOk P w K mg base CX0 2 f fd ["script", "k"] (spM K 2 M__law_stream) :=
  fn_okF (np := 0) (nc := 0) (m := B__law_stream) F sc__law_stream rfl rfl fun cdv A outer s H E hr => mkT
   (by exact refs_ret (ref_lst (refa_cons (ref_cb cal_abs (refa_cons (ref_call (E := E0) (refa_cons (ref_var (i := 0)) (refa_cons (ref_var (i := 1)) (refa_nil)))) (refa_nil))) (refa_cons (ref_opN (ops_addU (K := K)) (ref_op ops_mod (ref_cb cal_abs (refa_cons (ref_call (E := E0) (refa_cons (ref_var (i := 0)) (refa_cons (ref_var (i := 1)) (refa_nil)))) (refa_nil))) (ref_int)) (ref_int)) (refa_nil)))))
   (by
    conv in (defScope s__law_stream) => whnf
    conv in (defBody s__law_stream) => whnf
    exact pss_one (ps_ret (pe_lst (pa_cons (pe_callB (call_abs) (by rfl) Bb.abs bb_abs (pa_cons (pe_callM c__law_cell (hr.mono (by decide)) rfl (pa_cons (pv 0) (pa_cons (pv 1) (pa_nil)))) (pa_nil))) (pa_cons (pe_op op_addU (pe_op op_mod (pe_callB (call_abs) (by rfl) Bb.abs bb_abs (pa_cons (pe_callM c__law_cell (hr.mono (by decide)) rfl (pa_cons (pv 0) (pa_cons (pv 1) (pa_nil)))) (pa_nil))) (pe_int)) (pe_int)) (pa_nil))))))

/-! ### check_items -/
abbrev s_check_items : Stmt := topS 13
theorem sc_check_items : FnScope ["row", "item"] ["row"] (defScope s_check_items) := ⟨rfl, rfl, rfl, by decide +kernel, rfl, by decide +kernel, by decide +kernel⟩
def L_check_items_1 : ME := mLc (miSeq (mVar 0)) (mgN 1) (mYes) (mCall 3 M_is_between (aCons (mVar 1) (aCons (mUn (fU fun i => -i) (mC (.int 1000))) (aCons (mC (.int 1000)) (aNil))))) [1]
def B_check_items : MS := sSeq (sIf (mOr (mNot (mTest (mIsi "tuple" (mVar 0)))) (mTest (mOp (fB fun i j => decide (j < i)) (mLen (mVar 0)) (mC (.int 40))))) (sNever) (sNext))
    (sIf (mNot (mTest (mCB (f1 fAll) (aCons (L_check_items_1) (aNil))))) (sNever) (sNext))
def M_check_items : MF := runF 2 0 0 B_check_items
theorem ok_check_items (Bb : Bl mg) (g_MOST_ITEMS : GInt mg "MOST_ITEMS" 40) (g_MOST_NUMBER : GInt mg "MOST_NUMBER" 1000) (c_is_between : Cal P w K mg base 2 "is_between" ["thing", "low", "high"] 3 M_is_between) {f : Addr} {fd : FuncData} (F : FunD K "check_items" "check_items" (defArgs s_check_items) (defBody s_check_items) (defScope s_check_items) [] [] f fd) : FnOk P w K mg base CX0 3 f fd ["row"] (spM K 1 M_check_items) :=
  fn_okF (np := 0) (nc := 0) (m := B_check_items) F sc_check_items rfl rfl fun cdv A outer s H E hr => mkT
   (by exact refs_seq (refs_if (reft_or (reft_not (reft_B (ref_isi (T := "tuple") (ref_var (i := 0))))) (reft_test (ref_op ops_B (ref_len (ref_var (i := 0))) (ref_int)))) (refs_never) (refs_next))
        (refs_if (reft_not (reft_B (ref_cb (cal_all (K := K)) (refa_cons (ref_lc (refi_seq (ref_var (i := 0))) (refg_name (i := 1)) (reft_yes) (ref_call (E := E0) (refa_cons (ref_var (i := 1)) (refa_cons (ref_un uns_U (ref_int)) (refa_cons (ref_int) (refa_nil))))) (by decide)) (refa_nil))))) (refs_never) (refs_next)))
   (by
    conv in (defScope s_check_items) => whnf
    conv in (defBody s_check_items) => whnf
    exact pss_cons (ps_if (PW.pt (pw_or (pt_not (pt_val (pe_isi (T := "tuple") (pv 0) rfl Bb.isinstance rfl Bb.tuple bb_tuple))) (pw_or1 (pt_cmpR (op_gt) (pe_callB (call_lenU) (by rfl) Bb.len bb_len (pa_cons (pv 0) (pa_nil))) (pe_gint rfl g_MOST_ITEMS) (nomark _))))) (pss_one (ps_never)) (pss_nil))
        (pss_one (ps_if (pt_not (pt_val (pe_callB (cr_all rfl) (by rfl) Bb.all bb_all (pa_cons (pe_lc (own := [("item", 1)]) rfl sc_check_items.nd (pi_seq (pv 0)) (blkOk_by (by kernel_rfl)) (fun _ _ _ _ _ => pg_name (i := 1) sc_check_items.nd rfl (Or.inl rfl)) (fun _ _ _ _ _ => pts_nil) (fun _ _ _ _ _ => pe_callM c_is_between (hr.mono (by decide)) rfl (pa_cons (pv 1) (pa_cons (pe_un un_neg (pe_gint rfl g_MOST_NUMBER)) (pa_cons (pe_gint rfl g_MOST_NUMBER) (pa_nil)))))) (pa_nil))))) (pss_one (ps_never)) (pss_nil))))

/-! ### check_seeds -/
abbrev s_check_seeds : Stmt := topS 15
theorem sc_check_seeds : FnScope ["seeds", "seed", "number"] ["seeds"] (defScope s_check_seeds) := ⟨rfl, rfl, rfl, by decide +kernel, rfl, by decide +kernel, by decide +kernel⟩
def L_check_seeds_1 : ME := mLc (miSeq (mSl (mVar 1) (mNoPart) (mPart (mC (.int 2))))) (mgN 2) (mYes) (mCall 3 M_is_between (aCons (mVar 2) (aCons (mC (.int 0)) (aCons (mC (.int 1000)) (aNil))))) [2]
def S_check_seeds_2 : MS := sFor (miSeq (mVar 0)) (mgN 1) [1]
    (sSeq (sIf (mOr (mNot (mTest (mIsi "tuple" (mVar 1)))) (mOr (mTest (mOp (fEq true) (mLen (mVar 1)) (mC (.int 3)))) (mNot (mTest (mCall 3 M_is_between (aCons (mSub (mVar 1) (mC (.int 2))) (aCons (mC (.int 1)) (aCons (mC (.int 100)) (aNil))))))))) (sNever) (sNext))
    (sIf (mNot (mTest (mCB (f1 fAll) (aCons (L_check_seeds_1) (aNil))))) (sNever) (sNext)))
def B_check_seeds : MS := sSeq (sIf (mOr (mNot (mTest (mIsi "tuple" (mVar 0)))) (mNot (mTest (mChain (fB fun i j => decide (i ≤ j)) (fB fun i j => decide (i ≤ j)) (mC (.int 1)) (mLen (mVar 0)) (mC (.int 10)))))) (sNever) (sNext))
    (S_check_seeds_2)
def M_check_seeds : MF := runF 3 0 0 B_check_seeds
theorem ok_check_seeds (Bb : Bl mg) (g_MOST_COUNTERS : GInt mg "MOST_COUNTERS" 10) (g_MOST_WIDE : GInt mg "MOST_WIDE" 100) (g_MOST_NUMBER : GInt mg "MOST_NUMBER" 1000) (c_is_between : Cal P w K mg base 2 "is_between" ["thing", "low", "high"] 3 M_is_between) {f : Addr} {fd : FuncData} (F : FunD K "check_seeds" "check_seeds" (defArgs s_check_seeds) (defBody s_check_seeds) (defScope s_check_seeds) [] [] f fd) : FnOk P w K mg base CX0 3 f fd ["seeds"] (spM K 1 M_check_seeds) :=
  fn_okF (np := 0) (nc := 0) (m := B_check_seeds) F sc_check_seeds rfl rfl fun cdv A outer s H E hr => mkT
   (by exact refs_seq (refs_if (reft_or (reft_not (reft_B (ref_isi (T := "tuple") (ref_var (i := 0))))) (reft_not (reft_test (ref_chain ops_B ops_B (ref_int) (ref_len (ref_var (i := 0))) (ref_int))))) (refs_never) (refs_next))
        (refs_for (kl := [1]) (refi_seq (ref_var (i := 0))) (refg_name (i := 1))
        (refs_seq (refs_if (reft_or (reft_not (reft_B (ref_isi (T := "tuple") (ref_var (i := 1))))) (reft_or (reft_test (ref_op (ops_ne (K := K)) (ref_len (ref_var (i := 1))) (ref_int))) (reft_not (reft_B (ref_call (E := E0) (refa_cons (ref_sub (ref_var (i := 1)) (ref_int)) (refa_cons (ref_int) (refa_cons (ref_int) (refa_nil))))))))) (refs_never) (refs_next))
        (refs_if (reft_not (reft_B (ref_cb (cal_all (K := K)) (refa_cons (ref_lc (refi_seq (ref_sl (ref_var (i := 1)) (refo_none) (refo_some (ref_int)))) (refg_name (i := 2)) (reft_yes) (ref_call (E := E0) (refa_cons (ref_var (i := 2)) (refa_cons (ref_int) (refa_cons (ref_int) (refa_nil))))) (by decide)) (refa_nil))))) (refs_never) (refs_next)))))
   (by
    conv in (defScope s_check_seeds) => whnf
    conv in (defBody s_check_seeds) => whnf
    exact pss_cons (ps_if (PW.pt (pw_or (pt_not (pt_val (pe_isi (T := "tuple") (pv 0) rfl Bb.isinstance rfl Bb.tuple bb_tuple))) (pw_or1 (pt_not (pt_chain (op_le) (op_le) (pe_int) (pe_callB (call_lenU) (by rfl) Bb.len bb_len (pa_cons (pv 0) (pa_nil))) (pe_gint rfl g_MOST_COUNTERS)))))) (pss_one (ps_never)) (pss_nil))
        (pss_one (ps_for PassesOwn.never rfl (pi_seq (pv 0)) (pg_name (i := 1) sc_check_seeds.nd rfl (Or.inl rfl))
        (pss_cons (ps_if (PW.pt (pw_or (pt_not (pt_val (pe_isi (T := "tuple") (pv 1) rfl Bb.isinstance rfl Bb.tuple bb_tuple))) (pw_or (pt_cmpR (op_neD hr.units) (pe_callB (call_lenU) (by rfl) Bb.len bb_len (pa_cons (pv 1) (pa_nil))) (pe_int) (nomark _)) (pw_or1 (pt_not (pt_val (pe_callM c_is_between (hr.mono (by decide)) rfl (pa_cons (pe_sub (hu_of hr) (pv 1) (pe_int) (fun _ _ => rfl)) (pa_cons (pe_int) (pa_cons (pe_gint rfl g_MOST_WIDE) (pa_nil))))))))))) (pss_one (ps_never)) (pss_nil))
        (pss_one (ps_if (pt_not (pt_val (pe_callB (cr_all rfl) (by rfl) Bb.all bb_all (pa_cons (pe_lc (own := [("number", 2)]) rfl sc_check_seeds.nd (pi_seq (pe_slice sl_U (pv 1) (po_none) (po_some (pe_int)))) (blkOk_by (by kernel_rfl)) (fun _ _ _ _ _ => pg_name (i := 2) sc_check_seeds.nd rfl (Or.inl rfl)) (fun _ _ _ _ _ => pts_nil) (fun _ _ _ _ _ => pe_callM c_is_between (hr.mono (by decide)) rfl (pa_cons (pv 2) (pa_cons (pe_int) (pa_cons (pe_gint rfl g_MOST_NUMBER) (pa_nil)))))) (pa_nil))))) (pss_one (ps_never)) (pss_nil)))))))

/-! ### check_board -/
abbrev s_check_board : Stmt := topS 17
theorem sc_check_board : FnScope ["rows", "row", "number"] ["rows"] (defScope s_check_board) := ⟨rfl, rfl, rfl, by decide +kernel, rfl, by decide +kernel, by decide +kernel⟩
def L_check_board_1 : ME := mLc (miSeq (mVar 1)) (mgN 2) (mYes) (mCall 3 M_is_between (aCons (mVar 2) (aCons (mC (.int 0)) (aCons (mC (.int 1000000)) (aNil))))) [2]
def S_check_board_2 : MS := sFor (miSeq (mVar 0)) (mgN 1) [1]
    (sSeq (sIf (mOr (mNot (mTest (mIsi "tuple" (mVar 1)))) (mNot (mTest (mChain (fB fun i j => decide (i ≤ j)) (fB fun i j => decide (i ≤ j)) (mC (.int 1)) (mLen (mVar 1)) (mC (.int 100)))))) (sNever) (sNext))
    (sIf (mNot (mTest (mCB (f1 fAll) (aCons (L_check_board_1) (aNil))))) (sNever) (sNext)))
def B_check_board : MS := sSeq (sIf (mOr (mNot (mTest (mIsi "tuple" (mVar 0)))) (mNot (mTest (mChain (fB fun i j => decide (i ≤ j)) (fB fun i j => decide (i ≤ j)) (mC (.int 1)) (mLen (mVar 0)) (mC (.int 10)))))) (sNever) (sNext))
    (S_check_board_2)
def M_check_board : MF := runF 3 0 0 B_check_board
theorem ok_check_board (Bb : Bl mg) (g_MOST_COUNTERS : GInt mg "MOST_COUNTERS" 10) (g_MOST_WIDE : GInt mg "MOST_WIDE" 100) (g_MOST_TOLD : GInt mg "MOST_TOLD" 1000000) (c_is_between : Cal P w K mg base 2 "is_between" ["thing", "low", "high"] 3 M_is_between) {f : Addr} {fd : FuncData} (F : FunD K "check_board" "check_board" (defArgs s_check_board) (defBody s_check_board) (defScope s_check_board) [] [] f fd) : FnOk P w K mg base CX0 3 f fd ["rows"] (spM K 1 M_check_board) :=
  fn_okF (np := 0) (nc := 0) (m := B_check_board) F sc_check_board rfl rfl fun cdv A outer s H E hr => mkT
   (by exact refs_seq (refs_if (reft_or (reft_not (reft_B (ref_isi (T := "tuple") (ref_var (i := 0))))) (reft_not (reft_test (ref_chain ops_B ops_B (ref_int) (ref_len (ref_var (i := 0))) (ref_int))))) (refs_never) (refs_next))
        (refs_for (kl := [1]) (refi_seq (ref_var (i := 0))) (refg_name (i := 1))
        (refs_seq (refs_if (reft_or (reft_not (reft_B (ref_isi (T := "tuple") (ref_var (i := 1))))) (reft_not (reft_test (ref_chain ops_B ops_B (ref_int) (ref_len (ref_var (i := 1))) (ref_int))))) (refs_never) (refs_next))
        (refs_if (reft_not (reft_B (ref_cb (cal_all (K := K)) (refa_cons (ref_lc (refi_seq (ref_var (i := 1))) (refg_name (i := 2)) (reft_yes) (ref_call (E := E0) (refa_cons (ref_var (i := 2)) (refa_cons (ref_int) (refa_cons (ref_int) (refa_nil))))) (by decide)) (refa_nil))))) (refs_never) (refs_next)))))
   (by
    conv in (defScope s_check_board) => whnf
    conv in (defBody s_check_board) => whnf
    exact pss_cons (ps_if (PW.pt (pw_or (pt_not (pt_val (pe_isi (T := "tuple") (pv 0) rfl Bb.isinstance rfl Bb.tuple bb_tuple))) (pw_or1 (pt_not (pt_chain (op_le) (op_le) (pe_int) (pe_callB (call_lenU) (by rfl) Bb.len bb_len (pa_cons (pv 0) (pa_nil))) (pe_gint rfl g_MOST_COUNTERS)))))) (pss_one (ps_never)) (pss_nil))
        (pss_one (ps_for PassesOwn.never rfl (pi_seq (pv 0)) (pg_name (i := 1) sc_check_board.nd rfl (Or.inl rfl))
        (pss_cons (ps_if (PW.pt (pw_or (pt_not (pt_val (pe_isi (T := "tuple") (pv 1) rfl Bb.isinstance rfl Bb.tuple bb_tuple))) (pw_or1 (pt_not (pt_chain (op_le) (op_le) (pe_int) (pe_callB (call_lenU) (by rfl) Bb.len bb_len (pa_cons (pv 1) (pa_nil))) (pe_gint rfl g_MOST_WIDE)))))) (pss_one (ps_never)) (pss_nil))
        (pss_one (ps_if (pt_not (pt_val (pe_callB (cr_all rfl) (by rfl) Bb.all bb_all (pa_cons (pe_lc (own := [("number", 2)]) rfl sc_check_board.nd (pi_seq (pv 1)) (blkOk_by (by kernel_rfl)) (fun _ _ _ _ _ => pg_name (i := 2) sc_check_board.nd rfl (Or.inl rfl)) (fun _ _ _ _ _ => pts_nil) (fun _ _ _ _ _ => pe_callM c_is_between (hr.mono (by decide)) rfl (pa_cons (pv 2) (pa_cons (pe_int) (pa_cons (pe_gint rfl g_MOST_TOLD) (pa_nil)))))) (pa_nil))))) (pss_one (ps_never)) (pss_nil)))))))

/-! ### counted -/
abbrev s_counted : Stmt := topS 14
theorem sc_counted : FnScope ["c", "row", "counts", "item", "other", "number"] ["c", "row"] (defScope s_counted) := ⟨rfl, rfl, rfl, by decide +kernel, rfl, by decide +kernel, by decide +kernel⟩
def L_counted_1 : ME := mDc (miItems 2) (mgT 2 (mgCons (mgN 4) (mgCons (mgN 5) (mgNil)))) (mTest (mOp (fB fun i j => decide (j < i)) (mVar 5) (mC (.int 1)))) (mVar 4) (mOp (fI fun i j => i - j) (mVar 5) (mC (.int 1))) [4, 5]
def S_counted_2 : MS := sFor (miSeq (mVar 1)) (mgN 3) [3]
    (sIf (mOr (mTest (mIn false (mVar 3) (mVar 2))) (mTest (mOp (fB fun i j => decide (i < j)) (mLen (mVar 2)) (mVar 0)))) (sPut (mVar 2) (mVar 3) (mOpN fAdd (mGetX (mVar 2) (mVar 3) (mC (.int 0))) (mC (.int 1)))) (sNew 0 2 0 (mLock 2 (L_counted_1))))
def B_counted : MS := sSeq (sIf (mNot (mTest (mCall 3 M_is_between (aCons (mVar 0) (aCons (mC (.int 1)) (aCons (mC (.int 10)) (aNil))))))) (sNever) (sNext))
    (sSeq (sDrop (mCall 1 M_check_items (aCons (mVar 1) (aNil))))
    (sSeq (sNew 0 2 0 (mNewK))
    (sSeq (S_counted_2)
    (sRet (mTupleP (mSortItems 2))))))
def M_counted : MF := runF 6 0 1 B_counted
theorem ok_counted (Bb : Bl mg) (g_MOST_COUNTERS : GInt mg "MOST_COUNTERS" 10) (c_check_items : Cal P w K mg base 3 "check_items" ["row"] 1 M_check_items) (c_is_between : Cal P w K mg base 2 "is_between" ["thing", "low", "high"] 3 M_is_between) {f : Addr} {fd : FuncData} (F : FunD K "counted" "counted" (defArgs s_counted) (defBody s_counted) (defScope s_counted) [] [] f fd) : FnOk P w K mg base CX0 4 f fd ["c", "row"] (spM K 2 M_counted) :=
  fn_okF (np := 0) (nc := 1) (m := B_counted) F sc_counted rfl rfl fun cdv A outer s H E hr => mkT
   (by exact refs_seq (refs_if (reft_not (reft_B (ref_call (E := E0) (refa_cons (ref_var (i := 0)) (refa_cons (ref_int) (refa_cons (ref_int) (refa_nil))))))) (refs_never) (refs_next))
        (refs_seq (refs_drop (ref_call (E := E0) (refa_cons (ref_var (i := 1)) (refa_nil))))
        (refs_seq (refs_new (np := 0) (i := 2) (k := 0) (ref_newK))
        (refs_seq (refs_for (kl := [3]) (refi_seq (ref_var (i := 1))) (refg_name (i := 3))
        (refs_if (reft_or (reft_B (ref_in (ref_var (i := 3)) (ref_var (i := 2)))) (reft_test (ref_op ops_B (ref_len (ref_var (i := 2))) (ref_var (i := 0))))) (refs_put (ref_var (i := 2)) (ref_var (i := 3)) (ref_opN (ops_addU (K := K)) (ref_get2 (ref_var (i := 2)) (ref_var (i := 3)) (ref_int)) (ref_int))) (refs_new (np := 0) (i := 2) (k := 0) (ref_lock (i := 2) (ref_dc (refi_items (i := 2)) (refg_tup (n := 2) (refgs_cons (refg_name (i := 4)) (refgs_cons (refg_name (i := 5)) (refgs_nil)))) (reft_test (ref_op ops_B (ref_var (i := 5)) (ref_int))) (ref_var (i := 4)) (ref_op ops_I (ref_var (i := 5)) (ref_int)) (by decide))))))
        (refs_ret (ref_tupleP (ref_sortItems (i := 2))))))))
   (by
    conv in (defScope s_counted) => whnf
    conv in (defBody s_counted) => whnf
    exact pss_cons (ps_if (pt_not (pt_val (pe_callM c_is_between (hr.mono (by decide)) rfl (pa_cons (pv 0) (pa_cons (pe_int) (pa_cons (pe_gint rfl g_MOST_COUNTERS) (pa_nil))))))) (pss_one (ps_never)) (pss_nil))
        (pss_cons (ps_expr (pe_callM c_check_items (hr.mono (by decide)) rfl (pa_cons (pv 1) (pa_nil))))
        (pss_cons (ps_set (i := 2) sc_counted.nd rfl (Or.inl rfl) (pe_dnewK))
        (pss_cons (ps_for PassesOwn.never rfl (pi_seq (pv 1)) (pg_name (i := 3) sc_counted.nd rfl (Or.inl rfl))
        (pss_one (ps_if (PW.pt (pw_or (pt_in (u65 hr) (pv 3) (pv 2) rfl) (pw_or1 (pt_cmpR (op_lt) (pe_callB (call_lenU) (by rfl) Bb.len bb_len (pa_cons (pv 2) (pa_nil))) (pv 0) (nomark _))))) (pss_one (ps_dput (hu_of hr) (pv 2) (pv 3) (pe_op op_addU (pe_dget2 (hu_of hr) (pv 2) (pv 3) (pe_int) ⟨rfl, rfl, rfl, rfl⟩) (pe_int)) rfl)) (pss_one (ps_lockA (ps_setDc (i := 2) (own := [("other", 4), ("number", 5)]) rfl sc_counted.nd rfl rfl (sw_trueD rfl rfl rfl (by decide +kernel)) (pi_items (pv 2)) (blkOk_by (by kernel_rfl)) (fun _ _ _ _ _ => pg_tup rfl (pgs_cons (pg_name (i := 4) sc_counted.nd rfl (Or.inl rfl)) (pgs_cons (pg_name (i := 5) sc_counted.nd rfl (Or.inl rfl)) (pgs_nil)))) (fun _ _ _ _ _ => pts_one (pt_cmpR (op_gt) (pv 5) (pe_int) (nomark _))) (fun _ _ _ _ _ => pv 4) (fun _ _ _ _ _ => pe_op op_sub (pv 5) (pe_int))))))))
        (pss_one (ps_ret (pe_callTy (call_tupleP) (by rfl) Bb.tuple bb_tuple (pa_cons (pe_sortItems rfl (pv 2) rfl Bb.sorted) (pa_nil)))))))))

/-! ### board -/
abbrev s_board : Stmt := topS 16
theorem sc_board : FnScope ["seeds", "row", "item", "at", "a", "b", "w"] ["seeds", "row"] (defScope s_board) := ⟨rfl, rfl, rfl, by decide +kernel, rfl, by decide +kernel, by decide +kernel⟩
def L_board_1 : ME := mLc (miSeq (mVar 1)) (mgN 2) (mTest (mOp (fEq false) (mOp (fIc cPos fun i j => i % j) (mOpN fAdd (mOp (fIc cMul fun i j => i * j) (mVar 4) (mVar 2)) (mVar 5)) (mVar 6)) (mVar 3))) (mVar 2) [2]
def L_board_2 : ME := mLc (miR1 (aCons (mVar 6) (aNil))) (mgN 3) (mYes) (mLen (L_board_1)) [3]
def L_board_3 : ME := mLc (miSeq (mVar 0)) (mgT 3 (mgCons (mgN 4) (mgCons (mgN 5) (mgCons (mgN 6) (mgNil))))) (mYes) (mTuple (L_board_2)) [4, 5, 6]
def B_board : MS := sSeq (sDrop (mCall 1 M_check_seeds (aCons (mVar 0) (aNil))))
    (sSeq (sDrop (mCall 1 M_check_items (aCons (mVar 1) (aNil))))
    (sRet (mTuple (L_board_3))))
def M_board : MF := runF 7 0 0 B_board
theorem ok_board (Bb : Bl mg) (c_check_seeds : Cal P w K mg base 3 "check_seeds" ["seeds"] 1 M_check_seeds) (c_check_items : Cal P w K mg base 3 "check_items" ["row"] 1 M_check_items) {f : Addr} {fd : FuncData} (F : FunD K "board" "board" (defArgs s_board) (defBody s_board) (defScope s_board) [] [] f fd) : FnOk P w K mg base CX0 4 f fd ["seeds", "row"] (spM K 2 M_board) :=
  fn_okF (np := 0) (nc := 0) (m := B_board) F sc_board rfl rfl fun cdv A outer s H E hr => mkT
   (by exact refs_seq (refs_drop (ref_call (E := E0) (refa_cons (ref_var (i := 0)) (refa_nil))))
        (refs_seq (refs_drop (ref_call (E := E0) (refa_cons (ref_var (i := 1)) (refa_nil))))
        (refs_ret (ref_tuple (ref_lc (refi_seq (ref_var (i := 0))) (refg_tup (n := 3) (refgs_cons (refg_name (i := 4)) (refgs_cons (refg_name (i := 5)) (refgs_cons (refg_name (i := 6)) (refgs_nil))))) (reft_yes) (ref_tuple (ref_lc (refi_r1 (refa_cons (ref_var (i := 6)) (refa_nil))) (refg_name (i := 3)) (reft_yes) (ref_len (ref_lc (refi_seq (ref_var (i := 1))) (refg_name (i := 2)) (reft_test (ref_op (ops_eq (K := K)) (ref_op ops_mod (ref_opN (ops_addU (K := K)) (ref_op ops_mul (ref_var (i := 4)) (ref_var (i := 2))) (ref_var (i := 5))) (ref_var (i := 6))) (ref_var (i := 3)))) (ref_var (i := 2)) (by decide))) (by decide))) (by decide))))))
   (by
    conv in (defScope s_board) => whnf
    conv in (defBody s_board) => whnf
    exact pss_cons (ps_expr (pe_callM c_check_seeds (hr.mono (by decide)) rfl (pa_cons (pv 0) (pa_nil))))
        (pss_cons (ps_expr (pe_callM c_check_items (hr.mono (by decide)) rfl (pa_cons (pv 1) (pa_nil))))
        (pss_one (ps_ret (pe_callTy (call_tuple_of) (by rfl) Bb.tuple bb_tuple (pa_cons (pe_lc (own := [("a", 4), ("b", 5), ("w", 6)]) rfl sc_board.nd (pi_seq (pv 0)) (blkOk_by (by kernel_rfl)) (fun _ _ _ _ _ => pg_tup rfl (pgs_cons (pg_name (i := 4) sc_board.nd rfl (Or.inr rfl)) (pgs_cons (pg_name (i := 5) sc_board.nd rfl (Or.inr rfl)) (pgs_cons (pg_name (i := 6) sc_board.nd rfl (Or.inr rfl)) (pgs_nil))))) (fun _ _ _ _ _ => pts_nil) (fun _ _ _ _ _ => pe_callTy (call_tuple_of) (by rfl) Bb.tuple bb_tuple (pa_cons (pe_lc (own := [("at", 3)]) rfl sc_board.nd (pi_range1 rfl Bb.range (pa_cons (pv 6) (pa_nil))) (blkOk_by (by kernel_rfl)) (fun _ _ _ _ _ => pg_name (i := 3) sc_board.nd rfl (Or.inr rfl)) (fun _ _ _ _ _ => pts_nil) (fun _ _ _ _ _ => pe_callB (call_lenU) (by rfl) Bb.len bb_len (pa_cons (pe_lc (own := [("item", 2)]) rfl sc_board.nd (pi_seq (pv 1)) (blkOk_by (by kernel_rfl)) (fun _ _ _ _ _ => pg_name (i := 2) sc_board.nd rfl (Or.inl rfl)) (fun _ _ _ _ _ => pts_one (pt_cmpR (op_eqD hr.units) (pe_op op_mod (pe_op op_addU (pe_op op_mul (pv 4) (pv 2)) (pv 5)) (pv 6)) (pv 3) (nomark _))) (fun _ _ _ _ _ => pv 2)) (pa_nil)))) (pa_nil)))) (pa_nil)))))))

/-! ### told_count -/
abbrev s_told_count : Stmt := topS 18
theorem sc_told_count : FnScope ["seeds", "rows", "x", "row", "_", "w", "a", "b"] ["seeds", "rows", "x"] (defScope s_told_count) := ⟨rfl, rfl, rfl, by decide +kernel, rfl, by decide +kernel, by decide +kernel⟩
def L_told_count_1 : ME := mLc (miSeq (mVar 1)) (mgN 3) (mYes) (mLen (mVar 3)) [3]
def L_told_count_2 : ME := mLc (miSeq (mVar 0)) (mgT 3 (mgCons (mgN 4) (mgCons (mgN 4) (mgCons (mgN 5) (mgNil))))) (mYes) (mVar 5) [4, 5]
def L_told_count_3 : ME := mLc (miZip (aCons (mVar 0) (aCons (mVar 1) (aNil)))) (mgT 2 (mgCons (mgT 3 (mgCons (mgN 6) (mgCons (mgN 7) (mgCons (mgN 5) (mgNil))))) (mgCons (mgN 3) (mgNil)))) (mYes) (mSub (mVar 3) (mOp (fIc cPos fun i j => i % j) (mOpN fAdd (mOp (fIc cMul fun i j => i * j) (mVar 6) (mVar 2)) (mVar 7)) (mVar 5))) [3, 6, 7, 5]
def B_told_count : MS := sSeq (sDrop (mCall 1 M_check_seeds (aCons (mVar 0) (aNil))))
    (sSeq (sDrop (mCall 1 M_check_board (aCons (mVar 1) (aNil))))
    (sSeq (sIf (mTest (mOp (fEq true) (L_told_count_1) (L_told_count_2))) (sNever) (sNext))
    (sSeq (sIf (mNot (mTest (mCall 1 M_is_integer (aCons (mVar 2) (aNil))))) (sNever) (sNext))
    (sRet (mCB (f1 fMin) (aCons (L_told_count_3) (aNil)))))))
def M_told_count : MF := runF 8 0 0 B_told_count
theorem ok_told_count (Bb : Bl mg) (c_check_seeds : Cal P w K mg base 3 "check_seeds" ["seeds"] 1 M_check_seeds) (c_check_board : Cal P w K mg base 3 "check_board" ["rows"] 1 M_check_board) (c_is_integer : Cal P w K mg base 1 "is_integer" ["thing"] 1 M_is_integer) {f : Addr} {fd : FuncData} (F : FunD K "told_count" "told_count" (defArgs s_told_count) (defBody s_told_count) (defScope s_told_count) [] [] f fd) : FnOk P w K mg base CX0 4 f fd ["seeds", "rows", "x"] (spM K 3 M_told_count) :=
  fn_okF (np := 0) (nc := 0) (m := B_told_count) F sc_told_count rfl rfl fun cdv A outer s H E hr => mkT
   (by exact refs_seq (refs_drop (ref_call (E := E0) (refa_cons (ref_var (i := 0)) (refa_nil))))
        (refs_seq (refs_drop (ref_call (E := E0) (refa_cons (ref_var (i := 1)) (refa_nil))))
        (refs_seq (refs_if (reft_test (ref_op (ops_ne (K := K)) (ref_lc (refi_seq (ref_var (i := 1))) (refg_name (i := 3)) (reft_yes) (ref_len (ref_var (i := 3))) (by decide)) (ref_lc (refi_seq (ref_var (i := 0))) (refg_tup (n := 3) (refgs_cons (refg_name (i := 4)) (refgs_cons (refg_name (i := 4)) (refgs_cons (refg_name (i := 5)) (refgs_nil))))) (reft_yes) (ref_var (i := 5)) (by decide)))) (refs_never) (refs_next))
        (refs_seq (refs_if (reft_not (reft_B (ref_call (E := E0) (refa_cons (ref_var (i := 2)) (refa_nil))))) (refs_never) (refs_next))
        (refs_ret (ref_cb (cal_min (K := K)) (refa_cons (ref_lc (refi_zip (refa_cons (ref_var (i := 0)) (refa_cons (ref_var (i := 1)) (refa_nil)))) (refg_tup (n := 2) (refgs_cons (refg_tup (n := 3) (refgs_cons (refg_name (i := 6)) (refgs_cons (refg_name (i := 7)) (refgs_cons (refg_name (i := 5)) (refgs_nil))))) (refgs_cons (refg_name (i := 3)) (refgs_nil)))) (reft_yes) (ref_sub (ref_var (i := 3)) (ref_op ops_mod (ref_opN (ops_addU (K := K)) (ref_op ops_mul (ref_var (i := 6)) (ref_var (i := 2))) (ref_var (i := 7))) (ref_var (i := 5)))) (by decide)) (refa_nil))))))))
   (by
    conv in (defScope s_told_count) => whnf
    conv in (defBody s_told_count) => whnf
    exact pss_cons (ps_expr (pe_callM c_check_seeds (hr.mono (by decide)) rfl (pa_cons (pv 0) (pa_nil))))
        (pss_cons (ps_expr (pe_callM c_check_board (hr.mono (by decide)) rfl (pa_cons (pv 1) (pa_nil))))
        (pss_cons (ps_if (pt_cmpR (op_neD hr.units) (pe_lc (own := [("row", 3)]) rfl sc_told_count.nd (pi_seq (pv 1)) (blkOk_by (by kernel_rfl)) (fun _ _ _ _ _ => pg_name (i := 3) sc_told_count.nd rfl (Or.inl rfl)) (fun _ _ _ _ _ => pts_nil) (fun _ _ _ _ _ => pe_callB (call_lenU) (by rfl) Bb.len bb_len (pa_cons (pv 3) (pa_nil)))) (pe_lc (own := [("_", 4), ("w", 5)]) rfl sc_told_count.nd (pi_seq (pv 0)) (blkOk_by (by kernel_rfl)) (fun _ _ _ _ _ => pg_tup rfl (pgs_cons (pg_name (i := 4) sc_told_count.nd rfl (Or.inl rfl)) (pgs_cons (pg_name (i := 4) sc_told_count.nd rfl (Or.inl rfl)) (pgs_cons (pg_name (i := 5) sc_told_count.nd rfl (Or.inl rfl)) (pgs_nil))))) (fun _ _ _ _ _ => pts_nil) (fun _ _ _ _ _ => pv 5)) (nomark _)) (pss_one (ps_never)) (pss_nil))
        (pss_cons (ps_if (pt_not (pt_val (pe_callM c_is_integer (hr.mono (by decide)) rfl (pa_cons (pv 2) (pa_nil))))) (pss_one (ps_never)) (pss_nil))
        (pss_one (ps_ret (pe_callB (cr_min rfl) (by rfl) Bb.min bb_min (pa_cons (pe_lc (own := [("row", 3), ("a", 6), ("b", 7), ("w", 5)]) rfl sc_told_count.nd (RZ.pi_zipA rfl Bb.zip (pa_cons (pv 0) (pa_cons (pv 1) (pa_nil)))) (blkOk_by (by kernel_rfl)) (fun _ _ _ _ _ => pg_tup rfl (pgs_cons (pg_tup rfl (pgs_cons (pg_name (i := 6) sc_told_count.nd rfl (Or.inl rfl)) (pgs_cons (pg_name (i := 7) sc_told_count.nd rfl (Or.inl rfl)) (pgs_cons (pg_name (i := 5) sc_told_count.nd rfl (Or.inl rfl)) (pgs_nil))))) (pgs_cons (pg_name (i := 3) sc_told_count.nd rfl (Or.inl rfl)) (pgs_nil)))) (fun _ _ _ _ _ => pts_nil) (fun _ _ _ _ _ => pe_sub (hu_of hr) (pv 3) (pe_op op_mod (pe_op op_addU (pe_op op_mul (pv 6) (pv 2)) (pv 7)) (pv 5)) (fun _ _ => rfl))) (pa_nil)))))))))

/-! ### both -/
abbrev s_both : Stmt := topS 19
theorem sc_both : FnScope ["rows", "others", "row", "one", "two", "other"] ["rows", "others"] (defScope s_both) := ⟨rfl, rfl, rfl, by decide +kernel, rfl, by decide +kernel, by decide +kernel⟩
def L_both_1 : ME := mLc (miSeq (mVar 0)) (mgN 2) (mYes) (mLen (mVar 2)) [2]
def L_both_2 : ME := mLc (miSeq (mVar 1)) (mgN 2) (mYes) (mLen (mVar 2)) [2]
def L_both_3 : ME := mLc (miZip (aCons (mVar 2) (aCons (mVar 5) (aNil)))) (mgT 2 (mgCons (mgN 3) (mgCons (mgN 4) (mgNil)))) (mYes) (mOpN fAdd (mVar 3) (mVar 4)) [3, 4]
def L_both_4 : ME := mLc (miZip (aCons (mVar 0) (aCons (mVar 1) (aNil)))) (mgT 2 (mgCons (mgN 2) (mgCons (mgN 5) (mgNil)))) (mYes) (mTuple (L_both_3)) [2, 5]
def B_both : MS := sSeq (sDrop (mCall 1 M_check_board (aCons (mVar 0) (aNil))))
    (sSeq (sDrop (mCall 1 M_check_board (aCons (mVar 1) (aNil))))
    (sSeq (sIf (mTest (mOp (fEq true) (L_both_1) (L_both_2))) (sNever) (sNext))
    (sRet (mTuple (L_both_4)))))
def M_both : MF := runF 6 0 0 B_both
theorem ok_both (Bb : Bl mg) (c_check_board : Cal P w K mg base 3 "check_board" ["rows"] 1 M_check_board) {f : Addr} {fd : FuncData} (F : FunD K "both" "both" (defArgs s_both) (defBody s_both) (defScope s_both) [] [] f fd) : FnOk P w K mg base CX0 4 f fd ["rows", "others"] (spM K 2 M_both) :=
  fn_okF (np := 0) (nc := 0) (m := B_both) F sc_both rfl rfl fun cdv A outer s H E hr => mkT
   (by exact refs_seq (refs_drop (ref_call (E := E0) (refa_cons (ref_var (i := 0)) (refa_nil))))
        (refs_seq (refs_drop (ref_call (E := E0) (refa_cons (ref_var (i := 1)) (refa_nil))))
        (refs_seq (refs_if (reft_test (ref_op (ops_ne (K := K)) (ref_lc (refi_seq (ref_var (i := 0))) (refg_name (i := 2)) (reft_yes) (ref_len (ref_var (i := 2))) (by decide)) (ref_lc (refi_seq (ref_var (i := 1))) (refg_name (i := 2)) (reft_yes) (ref_len (ref_var (i := 2))) (by decide)))) (refs_never) (refs_next))
        (refs_ret (ref_tuple (ref_lc (refi_zip (refa_cons (ref_var (i := 0)) (refa_cons (ref_var (i := 1)) (refa_nil)))) (refg_tup (n := 2) (refgs_cons (refg_name (i := 2)) (refgs_cons (refg_name (i := 5)) (refgs_nil)))) (reft_yes) (ref_tuple (ref_lc (refi_zip (refa_cons (ref_var (i := 2)) (refa_cons (ref_var (i := 5)) (refa_nil)))) (refg_tup (n := 2) (refgs_cons (refg_name (i := 3)) (refgs_cons (refg_name (i := 4)) (refgs_nil)))) (reft_yes) (ref_opN (ops_addU (K := K)) (ref_var (i := 3)) (ref_var (i := 4))) (by decide))) (by decide)))))))
   (by
    conv in (defScope s_both) => whnf
    conv in (defBody s_both) => whnf
    exact pss_cons (ps_expr (pe_callM c_check_board (hr.mono (by decide)) rfl (pa_cons (pv 0) (pa_nil))))
        (pss_cons (ps_expr (pe_callM c_check_board (hr.mono (by decide)) rfl (pa_cons (pv 1) (pa_nil))))
        (pss_cons (ps_if (pt_cmpR (op_neD hr.units) (pe_lc (own := [("row", 2)]) rfl sc_both.nd (pi_seq (pv 0)) (blkOk_by (by kernel_rfl)) (fun _ _ _ _ _ => pg_name (i := 2) sc_both.nd rfl (Or.inl rfl)) (fun _ _ _ _ _ => pts_nil) (fun _ _ _ _ _ => pe_callB (call_lenU) (by rfl) Bb.len bb_len (pa_cons (pv 2) (pa_nil)))) (pe_lc (own := [("row", 2)]) rfl sc_both.nd (pi_seq (pv 1)) (blkOk_by (by kernel_rfl)) (fun _ _ _ _ _ => pg_name (i := 2) sc_both.nd rfl (Or.inl rfl)) (fun _ _ _ _ _ => pts_nil) (fun _ _ _ _ _ => pe_callB (call_lenU) (by rfl) Bb.len bb_len (pa_cons (pv 2) (pa_nil)))) (nomark _)) (pss_one (ps_never)) (pss_nil))
        (pss_one (ps_ret (pe_callTy (call_tuple_of) (by rfl) Bb.tuple bb_tuple (pa_cons (pe_lc (own := [("row", 2), ("other", 5)]) rfl sc_both.nd (RZ.pi_zipA rfl Bb.zip (pa_cons (pv 0) (pa_cons (pv 1) (pa_nil)))) (blkOk_by (by kernel_rfl)) (fun _ _ _ _ _ => pg_tup rfl (pgs_cons (pg_name (i := 2) sc_both.nd rfl (Or.inl rfl)) (pgs_cons (pg_name (i := 5) sc_both.nd rfl (Or.inl rfl)) (pgs_nil)))) (fun _ _ _ _ _ => pts_nil) (fun _ _ _ _ _ => pe_callTy (call_tuple_of) (by rfl) Bb.tuple bb_tuple (pa_cons (pe_lc (own := [("one", 3), ("two", 4)]) rfl sc_both.nd (RZ.pi_zipA rfl Bb.zip (pa_cons (pv 2) (pa_cons (pv 5) (pa_nil)))) (blkOk_by (by kernel_rfl)) (fun _ _ _ _ _ => pg_tup rfl (pgs_cons (pg_name (i := 3) sc_both.nd rfl (Or.inl rfl)) (pgs_cons (pg_name (i := 4) sc_both.nd rfl (Or.inl rfl)) (pgs_nil)))) (fun _ _ _ _ _ => pts_nil) (fun _ _ _ _ _ => pe_op op_addU (pv 3) (pv 4))) (pa_nil)))) (pa_nil))))))))

/-! ### _law_counts -/
abbrev s__law_counts : Stmt := topS 27
theorem sc__law_counts : FnScope ["box", "n", "kinds", "c", "row", "i", "told", "counts", "s", "x", "less", "found", "other", "numbers", "good"] ["box"] (defScope s__law_counts) := ⟨rfl, rfl, rfl, by decide +kernel, rfl, by decide +kernel, by decide +kernel⟩
def L__law_counts_1 : ME := mLc (miR1 (aCons (mVar 1) (aNil))) (mgN 5) (mYes) (mCall 2 M__law_draw (aCons (mVar 0) (aCons (mVar 2) (aNil)))) [5]
def L__law_counts_2 : ME := mLc (miKeys 7) (mgN 9) (mYes) (mSub (mVar 7) (mVar 9)) [9]
def S__law_counts_3 : MS := sFor (miSeq (mCall 2 M__law_rows (aCons (mVar 1) (aCons (mVar 2) (aNil))))) (mgN 12) [12]
    (sIf (mTest (mOp (fEq false) (mCall 2 M_counted (aCons (mVar 3) (aCons (mVar 12) (aNil)))) (mVar 6))) (sPut (mVar 11) (mCall 2 M__law_numbers (aCons (mVar 12) (aCons (mVar 2) (aNil)))) (mC (.bool true))) (sNext))
def L__law_counts_4 : ME := mLc (miR1 (aCons (mVar 2) (aNil))) (mgN 9) (mYes) (mChain (fB fun i j => decide (i ≤ j)) (fB fun i j => decide (i ≤ j)) (mIf (mTest (mIn false (mVar 9) (mVar 7))) (mSub (mVar 7) (mVar 9)) (mC (.int 0))) (mSub (mVar 13) (mVar 9)) (mOpN fAdd (mIf (mTest (mIn false (mVar 9) (mVar 7))) (mSub (mVar 7) (mVar 9)) (mC (.int 0))) (mVar 10))) [9]
def S__law_counts_5 : MS := sFor (miSeq (mCall 2 M__law_sums (aCons (mVar 1) (aCons (mVar 2) (aNil))))) (mgN 13) [13, 14]
    (sSeq (sAsg 14 (mCB (f1 fAll) (aCons (L__law_counts_4) (aNil))))
    (sIf (mOr (mAnd (mTest (mIn false (mVar 13) (mVar 11))) (mNot (mTest (mVar 14)))) (mAnd (mTest (mVar 14)) (mAnd (mTest (mOp (fB fun i j => decide (i ≤ j)) (mOpN fAdd (mVar 3) (mC (.int 1))) (mVar 2))) (mTest (mIn true (mVar 13) (mVar 11)))))) (sRet (mC (.bool false))) (sNext)))
def B__law_counts : MS := sSeq (sAsgG (mgT 3 (mgCons (mgN 1) (mgCons (mgN 2) (mgCons (mgN 3) (mgNil))))) (mTup (aCons (mCall 2 M__law_draw (aCons (mVar 0) (aCons (mC (.int 6)) (aNil)))) (aCons (mC (.int 3)) (aCons (mOpN fAdd (mC (.int 1)) (mCall 2 M__law_draw (aCons (mVar 0) (aCons (mC (.int 3)) (aNil))))) (aNil))))))
    (sSeq (sAsg 4 (mTuple (L__law_counts_1)))
    (sSeq (sAsg 6 (mCall 2 M_counted (aCons (mVar 3) (aCons (mVar 4) (aNil)))))
    (sSeq (sNew 1 7 1 (mDict (mVar 6)))
    (sSeq (sAsg 8 (mCB (f1 fSumU) (aCons (mLock 7 (L__law_counts_2)) (aNil))))
    (sSeq (sIf (mTest (mOp (fEq true) (mOp (fIc cPos fun i j => i % j) (mOp (fI fun i j => i - j) (mVar 1) (mVar 8)) (mOpN fAdd (mVar 3) (mC (.int 1)))) (mC (.int 0)))) (sRet (mC (.bool false))) (sNext))
    (sSeq (sAsg 10 (mOp (fIc cDivW fun i j => i / j) (mOp (fI fun i j => i - j) (mVar 1) (mVar 8)) (mOpN fAdd (mVar 3) (mC (.int 1)))))
    (sSeq (sNew 1 11 2 (mNewT))
    (sSeq (S__law_counts_3)
    (sSeq (S__law_counts_5)
    (sRet (mC (.bool true))))))))))))
def M__law_counts : MF := runF 15 1 2 B__law_counts
theorem ok__law_counts (Bb : Bl mg) (c_counted : Cal P w K mg base 4 "counted" ["c", "row"] 2 M_counted) (c__law_rows : Cal P w K mg base 1 "_law_rows" ["n", "kinds"] 2 M__law_rows) (c__law_sums : Cal P w K mg base 1 "_law_sums" ["n", "kinds"] 2 M__law_sums) (c__law_draw : Cal P w K mg base 1 "_law_draw" ["box", "many"] 2 M__law_draw) (c__law_numbers : Cal P w K mg base 1 "_law_numbers" ["row", "kinds"] 2 M__law_numbers) {f : Addr} {fd : FuncData} (F : FunD K "_law_counts" "_law_counts" (defArgs s__law_counts) (defBody s__law_counts) (defScope s__law_counts) [] [] f fd) : FnOk P w K mg base CX0 5 f fd ["box"] (spM K 1 M__law_counts) :=
  fn_okF (np := 1) (nc := 2) (m := B__law_counts) F sc__law_counts rfl rfl fun cdv A outer s H E hr => mkT
   (by exact refs_seq (refs_asgG (ref_tup (refa_cons (ref_call (E := E0) (refa_cons (ref_var (i := 0)) (refa_cons (ref_int) (refa_nil)))) (refa_cons (ref_int) (refa_cons (ref_opN (ops_addU (K := K)) (ref_int) (ref_call (E := E0) (refa_cons (ref_var (i := 0)) (refa_cons (ref_int) (refa_nil))))) (refa_nil))))) (refg_tup (n := 3) (refgs_cons (refg_name (i := 1)) (refgs_cons (refg_name (i := 2)) (refgs_cons (refg_name (i := 3)) (refgs_nil))))))
        (refs_seq (refs_asg (ref_tuple (ref_lc (refi_r1 (refa_cons (ref_var (i := 1)) (refa_nil))) (refg_name (i := 5)) (reft_yes) (ref_call (E := E0) (refa_cons (ref_var (i := 0)) (refa_cons (ref_var (i := 2)) (refa_nil)))) (by decide))))
        (refs_seq (refs_asg (ref_call (E := E0) (refa_cons (ref_var (i := 3)) (refa_cons (ref_var (i := 4)) (refa_nil)))))
        (refs_seq (refs_new (np := 1) (i := 7) (k := 1) (ref_dict (ref_var (i := 6))))
        (refs_seq (refs_asg (ref_cb (cal_sumU (K := K)) (refa_cons (ref_lock (i := 7) (ref_lc (refi_keys (i := 7)) (refg_name (i := 9)) (reft_yes) (ref_sub (ref_var (i := 7)) (ref_var (i := 9))) (by decide))) (refa_nil))))
        (refs_seq (refs_if (reft_test (ref_op (ops_ne (K := K)) (ref_op ops_mod (ref_op ops_I (ref_var (i := 1)) (ref_var (i := 8))) (ref_opN (ops_addU (K := K)) (ref_var (i := 3)) (ref_int))) (ref_int))) (refs_ret (ref_bl)) (refs_next))
        (refs_seq (refs_asg (ref_op ops_div (ref_op ops_I (ref_var (i := 1)) (ref_var (i := 8))) (ref_opN (ops_addU (K := K)) (ref_var (i := 3)) (ref_int))))
        (refs_seq (refs_new (np := 1) (i := 11) (k := 2) (ref_newT))
        (refs_seq (refs_for (kl := [12]) (refi_seq (ref_call (E := E0) (refa_cons (ref_var (i := 1)) (refa_cons (ref_var (i := 2)) (refa_nil))))) (refg_name (i := 12))
        (refs_if (reft_test (ref_op (ops_eq (K := K)) (ref_call (E := E0) (refa_cons (ref_var (i := 3)) (refa_cons (ref_var (i := 12)) (refa_nil)))) (ref_var (i := 6)))) (refs_put (ref_var (i := 11)) (ref_call (E := E0) (refa_cons (ref_var (i := 12)) (refa_cons (ref_var (i := 2)) (refa_nil)))) (ref_bl)) (refs_next)))
        (refs_seq (refs_for (kl := [13, 14]) (refi_seq (ref_call (E := E0) (refa_cons (ref_var (i := 1)) (refa_cons (ref_var (i := 2)) (refa_nil))))) (refg_name (i := 13))
        (refs_seq (refs_asg (ref_cb (cal_all (K := K)) (refa_cons (ref_lc (refi_r1 (refa_cons (ref_var (i := 2)) (refa_nil))) (refg_name (i := 9)) (reft_yes) (ref_chain ops_B ops_B (ref_if (reft_B (ref_in (ref_var (i := 9)) (ref_var (i := 7)))) (ref_sub (ref_var (i := 7)) (ref_var (i := 9))) (ref_int)) (ref_sub (ref_var (i := 13)) (ref_var (i := 9))) (ref_opN (ops_addU (K := K)) (ref_if (reft_B (ref_in (ref_var (i := 9)) (ref_var (i := 7)))) (ref_sub (ref_var (i := 7)) (ref_var (i := 9))) (ref_int)) (ref_var (i := 10)))) (by decide)) (refa_nil))))
        (refs_if (reft_or (reft_and (reft_B (ref_in (ref_var (i := 13)) (ref_var (i := 11)))) (reft_not (reft_B (ref_var (i := 14))))) (reft_and (reft_B (ref_var (i := 14))) (reft_and (reft_test (ref_op ops_B (ref_opN (ops_addU (K := K)) (ref_var (i := 3)) (ref_int)) (ref_var (i := 2)))) (reft_B (ref_notin (ref_var (i := 13)) (ref_var (i := 11))))))) (refs_ret (ref_bl)) (refs_next))))
        (refs_ret (ref_bl))))))))))))
   (by
    conv in (defScope s__law_counts) => whnf
    conv in (defBody s__law_counts) => whnf
    exact pss_cons (ps_asg (pe_tup (pa_cons (pe_callM c__law_draw (hr.mono (by decide)) rfl (pa_cons (pv 0) (pa_cons (pe_int) (pa_nil)))) (pa_cons (pe_int) (pa_cons (pe_op op_addU (pe_int) (pe_callM c__law_draw (hr.mono (by decide)) rfl (pa_cons (pv 0) (pa_cons (pe_int) (pa_nil))))) (pa_nil))))) (pg_tup rfl (pgs_cons (pg_name (i := 1) sc__law_counts.nd rfl (Or.inl rfl)) (pgs_cons (pg_name (i := 2) sc__law_counts.nd rfl (Or.inr rfl)) (pgs_cons (pg_name (i := 3) sc__law_counts.nd rfl (Or.inl rfl)) (pgs_nil))))))
        (pss_cons (ps_set (i := 4) sc__law_counts.nd rfl (Or.inl rfl) (pe_callTy (call_tuple_of) (by rfl) Bb.tuple bb_tuple (pa_cons (pe_lc (own := [("i", 5)]) rfl sc__law_counts.nd (pi_range1 rfl Bb.range (pa_cons (pv 1) (pa_nil))) (blkOk_by (by kernel_rfl)) (fun _ _ _ _ _ => pg_name (i := 5) sc__law_counts.nd rfl (Or.inl rfl)) (fun _ _ _ _ _ => pts_nil) (fun _ _ _ _ _ => pe_callM c__law_draw (hr.mono (by decide)) rfl (pa_cons (pv 0) (pa_cons (pv 2) (pa_nil))))) (pa_nil))))
        (pss_cons (ps_set (i := 6) sc__law_counts.nd rfl (Or.inl rfl) (pe_callM c_counted (hr.mono (by decide)) rfl (pa_cons (pv 3) (pa_cons (pv 4) (pa_nil)))))
        (pss_cons (ps_set (i := 7) sc__law_counts.nd rfl (Or.inr rfl) (pe_callTy (call_dictU rfl) (by rfl) Bb.dict bb_dict (pa_cons (pv 6) (pa_nil))))
        (pss_cons (ps_set (i := 8) sc__law_counts.nd rfl (Or.inl rfl) (pe_callB (cr_sumU rfl) (by rfl) Bb.sum bb_sum (pa_cons (pe_lock (pe_lc (own := [("x", 9)]) rfl sc__law_counts.nd (pi_keys (pv 7)) (blkOk_by (by kernel_rfl)) (fun _ _ _ _ _ => pg_name (i := 9) sc__law_counts.nd rfl (Or.inl rfl)) (fun _ _ _ _ _ => pts_nil) (fun _ _ _ _ _ => pe_sub (hu_of hr) (pv 7) (pv 9) (fun _ _ => rfl)))) (pa_nil))))
        (pss_cons (ps_if (pt_cmpR (op_neD hr.units) (pe_op op_mod (pe_op op_sub (pv 1) (pv 8)) (pe_op op_addU (pv 3) (pe_int))) (pe_int) (nomark _)) (pss_one (ps_ret (pe_bl))) (pss_nil))
        (pss_cons (ps_set (i := 10) sc__law_counts.nd rfl (Or.inr rfl) (pe_op op_fdivW (pe_op op_sub (pv 1) (pv 8)) (pe_op op_addU (pv 3) (pe_int))))
        (pss_cons (ps_set (i := 11) sc__law_counts.nd rfl (Or.inl rfl) (pe_dnewT))
        (pss_cons (ps_for PassesOwn.never rfl (pi_seq (pe_callM c__law_rows (hr.mono (by decide)) rfl (pa_cons (pv 1) (pa_cons (pv 2) (pa_nil))))) (pg_name (i := 12) sc__law_counts.nd rfl (Or.inl rfl))
        (pss_one (ps_if (pt_cmpR (op_eqD hr.units) (pe_callM c_counted (hr.mono (by decide)) rfl (pa_cons (pv 3) (pa_cons (pv 12) (pa_nil)))) (pv 6) (nomark _)) (pss_one (ps_dput (hu_of hr) (pv 11) (pe_callM c__law_numbers (hr.mono (by decide)) rfl (pa_cons (pv 12) (pa_cons (pv 2) (pa_nil)))) (pe_bl) rfl)) (pss_nil))))
        (pss_cons (ps_for PassesOwn.never rfl (pi_seq (pe_callM c__law_sums (hr.mono (by decide)) rfl (pa_cons (pv 1) (pa_cons (pv 2) (pa_nil))))) (pg_name (i := 13) sc__law_counts.nd rfl (Or.inr rfl))
        (pss_cons (ps_set (i := 14) sc__law_counts.nd rfl (Or.inl rfl) (pe_callB (cr_all rfl) (by rfl) Bb.all bb_all (pa_cons (pe_lc (own := [("x", 9)]) rfl sc__law_counts.nd (pi_range1 rfl Bb.range (pa_cons (pv 2) (pa_nil))) (blkOk_by (by kernel_rfl)) (fun _ _ _ _ _ => pg_name (i := 9) sc__law_counts.nd rfl (Or.inl rfl)) (fun _ _ _ _ _ => pts_nil) (fun _ _ _ _ _ => pe_chain (op_le) (op_le) (pe_ifExp (pt_in (u65 hr) (pv 9) (pv 7) rfl) (pe_sub (hu_of hr) (pv 7) (pv 9) (fun _ _ => rfl)) (pe_int)) (pe_sub (hu_of hr) (pv 13) (pv 9) (fun _ _ => rfl)) (pe_op op_addU (pe_ifExp (pt_in (u65 hr) (pv 9) (pv 7) rfl) (pe_sub (hu_of hr) (pv 7) (pv 9) (fun _ _ => rfl)) (pe_int)) (pv 10)))) (pa_nil))))
        (pss_one (ps_if (PW.pt (pw_or (PW.pt (pw_and (pt_in (u65 hr) (pv 13) (pv 11) rfl) (pw_and1 (pt_not (pt_val (pv 14)))))) (pw_or1 (PW.pt (pw_and (pt_val (pv 14)) (pw_and (pt_cmpR (op_le) (pe_op op_addU (pv 3) (pe_int)) (pv 2) (nomark _)) (pw_and1 (pt_notin (u65 hr) (pv 13) (pv 11) rfl)))))))) (pss_one (ps_ret (pe_bl))) (pss_nil)))))
        (pss_one (ps_ret (pe_bl)))))))))))))

/-! ### _law_together -/
abbrev s__law_together : Stmt := topS 29
theorem sc__law_together : FnScope ["box", "c", "one", "two", "i", "first", "second", "whole", "x", "order", "cut", "kept", "n", "s", "many", "y", "count"] ["box"] (defScope s__law_together) := ⟨rfl, rfl, rfl, by decide +kernel, rfl, by decide +kernel, by decide +kernel⟩
def L__law_together_1 : ME := mLc (miR1 (aCons (mCall 2 M__law_draw (aCons (mVar 0) (aCons (mC (.int 12)) (aNil)))) (aNil))) (mgN 4) (mYes) (mCall 2 M__law_draw (aCons (mVar 0) (aCons (mC (.int 5)) (aNil)))) [4]
def S__law_together_2 : MS := sFor (miR1 (aCons (mC (.int 5)) (aNil))) (mgN 8) [8]
    (sPut (mVar 7) (mVar 8) (mOpN fAdd (mIf (mTest (mIn false (mVar 8) (mVar 5))) (mSub (mVar 5) (mVar 8)) (mC (.int 0))) (mIf (mTest (mIn false (mVar 8) (mVar 6))) (mSub (mVar 6) (mVar 8)) (mC (.int 0)))))
def L__law_together_3 : ME := mLc (miKeys 7) (mgN 8) (mYes) (mSub (mVar 7) (mVar 8)) [8]
def L__law_together_4 : ME := mLc (miKeys 7) (mgN 8) (mTest (mOp (fB fun i j => decide (j < i)) (mSub (mVar 7) (mVar 8)) (mVar 10))) (mTup (aCons (mVar 8) (aCons (mOp (fI fun i j => i - j) (mSub (mVar 7) (mVar 8)) (mVar 10)) (aNil)))) [8]
def L__law_together_5 : ME := mLc (miKeys 11) (mgN 8) (mYes) (mSub (mVar 11) (mVar 8)) [8]
def L__law_together_6 : ME := mLc (miSeq (mOpN fAdd (mVar 2) (mVar 3))) (mgN 15) (mTest (mOp (fEq false) (mVar 15) (mVar 8))) (mVar 15) [15]
def S__law_together_7 : MS := sFor (miR1 (aCons (mC (.int 5)) (aNil))) (mgN 8) [14, 16]
    (sSeq (sAsg 14 (mLen (L__law_together_6)))
    (sSeq (sAsg 16 (mIf (mTest (mIn false (mVar 8) (mVar 11))) (mSub (mVar 11) (mVar 8)) (mC (.int 0))))
    (sIf (mOr (mNot (mTest (mOp (fB fun i j => decide (i ≤ j)) (mVar 16) (mVar 14)))) (mTest (mOp (fB fun i j => decide (j < i)) (mOp (fIc cMul fun i j => i * j) (mOp (fI fun i j => i - j) (mVar 14) (mVar 16)) (mOpN fAdd (mVar 1) (mC (.int 1)))) (mOp (fI fun i j => i - j) (mVar 12) (mVar 13))))) (sRet (mC (.bool false))) (sNext))))
def B__law_together : MS := sSeq (sAsg 1 (mOpN fAdd (mC (.int 1)) (mCall 2 M__law_draw (aCons (mVar 0) (aCons (mC (.int 3)) (aNil))))))
    (sSeq (sPar 2 3 (aCons (mTuple (L__law_together_1)) (aCons (mTuple (L__law_together_1)) (aNil))))
    (sSeq (sParN 1 5 1 6 2 (mDict (mCall 2 M_counted (aCons (mVar 1) (aCons (mVar 2) (aNil))))) (mDict (mCall 2 M_counted (aCons (mVar 1) (aCons (mVar 3) (aNil))))))
    (sSeq (sNew 1 7 3 (mNewK))
    (sSeq (S__law_together_2)
    (sSeq (sAsg 9 (mRevL (mSort (mLock 7 (L__law_together_3)))))
    (sSeq (sAsg 10 (mIf (mTest (mOp (fB fun i j => decide (j < i)) (mLen (mVar 9)) (mVar 1))) (mSub (mVar 9) (mVar 1)) (mC (.int 0))))
    (sSeq (sNew 1 11 4 (mDict (mLock 7 (L__law_together_4))))
    (sSeq (sPar 12 13 (aCons (mOpN fAdd (mLen (mVar 2)) (mLen (mVar 3))) (aCons (mCB (f1 fSumU) (aCons (mLock 11 (L__law_together_5)) (aNil))) (aNil))))
    (sSeq (S__law_together_7)
    (sRet (mOp (fB fun i j => decide (i ≤ j)) (mLen (mVar 11)) (mVar 1))))))))))))
def M__law_together : MF := runF 17 1 4 B__law_together
theorem ok__law_together (Bb : Bl mg) (c__law_draw : Cal P w K mg base 1 "_law_draw" ["box", "many"] 2 M__law_draw) (c_counted : Cal P w K mg base 4 "counted" ["c", "row"] 2 M_counted) {f : Addr} {fd : FuncData} (F : FunD K "_law_together" "_law_together" (defArgs s__law_together) (defBody s__law_together) (defScope s__law_together) [] [] f fd) : FnOk P w K mg base CX0 5 f fd ["box"] (spM K 1 M__law_together) :=
  fn_okF (np := 1) (nc := 4) (m := B__law_together) F sc__law_together rfl rfl fun cdv A outer s H E hr => mkT
   (by exact refs_seq (refs_asg (ref_opN (ops_addU (K := K)) (ref_int) (ref_call (E := E0) (refa_cons (ref_var (i := 0)) (refa_cons (ref_int) (refa_nil))))))
        (refs_seq (refs_par (refa_cons (ref_tuple (ref_lc (refi_r1 (refa_cons (ref_call (E := E0) (refa_cons (ref_var (i := 0)) (refa_cons (ref_int) (refa_nil)))) (refa_nil))) (refg_name (i := 4)) (reft_yes) (ref_call (E := E0) (refa_cons (ref_var (i := 0)) (refa_cons (ref_int) (refa_nil)))) (by decide))) (refa_cons (ref_tuple (ref_lc (refi_r1 (refa_cons (ref_call (E := E0) (refa_cons (ref_var (i := 0)) (refa_cons (ref_int) (refa_nil)))) (refa_nil))) (refg_name (i := 4)) (reft_yes) (ref_call (E := E0) (refa_cons (ref_var (i := 0)) (refa_cons (ref_int) (refa_nil)))) (by decide))) (refa_nil))))
        (refs_seq (refs_parN (np := 1) (ref_dict (ref_call (E := E0) (refa_cons (ref_var (i := 1)) (refa_cons (ref_var (i := 2)) (refa_nil))))) (ref_dict (ref_call (E := E0) (refa_cons (ref_var (i := 1)) (refa_cons (ref_var (i := 3)) (refa_nil))))))
        (refs_seq (refs_new (np := 1) (i := 7) (k := 3) (ref_newK))
        (refs_seq (refs_for (kl := [8]) (refi_r1 (refa_cons (ref_int) (refa_nil))) (refg_name (i := 8))
        (refs_put (ref_var (i := 7)) (ref_var (i := 8)) (ref_opN (ops_addU (K := K)) (ref_if (reft_B (ref_in (ref_var (i := 8)) (ref_var (i := 5)))) (ref_sub (ref_var (i := 5)) (ref_var (i := 8))) (ref_int)) (ref_if (reft_B (ref_in (ref_var (i := 8)) (ref_var (i := 6)))) (ref_sub (ref_var (i := 6)) (ref_var (i := 8))) (ref_int)))))
        (refs_seq (refs_asg (ref_revL (ref_sort (ref_lock (i := 7) (ref_lc (refi_keys (i := 7)) (refg_name (i := 8)) (reft_yes) (ref_sub (ref_var (i := 7)) (ref_var (i := 8))) (by decide))))))
        (refs_seq (refs_asg (ref_if (reft_test (ref_op ops_B (ref_len (ref_var (i := 9))) (ref_var (i := 1)))) (ref_sub (ref_var (i := 9)) (ref_var (i := 1))) (ref_int)))
        (refs_seq (refs_new (np := 1) (i := 11) (k := 4) (ref_dict (ref_lock (i := 7) (ref_lc (refi_keys (i := 7)) (refg_name (i := 8)) (reft_test (ref_op ops_B (ref_sub (ref_var (i := 7)) (ref_var (i := 8))) (ref_var (i := 10)))) (ref_tup (refa_cons (ref_var (i := 8)) (refa_cons (ref_op ops_I (ref_sub (ref_var (i := 7)) (ref_var (i := 8))) (ref_var (i := 10))) (refa_nil)))) (by decide)))))
        (refs_seq (refs_par (refa_cons (ref_opN (ops_addU (K := K)) (ref_len (ref_var (i := 2))) (ref_len (ref_var (i := 3)))) (refa_cons (ref_cb (cal_sumU (K := K)) (refa_cons (ref_lock (i := 11) (ref_lc (refi_keys (i := 11)) (refg_name (i := 8)) (reft_yes) (ref_sub (ref_var (i := 11)) (ref_var (i := 8))) (by decide))) (refa_nil))) (refa_nil))))
        (refs_seq (refs_for (kl := [14, 16]) (refi_r1 (refa_cons (ref_int) (refa_nil))) (refg_name (i := 8))
        (refs_seq (refs_asg (ref_len (ref_lc (refi_seq (ref_opN (ops_addU (K := K)) (ref_var (i := 2)) (ref_var (i := 3)))) (refg_name (i := 15)) (reft_test (ref_op (ops_eq (K := K)) (ref_var (i := 15)) (ref_var (i := 8)))) (ref_var (i := 15)) (by decide))))
        (refs_seq (refs_asg (ref_if (reft_B (ref_in (ref_var (i := 8)) (ref_var (i := 11)))) (ref_sub (ref_var (i := 11)) (ref_var (i := 8))) (ref_int)))
        (refs_if (reft_or (reft_not (reft_test (ref_op ops_B (ref_var (i := 16)) (ref_var (i := 14))))) (reft_test (ref_op ops_B (ref_op ops_mul (ref_op ops_I (ref_var (i := 14)) (ref_var (i := 16))) (ref_opN (ops_addU (K := K)) (ref_var (i := 1)) (ref_int))) (ref_op ops_I (ref_var (i := 12)) (ref_var (i := 13)))))) (refs_ret (ref_bl)) (refs_next)))))
        (refs_ret (ref_op ops_B (ref_len (ref_var (i := 11))) (ref_var (i := 1))))))))))))))
   (by
    conv in (defScope s__law_together) => whnf
    conv in (defBody s__law_together) => whnf
    exact pss_cons (ps_set (i := 1) sc__law_together.nd rfl (Or.inl rfl) (pe_op op_addU (pe_int) (pe_callM c__law_draw (hr.mono (by decide)) rfl (pa_cons (pv 0) (pa_cons (pe_int) (pa_nil))))))
        (pss_cons (ps_par (i := 2) (j := 3) rfl sc__law_together.nd rfl rfl (by decide) rfl rfl (pa_cons (pe_callTy (call_tuple_of) (by rfl) Bb.tuple bb_tuple (pa_cons (pe_lc (own := [("i", 4)]) rfl sc__law_together.nd (pi_range1 rfl Bb.range (pa_cons (pe_callM c__law_draw (hr.mono (by decide)) rfl (pa_cons (pv 0) (pa_cons (pe_int) (pa_nil)))) (pa_nil))) (blkOk_by (by kernel_rfl)) (fun _ _ _ _ _ => pg_name (i := 4) sc__law_together.nd rfl (Or.inl rfl)) (fun _ _ _ _ _ => pts_nil) (fun _ _ _ _ _ => pe_callM c__law_draw (hr.mono (by decide)) rfl (pa_cons (pv 0) (pa_cons (pe_int) (pa_nil))))) (pa_nil))) (pa_cons (pe_callTy (call_tuple_of) (by rfl) Bb.tuple bb_tuple (pa_cons (pe_lc (own := [("i", 4)]) rfl sc__law_together.nd (pi_range1 rfl Bb.range (pa_cons (pe_callM c__law_draw (hr.mono (by decide)) rfl (pa_cons (pv 0) (pa_cons (pe_int) (pa_nil)))) (pa_nil))) (blkOk_by (by kernel_rfl)) (fun _ _ _ _ _ => pg_name (i := 4) sc__law_together.nd rfl (Or.inl rfl)) (fun _ _ _ _ _ => pts_nil) (fun _ _ _ _ _ => pe_callM c__law_draw (hr.mono (by decide)) rfl (pa_cons (pv 0) (pa_cons (pe_int) (pa_nil))))) (pa_nil))) (pa_nil))) (by rfl))
        (pss_cons (ps_par (i := 5) (j := 6) rfl sc__law_together.nd rfl rfl (by decide) rfl rfl (pa_cons (pe_callTy (call_dictU rfl) (by rfl) Bb.dict bb_dict (pa_cons (pe_callM c_counted (hr.mono (by decide)) rfl (pa_cons (pv 1) (pa_cons (pv 2) (pa_nil)))) (pa_nil))) (pa_cons (pe_callTy (call_dictU rfl) (by rfl) Bb.dict bb_dict (pa_cons (pe_callM c_counted (hr.mono (by decide)) rfl (pa_cons (pv 1) (pa_cons (pv 3) (pa_nil)))) (pa_nil))) pa_nil)) (by rfl))
        (pss_cons (ps_set (i := 7) sc__law_together.nd rfl (Or.inr rfl) (pe_dnewK))
        (pss_cons (ps_for PassesOwn.never rfl (pi_range1 rfl Bb.range (pa_cons (pe_int) (pa_nil))) (pg_name (i := 8) sc__law_together.nd rfl (Or.inr rfl))
        (pss_one (ps_dput (hu_of hr) (pv 7) (pv 8) (pe_op op_addU (pe_ifExp (pt_in (u65 hr) (pv 8) (pv 5) rfl) (pe_sub (hu_of hr) (pv 5) (pv 8) (fun _ _ => rfl)) (pe_int)) (pe_ifExp (pt_in (u65 hr) (pv 8) (pv 6) rfl) (pe_sub (hu_of hr) (pv 6) (pv 8) (fun _ _ => rfl)) (pe_int))) rfl)))
        (pss_cons (ps_set (i := 9) sc__law_together.nd rfl (Or.inl rfl) (pe_revL (pe_callB (cr_sortU rfl) (by rfl) Bb.sorted bb_sorted (pa_cons (pe_lock (pe_lc (own := [("x", 8)]) rfl sc__law_together.nd (pi_keys (pv 7)) (blkOk_by (by kernel_rfl)) (fun _ _ _ _ _ => pg_name (i := 8) sc__law_together.nd rfl (Or.inl rfl)) (fun _ _ _ _ _ => pts_nil) (fun _ _ _ _ _ => pe_sub (hu_of hr) (pv 7) (pv 8) (fun _ _ => rfl)))) (pa_nil)))))
        (pss_cons (ps_set (i := 10) sc__law_together.nd rfl (Or.inr rfl) (pe_ifExp (pt_cmpR (op_gt) (pe_callB (call_lenU) (by rfl) Bb.len bb_len (pa_cons (pv 9) (pa_nil))) (pv 1) (nomark _)) (pe_sub (hu_of hr) (pv 9) (pv 1) (fun _ _ => rfl)) (pe_int)))
        (pss_cons (ps_set (i := 11) sc__law_together.nd rfl (Or.inr rfl) (pe_callTy (call_dictU rfl) (by rfl) Bb.dict bb_dict (pa_cons (pe_lock (pe_lc (own := [("x", 8)]) rfl sc__law_together.nd (pi_keys (pv 7)) (blkOk_by (by kernel_rfl)) (fun _ _ _ _ _ => pg_name (i := 8) sc__law_together.nd rfl (Or.inl rfl)) (fun _ _ _ _ _ => pts_one (pt_cmpR (op_gt) (pe_sub (hu_of hr) (pv 7) (pv 8) (fun _ _ => rfl)) (pv 10) (nomark _))) (fun _ _ _ _ _ => pe_tup (pa_cons (pv 8) (pa_cons (pe_op op_sub (pe_sub (hu_of hr) (pv 7) (pv 8) (fun _ _ => rfl)) (pv 10)) (pa_nil)))))) (pa_nil))))
        (pss_cons (ps_par (i := 12) (j := 13) rfl sc__law_together.nd rfl rfl (by decide) rfl rfl (pa_cons (pe_op op_addU (pe_callB (call_lenU) (by rfl) Bb.len bb_len (pa_cons (pv 2) (pa_nil))) (pe_callB (call_lenU) (by rfl) Bb.len bb_len (pa_cons (pv 3) (pa_nil)))) (pa_cons (pe_callB (cr_sumU rfl) (by rfl) Bb.sum bb_sum (pa_cons (pe_lock (pe_lc (own := [("x", 8)]) rfl sc__law_together.nd (pi_keys (pv 11)) (blkOk_by (by kernel_rfl)) (fun _ _ _ _ _ => pg_name (i := 8) sc__law_together.nd rfl (Or.inl rfl)) (fun _ _ _ _ _ => pts_nil) (fun _ _ _ _ _ => pe_sub (hu_of hr) (pv 11) (pv 8) (fun _ _ => rfl)))) (pa_nil))) (pa_nil))) (by rfl))
        (pss_cons (ps_for PassesOwn.never rfl (pi_range1 rfl Bb.range (pa_cons (pe_int) (pa_nil))) (pg_name (i := 8) sc__law_together.nd rfl (Or.inr rfl))
        (pss_cons (ps_set (i := 14) sc__law_together.nd rfl (Or.inl rfl) (pe_callB (call_lenU) (by rfl) Bb.len bb_len (pa_cons (pe_lc (own := [("y", 15)]) rfl sc__law_together.nd (pi_seq (pe_op op_addU (pv 2) (pv 3))) (blkOk_by (by kernel_rfl)) (fun _ _ _ _ _ => pg_name (i := 15) sc__law_together.nd rfl (Or.inl rfl)) (fun _ _ _ _ _ => pts_one (pt_cmpR (op_eqD hr.units) (pv 15) (pv 8) (nomark _))) (fun _ _ _ _ _ => pv 15)) (pa_nil))))
        (pss_cons (ps_set (i := 16) sc__law_together.nd rfl (Or.inl rfl) (pe_ifExp (pt_in (u65 hr) (pv 8) (pv 11) rfl) (pe_sub (hu_of hr) (pv 11) (pv 8) (fun _ _ => rfl)) (pe_int)))
        (pss_one (ps_if (PW.pt (pw_or (pt_not (pt_cmpR (op_le) (pv 16) (pv 14) (nomark _))) (pw_or1 (pt_cmpR (op_gt) (pe_op op_mul (pe_op op_sub (pv 14) (pv 16)) (pe_op op_addU (pv 1) (pe_int))) (pe_op op_sub (pv 12) (pv 13)) (nomark _))))) (pss_one (ps_ret (pe_bl))) (pss_nil))))))
        (pss_one (ps_ret (pe_cmpR (op_le) (pe_callB (call_lenU) (by rfl) Bb.len bb_len (pa_cons (pv 11) (pa_nil))) (pv 1) (nomark _))))))))))))))

/-! ### _law_boards -/
abbrev s__law_boards : Stmt := topS 30
theorem sc__law_boards : FnScope ["box", "v", "w", "n", "row", "i", "seeds", "rows", "x", "r", "q", "numbers", "other", "y", "three", "items", "many", "z", "told"] ["box"] (defScope s__law_boards) := ⟨rfl, rfl, rfl, by decide +kernel, rfl, by decide +kernel, by decide +kernel⟩
def L__law_boards_1 : ME := mLc (miR1 (aCons (mVar 3) (aNil))) (mgN 5) (mYes) (mCall 2 M__law_draw (aCons (mVar 0) (aCons (mOp (fIc cMul fun i j => i * j) (mVar 1) (mVar 2)) (aNil)))) [5]
def L__law_boards_2 : ME := mLc (miSeq (mVar 12)) (mgN 13) (mTest (mOp (fEq false) (mVar 13) (mVar 8))) (mVar 13) [13]
def S__law_boards_3 : MS := sFor (miSeq (mCall 3 M__law_choices (aCons (mVar 3) (aCons (mOp (fIc cMul fun i j => i * j) (mVar 1) (mVar 2)) (aCons (mC (.int 0)) (aNil)))))) (mgN 12) [12]
    (sIf (mTest (mOp (fEq false) (mCall 2 M_board (aCons (mVar 6) (aCons (mVar 12) (aNil)))) (mVar 7))) (sPut (mVar 11) (mLen (L__law_boards_2)) (mC (.bool true))) (sNext))
def L__law_boards_4 : ME := mLc (miR1 (aCons (mCall 2 M__law_draw (aCons (mVar 0) (aCons (mC (.int 15)) (aNil)))) (aNil))) (mgN 5) (mYes) (mCall 2 M__law_draw (aCons (mVar 0) (aCons (mC (.int 12)) (aNil)))) [5]
def L__law_boards_5 : ME := mLc (miSeq (mVar 15)) (mgN 17) (mTest (mOp (fEq false) (mVar 17) (mVar 13))) (mVar 17) [17]
def B__law_boards : MS := sSeq (sAsgG (mgT 2 (mgCons (mgN 1) (mgCons (mgN 2) (mgNil)))) (mSub (mLst (aCons (mTup (aCons (mC (.int 2)) (aCons (mC (.int 3)) (aNil)))) (aCons (mTup (aCons (mC (.int 3)) (aCons (mC (.int 2)) (aNil)))) (aCons (mTup (aCons (mC (.int 2)) (aCons (mC (.int 5)) (aNil)))) (aCons (mTup (aCons (mC (.int 3)) (aCons (mC (.int 4)) (aNil)))) (aNil)))))) (mCall 2 M__law_draw (aCons (mVar 0) (aCons (mC (.int 4)) (aNil))))))
    (sSeq (sAsg 3 (mCall 2 M__law_draw (aCons (mVar 0) (aCons (mC (.int 5)) (aNil)))))
    (sSeq (sAsg 4 (mTuple (L__law_boards_1)))
    (sSeq (sAsg 6 (mTup (aCons (mTup (aCons (mC (.int 1)) (aCons (mC (.int 0)) (aCons (mVar 1) (aNil))))) (aCons (mTup (aCons (mC (.int 1)) (aCons (mC (.int 0)) (aCons (mVar 2) (aNil))))) (aNil)))))
    (sSeq (sAsg 7 (mCall 2 M_board (aCons (mVar 6) (aCons (mVar 4) (aNil)))))
    (sSeq (sAsg 8 (mCall 2 M__law_draw (aCons (mVar 0) (aCons (mOp (fIc cMul fun i j => i * j) (mVar 1) (mVar 2)) (aNil)))))
    (sSeq (sPar 9 10 (aCons (mSub (mSub (mVar 7) (mC (.int 0))) (mOp (fIc cPos fun i j => i % j) (mVar 8) (mVar 1))) (aCons (mSub (mSub (mVar 7) (mC (.int 1))) (mOp (fIc cPos fun i j => i % j) (mVar 8) (mVar 2))) (aNil))))
    (sSeq (sIf (mTest (mOp (fEq true) (mCall 3 M_told_count (aCons (mVar 6) (aCons (mVar 7) (aCons (mVar 8) (aNil))))) (mCB (f2 fMin2) (aCons (mVar 9) (aCons (mVar 10) (aNil)))))) (sRet (mC (.bool false))) (sNext))
    (sSeq (sNew 1 11 1 (mNewK))
    (sSeq (S__law_boards_3)
    (sSeq (sIf (mTest (mOp (fEq true) (mSort (mVar 11)) (mLstR2 (mCB (f2 fMax2) (aCons (mC (.int 0)) (aCons (mOp (fI fun i j => i - j) (mOpN fAdd (mVar 9) (mVar 10)) (mVar 3)) (aNil)))) (mOpN fAdd (mCB (f2 fMin2) (aCons (mVar 9) (aCons (mVar 10) (aNil)))) (mC (.int 1)))))) (sRet (mC (.bool false))) (sNext))
    (sSeq (sAsg 14 (mTup (aCons (mTup (aCons (mC (.int 1)) (aCons (mC (.int 0)) (aCons (mC (.int 3)) (aNil))))) (aCons (mTup (aCons (mC (.int 1)) (aCons (mC (.int 0)) (aCons (mC (.int 4)) (aNil))))) (aCons (mTup (aCons (mC (.int 1)) (aCons (mC (.int 0)) (aCons (mC (.int 5)) (aNil))))) (aNil))))))
    (sSeq (sAsg 15 (mTuple (L__law_boards_4)))
    (sSeq (sAsg 13 (mCall 2 M__law_draw (aCons (mVar 0) (aCons (mC (.int 12)) (aNil)))))
    (sSeq (sAsg 16 (mLen (L__law_boards_5)))
    (sSeq (sAsg 18 (mCall 3 M_told_count (aCons (mVar 14) (aCons (mCall 2 M_board (aCons (mVar 14) (aCons (mVar 15) (aNil)))) (aCons (mVar 13) (aNil))))))
    (sRet (mAndV (mOp (fB fun i j => decide (i ≤ j)) (mVar 16) (mVar 18)) (mOp (fB fun i j => decide (i ≤ j)) (mOp (fIc cMul fun i j => i * j) (mC (.int 3)) (mOp (fI fun i j => i - j) (mVar 18) (mVar 16))) (mOp (fIc cMul fun i j => i * j) (mC (.int 1)) (mOp (fI fun i j => i - j) (mLen (mVar 15)) (mVar 16)))))))))))))))))))))
def M__law_boards : MF := runF 19 1 1 B__law_boards
theorem ok__law_boards (Bb : Bl mg) (c__law_draw : Cal P w K mg base 1 "_law_draw" ["box", "many"] 2 M__law_draw) (c_board : Cal P w K mg base 4 "board" ["seeds", "row"] 2 M_board) (c__law_choices : Cal P w K mg base 1 "_law_choices" ["n", "kinds", "low"] 3 M__law_choices) (c_told_count : Cal P w K mg base 4 "told_count" ["seeds", "rows", "x"] 3 M_told_count) {f : Addr} {fd : FuncData} (F : FunD K "_law_boards" "_law_boards" (defArgs s__law_boards) (defBody s__law_boards) (defScope s__law_boards) [] [] f fd) : FnOk P w K mg base CX0 5 f fd ["box"] (spM K 1 M__law_boards) :=
  fn_okF (np := 1) (nc := 1) (m := B__law_boards) F sc__law_boards rfl rfl fun cdv A outer s H E hr => mkT
   (by exact refs_seq (refs_asgG (ref_sub (ref_lst (refa_cons (ref_tup (refa_cons (ref_int) (refa_cons (ref_int) (refa_nil)))) (refa_cons (ref_tup (refa_cons (ref_int) (refa_cons (ref_int) (refa_nil)))) (refa_cons (ref_tup (refa_cons (ref_int) (refa_cons (ref_int) (refa_nil)))) (refa_cons (ref_tup (refa_cons (ref_int) (refa_cons (ref_int) (refa_nil)))) (refa_nil)))))) (ref_call (E := E0) (refa_cons (ref_var (i := 0)) (refa_cons (ref_int) (refa_nil))))) (refg_tup (n := 2) (refgs_cons (refg_name (i := 1)) (refgs_cons (refg_name (i := 2)) (refgs_nil)))))
        (refs_seq (refs_asg (ref_call (E := E0) (refa_cons (ref_var (i := 0)) (refa_cons (ref_int) (refa_nil)))))
        (refs_seq (refs_asg (ref_tuple (ref_lc (refi_r1 (refa_cons (ref_var (i := 3)) (refa_nil))) (refg_name (i := 5)) (reft_yes) (ref_call (E := E0) (refa_cons (ref_var (i := 0)) (refa_cons (ref_op ops_mul (ref_var (i := 1)) (ref_var (i := 2))) (refa_nil)))) (by decide))))
        (refs_seq (refs_asg (ref_tup (refa_cons (ref_tup (refa_cons (ref_int) (refa_cons (ref_int) (refa_cons (ref_var (i := 1)) (refa_nil))))) (refa_cons (ref_tup (refa_cons (ref_int) (refa_cons (ref_int) (refa_cons (ref_var (i := 2)) (refa_nil))))) (refa_nil)))))
        (refs_seq (refs_asg (ref_call (E := E0) (refa_cons (ref_var (i := 6)) (refa_cons (ref_var (i := 4)) (refa_nil)))))
        (refs_seq (refs_asg (ref_call (E := E0) (refa_cons (ref_var (i := 0)) (refa_cons (ref_op ops_mul (ref_var (i := 1)) (ref_var (i := 2))) (refa_nil)))))
        (refs_seq (refs_par (refa_cons (ref_sub (ref_sub (ref_var (i := 7)) (ref_int)) (ref_op ops_mod (ref_var (i := 8)) (ref_var (i := 1)))) (refa_cons (ref_sub (ref_sub (ref_var (i := 7)) (ref_int)) (ref_op ops_mod (ref_var (i := 8)) (ref_var (i := 2)))) (refa_nil))))
        (refs_seq (refs_if (reft_test (ref_op (ops_ne (K := K)) (ref_call (E := E0) (refa_cons (ref_var (i := 6)) (refa_cons (ref_var (i := 7)) (refa_cons (ref_var (i := 8)) (refa_nil))))) (ref_cb cal_min2 (refa_cons (ref_var (i := 9)) (refa_cons (ref_var (i := 10)) (refa_nil)))))) (refs_ret (ref_bl)) (refs_next))
        (refs_seq (refs_new (np := 1) (i := 11) (k := 1) (ref_newK))
        (refs_seq (refs_for (kl := [12]) (refi_seq (ref_call (E := E0) (refa_cons (ref_var (i := 3)) (refa_cons (ref_op ops_mul (ref_var (i := 1)) (ref_var (i := 2))) (refa_cons (ref_int) (refa_nil)))))) (refg_name (i := 12))
        (refs_if (reft_test (ref_op (ops_eq (K := K)) (ref_call (E := E0) (refa_cons (ref_var (i := 6)) (refa_cons (ref_var (i := 12)) (refa_nil)))) (ref_var (i := 7)))) (refs_put (ref_var (i := 11)) (ref_len (ref_lc (refi_seq (ref_var (i := 12))) (refg_name (i := 13)) (reft_test (ref_op (ops_eq (K := K)) (ref_var (i := 13)) (ref_var (i := 8)))) (ref_var (i := 13)) (by decide))) (ref_bl)) (refs_next)))
        (refs_seq (refs_if (reft_test (ref_op (ops_ne (K := K)) (ref_sort (ref_var (i := 11))) (ref_lstR2 (ref_cb cal_max2 (refa_cons (ref_int) (refa_cons (ref_op ops_I (ref_opN (ops_addU (K := K)) (ref_var (i := 9)) (ref_var (i := 10))) (ref_var (i := 3))) (refa_nil)))) (ref_opN (ops_addU (K := K)) (ref_cb cal_min2 (refa_cons (ref_var (i := 9)) (refa_cons (ref_var (i := 10)) (refa_nil)))) (ref_int))))) (refs_ret (ref_bl)) (refs_next))
        (refs_seq (refs_asg (ref_tup (refa_cons (ref_tup (refa_cons (ref_int) (refa_cons (ref_int) (refa_cons (ref_int) (refa_nil))))) (refa_cons (ref_tup (refa_cons (ref_int) (refa_cons (ref_int) (refa_cons (ref_int) (refa_nil))))) (refa_cons (ref_tup (refa_cons (ref_int) (refa_cons (ref_int) (refa_cons (ref_int) (refa_nil))))) (refa_nil))))))
        (refs_seq (refs_asg (ref_tuple (ref_lc (refi_r1 (refa_cons (ref_call (E := E0) (refa_cons (ref_var (i := 0)) (refa_cons (ref_int) (refa_nil)))) (refa_nil))) (refg_name (i := 5)) (reft_yes) (ref_call (E := E0) (refa_cons (ref_var (i := 0)) (refa_cons (ref_int) (refa_nil)))) (by decide))))
        (refs_seq (refs_asg (ref_call (E := E0) (refa_cons (ref_var (i := 0)) (refa_cons (ref_int) (refa_nil)))))
        (refs_seq (refs_asg (ref_len (ref_lc (refi_seq (ref_var (i := 15))) (refg_name (i := 17)) (reft_test (ref_op (ops_eq (K := K)) (ref_var (i := 17)) (ref_var (i := 13)))) (ref_var (i := 17)) (by decide))))
        (refs_seq (refs_asg (ref_call (E := E0) (refa_cons (ref_var (i := 14)) (refa_cons (ref_call (E := E0) (refa_cons (ref_var (i := 14)) (refa_cons (ref_var (i := 15)) (refa_nil)))) (refa_cons (ref_var (i := 13)) (refa_nil))))))
        (refs_ret (ref_andV (ref_op ops_B (ref_var (i := 16)) (ref_var (i := 18))) (ref_op ops_B (ref_op ops_mul (ref_int) (ref_op ops_I (ref_var (i := 18)) (ref_var (i := 16)))) (ref_op ops_mul (ref_int) (ref_op ops_I (ref_len (ref_var (i := 15))) (ref_var (i := 16)))))))))))))))))))))))
   (by
    conv in (defScope s__law_boards) => whnf
    conv in (defBody s__law_boards) => whnf
    exact pss_cons (ps_asg (pe_sub (hu_of hr) (pe_lst (pa_cons (pe_tup (pa_cons (pe_int) (pa_cons (pe_int) (pa_nil)))) (pa_cons (pe_tup (pa_cons (pe_int) (pa_cons (pe_int) (pa_nil)))) (pa_cons (pe_tup (pa_cons (pe_int) (pa_cons (pe_int) (pa_nil)))) (pa_cons (pe_tup (pa_cons (pe_int) (pa_cons (pe_int) (pa_nil)))) (pa_nil)))))) (pe_callM c__law_draw (hr.mono (by decide)) rfl (pa_cons (pv 0) (pa_cons (pe_int) (pa_nil)))) (fun _ _ => rfl)) (pg_tup rfl (pgs_cons (pg_name (i := 1) sc__law_boards.nd rfl (Or.inr rfl)) (pgs_cons (pg_name (i := 2) sc__law_boards.nd rfl (Or.inr rfl)) (pgs_nil)))))
        (pss_cons (ps_set (i := 3) sc__law_boards.nd rfl (Or.inl rfl) (pe_callM c__law_draw (hr.mono (by decide)) rfl (pa_cons (pv 0) (pa_cons (pe_int) (pa_nil)))))
        (pss_cons (ps_set (i := 4) sc__law_boards.nd rfl (Or.inl rfl) (pe_callTy (call_tuple_of) (by rfl) Bb.tuple bb_tuple (pa_cons (pe_lc (own := [("i", 5)]) rfl sc__law_boards.nd (pi_range1 rfl Bb.range (pa_cons (pv 3) (pa_nil))) (blkOk_by (by kernel_rfl)) (fun _ _ _ _ _ => pg_name (i := 5) sc__law_boards.nd rfl (Or.inl rfl)) (fun _ _ _ _ _ => pts_nil) (fun _ _ _ _ _ => pe_callM c__law_draw (hr.mono (by decide)) rfl (pa_cons (pv 0) (pa_cons (pe_op op_mul (pv 1) (pv 2)) (pa_nil))))) (pa_nil))))
        (pss_cons (ps_set (i := 6) sc__law_boards.nd rfl (Or.inl rfl) (pe_tup (pa_cons (pe_tup (pa_cons (pe_int) (pa_cons (pe_int) (pa_cons (pv 1) (pa_nil))))) (pa_cons (pe_tup (pa_cons (pe_int) (pa_cons (pe_int) (pa_cons (pv 2) (pa_nil))))) (pa_nil)))))
        (pss_cons (ps_set (i := 7) sc__law_boards.nd rfl (Or.inl rfl) (pe_callM c_board (hr.mono (by decide)) rfl (pa_cons (pv 6) (pa_cons (pv 4) (pa_nil)))))
        (pss_cons (ps_set (i := 8) sc__law_boards.nd rfl (Or.inr rfl) (pe_callM c__law_draw (hr.mono (by decide)) rfl (pa_cons (pv 0) (pa_cons (pe_op op_mul (pv 1) (pv 2)) (pa_nil)))))
        (pss_cons (ps_par (i := 9) (j := 10) rfl sc__law_boards.nd rfl rfl (by decide) rfl rfl (pa_cons (pe_sub (hu_of hr) (pe_sub (hu_of hr) (pv 7) (pe_int) (fun _ _ => rfl)) (pe_op op_mod (pv 8) (pv 1)) (fun _ _ => rfl)) (pa_cons (pe_sub (hu_of hr) (pe_sub (hu_of hr) (pv 7) (pe_int) (fun _ _ => rfl)) (pe_op op_mod (pv 8) (pv 2)) (fun _ _ => rfl)) (pa_nil))) (by rfl))
        (pss_cons (ps_if (pt_cmpR (op_neD hr.units) (pe_callM c_told_count (hr.mono (by decide)) rfl (pa_cons (pv 6) (pa_cons (pv 7) (pa_cons (pv 8) (pa_nil))))) (pe_callB (call_min2 rfl) (by rfl) Bb.min bb_min (pa_cons (pv 9) (pa_cons (pv 10) (pa_nil)))) (nomark _)) (pss_one (ps_ret (pe_bl))) (pss_nil))
        (pss_cons (ps_set (i := 11) sc__law_boards.nd rfl (Or.inl rfl) (pe_dnewK))
        (pss_cons (ps_for PassesOwn.never rfl (pi_seq (pe_callM c__law_choices (hr.mono (by decide)) rfl (pa_cons (pv 3) (pa_cons (pe_op op_mul (pv 1) (pv 2)) (pa_cons (pe_int) (pa_nil)))))) (pg_name (i := 12) sc__law_boards.nd rfl (Or.inl rfl))
        (pss_one (ps_if (pt_cmpR (op_eqD hr.units) (pe_callM c_board (hr.mono (by decide)) rfl (pa_cons (pv 6) (pa_cons (pv 12) (pa_nil)))) (pv 7) (nomark _)) (pss_one (ps_dput (hu_of hr) (pv 11) (pe_callB (call_lenU) (by rfl) Bb.len bb_len (pa_cons (pe_lc (own := [("y", 13)]) rfl sc__law_boards.nd (pi_seq (pv 12)) (blkOk_by (by kernel_rfl)) (fun _ _ _ _ _ => pg_name (i := 13) sc__law_boards.nd rfl (Or.inl rfl)) (fun _ _ _ _ _ => pts_one (pt_cmpR (op_eqD hr.units) (pv 13) (pv 8) (nomark _))) (fun _ _ _ _ _ => pv 13)) (pa_nil))) (pe_bl) rfl)) (pss_nil))))
        (pss_cons (ps_if (pt_cmpR (op_neD hr.units) (pe_callB (cr_sortU rfl) (by rfl) Bb.sorted bb_sorted (pa_cons (pv 11) (pa_nil))) (pe_listRg rfl rfl Bb.list (prg_2 rfl Bb.range (pe_callB (call_max2 rfl) (by rfl) Bb.max bb_max (pa_cons (pe_int) (pa_cons (pe_op op_sub (pe_op op_addU (pv 9) (pv 10)) (pv 3)) (pa_nil)))) (pe_op op_addU (pe_callB (call_min2 rfl) (by rfl) Bb.min bb_min (pa_cons (pv 9) (pa_cons (pv 10) (pa_nil)))) (pe_int)))) (nomark _)) (pss_one (ps_ret (pe_bl))) (pss_nil))
        (pss_cons (ps_set (i := 14) sc__law_boards.nd rfl (Or.inl rfl) (pe_tup (pa_cons (pe_tup (pa_cons (pe_int) (pa_cons (pe_int) (pa_cons (pe_int) (pa_nil))))) (pa_cons (pe_tup (pa_cons (pe_int) (pa_cons (pe_int) (pa_cons (pe_int) (pa_nil))))) (pa_cons (pe_tup (pa_cons (pe_int) (pa_cons (pe_int) (pa_cons (pe_int) (pa_nil))))) (pa_nil))))))
        (pss_cons (ps_set (i := 15) sc__law_boards.nd rfl (Or.inl rfl) (pe_callTy (call_tuple_of) (by rfl) Bb.tuple bb_tuple (pa_cons (pe_lc (own := [("i", 5)]) rfl sc__law_boards.nd (pi_range1 rfl Bb.range (pa_cons (pe_callM c__law_draw (hr.mono (by decide)) rfl (pa_cons (pv 0) (pa_cons (pe_int) (pa_nil)))) (pa_nil))) (blkOk_by (by kernel_rfl)) (fun _ _ _ _ _ => pg_name (i := 5) sc__law_boards.nd rfl (Or.inl rfl)) (fun _ _ _ _ _ => pts_nil) (fun _ _ _ _ _ => pe_callM c__law_draw (hr.mono (by decide)) rfl (pa_cons (pv 0) (pa_cons (pe_int) (pa_nil))))) (pa_nil))))
        (pss_cons (ps_set (i := 13) sc__law_boards.nd rfl (Or.inr rfl) (pe_callM c__law_draw (hr.mono (by decide)) rfl (pa_cons (pv 0) (pa_cons (pe_int) (pa_nil)))))
        (pss_cons (ps_set (i := 16) sc__law_boards.nd rfl (Or.inl rfl) (pe_callB (call_lenU) (by rfl) Bb.len bb_len (pa_cons (pe_lc (own := [("z", 17)]) rfl sc__law_boards.nd (pi_seq (pv 15)) (blkOk_by (by kernel_rfl)) (fun _ _ _ _ _ => pg_name (i := 17) sc__law_boards.nd rfl (Or.inl rfl)) (fun _ _ _ _ _ => pts_one (pt_cmpR (op_eqD hr.units) (pv 17) (pv 13) (nomark _))) (fun _ _ _ _ _ => pv 17)) (pa_nil))))
        (pss_cons (ps_set (i := 18) sc__law_boards.nd rfl (Or.inl rfl) (pe_callM c_told_count (hr.mono (by decide)) rfl (pa_cons (pv 14) (pa_cons (pe_callM c_board (hr.mono (by decide)) rfl (pa_cons (pv 14) (pa_cons (pv 15) (pa_nil)))) (pa_cons (pv 13) (pa_nil))))))
        (pss_one (ps_ret (pe_and (pe_cmpR (op_le) (pv 16) (pv 18) (nomark _)) (pe_one (pe_cmpR (op_le) (pe_op op_mul (pe_int) (pe_op op_sub (pv 18) (pv 16))) (pe_op op_mul (pe_int) (pe_op op_sub (pe_callB (call_lenU) (by rfl) Bb.len bb_len (pa_cons (pv 15) (pa_nil))) (pv 16))) (nomark _))))))))))))))))))))))

/-! ### law -/
abbrev s_law : Stmt := topS 32
theorem sc_law : FnScope ["script", "box", "one", "two", "i", "seeds"] ["script"] (defScope s_law) := ⟨rfl, rfl, rfl, by decide +kernel, rfl, by decide +kernel, by decide +kernel⟩
def L_law_1 : ME := mLc (miR1 (aCons (mC (.int 3)) (aNil))) (mgN 4) (mYes) (mCall 2 M__law_draw (aCons (mVar 1) (aCons (mC (.int 9)) (aNil)))) [4]
def B_law : MS := sSeq (sNew 0 1 0 (mCall 2 M__law_stream (aCons (mVar 0) (aCons (mC (.int 0)) (aNil)))))
    (sSeq (sPar 2 3 (aCons (mTuple (L_law_1)) (aCons (mTuple (L_law_1)) (aNil))))
    (sSeq (sAsg 5 (mTup (aCons (mTup (aCons (mC (.int 1)) (aCons (mC (.int 0)) (aCons (mC (.int 4)) (aNil))))) (aNil))))
    (sSeq (sIf (mTest (mOp (fEq true) (mCall 2 M_both (aCons (mCall 2 M_board (aCons (mVar 5) (aCons (mVar 2) (aNil)))) (aCons (mCall 2 M_board (aCons (mVar 5) (aCons (mVar 3) (aNil)))) (aNil)))) (mCall 2 M_board (aCons (mVar 5) (aCons (mOpN fAdd (mVar 2) (mVar 3)) (aNil)))))) (sRet (mC (.bool false))) (sNext))
    (sRet (mAndV (mCall 1 M__law_counts (aCons (mVar 1) (aNil))) (mAndV (mCall 1 M__law_together (aCons (mVar 1) (aNil))) (mCall 1 M__law_boards (aCons (mVar 1) (aNil)))))))))
def M_law : MF := runF 6 0 1 B_law
theorem ok_law (Bb : Bl mg) (c__law_stream : Cal P w K mg base 2 "_law_stream" ["script", "k"] 2 M__law_stream) (c_both : Cal P w K mg base 4 "both" ["rows", "others"] 2 M_both) (c_board : Cal P w K mg base 4 "board" ["seeds", "row"] 2 M_board) (c__law_counts : Cal P w K mg base 5 "_law_counts" ["box"] 1 M__law_counts) (c__law_together : Cal P w K mg base 5 "_law_together" ["box"] 1 M__law_together) (c__law_boards : Cal P w K mg base 5 "_law_boards" ["box"] 1 M__law_boards) (c__law_draw : Cal P w K mg base 1 "_law_draw" ["box", "many"] 2 M__law_draw) {f : Addr} {fd : FuncData} (F : FunD K "law" "law" (defArgs s_law) (defBody s_law) (defScope s_law) [] [] f fd) : FnOk P w K mg base CX0 6 f fd ["script"] (spM K 1 M_law) :=
  fn_okF (np := 0) (nc := 1) (m := B_law) F sc_law rfl rfl fun cdv A outer s H E hr => mkT
   (by exact refs_seq (refs_new (np := 0) (i := 1) (k := 0) (ref_call (E := E0) (refa_cons (ref_var (i := 0)) (refa_cons (ref_int) (refa_nil)))))
        (refs_seq (refs_par (refa_cons (ref_tuple (ref_lc (refi_r1 (refa_cons (ref_int) (refa_nil))) (refg_name (i := 4)) (reft_yes) (ref_call (E := E0) (refa_cons (ref_var (i := 1)) (refa_cons (ref_int) (refa_nil)))) (by decide))) (refa_cons (ref_tuple (ref_lc (refi_r1 (refa_cons (ref_int) (refa_nil))) (refg_name (i := 4)) (reft_yes) (ref_call (E := E0) (refa_cons (ref_var (i := 1)) (refa_cons (ref_int) (refa_nil)))) (by decide))) (refa_nil))))
        (refs_seq (refs_asg (ref_tup (refa_cons (ref_tup (refa_cons (ref_int) (refa_cons (ref_int) (refa_cons (ref_int) (refa_nil))))) (refa_nil))))
        (refs_seq (refs_if (reft_test (ref_op (ops_ne (K := K)) (ref_call (E := E0) (refa_cons (ref_call (E := E0) (refa_cons (ref_var (i := 5)) (refa_cons (ref_var (i := 2)) (refa_nil)))) (refa_cons (ref_call (E := E0) (refa_cons (ref_var (i := 5)) (refa_cons (ref_var (i := 3)) (refa_nil)))) (refa_nil)))) (ref_call (E := E0) (refa_cons (ref_var (i := 5)) (refa_cons (ref_opN (ops_addU (K := K)) (ref_var (i := 2)) (ref_var (i := 3))) (refa_nil)))))) (refs_ret (ref_bl)) (refs_next))
        (refs_ret (ref_andV (ref_call (E := E0) (refa_cons (ref_var (i := 1)) (refa_nil))) (ref_andV (ref_call (E := E0) (refa_cons (ref_var (i := 1)) (refa_nil))) (ref_call (E := E0) (refa_cons (ref_var (i := 1)) (refa_nil))))))))))
   (by
    conv in (defScope s_law) => whnf
    conv in (defBody s_law) => whnf
    exact pss_cons (ps_set (i := 1) sc_law.nd rfl (Or.inr rfl) (pe_callM c__law_stream (hr.mono (by decide)) rfl (pa_cons (pv 0) (pa_cons (pe_int) (pa_nil)))))
        (pss_cons (ps_par (i := 2) (j := 3) rfl sc_law.nd rfl rfl (by decide) rfl rfl (pa_cons (pe_callTy (call_tuple_of) (by rfl) Bb.tuple bb_tuple (pa_cons (pe_lc (own := [("i", 4)]) rfl sc_law.nd (pi_range1 rfl Bb.range (pa_cons (pe_int) (pa_nil))) (blkOk_by (by kernel_rfl)) (fun _ _ _ _ _ => pg_name (i := 4) sc_law.nd rfl (Or.inl rfl)) (fun _ _ _ _ _ => pts_nil) (fun _ _ _ _ _ => pe_callM c__law_draw (hr.mono (by decide)) rfl (pa_cons (pv 1) (pa_cons (pe_int) (pa_nil))))) (pa_nil))) (pa_cons (pe_callTy (call_tuple_of) (by rfl) Bb.tuple bb_tuple (pa_cons (pe_lc (own := [("i", 4)]) rfl sc_law.nd (pi_range1 rfl Bb.range (pa_cons (pe_int) (pa_nil))) (blkOk_by (by kernel_rfl)) (fun _ _ _ _ _ => pg_name (i := 4) sc_law.nd rfl (Or.inl rfl)) (fun _ _ _ _ _ => pts_nil) (fun _ _ _ _ _ => pe_callM c__law_draw (hr.mono (by decide)) rfl (pa_cons (pv 1) (pa_cons (pe_int) (pa_nil))))) (pa_nil))) (pa_nil))) (by rfl))
        (pss_cons (ps_set (i := 5) sc_law.nd rfl (Or.inl rfl) (pe_tup (pa_cons (pe_tup (pa_cons (pe_int) (pa_cons (pe_int) (pa_cons (pe_int) (pa_nil))))) (pa_nil))))
        (pss_cons (ps_if (pt_cmpR (op_neD hr.units) (pe_callM c_both (hr.mono (by decide)) rfl (pa_cons (pe_callM c_board (hr.mono (by decide)) rfl (pa_cons (pv 5) (pa_cons (pv 2) (pa_nil)))) (pa_cons (pe_callM c_board (hr.mono (by decide)) rfl (pa_cons (pv 5) (pa_cons (pv 3) (pa_nil)))) (pa_nil)))) (pe_callM c_board (hr.mono (by decide)) rfl (pa_cons (pv 5) (pa_cons (pe_op op_addU (pv 2) (pv 3)) (pa_nil)))) (nomark _)) (pss_one (ps_ret (pe_bl))) (pss_nil))
        (pss_one (ps_ret (pe_and (pe_callM c__law_counts (hr.mono (by decide)) rfl (pa_cons (pv 1) (pa_nil))) (pe_and (pe_callM c__law_together (hr.mono (by decide)) rfl (pa_cons (pv 1) (pa_nil))) (pe_one (pe_callM c__law_boards (hr.mono (by decide)) rfl (pa_cons (pv 1) (pa_nil))))))))))))

end
end Rf

namespace Rf
open PySem L2

/-! ### reckoning with mirrors -/
/-- the draws' box -/
abbrev bx (d e : Int) : Option (Bool × Cell) := some (false, .lst [.int d, .int e])
def dr (d e m : Int) : Int := if 0 < d then d % m else ((e * 48271 + 12345) % 2147483647 / 64) % m
def dd (d e m : Int) : Int := if 0 < d then d / m else d
def de (d e m : Int) : Int := if 0 < d then e else (e * 48271 + 12345) % 2147483647
theorem dr_lt (d e : Int) {m : Int} (h : 0 < m) : 0 ≤ dr d e m ∧ dr d e m < m := by
  unfold dr
  split <;> exact ⟨Int.emod_nonneg _ (by omega), Int.emod_lt_of_pos _ h⟩

/-! ### rows of ints as data -/
abbrev iL (l : List Int) : List D := l.map PyData.int
abbrev iT (l : List Int) : D := .tuple (iL l)
theorem layI : ∀ l : List Int, PyData.canLayAll0 (iL l) = true
  | [] => rfl
  | _ :: r => by simp [PyData.canLayAll0, PyData.canLay0, layI r]
theorem depI : ∀ l : List Int, PyData.depthAll (iL l) = 0
  | [] => rfl
  | _ :: r => by simp [PyData.depthAll, PyData.depth, depI r]
theorem layT : ∀ l : List (List Int), PyData.canLayAll0 (l.map iT) = true
  | [] => rfl
  | _ :: r => by simp [PyData.canLayAll0, PyData.canLay0, iT, layI, layT r]
theorem depT : ∀ l : List (List Int), PyData.depthAll (l.map iT) ≤ 1
  | [] => by simp [PyData.depthAll]
  | a :: r => by
    have := depT r
    simp only [List.map_cons, PyData.depthAll, iT, PyData.depth, depI]
    omega
theorem shI (i : Int) : SeqAt.shaped (.int i) = true := by simp [SeqAt.shaped, PyData.canLay0, PyData.depth]
theorem shL (l : List Int) : SeqAt.shaped (.list (iL l)) = true := by simp [SeqAt.shaped, PyData.canLay0, PyData.depth, layI, depI]
theorem shT (l : List Int) : SeqAt.shaped (iT l) = true := by simp [SeqAt.shaped, iT, PyData.canLay0, PyData.depth, layI, depI]
theorem shLT (l : List (List Int)) : SeqAt.shaped (.list (l.map iT)) = true := by
  have := depT l
  have : PyData.depthAll (l.map iT) + 1 ≤ 64 := by omega
  simp [SeqAt.shaped, PyData.canLay0, PyData.depth, layT, this]
theorem shTT (l : List (List Int)) : SeqAt.shaped (.tuple (l.map iT)) = true := by
  have := depT l
  have : PyData.depthAll (l.map iT) + 1 ≤ 64 := by omega
  simp [SeqAt.shaped, PyData.canLay0, PyData.depth, layT, this]
theorem eqI (i j : Int) : PyData.eqv (.int i) (.int j) = decide (i = j) := by simp [PyData.eqv]; rfl
theorem eqAI : ∀ l m : List Int, PyData.eqvAll (iL l) (iL m) = decide (l = m)
  | [], [] => by simp [PyData.eqvAll]
  | [], _ :: _ => by simp [PyData.eqvAll]
  | _ :: _, [] => by simp [PyData.eqvAll]
  | a :: r, b :: t => by
    simp only [List.map_cons, PyData.eqvAll, eqI, eqAI r t]
    by_cases h : a = b <;> by_cases h' : r = t <;> simp [h, h']
theorem eqL (l m : List Int) : PyData.eqv (.list (iL l)) (.list (iL m)) = decide (l = m) := by rw [PyData.eqv]; exact eqAI l m
theorem eqT (l m : List Int) : PyData.eqv (iT l) (iT m) = decide (l = m) := by rw [PyData.eqv]; exact eqAI l m
theorem eqAT : ∀ l m : List (List Int), PyData.eqvAll (l.map iT) (m.map iT) = decide (l = m)
  | [], [] => by simp [PyData.eqvAll]
  | [], _ :: _ => by simp [PyData.eqvAll]
  | _ :: _, [] => by simp [PyData.eqvAll]
  | a :: r, b :: t => by
    simp only [List.map_cons, PyData.eqvAll, eqT, eqAT r t]
    by_cases h : a = b <;> by_cases h' : r = t <;> simp [h, h']
theorem eqTT (l m : List (List Int)) : PyData.eqv (.tuple (l.map iT)) (.tuple (m.map iT)) = decide (l = m) := by rw [PyData.eqv]; exact eqAT l m
theorem fEqI (n : Bool) (i j : Int) : fEq n (.int i) (.int j) = some (.dat (.bool (if n = true then !decide (i = j) else decide (i = j)))) := by simp [fEq, shI, eqI]
theorem fEqL (n : Bool) (l m : List Int) : fEq n (.list (iL l)) (.list (iL m)) = some (.dat (.bool (if n = true then !decide (l = m) else decide (l = m)))) := by simp only [fEq, shL, eqL]; rfl
theorem fEqT (n : Bool) (l m : List Int) : fEq n (iT l) (iT m) = some (.dat (.bool (if n = true then !decide (l = m) else decide (l = m)))) := by simp only [fEq, shT, eqT]; rfl
theorem fEqTT (n : Bool) (l m : List (List Int)) : fEq n (.tuple (l.map iT)) (.tuple (m.map iT)) = some (.dat (.bool (if n = true then !decide (l = m) else decide (l = m)))) := by simp only [fEq, shTT, eqTT]; rfl
theorem boolsMap {α : Type} (p : α → Bool) (l : List α) : boolsOf (l.map fun a => PyData.bool (p a)) = some (l.map p) := by
  rw [← boolsOf_map, List.map_map]; rfl
theorem intsMap {α : Type} (p : α → Int) (l : List α) : intsOf (l.map fun a => PyData.int (p a)) = some (l.map p) := by
  rw [← intsOf_map, List.map_map]; rfl

/-! ### loops -/
section
variable {α : Type} {mi : MI} {mg : MG} {mt : MT} {me mk mv : ME} {vs : List Nat} {sl : Sl} {cs c1 : Cs}
theorem lc_filt (enc : α → D) (f : α → D) (p : α → Bool) : ∀ l : List α, (∀ a ∈ l, ∃ sl2, mg (enc a) sl = some sl2 ∧ mt sl2 cs = some (p a, cs) ∧ (p a = true → ∃ x, me sl2 cs = some (x, cs) ∧ asD x = some (f a))) →
    lcLoop mg mt me sl (l.map enc) cs = some ((l.filter p).map f, cs)
  | [], _ => rfl
  | a :: r, h => by
    obtain ⟨sl2, h1, h2, h3⟩ := h a List.mem_cons_self
    have ih := lc_filt enc f p r fun b hb => h b (List.mem_cons_of_mem _ hb)
    rw [List.map_cons]
    unfold lcLoop
    rw [h1]
    cases hp : p a with
    | true =>
      obtain ⟨x, h4, h5⟩ := h3 hp
      simp [h2, hp, h4, h5, ih]
    | false => simp [h2, hp, ih]
theorem mLc_filt (enc : α → D) (f : α → D) (p : α → Bool) (l : List α) (hi : mi sl cs = some (l.map enc, c1))
    (h : ∀ a ∈ l, ∃ sl2, mg (enc a) (wipeA sl vs) = some sl2 ∧ mt sl2 c1 = some (p a, c1) ∧ (p a = true → ∃ x, me sl2 c1 = some (x, c1) ∧ asD x = some (f a))) :
    mLc mi mg mt me vs sl cs = some (.new (.lst ((l.filter p).map f)), c1) := by
  unfold mLc
  rw [hi]
  simp [lc_filt enc f p l h]
theorem mLc_map (enc : α → D) (f : α → D) (l : List α) (hi : mi sl cs = some (l.map enc, c1))
    (h : ∀ a ∈ l, ∃ sl2, mg (enc a) (wipeA sl vs) = some sl2 ∧ mt sl2 c1 = some (true, c1) ∧ ∃ x, me sl2 c1 = some (x, c1) ∧ asD x = some (f a)) :
    mLc mi mg mt me vs sl cs = some (.new (.lst (l.map f)), c1) := by
  have e := mLc_filt (vs := vs) enc f (fun _ => true) l hi fun a ha => by
    obtain ⟨sl2, h1, h2, h3⟩ := h a ha
    exact ⟨sl2, h1, h2, fun _ => h3⟩
  rw [e, List.filter_eq_self.mpr fun _ _ => rfl]
theorem dc_filt (enc : α → D) (kf : α → Key) (f : α → D) (p : α → Bool) : ∀ (l : List α) (acc : List (Key × D)), (∀ a ∈ l, ∃ sl2, mg (enc a) sl = some sl2 ∧ mt sl2 cs = some (p a, cs) ∧ (p a = true → ∃ x y, mk sl2 cs = some (x, cs) ∧ mv sl2 cs = some (y, cs) ∧ toD cs x = some (kD (kf a)) ∧ asD y = some (f a))) →
    dcLoop mg mt mk mv sl (l.map enc) acc cs = some (mergeD acc ((l.filter p).map fun a => (kf a, f a)), cs)
  | [], _, _ => rfl
  | a :: r, acc, h => by
    obtain ⟨sl2, h1, h2, h3⟩ := h a List.mem_cons_self
    have ih := fun acc => dc_filt enc kf f p r acc fun b hb => h b (List.mem_cons_of_mem _ hb)
    rw [List.map_cons]
    unfold dcLoop
    rw [h1]
    cases hp : p a with
    | true =>
      obtain ⟨x, y, h4, h5, h6, h7⟩ := h3 hp
      have hk : keyOf (kD (kf a)) = some (kf a) := by cases kf a <;> rfl
      simp [h2, hp, h4, h5, h6, h7, ih, hk, mergeD]
    | false => simp [h2, hp, ih]
theorem mDc_filt (enc : α → D) (kf : α → Key) (f : α → D) (p : α → Bool) (l : List α) (hi : mi sl cs = some (l.map enc, c1))
    (h : ∀ a ∈ l, ∃ sl2, mg (enc a) (wipeA sl vs) = some sl2 ∧ mt sl2 c1 = some (p a, c1) ∧ (p a = true → ∃ x y, mk sl2 c1 = some (x, c1) ∧ mv sl2 c1 = some (y, c1) ∧ toD c1 x = some (kD (kf a)) ∧ asD y = some (f a))) :
    mDc mi mg mt mk mv vs sl cs = some (.new (.dK (mergeD [] ((l.filter p).map fun a => (kf a, f a)))), c1) := by
  unfold mDc
  rw [hi]
  simp [dc_filt enc kf f p l [] h]
theorem for_fold {β : Type} {mb : MS} {kl : List Nat} (enc : α → D) (S : β → Sl × Cs) (step : β → α → β) (Q : List α → β → Prop)
    (h : ∀ a r b, Q (a :: r) b → Q r (step b a) ∧ ∃ sl1 sl2 c2, mg (enc a) (S b).1 = some sl1 ∧ mb sl1 (S b).2 = some (.nx sl2 c2) ∧ (kill kl sl2, c2) = S (step b a)) :
    ∀ (l : List α) (b : β), Q l b → forLoop mg mb kl (l.map enc) (S b).1 (S b).2 = some (.nx (S (l.foldl step b)).1 (S (l.foldl step b)).2) ∧ Q [] (l.foldl step b)
  | [], b, q => ⟨rfl, q⟩
  | a :: r, b, q => by
    obtain ⟨q2, sl1, sl2, c2, h1, h2, h3⟩ := h a r b q
    have ih := for_fold enc S step Q h r (step b a) q2
    rw [← h3] at ih
    rw [List.map_cons, List.foldl_cons]
    unfold forLoop
    rw [h1]
    simp only [h2]
    exact ih
theorem sFor_fold {β : Type} {mb : MS} {kl : List Nat} (enc : α → D) (S : β → Sl × Cs) (step : β → α → β) (Q : List α → β → Prop) (l : List α) (b : β) (hi : mi sl cs = some (l.map enc, c1)) (hb : (kill kl sl, c1) = S b) (q : Q l b)
    (h : ∀ a r b, Q (a :: r) b → Q r (step b a) ∧ ∃ sl1 sl2 c2, mg (enc a) (S b).1 = some sl1 ∧ mb sl1 (S b).2 = some (.nx sl2 c2) ∧ (kill kl sl2, c2) = S (step b a)) :
    sFor mi mg kl mb sl cs = some (.nx (S (l.foldl step b)).1 (S (l.foldl step b)).2) ∧ Q [] (l.foldl step b) := by
  have e := for_fold enc S step Q h l b q
  rw [← hb] at e
  unfold sFor
  rw [hi]
  exact e
end
/-- rows of draws -/
def drs (m : Int) : Nat → Int × Int → List Int × (Int × Int)
  | 0, s => ([], s)
  | n + 1, s => let t := drs m n (dd s.1 s.2 m, de s.1 s.2 m); (dr s.1 s.2 m :: t.1, t.2)
theorem drs_len (m : Int) : ∀ (n : Nat) (s : Int × Int), (drs m n s).1.length = n
  | 0, _ => rfl
  | n + 1, s => by simp [drs, drs_len m n]
theorem drs_lt {m : Int} (h : 0 < m) : ∀ (n : Nat) (s : Int × Int), ∀ x ∈ (drs m n s).1, 0 ≤ x ∧ x < m
  | 0, _ => by simp [drs]
  | n + 1, s => by
    intro x hx
    simp only [drs, List.mem_cons] at hx
    rcases hx with rfl | hx
    · exact dr_lt _ _ h
    · exact drs_lt h n _ x hx
theorem lc_drs {mg : MG} {me : ME} {m : Int} {sl : Sl} {C : Int × Int → Cs} (h : ∀ (x : D) (s : Int × Int), ∃ sl2, mg x sl = some sl2 ∧ me sl2 (C s) = some (.dat (.int (dr s.1 s.2 m)), C (dd s.1 s.2 m, de s.1 s.2 m))) :
    ∀ (l : List D) (s : Int × Int), lcLoop mg mYes me sl l (C s) = some (iL (drs m l.length s).1, C (drs m l.length s).2)
  | [], s => rfl
  | a :: r, s => by
    obtain ⟨sl2, h1, h2⟩ := h a s
    have ih := lc_drs h r (dd s.1 s.2 m, de s.1 s.2 m)
    unfold lcLoop
    rw [h1]
    simp [h2, ih, drs, mYes, asD]
theorem mLc_drs {mi : MI} {mg : MG} {me : ME} {vs : List Nat} {m : Int} {sl : Sl} {cs : Cs} {C : Int × Int → Cs} {l : List D} {s : Int × Int} (hi : mi sl cs = some (l, C s))
    (h : ∀ (x : D) (s : Int × Int), ∃ sl2, mg x (wipeA sl vs) = some sl2 ∧ me sl2 (C s) = some (.dat (.int (dr s.1 s.2 m)), C (dd s.1 s.2 m, de s.1 s.2 m))) :
    mLc mi mg mYes me vs sl cs = some (.new (.lst (iL (drs m l.length s).1)), C (drs m l.length s).2) := by
  unfold mLc
  rw [hi]
  simp [lc_drs h l s]
theorem rng_len (a : Int) (n : Nat) : (rng a n).length = n := by simp [rng]
theorem rng0 (n : Nat) : rng 0 n = (List.range n).map fun (i : Nat) => PyData.int i := by simp [rng]
theorem cMul_ok {i j : Int} (h : -(10 ^ 18) < i ∧ i < 10 ^ 18) : cMul i j = true := by
  unfold cMul
  rw [decide_eq_true_iff]
  omega
theorem cPos_ok {i j : Int} (h : 0 < j) : cPos i j = true := decide_eq_true h
theorem cDivW_ok {i j : Int} (h : 0 < j) (h2 : j < 1073741824) : cDivW i j = true := by simp [cDivW, h, h2]
theorem fEqLm {α β : Type} (n : Bool) (f : α → Int) (l : List α) (g : β → Int) (m : List β) : fEq n (.list (l.map fun a => PyData.int (f a))) (.list (m.map fun b => PyData.int (g b))) = some (.dat (.bool (if n = true then !decide (l.map f = m.map g) else decide (l.map f = m.map g)))) := by
  have h := fEqL n (l.map f) (m.map g)
  rw [show iL (l.map f) = l.map fun a => PyData.int (f a) by simp, show iL (m.map g) = m.map fun a => PyData.int (g a) by simp] at h
  exact h
theorem zipD_maps {α β : Type} (f : α → D) (g : β → D) : ∀ (l : List α) (m : List β), zipD (l.map f) (m.map g) = (l.zip m).map fun p => .tuple [f p.1, g p.2]
  | [], _ => by simp [zipD]
  | _ :: _, [] => by simp [zipD]
  | a :: r, b :: t => by simp [zipD, zipD_maps f g r t]
theorem ixN_in {n : Nat} {z : Int} (h0 : 0 ≤ z) (h1 : z < n) : ixN n z = some z.toNat := by simp [ixN, h0, h1]
theorem atI_range {n : Nat} {f : Nat → D} {z : Int} (h0 : 0 ≤ z) (h1 : z < n) : atI ((List.range n).map f) z = some (f z.toNat) := by
  have h2 : z.toNat < n := by omega
  unfold atI
  rw [List.length_map, List.length_range, ixN_in h0 h1]
  simp [h2]
theorem atI_nn {l : List D} {z : Int} (h : 0 ≤ z) (h2 : z < l.length) : atI l z = l[z.toNat]? := by
  unfold atI
  rw [ixN_in h h2]
  rfl
theorem atI0 (a : D) (l : List D) : atI (a :: l) 0 = some a := by rw [atI_nn (by omega) (by simp only [List.length_cons]; omega)]; rfl
theorem atI1 (a b : D) (l : List D) : atI (a :: b :: l) 1 = some b := by rw [atI_nn (by omega) (by simp only [List.length_cons]; omega)]; rfl
theorem atI2 (a b c : D) (l : List D) : atI (a :: b :: c :: l) 2 = some c := by rw [atI_nn (by omega) (by simp only [List.length_cons]; omega)]; rfl
theorem atI3 (a b c d : D) (l : List D) : atI (a :: b :: c :: d :: l) 3 = some d := by rw [atI_nn (by omega) (by simp only [List.length_cons]; omega)]; rfl
theorem zip_same {α : Type} : ∀ l : List α, l.zip l = l.map fun a => (a, a)
  | [] => rfl
  | a :: r => by rw [List.zip_cons_cons, zip_same r]; rfl
end Rf

namespace Rf
open PySem L2
theorem draw_ok (d e m : Int) (h : 0 < m) (h2 : m < 1073741824) : M__law_draw [.cell 0, .dat (.int m)] [bx d e] = some (.dat (.int (dr d e m)), [bx (dd d e m) (de d e m)]) := by
  unfold M__law_draw B__law_draw bx dr dd de
  by_cases hd : 0 < d
  · simp [mVar, mC, mOp, mOpN, mUn, aNil, aCons, toDs, asDs, mCB, mTup, mLst, mIf, mTest, mAnd, mOr, mNot, mAndV, mOrV, mNotV, mChain, fI, fIc, fB, fU, fIx, fCatL, fCatT, fCatS, fAdd, orF, cPos, cDivW, f1, f2, fAbs, fInt, fLen, fMin2, fMax2, mSub, mIn, mLen, mScrIx, mScrLen, mIsi, fIsi, mTuple, mTupleP, mSl, mNoPart, mPart, sNext, sSeq, sAsg, sIf, sRet, sRetN, sDrop, sNever, sSetL, sPar, mYes, mgN, mgNil, mgCons, mgT, toD, toDn, asD, cD, retA, runF, kill, lookA, viewK, viewT, keyOf, ixN, atI0, atI1, atI2, atI3, isIn, mCall, renum, cellsOf, putBack, miSeq, still, miR1, miR2, wipeA, fEqI, fEqL, fEqT, fEqTT, hd, h, h2, cPos, cMul, cDivW]
  · simp [mVar, mC, mOp, mOpN, mUn, aNil, aCons, toDs, asDs, mCB, mTup, mLst, mIf, mTest, mAnd, mOr, mNot, mAndV, mOrV, mNotV, mChain, fI, fIc, fB, fU, fIx, fCatL, fCatT, fCatS, fAdd, orF, cPos, cDivW, f1, f2, fAbs, fInt, fLen, fMin2, fMax2, mSub, mIn, mLen, mScrIx, mScrLen, mIsi, fIsi, mTuple, mTupleP, mSl, mNoPart, mPart, sNext, sSeq, sAsg, sIf, sRet, sRetN, sDrop, sNever, sSetL, sPar, mYes, mgN, mgNil, mgCons, mgT, toD, toDn, asD, cD, retA, runF, kill, lookA, viewK, viewT, keyOf, ixN, atI0, atI1, atI2, atI3, isIn, mCall, renum, cellsOf, putBack, miSeq, still, miR1, miR2, wipeA, fEqI, fEqL, fEqT, fEqTT, hd, h, h2, cPos, cMul, cDivW]
theorem isint_ok (i : Int) : M_is_integer [.dat (.int i)] [] = some (.dat (.bool true), []) := rfl
theorem between_ok (i lo hi : Int) : M_is_between [.dat (.int i), .dat (.int lo), .dat (.int hi)] [] = some (.dat (.bool (decide (lo ≤ i) && decide (i ≤ hi))), []) := by
  unfold M_is_between B_is_between
  by_cases h1 : lo ≤ i <;> simp [mVar, mC, mOp, mOpN, mUn, aNil, aCons, toDs, asDs, mCB, mTup, mLst, mIf, mTest, mAnd, mOr, mNot, mAndV, mOrV, mNotV, mChain, fI, fIc, fB, fU, fIx, fCatL, fCatT, fCatS, fAdd, orF, cPos, cDivW, f1, f2, fAbs, fInt, fLen, fMin2, fMax2, mSub, mIn, mLen, mScrIx, mScrLen, mIsi, fIsi, mTuple, mTupleP, mSl, mNoPart, mPart, sNext, sSeq, sAsg, sIf, sRet, sRetN, sDrop, sNever, sSetL, sPar, mYes, mgN, mgNil, mgCons, mgT, toD, toDn, asD, cD, retA, runF, kill, lookA, viewK, viewT, keyOf, ixN, atI0, atI1, atI2, atI3, isIn, mCall, renum, cellsOf, putBack, miSeq, still, miR1, miR2, wipeA, fEqI, fEqL, fEqT, fEqTT, h1, isint_ok]
theorem cell_ok (ns : List Int) : M__law_cell [.scr ns, .dat (.int 0)] [] = some (.dat (.int (ns.headD 0)), []) := by
  unfold M__law_cell B__law_cell
  cases ns <;> simp [mVar, mC, mOp, mOpN, mUn, aNil, aCons, toDs, asDs, mCB, mTup, mLst, mIf, mTest, mAnd, mOr, mNot, mAndV, mOrV, mNotV, mChain, fI, fIc, fB, fU, fIx, fCatL, fCatT, fCatS, fAdd, orF, cPos, cDivW, f1, f2, fAbs, fInt, fLen, fMin2, fMax2, mSub, mIn, mLen, mScrIx, mScrLen, mIsi, fIsi, mTuple, mTupleP, mSl, mNoPart, mPart, sNext, sSeq, sAsg, sIf, sRet, sRetN, sDrop, sNever, sSetL, sPar, mYes, mgN, mgNil, mgCons, mgT, toD, toDn, asD, cD, retA, runF, kill, lookA, viewK, viewT, keyOf, ixN, atI0, atI1, atI2, atI3, isIn, mCall, renum, cellsOf, putBack, miSeq, still, miR1, miR2, wipeA, fEqI, fEqL, fEqT, fEqTT, atI]
theorem stream_ok (ns : List Int) : ∃ d e, M__law_stream [.scr ns, .dat (.int 0)] [] = some (.new (.lst [.int d, .int e]), []) := by
  refine ⟨if ns.headD 0 < 0 then -ns.headD 0 else ns.headD 0, (if ns.headD 0 < 0 then -ns.headD 0 else ns.headD 0) % 1000003 + 7, ?_⟩
  unfold M__law_stream B__law_stream
  simp [mVar, mC, mOp, mOpN, mUn, aNil, aCons, toDs, asDs, mCB, mTup, mLst, mIf, mTest, mAnd, mOr, mNot, mAndV, mOrV, mNotV, mChain, fI, fIc, fB, fU, fIx, fCatL, fCatT, fCatS, fAdd, orF, cPos, cDivW, f1, f2, fAbs, fInt, fLen, fMin2, fMax2, mSub, mIn, mLen, mScrIx, mScrLen, mIsi, fIsi, mTuple, mTupleP, mSl, mNoPart, mPart, sNext, sSeq, sAsg, sIf, sRet, sRetN, sDrop, sNever, sSetL, sPar, mYes, mgN, mgNil, mgCons, mgT, toD, toDn, asD, cD, retA, runF, kill, lookA, viewK, viewT, keyOf, ixN, atI0, atI1, atI2, atI3, isIn, mCall, renum, cellsOf, putBack, miSeq, still, miR1, miR2, wipeA, fEqI, fEqL, fEqT, fEqTT, cell_ok]
theorem items_ok (l : List Int) (h1 : l.length ≤ 40) (h2 : ∀ x ∈ l, -1000 ≤ x ∧ x ≤ 1000) : M_check_items [.dat (iT l)] [] = some (.dat .none, []) := by
  have hL : L_check_items_1 [some (.dat (iT l)), none] [] = some (.new (.lst (l.map fun x => .bool (decide (-1000 ≤ x) && decide (x ≤ 1000)))), []) :=
    mLc_map .int _ l (by simp [mVar, mC, mOp, mOpN, mUn, aNil, aCons, toDs, asDs, mCB, mTup, mLst, mIf, mTest, mAnd, mOr, mNot, mAndV, mOrV, mNotV, mChain, fI, fIc, fB, fU, fIx, fCatL, fCatT, fCatS, fAdd, orF, cPos, cDivW, f1, f2, fAbs, fInt, fLen, fMin2, fMax2, mSub, mIn, mLen, mScrIx, mScrLen, mIsi, fIsi, mTuple, mTupleP, mSl, mNoPart, mPart, sNext, sSeq, sAsg, sIf, sRet, sRetN, sDrop, sNever, sSetL, sPar, mYes, mgN, mgNil, mgCons, mgT, toD, toDn, asD, cD, retA, runF, kill, lookA, viewK, viewT, keyOf, ixN, atI0, atI1, atI2, atI3, isIn, mCall, renum, cellsOf, putBack, miSeq, still, miR1, miR2, wipeA, fEqI, fEqL, fEqT, fEqTT]) fun a ha => ⟨_, rfl, rfl, _, by simp [mVar, mC, mOp, mOpN, mUn, aNil, aCons, toDs, asDs, mCB, mTup, mLst, mIf, mTest, mAnd, mOr, mNot, mAndV, mOrV, mNotV, mChain, fI, fIc, fB, fU, fIx, fCatL, fCatT, fCatS, fAdd, orF, cPos, cDivW, f1, f2, fAbs, fInt, fLen, fMin2, fMax2, mSub, mIn, mLen, mScrIx, mScrLen, mIsi, fIsi, mTuple, mTupleP, mSl, mNoPart, mPart, sNext, sSeq, sAsg, sIf, sRet, sRetN, sDrop, sNever, sSetL, sPar, mYes, mgN, mgNil, mgCons, mgT, toD, toDn, asD, cD, retA, runF, kill, lookA, viewK, viewT, keyOf, ixN, atI0, atI1, atI2, atI3, isIn, mCall, renum, cellsOf, putBack, miSeq, still, miR1, miR2, wipeA, fEqI, fEqL, fEqT, fEqTT, between_ok]; rfl, rfl⟩
  have hall : (l.all fun x => decide (-1000 ≤ x) && decide (x ≤ 1000)) = true := by
    rw [List.all_eq_true]
    intro x hx
    have := h2 x hx
    simp [mVar, mC, mOp, mOpN, mUn, aNil, aCons, toDs, asDs, mCB, mTup, mLst, mIf, mTest, mAnd, mOr, mNot, mAndV, mOrV, mNotV, mChain, fI, fIc, fB, fU, fIx, fCatL, fCatT, fCatS, fAdd, orF, cPos, cDivW, f1, f2, fAbs, fInt, fLen, fMin2, fMax2, mSub, mIn, mLen, mScrIx, mScrLen, mIsi, fIsi, mTuple, mTupleP, mSl, mNoPart, mPart, sNext, sSeq, sAsg, sIf, sRet, sRetN, sDrop, sNever, sSetL, sPar, mYes, mgN, mgNil, mgCons, mgT, toD, toDn, asD, cD, retA, runF, kill, lookA, viewK, viewT, keyOf, ixN, atI0, atI1, atI2, atI3, isIn, mCall, renum, cellsOf, putBack, miSeq, still, miR1, miR2, wipeA, fEqI, fEqL, fEqT, fEqTT, this.1, this.2]
  unfold M_check_items B_check_items
  have h3 : ¬ (40 : Int) < l.length := by omega
  simp [mVar, mC, mOp, mOpN, mUn, aNil, aCons, toDs, asDs, mCB, mTup, mLst, mIf, mTest, mAnd, mOr, mNot, mAndV, mOrV, mNotV, mChain, fI, fIc, fB, fU, fIx, fCatL, fCatT, fCatS, fAdd, orF, cPos, cDivW, f1, f2, fAbs, fInt, fLen, fMin2, fMax2, mSub, mIn, mLen, mScrIx, mScrLen, mIsi, fIsi, mTuple, mTupleP, mSl, mNoPart, mPart, sNext, sSeq, sAsg, sIf, sRet, sRetN, sDrop, sNever, sSetL, sPar, mYes, mgN, mgNil, mgCons, mgT, toD, toDn, asD, cD, retA, runF, kill, lookA, viewK, viewT, keyOf, ixN, atI0, atI1, atI2, atI3, isIn, mCall, renum, cellsOf, putBack, miSeq, still, miR1, miR2, wipeA, fEqI, fEqL, fEqT, fEqTT, hL, fAll, boolsMap, h3, hall]

/-! ### boards -/
abbrev sD (s : Int × Int × Int) : D := .tuple [.int s.1, .int s.2.1, .int s.2.2]
abbrev sT (l : List (Int × Int × Int)) : D := .tuple (l.map sD)
abbrev rT (l : List (List Int)) : D := .tuple (l.map iT)
def okSeed (s : Int × Int × Int) : Prop := (0 ≤ s.1 ∧ s.1 ≤ 1000) ∧ (0 ≤ s.2.1 ∧ s.2.1 ≤ 1000) ∧ 1 ≤ s.2.2 ∧ s.2.2 ≤ 100
theorem seeds_ok (l : List (Int × Int × Int)) (h1 : 1 ≤ l.length ∧ l.length ≤ 10) (h2 : ∀ x ∈ l, okSeed x) : M_check_seeds [.dat (sT l)] [] = some (.dat .none, []) := by
  have hS : S_check_seeds_2 [some (.dat (sT l)), none, none] [] = some (.nx [some (.dat (sT l)), none, none] []) :=
    (sFor_fold (c1 := []) (β := Unit) sD (fun _ => ([some (.dat (sT l)), none, none], [])) (fun _ _ => ()) (fun r _ => ∀ x ∈ r, okSeed x) l () (by simp [mVar, mC, mOp, mOpN, mUn, aNil, aCons, toDs, asDs, mCB, mTup, mLst, mIf, mTest, mAnd, mOr, mNot, mAndV, mOrV, mNotV, mChain, fI, fIc, fB, fU, fIx, fCatL, fCatT, fCatS, fAdd, orF, cPos, cDivW, f1, f2, fAbs, fInt, fLen, fMin2, fMax2, mSub, mIn, mLen, mScrIx, mScrLen, mIsi, fIsi, mTuple, mTupleP, mSl, mNoPart, mPart, sNext, sSeq, sAsg, sIf, sRet, sRetN, sDrop, sNever, sSetL, sPar, mYes, mgN, mgNil, mgCons, mgT, toD, toDn, asD, cD, retA, runF, kill, lookA, viewK, viewT, keyOf, ixN, atI0, atI1, atI2, atI3, isIn, mCall, renum, cellsOf, putBack, miSeq, still, miR1, miR2, wipeA, fEqI, fEqL, fEqT, fEqTT]) (by simp [mVar, mC, mOp, mOpN, mUn, aNil, aCons, toDs, asDs, mCB, mTup, mLst, mIf, mTest, mAnd, mOr, mNot, mAndV, mOrV, mNotV, mChain, fI, fIc, fB, fU, fIx, fCatL, fCatT, fCatS, fAdd, orF, cPos, cDivW, f1, f2, fAbs, fInt, fLen, fMin2, fMax2, mSub, mIn, mLen, mScrIx, mScrLen, mIsi, fIsi, mTuple, mTupleP, mSl, mNoPart, mPart, sNext, sSeq, sAsg, sIf, sRet, sRetN, sDrop, sNever, sSetL, sPar, mYes, mgN, mgNil, mgCons, mgT, toD, toDn, asD, cD, retA, runF, kill, lookA, viewK, viewT, keyOf, ixN, atI0, atI1, atI2, atI3, isIn, mCall, renum, cellsOf, putBack, miSeq, still, miR1, miR2, wipeA, fEqI, fEqL, fEqT, fEqTT]) h2 fun a r b q => ⟨fun x hx => q x (List.mem_cons_of_mem _ hx), _, [some (.dat (sT l)), some (.dat (sD a)), none], [], rfl, by
      obtain ⟨⟨a1, a2⟩, ⟨b1, b2⟩, c1, c2⟩ := q a List.mem_cons_self
      have hL : L_check_seeds_1 [some (.dat (sT l)), some (.dat (sD a)), none] [] = some (.new (.lst ([a.1, a.2.1].map fun x => .bool (decide (0 ≤ x) && decide (x ≤ 1000)))), []) :=
        mLc_map .int _ [a.1, a.2.1] (by simp [mVar, mC, mOp, mOpN, mUn, aNil, aCons, toDs, asDs, mCB, mTup, mLst, mIf, mTest, mAnd, mOr, mNot, mAndV, mOrV, mNotV, mChain, fI, fIc, fB, fU, fIx, fCatL, fCatT, fCatS, fAdd, orF, cPos, cDivW, f1, f2, fAbs, fInt, fLen, fMin2, fMax2, mSub, mIn, mLen, mScrIx, mScrLen, mIsi, fIsi, mTuple, mTupleP, mSl, mNoPart, mPart, sNext, sSeq, sAsg, sIf, sRet, sRetN, sDrop, sNever, sSetL, sPar, mYes, mgN, mgNil, mgCons, mgT, toD, toDn, asD, cD, retA, runF, kill, lookA, viewK, viewT, keyOf, ixN, atI0, atI1, atI2, atI3, isIn, mCall, renum, cellsOf, putBack, miSeq, still, miR1, miR2, wipeA, fEqI, fEqL, fEqT, fEqTT, fCut, cutD]; rfl) fun a ha => ⟨_, rfl, rfl, _, by simp [mVar, mC, mOp, mOpN, mUn, aNil, aCons, toDs, asDs, mCB, mTup, mLst, mIf, mTest, mAnd, mOr, mNot, mAndV, mOrV, mNotV, mChain, fI, fIc, fB, fU, fIx, fCatL, fCatT, fCatS, fAdd, orF, cPos, cDivW, f1, f2, fAbs, fInt, fLen, fMin2, fMax2, mSub, mIn, mLen, mScrIx, mScrLen, mIsi, fIsi, mTuple, mTupleP, mSl, mNoPart, mPart, sNext, sSeq, sAsg, sIf, sRet, sRetN, sDrop, sNever, sSetL, sPar, mYes, mgN, mgNil, mgCons, mgT, toD, toDn, asD, cD, retA, runF, kill, lookA, viewK, viewT, keyOf, ixN, atI0, atI1, atI2, atI3, isIn, mCall, renum, cellsOf, putBack, miSeq, still, miR1, miR2, wipeA, fEqI, fEqL, fEqT, fEqTT, between_ok]; rfl, rfl⟩
      simp [mVar, mC, mOp, mOpN, mUn, aNil, aCons, toDs, asDs, mCB, mTup, mLst, mIf, mTest, mAnd, mOr, mNot, mAndV, mOrV, mNotV, mChain, fI, fIc, fB, fU, fIx, fCatL, fCatT, fCatS, fAdd, orF, cPos, cDivW, f1, f2, fAbs, fInt, fLen, fMin2, fMax2, mSub, mIn, mLen, mScrIx, mScrLen, mIsi, fIsi, mTuple, mTupleP, mSl, mNoPart, mPart, sNext, sSeq, sAsg, sIf, sRet, sRetN, sDrop, sNever, sSetL, sPar, mYes, mgN, mgNil, mgCons, mgT, toD, toDn, asD, cD, retA, runF, kill, lookA, viewK, viewT, keyOf, ixN, atI0, atI1, atI2, atI3, isIn, mCall, renum, cellsOf, putBack, miSeq, still, miR1, miR2, wipeA, fEqI, fEqL, fEqT, fEqTT, hL, between_ok, fAll, boolsOf, a1, a2, b1, b2, c1, c2], rfl⟩).1
  unfold M_check_seeds B_check_seeds
  have h3 : (l.length : Int) ≤ 10 := by omega
  have h4 : (1 : Int) ≤ l.length := by omega
  simp [mVar, mC, mOp, mOpN, mUn, aNil, aCons, toDs, asDs, mCB, mTup, mLst, mIf, mTest, mAnd, mOr, mNot, mAndV, mOrV, mNotV, mChain, fI, fIc, fB, fU, fIx, fCatL, fCatT, fCatS, fAdd, orF, cPos, cDivW, f1, f2, fAbs, fInt, fLen, fMin2, fMax2, mSub, mIn, mLen, mScrIx, mScrLen, mIsi, fIsi, mTuple, mTupleP, mSl, mNoPart, mPart, sNext, sSeq, sAsg, sIf, sRet, sRetN, sDrop, sNever, sSetL, sPar, mYes, mgN, mgNil, mgCons, mgT, toD, toDn, asD, cD, retA, runF, kill, lookA, viewK, viewT, keyOf, ixN, atI0, atI1, atI2, atI3, isIn, mCall, renum, cellsOf, putBack, miSeq, still, miR1, miR2, wipeA, fEqI, fEqL, fEqT, fEqTT, hS, h3, h4]

theorem board_in (l : List (List Int)) (h1 : 1 ≤ l.length ∧ l.length ≤ 10) (h2 : ∀ r ∈ l, (1 ≤ r.length ∧ r.length ≤ 100) ∧ ∀ x ∈ r, 0 ≤ x ∧ x ≤ 1000000) : M_check_board [.dat (rT l)] [] = some (.dat .none, []) := by
  have hS : S_check_board_2 [some (.dat (rT l)), none, none] [] = some (.nx [some (.dat (rT l)), none, none] []) :=
    (sFor_fold (c1 := []) (β := Unit) iT (fun _ => ([some (.dat (rT l)), none, none], [])) (fun _ _ => ()) (fun r _ => ∀ x ∈ r, x ∈ l) l () (by simp [mVar, mC, mOp, mOpN, mUn, aNil, aCons, toDs, asDs, mCB, mTup, mLst, mIf, mTest, mAnd, mOr, mNot, mAndV, mOrV, mNotV, mChain, fI, fIc, fB, fU, fIx, fCatL, fCatT, fCatS, fAdd, orF, cPos, cDivW, f1, f2, fAbs, fInt, fLen, fMin2, fMax2, mSub, mIn, mLen, mScrIx, mScrLen, mIsi, fIsi, mTuple, mTupleP, mSl, mNoPart, mPart, sNext, sSeq, sAsg, sIf, sRet, sRetN, sDrop, sNever, sSetL, sPar, mYes, mgN, mgNil, mgCons, mgT, toD, toDn, asD, cD, retA, runF, kill, lookA, viewK, viewT, keyOf, ixN, atI0, atI1, atI2, atI3, isIn, mCall, renum, cellsOf, putBack, miSeq, still, miR1, miR2, wipeA, fEqI, fEqL, fEqT, fEqTT]) (by simp [mVar, mC, mOp, mOpN, mUn, aNil, aCons, toDs, asDs, mCB, mTup, mLst, mIf, mTest, mAnd, mOr, mNot, mAndV, mOrV, mNotV, mChain, fI, fIc, fB, fU, fIx, fCatL, fCatT, fCatS, fAdd, orF, cPos, cDivW, f1, f2, fAbs, fInt, fLen, fMin2, fMax2, mSub, mIn, mLen, mScrIx, mScrLen, mIsi, fIsi, mTuple, mTupleP, mSl, mNoPart, mPart, sNext, sSeq, sAsg, sIf, sRet, sRetN, sDrop, sNever, sSetL, sPar, mYes, mgN, mgNil, mgCons, mgT, toD, toDn, asD, cD, retA, runF, kill, lookA, viewK, viewT, keyOf, ixN, atI0, atI1, atI2, atI3, isIn, mCall, renum, cellsOf, putBack, miSeq, still, miR1, miR2, wipeA, fEqI, fEqL, fEqT, fEqTT]) (fun _ h => h) fun a r b q => ⟨fun x hx => q x (List.mem_cons_of_mem _ hx), _, [some (.dat (rT l)), some (.dat (iT a)), none], [], rfl, by
      obtain ⟨⟨a1, a2⟩, b1⟩ := h2 a (q a List.mem_cons_self)
      have hL : L_check_board_1 [some (.dat (rT l)), some (.dat (iT a)), none] [] = some (.new (.lst (a.map fun x => .bool (decide (0 ≤ x) && decide (x ≤ 1000000)))), []) :=
        mLc_map .int _ a (by simp [mVar, mC, mOp, mOpN, mUn, aNil, aCons, toDs, asDs, mCB, mTup, mLst, mIf, mTest, mAnd, mOr, mNot, mAndV, mOrV, mNotV, mChain, fI, fIc, fB, fU, fIx, fCatL, fCatT, fCatS, fAdd, orF, cPos, cDivW, f1, f2, fAbs, fInt, fLen, fMin2, fMax2, mSub, mIn, mLen, mScrIx, mScrLen, mIsi, fIsi, mTuple, mTupleP, mSl, mNoPart, mPart, sNext, sSeq, sAsg, sIf, sRet, sRetN, sDrop, sNever, sSetL, sPar, mYes, mgN, mgNil, mgCons, mgT, toD, toDn, asD, cD, retA, runF, kill, lookA, viewK, viewT, keyOf, ixN, atI0, atI1, atI2, atI3, isIn, mCall, renum, cellsOf, putBack, miSeq, still, miR1, miR2, wipeA, fEqI, fEqL, fEqT, fEqTT]) fun a ha => ⟨_, rfl, rfl, _, by simp [mVar, mC, mOp, mOpN, mUn, aNil, aCons, toDs, asDs, mCB, mTup, mLst, mIf, mTest, mAnd, mOr, mNot, mAndV, mOrV, mNotV, mChain, fI, fIc, fB, fU, fIx, fCatL, fCatT, fCatS, fAdd, orF, cPos, cDivW, f1, f2, fAbs, fInt, fLen, fMin2, fMax2, mSub, mIn, mLen, mScrIx, mScrLen, mIsi, fIsi, mTuple, mTupleP, mSl, mNoPart, mPart, sNext, sSeq, sAsg, sIf, sRet, sRetN, sDrop, sNever, sSetL, sPar, mYes, mgN, mgNil, mgCons, mgT, toD, toDn, asD, cD, retA, runF, kill, lookA, viewK, viewT, keyOf, ixN, atI0, atI1, atI2, atI3, isIn, mCall, renum, cellsOf, putBack, miSeq, still, miR1, miR2, wipeA, fEqI, fEqL, fEqT, fEqTT, between_ok]; rfl, rfl⟩
      have hall : (a.all fun x => decide (0 ≤ x) && decide (x ≤ 1000000)) = true := by
        rw [List.all_eq_true]
        intro x hx
        have := b1 x hx
        simp [mVar, mC, mOp, mOpN, mUn, aNil, aCons, toDs, asDs, mCB, mTup, mLst, mIf, mTest, mAnd, mOr, mNot, mAndV, mOrV, mNotV, mChain, fI, fIc, fB, fU, fIx, fCatL, fCatT, fCatS, fAdd, orF, cPos, cDivW, f1, f2, fAbs, fInt, fLen, fMin2, fMax2, mSub, mIn, mLen, mScrIx, mScrLen, mIsi, fIsi, mTuple, mTupleP, mSl, mNoPart, mPart, sNext, sSeq, sAsg, sIf, sRet, sRetN, sDrop, sNever, sSetL, sPar, mYes, mgN, mgNil, mgCons, mgT, toD, toDn, asD, cD, retA, runF, kill, lookA, viewK, viewT, keyOf, ixN, atI0, atI1, atI2, atI3, isIn, mCall, renum, cellsOf, putBack, miSeq, still, miR1, miR2, wipeA, fEqI, fEqL, fEqT, fEqTT, this.1, this.2]
      have h3 : (a.length : Int) ≤ 100 := by omega
      have h4 : (1 : Int) ≤ a.length := by omega
      simp [mVar, mC, mOp, mOpN, mUn, aNil, aCons, toDs, asDs, mCB, mTup, mLst, mIf, mTest, mAnd, mOr, mNot, mAndV, mOrV, mNotV, mChain, fI, fIc, fB, fU, fIx, fCatL, fCatT, fCatS, fAdd, orF, cPos, cDivW, f1, f2, fAbs, fInt, fLen, fMin2, fMax2, mSub, mIn, mLen, mScrIx, mScrLen, mIsi, fIsi, mTuple, mTupleP, mSl, mNoPart, mPart, sNext, sSeq, sAsg, sIf, sRet, sRetN, sDrop, sNever, sSetL, sPar, mYes, mgN, mgNil, mgCons, mgT, toD, toDn, asD, cD, retA, runF, kill, lookA, viewK, viewT, keyOf, ixN, atI0, atI1, atI2, atI3, isIn, mCall, renum, cellsOf, putBack, miSeq, still, miR1, miR2, wipeA, fEqI, fEqL, fEqT, fEqTT, hL, fAll, boolsMap, hall, h3, h4], rfl⟩).1
  unfold M_check_board B_check_board
  have h3 : (l.length : Int) ≤ 10 := by omega
  have h4 : (1 : Int) ≤ l.length := by omega
  simp [mVar, mC, mOp, mOpN, mUn, aNil, aCons, toDs, asDs, mCB, mTup, mLst, mIf, mTest, mAnd, mOr, mNot, mAndV, mOrV, mNotV, mChain, fI, fIc, fB, fU, fIx, fCatL, fCatT, fCatS, fAdd, orF, cPos, cDivW, f1, f2, fAbs, fInt, fLen, fMin2, fMax2, mSub, mIn, mLen, mScrIx, mScrLen, mIsi, fIsi, mTuple, mTupleP, mSl, mNoPart, mPart, sNext, sSeq, sAsg, sIf, sRet, sRetN, sDrop, sNever, sSetL, sPar, mYes, mgN, mgNil, mgCons, mgT, toD, toDn, asD, cD, retA, runF, kill, lookA, viewK, viewT, keyOf, ixN, atI0, atI1, atI2, atI3, isIn, mCall, renum, cellsOf, putBack, miSeq, still, miR1, miR2, wipeA, fEqI, fEqL, fEqT, fEqTT, hS, h3, h4]
/-- the board of some seeds over a row -/
def cellN (row : List Int) (s : Int × Int × Int) (at_ : Nat) : Int := ((row.filter fun x => decide ((s.1 * x + s.2.1) % s.2.2 = (at_ : Int))).length : Nat)
def rowN (row : List Int) (s : Int × Int × Int) : List Int := (List.range s.2.2.toNat).map (cellN row s)
def brd (seeds : List (Int × Int × Int)) (row : List Int) : List (List Int) := seeds.map (rowN row)
theorem board_ok (seeds : List (Int × Int × Int)) (row : List Int) (h1 : 1 ≤ seeds.length ∧ seeds.length ≤ 10) (h2 : ∀ x ∈ seeds, okSeed x) (h3 : row.length ≤ 40) (h4 : ∀ x ∈ row, -1000 ≤ x ∧ x ≤ 1000) :
    M_board [.dat (sT seeds), .dat (iT row)] [] = some (.dat (rT (brd seeds row)), []) := by
  have hL : L_board_3 [some (.dat (sT seeds)), some (.dat (iT row)), none, none, none, none, none] [] = some (.new (.lst (seeds.map fun s => iT (rowN row s))), []) :=
    mLc_map sD _ seeds (by simp [mVar, mC, mOp, mOpN, mUn, aNil, aCons, toDs, asDs, mCB, mTup, mLst, mIf, mTest, mAnd, mOr, mNot, mAndV, mOrV, mNotV, mChain, fI, fIc, fB, fU, fIx, fCatL, fCatT, fCatS, fAdd, orF, cPos, cDivW, f1, f2, fAbs, fInt, fLen, fMin2, fMax2, mSub, mIn, mLen, mScrIx, mScrLen, mIsi, fIsi, mTuple, mTupleP, mSl, mNoPart, mPart, sNext, sSeq, sAsg, sIf, sRet, sRetN, sDrop, sNever, sSetL, sPar, mYes, mgN, mgNil, mgCons, mgT, toD, toDn, asD, cD, retA, runF, kill, lookA, viewK, viewT, keyOf, ixN, atI0, atI1, atI2, atI3, isIn, mCall, renum, cellsOf, putBack, miSeq, still, miR1, miR2, wipeA, fEqI, fEqL, fEqT, fEqTT]) fun s hs => ⟨_, rfl, rfl, .dat (iT (rowN row s)), by
      obtain ⟨⟨a1, a2⟩, ⟨b1, b2⟩, c1, c2⟩ := h2 s hs
      have h7 : s.2.2 ≤ 16777216 := by omega
      have h8 : -1000000 ≤ s.2.2 := by omega
      have hI : L_board_2 [some (.dat (sT seeds)), some (.dat (iT row)), none, none, some (.dat (.int s.1)), some (.dat (.int s.2.1)), some (.dat (.int s.2.2))] [] = some (.new (.lst ((List.range s.2.2.toNat).map fun (i : Nat) => .int (cellN row s i))), []) :=
        mLc_map (fun (i : Nat) => PyData.int i) _ (List.range s.2.2.toNat) (by simp [mVar, mC, mOp, mOpN, mUn, aNil, aCons, toDs, asDs, mCB, mTup, mLst, mIf, mTest, mAnd, mOr, mNot, mAndV, mOrV, mNotV, mChain, fI, fIc, fB, fU, fIx, fCatL, fCatT, fCatS, fAdd, orF, cPos, cDivW, f1, f2, fAbs, fInt, fLen, fMin2, fMax2, mSub, mIn, mLen, mScrIx, mScrLen, mIsi, fIsi, mTuple, mTupleP, mSl, mNoPart, mPart, sNext, sSeq, sAsg, sIf, sRet, sRetN, sDrop, sNever, sSetL, sPar, mYes, mgN, mgNil, mgCons, mgT, toD, toDn, asD, cD, retA, runF, kill, lookA, viewK, viewT, keyOf, ixN, atI0, atI1, atI2, atI3, isIn, mCall, renum, cellsOf, putBack, miSeq, still, miR1, miR2, wipeA, fEqI, fEqL, fEqT, fEqTT, rng0, h7, h8]) fun i hi => ⟨_, rfl, rfl, .dat (.int (cellN row s i)), by
          have hJ : L_board_1 [some (.dat (sT seeds)), some (.dat (iT row)), none, some (.dat (.int i)), some (.dat (.int s.1)), some (.dat (.int s.2.1)), some (.dat (.int s.2.2))] [] = some (.new (.lst ((row.filter fun x => decide ((s.1 * x + s.2.1) % s.2.2 = (i : Int))).map .int)), []) :=
            mLc_filt .int _ _ row (by simp [mVar, mC, mOp, mOpN, mUn, aNil, aCons, toDs, asDs, mCB, mTup, mLst, mIf, mTest, mAnd, mOr, mNot, mAndV, mOrV, mNotV, mChain, fI, fIc, fB, fU, fIx, fCatL, fCatT, fCatS, fAdd, orF, cPos, cDivW, f1, f2, fAbs, fInt, fLen, fMin2, fMax2, mSub, mIn, mLen, mScrIx, mScrLen, mIsi, fIsi, mTuple, mTupleP, mSl, mNoPart, mPart, sNext, sSeq, sAsg, sIf, sRet, sRetN, sDrop, sNever, sSetL, sPar, mYes, mgN, mgNil, mgCons, mgT, toD, toDn, asD, cD, retA, runF, kill, lookA, viewK, viewT, keyOf, ixN, atI0, atI1, atI2, atI3, isIn, mCall, renum, cellsOf, putBack, miSeq, still, miR1, miR2, wipeA, fEqI, fEqL, fEqT, fEqTT]) fun x hx => ⟨_, rfl, by
              have := h4 x hx
              have h5 : 0 < s.2.2 := by omega
              have h6 : cMul s.1 x = true := cMul_ok ⟨by omega, by omega⟩
              simp [mVar, mC, mOp, mOpN, mUn, aNil, aCons, toDs, asDs, mCB, mTup, mLst, mIf, mTest, mAnd, mOr, mNot, mAndV, mOrV, mNotV, mChain, fI, fIc, fB, fU, fIx, fCatL, fCatT, fCatS, fAdd, orF, cPos, cDivW, f1, f2, fAbs, fInt, fLen, fMin2, fMax2, mSub, mIn, mLen, mScrIx, mScrLen, mIsi, fIsi, mTuple, mTupleP, mSl, mNoPart, mPart, sNext, sSeq, sAsg, sIf, sRet, sRetN, sDrop, sNever, sSetL, sPar, mYes, mgN, mgNil, mgCons, mgT, toD, toDn, asD, cD, retA, runF, kill, lookA, viewK, viewT, keyOf, ixN, atI0, atI1, atI2, atI3, isIn, mCall, renum, cellsOf, putBack, miSeq, still, miR1, miR2, wipeA, fEqI, fEqL, fEqT, fEqTT, h5, h6], fun _ => ⟨_, rfl, rfl⟩⟩
          simp [mVar, mC, mOp, mOpN, mUn, aNil, aCons, toDs, asDs, mCB, mTup, mLst, mIf, mTest, mAnd, mOr, mNot, mAndV, mOrV, mNotV, mChain, fI, fIc, fB, fU, fIx, fCatL, fCatT, fCatS, fAdd, orF, cPos, cDivW, f1, f2, fAbs, fInt, fLen, fMin2, fMax2, mSub, mIn, mLen, mScrIx, mScrLen, mIsi, fIsi, mTuple, mTupleP, mSl, mNoPart, mPart, sNext, sSeq, sAsg, sIf, sRet, sRetN, sDrop, sNever, sSetL, sPar, mYes, mgN, mgNil, mgCons, mgT, toD, toDn, asD, cD, retA, runF, kill, lookA, viewK, viewT, keyOf, ixN, atI0, atI1, atI2, atI3, isIn, mCall, renum, cellsOf, putBack, miSeq, still, miR1, miR2, wipeA, fEqI, fEqL, fEqT, fEqTT, hJ, cellN], rfl⟩
      simp [mVar, mC, mOp, mOpN, mUn, aNil, aCons, toDs, asDs, mCB, mTup, mLst, mIf, mTest, mAnd, mOr, mNot, mAndV, mOrV, mNotV, mChain, fI, fIc, fB, fU, fIx, fCatL, fCatT, fCatS, fAdd, orF, cPos, cDivW, f1, f2, fAbs, fInt, fLen, fMin2, fMax2, mSub, mIn, mLen, mScrIx, mScrLen, mIsi, fIsi, mTuple, mTupleP, mSl, mNoPart, mPart, sNext, sSeq, sAsg, sIf, sRet, sRetN, sDrop, sNever, sSetL, sPar, mYes, mgN, mgNil, mgCons, mgT, toD, toDn, asD, cD, retA, runF, kill, lookA, viewK, viewT, keyOf, ixN, atI0, atI1, atI2, atI3, isIn, mCall, renum, cellsOf, putBack, miSeq, still, miR1, miR2, wipeA, fEqI, fEqL, fEqT, fEqTT, hI, rowN], rfl⟩
  unfold M_board B_board
  simp [mVar, mC, mOp, mOpN, mUn, aNil, aCons, toDs, asDs, mCB, mTup, mLst, mIf, mTest, mAnd, mOr, mNot, mAndV, mOrV, mNotV, mChain, fI, fIc, fB, fU, fIx, fCatL, fCatT, fCatS, fAdd, orF, cPos, cDivW, f1, f2, fAbs, fInt, fLen, fMin2, fMax2, mSub, mIn, mLen, mScrIx, mScrLen, mIsi, fIsi, mTuple, mTupleP, mSl, mNoPart, mPart, sNext, sSeq, sAsg, sIf, sRet, sRetN, sDrop, sNever, sSetL, sPar, mYes, mgN, mgNil, mgCons, mgT, toD, toDn, asD, cD, retA, runF, kill, lookA, viewK, viewT, keyOf, ixN, atI0, atI1, atI2, atI3, isIn, mCall, renum, cellsOf, putBack, miSeq, still, miR1, miR2, wipeA, fEqI, fEqL, fEqT, fEqTT, seeds_ok seeds h1 h2, items_ok row h3 h4, hL, brd]

theorem rowN_len (row : List Int) (s : Int × Int × Int) : (rowN row s).length = s.2.2.toNat := by simp [mVar, mC, mOp, mOpN, mUn, aNil, aCons, toDs, asDs, mCB, mTup, mLst, mIf, mTest, mAnd, mOr, mNot, mAndV, mOrV, mNotV, mChain, fI, fIc, fB, fU, fIx, fCatL, fCatT, fCatS, fAdd, orF, cPos, cDivW, f1, f2, fAbs, fInt, fLen, fMin2, fMax2, mSub, mIn, mLen, mScrIx, mScrLen, mIsi, fIsi, mTuple, mTupleP, mSl, mNoPart, mPart, sNext, sSeq, sAsg, sIf, sRet, sRetN, sDrop, sNever, sSetL, sPar, mYes, mgN, mgNil, mgCons, mgT, toD, toDn, asD, cD, retA, runF, kill, lookA, viewK, viewT, keyOf, ixN, atI0, atI1, atI2, atI3, isIn, mCall, renum, cellsOf, putBack, miSeq, still, miR1, miR2, wipeA, fEqI, fEqL, fEqT, fEqTT, rowN]
theorem cellN_le (row : List Int) (s : Int × Int × Int) (i : Nat) : 0 ≤ cellN row s i ∧ cellN row s i ≤ row.length := by
  unfold cellN
  have := List.length_filter_le (fun x => decide ((s.1 * x + s.2.1) % s.2.2 = (i : Int))) row
  omega
theorem brd_in {seeds : List (Int × Int × Int)} {row : List Int} (h1 : 1 ≤ seeds.length ∧ seeds.length ≤ 10) (h2 : ∀ x ∈ seeds, okSeed x) (h3 : row.length ≤ 40) :
    (1 ≤ (brd seeds row).length ∧ (brd seeds row).length ≤ 10) ∧ ∀ r ∈ brd seeds row, (1 ≤ r.length ∧ r.length ≤ 100) ∧ ∀ x ∈ r, 0 ≤ x ∧ x ≤ 1000000 := by
  refine ⟨by simpa [mVar, mC, mOp, mOpN, mUn, aNil, aCons, toDs, asDs, mCB, mTup, mLst, mIf, mTest, mAnd, mOr, mNot, mAndV, mOrV, mNotV, mChain, fI, fIc, fB, fU, fIx, fCatL, fCatT, fCatS, fAdd, orF, cPos, cDivW, f1, f2, fAbs, fInt, fLen, fMin2, fMax2, mSub, mIn, mLen, mScrIx, mScrLen, mIsi, fIsi, mTuple, mTupleP, mSl, mNoPart, mPart, sNext, sSeq, sAsg, sIf, sRet, sRetN, sDrop, sNever, sSetL, sPar, mYes, mgN, mgNil, mgCons, mgT, toD, toDn, asD, cD, retA, runF, kill, lookA, viewK, viewT, keyOf, ixN, atI0, atI1, atI2, atI3, isIn, mCall, renum, cellsOf, putBack, miSeq, still, miR1, miR2, wipeA, fEqI, fEqL, fEqT, fEqTT, brd] using h1, fun r hr => ?_⟩
  simp only [brd, List.mem_map] at hr
  obtain ⟨s, hs, rfl⟩ := hr
  obtain ⟨_, _, c1, c2⟩ := h2 s hs
  refine ⟨by rw [rowN_len]; omega, fun x hx => ?_⟩
  simp only [rowN, List.mem_map] at hx
  obtain ⟨i, _, rfl⟩ := hx
  have := cellN_le row s i
  omega
theorem both_ok (a b : List (List Int)) (ha : (1 ≤ a.length ∧ a.length ≤ 10) ∧ ∀ r ∈ a, (1 ≤ r.length ∧ r.length ≤ 100) ∧ ∀ x ∈ r, 0 ≤ x ∧ x ≤ 1000000) (hb : (1 ≤ b.length ∧ b.length ≤ 10) ∧ ∀ r ∈ b, (1 ≤ r.length ∧ r.length ≤ 100) ∧ ∀ x ∈ r, 0 ≤ x ∧ x ≤ 1000000)
    (hl : (a.map fun r => (r.length : Int)) = b.map fun r => (r.length : Int)) : M_both [.dat (rT a), .dat (rT b)] [] = some (.dat (rT ((a.zip b).map fun p => (p.1.zip p.2).map fun q => q.1 + q.2)), []) := by
  have h1 : L_both_1 [some (.dat (rT a)), some (.dat (rT b)), none, none, none, none] [] = some (.new (.lst (a.map fun r => .int (r.length : Int))), []) :=
    mLc_map iT _ a (by simp [mVar, mC, mOp, mOpN, mUn, aNil, aCons, toDs, asDs, mCB, mTup, mLst, mIf, mTest, mAnd, mOr, mNot, mAndV, mOrV, mNotV, mChain, fI, fIc, fB, fU, fIx, fCatL, fCatT, fCatS, fAdd, orF, cPos, cDivW, f1, f2, fAbs, fInt, fLen, fMin2, fMax2, mSub, mIn, mLen, mScrIx, mScrLen, mIsi, fIsi, mTuple, mTupleP, mSl, mNoPart, mPart, sNext, sSeq, sAsg, sIf, sRet, sRetN, sDrop, sNever, sSetL, sPar, mYes, mgN, mgNil, mgCons, mgT, toD, toDn, asD, cD, retA, runF, kill, lookA, viewK, viewT, keyOf, ixN, atI0, atI1, atI2, atI3, isIn, mCall, renum, cellsOf, putBack, miSeq, still, miR1, miR2, wipeA, fEqI, fEqL, fEqT, fEqTT]) fun r hr => ⟨_, rfl, rfl, _, by simp [mVar, mC, mOp, mOpN, mUn, aNil, aCons, toDs, asDs, mCB, mTup, mLst, mIf, mTest, mAnd, mOr, mNot, mAndV, mOrV, mNotV, mChain, fI, fIc, fB, fU, fIx, fCatL, fCatT, fCatS, fAdd, orF, cPos, cDivW, f1, f2, fAbs, fInt, fLen, fMin2, fMax2, mSub, mIn, mLen, mScrIx, mScrLen, mIsi, fIsi, mTuple, mTupleP, mSl, mNoPart, mPart, sNext, sSeq, sAsg, sIf, sRet, sRetN, sDrop, sNever, sSetL, sPar, mYes, mgN, mgNil, mgCons, mgT, toD, toDn, asD, cD, retA, runF, kill, lookA, viewK, viewT, keyOf, ixN, atI0, atI1, atI2, atI3, isIn, mCall, renum, cellsOf, putBack, miSeq, still, miR1, miR2, wipeA, fEqI, fEqL, fEqT, fEqTT]; rfl, rfl⟩
  have h2 : L_both_2 [some (.dat (rT a)), some (.dat (rT b)), none, none, none, none] [] = some (.new (.lst (b.map fun r => .int (r.length : Int))), []) :=
    mLc_map iT _ b (by simp [mVar, mC, mOp, mOpN, mUn, aNil, aCons, toDs, asDs, mCB, mTup, mLst, mIf, mTest, mAnd, mOr, mNot, mAndV, mOrV, mNotV, mChain, fI, fIc, fB, fU, fIx, fCatL, fCatT, fCatS, fAdd, orF, cPos, cDivW, f1, f2, fAbs, fInt, fLen, fMin2, fMax2, mSub, mIn, mLen, mScrIx, mScrLen, mIsi, fIsi, mTuple, mTupleP, mSl, mNoPart, mPart, sNext, sSeq, sAsg, sIf, sRet, sRetN, sDrop, sNever, sSetL, sPar, mYes, mgN, mgNil, mgCons, mgT, toD, toDn, asD, cD, retA, runF, kill, lookA, viewK, viewT, keyOf, ixN, atI0, atI1, atI2, atI3, isIn, mCall, renum, cellsOf, putBack, miSeq, still, miR1, miR2, wipeA, fEqI, fEqL, fEqT, fEqTT]) fun r hr => ⟨_, rfl, rfl, _, by simp [mVar, mC, mOp, mOpN, mUn, aNil, aCons, toDs, asDs, mCB, mTup, mLst, mIf, mTest, mAnd, mOr, mNot, mAndV, mOrV, mNotV, mChain, fI, fIc, fB, fU, fIx, fCatL, fCatT, fCatS, fAdd, orF, cPos, cDivW, f1, f2, fAbs, fInt, fLen, fMin2, fMax2, mSub, mIn, mLen, mScrIx, mScrLen, mIsi, fIsi, mTuple, mTupleP, mSl, mNoPart, mPart, sNext, sSeq, sAsg, sIf, sRet, sRetN, sDrop, sNever, sSetL, sPar, mYes, mgN, mgNil, mgCons, mgT, toD, toDn, asD, cD, retA, runF, kill, lookA, viewK, viewT, keyOf, ixN, atI0, atI1, atI2, atI3, isIn, mCall, renum, cellsOf, putBack, miSeq, still, miR1, miR2, wipeA, fEqI, fEqL, fEqT, fEqTT]; rfl, rfl⟩
  have h4 : L_both_4 [some (.dat (rT a)), some (.dat (rT b)), none, none, none, none] [] = some (.new (.lst ((a.zip b).map fun p => iT ((p.1.zip p.2).map fun q => q.1 + q.2))), []) :=
    mLc_map (fun p => PyData.tuple [iT p.1, iT p.2]) _ (a.zip b) (by simp [mVar, mC, mOp, mOpN, mUn, aNil, aCons, toDs, asDs, mCB, mTup, mLst, mIf, mTest, mAnd, mOr, mNot, mAndV, mOrV, mNotV, mChain, fI, fIc, fB, fU, fIx, fCatL, fCatT, fCatS, fAdd, orF, cPos, cDivW, f1, f2, fAbs, fInt, fLen, fMin2, fMax2, mSub, mIn, mLen, mScrIx, mScrLen, mIsi, fIsi, mTuple, mTupleP, mSl, mNoPart, mPart, sNext, sSeq, sAsg, sIf, sRet, sRetN, sDrop, sNever, sSetL, sPar, mYes, mgN, mgNil, mgCons, mgT, toD, toDn, asD, cD, retA, runF, kill, lookA, viewK, viewT, keyOf, ixN, atI0, atI1, atI2, atI3, isIn, mCall, renum, cellsOf, putBack, miSeq, still, miR1, miR2, wipeA, fEqI, fEqL, fEqT, fEqTT, miZip, stills, zipD_maps]) fun p hp => ⟨_, rfl, rfl, .dat (iT ((p.1.zip p.2).map fun q => q.1 + q.2)), by
      have h3 : L_both_3 [some (.dat (rT a)), some (.dat (rT b)), some (.dat (iT p.1)), none, none, some (.dat (iT p.2))] [] = some (.new (.lst ((p.1.zip p.2).map fun q => .int (q.1 + q.2))), []) :=
        mLc_map (fun q : Int × Int => PyData.tuple [.int q.1, .int q.2]) _ (p.1.zip p.2) (by simp [mVar, mC, mOp, mOpN, mUn, aNil, aCons, toDs, asDs, mCB, mTup, mLst, mIf, mTest, mAnd, mOr, mNot, mAndV, mOrV, mNotV, mChain, fI, fIc, fB, fU, fIx, fCatL, fCatT, fCatS, fAdd, orF, cPos, cDivW, f1, f2, fAbs, fInt, fLen, fMin2, fMax2, mSub, mIn, mLen, mScrIx, mScrLen, mIsi, fIsi, mTuple, mTupleP, mSl, mNoPart, mPart, sNext, sSeq, sAsg, sIf, sRet, sRetN, sDrop, sNever, sSetL, sPar, mYes, mgN, mgNil, mgCons, mgT, toD, toDn, asD, cD, retA, runF, kill, lookA, viewK, viewT, keyOf, ixN, atI0, atI1, atI2, atI3, isIn, mCall, renum, cellsOf, putBack, miSeq, still, miR1, miR2, wipeA, fEqI, fEqL, fEqT, fEqTT, miZip, stills, zipD_maps]) fun q hq => ⟨_, rfl, rfl, .dat (.int (q.1 + q.2)), by simp [mVar, mC, mOp, mOpN, mUn, aNil, aCons, toDs, asDs, mCB, mTup, mLst, mIf, mTest, mAnd, mOr, mNot, mAndV, mOrV, mNotV, mChain, fI, fIc, fB, fU, fIx, fCatL, fCatT, fCatS, fAdd, orF, cPos, cDivW, f1, f2, fAbs, fInt, fLen, fMin2, fMax2, mSub, mIn, mLen, mScrIx, mScrLen, mIsi, fIsi, mTuple, mTupleP, mSl, mNoPart, mPart, sNext, sSeq, sAsg, sIf, sRet, sRetN, sDrop, sNever, sSetL, sPar, mYes, mgN, mgNil, mgCons, mgT, toD, toDn, asD, cD, retA, runF, kill, lookA, viewK, viewT, keyOf, ixN, atI0, atI1, atI2, atI3, isIn, mCall, renum, cellsOf, putBack, miSeq, still, miR1, miR2, wipeA, fEqI, fEqL, fEqT, fEqTT], rfl⟩
      simp [mVar, mC, mOp, mOpN, mUn, aNil, aCons, toDs, asDs, mCB, mTup, mLst, mIf, mTest, mAnd, mOr, mNot, mAndV, mOrV, mNotV, mChain, fI, fIc, fB, fU, fIx, fCatL, fCatT, fCatS, fAdd, orF, cPos, cDivW, f1, f2, fAbs, fInt, fLen, fMin2, fMax2, mSub, mIn, mLen, mScrIx, mScrLen, mIsi, fIsi, mTuple, mTupleP, mSl, mNoPart, mPart, sNext, sSeq, sAsg, sIf, sRet, sRetN, sDrop, sNever, sSetL, sPar, mYes, mgN, mgNil, mgCons, mgT, toD, toDn, asD, cD, retA, runF, kill, lookA, viewK, viewT, keyOf, ixN, atI0, atI1, atI2, atI3, isIn, mCall, renum, cellsOf, putBack, miSeq, still, miR1, miR2, wipeA, fEqI, fEqL, fEqT, fEqTT, h3], rfl⟩
  unfold M_both B_both
  simp [mVar, mC, mOp, mOpN, mUn, aNil, aCons, toDs, asDs, mCB, mTup, mLst, mIf, mTest, mAnd, mOr, mNot, mAndV, mOrV, mNotV, mChain, fI, fIc, fB, fU, fIx, fCatL, fCatT, fCatS, fAdd, orF, cPos, cDivW, f1, f2, fAbs, fInt, fLen, fMin2, fMax2, mSub, mIn, mLen, mScrIx, mScrLen, mIsi, fIsi, mTuple, mTupleP, mSl, mNoPart, mPart, sNext, sSeq, sAsg, sIf, sRet, sRetN, sDrop, sNever, sSetL, sPar, mYes, mgN, mgNil, mgCons, mgT, toD, toDn, asD, cD, retA, runF, kill, lookA, viewK, viewT, keyOf, ixN, atI0, atI1, atI2, atI3, isIn, mCall, renum, cellsOf, putBack, miSeq, still, miR1, miR2, wipeA, fEqI, fEqL, fEqT, fEqTT, board_in a ha.1 ha.2, board_in b hb.1 hb.2, h1, h2, fEqLm, hl, h4]
theorem told_ok (seeds : List (Int × Int × Int)) (row : List Int) (x : Int) (h1 : 1 ≤ seeds.length ∧ seeds.length ≤ 10) (h2 : ∀ x ∈ seeds, okSeed x) (h3 : row.length ≤ 40) :
    M_told_count [.dat (sT seeds), .dat (rT (brd seeds row)), .dat (.int x)] [] = match seeds.map fun s => cellN row s ((s.1 * x + s.2.1) % s.2.2).toNat with
      | n :: ns => some (.dat (.int (minL n ns)), [])
      | [] => none := by
  have g1 : L_told_count_1 [some (.dat (sT seeds)), some (.dat (rT (brd seeds row))), some (.dat (.int x)), none, none, none, none, none] [] = some (.new (.lst ((brd seeds row).map fun r => .int (r.length : Int))), []) :=
    mLc_map iT _ (brd seeds row) (by simp [mVar, mC, mOp, mOpN, mUn, aNil, aCons, toDs, asDs, mCB, mTup, mLst, mIf, mTest, mAnd, mOr, mNot, mAndV, mOrV, mNotV, mChain, fI, fIc, fB, fU, fIx, fCatL, fCatT, fCatS, fAdd, orF, cPos, cDivW, f1, f2, fAbs, fInt, fLen, fMin2, fMax2, mSub, mIn, mLen, mScrIx, mScrLen, mIsi, fIsi, mTuple, mTupleP, mSl, mNoPart, mPart, sNext, sSeq, sAsg, sIf, sRet, sRetN, sDrop, sNever, sSetL, sPar, mYes, mgN, mgNil, mgCons, mgT, toD, toDn, asD, cD, retA, runF, kill, lookA, viewK, viewT, keyOf, ixN, atI0, atI1, atI2, atI3, isIn, mCall, renum, cellsOf, putBack, miSeq, still, miR1, miR2, wipeA, fEqI, fEqL, fEqT, fEqTT]) fun r hr => ⟨_, rfl, rfl, _, by simp [mVar, mC, mOp, mOpN, mUn, aNil, aCons, toDs, asDs, mCB, mTup, mLst, mIf, mTest, mAnd, mOr, mNot, mAndV, mOrV, mNotV, mChain, fI, fIc, fB, fU, fIx, fCatL, fCatT, fCatS, fAdd, orF, cPos, cDivW, f1, f2, fAbs, fInt, fLen, fMin2, fMax2, mSub, mIn, mLen, mScrIx, mScrLen, mIsi, fIsi, mTuple, mTupleP, mSl, mNoPart, mPart, sNext, sSeq, sAsg, sIf, sRet, sRetN, sDrop, sNever, sSetL, sPar, mYes, mgN, mgNil, mgCons, mgT, toD, toDn, asD, cD, retA, runF, kill, lookA, viewK, viewT, keyOf, ixN, atI0, atI1, atI2, atI3, isIn, mCall, renum, cellsOf, putBack, miSeq, still, miR1, miR2, wipeA, fEqI, fEqL, fEqT, fEqTT]; rfl, rfl⟩
  have g2 : L_told_count_2 [some (.dat (sT seeds)), some (.dat (rT (brd seeds row))), some (.dat (.int x)), none, none, none, none, none] [] = some (.new (.lst (seeds.map fun s => .int s.2.2)), []) :=
    mLc_map sD _ seeds (by simp [mVar, mC, mOp, mOpN, mUn, aNil, aCons, toDs, asDs, mCB, mTup, mLst, mIf, mTest, mAnd, mOr, mNot, mAndV, mOrV, mNotV, mChain, fI, fIc, fB, fU, fIx, fCatL, fCatT, fCatS, fAdd, orF, cPos, cDivW, f1, f2, fAbs, fInt, fLen, fMin2, fMax2, mSub, mIn, mLen, mScrIx, mScrLen, mIsi, fIsi, mTuple, mTupleP, mSl, mNoPart, mPart, sNext, sSeq, sAsg, sIf, sRet, sRetN, sDrop, sNever, sSetL, sPar, mYes, mgN, mgNil, mgCons, mgT, toD, toDn, asD, cD, retA, runF, kill, lookA, viewK, viewT, keyOf, ixN, atI0, atI1, atI2, atI3, isIn, mCall, renum, cellsOf, putBack, miSeq, still, miR1, miR2, wipeA, fEqI, fEqL, fEqT, fEqTT]) fun r hr => ⟨_, rfl, rfl, _, by simp [mVar, mC, mOp, mOpN, mUn, aNil, aCons, toDs, asDs, mCB, mTup, mLst, mIf, mTest, mAnd, mOr, mNot, mAndV, mOrV, mNotV, mChain, fI, fIc, fB, fU, fIx, fCatL, fCatT, fCatS, fAdd, orF, cPos, cDivW, f1, f2, fAbs, fInt, fLen, fMin2, fMax2, mSub, mIn, mLen, mScrIx, mScrLen, mIsi, fIsi, mTuple, mTupleP, mSl, mNoPart, mPart, sNext, sSeq, sAsg, sIf, sRet, sRetN, sDrop, sNever, sSetL, sPar, mYes, mgN, mgNil, mgCons, mgT, toD, toDn, asD, cD, retA, runF, kill, lookA, viewK, viewT, keyOf, ixN, atI0, atI1, atI2, atI3, isIn, mCall, renum, cellsOf, putBack, miSeq, still, miR1, miR2, wipeA, fEqI, fEqL, fEqT, fEqTT]; rfl, rfl⟩
  have g3 : L_told_count_3 [some (.dat (sT seeds)), some (.dat (rT (brd seeds row))), some (.dat (.int x)), none, none, none, none, none] [] = some (.new (.lst (seeds.map fun s => .int (cellN row s ((s.1 * x + s.2.1) % s.2.2).toNat))), []) :=
    mLc_map (fun s => PyData.tuple [sD s, iT (rowN row s)]) _ seeds (by
      have e : zipD (seeds.map sD) ((brd seeds row).map iT) = seeds.map fun s => PyData.tuple [sD s, iT (rowN row s)] := by
        rw [zipD_maps]
        unfold brd
        rw [List.zip_map_right]
        simp [mVar, mC, mOp, mOpN, mUn, aNil, aCons, toDs, asDs, mCB, mTup, mLst, mIf, mTest, mAnd, mOr, mNot, mAndV, mOrV, mNotV, mChain, fI, fIc, fB, fU, fIx, fCatL, fCatT, fCatS, fAdd, orF, cPos, cDivW, f1, f2, fAbs, fInt, fLen, fMin2, fMax2, mSub, mIn, mLen, mScrIx, mScrLen, mIsi, fIsi, mTuple, mTupleP, mSl, mNoPart, mPart, sNext, sSeq, sAsg, sIf, sRet, sRetN, sDrop, sNever, sSetL, sPar, mYes, mgN, mgNil, mgCons, mgT, toD, toDn, asD, cD, retA, runF, kill, lookA, viewK, viewT, keyOf, ixN, atI0, atI1, atI2, atI3, isIn, mCall, renum, cellsOf, putBack, miSeq, still, miR1, miR2, wipeA, fEqI, fEqL, fEqT, fEqTT, zip_same]
      simp [mVar, mC, mOp, mOpN, mUn, aNil, aCons, toDs, asDs, mCB, mTup, mLst, mIf, mTest, mAnd, mOr, mNot, mAndV, mOrV, mNotV, mChain, fI, fIc, fB, fU, fIx, fCatL, fCatT, fCatS, fAdd, orF, cPos, cDivW, f1, f2, fAbs, fInt, fLen, fMin2, fMax2, mSub, mIn, mLen, mScrIx, mScrLen, mIsi, fIsi, mTuple, mTupleP, mSl, mNoPart, mPart, sNext, sSeq, sAsg, sIf, sRet, sRetN, sDrop, sNever, sSetL, sPar, mYes, mgN, mgNil, mgCons, mgT, toD, toDn, asD, cD, retA, runF, kill, lookA, viewK, viewT, keyOf, ixN, atI0, atI1, atI2, atI3, isIn, mCall, renum, cellsOf, putBack, miSeq, still, miR1, miR2, wipeA, fEqI, fEqL, fEqT, fEqTT, miZip, stills, e]) fun s hs => ⟨_, rfl, rfl, .dat (.int (cellN row s ((s.1 * x + s.2.1) % s.2.2).toNat)), by
        obtain ⟨⟨a1, a2⟩, ⟨b1, b2⟩, c1, c2⟩ := h2 s hs
        have h6 : cMul s.1 x = true := cMul_ok ⟨by omega, by omega⟩
        have h5 : 0 < s.2.2 := by omega
        have q1 := Int.emod_nonneg (s.1 * x + s.2.1) (show s.2.2 ≠ 0 by omega)
        have q2 := Int.emod_lt_of_pos (s.1 * x + s.2.1) h5
        have h7 : atI ((rowN row s).map PyData.int) ((s.1 * x + s.2.1) % s.2.2) = some (.int (cellN row s ((s.1 * x + s.2.1) % s.2.2).toNat)) := by
          unfold rowN
          rw [List.map_map]
          exact atI_range q1 (by omega)
        simp [mVar, mC, mOp, mOpN, mUn, aNil, aCons, toDs, asDs, mCB, mTup, mLst, mIf, mTest, mAnd, mOr, mNot, mAndV, mOrV, mNotV, mChain, fI, fIc, fB, fU, fIx, fCatL, fCatT, fCatS, fAdd, orF, cPos, cDivW, f1, f2, fAbs, fInt, fLen, fMin2, fMax2, mSub, mIn, mLen, mScrIx, mScrLen, mIsi, fIsi, mTuple, mTupleP, mSl, mNoPart, mPart, sNext, sSeq, sAsg, sIf, sRet, sRetN, sDrop, sNever, sSetL, sPar, mYes, mgN, mgNil, mgCons, mgT, toD, toDn, asD, cD, retA, runF, kill, lookA, viewK, viewT, keyOf, ixN, atI0, atI1, atI2, atI3, isIn, mCall, renum, cellsOf, putBack, miSeq, still, miR1, miR2, wipeA, fEqI, fEqL, fEqT, fEqTT, h6, h5, h7], rfl⟩
  have e : ((brd seeds row).map fun r => (r.length : Int)) = seeds.map fun s => s.2.2 := by
    unfold brd
    rw [List.map_map]
    refine List.map_congr_left fun s hs => ?_
    obtain ⟨_, _, c1, c2⟩ := h2 s hs
    show ((rowN row s).length : Int) = _
    rw [rowN_len]
    omega
  obtain ⟨k1, k2⟩ := brd_in (row := row) h1 h2 h3
  unfold M_told_count B_told_count
  simp [mVar, mC, mOp, mOpN, mUn, aNil, aCons, toDs, asDs, mCB, mTup, mLst, mIf, mTest, mAnd, mOr, mNot, mAndV, mOrV, mNotV, mChain, fI, fIc, fB, fU, fIx, fCatL, fCatT, fCatS, fAdd, orF, cPos, cDivW, f1, f2, fAbs, fInt, fLen, fMin2, fMax2, mSub, mIn, mLen, mScrIx, mScrLen, mIsi, fIsi, mTuple, mTupleP, mSl, mNoPart, mPart, sNext, sSeq, sAsg, sIf, sRet, sRetN, sDrop, sNever, sSetL, sPar, mYes, mgN, mgNil, mgCons, mgT, toD, toDn, asD, cD, retA, runF, kill, lookA, viewK, viewT, keyOf, ixN, atI0, atI1, atI2, atI3, isIn, mCall, renum, cellsOf, putBack, miSeq, still, miR1, miR2, wipeA, fEqI, fEqL, fEqT, fEqTT, seeds_ok seeds h1 h2, board_in _ k1 k2, g1, g2, fEqLm, e, isint_ok, g3, fMin, intsMap]
  cases seeds with
  | nil => simp [mVar, mC, mOp, mOpN, mUn, aNil, aCons, toDs, asDs, mCB, mTup, mLst, mIf, mTest, mAnd, mOr, mNot, mAndV, mOrV, mNotV, mChain, fI, fIc, fB, fU, fIx, fCatL, fCatT, fCatS, fAdd, orF, cPos, cDivW, f1, f2, fAbs, fInt, fLen, fMin2, fMax2, mSub, mIn, mLen, mScrIx, mScrLen, mIsi, fIsi, mTuple, mTupleP, mSl, mNoPart, mPart, sNext, sSeq, sAsg, sIf, sRet, sRetN, sDrop, sNever, sSetL, sPar, mYes, mgN, mgNil, mgCons, mgT, toD, toDn, asD, cD, retA, runF, kill, lookA, viewK, viewT, keyOf, ixN, atI0, atI1, atI2, atI3, isIn, mCall, renum, cellsOf, putBack, miSeq, still, miR1, miR2, wipeA, fEqI, fEqL, fEqT, fEqTT] at h1
  | cons a r => simp [mVar, mC, mOp, mOpN, mUn, aNil, aCons, toDs, asDs, mCB, mTup, mLst, mIf, mTest, mAnd, mOr, mNot, mAndV, mOrV, mNotV, mChain, fI, fIc, fB, fU, fIx, fCatL, fCatT, fCatS, fAdd, orF, cPos, cDivW, f1, f2, fAbs, fInt, fLen, fMin2, fMax2, mSub, mIn, mLen, mScrIx, mScrLen, mIsi, fIsi, mTuple, mTupleP, mSl, mNoPart, mPart, sNext, sSeq, sAsg, sIf, sRet, sRetN, sDrop, sNever, sSetL, sPar, mYes, mgN, mgNil, mgCons, mgT, toD, toDn, asD, cD, retA, runF, kill, lookA, viewK, viewT, keyOf, ixN, atI0, atI1, atI2, atI3, isIn, mCall, renum, cellsOf, putBack, miSeq, still, miR1, miR2, wipeA, fEqI, fEqL, fEqT, fEqTT]
end Rf

namespace Rf
open PySem L2
/-! ### counted -/
def getI (kv : List (Int × Int)) (x : Int) : Option Int := (kv.find? fun p => decide (p.1 = x)).map (·.2)
def putI (kv : List (Int × Int)) (x n : Int) : List (Int × Int) := if (kv.any fun p => decide (p.1 = x)) = true then kv.map (fun p => if p.1 = x then (p.1, n) else p) else kv ++ [(x, n)]
theorem look_ik (kv : List (Int × Int)) (x : Int) : look (kv.map ikD) (Sum.inl x) = (getI kv x).map PyData.int := by
  unfold look getI
  induction kv with
  | nil => rfl
  | cons a r ih =>
    simp only [List.map_cons, List.find?_cons, ikD]
    by_cases h : a.1 = x
    · simp [mVar, mC, mOp, mOpN, mUn, aNil, aCons, toDs, asDs, mCB, mTup, mLst, mIf, mTest, mAnd, mOr, mNot, mAndV, mOrV, mNotV, mChain, fI, fIc, fB, fU, fIx, fCatL, fCatT, fCatS, fAdd, orF, cPos, cDivW, f1, f2, fAbs, fInt, fLen, fMin2, fMax2, mSub, mIn, mLen, mScrIx, mScrLen, mIsi, fIsi, mTuple, mTupleP, mSl, mNoPart, mPart, sNext, sSeq, sAsg, sIf, sRet, sRetN, sDrop, sNever, sSetL, sPar, mYes, mgN, mgNil, mgCons, mgT, toD, toDn, asD, cD, retA, runF, kill, lookA, viewK, viewT, keyOf, ixN, atI0, atI1, atI2, atI3, isIn, mCall, renum, cellsOf, putBack, miSeq, still, miR1, miR2, wipeA, fEqI, fEqL, fEqT, fEqTT, h]
    · simp [mVar, mC, mOp, mOpN, mUn, aNil, aCons, toDs, asDs, mCB, mTup, mLst, mIf, mTest, mAnd, mOr, mNot, mAndV, mOrV, mNotV, mChain, fI, fIc, fB, fU, fIx, fCatL, fCatT, fCatS, fAdd, orF, cPos, cDivW, f1, f2, fAbs, fInt, fLen, fMin2, fMax2, mSub, mIn, mLen, mScrIx, mScrLen, mIsi, fIsi, mTuple, mTupleP, mSl, mNoPart, mPart, sNext, sSeq, sAsg, sIf, sRet, sRetN, sDrop, sNever, sSetL, sPar, mYes, mgN, mgNil, mgCons, mgT, toD, toDn, asD, cD, retA, runF, kill, lookA, viewK, viewT, keyOf, ixN, atI0, atI1, atI2, atI3, isIn, mCall, renum, cellsOf, putBack, miSeq, still, miR1, miR2, wipeA, fEqI, fEqL, fEqT, fEqTT, h] at ih ⊢
      exact ih
theorem put_ik (kv : List (Int × Int)) (x n : Int) : put (kv.map ikD) (Sum.inl x) (.int n) = (putI kv x n).map ikD := by
  unfold put putI
  have e : ((kv.map ikD).any fun p => decide (p.1 = Sum.inl x)) = kv.any fun p => decide (p.1 = x) := by
    rw [List.any_map]
    congr 1
    funext p
    simp [mVar, mC, mOp, mOpN, mUn, aNil, aCons, toDs, asDs, mCB, mTup, mLst, mIf, mTest, mAnd, mOr, mNot, mAndV, mOrV, mNotV, mChain, fI, fIc, fB, fU, fIx, fCatL, fCatT, fCatS, fAdd, orF, cPos, cDivW, f1, f2, fAbs, fInt, fLen, fMin2, fMax2, mSub, mIn, mLen, mScrIx, mScrLen, mIsi, fIsi, mTuple, mTupleP, mSl, mNoPart, mPart, sNext, sSeq, sAsg, sIf, sRet, sRetN, sDrop, sNever, sSetL, sPar, mYes, mgN, mgNil, mgCons, mgT, toD, toDn, asD, cD, retA, runF, kill, lookA, viewK, viewT, keyOf, ixN, atI0, atI1, atI2, atI3, isIn, mCall, renum, cellsOf, putBack, miSeq, still, miR1, miR2, wipeA, fEqI, fEqL, fEqT, fEqTT, ikD]
  rw [e]
  split
  · rw [List.map_map, List.map_map]
    refine List.map_congr_left fun p _ => ?_
    simp only [Function.comp, ikD]
    by_cases h : p.1 = x
    · simp [mVar, mC, mOp, mOpN, mUn, aNil, aCons, toDs, asDs, mCB, mTup, mLst, mIf, mTest, mAnd, mOr, mNot, mAndV, mOrV, mNotV, mChain, fI, fIc, fB, fU, fIx, fCatL, fCatT, fCatS, fAdd, orF, cPos, cDivW, f1, f2, fAbs, fInt, fLen, fMin2, fMax2, mSub, mIn, mLen, mScrIx, mScrLen, mIsi, fIsi, mTuple, mTupleP, mSl, mNoPart, mPart, sNext, sSeq, sAsg, sIf, sRet, sRetN, sDrop, sNever, sSetL, sPar, mYes, mgN, mgNil, mgCons, mgT, toD, toDn, asD, cD, retA, runF, kill, lookA, viewK, viewT, keyOf, ixN, atI0, atI1, atI2, atI3, isIn, mCall, renum, cellsOf, putBack, miSeq, still, miR1, miR2, wipeA, fEqI, fEqL, fEqT, fEqTT, h]
    · simp [mVar, mC, mOp, mOpN, mUn, aNil, aCons, toDs, asDs, mCB, mTup, mLst, mIf, mTest, mAnd, mOr, mNot, mAndV, mOrV, mNotV, mChain, fI, fIc, fB, fU, fIx, fCatL, fCatT, fCatS, fAdd, orF, cPos, cDivW, f1, f2, fAbs, fInt, fLen, fMin2, fMax2, mSub, mIn, mLen, mScrIx, mScrLen, mIsi, fIsi, mTuple, mTupleP, mSl, mNoPart, mPart, sNext, sSeq, sAsg, sIf, sRet, sRetN, sDrop, sNever, sSetL, sPar, mYes, mgN, mgNil, mgCons, mgT, toD, toDn, asD, cD, retA, runF, kill, lookA, viewK, viewT, keyOf, ixN, atI0, atI1, atI2, atI3, isIn, mCall, renum, cellsOf, putBack, miSeq, still, miR1, miR2, wipeA, fEqI, fEqL, fEqT, fEqTT, h]
  · simp [mVar, mC, mOp, mOpN, mUn, aNil, aCons, toDs, asDs, mCB, mTup, mLst, mIf, mTest, mAnd, mOr, mNot, mAndV, mOrV, mNotV, mChain, fI, fIc, fB, fU, fIx, fCatL, fCatT, fCatS, fAdd, orF, cPos, cDivW, f1, f2, fAbs, fInt, fLen, fMin2, fMax2, mSub, mIn, mLen, mScrIx, mScrLen, mIsi, fIsi, mTuple, mTupleP, mSl, mNoPart, mPart, sNext, sSeq, sAsg, sIf, sRet, sRetN, sDrop, sNever, sSetL, sPar, mYes, mgN, mgNil, mgCons, mgT, toD, toDn, asD, cD, retA, runF, kill, lookA, viewK, viewT, keyOf, ixN, atI0, atI1, atI2, atI3, isIn, mCall, renum, cellsOf, putBack, miSeq, still, miR1, miR2, wipeA, fEqI, fEqL, fEqT, fEqTT, ikD]
theorem put_new {κ : Type} [DecidableEq κ] (acc : List (κ × D)) (k : κ) (d : D) (h : k ∉ acc.map (·.1)) : put acc k d = acc ++ [(k, d)] := by
  unfold put
  rw [if_neg]
  intro z
  rw [List.any_eq_true] at z
  obtain ⟨p, hp, e⟩ := z
  exact h (List.mem_map.mpr ⟨p, hp, of_decide_eq_true e⟩)
theorem merge_nodup {κ : Type} [DecidableEq κ] : ∀ (l acc : List (κ × D)), ((acc ++ l).map (·.1)).Nodup → mergeD acc l = acc ++ l
  | [], acc, _ => by simp [mVar, mC, mOp, mOpN, mUn, aNil, aCons, toDs, asDs, mCB, mTup, mLst, mIf, mTest, mAnd, mOr, mNot, mAndV, mOrV, mNotV, mChain, fI, fIc, fB, fU, fIx, fCatL, fCatT, fCatS, fAdd, orF, cPos, cDivW, f1, f2, fAbs, fInt, fLen, fMin2, fMax2, mSub, mIn, mLen, mScrIx, mScrLen, mIsi, fIsi, mTuple, mTupleP, mSl, mNoPart, mPart, sNext, sSeq, sAsg, sIf, sRet, sRetN, sDrop, sNever, sSetL, sPar, mYes, mgN, mgNil, mgCons, mgT, toD, toDn, asD, cD, retA, runF, kill, lookA, viewK, viewT, keyOf, ixN, atI0, atI1, atI2, atI3, isIn, mCall, renum, cellsOf, putBack, miSeq, still, miR1, miR2, wipeA, fEqI, fEqL, fEqT, fEqTT, mergeD]
  | a :: r, acc, h => by
    have hn : a.1 ∉ acc.map (·.1) := by
      rw [List.map_append, List.nodup_append] at h
      intro z
      exact h.2.2 _ z _ (List.mem_map.mpr ⟨a, List.mem_cons_self, rfl⟩) rfl
    show mergeD (put acc a.1 a.2) r = _
    rw [put_new acc a.1 a.2 hn, merge_nodup r (acc ++ [(a.1, a.2)]) (by simpa [mVar, mC, mOp, mOpN, mUn, aNil, aCons, toDs, asDs, mCB, mTup, mLst, mIf, mTest, mAnd, mOr, mNot, mAndV, mOrV, mNotV, mChain, fI, fIc, fB, fU, fIx, fCatL, fCatT, fCatS, fAdd, orF, cPos, cDivW, f1, f2, fAbs, fInt, fLen, fMin2, fMax2, mSub, mIn, mLen, mScrIx, mScrLen, mIsi, fIsi, mTuple, mTupleP, mSl, mNoPart, mPart, sNext, sSeq, sAsg, sIf, sRet, sRetN, sDrop, sNever, sSetL, sPar, mYes, mgN, mgNil, mgCons, mgT, toD, toDn, asD, cD, retA, runF, kill, lookA, viewK, viewT, keyOf, ixN, atI0, atI1, atI2, atI3, isIn, mCall, renum, cellsOf, putBack, miSeq, still, miR1, miR2, wipeA, fEqI, fEqL, fEqT, fEqTT] using h)]
    simp [mVar, mC, mOp, mOpN, mUn, aNil, aCons, toDs, asDs, mCB, mTup, mLst, mIf, mTest, mAnd, mOr, mNot, mAndV, mOrV, mNotV, mChain, fI, fIc, fB, fU, fIx, fCatL, fCatT, fCatS, fAdd, orF, cPos, cDivW, f1, f2, fAbs, fInt, fLen, fMin2, fMax2, mSub, mIn, mLen, mScrIx, mScrLen, mIsi, fIsi, mTuple, mTupleP, mSl, mNoPart, mPart, sNext, sSeq, sAsg, sIf, sRet, sRetN, sDrop, sNever, sSetL, sPar, mYes, mgN, mgNil, mgCons, mgT, toD, toDn, asD, cD, retA, runF, kill, lookA, viewK, viewT, keyOf, ixN, atI0, atI1, atI2, atI3, isIn, mCall, renum, cellsOf, putBack, miSeq, still, miR1, miR2, wipeA, fEqI, fEqL, fEqT, fEqTT]
def dec1 (kv : List (Int × Int)) : List (Int × Int) := (kv.filter fun p => decide (1 < p.2)).map fun p => (p.1, p.2 - 1)
def hasK (kv : List (Int × Int)) (x : Int) : Bool := (getI kv x).isSome
def mgS (c : Int) (kv : List (Int × Int)) (x : Int) : List (Int × Int) := if hasK kv x = true ∨ (kv.length : Int) < c then putI kv x ((getI kv x).getD 0 + 1) else dec1 kv
abbrev mgR (c : Int) (row : List Int) : List (Int × Int) := row.foldl (mgS c) []
theorem getI_isSome {kv : List (Int × Int)} {x : Int} : hasK kv x = true ↔ x ∈ kv.map (·.1) := by
  unfold hasK getI
  rw [Option.isSome_map, List.find?_isSome]
  simp [mVar, mC, mOp, mOpN, mUn, aNil, aCons, toDs, asDs, mCB, mTup, mLst, mIf, mTest, mAnd, mOr, mNot, mAndV, mOrV, mNotV, mChain, fI, fIc, fB, fU, fIx, fCatL, fCatT, fCatS, fAdd, orF, cPos, cDivW, f1, f2, fAbs, fInt, fLen, fMin2, fMax2, mSub, mIn, mLen, mScrIx, mScrLen, mIsi, fIsi, mTuple, mTupleP, mSl, mNoPart, mPart, sNext, sSeq, sAsg, sIf, sRet, sRetN, sDrop, sNever, sSetL, sPar, mYes, mgN, mgNil, mgCons, mgT, toD, toDn, asD, cD, retA, runF, kill, lookA, viewK, viewT, keyOf, ixN, atI0, atI1, atI2, atI3, isIn, mCall, renum, cellsOf, putBack, miSeq, still, miR1, miR2, wipeA, fEqI, fEqL, fEqT, fEqTT]
theorem putI_keys (kv : List (Int × Int)) (x n : Int) : (putI kv x n).map (·.1) = if hasK kv x = true then kv.map (·.1) else kv.map (·.1) ++ [x] := by
  have e : (kv.any fun p => decide (p.1 = x)) = hasK kv x := by
    rw [Bool.eq_iff_iff, getI_isSome, List.any_eq_true]
    simp [mVar, mC, mOp, mOpN, mUn, aNil, aCons, toDs, asDs, mCB, mTup, mLst, mIf, mTest, mAnd, mOr, mNot, mAndV, mOrV, mNotV, mChain, fI, fIc, fB, fU, fIx, fCatL, fCatT, fCatS, fAdd, orF, cPos, cDivW, f1, f2, fAbs, fInt, fLen, fMin2, fMax2, mSub, mIn, mLen, mScrIx, mScrLen, mIsi, fIsi, mTuple, mTupleP, mSl, mNoPart, mPart, sNext, sSeq, sAsg, sIf, sRet, sRetN, sDrop, sNever, sSetL, sPar, mYes, mgN, mgNil, mgCons, mgT, toD, toDn, asD, cD, retA, runF, kill, lookA, viewK, viewT, keyOf, ixN, atI0, atI1, atI2, atI3, isIn, mCall, renum, cellsOf, putBack, miSeq, still, miR1, miR2, wipeA, fEqI, fEqL, fEqT, fEqTT]
  unfold putI
  rw [e]
  split
  · rw [List.map_map]
    refine List.map_congr_left fun p _ => ?_
    simp only [Function.comp]
    split <;> rfl
  · simp [mVar, mC, mOp, mOpN, mUn, aNil, aCons, toDs, asDs, mCB, mTup, mLst, mIf, mTest, mAnd, mOr, mNot, mAndV, mOrV, mNotV, mChain, fI, fIc, fB, fU, fIx, fCatL, fCatT, fCatS, fAdd, orF, cPos, cDivW, f1, f2, fAbs, fInt, fLen, fMin2, fMax2, mSub, mIn, mLen, mScrIx, mScrLen, mIsi, fIsi, mTuple, mTupleP, mSl, mNoPart, mPart, sNext, sSeq, sAsg, sIf, sRet, sRetN, sDrop, sNever, sSetL, sPar, mYes, mgN, mgNil, mgCons, mgT, toD, toDn, asD, cD, retA, runF, kill, lookA, viewK, viewT, keyOf, ixN, atI0, atI1, atI2, atI3, isIn, mCall, renum, cellsOf, putBack, miSeq, still, miR1, miR2, wipeA, fEqI, fEqL, fEqT, fEqTT]
theorem mgS_inv {c : Int} {kv : List (Int × Int)} (x : Int) (h1 : (kv.map (·.1)).Nodup) (h2 : (kv.length : Int) ≤ c) (hc : 0 ≤ c) : ((mgS c kv x).map (·.1)).Nodup ∧ ((mgS c kv x).length : Int) ≤ c := by
  unfold mgS
  split
  · rename_i h
    have hk := putI_keys kv x ((getI kv x).getD 0 + 1)
    have hl : (putI kv x ((getI kv x).getD 0 + 1)).length = ((putI kv x ((getI kv x).getD 0 + 1)).map (·.1)).length := by rw [List.length_map]
    rw [hl, hk]
    split
    · exact ⟨h1, by rw [List.length_map]; exact h2⟩
    · rename_i hn
      have hn' : x ∉ kv.map (·.1) := fun z => hn (getI_isSome.mpr z)
      refine ⟨List.nodup_append.mpr ⟨h1, by simp [mVar, mC, mOp, mOpN, mUn, aNil, aCons, toDs, asDs, mCB, mTup, mLst, mIf, mTest, mAnd, mOr, mNot, mAndV, mOrV, mNotV, mChain, fI, fIc, fB, fU, fIx, fCatL, fCatT, fCatS, fAdd, orF, cPos, cDivW, f1, f2, fAbs, fInt, fLen, fMin2, fMax2, mSub, mIn, mLen, mScrIx, mScrLen, mIsi, fIsi, mTuple, mTupleP, mSl, mNoPart, mPart, sNext, sSeq, sAsg, sIf, sRet, sRetN, sDrop, sNever, sSetL, sPar, mYes, mgN, mgNil, mgCons, mgT, toD, toDn, asD, cD, retA, runF, kill, lookA, viewK, viewT, keyOf, ixN, atI0, atI1, atI2, atI3, isIn, mCall, renum, cellsOf, putBack, miSeq, still, miR1, miR2, wipeA, fEqI, fEqL, fEqT, fEqTT], fun a ha b hb => ?_⟩, ?_⟩
      · simp only [List.mem_singleton] at hb
        subst hb
        exact fun e => hn' (e ▸ ha)
      · rw [List.length_append, List.length_map]
        have := h.resolve_left hn
        simp [mVar, mC, mOp, mOpN, mUn, aNil, aCons, toDs, asDs, mCB, mTup, mLst, mIf, mTest, mAnd, mOr, mNot, mAndV, mOrV, mNotV, mChain, fI, fIc, fB, fU, fIx, fCatL, fCatT, fCatS, fAdd, orF, cPos, cDivW, f1, f2, fAbs, fInt, fLen, fMin2, fMax2, mSub, mIn, mLen, mScrIx, mScrLen, mIsi, fIsi, mTuple, mTupleP, mSl, mNoPart, mPart, sNext, sSeq, sAsg, sIf, sRet, sRetN, sDrop, sNever, sSetL, sPar, mYes, mgN, mgNil, mgCons, mgT, toD, toDn, asD, cD, retA, runF, kill, lookA, viewK, viewT, keyOf, ixN, atI0, atI1, atI2, atI3, isIn, mCall, renum, cellsOf, putBack, miSeq, still, miR1, miR2, wipeA, fEqI, fEqL, fEqT, fEqTT]
        omega
  · unfold dec1
    rw [List.map_map, List.length_map]
    have e : ((fun x => x.fst) ∘ fun p : Int × Int => (p.1, p.2 - 1)) = fun p : Int × Int => p.1 := rfl
    rw [e]
    refine ⟨(List.Sublist.map _ List.filter_sublist).nodup h1, ?_⟩
    have := List.length_filter_le (fun p : Int × Int => decide (1 < p.2)) kv
    omega
theorem counted_ok (c : Int) (row : List Int) (h0 : 1 ≤ c ∧ c ≤ 10) (h1 : row.length ≤ 40) (h2 : ∀ x ∈ row, -1000 ≤ x ∧ x ≤ 1000) :
    M_counted [.dat (.int c), .dat (iT row)] [] = some (.ptu ((isortP (mgR c row)).map pD), []) := by
  have hS : S_counted_2 [some (.dat (.int c)), some (.dat (iT row)), some (.cell 0), none, none, none] [some (false, .dK [])] = some (.nx [some (.dat (.int c)), some (.dat (iT row)), some (.cell 0), none, none, none] [some (false, .dK ((mgR c row).map ikD))]) ∧ ((mgR c row).map (·.1)).Nodup ∧ ((mgR c row).length : Int) ≤ c :=
    sFor_fold (c1 := [some (false, .dK [])]) (β := List (Int × Int)) PyData.int (fun kv => ([some (.dat (.int c)), some (.dat (iT row)), some (.cell 0), none, none, none], [some (false, .dK (kv.map ikD))])) (mgS c) (fun (_ : List Int) (kv : List (Int × Int)) => (kv.map (fun x : Int × Int => x.1)).Nodup ∧ (kv.length : Int) ≤ c) row [] (by simp [mVar, mC, mOp, mOpN, mUn, aNil, aCons, toDs, asDs, mCB, mTup, mLst, mIf, mTest, mAnd, mOr, mNot, mAndV, mOrV, mNotV, mChain, fI, fIc, fB, fU, fIx, fCatL, fCatT, fCatS, fAdd, orF, cPos, cDivW, f1, f2, fAbs, fInt, fLen, fMin2, fMax2, mSub, mIn, mLen, mScrIx, mScrLen, mIsi, fIsi, mTuple, mTupleP, mSl, mNoPart, mPart, sNext, sSeq, sAsg, sIf, sRet, sRetN, sDrop, sNever, sSetL, sPar, mYes, mgN, mgNil, mgCons, mgT, toD, toDn, asD, cD, retA, runF, kill, lookA, viewK, viewT, keyOf, ixN, atI0, atI1, atI2, atI3, isIn, mCall, renum, cellsOf, putBack, miSeq, still, miR1, miR2, wipeA, fEqI, fEqL, fEqT, fEqTT]) (by simp [mVar, mC, mOp, mOpN, mUn, aNil, aCons, toDs, asDs, mCB, mTup, mLst, mIf, mTest, mAnd, mOr, mNot, mAndV, mOrV, mNotV, mChain, fI, fIc, fB, fU, fIx, fCatL, fCatT, fCatS, fAdd, orF, cPos, cDivW, f1, f2, fAbs, fInt, fLen, fMin2, fMax2, mSub, mIn, mLen, mScrIx, mScrLen, mIsi, fIsi, mTuple, mTupleP, mSl, mNoPart, mPart, sNext, sSeq, sAsg, sIf, sRet, sRetN, sDrop, sNever, sSetL, sPar, mYes, mgN, mgNil, mgCons, mgT, toD, toDn, asD, cD, retA, runF, kill, lookA, viewK, viewT, keyOf, ixN, atI0, atI1, atI2, atI3, isIn, mCall, renum, cellsOf, putBack, miSeq, still, miR1, miR2, wipeA, fEqI, fEqL, fEqT, fEqTT]) ⟨by simp [mVar, mC, mOp, mOpN, mUn, aNil, aCons, toDs, asDs, mCB, mTup, mLst, mIf, mTest, mAnd, mOr, mNot, mAndV, mOrV, mNotV, mChain, fI, fIc, fB, fU, fIx, fCatL, fCatT, fCatS, fAdd, orF, cPos, cDivW, f1, f2, fAbs, fInt, fLen, fMin2, fMax2, mSub, mIn, mLen, mScrIx, mScrLen, mIsi, fIsi, mTuple, mTupleP, mSl, mNoPart, mPart, sNext, sSeq, sAsg, sIf, sRet, sRetN, sDrop, sNever, sSetL, sPar, mYes, mgN, mgNil, mgCons, mgT, toD, toDn, asD, cD, retA, runF, kill, lookA, viewK, viewT, keyOf, ixN, atI0, atI1, atI2, atI3, isIn, mCall, renum, cellsOf, putBack, miSeq, still, miR1, miR2, wipeA, fEqI, fEqL, fEqT, fEqTT], by simp [mVar, mC, mOp, mOpN, mUn, aNil, aCons, toDs, asDs, mCB, mTup, mLst, mIf, mTest, mAnd, mOr, mNot, mAndV, mOrV, mNotV, mChain, fI, fIc, fB, fU, fIx, fCatL, fCatT, fCatS, fAdd, orF, cPos, cDivW, f1, f2, fAbs, fInt, fLen, fMin2, fMax2, mSub, mIn, mLen, mScrIx, mScrLen, mIsi, fIsi, mTuple, mTupleP, mSl, mNoPart, mPart, sNext, sSeq, sAsg, sIf, sRet, sRetN, sDrop, sNever, sSetL, sPar, mYes, mgN, mgNil, mgCons, mgT, toD, toDn, asD, cD, retA, runF, kill, lookA, viewK, viewT, keyOf, ixN, atI0, atI1, atI2, atI3, isIn, mCall, renum, cellsOf, putBack, miSeq, still, miR1, miR2, wipeA, fEqI, fEqL, fEqT, fEqTT]; omega⟩ fun x r kv q => ⟨mgS_inv x q.1 q.2 (by omega), _, [some (.dat (.int c)), some (.dat (iT row)), some (.cell 0), some (.dat (.int x)), none, none], [some (false, .dK ((mgS c kv x).map ikD))], rfl, by
      have hz : kv.length ≤ 1000000 := by omega
      have hL : L_counted_1 [some (.dat (.int c)), some (.dat (iT row)), some (.cell 0), some (.dat (.int x)), none, none] [some (true, .dK (kv.map ikD))] = some (.new (.dK ((dec1 kv).map ikD)), [some (true, .dK (kv.map ikD))]) := by
        have e := mDc_filt (mi := miItems 2) (mg := mgT 2 (mgCons (mgN 4) (mgCons (mgN 5) (mgNil)))) (mt := mTest (mOp (fB fun i j => decide (j < i)) (mVar 5) (mC (.int 1)))) (mk := mVar 4) (mv := mOp (fI fun i j => i - j) (mVar 5) (mC (.int 1))) (vs := [4, 5])
          (sl := [some (.dat (.int c)), some (.dat (iT row)), some (.cell 0), some (.dat (.int x)), none, none]) (cs := [some (true, .dK (kv.map ikD))]) (c1 := [some (true, .dK (kv.map ikD))])
          (fun q : Int × Int => PyData.tuple [.int q.1, .int q.2]) (fun q => Sum.inl q.1) (fun q => PyData.int (q.2 - 1)) (fun q => decide (1 < q.2)) kv (by
            have : kv.length ≤ 16777216 := by omega
            simp [mVar, mC, mOp, mOpN, mUn, aNil, aCons, toDs, asDs, mCB, mTup, mLst, mIf, mTest, mAnd, mOr, mNot, mAndV, mOrV, mNotV, mChain, fI, fIc, fB, fU, fIx, fCatL, fCatT, fCatS, fAdd, orF, cPos, cDivW, f1, f2, fAbs, fInt, fLen, fMin2, fMax2, mSub, mIn, mLen, mScrIx, mScrLen, mIsi, fIsi, mTuple, mTupleP, mSl, mNoPart, mPart, sNext, sSeq, sAsg, sIf, sRet, sRetN, sDrop, sNever, sSetL, sPar, mYes, mgN, mgNil, mgCons, mgT, toD, toDn, asD, cD, retA, runF, kill, lookA, viewK, viewT, keyOf, ixN, atI0, atI1, atI2, atI3, isIn, mCall, renum, cellsOf, putBack, miSeq, still, miR1, miR2, wipeA, fEqI, fEqL, fEqT, fEqTT, miItems, lockedK, this, ikD, kD]) fun q hq => ⟨_, rfl, by simp [mVar, mC, mOp, mOpN, mUn, aNil, aCons, toDs, asDs, mCB, mTup, mLst, mIf, mTest, mAnd, mOr, mNot, mAndV, mOrV, mNotV, mChain, fI, fIc, fB, fU, fIx, fCatL, fCatT, fCatS, fAdd, orF, cPos, cDivW, f1, f2, fAbs, fInt, fLen, fMin2, fMax2, mSub, mIn, mLen, mScrIx, mScrLen, mIsi, fIsi, mTuple, mTupleP, mSl, mNoPart, mPart, sNext, sSeq, sAsg, sIf, sRet, sRetN, sDrop, sNever, sSetL, sPar, mYes, mgN, mgNil, mgCons, mgT, toD, toDn, asD, cD, retA, runF, kill, lookA, viewK, viewT, keyOf, ixN, atI0, atI1, atI2, atI3, isIn, mCall, renum, cellsOf, putBack, miSeq, still, miR1, miR2, wipeA, fEqI, fEqL, fEqT, fEqTT], fun _ => ⟨_, _, rfl, rfl, rfl, rfl⟩⟩
        rw [merge_nodup] at e
        · unfold L_counted_1
          rw [e]
          simp [mVar, mC, mOp, mOpN, mUn, aNil, aCons, toDs, asDs, mCB, mTup, mLst, mIf, mTest, mAnd, mOr, mNot, mAndV, mOrV, mNotV, mChain, fI, fIc, fB, fU, fIx, fCatL, fCatT, fCatS, fAdd, orF, cPos, cDivW, f1, f2, fAbs, fInt, fLen, fMin2, fMax2, mSub, mIn, mLen, mScrIx, mScrLen, mIsi, fIsi, mTuple, mTupleP, mSl, mNoPart, mPart, sNext, sSeq, sAsg, sIf, sRet, sRetN, sDrop, sNever, sSetL, sPar, mYes, mgN, mgNil, mgCons, mgT, toD, toDn, asD, cD, retA, runF, kill, lookA, viewK, viewT, keyOf, ixN, atI0, atI1, atI2, atI3, isIn, mCall, renum, cellsOf, putBack, miSeq, still, miR1, miR2, wipeA, fEqI, fEqL, fEqT, fEqTT, dec1, ikD]
        · rw [List.nil_append, List.map_map]
          have := (List.Sublist.map (fun p : Int × Int => p.1) (List.filter_sublist (p := fun q : Int × Int => decide (1 < q.2)) (l := kv))).nodup q.1
          have this2 : (((kv.filter fun q : Int × Int => decide (1 < q.2)).map fun p : Int × Int => p.1).map (Sum.inl : Int → Key)).Nodup := List.Pairwise.map _ (fun a b h e => h (Sum.inl.inj e)) this
          rw [List.map_map] at this2
          exact this2
      unfold mgS
      cases hk : getI kv x with
      | some n =>
        simp [mVar, mC, mOp, mOpN, mUn, aNil, aCons, toDs, asDs, mCB, mTup, mLst, mIf, mTest, mAnd, mOr, mNot, mAndV, mOrV, mNotV, mChain, fI, fIc, fB, fU, fIx, fCatL, fCatT, fCatS, fAdd, orF, cPos, cDivW, f1, f2, fAbs, fInt, fLen, fMin2, fMax2, mSub, mIn, mLen, mScrIx, mScrLen, mIsi, fIsi, mTuple, mTupleP, mSl, mNoPart, mPart, sNext, sSeq, sAsg, sIf, sRet, sRetN, sDrop, sNever, sSetL, sPar, mYes, mgN, mgNil, mgCons, mgT, toD, toDn, asD, cD, retA, runF, kill, lookA, viewK, viewT, keyOf, ixN, atI0, atI1, atI2, atI3, isIn, mCall, renum, cellsOf, putBack, miSeq, still, miR1, miR2, wipeA, fEqI, fEqL, fEqT, fEqTT, look_ik, hk, hasK, sPut, mGetX, isDictA, putA, hz, put_ik]
      | none =>
        by_cases hl : (kv.length : Int) < c
        · simp [mVar, mC, mOp, mOpN, mUn, aNil, aCons, toDs, asDs, mCB, mTup, mLst, mIf, mTest, mAnd, mOr, mNot, mAndV, mOrV, mNotV, mChain, fI, fIc, fB, fU, fIx, fCatL, fCatT, fCatS, fAdd, orF, cPos, cDivW, f1, f2, fAbs, fInt, fLen, fMin2, fMax2, mSub, mIn, mLen, mScrIx, mScrLen, mIsi, fIsi, mTuple, mTupleP, mSl, mNoPart, mPart, sNext, sSeq, sAsg, sIf, sRet, sRetN, sDrop, sNever, sSetL, sPar, mYes, mgN, mgNil, mgCons, mgT, toD, toDn, asD, cD, retA, runF, kill, lookA, viewK, viewT, keyOf, ixN, atI0, atI1, atI2, atI3, isIn, mCall, renum, cellsOf, putBack, miSeq, still, miR1, miR2, wipeA, fEqI, fEqL, fEqT, fEqTT, look_ik, hk, hasK, sPut, mGetX, isDictA, putA, hz, put_ik, hl]
        · simp [mVar, mC, mOp, mOpN, mUn, aNil, aCons, toDs, asDs, mCB, mTup, mLst, mIf, mTest, mAnd, mOr, mNot, mAndV, mOrV, mNotV, mChain, fI, fIc, fB, fU, fIx, fCatL, fCatT, fCatS, fAdd, orF, cPos, cDivW, f1, f2, fAbs, fInt, fLen, fMin2, fMax2, mSub, mIn, mLen, mScrIx, mScrLen, mIsi, fIsi, mTuple, mTupleP, mSl, mNoPart, mPart, sNext, sSeq, sAsg, sIf, sRet, sRetN, sDrop, sNever, sSetL, sPar, mYes, mgN, mgNil, mgCons, mgT, toD, toDn, asD, cD, retA, runF, kill, lookA, viewK, viewT, keyOf, ixN, atI0, atI1, atI2, atI3, isIn, mCall, renum, cellsOf, putBack, miSeq, still, miR1, miR2, wipeA, fEqI, fEqL, fEqT, fEqTT, look_ik, hk, hasK, hl, sNew, mLock, setLk, hL, sPutC, noCell], rfl⟩
  obtain ⟨hS, h3, h4⟩ := hS
  have hz : (mgR c row).length ≤ 1000000 := by omega
  unfold M_counted B_counted
  simp [mVar, mC, mOp, mOpN, mUn, aNil, aCons, toDs, asDs, mCB, mTup, mLst, mIf, mTest, mAnd, mOr, mNot, mAndV, mOrV, mNotV, mChain, fI, fIc, fB, fU, fIx, fCatL, fCatT, fCatS, fAdd, orF, cPos, cDivW, f1, f2, fAbs, fInt, fLen, fMin2, fMax2, mSub, mIn, mLen, mScrIx, mScrLen, mIsi, fIsi, mTuple, mTupleP, mSl, mNoPart, mPart, sNext, sSeq, sAsg, sIf, sRet, sRetN, sDrop, sNever, sSetL, sPar, mYes, mgN, mgNil, mgCons, mgT, toD, toDn, asD, cD, retA, runF, kill, lookA, viewK, viewT, keyOf, ixN, atI0, atI1, atI2, atI3, isIn, mCall, renum, cellsOf, putBack, miSeq, still, miR1, miR2, wipeA, fEqI, fEqL, fEqT, fEqTT, between_ok, h0.1, h0.2, items_ok row h1 h2, sNew, mNewK, sPutC, noCell, hS, mSortItems, iksOf_map, hz]
end Rf

namespace Rf
open PySem L2
/-! ### the small tables -/
def rowsS (k : Nat) (r : List Int) : List (List Int) := (List.range k).map fun (x : Nat) => r ++ [(x : Int)]
def rowsF (k : Nat) : Nat → List (List Int)
  | 0 => [[]]
  | n + 1 => (rowsF k n).flatMap (rowsS k)
def sumsS (n : Nat) (r : List Int) : List (List Int) := (List.range ((n : Int) - r.sum + 1).toNat).map fun (x : Nat) => r ++ [(x : Int)]
def sumsG (n : Nat) : Nat → List (List Int)
  | 0 => [[]]
  | j + 1 => (sumsG n j).flatMap (sumsS n)
def choS (m : Nat) (r : List Int) : List (List Int) := (List.range ((m : Int) - r.getLastD 0).toNat).map fun (x : Nat) => r ++ [r.getLastD 0 + (x : Int)]
def choF (m : Nat) : Nat → List (List Int)
  | 0 => [[]]
  | n + 1 => (choF m n).flatMap (choS m)
theorem rows_len (k : Nat) : ∀ (n : Nat) (r : List Int), r ∈ rowsF k n → r.length = n
  | 0, r, h => by
    simp only [rowsF, List.mem_singleton] at h
    rw [h]
    rfl
  | n + 1, r, h => by
    simp only [rowsF, List.mem_flatMap, rowsS, List.mem_map] at h
    obtain ⟨a, ha, x, _, rfl⟩ := h
    simp [mVar, mC, mOp, mOpN, mUn, aNil, aCons, toDs, asDs, mCB, mTup, mLst, mIf, mTest, mAnd, mOr, mNot, mAndV, mOrV, mNotV, mChain, fI, fIc, fB, fU, fIx, fCatL, fCatT, fCatS, fAdd, orF, cPos, cDivW, f1, f2, fAbs, fInt, fLen, fMin2, fMax2, mSub, mIn, mLen, mScrIx, mScrLen, mIsi, fIsi, mTuple, mTupleP, mSl, mNoPart, mPart, sNext, sSeq, sAsg, sIf, sRet, sRetN, sDrop, sNever, sSetL, sPar, mYes, mgN, mgNil, mgCons, mgT, toD, toDn, asD, cD, retA, runF, kill, lookA, viewK, viewT, keyOf, ixN, atI0, atI1, atI2, atI3, isIn, mCall, renum, cellsOf, putBack, miSeq, still, miR1, miR2, wipeA, fEqI, fEqL, fEqT, fEqTT, rows_len k n a ha]
theorem sums_len (k : Nat) : ∀ (n : Nat) (r : List Int), r ∈ sumsG k n → r.length = n
  | 0, r, h => by
    simp only [sumsG, List.mem_singleton] at h
    rw [h]
    rfl
  | n + 1, r, h => by
    simp only [sumsG, List.mem_flatMap, sumsS, List.mem_map] at h
    obtain ⟨a, ha, x, _, rfl⟩ := h
    simp [mVar, mC, mOp, mOpN, mUn, aNil, aCons, toDs, asDs, mCB, mTup, mLst, mIf, mTest, mAnd, mOr, mNot, mAndV, mOrV, mNotV, mChain, fI, fIc, fB, fU, fIx, fCatL, fCatT, fCatS, fAdd, orF, cPos, cDivW, f1, f2, fAbs, fInt, fLen, fMin2, fMax2, mSub, mIn, mLen, mScrIx, mScrLen, mIsi, fIsi, mTuple, mTupleP, mSl, mNoPart, mPart, sNext, sSeq, sAsg, sIf, sRet, sRetN, sDrop, sNever, sSetL, sPar, mYes, mgN, mgNil, mgCons, mgT, toD, toDn, asD, cD, retA, runF, kill, lookA, viewK, viewT, keyOf, ixN, atI0, atI1, atI2, atI3, isIn, mCall, renum, cellsOf, putBack, miSeq, still, miR1, miR2, wipeA, fEqI, fEqL, fEqT, fEqTT, sums_len k n a ha]
theorem sums_bd (n : Nat) : ∀ (j : Nat) (r : List Int), r ∈ sumsG n j → 0 ≤ r.sum ∧ r.sum ≤ n
  | 0, r, h => by
    simp only [sumsG, List.mem_singleton] at h
    rw [h]
    simp [mVar, mC, mOp, mOpN, mUn, aNil, aCons, toDs, asDs, mCB, mTup, mLst, mIf, mTest, mAnd, mOr, mNot, mAndV, mOrV, mNotV, mChain, fI, fIc, fB, fU, fIx, fCatL, fCatT, fCatS, fAdd, orF, cPos, cDivW, f1, f2, fAbs, fInt, fLen, fMin2, fMax2, mSub, mIn, mLen, mScrIx, mScrLen, mIsi, fIsi, mTuple, mTupleP, mSl, mNoPart, mPart, sNext, sSeq, sAsg, sIf, sRet, sRetN, sDrop, sNever, sSetL, sPar, mYes, mgN, mgNil, mgCons, mgT, toD, toDn, asD, cD, retA, runF, kill, lookA, viewK, viewT, keyOf, ixN, atI0, atI1, atI2, atI3, isIn, mCall, renum, cellsOf, putBack, miSeq, still, miR1, miR2, wipeA, fEqI, fEqL, fEqT, fEqTT]
  | j + 1, r, h => by
    simp only [sumsG, List.mem_flatMap, sumsS, List.mem_map, List.mem_range] at h
    obtain ⟨a, ha, x, hx, rfl⟩ := h
    have := sums_bd n j a ha
    simp only [List.sum_append, List.sum_cons, List.sum_nil]
    omega
theorem cho_bd (m : Nat) : ∀ (j : Nat) (r : List Int), r ∈ choF m j → 0 ≤ r.getLastD 0 ∧ (r = [] ∨ r.getLastD 0 < m)
  | 0, r, h => by
    simp only [choF, List.mem_singleton] at h
    rw [h]
    simp [mVar, mC, mOp, mOpN, mUn, aNil, aCons, toDs, asDs, mCB, mTup, mLst, mIf, mTest, mAnd, mOr, mNot, mAndV, mOrV, mNotV, mChain, fI, fIc, fB, fU, fIx, fCatL, fCatT, fCatS, fAdd, orF, cPos, cDivW, f1, f2, fAbs, fInt, fLen, fMin2, fMax2, mSub, mIn, mLen, mScrIx, mScrLen, mIsi, fIsi, mTuple, mTupleP, mSl, mNoPart, mPart, sNext, sSeq, sAsg, sIf, sRet, sRetN, sDrop, sNever, sSetL, sPar, mYes, mgN, mgNil, mgCons, mgT, toD, toDn, asD, cD, retA, runF, kill, lookA, viewK, viewT, keyOf, ixN, atI0, atI1, atI2, atI3, isIn, mCall, renum, cellsOf, putBack, miSeq, still, miR1, miR2, wipeA, fEqI, fEqL, fEqT, fEqTT]
  | j + 1, r, h => by
    simp only [choF, List.mem_flatMap, choS, List.mem_map, List.mem_range] at h
    obtain ⟨a, ha, x, hx, rfl⟩ := h
    have := (cho_bd m j a ha).1
    rw [List.getLastD_concat]
    omega
theorem cho_len (k : Nat) : ∀ (n : Nat) (r : List Int), r ∈ choF k n → r.length = n
  | 0, r, h => by
    simp only [choF, List.mem_singleton] at h
    rw [h]
    rfl
  | n + 1, r, h => by
    simp only [choF, List.mem_flatMap, choS, List.mem_map] at h
    obtain ⟨a, ha, x, _, rfl⟩ := h
    simp [mVar, mC, mOp, mOpN, mUn, aNil, aCons, toDs, asDs, mCB, mTup, mLst, mIf, mTest, mAnd, mOr, mNot, mAndV, mOrV, mNotV, mChain, fI, fIc, fB, fU, fIx, fCatL, fCatT, fCatS, fAdd, orF, cPos, cDivW, f1, f2, fAbs, fInt, fLen, fMin2, fMax2, mSub, mIn, mLen, mScrIx, mScrLen, mIsi, fIsi, mTuple, mTupleP, mSl, mNoPart, mPart, sNext, sSeq, sAsg, sIf, sRet, sRetN, sDrop, sNever, sSetL, sPar, mYes, mgN, mgNil, mgCons, mgT, toD, toDn, asD, cD, retA, runF, kill, lookA, viewK, viewT, keyOf, ixN, atI0, atI1, atI2, atI3, isIn, mCall, renum, cellsOf, putBack, miSeq, still, miR1, miR2, wipeA, fEqI, fEqL, fEqT, fEqTT, cho_len k n a ha]
/-- more = more + f(row), row by row; again and again -/
theorem grow_in {f : List Int → List (List Int)} {mg : MG} {mb : MS} {kl : List Nat} {S : List (List Int) → Sl} {cs : Cs} {rows : List (List Int)} (hz : (rows.flatMap f).length ≤ 16777216)
    (h : ∀ r more, r ∈ rows → more.length + (f r).length ≤ 16777216 → ∃ sl1 sl2, mg (iT r) (S more) = some sl1 ∧ mb sl1 cs = some (.nx sl2 cs) ∧ kill kl sl2 = S (more ++ f r)) :
    forLoop mg mb kl (rows.map iT) (S []) cs = some (.nx (S (rows.flatMap f)) cs) := by
  have e := for_fold (mg := mg) (mb := mb) (kl := kl) iT (fun more => (S more, cs)) (fun more r => more ++ f r) (fun (rest : List (List Int)) more => more ++ rest.flatMap f = rows.flatMap f ∧ ∀ r ∈ rest, r ∈ rows) (fun r rest more q => by
    have hq : more ++ (f r ++ rest.flatMap f) = rows.flatMap f := by rw [← q.1]; simp [mVar, mC, mOp, mOpN, mUn, aNil, aCons, toDs, asDs, mCB, mTup, mLst, mIf, mTest, mAnd, mOr, mNot, mAndV, mOrV, mNotV, mChain, fI, fIc, fB, fU, fIx, fCatL, fCatT, fCatS, fAdd, orF, cPos, cDivW, f1, f2, fAbs, fInt, fLen, fMin2, fMax2, mSub, mIn, mLen, mScrIx, mScrLen, mIsi, fIsi, mTuple, mTupleP, mSl, mNoPart, mPart, sNext, sSeq, sAsg, sIf, sRet, sRetN, sDrop, sNever, sSetL, sPar, mYes, mgN, mgNil, mgCons, mgT, toD, toDn, asD, cD, retA, runF, kill, lookA, viewK, viewT, keyOf, ixN, atI0, atI1, atI2, atI3, isIn, mCall, renum, cellsOf, putBack, miSeq, still, miR1, miR2, wipeA, fEqI, fEqL, fEqT, fEqTT]
    refine ⟨⟨by rw [← hq]; simp [mVar, mC, mOp, mOpN, mUn, aNil, aCons, toDs, asDs, mCB, mTup, mLst, mIf, mTest, mAnd, mOr, mNot, mAndV, mOrV, mNotV, mChain, fI, fIc, fB, fU, fIx, fCatL, fCatT, fCatS, fAdd, orF, cPos, cDivW, f1, f2, fAbs, fInt, fLen, fMin2, fMax2, mSub, mIn, mLen, mScrIx, mScrLen, mIsi, fIsi, mTuple, mTupleP, mSl, mNoPart, mPart, sNext, sSeq, sAsg, sIf, sRet, sRetN, sDrop, sNever, sSetL, sPar, mYes, mgN, mgNil, mgCons, mgT, toD, toDn, asD, cD, retA, runF, kill, lookA, viewK, viewT, keyOf, ixN, atI0, atI1, atI2, atI3, isIn, mCall, renum, cellsOf, putBack, miSeq, still, miR1, miR2, wipeA, fEqI, fEqL, fEqT, fEqTT], fun x hx => q.2 x (List.mem_cons_of_mem _ hx)⟩, ?_⟩
    obtain ⟨sl1, sl2, h1, h2, h3⟩ := h r more (q.2 r List.mem_cons_self) (by
      rw [← hq] at hz
      simp only [List.length_append] at hz
      omega)
    exact ⟨sl1, sl2, cs, h1, h2, by rw [h3]⟩) rows [] ⟨by simp [mVar, mC, mOp, mOpN, mUn, aNil, aCons, toDs, asDs, mCB, mTup, mLst, mIf, mTest, mAnd, mOr, mNot, mAndV, mOrV, mNotV, mChain, fI, fIc, fB, fU, fIx, fCatL, fCatT, fCatS, fAdd, orF, cPos, cDivW, f1, f2, fAbs, fInt, fLen, fMin2, fMax2, mSub, mIn, mLen, mScrIx, mScrLen, mIsi, fIsi, mTuple, mTupleP, mSl, mNoPart, mPart, sNext, sSeq, sAsg, sIf, sRet, sRetN, sDrop, sNever, sSetL, sPar, mYes, mgN, mgNil, mgCons, mgT, toD, toDn, asD, cD, retA, runF, kill, lookA, viewK, viewT, keyOf, ixN, atI0, atI1, atI2, atI3, isIn, mCall, renum, cellsOf, putBack, miSeq, still, miR1, miR2, wipeA, fEqI, fEqL, fEqT, fEqTT], fun _ h => h⟩
  obtain ⟨e1, e2, _⟩ := e
  rw [e1]
  simp only [List.flatMap_nil, List.append_nil] at e2
  rw [e2]
theorem grow_out {f : List Int → List (List Int)} {F : Nat → List (List Int)} {mg : MG} {mb : MS} {kl : List Nat} {S : List (List Int) → Sl} {cs : Cs} {n : Nat} (h0 : F 0 = [[]]) (hF : ∀ i, F (i + 1) = (F i).flatMap f)
    (h : ∀ i, i < n → ∃ sl1 sl2, mg (.int i) (S (F i)) = some sl1 ∧ mb sl1 cs = some (.nx sl2 cs) ∧ kill kl sl2 = S (F (i + 1))) :
    forLoop mg mb kl (rng 0 n) (S [[]]) cs = some (.nx (S (F n)) cs) := by
  have e := for_fold (mg := mg) (mb := mb) (kl := kl) (fun (i : Nat) => PyData.int i) (fun (i : Nat) => (S (F i), cs)) (fun i _ => i + 1) (fun (rest : List Nat) i => ∃ r, r = rest ∧ rest = (List.range n).drop i ∧ i + rest.length = n) (fun a rest i q => by
    obtain ⟨r, _, q1, q2⟩ := q
    have hi : i < n := by simp only [List.length_cons] at q2; omega
    have hd : (List.range n).drop i = i :: (List.range n).drop (i + 1) := by
      rw [List.drop_eq_getElem_cons (by simpa [mVar, mC, mOp, mOpN, mUn, aNil, aCons, toDs, asDs, mCB, mTup, mLst, mIf, mTest, mAnd, mOr, mNot, mAndV, mOrV, mNotV, mChain, fI, fIc, fB, fU, fIx, fCatL, fCatT, fCatS, fAdd, orF, cPos, cDivW, f1, f2, fAbs, fInt, fLen, fMin2, fMax2, mSub, mIn, mLen, mScrIx, mScrLen, mIsi, fIsi, mTuple, mTupleP, mSl, mNoPart, mPart, sNext, sSeq, sAsg, sIf, sRet, sRetN, sDrop, sNever, sSetL, sPar, mYes, mgN, mgNil, mgCons, mgT, toD, toDn, asD, cD, retA, runF, kill, lookA, viewK, viewT, keyOf, ixN, atI0, atI1, atI2, atI3, isIn, mCall, renum, cellsOf, putBack, miSeq, still, miR1, miR2, wipeA, fEqI, fEqL, fEqT, fEqTT] using hi)]
      simp [mVar, mC, mOp, mOpN, mUn, aNil, aCons, toDs, asDs, mCB, mTup, mLst, mIf, mTest, mAnd, mOr, mNot, mAndV, mOrV, mNotV, mChain, fI, fIc, fB, fU, fIx, fCatL, fCatT, fCatS, fAdd, orF, cPos, cDivW, f1, f2, fAbs, fInt, fLen, fMin2, fMax2, mSub, mIn, mLen, mScrIx, mScrLen, mIsi, fIsi, mTuple, mTupleP, mSl, mNoPart, mPart, sNext, sSeq, sAsg, sIf, sRet, sRetN, sDrop, sNever, sSetL, sPar, mYes, mgN, mgNil, mgCons, mgT, toD, toDn, asD, cD, retA, runF, kill, lookA, viewK, viewT, keyOf, ixN, atI0, atI1, atI2, atI3, isIn, mCall, renum, cellsOf, putBack, miSeq, still, miR1, miR2, wipeA, fEqI, fEqL, fEqT, fEqTT]
    rw [hd] at q1
    simp only [List.cons.injEq] at q1
    obtain ⟨rfl, q3⟩ := q1
    refine ⟨⟨rest, rfl, q3, by simp only [List.length_cons] at q2; omega⟩, ?_⟩
    obtain ⟨sl1, sl2, h1, h2, h3⟩ := h a hi
    exact ⟨sl1, sl2, cs, h1, h2, by rw [h3]⟩) (List.range n) 0 ⟨_, rfl, by simp [mVar, mC, mOp, mOpN, mUn, aNil, aCons, toDs, asDs, mCB, mTup, mLst, mIf, mTest, mAnd, mOr, mNot, mAndV, mOrV, mNotV, mChain, fI, fIc, fB, fU, fIx, fCatL, fCatT, fCatS, fAdd, orF, cPos, cDivW, f1, f2, fAbs, fInt, fLen, fMin2, fMax2, mSub, mIn, mLen, mScrIx, mScrLen, mIsi, fIsi, mTuple, mTupleP, mSl, mNoPart, mPart, sNext, sSeq, sAsg, sIf, sRet, sRetN, sDrop, sNever, sSetL, sPar, mYes, mgN, mgNil, mgCons, mgT, toD, toDn, asD, cD, retA, runF, kill, lookA, viewK, viewT, keyOf, ixN, atI0, atI1, atI2, atI3, isIn, mCall, renum, cellsOf, putBack, miSeq, still, miR1, miR2, wipeA, fEqI, fEqL, fEqT, fEqTT], by simp [mVar, mC, mOp, mOpN, mUn, aNil, aCons, toDs, asDs, mCB, mTup, mLst, mIf, mTest, mAnd, mOr, mNot, mAndV, mOrV, mNotV, mChain, fI, fIc, fB, fU, fIx, fCatL, fCatT, fCatS, fAdd, orF, cPos, cDivW, f1, f2, fAbs, fInt, fLen, fMin2, fMax2, mSub, mIn, mLen, mScrIx, mScrLen, mIsi, fIsi, mTuple, mTupleP, mSl, mNoPart, mPart, sNext, sSeq, sAsg, sIf, sRet, sRetN, sDrop, sNever, sSetL, sPar, mYes, mgN, mgNil, mgCons, mgT, toD, toDn, asD, cD, retA, runF, kill, lookA, viewK, viewT, keyOf, ixN, atI0, atI1, atI2, atI3, isIn, mCall, renum, cellsOf, putBack, miSeq, still, miR1, miR2, wipeA, fEqI, fEqL, fEqT, fEqTT]⟩
  obtain ⟨e1, r, _, _, e2⟩ := e
  rw [rng0]
  simp only [List.length_nil, Nat.add_zero] at e2
  rw [h0, e2] at e1
  exact e1
theorem lawrows_ok (n k : Nat) (hn : n ≤ 1000) (hk : k ≤ 1000) (hz : ∀ i ≤ n, (rowsF k i).length ≤ 16777216) : M__law_rows [.dat (.int n), .dat (.int k)] [] = some (.dat (.list ((rowsF k n).map iT)), []) := by
  have hn2 : (n : Int) ≤ 16777216 := by omega
  have hn3 : -1000000 ≤ (n : Int) := by omega
  have hk2 : (k : Int) ≤ 16777216 := by omega
  have hk3 : -1000000 ≤ (k : Int) := by omega
  have h3 : S__law_rows_3 [some (.dat (.int n)), some (.dat (.int k)), some (.dat (.list [.tuple []])), none, none, none, none] [] = some (.nx [some (.dat (.int n)), some (.dat (.int k)), some (.dat (.list ((rowsF k n).map iT))), none, none, none, none] []) := by
    unfold S__law_rows_3 sFor
    have e := grow_out (f := rowsS k) (F := rowsF k) (mg := mgN 3) (mb := sSeq (sAsg 4 (mLst (aNil))) (sSeq (S__law_rows_2) (sAsg 2 (mVar 4)))) (kl := [3, 4, 5]) (S := fun rows => [some (.dat (.int n)), some (.dat (.int k)), some (.dat (.list (rows.map iT))), none, none, none, none]) (cs := []) (n := n) rfl (fun _ => rfl) fun i hi => by
      refine ⟨_, [some (.dat (.int n)), some (.dat (.int k)), some (.dat (.list ((rowsF k (i + 1)).map iT))), some (.dat (.int i)), some (.dat (.list ((rowsF k (i + 1)).map iT))), none, none], rfl, ?_, rfl⟩
      have h2 : S__law_rows_2 [some (.dat (.int n)), some (.dat (.int k)), some (.dat (.list ((rowsF k i).map iT))), some (.dat (.int i)), some (.dat (.list [])), none, none] [] = some (.nx [some (.dat (.int n)), some (.dat (.int k)), some (.dat (.list ((rowsF k i).map iT))), some (.dat (.int i)), some (.dat (.list ((rowsF k (i + 1)).map iT))), none, none] []) := by
        unfold S__law_rows_2 sFor
        have e := grow_in (f := rowsS k) (mg := mgN 5) (mb := sAsg 4 (mOpN fAdd (mVar 4) (L__law_rows_1))) (kl := [5]) (S := fun more => [some (.dat (.int n)), some (.dat (.int k)), some (.dat (.list ((rowsF k i).map iT))), some (.dat (.int i)), some (.dat (.list (more.map iT))), none, none]) (cs := []) (rows := rowsF k i) (hz (i + 1) (by omega)) fun r more hr hl => by
          refine ⟨_, [some (.dat (.int n)), some (.dat (.int k)), some (.dat (.list ((rowsF k i).map iT))), some (.dat (.int i)), some (.dat (.list ((more ++ rowsS k r).map iT))), some (.dat (iT r)), none], rfl, ?_, rfl⟩
          have hr2 : r.length + 1 ≤ 16777216 := by
            rw [rows_len k i r hr]
            omega
          have h1 : L__law_rows_1 [some (.dat (.int n)), some (.dat (.int k)), some (.dat (.list ((rowsF k i).map iT))), some (.dat (.int i)), some (.dat (.list (more.map iT))), some (.dat (iT r)), none] [] = some (.new (.lst ((rowsS k r).map iT)), []) := by
            unfold rowsS
            rw [List.map_map]
            exact mLc_map (fun (i : Nat) => PyData.int i) _ (List.range k) (by simp [mVar, mC, mOp, mOpN, mUn, aNil, aCons, toDs, asDs, mCB, mTup, mLst, mIf, mTest, mAnd, mOr, mNot, mAndV, mOrV, mNotV, mChain, fI, fIc, fB, fU, fIx, fCatL, fCatT, fCatS, fAdd, orF, cPos, cDivW, f1, f2, fAbs, fInt, fLen, fMin2, fMax2, mSub, mIn, mLen, mScrIx, mScrLen, mIsi, fIsi, mTuple, mTupleP, mSl, mNoPart, mPart, sNext, sSeq, sAsg, sIf, sRet, sRetN, sDrop, sNever, sSetL, sPar, mYes, mgN, mgNil, mgCons, mgT, toD, toDn, asD, cD, retA, runF, kill, lookA, viewK, viewT, keyOf, ixN, atI0, atI1, atI2, atI3, isIn, mCall, renum, cellsOf, putBack, miSeq, still, miR1, miR2, wipeA, fEqI, fEqL, fEqT, fEqTT, rng0, hk2, hk3]) fun x hx => ⟨_, rfl, rfl, .dat (iT (r ++ [(x : Int)])), by simp [mVar, mC, mOp, mOpN, mUn, aNil, aCons, toDs, asDs, mCB, mTup, mLst, mIf, mTest, mAnd, mOr, mNot, mAndV, mOrV, mNotV, mChain, fI, fIc, fB, fU, fIx, fCatL, fCatT, fCatS, fAdd, orF, cPos, cDivW, f1, f2, fAbs, fInt, fLen, fMin2, fMax2, mSub, mIn, mLen, mScrIx, mScrLen, mIsi, fIsi, mTuple, mTupleP, mSl, mNoPart, mPart, sNext, sSeq, sAsg, sIf, sRet, sRetN, sDrop, sNever, sSetL, sPar, mYes, mgN, mgNil, mgCons, mgT, toD, toDn, asD, cD, retA, runF, kill, lookA, viewK, viewT, keyOf, ixN, atI0, atI1, atI2, atI3, isIn, mCall, renum, cellsOf, putBack, miSeq, still, miR1, miR2, wipeA, fEqI, fEqL, fEqT, fEqTT, hr2], rfl⟩
          simp [mVar, mC, mOp, mOpN, mUn, aNil, aCons, toDs, asDs, mCB, mTup, mLst, mIf, mTest, mAnd, mOr, mNot, mAndV, mOrV, mNotV, mChain, fI, fIc, fB, fU, fIx, fCatL, fCatT, fCatS, fAdd, orF, cPos, cDivW, f1, f2, fAbs, fInt, fLen, fMin2, fMax2, mSub, mIn, mLen, mScrIx, mScrLen, mIsi, fIsi, mTuple, mTupleP, mSl, mNoPart, mPart, sNext, sSeq, sAsg, sIf, sRet, sRetN, sDrop, sNever, sSetL, sPar, mYes, mgN, mgNil, mgCons, mgT, toD, toDn, asD, cD, retA, runF, kill, lookA, viewK, viewT, keyOf, ixN, atI0, atI1, atI2, atI3, isIn, mCall, renum, cellsOf, putBack, miSeq, still, miR1, miR2, wipeA, fEqI, fEqL, fEqT, fEqTT, h1, hl]
        simpa [mVar, mC, mOp, mOpN, mUn, aNil, aCons, toDs, asDs, mCB, mTup, mLst, mIf, mTest, mAnd, mOr, mNot, mAndV, mOrV, mNotV, mChain, fI, fIc, fB, fU, fIx, fCatL, fCatT, fCatS, fAdd, orF, cPos, cDivW, f1, f2, fAbs, fInt, fLen, fMin2, fMax2, mSub, mIn, mLen, mScrIx, mScrLen, mIsi, fIsi, mTuple, mTupleP, mSl, mNoPart, mPart, sNext, sSeq, sAsg, sIf, sRet, sRetN, sDrop, sNever, sSetL, sPar, mYes, mgN, mgNil, mgCons, mgT, toD, toDn, asD, cD, retA, runF, kill, lookA, viewK, viewT, keyOf, ixN, atI0, atI1, atI2, atI3, isIn, mCall, renum, cellsOf, putBack, miSeq, still, miR1, miR2, wipeA, fEqI, fEqL, fEqT, fEqTT, rowsF] using e
      simp [mVar, mC, mOp, mOpN, mUn, aNil, aCons, toDs, asDs, mCB, mTup, mLst, mIf, mTest, mAnd, mOr, mNot, mAndV, mOrV, mNotV, mChain, fI, fIc, fB, fU, fIx, fCatL, fCatT, fCatS, fAdd, orF, cPos, cDivW, f1, f2, fAbs, fInt, fLen, fMin2, fMax2, mSub, mIn, mLen, mScrIx, mScrLen, mIsi, fIsi, mTuple, mTupleP, mSl, mNoPart, mPart, sNext, sSeq, sAsg, sIf, sRet, sRetN, sDrop, sNever, sSetL, sPar, mYes, mgN, mgNil, mgCons, mgT, toD, toDn, asD, cD, retA, runF, kill, lookA, viewK, viewT, keyOf, ixN, atI0, atI1, atI2, atI3, isIn, mCall, renum, cellsOf, putBack, miSeq, still, miR1, miR2, wipeA, fEqI, fEqL, fEqT, fEqTT, h2]
    simp [mVar, mC, mOp, mOpN, mUn, aNil, aCons, toDs, asDs, mCB, mTup, mLst, mIf, mTest, mAnd, mOr, mNot, mAndV, mOrV, mNotV, mChain, fI, fIc, fB, fU, fIx, fCatL, fCatT, fCatS, fAdd, orF, cPos, cDivW, f1, f2, fAbs, fInt, fLen, fMin2, fMax2, mSub, mIn, mLen, mScrIx, mScrLen, mIsi, fIsi, mTuple, mTupleP, mSl, mNoPart, mPart, sNext, sSeq, sAsg, sIf, sRet, sRetN, sDrop, sNever, sSetL, sPar, mYes, mgN, mgNil, mgCons, mgT, toD, toDn, asD, cD, retA, runF, kill, lookA, viewK, viewT, keyOf, ixN, atI0, atI1, atI2, atI3, isIn, mCall, renum, cellsOf, putBack, miSeq, still, miR1, miR2, wipeA, fEqI, fEqL, fEqT, fEqTT, hn2, hn3]
    exact e
  unfold M__law_rows B__law_rows
  simp [mVar, mC, mOp, mOpN, mUn, aNil, aCons, toDs, asDs, mCB, mTup, mLst, mIf, mTest, mAnd, mOr, mNot, mAndV, mOrV, mNotV, mChain, fI, fIc, fB, fU, fIx, fCatL, fCatT, fCatS, fAdd, orF, cPos, cDivW, f1, f2, fAbs, fInt, fLen, fMin2, fMax2, mSub, mIn, mLen, mScrIx, mScrLen, mIsi, fIsi, mTuple, mTupleP, mSl, mNoPart, mPart, sNext, sSeq, sAsg, sIf, sRet, sRetN, sDrop, sNever, sSetL, sPar, mYes, mgN, mgNil, mgCons, mgT, toD, toDn, asD, cD, retA, runF, kill, lookA, viewK, viewT, keyOf, ixN, atI0, atI1, atI2, atI3, isIn, mCall, renum, cellsOf, putBack, miSeq, still, miR1, miR2, wipeA, fEqI, fEqL, fEqT, fEqTT, h3]
theorem fSumU_iT (r : List Int) : fSumU (.tuple (r.map PyData.int)) = some (.dat (.int r.sum)) := by simp [mVar, mC, mOp, mOpN, mUn, aNil, aCons, toDs, asDs, mCB, mTup, mLst, mIf, mTest, mAnd, mOr, mNot, mAndV, mOrV, mNotV, mChain, fI, fIc, fB, fU, fIx, fCatL, fCatT, fCatS, fAdd, orF, cPos, cDivW, f1, f2, fAbs, fInt, fLen, fMin2, fMax2, mSub, mIn, mLen, mScrIx, mScrLen, mIsi, fIsi, mTuple, mTupleP, mSl, mNoPart, mPart, sNext, sSeq, sAsg, sIf, sRet, sRetN, sDrop, sNever, sSetL, sPar, mYes, mgN, mgNil, mgCons, mgT, toD, toDn, asD, cD, retA, runF, kill, lookA, viewK, viewT, keyOf, ixN, atI0, atI1, atI2, atI3, isIn, mCall, renum, cellsOf, putBack, miSeq, still, miR1, miR2, wipeA, fEqI, fEqL, fEqT, fEqTT, fSumU, intsOf_map]
theorem lawsums_ok (n k : Nat) (hn : n ≤ 1000) (hk : k ≤ 1000) (hz : ∀ i ≤ k, (sumsG n i).length ≤ 16777216) : M__law_sums [.dat (.int n), .dat (.int k)] [] = some (.new (.lst (((sumsG n k).filter fun r => decide (r.sum = (n : Int))).map iT)), []) := by
  have hk2 : (k : Int) ≤ 16777216 := by omega
  have hk3 : -1000000 ≤ (k : Int) := by omega
  have h3 : S__law_sums_3 [some (.dat (.int n)), some (.dat (.int k)), some (.dat (.list [.tuple []])), none, none, none, none] [] = some (.nx [some (.dat (.int n)), some (.dat (.int k)), some (.dat (.list ((sumsG n k).map iT))), none, none, none, none] []) := by
    unfold S__law_sums_3 sFor
    have e := grow_out (f := sumsS n) (F := sumsG n) (mg := mgN 3) (mb := sSeq (sAsg 4 (mLst (aNil))) (sSeq (S__law_sums_2) (sAsg 2 (mVar 4)))) (kl := [3, 4, 5]) (S := fun rows => [some (.dat (.int n)), some (.dat (.int k)), some (.dat (.list (rows.map iT))), none, none, none, none]) (cs := []) (n := k) rfl (fun _ => rfl) fun i hi => by
      refine ⟨_, [some (.dat (.int n)), some (.dat (.int k)), some (.dat (.list ((sumsG n (i + 1)).map iT))), some (.dat (.int i)), some (.dat (.list ((sumsG n (i + 1)).map iT))), none, none], rfl, ?_, rfl⟩
      have h2 : S__law_sums_2 [some (.dat (.int n)), some (.dat (.int k)), some (.dat (.list ((sumsG n i).map iT))), some (.dat (.int i)), some (.dat (.list [])), none, none] [] = some (.nx [some (.dat (.int n)), some (.dat (.int k)), some (.dat (.list ((sumsG n i).map iT))), some (.dat (.int i)), some (.dat (.list ((sumsG n (i + 1)).map iT))), none, none] []) := by
        unfold S__law_sums_2 sFor
        have e := grow_in (f := sumsS n) (mg := mgN 5) (mb := sAsg 4 (mOpN fAdd (mVar 4) (L__law_sums_1))) (kl := [5]) (S := fun more => [some (.dat (.int n)), some (.dat (.int k)), some (.dat (.list ((sumsG n i).map iT))), some (.dat (.int i)), some (.dat (.list (more.map iT))), none, none]) (cs := []) (rows := sumsG n i) (hz (i + 1) (by omega)) fun r more hr hl => by
          refine ⟨_, [some (.dat (.int n)), some (.dat (.int k)), some (.dat (.list ((sumsG n i).map iT))), some (.dat (.int i)), some (.dat (.list ((more ++ sumsS n r).map iT))), some (.dat (iT r)), none], rfl, ?_, rfl⟩
          have hr2 : r.length + 1 ≤ 16777216 := by
            rw [sums_len n i r hr]
            omega
          have h1 : L__law_sums_1 [some (.dat (.int n)), some (.dat (.int k)), some (.dat (.list ((sumsG n i).map iT))), some (.dat (.int i)), some (.dat (.list (more.map iT))), some (.dat (iT r)), none] [] = some (.new (.lst ((sumsS n r).map iT)), []) := by
            unfold sumsS
            rw [List.map_map]
            have hs := sums_bd n i r hr
            have q1 : (n : Int) - r.sum + 1 ≤ 16777216 := by omega
            refine mLc_map (fun (i : Nat) => PyData.int i) _ (List.range ((n : Int) - r.sum + 1).toNat) ?_ fun x hx => ⟨_, rfl, rfl, .dat (iT (r ++ [(x : Int)])), by simp [mVar, mC, mOp, mOpN, mUn, aNil, aCons, toDs, asDs, mCB, mTup, mLst, mIf, mTest, mAnd, mOr, mNot, mAndV, mOrV, mNotV, mChain, fI, fIc, fB, fU, fIx, fCatL, fCatT, fCatS, fAdd, orF, cPos, cDivW, f1, f2, fAbs, fInt, fLen, fMin2, fMax2, mSub, mIn, mLen, mScrIx, mScrLen, mIsi, fIsi, mTuple, mTupleP, mSl, mNoPart, mPart, sNext, sSeq, sAsg, sIf, sRet, sRetN, sDrop, sNever, sSetL, sPar, mYes, mgN, mgNil, mgCons, mgT, toD, toDn, asD, cD, retA, runF, kill, lookA, viewK, viewT, keyOf, ixN, atI0, atI1, atI2, atI3, isIn, mCall, renum, cellsOf, putBack, miSeq, still, miR1, miR2, wipeA, fEqI, fEqL, fEqT, fEqTT, hr2], rfl⟩
            have q2 : -1000000 ≤ (n : Int) - r.sum + 1 := by omega
            simp [mVar, mC, mOp, mOpN, mUn, aNil, aCons, toDs, asDs, mCB, mTup, mLst, mIf, mTest, mAnd, mOr, mNot, mAndV, mOrV, mNotV, mChain, fI, fIc, fB, fU, fIx, fCatL, fCatT, fCatS, fAdd, orF, cPos, cDivW, f1, f2, fAbs, fInt, fLen, fMin2, fMax2, mSub, mIn, mLen, mScrIx, mScrLen, mIsi, fIsi, mTuple, mTupleP, mSl, mNoPart, mPart, sNext, sSeq, sAsg, sIf, sRet, sRetN, sDrop, sNever, sSetL, sPar, mYes, mgN, mgNil, mgCons, mgT, toD, toDn, asD, cD, retA, runF, kill, lookA, viewK, viewT, keyOf, ixN, atI0, atI1, atI2, atI3, isIn, mCall, renum, cellsOf, putBack, miSeq, still, miR1, miR2, wipeA, fEqI, fEqL, fEqT, fEqTT, rng0, fSumU_iT, q1, q2]
          simp [mVar, mC, mOp, mOpN, mUn, aNil, aCons, toDs, asDs, mCB, mTup, mLst, mIf, mTest, mAnd, mOr, mNot, mAndV, mOrV, mNotV, mChain, fI, fIc, fB, fU, fIx, fCatL, fCatT, fCatS, fAdd, orF, cPos, cDivW, f1, f2, fAbs, fInt, fLen, fMin2, fMax2, mSub, mIn, mLen, mScrIx, mScrLen, mIsi, fIsi, mTuple, mTupleP, mSl, mNoPart, mPart, sNext, sSeq, sAsg, sIf, sRet, sRetN, sDrop, sNever, sSetL, sPar, mYes, mgN, mgNil, mgCons, mgT, toD, toDn, asD, cD, retA, runF, kill, lookA, viewK, viewT, keyOf, ixN, atI0, atI1, atI2, atI3, isIn, mCall, renum, cellsOf, putBack, miSeq, still, miR1, miR2, wipeA, fEqI, fEqL, fEqT, fEqTT, h1, hl]
        simpa [mVar, mC, mOp, mOpN, mUn, aNil, aCons, toDs, asDs, mCB, mTup, mLst, mIf, mTest, mAnd, mOr, mNot, mAndV, mOrV, mNotV, mChain, fI, fIc, fB, fU, fIx, fCatL, fCatT, fCatS, fAdd, orF, cPos, cDivW, f1, f2, fAbs, fInt, fLen, fMin2, fMax2, mSub, mIn, mLen, mScrIx, mScrLen, mIsi, fIsi, mTuple, mTupleP, mSl, mNoPart, mPart, sNext, sSeq, sAsg, sIf, sRet, sRetN, sDrop, sNever, sSetL, sPar, mYes, mgN, mgNil, mgCons, mgT, toD, toDn, asD, cD, retA, runF, kill, lookA, viewK, viewT, keyOf, ixN, atI0, atI1, atI2, atI3, isIn, mCall, renum, cellsOf, putBack, miSeq, still, miR1, miR2, wipeA, fEqI, fEqL, fEqT, fEqTT, sumsG] using e
      simp [mVar, mC, mOp, mOpN, mUn, aNil, aCons, toDs, asDs, mCB, mTup, mLst, mIf, mTest, mAnd, mOr, mNot, mAndV, mOrV, mNotV, mChain, fI, fIc, fB, fU, fIx, fCatL, fCatT, fCatS, fAdd, orF, cPos, cDivW, f1, f2, fAbs, fInt, fLen, fMin2, fMax2, mSub, mIn, mLen, mScrIx, mScrLen, mIsi, fIsi, mTuple, mTupleP, mSl, mNoPart, mPart, sNext, sSeq, sAsg, sIf, sRet, sRetN, sDrop, sNever, sSetL, sPar, mYes, mgN, mgNil, mgCons, mgT, toD, toDn, asD, cD, retA, runF, kill, lookA, viewK, viewT, keyOf, ixN, atI0, atI1, atI2, atI3, isIn, mCall, renum, cellsOf, putBack, miSeq, still, miR1, miR2, wipeA, fEqI, fEqL, fEqT, fEqTT, h2]
    simp [mVar, mC, mOp, mOpN, mUn, aNil, aCons, toDs, asDs, mCB, mTup, mLst, mIf, mTest, mAnd, mOr, mNot, mAndV, mOrV, mNotV, mChain, fI, fIc, fB, fU, fIx, fCatL, fCatT, fCatS, fAdd, orF, cPos, cDivW, f1, f2, fAbs, fInt, fLen, fMin2, fMax2, mSub, mIn, mLen, mScrIx, mScrLen, mIsi, fIsi, mTuple, mTupleP, mSl, mNoPart, mPart, sNext, sSeq, sAsg, sIf, sRet, sRetN, sDrop, sNever, sSetL, sPar, mYes, mgN, mgNil, mgCons, mgT, toD, toDn, asD, cD, retA, runF, kill, lookA, viewK, viewT, keyOf, ixN, atI0, atI1, atI2, atI3, isIn, mCall, renum, cellsOf, putBack, miSeq, still, miR1, miR2, wipeA, fEqI, fEqL, fEqT, fEqTT, hk2, hk3]
    exact e
  have h4 : L__law_sums_4 [some (.dat (.int n)), some (.dat (.int k)), some (.dat (.list ((sumsG n k).map iT))), none, none, none, none] [] = some (.new (.lst (((sumsG n k).filter fun r => decide (r.sum = (n : Int))).map iT)), []) :=
    mLc_filt iT _ _ _ (by simp [mVar, mC, mOp, mOpN, mUn, aNil, aCons, toDs, asDs, mCB, mTup, mLst, mIf, mTest, mAnd, mOr, mNot, mAndV, mOrV, mNotV, mChain, fI, fIc, fB, fU, fIx, fCatL, fCatT, fCatS, fAdd, orF, cPos, cDivW, f1, f2, fAbs, fInt, fLen, fMin2, fMax2, mSub, mIn, mLen, mScrIx, mScrLen, mIsi, fIsi, mTuple, mTupleP, mSl, mNoPart, mPart, sNext, sSeq, sAsg, sIf, sRet, sRetN, sDrop, sNever, sSetL, sPar, mYes, mgN, mgNil, mgCons, mgT, toD, toDn, asD, cD, retA, runF, kill, lookA, viewK, viewT, keyOf, ixN, atI0, atI1, atI2, atI3, isIn, mCall, renum, cellsOf, putBack, miSeq, still, miR1, miR2, wipeA, fEqI, fEqL, fEqT, fEqTT]) fun r hr => ⟨_, rfl, by simp [mVar, mC, mOp, mOpN, mUn, aNil, aCons, toDs, asDs, mCB, mTup, mLst, mIf, mTest, mAnd, mOr, mNot, mAndV, mOrV, mNotV, mChain, fI, fIc, fB, fU, fIx, fCatL, fCatT, fCatS, fAdd, orF, cPos, cDivW, f1, f2, fAbs, fInt, fLen, fMin2, fMax2, mSub, mIn, mLen, mScrIx, mScrLen, mIsi, fIsi, mTuple, mTupleP, mSl, mNoPart, mPart, sNext, sSeq, sAsg, sIf, sRet, sRetN, sDrop, sNever, sSetL, sPar, mYes, mgN, mgNil, mgCons, mgT, toD, toDn, asD, cD, retA, runF, kill, lookA, viewK, viewT, keyOf, ixN, atI0, atI1, atI2, atI3, isIn, mCall, renum, cellsOf, putBack, miSeq, still, miR1, miR2, wipeA, fEqI, fEqL, fEqT, fEqTT, fSumU_iT], fun _ => ⟨_, rfl, rfl⟩⟩
  unfold M__law_sums B__law_sums
  simp [mVar, mC, mOp, mOpN, mUn, aNil, aCons, toDs, asDs, mCB, mTup, mLst, mIf, mTest, mAnd, mOr, mNot, mAndV, mOrV, mNotV, mChain, fI, fIc, fB, fU, fIx, fCatL, fCatT, fCatS, fAdd, orF, cPos, cDivW, f1, f2, fAbs, fInt, fLen, fMin2, fMax2, mSub, mIn, mLen, mScrIx, mScrLen, mIsi, fIsi, mTuple, mTupleP, mSl, mNoPart, mPart, sNext, sSeq, sAsg, sIf, sRet, sRetN, sDrop, sNever, sSetL, sPar, mYes, mgN, mgNil, mgCons, mgT, toD, toDn, asD, cD, retA, runF, kill, lookA, viewK, viewT, keyOf, ixN, atI0, atI1, atI2, atI3, isIn, mCall, renum, cellsOf, putBack, miSeq, still, miR1, miR2, wipeA, fEqI, fEqL, fEqT, fEqTT, h3, h4]
theorem atI_last {r : List Int} (h : r ≠ []) : atI (r.map PyData.int) (-1) = some (.int (r.getLastD 0)) := by
  have hl : 0 < r.length := List.length_pos_iff.mpr h
  unfold atI ixN
  rw [List.length_map, if_neg (by omega), if_pos (by omega)]
  have e : ((-1 : Int) + (r.length : Int)).toNat = r.length - 1 := by omega
  show (r.map PyData.int)[((-1 : Int) + (r.length : Int)).toNat]? = _
  rw [e, List.getElem?_map, List.getLastD_eq_getLast?, List.getLast?_eq_getElem?]
  have : r[r.length - 1]? = some r[r.length - 1] := List.getElem?_eq_getElem (by omega)
  rw [this]
  rfl
theorem fEq_nil (b : Bool) (r : List Int) : fEq b (.tuple (r.map PyData.int)) (.tuple []) = some (.dat (.bool (if b = true then !decide (r = []) else decide (r = [])))) := fEqT b r []
theorem lawcho_ok (n m : Nat) (hn : n ≤ 1000) (hm : m ≤ 1000) (hz : ∀ i ≤ n, (choF m i).length ≤ 16777216) : M__law_choices [.dat (.int n), .dat (.int m), .dat (.int 0)] [] = some (.dat (.list ((choF m n).map iT)), []) := by
  have hn2 : (n : Int) ≤ 16777216 := by omega
  have hn3 : -1000000 ≤ (n : Int) := by omega
  have h3 : S__law_choices_3 [some (.dat (.int n)), some (.dat (.int m)), some (.dat (.int 0)), some (.dat (.list [.tuple []])), none, none, none, none] [] = some (.nx [some (.dat (.int n)), some (.dat (.int m)), some (.dat (.int 0)), some (.dat (.list ((choF m n).map iT))), none, none, none, none] []) := by
    unfold S__law_choices_3 sFor
    have e := grow_out (f := choS m) (F := choF m) (mg := mgN 4) (mb := sSeq (sAsg 5 (mLst (aNil))) (sSeq (S__law_choices_2) (sAsg 3 (mVar 5)))) (kl := [4, 5, 6]) (S := fun rows => [some (.dat (.int n)), some (.dat (.int m)), some (.dat (.int 0)), some (.dat (.list (rows.map iT))), none, none, none, none]) (cs := []) (n := n) rfl (fun _ => rfl) fun i hi => by
      refine ⟨_, [some (.dat (.int n)), some (.dat (.int m)), some (.dat (.int 0)), some (.dat (.list ((choF m (i + 1)).map iT))), some (.dat (.int i)), some (.dat (.list ((choF m (i + 1)).map iT))), none, none], rfl, ?_, rfl⟩
      have h2 : S__law_choices_2 [some (.dat (.int n)), some (.dat (.int m)), some (.dat (.int 0)), some (.dat (.list ((choF m i).map iT))), some (.dat (.int i)), some (.dat (.list [])), none, none] [] = some (.nx [some (.dat (.int n)), some (.dat (.int m)), some (.dat (.int 0)), some (.dat (.list ((choF m i).map iT))), some (.dat (.int i)), some (.dat (.list ((choF m (i + 1)).map iT))), none, none] []) := by
        unfold S__law_choices_2 sFor
        have e := grow_in (f := choS m) (mg := mgN 6) (mb := sAsg 5 (mOpN fAdd (mVar 5) (L__law_choices_1))) (kl := [6]) (S := fun more => [some (.dat (.int n)), some (.dat (.int m)), some (.dat (.int 0)), some (.dat (.list ((choF m i).map iT))), some (.dat (.int i)), some (.dat (.list (more.map iT))), none, none]) (cs := []) (rows := choF m i) (hz (i + 1) (by omega)) fun r more hr hl => by
          refine ⟨_, [some (.dat (.int n)), some (.dat (.int m)), some (.dat (.int 0)), some (.dat (.list ((choF m i).map iT))), some (.dat (.int i)), some (.dat (.list ((more ++ choS m r).map iT))), some (.dat (iT r)), none], rfl, ?_, rfl⟩
          have hr2 : r.length + 1 ≤ 16777216 := by
            rw [cho_len m i r hr]
            omega
          have h1 : L__law_choices_1 [some (.dat (.int n)), some (.dat (.int m)), some (.dat (.int 0)), some (.dat (.list ((choF m i).map iT))), some (.dat (.int i)), some (.dat (.list (more.map iT))), some (.dat (iT r)), none] [] = some (.new (.lst ((choS m r).map iT)), []) := by
            unfold choS
            rw [List.map_map]
            have hs := cho_bd m i r hr
            have q0 : r.getLastD 0 ≤ 1000000000 := by
              rcases hs.2 with e | e
              · rw [e]; simp [mVar, mC, mOp, mOpN, mUn, aNil, aCons, toDs, asDs, mCB, mTup, mLst, mIf, mTest, mAnd, mOr, mNot, mAndV, mOrV, mNotV, mChain, fI, fIc, fB, fU, fIx, fCatL, fCatT, fCatS, fAdd, orF, cPos, cDivW, f1, f2, fAbs, fInt, fLen, fMin2, fMax2, mSub, mIn, mLen, mScrIx, mScrLen, mIsi, fIsi, mTuple, mTupleP, mSl, mNoPart, mPart, sNext, sSeq, sAsg, sIf, sRet, sRetN, sDrop, sNever, sSetL, sPar, mYes, mgN, mgNil, mgCons, mgT, toD, toDn, asD, cD, retA, runF, kill, lookA, viewK, viewT, keyOf, ixN, atI0, atI1, atI2, atI3, isIn, mCall, renum, cellsOf, putBack, miSeq, still, miR1, miR2, wipeA, fEqI, fEqL, fEqT, fEqTT]
              · omega
            refine mLc_map (fun (i : Nat) => PyData.int (r.getLastD 0 + i)) _ (List.range ((m : Int) - r.getLastD 0).toNat) ?_ fun x hx => ⟨_, rfl, rfl, .dat (iT (r ++ [r.getLastD 0 + (x : Int)])), by simp [mVar, mC, mOp, mOpN, mUn, aNil, aCons, toDs, asDs, mCB, mTup, mLst, mIf, mTest, mAnd, mOr, mNot, mAndV, mOrV, mNotV, mChain, fI, fIc, fB, fU, fIx, fCatL, fCatT, fCatS, fAdd, orF, cPos, cDivW, f1, f2, fAbs, fInt, fLen, fMin2, fMax2, mSub, mIn, mLen, mScrIx, mScrLen, mIsi, fIsi, mTuple, mTupleP, mSl, mNoPart, mPart, sNext, sSeq, sAsg, sIf, sRet, sRetN, sDrop, sNever, sSetL, sPar, mYes, mgN, mgNil, mgCons, mgT, toD, toDn, asD, cD, retA, runF, kill, lookA, viewK, viewT, keyOf, ixN, atI0, atI1, atI2, atI3, isIn, mCall, renum, cellsOf, putBack, miSeq, still, miR1, miR2, wipeA, fEqI, fEqL, fEqT, fEqTT, hr2], rfl⟩
            by_cases he : r = []
            · subst he
              have q1 : (m : Int) ≤ 16777216 := by omega
              have q2 : (m : Int) ≤ 1000000000 := by omega
              have q3 : -1000000000 ≤ (m : Int) := by omega
              simp [mVar, mC, mOp, mOpN, mUn, aNil, aCons, toDs, asDs, mCB, mTup, mLst, mIf, mTest, mAnd, mOr, mNot, mAndV, mOrV, mNotV, mChain, fI, fIc, fB, fU, fIx, fCatL, fCatT, fCatS, fAdd, orF, cPos, cDivW, f1, f2, fAbs, fInt, fLen, fMin2, fMax2, mSub, mIn, mLen, mScrIx, mScrLen, mIsi, fIsi, mTuple, mTupleP, mSl, mNoPart, mPart, sNext, sSeq, sAsg, sIf, sRet, sRetN, sDrop, sNever, sSetL, sPar, mYes, mgN, mgNil, mgCons, mgT, toD, toDn, asD, cD, retA, runF, kill, lookA, viewK, viewT, keyOf, ixN, atI0, atI1, atI2, atI3, isIn, mCall, renum, cellsOf, putBack, miSeq, still, miR1, miR2, wipeA, fEqI, fEqL, fEqT, fEqTT, rng, fEq_nil, q1, q2, q3]
            · have q1 : (m : Int) - r.getLastD 0 ≤ 16777216 := by omega
              have q2 : (m : Int) ≤ 1000000000 := by omega
              have q3 : -1000000000 ≤ (m : Int) := by omega
              have q4 : -1000000000 ≤ r.getLastD 0 := by omega
              simp [mVar, mC, mOp, mOpN, mUn, aNil, aCons, toDs, asDs, mCB, mTup, mLst, mIf, mTest, mAnd, mOr, mNot, mAndV, mOrV, mNotV, mChain, fI, fIc, fB, fU, fIx, fCatL, fCatT, fCatS, fAdd, orF, cPos, cDivW, f1, f2, fAbs, fInt, fLen, fMin2, fMax2, mSub, mIn, mLen, mScrIx, mScrLen, mIsi, fIsi, mTuple, mTupleP, mSl, mNoPart, mPart, sNext, sSeq, sAsg, sIf, sRet, sRetN, sDrop, sNever, sSetL, sPar, mYes, mgN, mgNil, mgCons, mgT, toD, toDn, asD, cD, retA, runF, kill, lookA, viewK, viewT, keyOf, ixN, atI0, atI1, atI2, atI3, isIn, mCall, renum, cellsOf, putBack, miSeq, still, miR1, miR2, wipeA, fEqI, fEqL, fEqT, fEqTT, rng, fEq_nil, q0, q1, q2, q3, q4, he, atI_last he]
              rw [← List.getLastD_eq_getLast?]
              exact ⟨q4, q0, q1⟩
          simp [mVar, mC, mOp, mOpN, mUn, aNil, aCons, toDs, asDs, mCB, mTup, mLst, mIf, mTest, mAnd, mOr, mNot, mAndV, mOrV, mNotV, mChain, fI, fIc, fB, fU, fIx, fCatL, fCatT, fCatS, fAdd, orF, cPos, cDivW, f1, f2, fAbs, fInt, fLen, fMin2, fMax2, mSub, mIn, mLen, mScrIx, mScrLen, mIsi, fIsi, mTuple, mTupleP, mSl, mNoPart, mPart, sNext, sSeq, sAsg, sIf, sRet, sRetN, sDrop, sNever, sSetL, sPar, mYes, mgN, mgNil, mgCons, mgT, toD, toDn, asD, cD, retA, runF, kill, lookA, viewK, viewT, keyOf, ixN, atI0, atI1, atI2, atI3, isIn, mCall, renum, cellsOf, putBack, miSeq, still, miR1, miR2, wipeA, fEqI, fEqL, fEqT, fEqTT, h1, hl]
        simpa [mVar, mC, mOp, mOpN, mUn, aNil, aCons, toDs, asDs, mCB, mTup, mLst, mIf, mTest, mAnd, mOr, mNot, mAndV, mOrV, mNotV, mChain, fI, fIc, fB, fU, fIx, fCatL, fCatT, fCatS, fAdd, orF, cPos, cDivW, f1, f2, fAbs, fInt, fLen, fMin2, fMax2, mSub, mIn, mLen, mScrIx, mScrLen, mIsi, fIsi, mTuple, mTupleP, mSl, mNoPart, mPart, sNext, sSeq, sAsg, sIf, sRet, sRetN, sDrop, sNever, sSetL, sPar, mYes, mgN, mgNil, mgCons, mgT, toD, toDn, asD, cD, retA, runF, kill, lookA, viewK, viewT, keyOf, ixN, atI0, atI1, atI2, atI3, isIn, mCall, renum, cellsOf, putBack, miSeq, still, miR1, miR2, wipeA, fEqI, fEqL, fEqT, fEqTT, choF] using e
      simp [mVar, mC, mOp, mOpN, mUn, aNil, aCons, toDs, asDs, mCB, mTup, mLst, mIf, mTest, mAnd, mOr, mNot, mAndV, mOrV, mNotV, mChain, fI, fIc, fB, fU, fIx, fCatL, fCatT, fCatS, fAdd, orF, cPos, cDivW, f1, f2, fAbs, fInt, fLen, fMin2, fMax2, mSub, mIn, mLen, mScrIx, mScrLen, mIsi, fIsi, mTuple, mTupleP, mSl, mNoPart, mPart, sNext, sSeq, sAsg, sIf, sRet, sRetN, sDrop, sNever, sSetL, sPar, mYes, mgN, mgNil, mgCons, mgT, toD, toDn, asD, cD, retA, runF, kill, lookA, viewK, viewT, keyOf, ixN, atI0, atI1, atI2, atI3, isIn, mCall, renum, cellsOf, putBack, miSeq, still, miR1, miR2, wipeA, fEqI, fEqL, fEqT, fEqTT, h2]
    simp [mVar, mC, mOp, mOpN, mUn, aNil, aCons, toDs, asDs, mCB, mTup, mLst, mIf, mTest, mAnd, mOr, mNot, mAndV, mOrV, mNotV, mChain, fI, fIc, fB, fU, fIx, fCatL, fCatT, fCatS, fAdd, orF, cPos, cDivW, f1, f2, fAbs, fInt, fLen, fMin2, fMax2, mSub, mIn, mLen, mScrIx, mScrLen, mIsi, fIsi, mTuple, mTupleP, mSl, mNoPart, mPart, sNext, sSeq, sAsg, sIf, sRet, sRetN, sDrop, sNever, sSetL, sPar, mYes, mgN, mgNil, mgCons, mgT, toD, toDn, asD, cD, retA, runF, kill, lookA, viewK, viewT, keyOf, ixN, atI0, atI1, atI2, atI3, isIn, mCall, renum, cellsOf, putBack, miSeq, still, miR1, miR2, wipeA, fEqI, fEqL, fEqT, fEqTT, hn2, hn3]
    exact e
  unfold M__law_choices B__law_choices
  simp [mVar, mC, mOp, mOpN, mUn, aNil, aCons, toDs, asDs, mCB, mTup, mLst, mIf, mTest, mAnd, mOr, mNot, mAndV, mOrV, mNotV, mChain, fI, fIc, fB, fU, fIx, fCatL, fCatT, fCatS, fAdd, orF, cPos, cDivW, f1, f2, fAbs, fInt, fLen, fMin2, fMax2, mSub, mIn, mLen, mScrIx, mScrLen, mIsi, fIsi, mTuple, mTupleP, mSl, mNoPart, mPart, sNext, sSeq, sAsg, sIf, sRet, sRetN, sDrop, sNever, sSetL, sPar, mYes, mgN, mgNil, mgCons, mgT, toD, toDn, asD, cD, retA, runF, kill, lookA, viewK, viewT, keyOf, ixN, atI0, atI1, atI2, atI3, isIn, mCall, renum, cellsOf, putBack, miSeq, still, miR1, miR2, wipeA, fEqI, fEqL, fEqT, fEqTT, h3]
end Rf

namespace Rf
open PySem L2
/-! ### the counters' law -/
def gv (kv : List (Int × Int)) (x : Int) : Int := (getI kv x).getD 0
def sumV (kv : List (Int × Int)) : Int := (kv.map (·.2)).sum
def cnt (row : List Int) (x : Int) : Int := ((row.filter fun y => decide (y = x)).length : Nat)
theorem getI_nil (x : Int) : getI [] x = none := rfl
theorem getI_cons (a : Int × Int) (r : List (Int × Int)) (x : Int) : getI (a :: r) x = if a.1 = x then some a.2 else getI r x := by
  unfold getI
  rw [List.find?_cons]
  by_cases h : a.1 = x <;> simp [mVar, mC, mOp, mOpN, mUn, aNil, aCons, toDs, asDs, mCB, mTup, mLst, mIf, mTest, mAnd, mOr, mNot, mAndV, mOrV, mNotV, mChain, fI, fIc, fB, fU, fIx, fCatL, fCatT, fCatS, fAdd, orF, cPos, cDivW, f1, f2, fAbs, fInt, fLen, fMin2, fMax2, mSub, mIn, mLen, mScrIx, mScrLen, mIsi, fIsi, mTuple, mTupleP, mSl, mNoPart, mPart, sNext, sSeq, sAsg, sIf, sRet, sRetN, sDrop, sNever, sSetL, sPar, mYes, mgN, mgNil, mgCons, mgT, toD, toDn, asD, cD, retA, runF, kill, lookA, viewK, viewT, keyOf, ixN, atI0, atI1, atI2, atI3, isIn, mCall, renum, cellsOf, putBack, miSeq, still, miR1, miR2, wipeA, fEqI, fEqL, fEqT, fEqTT, h]
theorem gv_nil (x : Int) : gv [] x = 0 := rfl
theorem gv_cons (a : Int × Int) (r : List (Int × Int)) (x : Int) : gv (a :: r) x = if a.1 = x then a.2 else gv r x := by
  unfold gv
  rw [getI_cons]
  split <;> rfl
theorem hasK_cons (a : Int × Int) (r : List (Int × Int)) (x : Int) : hasK (a :: r) x = (decide (a.1 = x) || hasK r x) := by
  unfold hasK
  rw [getI_cons]
  by_cases h : a.1 = x <;> simp [mVar, mC, mOp, mOpN, mUn, aNil, aCons, toDs, asDs, mCB, mTup, mLst, mIf, mTest, mAnd, mOr, mNot, mAndV, mOrV, mNotV, mChain, fI, fIc, fB, fU, fIx, fCatL, fCatT, fCatS, fAdd, orF, cPos, cDivW, f1, f2, fAbs, fInt, fLen, fMin2, fMax2, mSub, mIn, mLen, mScrIx, mScrLen, mIsi, fIsi, mTuple, mTupleP, mSl, mNoPart, mPart, sNext, sSeq, sAsg, sIf, sRet, sRetN, sDrop, sNever, sSetL, sPar, mYes, mgN, mgNil, mgCons, mgT, toD, toDn, asD, cD, retA, runF, kill, lookA, viewK, viewT, keyOf, ixN, atI0, atI1, atI2, atI3, isIn, mCall, renum, cellsOf, putBack, miSeq, still, miR1, miR2, wipeA, fEqI, fEqL, fEqT, fEqTT, h]
theorem gv_no {kv : List (Int × Int)} {x : Int} (h : ¬ hasK kv x = true) : gv kv x = 0 := by
  unfold gv
  unfold hasK at h
  cases e : getI kv x with
  | none => rfl
  | some v => rw [e] at h; exact absurd rfl h
theorem putI_cons (a : Int × Int) (r : List (Int × Int)) (x n : Int) (hn : ((a :: r).map (·.1)).Nodup) : putI (a :: r) x n = if a.1 = x then (a.1, n) :: r else a :: putI r x n := by
  have hn1 : a.1 ∉ r.map (·.1) := (List.nodup_cons.mp hn).1
  unfold putI
  by_cases h : a.1 = x
  · have e : r.map (fun p => if p.1 = x then (p.1, n) else p) = r := by
      rw [List.map_congr_left (g := id) fun p hp => ?_, List.map_id]
      have : p.1 ≠ x := fun z => hn1 (by rw [h, ← z]; exact List.mem_map.mpr ⟨p, hp, rfl⟩)
      simp [mVar, mC, mOp, mOpN, mUn, aNil, aCons, toDs, asDs, mCB, mTup, mLst, mIf, mTest, mAnd, mOr, mNot, mAndV, mOrV, mNotV, mChain, fI, fIc, fB, fU, fIx, fCatL, fCatT, fCatS, fAdd, orF, cPos, cDivW, f1, f2, fAbs, fInt, fLen, fMin2, fMax2, mSub, mIn, mLen, mScrIx, mScrLen, mIsi, fIsi, mTuple, mTupleP, mSl, mNoPart, mPart, sNext, sSeq, sAsg, sIf, sRet, sRetN, sDrop, sNever, sSetL, sPar, mYes, mgN, mgNil, mgCons, mgT, toD, toDn, asD, cD, retA, runF, kill, lookA, viewK, viewT, keyOf, ixN, atI0, atI1, atI2, atI3, isIn, mCall, renum, cellsOf, putBack, miSeq, still, miR1, miR2, wipeA, fEqI, fEqL, fEqT, fEqTT, this]
    simp [mVar, mC, mOp, mOpN, mUn, aNil, aCons, toDs, asDs, mCB, mTup, mLst, mIf, mTest, mAnd, mOr, mNot, mAndV, mOrV, mNotV, mChain, fI, fIc, fB, fU, fIx, fCatL, fCatT, fCatS, fAdd, orF, cPos, cDivW, f1, f2, fAbs, fInt, fLen, fMin2, fMax2, mSub, mIn, mLen, mScrIx, mScrLen, mIsi, fIsi, mTuple, mTupleP, mSl, mNoPart, mPart, sNext, sSeq, sAsg, sIf, sRet, sRetN, sDrop, sNever, sSetL, sPar, mYes, mgN, mgNil, mgCons, mgT, toD, toDn, asD, cD, retA, runF, kill, lookA, viewK, viewT, keyOf, ixN, atI0, atI1, atI2, atI3, isIn, mCall, renum, cellsOf, putBack, miSeq, still, miR1, miR2, wipeA, fEqI, fEqL, fEqT, fEqTT, h]
    exact e
  · simp only [List.any_cons, List.map_cons, h, decide_false, Bool.false_or, if_false]
    split <;> simp [mVar, mC, mOp, mOpN, mUn, aNil, aCons, toDs, asDs, mCB, mTup, mLst, mIf, mTest, mAnd, mOr, mNot, mAndV, mOrV, mNotV, mChain, fI, fIc, fB, fU, fIx, fCatL, fCatT, fCatS, fAdd, orF, cPos, cDivW, f1, f2, fAbs, fInt, fLen, fMin2, fMax2, mSub, mIn, mLen, mScrIx, mScrLen, mIsi, fIsi, mTuple, mTupleP, mSl, mNoPart, mPart, sNext, sSeq, sAsg, sIf, sRet, sRetN, sDrop, sNever, sSetL, sPar, mYes, mgN, mgNil, mgCons, mgT, toD, toDn, asD, cD, retA, runF, kill, lookA, viewK, viewT, keyOf, ixN, atI0, atI1, atI2, atI3, isIn, mCall, renum, cellsOf, putBack, miSeq, still, miR1, miR2, wipeA, fEqI, fEqL, fEqT, fEqTT]
theorem gv_put : ∀ (kv : List (Int × Int)) (x n y : Int), (kv.map (·.1)).Nodup → gv (putI kv x n) y = if y = x then n else gv kv y
  | [], x, n, y, _ => by
    show gv [(x, n)] y = _
    rw [gv_cons]
    by_cases h : x = y
    · simp [mVar, mC, mOp, mOpN, mUn, aNil, aCons, toDs, asDs, mCB, mTup, mLst, mIf, mTest, mAnd, mOr, mNot, mAndV, mOrV, mNotV, mChain, fI, fIc, fB, fU, fIx, fCatL, fCatT, fCatS, fAdd, orF, cPos, cDivW, f1, f2, fAbs, fInt, fLen, fMin2, fMax2, mSub, mIn, mLen, mScrIx, mScrLen, mIsi, fIsi, mTuple, mTupleP, mSl, mNoPart, mPart, sNext, sSeq, sAsg, sIf, sRet, sRetN, sDrop, sNever, sSetL, sPar, mYes, mgN, mgNil, mgCons, mgT, toD, toDn, asD, cD, retA, runF, kill, lookA, viewK, viewT, keyOf, ixN, atI0, atI1, atI2, atI3, isIn, mCall, renum, cellsOf, putBack, miSeq, still, miR1, miR2, wipeA, fEqI, fEqL, fEqT, fEqTT, h]
    · simp [mVar, mC, mOp, mOpN, mUn, aNil, aCons, toDs, asDs, mCB, mTup, mLst, mIf, mTest, mAnd, mOr, mNot, mAndV, mOrV, mNotV, mChain, fI, fIc, fB, fU, fIx, fCatL, fCatT, fCatS, fAdd, orF, cPos, cDivW, f1, f2, fAbs, fInt, fLen, fMin2, fMax2, mSub, mIn, mLen, mScrIx, mScrLen, mIsi, fIsi, mTuple, mTupleP, mSl, mNoPart, mPart, sNext, sSeq, sAsg, sIf, sRet, sRetN, sDrop, sNever, sSetL, sPar, mYes, mgN, mgNil, mgCons, mgT, toD, toDn, asD, cD, retA, runF, kill, lookA, viewK, viewT, keyOf, ixN, atI0, atI1, atI2, atI3, isIn, mCall, renum, cellsOf, putBack, miSeq, still, miR1, miR2, wipeA, fEqI, fEqL, fEqT, fEqTT, h, Ne.symm h, gv_nil]
  | a :: r, x, n, y, hn => by
    rw [putI_cons a r x n hn]
    have ih := gv_put r x n y (List.nodup_cons.mp hn).2
    by_cases h : a.1 = x
    · rw [if_pos h, gv_cons, gv_cons]
      by_cases h2 : a.1 = y
      · have : y = x := h2 ▸ h
        simp [mVar, mC, mOp, mOpN, mUn, aNil, aCons, toDs, asDs, mCB, mTup, mLst, mIf, mTest, mAnd, mOr, mNot, mAndV, mOrV, mNotV, mChain, fI, fIc, fB, fU, fIx, fCatL, fCatT, fCatS, fAdd, orF, cPos, cDivW, f1, f2, fAbs, fInt, fLen, fMin2, fMax2, mSub, mIn, mLen, mScrIx, mScrLen, mIsi, fIsi, mTuple, mTupleP, mSl, mNoPart, mPart, sNext, sSeq, sAsg, sIf, sRet, sRetN, sDrop, sNever, sSetL, sPar, mYes, mgN, mgNil, mgCons, mgT, toD, toDn, asD, cD, retA, runF, kill, lookA, viewK, viewT, keyOf, ixN, atI0, atI1, atI2, atI3, isIn, mCall, renum, cellsOf, putBack, miSeq, still, miR1, miR2, wipeA, fEqI, fEqL, fEqT, fEqTT, h2, this]
      · have : ¬ y = x := fun z => h2 (h.trans z.symm)
        simp [mVar, mC, mOp, mOpN, mUn, aNil, aCons, toDs, asDs, mCB, mTup, mLst, mIf, mTest, mAnd, mOr, mNot, mAndV, mOrV, mNotV, mChain, fI, fIc, fB, fU, fIx, fCatL, fCatT, fCatS, fAdd, orF, cPos, cDivW, f1, f2, fAbs, fInt, fLen, fMin2, fMax2, mSub, mIn, mLen, mScrIx, mScrLen, mIsi, fIsi, mTuple, mTupleP, mSl, mNoPart, mPart, sNext, sSeq, sAsg, sIf, sRet, sRetN, sDrop, sNever, sSetL, sPar, mYes, mgN, mgNil, mgCons, mgT, toD, toDn, asD, cD, retA, runF, kill, lookA, viewK, viewT, keyOf, ixN, atI0, atI1, atI2, atI3, isIn, mCall, renum, cellsOf, putBack, miSeq, still, miR1, miR2, wipeA, fEqI, fEqL, fEqT, fEqTT, h2, this]
    · rw [if_neg h, gv_cons, gv_cons, ih]
      by_cases h2 : a.1 = y
      · have : ¬ y = x := fun z => h (h2.trans z)
        simp [mVar, mC, mOp, mOpN, mUn, aNil, aCons, toDs, asDs, mCB, mTup, mLst, mIf, mTest, mAnd, mOr, mNot, mAndV, mOrV, mNotV, mChain, fI, fIc, fB, fU, fIx, fCatL, fCatT, fCatS, fAdd, orF, cPos, cDivW, f1, f2, fAbs, fInt, fLen, fMin2, fMax2, mSub, mIn, mLen, mScrIx, mScrLen, mIsi, fIsi, mTuple, mTupleP, mSl, mNoPart, mPart, sNext, sSeq, sAsg, sIf, sRet, sRetN, sDrop, sNever, sSetL, sPar, mYes, mgN, mgNil, mgCons, mgT, toD, toDn, asD, cD, retA, runF, kill, lookA, viewK, viewT, keyOf, ixN, atI0, atI1, atI2, atI3, isIn, mCall, renum, cellsOf, putBack, miSeq, still, miR1, miR2, wipeA, fEqI, fEqL, fEqT, fEqTT, h2, this]
      · simp [mVar, mC, mOp, mOpN, mUn, aNil, aCons, toDs, asDs, mCB, mTup, mLst, mIf, mTest, mAnd, mOr, mNot, mAndV, mOrV, mNotV, mChain, fI, fIc, fB, fU, fIx, fCatL, fCatT, fCatS, fAdd, orF, cPos, cDivW, f1, f2, fAbs, fInt, fLen, fMin2, fMax2, mSub, mIn, mLen, mScrIx, mScrLen, mIsi, fIsi, mTuple, mTupleP, mSl, mNoPart, mPart, sNext, sSeq, sAsg, sIf, sRet, sRetN, sDrop, sNever, sSetL, sPar, mYes, mgN, mgNil, mgCons, mgT, toD, toDn, asD, cD, retA, runF, kill, lookA, viewK, viewT, keyOf, ixN, atI0, atI1, atI2, atI3, isIn, mCall, renum, cellsOf, putBack, miSeq, still, miR1, miR2, wipeA, fEqI, fEqL, fEqT, fEqTT, h2]
theorem sum_put : ∀ (kv : List (Int × Int)) (x n : Int), (kv.map (·.1)).Nodup → sumV (putI kv x n) = sumV kv - gv kv x + n
  | [], x, n, _ => by simp [mVar, mC, mOp, mOpN, mUn, aNil, aCons, toDs, asDs, mCB, mTup, mLst, mIf, mTest, mAnd, mOr, mNot, mAndV, mOrV, mNotV, mChain, fI, fIc, fB, fU, fIx, fCatL, fCatT, fCatS, fAdd, orF, cPos, cDivW, f1, f2, fAbs, fInt, fLen, fMin2, fMax2, mSub, mIn, mLen, mScrIx, mScrLen, mIsi, fIsi, mTuple, mTupleP, mSl, mNoPart, mPart, sNext, sSeq, sAsg, sIf, sRet, sRetN, sDrop, sNever, sSetL, sPar, mYes, mgN, mgNil, mgCons, mgT, toD, toDn, asD, cD, retA, runF, kill, lookA, viewK, viewT, keyOf, ixN, atI0, atI1, atI2, atI3, isIn, mCall, renum, cellsOf, putBack, miSeq, still, miR1, miR2, wipeA, fEqI, fEqL, fEqT, fEqTT, putI, sumV, gv_nil]
  | a :: r, x, n, hn => by
    rw [putI_cons a r x n hn, gv_cons]
    have ih := sum_put r x n (List.nodup_cons.mp hn).2
    by_cases h : a.1 = x
    · simp [mVar, mC, mOp, mOpN, mUn, aNil, aCons, toDs, asDs, mCB, mTup, mLst, mIf, mTest, mAnd, mOr, mNot, mAndV, mOrV, mNotV, mChain, fI, fIc, fB, fU, fIx, fCatL, fCatT, fCatS, fAdd, orF, cPos, cDivW, f1, f2, fAbs, fInt, fLen, fMin2, fMax2, mSub, mIn, mLen, mScrIx, mScrLen, mIsi, fIsi, mTuple, mTupleP, mSl, mNoPart, mPart, sNext, sSeq, sAsg, sIf, sRet, sRetN, sDrop, sNever, sSetL, sPar, mYes, mgN, mgNil, mgCons, mgT, toD, toDn, asD, cD, retA, runF, kill, lookA, viewK, viewT, keyOf, ixN, atI0, atI1, atI2, atI3, isIn, mCall, renum, cellsOf, putBack, miSeq, still, miR1, miR2, wipeA, fEqI, fEqL, fEqT, fEqTT, h, sumV]; omega
    · simp only [h, if_false]
      simp only [sumV, List.map_cons, List.sum_cons] at ih ⊢
      omega
theorem dec1_cons (a : Int × Int) (r : List (Int × Int)) : dec1 (a :: r) = if 1 < a.2 then (a.1, a.2 - 1) :: dec1 r else dec1 r := by
  unfold dec1
  by_cases h : 1 < a.2 <;> simp [mVar, mC, mOp, mOpN, mUn, aNil, aCons, toDs, asDs, mCB, mTup, mLst, mIf, mTest, mAnd, mOr, mNot, mAndV, mOrV, mNotV, mChain, fI, fIc, fB, fU, fIx, fCatL, fCatT, fCatS, fAdd, orF, cPos, cDivW, f1, f2, fAbs, fInt, fLen, fMin2, fMax2, mSub, mIn, mLen, mScrIx, mScrLen, mIsi, fIsi, mTuple, mTupleP, mSl, mNoPart, mPart, sNext, sSeq, sAsg, sIf, sRet, sRetN, sDrop, sNever, sSetL, sPar, mYes, mgN, mgNil, mgCons, mgT, toD, toDn, asD, cD, retA, runF, kill, lookA, viewK, viewT, keyOf, ixN, atI0, atI1, atI2, atI3, isIn, mCall, renum, cellsOf, putBack, miSeq, still, miR1, miR2, wipeA, fEqI, fEqL, fEqT, fEqTT, h]
theorem gv_dec : ∀ (kv : List (Int × Int)) (y : Int), (kv.map (·.1)).Nodup → (∀ p ∈ kv, 1 ≤ p.2) → gv (dec1 kv) y = if hasK kv y = true then gv kv y - 1 else 0
  | [], y, _, _ => rfl
  | a :: r, y, hn, hv => by
    have ih := gv_dec r y (List.nodup_cons.mp hn).2 fun p hp => hv p (List.mem_cons_of_mem _ hp)
    have h1 := hv a List.mem_cons_self
    rw [dec1_cons, hasK_cons, gv_cons]
    by_cases h : a.1 = y
    · have hno : ¬ hasK r y = true := fun z => (List.nodup_cons.mp hn).1 (by show a.1 ∈ _; rw [h]; exact getI_isSome.mp z)
      rw [if_neg hno] at ih
      by_cases h2 : 1 < a.2
      · simp [mVar, mC, mOp, mOpN, mUn, aNil, aCons, toDs, asDs, mCB, mTup, mLst, mIf, mTest, mAnd, mOr, mNot, mAndV, mOrV, mNotV, mChain, fI, fIc, fB, fU, fIx, fCatL, fCatT, fCatS, fAdd, orF, cPos, cDivW, f1, f2, fAbs, fInt, fLen, fMin2, fMax2, mSub, mIn, mLen, mScrIx, mScrLen, mIsi, fIsi, mTuple, mTupleP, mSl, mNoPart, mPart, sNext, sSeq, sAsg, sIf, sRet, sRetN, sDrop, sNever, sSetL, sPar, mYes, mgN, mgNil, mgCons, mgT, toD, toDn, asD, cD, retA, runF, kill, lookA, viewK, viewT, keyOf, ixN, atI0, atI1, atI2, atI3, isIn, mCall, renum, cellsOf, putBack, miSeq, still, miR1, miR2, wipeA, fEqI, fEqL, fEqT, fEqTT, h, h2, gv_cons]
      · simp [mVar, mC, mOp, mOpN, mUn, aNil, aCons, toDs, asDs, mCB, mTup, mLst, mIf, mTest, mAnd, mOr, mNot, mAndV, mOrV, mNotV, mChain, fI, fIc, fB, fU, fIx, fCatL, fCatT, fCatS, fAdd, orF, cPos, cDivW, f1, f2, fAbs, fInt, fLen, fMin2, fMax2, mSub, mIn, mLen, mScrIx, mScrLen, mIsi, fIsi, mTuple, mTupleP, mSl, mNoPart, mPart, sNext, sSeq, sAsg, sIf, sRet, sRetN, sDrop, sNever, sSetL, sPar, mYes, mgN, mgNil, mgCons, mgT, toD, toDn, asD, cD, retA, runF, kill, lookA, viewK, viewT, keyOf, ixN, atI0, atI1, atI2, atI3, isIn, mCall, renum, cellsOf, putBack, miSeq, still, miR1, miR2, wipeA, fEqI, fEqL, fEqT, fEqTT, h, h2, ih]; omega
    · by_cases h2 : 1 < a.2
      · simp [mVar, mC, mOp, mOpN, mUn, aNil, aCons, toDs, asDs, mCB, mTup, mLst, mIf, mTest, mAnd, mOr, mNot, mAndV, mOrV, mNotV, mChain, fI, fIc, fB, fU, fIx, fCatL, fCatT, fCatS, fAdd, orF, cPos, cDivW, f1, f2, fAbs, fInt, fLen, fMin2, fMax2, mSub, mIn, mLen, mScrIx, mScrLen, mIsi, fIsi, mTuple, mTupleP, mSl, mNoPart, mPart, sNext, sSeq, sAsg, sIf, sRet, sRetN, sDrop, sNever, sSetL, sPar, mYes, mgN, mgNil, mgCons, mgT, toD, toDn, asD, cD, retA, runF, kill, lookA, viewK, viewT, keyOf, ixN, atI0, atI1, atI2, atI3, isIn, mCall, renum, cellsOf, putBack, miSeq, still, miR1, miR2, wipeA, fEqI, fEqL, fEqT, fEqTT, h, h2, gv_cons, ih]
      · simp [mVar, mC, mOp, mOpN, mUn, aNil, aCons, toDs, asDs, mCB, mTup, mLst, mIf, mTest, mAnd, mOr, mNot, mAndV, mOrV, mNotV, mChain, fI, fIc, fB, fU, fIx, fCatL, fCatT, fCatS, fAdd, orF, cPos, cDivW, f1, f2, fAbs, fInt, fLen, fMin2, fMax2, mSub, mIn, mLen, mScrIx, mScrLen, mIsi, fIsi, mTuple, mTupleP, mSl, mNoPart, mPart, sNext, sSeq, sAsg, sIf, sRet, sRetN, sDrop, sNever, sSetL, sPar, mYes, mgN, mgNil, mgCons, mgT, toD, toDn, asD, cD, retA, runF, kill, lookA, viewK, viewT, keyOf, ixN, atI0, atI1, atI2, atI3, isIn, mCall, renum, cellsOf, putBack, miSeq, still, miR1, miR2, wipeA, fEqI, fEqL, fEqT, fEqTT, h, h2, ih]
theorem sum_dec : ∀ (kv : List (Int × Int)), (∀ p ∈ kv, 1 ≤ p.2) → sumV (dec1 kv) = sumV kv - kv.length
  | [], _ => rfl
  | a :: r, hv => by
    have ih := sum_dec r fun p hp => hv p (List.mem_cons_of_mem _ hp)
    have h1 := hv a List.mem_cons_self
    rw [dec1_cons]
    simp only [sumV, List.map_cons, List.sum_cons, List.length_cons] at ih ⊢
    by_cases h2 : 1 < a.2
    · simp only [h2, if_true, List.map_cons, List.sum_cons]; omega
    · simp only [h2, if_false]; omega
structure MgI (c : Int) (kv : List (Int × Int)) (n : Int) (N : Int → Int) : Prop where
  nd : (kv.map (·.1)).Nodup
  len : (kv.length : Int) ≤ c
  pos : ∀ p ∈ kv, 1 ≤ p.2
  bd : ∃ t : Int, 0 ≤ t ∧ sumV kv + t * (c + 1) = n ∧ ∀ x, gv kv x ≤ N x ∧ N x ≤ gv kv x + t
theorem gv_nn {kv : List (Int × Int)} (h : ∀ p ∈ kv, 1 ≤ p.2) (x : Int) : 0 ≤ gv kv x := by
  induction kv with
  | nil => exact Int.le_refl _
  | cons a r ih =>
    rw [gv_cons]
    have := h a List.mem_cons_self
    have := ih fun p hp => h p (List.mem_cons_of_mem _ hp)
    split <;> omega
theorem gv_pos {kv : List (Int × Int)} (h : ∀ p ∈ kv, 1 ≤ p.2) {x : Int} (hx : hasK kv x = true) : 1 ≤ gv kv x := by
  induction kv with
  | nil => cases hx
  | cons a r ih =>
    rw [gv_cons]
    rw [hasK_cons] at hx
    have := h a List.mem_cons_self
    by_cases e : a.1 = x
    · simp [mVar, mC, mOp, mOpN, mUn, aNil, aCons, toDs, asDs, mCB, mTup, mLst, mIf, mTest, mAnd, mOr, mNot, mAndV, mOrV, mNotV, mChain, fI, fIc, fB, fU, fIx, fCatL, fCatT, fCatS, fAdd, orF, cPos, cDivW, f1, f2, fAbs, fInt, fLen, fMin2, fMax2, mSub, mIn, mLen, mScrIx, mScrLen, mIsi, fIsi, mTuple, mTupleP, mSl, mNoPart, mPart, sNext, sSeq, sAsg, sIf, sRet, sRetN, sDrop, sNever, sSetL, sPar, mYes, mgN, mgNil, mgCons, mgT, toD, toDn, asD, cD, retA, runF, kill, lookA, viewK, viewT, keyOf, ixN, atI0, atI1, atI2, atI3, isIn, mCall, renum, cellsOf, putBack, miSeq, still, miR1, miR2, wipeA, fEqI, fEqL, fEqT, fEqTT, e]; omega
    · simp only [e, decide_false, Bool.false_or, if_false] at hx ⊢
      exact ih (fun p hp => h p (List.mem_cons_of_mem _ hp)) hx
theorem putI_pos {kv : List (Int × Int)} {x n : Int} (h : ∀ p ∈ kv, 1 ≤ p.2) (hn : 1 ≤ n) : ∀ p ∈ putI kv x n, 1 ≤ p.2 := by
  intro p hp
  unfold putI at hp
  split at hp
  · obtain ⟨q, hq, rfl⟩ := List.mem_map.mp hp
    split
    · exact hn
    · exact h q hq
  · rcases List.mem_append.mp hp with hp | hp
    · exact h p hp
    · rw [List.mem_singleton.mp hp]; exact hn
theorem dec1_pos {kv : List (Int × Int)} : ∀ p ∈ dec1 kv, 1 ≤ p.2 := by
  intro p hp
  unfold dec1 at hp
  obtain ⟨q, hq, rfl⟩ := List.mem_map.mp hp
  have := of_decide_eq_true (List.mem_filter.mp hq).2
  show 1 ≤ q.2 - 1
  omega
theorem MgI.step {c : Int} {kv : List (Int × Int)} {n : Int} {N : Int → Int} (hc : 0 ≤ c) (I : MgI c kv n N) (x : Int) : MgI c (mgS c kv x) (n + 1) (fun y => N y + if x = y then 1 else 0) := by
  obtain ⟨g1, g2⟩ := mgS_inv x I.nd I.len hc
  obtain ⟨t, t0, t1, t2⟩ := I.bd
  refine ⟨g1, g2, ?_, ?_⟩
  · unfold mgS
    split
    · have := gv_nn I.pos x
      unfold gv at this
      exact putI_pos I.pos (by omega)
    · exact dec1_pos
  · unfold mgS
    split
    · refine ⟨t, t0, ?_, fun y => ?_⟩
      · rw [sum_put _ _ _ I.nd]
        show sumV kv - gv kv x + (gv kv x + 1) + t * (c + 1) = n + 1
        omega
      · rw [gv_put _ _ _ _ I.nd]
        have := t2 y
        by_cases h : x = y
        · subst h
          simp only [if_true]
          show gv kv x + 1 ≤ N x + 1 ∧ N x + 1 ≤ gv kv x + 1 + t
          omega
        · have h' : ¬ y = x := fun z => h z.symm
          simp only [h, h', if_false]
          omega
    · rename_i hno
      have hno1 : ¬ hasK kv x = true := fun z => hno (.inl z)
      have hlen : (kv.length : Int) = c := by
        have := I.len
        have : ¬ (kv.length : Int) < c := fun z => hno (.inr z)
        omega
      refine ⟨t + 1, by omega, ?_, fun y => ?_⟩
      · rw [sum_dec _ I.pos, Int.add_mul]
        omega
      · rw [gv_dec _ _ I.nd I.pos]
        have := t2 y
        by_cases h : hasK kv y = true
        · have hxy : ¬ x = y := fun z => hno1 (z ▸ h)
          simp only [h, hxy, if_true, if_false]
          omega
        · have := gv_no h
          rw [if_neg h]
          split <;> omega
theorem cnt_cons (a : Int) (r : List Int) (y : Int) : cnt (a :: r) y = (if a = y then 1 else 0) + cnt r y := by
  unfold cnt
  by_cases h : a = y
  · simp [mVar, mC, mOp, mOpN, mUn, aNil, aCons, toDs, asDs, mCB, mTup, mLst, mIf, mTest, mAnd, mOr, mNot, mAndV, mOrV, mNotV, mChain, fI, fIc, fB, fU, fIx, fCatL, fCatT, fCatS, fAdd, orF, cPos, cDivW, f1, f2, fAbs, fInt, fLen, fMin2, fMax2, mSub, mIn, mLen, mScrIx, mScrLen, mIsi, fIsi, mTuple, mTupleP, mSl, mNoPart, mPart, sNext, sSeq, sAsg, sIf, sRet, sRetN, sDrop, sNever, sSetL, sPar, mYes, mgN, mgNil, mgCons, mgT, toD, toDn, asD, cD, retA, runF, kill, lookA, viewK, viewT, keyOf, ixN, atI0, atI1, atI2, atI3, isIn, mCall, renum, cellsOf, putBack, miSeq, still, miR1, miR2, wipeA, fEqI, fEqL, fEqT, fEqTT, h]; omega
  · simp [mVar, mC, mOp, mOpN, mUn, aNil, aCons, toDs, asDs, mCB, mTup, mLst, mIf, mTest, mAnd, mOr, mNot, mAndV, mOrV, mNotV, mChain, fI, fIc, fB, fU, fIx, fCatL, fCatT, fCatS, fAdd, orF, cPos, cDivW, f1, f2, fAbs, fInt, fLen, fMin2, fMax2, mSub, mIn, mLen, mScrIx, mScrLen, mIsi, fIsi, mTuple, mTupleP, mSl, mNoPart, mPart, sNext, sSeq, sAsg, sIf, sRet, sRetN, sDrop, sNever, sSetL, sPar, mYes, mgN, mgNil, mgCons, mgT, toD, toDn, asD, cD, retA, runF, kill, lookA, viewK, viewT, keyOf, ixN, atI0, atI1, atI2, atI3, isIn, mCall, renum, cellsOf, putBack, miSeq, still, miR1, miR2, wipeA, fEqI, fEqL, fEqT, fEqTT, h]
theorem MgI.fold {c : Int} (hc : 0 ≤ c) : ∀ (row : List Int) {kv : List (Int × Int)} {n : Int} {N : Int → Int}, MgI c kv n N → MgI c (row.foldl (mgS c) kv) (n + row.length) (fun y => N y + cnt row y)
  | [], kv, n, N, I => by
    have e : (fun y => N y + cnt [] y) = N := by funext y; simp [mVar, mC, mOp, mOpN, mUn, aNil, aCons, toDs, asDs, mCB, mTup, mLst, mIf, mTest, mAnd, mOr, mNot, mAndV, mOrV, mNotV, mChain, fI, fIc, fB, fU, fIx, fCatL, fCatT, fCatS, fAdd, orF, cPos, cDivW, f1, f2, fAbs, fInt, fLen, fMin2, fMax2, mSub, mIn, mLen, mScrIx, mScrLen, mIsi, fIsi, mTuple, mTupleP, mSl, mNoPart, mPart, sNext, sSeq, sAsg, sIf, sRet, sRetN, sDrop, sNever, sSetL, sPar, mYes, mgN, mgNil, mgCons, mgT, toD, toDn, asD, cD, retA, runF, kill, lookA, viewK, viewT, keyOf, ixN, atI0, atI1, atI2, atI3, isIn, mCall, renum, cellsOf, putBack, miSeq, still, miR1, miR2, wipeA, fEqI, fEqL, fEqT, fEqTT, cnt]
    rw [e]
    simpa [mVar, mC, mOp, mOpN, mUn, aNil, aCons, toDs, asDs, mCB, mTup, mLst, mIf, mTest, mAnd, mOr, mNot, mAndV, mOrV, mNotV, mChain, fI, fIc, fB, fU, fIx, fCatL, fCatT, fCatS, fAdd, orF, cPos, cDivW, f1, f2, fAbs, fInt, fLen, fMin2, fMax2, mSub, mIn, mLen, mScrIx, mScrLen, mIsi, fIsi, mTuple, mTupleP, mSl, mNoPart, mPart, sNext, sSeq, sAsg, sIf, sRet, sRetN, sDrop, sNever, sSetL, sPar, mYes, mgN, mgNil, mgCons, mgT, toD, toDn, asD, cD, retA, runF, kill, lookA, viewK, viewT, keyOf, ixN, atI0, atI1, atI2, atI3, isIn, mCall, renum, cellsOf, putBack, miSeq, still, miR1, miR2, wipeA, fEqI, fEqL, fEqT, fEqTT] using I
  | a :: r, kv, n, N, I => by
    have ih := MgI.fold hc r (I.step hc a)
    have e : (fun y => N y + (if a = y then 1 else 0) + cnt r y) = fun y => N y + cnt (a :: r) y := by funext y; rw [cnt_cons]; omega
    rw [e] at ih
    have e2 : n + 1 + (r.length : Int) = n + ((a :: r).length : Int) := by simp only [List.length_cons]; omega
    rw [e2] at ih
    exact ih
theorem mg_ok {c : Int} (hc : 0 ≤ c) (row : List Int) : MgI c (mgR c row) row.length (cnt row) := by
  have h := MgI.fold hc row (kv := []) (n := 0) (N := fun _ => 0) ⟨by simp [mVar, mC, mOp, mOpN, mUn, aNil, aCons, toDs, asDs, mCB, mTup, mLst, mIf, mTest, mAnd, mOr, mNot, mAndV, mOrV, mNotV, mChain, fI, fIc, fB, fU, fIx, fCatL, fCatT, fCatS, fAdd, orF, cPos, cDivW, f1, f2, fAbs, fInt, fLen, fMin2, fMax2, mSub, mIn, mLen, mScrIx, mScrLen, mIsi, fIsi, mTuple, mTupleP, mSl, mNoPart, mPart, sNext, sSeq, sAsg, sIf, sRet, sRetN, sDrop, sNever, sSetL, sPar, mYes, mgN, mgNil, mgCons, mgT, toD, toDn, asD, cD, retA, runF, kill, lookA, viewK, viewT, keyOf, ixN, atI0, atI1, atI2, atI3, isIn, mCall, renum, cellsOf, putBack, miSeq, still, miR1, miR2, wipeA, fEqI, fEqL, fEqT, fEqTT], by simpa [mVar, mC, mOp, mOpN, mUn, aNil, aCons, toDs, asDs, mCB, mTup, mLst, mIf, mTest, mAnd, mOr, mNot, mAndV, mOrV, mNotV, mChain, fI, fIc, fB, fU, fIx, fCatL, fCatT, fCatS, fAdd, orF, cPos, cDivW, f1, f2, fAbs, fInt, fLen, fMin2, fMax2, mSub, mIn, mLen, mScrIx, mScrLen, mIsi, fIsi, mTuple, mTupleP, mSl, mNoPart, mPart, sNext, sSeq, sAsg, sIf, sRet, sRetN, sDrop, sNever, sSetL, sPar, mYes, mgN, mgNil, mgCons, mgT, toD, toDn, asD, cD, retA, runF, kill, lookA, viewK, viewT, keyOf, ixN, atI0, atI1, atI2, atI3, isIn, mCall, renum, cellsOf, putBack, miSeq, still, miR1, miR2, wipeA, fEqI, fEqL, fEqT, fEqTT] using hc, by simp [mVar, mC, mOp, mOpN, mUn, aNil, aCons, toDs, asDs, mCB, mTup, mLst, mIf, mTest, mAnd, mOr, mNot, mAndV, mOrV, mNotV, mChain, fI, fIc, fB, fU, fIx, fCatL, fCatT, fCatS, fAdd, orF, cPos, cDivW, f1, f2, fAbs, fInt, fLen, fMin2, fMax2, mSub, mIn, mLen, mScrIx, mScrLen, mIsi, fIsi, mTuple, mTupleP, mSl, mNoPart, mPart, sNext, sSeq, sAsg, sIf, sRet, sRetN, sDrop, sNever, sSetL, sPar, mYes, mgN, mgNil, mgCons, mgT, toD, toDn, asD, cD, retA, runF, kill, lookA, viewK, viewT, keyOf, ixN, atI0, atI1, atI2, atI3, isIn, mCall, renum, cellsOf, putBack, miSeq, still, miR1, miR2, wipeA, fEqI, fEqL, fEqT, fEqTT], 0, Int.le_refl _, by simp [mVar, mC, mOp, mOpN, mUn, aNil, aCons, toDs, asDs, mCB, mTup, mLst, mIf, mTest, mAnd, mOr, mNot, mAndV, mOrV, mNotV, mChain, fI, fIc, fB, fU, fIx, fCatL, fCatT, fCatS, fAdd, orF, cPos, cDivW, f1, f2, fAbs, fInt, fLen, fMin2, fMax2, mSub, mIn, mLen, mScrIx, mScrLen, mIsi, fIsi, mTuple, mTupleP, mSl, mNoPart, mPart, sNext, sSeq, sAsg, sIf, sRet, sRetN, sDrop, sNever, sSetL, sPar, mYes, mgN, mgNil, mgCons, mgT, toD, toDn, asD, cD, retA, runF, kill, lookA, viewK, viewT, keyOf, ixN, atI0, atI1, atI2, atI3, isIn, mCall, renum, cellsOf, putBack, miSeq, still, miR1, miR2, wipeA, fEqI, fEqL, fEqT, fEqTT, sumV], fun x => by simp [mVar, mC, mOp, mOpN, mUn, aNil, aCons, toDs, asDs, mCB, mTup, mLst, mIf, mTest, mAnd, mOr, mNot, mAndV, mOrV, mNotV, mChain, fI, fIc, fB, fU, fIx, fCatL, fCatT, fCatS, fAdd, orF, cPos, cDivW, f1, f2, fAbs, fInt, fLen, fMin2, fMax2, mSub, mIn, mLen, mScrIx, mScrLen, mIsi, fIsi, mTuple, mTupleP, mSl, mNoPart, mPart, sNext, sSeq, sAsg, sIf, sRet, sRetN, sDrop, sNever, sSetL, sPar, mYes, mgN, mgNil, mgCons, mgT, toD, toDn, asD, cD, retA, runF, kill, lookA, viewK, viewT, keyOf, ixN, atI0, atI1, atI2, atI3, isIn, mCall, renum, cellsOf, putBack, miSeq, still, miR1, miR2, wipeA, fEqI, fEqL, fEqT, fEqTT, gv_nil]⟩
  simpa [mVar, mC, mOp, mOpN, mUn, aNil, aCons, toDs, asDs, mCB, mTup, mLst, mIf, mTest, mAnd, mOr, mNot, mAndV, mOrV, mNotV, mChain, fI, fIc, fB, fU, fIx, fCatL, fCatT, fCatS, fAdd, orF, cPos, cDivW, f1, f2, fAbs, fInt, fLen, fMin2, fMax2, mSub, mIn, mLen, mScrIx, mScrLen, mIsi, fIsi, mTuple, mTupleP, mSl, mNoPart, mPart, sNext, sSeq, sAsg, sIf, sRet, sRetN, sDrop, sNever, sSetL, sPar, mYes, mgN, mgNil, mgCons, mgT, toD, toDn, asD, cD, retA, runF, kill, lookA, viewK, viewT, keyOf, ixN, atI0, atI1, atI2, atI3, isIn, mCall, renum, cellsOf, putBack, miSeq, still, miR1, miR2, wipeA, fEqI, fEqL, fEqT, fEqTT] using h
/-! ### sorted pairs as a dict -/
theorem perm_nodup {a b : List (Int × Int)} (p : a.Perm b) (h : (b.map (·.1)).Nodup) : (a.map (·.1)).Nodup := ((p.map (·.1)).nodup_iff).mpr h
theorem getI_mem {kv : List (Int × Int)} (h : (kv.map (·.1)).Nodup) {x v : Int} : getI kv x = some v ↔ (x, v) ∈ kv := by
  induction kv with
  | nil => simp [mVar, mC, mOp, mOpN, mUn, aNil, aCons, toDs, asDs, mCB, mTup, mLst, mIf, mTest, mAnd, mOr, mNot, mAndV, mOrV, mNotV, mChain, fI, fIc, fB, fU, fIx, fCatL, fCatT, fCatS, fAdd, orF, cPos, cDivW, f1, f2, fAbs, fInt, fLen, fMin2, fMax2, mSub, mIn, mLen, mScrIx, mScrLen, mIsi, fIsi, mTuple, mTupleP, mSl, mNoPart, mPart, sNext, sSeq, sAsg, sIf, sRet, sRetN, sDrop, sNever, sSetL, sPar, mYes, mgN, mgNil, mgCons, mgT, toD, toDn, asD, cD, retA, runF, kill, lookA, viewK, viewT, keyOf, ixN, atI0, atI1, atI2, atI3, isIn, mCall, renum, cellsOf, putBack, miSeq, still, miR1, miR2, wipeA, fEqI, fEqL, fEqT, fEqTT, getI_nil]
  | cons a r ih =>
    have ih := ih (List.nodup_cons.mp h).2
    have h1 := (List.nodup_cons.mp h).1
    rw [getI_cons]
    by_cases e : a.1 = x
    · rw [if_pos e, List.mem_cons]
      refine ⟨fun z => .inl (by cases z; rw [← e]), fun z => z.elim (fun z => by rw [← z]) fun z => absurd (show a.1 ∈ r.map (·.1) by rw [e]; exact List.mem_map.mpr ⟨_, z, rfl⟩) h1⟩
    · rw [if_neg e, ih, List.mem_cons]
      exact ⟨.inr, fun z => z.elim (fun z => absurd (by rw [← z]) e) id⟩
theorem getI_perm {a b : List (Int × Int)} (p : a.Perm b) (h : (b.map (·.1)).Nodup) (x : Int) : getI a x = getI b x := by
  have ha := perm_nodup p h
  cases e : getI b x with
  | some v => exact (getI_mem ha).mpr (p.mem_iff.mpr ((getI_mem h).mp e))
  | none =>
    cases e2 : getI a x with
    | none => rfl
    | some v => rw [(getI_mem h).mpr (p.mem_iff.mp ((getI_mem ha).mp e2))] at e; cases e
theorem sum_perm {a b : List Int} (p : a.Perm b) : a.sum = b.sum := by
  induction p with
  | nil => rfl
  | cons x _ ih => simp [mVar, mC, mOp, mOpN, mUn, aNil, aCons, toDs, asDs, mCB, mTup, mLst, mIf, mTest, mAnd, mOr, mNot, mAndV, mOrV, mNotV, mChain, fI, fIc, fB, fU, fIx, fCatL, fCatT, fCatS, fAdd, orF, cPos, cDivW, f1, f2, fAbs, fInt, fLen, fMin2, fMax2, mSub, mIn, mLen, mScrIx, mScrLen, mIsi, fIsi, mTuple, mTupleP, mSl, mNoPart, mPart, sNext, sSeq, sAsg, sIf, sRet, sRetN, sDrop, sNever, sSetL, sPar, mYes, mgN, mgNil, mgCons, mgT, toD, toDn, asD, cD, retA, runF, kill, lookA, viewK, viewT, keyOf, ixN, atI0, atI1, atI2, atI3, isIn, mCall, renum, cellsOf, putBack, miSeq, still, miR1, miR2, wipeA, fEqI, fEqL, fEqT, fEqTT, ih]
  | swap x y l => simp only [List.sum_cons]; omega
  | trans _ _ h1 h2 => exact h1.trans h2
theorem sumV_perm {a b : List (Int × Int)} (p : a.Perm b) : sumV a = sumV b := sum_perm (p.map (·.2))
theorem pairs_pD : ∀ l : List (Int × Int), pairsOf (l.map pD) = some (l.map ikD)
  | [] => rfl
  | a :: r => by simp [mVar, mC, mOp, mOpN, mUn, aNil, aCons, toDs, asDs, mCB, mTup, mLst, mIf, mTest, mAnd, mOr, mNot, mAndV, mOrV, mNotV, mChain, fI, fIc, fB, fU, fIx, fCatL, fCatT, fCatS, fAdd, orF, cPos, cDivW, f1, f2, fAbs, fInt, fLen, fMin2, fMax2, mSub, mIn, mLen, mScrIx, mScrLen, mIsi, fIsi, mTuple, mTupleP, mSl, mNoPart, mPart, sNext, sSeq, sAsg, sIf, sRet, sRetN, sDrop, sNever, sSetL, sPar, mYes, mgN, mgNil, mgCons, mgT, toD, toDn, asD, cD, retA, runF, kill, lookA, viewK, viewT, keyOf, ixN, atI0, atI1, atI2, atI3, isIn, mCall, renum, cellsOf, putBack, miSeq, still, miR1, miR2, wipeA, fEqI, fEqL, fEqT, fEqTT, pD, pairsOf, keyOf, pairs_pD r, ikD]
theorem merge_ik {kv : List (Int × Int)} (h : (kv.map (·.1)).Nodup) : mergeD [] (kv.map ikD) = kv.map ikD := by
  rw [merge_nodup]
  · rfl
  · rw [List.nil_append, List.map_map]
    have h2 : ((kv.map fun x : Int × Int => x.1).map (Sum.inl : Int → Key)).Nodup := List.Pairwise.map _ (fun a b h e => h (Sum.inl.inj e)) h
    rw [List.map_map] at h2
    exact h2
/-- the counters, sorted -/
def srt (c : Int) (row : List Int) : List (Int × Int) := isortP (mgR c row)
theorem srt_nd {c : Int} (hc : 0 ≤ c) (row : List Int) : ((srt c row).map (·.1)).Nodup := perm_nodup (isortP_perm _) (mg_ok hc row).nd
theorem srt_get {c : Int} (hc : 0 ≤ c) (row : List Int) (x : Int) : getI (srt c row) x = getI (mgR c row) x := getI_perm (isortP_perm _) (mg_ok hc row).nd x
theorem srt_ok {c : Int} (hc : 0 ≤ c) (row : List Int) : MgI c (srt c row) row.length (cnt row) := by
  have h := mg_ok hc row
  obtain ⟨t, t0, t1, t2⟩ := h.bd
  refine ⟨srt_nd hc row, ?_, fun p hp => h.pos p ((isortP_perm _).mem_iff.mp hp), t, t0, ?_, fun x => ?_⟩
  · unfold srt; rw [(isortP_perm _).length_eq]; exact h.len
  · unfold srt; rw [sumV_perm (isortP_perm _)]; exact t1
  · unfold gv
    rw [srt_get hc]
    exact t2 x
end Rf

namespace Rf
open PySem L2
theorem cnt_eq (row : List Int) (y : Int) : ((row.filter fun x => decide (x = y)).length : Int) = cnt row y := rfl
def numF (k : Nat) (row : List Int) : List Int := (List.range k).map fun (y : Nat) => cnt row y
theorem numbers_ok (row : List Int) (k : Nat) (hk : k ≤ 1000) : M__law_numbers [.dat (iT row), .dat (.int k)] [] = some (.dat (iT (numF k row)), []) := by
  have hk2 : (k : Int) ≤ 16777216 := by omega
  have hk3 : -1000000 ≤ (k : Int) := by omega
  have h2 : L__law_numbers_2 [some (.dat (iT row)), some (.dat (.int k)), none, none] [] = some (.new (.lst ((List.range k).map fun (y : Nat) => .int (cnt row y))), []) :=
    mLc_map (fun (i : Nat) => PyData.int i) _ (List.range k) (by simp [mVar, mC, mOp, mOpN, mUn, aNil, aCons, toDs, asDs, mCB, mTup, mLst, mIf, mTest, mAnd, mOr, mNot, mAndV, mOrV, mNotV, mChain, fI, fIc, fB, fU, fIx, fCatL, fCatT, fCatS, fAdd, orF, cPos, cDivW, f1, f2, fAbs, fInt, fLen, fMin2, fMax2, mSub, mIn, mLen, mScrIx, mScrLen, mIsi, fIsi, mTuple, mTupleP, mSl, mNoPart, mPart, sNext, sSeq, sAsg, sIf, sRet, sRetN, sDrop, sNever, sSetL, sPar, mYes, mgN, mgNil, mgCons, mgT, toD, toDn, asD, cD, retA, runF, kill, lookA, viewK, viewT, keyOf, ixN, atI0, atI1, atI2, atI3, isIn, mCall, renum, cellsOf, putBack, miSeq, still, miR1, miR2, wipeA, fEqI, fEqL, fEqT, fEqTT, rng0, hk2, hk3]) fun y hy => ⟨_, rfl, rfl, .dat (.int (cnt row y)), by
      have h1 : L__law_numbers_1 [some (.dat (iT row)), some (.dat (.int k)), none, some (.dat (.int y))] [] = some (.new (.lst ((row.filter fun x => decide (x = (y : Int))).map .int)), []) :=
        mLc_filt .int _ _ row (by simp [mVar, mC, mOp, mOpN, mUn, aNil, aCons, toDs, asDs, mCB, mTup, mLst, mIf, mTest, mAnd, mOr, mNot, mAndV, mOrV, mNotV, mChain, fI, fIc, fB, fU, fIx, fCatL, fCatT, fCatS, fAdd, orF, cPos, cDivW, f1, f2, fAbs, fInt, fLen, fMin2, fMax2, mSub, mIn, mLen, mScrIx, mScrLen, mIsi, fIsi, mTuple, mTupleP, mSl, mNoPart, mPart, sNext, sSeq, sAsg, sIf, sRet, sRetN, sDrop, sNever, sSetL, sPar, mYes, mgN, mgNil, mgCons, mgT, toD, toDn, asD, cD, retA, runF, kill, lookA, viewK, viewT, keyOf, ixN, atI0, atI1, atI2, atI3, isIn, mCall, renum, cellsOf, putBack, miSeq, still, miR1, miR2, wipeA, fEqI, fEqL, fEqT, fEqTT]) fun x hx => ⟨_, rfl, by simp [mVar, mC, mOp, mOpN, mUn, aNil, aCons, toDs, asDs, mCB, mTup, mLst, mIf, mTest, mAnd, mOr, mNot, mAndV, mOrV, mNotV, mChain, fI, fIc, fB, fU, fIx, fCatL, fCatT, fCatS, fAdd, orF, cPos, cDivW, f1, f2, fAbs, fInt, fLen, fMin2, fMax2, mSub, mIn, mLen, mScrIx, mScrLen, mIsi, fIsi, mTuple, mTupleP, mSl, mNoPart, mPart, sNext, sSeq, sAsg, sIf, sRet, sRetN, sDrop, sNever, sSetL, sPar, mYes, mgN, mgNil, mgCons, mgT, toD, toDn, asD, cD, retA, runF, kill, lookA, viewK, viewT, keyOf, ixN, atI0, atI1, atI2, atI3, isIn, mCall, renum, cellsOf, putBack, miSeq, still, miR1, miR2, wipeA, fEqI, fEqL, fEqT, fEqTT], fun _ => ⟨_, rfl, rfl⟩⟩
      simp [mVar, mC, mOp, mOpN, mUn, aNil, aCons, toDs, asDs, mCB, mTup, mLst, mIf, mTest, mAnd, mOr, mNot, mAndV, mOrV, mNotV, mChain, fI, fIc, fB, fU, fIx, fCatL, fCatT, fCatS, fAdd, orF, cPos, cDivW, f1, f2, fAbs, fInt, fLen, fMin2, fMax2, mSub, mIn, mLen, mScrIx, mScrLen, mIsi, fIsi, mTuple, mTupleP, mSl, mNoPart, mPart, sNext, sSeq, sAsg, sIf, sRet, sRetN, sDrop, sNever, sSetL, sPar, mYes, mgN, mgNil, mgCons, mgT, toD, toDn, asD, cD, retA, runF, kill, lookA, viewK, viewT, keyOf, ixN, atI0, atI1, atI2, atI3, isIn, mCall, renum, cellsOf, putBack, miSeq, still, miR1, miR2, wipeA, fEqI, fEqL, fEqT, fEqTT, h1, cnt_eq], rfl⟩
  unfold M__law_numbers B__law_numbers
  simp [mVar, mC, mOp, mOpN, mUn, aNil, aCons, toDs, asDs, mCB, mTup, mLst, mIf, mTest, mAnd, mOr, mNot, mAndV, mOrV, mNotV, mChain, fI, fIc, fB, fU, fIx, fCatL, fCatT, fCatS, fAdd, orF, cPos, cDivW, f1, f2, fAbs, fInt, fLen, fMin2, fMax2, mSub, mIn, mLen, mScrIx, mScrLen, mIsi, fIsi, mTuple, mTupleP, mSl, mNoPart, mPart, sNext, sSeq, sAsg, sIf, sRet, sRetN, sDrop, sNever, sSetL, sPar, mYes, mgN, mgNil, mgCons, mgT, toD, toDn, asD, cD, retA, runF, kill, lookA, viewK, viewT, keyOf, ixN, atI0, atI1, atI2, atI3, isIn, mCall, renum, cellsOf, putBack, miSeq, still, miR1, miR2, wipeA, fEqI, fEqL, fEqT, fEqTT, h2, numF]
/-! ### keys that are rows -/
abbrev fD (k : List Int) : List Key × D := (k.map Sum.inl, .bool true)
def insF (F : List (List Int)) (k : List Int) : List (List Int) := if k ∈ F then F else F ++ [k]
theorem inl_inj : ∀ {a b : List Int}, (a.map (Sum.inl : Int → Key)) = b.map Sum.inl → a = b
  | [], [], _ => rfl
  | [], _ :: _, h => by cases h
  | _ :: _, [], h => by cases h
  | x :: a, y :: b, h => by
    simp only [List.map_cons, List.cons.injEq] at h
    rw [Sum.inl.inj h.1, inl_inj h.2]
theorem put_fD (F : List (List Int)) (k : List Int) : put (F.map fD) (k.map Sum.inl) (.bool true) = (insF F k).map fD := by
  unfold put insF
  have e : ((F.map fD).any fun p => decide (p.1 = k.map Sum.inl)) = decide (k ∈ F) := by
    rw [Bool.eq_iff_iff, List.any_eq_true, decide_eq_true_iff]
    constructor
    · rintro ⟨p, hp, e⟩
      obtain ⟨q, hq, rfl⟩ := List.mem_map.mp hp
      rw [← inl_inj (of_decide_eq_true e)]
      exact hq
    · exact fun h => ⟨fD k, List.mem_map.mpr ⟨k, h, rfl⟩, by simp [mVar, mC, mOp, mOpN, mUn, aNil, aCons, toDs, asDs, mCB, mTup, mLst, mIf, mTest, mAnd, mOr, mNot, mAndV, mOrV, mNotV, mChain, fI, fIc, fB, fU, fIx, fCatL, fCatT, fCatS, fAdd, orF, cPos, cDivW, f1, f2, fAbs, fInt, fLen, fMin2, fMax2, mSub, mIn, mLen, mScrIx, mScrLen, mIsi, fIsi, mTuple, mTupleP, mSl, mNoPart, mPart, sNext, sSeq, sAsg, sIf, sRet, sRetN, sDrop, sNever, sSetL, sPar, mYes, mgN, mgNil, mgCons, mgT, toD, toDn, asD, cD, retA, runF, kill, lookA, viewK, viewT, keyOf, ixN, atI0, atI1, atI2, atI3, isIn, mCall, renum, cellsOf, putBack, miSeq, still, miR1, miR2, wipeA, fEqI, fEqL, fEqT, fEqTT]⟩
  rw [e]
  by_cases h : k ∈ F
  · simp only [h, decide_true, if_true]
    rw [List.map_map]
    refine List.map_congr_left fun q _ => ?_
    simp only [Function.comp]
    split <;> rfl
  · simp [mVar, mC, mOp, mOpN, mUn, aNil, aCons, toDs, asDs, mCB, mTup, mLst, mIf, mTest, mAnd, mOr, mNot, mAndV, mOrV, mNotV, mChain, fI, fIc, fB, fU, fIx, fCatL, fCatT, fCatS, fAdd, orF, cPos, cDivW, f1, f2, fAbs, fInt, fLen, fMin2, fMax2, mSub, mIn, mLen, mScrIx, mScrLen, mIsi, fIsi, mTuple, mTupleP, mSl, mNoPart, mPart, sNext, sSeq, sAsg, sIf, sRet, sRetN, sDrop, sNever, sSetL, sPar, mYes, mgN, mgNil, mgCons, mgT, toD, toDn, asD, cD, retA, runF, kill, lookA, viewK, viewT, keyOf, ixN, atI0, atI1, atI2, atI3, isIn, mCall, renum, cellsOf, putBack, miSeq, still, miR1, miR2, wipeA, fEqI, fEqL, fEqT, fEqTT, h]
theorem look_fD (F : List (List Int)) (k : List Int) : (look (F.map fD) (k.map Sum.inl)).isSome = decide (k ∈ F) := by
  unfold look
  rw [Option.isSome_map, Bool.eq_iff_iff, List.find?_isSome, decide_eq_true_iff]
  constructor
  · rintro ⟨p, hp, e⟩
    obtain ⟨q, hq, rfl⟩ := List.mem_map.mp hp
    rw [← inl_inj (of_decide_eq_true e)]
    exact hq
  · exact fun h => ⟨fD k, List.mem_map.mpr ⟨k, h, rfl⟩, by simp [mVar, mC, mOp, mOpN, mUn, aNil, aCons, toDs, asDs, mCB, mTup, mLst, mIf, mTest, mAnd, mOr, mNot, mAndV, mOrV, mNotV, mChain, fI, fIc, fB, fU, fIx, fCatL, fCatT, fCatS, fAdd, orF, cPos, cDivW, f1, f2, fAbs, fInt, fLen, fMin2, fMax2, mSub, mIn, mLen, mScrIx, mScrLen, mIsi, fIsi, mTuple, mTupleP, mSl, mNoPart, mPart, sNext, sSeq, sAsg, sIf, sRet, sRetN, sDrop, sNever, sSetL, sPar, mYes, mgN, mgNil, mgCons, mgT, toD, toDn, asD, cD, retA, runF, kill, lookA, viewK, viewT, keyOf, ixN, atI0, atI1, atI2, atI3, isIn, mCall, renum, cellsOf, putBack, miSeq, still, miR1, miR2, wipeA, fEqI, fEqL, fEqT, fEqTT]⟩
theorem keysOf_iL : ∀ k : List Int, keysOf (k.map PyData.int) = some (k.map Sum.inl)
  | [] => rfl
  | a :: r => by simp [mVar, mC, mOp, mOpN, mUn, aNil, aCons, toDs, asDs, mCB, mTup, mLst, mIf, mTest, mAnd, mOr, mNot, mAndV, mOrV, mNotV, mChain, fI, fIc, fB, fU, fIx, fCatL, fCatT, fCatS, fAdd, orF, cPos, cDivW, f1, f2, fAbs, fInt, fLen, fMin2, fMax2, mSub, mIn, mLen, mScrIx, mScrLen, mIsi, fIsi, mTuple, mTupleP, mSl, mNoPart, mPart, sNext, sSeq, sAsg, sIf, sRet, sRetN, sDrop, sNever, sSetL, sPar, mYes, mgN, mgNil, mgCons, mgT, toD, toDn, asD, cD, retA, runF, kill, lookA, viewK, viewT, keyOf, ixN, atI0, atI1, atI2, atI3, isIn, mCall, renum, cellsOf, putBack, miSeq, still, miR1, miR2, wipeA, fEqI, fEqL, fEqT, fEqTT, keysOf, keyOf, keysOf_iL r]
theorem pD_iT (l : List (Int × Int)) : l.map pD = (l.map fun q => [q.1, q.2]).map iT := by simp [mVar, mC, mOp, mOpN, mUn, aNil, aCons, toDs, asDs, mCB, mTup, mLst, mIf, mTest, mAnd, mOr, mNot, mAndV, mOrV, mNotV, mChain, fI, fIc, fB, fU, fIx, fCatL, fCatT, fCatS, fAdd, orF, cPos, cDivW, f1, f2, fAbs, fInt, fLen, fMin2, fMax2, mSub, mIn, mLen, mScrIx, mScrLen, mIsi, fIsi, mTuple, mTupleP, mSl, mNoPart, mPart, sNext, sSeq, sAsg, sIf, sRet, sRetN, sDrop, sNever, sSetL, sPar, mYes, mgN, mgNil, mgCons, mgT, toD, toDn, asD, cD, retA, runF, kill, lookA, viewK, viewT, keyOf, ixN, atI0, atI1, atI2, atI3, isIn, mCall, renum, cellsOf, putBack, miSeq, still, miR1, miR2, wipeA, fEqI, fEqL, fEqT, fEqTT, pD]
theorem pq_inj : ∀ {a b : List (Int × Int)}, (a.map fun q => [q.1, q.2]) = b.map (fun q => [q.1, q.2]) ↔ a = b
  | [], [] => by simp [mVar, mC, mOp, mOpN, mUn, aNil, aCons, toDs, asDs, mCB, mTup, mLst, mIf, mTest, mAnd, mOr, mNot, mAndV, mOrV, mNotV, mChain, fI, fIc, fB, fU, fIx, fCatL, fCatT, fCatS, fAdd, orF, cPos, cDivW, f1, f2, fAbs, fInt, fLen, fMin2, fMax2, mSub, mIn, mLen, mScrIx, mScrLen, mIsi, fIsi, mTuple, mTupleP, mSl, mNoPart, mPart, sNext, sSeq, sAsg, sIf, sRet, sRetN, sDrop, sNever, sSetL, sPar, mYes, mgN, mgNil, mgCons, mgT, toD, toDn, asD, cD, retA, runF, kill, lookA, viewK, viewT, keyOf, ixN, atI0, atI1, atI2, atI3, isIn, mCall, renum, cellsOf, putBack, miSeq, still, miR1, miR2, wipeA, fEqI, fEqL, fEqT, fEqTT]
  | [], _ :: _ => by simp [mVar, mC, mOp, mOpN, mUn, aNil, aCons, toDs, asDs, mCB, mTup, mLst, mIf, mTest, mAnd, mOr, mNot, mAndV, mOrV, mNotV, mChain, fI, fIc, fB, fU, fIx, fCatL, fCatT, fCatS, fAdd, orF, cPos, cDivW, f1, f2, fAbs, fInt, fLen, fMin2, fMax2, mSub, mIn, mLen, mScrIx, mScrLen, mIsi, fIsi, mTuple, mTupleP, mSl, mNoPart, mPart, sNext, sSeq, sAsg, sIf, sRet, sRetN, sDrop, sNever, sSetL, sPar, mYes, mgN, mgNil, mgCons, mgT, toD, toDn, asD, cD, retA, runF, kill, lookA, viewK, viewT, keyOf, ixN, atI0, atI1, atI2, atI3, isIn, mCall, renum, cellsOf, putBack, miSeq, still, miR1, miR2, wipeA, fEqI, fEqL, fEqT, fEqTT]
  | _ :: _, [] => by simp [mVar, mC, mOp, mOpN, mUn, aNil, aCons, toDs, asDs, mCB, mTup, mLst, mIf, mTest, mAnd, mOr, mNot, mAndV, mOrV, mNotV, mChain, fI, fIc, fB, fU, fIx, fCatL, fCatT, fCatS, fAdd, orF, cPos, cDivW, f1, f2, fAbs, fInt, fLen, fMin2, fMax2, mSub, mIn, mLen, mScrIx, mScrLen, mIsi, fIsi, mTuple, mTupleP, mSl, mNoPart, mPart, sNext, sSeq, sAsg, sIf, sRet, sRetN, sDrop, sNever, sSetL, sPar, mYes, mgN, mgNil, mgCons, mgT, toD, toDn, asD, cD, retA, runF, kill, lookA, viewK, viewT, keyOf, ixN, atI0, atI1, atI2, atI3, isIn, mCall, renum, cellsOf, putBack, miSeq, still, miR1, miR2, wipeA, fEqI, fEqL, fEqT, fEqTT]
  | x :: a, y :: b => by
    simp only [List.map_cons, List.cons.injEq, pq_inj (a := a) (b := b)]
    constructor
    · rintro ⟨⟨h1, h2, _⟩, h3⟩
      exact ⟨Prod.ext h1 h2, h3⟩
    · rintro ⟨rfl, rfl⟩
      simp [mVar, mC, mOp, mOpN, mUn, aNil, aCons, toDs, asDs, mCB, mTup, mLst, mIf, mTest, mAnd, mOr, mNot, mAndV, mOrV, mNotV, mChain, fI, fIc, fB, fU, fIx, fCatL, fCatT, fCatS, fAdd, orF, cPos, cDivW, f1, f2, fAbs, fInt, fLen, fMin2, fMax2, mSub, mIn, mLen, mScrIx, mScrLen, mIsi, fIsi, mTuple, mTupleP, mSl, mNoPart, mPart, sNext, sSeq, sAsg, sIf, sRet, sRetN, sDrop, sNever, sSetL, sPar, mYes, mgN, mgNil, mgCons, mgT, toD, toDn, asD, cD, retA, runF, kill, lookA, viewK, viewT, keyOf, ixN, atI0, atI1, atI2, atI3, isIn, mCall, renum, cellsOf, putBack, miSeq, still, miR1, miR2, wipeA, fEqI, fEqL, fEqT, fEqTT]
theorem fEq_pD (n : Bool) (a b : List (Int × Int)) : fEq n (.tuple (a.map pD)) (.tuple (b.map pD)) = some (.dat (.bool (if n = true then !decide (a = b) else decide (a = b)))) := by
  rw [pD_iT, pD_iT, fEqTT]
  simp only [pq_inj]
def stF (c : Int) (T : List (Int × Int)) (k : Nat) (F : List (List Int)) (o : List Int) : List (List Int) := if srt c o = T then insF F (numF k o) else F
theorem stF_mem (c : Int) (T : List (Int × Int)) (k : Nat) (nb : List Int) : ∀ (rows F : List (List Int)), nb ∈ rows.foldl (stF c T k) F ↔ nb ∈ F ∨ ∃ o ∈ rows, srt c o = T ∧ numF k o = nb
  | [], F => by simp [mVar, mC, mOp, mOpN, mUn, aNil, aCons, toDs, asDs, mCB, mTup, mLst, mIf, mTest, mAnd, mOr, mNot, mAndV, mOrV, mNotV, mChain, fI, fIc, fB, fU, fIx, fCatL, fCatT, fCatS, fAdd, orF, cPos, cDivW, f1, f2, fAbs, fInt, fLen, fMin2, fMax2, mSub, mIn, mLen, mScrIx, mScrLen, mIsi, fIsi, mTuple, mTupleP, mSl, mNoPart, mPart, sNext, sSeq, sAsg, sIf, sRet, sRetN, sDrop, sNever, sSetL, sPar, mYes, mgN, mgNil, mgCons, mgT, toD, toDn, asD, cD, retA, runF, kill, lookA, viewK, viewT, keyOf, ixN, atI0, atI1, atI2, atI3, isIn, mCall, renum, cellsOf, putBack, miSeq, still, miR1, miR2, wipeA, fEqI, fEqL, fEqT, fEqTT]
  | o :: rows, F => by
    rw [List.foldl_cons, stF_mem c T k nb rows]
    have e : nb ∈ stF c T k F o ↔ nb ∈ F ∨ (srt c o = T ∧ numF k o = nb) := by
      unfold stF
      by_cases h : srt c o = T
      · simp only [h, if_true, true_and]
        unfold insF
        by_cases h2 : numF k o ∈ F
        · simp only [h2, if_true]
          exact ⟨.inl, fun z => z.elim id fun z => z ▸ h2⟩
        · simp only [h2, if_false, List.mem_append, List.mem_singleton, eq_comm]
      · simp [mVar, mC, mOp, mOpN, mUn, aNil, aCons, toDs, asDs, mCB, mTup, mLst, mIf, mTest, mAnd, mOr, mNot, mAndV, mOrV, mNotV, mChain, fI, fIc, fB, fU, fIx, fCatL, fCatT, fCatS, fAdd, orF, cPos, cDivW, f1, f2, fAbs, fInt, fLen, fMin2, fMax2, mSub, mIn, mLen, mScrIx, mScrLen, mIsi, fIsi, mTuple, mTupleP, mSl, mNoPart, mPart, sNext, sSeq, sAsg, sIf, sRet, sRetN, sDrop, sNever, sSetL, sPar, mYes, mgN, mgNil, mgCons, mgT, toD, toDn, asD, cD, retA, runF, kill, lookA, viewK, viewT, keyOf, ixN, atI0, atI1, atI2, atI3, isIn, mCall, renum, cellsOf, putBack, miSeq, still, miR1, miR2, wipeA, fEqI, fEqL, fEqT, fEqTT, h]
    rw [e]
    simp only [List.mem_cons, exists_eq_or_imp, or_assoc]
def goodB (T : List (Int × Int)) (less : Int) (nb : List Int) : Bool := (List.range 3).all fun (x : Nat) => decide (gv T x ≤ nb.getD x 0) && decide (nb.getD x 0 ≤ gv T x + less)
theorem rows_in (k : Nat) : ∀ (n : Nat) (r : List Int), r ∈ rowsF k n → ∀ x ∈ r, 0 ≤ x ∧ x < k
  | 0, r, h => by
    simp only [rowsF, List.mem_singleton] at h
    rw [h]; simp [mVar, mC, mOp, mOpN, mUn, aNil, aCons, toDs, asDs, mCB, mTup, mLst, mIf, mTest, mAnd, mOr, mNot, mAndV, mOrV, mNotV, mChain, fI, fIc, fB, fU, fIx, fCatL, fCatT, fCatS, fAdd, orF, cPos, cDivW, f1, f2, fAbs, fInt, fLen, fMin2, fMax2, mSub, mIn, mLen, mScrIx, mScrLen, mIsi, fIsi, mTuple, mTupleP, mSl, mNoPart, mPart, sNext, sSeq, sAsg, sIf, sRet, sRetN, sDrop, sNever, sSetL, sPar, mYes, mgN, mgNil, mgCons, mgT, toD, toDn, asD, cD, retA, runF, kill, lookA, viewK, viewT, keyOf, ixN, atI0, atI1, atI2, atI3, isIn, mCall, renum, cellsOf, putBack, miSeq, still, miR1, miR2, wipeA, fEqI, fEqL, fEqT, fEqTT]
  | n + 1, r, h => by
    simp only [rowsF, List.mem_flatMap, rowsS, List.mem_map, List.mem_range] at h
    obtain ⟨a, ha, x, hx, rfl⟩ := h
    intro y hy
    rcases List.mem_append.mp hy with hy | hy
    · exact rows_in k n a ha y hy
    · rw [List.mem_singleton.mp hy]; omega
theorem rows_mem (k : Nat) : ∀ (n : Nat) (r : List Int), r.length = n → (∀ x ∈ r, 0 ≤ x ∧ x < k) → r ∈ rowsF k n := by
  intro n
  induction n with
  | zero => intro r h _; rw [List.eq_nil_of_length_eq_zero h]; simp [mVar, mC, mOp, mOpN, mUn, aNil, aCons, toDs, asDs, mCB, mTup, mLst, mIf, mTest, mAnd, mOr, mNot, mAndV, mOrV, mNotV, mChain, fI, fIc, fB, fU, fIx, fCatL, fCatT, fCatS, fAdd, orF, cPos, cDivW, f1, f2, fAbs, fInt, fLen, fMin2, fMax2, mSub, mIn, mLen, mScrIx, mScrLen, mIsi, fIsi, mTuple, mTupleP, mSl, mNoPart, mPart, sNext, sSeq, sAsg, sIf, sRet, sRetN, sDrop, sNever, sSetL, sPar, mYes, mgN, mgNil, mgCons, mgT, toD, toDn, asD, cD, retA, runF, kill, lookA, viewK, viewT, keyOf, ixN, atI0, atI1, atI2, atI3, isIn, mCall, renum, cellsOf, putBack, miSeq, still, miR1, miR2, wipeA, fEqI, fEqL, fEqT, fEqTT, rowsF]
  | succ n ih =>
    intro r h hb
    have hne : r ≠ [] := fun z => by rw [z] at h; cases h
    have e := List.dropLast_concat_getLast hne
    simp only [rowsF, List.mem_flatMap, rowsS, List.mem_map, List.mem_range]
    have hl := hb _ (List.getLast_mem hne)
    refine ⟨r.dropLast, ih _ (by rw [List.length_dropLast, h]; rfl) fun x hx => hb x (List.dropLast_subset _ hx), (r.getLast hne).toNat, by omega, ?_⟩
    rw [Int.toNat_of_nonneg hl.1]
    exact e
end Rf

namespace Rf
open PySem L2
theorem seqE {m r : MS} {sl sl1 : Sl} {cs c1 : Cs} {x : Option Out} (h1 : m sl cs = some (.nx sl1 c1)) (h2 : r sl1 c1 = x) : sSeq m r sl cs = x := by
  unfold sSeq
  rw [h1]
  exact h2
theorem runE {N np nc : Nat} {m : MS} {as : List A} {cs c2 : Cs} {a : A} (h0 : (decide (cs.length = np) && cs.all isIn) = true) (h : m (as.map some ++ List.replicate (N - as.length) none) (cs ++ List.replicate nc none) = some (.rt a c2)) (h1 : (c2.take np).all isIn = true) {r : A} (h2 : retA np c2 a = some r) : runF N np nc m as cs = some (r, c2.take np) := by
  unfold runF
  rw [if_pos h0, h]
  show (if (c2.take np).all isIn = true then match retA np c2 a with
      | some r => some (r, c2.take np)
      | none => none
      else none) = _
  rw [if_pos h1, h2]
theorem counted_srt (c : Int) (row : List Int) (h0 : 1 ≤ c ∧ c ≤ 10) (h1 : row.length ≤ 40) (h2 : ∀ x ∈ row, -1000 ≤ x ∧ x ≤ 1000) :
    M_counted [.dat (.int c), .dat (iT row)] [] = some (.ptu ((srt c row).map pD), []) := counted_ok c row h0 h1 h2
theorem andE {ma mb : MT} {sl : Sl} {cs : Cs} {x y : Bool} (h1 : ma sl cs = some (x, cs)) (h2 : mb sl cs = some (y, cs)) : mAnd ma mb sl cs = some (x && y, cs) := by
  unfold mAnd
  rw [h1]
  cases x <;> simp [mVar, mC, mOp, mOpN, mUn, aNil, aCons, toDs, asDs, mCB, mTup, mLst, mIf, mTest, mAnd, mOr, mNot, mAndV, mOrV, mNotV, mChain, fI, fIc, fB, fU, fIx, fCatL, fCatT, fCatS, fAdd, orF, cPos, cDivW, f1, f2, fAbs, fInt, fLen, fMin2, fMax2, mSub, mIn, mLen, mScrIx, mScrLen, mIsi, fIsi, mTuple, mTupleP, mSl, mNoPart, mPart, sNext, sSeq, sAsg, sIf, sRet, sRetN, sDrop, sNever, sSetL, sPar, mYes, mgN, mgNil, mgCons, mgT, toD, toDn, asD, cD, retA, runF, kill, lookA, viewK, viewT, keyOf, ixN, atI0, atI1, atI2, atI3, isIn, mCall, renum, cellsOf, putBack, miSeq, still, miR1, miR2, wipeA, fEqI, fEqL, fEqT, fEqTT, h2]
theorem orE {ma mb : MT} {sl : Sl} {cs : Cs} {x y : Bool} (h1 : ma sl cs = some (x, cs)) (h2 : mb sl cs = some (y, cs)) : mOr ma mb sl cs = some (x || y, cs) := by
  unfold mOr
  rw [h1]
  cases x <;> simp [mVar, mC, mOp, mOpN, mUn, aNil, aCons, toDs, asDs, mCB, mTup, mLst, mIf, mTest, mAnd, mOr, mNot, mAndV, mOrV, mNotV, mChain, fI, fIc, fB, fU, fIx, fCatL, fCatT, fCatS, fAdd, orF, cPos, cDivW, f1, f2, fAbs, fInt, fLen, fMin2, fMax2, mSub, mIn, mLen, mScrIx, mScrLen, mIsi, fIsi, mTuple, mTupleP, mSl, mNoPart, mPart, sNext, sSeq, sAsg, sIf, sRet, sRetN, sDrop, sNever, sSetL, sPar, mYes, mgN, mgNil, mgCons, mgT, toD, toDn, asD, cD, retA, runF, kill, lookA, viewK, viewT, keyOf, ixN, atI0, atI1, atI2, atI3, isIn, mCall, renum, cellsOf, putBack, miSeq, still, miR1, miR2, wipeA, fEqI, fEqL, fEqT, fEqTT, h2]
theorem notE {ma : MT} {sl : Sl} {cs : Cs} {x : Bool} (h1 : ma sl cs = some (x, cs)) : mNot ma sl cs = some (!x, cs) := by
  unfold mNot
  rw [h1]
section
variable {n : Nat} {c less s : Int} {row : List Int} {T : List (Int × Int)} {b : Option (Bool × Cell)}
abbrev slC (n : Nat) (c : Int) (row : List Int) (T : List (Int × Int)) (s less : Int) (a b g : Option A) : Sl := [some (.cell 0), some (.dat (.int n)), some (.dat (.int 3)), some (.dat (.int c)), some (.dat (iT row)), none, some (.ptu (T.map pD)), some (.cell 1), some (.dat (.int s)), none, some (.dat (.int less)), some (.cell 2), a, b, g]
theorem cloop3 (hn : n ≤ 5) (hc : 1 ≤ c ∧ c ≤ 10) (hz : ∀ i ≤ n, (rowsF 3 i).length ≤ 1000000) :
    S__law_counts_3 (slC n c row T s less none none none) [b, some (false, .dK (T.map ikD)), some (false, .dT [])] = some (.nx (slC n c row T s less none none none) [b, some (false, .dK (T.map ikD)), some (false, .dT (((rowsF 3 n).foldl (stF c T 3) []).map fD))]) := by
  have hr := lawrows_ok n 3 (by omega) (by omega) fun i hi => Nat.le_trans (hz i hi) (by omega)
  have hr' : M__law_rows [.dat (.int n), .dat (.int 3)] [] = some (.dat (.list ((rowsF 3 n).map iT)), []) := hr
  refine (sFor_fold (c1 := [b, some (false, .dK (T.map ikD)), some (false, .dT [])]) (β := List (List Int)) iT (fun F => (slC n c row T s less none none none, [b, some (false, .dK (T.map ikD)), some (false, .dT (F.map fD))])) (stF c T 3) (fun rest F => (∀ r ∈ rest, r ∈ rowsF 3 n) ∧ F.length + rest.length ≤ (rowsF 3 n).length) (rowsF 3 n) [] (by simp [mVar, mC, mOp, mOpN, mUn, aNil, aCons, toDs, asDs, mCB, mTup, mLst, mIf, mTest, mAnd, mOr, mNot, mAndV, mOrV, mNotV, mChain, fI, fIc, fB, fU, fIx, fCatL, fCatT, fCatS, fAdd, orF, cPos, cDivW, f1, f2, fAbs, fInt, fLen, fMin2, fMax2, mSub, mIn, mLen, mScrIx, mScrLen, mIsi, fIsi, mTuple, mTupleP, mSl, mNoPart, mPart, sNext, sSeq, sAsg, sIf, sRet, sRetN, sDrop, sNever, sSetL, sPar, mYes, mgN, mgNil, mgCons, mgT, toD, toDn, asD, cD, retA, runF, kill, lookA, viewK, viewT, keyOf, ixN, atI0, atI1, atI2, atI3, isIn, mCall, renum, cellsOf, putBack, miSeq, still, miR1, miR2, wipeA, fEqI, fEqL, fEqT, fEqTT, hr']) (by simp [mVar, mC, mOp, mOpN, mUn, aNil, aCons, toDs, asDs, mCB, mTup, mLst, mIf, mTest, mAnd, mOr, mNot, mAndV, mOrV, mNotV, mChain, fI, fIc, fB, fU, fIx, fCatL, fCatT, fCatS, fAdd, orF, cPos, cDivW, f1, f2, fAbs, fInt, fLen, fMin2, fMax2, mSub, mIn, mLen, mScrIx, mScrLen, mIsi, fIsi, mTuple, mTupleP, mSl, mNoPart, mPart, sNext, sSeq, sAsg, sIf, sRet, sRetN, sDrop, sNever, sSetL, sPar, mYes, mgN, mgNil, mgCons, mgT, toD, toDn, asD, cD, retA, runF, kill, lookA, viewK, viewT, keyOf, ixN, atI0, atI1, atI2, atI3, isIn, mCall, renum, cellsOf, putBack, miSeq, still, miR1, miR2, wipeA, fEqI, fEqL, fEqT, fEqTT]) ⟨fun _ h => h, by simp [mVar, mC, mOp, mOpN, mUn, aNil, aCons, toDs, asDs, mCB, mTup, mLst, mIf, mTest, mAnd, mOr, mNot, mAndV, mOrV, mNotV, mChain, fI, fIc, fB, fU, fIx, fCatL, fCatT, fCatS, fAdd, orF, cPos, cDivW, f1, f2, fAbs, fInt, fLen, fMin2, fMax2, mSub, mIn, mLen, mScrIx, mScrLen, mIsi, fIsi, mTuple, mTupleP, mSl, mNoPart, mPart, sNext, sSeq, sAsg, sIf, sRet, sRetN, sDrop, sNever, sSetL, sPar, mYes, mgN, mgNil, mgCons, mgT, toD, toDn, asD, cD, retA, runF, kill, lookA, viewK, viewT, keyOf, ixN, atI0, atI1, atI2, atI3, isIn, mCall, renum, cellsOf, putBack, miSeq, still, miR1, miR2, wipeA, fEqI, fEqL, fEqT, fEqTT]⟩ fun o rest F q => ⟨⟨fun r h => q.1 r (List.mem_cons_of_mem _ h), ?_⟩, _, slC n c row T s less (some (.dat (iT o))) none none, [b, some (false, .dK (T.map ikD)), some (false, .dT ((stF c T 3 F o).map fD))], rfl, ?_, rfl⟩).1
  · have h2 := q.2
    simp only [List.length_cons] at h2
    unfold stF insF
    split
    · split
      · omega
      · simp only [List.length_append, List.length_singleton]; omega
    · omega
  · have ho := q.1 o List.mem_cons_self
    have hb := rows_in 3 n o ho
    have hl := rows_len 3 n o ho
    have hF : F.length ≤ 1000000 := by
      have := q.2
      have := hz n (Nat.le_refl _)
      omega
    have hcn := counted_srt c o hc (by omega) fun x hx => by have := hb x hx; omega
    have hnb : M__law_numbers [.dat (iT o), .dat (.int 3)] [] = some (.dat (iT (numF 3 o)), []) := numbers_ok o 3 (by omega)
    unfold stF
    by_cases h : srt c o = T
    · simp [mVar, mC, mOp, mOpN, mUn, aNil, aCons, toDs, asDs, mCB, mTup, mLst, mIf, mTest, mAnd, mOr, mNot, mAndV, mOrV, mNotV, mChain, fI, fIc, fB, fU, fIx, fCatL, fCatT, fCatS, fAdd, orF, cPos, cDivW, f1, f2, fAbs, fInt, fLen, fMin2, fMax2, mSub, mIn, mLen, mScrIx, mScrLen, mIsi, fIsi, mTuple, mTupleP, mSl, mNoPart, mPart, sNext, sSeq, sAsg, sIf, sRet, sRetN, sDrop, sNever, sSetL, sPar, mYes, mgN, mgNil, mgCons, mgT, toD, toDn, asD, cD, retA, runF, kill, lookA, viewK, viewT, keyOf, ixN, atI0, atI1, atI2, atI3, isIn, mCall, renum, cellsOf, putBack, miSeq, still, miR1, miR2, wipeA, fEqI, fEqL, fEqT, fEqTT, hcn, fEq_pD, h, sPut, hnb, putA, tkeyOf, keysOf_iL, put_fD, hF]
    · simp [mVar, mC, mOp, mOpN, mUn, aNil, aCons, toDs, asDs, mCB, mTup, mLst, mIf, mTest, mAnd, mOr, mNot, mAndV, mOrV, mNotV, mChain, fI, fIc, fB, fU, fIx, fCatL, fCatT, fCatS, fAdd, orF, cPos, cDivW, f1, f2, fAbs, fInt, fLen, fMin2, fMax2, mSub, mIn, mLen, mScrIx, mScrLen, mIsi, fIsi, mTuple, mTupleP, mSl, mNoPart, mPart, sNext, sSeq, sAsg, sIf, sRet, sRetN, sDrop, sNever, sSetL, sPar, mYes, mgN, mgNil, mgCons, mgT, toD, toDn, asD, cD, retA, runF, kill, lookA, viewK, viewT, keyOf, ixN, atI0, atI1, atI2, atI3, isIn, mCall, renum, cellsOf, putBack, miSeq, still, miR1, miR2, wipeA, fEqI, fEqL, fEqT, fEqTT, hcn, fEq_pD, h]
theorem nb_get {nb : List Int} (hl : nb.length = 3) {x : Nat} (hx : x < 3) : atI (nb.map PyData.int) (x : Int) = some (.int (nb.getD x 0)) := by
  rw [atI_nn (by omega) (by rw [List.length_map]; omega)]
  simp only [Int.toNat_natCast, List.getElem?_map, List.getD_eq_getElem?_getD]
  have : nb[x]? = some nb[x] := List.getElem?_eq_getElem (by omega)
  rw [this]
  rfl
theorem seq_call2 {f : MF} {d1 d2 : D} {ds : List D} {sl : Sl} {cs : Cs} {i j : Nat} (h : f [.dat d1, .dat d2] [] = some (.new (.lst ds), [])) (h1 : sl[i]? = some (some (.dat d1))) (h2 : sl[j]? = some (some (.dat d2))) : miSeq (mCall 2 f (aCons (mVar i) (aCons (mVar j) (aNil)))) sl cs = some (ds, cs) := by
  simp [mVar, mC, mOp, mOpN, mUn, aNil, aCons, toDs, asDs, mCB, mTup, mLst, mIf, mTest, mAnd, mOr, mNot, mAndV, mOrV, mNotV, mChain, fI, fIc, fB, fU, fIx, fCatL, fCatT, fCatS, fAdd, orF, cPos, cDivW, f1, f2, fAbs, fInt, fLen, fMin2, fMax2, mSub, mIn, mLen, mScrIx, mScrLen, mIsi, fIsi, mTuple, mTupleP, mSl, mNoPart, mPart, sNext, sSeq, sAsg, sIf, sRet, sRetN, sDrop, sNever, sSetL, sPar, mYes, mgN, mgNil, mgCons, mgT, toD, toDn, asD, cD, retA, runF, kill, lookA, viewK, viewT, keyOf, ixN, atI0, atI1, atI2, atI3, isIn, mCall, renum, cellsOf, putBack, miSeq, still, miR1, miR2, wipeA, fEqI, fEqL, fEqT, fEqTT, h, h1, h2]
theorem cloop5 {F : List (List Int)} (hn : n ≤ 5) (hz : ∀ i ≤ 3, (sumsG n i).length ≤ 1000000)
    (H : ∀ nb ∈ (sumsG n 3).filter fun (r : List Int) => decide (r.sum = (n : Int)), (nb ∈ F → goodB T less nb = true) ∧ (goodB T less nb = true → c + 1 ≤ 3 → nb ∈ F)) :
    S__law_counts_5 (slC n c row T s less none none none) [b, some (false, .dK (T.map ikD)), some (false, .dT (F.map fD))] = some (.nx (slC n c row T s less none none none) [b, some (false, .dK (T.map ikD)), some (false, .dT (F.map fD))]) := by
  have hr : M__law_sums [.dat (.int n), .dat (.int 3)] [] = some (.new (.lst (((sumsG n 3).filter fun (r : List Int) => decide (r.sum = (n : Int))).map iT)), []) := lawsums_ok n 3 (by omega) (by omega) fun i hi => Nat.le_trans (hz i hi) (by omega)
  refine (sFor_fold (c1 := [b, some (false, .dK (T.map ikD)), some (false, .dT (F.map fD))]) (β := Unit) iT (fun _ => (slC n c row T s less none none none, [b, some (false, .dK (T.map ikD)), some (false, .dT (F.map fD))])) (fun _ _ => ()) (fun rest _ => ∀ r ∈ rest, r ∈ (sumsG n 3).filter fun (r : List Int) => decide (r.sum = (n : Int))) ((sumsG n 3).filter fun (r : List Int) => decide (r.sum = (n : Int))) () (seq_call2 hr rfl rfl) (by simp [mVar, mC, mOp, mOpN, mUn, aNil, aCons, toDs, asDs, mCB, mTup, mLst, mIf, mTest, mAnd, mOr, mNot, mAndV, mOrV, mNotV, mChain, fI, fIc, fB, fU, fIx, fCatL, fCatT, fCatS, fAdd, orF, cPos, cDivW, f1, f2, fAbs, fInt, fLen, fMin2, fMax2, mSub, mIn, mLen, mScrIx, mScrLen, mIsi, fIsi, mTuple, mTupleP, mSl, mNoPart, mPart, sNext, sSeq, sAsg, sIf, sRet, sRetN, sDrop, sNever, sSetL, sPar, mYes, mgN, mgNil, mgCons, mgT, toD, toDn, asD, cD, retA, runF, kill, lookA, viewK, viewT, keyOf, ixN, atI0, atI1, atI2, atI3, isIn, mCall, renum, cellsOf, putBack, miSeq, still, miR1, miR2, wipeA, fEqI, fEqL, fEqT, fEqTT]) (fun _ h => h) fun nb rest _ q => ⟨fun r h => q r (List.mem_cons_of_mem _ h), _, slC n c row T s less none (some (.dat (iT nb))) (some (.dat (.bool (goodB T less nb)))), [b, some (false, .dK (T.map ikD)), some (false, .dT (F.map fD))], rfl, ?_, rfl⟩).1
  have hnb := q nb List.mem_cons_self
  obtain ⟨H1, H2⟩ := H nb hnb
  have hl := sums_len n 3 nb (List.mem_filter.mp hnb).1
  have hL : L__law_counts_4 (slC n c row T s less none (some (.dat (iT nb))) none) [b, some (false, .dK (T.map ikD)), some (false, .dT (F.map fD))] = some (.new (.lst ((List.range 3).map fun (x : Nat) => .bool (decide (gv T x ≤ nb.getD x 0) && decide (nb.getD x 0 ≤ gv T x + less)))), [b, some (false, .dK (T.map ikD)), some (false, .dT (F.map fD))]) :=
    mLc_map (fun (i : Nat) => PyData.int i) _ (List.range 3) (by simp [mVar, mC, mOp, mOpN, mUn, aNil, aCons, toDs, asDs, mCB, mTup, mLst, mIf, mTest, mAnd, mOr, mNot, mAndV, mOrV, mNotV, mChain, fI, fIc, fB, fU, fIx, fCatL, fCatT, fCatS, fAdd, orF, cPos, cDivW, f1, f2, fAbs, fInt, fLen, fMin2, fMax2, mSub, mIn, mLen, mScrIx, mScrLen, mIsi, fIsi, mTuple, mTupleP, mSl, mNoPart, mPart, sNext, sSeq, sAsg, sIf, sRet, sRetN, sDrop, sNever, sSetL, sPar, mYes, mgN, mgNil, mgCons, mgT, toD, toDn, asD, cD, retA, runF, kill, lookA, viewK, viewT, keyOf, ixN, atI0, atI1, atI2, atI3, isIn, mCall, renum, cellsOf, putBack, miSeq, still, miR1, miR2, wipeA, fEqI, fEqL, fEqT, fEqTT, rng0]) fun x hx => ⟨_, rfl, rfl, .dat (.bool (decide (gv T x ≤ nb.getD x 0) && decide (nb.getD x 0 ≤ gv T x + less))), by
      have hat := nb_get hl (List.mem_range.mp hx)
      generalize nb.getD x 0 = g at hat ⊢
      unfold gv
      cases hg : getI T x with
      | none =>
        by_cases h1 : (0 : Int) ≤ g
        · simp [mVar, mC, mOp, mOpN, mUn, aNil, aCons, toDs, asDs, mCB, mTup, mLst, mIf, mTest, mAnd, mOr, mNot, mAndV, mOrV, mNotV, mChain, fI, fIc, fB, fU, fIx, fCatL, fCatT, fCatS, fAdd, orF, cPos, cDivW, f1, f2, fAbs, fInt, fLen, fMin2, fMax2, mSub, mIn, mLen, mScrIx, mScrLen, mIsi, fIsi, mTuple, mTupleP, mSl, mNoPart, mPart, sNext, sSeq, sAsg, sIf, sRet, sRetN, sDrop, sNever, sSetL, sPar, mYes, mgN, mgNil, mgCons, mgT, toD, toDn, asD, cD, retA, runF, kill, lookA, viewK, viewT, keyOf, ixN, atI0, atI1, atI2, atI3, isIn, mCall, renum, cellsOf, putBack, miSeq, still, miR1, miR2, wipeA, fEqI, fEqL, fEqT, fEqTT, look_ik, hg, hat, h1]
        · simp [mVar, mC, mOp, mOpN, mUn, aNil, aCons, toDs, asDs, mCB, mTup, mLst, mIf, mTest, mAnd, mOr, mNot, mAndV, mOrV, mNotV, mChain, fI, fIc, fB, fU, fIx, fCatL, fCatT, fCatS, fAdd, orF, cPos, cDivW, f1, f2, fAbs, fInt, fLen, fMin2, fMax2, mSub, mIn, mLen, mScrIx, mScrLen, mIsi, fIsi, mTuple, mTupleP, mSl, mNoPart, mPart, sNext, sSeq, sAsg, sIf, sRet, sRetN, sDrop, sNever, sSetL, sPar, mYes, mgN, mgNil, mgCons, mgT, toD, toDn, asD, cD, retA, runF, kill, lookA, viewK, viewT, keyOf, ixN, atI0, atI1, atI2, atI3, isIn, mCall, renum, cellsOf, putBack, miSeq, still, miR1, miR2, wipeA, fEqI, fEqL, fEqT, fEqTT, look_ik, hg, hat, h1]
      | some v =>
        by_cases h1 : v ≤ g
        · simp [mVar, mC, mOp, mOpN, mUn, aNil, aCons, toDs, asDs, mCB, mTup, mLst, mIf, mTest, mAnd, mOr, mNot, mAndV, mOrV, mNotV, mChain, fI, fIc, fB, fU, fIx, fCatL, fCatT, fCatS, fAdd, orF, cPos, cDivW, f1, f2, fAbs, fInt, fLen, fMin2, fMax2, mSub, mIn, mLen, mScrIx, mScrLen, mIsi, fIsi, mTuple, mTupleP, mSl, mNoPart, mPart, sNext, sSeq, sAsg, sIf, sRet, sRetN, sDrop, sNever, sSetL, sPar, mYes, mgN, mgNil, mgCons, mgT, toD, toDn, asD, cD, retA, runF, kill, lookA, viewK, viewT, keyOf, ixN, atI0, atI1, atI2, atI3, isIn, mCall, renum, cellsOf, putBack, miSeq, still, miR1, miR2, wipeA, fEqI, fEqL, fEqT, fEqTT, look_ik, hg, hat, h1]
        · simp [mVar, mC, mOp, mOpN, mUn, aNil, aCons, toDs, asDs, mCB, mTup, mLst, mIf, mTest, mAnd, mOr, mNot, mAndV, mOrV, mNotV, mChain, fI, fIc, fB, fU, fIx, fCatL, fCatT, fCatS, fAdd, orF, cPos, cDivW, f1, f2, fAbs, fInt, fLen, fMin2, fMax2, mSub, mIn, mLen, mScrIx, mScrLen, mIsi, fIsi, mTuple, mTupleP, mSl, mNoPart, mPart, sNext, sSeq, sAsg, sIf, sRet, sRetN, sDrop, sNever, sSetL, sPar, mYes, mgN, mgNil, mgCons, mgT, toD, toDn, asD, cD, retA, runF, kill, lookA, viewK, viewT, keyOf, ixN, atI0, atI1, atI2, atI3, isIn, mCall, renum, cellsOf, putBack, miSeq, still, miR1, miR2, wipeA, fEqI, fEqL, fEqT, fEqTT, look_ik, hg, hat, h1], rfl⟩
  have hall : ((List.range 3).all fun (x : Nat) => decide (gv T x ≤ nb.getD x 0) && decide (nb.getD x 0 ≤ gv T x + less)) = goodB T less nb := rfl
  have hin := look_fD F nb
  have hS : fAll (.list ((List.range 3).map fun (x : Nat) => .bool (decide (gv T x ≤ nb.getD x 0) && decide (nb.getD x 0 ≤ gv T x + less)))) = some (.dat (.bool (goodB T less nb))) := by
    have hb := boolsMap (fun (x : Nat) => decide (gv T x ≤ nb.getD x 0) && decide (nb.getD x 0 ≤ gv T x + less)) (List.range 3)
    simp only [fAll, hb, List.all_map]
    rfl
  have hA : sAsg 14 (mCB (f1 fAll) (aCons (L__law_counts_4) (aNil))) (slC n c row T s less none (some (.dat (iT nb))) none) [b, some (false, .dK (T.map ikD)), some (false, .dT (F.map fD))] = some (.nx (slC n c row T s less none (some (.dat (iT nb))) (some (.dat (.bool (goodB T less nb))))) [b, some (false, .dK (T.map ikD)), some (false, .dT (F.map fD))]) := by
    simp only [sAsg, mCB, aCons, aNil, hL, toDs, toD, cD, f1, hS, asD]
    rfl
  have hI : mTest (mIn false (mVar 13) (mVar 11)) (slC n c row T s less none (some (.dat (iT nb))) (some (.dat (.bool (goodB T less nb))))) [b, some (false, .dK (T.map ikD)), some (false, .dT (F.map fD))] = some (decide (nb ∈ F), [b, some (false, .dK (T.map ikD)), some (false, .dT (F.map fD))]) := by
    simp [mVar, mC, mOp, mOpN, mUn, aNil, aCons, toDs, asDs, mCB, mTup, mLst, mIf, mTest, mAnd, mOr, mNot, mAndV, mOrV, mNotV, mChain, fI, fIc, fB, fU, fIx, fCatL, fCatT, fCatS, fAdd, orF, cPos, cDivW, f1, f2, fAbs, fInt, fLen, fMin2, fMax2, mSub, mIn, mLen, mScrIx, mScrLen, mIsi, fIsi, mTuple, mTupleP, mSl, mNoPart, mPart, sNext, sSeq, sAsg, sIf, sRet, sRetN, sDrop, sNever, sSetL, sPar, mYes, mgN, mgNil, mgCons, mgT, toD, toDn, asD, cD, retA, runF, kill, lookA, viewK, viewT, keyOf, ixN, atI0, atI1, atI2, atI3, isIn, mCall, renum, cellsOf, putBack, miSeq, still, miR1, miR2, wipeA, fEqI, fEqL, fEqT, fEqTT, tkeyOf, keysOf_iL, look_fD]
  have hJ : mTest (mIn true (mVar 13) (mVar 11)) (slC n c row T s less none (some (.dat (iT nb))) (some (.dat (.bool (goodB T less nb))))) [b, some (false, .dK (T.map ikD)), some (false, .dT (F.map fD))] = some (!decide (nb ∈ F), [b, some (false, .dK (T.map ikD)), some (false, .dT (F.map fD))]) := by
    simp [mVar, mC, mOp, mOpN, mUn, aNil, aCons, toDs, asDs, mCB, mTup, mLst, mIf, mTest, mAnd, mOr, mNot, mAndV, mOrV, mNotV, mChain, fI, fIc, fB, fU, fIx, fCatL, fCatT, fCatS, fAdd, orF, cPos, cDivW, f1, f2, fAbs, fInt, fLen, fMin2, fMax2, mSub, mIn, mLen, mScrIx, mScrLen, mIsi, fIsi, mTuple, mTupleP, mSl, mNoPart, mPart, sNext, sSeq, sAsg, sIf, sRet, sRetN, sDrop, sNever, sSetL, sPar, mYes, mgN, mgNil, mgCons, mgT, toD, toDn, asD, cD, retA, runF, kill, lookA, viewK, viewT, keyOf, ixN, atI0, atI1, atI2, atI3, isIn, mCall, renum, cellsOf, putBack, miSeq, still, miR1, miR2, wipeA, fEqI, fEqL, fEqT, fEqTT, tkeyOf, keysOf_iL, look_fD]
  have hG : mTest (mVar 14) (slC n c row T s less none (some (.dat (iT nb))) (some (.dat (.bool (goodB T less nb))))) [b, some (false, .dK (T.map ikD)), some (false, .dT (F.map fD))] = some (goodB T less nb, [b, some (false, .dK (T.map ikD)), some (false, .dT (F.map fD))]) := by
    simp [mVar, mC, mOp, mOpN, mUn, aNil, aCons, toDs, asDs, mCB, mTup, mLst, mIf, mTest, mAnd, mOr, mNot, mAndV, mOrV, mNotV, mChain, fI, fIc, fB, fU, fIx, fCatL, fCatT, fCatS, fAdd, orF, cPos, cDivW, f1, f2, fAbs, fInt, fLen, fMin2, fMax2, mSub, mIn, mLen, mScrIx, mScrLen, mIsi, fIsi, mTuple, mTupleP, mSl, mNoPart, mPart, sNext, sSeq, sAsg, sIf, sRet, sRetN, sDrop, sNever, sSetL, sPar, mYes, mgN, mgNil, mgCons, mgT, toD, toDn, asD, cD, retA, runF, kill, lookA, viewK, viewT, keyOf, ixN, atI0, atI1, atI2, atI3, isIn, mCall, renum, cellsOf, putBack, miSeq, still, miR1, miR2, wipeA, fEqI, fEqL, fEqT, fEqTT]
  have hC : mTest (mOp (fB fun i j => decide (i ≤ j)) (mOpN fAdd (mVar 3) (mC (.int 1))) (mVar 2)) (slC n c row T s less none (some (.dat (iT nb))) (some (.dat (.bool (goodB T less nb))))) [b, some (false, .dK (T.map ikD)), some (false, .dT (F.map fD))] = some (decide (c + 1 ≤ 3), [b, some (false, .dK (T.map ikD)), some (false, .dT (F.map fD))]) := by
    simp [mVar, mC, mOp, mOpN, mUn, aNil, aCons, toDs, asDs, mCB, mTup, mLst, mIf, mTest, mAnd, mOr, mNot, mAndV, mOrV, mNotV, mChain, fI, fIc, fB, fU, fIx, fCatL, fCatT, fCatS, fAdd, orF, cPos, cDivW, f1, f2, fAbs, fInt, fLen, fMin2, fMax2, mSub, mIn, mLen, mScrIx, mScrLen, mIsi, fIsi, mTuple, mTupleP, mSl, mNoPart, mPart, sNext, sSeq, sAsg, sIf, sRet, sRetN, sDrop, sNever, sSetL, sPar, mYes, mgN, mgNil, mgCons, mgT, toD, toDn, asD, cD, retA, runF, kill, lookA, viewK, viewT, keyOf, ixN, atI0, atI1, atI2, atI3, isIn, mCall, renum, cellsOf, putBack, miSeq, still, miR1, miR2, wipeA, fEqI, fEqL, fEqT, fEqTT]
  show sSeq _ _ (slC n c row T s less none (some (.dat (iT nb))) none) [b, some (false, .dK (T.map ikD)), some (false, .dT (F.map fD))] = _
  unfold sSeq
  rw [hA]
  have hO := orE (andE hI (notE hG)) (andE hG (andE hC hJ))
  have hv : ((decide (nb ∈ F) && !goodB T less nb) || (goodB T less nb && (decide (c + 1 ≤ 3) && !decide (nb ∈ F)))) = false := by
    clear hI hJ hG hC hA hS hL hr hO
    by_cases h1 : nb ∈ F
    · have := H1 h1
      simp [mVar, mC, mOp, mOpN, mUn, aNil, aCons, toDs, asDs, mCB, mTup, mLst, mIf, mTest, mAnd, mOr, mNot, mAndV, mOrV, mNotV, mChain, fI, fIc, fB, fU, fIx, fCatL, fCatT, fCatS, fAdd, orF, cPos, cDivW, f1, f2, fAbs, fInt, fLen, fMin2, fMax2, mSub, mIn, mLen, mScrIx, mScrLen, mIsi, fIsi, mTuple, mTupleP, mSl, mNoPart, mPart, sNext, sSeq, sAsg, sIf, sRet, sRetN, sDrop, sNever, sSetL, sPar, mYes, mgN, mgNil, mgCons, mgT, toD, toDn, asD, cD, retA, runF, kill, lookA, viewK, viewT, keyOf, ixN, atI0, atI1, atI2, atI3, isIn, mCall, renum, cellsOf, putBack, miSeq, still, miR1, miR2, wipeA, fEqI, fEqL, fEqT, fEqTT, h1, this]
    · cases h2 : goodB T less nb with
      | false => simp [mVar, mC, mOp, mOpN, mUn, aNil, aCons, toDs, asDs, mCB, mTup, mLst, mIf, mTest, mAnd, mOr, mNot, mAndV, mOrV, mNotV, mChain, fI, fIc, fB, fU, fIx, fCatL, fCatT, fCatS, fAdd, orF, cPos, cDivW, f1, f2, fAbs, fInt, fLen, fMin2, fMax2, mSub, mIn, mLen, mScrIx, mScrLen, mIsi, fIsi, mTuple, mTupleP, mSl, mNoPart, mPart, sNext, sSeq, sAsg, sIf, sRet, sRetN, sDrop, sNever, sSetL, sPar, mYes, mgN, mgNil, mgCons, mgT, toD, toDn, asD, cD, retA, runF, kill, lookA, viewK, viewT, keyOf, ixN, atI0, atI1, atI2, atI3, isIn, mCall, renum, cellsOf, putBack, miSeq, still, miR1, miR2, wipeA, fEqI, fEqL, fEqT, fEqTT, h1]
      | true =>
        by_cases h3 : c + 1 ≤ 3
        · exact absurd (H2 h2 h3) h1
        · simp [mVar, mC, mOp, mOpN, mUn, aNil, aCons, toDs, asDs, mCB, mTup, mLst, mIf, mTest, mAnd, mOr, mNot, mAndV, mOrV, mNotV, mChain, fI, fIc, fB, fU, fIx, fCatL, fCatT, fCatS, fAdd, orF, cPos, cDivW, f1, f2, fAbs, fInt, fLen, fMin2, fMax2, mSub, mIn, mLen, mScrIx, mScrLen, mIsi, fIsi, mTuple, mTupleP, mSl, mNoPart, mPart, sNext, sSeq, sAsg, sIf, sRet, sRetN, sDrop, sNever, sSetL, sPar, mYes, mgN, mgNil, mgCons, mgT, toD, toDn, asD, cD, retA, runF, kill, lookA, viewK, viewT, keyOf, ixN, atI0, atI1, atI2, atI3, isIn, mCall, renum, cellsOf, putBack, miSeq, still, miR1, miR2, wipeA, fEqI, fEqL, fEqT, fEqTT, h1, h3]
  rw [hv] at hO
  show sIf _ _ _ _ _ = _
  unfold sIf
  rw [hO]
  rfl
end

/-! ### every sum that can be is met: the table -/
def ded {α : Type} [DecidableEq α] : List α → List α
  | [] => []
  | a :: r => if a ∈ ded r then ded r else a :: ded r
theorem ded_mem {α : Type} [DecidableEq α] (x : α) : ∀ l : List α, x ∈ ded l ↔ x ∈ l
  | [] => Iff.rfl
  | a :: r => by
    have ih := ded_mem x r
    unfold ded
    split
    · rename_i h
      rw [ih, List.mem_cons]
      exact ⟨.inr, fun z => z.elim (fun z => z ▸ (ded_mem a r).mp h) id⟩
    · rw [List.mem_cons, List.mem_cons, ih]
def tab (n : Nat) (c : Int) : List (List (Int × Int) × List Int) := ded ((rowsF 3 n).map fun o => (srt c o, numF 3 o))
def chkB (n : Nat) (c : Int) (t : List (List (Int × Int) × List Int)) : Bool := t.all fun p => ((sumsG n 3).filter fun (r : List Int) => decide (r.sum = (n : Int))).all fun nb => !goodB p.1 (((n : Int) - sumV p.1) / (c + 1)) nb || decide ((p.1, nb) ∈ t)
theorem chk_all : ((List.range 6).all fun n => chkB n 1 (tab n 1) && chkB n 2 (tab n 2)) = true := by kernel_rfl
theorem chk_ok {n : Nat} {c : Int} (hn : n ≤ 5) (hc : 1 ≤ c ∧ c ≤ 2) {row nb : List Int} (hr : row ∈ rowsF 3 n) (hb : nb ∈ (sumsG n 3).filter fun (r : List Int) => decide (r.sum = (n : Int))) (hg : goodB (srt c row) (((n : Int) - sumV (srt c row)) / (c + 1)) nb = true) :
    ∃ o ∈ rowsF 3 n, srt c o = srt c row ∧ numF 3 o = nb := by
  have h := List.all_eq_true.mp chk_all n (List.mem_range.mpr (by omega))
  rw [Bool.and_eq_true] at h
  have h2 : chkB n c (tab n c) = true := by
    rcases (show c = 1 ∨ c = 2 by omega) with rfl | rfl
    · exact h.1
    · exact h.2
  unfold chkB at h2
  have h3 := List.all_eq_true.mp h2 (srt c row, numF 3 row) ((ded_mem _ _).mpr (List.mem_map.mpr ⟨row, hr, rfl⟩))
  have h4 := List.all_eq_true.mp h3 nb hb
  simp only [hg, Bool.not_true, Bool.false_or, decide_eq_true_eq] at h4
  obtain ⟨o, ho, e⟩ := List.mem_map.mp ((ded_mem _ _).mp h4)
  exact ⟨o, ho, congrArg (·.1) e, congrArg (·.2) e⟩
theorem numF_get {o : List Int} {k x : Nat} (hx : x < k) : (numF k o).getD x 0 = cnt o x := by
  unfold numF
  rw [List.getD_eq_getElem?_getD, List.getElem?_map, List.getElem?_range hx]
  rfl
theorem small_rows : ∀ n ≤ 5, ∀ i ≤ n, (rowsF 3 i).length ≤ 1000000 := by
  intro n hn i hi
  have : ((List.range 6).all fun i => decide ((rowsF 3 i).length ≤ 1000000)) = true := by kernel_rfl
  exact of_decide_eq_true (List.all_eq_true.mp this i (List.mem_range.mpr (by omega)))
theorem small_sums : ∀ n ≤ 5, ∀ i ≤ 3, (sumsG n i).length ≤ 1000000 := by
  intro n hn i hi
  have : ((List.range 6).all fun n => (List.range 4).all fun i => decide ((sumsG n i).length ≤ 1000000)) = true := by kernel_rfl
  exact of_decide_eq_true (List.all_eq_true.mp (List.all_eq_true.mp this n (List.mem_range.mpr (by omega))) i (List.mem_range.mpr (by omega)))
theorem ints_ik (l : List (Int × Int)) : (l.map fun q => PyData.int q.2) = (l.map (·.2)).map PyData.int := by rw [List.map_map]; rfl
theorem counts_H {n : Nat} {c t : Int} (hn : n ≤ 5) (hc : 1 ≤ c ∧ c ≤ 3) {row : List Int} (hr : row ∈ rowsF 3 n) (hl : row.length = n) (ht : sumV (srt c row) + t * (c + 1) = n) :
    ∀ nb ∈ (sumsG n 3).filter fun (r : List Int) => decide (r.sum = (n : Int)), (nb ∈ (rowsF 3 n).foldl (stF c (srt c row) 3) [] → goodB (srt c row) t nb = true) ∧ (goodB (srt c row) t nb = true → c + 1 ≤ 3 → nb ∈ (rowsF 3 n).foldl (stF c (srt c row) 3) []) := by
  intro nb hb
  rw [stF_mem]
  refine ⟨fun h => ?_, fun hg h3 => ?_⟩
  · rcases h with h | ⟨o, ho, e1, e2⟩
    · cases h
    · obtain ⟨t', t0, t1, t2⟩ := (srt_ok (c := c) (by omega) o).bd
      rw [e1, rows_len 3 n o ho] at t1
      have e3 : t' = t := Int.eq_of_mul_eq_mul_right (a := c + 1) (by omega) (by omega)
      unfold goodB
      rw [List.all_eq_true]
      intro x hx
      have hx := List.mem_range.mp hx
      have := t2 x
      rw [e1, e3] at this
      rw [← e2, numF_get hx]
      simp [mVar, mC, mOp, mOpN, mUn, aNil, aCons, toDs, asDs, mCB, mTup, mLst, mIf, mTest, mAnd, mOr, mNot, mAndV, mOrV, mNotV, mChain, fI, fIc, fB, fU, fIx, fCatL, fCatT, fCatS, fAdd, orF, cPos, cDivW, f1, f2, fAbs, fInt, fLen, fMin2, fMax2, mSub, mIn, mLen, mScrIx, mScrLen, mIsi, fIsi, mTuple, mTupleP, mSl, mNoPart, mPart, sNext, sSeq, sAsg, sIf, sRet, sRetN, sDrop, sNever, sSetL, sPar, mYes, mgN, mgNil, mgCons, mgT, toD, toDn, asD, cD, retA, runF, kill, lookA, viewK, viewT, keyOf, ixN, atI0, atI1, atI2, atI3, isIn, mCall, renum, cellsOf, putBack, miSeq, still, miR1, miR2, wipeA, fEqI, fEqL, fEqT, fEqTT, this.1, this.2]
  · have e : ((n : Int) - sumV (srt c row)) / (c + 1) = t := by
      rw [show (n : Int) - sumV (srt c row) = t * (c + 1) by omega]
      exact Int.mul_ediv_cancel _ (by omega)
    exact .inr (chk_ok hn ⟨hc.1, by omega⟩ hr hb (by rw [e]; exact hg))
theorem counts_ok (d e : Int) : ∃ d' e', M__law_counts [.cell 0] [bx d e] = some (.dat (.bool true), [bx d' e']) := by
  have b1 := dr_lt d e (m := 6) (by omega)
  have b2 := dr_lt (dd d e 6) (de d e 6) (m := 3) (by omega)
  obtain ⟨n, hn⟩ : ∃ n : Nat, dr d e 6 = n := ⟨(dr d e 6).toNat, by omega⟩
  have hn5 : n ≤ 5 := by omega
  obtain ⟨c, hc⟩ : ∃ c, c = 1 + dr (dd d e 6) (de d e 6) 3 := ⟨_, rfl⟩
  have hc3 : 1 ≤ c ∧ c ≤ 3 := by omega
  generalize hs : (dd (dd d e 6) (de d e 6) 3, de (dd d e 6) (de d e 6) 3) = st
  have hrow := drs_len 3 n st
  have hin := drs_lt (m := 3) (by omega) n st
  generalize hrw : (drs 3 n st).1 = row at hrow hin
  have hmem := rows_mem 3 n row hrow hin
  have hok := srt_ok (c := c) (by omega) row
  obtain ⟨t, t0, t1, t2⟩ := hok.bd
  rw [hrow] at t1
  have hcn := counted_srt c row ⟨hc3.1, by omega⟩ (by omega) fun x hx => by have := hin x hx; omega
  have hsub : (n : Int) - sumV (srt c row) = t * (c + 1) := by omega
  have hmod : ((n : Int) - sumV (srt c row)) % (c + 1) = 0 := by rw [hsub]; exact Int.mul_emod_left _ _
  have hdiv : ((n : Int) - sumV (srt c row)) / (c + 1) = t := by rw [hsub]; exact Int.mul_ediv_cancel _ (by omega)
  refine ⟨(drs 3 n st).2.1, (drs 3 n st).2.2, ?_⟩
  have hn2 : (n : Int) ≤ 16777216 := by omega
  have hn3 : -1000000 ≤ (n : Int) := by omega
  generalize hst2 : (drs 3 n st).2 = st2
  unfold M__law_counts
  refine runE (c2 := [bx st2.1 st2.2, some (false, .dK ((srt c row).map ikD)), some (false, .dT (((rowsF 3 n).foldl (stF c (srt c row) 3) []).map fD))]) (a := .dat (.bool true)) rfl ?_ rfl rfl
  unfold B__law_counts
  show sSeq _ _ [some (.cell 0), none, none, none, none, none, none, none, none, none, none, none, none, none, none] [bx d e, none, none] = _
  refine seqE (sl1 := [some (.cell 0), some (.dat (.int n)), some (.dat (.int 3)), some (.dat (.int c)), none, none, none, none, none, none, none, none, none, none, none]) (c1 := [bx st.1 st.2, none, none]) ?_ ?_
  · subst hs
    simp [mVar, mC, mOp, mOpN, mUn, aNil, aCons, toDs, asDs, mCB, mTup, mLst, mIf, mTest, mAnd, mOr, mNot, mAndV, mOrV, mNotV, mChain, fI, fIc, fB, fU, fIx, fCatL, fCatT, fCatS, fAdd, orF, cPos, cDivW, f1, f2, fAbs, fInt, fLen, fMin2, fMax2, mSub, mIn, mLen, mScrIx, mScrLen, mIsi, fIsi, mTuple, mTupleP, mSl, mNoPart, mPart, sNext, sSeq, sAsg, sIf, sRet, sRetN, sDrop, sNever, sSetL, sPar, mYes, mgN, mgNil, mgCons, mgT, toD, toDn, asD, cD, retA, runF, kill, lookA, viewK, viewT, keyOf, ixN, atI0, atI1, atI2, atI3, isIn, mCall, renum, cellsOf, putBack, miSeq, still, miR1, miR2, wipeA, fEqI, fEqL, fEqT, fEqTT, sAsgG, draw_ok, hn, ← hc]
  have hL1 : L__law_counts_1 [some (.cell 0), some (.dat (.int n)), some (.dat (.int 3)), some (.dat (.int c)), none, none, none, none, none, none, none, none, none, none, none] [bx st.1 st.2, none, none] = some (.new (.lst (row.map .int)), [bx st2.1 st2.2, none, none]) := by
    have h := mLc_drs (mi := miR1 (aCons (mVar 1) (aNil))) (mg := mgN 5) (me := mCall 2 M__law_draw (aCons (mVar 0) (aCons (mVar 2) (aNil)))) (vs := [5]) (m := 3) (sl := [some (.cell 0), some (.dat (.int n)), some (.dat (.int 3)), some (.dat (.int c)), none, none, none, none, none, none, none, none, none, none, none]) (cs := [bx st.1 st.2, none, none]) (C := fun s => [bx s.1 s.2, none, none]) (l := rng 0 n) (s := st) (by simp [mVar, mC, mOp, mOpN, mUn, aNil, aCons, toDs, asDs, mCB, mTup, mLst, mIf, mTest, mAnd, mOr, mNot, mAndV, mOrV, mNotV, mChain, fI, fIc, fB, fU, fIx, fCatL, fCatT, fCatS, fAdd, orF, cPos, cDivW, f1, f2, fAbs, fInt, fLen, fMin2, fMax2, mSub, mIn, mLen, mScrIx, mScrLen, mIsi, fIsi, mTuple, mTupleP, mSl, mNoPart, mPart, sNext, sSeq, sAsg, sIf, sRet, sRetN, sDrop, sNever, sSetL, sPar, mYes, mgN, mgNil, mgCons, mgT, toD, toDn, asD, cD, retA, runF, kill, lookA, viewK, viewT, keyOf, ixN, atI0, atI1, atI2, atI3, isIn, mCall, renum, cellsOf, putBack, miSeq, still, miR1, miR2, wipeA, fEqI, fEqL, fEqT, fEqTT, hn2, hn3]) fun x s => ⟨_, rfl, by simp [mVar, mC, mOp, mOpN, mUn, aNil, aCons, toDs, asDs, mCB, mTup, mLst, mIf, mTest, mAnd, mOr, mNot, mAndV, mOrV, mNotV, mChain, fI, fIc, fB, fU, fIx, fCatL, fCatT, fCatS, fAdd, orF, cPos, cDivW, f1, f2, fAbs, fInt, fLen, fMin2, fMax2, mSub, mIn, mLen, mScrIx, mScrLen, mIsi, fIsi, mTuple, mTupleP, mSl, mNoPart, mPart, sNext, sSeq, sAsg, sIf, sRet, sRetN, sDrop, sNever, sSetL, sPar, mYes, mgN, mgNil, mgCons, mgT, toD, toDn, asD, cD, retA, runF, kill, lookA, viewK, viewT, keyOf, ixN, atI0, atI1, atI2, atI3, isIn, mCall, renum, cellsOf, putBack, miSeq, still, miR1, miR2, wipeA, fEqI, fEqL, fEqT, fEqTT, draw_ok]⟩
    rw [rng_len, hrw, hst2] at h
    exact h
  refine seqE (sl1 := [some (.cell 0), some (.dat (.int n)), some (.dat (.int 3)), some (.dat (.int c)), some (.dat (iT row)), none, none, none, none, none, none, none, none, none, none]) (c1 := [bx st2.1 st2.2, none, none]) (by simp [mVar, mC, mOp, mOpN, mUn, aNil, aCons, toDs, asDs, mCB, mTup, mLst, mIf, mTest, mAnd, mOr, mNot, mAndV, mOrV, mNotV, mChain, fI, fIc, fB, fU, fIx, fCatL, fCatT, fCatS, fAdd, orF, cPos, cDivW, f1, f2, fAbs, fInt, fLen, fMin2, fMax2, mSub, mIn, mLen, mScrIx, mScrLen, mIsi, fIsi, mTuple, mTupleP, mSl, mNoPart, mPart, sNext, sSeq, sAsg, sIf, sRet, sRetN, sDrop, sNever, sSetL, sPar, mYes, mgN, mgNil, mgCons, mgT, toD, toDn, asD, cD, retA, runF, kill, lookA, viewK, viewT, keyOf, ixN, atI0, atI1, atI2, atI3, isIn, mCall, renum, cellsOf, putBack, miSeq, still, miR1, miR2, wipeA, fEqI, fEqL, fEqT, fEqTT, hL1]) ?_
  refine seqE (sl1 := [some (.cell 0), some (.dat (.int n)), some (.dat (.int 3)), some (.dat (.int c)), some (.dat (iT row)), none, some (.ptu ((srt c row).map pD)), none, none, none, none, none, none, none, none]) (c1 := [bx st2.1 st2.2, none, none]) (by simp [mVar, mC, mOp, mOpN, mUn, aNil, aCons, toDs, asDs, mCB, mTup, mLst, mIf, mTest, mAnd, mOr, mNot, mAndV, mOrV, mNotV, mChain, fI, fIc, fB, fU, fIx, fCatL, fCatT, fCatS, fAdd, orF, cPos, cDivW, f1, f2, fAbs, fInt, fLen, fMin2, fMax2, mSub, mIn, mLen, mScrIx, mScrLen, mIsi, fIsi, mTuple, mTupleP, mSl, mNoPart, mPart, sNext, sSeq, sAsg, sIf, sRet, sRetN, sDrop, sNever, sSetL, sPar, mYes, mgN, mgNil, mgCons, mgT, toD, toDn, asD, cD, retA, runF, kill, lookA, viewK, viewT, keyOf, ixN, atI0, atI1, atI2, atI3, isIn, mCall, renum, cellsOf, putBack, miSeq, still, miR1, miR2, wipeA, fEqI, fEqL, fEqT, fEqTT, hcn]) ?_
  refine seqE (sl1 := [some (.cell 0), some (.dat (.int n)), some (.dat (.int 3)), some (.dat (.int c)), some (.dat (iT row)), none, some (.ptu ((srt c row).map pD)), some (.cell 1), none, none, none, none, none, none, none]) (c1 := [bx st2.1 st2.2, some (false, .dK ((srt c row).map ikD)), none]) (by simp [mVar, mC, mOp, mOpN, mUn, aNil, aCons, toDs, asDs, mCB, mTup, mLst, mIf, mTest, mAnd, mOr, mNot, mAndV, mOrV, mNotV, mChain, fI, fIc, fB, fU, fIx, fCatL, fCatT, fCatS, fAdd, orF, cPos, cDivW, f1, f2, fAbs, fInt, fLen, fMin2, fMax2, mSub, mIn, mLen, mScrIx, mScrLen, mIsi, fIsi, mTuple, mTupleP, mSl, mNoPart, mPart, sNext, sSeq, sAsg, sIf, sRet, sRetN, sDrop, sNever, sSetL, sPar, mYes, mgN, mgNil, mgCons, mgT, toD, toDn, asD, cD, retA, runF, kill, lookA, viewK, viewT, keyOf, ixN, atI0, atI1, atI2, atI3, isIn, mCall, renum, cellsOf, putBack, miSeq, still, miR1, miR2, wipeA, fEqI, fEqL, fEqT, fEqTT, sNew, mDict, pairs_pD, merge_ik hok.nd, sPutC, noCell]) ?_
  have hlen := hok.len
  have hL2 : L__law_counts_2 [some (.cell 0), some (.dat (.int n)), some (.dat (.int 3)), some (.dat (.int c)), some (.dat (iT row)), none, some (.ptu ((srt c row).map pD)), some (.cell 1), none, none, none, none, none, none, none] [bx st2.1 st2.2, some (true, .dK ((srt c row).map ikD)), none] = some (.new (.lst ((srt c row).map fun q => .int q.2)), [bx st2.1 st2.2, some (true, .dK ((srt c row).map ikD)), none]) :=
    mLc_map (fun q : Int × Int => PyData.int q.1) _ (srt c row) (by
      have : (srt c row).length ≤ 16777216 := by omega
      simp [mVar, mC, mOp, mOpN, mUn, aNil, aCons, toDs, asDs, mCB, mTup, mLst, mIf, mTest, mAnd, mOr, mNot, mAndV, mOrV, mNotV, mChain, fI, fIc, fB, fU, fIx, fCatL, fCatT, fCatS, fAdd, orF, cPos, cDivW, f1, f2, fAbs, fInt, fLen, fMin2, fMax2, mSub, mIn, mLen, mScrIx, mScrLen, mIsi, fIsi, mTuple, mTupleP, mSl, mNoPart, mPart, sNext, sSeq, sAsg, sIf, sRet, sRetN, sDrop, sNever, sSetL, sPar, mYes, mgN, mgNil, mgCons, mgT, toD, toDn, asD, cD, retA, runF, kill, lookA, viewK, viewT, keyOf, ixN, atI0, atI1, atI2, atI3, isIn, mCall, renum, cellsOf, putBack, miSeq, still, miR1, miR2, wipeA, fEqI, fEqL, fEqT, fEqTT, miKeys, lockedK, this, ikD, kD]) fun q hq => ⟨_, rfl, rfl, .dat (.int q.2), by
        have hg : getI (srt c row) q.1 = some q.2 := (getI_mem hok.nd).mpr hq
        simp [mVar, mC, mOp, mOpN, mUn, aNil, aCons, toDs, asDs, mCB, mTup, mLst, mIf, mTest, mAnd, mOr, mNot, mAndV, mOrV, mNotV, mChain, fI, fIc, fB, fU, fIx, fCatL, fCatT, fCatS, fAdd, orF, cPos, cDivW, f1, f2, fAbs, fInt, fLen, fMin2, fMax2, mSub, mIn, mLen, mScrIx, mScrLen, mIsi, fIsi, mTuple, mTupleP, mSl, mNoPart, mPart, sNext, sSeq, sAsg, sIf, sRet, sRetN, sDrop, sNever, sSetL, sPar, mYes, mgN, mgNil, mgCons, mgT, toD, toDn, asD, cD, retA, runF, kill, lookA, viewK, viewT, keyOf, ixN, atI0, atI1, atI2, atI3, isIn, mCall, renum, cellsOf, putBack, miSeq, still, miR1, miR2, wipeA, fEqI, fEqL, fEqT, fEqTT, look_ik, hg], rfl⟩
  refine seqE (sl1 := [some (.cell 0), some (.dat (.int n)), some (.dat (.int 3)), some (.dat (.int c)), some (.dat (iT row)), none, some (.ptu ((srt c row).map pD)), some (.cell 1), some (.dat (.int (sumV (srt c row)))), none, none, none, none, none, none]) (c1 := [bx st2.1 st2.2, some (false, .dK ((srt c row).map ikD)), none]) (by
    have hI : intsOf ((srt c row).map fun q => PyData.int q.2) = some ((srt c row).map fun q => q.2) := intsMap (fun q : Int × Int => q.2) _
    simp [mVar, mC, mOp, mOpN, mUn, aNil, aCons, toDs, asDs, mCB, mTup, mLst, mIf, mTest, mAnd, mOr, mNot, mAndV, mOrV, mNotV, mChain, fI, fIc, fB, fU, fIx, fCatL, fCatT, fCatS, fAdd, orF, cPos, cDivW, f1, f2, fAbs, fInt, fLen, fMin2, fMax2, mSub, mIn, mLen, mScrIx, mScrLen, mIsi, fIsi, mTuple, mTupleP, mSl, mNoPart, mPart, sNext, sSeq, sAsg, sIf, sRet, sRetN, sDrop, sNever, sSetL, sPar, mYes, mgN, mgNil, mgCons, mgT, toD, toDn, asD, cD, retA, runF, kill, lookA, viewK, viewT, keyOf, ixN, atI0, atI1, atI2, atI3, isIn, mCall, renum, cellsOf, putBack, miSeq, still, miR1, miR2, wipeA, fEqI, fEqL, fEqT, fEqTT, mLock, setLk, hL2, fSumU, hI, sumV]) ?_
  have hc0 : 0 < c + 1 := by omega
  have hcb : c + 1 < 1073741824 := by omega
  refine seqE (sl1 := [some (.cell 0), some (.dat (.int n)), some (.dat (.int 3)), some (.dat (.int c)), some (.dat (iT row)), none, some (.ptu ((srt c row).map pD)), some (.cell 1), some (.dat (.int (sumV (srt c row)))), none, none, none, none, none, none]) (c1 := [bx st2.1 st2.2, some (false, .dK ((srt c row).map ikD)), none]) (by simp [mVar, mC, mOp, mOpN, mUn, aNil, aCons, toDs, asDs, mCB, mTup, mLst, mIf, mTest, mAnd, mOr, mNot, mAndV, mOrV, mNotV, mChain, fI, fIc, fB, fU, fIx, fCatL, fCatT, fCatS, fAdd, orF, cPos, cDivW, f1, f2, fAbs, fInt, fLen, fMin2, fMax2, mSub, mIn, mLen, mScrIx, mScrLen, mIsi, fIsi, mTuple, mTupleP, mSl, mNoPart, mPart, sNext, sSeq, sAsg, sIf, sRet, sRetN, sDrop, sNever, sSetL, sPar, mYes, mgN, mgNil, mgCons, mgT, toD, toDn, asD, cD, retA, runF, kill, lookA, viewK, viewT, keyOf, ixN, atI0, atI1, atI2, atI3, isIn, mCall, renum, cellsOf, putBack, miSeq, still, miR1, miR2, wipeA, fEqI, fEqL, fEqT, fEqTT, hc0, hmod]) ?_
  refine seqE (sl1 := [some (.cell 0), some (.dat (.int n)), some (.dat (.int 3)), some (.dat (.int c)), some (.dat (iT row)), none, some (.ptu ((srt c row).map pD)), some (.cell 1), some (.dat (.int (sumV (srt c row)))), none, some (.dat (.int t)), none, none, none, none]) (c1 := [bx st2.1 st2.2, some (false, .dK ((srt c row).map ikD)), none]) (by simp [mVar, mC, mOp, mOpN, mUn, aNil, aCons, toDs, asDs, mCB, mTup, mLst, mIf, mTest, mAnd, mOr, mNot, mAndV, mOrV, mNotV, mChain, fI, fIc, fB, fU, fIx, fCatL, fCatT, fCatS, fAdd, orF, cPos, cDivW, f1, f2, fAbs, fInt, fLen, fMin2, fMax2, mSub, mIn, mLen, mScrIx, mScrLen, mIsi, fIsi, mTuple, mTupleP, mSl, mNoPart, mPart, sNext, sSeq, sAsg, sIf, sRet, sRetN, sDrop, sNever, sSetL, sPar, mYes, mgN, mgNil, mgCons, mgT, toD, toDn, asD, cD, retA, runF, kill, lookA, viewK, viewT, keyOf, ixN, atI0, atI1, atI2, atI3, isIn, mCall, renum, cellsOf, putBack, miSeq, still, miR1, miR2, wipeA, fEqI, fEqL, fEqT, fEqTT, hc0, hcb, hdiv]) ?_
  refine seqE (sl1 := slC n c row (srt c row) (sumV (srt c row)) t none none none) (c1 := [bx st2.1 st2.2, some (false, .dK ((srt c row).map ikD)), some (false, .dT [])]) (by simp [mVar, mC, mOp, mOpN, mUn, aNil, aCons, toDs, asDs, mCB, mTup, mLst, mIf, mTest, mAnd, mOr, mNot, mAndV, mOrV, mNotV, mChain, fI, fIc, fB, fU, fIx, fCatL, fCatT, fCatS, fAdd, orF, cPos, cDivW, f1, f2, fAbs, fInt, fLen, fMin2, fMax2, mSub, mIn, mLen, mScrIx, mScrLen, mIsi, fIsi, mTuple, mTupleP, mSl, mNoPart, mPart, sNext, sSeq, sAsg, sIf, sRet, sRetN, sDrop, sNever, sSetL, sPar, mYes, mgN, mgNil, mgCons, mgT, toD, toDn, asD, cD, retA, runF, kill, lookA, viewK, viewT, keyOf, ixN, atI0, atI1, atI2, atI3, isIn, mCall, renum, cellsOf, putBack, miSeq, still, miR1, miR2, wipeA, fEqI, fEqL, fEqT, fEqTT, sNew, mNewT, sPutC, noCell]) ?_
  refine seqE (cloop3 hn5 ⟨hc3.1, by omega⟩ (small_rows n hn5)) ?_
  refine seqE (cloop5 hn5 (small_sums n hn5) (counts_H hn5 hc3 hmem hrow t1)) ?_
  rfl
end Rf

namespace Rf
open PySem L2
/-! ### two counters as one: the law -/
theorem topc_sorted {o0 o1 o2 o3 o4 c : Int} (h1 : o0 ≤ o1) (h2 : o1 ≤ o2) (h3 : o2 ≤ o3) (h4 : o3 ≤ o4) (h0 : 0 ≤ o0) (hc : 1 ≤ c ∧ c ≤ 3) :
    0 ≤ [o4, o3, o2, o1, o0].getD c.toNat 0 ∧ (c + 1) * [o4, o3, o2, o1, o0].getD c.toNat 0 ≤ ([o0, o1, o2, o3, o4].map fun v => if [o4, o3, o2, o1, o0].getD c.toNat 0 < v then [o4, o3, o2, o1, o0].getD c.toNat 0 else v).sum ∧
    (([o0, o1, o2, o3, o4].filter fun v => decide ([o4, o3, o2, o1, o0].getD c.toNat 0 < v)).length : Int) ≤ c := by
  rcases (show c = 1 ∨ c = 2 ∨ c = 3 by omega) with rfl | rfl | rfl
  · show 0 ≤ o3 ∧ (1 + 1) * o3 ≤ ([o0, o1, o2, o3, o4].map fun v => if o3 < v then o3 else v).sum ∧ (([o0, o1, o2, o3, o4].filter fun v => decide (o3 < v)).length : Int) ≤ 1
    have e0 : ¬ o3 < o0 := by omega
    have e1 : ¬ o3 < o1 := by omega
    have e2 : ¬ o3 < o2 := by omega
    refine ⟨by omega, ?_, ?_⟩
    · simp only [List.map_cons, List.map_nil, List.sum_cons, List.sum_nil, e0, e1, e2, if_false, Int.lt_irrefl]
      split <;> omega
    · by_cases h : o3 < o4 <;> simp [mVar, mC, mOp, mOpN, mUn, aNil, aCons, toDs, asDs, mCB, mTup, mLst, mIf, mTest, mAnd, mOr, mNot, mAndV, mOrV, mNotV, mChain, fI, fIc, fB, fU, fIx, fCatL, fCatT, fCatS, fAdd, orF, cPos, cDivW, f1, f2, fAbs, fInt, fLen, fMin2, fMax2, mSub, mIn, mLen, mScrIx, mScrLen, mIsi, fIsi, mTuple, mTupleP, mSl, mNoPart, mPart, sNext, sSeq, sAsg, sIf, sRet, sRetN, sDrop, sNever, sSetL, sPar, mYes, mgN, mgNil, mgCons, mgT, toD, toDn, asD, cD, retA, runF, kill, lookA, viewK, viewT, keyOf, ixN, atI0, atI1, atI2, atI3, isIn, mCall, renum, cellsOf, putBack, miSeq, still, miR1, miR2, wipeA, fEqI, fEqL, fEqT, fEqTT, e0, e1, e2, h]
  · show 0 ≤ o2 ∧ (2 + 1) * o2 ≤ ([o0, o1, o2, o3, o4].map fun v => if o2 < v then o2 else v).sum ∧ (([o0, o1, o2, o3, o4].filter fun v => decide (o2 < v)).length : Int) ≤ 2
    have e0 : ¬ o2 < o0 := by omega
    have e1 : ¬ o2 < o1 := by omega
    refine ⟨by omega, ?_, ?_⟩
    · simp only [List.map_cons, List.map_nil, List.sum_cons, List.sum_nil, e0, e1, if_false, Int.lt_irrefl]
      split <;> split <;> omega
    · by_cases h : o2 < o4 <;> by_cases h' : o2 < o3 <;> simp [mVar, mC, mOp, mOpN, mUn, aNil, aCons, toDs, asDs, mCB, mTup, mLst, mIf, mTest, mAnd, mOr, mNot, mAndV, mOrV, mNotV, mChain, fI, fIc, fB, fU, fIx, fCatL, fCatT, fCatS, fAdd, orF, cPos, cDivW, f1, f2, fAbs, fInt, fLen, fMin2, fMax2, mSub, mIn, mLen, mScrIx, mScrLen, mIsi, fIsi, mTuple, mTupleP, mSl, mNoPart, mPart, sNext, sSeq, sAsg, sIf, sRet, sRetN, sDrop, sNever, sSetL, sPar, mYes, mgN, mgNil, mgCons, mgT, toD, toDn, asD, cD, retA, runF, kill, lookA, viewK, viewT, keyOf, ixN, atI0, atI1, atI2, atI3, isIn, mCall, renum, cellsOf, putBack, miSeq, still, miR1, miR2, wipeA, fEqI, fEqL, fEqT, fEqTT, e0, e1, h, h']
  · show 0 ≤ o1 ∧ (3 + 1) * o1 ≤ ([o0, o1, o2, o3, o4].map fun v => if o1 < v then o1 else v).sum ∧ (([o0, o1, o2, o3, o4].filter fun v => decide (o1 < v)).length : Int) ≤ 3
    have e0 : ¬ o1 < o0 := by omega
    refine ⟨by omega, ?_, ?_⟩
    · simp only [List.map_cons, List.map_nil, List.sum_cons, List.sum_nil, e0, if_false, Int.lt_irrefl]
      split <;> split <;> split <;> omega
    · by_cases h : o1 < o4 <;> by_cases h' : o1 < o3 <;> by_cases h'' : o1 < o2 <;> simp [mVar, mC, mOp, mOpN, mUn, aNil, aCons, toDs, asDs, mCB, mTup, mLst, mIf, mTest, mAnd, mOr, mNot, mAndV, mOrV, mNotV, mChain, fI, fIc, fB, fU, fIx, fCatL, fCatT, fCatS, fAdd, orF, cPos, cDivW, f1, f2, fAbs, fInt, fLen, fMin2, fMax2, mSub, mIn, mLen, mScrIx, mScrLen, mIsi, fIsi, mTuple, mTupleP, mSl, mNoPart, mPart, sNext, sSeq, sAsg, sIf, sRet, sRetN, sDrop, sNever, sSetL, sPar, mYes, mgN, mgNil, mgCons, mgT, toD, toDn, asD, cD, retA, runF, kill, lookA, viewK, viewT, keyOf, ixN, atI0, atI1, atI2, atI3, isIn, mCall, renum, cellsOf, putBack, miSeq, still, miR1, miR2, wipeA, fEqI, fEqL, fEqT, fEqTT, e0, h, h', h'']
theorem topc {V : List Int} (hl : V.length = 5) (h0 : ∀ v ∈ V, 0 ≤ v) {c : Int} (hc : 1 ≤ c ∧ c ≤ 3) :
    0 ≤ (isort V).reverse.getD c.toNat 0 ∧ (c + 1) * (isort V).reverse.getD c.toNat 0 ≤ (V.map fun v => if (isort V).reverse.getD c.toNat 0 < v then (isort V).reverse.getD c.toNat 0 else v).sum ∧
    ((V.filter fun v => decide ((isort V).reverse.getD c.toNat 0 < v)).length : Int) ≤ c := by
  have p := isort_perm V
  have hs := isort_sorted V
  generalize hcu : (isort V).reverse.getD c.toNat 0 = cu
  rw [← sum_perm (p.map fun v => if cu < v then cu else v), ← (p.filter fun v => decide (cu < v)).length_eq]
  have hlen := p.length_eq
  have h0' : ∀ v ∈ isort V, 0 ≤ v := fun v hv => h0 v (p.mem_iff.mp hv)
  generalize isort V = o at *
  rw [hl] at hlen
  match o, hlen with
  | [o0, o1, o2, o3, o4], _ =>
    simp only [List.pairwise_cons, List.mem_cons, List.not_mem_nil, or_false, forall_eq_or_imp, forall_eq] at hs
    have := topc_sorted (o0 := o0) (o1 := o1) (o2 := o2) (o3 := o3) (o4 := o4) (c := c) (by omega) (by omega) (by omega) (by omega) (h0' o0 List.mem_cons_self) hc
    subst hcu
    exact this
theorem gv5 : ∀ (T : List (Int × Int)), (∀ p ∈ T, 1 ≤ p.2) → gv T 0 + gv T 1 + gv T 2 + gv T 3 + gv T 4 ≤ sumV T
  | [], _ => by simp [mVar, mC, mOp, mOpN, mUn, aNil, aCons, toDs, asDs, mCB, mTup, mLst, mIf, mTest, mAnd, mOr, mNot, mAndV, mOrV, mNotV, mChain, fI, fIc, fB, fU, fIx, fCatL, fCatT, fCatS, fAdd, orF, cPos, cDivW, f1, f2, fAbs, fInt, fLen, fMin2, fMax2, mSub, mIn, mLen, mScrIx, mScrLen, mIsi, fIsi, mTuple, mTupleP, mSl, mNoPart, mPart, sNext, sSeq, sAsg, sIf, sRet, sRetN, sDrop, sNever, sSetL, sPar, mYes, mgN, mgNil, mgCons, mgT, toD, toDn, asD, cD, retA, runF, kill, lookA, viewK, viewT, keyOf, ixN, atI0, atI1, atI2, atI3, isIn, mCall, renum, cellsOf, putBack, miSeq, still, miR1, miR2, wipeA, fEqI, fEqL, fEqT, fEqTT, gv_nil, sumV]
  | a :: r, h => by
    have ih := gv5 r fun p hp => h p (List.mem_cons_of_mem _ hp)
    have h1 := h a List.mem_cons_self
    have nn := fun x => gv_nn (kv := r) (fun p hp => h p (List.mem_cons_of_mem _ hp)) x
    have n0 := nn 0
    have n1 := nn 1
    have n2 := nn 2
    have n3 := nn 3
    have n4 := nn 4
    simp only [gv_cons]
    have e : sumV (a :: r) = a.2 + sumV r := by simp [mVar, mC, mOp, mOpN, mUn, aNil, aCons, toDs, asDs, mCB, mTup, mLst, mIf, mTest, mAnd, mOr, mNot, mAndV, mOrV, mNotV, mChain, fI, fIc, fB, fU, fIx, fCatL, fCatT, fCatS, fAdd, orF, cPos, cDivW, f1, f2, fAbs, fInt, fLen, fMin2, fMax2, mSub, mIn, mLen, mScrIx, mScrLen, mIsi, fIsi, mTuple, mTupleP, mSl, mNoPart, mPart, sNext, sSeq, sAsg, sIf, sRet, sRetN, sDrop, sNever, sSetL, sPar, mYes, mgN, mgNil, mgCons, mgT, toD, toDn, asD, cD, retA, runF, kill, lookA, viewK, viewT, keyOf, ixN, atI0, atI1, atI2, atI3, isIn, mCall, renum, cellsOf, putBack, miSeq, still, miR1, miR2, wipeA, fEqI, fEqL, fEqT, fEqTT, sumV]
    rw [e]
    split <;> split <;> split <;> split <;> split <;> omega
def cutL (cu : Int) (l : List (Int × Int)) : List (Int × Int) := (l.filter fun q => decide (cu < q.2)).map fun q => (q.1, q.2 - cu)
theorem cutL_cons (cu : Int) (a : Int × Int) (r : List (Int × Int)) : cutL cu (a :: r) = if cu < a.2 then (a.1, a.2 - cu) :: cutL cu r else cutL cu r := by
  unfold cutL
  by_cases h : cu < a.2 <;> simp [mVar, mC, mOp, mOpN, mUn, aNil, aCons, toDs, asDs, mCB, mTup, mLst, mIf, mTest, mAnd, mOr, mNot, mAndV, mOrV, mNotV, mChain, fI, fIc, fB, fU, fIx, fCatL, fCatT, fCatS, fAdd, orF, cPos, cDivW, f1, f2, fAbs, fInt, fLen, fMin2, fMax2, mSub, mIn, mLen, mScrIx, mScrLen, mIsi, fIsi, mTuple, mTupleP, mSl, mNoPart, mPart, sNext, sSeq, sAsg, sIf, sRet, sRetN, sDrop, sNever, sSetL, sPar, mYes, mgN, mgNil, mgCons, mgT, toD, toDn, asD, cD, retA, runF, kill, lookA, viewK, viewT, keyOf, ixN, atI0, atI1, atI2, atI3, isIn, mCall, renum, cellsOf, putBack, miSeq, still, miR1, miR2, wipeA, fEqI, fEqL, fEqT, fEqTT, h]
theorem cutL_sum (cu : Int) : ∀ l : List (Int × Int), sumV (cutL cu l) + ((l.map (·.2)).map fun v => if cu < v then cu else v).sum = (l.map (·.2)).sum
  | [] => by simp [mVar, mC, mOp, mOpN, mUn, aNil, aCons, toDs, asDs, mCB, mTup, mLst, mIf, mTest, mAnd, mOr, mNot, mAndV, mOrV, mNotV, mChain, fI, fIc, fB, fU, fIx, fCatL, fCatT, fCatS, fAdd, orF, cPos, cDivW, f1, f2, fAbs, fInt, fLen, fMin2, fMax2, mSub, mIn, mLen, mScrIx, mScrLen, mIsi, fIsi, mTuple, mTupleP, mSl, mNoPart, mPart, sNext, sSeq, sAsg, sIf, sRet, sRetN, sDrop, sNever, sSetL, sPar, mYes, mgN, mgNil, mgCons, mgT, toD, toDn, asD, cD, retA, runF, kill, lookA, viewK, viewT, keyOf, ixN, atI0, atI1, atI2, atI3, isIn, mCall, renum, cellsOf, putBack, miSeq, still, miR1, miR2, wipeA, fEqI, fEqL, fEqT, fEqTT, cutL, sumV]
  | a :: r => by
    have ih := cutL_sum cu r
    rw [cutL_cons]
    simp only [List.map_cons, List.sum_cons]
    by_cases h : cu < a.2
    · simp only [h, if_true]
      simp only [sumV, List.map_cons, List.sum_cons] at ih ⊢
      omega
    · simp only [h, if_false]
      omega
theorem cutL_len (cu : Int) (l : List (Int × Int)) : (cutL cu l).length = ((l.map (·.2)).filter fun v => decide (cu < v)).length := by
  unfold cutL
  rw [List.length_map, List.filter_map, List.length_map]
  rfl
theorem cutL_has {cu : Int} : ∀ {l : List (Int × Int)} {x : Int}, hasK (cutL cu l) x = true → hasK l x = true
  | [], x, h => by cases h
  | a :: r, x, h => by
    rw [cutL_cons] at h
    rw [hasK_cons]
    by_cases h1 : cu < a.2
    · rw [if_pos h1, hasK_cons] at h
      cases h2 : decide (a.1 = x) with
      | true => rfl
      | false => rw [h2] at h; exact cutL_has h
    · rw [if_neg h1] at h
      rw [cutL_has h]
      simp [mVar, mC, mOp, mOpN, mUn, aNil, aCons, toDs, asDs, mCB, mTup, mLst, mIf, mTest, mAnd, mOr, mNot, mAndV, mOrV, mNotV, mChain, fI, fIc, fB, fU, fIx, fCatL, fCatT, fCatS, fAdd, orF, cPos, cDivW, f1, f2, fAbs, fInt, fLen, fMin2, fMax2, mSub, mIn, mLen, mScrIx, mScrLen, mIsi, fIsi, mTuple, mTupleP, mSl, mNoPart, mPart, sNext, sSeq, sAsg, sIf, sRet, sRetN, sDrop, sNever, sSetL, sPar, mYes, mgN, mgNil, mgCons, mgT, toD, toDn, asD, cD, retA, runF, kill, lookA, viewK, viewT, keyOf, ixN, atI0, atI1, atI2, atI3, isIn, mCall, renum, cellsOf, putBack, miSeq, still, miR1, miR2, wipeA, fEqI, fEqL, fEqT, fEqTT]
theorem cutL_gv (cu : Int) (h0 : 0 ≤ cu) : ∀ (l : List (Int × Int)) (x : Int), (l.map (·.1)).Nodup → gv (cutL cu l) x = if cu < gv l x then gv l x - cu else 0
  | [], x, _ => by simp [mVar, mC, mOp, mOpN, mUn, aNil, aCons, toDs, asDs, mCB, mTup, mLst, mIf, mTest, mAnd, mOr, mNot, mAndV, mOrV, mNotV, mChain, fI, fIc, fB, fU, fIx, fCatL, fCatT, fCatS, fAdd, orF, cPos, cDivW, f1, f2, fAbs, fInt, fLen, fMin2, fMax2, mSub, mIn, mLen, mScrIx, mScrLen, mIsi, fIsi, mTuple, mTupleP, mSl, mNoPart, mPart, sNext, sSeq, sAsg, sIf, sRet, sRetN, sDrop, sNever, sSetL, sPar, mYes, mgN, mgNil, mgCons, mgT, toD, toDn, asD, cD, retA, runF, kill, lookA, viewK, viewT, keyOf, ixN, atI0, atI1, atI2, atI3, isIn, mCall, renum, cellsOf, putBack, miSeq, still, miR1, miR2, wipeA, fEqI, fEqL, fEqT, fEqTT, cutL, gv_nil, h0]; omega
  | a :: r, x, hn => by
    have ih := cutL_gv cu h0 r x (List.nodup_cons.mp hn).2
    rw [cutL_cons, gv_cons]
    by_cases h : a.1 = x
    · by_cases h1 : cu < a.2
      · simp [mVar, mC, mOp, mOpN, mUn, aNil, aCons, toDs, asDs, mCB, mTup, mLst, mIf, mTest, mAnd, mOr, mNot, mAndV, mOrV, mNotV, mChain, fI, fIc, fB, fU, fIx, fCatL, fCatT, fCatS, fAdd, orF, cPos, cDivW, f1, f2, fAbs, fInt, fLen, fMin2, fMax2, mSub, mIn, mLen, mScrIx, mScrLen, mIsi, fIsi, mTuple, mTupleP, mSl, mNoPart, mPart, sNext, sSeq, sAsg, sIf, sRet, sRetN, sDrop, sNever, sSetL, sPar, mYes, mgN, mgNil, mgCons, mgT, toD, toDn, asD, cD, retA, runF, kill, lookA, viewK, viewT, keyOf, ixN, atI0, atI1, atI2, atI3, isIn, mCall, renum, cellsOf, putBack, miSeq, still, miR1, miR2, wipeA, fEqI, fEqL, fEqT, fEqTT, h, h1, gv_cons]
      · have hno : ¬ hasK (cutL cu r) x = true := fun z => (List.nodup_cons.mp hn).1 (by show a.1 ∈ _; rw [h]; exact getI_isSome.mp (cutL_has z))
        simp [mVar, mC, mOp, mOpN, mUn, aNil, aCons, toDs, asDs, mCB, mTup, mLst, mIf, mTest, mAnd, mOr, mNot, mAndV, mOrV, mNotV, mChain, fI, fIc, fB, fU, fIx, fCatL, fCatT, fCatS, fAdd, orF, cPos, cDivW, f1, f2, fAbs, fInt, fLen, fMin2, fMax2, mSub, mIn, mLen, mScrIx, mScrLen, mIsi, fIsi, mTuple, mTupleP, mSl, mNoPart, mPart, sNext, sSeq, sAsg, sIf, sRet, sRetN, sDrop, sNever, sSetL, sPar, mYes, mgN, mgNil, mgCons, mgT, toD, toDn, asD, cD, retA, runF, kill, lookA, viewK, viewT, keyOf, ixN, atI0, atI1, atI2, atI3, isIn, mCall, renum, cellsOf, putBack, miSeq, still, miR1, miR2, wipeA, fEqI, fEqL, fEqT, fEqTT, h, h1, gv_no hno]
    · by_cases h1 : cu < a.2
      · simp [mVar, mC, mOp, mOpN, mUn, aNil, aCons, toDs, asDs, mCB, mTup, mLst, mIf, mTest, mAnd, mOr, mNot, mAndV, mOrV, mNotV, mChain, fI, fIc, fB, fU, fIx, fCatL, fCatT, fCatS, fAdd, orF, cPos, cDivW, f1, f2, fAbs, fInt, fLen, fMin2, fMax2, mSub, mIn, mLen, mScrIx, mScrLen, mIsi, fIsi, mTuple, mTupleP, mSl, mNoPart, mPart, sNext, sSeq, sAsg, sIf, sRet, sRetN, sDrop, sNever, sSetL, sPar, mYes, mgN, mgNil, mgCons, mgT, toD, toDn, asD, cD, retA, runF, kill, lookA, viewK, viewT, keyOf, ixN, atI0, atI1, atI2, atI3, isIn, mCall, renum, cellsOf, putBack, miSeq, still, miR1, miR2, wipeA, fEqI, fEqL, fEqT, fEqTT, h, h1, gv_cons, ih]
      · simp [mVar, mC, mOp, mOpN, mUn, aNil, aCons, toDs, asDs, mCB, mTup, mLst, mIf, mTest, mAnd, mOr, mNot, mAndV, mOrV, mNotV, mChain, fI, fIc, fB, fU, fIx, fCatL, fCatT, fCatS, fAdd, orF, cPos, cDivW, f1, f2, fAbs, fInt, fLen, fMin2, fMax2, mSub, mIn, mLen, mScrIx, mScrLen, mIsi, fIsi, mTuple, mTupleP, mSl, mNoPart, mPart, sNext, sSeq, sAsg, sIf, sRet, sRetN, sDrop, sNever, sSetL, sPar, mYes, mgN, mgNil, mgCons, mgT, toD, toDn, asD, cD, retA, runF, kill, lookA, viewK, viewT, keyOf, ixN, atI0, atI1, atI2, atI3, isIn, mCall, renum, cellsOf, putBack, miSeq, still, miR1, miR2, wipeA, fEqI, fEqL, fEqT, fEqTT, h, h1, ih]
/-- the sums of two counters over 0 .. 4 -/
def wl (T1 T2 : List (Int × Int)) : List (Int × Int) := (List.range 5).map fun (x : Nat) => ((x : Int), gv T1 x + gv T2 x)
theorem wl_nd (T1 T2 : List (Int × Int)) : ((wl T1 T2).map (·.1)).Nodup := by
  unfold wl
  rw [List.map_map]
  show ((List.range 5).map fun (x : Nat) => (x : Int)).Nodup
  decide
theorem wl_gv (T1 T2 : List (Int × Int)) {x : Nat} (hx : x < 5) : gv (wl T1 T2) x = gv T1 x + gv T2 x := by
  unfold gv
  rw [(getI_mem (wl_nd T1 T2)).mpr (List.mem_map.mpr ⟨x, List.mem_range.mpr hx, rfl⟩)]
  rfl
theorem cnt_app (a b : List Int) (x : Int) : cnt (a ++ b) x = cnt a x + cnt b x := by
  unfold cnt
  rw [List.filter_append, List.length_append]
  omega
theorem merged_law {c : Int} (hc : 1 ≤ c ∧ c ≤ 3) (one two : List Int) :
    let V := (wl (srt c one) (srt c two)).map (·.2)
    let cu := (isort V).reverse.getD c.toNat 0
    let kp := cutL cu (wl (srt c one) (srt c two))
    (∀ x : Nat, x < 5 → gv kp x ≤ cnt (one ++ two) x ∧ (cnt (one ++ two) x - gv kp x) * (c + 1) ≤ (one.length : Int) + two.length - sumV kp) ∧ (kp.length : Int) ≤ c := by
  intro V cu kp
  have o1 := srt_ok (c := c) (by omega) one
  have o2 := srt_ok (c := c) (by omega) two
  obtain ⟨a, a0, a1, a2⟩ := o1.bd
  obtain ⟨b, b0, b1, b2⟩ := o2.bd
  have g1 := fun x => gv_nn o1.pos x
  have g2 := fun x => gv_nn o2.pos x
  have hV : V.length = 5 := by simp [mVar, mC, mOp, mOpN, mUn, aNil, aCons, toDs, asDs, mCB, mTup, mLst, mIf, mTest, mAnd, mOr, mNot, mAndV, mOrV, mNotV, mChain, fI, fIc, fB, fU, fIx, fCatL, fCatT, fCatS, fAdd, orF, cPos, cDivW, f1, f2, fAbs, fInt, fLen, fMin2, fMax2, mSub, mIn, mLen, mScrIx, mScrLen, mIsi, fIsi, mTuple, mTupleP, mSl, mNoPart, mPart, sNext, sSeq, sAsg, sIf, sRet, sRetN, sDrop, sNever, sSetL, sPar, mYes, mgN, mgNil, mgCons, mgT, toD, toDn, asD, cD, retA, runF, kill, lookA, viewK, viewT, keyOf, ixN, atI0, atI1, atI2, atI3, isIn, mCall, renum, cellsOf, putBack, miSeq, still, miR1, miR2, wipeA, fEqI, fEqL, fEqT, fEqTT, V, wl]
  have hV0 : ∀ v ∈ V, 0 ≤ v := by
    intro v hv
    simp only [V, wl, List.map_map, List.mem_map] at hv
    obtain ⟨x, _, rfl⟩ := hv
    have := g1 x
    have := g2 x
    simp only [Function.comp]
    omega
  obtain ⟨t1, t2, t3⟩ := topc hV hV0 hc
  have hcu : (isort V).reverse.getD c.toNat 0 = cu := rfl
  rw [hcu] at t1 t2 t3
  have hS := cutL_sum cu (wl (srt c one) (srt c two))
  have hVs : V.sum = gv (srt c one) 0 + gv (srt c two) 0 + (gv (srt c one) 1 + gv (srt c two) 1) + (gv (srt c one) 2 + gv (srt c two) 2) + (gv (srt c one) 3 + gv (srt c two) 3) + (gv (srt c one) 4 + gv (srt c two) 4) := by
    show ([gv (srt c one) 0 + gv (srt c two) 0, gv (srt c one) 1 + gv (srt c two) 1, gv (srt c one) 2 + gv (srt c two) 2, gv (srt c one) 3 + gv (srt c two) 3, gv (srt c one) 4 + gv (srt c two) 4] : List Int).sum = _
    simp only [List.sum_cons, List.sum_nil]
    omega
  have q1 := gv5 _ o1.pos
  have q2 := gv5 _ o2.pos
  have hS : sumV kp + (V.map fun v => if cu < v then cu else v).sum = V.sum := hS
  refine ⟨fun x hx => ?_, by rw [cutL_len]; exact t3⟩
  have hg : gv kp x = if cu < gv (srt c one) x + gv (srt c two) x then gv (srt c one) x + gv (srt c two) x - cu else 0 := by
    show gv (cutL cu (wl (srt c one) (srt c two))) x = _
    rw [cutL_gv cu t1 _ _ (wl_nd _ _), wl_gv _ _ hx]
  rw [cnt_app, hg]
  have x1 := a2 x
  have x2 := b2 x
  have y1 := g1 x
  have y2 := g2 x
  have hle : cnt one x + cnt two x - (if cu < gv (srt c one) x + gv (srt c two) x then gv (srt c one) x + gv (srt c two) x - cu else 0) ≤ a + b + cu := by
    split <;> omega
  refine ⟨by split <;> omega, ?_⟩
  have h3 := Int.mul_le_mul_of_nonneg_right hle (show 0 ≤ c + 1 by omega)
  have e1 : (a + b + cu) * (c + 1) = a * (c + 1) + b * (c + 1) + (c + 1) * cu := by
    rw [Int.add_mul, Int.add_mul, Int.mul_comm cu]
  omega
end Rf

namespace Rf
open PySem L2
theorem cMul_okR {i j : Int} (h : -(10 ^ 18) < j ∧ j < 10 ^ 18) : cMul i j = true := by
  unfold cMul
  rw [decide_eq_true_iff]
  omega
theorem cut_nd {cu : Int} {l : List (Int × Int)} (h : (l.map (·.1)).Nodup) : ((cutL cu l).map (·.1)).Nodup := by
  unfold cutL
  rw [List.map_map]
  exact (List.Sublist.map (fun p : Int × Int => p.1) List.filter_sublist).nodup h
theorem valE {f g : List (Int × Int)} {i j : Nat} {x : Int} {T : List (Int × Int)} {sl : Sl} {cs : Cs} {k : Nat} (hi : sl[i]? = some (some (.cell k))) (hj : sl[j]? = some (some (.dat (.int x)))) (hc : cs[k]? = some (some (false, .dK (T.map ikD)))) :
    mIf (mTest (mIn false (mVar j) (mVar i))) (mSub (mVar i) (mVar j)) (mC (.int 0)) sl cs = some (.dat (.int (gv T x)), cs) := by
  unfold gv
  cases hg : getI T x with
  | none => simp [mVar, mC, mOp, mOpN, mUn, aNil, aCons, toDs, asDs, mCB, mTup, mLst, mIf, mTest, mAnd, mOr, mNot, mAndV, mOrV, mNotV, mChain, fI, fIc, fB, fU, fIx, fCatL, fCatT, fCatS, fAdd, orF, cPos, cDivW, f1, f2, fAbs, fInt, fLen, fMin2, fMax2, mSub, mIn, mLen, mScrIx, mScrLen, mIsi, fIsi, mTuple, mTupleP, mSl, mNoPart, mPart, sNext, sSeq, sAsg, sIf, sRet, sRetN, sDrop, sNever, sSetL, sPar, mYes, mgN, mgNil, mgCons, mgT, toD, toDn, asD, cD, retA, runF, kill, lookA, viewK, viewT, keyOf, ixN, atI0, atI1, atI2, atI3, isIn, mCall, renum, cellsOf, putBack, miSeq, still, miR1, miR2, wipeA, fEqI, fEqL, fEqT, fEqTT, hi, hj, hc, look_ik, hg]
  | some v => simp [mVar, mC, mOp, mOpN, mUn, aNil, aCons, toDs, asDs, mCB, mTup, mLst, mIf, mTest, mAnd, mOr, mNot, mAndV, mOrV, mNotV, mChain, fI, fIc, fB, fU, fIx, fCatL, fCatT, fCatS, fAdd, orF, cPos, cDivW, f1, f2, fAbs, fInt, fLen, fMin2, fMax2, mSub, mIn, mLen, mScrIx, mScrLen, mIsi, fIsi, mTuple, mTupleP, mSl, mNoPart, mPart, sNext, sSeq, sAsg, sIf, sRet, sRetN, sDrop, sNever, sSetL, sPar, mYes, mgN, mgNil, mgCons, mgT, toD, toDn, asD, cD, retA, runF, kill, lookA, viewK, viewT, keyOf, ixN, atI0, atI1, atI2, atI3, isIn, mCall, renum, cellsOf, putBack, miSeq, still, miR1, miR2, wipeA, fEqI, fEqL, fEqT, fEqTT, hi, hj, hc, look_ik, hg]
section
variable {c cu nn ss : Int} {one two : List Int} {T1 T2 kp : List (Int × Int)} {b : Option (Bool × Cell)}
theorem tloop2 {x9 x10 : Option A} {y : Option (Bool × Cell)} : S__law_together_2 [some (.cell 0), some (.dat (.int c)), some (.dat (iT one)), some (.dat (iT two)), none, some (.cell 1), some (.cell 2), some (.cell 3), none, none, none, none, none, none, none, none, none] [b, some (false, .dK (T1.map ikD)), some (false, .dK (T2.map ikD)), some (false, .dK []), none] =
    some (.nx [some (.cell 0), some (.dat (.int c)), some (.dat (iT one)), some (.dat (iT two)), none, some (.cell 1), some (.cell 2), some (.cell 3), none, none, none, none, none, none, none, none, none] [b, some (false, .dK (T1.map ikD)), some (false, .dK (T2.map ikD)), some (false, .dK ((wl T1 T2).map ikD)), none]) := by
  have e := (sFor_fold (mi := miR1 (aCons (mC (.int 5)) (aNil))) (mg := mgN 8) (kl := [8]) (mb := sPut (mVar 7) (mVar 8) (mOpN fAdd (mIf (mTest (mIn false (mVar 8) (mVar 5))) (mSub (mVar 5) (mVar 8)) (mC (.int 0))) (mIf (mTest (mIn false (mVar 8) (mVar 6))) (mSub (mVar 6) (mVar 8)) (mC (.int 0)))))
    (sl := [some (.cell 0), some (.dat (.int c)), some (.dat (iT one)), some (.dat (iT two)), none, some (.cell 1), some (.cell 2), some (.cell 3), none, none, none, none, none, none, none, none, none]) (cs := [b, some (false, .dK (T1.map ikD)), some (false, .dK (T2.map ikD)), some (false, .dK []), none]) (c1 := [b, some (false, .dK (T1.map ikD)), some (false, .dK (T2.map ikD)), some (false, .dK []), none])
    (β := List (Int × Int)) (fun (i : Nat) => PyData.int i) (fun kv => ([some (.cell 0), some (.dat (.int c)), some (.dat (iT one)), some (.dat (iT two)), none, some (.cell 1), some (.cell 2), some (.cell 3), none, none, none, none, none, none, none, none, none], [b, some (false, .dK (T1.map ikD)), some (false, .dK (T2.map ikD)), some (false, .dK (kv.map ikD)), none])) (fun kv x => putI kv x (gv T1 x + gv T2 x)) (fun rest (kv : List (Int × Int)) => kv.length + rest.length ≤ 5) (List.range 5) [] (by simp [mVar, mC, mOp, mOpN, mUn, aNil, aCons, toDs, asDs, mCB, mTup, mLst, mIf, mTest, mAnd, mOr, mNot, mAndV, mOrV, mNotV, mChain, fI, fIc, fB, fU, fIx, fCatL, fCatT, fCatS, fAdd, orF, cPos, cDivW, f1, f2, fAbs, fInt, fLen, fMin2, fMax2, mSub, mIn, mLen, mScrIx, mScrLen, mIsi, fIsi, mTuple, mTupleP, mSl, mNoPart, mPart, sNext, sSeq, sAsg, sIf, sRet, sRetN, sDrop, sNever, sSetL, sPar, mYes, mgN, mgNil, mgCons, mgT, toD, toDn, asD, cD, retA, runF, kill, lookA, viewK, viewT, keyOf, ixN, atI0, atI1, atI2, atI3, isIn, mCall, renum, cellsOf, putBack, miSeq, still, miR1, miR2, wipeA, fEqI, fEqL, fEqT, fEqTT, rng0]) (by simp [mVar, mC, mOp, mOpN, mUn, aNil, aCons, toDs, asDs, mCB, mTup, mLst, mIf, mTest, mAnd, mOr, mNot, mAndV, mOrV, mNotV, mChain, fI, fIc, fB, fU, fIx, fCatL, fCatT, fCatS, fAdd, orF, cPos, cDivW, f1, f2, fAbs, fInt, fLen, fMin2, fMax2, mSub, mIn, mLen, mScrIx, mScrLen, mIsi, fIsi, mTuple, mTupleP, mSl, mNoPart, mPart, sNext, sSeq, sAsg, sIf, sRet, sRetN, sDrop, sNever, sSetL, sPar, mYes, mgN, mgNil, mgCons, mgT, toD, toDn, asD, cD, retA, runF, kill, lookA, viewK, viewT, keyOf, ixN, atI0, atI1, atI2, atI3, isIn, mCall, renum, cellsOf, putBack, miSeq, still, miR1, miR2, wipeA, fEqI, fEqL, fEqT, fEqTT]) (by simp [mVar, mC, mOp, mOpN, mUn, aNil, aCons, toDs, asDs, mCB, mTup, mLst, mIf, mTest, mAnd, mOr, mNot, mAndV, mOrV, mNotV, mChain, fI, fIc, fB, fU, fIx, fCatL, fCatT, fCatS, fAdd, orF, cPos, cDivW, f1, f2, fAbs, fInt, fLen, fMin2, fMax2, mSub, mIn, mLen, mScrIx, mScrLen, mIsi, fIsi, mTuple, mTupleP, mSl, mNoPart, mPart, sNext, sSeq, sAsg, sIf, sRet, sRetN, sDrop, sNever, sSetL, sPar, mYes, mgN, mgNil, mgCons, mgT, toD, toDn, asD, cD, retA, runF, kill, lookA, viewK, viewT, keyOf, ixN, atI0, atI1, atI2, atI3, isIn, mCall, renum, cellsOf, putBack, miSeq, still, miR1, miR2, wipeA, fEqI, fEqL, fEqT, fEqTT]) fun x rest kv q => ⟨?_, _, [some (.cell 0), some (.dat (.int c)), some (.dat (iT one)), some (.dat (iT two)), none, some (.cell 1), some (.cell 2), some (.cell 3), some (.dat (.int x)), none, none, none, none, none, none, none, none], [b, some (false, .dK (T1.map ikD)), some (false, .dK (T2.map ikD)), some (false, .dK ((putI kv x (gv T1 x + gv T2 x)).map ikD)), none], rfl, ?_, rfl⟩).1
  · exact e
  · simp only [List.length_cons] at q
    unfold putI
    split
    · rw [List.length_map]; omega
    · simp only [List.length_append, List.length_singleton]; omega
  · simp only [List.length_cons] at q
    have hz : kv.length ≤ 1000000 := by omega
    have v1 := valE (f := []) (g := []) (i := 5) (j := 8) (x := (x : Int)) (T := T1) (k := 1) (sl := [some (.cell 0), some (.dat (.int c)), some (.dat (iT one)), some (.dat (iT two)), none, some (.cell 1), some (.cell 2), some (.cell 3), some (.dat (.int x)), none, none, none, none, none, none, none, none]) (cs := [b, some (false, .dK (T1.map ikD)), some (false, .dK (T2.map ikD)), some (false, .dK (kv.map ikD)), none]) rfl rfl rfl
    have v2 := valE (f := []) (g := []) (i := 6) (j := 8) (x := (x : Int)) (T := T2) (k := 2) (sl := [some (.cell 0), some (.dat (.int c)), some (.dat (iT one)), some (.dat (iT two)), none, some (.cell 1), some (.cell 2), some (.cell 3), some (.dat (.int x)), none, none, none, none, none, none, none, none]) (cs := [b, some (false, .dK (T1.map ikD)), some (false, .dK (T2.map ikD)), some (false, .dK (kv.map ikD)), none]) rfl rfl rfl
    show sPut _ _ _ [some (.cell 0), some (.dat (.int c)), some (.dat (iT one)), some (.dat (iT two)), none, some (.cell 1), some (.cell 2), some (.cell 3), some (.dat (.int x)), none, none, none, none, none, none, none, none] [b, some (false, .dK (T1.map ikD)), some (false, .dK (T2.map ikD)), some (false, .dK (kv.map ikD)), none] = _
    unfold sPut mOpN
    simp only [v1, v2]
    simp [mVar, mC, mOp, mOpN, mUn, aNil, aCons, toDs, asDs, mCB, mTup, mLst, mIf, mTest, mAnd, mOr, mNot, mAndV, mOrV, mNotV, mChain, fI, fIc, fB, fU, fIx, fCatL, fCatT, fCatS, fAdd, orF, cPos, cDivW, f1, f2, fAbs, fInt, fLen, fMin2, fMax2, mSub, mIn, mLen, mScrIx, mScrLen, mIsi, fIsi, mTuple, mTupleP, mSl, mNoPart, mPart, sNext, sSeq, sAsg, sIf, sRet, sRetN, sDrop, sNever, sSetL, sPar, mYes, mgN, mgNil, mgCons, mgT, toD, toDn, asD, cD, retA, runF, kill, lookA, viewK, viewT, keyOf, ixN, atI0, atI1, atI2, atI3, isIn, mCall, renum, cellsOf, putBack, miSeq, still, miR1, miR2, wipeA, fEqI, fEqL, fEqT, fEqTT, putA, hz, put_ik]
abbrev slT (c : Int) (one two : List Int) (a8 a9 a10 a11 a12 a13 a14 a16 : Option A) : Sl := [some (.cell 0), some (.dat (.int c)), some (.dat (iT one)), some (.dat (iT two)), none, some (.cell 1), some (.cell 2), some (.cell 3), a8, a9, a10, a11, a12, a13, a14, none, a16]
abbrev csT (b : Option (Bool × Cell)) (T1 T2 : List (Int × Int)) (k : Bool) (z : Option (Bool × Cell)) : Cs := [b, some (false, .dK (T1.map ikD)), some (false, .dK (T2.map ikD)), some (k, .dK ((wl T1 T2).map ikD)), z]
theorem tloop7 {a9 : Option A} {T3 : Option (Bool × Cell)} (h1 : one.length ≤ 100) (h2 : two.length ≤ 100) (hc : 1 ≤ c ∧ c ≤ 3) (H : ∀ x : Nat, x < 5 → gv kp x ≤ cnt (one ++ two) x ∧ (cnt (one ++ two) x - gv kp x) * (c + 1) ≤ nn - ss) :
    ∃ a8, S__law_together_7 (slT c one two none a9 (some (.dat (.int cu))) (some (.cell 4)) (some (.dat (.int nn))) (some (.dat (.int ss))) none none) (csT b T1 T2 false (some (false, .dK (kp.map ikD)))) =
    some (.nx (slT c one two a8 a9 (some (.dat (.int cu))) (some (.cell 4)) (some (.dat (.int nn))) (some (.dat (.int ss))) none none) (csT b T1 T2 false (some (false, .dK (kp.map ikD))))) := by
  have e := (sFor_fold (mi := miR1 (aCons (mC (.int 5)) (aNil))) (mg := mgN 8) (kl := [14, 16]) (mb := (sSeq (sAsg 14 (mLen (L__law_together_6)))
    (sSeq (sAsg 16 (mIf (mTest (mIn false (mVar 8) (mVar 11))) (mSub (mVar 11) (mVar 8)) (mC (.int 0))))
    (sIf (mOr (mNot (mTest (mOp (fB fun i j => decide (i ≤ j)) (mVar 16) (mVar 14)))) (mTest (mOp (fB fun i j => decide (j < i)) (mOp (fIc cMul fun i j => i * j) (mOp (fI fun i j => i - j) (mVar 14) (mVar 16)) (mOpN fAdd (mVar 1) (mC (.int 1)))) (mOp (fI fun i j => i - j) (mVar 12) (mVar 13))))) (sRet (mC (.bool false))) (sNext)))))
    (sl := slT c one two none a9 (some (.dat (.int cu))) (some (.cell 4)) (some (.dat (.int nn))) (some (.dat (.int ss))) none none) (cs := csT b T1 T2 false (some (false, .dK (kp.map ikD)))) (c1 := csT b T1 T2 false (some (false, .dK (kp.map ikD))))
    (β := Option A) (fun (i : Nat) => PyData.int i) (fun a8 => (slT c one two a8 a9 (some (.dat (.int cu))) (some (.cell 4)) (some (.dat (.int nn))) (some (.dat (.int ss))) none none, csT b T1 T2 false (some (false, .dK (kp.map ikD))))) (fun _ x => some (.dat (.int x))) (fun rest _ => ∀ x ∈ rest, x < 5) (List.range 5) none (by simp [mVar, mC, mOp, mOpN, mUn, aNil, aCons, toDs, asDs, mCB, mTup, mLst, mIf, mTest, mAnd, mOr, mNot, mAndV, mOrV, mNotV, mChain, fI, fIc, fB, fU, fIx, fCatL, fCatT, fCatS, fAdd, orF, cPos, cDivW, f1, f2, fAbs, fInt, fLen, fMin2, fMax2, mSub, mIn, mLen, mScrIx, mScrLen, mIsi, fIsi, mTuple, mTupleP, mSl, mNoPart, mPart, sNext, sSeq, sAsg, sIf, sRet, sRetN, sDrop, sNever, sSetL, sPar, mYes, mgN, mgNil, mgCons, mgT, toD, toDn, asD, cD, retA, runF, kill, lookA, viewK, viewT, keyOf, ixN, atI0, atI1, atI2, atI3, isIn, mCall, renum, cellsOf, putBack, miSeq, still, miR1, miR2, wipeA, fEqI, fEqL, fEqT, fEqTT, rng0]) (by simp [mVar, mC, mOp, mOpN, mUn, aNil, aCons, toDs, asDs, mCB, mTup, mLst, mIf, mTest, mAnd, mOr, mNot, mAndV, mOrV, mNotV, mChain, fI, fIc, fB, fU, fIx, fCatL, fCatT, fCatS, fAdd, orF, cPos, cDivW, f1, f2, fAbs, fInt, fLen, fMin2, fMax2, mSub, mIn, mLen, mScrIx, mScrLen, mIsi, fIsi, mTuple, mTupleP, mSl, mNoPart, mPart, sNext, sSeq, sAsg, sIf, sRet, sRetN, sDrop, sNever, sSetL, sPar, mYes, mgN, mgNil, mgCons, mgT, toD, toDn, asD, cD, retA, runF, kill, lookA, viewK, viewT, keyOf, ixN, atI0, atI1, atI2, atI3, isIn, mCall, renum, cellsOf, putBack, miSeq, still, miR1, miR2, wipeA, fEqI, fEqL, fEqT, fEqTT]) (fun x h => List.mem_range.mp h) fun x rest a8 q => ⟨fun y hy => q y (List.mem_cons_of_mem _ hy), _, slT c one two (some (.dat (.int x))) a9 (some (.dat (.int cu))) (some (.cell 4)) (some (.dat (.int nn))) (some (.dat (.int ss))) (some (.dat (.int (cnt (one ++ two) x)))) (some (.dat (.int (gv kp x)))), csT b T1 T2 false (some (false, .dK (kp.map ikD))), rfl, ?_, rfl⟩).1
  · exact ⟨_, e⟩
  · obtain ⟨g1, g2⟩ := H x (q x List.mem_cons_self)
    show sSeq _ _ (slT c one two (some (.dat (.int x))) a9 (some (.dat (.int cu))) (some (.cell 4)) (some (.dat (.int nn))) (some (.dat (.int ss))) none none) (csT b T1 T2 false (some (false, .dK (kp.map ikD)))) = _
    have hL : L__law_together_6 (slT c one two (some (.dat (.int x))) a9 (some (.dat (.int cu))) (some (.cell 4)) (some (.dat (.int nn))) (some (.dat (.int ss))) none none) (csT b T1 T2 false (some (false, .dK (kp.map ikD)))) = some (.new (.lst (((one ++ two).filter fun y => decide (y = (x : Int))).map .int)), csT b T1 T2 false (some (false, .dK (kp.map ikD)))) :=
      mLc_filt .int _ _ (one ++ two) (by
        have : one.length + two.length ≤ 16777216 := by omega
        simp [mVar, mC, mOp, mOpN, mUn, aNil, aCons, toDs, asDs, mCB, mTup, mLst, mIf, mTest, mAnd, mOr, mNot, mAndV, mOrV, mNotV, mChain, fI, fIc, fB, fU, fIx, fCatL, fCatT, fCatS, fAdd, orF, cPos, cDivW, f1, f2, fAbs, fInt, fLen, fMin2, fMax2, mSub, mIn, mLen, mScrIx, mScrLen, mIsi, fIsi, mTuple, mTupleP, mSl, mNoPart, mPart, sNext, sSeq, sAsg, sIf, sRet, sRetN, sDrop, sNever, sSetL, sPar, mYes, mgN, mgNil, mgCons, mgT, toD, toDn, asD, cD, retA, runF, kill, lookA, viewK, viewT, keyOf, ixN, atI0, atI1, atI2, atI3, isIn, mCall, renum, cellsOf, putBack, miSeq, still, miR1, miR2, wipeA, fEqI, fEqL, fEqT, fEqTT, this]) fun y hy => ⟨_, rfl, by simp [mVar, mC, mOp, mOpN, mUn, aNil, aCons, toDs, asDs, mCB, mTup, mLst, mIf, mTest, mAnd, mOr, mNot, mAndV, mOrV, mNotV, mChain, fI, fIc, fB, fU, fIx, fCatL, fCatT, fCatS, fAdd, orF, cPos, cDivW, f1, f2, fAbs, fInt, fLen, fMin2, fMax2, mSub, mIn, mLen, mScrIx, mScrLen, mIsi, fIsi, mTuple, mTupleP, mSl, mNoPart, mPart, sNext, sSeq, sAsg, sIf, sRet, sRetN, sDrop, sNever, sSetL, sPar, mYes, mgN, mgNil, mgCons, mgT, toD, toDn, asD, cD, retA, runF, kill, lookA, viewK, viewT, keyOf, ixN, atI0, atI1, atI2, atI3, isIn, mCall, renum, cellsOf, putBack, miSeq, still, miR1, miR2, wipeA, fEqI, fEqL, fEqT, fEqTT], fun _ => ⟨_, rfl, rfl⟩⟩
    refine seqE (sl1 := slT c one two (some (.dat (.int x))) a9 (some (.dat (.int cu))) (some (.cell 4)) (some (.dat (.int nn))) (some (.dat (.int ss))) (some (.dat (.int (cnt (one ++ two) x)))) none) (c1 := csT b T1 T2 false (some (false, .dK (kp.map ikD)))) ?_ ?_
    · unfold sAsg mLen
      rw [hL]
      simp [mVar, mC, mOp, mOpN, mUn, aNil, aCons, toDs, asDs, mCB, mTup, mLst, mIf, mTest, mAnd, mOr, mNot, mAndV, mOrV, mNotV, mChain, fI, fIc, fB, fU, fIx, fCatL, fCatT, fCatS, fAdd, orF, cPos, cDivW, f1, f2, fAbs, fInt, fLen, fMin2, fMax2, mSub, mIn, mLen, mScrIx, mScrLen, mIsi, fIsi, mTuple, mTupleP, mSl, mNoPart, mPart, sNext, sSeq, sAsg, sIf, sRet, sRetN, sDrop, sNever, sSetL, sPar, mYes, mgN, mgNil, mgCons, mgT, toD, toDn, asD, cD, retA, runF, kill, lookA, viewK, viewT, keyOf, ixN, atI0, atI1, atI2, atI3, isIn, mCall, renum, cellsOf, putBack, miSeq, still, miR1, miR2, wipeA, fEqI, fEqL, fEqT, fEqTT, cnt]
    have v1 := valE (f := []) (g := []) (i := 11) (j := 8) (x := (x : Int)) (T := kp) (k := 4) (sl := slT c one two (some (.dat (.int x))) a9 (some (.dat (.int cu))) (some (.cell 4)) (some (.dat (.int nn))) (some (.dat (.int ss))) (some (.dat (.int (cnt (one ++ two) x)))) none) (cs := csT b T1 T2 false (some (false, .dK (kp.map ikD)))) rfl rfl rfl
    refine seqE (sl1 := slT c one two (some (.dat (.int x))) a9 (some (.dat (.int cu))) (some (.cell 4)) (some (.dat (.int nn))) (some (.dat (.int ss))) (some (.dat (.int (cnt (one ++ two) x)))) (some (.dat (.int (gv kp x))))) (c1 := csT b T1 T2 false (some (false, .dK (kp.map ikD)))) ?_ ?_
    · unfold sAsg
      rw [v1]
      rfl
    have hm : cMul (cnt (one ++ two) x - gv kp x) (c + 1) = true := cMul_okR ⟨by omega, by omega⟩
    have hno : ¬ nn - ss < (cnt (one ++ two) x - gv kp x) * (c + 1) := by omega
    generalize cnt (one ++ two) x = many at *
    generalize gv kp x = count at *
    simp [mVar, mC, mOp, mOpN, mUn, aNil, aCons, toDs, asDs, mCB, mTup, mLst, mIf, mTest, mAnd, mOr, mNot, mAndV, mOrV, mNotV, mChain, fI, fIc, fB, fU, fIx, fCatL, fCatT, fCatS, fAdd, orF, cPos, cDivW, f1, f2, fAbs, fInt, fLen, fMin2, fMax2, mSub, mIn, mLen, mScrIx, mScrLen, mIsi, fIsi, mTuple, mTupleP, mSl, mNoPart, mPart, sNext, sSeq, sAsg, sIf, sRet, sRetN, sDrop, sNever, sSetL, sPar, mYes, mgN, mgNil, mgCons, mgT, toD, toDn, asD, cD, retA, runF, kill, lookA, viewK, viewT, keyOf, ixN, atI0, atI1, atI2, atI3, isIn, mCall, renum, cellsOf, putBack, miSeq, still, miR1, miR2, wipeA, fEqI, fEqL, fEqT, fEqTT, g1, hm, hno]
end
theorem keys_wl (T1 T2 : List (Int × Int)) : (wl T1 T2).length = 5 := by simp [mVar, mC, mOp, mOpN, mUn, aNil, aCons, toDs, asDs, mCB, mTup, mLst, mIf, mTest, mAnd, mOr, mNot, mAndV, mOrV, mNotV, mChain, fI, fIc, fB, fU, fIx, fCatL, fCatT, fCatS, fAdd, orF, cPos, cDivW, f1, f2, fAbs, fInt, fLen, fMin2, fMax2, mSub, mIn, mLen, mScrIx, mScrLen, mIsi, fIsi, mTuple, mTupleP, mSl, mNoPart, mPart, sNext, sSeq, sAsg, sIf, sRet, sRetN, sDrop, sNever, sSetL, sPar, mYes, mgN, mgNil, mgCons, mgT, toD, toDn, asD, cD, retA, runF, kill, lookA, viewK, viewT, keyOf, ixN, atI0, atI1, atI2, atI3, isIn, mCall, renum, cellsOf, putBack, miSeq, still, miR1, miR2, wipeA, fEqI, fEqL, fEqT, fEqTT, wl]
theorem together_ok (d e : Int) : ∃ d' e', M__law_together [.cell 0] [bx d e] = some (.dat (.bool true), [bx d' e']) := by
  have b1 := dr_lt d e (m := 3) (by omega)
  obtain ⟨c, hc⟩ : ∃ c, c = 1 + dr d e 3 := ⟨_, rfl⟩
  have hc3 : 1 ≤ c ∧ c ≤ 3 := by omega
  have hc10 : 1 ≤ c ∧ c ≤ 10 := by omega
  generalize hs : (dd d e 3, de d e 3) = st
  -- a row of draws
  have row : ∀ s : Int × Int, ∃ (r : List Int) (s' : Int × Int), r.length ≤ 11 ∧ (∀ x ∈ r, 0 ≤ x ∧ x < 5) ∧ ∀ sl : Sl, sl[0]? = some (some (.cell 0)) → (∀ x, (wipeA sl [4]).set 4 x = (wipeA sl [4]).set 4 x) → (∀ (x : D), ((wipeA sl [4]).set 4 (some (.dat x)))[0]? = some (some (.cell 0))) → L__law_together_1 sl [bx s.1 s.2, none, none, none, none] = some (.new (.lst (r.map .int)), [bx s'.1 s'.2, none, none, none, none]) := by
    intro s
    have q := dr_lt s.1 s.2 (m := 12) (by omega)
    refine ⟨(drs 5 (dr s.1 s.2 12).toNat (dd s.1 s.2 12, de s.1 s.2 12)).1, (drs 5 (dr s.1 s.2 12).toNat (dd s.1 s.2 12, de s.1 s.2 12)).2, by rw [drs_len]; omega, drs_lt (by omega) _ _, fun sl h0 _ h4 => ?_⟩
    have q2 : dr s.1 s.2 12 ≤ 16777216 := by omega
    have q3 : -1000000 ≤ dr s.1 s.2 12 := by omega
    have h := mLc_drs (mi := miR1 (aCons (mCall 2 M__law_draw (aCons (mVar 0) (aCons (mC (.int 12)) (aNil)))) (aNil))) (mg := mgN 4) (me := mCall 2 M__law_draw (aCons (mVar 0) (aCons (mC (.int 5)) (aNil)))) (vs := [4]) (m := 5) (sl := sl) (cs := [bx s.1 s.2, none, none, none, none]) (C := fun s => [bx s.1 s.2, none, none, none, none]) (l := rng 0 (dr s.1 s.2 12).toNat) (s := (dd s.1 s.2 12, de s.1 s.2 12)) (by simp [mVar, mC, mOp, mOpN, mUn, aNil, aCons, toDs, asDs, mCB, mTup, mLst, mIf, mTest, mAnd, mOr, mNot, mAndV, mOrV, mNotV, mChain, fI, fIc, fB, fU, fIx, fCatL, fCatT, fCatS, fAdd, orF, cPos, cDivW, f1, f2, fAbs, fInt, fLen, fMin2, fMax2, mSub, mIn, mLen, mScrIx, mScrLen, mIsi, fIsi, mTuple, mTupleP, mSl, mNoPart, mPart, sNext, sSeq, sAsg, sIf, sRet, sRetN, sDrop, sNever, sSetL, sPar, mYes, mgN, mgNil, mgCons, mgT, toD, toDn, asD, cD, retA, runF, kill, lookA, viewK, viewT, keyOf, ixN, atI0, atI1, atI2, atI3, isIn, mCall, renum, cellsOf, putBack, miSeq, still, miR1, miR2, wipeA, fEqI, fEqL, fEqT, fEqTT, h0, draw_ok, q2, q3]) fun x s => ⟨_, rfl, by
      simp [mVar, mC, mOp, mOpN, mUn, aNil, aCons, toDs, asDs, mCB, mTup, mLst, mIf, mTest, mAnd, mOr, mNot, mAndV, mOrV, mNotV, mChain, fI, fIc, fB, fU, fIx, fCatL, fCatT, fCatS, fAdd, orF, cPos, cDivW, f1, f2, fAbs, fInt, fLen, fMin2, fMax2, mSub, mIn, mLen, mScrIx, mScrLen, mIsi, fIsi, mTuple, mTupleP, mSl, mNoPart, mPart, sNext, sSeq, sAsg, sIf, sRet, sRetN, sDrop, sNever, sSetL, sPar, mYes, mgN, mgNil, mgCons, mgT, toD, toDn, asD, cD, retA, runF, kill, lookA, viewK, viewT, keyOf, ixN, atI0, atI1, atI2, atI3, isIn, mCall, renum, cellsOf, putBack, miSeq, still, miR1, miR2, wipeA, fEqI, fEqL, fEqT, fEqTT, draw_ok, h0]⟩
    rw [rng_len] at h
    exact h
  obtain ⟨one, s2, l1, i1, r1⟩ := row st
  obtain ⟨two, s3, l2, i2, r2⟩ := row s2
  clear row
  have hcn1 := counted_srt c one hc10 (by omega) fun x hx => by have := i1 x hx; omega
  have hcn2 := counted_srt c two hc10 (by omega) fun x hx => by have := i2 x hx; omega
  have nd1 := srt_nd (c := c) (by omega) one
  have nd2 := srt_nd (c := c) (by omega) two
  have law := merged_law hc3 one two
  generalize srt c one = T1 at *
  generalize srt c two = T2 at *
  simp only at law
  have hV : ((wl T1 T2).map (·.2)).length = 5 := by rw [List.length_map, keys_wl]
  have hiL : (isort ((wl T1 T2).map (·.2))).length = 5 := by rw [(isort_perm _).length_eq, hV]
  generalize hord : (isort ((wl T1 T2).map (·.2))).reverse = ord at law
  have hol : ord.length = 5 := by rw [← hord, List.length_reverse, hiL]
  generalize hcu : ord.getD c.toNat 0 = cu at law
  generalize hkp : cutL cu (wl T1 T2) = kp at law
  have kpn : (kp.map (·.1)).Nodup := by rw [← hkp]; exact cut_nd (wl_nd _ _)
  obtain ⟨H, hlen⟩ := law
  refine ⟨s3.1, s3.2, ?_⟩
  unfold M__law_together
  refine runE (c2 := csT (bx s3.1 s3.2) T1 T2 false (some (false, .dK (kp.map ikD)))) (a := .dat (.bool true)) rfl ?_ rfl rfl
  unfold B__law_together
  show sSeq _ _ [some (.cell 0), none, none, none, none, none, none, none, none, none, none, none, none, none, none, none, none] [bx d e, none, none, none, none] = _
  refine seqE (sl1 := [some (.cell 0), some (.dat (.int c)), none, none, none, none, none, none, none, none, none, none, none, none, none, none, none]) (c1 := [bx st.1 st.2, none, none, none, none]) ?_ ?_
  · subst hs
    simp [mVar, mC, mOp, mOpN, mUn, aNil, aCons, toDs, asDs, mCB, mTup, mLst, mIf, mTest, mAnd, mOr, mNot, mAndV, mOrV, mNotV, mChain, fI, fIc, fB, fU, fIx, fCatL, fCatT, fCatS, fAdd, orF, cPos, cDivW, f1, f2, fAbs, fInt, fLen, fMin2, fMax2, mSub, mIn, mLen, mScrIx, mScrLen, mIsi, fIsi, mTuple, mTupleP, mSl, mNoPart, mPart, sNext, sSeq, sAsg, sIf, sRet, sRetN, sDrop, sNever, sSetL, sPar, mYes, mgN, mgNil, mgCons, mgT, toD, toDn, asD, cD, retA, runF, kill, lookA, viewK, viewT, keyOf, ixN, atI0, atI1, atI2, atI3, isIn, mCall, renum, cellsOf, putBack, miSeq, still, miR1, miR2, wipeA, fEqI, fEqL, fEqT, fEqTT, draw_ok, ← hc]
  have q1 := r1 [some (.cell 0), some (.dat (.int c)), none, none, none, none, none, none, none, none, none, none, none, none, none, none, none] rfl (fun _ => rfl) (fun _ => rfl)
  have q2 := r2 [some (.cell 0), some (.dat (.int c)), none, none, none, none, none, none, none, none, none, none, none, none, none, none, none] rfl (fun _ => rfl) (fun _ => rfl)
  refine seqE (sl1 := [some (.cell 0), some (.dat (.int c)), some (.dat (iT one)), some (.dat (iT two)), none, none, none, none, none, none, none, none, none, none, none, none, none]) (c1 := [bx s3.1 s3.2, none, none, none, none]) (by simp [mVar, mC, mOp, mOpN, mUn, aNil, aCons, toDs, asDs, mCB, mTup, mLst, mIf, mTest, mAnd, mOr, mNot, mAndV, mOrV, mNotV, mChain, fI, fIc, fB, fU, fIx, fCatL, fCatT, fCatS, fAdd, orF, cPos, cDivW, f1, f2, fAbs, fInt, fLen, fMin2, fMax2, mSub, mIn, mLen, mScrIx, mScrLen, mIsi, fIsi, mTuple, mTupleP, mSl, mNoPart, mPart, sNext, sSeq, sAsg, sIf, sRet, sRetN, sDrop, sNever, sSetL, sPar, mYes, mgN, mgNil, mgCons, mgT, toD, toDn, asD, cD, retA, runF, kill, lookA, viewK, viewT, keyOf, ixN, atI0, atI1, atI2, atI3, isIn, mCall, renum, cellsOf, putBack, miSeq, still, miR1, miR2, wipeA, fEqI, fEqL, fEqT, fEqTT, q1, q2]) ?_
  clear q1 q2 r1 r2
  refine seqE (sl1 := [some (.cell 0), some (.dat (.int c)), some (.dat (iT one)), some (.dat (iT two)), none, some (.cell 1), some (.cell 2), none, none, none, none, none, none, none, none, none, none]) (c1 := [bx s3.1 s3.2, some (false, .dK (T1.map ikD)), some (false, .dK (T2.map ikD)), none, none]) (by simp [mVar, mC, mOp, mOpN, mUn, aNil, aCons, toDs, asDs, mCB, mTup, mLst, mIf, mTest, mAnd, mOr, mNot, mAndV, mOrV, mNotV, mChain, fI, fIc, fB, fU, fIx, fCatL, fCatT, fCatS, fAdd, orF, cPos, cDivW, f1, f2, fAbs, fInt, fLen, fMin2, fMax2, mSub, mIn, mLen, mScrIx, mScrLen, mIsi, fIsi, mTuple, mTupleP, mSl, mNoPart, mPart, sNext, sSeq, sAsg, sIf, sRet, sRetN, sDrop, sNever, sSetL, sPar, mYes, mgN, mgNil, mgCons, mgT, toD, toDn, asD, cD, retA, runF, kill, lookA, viewK, viewT, keyOf, ixN, atI0, atI1, atI2, atI3, isIn, mCall, renum, cellsOf, putBack, miSeq, still, miR1, miR2, wipeA, fEqI, fEqL, fEqT, fEqTT, sParN, mDict, hcn1, hcn2, pairs_pD, merge_ik nd1, merge_ik nd2, sPutC, noCell]) ?_
  refine seqE (sl1 := [some (.cell 0), some (.dat (.int c)), some (.dat (iT one)), some (.dat (iT two)), none, some (.cell 1), some (.cell 2), some (.cell 3), none, none, none, none, none, none, none, none, none]) (c1 := [bx s3.1 s3.2, some (false, .dK (T1.map ikD)), some (false, .dK (T2.map ikD)), some (false, .dK []), none]) (by simp [mVar, mC, mOp, mOpN, mUn, aNil, aCons, toDs, asDs, mCB, mTup, mLst, mIf, mTest, mAnd, mOr, mNot, mAndV, mOrV, mNotV, mChain, fI, fIc, fB, fU, fIx, fCatL, fCatT, fCatS, fAdd, orF, cPos, cDivW, f1, f2, fAbs, fInt, fLen, fMin2, fMax2, mSub, mIn, mLen, mScrIx, mScrLen, mIsi, fIsi, mTuple, mTupleP, mSl, mNoPart, mPart, sNext, sSeq, sAsg, sIf, sRet, sRetN, sDrop, sNever, sSetL, sPar, mYes, mgN, mgNil, mgCons, mgT, toD, toDn, asD, cD, retA, runF, kill, lookA, viewK, viewT, keyOf, ixN, atI0, atI1, atI2, atI3, isIn, mCall, renum, cellsOf, putBack, miSeq, still, miR1, miR2, wipeA, fEqI, fEqL, fEqT, fEqTT, sNew, mNewK, sPutC, noCell]) ?_
  refine seqE (tloop2 (x9 := none) (x10 := none) (y := none)) ?_
  have hL3 : L__law_together_3 (slT c one two none none none none none none none none) (csT (bx s3.1 s3.2) T1 T2 true none) = some (.new (.lst ((wl T1 T2).map fun q => .int q.2)), csT (bx s3.1 s3.2) T1 T2 true none) :=
    mLc_map (fun q : Int × Int => PyData.int q.1) _ (wl T1 T2) (by
      have : (wl T1 T2).length ≤ 16777216 := by rw [keys_wl]; omega
      simp [mVar, mC, mOp, mOpN, mUn, aNil, aCons, toDs, asDs, mCB, mTup, mLst, mIf, mTest, mAnd, mOr, mNot, mAndV, mOrV, mNotV, mChain, fI, fIc, fB, fU, fIx, fCatL, fCatT, fCatS, fAdd, orF, cPos, cDivW, f1, f2, fAbs, fInt, fLen, fMin2, fMax2, mSub, mIn, mLen, mScrIx, mScrLen, mIsi, fIsi, mTuple, mTupleP, mSl, mNoPart, mPart, sNext, sSeq, sAsg, sIf, sRet, sRetN, sDrop, sNever, sSetL, sPar, mYes, mgN, mgNil, mgCons, mgT, toD, toDn, asD, cD, retA, runF, kill, lookA, viewK, viewT, keyOf, ixN, atI0, atI1, atI2, atI3, isIn, mCall, renum, cellsOf, putBack, miSeq, still, miR1, miR2, wipeA, fEqI, fEqL, fEqT, fEqTT, miKeys, lockedK, this, ikD, kD]) fun q hq => ⟨_, rfl, rfl, .dat (.int q.2), by
        have hg : getI (wl T1 T2) q.1 = some q.2 := (getI_mem (wl_nd _ _)).mpr hq
        simp [mVar, mC, mOp, mOpN, mUn, aNil, aCons, toDs, asDs, mCB, mTup, mLst, mIf, mTest, mAnd, mOr, mNot, mAndV, mOrV, mNotV, mChain, fI, fIc, fB, fU, fIx, fCatL, fCatT, fCatS, fAdd, orF, cPos, cDivW, f1, f2, fAbs, fInt, fLen, fMin2, fMax2, mSub, mIn, mLen, mScrIx, mScrLen, mIsi, fIsi, mTuple, mTupleP, mSl, mNoPart, mPart, sNext, sSeq, sAsg, sIf, sRet, sRetN, sDrop, sNever, sSetL, sPar, mYes, mgN, mgNil, mgCons, mgT, toD, toDn, asD, cD, retA, runF, kill, lookA, viewK, viewT, keyOf, ixN, atI0, atI1, atI2, atI3, isIn, mCall, renum, cellsOf, putBack, miSeq, still, miR1, miR2, wipeA, fEqI, fEqL, fEqT, fEqTT, look_ik, hg], rfl⟩
  refine seqE (sl1 := slT c one two none (some (.dat (.list (ord.map .int)))) none none none none none none) (c1 := csT (bx s3.1 s3.2) T1 T2 false none) ?_ ?_
  · have hI : intsOf ((wl T1 T2).map fun q => PyData.int q.2) = some ((wl T1 T2).map fun q => q.2) := intsMap (fun q : Int × Int => q.2) _
    have hrev : ((isort ((wl T1 T2).map fun q => q.2)).map PyData.int).reverse = ord.map PyData.int := by rw [← hord, List.map_reverse]
    simp [mVar, mC, mOp, mOpN, mUn, aNil, aCons, toDs, asDs, mCB, mTup, mLst, mIf, mTest, mAnd, mOr, mNot, mAndV, mOrV, mNotV, mChain, fI, fIc, fB, fU, fIx, fCatL, fCatT, fCatS, fAdd, orF, cPos, cDivW, f1, f2, fAbs, fInt, fLen, fMin2, fMax2, mSub, mIn, mLen, mScrIx, mScrLen, mIsi, fIsi, mTuple, mTupleP, mSl, mNoPart, mPart, sNext, sSeq, sAsg, sIf, sRet, sRetN, sDrop, sNever, sSetL, sPar, mYes, mgN, mgNil, mgCons, mgT, toD, toDn, asD, cD, retA, runF, kill, lookA, viewK, viewT, keyOf, ixN, atI0, atI1, atI2, atI3, isIn, mCall, renum, cellsOf, putBack, miSeq, still, miR1, miR2, wipeA, fEqI, fEqL, fEqT, fEqTT, mRevL, mSort, mLock, setLk, hL3, fSortI, hI, fRevL, hrev]
  have hat : atI (ord.map PyData.int) c = some (.int cu) := by
    rw [atI_nn (by omega) (by rw [List.length_map]; omega), List.getElem?_map, ← hcu, List.getD_eq_getElem?_getD]
    have : ord[c.toNat]? = some ord[c.toNat] := List.getElem?_eq_getElem (by omega)
    rw [this]
    rfl
  refine seqE (sl1 := slT c one two none (some (.dat (.list (ord.map .int)))) (some (.dat (.int cu))) none none none none none) (c1 := csT (bx s3.1 s3.2) T1 T2 false none) ?_ ?_
  · have : c < 5 := by omega
    simp [mVar, mC, mOp, mOpN, mUn, aNil, aCons, toDs, asDs, mCB, mTup, mLst, mIf, mTest, mAnd, mOr, mNot, mAndV, mOrV, mNotV, mChain, fI, fIc, fB, fU, fIx, fCatL, fCatT, fCatS, fAdd, orF, cPos, cDivW, f1, f2, fAbs, fInt, fLen, fMin2, fMax2, mSub, mIn, mLen, mScrIx, mScrLen, mIsi, fIsi, mTuple, mTupleP, mSl, mNoPart, mPart, sNext, sSeq, sAsg, sIf, sRet, sRetN, sDrop, sNever, sSetL, sPar, mYes, mgN, mgNil, mgCons, mgT, toD, toDn, asD, cD, retA, runF, kill, lookA, viewK, viewT, keyOf, ixN, atI0, atI1, atI2, atI3, isIn, mCall, renum, cellsOf, putBack, miSeq, still, miR1, miR2, wipeA, fEqI, fEqL, fEqT, fEqTT, hol, this, hat]
  have hL4 : L__law_together_4 (slT c one two none (some (.dat (.list (ord.map .int)))) (some (.dat (.int cu))) none none none none none) (csT (bx s3.1 s3.2) T1 T2 true none) = some (.new (.lst (kp.map pD)), csT (bx s3.1 s3.2) T1 T2 true none) := by
    have h := mLc_filt (mi := miKeys 7) (mg := mgN 8) (mt := mTest (mOp (fB fun i j => decide (j < i)) (mSub (mVar 7) (mVar 8)) (mVar 10))) (me := mTup (aCons (mVar 8) (aCons (mOp (fI fun i j => i - j) (mSub (mVar 7) (mVar 8)) (mVar 10)) (aNil)))) (vs := [8]) (sl := slT c one two none (some (.dat (.list (ord.map .int)))) (some (.dat (.int cu))) none none none none none) (cs := csT (bx s3.1 s3.2) T1 T2 true none) (c1 := csT (bx s3.1 s3.2) T1 T2 true none)
      (fun q : Int × Int => PyData.int q.1) (fun q => pD (q.1, q.2 - cu)) (fun q => decide (cu < q.2)) (wl T1 T2) (by
      have : (wl T1 T2).length ≤ 16777216 := by rw [keys_wl]; omega
      simp [mVar, mC, mOp, mOpN, mUn, aNil, aCons, toDs, asDs, mCB, mTup, mLst, mIf, mTest, mAnd, mOr, mNot, mAndV, mOrV, mNotV, mChain, fI, fIc, fB, fU, fIx, fCatL, fCatT, fCatS, fAdd, orF, cPos, cDivW, f1, f2, fAbs, fInt, fLen, fMin2, fMax2, mSub, mIn, mLen, mScrIx, mScrLen, mIsi, fIsi, mTuple, mTupleP, mSl, mNoPart, mPart, sNext, sSeq, sAsg, sIf, sRet, sRetN, sDrop, sNever, sSetL, sPar, mYes, mgN, mgNil, mgCons, mgT, toD, toDn, asD, cD, retA, runF, kill, lookA, viewK, viewT, keyOf, ixN, atI0, atI1, atI2, atI3, isIn, mCall, renum, cellsOf, putBack, miSeq, still, miR1, miR2, wipeA, fEqI, fEqL, fEqT, fEqTT, miKeys, lockedK, this, ikD, kD]) fun q hq => by
        have hg : getI (wl T1 T2) q.1 = some q.2 := (getI_mem (wl_nd _ _)).mpr hq
        exact ⟨_, rfl, by simp [mVar, mC, mOp, mOpN, mUn, aNil, aCons, toDs, asDs, mCB, mTup, mLst, mIf, mTest, mAnd, mOr, mNot, mAndV, mOrV, mNotV, mChain, fI, fIc, fB, fU, fIx, fCatL, fCatT, fCatS, fAdd, orF, cPos, cDivW, f1, f2, fAbs, fInt, fLen, fMin2, fMax2, mSub, mIn, mLen, mScrIx, mScrLen, mIsi, fIsi, mTuple, mTupleP, mSl, mNoPart, mPart, sNext, sSeq, sAsg, sIf, sRet, sRetN, sDrop, sNever, sSetL, sPar, mYes, mgN, mgNil, mgCons, mgT, toD, toDn, asD, cD, retA, runF, kill, lookA, viewK, viewT, keyOf, ixN, atI0, atI1, atI2, atI3, isIn, mCall, renum, cellsOf, putBack, miSeq, still, miR1, miR2, wipeA, fEqI, fEqL, fEqT, fEqTT, look_ik, hg], fun _ => ⟨.dat (pD (q.1, q.2 - cu)), by simp [mVar, mC, mOp, mOpN, mUn, aNil, aCons, toDs, asDs, mCB, mTup, mLst, mIf, mTest, mAnd, mOr, mNot, mAndV, mOrV, mNotV, mChain, fI, fIc, fB, fU, fIx, fCatL, fCatT, fCatS, fAdd, orF, cPos, cDivW, f1, f2, fAbs, fInt, fLen, fMin2, fMax2, mSub, mIn, mLen, mScrIx, mScrLen, mIsi, fIsi, mTuple, mTupleP, mSl, mNoPart, mPart, sNext, sSeq, sAsg, sIf, sRet, sRetN, sDrop, sNever, sSetL, sPar, mYes, mgN, mgNil, mgCons, mgT, toD, toDn, asD, cD, retA, runF, kill, lookA, viewK, viewT, keyOf, ixN, atI0, atI1, atI2, atI3, isIn, mCall, renum, cellsOf, putBack, miSeq, still, miR1, miR2, wipeA, fEqI, fEqL, fEqT, fEqTT, look_ik, hg, pD], rfl⟩⟩
    rw [← hkp]
    unfold cutL
    rw [List.map_map]
    exact h
  refine seqE (sl1 := slT c one two none (some (.dat (.list (ord.map .int)))) (some (.dat (.int cu))) (some (.cell 4)) none none none none) (c1 := csT (bx s3.1 s3.2) T1 T2 false (some (false, .dK (kp.map ikD)))) (by simp [mVar, mC, mOp, mOpN, mUn, aNil, aCons, toDs, asDs, mCB, mTup, mLst, mIf, mTest, mAnd, mOr, mNot, mAndV, mOrV, mNotV, mChain, fI, fIc, fB, fU, fIx, fCatL, fCatT, fCatS, fAdd, orF, cPos, cDivW, f1, f2, fAbs, fInt, fLen, fMin2, fMax2, mSub, mIn, mLen, mScrIx, mScrLen, mIsi, fIsi, mTuple, mTupleP, mSl, mNoPart, mPart, sNext, sSeq, sAsg, sIf, sRet, sRetN, sDrop, sNever, sSetL, sPar, mYes, mgN, mgNil, mgCons, mgT, toD, toDn, asD, cD, retA, runF, kill, lookA, viewK, viewT, keyOf, ixN, atI0, atI1, atI2, atI3, isIn, mCall, renum, cellsOf, putBack, miSeq, still, miR1, miR2, wipeA, fEqI, fEqL, fEqT, fEqTT, sNew, mDict, mLock, setLk, hL4, pairs_pD, merge_ik kpn, sPutC, noCell]) ?_
  have hL5 : L__law_together_5 (slT c one two none (some (.dat (.list (ord.map .int)))) (some (.dat (.int cu))) (some (.cell 4)) none none none none) (csT (bx s3.1 s3.2) T1 T2 false (some (true, .dK (kp.map ikD)))) = some (.new (.lst (kp.map fun q => .int q.2)), csT (bx s3.1 s3.2) T1 T2 false (some (true, .dK (kp.map ikD)))) :=
    mLc_map (fun q : Int × Int => PyData.int q.1) _ kp (by
      have : kp.length ≤ 16777216 := by omega
      simp [mVar, mC, mOp, mOpN, mUn, aNil, aCons, toDs, asDs, mCB, mTup, mLst, mIf, mTest, mAnd, mOr, mNot, mAndV, mOrV, mNotV, mChain, fI, fIc, fB, fU, fIx, fCatL, fCatT, fCatS, fAdd, orF, cPos, cDivW, f1, f2, fAbs, fInt, fLen, fMin2, fMax2, mSub, mIn, mLen, mScrIx, mScrLen, mIsi, fIsi, mTuple, mTupleP, mSl, mNoPart, mPart, sNext, sSeq, sAsg, sIf, sRet, sRetN, sDrop, sNever, sSetL, sPar, mYes, mgN, mgNil, mgCons, mgT, toD, toDn, asD, cD, retA, runF, kill, lookA, viewK, viewT, keyOf, ixN, atI0, atI1, atI2, atI3, isIn, mCall, renum, cellsOf, putBack, miSeq, still, miR1, miR2, wipeA, fEqI, fEqL, fEqT, fEqTT, miKeys, lockedK, this, ikD, kD]) fun q hq => ⟨_, rfl, rfl, .dat (.int q.2), by
        have hg : getI kp q.1 = some q.2 := (getI_mem kpn).mpr hq
        simp [mVar, mC, mOp, mOpN, mUn, aNil, aCons, toDs, asDs, mCB, mTup, mLst, mIf, mTest, mAnd, mOr, mNot, mAndV, mOrV, mNotV, mChain, fI, fIc, fB, fU, fIx, fCatL, fCatT, fCatS, fAdd, orF, cPos, cDivW, f1, f2, fAbs, fInt, fLen, fMin2, fMax2, mSub, mIn, mLen, mScrIx, mScrLen, mIsi, fIsi, mTuple, mTupleP, mSl, mNoPart, mPart, sNext, sSeq, sAsg, sIf, sRet, sRetN, sDrop, sNever, sSetL, sPar, mYes, mgN, mgNil, mgCons, mgT, toD, toDn, asD, cD, retA, runF, kill, lookA, viewK, viewT, keyOf, ixN, atI0, atI1, atI2, atI3, isIn, mCall, renum, cellsOf, putBack, miSeq, still, miR1, miR2, wipeA, fEqI, fEqL, fEqT, fEqTT, look_ik, hg], rfl⟩
  refine seqE (sl1 := slT c one two none (some (.dat (.list (ord.map .int)))) (some (.dat (.int cu))) (some (.cell 4)) (some (.dat (.int ((one.length : Int) + two.length)))) (some (.dat (.int (sumV kp)))) none none) (c1 := csT (bx s3.1 s3.2) T1 T2 false (some (false, .dK (kp.map ikD)))) ?_ ?_
  · have hI : intsOf (kp.map fun q => PyData.int q.2) = some (kp.map fun q => q.2) := intsMap (fun q : Int × Int => q.2) _
    simp [mVar, mC, mOp, mOpN, mUn, aNil, aCons, toDs, asDs, mCB, mTup, mLst, mIf, mTest, mAnd, mOr, mNot, mAndV, mOrV, mNotV, mChain, fI, fIc, fB, fU, fIx, fCatL, fCatT, fCatS, fAdd, orF, cPos, cDivW, f1, f2, fAbs, fInt, fLen, fMin2, fMax2, mSub, mIn, mLen, mScrIx, mScrLen, mIsi, fIsi, mTuple, mTupleP, mSl, mNoPart, mPart, sNext, sSeq, sAsg, sIf, sRet, sRetN, sDrop, sNever, sSetL, sPar, mYes, mgN, mgNil, mgCons, mgT, toD, toDn, asD, cD, retA, runF, kill, lookA, viewK, viewT, keyOf, ixN, atI0, atI1, atI2, atI3, isIn, mCall, renum, cellsOf, putBack, miSeq, still, miR1, miR2, wipeA, fEqI, fEqL, fEqT, fEqTT, mLock, setLk, hL5, fSumU, hI, sumV]
  obtain ⟨a8, h7⟩ := tloop7 (b := bx s3.1 s3.2) (T1 := T1) (T2 := T2) (a9 := some (.dat (.list (ord.map .int)))) (T3 := none) (cu := cu) (nn := (one.length : Int) + two.length) (ss := sumV kp) (by omega) (by omega) hc3 H
  refine seqE h7 ?_
  simp [mVar, mC, mOp, mOpN, mUn, aNil, aCons, toDs, asDs, mCB, mTup, mLst, mIf, mTest, mAnd, mOr, mNot, mAndV, mOrV, mNotV, mChain, fI, fIc, fB, fU, fIx, fCatL, fCatT, fCatS, fAdd, orF, cPos, cDivW, f1, f2, fAbs, fInt, fLen, fMin2, fMax2, mSub, mIn, mLen, mScrIx, mScrLen, mIsi, fIsi, mTuple, mTupleP, mSl, mNoPart, mPart, sNext, sSeq, sAsg, sIf, sRet, sRetN, sDrop, sNever, sSetL, sPar, mYes, mgN, mgNil, mgCons, mgT, toD, toDn, asD, cD, retA, runF, kill, lookA, viewK, viewT, keyOf, ixN, atI0, atI1, atI2, atI3, isIn, mCall, renum, cellsOf, putBack, miSeq, still, miR1, miR2, wipeA, fEqI, fEqL, fEqT, fEqTT, hlen]
end Rf

namespace Rf
open PySem L2
/-! ### boards: what counts can stand behind one -/
def num (p : Int → Bool) (l : List Int) : Int := (l.filter p).length
theorem num_nil (p : Int → Bool) : num p [] = 0 := rfl
theorem num_cons (p : Int → Bool) (a : Int) (l : List Int) : num p (a :: l) = (if p a = true then 1 else 0) + num p l := by
  unfold num
  by_cases h : p a = true
  · simp [mVar, mC, mOp, mOpN, mUn, aNil, aCons, toDs, asDs, mCB, mTup, mLst, mIf, mTest, mAnd, mOr, mNot, mAndV, mOrV, mNotV, mChain, fI, fIc, fB, fU, fIx, fCatL, fCatT, fCatS, fAdd, orF, cPos, cDivW, f1, f2, fAbs, fInt, fLen, fMin2, fMax2, mSub, mIn, mLen, mScrIx, mScrLen, mIsi, fIsi, mTuple, mTupleP, mSl, mNoPart, mPart, sNext, sSeq, sAsg, sIf, sRet, sRetN, sDrop, sNever, sSetL, sPar, mYes, mgN, mgNil, mgCons, mgT, toD, toDn, asD, cD, retA, runF, kill, lookA, viewK, viewT, keyOf, ixN, atI0, atI1, atI2, atI3, isIn, mCall, renum, cellsOf, putBack, miSeq, still, miR1, miR2, wipeA, fEqI, fEqL, fEqT, fEqTT, h]; omega
  · simp [mVar, mC, mOp, mOpN, mUn, aNil, aCons, toDs, asDs, mCB, mTup, mLst, mIf, mTest, mAnd, mOr, mNot, mAndV, mOrV, mNotV, mChain, fI, fIc, fB, fU, fIx, fCatL, fCatT, fCatS, fAdd, orF, cPos, cDivW, f1, f2, fAbs, fInt, fLen, fMin2, fMax2, mSub, mIn, mLen, mScrIx, mScrLen, mIsi, fIsi, mTuple, mTupleP, mSl, mNoPart, mPart, sNext, sSeq, sAsg, sIf, sRet, sRetN, sDrop, sNever, sSetL, sPar, mYes, mgN, mgNil, mgCons, mgT, toD, toDn, asD, cD, retA, runF, kill, lookA, viewK, viewT, keyOf, ixN, atI0, atI1, atI2, atI3, isIn, mCall, renum, cellsOf, putBack, miSeq, still, miR1, miR2, wipeA, fEqI, fEqL, fEqT, fEqTT, h]
theorem num_app (p : Int → Bool) (l m : List Int) : num p (l ++ m) = num p l + num p m := by
  unfold num
  rw [List.filter_append, List.length_append]
  omega
theorem num_perm {p : Int → Bool} {l m : List Int} (h : l.Perm m) : num p l = num p m := by
  unfold num
  rw [(h.filter p).length_eq]
theorem num_nn (p : Int → Bool) (l : List Int) : 0 ≤ num p l := by unfold num; omega
theorem num_le (p : Int → Bool) (l : List Int) : num p l ≤ l.length := by
  unfold num
  have := List.length_filter_le p l
  omega
theorem num_two (p q : Int → Bool) : ∀ l : List Int, num (fun z => p z && q z) l ≤ num p l ∧ num (fun z => p z && q z) l ≤ num q l ∧ num p l + num q l - num (fun z => p z && q z) l ≤ l.length
  | [] => by simp [mVar, mC, mOp, mOpN, mUn, aNil, aCons, toDs, asDs, mCB, mTup, mLst, mIf, mTest, mAnd, mOr, mNot, mAndV, mOrV, mNotV, mChain, fI, fIc, fB, fU, fIx, fCatL, fCatT, fCatS, fAdd, orF, cPos, cDivW, f1, f2, fAbs, fInt, fLen, fMin2, fMax2, mSub, mIn, mLen, mScrIx, mScrLen, mIsi, fIsi, mTuple, mTupleP, mSl, mNoPart, mPart, sNext, sSeq, sAsg, sIf, sRet, sRetN, sDrop, sNever, sSetL, sPar, mYes, mgN, mgNil, mgCons, mgT, toD, toDn, asD, cD, retA, runF, kill, lookA, viewK, viewT, keyOf, ixN, atI0, atI1, atI2, atI3, isIn, mCall, renum, cellsOf, putBack, miSeq, still, miR1, miR2, wipeA, fEqI, fEqL, fEqT, fEqTT, num_nil]
  | a :: r => by
    have ih := num_two p q r
    simp only [num_cons, List.length_cons]
    cases p a <;> cases q a <;> simp [mVar, mC, mOp, mOpN, mUn, aNil, aCons, toDs, asDs, mCB, mTup, mLst, mIf, mTest, mAnd, mOr, mNot, mAndV, mOrV, mNotV, mChain, fI, fIc, fB, fU, fIx, fCatL, fCatT, fCatS, fAdd, orF, cPos, cDivW, f1, f2, fAbs, fInt, fLen, fMin2, fMax2, mSub, mIn, mLen, mScrIx, mScrLen, mIsi, fIsi, mTuple, mTupleP, mSl, mNoPart, mPart, sNext, sSeq, sAsg, sIf, sRet, sRetN, sDrop, sNever, sSetL, sPar, mYes, mgN, mgNil, mgCons, mgT, toD, toDn, asD, cD, retA, runF, kill, lookA, viewK, viewT, keyOf, ixN, atI0, atI1, atI2, atI3, isIn, mCall, renum, cellsOf, putBack, miSeq, still, miR1, miR2, wipeA, fEqI, fEqL, fEqT, fEqTT] <;> omega
theorem num_congr {p q : Int → Bool} : ∀ {l : List Int}, (∀ x ∈ l, p x = q x) → num p l = num q l
  | [], _ => rfl
  | a :: r, h => by rw [num_cons, num_cons, h a List.mem_cons_self, num_congr fun x hx => h x (List.mem_cons_of_mem _ hx)]
theorem num_zero {p : Int → Bool} {l : List Int} (h : ∀ x ∈ l, p x = false) : num p l = 0 := by
  unfold num
  rw [List.filter_eq_nil_iff.mpr fun x hx => by rw [h x hx]; exact Bool.false_ne_true]
  rfl
theorem num_all {p : Int → Bool} {l : List Int} (h : ∀ x ∈ l, p x = true) : num p l = l.length := by
  unfold num
  rw [List.filter_eq_self.mpr h]
theorem cellN_num (row : List Int) (m : Int) (i : Nat) : cellN row (1, 0, m) i = num (fun x => decide (x % m = (i : Int))) row := by
  unfold cellN num
  simp [mVar, mC, mOp, mOpN, mUn, aNil, aCons, toDs, asDs, mCB, mTup, mLst, mIf, mTest, mAnd, mOr, mNot, mAndV, mOrV, mNotV, mChain, fI, fIc, fB, fU, fIx, fCatL, fCatT, fCatS, fAdd, orF, cPos, cDivW, f1, f2, fAbs, fInt, fLen, fMin2, fMax2, mSub, mIn, mLen, mScrIx, mScrLen, mIsi, fIsi, mTuple, mTupleP, mSl, mNoPart, mPart, sNext, sSeq, sAsg, sIf, sRet, sRetN, sDrop, sNever, sSetL, sPar, mYes, mgN, mgNil, mgCons, mgT, toD, toDn, asD, cD, retA, runF, kill, lookA, viewK, viewT, keyOf, ixN, atI0, atI1, atI2, atI3, isIn, mCall, renum, cellsOf, putBack, miSeq, still, miR1, miR2, wipeA, fEqI, fEqL, fEqT, fEqTT]
theorem cnt_num (row : List Int) (x : Int) : cnt row x = num (fun y => decide (y = x)) row := rfl
/-- a coprime pair, with its mending -/
structure Crt (v w : Int) (f : Int → Int → Int) : Prop where
  vp : 0 < v
  wp : 0 < w
  lo : ∀ a b, 0 ≤ f a b ∧ f a b < v * w
  fv : ∀ a b, f a b % v = a % v
  fw : ∀ a b, f a b % w = b % w
  inj : ∀ x y, 0 ≤ x → x < v * w → 0 ≤ y → y < v * w → x % v = y % v → x % w = y % w → x = y
theorem crt23 : Crt 2 3 fun a b => (a * 3 + b * 4) % 6 := ⟨by omega, by omega, fun a b => by omega, fun a b => by omega, fun a b => by omega, fun x y => by omega⟩
theorem crt32 : Crt 3 2 fun a b => (a * 4 + b * 3) % 6 := ⟨by omega, by omega, fun a b => by omega, fun a b => by omega, fun a b => by omega, fun x y => by omega⟩
theorem crt25 : Crt 2 5 fun a b => (a * 5 + b * 6) % 10 := ⟨by omega, by omega, fun a b => by omega, fun a b => by omega, fun a b => by omega, fun x y => by omega⟩
theorem crt34 : Crt 3 4 fun a b => (a * 4 + b * 9) % 12 := ⟨by omega, by omega, fun a b => by omega, fun a b => by omega, fun a b => by omega, fun x y => by omega⟩
theorem zip_num {f : Int → Int → Int} {p q : Int → Bool} (h : ∀ a b, p (f a b) = q a) : ∀ {l m : List Int}, l.length = m.length → num p ((l.zip m).map fun z => f z.1 z.2) = num q l
  | [], [], _ => rfl
  | a :: l, b :: m, e => by
    rw [List.zip_cons_cons, List.map_cons, num_cons, num_cons, h, zip_num h (by simpa [mVar, mC, mOp, mOpN, mUn, aNil, aCons, toDs, asDs, mCB, mTup, mLst, mIf, mTest, mAnd, mOr, mNot, mAndV, mOrV, mNotV, mChain, fI, fIc, fB, fU, fIx, fCatL, fCatT, fCatS, fAdd, orF, cPos, cDivW, f1, f2, fAbs, fInt, fLen, fMin2, fMax2, mSub, mIn, mLen, mScrIx, mScrLen, mIsi, fIsi, mTuple, mTupleP, mSl, mNoPart, mPart, sNext, sSeq, sAsg, sIf, sRet, sRetN, sDrop, sNever, sSetL, sPar, mYes, mgN, mgNil, mgCons, mgT, toD, toDn, asD, cD, retA, runF, kill, lookA, viewK, viewT, keyOf, ixN, atI0, atI1, atI2, atI3, isIn, mCall, renum, cellsOf, putBack, miSeq, still, miR1, miR2, wipeA, fEqI, fEqL, fEqT, fEqTT] using e)]
  | [], _ :: _, e => by cases e
  | _ :: _, [], e => by cases e
theorem zip_numR {f : Int → Int → Int} {p q : Int → Bool} (h : ∀ a b, p (f a b) = q b) : ∀ {l m : List Int}, l.length = m.length → num p ((l.zip m).map fun z => f z.1 z.2) = num q m
  | [], [], _ => rfl
  | a :: l, b :: m, e => by
    rw [List.zip_cons_cons, List.map_cons, num_cons, num_cons, h, zip_numR h (by simpa [mVar, mC, mOp, mOpN, mUn, aNil, aCons, toDs, asDs, mCB, mTup, mLst, mIf, mTest, mAnd, mOr, mNot, mAndV, mOrV, mNotV, mChain, fI, fIc, fB, fU, fIx, fCatL, fCatT, fCatS, fAdd, orF, cPos, cDivW, f1, f2, fAbs, fInt, fLen, fMin2, fMax2, mSub, mIn, mLen, mScrIx, mScrLen, mIsi, fIsi, mTuple, mTupleP, mSl, mNoPart, mPart, sNext, sSeq, sAsg, sIf, sRet, sRetN, sDrop, sNever, sSetL, sPar, mYes, mgN, mgNil, mgCons, mgT, toD, toDn, asD, cD, retA, runF, kill, lookA, viewK, viewT, keyOf, ixN, atI0, atI1, atI2, atI3, isIn, mCall, renum, cellsOf, putBack, miSeq, still, miR1, miR2, wipeA, fEqI, fEqL, fEqT, fEqTT] using e)]
  | [], _ :: _, e => by cases e
  | _ :: _, [], e => by cases e
section
variable {v w : Int} {f : Int → Int → Int}
theorem Crt.is (C : Crt v w f) {x : Int} (hx : 0 ≤ x ∧ x < v * w) (y : Int) (hy : 0 ≤ y ∧ y < v * w) : decide (y = x) = (decide (y % v = x % v) && decide (y % w = x % w)) := by
  rw [Bool.eq_iff_iff, Bool.and_eq_true, decide_eq_true_iff, decide_eq_true_iff, decide_eq_true_iff]
  exact ⟨fun e => by rw [e]; exact ⟨rfl, rfl⟩, fun e => C.inj y x hy.1 hy.2 hx.1 hx.2 e.1 e.2⟩
theorem Crt.bounds (C : Crt v w f) {x : Int} (hx : 0 ≤ x ∧ x < v * w) {o : List Int} (ho : ∀ y ∈ o, 0 ≤ y ∧ y < v * w) :
    cnt o x ≤ num (fun y => decide (y % v = x % v)) o ∧ cnt o x ≤ num (fun y => decide (y % w = x % w)) o ∧ num (fun y => decide (y % v = x % v)) o + num (fun y => decide (y % w = x % w)) o - cnt o x ≤ o.length := by
  rw [cnt_num, num_congr fun y hy => C.is hx y (ho y hy)]
  exact num_two _ _ o
theorem Crt.make (C : Crt v w f) {x : Int} (hx : 0 ≤ x ∧ x < v * w) {row : List Int} {k : Nat}
    (h1 : (k : Int) ≤ num (fun y => decide (y % v = x % v)) row) (h2 : (k : Int) ≤ num (fun y => decide (y % w = x % w)) row) (h3 : num (fun y => decide (y % v = x % v)) row + num (fun y => decide (y % w = x % w)) row - k ≤ row.length) :
    ∃ o : List Int, o.length = row.length ∧ (∀ y ∈ o, 0 ≤ y ∧ y < v * w) ∧ (∀ i : Int, num (fun y => decide (y % v = i)) o = num (fun y => decide (y % v = i)) row) ∧ (∀ i : Int, num (fun y => decide (y % w = i)) o = num (fun y => decide (y % w = i)) row) ∧ cnt o x = k := by
  let p : Int → Bool := fun y => decide (y % v = x % v)
  let q : Int → Bool := fun y => decide (y % w = x % w)
  let P := row.filter p
  let P' := row.filter fun y => !p y
  let Q := row.filter q
  let Q' := row.filter fun y => !q y
  have hP : (P ++ P').Perm row := List.filter_append_perm p row
  have hQ : (Q ++ Q').Perm row := List.filter_append_perm q row
  have hPl : (P.length : Int) = num p row := rfl
  have hQl : (Q.length : Int) = num q row := rfl
  have hPs := hP.length_eq
  have hQs := hQ.length_eq
  rw [List.length_append] at hPs hQs
  have k1 : k ≤ P.length := by have : (k : Int) ≤ num p row := h1; omega
  have k2 : k ≤ Q.length := by have : (k : Int) ≤ num q row := h2; omega
  have k3 : P.length - k ≤ Q'.length := by have : num p row + num q row - k ≤ row.length := h3; omega
  -- the other residues in a new order
  let J1 := Q.take k ++ Q'.take (P.length - k)
  let J2 := Q'.drop (P.length - k) ++ Q.drop k
  have l1 : J1.length = P.length := by simp only [J1, List.length_append, List.length_take]; omega
  have l2 : J2.length = P'.length := by simp only [J2, List.length_append, List.length_drop]; omega
  have hJ : (J1 ++ J2).Perm row := by
    have e : J1 ++ J2 = Q.take k ++ (Q' ++ Q.drop k) := by
      show (Q.take k ++ Q'.take (P.length - k)) ++ (Q'.drop (P.length - k) ++ Q.drop k) = _
      rw [List.append_assoc, ← List.append_assoc (Q'.take (P.length - k)), List.take_append_drop]
    rw [e]
    refine List.Perm.trans ?_ hQ
    refine ((List.perm_append_comm (l₁ := Q') (l₂ := Q.drop k)).append_left (Q.take k)).trans ?_
    rw [← List.append_assoc, List.take_append_drop]
  have ll : (P ++ P').length = (J1 ++ J2).length := by rw [List.length_append, List.length_append]; omega
  refine ⟨((P ++ P').zip (J1 ++ J2)).map fun z => f z.1 z.2, ?_, ?_, ?_, ?_, ?_⟩
  · rw [List.length_map, List.length_zip, ← ll, Nat.min_self, hP.length_eq]
  · intro y hy
    obtain ⟨z, _, rfl⟩ := List.mem_map.mp hy
    exact C.lo _ _
  · intro i
    rw [zip_num (q := fun y => decide (y % v = i)) (fun a b => by rw [C.fv]) ll, num_perm hP]
  · intro i
    rw [zip_numR (q := fun y => decide (y % w = i)) (fun a b => by rw [C.fw]) ll, num_perm hJ]
  · rw [cnt_num, List.zip_append l1.symm, List.map_append, num_app]
    have pa : ∀ a ∈ P, a % v = x % v := fun a ha => of_decide_eq_true (List.mem_filter.mp ha).2
    have pb : ∀ a ∈ P', ¬ a % v = x % v := fun a ha e => by
      have := (List.mem_filter.mp ha).2
      simp [mVar, mC, mOp, mOpN, mUn, aNil, aCons, toDs, asDs, mCB, mTup, mLst, mIf, mTest, mAnd, mOr, mNot, mAndV, mOrV, mNotV, mChain, fI, fIc, fB, fU, fIx, fCatL, fCatT, fCatS, fAdd, orF, cPos, cDivW, f1, f2, fAbs, fInt, fLen, fMin2, fMax2, mSub, mIn, mLen, mScrIx, mScrLen, mIsi, fIsi, mTuple, mTupleP, mSl, mNoPart, mPart, sNext, sSeq, sAsg, sIf, sRet, sRetN, sDrop, sNever, sSetL, sPar, mYes, mgN, mgNil, mgCons, mgT, toD, toDn, asD, cD, retA, runF, kill, lookA, viewK, viewT, keyOf, ixN, atI0, atI1, atI2, atI3, isIn, mCall, renum, cellsOf, putBack, miSeq, still, miR1, miR2, wipeA, fEqI, fEqL, fEqT, fEqTT, p, e] at this
    have e1 : num (fun y => decide (y = x)) ((P.zip J1).map fun z => f z.1 z.2) = num q J1 := by
      have : num (fun y => decide (y = x)) ((P.zip J1).map fun z => f z.1 z.2) = num q ((P.zip J1).map fun z => f z.1 z.2) := by
        refine num_congr fun y hy => ?_
        obtain ⟨z, hz, rfl⟩ := List.mem_map.mp hy
        rw [C.is hx _ (C.lo _ _), C.fv, pa z.1 (List.of_mem_zip hz).1]
        simp [mVar, mC, mOp, mOpN, mUn, aNil, aCons, toDs, asDs, mCB, mTup, mLst, mIf, mTest, mAnd, mOr, mNot, mAndV, mOrV, mNotV, mChain, fI, fIc, fB, fU, fIx, fCatL, fCatT, fCatS, fAdd, orF, cPos, cDivW, f1, f2, fAbs, fInt, fLen, fMin2, fMax2, mSub, mIn, mLen, mScrIx, mScrLen, mIsi, fIsi, mTuple, mTupleP, mSl, mNoPart, mPart, sNext, sSeq, sAsg, sIf, sRet, sRetN, sDrop, sNever, sSetL, sPar, mYes, mgN, mgNil, mgCons, mgT, toD, toDn, asD, cD, retA, runF, kill, lookA, viewK, viewT, keyOf, ixN, atI0, atI1, atI2, atI3, isIn, mCall, renum, cellsOf, putBack, miSeq, still, miR1, miR2, wipeA, fEqI, fEqL, fEqT, fEqTT, q]
      rw [this]
      exact zip_numR (fun a b => by simp only [q]; rw [C.fw]) l1.symm
    have e2 : num (fun y => decide (y = x)) ((P'.zip J2).map fun z => f z.1 z.2) = 0 := by
      refine num_zero fun y hy => ?_
      obtain ⟨z, hz, rfl⟩ := List.mem_map.mp hy
      rw [C.is hx _ (C.lo _ _), C.fv]
      simp [mVar, mC, mOp, mOpN, mUn, aNil, aCons, toDs, asDs, mCB, mTup, mLst, mIf, mTest, mAnd, mOr, mNot, mAndV, mOrV, mNotV, mChain, fI, fIc, fB, fU, fIx, fCatL, fCatT, fCatS, fAdd, orF, cPos, cDivW, f1, f2, fAbs, fInt, fLen, fMin2, fMax2, mSub, mIn, mLen, mScrIx, mScrLen, mIsi, fIsi, mTuple, mTupleP, mSl, mNoPart, mPart, sNext, sSeq, sAsg, sIf, sRet, sRetN, sDrop, sNever, sSetL, sPar, mYes, mgN, mgNil, mgCons, mgT, toD, toDn, asD, cD, retA, runF, kill, lookA, viewK, viewT, keyOf, ixN, atI0, atI1, atI2, atI3, isIn, mCall, renum, cellsOf, putBack, miSeq, still, miR1, miR2, wipeA, fEqI, fEqL, fEqT, fEqTT, pb z.1 (List.of_mem_zip hz).1]
    have e3 : num q J1 = k := by
      show num q (Q.take k ++ Q'.take (P.length - k)) = k
      rw [num_app, num_all fun y hy => (List.mem_filter.mp (List.mem_of_mem_take hy)).2, num_zero fun y hy => ?_, List.length_take]
      · have k2' : k ≤ (row.filter q).length := k2
        show (((min k (row.filter q).length : Nat) : Int) + 0) = k
        omega
      · have := (List.mem_filter.mp (List.mem_of_mem_take hy)).2
        simpa [mVar, mC, mOp, mOpN, mUn, aNil, aCons, toDs, asDs, mCB, mTup, mLst, mIf, mTest, mAnd, mOr, mNot, mAndV, mOrV, mNotV, mChain, fI, fIc, fB, fU, fIx, fCatL, fCatT, fCatS, fAdd, orF, cPos, cDivW, f1, f2, fAbs, fInt, fLen, fMin2, fMax2, mSub, mIn, mLen, mScrIx, mScrLen, mIsi, fIsi, mTuple, mTupleP, mSl, mNoPart, mPart, sNext, sSeq, sAsg, sIf, sRet, sRetN, sDrop, sNever, sSetL, sPar, mYes, mgN, mgNil, mgCons, mgT, toD, toDn, asD, cD, retA, runF, kill, lookA, viewK, viewT, keyOf, ixN, atI0, atI1, atI2, atI3, isIn, mCall, renum, cellsOf, putBack, miSeq, still, miR1, miR2, wipeA, fEqI, fEqL, fEqT, fEqTT] using this
    rw [e1, e2, e3]
    omega
end

/-! ### rows in order -/
theorem cho_mem (m : Nat) : ∀ (n : Nat) (l : List Int), l.length = n → l.Pairwise (· ≤ ·) → (∀ x ∈ l, 0 ≤ x ∧ x < m) → l ∈ choF m n := by
  intro n
  induction n with
  | zero => intro l h _ _; rw [List.eq_nil_of_length_eq_zero h]; simp [mVar, mC, mOp, mOpN, mUn, aNil, aCons, toDs, asDs, mCB, mTup, mLst, mIf, mTest, mAnd, mOr, mNot, mAndV, mOrV, mNotV, mChain, fI, fIc, fB, fU, fIx, fCatL, fCatT, fCatS, fAdd, orF, cPos, cDivW, f1, f2, fAbs, fInt, fLen, fMin2, fMax2, mSub, mIn, mLen, mScrIx, mScrLen, mIsi, fIsi, mTuple, mTupleP, mSl, mNoPart, mPart, sNext, sSeq, sAsg, sIf, sRet, sRetN, sDrop, sNever, sSetL, sPar, mYes, mgN, mgNil, mgCons, mgT, toD, toDn, asD, cD, retA, runF, kill, lookA, viewK, viewT, keyOf, ixN, atI0, atI1, atI2, atI3, isIn, mCall, renum, cellsOf, putBack, miSeq, still, miR1, miR2, wipeA, fEqI, fEqL, fEqT, fEqTT, choF]
  | succ n ih =>
    intro l h hs hb
    have hne : l ≠ [] := fun z => by rw [z] at h; cases h
    have e := List.dropLast_concat_getLast hne
    have hl := hb _ (List.getLast_mem hne)
    rw [← e, List.pairwise_append] at hs
    have hd : l.dropLast ∈ choF m n := ih _ (by rw [List.length_dropLast, h]; rfl) hs.1 fun x hx => hb x (List.dropLast_subset _ hx)
    have hle : l.dropLast.getLastD 0 ≤ l.getLast hne := by
      by_cases he : l.dropLast = []
      · rw [he]; simpa [mVar, mC, mOp, mOpN, mUn, aNil, aCons, toDs, asDs, mCB, mTup, mLst, mIf, mTest, mAnd, mOr, mNot, mAndV, mOrV, mNotV, mChain, fI, fIc, fB, fU, fIx, fCatL, fCatT, fCatS, fAdd, orF, cPos, cDivW, f1, f2, fAbs, fInt, fLen, fMin2, fMax2, mSub, mIn, mLen, mScrIx, mScrLen, mIsi, fIsi, mTuple, mTupleP, mSl, mNoPart, mPart, sNext, sSeq, sAsg, sIf, sRet, sRetN, sDrop, sNever, sSetL, sPar, mYes, mgN, mgNil, mgCons, mgT, toD, toDn, asD, cD, retA, runF, kill, lookA, viewK, viewT, keyOf, ixN, atI0, atI1, atI2, atI3, isIn, mCall, renum, cellsOf, putBack, miSeq, still, miR1, miR2, wipeA, fEqI, fEqL, fEqT, fEqTT] using hl.1
      · have : l.dropLast.getLastD 0 ∈ l.dropLast := by
          rw [List.getLastD_eq_getLast?, List.getLast?_eq_some_getLast he]
          exact List.getLast_mem he
        exact hs.2.2 _ this _ List.mem_cons_self
    have h0 := (cho_bd m n _ hd).1
    simp only [choF, List.mem_flatMap, choS, List.mem_map, List.mem_range]
    refine ⟨l.dropLast, hd, (l.getLast hne - l.dropLast.getLastD 0).toNat, by omega, ?_⟩
    rw [show l.dropLast.getLastD 0 + ((l.getLast hne - l.dropLast.getLastD 0).toNat : Int) = l.getLast hne by omega]
    exact e
theorem cho_in (m : Nat) : ∀ (n : Nat) (r : List Int), r ∈ choF m n → ∀ x ∈ r, 0 ≤ x ∧ x < m
  | 0, r, h => by
    simp only [choF, List.mem_singleton] at h
    rw [h]; simp [mVar, mC, mOp, mOpN, mUn, aNil, aCons, toDs, asDs, mCB, mTup, mLst, mIf, mTest, mAnd, mOr, mNot, mAndV, mOrV, mNotV, mChain, fI, fIc, fB, fU, fIx, fCatL, fCatT, fCatS, fAdd, orF, cPos, cDivW, f1, f2, fAbs, fInt, fLen, fMin2, fMax2, mSub, mIn, mLen, mScrIx, mScrLen, mIsi, fIsi, mTuple, mTupleP, mSl, mNoPart, mPart, sNext, sSeq, sAsg, sIf, sRet, sRetN, sDrop, sNever, sSetL, sPar, mYes, mgN, mgNil, mgCons, mgT, toD, toDn, asD, cD, retA, runF, kill, lookA, viewK, viewT, keyOf, ixN, atI0, atI1, atI2, atI3, isIn, mCall, renum, cellsOf, putBack, miSeq, still, miR1, miR2, wipeA, fEqI, fEqL, fEqT, fEqTT]
  | n + 1, r, h => by
    simp only [choF, List.mem_flatMap, choS, List.mem_map, List.mem_range] at h
    obtain ⟨a, ha, x, hx, rfl⟩ := h
    have h0 := (cho_bd m n _ ha).1
    intro y hy
    rcases List.mem_append.mp hy with hy | hy
    · exact cho_in m n a ha y hy
    · rw [List.mem_singleton.mp hy]; omega
/-! ### the numbers found -/
def insI (F : List Int) (k : Int) : List Int := if k ∈ F then F else F ++ [k]
abbrev sd2 (v w : Int) : List (Int × Int × Int) := [(1, 0, v), (1, 0, w)]
def stN (sds : List (Int × Int × Int)) (row : List Int) (x : Int) (F : List Int) (o : List Int) : List Int := if brd sds o = brd sds row then insI F (cnt o x) else F
theorem insI_mem (F : List Int) (k y : Int) : y ∈ insI F k ↔ y ∈ F ∨ y = k := by
  unfold insI
  split
  · rename_i h
    exact ⟨.inl, fun z => z.elim id fun z => z ▸ h⟩
  · simp [mVar, mC, mOp, mOpN, mUn, aNil, aCons, toDs, asDs, mCB, mTup, mLst, mIf, mTest, mAnd, mOr, mNot, mAndV, mOrV, mNotV, mChain, fI, fIc, fB, fU, fIx, fCatL, fCatT, fCatS, fAdd, orF, cPos, cDivW, f1, f2, fAbs, fInt, fLen, fMin2, fMax2, mSub, mIn, mLen, mScrIx, mScrLen, mIsi, fIsi, mTuple, mTupleP, mSl, mNoPart, mPart, sNext, sSeq, sAsg, sIf, sRet, sRetN, sDrop, sNever, sSetL, sPar, mYes, mgN, mgNil, mgCons, mgT, toD, toDn, asD, cD, retA, runF, kill, lookA, viewK, viewT, keyOf, ixN, atI0, atI1, atI2, atI3, isIn, mCall, renum, cellsOf, putBack, miSeq, still, miR1, miR2, wipeA, fEqI, fEqL, fEqT, fEqTT]
theorem insI_nd {F : List Int} (h : F.Nodup) (k : Int) : (insI F k).Nodup := by
  unfold insI
  split
  · exact h
  · rename_i hk
    refine List.nodup_append.mpr ⟨h, by simp [mVar, mC, mOp, mOpN, mUn, aNil, aCons, toDs, asDs, mCB, mTup, mLst, mIf, mTest, mAnd, mOr, mNot, mAndV, mOrV, mNotV, mChain, fI, fIc, fB, fU, fIx, fCatL, fCatT, fCatS, fAdd, orF, cPos, cDivW, f1, f2, fAbs, fInt, fLen, fMin2, fMax2, mSub, mIn, mLen, mScrIx, mScrLen, mIsi, fIsi, mTuple, mTupleP, mSl, mNoPart, mPart, sNext, sSeq, sAsg, sIf, sRet, sRetN, sDrop, sNever, sSetL, sPar, mYes, mgN, mgNil, mgCons, mgT, toD, toDn, asD, cD, retA, runF, kill, lookA, viewK, viewT, keyOf, ixN, atI0, atI1, atI2, atI3, isIn, mCall, renum, cellsOf, putBack, miSeq, still, miR1, miR2, wipeA, fEqI, fEqL, fEqT, fEqTT], fun a ha b hb => ?_⟩
    rw [List.mem_singleton.mp hb]
    exact fun e => hk (e ▸ ha)
theorem stN_mem (sds : List (Int × Int × Int)) (row : List Int) (x y : Int) : ∀ (rows : List (List Int)) (F : List Int), y ∈ rows.foldl (stN sds row x) F ↔ y ∈ F ∨ ∃ o ∈ rows, brd sds o = brd sds row ∧ cnt o x = y
  | [], F => by simp [mVar, mC, mOp, mOpN, mUn, aNil, aCons, toDs, asDs, mCB, mTup, mLst, mIf, mTest, mAnd, mOr, mNot, mAndV, mOrV, mNotV, mChain, fI, fIc, fB, fU, fIx, fCatL, fCatT, fCatS, fAdd, orF, cPos, cDivW, f1, f2, fAbs, fInt, fLen, fMin2, fMax2, mSub, mIn, mLen, mScrIx, mScrLen, mIsi, fIsi, mTuple, mTupleP, mSl, mNoPart, mPart, sNext, sSeq, sAsg, sIf, sRet, sRetN, sDrop, sNever, sSetL, sPar, mYes, mgN, mgNil, mgCons, mgT, toD, toDn, asD, cD, retA, runF, kill, lookA, viewK, viewT, keyOf, ixN, atI0, atI1, atI2, atI3, isIn, mCall, renum, cellsOf, putBack, miSeq, still, miR1, miR2, wipeA, fEqI, fEqL, fEqT, fEqTT]
  | o :: rows, F => by
    rw [List.foldl_cons, stN_mem sds row x y rows]
    have e : y ∈ stN sds row x F o ↔ y ∈ F ∨ (brd sds o = brd sds row ∧ cnt o x = y) := by
      unfold stN
      by_cases h : brd sds o = brd sds row
      · simp only [h, if_true, true_and, insI_mem, eq_comm]
      · simp [mVar, mC, mOp, mOpN, mUn, aNil, aCons, toDs, asDs, mCB, mTup, mLst, mIf, mTest, mAnd, mOr, mNot, mAndV, mOrV, mNotV, mChain, fI, fIc, fB, fU, fIx, fCatL, fCatT, fCatS, fAdd, orF, cPos, cDivW, f1, f2, fAbs, fInt, fLen, fMin2, fMax2, mSub, mIn, mLen, mScrIx, mScrLen, mIsi, fIsi, mTuple, mTupleP, mSl, mNoPart, mPart, sNext, sSeq, sAsg, sIf, sRet, sRetN, sDrop, sNever, sSetL, sPar, mYes, mgN, mgNil, mgCons, mgT, toD, toDn, asD, cD, retA, runF, kill, lookA, viewK, viewT, keyOf, ixN, atI0, atI1, atI2, atI3, isIn, mCall, renum, cellsOf, putBack, miSeq, still, miR1, miR2, wipeA, fEqI, fEqL, fEqT, fEqTT, h]
    rw [e]
    simp only [List.mem_cons, exists_eq_or_imp, or_assoc]
theorem stN_nd (sds : List (Int × Int × Int)) (row : List Int) (x : Int) : ∀ (rows : List (List Int)) (F : List Int), F.Nodup → (rows.foldl (stN sds row x) F).Nodup
  | [], F, h => h
  | o :: rows, F, h => by
    rw [List.foldl_cons]
    refine stN_nd sds row x rows _ ?_
    unfold stN
    split
    · exact insI_nd h _
    · exact h
def rgL (a b : Int) : List Int := (List.range (b - a).toNat).map fun (i : Nat) => a + (i : Int)
theorem rgL_mem (a b y : Int) : y ∈ rgL a b ↔ a ≤ y ∧ y < b := by
  unfold rgL
  simp only [List.mem_map, List.mem_range]
  constructor
  · rintro ⟨i, hi, rfl⟩
    omega
  · intro h
    exact ⟨(y - a).toNat, by omega, by omega⟩
theorem rgL_sorted (a b : Int) : (rgL a b).Pairwise (· < ·) := by
  unfold rgL
  rw [List.pairwise_map]
  exact List.Pairwise.imp (fun {x y} h => by omega) List.pairwise_lt_range
theorem brd2_eq {v w : Int} {o row : List Int} (h1 : ∀ i : Int, num (fun y => decide (y % v = i)) o = num (fun y => decide (y % v = i)) row) (h2 : ∀ i : Int, num (fun y => decide (y % w = i)) o = num (fun y => decide (y % w = i)) row) : brd (sd2 v w) o = brd (sd2 v w) row := by
  have e : ∀ m : Int, (∀ i : Int, num (fun y => decide (y % m = i)) o = num (fun y => decide (y % m = i)) row) → rowN o (1, 0, m) = rowN row (1, 0, m) := fun m hm => by
    unfold rowN
    exact List.map_congr_left fun i _ => by rw [cellN_num, cellN_num]; exact hm i
  simp only [brd, List.map_cons, List.map_nil, e v h1, e w h2]
theorem brd2_cell {v w : Int} (hv : 0 < v) (hw : 0 < w) {o row : List Int} (h : brd (sd2 v w) o = brd (sd2 v w) row) (x : Int) : num (fun y => decide (y % v = x % v)) o = num (fun y => decide (y % v = x % v)) row ∧ num (fun y => decide (y % w = x % w)) o = num (fun y => decide (y % w = x % w)) row := by
  simp only [brd, List.map_cons, List.map_nil, List.cons.injEq, and_true] at h
  have key : ∀ m : Int, 0 < m → rowN o (1, 0, m) = rowN row (1, 0, m) → num (fun y => decide (y % m = x % m)) o = num (fun y => decide (y % m = x % m)) row := fun m hm e => by
    have q1 := Int.emod_nonneg x (show m ≠ 0 by omega)
    have q2 := Int.emod_lt_of_pos x hm
    have e2 := congrArg (fun l : List Int => l[(x % m).toNat]?) e
    simp only [rowN, List.getElem?_map] at e2
    rw [List.getElem?_range (by show (x % m).toNat < m.toNat; omega)] at e2
    simp only [Option.map_some, Option.some.injEq] at e2
    rw [cellN_num, cellN_num, Int.toNat_of_nonneg q1] at e2
    exact e2
  exact ⟨key v hv h.1, key w hw h.2⟩
theorem numbers_law {v w : Int} {f : Int → Int → Int} (C : Crt v w f) {n m : Nat} (hm : (m : Int) = v * w) {row : List Int} (hr : row.length = n) (hb : ∀ y ∈ row, 0 ≤ y ∧ y < v * w) {x : Int} (hx : 0 ≤ x ∧ x < v * w) {r q : Int} (e1 : num (fun y => decide (y % v = x % v)) row = r) (e2 : num (fun y => decide (y % w = x % w)) row = q) :
    isort ((choF m n).foldl (stN (sd2 v w) row x) []) = rgL (if r + q - n > 0 then r + q - n else 0) ((if q < r then q else r) + 1) := by
  have hnd := stN_nd (sd2 v w) row x (choF m n) [] (by simp [mVar, mC, mOp, mOpN, mUn, aNil, aCons, toDs, asDs, mCB, mTup, mLst, mIf, mTest, mAnd, mOr, mNot, mAndV, mOrV, mNotV, mChain, fI, fIc, fB, fU, fIx, fCatL, fCatT, fCatS, fAdd, orF, cPos, cDivW, f1, f2, fAbs, fInt, fLen, fMin2, fMax2, mSub, mIn, mLen, mScrIx, mScrLen, mIsi, fIsi, mTuple, mTupleP, mSl, mNoPart, mPart, sNext, sSeq, sAsg, sIf, sRet, sRetN, sDrop, sNever, sSetL, sPar, mYes, mgN, mgNil, mgCons, mgT, toD, toDn, asD, cD, retA, runF, kill, lookA, viewK, viewT, keyOf, ixN, atI0, atI1, atI2, atI3, isIn, mCall, renum, cellsOf, putBack, miSeq, still, miR1, miR2, wipeA, fEqI, fEqL, fEqT, fEqTT])
  have hrn := num_nn (fun y => decide (y % v = x % v)) row
  have hqn := num_nn (fun y => decide (y % w = x % w)) row
  have hmem : ∀ y : Int, y ∈ (choF m n).foldl (stN (sd2 v w) row x) [] ↔ y ∈ rgL (if r + q - n > 0 then r + q - n else 0) ((if q < r then q else r) + 1) := by
    intro y
    rw [stN_mem, rgL_mem]
    constructor
    · rintro (h | ⟨o, ho, hbd, rfl⟩)
      · cases h
      · obtain ⟨c1, c2⟩ := brd2_cell C.vp C.wp hbd x
        have hin : ∀ y ∈ o, 0 ≤ y ∧ y < v * w := fun y hy => by have := cho_in m n o ho y hy; omega
        obtain ⟨b1, b2, b3⟩ := C.bounds hx hin
        have hl := cho_len m n o ho
        rw [c1, e1] at b1
        rw [c2, e2] at b2
        rw [c1, c2, e1, e2, hl] at b3
        have := num_nn (fun z => decide (z = x)) o
        rw [← cnt_num] at this
        refine ⟨by split <;> omega, by split <;> omega⟩
    · intro h
      have hy0 : 0 ≤ y := by
        have := h.1
        split at this <;> omega
      obtain ⟨k, rfl⟩ : ∃ k : Nat, (k : Int) = y := ⟨y.toNat, by omega⟩
      have g1 : (k : Int) ≤ r ∧ (k : Int) ≤ q := by
        have := h.2
        split at this <;> omega
      have g2 : r + q - k ≤ n := by
        have := h.1
        split at this <;> omega
      obtain ⟨o, o1, o2, o3, o4, o5⟩ := C.make (row := row) (k := k) hx (by omega) (by omega) (by rw [e1, e2, hr]; exact g2)
      have p := isort_perm o
      refine .inr ⟨isort o, cho_mem m n _ (by rw [p.length_eq, o1, hr]) (isort_sorted o) (fun z hz => by have := o2 z (p.mem_iff.mp hz); omega), brd2_eq (fun i => by rw [num_perm p]; exact o3 i) (fun i => by rw [num_perm p]; exact o4 i), ?_⟩
      rw [cnt_num, num_perm p, ← cnt_num]
      exact o5
  have hrs := rgL_sorted (if r + q - n > 0 then r + q - n else 0) ((if q < r then q else r) + 1)
  have hp : ((choF m n).foldl (stN (sd2 v w) row x) []).Perm (rgL (if r + q - n > 0 then r + q - n else 0) ((if q < r then q else r) + 1)) := (List.perm_ext_iff_of_nodup hnd (List.Pairwise.imp (fun {a b} h => Int.ne_of_lt h) hrs)).mpr hmem
  exact sorted_uniq ((isort_perm _).trans hp) (isort_sorted _) (List.Pairwise.imp (fun {a b} h => Int.le_of_lt h) hrs)
end Rf

namespace Rf
open PySem L2
theorem three_sum {y : Int} (hy : 0 ≤ y ∧ y < 12) : ∀ {l : List Int}, (∀ z ∈ l, 0 ≤ z ∧ z < 12) →
    (num (fun z => decide (z = y)) l ≤ num (fun z => decide (z % 3 = y % 3)) l ∧ num (fun z => decide (z = y)) l ≤ num (fun z => decide (z % 4 = y % 4)) l ∧ num (fun z => decide (z = y)) l ≤ num (fun z => decide (z % 5 = y % 5)) l) ∧
    num (fun z => decide (z % 3 = y % 3)) l + num (fun z => decide (z % 4 = y % 4)) l + num (fun z => decide (z % 5 = y % 5)) l ≤ l.length + 2 * num (fun z => decide (z = y)) l
  | [], _ => by simp [mVar, mC, mOp, mOpN, mUn, aNil, aCons, toDs, asDs, mCB, mTup, mLst, mIf, mTest, mAnd, mOr, mNot, mAndV, mOrV, mNotV, mChain, fI, fIc, fB, fU, fIx, fCatL, fCatT, fCatS, fAdd, orF, cPos, cDivW, f1, f2, fAbs, fInt, fLen, fMin2, fMax2, mSub, mIn, mLen, mScrIx, mScrLen, mIsi, fIsi, mTuple, mTupleP, mSl, mNoPart, mPart, sNext, sSeq, sAsg, sIf, sRet, sRetN, sDrop, sNever, sSetL, sPar, mYes, mgN, mgNil, mgCons, mgT, toD, toDn, asD, cD, retA, runF, kill, lookA, viewK, viewT, keyOf, ixN, atI0, atI1, atI2, atI3, isIn, mCall, renum, cellsOf, putBack, miSeq, still, miR1, miR2, wipeA, fEqI, fEqL, fEqT, fEqTT, num_nil]
  | a :: r, h => by
    have ih := three_sum hy (l := r) fun z hz => h z (List.mem_cons_of_mem _ hz)
    have ha := h a List.mem_cons_self
    simp only [num_cons, List.length_cons, decide_eq_true_eq]
    split <;> split <;> split <;> split <;> omega
abbrev sd3 : List (Int × Int × Int) := [(1, 0, 3), (1, 0, 4), (1, 0, 5)]
/-! ### numbers as a dict's keys -/
abbrev nD (k : Int) : Key × D := (Sum.inl k, .bool true)
theorem put_nD (F : List Int) (k : Int) : put (F.map nD) (Sum.inl k) (.bool true) = (insI F k).map nD := by
  unfold put insI
  have e : ((F.map nD).any fun p => decide (p.1 = Sum.inl k)) = decide (k ∈ F) := by
    rw [Bool.eq_iff_iff, List.any_eq_true, decide_eq_true_iff]
    constructor
    · rintro ⟨p, hp, e⟩
      obtain ⟨q, hq, rfl⟩ := List.mem_map.mp hp
      rw [← Sum.inl.inj (of_decide_eq_true e)]
      exact hq
    · exact fun h => ⟨nD k, List.mem_map.mpr ⟨k, h, rfl⟩, by simp [mVar, mC, mOp, mOpN, mUn, aNil, aCons, toDs, asDs, mCB, mTup, mLst, mIf, mTest, mAnd, mOr, mNot, mAndV, mOrV, mNotV, mChain, fI, fIc, fB, fU, fIx, fCatL, fCatT, fCatS, fAdd, orF, cPos, cDivW, f1, f2, fAbs, fInt, fLen, fMin2, fMax2, mSub, mIn, mLen, mScrIx, mScrLen, mIsi, fIsi, mTuple, mTupleP, mSl, mNoPart, mPart, sNext, sSeq, sAsg, sIf, sRet, sRetN, sDrop, sNever, sSetL, sPar, mYes, mgN, mgNil, mgCons, mgT, toD, toDn, asD, cD, retA, runF, kill, lookA, viewK, viewT, keyOf, ixN, atI0, atI1, atI2, atI3, isIn, mCall, renum, cellsOf, putBack, miSeq, still, miR1, miR2, wipeA, fEqI, fEqL, fEqT, fEqTT]⟩
  rw [e]
  by_cases h : k ∈ F
  · simp only [h, decide_true, if_true]
    rw [List.map_map]
    refine List.map_congr_left fun q _ => ?_
    simp only [Function.comp]
    split <;> rfl
  · simp [mVar, mC, mOp, mOpN, mUn, aNil, aCons, toDs, asDs, mCB, mTup, mLst, mIf, mTest, mAnd, mOr, mNot, mAndV, mOrV, mNotV, mChain, fI, fIc, fB, fU, fIx, fCatL, fCatT, fCatS, fAdd, orF, cPos, cDivW, f1, f2, fAbs, fInt, fLen, fMin2, fMax2, mSub, mIn, mLen, mScrIx, mScrLen, mIsi, fIsi, mTuple, mTupleP, mSl, mNoPart, mPart, sNext, sSeq, sAsg, sIf, sRet, sRetN, sDrop, sNever, sSetL, sPar, mYes, mgN, mgNil, mgCons, mgT, toD, toDn, asD, cD, retA, runF, kill, lookA, viewK, viewT, keyOf, ixN, atI0, atI1, atI2, atI3, isIn, mCall, renum, cellsOf, putBack, miSeq, still, miR1, miR2, wipeA, fEqI, fEqL, fEqT, fEqTT, h]
theorem keys_nD : ∀ F : List Int, intKeys (F.map nD) = some F
  | [] => rfl
  | a :: r => by simp [mVar, mC, mOp, mOpN, mUn, aNil, aCons, toDs, asDs, mCB, mTup, mLst, mIf, mTest, mAnd, mOr, mNot, mAndV, mOrV, mNotV, mChain, fI, fIc, fB, fU, fIx, fCatL, fCatT, fCatS, fAdd, orF, cPos, cDivW, f1, f2, fAbs, fInt, fLen, fMin2, fMax2, mSub, mIn, mLen, mScrIx, mScrLen, mIsi, fIsi, mTuple, mTupleP, mSl, mNoPart, mPart, sNext, sSeq, sAsg, sIf, sRet, sRetN, sDrop, sNever, sSetL, sPar, mYes, mgN, mgNil, mgCons, mgT, toD, toDn, asD, cD, retA, runF, kill, lookA, viewK, viewT, keyOf, ixN, atI0, atI1, atI2, atI3, isIn, mCall, renum, cellsOf, putBack, miSeq, still, miR1, miR2, wipeA, fEqI, fEqL, fEqT, fEqTT, intKeys, keys_nD r]
theorem seq_call3 {f : MF} {d1 d2 d3 : D} {ds : List D} {sl : Sl} {cs : Cs} {i : Nat} {m2 m3 : ME} (h : f [.dat d1, .dat d2, .dat d3] [] = some (.dat (.list ds), [])) (h1 : sl[i]? = some (some (.dat d1))) (h2 : m2 sl cs = some (.dat d2, cs)) (h3 : m3 sl cs = some (.dat d3, cs)) : miSeq (mCall 3 f (aCons (mVar i) (aCons m2 (aCons m3 (aNil))))) sl cs = some (ds, cs) := by
  simp [mVar, mC, mOp, mOpN, mUn, aNil, aCons, toDs, asDs, mCB, mTup, mLst, mIf, mTest, mAnd, mOr, mNot, mAndV, mOrV, mNotV, mChain, fI, fIc, fB, fU, fIx, fCatL, fCatT, fCatS, fAdd, orF, cPos, cDivW, f1, f2, fAbs, fInt, fLen, fMin2, fMax2, mSub, mIn, mLen, mScrIx, mScrLen, mIsi, fIsi, mTuple, mTupleP, mSl, mNoPart, mPart, sNext, sSeq, sAsg, sIf, sRet, sRetN, sDrop, sNever, sSetL, sPar, mYes, mgN, mgNil, mgCons, mgT, toD, toDn, asD, cD, retA, runF, kill, lookA, viewK, viewT, keyOf, ixN, atI0, atI1, atI2, atI3, isIn, mCall, renum, cellsOf, putBack, miSeq, still, miR1, miR2, wipeA, fEqI, fEqL, fEqT, fEqTT, h, h1, h2, h3]
theorem cho_small : ∀ m ≤ 12, ∀ i ≤ 4, (choF m i).length ≤ 1000000 := by
  intro m hm i hi
  have : ((List.range 13).all fun m => (List.range 5).all fun i => decide ((choF m i).length ≤ 1000000)) = true := by kernel_rfl
  exact of_decide_eq_true (List.all_eq_true.mp (List.all_eq_true.mp this m (List.mem_range.mpr (by omega))) i (List.mem_range.mpr (by omega)))
section
variable {v w x r q : Int} {n m : Nat} {row : List Int} {b : Option (Bool × Cell)}
abbrev slB (v w : Int) (n : Nat) (row : List Int) (x r q : Int) (a11 a12 a13 a14 a15 a16 a18 : Option A) : Sl := [some (.cell 0), some (.dat (.int v)), some (.dat (.int w)), some (.dat (.int n)), some (.dat (iT row)), none, some (.dat (sT (sd2 v w))), some (.dat (rT (brd (sd2 v w) row))), some (.dat (.int x)), some (.dat (.int r)), some (.dat (.int q)), a11, a12, a13, a14, a15, a16, none, a18]
theorem bloop3 (hn : n ≤ 4) (hv : 1 ≤ v ∧ v ≤ 5) (hw : 1 ≤ w ∧ w ≤ 5) (hm : (m : Int) = v * w) (hm2 : m ≤ 12) :
    S__law_boards_3 (slB v w n row x r q (some (.cell 1)) none none none none none none) [b, some (false, .dK [])] = some (.nx (slB v w n row x r q (some (.cell 1)) none none none none none none) [b, some (false, .dK (((choF m n).foldl (stN (sd2 v w) row x) []).map nD))]) := by
  have hr := lawcho_ok n m (by omega) (by omega) fun i hi => Nat.le_trans (cho_small m hm2 i (by omega)) (by omega)
  have hmul : cMul v w = true := cMul_ok ⟨by omega, by omega⟩
  have hs1 : (1 : Nat) ≤ (sd2 v w).length ∧ (sd2 v w).length ≤ 10 := by simp [mVar, mC, mOp, mOpN, mUn, aNil, aCons, toDs, asDs, mCB, mTup, mLst, mIf, mTest, mAnd, mOr, mNot, mAndV, mOrV, mNotV, mChain, fI, fIc, fB, fU, fIx, fCatL, fCatT, fCatS, fAdd, orF, cPos, cDivW, f1, f2, fAbs, fInt, fLen, fMin2, fMax2, mSub, mIn, mLen, mScrIx, mScrLen, mIsi, fIsi, mTuple, mTupleP, mSl, mNoPart, mPart, sNext, sSeq, sAsg, sIf, sRet, sRetN, sDrop, sNever, sSetL, sPar, mYes, mgN, mgNil, mgCons, mgT, toD, toDn, asD, cD, retA, runF, kill, lookA, viewK, viewT, keyOf, ixN, atI0, atI1, atI2, atI3, isIn, mCall, renum, cellsOf, putBack, miSeq, still, miR1, miR2, wipeA, fEqI, fEqL, fEqT, fEqTT]
  have hs2 : ∀ s ∈ sd2 v w, okSeed s := by
    intro s hs
    simp only [List.mem_cons, List.not_mem_nil, or_false] at hs
    rcases hs with rfl | rfl
    · exact ⟨⟨by show (0 : Int) ≤ 1; omega, by show (1 : Int) ≤ 1000; omega⟩, ⟨by show (0 : Int) ≤ 0; omega, by show (0 : Int) ≤ 1000; omega⟩, hv.1, by show v ≤ 100; omega⟩
    · exact ⟨⟨by show (0 : Int) ≤ 1; omega, by show (1 : Int) ≤ 1000; omega⟩, ⟨by show (0 : Int) ≤ 0; omega, by show (0 : Int) ≤ 1000; omega⟩, hw.1, by show w ≤ 100; omega⟩
  rw [hm] at hr
  refine (sFor_fold (c1 := [b, some (false, .dK [])]) (β := List Int) iT (fun F => (slB v w n row x r q (some (.cell 1)) none none none none none none, [b, some (false, .dK (F.map nD))])) (stN (sd2 v w) row x) (fun rest F => (∀ r ∈ rest, r ∈ choF m n) ∧ F.length + rest.length ≤ (choF m n).length) (choF m n) [] (seq_call3 hr rfl (by simp [mVar, mC, mOp, mOpN, mUn, aNil, aCons, toDs, asDs, mCB, mTup, mLst, mIf, mTest, mAnd, mOr, mNot, mAndV, mOrV, mNotV, mChain, fI, fIc, fB, fU, fIx, fCatL, fCatT, fCatS, fAdd, orF, cPos, cDivW, f1, f2, fAbs, fInt, fLen, fMin2, fMax2, mSub, mIn, mLen, mScrIx, mScrLen, mIsi, fIsi, mTuple, mTupleP, mSl, mNoPart, mPart, sNext, sSeq, sAsg, sIf, sRet, sRetN, sDrop, sNever, sSetL, sPar, mYes, mgN, mgNil, mgCons, mgT, toD, toDn, asD, cD, retA, runF, kill, lookA, viewK, viewT, keyOf, ixN, atI0, atI1, atI2, atI3, isIn, mCall, renum, cellsOf, putBack, miSeq, still, miR1, miR2, wipeA, fEqI, fEqL, fEqT, fEqTT, hmul]) rfl) (by simp [mVar, mC, mOp, mOpN, mUn, aNil, aCons, toDs, asDs, mCB, mTup, mLst, mIf, mTest, mAnd, mOr, mNot, mAndV, mOrV, mNotV, mChain, fI, fIc, fB, fU, fIx, fCatL, fCatT, fCatS, fAdd, orF, cPos, cDivW, f1, f2, fAbs, fInt, fLen, fMin2, fMax2, mSub, mIn, mLen, mScrIx, mScrLen, mIsi, fIsi, mTuple, mTupleP, mSl, mNoPart, mPart, sNext, sSeq, sAsg, sIf, sRet, sRetN, sDrop, sNever, sSetL, sPar, mYes, mgN, mgNil, mgCons, mgT, toD, toDn, asD, cD, retA, runF, kill, lookA, viewK, viewT, keyOf, ixN, atI0, atI1, atI2, atI3, isIn, mCall, renum, cellsOf, putBack, miSeq, still, miR1, miR2, wipeA, fEqI, fEqL, fEqT, fEqTT]) ⟨fun _ h => h, by simp [mVar, mC, mOp, mOpN, mUn, aNil, aCons, toDs, asDs, mCB, mTup, mLst, mIf, mTest, mAnd, mOr, mNot, mAndV, mOrV, mNotV, mChain, fI, fIc, fB, fU, fIx, fCatL, fCatT, fCatS, fAdd, orF, cPos, cDivW, f1, f2, fAbs, fInt, fLen, fMin2, fMax2, mSub, mIn, mLen, mScrIx, mScrLen, mIsi, fIsi, mTuple, mTupleP, mSl, mNoPart, mPart, sNext, sSeq, sAsg, sIf, sRet, sRetN, sDrop, sNever, sSetL, sPar, mYes, mgN, mgNil, mgCons, mgT, toD, toDn, asD, cD, retA, runF, kill, lookA, viewK, viewT, keyOf, ixN, atI0, atI1, atI2, atI3, isIn, mCall, renum, cellsOf, putBack, miSeq, still, miR1, miR2, wipeA, fEqI, fEqL, fEqT, fEqTT]⟩ fun o rest F z => ⟨⟨fun r h => z.1 r (List.mem_cons_of_mem _ h), ?_⟩, _, slB v w n row x r q (some (.cell 1)) (some (.dat (iT o))) none none none none none, [b, some (false, .dK ((stN (sd2 v w) row x F o).map nD))], rfl, ?_, rfl⟩).1
  · have h2 := z.2
    simp only [List.length_cons] at h2
    unfold stN insI
    split
    · split
      · omega
      · simp only [List.length_append, List.length_singleton]; omega
    · omega
  · have ho := z.1 o List.mem_cons_self
    have hb := cho_in m n o ho
    have hl := cho_len m n o ho
    have hF : F.length ≤ 1000000 := by
      have := z.2
      have := cho_small m hm2 n hn
      omega
    have hbd := board_ok (sd2 v w) o hs1 hs2 (by omega) fun x hx => by have := hb x hx; omega
    have hL : L__law_boards_2 (slB v w n row x r q (some (.cell 1)) (some (.dat (iT o))) none none none none none) [b, some (false, .dK (F.map nD))] = some (.new (.lst ((o.filter fun y => decide (y = x)).map .int)), [b, some (false, .dK (F.map nD))]) :=
      mLc_filt .int _ _ o (by simp [mVar, mC, mOp, mOpN, mUn, aNil, aCons, toDs, asDs, mCB, mTup, mLst, mIf, mTest, mAnd, mOr, mNot, mAndV, mOrV, mNotV, mChain, fI, fIc, fB, fU, fIx, fCatL, fCatT, fCatS, fAdd, orF, cPos, cDivW, f1, f2, fAbs, fInt, fLen, fMin2, fMax2, mSub, mIn, mLen, mScrIx, mScrLen, mIsi, fIsi, mTuple, mTupleP, mSl, mNoPart, mPart, sNext, sSeq, sAsg, sIf, sRet, sRetN, sDrop, sNever, sSetL, sPar, mYes, mgN, mgNil, mgCons, mgT, toD, toDn, asD, cD, retA, runF, kill, lookA, viewK, viewT, keyOf, ixN, atI0, atI1, atI2, atI3, isIn, mCall, renum, cellsOf, putBack, miSeq, still, miR1, miR2, wipeA, fEqI, fEqL, fEqT, fEqTT]) fun y hy => ⟨_, rfl, by simp [mVar, mC, mOp, mOpN, mUn, aNil, aCons, toDs, asDs, mCB, mTup, mLst, mIf, mTest, mAnd, mOr, mNot, mAndV, mOrV, mNotV, mChain, fI, fIc, fB, fU, fIx, fCatL, fCatT, fCatS, fAdd, orF, cPos, cDivW, f1, f2, fAbs, fInt, fLen, fMin2, fMax2, mSub, mIn, mLen, mScrIx, mScrLen, mIsi, fIsi, mTuple, mTupleP, mSl, mNoPart, mPart, sNext, sSeq, sAsg, sIf, sRet, sRetN, sDrop, sNever, sSetL, sPar, mYes, mgN, mgNil, mgCons, mgT, toD, toDn, asD, cD, retA, runF, kill, lookA, viewK, viewT, keyOf, ixN, atI0, atI1, atI2, atI3, isIn, mCall, renum, cellsOf, putBack, miSeq, still, miR1, miR2, wipeA, fEqI, fEqL, fEqT, fEqTT], fun _ => ⟨_, rfl, rfl⟩⟩
    have hT : mTest (mOp (fEq false) (mCall 2 M_board (aCons (mVar 6) (aCons (mVar 12) (aNil)))) (mVar 7)) (slB v w n row x r q (some (.cell 1)) (some (.dat (iT o))) none none none none none) [b, some (false, .dK (F.map nD))] = some (decide (brd (sd2 v w) o = brd (sd2 v w) row), [b, some (false, .dK (F.map nD))]) := by
      generalize M_board = g at hbd ⊢
      simp only [mTest, mOp, mCall, aCons, aNil, mVar]
      simp [mVar, mC, mOp, mOpN, mUn, aNil, aCons, toDs, asDs, mCB, mTup, mLst, mIf, mTest, mAnd, mOr, mNot, mAndV, mOrV, mNotV, mChain, fI, fIc, fB, fU, fIx, fCatL, fCatT, fCatS, fAdd, orF, cPos, cDivW, f1, f2, fAbs, fInt, fLen, fMin2, fMax2, mSub, mIn, mLen, mScrIx, mScrLen, mIsi, fIsi, mTuple, mTupleP, mSl, mNoPart, mPart, sNext, sSeq, sAsg, sIf, sRet, sRetN, sDrop, sNever, sSetL, sPar, mYes, mgN, mgNil, mgCons, mgT, toD, toDn, asD, cD, retA, runF, kill, lookA, viewK, viewT, keyOf, ixN, atI0, atI1, atI2, atI3, isIn, mCall, renum, cellsOf, putBack, miSeq, still, miR1, miR2, wipeA, fEqI, fEqL, fEqT, fEqTT, hbd]
    have hN : mLen L__law_boards_2 (slB v w n row x r q (some (.cell 1)) (some (.dat (iT o))) none none none none none) [b, some (false, .dK (F.map nD))] = some (.dat (.int (cnt o x)), [b, some (false, .dK (F.map nD))]) := by
      unfold mLen
      rw [hL]
      simp [mVar, mC, mOp, mOpN, mUn, aNil, aCons, toDs, asDs, mCB, mTup, mLst, mIf, mTest, mAnd, mOr, mNot, mAndV, mOrV, mNotV, mChain, fI, fIc, fB, fU, fIx, fCatL, fCatT, fCatS, fAdd, orF, cPos, cDivW, f1, f2, fAbs, fInt, fLen, fMin2, fMax2, mSub, mIn, mLen, mScrIx, mScrLen, mIsi, fIsi, mTuple, mTupleP, mSl, mNoPart, mPart, sNext, sSeq, sAsg, sIf, sRet, sRetN, sDrop, sNever, sSetL, sPar, mYes, mgN, mgNil, mgCons, mgT, toD, toDn, asD, cD, retA, runF, kill, lookA, viewK, viewT, keyOf, ixN, atI0, atI1, atI2, atI3, isIn, mCall, renum, cellsOf, putBack, miSeq, still, miR1, miR2, wipeA, fEqI, fEqL, fEqT, fEqTT, cnt]
    show sIf _ _ _ (slB v w n row x r q (some (.cell 1)) (some (.dat (iT o))) none none none none none) [b, some (false, .dK (F.map nD))] = _
    unfold sIf
    rw [hT]
    unfold stN
    by_cases h : brd (sd2 v w) o = brd (sd2 v w) row
    · rw [if_pos h, decide_eq_true h]
      show sPut _ _ _ _ _ = _
      unfold sPut
      simp only [mC, mVar, hN, List.getElem?_cons_zero, List.getElem?_cons_succ]
      simp [mVar, mC, mOp, mOpN, mUn, aNil, aCons, toDs, asDs, mCB, mTup, mLst, mIf, mTest, mAnd, mOr, mNot, mAndV, mOrV, mNotV, mChain, fI, fIc, fB, fU, fIx, fCatL, fCatT, fCatS, fAdd, orF, cPos, cDivW, f1, f2, fAbs, fInt, fLen, fMin2, fMax2, mSub, mIn, mLen, mScrIx, mScrLen, mIsi, fIsi, mTuple, mTupleP, mSl, mNoPart, mPart, sNext, sSeq, sAsg, sIf, sRet, sRetN, sDrop, sNever, sSetL, sPar, mYes, mgN, mgNil, mgCons, mgT, toD, toDn, asD, cD, retA, runF, kill, lookA, viewK, viewT, keyOf, ixN, atI0, atI1, atI2, atI3, isIn, mCall, renum, cellsOf, putBack, miSeq, still, miR1, miR2, wipeA, fEqI, fEqL, fEqT, fEqTT, putA, hF, put_nD]
    · simp [mVar, mC, mOp, mOpN, mUn, aNil, aCons, toDs, asDs, mCB, mTup, mLst, mIf, mTest, mAnd, mOr, mNot, mAndV, mOrV, mNotV, mChain, fI, fIc, fB, fU, fIx, fCatL, fCatT, fCatS, fAdd, orF, cPos, cDivW, f1, f2, fAbs, fInt, fLen, fMin2, fMax2, mSub, mIn, mLen, mScrIx, mScrLen, mIsi, fIsi, mTuple, mTupleP, mSl, mNoPart, mPart, sNext, sSeq, sAsg, sIf, sRet, sRetN, sDrop, sNever, sSetL, sPar, mYes, mgN, mgNil, mgCons, mgT, toD, toDn, asD, cD, retA, runF, kill, lookA, viewK, viewT, keyOf, ixN, atI0, atI1, atI2, atI3, isIn, mCall, renum, cellsOf, putBack, miSeq, still, miR1, miR2, wipeA, fEqI, fEqL, fEqT, fEqTT, h]
end

theorem okS2 {v w : Int} (hv : 1 ≤ v ∧ v ≤ 5) (hw : 1 ≤ w ∧ w ≤ 5) : ∀ s ∈ sd2 v w, okSeed s := by
  intro s hs
  simp only [List.mem_cons, List.not_mem_nil, or_false] at hs
  rcases hs with rfl | rfl
  · exact ⟨⟨by show (0 : Int) ≤ 1; omega, by show (1 : Int) ≤ 1000; omega⟩, ⟨by show (0 : Int) ≤ 0; omega, by show (0 : Int) ≤ 1000; omega⟩, hv.1, by show v ≤ 100; omega⟩
  · exact ⟨⟨by show (0 : Int) ≤ 1; omega, by show (1 : Int) ≤ 1000; omega⟩, ⟨by show (0 : Int) ≤ 0; omega, by show (0 : Int) ≤ 1000; omega⟩, hw.1, by show w ≤ 100; omega⟩
theorem okS3 : ∀ s ∈ sd3, okSeed s := by
  intro s hs
  simp only [List.mem_cons, List.not_mem_nil, or_false] at hs
  rcases hs with rfl | rfl | rfl <;> exact ⟨by decide, by decide, by decide, by decide⟩
theorem row_at {row : List Int} {m x : Int} (hm : 0 < m) : atI ((rowN row (1, 0, m)).map PyData.int) (x % m) = some (.int (num (fun y => decide (y % m = x % m)) row)) := by
  have q1 := Int.emod_nonneg x (show m ≠ 0 by omega)
  have q2 := Int.emod_lt_of_pos x hm
  unfold rowN
  rw [List.map_map, atI_range q1 (by show x % m < (m.toNat : Int); omega)]
  simp only [Function.comp]
  rw [cellN_num, Int.toNat_of_nonneg q1]
theorem cell_at {row : List Int} {m x : Int} (hm : 0 < m) : cellN row (1, 0, m) ((1 * x + 0) % m).toNat = num (fun y => decide (y % m = x % m)) row := by
  rw [cellN_num, Int.one_mul, Int.add_zero, Int.toNat_of_nonneg (Int.emod_nonneg x (show m ≠ 0 by omega))]
theorem bfirst (d e : Int) : ∃ (v w : Int) (f : Int → Int → Int) (m : Nat), Crt v w f ∧ (m : Int) = v * w ∧ m ≤ 12 ∧ (1 ≤ v ∧ v ≤ 5) ∧ (1 ≤ w ∧ w ≤ 5) ∧
    (sAsgG (mgT 2 (mgCons (mgN 1) (mgCons (mgN 2) (mgNil)))) (mSub (mLst (aCons (mTup (aCons (mC (.int 2)) (aCons (mC (.int 3)) (aNil)))) (aCons (mTup (aCons (mC (.int 3)) (aCons (mC (.int 2)) (aNil)))) (aCons (mTup (aCons (mC (.int 2)) (aCons (mC (.int 5)) (aNil)))) (aCons (mTup (aCons (mC (.int 3)) (aCons (mC (.int 4)) (aNil)))) (aNil)))))) (mCall 2 M__law_draw (aCons (mVar 0) (aCons (mC (.int 4)) (aNil))))))
      [some (.cell 0), none, none, none, none, none, none, none, none, none, none, none, none, none, none, none, none, none, none] [bx d e, none] = some (.nx [some (.cell 0), some (.dat (.int v)), some (.dat (.int w)), none, none, none, none, none, none, none, none, none, none, none, none, none, none, none, none] [bx (dd d e 4) (de d e 4), none]) := by
  have b1 := dr_lt d e (m := 4) (by omega)
  rcases (show dr d e 4 = 0 ∨ dr d e 4 = 1 ∨ dr d e 4 = 2 ∨ dr d e 4 = 3 by omega) with h | h | h | h
  · exact ⟨2, 3, _, 6, crt23, rfl, by omega, by omega, by omega, by simp [mVar, mC, mOp, mOpN, mUn, aNil, aCons, toDs, asDs, mCB, mTup, mLst, mIf, mTest, mAnd, mOr, mNot, mAndV, mOrV, mNotV, mChain, fI, fIc, fB, fU, fIx, fCatL, fCatT, fCatS, fAdd, orF, cPos, cDivW, f1, f2, fAbs, fInt, fLen, fMin2, fMax2, mSub, mIn, mLen, mScrIx, mScrLen, mIsi, fIsi, mTuple, mTupleP, mSl, mNoPart, mPart, sNext, sSeq, sAsg, sIf, sRet, sRetN, sDrop, sNever, sSetL, sPar, mYes, mgN, mgNil, mgCons, mgT, toD, toDn, asD, cD, retA, runF, kill, lookA, viewK, viewT, keyOf, ixN, atI0, atI1, atI2, atI3, isIn, mCall, renum, cellsOf, putBack, miSeq, still, miR1, miR2, wipeA, fEqI, fEqL, fEqT, fEqTT, sAsgG, draw_ok, h]⟩
  · exact ⟨3, 2, _, 6, crt32, rfl, by omega, by omega, by omega, by simp [mVar, mC, mOp, mOpN, mUn, aNil, aCons, toDs, asDs, mCB, mTup, mLst, mIf, mTest, mAnd, mOr, mNot, mAndV, mOrV, mNotV, mChain, fI, fIc, fB, fU, fIx, fCatL, fCatT, fCatS, fAdd, orF, cPos, cDivW, f1, f2, fAbs, fInt, fLen, fMin2, fMax2, mSub, mIn, mLen, mScrIx, mScrLen, mIsi, fIsi, mTuple, mTupleP, mSl, mNoPart, mPart, sNext, sSeq, sAsg, sIf, sRet, sRetN, sDrop, sNever, sSetL, sPar, mYes, mgN, mgNil, mgCons, mgT, toD, toDn, asD, cD, retA, runF, kill, lookA, viewK, viewT, keyOf, ixN, atI0, atI1, atI2, atI3, isIn, mCall, renum, cellsOf, putBack, miSeq, still, miR1, miR2, wipeA, fEqI, fEqL, fEqT, fEqTT, sAsgG, draw_ok, h]⟩
  · exact ⟨2, 5, _, 10, crt25, rfl, by omega, by omega, by omega, by simp [mVar, mC, mOp, mOpN, mUn, aNil, aCons, toDs, asDs, mCB, mTup, mLst, mIf, mTest, mAnd, mOr, mNot, mAndV, mOrV, mNotV, mChain, fI, fIc, fB, fU, fIx, fCatL, fCatT, fCatS, fAdd, orF, cPos, cDivW, f1, f2, fAbs, fInt, fLen, fMin2, fMax2, mSub, mIn, mLen, mScrIx, mScrLen, mIsi, fIsi, mTuple, mTupleP, mSl, mNoPart, mPart, sNext, sSeq, sAsg, sIf, sRet, sRetN, sDrop, sNever, sSetL, sPar, mYes, mgN, mgNil, mgCons, mgT, toD, toDn, asD, cD, retA, runF, kill, lookA, viewK, viewT, keyOf, ixN, atI0, atI1, atI2, atI3, isIn, mCall, renum, cellsOf, putBack, miSeq, still, miR1, miR2, wipeA, fEqI, fEqL, fEqT, fEqTT, sAsgG, draw_ok, h]⟩
  · exact ⟨3, 4, _, 12, crt34, rfl, by omega, by omega, by omega, by simp [mVar, mC, mOp, mOpN, mUn, aNil, aCons, toDs, asDs, mCB, mTup, mLst, mIf, mTest, mAnd, mOr, mNot, mAndV, mOrV, mNotV, mChain, fI, fIc, fB, fU, fIx, fCatL, fCatT, fCatS, fAdd, orF, cPos, cDivW, f1, f2, fAbs, fInt, fLen, fMin2, fMax2, mSub, mIn, mLen, mScrIx, mScrLen, mIsi, fIsi, mTuple, mTupleP, mSl, mNoPart, mPart, sNext, sSeq, sAsg, sIf, sRet, sRetN, sDrop, sNever, sSetL, sPar, mYes, mgN, mgNil, mgCons, mgT, toD, toDn, asD, cD, retA, runF, kill, lookA, viewK, viewT, keyOf, ixN, atI0, atI1, atI2, atI3, isIn, mCall, renum, cellsOf, putBack, miSeq, still, miR1, miR2, wipeA, fEqI, fEqL, fEqT, fEqTT, sAsgG, draw_ok, h]⟩
theorem boards_ok (d e : Int) : ∃ d' e', M__law_boards [.cell 0] [bx d e] = some (.dat (.bool true), [bx d' e']) := by
  obtain ⟨v, w, f, m, C, hm, hm2, hv, hw, h1⟩ := bfirst d e
  generalize hs0 : (dd d e 4, de d e 4) = s0 at *
  have e0 : dd d e 4 = s0.1 := by rw [← hs0]
  have e0' : de d e 4 = s0.2 := by rw [← hs0]
  rw [e0, e0'] at h1
  have bn := dr_lt s0.1 s0.2 (m := 5) (by omega)
  obtain ⟨n, hn⟩ : ∃ n : Nat, dr s0.1 s0.2 5 = n := ⟨(dr s0.1 s0.2 5).toNat, by omega⟩
  have hn4 : n ≤ 4 := by omega
  generalize hs1 : (dd s0.1 s0.2 5, de s0.1 s0.2 5) = s1
  have hmp : 0 < v * w := by have := Int.mul_pos (show 0 < v by omega) (show 0 < w by omega); exact this
  have hmb : v * w < 1073741824 := by omega
  have hmul : cMul v w = true := cMul_ok ⟨by omega, by omega⟩
  have hrl := drs_len (v * w) n s1
  have hri := drs_lt (m := v * w) hmp n s1
  generalize hrow : (drs (v * w) n s1).1 = row at hrl hri
  generalize hs2 : (drs (v * w) n s1).2 = s2
  have bx' := dr_lt s2.1 s2.2 (m := v * w) hmp
  generalize hx : dr s2.1 s2.2 (v * w) = x at bx'
  generalize hs3 : (dd s2.1 s2.2 (v * w), de s2.1 s2.2 (v * w)) = s3
  generalize hr : num (fun y => decide (y % v = x % v)) row = r
  generalize hq : num (fun y => decide (y % w = x % w)) row = q
  have hlaw := numbers_law C (n := n) (m := m) hm hrl hri bx' hr hq
  have hrn : 0 ≤ r := by rw [← hr]; exact num_nn _ _
  have hqn : 0 ≤ q := by rw [← hq]; exact num_nn _ _
  have hrl2 : r ≤ n := by rw [← hr, ← hrl]; exact num_le _ _
  have hql2 : q ≤ n := by rw [← hq, ← hrl]; exact num_le _ _
  have hboard := board_ok (sd2 v w) row (by simp [mVar, mC, mOp, mOpN, mUn, aNil, aCons, toDs, asDs, mCB, mTup, mLst, mIf, mTest, mAnd, mOr, mNot, mAndV, mOrV, mNotV, mChain, fI, fIc, fB, fU, fIx, fCatL, fCatT, fCatS, fAdd, orF, cPos, cDivW, f1, f2, fAbs, fInt, fLen, fMin2, fMax2, mSub, mIn, mLen, mScrIx, mScrLen, mIsi, fIsi, mTuple, mTupleP, mSl, mNoPart, mPart, sNext, sSeq, sAsg, sIf, sRet, sRetN, sDrop, sNever, sSetL, sPar, mYes, mgN, mgNil, mgCons, mgT, toD, toDn, asD, cD, retA, runF, kill, lookA, viewK, viewT, keyOf, ixN, atI0, atI1, atI2, atI3, isIn, mCall, renum, cellsOf, putBack, miSeq, still, miR1, miR2, wipeA, fEqI, fEqL, fEqT, fEqTT]) (okS2 hv hw) (by omega) fun x hx => by have := hri x hx; omega
  have htold := told_ok (sd2 v w) row x (by simp [mVar, mC, mOp, mOpN, mUn, aNil, aCons, toDs, asDs, mCB, mTup, mLst, mIf, mTest, mAnd, mOr, mNot, mAndV, mOrV, mNotV, mChain, fI, fIc, fB, fU, fIx, fCatL, fCatT, fCatS, fAdd, orF, cPos, cDivW, f1, f2, fAbs, fInt, fLen, fMin2, fMax2, mSub, mIn, mLen, mScrIx, mScrLen, mIsi, fIsi, mTuple, mTupleP, mSl, mNoPart, mPart, sNext, sSeq, sAsg, sIf, sRet, sRetN, sDrop, sNever, sSetL, sPar, mYes, mgN, mgNil, mgCons, mgT, toD, toDn, asD, cD, retA, runF, kill, lookA, viewK, viewT, keyOf, ixN, atI0, atI1, atI2, atI3, isIn, mCall, renum, cellsOf, putBack, miSeq, still, miR1, miR2, wipeA, fEqI, fEqL, fEqT, fEqTT]) (okS2 hv hw) (by omega)
  simp only [List.map_cons, List.map_nil, cell_at C.vp, cell_at C.wp, hr, hq, minL] at htold
  -- the second part
  have b15 := dr_lt s3.1 s3.2 (m := 15) (by omega)
  generalize hs4 : (dd s3.1 s3.2 15, de s3.1 s3.2 15) = s4
  have hil := drs_len 12 (dr s3.1 s3.2 15).toNat s4
  have hii := drs_lt (m := 12) (by omega) (dr s3.1 s3.2 15).toNat s4
  generalize hit : (drs 12 (dr s3.1 s3.2 15).toNat s4).1 = items at hil hii
  generalize hs5 : (drs 12 (dr s3.1 s3.2 15).toNat s4).2 = s5
  have b12 := dr_lt s5.1 s5.2 (m := 12) (by omega)
  generalize hy : dr s5.1 s5.2 12 = y at b12
  generalize hs6 : (dd s5.1 s5.2 12, de s5.1 s5.2 12) = s6
  have hb3 := board_ok sd3 items (by simp [mVar, mC, mOp, mOpN, mUn, aNil, aCons, toDs, asDs, mCB, mTup, mLst, mIf, mTest, mAnd, mOr, mNot, mAndV, mOrV, mNotV, mChain, fI, fIc, fB, fU, fIx, fCatL, fCatT, fCatS, fAdd, orF, cPos, cDivW, f1, f2, fAbs, fInt, fLen, fMin2, fMax2, mSub, mIn, mLen, mScrIx, mScrLen, mIsi, fIsi, mTuple, mTupleP, mSl, mNoPart, mPart, sNext, sSeq, sAsg, sIf, sRet, sRetN, sDrop, sNever, sSetL, sPar, mYes, mgN, mgNil, mgCons, mgT, toD, toDn, asD, cD, retA, runF, kill, lookA, viewK, viewT, keyOf, ixN, atI0, atI1, atI2, atI3, isIn, mCall, renum, cellsOf, putBack, miSeq, still, miR1, miR2, wipeA, fEqI, fEqL, fEqT, fEqTT]) okS3 (by omega) fun x hx => by have := hii x hx; omega
  have ht3 := told_ok sd3 items y (by simp [mVar, mC, mOp, mOpN, mUn, aNil, aCons, toDs, asDs, mCB, mTup, mLst, mIf, mTest, mAnd, mOr, mNot, mAndV, mOrV, mNotV, mChain, fI, fIc, fB, fU, fIx, fCatL, fCatT, fCatS, fAdd, orF, cPos, cDivW, f1, f2, fAbs, fInt, fLen, fMin2, fMax2, mSub, mIn, mLen, mScrIx, mScrLen, mIsi, fIsi, mTuple, mTupleP, mSl, mNoPart, mPart, sNext, sSeq, sAsg, sIf, sRet, sRetN, sDrop, sNever, sSetL, sPar, mYes, mgN, mgNil, mgCons, mgT, toD, toDn, asD, cD, retA, runF, kill, lookA, viewK, viewT, keyOf, ixN, atI0, atI1, atI2, atI3, isIn, mCall, renum, cellsOf, putBack, miSeq, still, miR1, miR2, wipeA, fEqI, fEqL, fEqT, fEqTT]) okS3 (by omega)
  simp only [List.map_cons, List.map_nil, cell_at (show (0 : Int) < 3 by omega), cell_at (show (0 : Int) < 4 by omega), cell_at (show (0 : Int) < 5 by omega), minL] at ht3
  obtain ⟨⟨t1, t2, t3⟩, t4⟩ := three_sum b12 hii
  generalize hm0 : num (fun z => decide (z = y)) items = many at *
  generalize num (fun z => decide (z % 3 = y % 3)) items = n3 at *
  generalize num (fun z => decide (z % 4 = y % 4)) items = n4 at *
  generalize num (fun z => decide (z % 5 = y % 5)) items = n5 at *
  generalize htd : (if n5 < (if n4 < n3 then n4 else n3) then n5 else (if n4 < n3 then n4 else n3)) = told at ht3
  have ht : many ≤ told ∧ 3 * (told - many) ≤ items.length - many := by
    rw [← htd]
    split <;> split <;> omega
  refine ⟨s6.1, s6.2, ?_⟩
  unfold M__law_boards
  refine runE (c2 := [bx s6.1 s6.2, some (false, .dK (((choF m n).foldl (stN (sd2 v w) row x) []).map nD))]) (a := .dat (.bool true)) rfl ?_ rfl rfl
  unfold B__law_boards
  show sSeq _ _ [some (.cell 0), none, none, none, none, none, none, none, none, none, none, none, none, none, none, none, none, none, none] [bx d e, none] = _
  refine seqE h1 ?_
  clear h1
  refine seqE (sl1 := [some (.cell 0), some (.dat (.int v)), some (.dat (.int w)), some (.dat (.int n)), none, none, none, none, none, none, none, none, none, none, none, none, none, none, none]) (c1 := [bx s1.1 s1.2, none]) (by subst hs1; simp [mVar, mC, mOp, mOpN, mUn, aNil, aCons, toDs, asDs, mCB, mTup, mLst, mIf, mTest, mAnd, mOr, mNot, mAndV, mOrV, mNotV, mChain, fI, fIc, fB, fU, fIx, fCatL, fCatT, fCatS, fAdd, orF, cPos, cDivW, f1, f2, fAbs, fInt, fLen, fMin2, fMax2, mSub, mIn, mLen, mScrIx, mScrLen, mIsi, fIsi, mTuple, mTupleP, mSl, mNoPart, mPart, sNext, sSeq, sAsg, sIf, sRet, sRetN, sDrop, sNever, sSetL, sPar, mYes, mgN, mgNil, mgCons, mgT, toD, toDn, asD, cD, retA, runF, kill, lookA, viewK, viewT, keyOf, ixN, atI0, atI1, atI2, atI3, isIn, mCall, renum, cellsOf, putBack, miSeq, still, miR1, miR2, wipeA, fEqI, fEqL, fEqT, fEqTT, draw_ok, hn]) ?_
  have hL1 : L__law_boards_1 [some (.cell 0), some (.dat (.int v)), some (.dat (.int w)), some (.dat (.int n)), none, none, none, none, none, none, none, none, none, none, none, none, none, none, none] [bx s1.1 s1.2, none] = some (.new (.lst (row.map .int)), [bx s2.1 s2.2, none]) := by
    have hn2 : (n : Int) ≤ 16777216 := by omega
    have hn3 : -1000000 ≤ (n : Int) := by omega
    have h := mLc_drs (mi := miR1 (aCons (mVar 3) (aNil))) (mg := mgN 5) (me := mCall 2 M__law_draw (aCons (mVar 0) (aCons (mOp (fIc cMul fun i j => i * j) (mVar 1) (mVar 2)) (aNil)))) (vs := [5]) (m := v * w) (sl := [some (.cell 0), some (.dat (.int v)), some (.dat (.int w)), some (.dat (.int n)), none, none, none, none, none, none, none, none, none, none, none, none, none, none, none]) (cs := [bx s1.1 s1.2, none]) (C := fun s => [bx s.1 s.2, none]) (l := rng 0 n) (s := s1) (by simp [mVar, mC, mOp, mOpN, mUn, aNil, aCons, toDs, asDs, mCB, mTup, mLst, mIf, mTest, mAnd, mOr, mNot, mAndV, mOrV, mNotV, mChain, fI, fIc, fB, fU, fIx, fCatL, fCatT, fCatS, fAdd, orF, cPos, cDivW, f1, f2, fAbs, fInt, fLen, fMin2, fMax2, mSub, mIn, mLen, mScrIx, mScrLen, mIsi, fIsi, mTuple, mTupleP, mSl, mNoPart, mPart, sNext, sSeq, sAsg, sIf, sRet, sRetN, sDrop, sNever, sSetL, sPar, mYes, mgN, mgNil, mgCons, mgT, toD, toDn, asD, cD, retA, runF, kill, lookA, viewK, viewT, keyOf, ixN, atI0, atI1, atI2, atI3, isIn, mCall, renum, cellsOf, putBack, miSeq, still, miR1, miR2, wipeA, fEqI, fEqL, fEqT, fEqTT, hn2, hn3]) fun x s => ⟨_, rfl, by simp [mVar, mC, mOp, mOpN, mUn, aNil, aCons, toDs, asDs, mCB, mTup, mLst, mIf, mTest, mAnd, mOr, mNot, mAndV, mOrV, mNotV, mChain, fI, fIc, fB, fU, fIx, fCatL, fCatT, fCatS, fAdd, orF, cPos, cDivW, f1, f2, fAbs, fInt, fLen, fMin2, fMax2, mSub, mIn, mLen, mScrIx, mScrLen, mIsi, fIsi, mTuple, mTupleP, mSl, mNoPart, mPart, sNext, sSeq, sAsg, sIf, sRet, sRetN, sDrop, sNever, sSetL, sPar, mYes, mgN, mgNil, mgCons, mgT, toD, toDn, asD, cD, retA, runF, kill, lookA, viewK, viewT, keyOf, ixN, atI0, atI1, atI2, atI3, isIn, mCall, renum, cellsOf, putBack, miSeq, still, miR1, miR2, wipeA, fEqI, fEqL, fEqT, fEqTT, draw_ok, hmul, hmp, hmb]⟩
    rw [rng_len, hrow, hs2] at h
    exact h
  refine seqE (sl1 := [some (.cell 0), some (.dat (.int v)), some (.dat (.int w)), some (.dat (.int n)), some (.dat (iT row)), none, none, none, none, none, none, none, none, none, none, none, none, none, none]) (c1 := [bx s2.1 s2.2, none]) (by simp [mVar, mC, mOp, mOpN, mUn, aNil, aCons, toDs, asDs, mCB, mTup, mLst, mIf, mTest, mAnd, mOr, mNot, mAndV, mOrV, mNotV, mChain, fI, fIc, fB, fU, fIx, fCatL, fCatT, fCatS, fAdd, orF, cPos, cDivW, f1, f2, fAbs, fInt, fLen, fMin2, fMax2, mSub, mIn, mLen, mScrIx, mScrLen, mIsi, fIsi, mTuple, mTupleP, mSl, mNoPart, mPart, sNext, sSeq, sAsg, sIf, sRet, sRetN, sDrop, sNever, sSetL, sPar, mYes, mgN, mgNil, mgCons, mgT, toD, toDn, asD, cD, retA, runF, kill, lookA, viewK, viewT, keyOf, ixN, atI0, atI1, atI2, atI3, isIn, mCall, renum, cellsOf, putBack, miSeq, still, miR1, miR2, wipeA, fEqI, fEqL, fEqT, fEqTT, hL1]) ?_
  clear hL1
  refine seqE (sl1 := [some (.cell 0), some (.dat (.int v)), some (.dat (.int w)), some (.dat (.int n)), some (.dat (iT row)), none, some (.dat (sT (sd2 v w))), none, none, none, none, none, none, none, none, none, none, none, none]) (c1 := [bx s2.1 s2.2, none]) (by simp [mVar, mC, mOp, mOpN, mUn, aNil, aCons, toDs, asDs, mCB, mTup, mLst, mIf, mTest, mAnd, mOr, mNot, mAndV, mOrV, mNotV, mChain, fI, fIc, fB, fU, fIx, fCatL, fCatT, fCatS, fAdd, orF, cPos, cDivW, f1, f2, fAbs, fInt, fLen, fMin2, fMax2, mSub, mIn, mLen, mScrIx, mScrLen, mIsi, fIsi, mTuple, mTupleP, mSl, mNoPart, mPart, sNext, sSeq, sAsg, sIf, sRet, sRetN, sDrop, sNever, sSetL, sPar, mYes, mgN, mgNil, mgCons, mgT, toD, toDn, asD, cD, retA, runF, kill, lookA, viewK, viewT, keyOf, ixN, atI0, atI1, atI2, atI3, isIn, mCall, renum, cellsOf, putBack, miSeq, still, miR1, miR2, wipeA, fEqI, fEqL, fEqT, fEqTT]) ?_
  refine seqE (sl1 := [some (.cell 0), some (.dat (.int v)), some (.dat (.int w)), some (.dat (.int n)), some (.dat (iT row)), none, some (.dat (sT (sd2 v w))), some (.dat (rT (brd (sd2 v w) row))), none, none, none, none, none, none, none, none, none, none, none]) (c1 := [bx s2.1 s2.2, none]) (by
    generalize M_board = g at hboard ⊢
    simp [mVar, mC, mOp, mOpN, mUn, aNil, aCons, toDs, asDs, mCB, mTup, mLst, mIf, mTest, mAnd, mOr, mNot, mAndV, mOrV, mNotV, mChain, fI, fIc, fB, fU, fIx, fCatL, fCatT, fCatS, fAdd, orF, cPos, cDivW, f1, f2, fAbs, fInt, fLen, fMin2, fMax2, mSub, mIn, mLen, mScrIx, mScrLen, mIsi, fIsi, mTuple, mTupleP, mSl, mNoPart, mPart, sNext, sSeq, sAsg, sIf, sRet, sRetN, sDrop, sNever, sSetL, sPar, mYes, mgN, mgNil, mgCons, mgT, toD, toDn, asD, cD, retA, runF, kill, lookA, viewK, viewT, keyOf, ixN, atI0, atI1, atI2, atI3, isIn, mCall, renum, cellsOf, putBack, miSeq, still, miR1, miR2, wipeA, fEqI, fEqL, fEqT, fEqTT, hboard]) ?_
  refine seqE (sl1 := [some (.cell 0), some (.dat (.int v)), some (.dat (.int w)), some (.dat (.int n)), some (.dat (iT row)), none, some (.dat (sT (sd2 v w))), some (.dat (rT (brd (sd2 v w) row))), some (.dat (.int x)), none, none, none, none, none, none, none, none, none, none]) (c1 := [bx s3.1 s3.2, none]) (by subst hs3; simp [mVar, mC, mOp, mOpN, mUn, aNil, aCons, toDs, asDs, mCB, mTup, mLst, mIf, mTest, mAnd, mOr, mNot, mAndV, mOrV, mNotV, mChain, fI, fIc, fB, fU, fIx, fCatL, fCatT, fCatS, fAdd, orF, cPos, cDivW, f1, f2, fAbs, fInt, fLen, fMin2, fMax2, mSub, mIn, mLen, mScrIx, mScrLen, mIsi, fIsi, mTuple, mTupleP, mSl, mNoPart, mPart, sNext, sSeq, sAsg, sIf, sRet, sRetN, sDrop, sNever, sSetL, sPar, mYes, mgN, mgNil, mgCons, mgT, toD, toDn, asD, cD, retA, runF, kill, lookA, viewK, viewT, keyOf, ixN, atI0, atI1, atI2, atI3, isIn, mCall, renum, cellsOf, putBack, miSeq, still, miR1, miR2, wipeA, fEqI, fEqL, fEqT, fEqTT, draw_ok, hmul, hmp, hmb, hx]) ?_
  refine seqE (sl1 := slB v w n row x r q none none none none none none none) (c1 := [bx s3.1 s3.2, none]) (by
    have a1 := row_at (row := row) (x := x) C.vp
    have a2 := row_at (row := row) (x := x) C.wp
    rw [hr] at a1
    rw [hq] at a2
    simp [mVar, mC, mOp, mOpN, mUn, aNil, aCons, toDs, asDs, mCB, mTup, mLst, mIf, mTest, mAnd, mOr, mNot, mAndV, mOrV, mNotV, mChain, fI, fIc, fB, fU, fIx, fCatL, fCatT, fCatS, fAdd, orF, cPos, cDivW, f1, f2, fAbs, fInt, fLen, fMin2, fMax2, mSub, mIn, mLen, mScrIx, mScrLen, mIsi, fIsi, mTuple, mTupleP, mSl, mNoPart, mPart, sNext, sSeq, sAsg, sIf, sRet, sRetN, sDrop, sNever, sSetL, sPar, mYes, mgN, mgNil, mgCons, mgT, toD, toDn, asD, cD, retA, runF, kill, lookA, viewK, viewT, keyOf, ixN, atI0, atI1, atI2, atI3, isIn, mCall, renum, cellsOf, putBack, miSeq, still, miR1, miR2, wipeA, fEqI, fEqL, fEqT, fEqTT, brd, C.vp, C.wp, a1, a2]) ?_
  refine seqE (sl1 := slB v w n row x r q none none none none none none none) (c1 := [bx s3.1 s3.2, none]) (by
    generalize M_told_count = g at htold ⊢
    simp [mVar, mC, mOp, mOpN, mUn, aNil, aCons, toDs, asDs, mCB, mTup, mLst, mIf, mTest, mAnd, mOr, mNot, mAndV, mOrV, mNotV, mChain, fI, fIc, fB, fU, fIx, fCatL, fCatT, fCatS, fAdd, orF, cPos, cDivW, f1, f2, fAbs, fInt, fLen, fMin2, fMax2, mSub, mIn, mLen, mScrIx, mScrLen, mIsi, fIsi, mTuple, mTupleP, mSl, mNoPart, mPart, sNext, sSeq, sAsg, sIf, sRet, sRetN, sDrop, sNever, sSetL, sPar, mYes, mgN, mgNil, mgCons, mgT, toD, toDn, asD, cD, retA, runF, kill, lookA, viewK, viewT, keyOf, ixN, atI0, atI1, atI2, atI3, isIn, mCall, renum, cellsOf, putBack, miSeq, still, miR1, miR2, wipeA, fEqI, fEqL, fEqT, fEqTT, htold]) ?_
  refine seqE (sl1 := slB v w n row x r q (some (.cell 1)) none none none none none none) (c1 := [bx s3.1 s3.2, some (false, .dK [])]) (by simp [mVar, mC, mOp, mOpN, mUn, aNil, aCons, toDs, asDs, mCB, mTup, mLst, mIf, mTest, mAnd, mOr, mNot, mAndV, mOrV, mNotV, mChain, fI, fIc, fB, fU, fIx, fCatL, fCatT, fCatS, fAdd, orF, cPos, cDivW, f1, f2, fAbs, fInt, fLen, fMin2, fMax2, mSub, mIn, mLen, mScrIx, mScrLen, mIsi, fIsi, mTuple, mTupleP, mSl, mNoPart, mPart, sNext, sSeq, sAsg, sIf, sRet, sRetN, sDrop, sNever, sSetL, sPar, mYes, mgN, mgNil, mgCons, mgT, toD, toDn, asD, cD, retA, runF, kill, lookA, viewK, viewT, keyOf, ixN, atI0, atI1, atI2, atI3, isIn, mCall, renum, cellsOf, putBack, miSeq, still, miR1, miR2, wipeA, fEqI, fEqL, fEqT, fEqTT, sNew, mNewK, sPutC, noCell]) ?_
  refine seqE (bloop3 hn4 hv hw hm hm2) ?_
  generalize hF : (choF m n).foldl (stN (sd2 v w) row x) [] = F at hlaw ⊢
  have hFl : F.length < 64 := by
    have e := congrArg List.length hlaw
    rw [(isort_perm F).length_eq] at e
    have e2 : (rgL (if r + q - n > 0 then r + q - n else 0) ((if q < r then q else r) + 1)).length ≤ 6 := by
      unfold rgL
      rw [List.length_map, List.length_range]
      split <;> split <;> omega
    omega
  refine seqE (sl1 := slB v w n row x r q (some (.cell 1)) none none none none none none) (c1 := [bx s3.1 s3.2, some (false, .dK (F.map nD))]) (by
    have ha : (if (r + q - n : Int) > 0 then r + q - n else 0) = (if r + q - (n : Int) > 0 then r + q - n else 0) := rfl
    generalize hA : (if r + q - (n : Int) > 0 then r + q - n else 0) = a at hlaw
    generalize hB : (if q < r then q else r) = bb at hlaw
    have ha1 : 0 ≤ a ∧ a ≤ 4 := by rw [← hA]; split <;> omega
    have hb1 : 0 ≤ bb ∧ bb ≤ 4 := by rw [← hB]; split <;> omega
    have e1 : mSort (mVar 11) (slB v w n row x r q (some (.cell 1)) none none none none none none) [bx s3.1 s3.2, some (false, .dK (F.map nD))] = some (.new (.lst ((isort F).map .int)), [bx s3.1 s3.2, some (false, .dK (F.map nD))]) := by
      simp [mVar, mC, mOp, mOpN, mUn, aNil, aCons, toDs, asDs, mCB, mTup, mLst, mIf, mTest, mAnd, mOr, mNot, mAndV, mOrV, mNotV, mChain, fI, fIc, fB, fU, fIx, fCatL, fCatT, fCatS, fAdd, orF, cPos, cDivW, f1, f2, fAbs, fInt, fLen, fMin2, fMax2, mSub, mIn, mLen, mScrIx, mScrLen, mIsi, fIsi, mTuple, mTupleP, mSl, mNoPart, mPart, sNext, sSeq, sAsg, sIf, sRet, sRetN, sDrop, sNever, sSetL, sPar, mYes, mgN, mgNil, mgCons, mgT, toD, toDn, asD, cD, retA, runF, kill, lookA, viewK, viewT, keyOf, ixN, atI0, atI1, atI2, atI3, isIn, mCall, renum, cellsOf, putBack, miSeq, still, miR1, miR2, wipeA, fEqI, fEqL, fEqT, fEqTT, mSort, keys_nD, hFl]
    have e2 : mLstR2 (mCB (f2 fMax2) (aCons (mC (.int 0)) (aCons (mOp (fI fun i j => i - j) (mOpN fAdd (mVar 9) (mVar 10)) (mVar 3)) (aNil)))) (mOpN fAdd (mCB (f2 fMin2) (aCons (mVar 9) (aCons (mVar 10) (aNil)))) (mC (.int 1))) (slB v w n row x r q (some (.cell 1)) none none none none none none) [bx s3.1 s3.2, some (false, .dK (F.map nD))] = some (.new (.lst ((rgL a (bb + 1)).map .int)), [bx s3.1 s3.2, some (false, .dK (F.map nD))]) := by
      have m1 : mCB (f2 fMax2) (aCons (mC (.int 0)) (aCons (mOp (fI fun i j => i - j) (mOpN fAdd (mVar 9) (mVar 10)) (mVar 3)) (aNil))) (slB v w n row x r q (some (.cell 1)) none none none none none none) [bx s3.1 s3.2, some (false, .dK (F.map nD))] = some (.dat (.int a), [bx s3.1 s3.2, some (false, .dK (F.map nD))]) := by
        rw [← hA]
        simp [mVar, mC, mOp, mOpN, mUn, aNil, aCons, toDs, asDs, mCB, mTup, mLst, mIf, mTest, mAnd, mOr, mNot, mAndV, mOrV, mNotV, mChain, fI, fIc, fB, fU, fIx, fCatL, fCatT, fCatS, fAdd, orF, cPos, cDivW, f1, f2, fAbs, fInt, fLen, fMin2, fMax2, mSub, mIn, mLen, mScrIx, mScrLen, mIsi, fIsi, mTuple, mTupleP, mSl, mNoPart, mPart, sNext, sSeq, sAsg, sIf, sRet, sRetN, sDrop, sNever, sSetL, sPar, mYes, mgN, mgNil, mgCons, mgT, toD, toDn, asD, cD, retA, runF, kill, lookA, viewK, viewT, keyOf, ixN, atI0, atI1, atI2, atI3, isIn, mCall, renum, cellsOf, putBack, miSeq, still, miR1, miR2, wipeA, fEqI, fEqL, fEqT, fEqTT]
      have m2 : mOpN fAdd (mCB (f2 fMin2) (aCons (mVar 9) (aCons (mVar 10) (aNil)))) (mC (.int 1)) (slB v w n row x r q (some (.cell 1)) none none none none none none) [bx s3.1 s3.2, some (false, .dK (F.map nD))] = some (.dat (.int (bb + 1)), [bx s3.1 s3.2, some (false, .dK (F.map nD))]) := by
        rw [← hB]
        simp [mVar, mC, mOp, mOpN, mUn, aNil, aCons, toDs, asDs, mCB, mTup, mLst, mIf, mTest, mAnd, mOr, mNot, mAndV, mOrV, mNotV, mChain, fI, fIc, fB, fU, fIx, fCatL, fCatT, fCatS, fAdd, orF, cPos, cDivW, f1, f2, fAbs, fInt, fLen, fMin2, fMax2, mSub, mIn, mLen, mScrIx, mScrLen, mIsi, fIsi, mTuple, mTupleP, mSl, mNoPart, mPart, sNext, sSeq, sAsg, sIf, sRet, sRetN, sDrop, sNever, sSetL, sPar, mYes, mgN, mgNil, mgCons, mgT, toD, toDn, asD, cD, retA, runF, kill, lookA, viewK, viewT, keyOf, ixN, atI0, atI1, atI2, atI3, isIn, mCall, renum, cellsOf, putBack, miSeq, still, miR1, miR2, wipeA, fEqI, fEqL, fEqT, fEqTT]
      have hrg : rng a (bb + 1 - a).toNat = (rgL a (bb + 1)).map .int := by unfold rng rgL; rw [List.map_map]; rfl
      unfold mLstR2
      rw [m1]
      simp only [m2, toD]
      rw [if_pos (by omega), hrg]
    have e3 : mTest (mOp (fEq true) (mSort (mVar 11)) (mLstR2 (mCB (f2 fMax2) (aCons (mC (.int 0)) (aCons (mOp (fI fun i j => i - j) (mOpN fAdd (mVar 9) (mVar 10)) (mVar 3)) (aNil)))) (mOpN fAdd (mCB (f2 fMin2) (aCons (mVar 9) (aCons (mVar 10) (aNil)))) (mC (.int 1))))) (slB v w n row x r q (some (.cell 1)) none none none none none none) [bx s3.1 s3.2, some (false, .dK (F.map nD))] = some (false, [bx s3.1 s3.2, some (false, .dK (F.map nD))]) := by
      have e4 := fEqL true (isort F) (rgL a (bb + 1))
      rw [hlaw] at e4 e1
      simp only [mTest, mOp, e1, e2, toD, cD, e4]
      simp [mVar, mC, mOp, mOpN, mUn, aNil, aCons, toDs, asDs, mCB, mTup, mLst, mIf, mTest, mAnd, mOr, mNot, mAndV, mOrV, mNotV, mChain, fI, fIc, fB, fU, fIx, fCatL, fCatT, fCatS, fAdd, orF, cPos, cDivW, f1, f2, fAbs, fInt, fLen, fMin2, fMax2, mSub, mIn, mLen, mScrIx, mScrLen, mIsi, fIsi, mTuple, mTupleP, mSl, mNoPart, mPart, sNext, sSeq, sAsg, sIf, sRet, sRetN, sDrop, sNever, sSetL, sPar, mYes, mgN, mgNil, mgCons, mgT, toD, toDn, asD, cD, retA, runF, kill, lookA, viewK, viewT, keyOf, ixN, atI0, atI1, atI2, atI3, isIn, mCall, renum, cellsOf, putBack, miSeq, still, miR1, miR2, wipeA, fEqI, fEqL, fEqT, fEqTT]
    unfold sIf
    rw [e3]
    rfl) ?_
  refine seqE (sl1 := slB v w n row x r q (some (.cell 1)) none none (some (.dat (sT sd3))) none none none) (c1 := [bx s3.1 s3.2, some (false, .dK (F.map nD))]) (by simp [mVar, mC, mOp, mOpN, mUn, aNil, aCons, toDs, asDs, mCB, mTup, mLst, mIf, mTest, mAnd, mOr, mNot, mAndV, mOrV, mNotV, mChain, fI, fIc, fB, fU, fIx, fCatL, fCatT, fCatS, fAdd, orF, cPos, cDivW, f1, f2, fAbs, fInt, fLen, fMin2, fMax2, mSub, mIn, mLen, mScrIx, mScrLen, mIsi, fIsi, mTuple, mTupleP, mSl, mNoPart, mPart, sNext, sSeq, sAsg, sIf, sRet, sRetN, sDrop, sNever, sSetL, sPar, mYes, mgN, mgNil, mgCons, mgT, toD, toDn, asD, cD, retA, runF, kill, lookA, viewK, viewT, keyOf, ixN, atI0, atI1, atI2, atI3, isIn, mCall, renum, cellsOf, putBack, miSeq, still, miR1, miR2, wipeA, fEqI, fEqL, fEqT, fEqTT]) ?_
  have hL4 : L__law_boards_4 (slB v w n row x r q (some (.cell 1)) none none (some (.dat (sT sd3))) none none none) [bx s3.1 s3.2, some (false, .dK (F.map nD))] = some (.new (.lst (items.map .int)), [bx s5.1 s5.2, some (false, .dK (F.map nD))]) := by
    have q2 : dr s3.1 s3.2 15 ≤ 16777216 := by omega
    have q3 : -1000000 ≤ dr s3.1 s3.2 15 := by omega
    have h := mLc_drs (mi := miR1 (aCons (mCall 2 M__law_draw (aCons (mVar 0) (aCons (mC (.int 15)) (aNil)))) (aNil))) (mg := mgN 5) (me := mCall 2 M__law_draw (aCons (mVar 0) (aCons (mC (.int 12)) (aNil)))) (vs := [5]) (m := 12) (sl := slB v w n row x r q (some (.cell 1)) none none (some (.dat (sT sd3))) none none none) (cs := [bx s3.1 s3.2, some (false, .dK (F.map nD))]) (C := fun s => [bx s.1 s.2, some (false, .dK (F.map nD))]) (l := rng 0 (dr s3.1 s3.2 15).toNat) (s := (dd s3.1 s3.2 15, de s3.1 s3.2 15)) (by simp [mVar, mC, mOp, mOpN, mUn, aNil, aCons, toDs, asDs, mCB, mTup, mLst, mIf, mTest, mAnd, mOr, mNot, mAndV, mOrV, mNotV, mChain, fI, fIc, fB, fU, fIx, fCatL, fCatT, fCatS, fAdd, orF, cPos, cDivW, f1, f2, fAbs, fInt, fLen, fMin2, fMax2, mSub, mIn, mLen, mScrIx, mScrLen, mIsi, fIsi, mTuple, mTupleP, mSl, mNoPart, mPart, sNext, sSeq, sAsg, sIf, sRet, sRetN, sDrop, sNever, sSetL, sPar, mYes, mgN, mgNil, mgCons, mgT, toD, toDn, asD, cD, retA, runF, kill, lookA, viewK, viewT, keyOf, ixN, atI0, atI1, atI2, atI3, isIn, mCall, renum, cellsOf, putBack, miSeq, still, miR1, miR2, wipeA, fEqI, fEqL, fEqT, fEqTT, draw_ok, q2, q3]) fun x s => ⟨_, rfl, by simp [mVar, mC, mOp, mOpN, mUn, aNil, aCons, toDs, asDs, mCB, mTup, mLst, mIf, mTest, mAnd, mOr, mNot, mAndV, mOrV, mNotV, mChain, fI, fIc, fB, fU, fIx, fCatL, fCatT, fCatS, fAdd, orF, cPos, cDivW, f1, f2, fAbs, fInt, fLen, fMin2, fMax2, mSub, mIn, mLen, mScrIx, mScrLen, mIsi, fIsi, mTuple, mTupleP, mSl, mNoPart, mPart, sNext, sSeq, sAsg, sIf, sRet, sRetN, sDrop, sNever, sSetL, sPar, mYes, mgN, mgNil, mgCons, mgT, toD, toDn, asD, cD, retA, runF, kill, lookA, viewK, viewT, keyOf, ixN, atI0, atI1, atI2, atI3, isIn, mCall, renum, cellsOf, putBack, miSeq, still, miR1, miR2, wipeA, fEqI, fEqL, fEqT, fEqTT, draw_ok]⟩
    rw [rng_len, hs4, hit, hs5] at h
    exact h
  refine seqE (sl1 := slB v w n row x r q (some (.cell 1)) none none (some (.dat (sT sd3))) (some (.dat (iT items))) none none) (c1 := [bx s5.1 s5.2, some (false, .dK (F.map nD))]) (by simp [mVar, mC, mOp, mOpN, mUn, aNil, aCons, toDs, asDs, mCB, mTup, mLst, mIf, mTest, mAnd, mOr, mNot, mAndV, mOrV, mNotV, mChain, fI, fIc, fB, fU, fIx, fCatL, fCatT, fCatS, fAdd, orF, cPos, cDivW, f1, f2, fAbs, fInt, fLen, fMin2, fMax2, mSub, mIn, mLen, mScrIx, mScrLen, mIsi, fIsi, mTuple, mTupleP, mSl, mNoPart, mPart, sNext, sSeq, sAsg, sIf, sRet, sRetN, sDrop, sNever, sSetL, sPar, mYes, mgN, mgNil, mgCons, mgT, toD, toDn, asD, cD, retA, runF, kill, lookA, viewK, viewT, keyOf, ixN, atI0, atI1, atI2, atI3, isIn, mCall, renum, cellsOf, putBack, miSeq, still, miR1, miR2, wipeA, fEqI, fEqL, fEqT, fEqTT, hL4]) ?_
  clear hL4
  refine seqE (sl1 := slB v w n row x r q (some (.cell 1)) none (some (.dat (.int y))) (some (.dat (sT sd3))) (some (.dat (iT items))) none none) (c1 := [bx s6.1 s6.2, some (false, .dK (F.map nD))]) (by subst hs6; simp [mVar, mC, mOp, mOpN, mUn, aNil, aCons, toDs, asDs, mCB, mTup, mLst, mIf, mTest, mAnd, mOr, mNot, mAndV, mOrV, mNotV, mChain, fI, fIc, fB, fU, fIx, fCatL, fCatT, fCatS, fAdd, orF, cPos, cDivW, f1, f2, fAbs, fInt, fLen, fMin2, fMax2, mSub, mIn, mLen, mScrIx, mScrLen, mIsi, fIsi, mTuple, mTupleP, mSl, mNoPart, mPart, sNext, sSeq, sAsg, sIf, sRet, sRetN, sDrop, sNever, sSetL, sPar, mYes, mgN, mgNil, mgCons, mgT, toD, toDn, asD, cD, retA, runF, kill, lookA, viewK, viewT, keyOf, ixN, atI0, atI1, atI2, atI3, isIn, mCall, renum, cellsOf, putBack, miSeq, still, miR1, miR2, wipeA, fEqI, fEqL, fEqT, fEqTT, draw_ok, hy]) ?_
  have hL5 : L__law_boards_5 (slB v w n row x r q (some (.cell 1)) none (some (.dat (.int y))) (some (.dat (sT sd3))) (some (.dat (iT items))) none none) [bx s6.1 s6.2, some (false, .dK (F.map nD))] = some (.new (.lst ((items.filter fun z => decide (z = y)).map .int)), [bx s6.1 s6.2, some (false, .dK (F.map nD))]) :=
    mLc_filt .int _ _ items (by simp [mVar, mC, mOp, mOpN, mUn, aNil, aCons, toDs, asDs, mCB, mTup, mLst, mIf, mTest, mAnd, mOr, mNot, mAndV, mOrV, mNotV, mChain, fI, fIc, fB, fU, fIx, fCatL, fCatT, fCatS, fAdd, orF, cPos, cDivW, f1, f2, fAbs, fInt, fLen, fMin2, fMax2, mSub, mIn, mLen, mScrIx, mScrLen, mIsi, fIsi, mTuple, mTupleP, mSl, mNoPart, mPart, sNext, sSeq, sAsg, sIf, sRet, sRetN, sDrop, sNever, sSetL, sPar, mYes, mgN, mgNil, mgCons, mgT, toD, toDn, asD, cD, retA, runF, kill, lookA, viewK, viewT, keyOf, ixN, atI0, atI1, atI2, atI3, isIn, mCall, renum, cellsOf, putBack, miSeq, still, miR1, miR2, wipeA, fEqI, fEqL, fEqT, fEqTT]) fun z hz => ⟨_, rfl, by simp [mVar, mC, mOp, mOpN, mUn, aNil, aCons, toDs, asDs, mCB, mTup, mLst, mIf, mTest, mAnd, mOr, mNot, mAndV, mOrV, mNotV, mChain, fI, fIc, fB, fU, fIx, fCatL, fCatT, fCatS, fAdd, orF, cPos, cDivW, f1, f2, fAbs, fInt, fLen, fMin2, fMax2, mSub, mIn, mLen, mScrIx, mScrLen, mIsi, fIsi, mTuple, mTupleP, mSl, mNoPart, mPart, sNext, sSeq, sAsg, sIf, sRet, sRetN, sDrop, sNever, sSetL, sPar, mYes, mgN, mgNil, mgCons, mgT, toD, toDn, asD, cD, retA, runF, kill, lookA, viewK, viewT, keyOf, ixN, atI0, atI1, atI2, atI3, isIn, mCall, renum, cellsOf, putBack, miSeq, still, miR1, miR2, wipeA, fEqI, fEqL, fEqT, fEqTT], fun _ => ⟨_, rfl, rfl⟩⟩
  have hm1 : ((items.filter fun z => decide (z = y)).length : Int) = many := hm0
  refine seqE (sl1 := slB v w n row x r q (some (.cell 1)) none (some (.dat (.int y))) (some (.dat (sT sd3))) (some (.dat (iT items))) (some (.dat (.int many))) none) (c1 := [bx s6.1 s6.2, some (false, .dK (F.map nD))]) (by simp [mVar, mC, mOp, mOpN, mUn, aNil, aCons, toDs, asDs, mCB, mTup, mLst, mIf, mTest, mAnd, mOr, mNot, mAndV, mOrV, mNotV, mChain, fI, fIc, fB, fU, fIx, fCatL, fCatT, fCatS, fAdd, orF, cPos, cDivW, f1, f2, fAbs, fInt, fLen, fMin2, fMax2, mSub, mIn, mLen, mScrIx, mScrLen, mIsi, fIsi, mTuple, mTupleP, mSl, mNoPart, mPart, sNext, sSeq, sAsg, sIf, sRet, sRetN, sDrop, sNever, sSetL, sPar, mYes, mgN, mgNil, mgCons, mgT, toD, toDn, asD, cD, retA, runF, kill, lookA, viewK, viewT, keyOf, ixN, atI0, atI1, atI2, atI3, isIn, mCall, renum, cellsOf, putBack, miSeq, still, miR1, miR2, wipeA, fEqI, fEqL, fEqT, fEqTT, hL5, hm1]) ?_
  refine seqE (sl1 := slB v w n row x r q (some (.cell 1)) none (some (.dat (.int y))) (some (.dat (sT sd3))) (some (.dat (iT items))) (some (.dat (.int many))) (some (.dat (.int told)))) (c1 := [bx s6.1 s6.2, some (false, .dK (F.map nD))]) (by
    generalize M_board = g at hb3 ⊢
    generalize M_told_count = g2 at ht3 ⊢
    simp [mVar, mC, mOp, mOpN, mUn, aNil, aCons, toDs, asDs, mCB, mTup, mLst, mIf, mTest, mAnd, mOr, mNot, mAndV, mOrV, mNotV, mChain, fI, fIc, fB, fU, fIx, fCatL, fCatT, fCatS, fAdd, orF, cPos, cDivW, f1, f2, fAbs, fInt, fLen, fMin2, fMax2, mSub, mIn, mLen, mScrIx, mScrLen, mIsi, fIsi, mTuple, mTupleP, mSl, mNoPart, mPart, sNext, sSeq, sAsg, sIf, sRet, sRetN, sDrop, sNever, sSetL, sPar, mYes, mgN, mgNil, mgCons, mgT, toD, toDn, asD, cD, retA, runF, kill, lookA, viewK, viewT, keyOf, ixN, atI0, atI1, atI2, atI3, isIn, mCall, renum, cellsOf, putBack, miSeq, still, miR1, miR2, wipeA, fEqI, fEqL, fEqT, fEqTT, hb3, ht3]) ?_
  have hc1 : cMul 3 (told - many) = true := cMul_ok ⟨by omega, by omega⟩
  have hc2 : cMul 1 (items.length - many) = true := cMul_ok ⟨by omega, by omega⟩
  simp [mVar, mC, mOp, mOpN, mUn, aNil, aCons, toDs, asDs, mCB, mTup, mLst, mIf, mTest, mAnd, mOr, mNot, mAndV, mOrV, mNotV, mChain, fI, fIc, fB, fU, fIx, fCatL, fCatT, fCatS, fAdd, orF, cPos, cDivW, f1, f2, fAbs, fInt, fLen, fMin2, fMax2, mSub, mIn, mLen, mScrIx, mScrLen, mIsi, fIsi, mTuple, mTupleP, mSl, mNoPart, mPart, sNext, sSeq, sAsg, sIf, sRet, sRetN, sDrop, sNever, sSetL, sPar, mYes, mgN, mgNil, mgCons, mgT, toD, toDn, asD, cD, retA, runF, kill, lookA, viewK, viewT, keyOf, ixN, atI0, atI1, atI2, atI3, isIn, mCall, renum, cellsOf, putBack, miSeq, still, miR1, miR2, wipeA, fEqI, fEqL, fEqT, fEqTT, ht.1, ht.2, hc1, hc2]
theorem brd_plus (one two : List Int) (s : Int × Int × Int) : brd [s] (one ++ two) = ((brd [s] one).zip (brd [s] two)).map fun p => (p.1.zip p.2).map fun q => q.1 + q.2 := by
  simp only [brd, List.map_cons, List.map_nil, List.zip_cons_cons, List.zip_nil_right, List.cons.injEq, and_true]
  unfold rowN
  rw [List.zip_map', List.map_map]
  refine List.map_congr_left fun i _ => ?_
  simp only [Function.comp, cellN, List.filter_append, List.length_append]
  omega
end Rf

namespace Rf
open PySem L2
theorem okS1 : ∀ s ∈ ([(1, 0, 4)] : List (Int × Int × Int)), okSeed s := by
  intro s hs
  simp only [List.mem_cons, List.not_mem_nil, or_false] at hs
  rcases hs with rfl
  exact ⟨by decide, by decide, by decide, by decide⟩
abbrev sd1 : List (Int × Int × Int) := [(1, 0, 4)]
theorem plain (ns : List Int) (h : ns.length ≤ 63) : M_law [.scr ns] [] = some (.dat (.bool true), []) := by
  obtain ⟨d, e, hst⟩ := stream_ok ns
  generalize hs0 : (d, e) = s0
  have hd : d = s0.1 := by rw [← hs0]
  have he : e = s0.2 := by rw [← hs0]
  rw [hd, he] at hst
  have l1 := drs_len 9 3 s0
  have i1 := drs_lt (m := 9) (by omega) 3 s0
  generalize h1 : (drs 9 3 s0).1 = one at l1 i1
  generalize h2 : (drs 9 3 s0).2 = s1
  have l2 := drs_len 9 3 s1
  have i2 := drs_lt (m := 9) (by omega) 3 s1
  generalize h3 : (drs 9 3 s1).1 = two at l2 i2
  generalize h4 : (drs 9 3 s1).2 = s2
  obtain ⟨d3, e3, hc⟩ := counts_ok s2.1 s2.2
  obtain ⟨d4, e4, ht⟩ := together_ok d3 e3
  obtain ⟨d5, e5, hb⟩ := boards_ok d4 e4
  have b1 := board_ok sd1 one (by simp [mVar, mC, mOp, mOpN, mUn, aNil, aCons, toDs, asDs, mCB, mTup, mLst, mIf, mTest, mAnd, mOr, mNot, mAndV, mOrV, mNotV, mChain, fI, fIc, fB, fU, fIx, fCatL, fCatT, fCatS, fAdd, orF, cPos, cDivW, f1, f2, fAbs, fInt, fLen, fMin2, fMax2, mSub, mIn, mLen, mScrIx, mScrLen, mIsi, fIsi, mTuple, mTupleP, mSl, mNoPart, mPart, sNext, sSeq, sAsg, sIf, sRet, sRetN, sDrop, sNever, sSetL, sPar, mYes, mgN, mgNil, mgCons, mgT, toD, toDn, asD, cD, retA, runF, kill, lookA, viewK, viewT, keyOf, ixN, atI0, atI1, atI2, atI3, isIn, mCall, renum, cellsOf, putBack, miSeq, still, miR1, miR2, wipeA, fEqI, fEqL, fEqT, fEqTT]) okS1 (by omega) fun x hx => by have := i1 x hx; omega
  have b2 := board_ok sd1 two (by simp [mVar, mC, mOp, mOpN, mUn, aNil, aCons, toDs, asDs, mCB, mTup, mLst, mIf, mTest, mAnd, mOr, mNot, mAndV, mOrV, mNotV, mChain, fI, fIc, fB, fU, fIx, fCatL, fCatT, fCatS, fAdd, orF, cPos, cDivW, f1, f2, fAbs, fInt, fLen, fMin2, fMax2, mSub, mIn, mLen, mScrIx, mScrLen, mIsi, fIsi, mTuple, mTupleP, mSl, mNoPart, mPart, sNext, sSeq, sAsg, sIf, sRet, sRetN, sDrop, sNever, sSetL, sPar, mYes, mgN, mgNil, mgCons, mgT, toD, toDn, asD, cD, retA, runF, kill, lookA, viewK, viewT, keyOf, ixN, atI0, atI1, atI2, atI3, isIn, mCall, renum, cellsOf, putBack, miSeq, still, miR1, miR2, wipeA, fEqI, fEqL, fEqT, fEqTT]) okS1 (by omega) fun x hx => by have := i2 x hx; omega
  have b3 := board_ok sd1 (one ++ two) (by simp [mVar, mC, mOp, mOpN, mUn, aNil, aCons, toDs, asDs, mCB, mTup, mLst, mIf, mTest, mAnd, mOr, mNot, mAndV, mOrV, mNotV, mChain, fI, fIc, fB, fU, fIx, fCatL, fCatT, fCatS, fAdd, orF, cPos, cDivW, f1, f2, fAbs, fInt, fLen, fMin2, fMax2, mSub, mIn, mLen, mScrIx, mScrLen, mIsi, fIsi, mTuple, mTupleP, mSl, mNoPart, mPart, sNext, sSeq, sAsg, sIf, sRet, sRetN, sDrop, sNever, sSetL, sPar, mYes, mgN, mgNil, mgCons, mgT, toD, toDn, asD, cD, retA, runF, kill, lookA, viewK, viewT, keyOf, ixN, atI0, atI1, atI2, atI3, isIn, mCall, renum, cellsOf, putBack, miSeq, still, miR1, miR2, wipeA, fEqI, fEqL, fEqT, fEqTT]) okS1 (by rw [List.length_append]; omega) fun x hx => by
    rcases List.mem_append.mp hx with hx | hx
    · have := i1 x hx; omega
    · have := i2 x hx; omega
  have bb := both_ok (brd sd1 one) (brd sd1 two) (brd_in (by simp [mVar, mC, mOp, mOpN, mUn, aNil, aCons, toDs, asDs, mCB, mTup, mLst, mIf, mTest, mAnd, mOr, mNot, mAndV, mOrV, mNotV, mChain, fI, fIc, fB, fU, fIx, fCatL, fCatT, fCatS, fAdd, orF, cPos, cDivW, f1, f2, fAbs, fInt, fLen, fMin2, fMax2, mSub, mIn, mLen, mScrIx, mScrLen, mIsi, fIsi, mTuple, mTupleP, mSl, mNoPart, mPart, sNext, sSeq, sAsg, sIf, sRet, sRetN, sDrop, sNever, sSetL, sPar, mYes, mgN, mgNil, mgCons, mgT, toD, toDn, asD, cD, retA, runF, kill, lookA, viewK, viewT, keyOf, ixN, atI0, atI1, atI2, atI3, isIn, mCall, renum, cellsOf, putBack, miSeq, still, miR1, miR2, wipeA, fEqI, fEqL, fEqT, fEqTT]) okS1 (by omega)) (brd_in (by simp [mVar, mC, mOp, mOpN, mUn, aNil, aCons, toDs, asDs, mCB, mTup, mLst, mIf, mTest, mAnd, mOr, mNot, mAndV, mOrV, mNotV, mChain, fI, fIc, fB, fU, fIx, fCatL, fCatT, fCatS, fAdd, orF, cPos, cDivW, f1, f2, fAbs, fInt, fLen, fMin2, fMax2, mSub, mIn, mLen, mScrIx, mScrLen, mIsi, fIsi, mTuple, mTupleP, mSl, mNoPart, mPart, sNext, sSeq, sAsg, sIf, sRet, sRetN, sDrop, sNever, sSetL, sPar, mYes, mgN, mgNil, mgCons, mgT, toD, toDn, asD, cD, retA, runF, kill, lookA, viewK, viewT, keyOf, ixN, atI0, atI1, atI2, atI3, isIn, mCall, renum, cellsOf, putBack, miSeq, still, miR1, miR2, wipeA, fEqI, fEqL, fEqT, fEqTT]) okS1 (by omega)) (by simp [mVar, mC, mOp, mOpN, mUn, aNil, aCons, toDs, asDs, mCB, mTup, mLst, mIf, mTest, mAnd, mOr, mNot, mAndV, mOrV, mNotV, mChain, fI, fIc, fB, fU, fIx, fCatL, fCatT, fCatS, fAdd, orF, cPos, cDivW, f1, f2, fAbs, fInt, fLen, fMin2, fMax2, mSub, mIn, mLen, mScrIx, mScrLen, mIsi, fIsi, mTuple, mTupleP, mSl, mNoPart, mPart, sNext, sSeq, sAsg, sIf, sRet, sRetN, sDrop, sNever, sSetL, sPar, mYes, mgN, mgNil, mgCons, mgT, toD, toDn, asD, cD, retA, runF, kill, lookA, viewK, viewT, keyOf, ixN, atI0, atI1, atI2, atI3, isIn, mCall, renum, cellsOf, putBack, miSeq, still, miR1, miR2, wipeA, fEqI, fEqL, fEqT, fEqTT, brd, rowN_len])
  rw [← brd_plus] at bb
  have hL : ∀ s s' : Int × Int, ∀ r : List Int, (drs 9 3 s).1 = r → (drs 9 3 s).2 = s' → L_law_1 [some (.scr ns), some (.cell 0), none, none, none, none] [bx s.1 s.2] = some (.new (.lst (r.map .int)), [bx s'.1 s'.2]) := by
    intro s s' r hr hs
    have h := mLc_drs (mi := miR1 (aCons (mC (.int 3)) (aNil))) (mg := mgN 4) (me := mCall 2 M__law_draw (aCons (mVar 1) (aCons (mC (.int 9)) (aNil)))) (vs := [4]) (m := 9) (sl := [some (.scr ns), some (.cell 0), none, none, none, none]) (cs := [bx s.1 s.2]) (C := fun s => [bx s.1 s.2]) (l := rng 0 3) (s := s) (by simp [mVar, mC, mOp, mOpN, mUn, aNil, aCons, toDs, asDs, mCB, mTup, mLst, mIf, mTest, mAnd, mOr, mNot, mAndV, mOrV, mNotV, mChain, fI, fIc, fB, fU, fIx, fCatL, fCatT, fCatS, fAdd, orF, cPos, cDivW, f1, f2, fAbs, fInt, fLen, fMin2, fMax2, mSub, mIn, mLen, mScrIx, mScrLen, mIsi, fIsi, mTuple, mTupleP, mSl, mNoPart, mPart, sNext, sSeq, sAsg, sIf, sRet, sRetN, sDrop, sNever, sSetL, sPar, mYes, mgN, mgNil, mgCons, mgT, toD, toDn, asD, cD, retA, runF, kill, lookA, viewK, viewT, keyOf, ixN, atI0, atI1, atI2, atI3, isIn, mCall, renum, cellsOf, putBack, miSeq, still, miR1, miR2, wipeA, fEqI, fEqL, fEqT, fEqTT]) fun x s => ⟨_, rfl, by simp [mVar, mC, mOp, mOpN, mUn, aNil, aCons, toDs, asDs, mCB, mTup, mLst, mIf, mTest, mAnd, mOr, mNot, mAndV, mOrV, mNotV, mChain, fI, fIc, fB, fU, fIx, fCatL, fCatT, fCatS, fAdd, orF, cPos, cDivW, f1, f2, fAbs, fInt, fLen, fMin2, fMax2, mSub, mIn, mLen, mScrIx, mScrLen, mIsi, fIsi, mTuple, mTupleP, mSl, mNoPart, mPart, sNext, sSeq, sAsg, sIf, sRet, sRetN, sDrop, sNever, sSetL, sPar, mYes, mgN, mgNil, mgCons, mgT, toD, toDn, asD, cD, retA, runF, kill, lookA, viewK, viewT, keyOf, ixN, atI0, atI1, atI2, atI3, isIn, mCall, renum, cellsOf, putBack, miSeq, still, miR1, miR2, wipeA, fEqI, fEqL, fEqT, fEqTT, draw_ok]⟩
    rw [rng_len, hr, hs] at h
    exact h
  have hL1 := hL s0 s1 one h1 h2
  have hL2 := hL s1 s2 two h3 h4
  unfold M_law
  refine runE (c2 := [bx d5 e5]) (a := .dat (.bool true)) rfl ?_ rfl rfl
  unfold B_law
  show sSeq _ _ [some (.scr ns), none, none, none, none, none] [none] = _
  refine seqE (sl1 := [some (.scr ns), some (.cell 0), none, none, none, none]) (c1 := [bx s0.1 s0.2]) (by
    generalize M__law_stream = g at hst ⊢
    simp [mVar, mC, mOp, mOpN, mUn, aNil, aCons, toDs, asDs, mCB, mTup, mLst, mIf, mTest, mAnd, mOr, mNot, mAndV, mOrV, mNotV, mChain, fI, fIc, fB, fU, fIx, fCatL, fCatT, fCatS, fAdd, orF, cPos, cDivW, f1, f2, fAbs, fInt, fLen, fMin2, fMax2, mSub, mIn, mLen, mScrIx, mScrLen, mIsi, fIsi, mTuple, mTupleP, mSl, mNoPart, mPart, sNext, sSeq, sAsg, sIf, sRet, sRetN, sDrop, sNever, sSetL, sPar, mYes, mgN, mgNil, mgCons, mgT, toD, toDn, asD, cD, retA, runF, kill, lookA, viewK, viewT, keyOf, ixN, atI0, atI1, atI2, atI3, isIn, mCall, renum, cellsOf, putBack, miSeq, still, miR1, miR2, wipeA, fEqI, fEqL, fEqT, fEqTT, sNew, hst, sPutC, noCell]) ?_
  refine seqE (sl1 := [some (.scr ns), some (.cell 0), some (.dat (iT one)), some (.dat (iT two)), none, none]) (c1 := [bx s2.1 s2.2]) (by simp [mVar, mC, mOp, mOpN, mUn, aNil, aCons, toDs, asDs, mCB, mTup, mLst, mIf, mTest, mAnd, mOr, mNot, mAndV, mOrV, mNotV, mChain, fI, fIc, fB, fU, fIx, fCatL, fCatT, fCatS, fAdd, orF, cPos, cDivW, f1, f2, fAbs, fInt, fLen, fMin2, fMax2, mSub, mIn, mLen, mScrIx, mScrLen, mIsi, fIsi, mTuple, mTupleP, mSl, mNoPart, mPart, sNext, sSeq, sAsg, sIf, sRet, sRetN, sDrop, sNever, sSetL, sPar, mYes, mgN, mgNil, mgCons, mgT, toD, toDn, asD, cD, retA, runF, kill, lookA, viewK, viewT, keyOf, ixN, atI0, atI1, atI2, atI3, isIn, mCall, renum, cellsOf, putBack, miSeq, still, miR1, miR2, wipeA, fEqI, fEqL, fEqT, fEqTT, hL1, hL2]) ?_
  clear hL hL1 hL2
  refine seqE (sl1 := [some (.scr ns), some (.cell 0), some (.dat (iT one)), some (.dat (iT two)), none, some (.dat (sT sd1))]) (c1 := [bx s2.1 s2.2]) (by simp [mVar, mC, mOp, mOpN, mUn, aNil, aCons, toDs, asDs, mCB, mTup, mLst, mIf, mTest, mAnd, mOr, mNot, mAndV, mOrV, mNotV, mChain, fI, fIc, fB, fU, fIx, fCatL, fCatT, fCatS, fAdd, orF, cPos, cDivW, f1, f2, fAbs, fInt, fLen, fMin2, fMax2, mSub, mIn, mLen, mScrIx, mScrLen, mIsi, fIsi, mTuple, mTupleP, mSl, mNoPart, mPart, sNext, sSeq, sAsg, sIf, sRet, sRetN, sDrop, sNever, sSetL, sPar, mYes, mgN, mgNil, mgCons, mgT, toD, toDn, asD, cD, retA, runF, kill, lookA, viewK, viewT, keyOf, ixN, atI0, atI1, atI2, atI3, isIn, mCall, renum, cellsOf, putBack, miSeq, still, miR1, miR2, wipeA, fEqI, fEqL, fEqT, fEqTT]) ?_
  refine seqE (sl1 := [some (.scr ns), some (.cell 0), some (.dat (iT one)), some (.dat (iT two)), none, some (.dat (sT sd1))]) (c1 := [bx s2.1 s2.2]) (by
    have hl : one.length + two.length ≤ 16777216 := by omega
    generalize M_board = g at b1 b2 b3 ⊢
    generalize M_both = g2 at bb ⊢
    have e3 := fEqTT true (brd sd1 (one ++ two)) (brd sd1 (one ++ two))
    generalize brd sd1 (one ++ two) = X at *
    generalize brd sd1 one = Y at *
    generalize brd sd1 two = Z at *
    have b3' : g [.dat (sT sd1), .dat (.tuple (iL one ++ iL two))] [] = some (.dat (rT X), []) := by
      rw [← List.map_append]
      exact b3
    simp [mVar, mC, mOp, mOpN, mUn, aNil, aCons, toDs, asDs, mCB, mTup, mLst, mIf, mTest, mAnd, mOr, mNot, mAndV, mOrV, mNotV, mChain, fI, fIc, fB, fU, fIx, fCatL, fCatT, fCatS, fAdd, orF, cPos, cDivW, f1, f2, fAbs, fInt, fLen, fMin2, fMax2, mSub, mIn, mLen, mScrIx, mScrLen, mIsi, fIsi, mTuple, mTupleP, mSl, mNoPart, mPart, sNext, sSeq, sAsg, sIf, sRet, sRetN, sDrop, sNever, sSetL, sPar, mYes, mgN, mgNil, mgCons, mgT, toD, toDn, asD, cD, retA, runF, kill, lookA, viewK, viewT, keyOf, ixN, atI0, atI1, atI2, atI3, isIn, mCall, renum, cellsOf, putBack, miSeq, still, miR1, miR2, wipeA, fEqI, fEqL, fEqT, fEqTT, b1, b2, b3', bb, hl]) ?_
  generalize M__law_counts = g1 at hc ⊢
  generalize M__law_together = g2 at ht ⊢
  generalize M__law_boards = g3 at hb ⊢
  simp [mVar, mC, mOp, mOpN, mUn, aNil, aCons, toDs, asDs, mCB, mTup, mLst, mIf, mTest, mAnd, mOr, mNot, mAndV, mOrV, mNotV, mChain, fI, fIc, fB, fU, fIx, fCatL, fCatT, fCatS, fAdd, orF, cPos, cDivW, f1, f2, fAbs, fInt, fLen, fMin2, fMax2, mSub, mIn, mLen, mScrIx, mScrLen, mIsi, fIsi, mTuple, mTupleP, mSl, mNoPart, mPart, sNext, sSeq, sAsg, sIf, sRet, sRetN, sDrop, sNever, sSetL, sPar, mYes, mgN, mgNil, mgCons, mgT, toD, toDn, asD, cD, retA, runF, kill, lookA, viewK, viewT, keyOf, ixN, atI0, atI1, atI2, atI3, isIn, mCall, renum, cellsOf, putBack, miSeq, still, miR1, miR2, wipeA, fEqI, fEqL, fEqT, fEqTT, hc, ht, hb]
end Rf

namespace Rf
open PySem L2 PyProof.Rows
section
def d_is_integer : He.DefD := ⟨("is_integer", none), "is_integer", "is_integer", defArgs s_is_integer, defBody s_is_integer, defScope s_is_integer, [], []⟩
def d__law_cell : He.DefD := ⟨("_law_cell", none), "_law_cell", "_law_cell", defArgs s__law_cell, defBody s__law_cell, defScope s__law_cell, [], []⟩
def d__law_draw : He.DefD := ⟨("_law_draw", none), "_law_draw", "_law_draw", defArgs s__law_draw, defBody s__law_draw, defScope s__law_draw, [], []⟩
def d__law_rows : He.DefD := ⟨("_law_rows", none), "_law_rows", "_law_rows", defArgs s__law_rows, defBody s__law_rows, defScope s__law_rows, [], []⟩
def d__law_numbers : He.DefD := ⟨("_law_numbers", none), "_law_numbers", "_law_numbers", defArgs s__law_numbers, defBody s__law_numbers, defScope s__law_numbers, [], []⟩
def d__law_sums : He.DefD := ⟨("_law_sums", none), "_law_sums", "_law_sums", defArgs s__law_sums, defBody s__law_sums, defScope s__law_sums, [], []⟩
def d__law_choices : He.DefD := ⟨("_law_choices", none), "_law_choices", "_law_choices", defArgs s__law_choices, defBody s__law_choices, defScope s__law_choices, [], []⟩
def d_is_between : He.DefD := ⟨("is_between", none), "is_between", "is_between", defArgs s_is_between, defBody s_is_between, defScope s_is_between, [], []⟩
def d__law_stream : He.DefD := ⟨("_law_stream", none), "_law_stream", "_law_stream", defArgs s__law_stream, defBody s__law_stream, defScope s__law_stream, [], []⟩
def d_check_items : He.DefD := ⟨("check_items", none), "check_items", "check_items", defArgs s_check_items, defBody s_check_items, defScope s_check_items, [], []⟩
def d_check_seeds : He.DefD := ⟨("check_seeds", none), "check_seeds", "check_seeds", defArgs s_check_seeds, defBody s_check_seeds, defScope s_check_seeds, [], []⟩
def d_check_board : He.DefD := ⟨("check_board", none), "check_board", "check_board", defArgs s_check_board, defBody s_check_board, defScope s_check_board, [], []⟩
def d_counted : He.DefD := ⟨("counted", none), "counted", "counted", defArgs s_counted, defBody s_counted, defScope s_counted, [], []⟩
def d_board : He.DefD := ⟨("board", none), "board", "board", defArgs s_board, defBody s_board, defScope s_board, [], []⟩
def d_told_count : He.DefD := ⟨("told_count", none), "told_count", "told_count", defArgs s_told_count, defBody s_told_count, defScope s_told_count, [], []⟩
def d_both : He.DefD := ⟨("both", none), "both", "both", defArgs s_both, defBody s_both, defScope s_both, [], []⟩
def d__law_counts : He.DefD := ⟨("_law_counts", none), "_law_counts", "_law_counts", defArgs s__law_counts, defBody s__law_counts, defScope s__law_counts, [], []⟩
def d__law_together : He.DefD := ⟨("_law_together", none), "_law_together", "_law_together", defArgs s__law_together, defBody s__law_together, defScope s__law_together, [], []⟩
def d__law_boards : He.DefD := ⟨("_law_boards", none), "_law_boards", "_law_boards", defArgs s__law_boards, defBody s__law_boards, defScope s__law_boards, [], []⟩
def d_law : He.DefD := ⟨("law", none), "law", "law", defArgs s_law, defBody s_law, defScope s_law, [], []⟩
def fns : List He.DefD := [d_is_integer, d__law_cell, d__law_draw, d__law_rows, d__law_numbers, d__law_sums, d__law_choices, d_is_between, d__law_stream, d_check_items, d_check_seeds, d_check_board, d_counted, d_board, d_told_count, d_both, d__law_counts, d__law_together, d__law_boards, d_law]
def fas0 : List He.Fa := [.glo "is_integer", .glo "_law_cell", .glo "_law_draw", .glo "_law_rows", .glo "_law_numbers", .glo "_law_sums", .glo "_law_choices", .glo "is_between", .glo "_law_stream", .glo "check_items", .glo "check_seeds", .glo "check_board", .glo "counted", .glo "board", .glo "told_count", .glo "both", .glo "_law_counts", .glo "_law_together", .glo "_law_boards", .glo "law", .int "MOST_ITEMS" 40, .int "MOST_NUMBER" 1000, .int "MOST_COUNTERS" 10, .int "MOST_WIDE" 100, .int "MOST_TOLD" 1000000, .free "abs", .free "all", .free "any", .free "dict", .free "enumerate"]
def fas1 : List He.Fa := [.free "int", .free "isinstance", .free "bool", .free "len", .free "list", .free "max", .free "min", .free "range", .free "repr", .free "reversed", .free "set", .free "sorted", .free "str", .free "sum", .free "tuple", .free "zip"]
def fas : List He.Fa := fas0 ++ fas1
def lo0 : List Str := ["EverError", "BadLog", "OutOfRange", "is_integer", "is_between", "MOST_ITEMS", "MOST_NUMBER", "MOST_COUNTERS", "MOST_WIDE", "MOST_TOLD", "check_items", "counted", "check_seeds", "board", "check_board", "told_count", "both", "_law_cell", "_law_stream", "_law_draw", "_law_common", "_law_rows", "_law_numbers", "_law_counts", "_law_sums", "_law_together", "_law_boards", "_law_choices"]
def loose : List Str := lo0
abbrev Rw : PySem.W.OpenRow := PySem.W.OpenLaw.row PySem.Challenge.rw_evertold_k34_whole_counts_told_exactly
abbrev hok : PySem.W.Hook := He.hookD 4 fas fns
def obs (s : PySem.W.SharedT) : He.AlD := He.obsDG 4 fas fns (HandSHeadRun.getT s)
theorem obs_eq (s : PySem.W.SharedT) : obs s = hok.obs s.abs := He.obsDG_eq (HandSHeadRun.getT_eq s)
theorem run (w : World) : HandSHeadRun.RunEq Rw (PySem.W.view Rw.prog [32]) hok obs 6000 loose w := fun os => by kernel_rfl
theorem lawPromise {K : PySem.W.Frag} {ns : List Int} {H : Hp} {a : Addr} (e : M_law [.scr ns] [] = some (.dat (.bool true), [])) (hS : SqL K H a (ns.map V.int)) : spM K 1 M_law [.ref a] H (fun v _ => v = .bl true) fun _ _ _ => False :=
  ⟨⟨fun _ => False, fun _ => False, fun _ => False, fun _ => 0⟩, [.scr ns], [], _, _, rfl, ⟨(fun _ z => z.elim), (fun _ z => z.elim), (fun _ z => z.elim), (fun j b c h => by simp at h), (fun j k x y h => by simp at h)⟩,
   .cons ⟨a, rfl, hS.elim (fun h => .inl ⟨id, h⟩) .inr⟩ .nil, (fun _ z => z.elim), e, fun v H' _ _ r _ => by cases r; rfl⟩
theorem facts {P : Program} {w : World} {K : PySem.W.Frag} {h : Heap} {mg : Str → Option Value} {f : Addr} (X : K.In h) (G : h.Ns mainGlobals mg) (hfa : mg ("law" : Str) = some (.ref f)) (c : He.SaysD fas fns K) :
    ∃ fd : FuncData, (∀ (s : Shared) (v : Value), BindsTo s fd ⟨[v], []⟩ [("script", v)]) ∧ ∀ base : Heap, K.In base → base.Ns mainGlobals mg → FnOk P w K mg base CX0 6 f fd ["script"] (spM K 1 M_law) := by
  obtain ⟨fd_is_integer, F_is_integer⟩ := c.def_ 0 (d := d_is_integer) rfl
  obtain ⟨fd__law_cell, F__law_cell⟩ := c.def_ 1 (d := d__law_cell) rfl
  obtain ⟨fd__law_draw, F__law_draw⟩ := c.def_ 2 (d := d__law_draw) rfl
  obtain ⟨fd__law_rows, F__law_rows⟩ := c.def_ 3 (d := d__law_rows) rfl
  obtain ⟨fd__law_numbers, F__law_numbers⟩ := c.def_ 4 (d := d__law_numbers) rfl
  obtain ⟨fd__law_sums, F__law_sums⟩ := c.def_ 5 (d := d__law_sums) rfl
  obtain ⟨fd__law_choices, F__law_choices⟩ := c.def_ 6 (d := d__law_choices) rfl
  obtain ⟨fd_is_between, F_is_between⟩ := c.def_ 7 (d := d_is_between) rfl
  obtain ⟨fd__law_stream, F__law_stream⟩ := c.def_ 8 (d := d__law_stream) rfl
  obtain ⟨fd_check_items, F_check_items⟩ := c.def_ 9 (d := d_check_items) rfl
  obtain ⟨fd_check_seeds, F_check_seeds⟩ := c.def_ 10 (d := d_check_seeds) rfl
  obtain ⟨fd_check_board, F_check_board⟩ := c.def_ 11 (d := d_check_board) rfl
  obtain ⟨fd_counted, F_counted⟩ := c.def_ 12 (d := d_counted) rfl
  obtain ⟨fd_board, F_board⟩ := c.def_ 13 (d := d_board) rfl
  obtain ⟨fd_told_count, F_told_count⟩ := c.def_ 14 (d := d_told_count) rfl
  obtain ⟨fd_both, F_both⟩ := c.def_ 15 (d := d_both) rfl
  obtain ⟨fd__law_counts, F__law_counts⟩ := c.def_ 16 (d := d__law_counts) rfl
  obtain ⟨fd__law_together, F__law_together⟩ := c.def_ 17 (d := d__law_together) rfl
  obtain ⟨fd__law_boards, F__law_boards⟩ := c.def_ 18 (d := d__law_boards) rfl
  obtain ⟨fd_law, F_law⟩ := c.def_ 19 (d := d_law) rfl
  have Bb : Bl mg := ⟨He.free_ok X G (c.fact 25 (f := .free "abs") rfl), He.free_ok X G (c.fact 26 (f := .free "all") rfl), He.free_ok X G (c.fact 27 (f := .free "any") rfl), He.free_ok X G (c.fact 28 (f := .free "dict") rfl), He.free_ok X G (c.fact 29 (f := .free "enumerate") rfl), He.free_ok X G (c.fact 30 (f := .free "int") rfl), He.free_ok X G (c.fact 31 (f := .free "isinstance") rfl), He.free_ok X G (c.fact 32 (f := .free "bool") rfl), He.free_ok X G (c.fact 33 (f := .free "len") rfl), He.free_ok X G (c.fact 34 (f := .free "list") rfl), He.free_ok X G (c.fact 35 (f := .free "max") rfl), He.free_ok X G (c.fact 36 (f := .free "min") rfl), He.free_ok X G (c.fact 37 (f := .free "range") rfl), He.free_ok X G (c.fact 38 (f := .free "repr") rfl), He.free_ok X G (c.fact 39 (f := .free "reversed") rfl), He.free_ok X G (c.fact 40 (f := .free "set") rfl), He.free_ok X G (c.fact 41 (f := .free "sorted") rfl), He.free_ok X G (c.fact 42 (f := .free "str") rfl), He.free_ok X G (c.fact 43 (f := .free "sum") rfl), He.free_ok X G (c.fact 44 (f := .free "tuple") rfl), He.free_ok X G (c.fact 45 (f := .free "zip") rfl)⟩
  have g_MOST_ITEMS : GInt mg "MOST_ITEMS" 40 := He.int_ok X G (c.fact 20 (f := .int "MOST_ITEMS" 40) rfl)
  have g_MOST_NUMBER : GInt mg "MOST_NUMBER" 1000 := He.int_ok X G (c.fact 21 (f := .int "MOST_NUMBER" 1000) rfl)
  have g_MOST_COUNTERS : GInt mg "MOST_COUNTERS" 10 := He.int_ok X G (c.fact 22 (f := .int "MOST_COUNTERS" 10) rfl)
  have g_MOST_WIDE : GInt mg "MOST_WIDE" 100 := He.int_ok X G (c.fact 23 (f := .int "MOST_WIDE" 100) rfl)
  have g_MOST_TOLD : GInt mg "MOST_TOLD" 1000000 := He.int_ok X G (c.fact 24 (f := .int "MOST_TOLD" 1000000) rfl)
  have m_is_integer := He.glo_ok X G (c.fact 0 (f := .glo "is_integer") rfl)
  have m__law_cell := He.glo_ok X G (c.fact 1 (f := .glo "_law_cell") rfl)
  have m__law_draw := He.glo_ok X G (c.fact 2 (f := .glo "_law_draw") rfl)
  have m__law_rows := He.glo_ok X G (c.fact 3 (f := .glo "_law_rows") rfl)
  have m__law_numbers := He.glo_ok X G (c.fact 4 (f := .glo "_law_numbers") rfl)
  have m__law_sums := He.glo_ok X G (c.fact 5 (f := .glo "_law_sums") rfl)
  have m__law_choices := He.glo_ok X G (c.fact 6 (f := .glo "_law_choices") rfl)
  have m_is_between := He.glo_ok X G (c.fact 7 (f := .glo "is_between") rfl)
  have m__law_stream := He.glo_ok X G (c.fact 8 (f := .glo "_law_stream") rfl)
  have m_check_items := He.glo_ok X G (c.fact 9 (f := .glo "check_items") rfl)
  have m_check_seeds := He.glo_ok X G (c.fact 10 (f := .glo "check_seeds") rfl)
  have m_check_board := He.glo_ok X G (c.fact 11 (f := .glo "check_board") rfl)
  have m_counted := He.glo_ok X G (c.fact 12 (f := .glo "counted") rfl)
  have m_board := He.glo_ok X G (c.fact 13 (f := .glo "board") rfl)
  have m_told_count := He.glo_ok X G (c.fact 14 (f := .glo "told_count") rfl)
  have m_both := He.glo_ok X G (c.fact 15 (f := .glo "both") rfl)
  have m__law_counts := He.glo_ok X G (c.fact 16 (f := .glo "_law_counts") rfl)
  have m__law_together := He.glo_ok X G (c.fact 17 (f := .glo "_law_together") rfl)
  have m__law_boards := He.glo_ok X G (c.fact 18 (f := .glo "_law_boards") rfl)
  have m_law := He.glo_ok X G (c.fact 19 (f := .glo "law") rfl)
  have e := hfa.symm.trans m_law
  cases e
  have b := FunD.bindsA (ps := ["script"]) F_law fun _ _ _ _ _ _ us hl => match us, hl with | [_], _ => rfl
  refine ⟨fd_law, fun s v => b s [v] rfl, fun base _ _ => ?_⟩
  have c_is_integer : Cal P w K mg base 1 "is_integer" ["thing"] 1 M_is_integer := ⟨_, fd_is_integer, ok_is_integer Bb F_is_integer, m_is_integer, F_is_integer.kp, FunD.bindsN (ps := ["thing"]) F_is_integer fun _ _ _ _ _ _ us hl => match us, hl with | [_], _ => rfl⟩
  have c__law_cell : Cal P w K mg base 1 "_law_cell" ["script", "k"] 2 M__law_cell := ⟨_, fd__law_cell, ok__law_cell Bb F__law_cell, m__law_cell, F__law_cell.kp, FunD.bindsN (ps := ["script", "k"]) F__law_cell fun _ _ _ _ _ _ us hl => match us, hl with | [_, _], _ => rfl⟩
  have c__law_draw : Cal P w K mg base 1 "_law_draw" ["box", "many"] 2 M__law_draw := ⟨_, fd__law_draw, ok__law_draw Bb F__law_draw, m__law_draw, F__law_draw.kp, FunD.bindsN (ps := ["box", "many"]) F__law_draw fun _ _ _ _ _ _ us hl => match us, hl with | [_, _], _ => rfl⟩
  have c__law_rows : Cal P w K mg base 1 "_law_rows" ["n", "kinds"] 2 M__law_rows := ⟨_, fd__law_rows, ok__law_rows Bb F__law_rows, m__law_rows, F__law_rows.kp, FunD.bindsN (ps := ["n", "kinds"]) F__law_rows fun _ _ _ _ _ _ us hl => match us, hl with | [_, _], _ => rfl⟩
  have c__law_numbers : Cal P w K mg base 1 "_law_numbers" ["row", "kinds"] 2 M__law_numbers := ⟨_, fd__law_numbers, ok__law_numbers Bb F__law_numbers, m__law_numbers, F__law_numbers.kp, FunD.bindsN (ps := ["row", "kinds"]) F__law_numbers fun _ _ _ _ _ _ us hl => match us, hl with | [_, _], _ => rfl⟩
  have c__law_sums : Cal P w K mg base 1 "_law_sums" ["n", "kinds"] 2 M__law_sums := ⟨_, fd__law_sums, ok__law_sums Bb F__law_sums, m__law_sums, F__law_sums.kp, FunD.bindsN (ps := ["n", "kinds"]) F__law_sums fun _ _ _ _ _ _ us hl => match us, hl with | [_, _], _ => rfl⟩
  have c__law_choices : Cal P w K mg base 1 "_law_choices" ["n", "kinds", "low"] 3 M__law_choices := ⟨_, fd__law_choices, ok__law_choices Bb F__law_choices, m__law_choices, F__law_choices.kp, FunD.bindsN (ps := ["n", "kinds", "low"]) F__law_choices fun _ _ _ _ _ _ us hl => match us, hl with | [_, _, _], _ => rfl⟩
  have c_is_between : Cal P w K mg base 2 "is_between" ["thing", "low", "high"] 3 M_is_between := ⟨_, fd_is_between, ok_is_between Bb c_is_integer F_is_between, m_is_between, F_is_between.kp, FunD.bindsN (ps := ["thing", "low", "high"]) F_is_between fun _ _ _ _ _ _ us hl => match us, hl with | [_, _, _], _ => rfl⟩
  have c__law_stream : Cal P w K mg base 2 "_law_stream" ["script", "k"] 2 M__law_stream := ⟨_, fd__law_stream, ok__law_stream Bb c__law_cell F__law_stream, m__law_stream, F__law_stream.kp, FunD.bindsN (ps := ["script", "k"]) F__law_stream fun _ _ _ _ _ _ us hl => match us, hl with | [_, _], _ => rfl⟩
  have c_check_items : Cal P w K mg base 3 "check_items" ["row"] 1 M_check_items := ⟨_, fd_check_items, ok_check_items Bb g_MOST_ITEMS g_MOST_NUMBER c_is_between F_check_items, m_check_items, F_check_items.kp, FunD.bindsN (ps := ["row"]) F_check_items fun _ _ _ _ _ _ us hl => match us, hl with | [_], _ => rfl⟩
  have c_check_seeds : Cal P w K mg base 3 "check_seeds" ["seeds"] 1 M_check_seeds := ⟨_, fd_check_seeds, ok_check_seeds Bb g_MOST_COUNTERS g_MOST_WIDE g_MOST_NUMBER c_is_between F_check_seeds, m_check_seeds, F_check_seeds.kp, FunD.bindsN (ps := ["seeds"]) F_check_seeds fun _ _ _ _ _ _ us hl => match us, hl with | [_], _ => rfl⟩
  have c_check_board : Cal P w K mg base 3 "check_board" ["rows"] 1 M_check_board := ⟨_, fd_check_board, ok_check_board Bb g_MOST_COUNTERS g_MOST_WIDE g_MOST_TOLD c_is_between F_check_board, m_check_board, F_check_board.kp, FunD.bindsN (ps := ["rows"]) F_check_board fun _ _ _ _ _ _ us hl => match us, hl with | [_], _ => rfl⟩
  have c_counted : Cal P w K mg base 4 "counted" ["c", "row"] 2 M_counted := ⟨_, fd_counted, ok_counted Bb g_MOST_COUNTERS c_check_items c_is_between F_counted, m_counted, F_counted.kp, FunD.bindsN (ps := ["c", "row"]) F_counted fun _ _ _ _ _ _ us hl => match us, hl with | [_, _], _ => rfl⟩
  have c_board : Cal P w K mg base 4 "board" ["seeds", "row"] 2 M_board := ⟨_, fd_board, ok_board Bb c_check_seeds c_check_items F_board, m_board, F_board.kp, FunD.bindsN (ps := ["seeds", "row"]) F_board fun _ _ _ _ _ _ us hl => match us, hl with | [_, _], _ => rfl⟩
  have c_told_count : Cal P w K mg base 4 "told_count" ["seeds", "rows", "x"] 3 M_told_count := ⟨_, fd_told_count, ok_told_count Bb c_check_seeds c_check_board c_is_integer F_told_count, m_told_count, F_told_count.kp, FunD.bindsN (ps := ["seeds", "rows", "x"]) F_told_count fun _ _ _ _ _ _ us hl => match us, hl with | [_, _, _], _ => rfl⟩
  have c_both : Cal P w K mg base 4 "both" ["rows", "others"] 2 M_both := ⟨_, fd_both, ok_both Bb c_check_board F_both, m_both, F_both.kp, FunD.bindsN (ps := ["rows", "others"]) F_both fun _ _ _ _ _ _ us hl => match us, hl with | [_, _], _ => rfl⟩
  have c__law_counts : Cal P w K mg base 5 "_law_counts" ["box"] 1 M__law_counts := ⟨_, fd__law_counts, ok__law_counts Bb c_counted c__law_rows c__law_sums c__law_draw c__law_numbers F__law_counts, m__law_counts, F__law_counts.kp, FunD.bindsN (ps := ["box"]) F__law_counts fun _ _ _ _ _ _ us hl => match us, hl with | [_], _ => rfl⟩
  have c__law_together : Cal P w K mg base 5 "_law_together" ["box"] 1 M__law_together := ⟨_, fd__law_together, ok__law_together Bb c__law_draw c_counted F__law_together, m__law_together, F__law_together.kp, FunD.bindsN (ps := ["box"]) F__law_together fun _ _ _ _ _ _ us hl => match us, hl with | [_], _ => rfl⟩
  have c__law_boards : Cal P w K mg base 5 "_law_boards" ["box"] 1 M__law_boards := ⟨_, fd__law_boards, ok__law_boards Bb c__law_draw c_board c__law_choices c_told_count F__law_boards, m__law_boards, F__law_boards.kp, FunD.bindsN (ps := ["box"]) F__law_boards fun _ _ _ _ _ _ us hl => match us, hl with | [_], _ => rfl⟩
  exact ok_law Bb c__law_stream c_both c_board c__law_counts c__law_together c__law_boards c__law_draw F_law
end
end Rf
open PySem PySem.W PySem.Calls PyProof.Rows
theorem PySem.Challenge.cw_evertold_k34_whole_counts_told_exactly_holds : PySem.Challenge.rw_evertold_k34_whole_counts_told_exactly.Holds := by
  w_on; o_law
  refine HandSHeadRun.head_any (r := OpenLaw.row PySem.Challenge.rw_evertold_k34_whole_counts_told_exactly) (q := view (OpenLaw.row PySem.Challenge.rw_evertold_k34_whole_counts_told_exactly).prog [32]) (H := Rf.hok) (ob := Rf.obs) (M := 6000) (loose := Rf.loose) (d := HandSHeadRun.topDef (OpenLaw.row PySem.Challenge.rw_evertold_k34_whole_counts_told_exactly).prog 32) (kwd := []) Rf.obs_eq
    (by kernel_rfl) (fun s => by kernel_rfl) Rf.run (by kernel_rfl) (by kernel_rfl) (by kernel_rfl) (by rfl) (by first | assumption | decide +kernel) (by decide +kernel) ⟨rfl, rfl, rfl, rfl, rfl, by decide +kernel⟩ ?hw ?hc
  case hw => w_witness2
  case hc =>
    refine L2.walk_ofE (l := PySem.Challenge.rw_evertold_k34_whole_counts_told_exactly) (n := 63) (k := 6) (x := "script") (CX := L2.CX0) rfl (by decide) (by kernel_rfl) ⟨rfl, by decide, by decide⟩ ?F (fun _ _ _ _ z => z)
    intro w mg fa h Y G hmg0
    obtain ⟨K, KX, c⟩ := Y
    have hmg : mg ("law" : PySem.Str) = some (.ref fa) := by
      have e : (HandSHeadRun.topDef (OpenLaw.row PySem.Challenge.rw_evertold_k34_whole_counts_told_exactly).prog 32).name = ("law" : PySem.Str) := by kernel_rfl
      rw [← e]
      exact hmg0
    obtain ⟨fd, hb, hF⟩ := Rf.facts (P := (PySem.Challenge.rw_evertold_k34_whole_counts_told_exactly).prog) (w := w) KX G hmg c
    exact ⟨K, fd, Rf.spM K 1 Rf.M_law, KX, hb, fun H a ns hl _ hS => Rf.lawPromise (Rf.plain ns hl) hS, hF⟩
