import PyProof.Rows.All
import Wide.All
import OpenK.AllK
import Wide.FinOn
import HandS.ForMost
import HandS.ForExc
import HandS.Wide
import HandS.WideBits
import HandS.TupAny
import HandS.IsInst
import HandS.ExcOwn
import HandS.CallSlots
import HandS.Small
import HandS.SetFor
import HandS.NoneIn
import HandS.Comp
import HandS.Iter
import HandS.Zip
import HandS.TupMul
import HandS.Deep
import HandS.OwnEq
import HandS.SlotsOwn
import HandS.Text
import HandS.WordsExc
import HandS.Defaults
import PyProof.Rows.FactsT1
import HandS.ExcInit
import KE.GoesEnum
import HandS.ExcField
import HandS.ExcIs
import HandS.TryMany
import HandS.Head2
import HandS.HeadEnd
import HandS.HeadHook2
import HandS.Codes
import KE.IntTextLaws
import PySem.Challenge.RW_rootstalls_k72_whole_loops_of_orders
/-! DL0 -/
set_option Elab.async false
set_option linter.all false
set_option maxRecDepth 100000
/-! data read off the heap, with what is held alone -/
namespace DL
open PySem PySem.Spec PyProof.Rows L2

inductive D where
  | non
  | bl (b : Bool)
  | int (i : Int)
  | str (s : Str)
  | fn (x : Str)
  | scr (ns : List Int)
  | tup (xs : List D)
  | lst (o : Bool) (xs : List D)
  | dic (o : Bool) (ks : List Key) (xs : List D)
  | ins (o : Bool) (c : Str) (fs : List Str) (xs : List D)
  | err (c : Str) (xs : List D)
instance : Inhabited D := ⟨.non⟩

structure Gx where
  K : PySem.W.Frag
  cl : Str → Addr
  fa : Str → Addr
  ef : Str → List Str
  held : Option (Addr × Value × Option Addr) := none

/-- a list of the module's own -/
def SqK (K : PySem.W.Frag) (a : Addr) (xs : List V) : Prop := ∃ (o : Obj) (its : Array Value) (n : Nat), K.lookup a = some o ∧ o.cls = .type "list" ∧ o.dict = none ∧ o.data = .seq its n ∧ its.size ≤ sizeLine ∧ Vals xs its.toList
/-- a dict's keys and values, key by key -/
structure KsOk (ks : List Key) (vs : List V) : Prop where
  len : ks.length = vs.length
  nd : ks.Nodup
mutual
/-- what the value v stands for; F: the places that are held alone -/
def Rep (g : Gx) (H : Hp) (E : Addr → Prop) : D → V → List Addr → Prop
  | .non, v, F => v = .non ∧ F = []
  | .bl b, v, F => v = .bl b ∧ F = []
  | .int i, v, F => v = .int i ∧ F = []
  | .str s, v, F => v = .str s ∧ F = []
  | .fn x, v, F => v = .ref (g.fa x) ∧ F = []
  | .scr ns, v, F => ∃ a, v = .ref a ∧ ((∃ o, H a = some (.frz o (.lst (ns.map V.int)))) ∨ SqK g.K a (ns.map V.int)) ∧ F = []
  | .tup ds, v, F => ∃ a vs, v = .ref a ∧ Rd H a (.tup vs) ∧ RepL g H E ds vs F
  | .lst true ds, v, F => ∃ a vs F1, v = .ref a ∧ H a = some (.lst vs) ∧ F = a :: F1 ∧ RepL g H E ds vs F1
  | .lst false ds, v, F => ∃ a vs, v = .ref a ∧ H a = some (.lst vs) ∧ ¬ E a ∧ F = [] ∧ RepL g H E ds vs []
  | .dic true ks ds, v, F => ∃ a vs F1, v = .ref a ∧ H a = some (.dK (ks.zip vs)) ∧ KsOk ks vs ∧ F = a :: F1 ∧ RepL g H E ds vs F1
  | .dic false ks ds, v, F => ∃ a vs, v = .ref a ∧ Rd H a (.dK (ks.zip vs)) ∧ KsOk ks vs ∧ ¬ E a ∧ F = [] ∧ RepL g H E ds vs []
  | .ins true c fs ds, v, F => ∃ a dx vs F1, v = .ref a ∧ H a = some (.ins (g.cl c) dx (fs.zip vs)) ∧ fs.length = vs.length ∧ F = a :: F1 ∧ RepL g H E ds vs F1
  | .ins false c fs ds, v, F => ∃ a dx vs, v = .ref a ∧ H a = some (.ins (g.cl c) dx (fs.zip vs)) ∧ fs.length = vs.length ∧ ¬ E a ∧ F = [] ∧ RepL g H E ds vs []
  | .err c ds, v, F => ∃ a dd, v = .ref a ∧ g.held = some (a, .ref (g.cl c), dd) ∧ F = [] ∧ ((ds = [] ∧ dd = none) ∨ ∃ b vs, dd = some b ∧ H b = some (.xd ((g.ef c).zip vs)) ∧ (g.ef c).length = vs.length ∧ RepL g H E ds vs [])
def RepL (g : Gx) (H : Hp) (E : Addr → Prop) : List D → List V → List Addr → Prop
  | [], vs, F => vs = [] ∧ F = []
  | d :: ds, vs, F => ∃ v r F1 F2, vs = v :: r ∧ F = F1 ++ F2 ∧ Rep g H E d v F1 ∧ RepL g H E ds r F2
end
end DL
/-! DL1 -/
set_option Elab.async false
set_option linter.all false
set_option maxRecDepth 100000
namespace DL
open PySem PySem.Spec PyProof.Rows L2

/-- what may be changed -/
def mutO : HO → Bool
  | .lst _ => true
  | .dK _ => true
  | .dT _ => true
  | .set _ _ => true
  | .ins _ _ _ => true
  | _ => false
def MutAt (H : Hp) (a : Addr) : Prop := ∃ o, H a = some o ∧ mutO o = true

theorem Rd.keepT {H H' : Hp} {a : Addr} {vs : List V} (h : Rd H a (.tup vs)) (k : ∀ o, H a = some o → mutO o = false → H' a = some o) : Rd H' a (.tup vs) := by
  rcases h with h | ⟨o, h⟩
  · exact .inl (k _ h rfl)
  · exact .inr ⟨o, k _ h rfl⟩
theorem SqT.keep {K : PySem.W.Frag} {H H' : Hp} {a : Addr} {vs : List V} (h : SqT K H a vs) (k : ∀ o, H a = some o → mutO o = false → H' a = some o) : SqT K H' a vs := by
  rcases h with h | h
  · exact .inl (Rd.keepT h k)
  · exact .inr h
theorem Rd.keep {H H' : Hp} {a : Addr} {u : HO} (h : Rd H a u) (k : ∀ o, H a = some o → H' a = some o) : Rd H' a u := by
  rcases h with h | ⟨o, h⟩
  · exact .inl (k _ h)
  · exact .inr ⟨o, k _ h⟩
theorem Rd.some {H : Hp} {a : Addr} {u : HO} (h : Rd H a u) : ∃ o, H a = some o := by
  rcases h with h | ⟨o, h⟩ <;> exact ⟨_, h⟩

/-- from H with E to H' with E': what is not held alone stands, what is new is new -/
structure Kp (H : Hp) (E : Addr → Prop) (H' : Hp) (E' : Addr → Prop) (F : List Addr) : Prop where
  k : ∀ a o, H a = some o → (¬ E a ∨ a ∈ F ∨ mutO o = false) → H' a = some o
  e : ∀ a, E' a → E a ∨ H a = none
theorem Kp.sub {H H' : Hp} {E E' : Addr → Prop} {F F' : List Addr} (x : Kp H E H' E' F) (h : ∀ a ∈ F', a ∈ F) : Kp H E H' E' F' :=
  ⟨fun a o e z => x.k a o e (by rcases z with z | z | z; exact .inl z; exact .inr (.inl (h a z)); exact .inr (.inr z)), x.e⟩
theorem Kp.ne {H H' : Hp} {E E' : Addr → Prop} {F : List Addr} (x : Kp H E H' E' F) {a : Addr} {o : HO} (h : H a = some o) (n : ¬ E a) : ¬ E' a := fun q => by
  rcases x.e a q with z | z
  · exact n z
  · rw [h] at z; cases z

mutual
theorem Rep.keep {g : Gx} {H H' : Hp} {E E' : Addr → Prop} : ∀ {d : D} {v : V} {F : List Addr}, Kp H E H' E' F → Rep g H E d v F → Rep g H' E' d v F
  | .non, v, F, _, h => by unfold Rep at h ⊢; exact h
  | .bl b, v, F, _, h => by unfold Rep at h ⊢; exact h
  | .int b, v, F, _, h => by unfold Rep at h ⊢; exact h
  | .str b, v, F, _, h => by unfold Rep at h ⊢; exact h
  | .fn b, v, F, _, h => by unfold Rep at h ⊢; exact h
  | .err c ds, v, F, x, h => by
    unfold Rep at h ⊢
    obtain ⟨a, dd, e, h1, h2, h3⟩ := h
    refine ⟨a, dd, e, h1, h2, ?_⟩
    rcases h3 with h3 | ⟨b, vs, e1, e2, e3, e4⟩
    · exact .inl h3
    · exact .inr ⟨b, vs, e1, x.k b _ e2 (.inr (.inr rfl)), e3, RepL.keep (x.sub fun b hb => nomatch hb) e4⟩
  | .scr ns, v, F, x, h => by
    unfold Rep at h ⊢
    obtain ⟨a, e, h1, f⟩ := h
    exact ⟨a, e, by
      rcases h1 with ⟨o, h1⟩ | h1
      · exact .inl ⟨o, x.k a _ h1 (.inr (.inr rfl))⟩
      · exact .inr h1, f⟩
  | .tup ds, v, F, x, h => by
    unfold Rep at h ⊢
    obtain ⟨a, vs, e, h1, h2⟩ := h
    exact ⟨a, vs, e, Rd.keepT h1 fun o e m => x.k a o e (.inr (.inr m)), RepL.keep x h2⟩
  | .lst true ds, v, F, x, h => by
    unfold Rep at h ⊢
    obtain ⟨a, vs, F1, e, h1, h2, h3⟩ := h
    exact ⟨a, vs, F1, e, x.k a _ h1 (.inr (.inl (by rw [h2]; exact List.mem_cons_self))), h2, RepL.keep (x.sub fun b hb => by rw [h2]; exact List.mem_cons_of_mem _ hb) h3⟩
  | .lst false ds, v, F, x, h => by
    unfold Rep at h ⊢
    obtain ⟨a, vs, e, h1, n, f, h3⟩ := h
    exact ⟨a, vs, e, x.k a _ h1 (.inl n), x.ne h1 n, f, RepL.keep (x.sub fun b hb => nomatch hb) h3⟩
  | .dic true ks ds, v, F, x, h => by
    unfold Rep at h ⊢
    obtain ⟨a, vs, F1, e, h1, hl, h2, h3⟩ := h
    exact ⟨a, vs, F1, e, x.k a _ h1 (.inr (.inl (by rw [h2]; exact List.mem_cons_self))), hl, h2, RepL.keep (x.sub fun b hb => by rw [h2]; exact List.mem_cons_of_mem _ hb) h3⟩
  | .dic false ks ds, v, F, x, h => by
    unfold Rep at h ⊢
    obtain ⟨a, vs, e, h1, hl, n, f, h3⟩ := h
    obtain ⟨o, ho⟩ := Rd.some h1
    exact ⟨a, vs, e, Rd.keep h1 fun o e => x.k a o e (.inl n), hl, x.ne ho n, f, RepL.keep (x.sub fun b hb => nomatch hb) h3⟩
  | .ins true c fs ds, v, F, x, h => by
    unfold Rep at h ⊢
    obtain ⟨a, dx, vs, F1, e, h1, hl, h2, h3⟩ := h
    exact ⟨a, dx, vs, F1, e, x.k a _ h1 (.inr (.inl (by rw [h2]; exact List.mem_cons_self))), hl, h2, RepL.keep (x.sub fun b hb => by rw [h2]; exact List.mem_cons_of_mem _ hb) h3⟩
  | .ins false c fs ds, v, F, x, h => by
    unfold Rep at h ⊢
    obtain ⟨a, dx, vs, e, h1, hl, n, f, h3⟩ := h
    exact ⟨a, dx, vs, e, x.k a _ h1 (.inl n), hl, x.ne h1 n, f, RepL.keep (x.sub fun b hb => nomatch hb) h3⟩
theorem RepL.keep {g : Gx} {H H' : Hp} {E E' : Addr → Prop} : ∀ {ds : List D} {vs : List V} {F : List Addr}, Kp H E H' E' F → RepL g H E ds vs F → RepL g H' E' ds vs F
  | [], vs, F, _, h => by unfold RepL at h ⊢; exact h
  | d :: ds, vs, F, x, h => by
    unfold RepL at h ⊢
    obtain ⟨v, r, F1, F2, e1, e2, h1, h2⟩ := h
    exact ⟨v, r, F1, F2, e1, e2, Rep.keep (x.sub fun b hb => by rw [e2]; exact List.mem_append_left _ hb) h1, RepL.keep (x.sub fun b hb => by rw [e2]; exact List.mem_append_right _ hb) h2⟩
end

theorem RepL.len {g : Gx} {H : Hp} {E : Addr → Prop} : ∀ {ds : List D} {vs : List V} {F : List Addr}, RepL g H E ds vs F → vs.length = ds.length
  | [], vs, F, h => by unfold RepL at h; rw [h.1] <;> rfl
  | d :: ds, vs, F, h => by
    unfold RepL at h
    obtain ⟨v, r, F1, F2, e1, e2, h1, h2⟩ := h
    rw [e1, List.length_cons, List.length_cons, RepL.len h2]
theorem nil_app {α : Type} {a b : List α} (h : [] = a ++ b) : a = [] ∧ b = [] := by
  cases a with
  | nil => exact ⟨rfl, h.symm⟩
  | cons x r => cases h
theorem RepL.get {g : Gx} {H : Hp} {E : Addr → Prop} : ∀ {ds : List D} {vs : List V} {i : Nat} {d : D}, RepL g H E ds vs [] → ds[i]? = some d → ∃ v, vs[i]? = some v ∧ Rep g H E d v []
  | [], vs, i, d, h, q => by simp at q
  | d :: ds, vs, i, d', h, q => by
    unfold RepL at h
    obtain ⟨v, r, F1, F2, e1, e2, h1, h2⟩ := h
    obtain ⟨rfl, rfl⟩ := nil_app e2
    subst e1
    cases i with
    | zero => simp at q; subst q; exact ⟨v, rfl, h1⟩
    | succ i =>
      obtain ⟨v', a, b⟩ := RepL.get (i := i) h2 (by simpa using q)
      exact ⟨v', by simpa using a, b⟩
theorem RepL.getV {g : Gx} {H : Hp} {E : Addr → Prop} {ds : List D} {vs : List V} {i : Nat} {v : V} (h : RepL g H E ds vs []) (q : vs[i]? = some v) : ∃ d, ds[i]? = some d ∧ Rep g H E d v [] := by
  have hl := h.len
  have hi : i < vs.length := by
    rcases Nat.lt_or_ge i vs.length with z | z
    · exact z
    · rw [List.getElem?_eq_none z] at q; cases q
  have e : ds[i]? = some ds[i] := List.getElem?_eq_getElem (by omega)
  obtain ⟨v', a, b⟩ := h.get e
  rw [q] at a; cases a
  exact ⟨_, e, b⟩
theorem RepL.app {g : Gx} {H : Hp} {E : Addr → Prop} : ∀ {ds es : List D} {vs ws : List V} {F G : List Addr}, RepL g H E ds vs F → RepL g H E es ws G → RepL g H E (ds ++ es) (vs ++ ws) (F ++ G)
  | [], es, vs, ws, F, G, h, q => by
    unfold RepL at h
    rw [h.1, h.2]; exact q
  | d :: ds, es, vs, ws, F, G, h, q => by
    unfold RepL at h
    obtain ⟨v, r, F1, F2, e1, e2, h1, h2⟩ := h
    show RepL g H E (d :: (ds ++ es)) (vs ++ ws) (F ++ G)
    unfold RepL
    exact ⟨v, r ++ ws, F1, F2 ++ G, by rw [e1]; rfl, by rw [e2, List.append_assoc], h1, RepL.app h2 q⟩
theorem RepL.one {g : Gx} {H : Hp} {E : Addr → Prop} {d : D} {v : V} {F : List Addr} (h : Rep g H E d v F) : RepL g H E [d] [v] F := by
  unfold RepL
  exact ⟨v, [], F, [], rfl, by simp, h, by unfold RepL; exact ⟨rfl, rfl⟩⟩
theorem RepL.nil {g : Gx} {H : Hp} {E : Addr → Prop} : RepL g H E [] [] [] := by unfold RepL; exact ⟨rfl, rfl⟩
theorem RepL.cons {g : Gx} {H : Hp} {E : Addr → Prop} {d : D} {ds : List D} {v : V} {vs : List V} {F G : List Addr} (h : Rep g H E d v F) (t : RepL g H E ds vs G) : RepL g H E (d :: ds) (v :: vs) (F ++ G) := by
  unfold RepL
  exact ⟨v, vs, F, G, rfl, rfl, h, t⟩
theorem RepL.cons0 {g : Gx} {H : Hp} {E : Addr → Prop} {d : D} {ds : List D} {v : V} {vs : List V} (h : Rep g H E d v []) (t : RepL g H E ds vs []) : RepL g H E (d :: ds) (v :: vs) [] := RepL.cons (F := []) (G := []) h t
theorem RepL.uncons {g : Gx} {H : Hp} {E : Addr → Prop} {d : D} {ds : List D} {vs : List V} (h : RepL g H E (d :: ds) vs []) : ∃ v r, vs = v :: r ∧ Rep g H E d v [] ∧ RepL g H E ds r [] := by
  unfold RepL at h
  obtain ⟨v, r, F1, F2, e1, e2, h1, h2⟩ := h
  obtain ⟨rfl, rfl⟩ := nil_app e2
  exact ⟨v, r, e1, h1, h2⟩
theorem RepL.set {g : Gx} {H : Hp} {E : Addr → Prop} {d : D} {v : V} (h : Rep g H E d v []) : ∀ {ds : List D} {vs : List V} (i : Nat), RepL g H E ds vs [] → RepL g H E (ds.set i d) (vs.set i v) []
  | [], vs, i, t => by
    unfold RepL at t
    rw [t.1]
    exact RepL.nil
  | d' :: ds, vs, i, t => by
    obtain ⟨v', r, rfl, h1, h2⟩ := t.uncons
    cases i with
    | zero => exact RepL.cons0 h h2
    | succ i => exact RepL.cons0 h1 (RepL.set h i h2)
theorem RepL.take {g : Gx} {H : Hp} {E : Addr → Prop} : ∀ {ds : List D} {vs : List V} (n : Nat), RepL g H E ds vs [] → RepL g H E (ds.take n) (vs.take n) []
  | [], vs, n, t => by
    unfold RepL at t
    rw [t.1]
    simp only [List.take_nil]
    exact RepL.nil
  | d :: ds, vs, 0, t => RepL.nil
  | d :: ds, vs, n + 1, t => by
    obtain ⟨v, r, rfl, h1, h2⟩ := t.uncons
    exact RepL.cons0 h1 (RepL.take n h2)
theorem RepL.drop {g : Gx} {H : Hp} {E : Addr → Prop} : ∀ {ds : List D} {vs : List V} (n : Nat), RepL g H E ds vs [] → RepL g H E (ds.drop n) (vs.drop n) []
  | [], vs, n, t => by
    unfold RepL at t
    rw [t.1]
    simp only [List.drop_nil]
    exact RepL.nil
  | d :: ds, vs, 0, t => t
  | d :: ds, vs, n + 1, t => by
    obtain ⟨v, r, rfl, h1, h2⟩ := t.uncons
    exact RepL.drop n h2

/-! ### environments -/
/-- held alone at the top, what is within is not -/
def TopT (g : Gx) (H : Hp) (E : Addr → Prop) : D → V → List Addr → Prop
  | .lst true ds, v, F => ∃ a vs, v = .ref a ∧ H a = some (.lst vs) ∧ F = [a] ∧ RepL g H E ds vs []
  | .dic true ks ds, v, F => ∃ a vs, v = .ref a ∧ H a = some (.dK (ks.zip vs)) ∧ KsOk ks vs ∧ F = [a] ∧ RepL g H E ds vs []
  | .ins true c fs ds, v, F => ∃ a dx vs, v = .ref a ∧ H a = some (.ins (g.cl c) dx (fs.zip vs)) ∧ fs.length = vs.length ∧ F = [a] ∧ RepL g H E ds vs []
  | d, v, F => F = [] ∧ Rep g H E d v []
/-- to be read, whoever holds it; what is within is held by nobody alone -/
def Rep1 (g : Gx) (H : Hp) (E : Addr → Prop) : D → V → Prop
  | .lst _ ds, v => ∃ a vs, v = .ref a ∧ H a = some (.lst vs) ∧ RepL g H E ds vs []
  | .dic _ ks ds, v => ∃ a vs, v = .ref a ∧ Rd H a (.dK (ks.zip vs)) ∧ KsOk ks vs ∧ RepL g H E ds vs []
  | .ins _ c fs ds, v => ∃ a dx vs, v = .ref a ∧ H a = some (.ins (g.cl c) dx (fs.zip vs)) ∧ fs.length = vs.length ∧ RepL g H E ds vs []
  | d, v => Rep g H E d v []
def frzTop : D → D
  | .lst _ xs => .lst false xs
  | .dic _ ks xs => .dic false ks xs
  | .ins _ c fs xs => .ins false c fs xs
  | d => d
theorem Rep.rep1 {g : Gx} {H : Hp} {E : Addr → Prop} : ∀ {d : D} {v : V}, Rep g H E d v [] → Rep1 g H E d v
  | .non, v, h => h
  | .bl _, v, h => h
  | .int _, v, h => h
  | .str _, v, h => h
  | .fn _, v, h => h
  | .err _ _, v, h => h
  | .scr _, v, h => h
  | .tup _, v, h => h
  | .lst true ds, v, h => by unfold Rep at h; obtain ⟨a, vs, F1, e, h1, h2, h3⟩ := h; cases h2
  | .lst false ds, v, h => by unfold Rep at h; obtain ⟨a, vs, e, h1, n, f, h3⟩ := h; exact ⟨a, vs, e, h1, h3⟩
  | .dic true ks ds, v, h => by unfold Rep at h; obtain ⟨a, vs, F1, e, h1, hl, h2, h3⟩ := h; cases h2
  | .dic false ks ds, v, h => by unfold Rep at h; obtain ⟨a, vs, e, h1, hl, n, f, h3⟩ := h; exact ⟨a, vs, e, h1, hl, h3⟩
  | .ins true c fs ds, v, h => by unfold Rep at h; obtain ⟨a, dx, vs, F1, e, h1, hl, h2, h3⟩ := h; cases h2
  | .ins false c fs ds, v, h => by unfold Rep at h; obtain ⟨a, dx, vs, e, h1, hl, n, f, h3⟩ := h; exact ⟨a, dx, vs, e, h1, hl, h3⟩
theorem TopT.rep1 {g : Gx} {H : Hp} {E : Addr → Prop} : ∀ {d : D} {v : V} {F : List Addr}, TopT g H E d v F → Rep1 g H E (frzTop d) v
  | .non, v, F, h => h.2
  | .bl _, v, F, h => h.2
  | .int _, v, F, h => h.2
  | .str _, v, F, h => h.2
  | .fn _, v, F, h => h.2
  | .err _ _, v, F, h => h.2
  | .scr _, v, F, h => h.2
  | .tup _, v, F, h => h.2
  | .lst true ds, v, F, h => by obtain ⟨a, vs, e, h1, h2, h3⟩ := h; exact ⟨a, vs, e, h1, h3⟩
  | .lst false ds, v, F, h => h.2.rep1
  | .dic true ks ds, v, F, h => by obtain ⟨a, vs, e, h1, hl, h2, h3⟩ := h; exact ⟨a, vs, e, .inl h1, hl, h3⟩
  | .dic false ks ds, v, F, h => h.2.rep1
  | .ins true c fs ds, v, F, h => by obtain ⟨a, dx, vs, e, h1, hl, h2, h3⟩ := h; exact ⟨a, dx, vs, e, h1, hl, h3⟩
  | .ins false c fs ds, v, F, h => h.2.rep1
theorem TopT.rep {g : Gx} {H : Hp} {E : Addr → Prop} : ∀ {d : D} {v : V} {F : List Addr}, TopT g H E d v F → Rep g H E d v F
  | .non, v, F, h => by obtain ⟨rfl, h⟩ := h; exact h
  | .bl _, v, F, h => by obtain ⟨rfl, h⟩ := h; exact h
  | .int _, v, F, h => by obtain ⟨rfl, h⟩ := h; exact h
  | .str _, v, F, h => by obtain ⟨rfl, h⟩ := h; exact h
  | .fn _, v, F, h => by obtain ⟨rfl, h⟩ := h; exact h
  | .err _ _, v, F, h => by obtain ⟨rfl, h⟩ := h; exact h
  | .scr _, v, F, h => by obtain ⟨rfl, h⟩ := h; exact h
  | .tup _, v, F, h => by obtain ⟨rfl, h⟩ := h; exact h
  | .lst true ds, v, F, h => by obtain ⟨a, vs, e, h1, h2, h3⟩ := h; unfold Rep; exact ⟨a, vs, [], e, h1, h2, h3⟩
  | .lst false ds, v, F, h => by obtain ⟨rfl, h⟩ := h; exact h
  | .dic true ks ds, v, F, h => by obtain ⟨a, vs, e, h1, hl, h2, h3⟩ := h; unfold Rep; exact ⟨a, vs, [], e, h1, hl, h2, h3⟩
  | .dic false ks ds, v, F, h => by obtain ⟨rfl, h⟩ := h; exact h
  | .ins true c fs ds, v, F, h => by obtain ⟨a, dx, vs, e, h1, hl, h2, h3⟩ := h; unfold Rep; exact ⟨a, dx, vs, [], e, h1, hl, h2, h3⟩
  | .ins false c fs ds, v, F, h => by obtain ⟨rfl, h⟩ := h; exact h
theorem TopT.of {g : Gx} {H : Hp} {E : Addr → Prop} : ∀ {d : D} {v : V}, Rep g H E d v [] → TopT g H E d v []
  | .non, v, h => ⟨rfl, h⟩
  | .bl _, v, h => ⟨rfl, h⟩
  | .int _, v, h => ⟨rfl, h⟩
  | .str _, v, h => ⟨rfl, h⟩
  | .fn _, v, h => ⟨rfl, h⟩
  | .err _ _, v, h => ⟨rfl, h⟩
  | .scr _, v, h => ⟨rfl, h⟩
  | .tup _, v, h => ⟨rfl, h⟩
  | .lst true ds, v, h => by unfold Rep at h; obtain ⟨a, vs, F1, e, h1, h2, h3⟩ := h; cases h2
  | .lst false ds, v, h => ⟨rfl, h⟩
  | .dic true ks ds, v, h => by unfold Rep at h; obtain ⟨a, vs, F1, e, h1, hl, h2, h3⟩ := h; cases h2
  | .dic false ks ds, v, h => ⟨rfl, h⟩
  | .ins true c fs ds, v, h => by unfold Rep at h; obtain ⟨a, dx, vs, F1, e, h1, hl, h2, h3⟩ := h; cases h2
  | .ins false c fs ds, v, h => ⟨rfl, h⟩
theorem TopT.nd {g : Gx} {H : Hp} {E : Addr → Prop} : ∀ {d : D} {v : V} {F : List Addr}, TopT g H E d v F → F.Nodup
  | .non, v, F, h => by rw [h.1]; exact List.nodup_nil
  | .bl _, v, F, h => by rw [h.1]; exact List.nodup_nil
  | .int _, v, F, h => by rw [h.1]; exact List.nodup_nil
  | .str _, v, F, h => by rw [h.1]; exact List.nodup_nil
  | .fn _, v, F, h => by rw [h.1]; exact List.nodup_nil
  | .err _ _, v, F, h => by rw [h.1]; exact List.nodup_nil
  | .scr _, v, F, h => by rw [h.1]; exact List.nodup_nil
  | .tup _, v, F, h => by rw [h.1]; exact List.nodup_nil
  | .lst true ds, v, F, h => by obtain ⟨a, vs, e, h1, h2, h3⟩ := h; rw [h2]; simp
  | .lst false ds, v, F, h => by rw [h.1]; exact List.nodup_nil
  | .dic true ks ds, v, F, h => by obtain ⟨a, vs, e, h1, hl, h2, h3⟩ := h; rw [h2]; simp
  | .dic false ks ds, v, F, h => by rw [h.1]; exact List.nodup_nil
  | .ins true c fs ds, v, F, h => by obtain ⟨a, dx, vs, e, h1, hl, h2, h3⟩ := h; rw [h2]; simp
  | .ins false c fs ds, v, F, h => by rw [h.1]; exact List.nodup_nil
theorem TopT.keep {g : Gx} {H H' : Hp} {E E' : Addr → Prop} : ∀ {d : D} {v : V} {F : List Addr}, Kp H E H' E' F → TopT g H E d v F → TopT g H' E' d v F
  | .non, v, F, x, h => by obtain ⟨rfl, h⟩ := h; exact ⟨rfl, h.keep x⟩
  | .bl _, v, F, x, h => by obtain ⟨rfl, h⟩ := h; exact ⟨rfl, h.keep x⟩
  | .int _, v, F, x, h => by obtain ⟨rfl, h⟩ := h; exact ⟨rfl, h.keep x⟩
  | .str _, v, F, x, h => by obtain ⟨rfl, h⟩ := h; exact ⟨rfl, h.keep x⟩
  | .fn _, v, F, x, h => by obtain ⟨rfl, h⟩ := h; exact ⟨rfl, h.keep x⟩
  | .err _ _, v, F, x, h => by obtain ⟨rfl, h⟩ := h; exact ⟨rfl, h.keep x⟩
  | .scr _, v, F, x, h => by obtain ⟨rfl, h⟩ := h; exact ⟨rfl, h.keep x⟩
  | .tup _, v, F, x, h => by obtain ⟨rfl, h⟩ := h; exact ⟨rfl, h.keep x⟩
  | .lst true ds, v, F, x, h => by
    obtain ⟨a, vs, e, h1, h2, h3⟩ := h
    exact ⟨a, vs, e, x.k a _ h1 (.inr (.inl (by rw [h2]; exact List.mem_cons_self))), h2, RepL.keep (x.sub fun b hb => nomatch hb) h3⟩
  | .lst false ds, v, F, x, h => by obtain ⟨rfl, h⟩ := h; exact ⟨rfl, h.keep x⟩
  | .dic true ks ds, v, F, x, h => by
    obtain ⟨a, vs, e, h1, hl, h2, h3⟩ := h
    exact ⟨a, vs, e, x.k a _ h1 (.inr (.inl (by rw [h2]; exact List.mem_cons_self))), hl, h2, RepL.keep (x.sub fun b hb => nomatch hb) h3⟩
  | .dic false ks ds, v, F, x, h => by obtain ⟨rfl, h⟩ := h; exact ⟨rfl, h.keep x⟩
  | .ins true c fs ds, v, F, x, h => by
    obtain ⟨a, dx, vs, e, h1, hl, h2, h3⟩ := h
    exact ⟨a, dx, vs, e, x.k a _ h1 (.inr (.inl (by rw [h2]; exact List.mem_cons_self))), hl, h2, RepL.keep (x.sub fun b hb => nomatch hb) h3⟩
  | .ins false c fs ds, v, F, x, h => by obtain ⟨rfl, h⟩ := h; exact ⟨rfl, h.keep x⟩
/-- let go -/
theorem TopT.frz {g : Gx} {H : Hp} {E E' : Addr → Prop} (sub : ∀ a, E' a → E a) : ∀ {d : D} {v : V} {F : List Addr}, TopT g H E d v F → (∀ a ∈ F, ¬ E' a) → Rep g H E' (frzTop d) v []
  | .non, v, F, h, n => h.2.keep ⟨fun _ _ h _ => h, fun a h => .inl (sub a h)⟩
  | .bl _, v, F, h, n => h.2.keep ⟨fun _ _ h _ => h, fun a h => .inl (sub a h)⟩
  | .int _, v, F, h, n => h.2.keep ⟨fun _ _ h _ => h, fun a h => .inl (sub a h)⟩
  | .str _, v, F, h, n => h.2.keep ⟨fun _ _ h _ => h, fun a h => .inl (sub a h)⟩
  | .fn _, v, F, h, n => h.2.keep ⟨fun _ _ h _ => h, fun a h => .inl (sub a h)⟩
  | .err _ _, v, F, h, n => h.2.keep ⟨fun _ _ h _ => h, fun a h => .inl (sub a h)⟩
  | .scr _, v, F, h, n => h.2.keep ⟨fun _ _ h _ => h, fun a h => .inl (sub a h)⟩
  | .tup _, v, F, h, n => h.2.keep ⟨fun _ _ h _ => h, fun a h => .inl (sub a h)⟩
  | .lst true ds, v, F, h, n => by
    obtain ⟨a, vs, e, h1, h2, h3⟩ := h
    unfold frzTop Rep
    exact ⟨a, vs, e, h1, n a (by rw [h2]; exact List.mem_cons_self), rfl, h3.keep ⟨fun _ _ h _ => h, fun a h => .inl (sub a h)⟩⟩
  | .lst false ds, v, F, h, n => h.2.keep ⟨fun _ _ h _ => h, fun a h => .inl (sub a h)⟩
  | .dic true ks ds, v, F, h, n => by
    obtain ⟨a, vs, e, h1, hl, h2, h3⟩ := h
    unfold frzTop Rep
    exact ⟨a, vs, e, .inl h1, hl, n a (by rw [h2]; exact List.mem_cons_self), rfl, h3.keep ⟨fun _ _ h _ => h, fun a h => .inl (sub a h)⟩⟩
  | .dic false ks ds, v, F, h, n => h.2.keep ⟨fun _ _ h _ => h, fun a h => .inl (sub a h)⟩
  | .ins true c fs ds, v, F, h, n => by
    obtain ⟨a, dx, vs, e, h1, hl, h2, h3⟩ := h
    unfold frzTop Rep
    exact ⟨a, dx, vs, e, h1, hl, n a (by rw [h2]; exact List.mem_cons_self), rfl, h3.keep ⟨fun _ _ h _ => h, fun a h => .inl (sub a h)⟩⟩
  | .ins false c fs ds, v, F, h, n => h.2.keep ⟨fun _ _ h _ => h, fun a h => .inl (sub a h)⟩
/-- a read thing stays to be read where only new things come -/
theorem Rep1.same {g : Gx} {H H' : Hp} {E E' : Addr → Prop} (k : ∀ a o, H a = some o → H' a = some o) (e : ∀ a, E' a → E a ∨ H a = none) : ∀ {d : D} {v : V}, Rep1 g H E d v → Rep1 g H' E' d v
  | .non, v, h => Rep.keep ⟨fun a o h _ => k a o h, e⟩ h
  | .bl _, v, h => Rep.keep ⟨fun a o h _ => k a o h, e⟩ h
  | .int _, v, h => Rep.keep ⟨fun a o h _ => k a o h, e⟩ h
  | .str _, v, h => Rep.keep ⟨fun a o h _ => k a o h, e⟩ h
  | .fn _, v, h => Rep.keep ⟨fun a o h _ => k a o h, e⟩ h
  | .err _ _, v, h => Rep.keep ⟨fun a o h _ => k a o h, e⟩ h
  | .scr _, v, h => Rep.keep ⟨fun a o h _ => k a o h, e⟩ h
  | .tup _, v, h => Rep.keep ⟨fun a o h _ => k a o h, e⟩ h
  | .lst _ ds, v, h => by obtain ⟨a, vs, q, h1, h3⟩ := h; exact ⟨a, vs, q, k a _ h1, h3.keep ⟨fun a o h _ => k a o h, e⟩⟩
  | .dic _ ks ds, v, h => by obtain ⟨a, vs, q, h1, hl, h3⟩ := h; exact ⟨a, vs, q, Rd.keep h1 fun o => k a o, hl, h3.keep ⟨fun a o h _ => k a o h, e⟩⟩
  | .ins _ c fs ds, v, h => by obtain ⟨a, dx, vs, q, h1, hl, h3⟩ := h; exact ⟨a, dx, vs, q, k a _ h1, hl, h3.keep ⟨fun a o h _ => k a o h, e⟩⟩

mutual
/-- nothing in it is held alone -/
def noOwn : D → Bool
  | .tup ds => noOwnL ds
  | .lst o ds => !o && noOwnL ds
  | .dic o _ ds => !o && noOwnL ds
  | .ins o _ _ ds => !o && noOwnL ds
  | _ => true
def noOwnL : List D → Bool
  | [] => true
  | d :: ds => noOwn d && noOwnL ds
end
mutual
theorem Rep.noOwn {g : Gx} {H : Hp} {E : Addr → Prop} : ∀ {d : D} {v : V} {F : List Addr}, Rep g H E d v F → noOwn d = true → F = []
  | .non, v, F, h, _ => by unfold Rep at h; exact h.2
  | .bl _, v, F, h, _ => by unfold Rep at h; exact h.2
  | .int _, v, F, h, _ => by unfold Rep at h; exact h.2
  | .str _, v, F, h, _ => by unfold Rep at h; exact h.2
  | .fn _, v, F, h, _ => by unfold Rep at h; exact h.2
  | .err _ _, v, F, h, _ => by unfold Rep at h; obtain ⟨a, dd, _, _, e, _⟩ := h; exact e
  | .scr _, v, F, h, _ => by unfold Rep at h; obtain ⟨a, _, _, e⟩ := h; exact e
  | .tup ds, v, F, h, n => by
    unfold Rep at h
    unfold DL.noOwn at n
    obtain ⟨a, vs, e, h1, h2⟩ := h
    exact RepL.noOwn h2 n
  | .lst true ds, v, F, h, n => by unfold DL.noOwn at n; cases n
  | .lst false ds, v, F, h, n => by unfold Rep at h; obtain ⟨a, vs, e, h1, _, f, h3⟩ := h; exact f
  | .dic true ks ds, v, F, h, n => by unfold DL.noOwn at n; cases n
  | .dic false ks ds, v, F, h, n => by unfold Rep at h; obtain ⟨a, vs, e, h1, hl, _, f, h3⟩ := h; exact f
  | .ins true c fs ds, v, F, h, n => by unfold DL.noOwn at n; cases n
  | .ins false c fs ds, v, F, h, n => by unfold Rep at h; obtain ⟨a, dx, vs, e, h1, hl, _, f, h3⟩ := h; exact f
theorem RepL.noOwn {g : Gx} {H : Hp} {E : Addr → Prop} : ∀ {ds : List D} {vs : List V} {F : List Addr}, RepL g H E ds vs F → noOwnL ds = true → F = []
  | [], vs, F, h, _ => by unfold RepL at h; exact h.2
  | d :: ds, vs, F, h, n => by
    unfold RepL at h
    unfold noOwnL at n
    obtain ⟨n1, n2⟩ := Bool.and_eq_true_iff.mp n
    obtain ⟨v, r, F1, F2, e1, e2, h1, h2⟩ := h
    rw [e2, Rep.noOwn h1 n1, RepL.noOwn h2 n2]
    rfl
end
/-- alone at the top only -/
theorem Rep.top {g : Gx} {H : Hp} {E : Addr → Prop} : ∀ {d : D} {v : V} {F : List Addr}, Rep g H E d v F → DL.noOwn (frzTop d) = true → TopT g H E d v F
  | .non, v, F, h, n => by have e := h.noOwn n; subst e; exact ⟨rfl, h⟩
  | .bl _, v, F, h, n => by have e := h.noOwn n; subst e; exact ⟨rfl, h⟩
  | .int _, v, F, h, n => by have e := h.noOwn n; subst e; exact ⟨rfl, h⟩
  | .str _, v, F, h, n => by have e := h.noOwn n; subst e; exact ⟨rfl, h⟩
  | .fn _, v, F, h, n => by have e := h.noOwn n; subst e; exact ⟨rfl, h⟩
  | .err _ _, v, F, h, n => by have e := h.noOwn n; subst e; exact ⟨rfl, h⟩
  | .scr _, v, F, h, n => by have e := h.noOwn n; subst e; exact ⟨rfl, h⟩
  | .tup _, v, F, h, n => by have e := h.noOwn n; subst e; exact ⟨rfl, h⟩
  | .lst true ds, v, F, h, n => by
    unfold Rep at h
    obtain ⟨a, vs, F1, e, h1, h2, h3⟩ := h
    unfold frzTop DL.noOwn at n
    have e1 := h3.noOwn (Bool.and_eq_true_iff.mp n).2
    subst e1
    exact ⟨a, vs, e, h1, h2, h3⟩
  | .lst false ds, v, F, h, n => by have e := h.noOwn n; subst e; exact ⟨rfl, h⟩
  | .dic true ks ds, v, F, h, n => by
    unfold Rep at h
    obtain ⟨a, vs, F1, e, h1, hl, h2, h3⟩ := h
    unfold frzTop DL.noOwn at n
    have e1 := h3.noOwn (Bool.and_eq_true_iff.mp n).2
    subst e1
    exact ⟨a, vs, e, h1, hl, h2, h3⟩
  | .dic false ks ds, v, F, h, n => by have e := h.noOwn n; subst e; exact ⟨rfl, h⟩
  | .ins true c fs ds, v, F, h, n => by
    unfold Rep at h
    obtain ⟨a, dx, vs, F1, e, h1, hl, h2, h3⟩ := h
    unfold frzTop DL.noOwn at n
    have e1 := h3.noOwn (Bool.and_eq_true_iff.mp n).2
    subst e1
    exact ⟨a, dx, vs, e, h1, hl, h2, h3⟩
  | .ins false c fs ds, v, F, h, n => by have e := h.noOwn n; subst e; exact ⟨rfl, h⟩

/-- sh: held by nobody alone; dp: with parts that are held alone -/
inductive Slot where
  | sh (d : D)
  | dp (d : D)
abbrev Env := List (Option Slot)
def SlotRep (g : Gx) (H : Hp) (E : Addr → Prop) : Slot → V → List Addr → Prop
  | .sh d, v, F => F = [] ∧ Rep g H E d v []
  | .dp d, v, F => Rep g H E d v F
theorem SlotRep.keep {g : Gx} {H H' : Hp} {E E' : Addr → Prop} {s : Slot} {v : V} {F : List Addr} (x : Kp H E H' E' F) (h : SlotRep g H E s v F) : SlotRep g H' E' s v F := by
  cases s with
  | sh d => obtain ⟨rfl, h⟩ := h; exact ⟨rfl, h.keep x⟩
  | dp d => exact Rep.keep x h

/-- the rows stand; Fs: what each holds alone -/
structure EnvF (g : Gx) (Z E : Addr → Prop) (ρ : Env) (σ : List (Option V)) (H : Hp) (Fs : Nat → List Addr) : Prop where
  iff : ∀ a, E a ↔ (∃ i, a ∈ Fs i) ∨ Z a
  row : ∀ i s, ρ[i]? = some (some s) → ∃ v, σ[i]? = some (some v) ∧ SlotRep g H E s v (Fs i)
  emp : ∀ i, (∀ s, ρ[i]? ≠ some (some s)) → Fs i = []
  nd : ∀ i, (Fs i).Nodup
  dj : ∀ i j a, a ∈ Fs i → a ∈ Fs j → i = j
  dz : ∀ i a, a ∈ Fs i → ¬ Z a
  ki : ∀ a, E a → MutAt H a
  len : ρ.length = σ.length
def EnvAt (g : Gx) (Z E : Addr → Prop) (ρ : Env) (σ : List (Option V)) (H : Hp) : Prop := ∃ Fs, EnvF g Z E ρ σ H Fs

/-- from (H, E) to (H', E'), Z untouched -/
structure Tr (Z : Addr → Prop) (H : Hp) (E : Addr → Prop) (H' : Hp) (E' : Addr → Prop) : Prop where
  k : ∀ a o, H a = some o → (¬ E a ∨ Z a) → H' a = some o
  e : ∀ a, E' a → E a ∨ H a = none
theorem Tr.refl {Z E : Addr → Prop} {H : Hp} : Tr Z H E H E := ⟨fun _ _ h _ => h, fun _ h => .inl h⟩
theorem Tr.trans {Z Z' E E1 E2 : Addr → Prop} {H H1 H2 : Hp} (x : Tr Z H E H1 E1) (y : Tr Z' H1 E1 H2 E2) (hz : ∀ a, Z a → Z' a) : Tr Z H E H2 E2 where
  k := fun a o h n => by
    have h1 := x.k a o h n
    refine y.k a o h1 ?_
    rcases n with n | n
    · refine .inl fun q => ?_
      rcases x.e a q with z | z
      · exact n z
      · rw [h] at z; cases z
    · exact .inr (hz a n)
  e := fun a h => by
    rcases y.e a h with z | z
    · exact x.e a z
    · by_cases n : E a
      · exact .inl n
      · right
        cases q : H a with
        | none => rfl
        | some o =>
          rw [x.k a o q (.inl n)] at z
          cases z
end DL
/-! DL2 -/
set_option Elab.async false
set_option linter.all false
set_option maxRecDepth 100000
namespace DL
open PySem PySem.Spec PyProof.Rows L2

abbrev AP_ := Addr → Prop
def more (F : List Addr) (Z : Addr → Prop) : Addr → Prop := fun a => a ∈ F ∨ Z a
theorem more_nil (Z : Addr → Prop) : more [] Z = Z := funext fun a => propext ⟨fun h => h.elim (fun h => nomatch h) id, .inr⟩
theorem more_app (F G : List Addr) (Z : Addr → Prop) : more (F ++ G) Z = more F (more G Z) := funext fun a => propext ⟨fun h => by
  rcases h with h | h
  · rcases List.mem_append.mp h with h | h
    · exact .inl h
    · exact .inr (.inl h)
  · exact .inr (.inr h), fun h => by
  rcases h with h | h | h
  · exact .inl (List.mem_append_left _ h)
  · exact .inl (List.mem_append_right _ h)
  · exact .inr h⟩
theorem more_comm (F G : List Addr) (Z : Addr → Prop) : more F (more G Z) = more G (more F Z) := funext fun a => propext ⟨fun h => by
  rcases h with h | h | h
  · exact .inr (.inl h)
  · exact .inl h
  · exact .inr (.inr h), fun h => by
  rcases h with h | h | h
  · exact .inr (.inl h)
  · exact .inl h
  · exact .inr (.inr h)⟩

section
variable {g : Gx} {Z Z' E E' : Addr → Prop} {ρ : Env} {σ : List (Option V)} {H H' : Hp} {d : D} {v : V} {F : List Addr}
theorem EnvAt.ki (A : EnvAt g Z E ρ σ H) : ∀ a, E a → MutAt H a := fun a h => let ⟨_, B⟩ := A; B.ki a h
theorem EnvAt.len (A : EnvAt g Z E ρ σ H) : ρ.length = σ.length := let ⟨_, B⟩ := A; B.len
theorem EnvAt.zE (A : EnvAt g Z E ρ σ H) : ∀ a, Z a → E a := fun a h => let ⟨_, B⟩ := A; (B.iff a).mpr (.inr h)
theorem mutAt_ne {H : Hp} {a : Addr} (h : MutAt H a) : H a ≠ none := by obtain ⟨o, e, _⟩ := h; rw [e]; intro z; cases z
theorem Kp.same (k : ∀ a o, H a = some o → H' a = some o) (e : ∀ a, E' a → E a ∨ H a = none) : Kp H E H' E' F := ⟨fun a o h _ => k a o h, e⟩
theorem Tr.kp (t : Tr Z H E H' E') (ki : ∀ a, E a → MutAt H a) (hF : ∀ a, a ∈ F → Z a) : Kp H E H' E' F := ⟨fun a o h n => by
  refine t.k a o h ?_
  rcases n with n | n | n
  · exact .inl n
  · exact .inr (hF a n)
  · refine .inl fun q => ?_
    obtain ⟨o', e, m⟩ := ki a q
    rw [h] at e
    cases e
    rw [n] at m
    exact Bool.false_ne_true m, t.e⟩
/-- only new things came -/
theorem EnvAt.same (A : EnvAt g Z E ρ σ H) (k : ∀ a o, H a = some o → H' a = some o) : EnvAt g Z E ρ σ H' := by
  obtain ⟨Fs, B⟩ := A
  exact ⟨Fs, B.iff, fun i s h => let ⟨v, a, b⟩ := B.row i s h; ⟨v, a, b.keep (Kp.same k fun _ h => .inl h)⟩, B.emp, B.nd, B.dj, B.dz, fun a h => let ⟨o, e, m⟩ := B.ki a h; ⟨o, k a o e, m⟩, B.len⟩
theorem mutAt_mono (k : ∀ a o, H a = some o → H' a = some o) {a : Addr} (h : MutAt H a) : MutAt H' a := let ⟨o, e, m⟩ := h; ⟨o, k a o e, m⟩
/-- a new object that is held alone -/
theorem EnvAt.new {p : Addr} (A : EnvAt g Z E ρ σ H) (hp : H p = none) (k : ∀ a o, H a = some o → H' a = some o) (m : MutAt H' p) : EnvAt g (more [p] Z) (more [p] E) ρ σ H' := by
  obtain ⟨Fs, B⟩ := A
  have ne : ∀ a, E a → a ≠ p := fun a h z => by subst z; exact mutAt_ne (B.ki a h) hp
  refine ⟨Fs, fun a => ?_, fun i s h => let ⟨v, a, b⟩ := B.row i s h; ⟨v, a, b.keep (Kp.same k fun a h => ?_)⟩, B.emp, B.nd, B.dj, fun i a h => ?_, fun a h => ?_, B.len⟩
  · constructor
    · rintro (h | h)
      · exact .inr (.inl h)
      · rcases (B.iff a).mp h with h | h
        · exact .inl h
        · exact .inr (.inr h)
    · rintro (h | h | h)
      · exact .inr ((B.iff a).mpr (.inl h))
      · exact .inl h
      · exact .inr ((B.iff a).mpr (.inr h))
  · rcases h with h | h
    · right
      rw [List.mem_singleton.mp h]
      exact hp
    · exact .inl h
  · rintro (z | z)
    · exact ne a ((B.iff a).mpr (.inl ⟨i, h⟩)) (List.mem_singleton.mp z)
    · exact B.dz i a h z
  · rcases h with h | h
    · rw [List.mem_singleton.mp h]; exact m
    · exact mutAt_mono k (B.ki a h)
theorem EnvAt.get {i : Nat} (A : EnvAt g Z E ρ σ H) (h : ρ[i]? = some (some (.sh d))) : ∃ v, σ[i]? = some (some v) ∧ Rep g H E d v [] := by
  obtain ⟨Fs, B⟩ := A
  obtain ⟨v, a, b⟩ := B.row i _ h
  exact ⟨v, a, b.2⟩
/-- what was held alone by the side is let go -/
theorem EnvAt.drop (A : EnvAt g (more F Z) E ρ σ H) (hF : ∀ a ∈ F, ¬ Z a) : ∃ E', EnvAt g Z E' ρ σ H ∧ (∀ a, E' a → E a) ∧ ∀ a ∈ F, ¬ E' a := by
  obtain ⟨Fs, B⟩ := A
  have sub : ∀ a, ((∃ i, a ∈ Fs i) ∨ Z a) → E a := fun a h => (B.iff a).mpr (by
    rcases h with h | h
    · exact .inl h
    · exact .inr (.inr h))
  refine ⟨fun a => (∃ i, a ∈ Fs i) ∨ Z a, ⟨Fs, fun a => Iff.rfl, fun i s h => let ⟨v, a, b⟩ := B.row i s h; ⟨v, a, b.keep (Kp.same (fun _ _ h => h) fun a h => .inl (sub a h))⟩, B.emp, B.nd, B.dj, fun i a h z => B.dz i a h (.inr z), fun a h => B.ki a (sub a h), B.len⟩, sub, fun a h z => ?_⟩
  rcases z with ⟨i, z⟩ | z
  · exact B.dz i a z (.inl h)
  · exact hF a h z
end

/-- a result beside the rows -/
structure Res (g : Gx) (Z E : Addr → Prop) (ρ : Env) (σ : List (Option V)) (H : Hp) (d : D) (v : V) (F : List Addr) : Prop where
  env : EnvAt g (more F Z) E ρ σ H
  rep : Rep g H E d v F
  nd : F.Nodup
  dz : ∀ a ∈ F, ¬ Z a

section
variable {g : Gx} {Z Z' E E' : Addr → Prop} {ρ : Env} {σ : List (Option V)} {H H' : Hp} {d : D} {v : V} {F : List Addr} {i : Nat}
theorem Res.of (A : EnvAt g Z E ρ σ H) (h : Rep g H E d v []) : Res g Z E ρ σ H d v [] := ⟨by rw [more_nil]; exact A, h, List.nodup_nil, fun _ h => nomatch h⟩
theorem Res.env0 (A : Res g Z E ρ σ H d v []) : EnvAt g Z E ρ σ H := by have := A.env; rw [more_nil] at this; exact this
theorem getSet {α : Type} {l : List α} {i j : Nat} {x : α} (hi : i < l.length) : (l.set i x)[j]? = if j = i then some x else l[j]? := by
  by_cases h : j = i
  · subst h; rw [if_pos rfl, List.getElem?_set_self hi]
  · rw [if_neg h, List.getElem?_set_ne (Ne.symm h)]
/-- a name is bound to what came -/
theorem EnvAt.bindG {s : Slot} (A : EnvAt g (more F Z) E ρ σ H) (hr : SlotRep g H E s v F) (hn : F.Nodup) (hz : ∀ a ∈ F, ¬ Z a) (hi : i < ρ.length) : ∃ E', EnvAt g Z E' (ρ.set i (some s)) (σ.set i (some v)) H ∧ ∀ a, E' a → E a := by
  obtain ⟨Fs, B⟩ := A
  have his : i < σ.length := by rw [← B.len]; exact hi
  have sub : ∀ a, ((∃ j, a ∈ (if j = i then F else Fs j)) ∨ Z a) → E a := fun a h => (B.iff a).mpr (by
    rcases h with ⟨j, h⟩ | h
    · split at h
      · exact .inr (.inl h)
      · exact .inl ⟨j, h⟩
    · exact .inr (.inr h))
  refine ⟨fun a => (∃ j, a ∈ (if j = i then F else Fs j)) ∨ Z a, ⟨fun j => if j = i then F else Fs j, fun a => Iff.rfl, fun j s h => ?_, fun j h => ?_, fun j => ?_, fun j k a hj hk => ?_, fun j a hj => ?_, fun a h => ?_, by simp [B.len]⟩, fun a h => sub a h⟩
  · rw [getSet hi] at h
    rw [getSet his]
    by_cases e : j = i
    · rw [if_pos e] at h ⊢
      simp only [if_pos e]
      cases h
      exact ⟨v, rfl, hr.keep (Kp.same (fun _ _ h => h) fun a h => .inl (sub a h))⟩
    · rw [if_neg e] at h ⊢
      simp only [if_neg e]
      obtain ⟨w, a, b⟩ := B.row j s h
      exact ⟨w, a, b.keep (Kp.same (fun _ _ h => h) fun a h => .inl (sub a h))⟩
  · by_cases e : j = i
    · exact absurd (by rw [getSet hi, if_pos e]) (h s)
    · simp only [if_neg e]
      exact B.emp j fun s q => h s (by rw [getSet hi, if_neg e]; exact q)
  · by_cases e : j = i
    · simp only [if_pos e]; exact hn
    · simp only [if_neg e]; exact B.nd j
  · by_cases e : j = i
    · by_cases e' : k = i
      · rw [e, e']
      · simp only [if_pos e] at hj; simp only [if_neg e'] at hk
        exact absurd (.inl hj) (B.dz k a hk)
    · by_cases e' : k = i
      · simp only [if_neg e] at hj; simp only [if_pos e'] at hk
        exact absurd (.inl hk) (B.dz j a hj)
      · simp only [if_neg e] at hj; simp only [if_neg e'] at hk
        exact B.dj j k a hj hk
  · by_cases e : j = i
    · simp only [if_pos e] at hj; exact hz a hj
    · simp only [if_neg e] at hj; exact fun z => B.dz j a hj (.inr z)
  · exact B.ki a (sub a h)
theorem Res.bindD (A : Res g Z E ρ σ H d v F) (hi : i < ρ.length) : ∃ E', EnvAt g Z E' (ρ.set i (some (.dp d))) (σ.set i (some v)) H ∧ ∀ a, E' a → E a :=
  A.env.bindG (s := .dp d) A.rep A.nd A.dz hi
theorem EnvAt.bindS (A : EnvAt g Z E ρ σ H) (h : Rep g H E d v []) (hi : i < ρ.length) : ∃ E', EnvAt g Z E' (ρ.set i (some (.sh d))) (σ.set i (some v)) H ∧ ∀ a, E' a → E a :=
  EnvAt.bindG (F := []) (s := .sh d) (by rw [more_nil]; exact A) ⟨rfl, h⟩ List.nodup_nil (fun _ h => nomatch h) hi
/-- a name is let go -/
theorem EnvAt.clear (A : EnvAt g Z E ρ σ H) (x : Option V) (hi : i < ρ.length) : ∃ E', EnvAt g Z E' (ρ.set i none) (σ.set i x) H ∧ ∀ a, E' a → E a := by
  obtain ⟨Fs, B⟩ := A
  have his : i < σ.length := by rw [← B.len]; exact hi
  have sub : ∀ a, ((∃ j, a ∈ (if j = i then [] else Fs j)) ∨ Z a) → E a := fun a h => (B.iff a).mpr (by
    rcases h with ⟨j, h⟩ | h
    · split at h
      · cases h
      · exact .inl ⟨j, h⟩
    · exact .inr h)
  refine ⟨fun a => (∃ j, a ∈ (if j = i then [] else Fs j)) ∨ Z a, ⟨fun j => if j = i then [] else Fs j, fun a => Iff.rfl, fun j s h => ?_, fun j h => ?_, fun j => ?_, fun j k a hj hk => ?_, fun j a hj => ?_, fun a h => B.ki a (sub a h), by simp [B.len]⟩, fun a h => sub a h⟩
  · rw [getSet hi] at h
    rw [getSet his]
    by_cases e : j = i
    · rw [if_pos e] at h
      cases h
    · rw [if_neg e] at h ⊢
      simp only [if_neg e]
      obtain ⟨w, a, b⟩ := B.row j s h
      exact ⟨w, a, b.keep (Kp.same (fun _ _ h => h) fun a h => .inl (sub a h))⟩
  · by_cases e : j = i
    · simp only [if_pos e]
    · simp only [if_neg e]
      exact B.emp j fun s q => h s (by rw [getSet hi, if_neg e]; exact q)
  · by_cases e : j = i
    · simp only [if_pos e]; exact List.nodup_nil
    · simp only [if_neg e]; exact B.nd j
  · by_cases e : j = i
    · simp only [if_pos e] at hj; cases hj
    · by_cases e' : k = i
      · simp only [if_pos e'] at hk; cases hk
      · simp only [if_neg e] at hj; simp only [if_neg e'] at hk
        exact B.dj j k a hj hk
  · by_cases e : j = i
    · simp only [if_pos e] at hj; cases hj
    · simp only [if_neg e] at hj; exact B.dz j a hj
end
end DL
/-! DL3 -/
set_option Elab.async false
set_option linter.all false
set_option maxRecDepth 100000
namespace DL
open PySem PySem.Spec PyProof.Rows L2

/-! ### the mirror's results -/
inductive R (α : Type) where
  | ok (a : α) (ρ : Env)
  | exc (c : Str) (xs : List D) (ρ : Env)
  | stk
def R.sat {α : Type} (r : R α) (K : α → Env → Prop) (X : Str → List D → Env → Prop) : Prop := match r with
  | .ok a ρ => K a ρ
  | .exc c xs ρ => X c xs ρ
  | .stk => False
def R.bind {α β : Type} (r : R α) (k : α → Env → R β) : R β := match r with
  | .ok a ρ => k a ρ
  | .exc c xs ρ => .exc c xs ρ
  | .stk => .stk
theorem R.sat_bind {α β : Type} {r : R α} {k : α → Env → R β} {K : β → Env → Prop} {X : Str → List D → Env → Prop} : (r.bind k).sat K X ↔ r.sat (fun a ρ => (k a ρ).sat K X) X := by cases r <;> exact Iff.rfl
theorem R.sat_mono {α : Type} {r : R α} {K K' : α → Env → Prop} {X X' : Str → List D → Env → Prop} (h : r.sat K X) (h1 : ∀ a ρ, r = .ok a ρ → K a ρ → K' a ρ) (h2 : ∀ c xs ρ, X c xs ρ → X' c xs ρ) : r.sat K' X' := by
  cases r with
  | ok a ρ => exact h1 a ρ rfl h
  | exc c xs ρ => exact h2 c xs ρ h
  | stk => exact h
theorem R.bind_ok {α β : Type} {r : R α} {k : α → Env → R β} {b : β} {ρ : Env} (h : r.bind k = .ok b ρ) : ∃ a ρ1, r = .ok a ρ1 ∧ k a ρ1 = .ok b ρ := by
  cases r with
  | ok a ρ1 => exact ⟨a, ρ1, rfl, h⟩
  | exc c xs ρ1 => cases h
  | stk => cases h
/-- a result that leaves the names as they are -/
inductive P (α : Type) where
  | ok (a : α)
  | exc (c : Str) (xs : List D)
  | stk
def P.at {α : Type} (p : P α) (ρ : Env) : R α := match p with
  | .ok a => .ok a ρ
  | .exc c xs => .exc c xs ρ
  | .stk => .stk
def P.sat {α : Type} (r : P α) (K : α → Prop) (X : Str → List D → Prop) : Prop := match r with
  | .ok a => K a
  | .exc c xs => X c xs
  | .stk => False
theorem P.sat_at {α : Type} {p : P α} {ρ : Env} {K : α → Env → Prop} {X : Str → List D → Env → Prop} : (p.at ρ).sat K X ↔ p.sat (fun a => K a ρ) (fun c xs => X c xs ρ) := by cases p <;> exact Iff.rfl
theorem P.at_ok {α : Type} {p : P α} {ρ ρ' : Env} {a : α} (h : p.at ρ = .ok a ρ') : p = .ok a ∧ ρ' = ρ := by
  cases p with
  | ok b => cases h; exact ⟨rfl, rfl⟩
  | exc c xs => cases h
  | stk => cases h

inductive Md where
  | S | T | Q | D
/-- an error as it lies -/
def ExcAt (g : Gx) (H : Hp) (E : Addr → Prop) (c : Str) (xs : List D) (cls : Value) (dd : Option Addr) : Prop :=
  cls = .ref (g.cl c) ∧ (match xs with
    | [] => dd = none
    | x :: r => ∃ a vs, dd = some a ∧ H a = some (.xd ((g.ef c).zip vs)) ∧ (g.ef c).length = vs.length ∧ RepL g H E (x :: r) vs [])
def Post (md : Md) (g : Gx) (Z E : Addr → Prop) (ρ : Env) (σ : L2.St) (H : Hp) (d : D) (v : V) : Prop := match md with
  | .S => EnvAt g Z E ρ σ H ∧ Rep g H E d v []
  | .T => ∃ F, EnvAt g (more F Z) E ρ σ H ∧ TopT g H E d v F ∧ ∀ a ∈ F, ¬ Z a
  | .Q => EnvAt g Z E ρ σ H ∧ Rep1 g H E d v
  | .D => ∃ F, Res g Z E ρ σ H d v F
/-- the reading t0 of an expression follows the mirror t -/
structure SndE (g : Gx) (W : WX) (pu : Bool) (md : Md) (t0 : TE) (t : Env → R D) : Prop where
  pure : pu = true → ∀ ρ d ρ', t ρ = .ok d ρ' → ρ' = ρ
  run : ∀ (σ : L2.St) (H : Hp) (ρ : Env) (Z E : Addr → Prop) (Q : VK), EnvAt g Z E ρ σ H →
    (t ρ).sat (fun d ρ' => ∀ v H' E', Post md g Z E' ρ' σ H' d v → Tr Z H E H' E' → (pu = true → Same H H') → Q v H')
      (fun c xs ρ' => ∀ cls dd H' E', ExcAt g H' E' c xs cls dd → EnvAt g Z E' ρ' σ H' → Tr Z H E H' E' → W cls dd σ H') → t0 σ H Q
structure SndT (g : Gx) (W : WX) (pu : Bool) (t0 : TT) (t : Env → R Bool) : Prop where
  pure : pu = true → ∀ ρ d ρ', t ρ = .ok d ρ' → ρ' = ρ
  run : ∀ (σ : L2.St) (H : Hp) (ρ : Env) (Z E : Addr → Prop) (Q : Bool → Hp → Prop), EnvAt g Z E ρ σ H →
    (t ρ).sat (fun b ρ' => ∀ H' E', EnvAt g Z E' ρ' σ H' → Tr Z H E H' E' → (pu = true → Same H H') → Q b H')
      (fun c xs ρ' => ∀ cls dd H' E', ExcAt g H' E' c xs cls dd → EnvAt g Z E' ρ' σ H' → Tr Z H E H' E' → W cls dd σ H') → t0 σ H Q
structure SndA (g : Gx) (W : WX) (pu : Bool) (n : Nat) (t0 : TA) (t : Env → R (List D)) : Prop where
  len : ∀ ρ d ρ', t ρ = .ok d ρ' → d.length = n
  pure : pu = true → ∀ ρ d ρ', t ρ = .ok d ρ' → ρ' = ρ
  run : ∀ (σ : L2.St) (H : Hp) (ρ : Env) (Z E : Addr → Prop) (Q : List V → Hp → Prop), EnvAt g Z E ρ σ H →
    (t ρ).sat (fun ds ρ' => ∀ vs H' E', EnvAt g Z E' ρ' σ H' → RepL g H' E' ds vs [] → Tr Z H E H' E' → (pu = true → Same H H') → Q vs H')
      (fun c xs ρ' => ∀ cls dd H' E', ExcAt g H' E' c xs cls dd → EnvAt g Z E' ρ' σ H' → Tr Z H E H' E' → W cls dd σ H') → t0 σ H Q

/-! ### names, constants -/
def dC (d : D) : Env → R D := fun ρ => .ok d ρ
def dVar (i : Nat) : Env → R D := fun ρ => match ρ[i]? with
  | some (some (.sh d)) => .ok d ρ
  | _ => .stk
/-- a name that is held alone, to be read -/
def dPeek (i : Nat) : Env → R D := fun ρ => match ρ[i]? with
  | some (some (.sh d)) => .ok d ρ
  | some (some (.dp d)) => if noOwn (frzTop d) = true then .ok (frzTop d) ρ else .stk
  | _ => .stk
/-- a name that was held alone is let go -/
def dFrz (i : Nat) : Env → R D := fun ρ => match ρ[i]? with
  | some (some (.sh d)) => .ok d ρ
  | some (some (.dp d)) => if noOwn (frzTop d) = true then .ok (frzTop d) (ρ.set i (some (.sh (frzTop d)))) else .stk
  | _ => .stk
/-- .. is handed on -/
def dMove (i : Nat) : Env → R D := fun ρ => match ρ[i]? with
  | some (some (.dp d)) => .ok d (ρ.set i none)
  | some (some (.sh d)) => .ok d ρ
  | _ => .stk
section
variable {g : Gx} {W : WX}
theorem snd_c {v : V} {d : D} (h : ∀ H E, Rep g H E d v []) : SndE g W true .S (tC v) (dC d) :=
  ⟨fun _ ρ e ρ' h => by cases h; rfl, fun σ H ρ Z E Q A h1 => h1 v H E ⟨A, h H E⟩ Tr.refl fun _ => Same.refl H⟩
theorem snd_int {i : Int} : SndE g W true .S (tC (.int i)) (dC (.int i)) := snd_c fun _ _ => by unfold Rep; exact ⟨rfl, rfl⟩
theorem snd_bl {i : Bool} : SndE g W true .S (tC (.bl i)) (dC (.bl i)) := snd_c fun _ _ => by unfold Rep; exact ⟨rfl, rfl⟩
theorem snd_str {i : Str} : SndE g W true .S (tC (.str i)) (dC (.str i)) := snd_c fun _ _ => by unfold Rep; exact ⟨rfl, rfl⟩
theorem snd_non : SndE g W true .S (tC .non) (dC .non) := snd_c fun _ _ => by unfold Rep; exact ⟨rfl, rfl⟩
theorem snd_var (i : Nat) : SndE g W true .S (tVar i) (dVar i) := by
  refine ⟨fun _ ρ d ρ' h => ?_, fun σ H ρ Z E Q A h => ?_⟩
  · unfold dVar at h
    split at h
    · cases h; rfl
    · cases h
  · unfold dVar at h
    split at h
    · rename_i d e
      obtain ⟨v, a, b⟩ := A.get e
      exact ⟨v, a, h v H E ⟨A, b⟩ Tr.refl fun _ => Same.refl H⟩
    · exact h.elim
theorem EnvAt.getO {Z E : Addr → Prop} {ρ : Env} {σ : List (Option V)} {H : Hp} {i : Nat} {d : D} (A : EnvAt g Z E ρ σ H) (h : ρ[i]? = some (some (.dp d))) : ∃ v F, σ[i]? = some (some v) ∧ Rep g H E d v F ∧ ∀ a ∈ F, ¬ Z a := by
  obtain ⟨Fs, B⟩ := A
  obtain ⟨v, a, b⟩ := B.row i _ h
  exact ⟨v, _, a, b, fun a h => B.dz i a h⟩
theorem snd_peek (i : Nat) : SndE g W true .Q (tVar i) (dPeek i) := by
  refine ⟨fun _ ρ d ρ' h => ?_, fun σ H ρ Z E Q A h => ?_⟩
  · unfold dPeek at h
    split at h
    · cases h; rfl
    · split at h
      · cases h; rfl
      · cases h
    · cases h
  · unfold dPeek at h
    split at h
    · rename_i d e
      obtain ⟨v, a, b⟩ := A.get e
      exact ⟨v, a, h v H E ⟨A, b.rep1⟩ Tr.refl fun _ => Same.refl H⟩
    · rename_i d e
      obtain ⟨v, F, a, b, _⟩ := A.getO e
      split at h
      · rename_i n
        exact ⟨v, a, h v H E ⟨A, (b.top n).rep1⟩ Tr.refl fun _ => Same.refl H⟩
      · exact h.elim
    · exact h.elim
/-- a row's own part is set apart -/
theorem EnvAt.take {Z E : Addr → Prop} {ρ : Env} {σ : List (Option V)} {H : Hp} {i : Nat} {d : D} (A : EnvAt g Z E ρ σ H) (h : ρ[i]? = some (some (.dp d))) :
    ∃ v F, σ[i]? = some (some v) ∧ Rep g H E d v F ∧ F.Nodup ∧ (∀ a ∈ F, ¬ Z a) ∧ EnvAt g (more F Z) E (ρ.set i none) σ H := by
  obtain ⟨Fs, B⟩ := A
  obtain ⟨v, a, b⟩ := B.row i _ h
  have hi : i < ρ.length := by
    rcases Nat.lt_or_ge i ρ.length with z | z
    · exact z
    · rw [List.getElem?_eq_none z] at h; cases h
  refine ⟨v, Fs i, a, b, B.nd i, fun a h => B.dz i a h, fun j => if j = i then [] else Fs j, fun a => ?_, fun j s h => ?_, fun j h => ?_, fun j => ?_, fun j k a hj hk => ?_, fun j a hj => ?_, B.ki, by simpa using B.len⟩
  · rw [B.iff a]
    constructor
    · rintro (⟨j, h⟩ | h)
      · by_cases e : j = i
        · rw [e] at h; exact .inr (.inl h)
        · exact .inl ⟨j, by simp only [if_neg e]; exact h⟩
      · exact .inr (.inr h)
    · rintro (⟨j, h⟩ | h | h)
      · by_cases e : j = i
        · simp only [if_pos e] at h; cases h
        · simp only [if_neg e] at h; exact .inl ⟨j, h⟩
      · exact .inl ⟨i, h⟩
      · exact .inr h
  · rw [getSet hi] at h
    by_cases e : j = i
    · rw [if_pos e] at h; cases h
    · rw [if_neg e] at h
      simp only [if_neg e]
      exact B.row j s h
  · by_cases e : j = i
    · simp only [if_pos e]
    · simp only [if_neg e]
      exact B.emp j fun s q => h s (by rw [getSet hi, if_neg e]; exact q)
  · by_cases e : j = i
    · simp only [if_pos e]; exact List.nodup_nil
    · simp only [if_neg e]; exact B.nd j
  · by_cases e : j = i
    · simp only [if_pos e] at hj; cases hj
    · by_cases e' : k = i
      · simp only [if_pos e'] at hk; cases hk
      · simp only [if_neg e] at hj; simp only [if_neg e'] at hk
        exact B.dj j k a hj hk
  · by_cases e : j = i
    · simp only [if_pos e] at hj; cases hj
    · simp only [if_neg e] at hj
      rintro (z | z)
      · exact e (B.dj j i a hj z)
      · exact B.dz j a hj z
theorem setSame {α : Type} {l : List α} {i : Nat} {x : α} (h : l[i]? = some x) : l.set i x = l := by
  apply List.ext_getElem?
  intro j
  by_cases e : j = i
  · subst e
    have hi : j < l.length := by
      rcases Nat.lt_or_ge j l.length with z | z
      · exact z
      · rw [List.getElem?_eq_none z] at h; cases h
    rw [List.getElem?_set_self hi, h]
  · rw [List.getElem?_set_ne (Ne.symm e)]
theorem ltOf {α : Type} {l : List α} {i : Nat} {x : α} (h : l[i]? = some x) : i < l.length := by
  rcases Nat.lt_or_ge i l.length with z | z
  · exact z
  · rw [List.getElem?_eq_none z] at h; cases h
theorem snd_move (i : Nat) : SndE g W false .D (tVar i) (dMove i) := by
  refine ⟨(fun h => nomatch h), fun σ H ρ Z E Q A h => ?_⟩
  unfold dMove at h
  split at h
  · rename_i d e
    obtain ⟨v, F, a, b, nd, n, A'⟩ := A.take e
    exact ⟨v, a, h v H E ⟨F, A', b, nd, n⟩ Tr.refl fun _ => Same.refl H⟩
  · rename_i d e
    obtain ⟨v, a, b⟩ := A.get e
    exact ⟨v, a, h v H E ⟨[], Res.of A b⟩ Tr.refl fun _ => Same.refl H⟩
  · exact h.elim
theorem snd_frz (i : Nat) : SndE g W false .S (tVar i) (dFrz i) := by
  refine ⟨(fun h => nomatch h), fun σ H ρ Z E Q A h => ?_⟩
  unfold dFrz at h
  split at h
  · rename_i d e
    obtain ⟨v, a, b⟩ := A.get e
    exact ⟨v, a, h v H E ⟨A, b⟩ Tr.refl fun _ => Same.refl H⟩
  · rename_i d e
    obtain ⟨v, F, a, b, nd, n, A'⟩ := A.take e
    obtain ⟨E1, A1, s1, n1⟩ := A'.drop n
    split at h
    · rename_i no
      have r1 := (b.top no).frz s1 n1
      have hi : i < (ρ.set i none).length := by simpa using ltOf e
      obtain ⟨E2, A2, s2⟩ := A1.bindS r1 hi
      rw [List.set_set, setSame a] at A2
      exact ⟨v, a, h v H E2 ⟨A2, r1.keep ⟨fun _ _ h _ => h, fun a h => .inl (s2 a h)⟩⟩ ⟨fun _ _ h _ => h, fun a h => .inl (s1 a (s2 a h))⟩ fun _ => Same.refl H⟩
    · exact h.elim
  · exact h.elim
end
end DL
/-! DL4 -/
set_option Elab.async false
set_option linter.all false
set_option maxRecDepth 100000
namespace DL
open PySem PySem.Spec PyProof.Rows L2

section
variable {g : Gx} {W : WX}
/-! ### two operands -/
def OpSnd (g : Gx) (W : WX) (md : Md) (r : R2) (f : D → D → P D) : Prop :=
  ∀ (σ : L2.St) (H : Hp) (ρ : Env) (Z E : Addr → Prop) (x y : V) (d e : D) (Q : VK), EnvAt g Z E ρ σ H → Rep1 g H E d x → Rep1 g H E e y →
    (f d e).sat (fun z => ∀ v H' E', Post md g Z E' ρ σ H' z v → Tr Z H E H' E' → Same H H' → Q v H')
      (fun c xs => ∀ cls dd H' E', ExcAt g H' E' c xs cls dd → EnvAt g Z E' ρ σ H' → Tr Z H E H' E' → W cls dd σ H') → r x y H Q
def dOp (f : D → D → P D) (a b : Env → R D) : Env → R D := fun ρ => (a ρ).bind fun d ρ1 => (b ρ1).bind fun e ρ2 => (f d e).at ρ2
inductive SQ : Md → Prop where
  | s : SQ .S
  | q : SQ .Q
theorem Post.env {md : Md} (h : SQ md) {Z E : Addr → Prop} {ρ : Env} {σ : L2.St} {H : Hp} {d : D} {v : V} (p : Post md g Z E ρ σ H d v) : EnvAt g Z E ρ σ H := by cases h <;> exact p.1
theorem Post.rep1 {md : Md} (h : SQ md) {Z E : Addr → Prop} {ρ : Env} {σ : L2.St} {H : Hp} {d : D} {v : V} (p : Post md g Z E ρ σ H d v) : Rep1 g H E d v := by
  cases h
  · exact Rep.rep1 p.2
  · exact p.2
theorem and_l {a b : Bool} (h : (a && b) = true) : a = true := (Bool.and_eq_true_iff.mp h).1
theorem and_r {a b : Bool} (h : (a && b) = true) : b = true := (Bool.and_eq_true_iff.mp h).2
/-- a first operand stays to be read behind the second -/
theorem stay {ma : Md} {pb : Bool} (ok : SQ ma) (hq : ma = .S ∨ pb = true) {Z E1 E2 : Addr → Prop} {ρ1 : Env} {σ : L2.St} {H1 H2 : Hp} {d : D} {v : V} (p : Post ma g Z E1 ρ1 σ H1 d v) (t : Tr Z H1 E1 H2 E2) (s : pb = true → Same H1 H2) : Rep1 g H2 E2 d v := by
  rcases hq with rfl | hq
  · exact Rep.rep1 (Rep.keep (t.kp p.1.ki fun _ h => nomatch h) p.2)
  · exact Rep1.same (s hq) t.e (Post.rep1 ok p)
theorem snd_op {ta tb : TE} {pa pb : Bool} {ma mb mo : Md} {da db : Env → R D} {r : R2} {f : D → D → P D} (ho : OpSnd g W mo r f) (ha : SndE g W pa ma ta da) (hb : SndE g W pb mb tb db) (oa : SQ ma) (ob : SQ mb) (hq : ma = .S ∨ pb = true) :
    SndE g W (pa && pb) mo (tOp r ta tb) (dOp f da db) := by
  refine ⟨fun hp ρ d ρ' h => ?_, fun σ H ρ Z E Q A h => ?_⟩
  · obtain ⟨d1, ρ1, h1, h⟩ := R.bind_ok h
    obtain ⟨d2, ρ2, h2, h⟩ := R.bind_ok h
    rw [(P.at_ok h).2, hb.pure (and_r hp) _ _ _ h2, ha.pure (and_l hp) _ _ _ h1]
  · have h := R.sat_bind.mp h
    refine ha.run σ H ρ Z E _ A (R.sat_mono h (fun d ρ1 he k v H1 E1 p1 t1 s1 => ?_) fun c xs ρ1 k => k)
    have k := R.sat_bind.mp k
    refine hb.run σ H1 ρ1 Z E1 _ (p1.env oa) (R.sat_mono k (fun e ρ2 he2 k2 w H2 E2 p2 t2 s2 => ?_) fun c xs ρ2 k2 cls dd H2 E2 x A2 t2 => k2 cls dd H2 E2 x A2 (t1.trans t2 fun _ h => h))
    have k2 := P.sat_at.mp k2
    refine ho σ H2 ρ2 Z E2 v w d e Q (p2.env ob) (stay oa hq p1 t2 s2) (p2.rep1 ob) ?_
    have t12 := t1.trans t2 fun _ h => h
    revert k2
    cases f d e with
    | ok z => exact fun k2 v3 H3 E3 p3 t3 s3 => k2 v3 H3 E3 p3 (t12.trans t3 fun _ h => h) fun hp => ((s1 (and_l hp)).trans (s2 (and_r hp))).trans s3
    | exc c xs => exact fun k2 cls dd H3 E3 x A3 t3 => k2 cls dd H3 E3 x A3 (t12.trans t3 fun _ h => h)
    | stk => exact fun k2 => k2
/-- an operation whose answer needs no heap -/
theorem op_flat {r : R2} {f : D → D → P D} (h : ∀ H E x y d e z (Q : VK), Rep1 g H E d x → Rep1 g H E e y → f d e = .ok z → ∃ v, (∀ H E, Rep g H E z v []) ∧ (Q v H → r x y H Q)) (hx : ∀ d e c xs, f d e ≠ .exc c xs) : OpSnd g W .S r f := by
  intro σ H ρ Z E x y d e Q A hx1 hy1 k
  cases z : f d e with
  | ok z' =>
    rw [z] at k
    obtain ⟨v, h1, h2⟩ := h H E x y d e z' Q hx1 hy1 z
    exact h2 (k v H E ⟨A, h1 H E⟩ Tr.refl (Same.refl H))
  | exc c xs => exact absurd z (hx d e c xs)
  | stk => rw [z] at k; exact k.elim
/-- two rules -/
theorem OpSnd.or {md : Md} {r r' : R2} {f f' : D → D → P D} (h : OpSnd g W md r f) (h' : OpSnd g W md r' f') : OpSnd g W md (fun x y H Q => r x y H Q ∨ r' x y H Q) (fun d e => match f d e with | .stk => f' d e | z => z) := by
  intro σ H ρ Z E x y d e Q A hx hy k
  dsimp only at k
  cases z : f d e with
  | stk => rw [z] at k; exact .inr (h' σ H ρ Z E x y d e Q A hx hy k)
  | ok z' => rw [z] at k; exact .inl (h σ H ρ Z E x y d e Q A hx hy (by rw [z]; exact k))
  | exc c xs => rw [z] at k; exact .inl (h σ H ρ Z E x y d e Q A hx hy (by rw [z]; exact k))
theorem rep1_int {H : Hp} {E : Addr → Prop} {i : Int} {v : V} (h : Rep1 g H E (.int i) v) : v = .int i := by unfold Rep1 Rep at h; exact h.1
theorem rep1_bl {H : Hp} {E : Addr → Prop} {i : Bool} {v : V} (h : Rep1 g H E (.bl i) v) : v = .bl i := by unfold Rep1 Rep at h; exact h.1
theorem rep1_str {H : Hp} {E : Addr → Prop} {i : Str} {v : V} (h : Rep1 g H E (.str i) v) : v = .str i := by unfold Rep1 Rep at h; exact h.1
theorem rep1_non {H : Hp} {E : Addr → Prop} {v : V} (h : Rep1 g H E .non v) : v = .non := by unfold Rep1 Rep at h; exact h.1
theorem rep_int {H : Hp} {E : Addr → Prop} (i : Int) : Rep g H E (.int i) (.int i) [] := by unfold Rep; exact ⟨rfl, rfl⟩
theorem rep_bl {H : Hp} {E : Addr → Prop} (i : Bool) : Rep g H E (.bl i) (.bl i) [] := by unfold Rep; exact ⟨rfl, rfl⟩
theorem rep_str {H : Hp} {E : Addr → Prop} (i : Str) : Rep g H E (.str i) (.str i) [] := by unfold Rep; exact ⟨rfl, rfl⟩
theorem rep_non {H : Hp} {E : Addr → Prop} : Rep g H E .non .non [] := by unfold Rep; exact ⟨rfl, rfl⟩
/-- two ints -/
def i2 (c : Int → Int → Bool) (k : Int → Int → D) : D → D → P D
  | .int i, .int j => if c i j = true then .ok (k i j) else .stk
  | _, _ => .stk
theorem snd_i2 {C : Int → Int → Prop} {kv : Int → Int → V} {c : Int → Int → Bool} {k : Int → Int → D} (hc : ∀ i j, c i j = true → C i j) (hk : ∀ i j H E, Rep g H E (k i j) (kv i j) []) : OpSnd g W .S (rI C kv) (i2 c k) := by
  refine op_flat (fun H E x y d e z Q hx hy h => ?_) (fun d e cc xs => ?_)
  · unfold i2 at h
    split at h
    · rw [rep1_int hx, rep1_int hy]
      split at h
      · rename_i i j q
        cases h
        exact ⟨kv i j, hk i j, fun z => ⟨i, j, rfl, rfl, hc i j q, z⟩⟩
      · cases h
    · cases h
  · unfold i2
    split
    · split <;> (intro z; cases z)
    · intro z; cases z
def i2' (k : Int → Int → D) : D → D → P D
  | .int i, .int j => .ok (k i j)
  | _, _ => .stk
theorem snd_i2' {kv : Int → Int → V} {k : Int → Int → D} (hk : ∀ i j H E, Rep g H E (k i j) (kv i j) []) : OpSnd g W .S (rI0 kv) (i2' k) := by
  refine op_flat (fun H E x y d e z Q hx hy h => ?_) (fun d e cc xs => ?_)
  · unfold i2' at h
    split at h
    · rename_i i j
      cases h
      rw [rep1_int hx, rep1_int hy]
      exact ⟨kv i j, hk i j, fun z => ⟨i, j, rfl, rfl, z⟩⟩
    · cases h
  · unfold i2'
    split <;> (intro z; cases z)
def fAddI : D → D → P D := i2' fun i j => .int (i + j)
def fSub : D → D → P D := i2' fun i j => .int (i - j)
def mulOk (i j : Int) : Bool := decide ((-(2 ^ 64) < i ∧ i < 2 ^ 64) ∨ (-(2 ^ 64) < j ∧ j < 2 ^ 64)) || decide (i.natAbs.log2 + j.natAbs.log2 < 1000000)
def fMulI : D → D → P D := i2 mulOk fun i j => .int (i * j)
def CMulA (i j : Int) : Prop := mulOk i j = true
theorem CMulA.ok {i j : Int} (h : CMulA i j) : IntMulOk i j := by
  unfold CMulA mulOk at h
  rcases Bool.or_eq_true_iff.mp h with h | h
  · have h' := of_decide_eq_true h
    exact CMul.ok h'
  · have h' := of_decide_eq_true h
    exact CMulW.ok h'
theorem op_mulA {X : Cx} : OpR X (binaryOp .Mult) (rI CMulA fun i j => .int (i * j)) := opI fun _ _ _ _ _ _ _ hc q => mul_int q hc.ok
def divOk (i j : Int) : Bool := decide (0 < j) && !Builtin.divisionGoesByPylong i j
def CDivA (i j : Int) : Prop := divOk i j = true
theorem op_fdivA {X : Cx} : OpR X (binaryOp .FloorDiv) (rI CDivA fun i j => .int (i / j)) := opI fun i j _ _ _ _ _ hc q => by
  obtain ⟨h1, h2⟩ := Bool.and_eq_true_iff.mp (show (decide (0 < j) && !Builtin.divisionGoesByPylong i j) = true from hc)
  have h1 := of_decide_eq_true h1
  exact floordiv_int (by omega) (by rw [Int.fdiv_eq_ediv_of_nonneg i (by omega)]; exact q) (.inl (by simpa using h2))
def fDiv : D → D → P D := i2 divOk fun i j => .int (i / j)
def modOk (_ j : Int) : Bool := decide (0 < j)
def fModI : D → D → P D := i2 modOk fun i j => .int (i % j)
def powOk (i j : Int) : Bool := decide (0 ≤ j ∧ j ≤ 1000000 ∧ i.natAbs < 2 ^ 64)
def fPow : D → D → P D := i2 powOk fun i j => .int (i ^ j.toNat)
def fShl : D → D → P D := i2 powOk fun i j => .int (i * 2 ^ j.toNat)
theorem snd_addI : OpSnd g W .S (rI0 fun i j => .int (i + j)) fAddI := snd_i2' fun i j _ _ => rep_int _
theorem snd_sub : OpSnd g W .S (rI0 fun i j => .int (i - j)) fSub := snd_i2' fun i j _ _ => rep_int _
theorem snd_mulI : OpSnd g W .S (rI CMulA fun i j => .int (i * j)) fMulI := snd_i2 (fun _ _ h => h) fun i j _ _ => rep_int _
theorem snd_div : OpSnd g W .S (rI CDivA fun i j => .int (i / j)) fDiv := snd_i2 (fun _ _ h => h) fun i j _ _ => rep_int _
theorem snd_modI : OpSnd g W .S (rI (fun _ j => 0 < j) fun i j => .int (i % j)) fModI := snd_i2 (fun _ _ h => of_decide_eq_true h) fun i j _ _ => rep_int _
theorem snd_pow : OpSnd g W .S (rI CPow fun i j => .int (i ^ j.toNat)) fPow := snd_i2 (fun _ _ h => by have h' := of_decide_eq_true h; exact h') fun i j _ _ => rep_int _
theorem snd_shl : OpSnd g W .S (rI CPow fun i j => .int (i * 2 ^ j.toNat)) fShl := snd_i2 (fun _ _ h => by have h' := of_decide_eq_true h; exact h') fun i j _ _ => rep_int _
def fLt : D → D → P D := i2' fun i j => .bl (decide (i < j))
def fLe : D → D → P D := i2' fun i j => .bl (decide (i ≤ j))
def fGt : D → D → P D := i2' fun i j => .bl (decide (j < i))
def fGe : D → D → P D := i2' fun i j => .bl (decide (j ≤ i))
theorem snd_lt : OpSnd g W .S (rI0 fun i j => .bl (decide (i < j))) fLt := snd_i2' fun i j _ _ => rep_bl _
theorem snd_le : OpSnd g W .S (rI0 fun i j => .bl (decide (i ≤ j))) fLe := snd_i2' fun i j _ _ => rep_bl _
theorem snd_gt : OpSnd g W .S (rI0 fun i j => .bl (decide (j < i))) fGt := snd_i2' fun i j _ _ => rep_bl _
theorem snd_ge : OpSnd g W .S (rI0 fun i j => .bl (decide (j ≤ i))) fGe := snd_i2' fun i j _ _ => rep_bl _
/-- is None -/
def isNon : D → Bool
  | .non => true
  | _ => false
theorem rep1_non_iff {H : Hp} {E : Addr → Prop} {d : D} {v : V} (h : Rep1 g H E d v) : decide (v = .non) = isNon d := by
  have nr : ∀ a, V.ref a ≠ V.non := fun a z => by cases z
  cases d with
  | non => rw [rep1_non h]; rfl
  | bl b => rw [rep1_bl h]; rfl
  | int b => rw [rep1_int h]; rfl
  | str b => rw [rep1_str h]; rfl
  | fn x => unfold Rep1 Rep at h; rw [h.1]; exact decide_eq_false (nr _)
  | err c x => unfold Rep1 Rep at h; obtain ⟨a, dd, e, _⟩ := h; rw [e]; exact decide_eq_false (nr _)
  | scr x => unfold Rep1 Rep at h; obtain ⟨a, e, _⟩ := h; rw [e]; exact decide_eq_false (nr _)
  | tup x => unfold Rep1 Rep at h; obtain ⟨a, vs, e, _⟩ := h; rw [e]; exact decide_eq_false (nr _)
  | lst o x => unfold Rep1 at h; obtain ⟨a, vs, e, _⟩ := h; rw [e]; exact decide_eq_false (nr _)
  | dic o k x => unfold Rep1 at h; obtain ⟨a, vs, e, _⟩ := h; rw [e]; exact decide_eq_false (nr _)
  | ins o c f x => unfold Rep1 at h; obtain ⟨a, dx, vs, e, _⟩ := h; rw [e]; exact decide_eq_false (nr _)
def fIsN : D → D → P D
  | d, .non => .ok (.bl (isNon d))
  | _, _ => .stk
def fNotN : D → D → P D
  | d, .non => .ok (.bl (!isNon d))
  | _, _ => .stk
theorem snd_isN : OpSnd g W .S (fun x y H Q => y = .non ∧ Q (.bl (decide (x = .non))) H) fIsN := by
  refine op_flat (fun H E x y d e z Q hx hy h => ?_) (fun d e cc xs => ?_)
  · unfold fIsN at h
    split at h
    · cases h
      exact ⟨_, fun _ _ => rep_bl _, fun z => ⟨rep1_non hy, by rw [rep1_non_iff hx]; exact z⟩⟩
    · cases h
  · unfold fIsN
    split <;> (intro z; cases z)
theorem snd_notN : OpSnd g W .S (fun x y H Q => y = .non ∧ Q (.bl (!decide (x = .non))) H) fNotN := by
  refine op_flat (fun H E x y d e z Q hx hy h => ?_) (fun d e cc xs => ?_)
  · unfold fNotN at h
    split at h
    · cases h
      exact ⟨_, fun _ _ => rep_bl _, fun z => ⟨rep1_non hy, by rw [rep1_non_iff hx]; exact z⟩⟩
    · cases h
  · unfold fNotN
    split <;> (intro z; cases z)

/-! ### one operand -/
def UnSnd (g : Gx) (W : WX) (md : Md) (r : V → Hp → VK → Prop) (f : D → P D) : Prop :=
  ∀ (σ : L2.St) (H : Hp) (ρ : Env) (Z E : Addr → Prop) (x : V) (d : D) (Q : VK), EnvAt g Z E ρ σ H → Rep1 g H E d x →
    (f d).sat (fun z => ∀ v H' E', Post md g Z E' ρ σ H' z v → Tr Z H E H' E' → Same H H' → Q v H')
      (fun c xs => ∀ cls dd H' E', ExcAt g H' E' c xs cls dd → EnvAt g Z E' ρ σ H' → Tr Z H E H' E' → W cls dd σ H') → r x H Q
def dUn (f : D → P D) (a : Env → R D) : Env → R D := fun ρ => (a ρ).bind fun d ρ1 => (f d).at ρ1
theorem snd_un {ta : TE} {pa : Bool} {ma mo : Md} {da : Env → R D} {r : V → Hp → VK → Prop} {f : D → P D} (ho : UnSnd g W mo r f) (ha : SndE g W pa ma ta da) (oa : SQ ma) : SndE g W pa mo (tUn r ta) (dUn f da) := by
  refine ⟨fun hp ρ d ρ' h => ?_, fun σ H ρ Z E Q A h => ?_⟩
  · obtain ⟨d1, ρ1, h1, h⟩ := R.bind_ok h
    rw [(P.at_ok h).2, ha.pure hp _ _ _ h1]
  · have h := R.sat_bind.mp h
    refine ha.run σ H ρ Z E _ A (R.sat_mono h (fun d ρ1 he k v H1 E1 p1 t1 s1 => ?_) fun c xs ρ1 k => k)
    have k := P.sat_at.mp k
    refine ho σ H1 ρ1 Z E1 v d Q (p1.env oa) (p1.rep1 oa) ?_
    revert k
    cases f d with
    | ok z => exact fun k2 v3 H3 E3 p3 t3 s3 => k2 v3 H3 E3 p3 (t1.trans t3 fun _ h => h) fun hp => (s1 hp).trans s3
    | exc c xs => exact fun k2 cls dd H3 E3 x A3 t3 => k2 cls dd H3 E3 x A3 (t1.trans t3 fun _ h => h)
    | stk => exact fun k2 => k2
theorem un_flat {r : V → Hp → VK → Prop} {f : D → P D} (h : ∀ H E x d z (Q : VK), Rep1 g H E d x → f d = .ok z → ∃ v, (∀ H E, Rep g H E z v []) ∧ (Q v H → r x H Q)) (hx : ∀ d c xs, f d ≠ .exc c xs) : UnSnd g W .S r f := by
  intro σ H ρ Z E x d Q A hx1 k
  cases z : f d with
  | ok z' =>
    rw [z] at k
    obtain ⟨v, h1, h2⟩ := h H E x d z' Q hx1 z
    exact h2 (k v H E ⟨A, h1 H E⟩ Tr.refl (Same.refl H))
  | exc c xs => exact absurd z (hx d c xs)
  | stk => rw [z] at k; exact k.elim
def fNeg : D → P D
  | .int i => .ok (.int (-i))
  | _ => .stk
theorem snd_neg : UnSnd g W .S (rU fun i => .int (-i)) fNeg := by
  refine un_flat (fun H E x d z Q hx h => ?_) (fun d cc xs => ?_)
  · unfold fNeg at h
    split at h
    · rename_i i
      cases h
      exact ⟨_, fun _ _ => rep_int _, fun z => ⟨i, rep1_int hx, z⟩⟩
    · cases h
  · unfold fNeg
    split <;> (intro z; cases z)

/-! ### tests -/
def dTest (a : Env → R D) : Env → R Bool := fun ρ => (a ρ).bind fun d ρ1 => match d with
  | .bl b => .ok b ρ1
  | _ => .stk
theorem snd_test {t : TE} {pa : Bool} {ma : Md} {da : Env → R D} (ha : SndE g W pa ma t da) (oa : SQ ma) : SndT g W pa (fun σ H Q => t σ H fun x H1 => ∃ c, x = .bl c ∧ Q c H1) (dTest da) := by
  refine ⟨fun hp ρ d ρ' h => ?_, fun σ H ρ Z E Q A h => ?_⟩
  · obtain ⟨d1, ρ1, h1, h⟩ := R.bind_ok h
    split at h
    · cases h; exact ha.pure hp _ _ _ h1
    · cases h
  · have h := R.sat_bind.mp h
    refine ha.run σ H ρ Z E _ A (R.sat_mono h (fun d ρ1 he k v H1 E1 p1 t1 s1 => ?_) fun c xs ρ1 k => k)
    split at k
    · rename_i b
      exact ⟨b, rep1_bl (p1.rep1 oa), k H1 E1 (p1.env oa) t1 s1⟩
    · exact k.elim
def dAnd (a b : Env → R Bool) : Env → R Bool := fun ρ => (a ρ).bind fun c ρ1 => if c = true then b ρ1 else .ok false ρ1
def dOr (a b : Env → R Bool) : Env → R Bool := fun ρ => (a ρ).bind fun c ρ1 => if c = true then .ok true ρ1 else b ρ1
def dNot (a : Env → R Bool) : Env → R Bool := fun ρ => (a ρ).bind fun c ρ1 => .ok (!c) ρ1
theorem snd_and {ta tb : TT} {pa pb : Bool} {da db : Env → R Bool} (ha : SndT g W pa ta da) (hb : SndT g W pb tb db) : SndT g W (pa && pb) (tAnd ta tb) (dAnd da db) := by
  refine ⟨fun hp ρ d ρ' h => ?_, fun σ H ρ Z E Q A h => ?_⟩
  · obtain ⟨c, ρ1, h1, h⟩ := R.bind_ok h
    have e1 := ha.pure (and_l hp) _ _ _ h1
    split at h
    · rw [hb.pure (and_r hp) _ _ _ h, e1]
    · cases h; exact e1
  · have h := R.sat_bind.mp h
    refine ha.run σ H ρ Z E _ A (R.sat_mono h (fun c ρ1 he k H1 E1 A1 t1 s1 => ?_) fun c xs ρ1 k => k)
    cases c with
    | true =>
      rw [if_pos rfl] at k ⊢
      exact hb.run σ H1 ρ1 Z E1 Q A1 (R.sat_mono k (fun c2 ρ2 he2 k2 H2 E2 A2 t2 s2 => k2 H2 E2 A2 (t1.trans t2 fun _ h => h) fun hp => (s1 (and_l hp)).trans (s2 (and_r hp))) fun c xs ρ2 k2 cls dd H2 E2 x A2 t2 => k2 cls dd H2 E2 x A2 (t1.trans t2 fun _ h => h))
    | false =>
      rw [if_neg Bool.false_ne_true] at k ⊢
      exact k H1 E1 A1 t1 fun hp => s1 (and_l hp)
theorem snd_or {ta tb : TT} {pa pb : Bool} {da db : Env → R Bool} (ha : SndT g W pa ta da) (hb : SndT g W pb tb db) : SndT g W (pa && pb) (tOr ta tb) (dOr da db) := by
  refine ⟨fun hp ρ d ρ' h => ?_, fun σ H ρ Z E Q A h => ?_⟩
  · obtain ⟨c, ρ1, h1, h⟩ := R.bind_ok h
    have e1 := ha.pure (and_l hp) _ _ _ h1
    split at h
    · cases h; exact e1
    · rw [hb.pure (and_r hp) _ _ _ h, e1]
  · have h := R.sat_bind.mp h
    refine ha.run σ H ρ Z E _ A (R.sat_mono h (fun c ρ1 he k H1 E1 A1 t1 s1 => ?_) fun c xs ρ1 k => k)
    cases c with
    | true =>
      rw [if_pos rfl] at k ⊢
      exact k H1 E1 A1 t1 fun hp => s1 (and_l hp)
    | false =>
      rw [if_neg Bool.false_ne_true] at k ⊢
      exact hb.run σ H1 ρ1 Z E1 Q A1 (R.sat_mono k (fun c2 ρ2 he2 k2 H2 E2 A2 t2 s2 => k2 H2 E2 A2 (t1.trans t2 fun _ h => h) fun hp => (s1 (and_l hp)).trans (s2 (and_r hp))) fun c xs ρ2 k2 cls dd H2 E2 x A2 t2 => k2 cls dd H2 E2 x A2 (t1.trans t2 fun _ h => h))
theorem snd_not {ta : TT} {pa : Bool} {da : Env → R Bool} (ha : SndT g W pa ta da) : SndT g W pa (tNot ta) (dNot da) := by
  refine ⟨fun hp ρ d ρ' h => ?_, fun σ H ρ Z E Q A h => ?_⟩
  · obtain ⟨c, ρ1, h1, h⟩ := R.bind_ok h
    cases h
    exact ha.pure hp _ _ _ h1
  · exact ha.run σ H ρ Z E _ A (R.sat_mono (R.sat_bind.mp h) (fun c ρ1 he k H1 E1 A1 t1 s1 => k H1 E1 A1 t1 s1) fun c xs ρ1 k => k)
/-- a if t else b -/
def dIf (t : Env → R Bool) (a b : Env → R D) : Env → R D := fun ρ => (t ρ).bind fun c ρ1 => if c = true then a ρ1 else b ρ1
theorem snd_if {tt : TT} {ta tb : TE} {pt pa pb : Bool} {md : Md} {dt : Env → R Bool} {da db : Env → R D} (ht : SndT g W pt tt dt) (ha : SndE g W pa md ta da) (hb : SndE g W pb md tb db) : SndE g W (pt && (pa && pb)) md (tIf tt ta tb) (dIf dt da db) := by
  refine ⟨fun hp ρ d ρ' h => ?_, fun σ H ρ Z E Q A h => ?_⟩
  · obtain ⟨c, ρ1, h1, h⟩ := R.bind_ok h
    have e1 := ht.pure (and_l hp) _ _ _ h1
    split at h
    · rw [ha.pure (and_l (and_r hp)) _ _ _ h, e1]
    · rw [hb.pure (and_r (and_r hp)) _ _ _ h, e1]
  · refine ht.run σ H ρ Z E _ A (R.sat_mono (R.sat_bind.mp h) (fun c ρ1 he k H1 E1 A1 t1 s1 => ?_) fun c xs ρ1 k => k)
    cases c with
    | true =>
      rw [if_pos rfl] at k ⊢
      exact ha.run σ H1 ρ1 Z E1 Q A1 (R.sat_mono k (fun c2 ρ2 he2 k2 v H2 E2 p2 t2 s2 => k2 v H2 E2 p2 (t1.trans t2 fun _ h => h) fun hp => (s1 (and_l hp)).trans (s2 (and_l (and_r hp)))) fun c xs ρ2 k2 cls dd H2 E2 x A2 t2 => k2 cls dd H2 E2 x A2 (t1.trans t2 fun _ h => h))
    | false =>
      rw [if_neg Bool.false_ne_true] at k ⊢
      exact hb.run σ H1 ρ1 Z E1 Q A1 (R.sat_mono k (fun c2 ρ2 he2 k2 v H2 E2 p2 t2 s2 => k2 v H2 E2 p2 (t1.trans t2 fun _ h => h) fun hp => (s1 (and_l hp)).trans (s2 (and_r (and_r hp)))) fun c xs ρ2 k2 cls dd H2 E2 x A2 t2 => k2 cls dd H2 E2 x A2 (t1.trans t2 fun _ h => h))
/-- and, or as values, all but the last flags -/
def dAndV (a b : Env → R D) : Env → R D := fun ρ => (dTest a ρ).bind fun c ρ1 => if c = true then b ρ1 else .ok (.bl false) ρ1
def dOrV (a b : Env → R D) : Env → R D := fun ρ => (dTest a ρ).bind fun c ρ1 => if c = true then .ok (.bl true) ρ1 else b ρ1
def dNotV (a : Env → R D) : Env → R D := fun ρ => (dTest a ρ).bind fun c ρ1 => .ok (.bl (!c)) ρ1
theorem snd_andV {ta tb : TE} {pa pb : Bool} {ma : Md} {da db : Env → R D} (ha : SndE g W pa ma ta da) (oa : SQ ma) (hb : SndE g W pb .S tb db) : SndE g W (pa && pb) .S (tAndV ta tb) (dAndV da db) := by
  have ht := snd_test ha oa
  refine ⟨fun hp ρ d ρ' h => ?_, fun σ H ρ Z E Q A h => ?_⟩
  · obtain ⟨c, ρ1, h1, h⟩ := R.bind_ok h
    have e1 := ht.pure (and_l hp) _ _ _ h1
    split at h
    · rw [hb.pure (and_r hp) _ _ _ h, e1]
    · cases h; exact e1
  · have key := ht.run σ H ρ Z E (fun c H1 => if c = true then tb σ H1 Q else Q (.bl false) H1) A (R.sat_mono (R.sat_bind.mp h) (fun c ρ1 he k H1 E1 A1 t1 s1 => ?_) fun c xs ρ1 k => k)
    · exact key
    · cases c with
      | true =>
        rw [if_pos rfl] at k ⊢
        exact hb.run σ H1 ρ1 Z E1 Q A1 (R.sat_mono k (fun c2 ρ2 he2 k2 v H2 E2 p2 t2 s2 => k2 v H2 E2 p2 (t1.trans t2 fun _ h => h) fun hp => (s1 (and_l hp)).trans (s2 (and_r hp))) fun c xs ρ2 k2 cls dd H2 E2 x A2 t2 => k2 cls dd H2 E2 x A2 (t1.trans t2 fun _ h => h))
      | false =>
        rw [if_neg Bool.false_ne_true] at k ⊢
        exact k _ H1 E1 ⟨A1, rep_bl _⟩ t1 fun hp => s1 (and_l hp)
theorem snd_orV {ta tb : TE} {pa pb : Bool} {ma : Md} {da db : Env → R D} (ha : SndE g W pa ma ta da) (oa : SQ ma) (hb : SndE g W pb .S tb db) : SndE g W (pa && pb) .S (tOrV ta tb) (dOrV da db) := by
  have ht := snd_test ha oa
  refine ⟨fun hp ρ d ρ' h => ?_, fun σ H ρ Z E Q A h => ?_⟩
  · obtain ⟨c, ρ1, h1, h⟩ := R.bind_ok h
    have e1 := ht.pure (and_l hp) _ _ _ h1
    split at h
    · cases h; exact e1
    · rw [hb.pure (and_r hp) _ _ _ h, e1]
  · have key := ht.run σ H ρ Z E (fun c H1 => if c = true then Q (.bl true) H1 else tb σ H1 Q) A (R.sat_mono (R.sat_bind.mp h) (fun c ρ1 he k H1 E1 A1 t1 s1 => ?_) fun c xs ρ1 k => k)
    · exact key
    · cases c with
      | true =>
        rw [if_pos rfl] at k ⊢
        exact k _ H1 E1 ⟨A1, rep_bl _⟩ t1 fun hp => s1 (and_l hp)
      | false =>
        rw [if_neg Bool.false_ne_true] at k ⊢
        exact hb.run σ H1 ρ1 Z E1 Q A1 (R.sat_mono k (fun c2 ρ2 he2 k2 v H2 E2 p2 t2 s2 => k2 v H2 E2 p2 (t1.trans t2 fun _ h => h) fun hp => (s1 (and_l hp)).trans (s2 (and_r hp))) fun c xs ρ2 k2 cls dd H2 E2 x A2 t2 => k2 cls dd H2 E2 x A2 (t1.trans t2 fun _ h => h))
theorem snd_notV {ta : TE} {pa : Bool} {ma : Md} {da : Env → R D} (ha : SndE g W pa ma ta da) (oa : SQ ma) : SndE g W pa .S (tNotV ta) (dNotV da) := by
  have ht := snd_test ha oa
  refine ⟨fun hp ρ d ρ' h => ?_, fun σ H ρ Z E Q A h => ?_⟩
  · obtain ⟨c, ρ1, h1, h⟩ := R.bind_ok h
    cases h
    exact ht.pure hp _ _ _ h1
  · exact ht.run σ H ρ Z E (fun c H1 => Q (.bl (!c)) H1) A (R.sat_mono (R.sat_bind.mp h) (fun c ρ1 he k H1 E1 A1 t1 s1 => k _ H1 E1 ⟨A1, rep_bl _⟩ t1 s1) fun c xs ρ1 k => k)
/-- a op b op' c, ints -/
def dChain (f f' : D → D → P D) (a b c : Env → R D) : Env → R D := fun ρ => (a ρ).bind fun d ρ1 => (b ρ1).bind fun e ρ2 => (f d e).at ρ2 |>.bind fun z ρ3 => match z with
  | .bl true => (c ρ3).bind fun h ρ4 => (f' e h).at ρ4
  | .bl false => .ok (.bl false) ρ3
  | _ => .stk
theorem snd_chain {ta tb tc : TE} {pa pb pc : Bool} {da db dc : Env → R D} {r r' : R2} {f f' : D → D → P D} (ho : OpSnd g W .S r f) (ho' : OpSnd g W .S r' f') (ha : SndE g W pa .S ta da) (hb : SndE g W pb .S tb db) (hc : SndE g W pc .S tc dc) :
    SndE g W (pa && (pb && pc)) .S (tChain r r' ta tb tc) (dChain f f' da db dc) := by
  refine ⟨fun hp ρ d ρ' h => ?_, fun σ H ρ Z E Q A h => ?_⟩
  · obtain ⟨d1, ρ1, h1, h⟩ := R.bind_ok h
    obtain ⟨d2, ρ2, h2, h⟩ := R.bind_ok h
    obtain ⟨d3, ρ3, h3, h⟩ := R.bind_ok h
    have e1 := ha.pure (and_l hp) _ _ _ h1
    have e2 := hb.pure (and_l (and_r hp)) _ _ _ h2
    have e3 := (P.at_ok h3).2
    split at h
    · obtain ⟨d4, ρ4, h4, h⟩ := R.bind_ok h
      rw [(P.at_ok h).2, hc.pure (and_r (and_r hp)) _ _ _ h4, e3, e2, e1]
    · cases h; rw [e3, e2, e1]
    · cases h
  · refine ha.run σ H ρ Z E _ A (R.sat_mono (R.sat_bind.mp h) (fun d ρ1 he k v H1 E1 p1 t1 s1 => ?_) fun c xs ρ1 k => k)
    refine hb.run σ H1 ρ1 Z E1 _ p1.1 (R.sat_mono (R.sat_bind.mp k) (fun e ρ2 he2 k2 w H2 E2 p2 t2 s2 => ?_) fun c xs ρ2 k2 cls dd H2 E2 x A2 t2 => k2 cls dd H2 E2 x A2 (t1.trans t2 fun _ h => h))
    have t12 := t1.trans t2 fun _ h => h
    have k2 := P.sat_at.mp (R.sat_bind.mp k2)
    refine ho σ H2 ρ2 Z E2 v w d e _ p2.1 (stay .s (.inl rfl) p1 t2 s2) (p2.rep1 .s) ?_
    revert k2
    cases f d e with
    | exc c xs => exact fun k2 cls dd H3 E3 x A3 t3 => k2 cls dd H3 E3 x A3 (t12.trans t3 fun _ h => h)
    | stk => exact fun k2 => k2
    | ok z =>
      intro k2 v3 H3 E3 p3 t3 s3
      have t13 := t12.trans t3 fun _ h => h
      have s13 : (pa && (pb && pc)) = true → Same H H3 := fun hp => ((s1 (and_l hp)).trans (s2 (and_l (and_r hp)))).trans s3
      dsimp only [P.sat] at k2
      split at k2
      · refine ⟨true, rep1_bl (p3.rep1 .s), ?_⟩
        rw [if_pos rfl]
        refine hc.run σ H3 ρ2 Z E3 _ p3.1 (R.sat_mono (R.sat_bind.mp k2) (fun h4 ρ4 he4 k4 v4 H4 E4 p4 t4 s4 => ?_) fun c xs ρ4 k4 cls dd H4 E4 x A4 t4 => k4 cls dd H4 E4 x A4 (t13.trans t4 fun _ h => h))
        have k4 := P.sat_at.mp k4
        have p2' : Rep g H3 E3 e w [] := Rep.keep (t3.kp p2.1.ki fun _ h => nomatch h) p2.2
        refine ho' σ H4 ρ4 Z E4 w v4 e h4 Q p4.1 (Rep.rep1 (Rep.keep (t4.kp p3.1.ki fun _ h => nomatch h) p2')) (p4.rep1 .s) ?_
        have t14 := t13.trans t4 fun _ h => h
        revert k4
        cases f' e h4 with
        | ok z4 => exact fun k5 v5 H5 E5 p5 t5 s5 => k5 v5 H5 E5 p5 (t14.trans t5 fun _ h => h) fun hp => ((s13 hp).trans (s4 (and_r (and_r hp)))).trans s5
        | exc c xs => exact fun k5 cls dd H5 E5 x A5 t5 => k5 cls dd H5 E5 x A5 (t14.trans t5 fun _ h => h)
        | stk => exact fun k5 => k5
      · refine ⟨false, rep1_bl (p3.rep1 .s), ?_⟩
        rw [if_neg Bool.false_ne_true]
        exact k2 _ H3 E3 ⟨p3.1, rep_bl _⟩ t13 s13
      · exact k2.elim
end
end DL
/-! DL5 -/
set_option Elab.async false
set_option linter.all false
set_option maxRecDepth 100000
namespace DL
open PySem PySem.Spec PyProof.Rows L2

section
variable {g : Gx} {W : WX}
theorem Post.toT {Z E : Addr → Prop} {ρ : Env} {σ : L2.St} {H : Hp} {d : D} {v : V} (p : Post .S g Z E ρ σ H d v) : Post .T g Z E ρ σ H d v := ⟨[], by rw [more_nil]; exact p.1, TopT.of p.2, fun _ h => nomatch h⟩
theorem Post.toD {Z E : Addr → Prop} {ρ : Env} {σ : L2.St} {H : Hp} {d : D} {v : V} (p : Post .T g Z E ρ σ H d v) : Post .D g Z E ρ σ H d v := by
  obtain ⟨F, A, t, n⟩ := p
  exact ⟨F, A, t.rep, t.nd, n⟩
theorem SndE.toT {t : TE} {pa : Bool} {da : Env → R D} (h : SndE g W pa .S t da) : SndE g W pa .T t da :=
  ⟨h.pure, fun σ H ρ Z E Q A k => h.run σ H ρ Z E Q A (R.sat_mono k (fun d ρ1 _ k v H1 E1 p => k v H1 E1 p.toT) fun _ _ _ k => k)⟩
theorem SndE.toD {t : TE} {pa : Bool} {da : Env → R D} (h : SndE g W pa .T t da) : SndE g W pa .D t da :=
  ⟨h.pure, fun σ H ρ Z E Q A k => h.run σ H ρ Z E Q A (R.sat_mono k (fun d ρ1 _ k v H1 E1 p => k v H1 E1 p.toD) fun _ _ _ k => k)⟩
theorem SndE.toQ {t : TE} {pa : Bool} {da : Env → R D} (h : SndE g W pa .S t da) : SndE g W pa .Q t da :=
  ⟨h.pure, fun σ H ρ Z E Q A k => h.run σ H ρ Z E Q A (R.sat_mono k (fun d ρ1 _ k v H1 E1 p => k v H1 E1 ⟨p.1, p.2.rep1⟩) fun _ _ _ k => k)⟩
/-- what came is held by nobody alone from here on -/
def dFz (a : Env → R D) : Env → R D := fun ρ => (a ρ).bind fun d ρ1 => .ok (frzTop d) ρ1
theorem SndE.fz {t : TE} {pa : Bool} {da : Env → R D} (h : SndE g W pa .T t da) : SndE g W pa .S t (dFz da) := by
  refine ⟨fun hp ρ d ρ' q => ?_, fun σ H ρ Z E Q A k => h.run σ H ρ Z E Q A (R.sat_mono (R.sat_bind.mp k) (fun d ρ1 _ k v H1 E1 p t s => ?_) fun _ _ _ k => k)⟩
  · obtain ⟨d1, ρ1, h1, q⟩ := R.bind_ok q
    cases q
    exact h.pure hp _ _ _ h1
  · obtain ⟨F, A1, tt, n⟩ := p
    obtain ⟨E2, A2, s2, n2⟩ := A1.drop n
    exact k v H1 E2 ⟨A2, tt.frz s2 n2⟩ ⟨t.k, fun a h => t.e a (s2 a h)⟩ s
/-- of a deep one, where only the top is held alone -/
def dTp (a : Env → R D) : Env → R D := fun ρ => (a ρ).bind fun d ρ1 => if noOwn (frzTop d) = true then .ok d ρ1 else .stk
theorem SndE.tp {t : TE} {pa : Bool} {da : Env → R D} (h : SndE g W pa .D t da) : SndE g W pa .T t (dTp da) := by
  refine ⟨fun hp ρ d ρ' q => ?_, fun σ H ρ Z E Q A k => h.run σ H ρ Z E Q A (R.sat_mono (R.sat_bind.mp k) (fun d ρ1 _ k v H1 E1 p t s => ?_) fun _ _ _ k => k)⟩
  · obtain ⟨d1, ρ1, h1, q⟩ := R.bind_ok q
    split at q
    · cases q; exact h.pure hp _ _ _ h1
    · cases q
  · obtain ⟨F, A1⟩ := p
    split at k
    · rename_i n
      exact k v H1 E1 ⟨F, A1.env, A1.rep.top n, A1.dz⟩ t s
    · exact k.elim

/-! ### argument lists, displays -/
def dNil : Env → R (List D) := fun ρ => .ok [] ρ
def dCons (a : Env → R D) (b : Env → R (List D)) : Env → R (List D) := fun ρ => (a ρ).bind fun d ρ1 => (b ρ1).bind fun ds ρ2 => .ok (d :: ds) ρ2
theorem snd_nil : SndA g W true 0 tNil dNil :=
  ⟨fun ρ d ρ' h => by cases h; rfl, fun _ ρ d ρ' h => by cases h; rfl, fun σ H ρ Z E Q A h => h [] H E A RepL.nil Tr.refl fun _ => Same.refl H⟩
theorem snd_cons {te : TE} {ta : TA} {pa pb : Bool} {n : Nat} {da : Env → R D} {db : Env → R (List D)} (ha : SndE g W pa .S te da) (hb : SndA g W pb n ta db) : SndA g W (pa && pb) (n + 1) (tCons te ta) (dCons da db) := by
  refine ⟨fun ρ d ρ' h => ?_, fun hp ρ d ρ' h => ?_, fun σ H ρ Z E Q A h => ?_⟩
  · obtain ⟨d1, ρ1, h1, h⟩ := R.bind_ok h
    obtain ⟨d2, ρ2, h2, h⟩ := R.bind_ok h
    cases h
    rw [List.length_cons, hb.len _ _ _ h2]
  · obtain ⟨d1, ρ1, h1, h⟩ := R.bind_ok h
    obtain ⟨d2, ρ2, h2, h⟩ := R.bind_ok h
    cases h
    rw [hb.pure (and_r hp) _ _ _ h2, ha.pure (and_l hp) _ _ _ h1]
  · refine ha.run σ H ρ Z E _ A (R.sat_mono (R.sat_bind.mp h) (fun d ρ1 he k v H1 E1 p1 t1 s1 => ?_) fun c xs ρ1 k => k)
    refine hb.run σ H1 ρ1 Z E1 _ p1.1 (R.sat_mono (R.sat_bind.mp k) (fun e ρ2 he2 k2 vs H2 E2 A2 r2 t2 s2 => ?_) fun c xs ρ2 k2 cls dd H2 E2 x A2 t2 => k2 cls dd H2 E2 x A2 (t1.trans t2 fun _ h => h))
    exact k2 (v :: vs) H2 E2 A2 (RepL.cons0 (Rep.keep (t2.kp p1.1.ki fun _ h => nomatch h) p1.2) r2) (t1.trans t2 fun _ h => h) fun hp => (s1 (and_l hp)).trans (s2 (and_r hp))
theorem same_upd {H : Hp} {p : Addr} {o : HO} (hp : H p = none) : Same H (upd H p o) := fun a u h => by rw [upd_ne (ne_of_none h hp)]; exact h
theorem Tr.of_same {Z E E' : Addr → Prop} {H H' : Hp} (s : Same H H') (e : ∀ a, E' a → E a ∨ H a = none) : Tr Z H E H' E' := ⟨fun a o h _ => s a o h, e⟩
theorem line1000 {n : Nat} (h : n ≤ 1000) : n ≤ sizeLine := Nat.le_trans h (by rw [sizeLine_eq]; decide)
/-- a new tuple -/
theorem post_tup {Z E : Addr → Prop} {ρ : Env} {σ : L2.St} {H : Hp} {ds : List D} {vs : List V} {p : Addr} (A : EnvAt g Z E ρ σ H) (r : RepL g H E ds vs []) (hp : H p = none) : Post .S g Z E ρ σ (upd H p (.tup vs)) (.tup ds) (.ref p) := by
  have s := same_upd (o := .tup vs) hp
  refine ⟨A.same s, ?_⟩
  unfold Rep
  exact ⟨p, vs, rfl, .inl upd_same, r.keep (Kp.same s fun a h => .inl h)⟩
/-- a new list -/
theorem post_lst {Z E : Addr → Prop} {ρ : Env} {σ : L2.St} {H : Hp} {ds : List D} {vs : List V} {p : Addr} (A : EnvAt g Z E ρ σ H) (r : RepL g H E ds vs []) (hp : H p = none) : Post .T g Z (more [p] E) ρ σ (upd H p (.lst vs)) (.lst true ds) (.ref p) ∧ Tr Z H E (upd H p (.lst vs)) (more [p] E) := by
  have s := same_upd (o := .lst vs) hp
  have e : ∀ a, more [p] E a → E a ∨ H a = none := fun a h => by
    rcases h with h | h
    · rw [List.mem_singleton.mp h]; exact .inr hp
    · exact .inl h
  refine ⟨⟨[p], A.new hp s ⟨_, upd_same, rfl⟩, ⟨p, vs, rfl, upd_same, rfl, r.keep (Kp.same s e)⟩, fun a h z => ?_⟩, Tr.of_same s e⟩
  rw [List.mem_singleton.mp h] at z
  exact mutAt_ne (A.ki p (A.zE p z)) hp
theorem post_dic {Z E : Addr → Prop} {ρ : Env} {σ : L2.St} {H : Hp} {p : Addr} (A : EnvAt g Z E ρ σ H) (hp : H p = none) : Post .T g Z (more [p] E) ρ σ (upd H p (.dK [])) (.dic true [] []) (.ref p) ∧ Tr Z H E (upd H p (.dK [])) (more [p] E) := by
  have s := same_upd (o := .dK []) hp
  have e : ∀ a, more [p] E a → E a ∨ H a = none := fun a h => by
    rcases h with h | h
    · rw [List.mem_singleton.mp h]; exact .inr hp
    · exact .inl h
  refine ⟨⟨[p], A.new hp s ⟨_, upd_same, rfl⟩, ⟨p, [], rfl, upd_same, ⟨rfl, List.nodup_nil⟩, rfl, RepL.nil⟩, fun a h z => ?_⟩, Tr.of_same s e⟩
  rw [List.mem_singleton.mp h] at z
  exact mutAt_ne (A.ki p (A.zE p z)) hp
def dTup (a : Env → R (List D)) : Env → R D := fun ρ => (a ρ).bind fun ds ρ1 => .ok (.tup ds) ρ1
def dLst (a : Env → R (List D)) : Env → R D := fun ρ => (a ρ).bind fun ds ρ1 => .ok (.lst true ds) ρ1
theorem snd_tup {ta : TA} {pa : Bool} {n : Nat} {da : Env → R (List D)} (ha : SndA g W pa n ta da) (hn : n ≤ 1000 := by decide) : SndE g W pa .S (tTup ta) (dTup da) := by
  refine ⟨fun hp ρ d ρ' h => ?_, fun σ H ρ Z E Q A h => ?_⟩
  · obtain ⟨d1, ρ1, h1, h⟩ := R.bind_ok h
    cases h
    exact ha.pure hp _ _ _ h1
  · refine ha.run σ H ρ Z E _ A (R.sat_mono (R.sat_bind.mp h) (fun ds ρ1 he k vs H1 E1 A1 r1 t1 s1 => ⟨line1000 (by rw [r1.len, ha.len _ _ _ he]; exact hn), fun p hp => ?_⟩) fun c xs ρ1 k => k)
    exact k _ _ E1 (post_tup A1 r1 hp) (t1.trans (Tr.of_same (same_upd hp) fun a h => .inl h) fun _ h => h) fun q => (s1 q).trans (same_upd hp)
theorem snd_lst {ta : TA} {pa : Bool} {n : Nat} {da : Env → R (List D)} (ha : SndA g W pa n ta da) (hn : n ≤ 1000 := by decide) : SndE g W pa .T (tLst ta) (dLst da) := by
  refine ⟨fun hp ρ d ρ' h => ?_, fun σ H ρ Z E Q A h => ?_⟩
  · obtain ⟨d1, ρ1, h1, h⟩ := R.bind_ok h
    cases h
    exact ha.pure hp _ _ _ h1
  · refine ha.run σ H ρ Z E _ A (R.sat_mono (R.sat_bind.mp h) (fun ds ρ1 he k vs H1 E1 A1 r1 t1 s1 => ⟨line1000 (by rw [r1.len, ha.len _ _ _ he]; exact hn), fun p hp => ?_⟩) fun c xs ρ1 k => k)
    obtain ⟨a, b⟩ := post_lst A1 r1 hp
    exact k _ _ _ a (t1.trans b fun _ h => h) fun q => (s1 q).trans (same_upd hp)
def dDic : Env → R D := fun ρ => .ok (.dic true [] []) ρ
theorem snd_dic : SndE g W true .T tDNewK dDic := by
  refine ⟨fun _ ρ d ρ' h => by cases h; rfl, fun σ H ρ Z E Q A h => fun p hp => ?_⟩
  obtain ⟨a, b⟩ := post_dic A hp
  exact h _ _ _ a b fun _ => same_upd hp

/-! ### o[i] -/
def toKey : D → Option Key
  | .int i => some (.inl i)
  | .str s => some (.inr s)
  | _ => none
def dicGet : List Key → List D → Key → Option D
  | k' :: ks, d :: ds, k => if k' = k then some d else dicGet ks ds k
  | _, _, _ => none
theorem dicGet_val {H : Hp} {E : Addr → Prop} : ∀ {ks : List Key} {ds : List D} {vs : List V} {k : Key}, ks.length = vs.length → RepL g H E ds vs [] →
    (match dicGet ks ds k with | some d => ∃ v, valV (ks.zip vs) k = some v ∧ Rep g H E d v [] | none => valV (ks.zip vs) k = none)
  | [], ds, vs, k, hl, r => by
    have e : dicGet [] ds k = none := by unfold dicGet; rfl
    rw [e]
    rfl
  | k' :: ks, [], vs, k, hl, r => by
    have := r.len
    have e : vs = [] := List.length_eq_zero_iff.mp this
    subst e
    cases hl
  | k' :: ks, d :: ds, vs, k, hl, r => by
    obtain ⟨v, vr, rfl, r1, r2⟩ := r.uncons
    unfold dicGet
    by_cases e : k' = k
    · rw [if_pos e]
      exact ⟨v, valV_pos (p := (k', v)) e, r1⟩
    · rw [if_neg e]
      have ih := dicGet_val (k := k) (Nat.succ.inj hl) r2
      have e2 : valV ((k' :: ks).zip (v :: vr)) k = valV (ks.zip vr) k := valV_neg (p := (k', v)) e
      rw [e2]
      exact ih
def fIx : D → D → P D
  | .lst _ ds, .int i => match atI ds i with | some d => .ok d | none => .stk
  | .tup ds, .int i => match atI ds i with | some d => .ok d | none => .stk
  | .str s, .int i => match atI s.cps.toList i with | some c => if s.length ≤ sizeLine then .ok (.str ⟨#[c]⟩) else .stk | none => .stk
  | .dic _ ks ds, e => match toKey e with
    | some k => (match dicGet ks ds k with | some d => .ok d | none => .stk)
    | none => .stk
  | _, _ => .stk
def rIxA (K : PySem.W.Frag) : R2 := fun x y H Q => rIxL K x y H Q ∨ rIxT K x y H Q ∨ rIxS x y H Q ∨ ∃ a v, x = .ref a ∧ DGet H a y (some v) ∧ Q v H
theorem ix_dict {X : Cx} (hu : X.A.units + 1 < cLine) : IxR X (fun x y H Q => ∃ a v, x = .ref a ∧ DGet H a y (some v) ∧ Q v H) := by
  intro value slice pins s σ H x y v u Q I rx ry h hs
  obtain ⟨a, w, rfl, gg, q⟩ := h
  cases (show v = Value.ref a from rx)
  exact tail_any (dict_typeIs I gg) PySem.F.slot_dict_getitem.lookup (d_getItem hu I gg ry fun w' s' I' r => ⟨w, H, I', r, q⟩) hs
theorem ix_any {X : Cx} (hu : X.A.units + 1 < cLine) : IxR X (rIxA X.K) := ix_list.or (ix_tup.or (ix_str.or (ix_dict hu)))
theorem RepL.atI {H : Hp} {E : Addr → Prop} {ds : List D} {vs : List V} {i : Int} {d : D} (r : RepL g H E ds vs []) (h : L2.atI ds i = some d) : ∃ v, L2.atI vs i = some v ∧ Rep g H E d v [] := by
  unfold L2.atI at h ⊢
  rw [r.len]
  cases q : ixN ds.length i with
  | none => rw [q] at h; cases h
  | some j =>
    rw [q] at h
    exact r.get h
theorem rep1_tup {H : Hp} {E : Addr → Prop} {ds : List D} {v : V} (h : Rep1 g H E (.tup ds) v) : ∃ a vs, v = .ref a ∧ SqT g.K H a vs ∧ RepL g H E ds vs [] := by unfold Rep1 Rep at h; obtain ⟨a, vs, e, h1, h2⟩ := h; exact ⟨a, vs, e, .inl h1, h2⟩
theorem rep1_tupR {H : Hp} {E : Addr → Prop} {ds : List D} {v : V} (h : Rep1 g H E (.tup ds) v) : ∃ a vs, v = .ref a ∧ Rd H a (.tup vs) ∧ RepL g H E ds vs [] := by unfold Rep1 Rep at h; exact h
theorem toKey_rep {H : Hp} {E : Addr → Prop} {e : D} {k : Key} {y : V} (h : toKey e = some k) (r : Rep1 g H E e y) : y = kV k := by
  cases e with
  | int i => cases h; exact rep1_int r
  | str i => cases h; exact rep1_str r
  | _ => cases h
theorem snd_fIx : OpSnd g W .S (rIxA g.K) fIx := by
  intro σ H ρ Z E x y d e Q A hx hy k
  unfold fIx at k
  split at k
  · rename_i o ds i
    split at k
    · rename_i d' q
      obtain ⟨a, vs, rfl, h1, r⟩ := hx
      obtain ⟨v, a1, a2⟩ := r.atI q
      exact .inl ⟨a, vs, i, v, rfl, rep1_int hy, SqL.of h1, a1, k v H E ⟨A, a2⟩ Tr.refl (Same.refl H)⟩
    · exact k.elim
  · rename_i ds i
    split at k
    · rename_i d' q
      obtain ⟨a, vs, rfl, h1, r⟩ := rep1_tup hx
      obtain ⟨v, a1, a2⟩ := r.atI q
      exact .inr (.inl ⟨a, vs, i, v, rfl, rep1_int hy, h1, a1, k v H E ⟨A, a2⟩ Tr.refl (Same.refl H)⟩)
    · exact k.elim
  · rename_i s i
    split at k
    · rename_i c q
      split at k
      · rename_i hl
        exact .inr (.inr (.inl ⟨s, i, c, rep1_str hx, rep1_int hy, hl, q, k _ H E ⟨A, rep_str _⟩ Tr.refl (Same.refl H)⟩))
      · exact k.elim
    · exact k.elim
  · rename_i o ks ds e
    split at k
    · rename_i kk q
      obtain ⟨a, vs, rfl, h1, hl, r⟩ := hx
      have z := dicGet_val (k := kk) hl.len r
      split at k
      · rename_i d' q'
        rw [q'] at z
        obtain ⟨v, a1, a2⟩ := z
        exact .inr (.inr (.inr ⟨a, v, rfl, .inl ⟨_, kk, h1, toKey_rep q hy, a1.symm⟩, k v H E ⟨A, a2⟩ Tr.refl (Same.refl H)⟩))
      · exact k.elim
    · exact k.elim
  · exact k.elim

/-! ### slices -/
def tPartD (a : Env → R D) : Env → R (Option Int) := fun ρ => (a ρ).bind fun d ρ1 => match d with
  | .int i => .ok (some i) ρ1
  | _ => .stk
def dNoPart : Env → R (Option Int) := fun ρ => .ok none ρ
structure SndO (g : Gx) (W : WX) (t0 : TO) (t : Env → R (Option Int)) : Prop where
  pure : ∀ ρ d ρ', t ρ = .ok d ρ' → ρ' = ρ
  run : ∀ (σ : L2.St) (H : Hp) (ρ : Env) (Z E : Addr → Prop) (Q : Option Int → Hp → Prop), EnvAt g Z E ρ σ H →
    (t ρ).sat (fun b ρ' => ∀ H' E', EnvAt g Z E' ρ' σ H' → Tr Z H E H' E' → Same H H' → Q b H')
      (fun c xs ρ' => ∀ cls dd H' E', ExcAt g H' E' c xs cls dd → EnvAt g Z E' ρ' σ H' → Tr Z H E H' E' → W cls dd σ H') → t0 σ H Q
theorem snd_noPart : SndO g W tNoPart dNoPart := ⟨fun ρ d ρ' h => by cases h; rfl, fun σ H ρ Z E Q A h => h H E A Tr.refl (Same.refl H)⟩
theorem snd_part {te : TE} {ma : Md} {da : Env → R D} (ha : SndE g W true ma te da) (oa : SQ ma) : SndO g W (tPart te) (tPartD da) := by
  refine ⟨fun ρ d ρ' h => ?_, fun σ H ρ Z E Q A h => ?_⟩
  · obtain ⟨d1, ρ1, h1, h⟩ := R.bind_ok h
    split at h
    · cases h; exact ha.pure rfl _ _ _ h1
    · cases h
  · refine ha.run σ H ρ Z E _ A (R.sat_mono (R.sat_bind.mp h) (fun d ρ1 he k v H1 E1 p1 t1 s1 => ?_) fun c xs ρ1 k => k)
    split at k
    · rename_i i
      exact ⟨i, rep1_int (p1.rep1 oa), k H1 E1 (p1.env oa) t1 (s1 rfl)⟩
    · exact k.elim
def cutD (xs : List D) (lo hi : Option Int) : List D := (xs.drop (HT.sIx xs.length 0 lo)).take (HT.sIx xs.length xs.length hi - HT.sIx xs.length 0 lo)
theorem RepL.cut {H : Hp} {E : Addr → Prop} {ds : List D} {vs : List V} (r : RepL g H E ds vs []) (lo hi : Option Int) : RepL g H E (cutD ds lo hi) (cutV vs lo hi) [] := by
  unfold cutD cutV
  rw [r.len]
  exact (r.drop _).take _
def fSl (d : D) (lo hi : Option Int) : P D := match d with
  | .lst _ ds => .ok (.lst true (cutD ds lo hi))
  | .tup ds => .ok (.tup (cutD ds lo hi))
  | .str s => if s.length ≤ sizeLine then .ok (.str (cutS s lo hi)) else .stk
  | .scr ns => .ok (.lst true (cutD (ns.map .int) lo hi))
  | _ => .stk
def dSl (a : Env → R D) (l h : Env → R (Option Int)) : Env → R D := fun ρ => (a ρ).bind fun d ρ1 => (l ρ1).bind fun lo ρ2 => (h ρ2).bind fun hi ρ3 => (fSl d lo hi).at ρ3
def rSlAny (K : PySem.W.Frag) : V → Option Int → Option Int → Hp → VK → Prop := fun x lo hi H Q => rSlL K x lo hi H Q ∨ rSlA K x lo hi H Q ∨ rSlS x lo hi H Q
theorem sl_any {X : Cx} : SlR X (rSlAny X.K) := sl_list.or (sl_tupA.or sl_str)
theorem cutV_whole {vs : List V} {lo hi : Option Int} (h : HT.sIx vs.length 0 lo = 0 ∧ HT.sIx vs.length vs.length hi = vs.length) : cutV vs lo hi = vs := by
  unfold cutV
  rw [h.1, h.2]
  simp
theorem repL_ints {H : Hp} {E : Addr → Prop} : ∀ ns : List Int, RepL g H E (ns.map .int) (ns.map V.int) []
  | [] => RepL.nil
  | n :: ns => RepL.cons0 (rep_int n) (repL_ints ns)
theorem snd_sl {te : TE} {tl th : TO} {pa : Bool} {ma : Md} {da : Env → R D} {dl dh : Env → R (Option Int)} (ha : SndE g W pa ma te da) (oa : SQ ma) (hl : SndO g W tl dl) (hh : SndO g W th dh) : SndE g W pa .T (tSl (rSlAny g.K) te tl th) (dSl da dl dh) := by
  refine ⟨fun hp ρ d ρ' h => ?_, fun σ H ρ Z E Q A h => ?_⟩
  · obtain ⟨d1, ρ1, h1, h⟩ := R.bind_ok h
    obtain ⟨d2, ρ2, h2, h⟩ := R.bind_ok h
    obtain ⟨d3, ρ3, h3, h⟩ := R.bind_ok h
    rw [(P.at_ok h).2, hh.pure _ _ _ h3, hl.pure _ _ _ h2, ha.pure hp _ _ _ h1]
  · refine ha.run σ H ρ Z E _ A (R.sat_mono (R.sat_bind.mp h) (fun d ρ1 he k v H1 E1 p1 t1 s1 => ?_) fun c xs ρ1 k => k)
    refine hl.run σ H1 ρ1 Z E1 _ (p1.env oa) (R.sat_mono (R.sat_bind.mp k) (fun lo ρ2 he2 k2 H2 E2 A2 t2 s2 => ?_) fun c xs ρ2 k2 cls dd H2 E2 x A2 t2 => k2 cls dd H2 E2 x A2 (t1.trans t2 fun _ h => h))
    have t12 := t1.trans t2 fun _ h => h
    refine hh.run σ H2 ρ2 Z E2 _ A2 (R.sat_mono (R.sat_bind.mp k2) (fun hi ρ3 he3 k3 H3 E3 A3 t3 s3 => ?_) fun c xs ρ2 k2 cls dd H2 E2 x A2 t2 => k2 cls dd H2 E2 x A2 (t12.trans t2 fun _ h => h))
    have t13 := t12.trans t3 fun _ h => h
    have k3 := P.sat_at.mp k3
    have r1 : Rep1 g H3 E3 d v := Rep1.same (s2.trans s3) (t2.trans t3 fun _ h => h).e (p1.rep1 oa)
    have S1 : pa = true → Same H H3 := fun hp => ((s1 hp).trans s2).trans s3
    unfold fSl at k3
    split at k3
    · obtain ⟨a, vs, rfl, h1, r⟩ := r1
      refine .inl ⟨a, vs, rfl, SqL.of h1, fun p hp => ?_⟩
      obtain ⟨a1, b1⟩ := post_lst A3 (r.cut lo hi) hp
      exact k3 _ _ _ a1 (t13.trans b1 fun _ h => h) fun hp' => (S1 hp').trans (same_upd hp)
    · obtain ⟨a, vs, rfl, h1, r⟩ := rep1_tupR r1
      refine .inr (.inl ⟨a, vs, rfl, .inl h1, fun w => ?_, fun w p hp => ?_⟩)
      · have r' := r.cut lo hi
        rw [cutV_whole w] at r'
        exact k3 _ H3 E3 (Post.toT ⟨A3, by unfold Rep; exact ⟨a, vs, rfl, h1, r'⟩⟩) t13 S1
      · exact k3 _ _ E3 (Post.toT (post_tup A3 (r.cut lo hi) hp)) (t13.trans (Tr.of_same (same_upd hp) fun a h => .inl h) fun _ h => h) fun hp' => (S1 hp').trans (same_upd hp)
    · split at k3
      · rename_i s _k q
        exact .inr (.inr ⟨s, rep1_str r1, q, k3 _ H3 E3 (Post.toT ⟨A3, rep_str _⟩) t13 S1⟩)
      · exact k3.elim
    · rename_i ns _k
      have r2 := r1
      unfold Rep1 Rep at r2
      obtain ⟨a, rfl, h1, _⟩ := r2
      refine .inl ⟨a, ns.map V.int, rfl, ?_, fun p hp => ?_⟩
      · rcases h1 with h1 | h1
        · exact .inl (.inr h1)
        · exact .inr h1
      · obtain ⟨a1, b1⟩ := post_lst A3 ((repL_ints (g := g) (H := H3) (E := E3) ns).cut lo hi) hp
        exact k3 _ _ _ a1 (t13.trans b1 fun _ h => h) fun hp' => (S1 hp').trans (same_upd hp)
    · exact k3.elim
end
end DL
/-! DL6 -/
set_option Elab.async false
set_option linter.all false
set_option maxRecDepth 100000
set_option maxHeartbeats 1000000
namespace DL
open PySem PySem.Spec PyProof.Rows L2

/-! ### what is lent is not found again -/
mutual
/-- no part of d can be the top of b; classes told apart by name -/
def nofS (b : D) : D → Bool
  | .tup ds => nofL b ds
  | .lst _ ds => (match b with | .lst _ _ => false | _ => true) && nofL b ds
  | .dic _ _ ds => (match b with | .dic _ _ _ => false | _ => true) && nofL b ds
  | .ins _ c _ ds => (match b with | .ins _ c' _ _ => decide (c' ≠ c) | _ => true) && nofL b ds
  | _ => true
def nofL (b : D) : List D → Bool
  | [] => true
  | d :: ds => nofS b d && nofL b ds
end
def TopAt (g : Gx) (H : Hp) (p : Addr) : D → Prop
  | .lst _ _ => ∃ vs, H p = some (.lst vs)
  | .dic _ _ _ => ∃ kvs, Rd H p (.dK kvs)
  | .ins _ c _ _ => ∃ dx fs, H p = some (.ins (g.cl c) dx fs)
  | _ => False
section
variable {g : Gx} {H : Hp} {E : Addr → Prop} {p : Addr} {b : D} {cs : List Str}
def ClsApart (g : Gx) (cs : List Str) : Prop := ∀ c c', c ∈ cs → c' ∈ cs → c ≠ c' → g.cl c ≠ g.cl c'
mutual
/-- all class names are among these -/
def clsIn (cs : List Str) : D → Bool
  | .tup ds => clsInL cs ds
  | .lst _ ds => clsInL cs ds
  | .dic _ _ ds => clsInL cs ds
  | .ins _ c _ ds => decide (c ∈ cs) && clsInL cs ds
  | .err _ _ => false
  | _ => true
def clsInL (cs : List Str) : List D → Bool
  | [] => true
  | d :: ds => clsIn cs d && clsInL cs ds
end
theorem rd_lst {vs : List V} {kvs : List (Key × V)} (h : H p = some (.lst vs)) (h' : Rd H p (.dK kvs)) : False := by
  rcases h' with h' | ⟨o, h'⟩ <;> (rw [h] at h'; cases h')
theorem rd_ins {C dx : Addr} {fs : List (Str × V)} {kvs : List (Key × V)} (h : H p = some (.ins C dx fs)) (h' : Rd H p (.dK kvs)) : False := by
  rcases h' with h' | ⟨o, h'⟩ <;> (rw [h] at h'; cases h')
mutual
theorem Rep.avoid (ap : ClsApart g cs) (tp : TopAt g H p b) (hb : ∀ o c f x, b = .ins o c f x → c ∈ cs) : ∀ {d : D} {v : V} {F : List Addr}, Rep g H E d v F → nofS b d = true → clsIn cs d = true → Rep g H (fun a => E a ∨ a = p) d v F
  | .non, v, F, h, _, _ => by unfold Rep at h ⊢; exact h
  | .bl _, v, F, h, _, _ => by unfold Rep at h ⊢; exact h
  | .int _, v, F, h, _, _ => by unfold Rep at h ⊢; exact h
  | .str _, v, F, h, _, _ => by unfold Rep at h ⊢; exact h
  | .fn _, v, F, h, _, _ => by unfold Rep at h ⊢; exact h
  | .err _ _, v, F, h, _, q => by unfold clsIn at q; cases q
  | .scr _, v, F, h, _, _ => by unfold Rep at h ⊢; exact h
  | .tup ds, v, F, h, n, cc => by
    unfold Rep at h ⊢
    unfold nofS at n
    unfold clsIn at cc
    obtain ⟨a, vs, e, h1, h2⟩ := h
    exact ⟨a, vs, e, h1, RepL.avoid ap tp hb h2 n cc⟩
  | .lst true ds, v, F, h, n, cc => by
    unfold Rep at h ⊢
    unfold nofS at n
    unfold clsIn at cc
    obtain ⟨a, vs, F1, e, h1, h2, h3⟩ := h
    exact ⟨a, vs, F1, e, h1, h2, RepL.avoid ap tp hb h3 (and_r n) cc⟩
  | .lst false ds, v, F, h, n, cc => by
    unfold Rep at h ⊢
    unfold nofS at n
    unfold clsIn at cc
    obtain ⟨a, vs, e, h1, ne, f, h3⟩ := h
    refine ⟨a, vs, e, h1, ?_, f, RepL.avoid ap tp hb h3 (and_r n) cc⟩
    rintro (z | z)
    · exact ne z
    · subst z
      have n1 := and_l n
      cases b with
      | lst _ _ => cases n1
      | dic _ _ _ => obtain ⟨kvs, q⟩ := tp; exact rd_lst h1 q
      | ins _ c _ _ => obtain ⟨dx, fs, q⟩ := tp; rw [h1] at q; cases q
      | _ => exact tp.elim
  | .dic true ks ds, v, F, h, n, cc => by
    unfold Rep at h ⊢
    unfold nofS at n
    unfold clsIn at cc
    obtain ⟨a, vs, F1, e, h1, hl, h2, h3⟩ := h
    exact ⟨a, vs, F1, e, h1, hl, h2, RepL.avoid ap tp hb h3 (and_r n) cc⟩
  | .dic false ks ds, v, F, h, n, cc => by
    unfold Rep at h ⊢
    unfold nofS at n
    unfold clsIn at cc
    obtain ⟨a, vs, e, h1, hl, ne, f, h3⟩ := h
    refine ⟨a, vs, e, h1, hl, ?_, f, RepL.avoid ap tp hb h3 (and_r n) cc⟩
    rintro (z | z)
    · exact ne z
    · subst z
      have n1 := and_l n
      cases b with
      | lst _ _ => obtain ⟨vs', q⟩ := tp; exact rd_lst q h1
      | dic _ _ _ => cases n1
      | ins _ c _ _ => obtain ⟨dx, fs, q⟩ := tp; exact rd_ins q h1
      | _ => exact tp.elim
  | .ins true c fs ds, v, F, h, n, cc => by
    unfold Rep at h ⊢
    unfold nofS at n
    unfold clsIn at cc
    obtain ⟨a, dx, vs, F1, e, h1, hl, h2, h3⟩ := h
    exact ⟨a, dx, vs, F1, e, h1, hl, h2, RepL.avoid ap tp hb h3 (and_r n) (and_r cc)⟩
  | .ins false c fs ds, v, F, h, n, cc => by
    unfold Rep at h ⊢
    unfold nofS at n
    unfold clsIn at cc
    obtain ⟨a, dx, vs, e, h1, hl, ne, f, h3⟩ := h
    refine ⟨a, dx, vs, e, h1, hl, ?_, f, RepL.avoid ap tp hb h3 (and_r n) (and_r cc)⟩
    rintro (z | z)
    · exact ne z
    · subst z
      have n1 := and_l n
      cases b with
      | lst _ _ => obtain ⟨vs', q⟩ := tp; rw [h1] at q; cases q
      | dic _ _ _ => obtain ⟨kvs, q⟩ := tp; exact rd_ins h1 q
      | ins _ c' _ _ =>
        obtain ⟨dx', fs', q⟩ := tp
        rw [h1] at q
        have q1 := (HO.ins.inj (Option.some.inj q)).1
        exact ap c c' (of_decide_eq_true (and_l cc)) (hb _ _ _ _ rfl) (fun e => of_decide_eq_true n1 e.symm) q1
      | _ => exact tp.elim
theorem RepL.avoid (ap : ClsApart g cs) (tp : TopAt g H p b) (hb : ∀ o c f x, b = .ins o c f x → c ∈ cs) : ∀ {ds : List D} {vs : List V} {F : List Addr}, RepL g H E ds vs F → nofL b ds = true → clsInL cs ds = true → RepL g H (fun a => E a ∨ a = p) ds vs F
  | [], vs, F, h, _, _ => by unfold RepL at h ⊢; exact h
  | d :: ds, vs, F, h, n, cc => by
    unfold RepL at h ⊢
    unfold nofL at n
    unfold clsInL at cc
    obtain ⟨v, r, F1, F2, e1, e2, h1, h2⟩ := h
    exact ⟨v, r, F1, F2, e1, e2, Rep.avoid ap tp hb h1 (and_l n) (and_l cc), RepL.avoid ap tp hb h2 (and_r n) (and_r cc)⟩
end
end
end DL
/-! DL7 -/
set_option Elab.async false
set_option linter.all false
set_option maxRecDepth 100000
set_option maxHeartbeats 1000000
namespace DL
open PySem PySem.Spec PyProof.Rows L2

/-- an argument that stands ready: a value; a name that is lent to be read; a name that may be changed -/
inductive Pre where
  | v (d : D)
  | q (i : Nat)
  | io (i : Nat)
def PreRep (g : Gx) (H : Hp) (E : Addr → Prop) (σ : List (Option V)) : Pre → V → Prop
  | .v d, x => Rep g H E d x []
  | .q i, x => σ[i]? = some (some x)
  | .io i, x => σ[i]? = some (some x)
def PreL (g : Gx) (H : Hp) (E : Addr → Prop) (σ : List (Option V)) : List Pre → List V → Prop
  | [], vs => vs = []
  | p :: ps, vs => ∃ v r, vs = v :: r ∧ PreRep g H E σ p v ∧ PreL g H E σ ps r
theorem PreL.get {g : Gx} {H : Hp} {E : Addr → Prop} {σ : List (Option V)} : ∀ {ps : List Pre} {vs : List V} {k : Nat} {p : Pre}, PreL g H E σ ps vs → ps[k]? = some p → ∃ v, vs[k]? = some v ∧ PreRep g H E σ p v
  | [], vs, k, p, h, q => by simp at q
  | p :: ps, vs, k, p', h, q => by
    obtain ⟨v, r, rfl, h1, h2⟩ := h
    cases k with
    | zero => simp at q; subst q; exact ⟨v, rfl, h1⟩
    | succ k =>
      obtain ⟨v', a, b⟩ := PreL.get (k := k) h2 (by simpa using q)
      exact ⟨v', by simpa using a, b⟩
theorem PreL.len {g : Gx} {H : Hp} {E : Addr → Prop} {σ : List (Option V)} : ∀ {ps : List Pre} {vs : List V}, PreL g H E σ ps vs → vs.length = ps.length
  | [], vs, h => by rw [show vs = [] from h]; rfl
  | p :: ps, vs, h => by
    obtain ⟨v, r, rfl, h1, h2⟩ := h
    rw [List.length_cons, List.length_cons, PreL.len h2]
theorem PreL.keep {g : Gx} {H H' : Hp} {E E' : Addr → Prop} {σ : List (Option V)} (x : Kp H E H' E' []) : ∀ {ps : List Pre} {vs : List V}, PreL g H E σ ps vs → PreL g H' E' σ ps vs
  | [], vs, h => h
  | p :: ps, vs, h => by
    obtain ⟨v, r, rfl, h1, h2⟩ := h
    refine ⟨v, r, rfl, ?_, PreL.keep x h2⟩
    cases p with
    | v d => exact Rep.keep x h1
    | q i => exact h1
    | io i => exact h1
def preSlot (ρ : Env) : Pre → Option Slot
  | .v d => some (.sh d)
  | .q i => match ρ[i]? with
    | some (some (.sh d)) => some (.sh d)
    | some (some (.dp d)) => if noOwn (frzTop d) = true then some (.sh (frzTop d)) else none
    | _ => none
  | .io i => match ρ[i]? with
    | some (some s) => some s
    | _ => none
def preEnv (ρ : Env) : List Pre → Option Env
  | [] => some []
  | p :: ps => match preSlot ρ p, preEnv ρ ps with
    | some s, some r => some (some s :: r)
    | _, _ => none
theorem preEnv_get {ρ : Env} : ∀ {ps : List Pre} {ρa : Env} {k : Nat} {p : Pre}, preEnv ρ ps = some ρa → ps[k]? = some p → ∃ s, preSlot ρ p = some s ∧ ρa[k]? = some (some s)
  | [], ρa, k, p, h, q => by simp at q
  | p :: ps, ρa, k, p', h, q => by
    unfold preEnv at h
    cases e1 : preSlot ρ p with
    | none => rw [e1] at h; cases h
    | some s =>
      cases e2 : preEnv ρ ps with
      | none => rw [e1, e2] at h; cases h
      | some r =>
        rw [e1, e2] at h
        cases h
        cases k with
        | zero => simp at q; subst q; exact ⟨s, e1, rfl⟩
        | succ k =>
          obtain ⟨s', a, b⟩ := preEnv_get (k := k) e2 (by simpa using q)
          exact ⟨s', a, by simpa using b⟩
theorem preEnv_len {ρ : Env} : ∀ {ps : List Pre} {ρa : Env}, preEnv ρ ps = some ρa → ρa.length = ps.length
  | [], ρa, h => by cases h; rfl
  | p :: ps, ρa, h => by
    unfold preEnv at h
    cases e1 : preSlot ρ p with
    | none => rw [e1] at h; cases h
    | some s =>
      cases e2 : preEnv ρ ps with
      | none => rw [e1, e2] at h; cases h
      | some r =>
        rw [e1, e2] at h
        cases h
        rw [List.length_cons, List.length_cons, preEnv_len e2]
def usesIo (i : Nat) : Pre → Bool
  | .io j => decide (j = i)
  | _ => false
def uses (i : Nat) : Pre → Bool
  | .io j => decide (j = i)
  | .q j => decide (j = i)
  | _ => false
/-- no name that may be changed is named twice -/
def ioOk : List Pre → Bool
  | [] => true
  | .v _ :: r => ioOk r
  | .q i :: r => r.all (fun p => !usesIo i p) && ioOk r
  | .io i :: r => r.all (fun p => !uses i p) && ioOk r
theorem ioOk_one : ∀ {ps : List Pre} {k k' i : Nat} {p : Pre}, ioOk ps = true → ps[k]? = some (.io i) → ps[k']? = some p → uses i p = true → k = k'
  | [], k, k', i, p, h, q, q', u => by simp at q
  | p0 :: ps, k, k', i, p, h, q, q', u => by
    have hr : ioOk ps = true := by
      cases p0 with
      | v d => exact h
      | q j => exact and_r h
      | io j => exact and_r h
    cases k with
    | zero =>
      cases k' with
      | zero => rfl
      | succ k' =>
        simp at q
        subst q
        have h1 := and_l (show (ps.all (fun p => !uses i p) && ioOk ps) = true from h)
        have h2 := List.all_eq_true.mp h1 p (List.mem_of_getElem? (by simpa using q'))
        rw [u] at h2
        cases h2
    | succ k =>
      cases k' with
      | zero =>
        simp at q'
        subst q'
        have hm : Pre.io i ∈ ps := List.mem_of_getElem? (by simpa using q)
        cases p0 with
        | v d => cases u
        | q j =>
          have h1 := and_l (show (ps.all (fun p => !usesIo j p) && ioOk ps) = true from h)
          have h2 := List.all_eq_true.mp h1 _ hm
          have e : j = i := of_decide_eq_true u
          subst e
          unfold usesIo at h2
          simp at h2
        | io j =>
          have h1 := and_l (show (ps.all (fun p => !uses j p) && ioOk ps) = true from h)
          have h2 := List.all_eq_true.mp h1 _ hm
          have e : j = i := of_decide_eq_true u
          subst e
          unfold uses at h2
          simp at h2
      | succ k' => exact congrArg (· + 1) (ioOk_one hr (by simpa using q) (by simpa using q') u)
/-- the names behind the call -/
def postEnv (ρ : Env) : List Pre → Env → Option Env
  | [], _ => some ρ
  | .io i :: pre, s :: ρ' => match ρ[i]?, s with
    | some (some (.dp _)), some (.dp d) => postEnv (ρ.set i (some (.dp d))) pre ρ'
    | some (some (.sh _)), _ => postEnv ρ pre ρ'
    | _, _ => none
  | .v _ :: pre, _ :: ρ' => postEnv ρ pre ρ'
  | .q _ :: pre, _ :: ρ' => postEnv ρ pre ρ'
  | _, [] => none
structure PostAt (ρ : Env) (pre : List Pre) (ρ' ρ2 : Env) : Prop where
  len : ρ2.length = ρ.length
  old : ∀ (j : Nat), (∀ (k : Nat), pre[k]? ≠ some (Pre.io j)) → ρ2[j]? = ρ[j]?
  new : ∀ (k i : Nat), pre[k]? = some (Pre.io i) → (∃ d d', ρ[i]? = some (some (Slot.dp d)) ∧ ρ'[k]? = some (some (Slot.dp d')) ∧ ρ2[i]? = some (some (Slot.dp d'))) ∨ ∃ d, ρ[i]? = some (some (Slot.sh d)) ∧ ρ2[i]? = some (some (Slot.sh d))
theorem postEnv_at : ∀ {ρ : Env} {pre : List Pre} {ρ' ρ2 : Env}, ioOk pre = true → postEnv ρ pre ρ' = some ρ2 → PostAt ρ pre ρ' ρ2
  | ρ, [], ρ', ρ2, _, h => by
    unfold postEnv at h
    cases h
    exact ⟨rfl, fun _ _ => rfl, fun k i q => by simp at q⟩
  | ρ, .v d :: pre, s :: ρ', ρ2, ok, h => by
    have r := postEnv_at (pre := pre) ok (show postEnv ρ pre ρ' = some ρ2 from h)
    refine ⟨r.len, fun j hj => r.old j fun k => by simpa using hj (k + 1), fun k i q => ?_⟩
    cases k with
    | zero => simp at q
    | succ k => simpa using r.new k i (by simpa using q)
  | ρ, .q i0 :: pre, s :: ρ', ρ2, ok, h => by
    have r := postEnv_at (pre := pre) (and_r ok) (show postEnv ρ pre ρ' = some ρ2 from h)
    refine ⟨r.len, fun j hj => r.old j fun k => by simpa using hj (k + 1), fun k i q => ?_⟩
    cases k with
    | zero => simp at q
    | succ k => simpa using r.new k i (by simpa using q)
  | ρ, .io i0 :: pre, s :: ρ', ρ2, ok, h => by
    have ok2 : ioOk pre = true := and_r (show (pre.all (fun p => !uses i0 p) && ioOk pre) = true from ok)
    have no : ∀ (k i : Nat), pre[k]? = some (Pre.io i) → i ≠ i0 := fun k i q e => by
      subst e
      have := List.all_eq_true.mp (and_l (show (pre.all (fun p => !uses i p) && ioOk pre) = true from ok)) _ (List.mem_of_getElem? q)
      simp [uses] at this
    unfold postEnv at h
    split at h
    · rename_i d0 d e1
      have r := postEnv_at ok2 h
      have hi := ltOf e1
      refine ⟨by rw [r.len, List.length_set], fun j hj => ?_, fun k i q => ?_⟩
      · rw [r.old j fun k => by simpa using hj (k + 1)]
        have : j ≠ i0 := fun e => hj 0 (by subst e; rfl)
        rw [List.getElem?_set_ne (Ne.symm this)]
      · cases k with
        | zero =>
          simp at q
          subst q
          refine .inl ⟨d0, d, e1, rfl, ?_⟩
          rw [r.old i0 fun k z => no k i0 z rfl, List.getElem?_set_self hi]
        | succ k =>
          have q' : pre[k]? = some (.io i) := by simpa using q
          have ne := no k i q'
          have z := r.new k i q'
          rw [List.getElem?_set_ne (Ne.symm ne)] at z
          simpa using z
    · rename_i d0 e1
      have r := postEnv_at ok2 h
      refine ⟨r.len, fun j hj => r.old j fun k => by simpa using hj (k + 1), fun k i q => ?_⟩
      cases k with
      | zero =>
        simp at q
        subst q
        refine .inr ⟨d0, e1, ?_⟩
        rw [r.old i0 fun k z => no k i0 z rfl, e1]
      | succ k => simpa using r.new k i (by simpa using q)
    · cases h
  | ρ, .v d :: pre, [], ρ2, ok, h => by unfold postEnv at h; cases h
  | ρ, .q d :: pre, [], ρ2, ok, h => by unfold postEnv at h; cases h
  | ρ, .io d :: pre, [], ρ2, ok, h => by unfold postEnv at h; cases h

/-- a def's promise by its mirror -/
def spM (g : Gx) (n : Nat) (md : Md) (m : Env → R D) : Sp := fun vs H Q X => vs.length = n ∧ ∃ (ρ : Env) (Z E : Addr → Prop), EnvAt g Z E ρ (vs.map some) H ∧
  (m ρ).sat (fun d ρ' => ∀ v H' E', Post md g Z E' ρ' (vs.map some) H' d v → Tr Z H E H' E' → Q v H')
    (fun c xs ρ' => ∀ cls dd H' E', ExcAt g H' E' c xs cls dd → EnvAt g Z E' ρ' (vs.map some) H' → Tr Z H E H' E' → X cls dd H')

/-- what is lent -/
def lent (ρ : Env) : List Pre → List D
  | [] => []
  | .q i :: r => match ρ[i]? with
    | some (some (.dp d)) => frzTop d :: lent ρ r
    | _ => lent ρ r
  | _ :: r => lent ρ r
theorem lent_mem {ρ : Env} : ∀ {pre : List Pre} {k i : Nat} {d : D}, pre[k]? = some (.q i) → ρ[i]? = some (some (.dp d)) → frzTop d ∈ lent ρ pre
  | [], k, i, d, h, _ => by simp at h
  | p :: pre, k, i, d, h, e => by
    cases k with
    | zero =>
      simp at h
      subst h
      unfold lent
      rw [e]
      exact List.mem_cons_self
    | succ k =>
      have ih := lent_mem (pre := pre) (k := k) (i := i) (d := d) (by simpa using h) e
      unfold lent
      split
      · rename_i h; cases h
      · rename_i j _ h
        cases h
        split
        · exact List.mem_cons_of_mem _ ih
        · exact ih
      · rename_i h; cases h; exact ih
def slotD : Option Slot → List D
  | some (.sh d) => [d]
  | some (.dp d) => [d]
  | none => []
def topCls (cs : List Str) : D → Bool
  | .ins _ c _ _ => decide (c ∈ cs)
  | _ => true
/-- none of what is lent is in what comes back -/
def backOk (cs : List Str) (bs : List D) (rs : List D) : Bool := bs.all fun b => topCls cs b && rs.all fun r => nofS b r && clsIn cs r
/-- what the callee left in the names that it might change -/
def ioData : List Pre → Env → List D
  | .io _ :: pre, s :: ρ' => (match s with | some (.dp d) => d :: ioData pre ρ' | _ => ioData pre ρ')
  | _ :: pre, _ :: ρ' => ioData pre ρ'
  | _, _ => []
theorem ioData_mem : ∀ {pre : List Pre} {ρ' : Env} {k i : Nat} {d : D}, pre[k]? = some (Pre.io i) → ρ'[k]? = some (some (Slot.dp d)) → d ∈ ioData pre ρ'
  | [], ρ', k, i, d, h, _ => by simp at h
  | p :: pre, [], k, i, d, _, h => by simp at h
  | p :: pre, s :: ρ', k, i, d, h, e => by
    cases k with
    | zero =>
      simp at h e
      subst h e
      unfold ioData
      exact List.mem_cons_self
    | succ k =>
      have ih := ioData_mem (pre := pre) (ρ' := ρ') (k := k) (i := i) (d := d) (by simpa using h) (by simpa using e)
      cases p with
      | v x => exact ih
      | q x => exact ih
      | io x =>
        unfold ioData
        split
        · exact List.mem_cons_of_mem _ ih
        · exact ih
end DL
/-! DL8 -/
set_option Elab.async false
set_option linter.all false
set_option maxRecDepth 100000
set_option maxHeartbeats 1000000
namespace DL
open PySem PySem.Spec PyProof.Rows L2

/-! ### into a call and out of it -/
def lentF (Fs : Nat → List Addr) (pre : List Pre) (a : Addr) : Prop := ∃ (k i : Nat), pre[k]? = some (Pre.q i) ∧ a ∈ Fs i
def ioF (Fs : Nat → List Addr) (pre : List Pre) (a : Addr) : Prop := ∃ (k i : Nat), pre[k]? = some (Pre.io i) ∧ a ∈ Fs i
def eCall (E : Addr → Prop) (Fs : Nat → List Addr) (pre : List Pre) (a : Addr) : Prop := E a ∧ ¬ lentF Fs pre a
def zCall (E : Addr → Prop) (Fs : Nat → List Addr) (pre : List Pre) (a : Addr) : Prop := eCall E Fs pre a ∧ ¬ ioF Fs pre a
def fCall (Fs : Nat → List Addr) (pre : List Pre) (k : Nat) : List Addr := match pre[k]? with
  | some (.io i) => Fs i
  | _ => []
section
variable {g : Gx} {Z E E' Zc Ec : Addr → Prop} {ρ ρa ρ' ρ2 : Env} {σ : List (Option V)} {H H' : Hp} {Fs Fs' : Nat → List Addr} {pre : List Pre} {vs : List V} {F : List Addr} {cs : List Str}
theorem preSlot_q {i : Nat} {s : Slot} (h : preSlot ρ (.q i) = some s) : (∃ d, ρ[i]? = some (some (Slot.sh d)) ∧ s = .sh d) ∨ ∃ d, ρ[i]? = some (some (Slot.dp d)) ∧ noOwn (frzTop d) = true ∧ s = .sh (frzTop d) := by
  simp only [preSlot] at h
  split at h
  · rename_i d q; cases h; exact .inl ⟨d, q, rfl⟩
  · rename_i d q
    split at h
    · rename_i n; cases h; exact .inr ⟨d, q, n, rfl⟩
    · cases h
  · cases h
theorem preSlot_io {i : Nat} {s : Slot} (h : preSlot ρ (.io i) = some s) : ρ[i]? = some (some s) := by
  simp only [preSlot] at h
  split at h
  · rename_i s' q; cases h; exact q
  · cases h
theorem lent_sub {p : Pre} {d : D} (h : d ∈ lent ρ pre) : d ∈ lent ρ (p :: pre) := by
  cases p with
  | v x => exact h
  | io x => exact h
  | q i =>
    simp only [lent]
    split
    · exact List.mem_cons_of_mem _ h
    · exact h
theorem fCall_mem {k : Nat} {a : Addr} (h : a ∈ fCall Fs pre k) : ∃ i, pre[k]? = some (Pre.io i) ∧ a ∈ Fs i := by
  unfold fCall at h
  split at h
  · rename_i i e; exact ⟨i, e, h⟩
  · cases h
theorem fCall_io {k i : Nat} (h : pre[k]? = some (Pre.io i)) : fCall Fs pre k = Fs i := by unfold fCall; rw [h]
theorem fCall_none {k : Nat} (h : ∀ i, pre[k]? ≠ some (Pre.io i)) : fCall Fs pre k = [] := by
  unfold fCall
  split
  · rename_i i e; exact absurd e (h i)
  · rfl
theorem uses_io (i : Nat) : uses i (.io i) = true := decide_eq_true rfl
theorem uses_q (i : Nat) : uses i (.q i) = true := decide_eq_true rfl
theorem io_not_lent (B : EnvF g Z E ρ σ H Fs) (ok : ioOk pre = true) {k i : Nat} {a : Addr} (h : pre[k]? = some (Pre.io i)) (m : a ∈ Fs i) : ¬ lentF Fs pre a := by
  rintro ⟨k', i', h', m'⟩
  have e := B.dj i i' a m m'
  subst e
  have := ioOk_one ok h h' (uses_q i)
  subst this
  rw [h] at h'
  cases h'
theorem call_in (B : EnvF g Z E ρ σ H Fs) (hp : PreL g H E σ pre vs) (he : preEnv ρ pre = some ρa) (ok : ioOk pre = true) :
    EnvAt g (zCall E Fs pre) (eCall E Fs pre) ρa (vs.map some) H := by
  have sub : ∀ a, eCall E Fs pre a → E a := fun a h => h.1
  have kp : ∀ {F : List Addr}, Kp H E H (eCall E Fs pre) F := Kp.same (fun _ _ h => h) fun a h => .inl (sub a h)
  refine ⟨fCall Fs pre, fun a => ?_, fun k s h => ?_, fun k h => ?_, fun k => ?_, fun k k' a hk hk' => ?_, fun k a hk hz => ?_, fun a h => B.ki a h.1, ?_⟩
  · constructor
    · intro h
      by_cases q : ioF Fs pre a
      · obtain ⟨k, i, e, m⟩ := q
        exact .inl ⟨k, by rw [fCall_io e]; exact m⟩
      · exact .inr ⟨h, q⟩
    · rintro (⟨k, h⟩ | h)
      · obtain ⟨i, e, m⟩ := fCall_mem h
        exact ⟨(B.iff a).mpr (.inl ⟨i, m⟩), io_not_lent B ok e m⟩
      · exact h.1
  · have hk : k < pre.length := by rw [← preEnv_len he]; exact ltOf h
    have ep : pre[k]? = some pre[k] := List.getElem?_eq_getElem hk
    obtain ⟨s', e1, e2⟩ := preEnv_get he ep
    rw [h] at e2
    cases e2
    obtain ⟨v, ev, rv⟩ := hp.get ep
    refine ⟨v, by rw [List.getElem?_map, ev]; rfl, ?_⟩
    revert e1 rv ep
    generalize pre[k] = p
    intro ep e1 rv
    cases p with
    | v d =>
      cases e1
      exact ⟨fCall_none (fun i z => by rw [ep] at z; cases z), Rep.keep kp rv⟩
    | q i =>
      have e0 : fCall Fs pre k = [] := fCall_none fun i z => by rw [ep] at z; cases z
      rw [e0]
      have rv : σ[i]? = some (some v) := rv
      rcases preSlot_q e1 with ⟨d, q, rfl⟩ | ⟨d, q, n, rfl⟩
      · obtain ⟨w, a, b⟩ := B.row i _ q
        rw [rv] at a
        cases a
        exact ⟨rfl, Rep.keep kp b.2⟩
      · obtain ⟨w, a, b⟩ := B.row i _ q
        rw [rv] at a
        cases a
        exact ⟨rfl, (Rep.top b n).frz sub fun a ha z => z.2 ⟨k, i, ep, ha⟩⟩
    | io i =>
      rw [fCall_io ep]
      have rv : σ[i]? = some (some v) := rv
      have q := preSlot_io e1
      obtain ⟨w, a, b⟩ := B.row i _ q
      rw [rv] at a
      cases a
      exact b.keep kp
  · refine fCall_none fun i z => ?_
    obtain ⟨s, _, e2⟩ := preEnv_get he z
    exact h s e2
  · unfold fCall
    split
    · exact B.nd _
    · exact List.nodup_nil
  · obtain ⟨i, e, m⟩ := fCall_mem hk
    obtain ⟨i', e', m'⟩ := fCall_mem hk'
    have q := B.dj i i' a m m'
    subst q
    exact ioOk_one ok e e' (uses_io i)
  · obtain ⟨i, e, m⟩ := fCall_mem hk
    exact hz.2 ⟨k, i, e, m⟩
  · rw [preEnv_len he, List.length_map, hp.len]

open Classical in
/-- what the names hold alone behind the call -/
noncomputable def fBack (ρ : Env) (Fs Fs' : Nat → List Addr) (pre : List Pre) (j : Nat) : List Addr :=
  if h : ∃ (k : Nat), pre[k]? = some (Pre.io j) ∧ ∃ d, ρ[j]? = some (some (Slot.dp d)) then Fs' h.choose else Fs j
theorem fBack_io (ok : ioOk pre = true) {k j : Nat} {d : D} (h : pre[k]? = some (Pre.io j)) (e : ρ[j]? = some (some (Slot.dp d))) : fBack ρ Fs Fs' pre j = Fs' k := by
  unfold fBack
  have x : ∃ (k : Nat), pre[k]? = some (Pre.io j) ∧ ∃ d, ρ[j]? = some (some (Slot.dp d)) := ⟨k, h, d, e⟩
  rw [dif_pos x]
  have := x.choose_spec.1
  rw [ioOk_one ok h this (uses_io j)]
theorem fBack_not {j : Nat} (h : ¬ ∃ (k : Nat), pre[k]? = some (Pre.io j) ∧ ∃ d, ρ[j]? = some (some (Slot.dp d))) : fBack ρ Fs Fs' pre j = Fs j := by
  unfold fBack
  rw [dif_neg h]
theorem nofS_bs {bs : List D} {rs : List D} (h : backOk cs bs rs = true) {b r : D} (hb : b ∈ bs) (hr : r ∈ rs) : topCls cs b = true ∧ nofS b r = true ∧ clsIn cs r = true := by
  have h1 := List.all_eq_true.mp h b hb
  have h2 := List.all_eq_true.mp (and_r h1) r hr
  exact ⟨and_l h1, and_l h2, and_r h2⟩
theorem topCls_in {b : D} (h : topCls cs b = true) : ∀ o c f x, b = .ins o c f x → c ∈ cs := fun o c f x e => by
  subst e
  exact of_decide_eq_true h
theorem TopT.topAt {d : D} {v : V} {p : Addr} (t : TopT g H E d v F) (m : p ∈ F) : TopAt g H p (frzTop d) := by
  cases d with
  | lst o ds =>
    cases o with
    | true => obtain ⟨a, vs, e, h1, h2, h3⟩ := t; rw [h2] at m; rw [List.mem_singleton.mp m]; exact ⟨vs, h1⟩
    | false => rw [t.1] at m; cases m
  | dic o ks ds =>
    cases o with
    | true => obtain ⟨a, vs, e, h1, hl, h2, h3⟩ := t; rw [h2] at m; rw [List.mem_singleton.mp m]; exact ⟨_, .inl h1⟩
    | false => rw [t.1] at m; cases m
  | ins o c fs ds =>
    cases o with
    | true => obtain ⟨a, dx, vs, e, h1, hl, h2, h3⟩ := t; rw [h2] at m; rw [List.mem_singleton.mp m]; exact ⟨dx, _, h1⟩
    | false => rw [t.1] at m; cases m
  | _ => rw [t.1] at m; cases m
theorem TopT.one {d : D} {v : V} {p p' : Addr} (t : TopT g H E d v F) (m : p ∈ F) (m' : p' ∈ F) : p = p' := by
  cases d with
  | lst o ds =>
    cases o with
    | true => obtain ⟨a, vs, e, h1, h2, h3⟩ := t; rw [h2] at m m'; rw [List.mem_singleton.mp m, List.mem_singleton.mp m']
    | false => rw [t.1] at m; cases m
  | dic o ks ds =>
    cases o with
    | true => obtain ⟨a, vs, e, h1, hl, h2, h3⟩ := t; rw [h2] at m m'; rw [List.mem_singleton.mp m, List.mem_singleton.mp m']
    | false => rw [t.1] at m; cases m
  | ins o c fs ds =>
    cases o with
    | true => obtain ⟨a, dx, vs, e, h1, hl, h2, h3⟩ := t; rw [h2] at m m'; rw [List.mem_singleton.mp m, List.mem_singleton.mp m']
    | false => rw [t.1] at m; cases m
  | _ => rw [t.1] at m; cases m
theorem Kp.topAt {d : D} {p : Addr} (k : ∀ o, H p = some o → H' p = some o) (t : TopAt g H p d) : TopAt g H' p d := by
  cases d with
  | lst o ds => obtain ⟨vs, h⟩ := t; exact ⟨vs, k _ h⟩
  | dic o ks ds => obtain ⟨vs, h⟩ := t; exact ⟨vs, Rd.keep h k⟩
  | ins o c fs ds => obtain ⟨dx, vs, h⟩ := t; exact ⟨dx, vs, k _ h⟩
  | _ => exact t.elim
/-- data found behind the call holds nothing that was lent: step by step -/
theorem avoid_all (ap : ClsApart g cs) {E0 : Addr → Prop} : ∀ {bs : List (Addr × D)} {d : D} {v : V} {F0 : List Addr}, (∀ q ∈ bs, TopAt g H q.1 q.2 ∧ topCls cs q.2 = true ∧ nofS q.2 d = true ∧ clsIn cs d = true) → Rep g H E0 d v F0 → Rep g H (fun a => E0 a ∨ ∃ q ∈ bs, a = q.1) d v F0
  | [], d, v, F0, _, r => r.keep (Kp.same (fun _ _ h => h) fun a h => .inl (by
      rcases h with h | ⟨q, h, _⟩
      · exact h
      · cases h))
  | q :: bs, d, v, F0, h, r => by
    have h1 := h q List.mem_cons_self
    have r1 := Rep.avoid ap h1.1 (topCls_in h1.2.1) (avoid_all ap (bs := bs) (fun q' m => h q' (List.mem_cons_of_mem _ m)) r) h1.2.2.1 h1.2.2.2
    refine r1.keep (Kp.same (fun _ _ h => h) fun a h => .inl ?_)
    rcases h with h | ⟨q', m, e⟩
    · exact .inl (.inl h)
    · rcases List.mem_cons.mp m with m | m
      · subst m; exact .inr e
      · exact .inl (.inr ⟨q', m, e⟩)
/-- the lent places with their data -/
theorem lent_list (B : EnvF g Z E ρ σ H Fs) : ∀ (pre0 : List Pre) {ρa : Env}, preEnv ρ pre0 = some ρa → ∃ bs : List (Addr × D), (∀ q ∈ bs, TopAt g H q.1 q.2 ∧ q.2 ∈ lent ρ pre0 ∧ lentF Fs pre0 q.1) ∧ ∀ a, lentF Fs pre0 a → ∃ q ∈ bs, a = q.1
  | [], ρa, _ => ⟨[], (fun q h => nomatch h), (fun a ⟨k, i, h, _⟩ => by simp at h)⟩
  | p :: pre0, ρa, he => by
    unfold preEnv at he
    cases e1 : preSlot ρ p with
    | none => rw [e1] at he; cases he
    | some s =>
      cases e2 : preEnv ρ pre0 with
      | none => rw [e1, e2] at he; cases he
      | some r =>
        obtain ⟨bs, h1, h2⟩ := lent_list B pre0 e2
        have up : ∀ a, lentF Fs pre0 a → lentF Fs (p :: pre0) a := fun a ⟨k, i, h, m⟩ => ⟨k + 1, i, by simpa using h, m⟩
        have lm : ∀ d, d ∈ lent ρ pre0 → d ∈ lent ρ (p :: pre0) := fun d h => lent_sub h
        have down : ∀ a, lentF Fs (p :: pre0) a → (∃ i, p = .q i ∧ a ∈ Fs i) ∨ lentF Fs pre0 a := fun a ⟨k, i, h, m⟩ => by
          cases k with
          | zero => simp at h; exact .inl ⟨i, h, m⟩
          | succ k => exact .inr ⟨k, i, by simpa using h, m⟩
        cases p with
        | v x => exact ⟨bs, fun q m => ⟨(h1 q m).1, lm _ (h1 q m).2.1, up _ (h1 q m).2.2⟩, fun a h => by
            rcases down a h with ⟨i, z, _⟩ | h
            · cases z
            · exact h2 a h⟩
        | io x => exact ⟨bs, fun q m => ⟨(h1 q m).1, lm _ (h1 q m).2.1, up _ (h1 q m).2.2⟩, fun a h => by
            rcases down a h with ⟨i, z, _⟩ | h
            · cases z
            · exact h2 a h⟩
        | q i =>
          rcases preSlot_q e1 with ⟨d, q, _⟩ | ⟨d, q, n, _⟩
          · obtain ⟨w, a0, b0⟩ := B.row i _ q
            exact ⟨bs, fun q m => ⟨(h1 q m).1, lm _ (h1 q m).2.1, up _ (h1 q m).2.2⟩, fun a h => by
              rcases down a h with ⟨i', z, m⟩ | h
              · cases z
                rw [b0.1] at m
                cases m
              · exact h2 a h⟩
          · obtain ⟨w, a0, b0⟩ := B.row i _ q
            have t := Rep.top (show Rep g H E d w (Fs i) from b0) n
            refine ⟨(Fs i).map (fun a => (a, frzTop d)) ++ bs, fun q' m => ?_, fun a h => ?_⟩
            · rcases List.mem_append.mp m with m | m
              · obtain ⟨a, ma, rfl⟩ := List.mem_map.mp m
                exact ⟨t.topAt ma, lent_mem (k := 0) (pre := Pre.q i :: pre0) rfl q, ⟨0, i, rfl, ma⟩⟩
              · exact ⟨(h1 q' m).1, lm _ (h1 q' m).2.1, up _ (h1 q' m).2.2⟩
            · rcases down a h with ⟨i', z, m⟩ | h
              · cases z
                exact ⟨(a, frzTop d), List.mem_append_left _ (List.mem_map.mpr ⟨a, m, rfl⟩), rfl⟩
              · obtain ⟨q', m, e⟩ := h2 a h
                exact ⟨q', List.mem_append_right _ m, e⟩
/-- everything held alone behind the call -/
def eBack (E : Addr → Prop) (ρ : Env) (Fs Fs' : Nat → List Addr) (pre : List Pre) (F : List Addr) (a : Addr) : Prop :=
  (∃ (k i : Nat) (d : D), pre[k]? = some (Pre.io i) ∧ ρ[i]? = some (some (Slot.dp d)) ∧ a ∈ Fs' k) ∨ lentF Fs pre a ∨ zCall E Fs pre a ∨ a ∈ F
theorem call_out (ap : ClsApart g cs) (B : EnvF g Z E ρ σ H Fs) (hp : PreL g H E σ pre vs) (he : preEnv ρ pre = some ρa) (ok : ioOk pre = true)
    (B' : EnvF g (more F (zCall E Fs pre)) E' ρ' (vs.map some) H' Fs') (t : Tr (zCall E Fs pre) H (eCall E Fs pre) H' E') (hF : ∀ a ∈ F, ¬ zCall E Fs pre a)
    (hpost : postEnv ρ pre ρ' = some ρ2) (hback : backOk cs (lent ρ pre) (ioData pre ρ') = true) :
    EnvAt g (more F Z) (eBack E ρ Fs Fs' pre F) ρ2 σ H' ∧ Tr Z H E H' (eBack E ρ Fs Fs' pre F) ∧ (∀ a ∈ F, ¬ Z a) ∧
      ∀ d v F0, Rep g H' E' d v F0 → backOk cs (lent ρ pre) [d] = true → Rep g H' (eBack E ρ Fs Fs' pre F) d v F0 := by
  have pa := postEnv_at ok hpost
  have E'iff := B'.iff
  have new : ∀ a, E' a → eCall E Fs pre a ∨ H a = none := t.e
  have lentE : ∀ a, lentF Fs pre a → E a := fun a ⟨k, i, _, m⟩ => (B.iff a).mpr (.inl ⟨i, m⟩)
  have lent_not : ∀ a, lentF Fs pre a → ¬ E' a := fun a h z => by
    rcases new a z with z | z
    · exact z.2 h
    · exact mutAt_ne (B.ki a (lentE a h)) z
  have zZ : ∀ a, Z a → zCall E Fs pre a := fun a h => ⟨⟨(B.iff a).mpr (.inr h), fun ⟨k, i, _, m⟩ => B.dz i a m h⟩, fun ⟨k, i, _, m⟩ => B.dz i a m h⟩
  have FE' : ∀ a ∈ F, E' a := fun a h => (E'iff a).mpr (.inr (.inl h))
  have hsub : ∀ a, eBack E ρ Fs Fs' pre F a → E a ∨ H a = none := fun a h => by
    rcases h with ⟨k, i, d, _, _, m⟩ | h | h | h
    · rcases new a ((E'iff a).mpr (.inl ⟨k, m⟩)) with z | z
      · exact .inl z.1
      · exact .inr z
    · exact .inl (lentE a h)
    · exact .inl h.1.1
    · rcases new a (FE' a h) with z | z
      · exact .inl z.1
      · exact .inr z
  have hEE : ∀ a, eBack E ρ Fs Fs' pre F a → E' a ∨ lentF Fs pre a := fun a h => by
    rcases h with ⟨k, i, d, _, _, m⟩ | h | h | h
    · exact .inl ((E'iff a).mpr (.inl ⟨k, m⟩))
    · exact .inr h
    · exact .inl ((E'iff a).mpr (.inr (.inr h)))
    · exact .inl (FE' a h)
  have hk : ∀ a o, H a = some o → (¬ E a ∨ zCall E Fs pre a ∨ lentF Fs pre a) → H' a = some o := fun a o h n => by
    refine t.k a o h ?_
    rcases n with n | n | n
    · exact .inl fun z => n z.1
    · exact .inr n
    · exact .inl fun z => z.2 n
  have trans : ∀ d v F0, Rep g H' E' d v F0 → backOk cs (lent ρ pre) [d] = true → Rep g H' (eBack E ρ Fs Fs' pre F) d v F0 := fun d v F0 r bk => by
    obtain ⟨bs, h1, h2⟩ := lent_list B pre he
    refine Rep.keep (Kp.same (fun _ _ h => h) fun a h => .inl ?_) (avoid_all ap (bs := bs) (fun q m => ?_) r)
    · rcases hEE a h with h | h
      · exact .inl h
      · exact .inr (h2 a h)
    · have n := nofS_bs bk (h1 q m).2.1 (List.mem_singleton.mpr rfl)
      exact ⟨Kp.topAt (fun o e => hk q.1 o e (.inr (.inr (h1 q m).2.2))) (h1 q m).1, n.1, n.2.1, n.2.2⟩
  have ioZ : ∀ {k i : Nat} {d : D} {a : Addr}, pre[k]? = some (Pre.io i) → ρ[i]? = some (some (Slot.dp d)) → a ∈ Fs' k → ¬ Z a ∧ a ∉ F ∧ ¬ zCall E Fs pre a ∧ ¬ lentF Fs pre a := fun {k i d a} h1 h2 m => by
    have z := B'.dz k a m
    exact ⟨fun q => z (.inr (zZ a q)), fun q => z (.inl q), fun q => z (.inr q), fun q => lent_not a q ((E'iff a).mpr (.inl ⟨k, m⟩))⟩
  -- a row that is not changed
  have rest : ∀ {j : Nat} {a : Addr}, (¬ ∃ (k : Nat), pre[k]? = some (Pre.io j) ∧ ∃ d, ρ[j]? = some (some (Slot.dp d))) → a ∈ Fs j → zCall E Fs pre a ∨ lentF Fs pre a := fun {j a} n m => by
    by_cases q : lentF Fs pre a
    · exact .inr q
    · refine .inl ⟨⟨(B.iff a).mpr (.inl ⟨j, m⟩), q⟩, fun ⟨k, i, e, mi⟩ => ?_⟩
      have z := B.dj j i a m mi
      subst z
      obtain ⟨s', e1, _⟩ := preEnv_get he e
      have q' := preSlot_io e1
      cases s' with
      | dp d => exact n ⟨k, e, d, q'⟩
      | sh d =>
        obtain ⟨w, a1, b1⟩ := B.row j _ q'
        rw [b1.1] at m
        cases m
  refine ⟨⟨fBack ρ Fs Fs' pre, fun a => ?_, fun j s h => ?_, fun j h => ?_, fun j => ?_, fun i j a hi hj => ?_, fun j a hj => ?_, fun a h => ?_, by rw [pa.len]; exact B.len⟩, ⟨fun a o h n => hk a o h (by
      rcases n with n | n
      · exact .inl n
      · exact .inr (.inl (zZ a n))), hsub⟩, fun a h z => hF a h (zZ a z), trans⟩
  · constructor
    · rintro (⟨k, i, d, e1, e2, m⟩ | h | h | h)
      · exact .inl ⟨i, by rw [fBack_io ok e1 e2]; exact m⟩
      · obtain ⟨k, i, e, m⟩ := h
        refine .inl ⟨i, ?_⟩
        rw [fBack_not]
        · exact m
        · rintro ⟨k', e', _⟩
          have := ioOk_one ok e' e (uses_q i)
          subst this
          rw [e] at e'
          cases e'
      · rcases (B.iff a).mp h.1.1 with ⟨j, m⟩ | z
        · refine .inl ⟨j, ?_⟩
          rw [fBack_not]
          · exact m
          · rintro ⟨k, e, _⟩
            exact h.2 ⟨k, j, e, m⟩
        · exact .inr (.inr z)
      · exact .inr (.inl h)
    · rintro (⟨j, h⟩ | h | h)
      · by_cases q : ∃ (k : Nat), pre[k]? = some (Pre.io j) ∧ ∃ d, ρ[j]? = some (some (Slot.dp d))
        · obtain ⟨k, e1, d, e2⟩ := q
          rw [fBack_io ok e1 e2] at h
          exact .inl ⟨k, j, d, e1, e2, h⟩
        · rw [fBack_not q] at h
          rcases rest q h with z | z
          · exact .inr (.inr (.inl z))
          · exact .inr (.inl z)
      · exact .inr (.inr (.inr h))
      · exact .inr (.inr (.inl (zZ a h)))
  · by_cases q : ∃ (k : Nat), pre[k]? = some (Pre.io j) ∧ ∃ d, ρ[j]? = some (some (Slot.dp d))
    · obtain ⟨k, e1, d, e2⟩ := q
      rw [fBack_io ok e1 e2]
      rcases pa.new k j e1 with ⟨d0, d1, q1, q2, q3⟩ | ⟨d0, q1, q3⟩
      · rw [q3] at h
        cases h
        obtain ⟨w, a1, b1⟩ := B'.row k _ q2
        obtain ⟨w', a2, b2⟩ := hp.get e1
        rw [List.getElem?_map, a2] at a1
        cases a1
        exact ⟨w, b2, trans d1 w _ b1 (by
          refine List.all_eq_true.mpr fun b hb => ?_
          have n := nofS_bs hback hb (ioData_mem e1 q2)
          exact Bool.and_eq_true_iff.mpr ⟨n.1, List.all_eq_true.mpr fun r hr => by rw [List.mem_singleton.mp hr]; exact Bool.and_eq_true_iff.mpr n.2⟩)⟩
      · rw [q1] at e2
        cases e2
    · have ro : ρ[j]? = some (some s) := by
        by_cases q' : ∃ (k : Nat), pre[k]? = some (Pre.io j)
        · obtain ⟨k, e1⟩ := q'
          rcases pa.new k j e1 with ⟨d0, d1, q1, q2, q3⟩ | ⟨d0, q1, q3⟩
          · exact absurd ⟨k, e1, d0, q1⟩ q
          · rw [q1, ← q3]; exact h
        · rw [← pa.old j fun k z => q' ⟨k, z⟩]; exact h
      rw [fBack_not q]
      obtain ⟨w, a1, b1⟩ := B.row j s ro
      refine ⟨w, a1, b1.keep ⟨fun a o h n => hk a o h ?_, hsub⟩⟩
      rcases n with n | n | n
      · exact .inl n
      · exact .inr (rest q n)
      · by_cases z : E a
        · obtain ⟨o', e', m'⟩ := B.ki a z
          rw [h] at e'
          cases e'
          rw [n] at m'
          cases m'
        · exact .inl z
  · by_cases q : ∃ (k : Nat), pre[k]? = some (Pre.io j) ∧ ∃ d, ρ[j]? = some (some (Slot.dp d))
    · obtain ⟨k, e1, d, e2⟩ := q
      rcases pa.new k j e1 with ⟨d0, d1, q1, q2, q3⟩ | ⟨d0, q1, q3⟩
      · exact absurd q3 (h _)
      · exact absurd q3 (h _)
    · rw [fBack_not q]
      refine B.emp j fun s z => ?_
      by_cases q' : ∃ (k : Nat), pre[k]? = some (Pre.io j)
      · obtain ⟨k, e1⟩ := q'
        rcases pa.new k j e1 with ⟨d0, d1, q1, q2, q3⟩ | ⟨d0, q1, q3⟩
        · exact h _ q3
        · exact h _ q3
      · exact h s (by rw [pa.old j fun k z => q' ⟨k, z⟩]; exact z)
  · by_cases q : ∃ (k : Nat), pre[k]? = some (Pre.io j) ∧ ∃ d, ρ[j]? = some (some (Slot.dp d))
    · obtain ⟨k, e1, d, e2⟩ := q
      rw [fBack_io ok e1 e2]
      exact B'.nd k
    · rw [fBack_not q]
      exact B.nd j
  · by_cases q : ∃ (k : Nat), pre[k]? = some (Pre.io i) ∧ ∃ d, ρ[i]? = some (some (Slot.dp d))
    · obtain ⟨k, e1, d, e2⟩ := q
      rw [fBack_io ok e1 e2] at hi
      have ii := ioZ e1 e2 hi
      by_cases q' : ∃ (k : Nat), pre[k]? = some (Pre.io j) ∧ ∃ d, ρ[j]? = some (some (Slot.dp d))
      · obtain ⟨k', e1', d', e2'⟩ := q'
        rw [fBack_io ok e1' e2'] at hj
        have := B'.dj k k' a hi hj
        subst this
        rw [e1] at e1'
        cases e1'
        rfl
      · rw [fBack_not q'] at hj
        rcases rest q' hj with z | z
        · exact absurd z ii.2.2.1
        · exact absurd z ii.2.2.2
    · rw [fBack_not q] at hi
      by_cases q' : ∃ (k : Nat), pre[k]? = some (Pre.io j) ∧ ∃ d, ρ[j]? = some (some (Slot.dp d))
      · obtain ⟨k', e1', d', e2'⟩ := q'
        rw [fBack_io ok e1' e2'] at hj
        have ii := ioZ e1' e2' hj
        rcases rest q hi with z | z
        · exact absurd z ii.2.2.1
        · exact absurd z ii.2.2.2
      · rw [fBack_not q'] at hj
        exact B.dj i j a hi hj
  · by_cases q : ∃ (k : Nat), pre[k]? = some (Pre.io j) ∧ ∃ d, ρ[j]? = some (some (Slot.dp d))
    · obtain ⟨k, e1, d, e2⟩ := q
      rw [fBack_io ok e1 e2] at hj
      have ii := ioZ e1 e2 hj
      rintro (z | z)
      · exact ii.2.1 z
      · exact ii.1 z
    · rw [fBack_not q] at hj
      rintro (z | z)
      · rcases rest q hj with y | y
        · exact hF a z y
        · exact lent_not a y (FE' a z)
      · exact B.dz j a hj z
  · rcases hEE a h with z | z
    · exact B'.ki a z
    · obtain ⟨o, e, m⟩ := B.ki a (lentE a z)
      exact ⟨o, hk a o e (.inr (.inr z)), m⟩
end
end DL
/-! DL9 -/
set_option Elab.async false
set_option linter.all false
set_option maxRecDepth 100000
set_option maxHeartbeats 1000000
namespace DL
open PySem PySem.Spec PyProof.Rows L2

/-- a callee's answer, told to the caller -/
def callR (cs : List Str) (ρ : Env) (pre : List Pre) (r : R D) : R D := match r with
  | .ok d ρ' => match postEnv ρ pre ρ' with
    | some ρ2 => if backOk cs (lent ρ pre) [d] = true ∧ backOk cs (lent ρ pre) (ioData pre ρ') = true then .ok d ρ2 else .stk
    | none => .stk
  | .exc c xs ρ' => match postEnv ρ pre ρ' with
    | some ρ2 => if backOk cs (lent ρ pre) xs = true ∧ backOk cs (lent ρ pre) (ioData pre ρ') = true then .exc c xs ρ2 else .stk
    | none => .stk
  | .stk => .stk
inductive SD : Md → Prop where
  | s : SD .S
  | d : SD .D
section
variable {g : Gx} {W : WX} {Z E : Addr → Prop} {ρ ρa : Env} {σ : L2.St} {H : Hp} {pre : List Pre} {vs : List V} {cs : List Str} {n : Nat} {md : Md} {m : Env → R D}
theorem repL_all {H H' : Hp} {E E' : Addr → Prop} {bs : List D} (tr : ∀ d v F0, Rep g H E d v F0 → backOk cs bs [d] = true → Rep g H' E' d v F0) : ∀ {xs : List D} {vs : List V} {F : List Addr}, RepL g H E xs vs F → backOk cs bs xs = true → RepL g H' E' xs vs F
  | [], vs, F, h, _ => by unfold RepL at h ⊢; exact h
  | x :: xs, vs, F, h, b => by
    have b1 : backOk cs bs [x] = true ∧ backOk cs bs xs = true := by
      constructor
      · refine List.all_eq_true.mpr fun q hq => ?_
        have := List.all_eq_true.mp b q hq
        refine Bool.and_eq_true_iff.mpr ⟨and_l this, List.all_eq_true.mpr fun r hr => ?_⟩
        rw [List.mem_singleton.mp hr]
        exact List.all_eq_true.mp (and_r this) x List.mem_cons_self
      · refine List.all_eq_true.mpr fun q hq => ?_
        have := List.all_eq_true.mp b q hq
        exact Bool.and_eq_true_iff.mpr ⟨and_l this, List.all_eq_true.mpr fun r hr => List.all_eq_true.mp (and_r this) r (List.mem_cons_of_mem _ hr)⟩
    unfold RepL at h ⊢
    obtain ⟨v, r, F1, F2, e1, e2, h1, h2⟩ := h
    exact ⟨v, r, F1, F2, e1, e2, tr _ _ _ h1 b1.1, repL_all tr h2 b1.2⟩
theorem EnvAt.nil0 (A : EnvAt g Z E ρ σ H) : EnvAt g (more [] Z) E ρ σ H := by rw [more_nil]; exact A
theorem call_core (ap : ClsApart g cs) (A : EnvAt g Z E ρ σ H) (hp : PreL g H E σ pre vs) (he : preEnv ρ pre = some ρa) (ok : ioOk pre = true) (hn : pre.length = n) (hm : SD md) {Q : VK} {X : XK}
    (h : (callR cs ρ pre (m ρa)).sat (fun d ρ2 => ∀ v H' E', Post md g Z E' ρ2 σ H' d v → Tr Z H E H' E' → Q v H') (fun c xs ρ2 => ∀ cls dd H' E', ExcAt g H' E' c xs cls dd → EnvAt g Z E' ρ2 σ H' → Tr Z H E H' E' → X cls dd H')) : spM g n md m vs H Q X := by
  obtain ⟨Fs, B⟩ := A
  refine ⟨by rw [hp.len, hn], ρa, zCall E Fs pre, eCall E Fs pre, call_in B hp he ok, ?_⟩
  unfold callR at h
  cases q : m ρa with
  | stk => rw [q] at h; exact h.elim
  | ok d ρ' =>
    rw [q] at h
    dsimp only at h
    intro v H' E' p t
    split at h
    · rename_i ρ2 e2
      split at h
      · rename_i bk
        have key : ∃ F, EnvAt g (more F (zCall E Fs pre)) E' ρ' (vs.map some) H' ∧ (∀ a ∈ F, ¬ zCall E Fs pre a) ∧ Rep g H' E' d v F ∧ F.Nodup ∧ (md = .S → F = []) := by
          cases hm with
          | s => exact ⟨[], p.1.nil0, (fun _ h => nomatch h), p.2, List.nodup_nil, fun _ => rfl⟩
          | d => obtain ⟨F, r⟩ := p; exact ⟨F, r.env, r.dz, r.rep, r.nd, fun z => nomatch z⟩
        obtain ⟨F, ⟨Fs', B'⟩, hF, r, nd, hS⟩ := key
        obtain ⟨a1, a2, a3, a4⟩ := call_out ap B hp he ok B' t hF e2 bk.2
        refine h v H' _ ?_ a2
        cases hm with
        | s =>
          cases hS rfl
          exact ⟨by rw [more_nil] at a1; exact a1, a4 _ _ _ r bk.1⟩
        | d => exact ⟨F, a1, a4 _ _ _ r bk.1, nd, a3⟩
      · exact h.elim
    · exact h.elim
  | exc c xs ρ' =>
    rw [q] at h
    dsimp only at h
    intro cls dd H' E' x A' t
    split at h
    · rename_i ρ2 e2
      split at h
      · rename_i bk
        obtain ⟨Fs', B'⟩ := A'.nil0
        obtain ⟨a1, a2, a3, a4⟩ := call_out ap B hp he ok B' t (fun _ h => nomatch h) e2 bk.2
        rw [more_nil] at a1
        refine h cls dd H' _ ?_ a1 a2
        unfold ExcAt at x ⊢
        refine ⟨x.1, ?_⟩
        have x2 := x.2
        cases xs with
        | nil => exact x2
        | cons y r =>
          obtain ⟨a, ws, e1, e3, e4, e5⟩ := x2
          exact ⟨a, ws, e1, e3, e4, repL_all a4 e5 bk.1⟩
      · exact h.elim
    · exact h.elim
/-- all arguments are values: nothing of what was there is touched -/
theorem call_core0 {ds : List D} (A : EnvAt g Z E ρ σ H) (hp : RepL g H E ds vs []) (hn : ds.length = n) (hm : SD md) {Q : VK} {X : XK}
    (h : (m (ds.map fun d => some (Slot.sh d))).sat (fun d _ => ∀ v H' E', Post md g Z E' ρ σ H' d v → Tr Z H E H' E' → Same H H' → Q v H') (fun c xs _ => ∀ cls dd H' E', ExcAt g H' E' c xs cls dd → EnvAt g Z E' ρ σ H' → Tr Z H E H' E' → X cls dd H')) : spM g n md m vs H Q X := by
  obtain ⟨Fs, B⟩ := A
  have hl := hp.len
  have envc : EnvAt g E E (ds.map fun d => some (Slot.sh d)) (vs.map some) H := by
    refine ⟨fun _ => [], fun a => ⟨.inr, fun h => h.elim (fun ⟨_, h⟩ => nomatch h) id⟩, fun k s q => ?_, fun _ _ => rfl, fun _ => List.nodup_nil, (fun _ _ _ h => nomatch h), (fun _ _ h => nomatch h), B.ki, by simp [hl]⟩
    rw [List.getElem?_map] at q
    cases e : ds[k]? with
    | none => rw [e] at q; cases q
    | some d =>
      rw [e] at q
      cases q
      obtain ⟨v, a, b⟩ := hp.get e
      exact ⟨v, by rw [List.getElem?_map, a]; rfl, rfl, b⟩
  refine ⟨by rw [hl, hn], _, E, E, envc, R.sat_mono h (fun d ρ' _ k v H' E' p t => ?_) (fun c xs ρ' k cls dd H' E' x A' t => ?_)⟩
  · have s : Same H H' := fun a o e => t.k a o e (by by_cases z : E a; exact .inr z; exact .inl z)
    have key : ∃ F, EnvAt g (more F E) E' ρ' (vs.map some) H' ∧ (∀ a ∈ F, ¬ E a) ∧ Rep g H' E' d v F ∧ F.Nodup ∧ (md = .S → F = []) := by
      cases hm with
      | s => exact ⟨[], p.1.nil0, (fun _ h => nomatch h), p.2, List.nodup_nil, fun _ => rfl⟩
      | d => obtain ⟨F, r⟩ := p; exact ⟨F, r.env, r.dz, r.rep, r.nd, fun z => nomatch z⟩
    obtain ⟨F, ⟨Fs', B'⟩, hF, r, nd, hS⟩ := key
    have FE' : ∀ a ∈ F, E' a := fun a h => (B'.iff a).mpr (.inr (.inl h))
    have EE' : ∀ a, E a → E' a := fun a h => (B'.iff a).mpr (.inr (.inr h))
    have sub : ∀ a, more F E a → E' a := fun a h => h.elim (FE' a) (EE' a)
    have A2 : EnvAt g (more F Z) (more F E) ρ σ H' := by
      refine ⟨Fs, fun a => ?_, fun i s' q => let ⟨v, a, b⟩ := B.row i s' q; ⟨v, a, b.keep (Kp.same s fun a h => ?_)⟩, B.emp, B.nd, B.dj, fun i a h z => ?_, fun a h => B'.ki a (sub a h), B.len⟩
      · constructor
        · rintro (h | h)
          · exact .inr (.inl h)
          · rcases (B.iff a).mp h with h | h
            · exact .inl h
            · exact .inr (.inr h)
        · rintro (h | h | h)
          · exact .inr ((B.iff a).mpr (.inl h))
          · exact .inl h
          · exact .inr ((B.iff a).mpr (.inr h))
      · rcases h with h | h
        · rcases t.e a (FE' a h) with z | z
          · exact .inl z
          · exact .inr z
        · exact .inl h
      · rcases z with z | z
        · exact hF a z ((B.iff a).mpr (.inl ⟨i, h⟩))
        · exact B.dz i a h z
    have t2 : Tr Z H E H' (more F E) := ⟨fun a o h _ => s a o h, fun a h => h.elim (fun h => t.e a (FE' a h)) .inl⟩
    have r2 : Rep g H' (more F E) d v F := r.keep (Kp.same (fun _ _ h => h) fun a h => .inl (sub a h))
    refine k v H' _ ?_ t2 s
    cases hm with
    | s =>
      cases hS rfl
      rw [more_nil] at A2 r2 ⊢
      rw [more_nil] at A2
      exact ⟨A2, r2⟩
    | d => exact ⟨F, A2, r2, nd, fun a h z => hF a h ((B.iff a).mpr (.inr z))⟩
  · have s : Same H H' := fun a o e => t.k a o e (by by_cases z : E a; exact .inr z; exact .inl z)
    refine k cls dd H' E ?_ (EnvAt.same ⟨Fs, B⟩ s) ⟨fun a o h _ => s a o h, fun a h => .inl h⟩
    unfold ExcAt at x ⊢
    refine ⟨x.1, ?_⟩
    have x2 := x.2
    cases xs with
    | nil => exact x2
    | cons y r =>
      obtain ⟨a, ws, e1, e3, e4, e5⟩ := x2
      obtain ⟨Fs', B'⟩ := A'
      exact ⟨a, ws, e1, e3, e4, e5.keep (Kp.same (fun _ _ h => h) fun a h => .inl ((B'.iff a).mpr (.inr h)))⟩

/-! ### written arguments -/
structure SndP (g : Gx) (W : WX) (n : Nat) (t0 : TA) (t : Env → R (List Pre)) : Prop where
  len : ∀ ρ d ρ', t ρ = .ok d ρ' → d.length = n
  run : ∀ (σ : L2.St) (H : Hp) (ρ : Env) (Z E : Addr → Prop) (Q : List V → Hp → Prop), EnvAt g Z E ρ σ H →
    (t ρ).sat (fun ds ρ' => ∀ vs H' E', EnvAt g Z E' ρ' σ H' → PreL g H' E' σ ds vs → Tr Z H E H' E' → Q vs H')
      (fun c xs ρ' => ∀ cls dd H' E', ExcAt g H' E' c xs cls dd → EnvAt g Z E' ρ' σ H' → Tr Z H E H' E' → W cls dd σ H') → t0 σ H Q
structure SndP1 (g : Gx) (W : WX) (t0 : TE) (t : Env → R Pre) : Prop where
  run : ∀ (σ : L2.St) (H : Hp) (ρ : Env) (Z E : Addr → Prop) (Q : VK), EnvAt g Z E ρ σ H →
    (t ρ).sat (fun p ρ' => ∀ v H' E', EnvAt g Z E' ρ' σ H' → PreRep g H' E' σ p v → Tr Z H E H' E' → Q v H')
      (fun c xs ρ' => ∀ cls dd H' E', ExcAt g H' E' c xs cls dd → EnvAt g Z E' ρ' σ H' → Tr Z H E H' E' → W cls dd σ H') → t0 σ H Q
def pE (a : Env → R D) : Env → R Pre := fun ρ => (a ρ).bind fun d ρ1 => .ok (.v d) ρ1
def pQ (i : Nat) : Env → R Pre := fun ρ => match ρ[i]? with
  | some (some _) => .ok (.q i) ρ
  | _ => .stk
def pIo (i : Nat) : Env → R Pre := fun ρ => match ρ[i]? with
  | some (some _) => .ok (.io i) ρ
  | _ => .stk
def pNil : Env → R (List Pre) := fun ρ => .ok [] ρ
def pCons (a : Env → R Pre) (b : Env → R (List Pre)) : Env → R (List Pre) := fun ρ => (a ρ).bind fun p ρ1 => (b ρ1).bind fun ps ρ2 => .ok (p :: ps) ρ2
theorem snd_pE {te : TE} {pa : Bool} {da : Env → R D} (ha : SndE g W pa .S te da) : SndP1 g W te (pE da) :=
  ⟨fun σ H ρ Z E Q A h => ha.run σ H ρ Z E Q A (R.sat_mono (R.sat_bind.mp h) (fun d ρ1 _ k v H1 E1 p t _ => k v H1 E1 p.1 p.2 t) fun _ _ _ k => k)⟩
theorem EnvAt.bound {i : Nat} {s : Slot} (A : EnvAt g Z E ρ σ H) (h : ρ[i]? = some (some s)) : ∃ v, σ[i]? = some (some v) := by
  obtain ⟨Fs, B⟩ := A
  obtain ⟨v, a, b⟩ := B.row i s h
  exact ⟨v, a⟩
theorem snd_pQ (i : Nat) : SndP1 g W (tVar i) (pQ i) := by
  refine ⟨fun σ H ρ Z E Q A h => ?_⟩
  unfold pQ at h
  split at h
  · rename_i s e
    obtain ⟨v, a⟩ := A.bound e
    exact ⟨v, a, h v H E A a Tr.refl⟩
  · exact h.elim
theorem snd_pIo (i : Nat) : SndP1 g W (tVar i) (pIo i) := by
  refine ⟨fun σ H ρ Z E Q A h => ?_⟩
  unfold pIo at h
  split at h
  · rename_i s e
    obtain ⟨v, a⟩ := A.bound e
    exact ⟨v, a, h v H E A a Tr.refl⟩
  · exact h.elim
theorem snd_pNil : SndP g W 0 tNil pNil := ⟨fun ρ d ρ' h => by cases h; rfl, fun σ H ρ Z E Q A h => h [] H E A rfl Tr.refl⟩
theorem PreRep.keep {H' : Hp} {E' : Addr → Prop} {p : Pre} {v : V} (x : Kp H E H' E' []) (h : PreRep g H E σ p v) : PreRep g H' E' σ p v := by
  cases p with
  | v d => exact Rep.keep x h
  | q i => exact h
  | io i => exact h
theorem snd_pCons {te : TE} {ta : TA} {n : Nat} {da : Env → R Pre} {db : Env → R (List Pre)} (ha : SndP1 g W te da) (hb : SndP g W n ta db) : SndP g W (n + 1) (tCons te ta) (pCons da db) := by
  refine ⟨fun ρ d ρ' h => ?_, fun σ H ρ Z E Q A h => ?_⟩
  · obtain ⟨d1, ρ1, h1, h⟩ := R.bind_ok h
    obtain ⟨d2, ρ2, h2, h⟩ := R.bind_ok h
    cases h
    rw [List.length_cons, hb.len _ _ _ h2]
  · refine ha.run σ H ρ Z E _ A (R.sat_mono (R.sat_bind.mp h) (fun p ρ1 he k v H1 E1 A1 r1 t1 => ?_) fun c xs ρ1 k => k)
    refine hb.run σ H1 ρ1 Z E1 _ A1 (R.sat_mono (R.sat_bind.mp k) (fun ps ρ2 he2 k2 vs H2 E2 A2 r2 t2 => ?_) fun c xs ρ2 k2 cls dd H2 E2 x A2 t2 => k2 cls dd H2 E2 x A2 (t1.trans t2 fun _ h => h))
    exact k2 (v :: vs) H2 E2 A2 ⟨v, vs, rfl, PreRep.keep (t2.kp A1.ki fun _ h => nomatch h) r1, r2⟩ (t1.trans t2 fun _ h => h)

/-! ### f(..) -/
def doCall (cs : List Str) (m : Env → R D) (pre : List Pre) (ρ : Env) : R D := match preEnv ρ pre with
  | some ρa => if ioOk pre = true then callR cs ρ pre (m ρa) else .stk
  | none => .stk
def dCall (cs : List Str) (m : Env → R D) (a : Env → R (List Pre)) : Env → R D := fun ρ => (a ρ).bind fun pre ρ1 => doCall cs m pre ρ1
theorem doCall_run (ap : ClsApart g cs) (A : EnvAt g Z E ρ σ H) (hp : PreL g H E σ pre vs) (hn : pre.length = n) (hm : SD md) {Q : VK} {X : XK}
    (h : (doCall cs m pre ρ).sat (fun d ρ2 => ∀ v H' E', Post md g Z E' ρ2 σ H' d v → Tr Z H E H' E' → Q v H') (fun c xs ρ2 => ∀ cls dd H' E', ExcAt g H' E' c xs cls dd → EnvAt g Z E' ρ2 σ H' → Tr Z H E H' E' → X cls dd H')) : spM g n md m vs H Q X := by
  unfold doCall at h
  split at h
  · rename_i ρa e
    split at h
    · rename_i ok
      exact call_core ap A hp e ok hn hm h
    · exact h.elim
  · exact h.elim
theorem snd_call {ta : TA} {da : Env → R (List Pre)} (ap : ClsApart g cs) (hm : SD md) (ha : SndP g W n ta da) : SndE g W false md (tCallSD (spM g n md m) [] (WE W) ta) (dCall cs m da) := by
  refine ⟨(fun h => nomatch h), fun σ H ρ Z E Q A h => ?_⟩
  refine ha.run σ H ρ Z E _ A (R.sat_mono (R.sat_bind.mp h) (fun ps ρ1 he k vs H1 E1 A1 r1 t1 => ?_) fun c xs ρ1 k => k)
  show spM g n md m (vs ++ []) H1 Q (WE W σ)
  rw [List.append_nil]
  exact doCall_run ap A1 r1 (ha.len _ _ _ he) hm (R.sat_mono k (fun d ρ2 _ k v H' E' p t => k v H' E' p (t1.trans t fun _ h => h) fun h => nomatch h) fun c xs ρ2 k cls dd H' E' x A' t => k cls dd H' E' x A' (t1.trans t fun _ h => h))
/-- f(..) of values only -/
def dCall0 (m : Env → R D) (a : Env → R (List D)) : Env → R D := fun ρ => (a ρ).bind fun ds ρ1 => match m (ds.map fun d => some (Slot.sh d)) with
  | .ok d _ => .ok d ρ1
  | .exc c xs _ => .exc c xs ρ1
  | .stk => .stk
theorem snd_call0 {ta : TA} {pa : Bool} {da : Env → R (List D)} (hm : SD md) (ha : SndA g W pa n ta da) : SndE g W pa md (tCallSD (spM g n md m) [] (WE W) ta) (dCall0 m da) := by
  refine ⟨fun hp ρ d ρ' h => ?_, fun σ H ρ Z E Q A h => ?_⟩
  · obtain ⟨ds, ρ1, h1, h⟩ := R.bind_ok h
    split at h
    · cases h; exact ha.pure hp _ _ _ h1
    · cases h
    · cases h
  · refine ha.run σ H ρ Z E _ A (R.sat_mono (R.sat_bind.mp h) (fun ps ρ1 he k vs H1 E1 A1 r1 t1 s1 => ?_) fun c xs ρ1 k => k)
    show spM g n md m (vs ++ []) H1 Q (WE W σ)
    rw [List.append_nil]
    refine call_core0 A1 r1 (ha.len _ _ _ he) hm ?_
    revert k
    cases m (ps.map fun d => some (Slot.sh d)) with
    | ok d ρ' => exact fun k v H' E' p t s => k v H' E' p (t1.trans t fun _ h => h) fun hp => (s1 hp).trans s
    | exc c xs ρ' => exact fun k cls dd H' E' x A' t => k cls dd H' E' x A' (t1.trans t fun _ h => h)
    | stk => exact fun k => k
end

/-! ### o.m(..) -/
section
variable {X : Cx} {CX : CXT} {k : Nat} {f C : Addr} {fd : FuncData} {ps : List Str} {sp : Sp} {E : L2.St → XK} {x m : Str} {p pos apos : Pos} {e o : Expr} {es : List Expr} {ta : TE} {t : TA}
def tMethS (C : Addr) (m : Str) (sp : Sp) (E : L2.St → XK) (ta : TE) (t : TA) : TE := fun σ H Q => ta σ H fun x H1 => ∃ a dx fs, x = .ref a ∧ H1 a = some (.ins C dx fs) ∧ fs.lookup m = none ∧
  t σ H1 fun vs H2 => sp (x :: vs) H2 Q (E σ)
theorem pe_methS {pl : Sem Bool} (he : PE X o ta) (c : Cls X.K C) (hm : Meth X.K C m f) (F : FnOk X.prog X.w X.K X.mg X.base CX k f fd ps sp) (hr : Room k X.A) (hb : Binds X.K fd ps []) (hx : ∀ σ, PassesAt CX X σ (E σ)) (ha : PA X (e :: es) t)
    (hst : starEach (e :: es) X.env = (false, eval e X.env) :: starEach es X.env := by rfl) (hpl : (backTo pos (starEach es X.env)).any (·.1) = false := by rfl)
    (ht : eval (.Call (.Attribute o m apos) (e :: es) [] pos) X.env = (do
      let ov ← eval o X.env
      standAt apos.atName
      let (f, first) ← holding [ov] (getMethod ov m pl)
      callWith pos f first (backTo pos (starEach (e :: es) X.env)) (backToKw pos (keywordEach [] X.env))) := by rfl) :
    PE X (.Call (.Attribute o m apos) (e :: es) [] pos) (tMethS C m sp E ta t) := by
  refine ⟨fun pins s σ H Q I h => ?_⟩
  refine PySem.W.methodCall_KW (pl := pl) (thn (he.run pins s σ H _ I h) fun u s1 ⟨x, H1, I1, rx, a, dx, fs, ex, ea, l, q⟩ => ?_) ht
  subst ex
  obtain rfl : u = Value.ref a := rx
  refine getmeth_ok I1 ea c hm l ?_
  refine PySem.W.callWith_K (first := [.ref a]) (h₀ := X.base) I.ok.mod.kin hm.kp (thn (ha.run pos pins s1 σ H1 _ I1 q) fun us s2 ⟨vs, H2, I2, r, q2⟩ => ⟨I2.kIn, ?_⟩) hst hpl
  exact run_fnS (us := .ref a :: us) (vs := .ref a :: vs) F hr hb (hx σ) I2 (.cons rfl r) q2
theorem pe_methS0 {pl : Sem Bool} (he : PE X o ta) (c : Cls X.K C) (hm : Meth X.K C m f) (F : FnOk X.prog X.w X.K X.mg X.base CX k f fd ps sp) (hr : Room k X.A) (hb : Binds X.K fd ps []) (hx : ∀ σ, PassesAt CX X σ (E σ))
    (ht : eval (.Call (.Attribute o m apos) [] [] pos) X.env = (do
      let ov ← eval o X.env
      standAt apos.atName
      let (f, first) ← holding [ov] (getMethod ov m pl)
      callWith pos f first (backTo pos (starEach [] X.env)) (backToKw pos (keywordEach [] X.env))) := by rfl) :
    PE X (.Call (.Attribute o m apos) [] [] pos) (tMethS C m sp E ta tNil) := by
  refine ⟨fun pins s σ H Q I h => ?_⟩
  refine PySem.W.methodCall_KW (pl := pl) (thn (he.run pins s σ H _ I h) fun u s1 ⟨x, H1, I1, rx, a, dx, fs, ex, ea, l, q⟩ => ?_) ht
  subst ex
  obtain rfl : u = Value.ref a := rx
  refine getmeth_ok I1 ea c hm l ?_
  exact PySem.W.callWith_K0 (first := [.ref a]) I1.kIn hm.kp (run_fnS (us := [.ref a]) (vs := [.ref a]) F hr hb (hx σ) I1 (.cons rfl .nil) q)
/-- f() -/
theorem pe_callS0 (F : FnOk X.prog X.w X.K X.mg X.base CX k f fd ps sp) (hr : Room k X.A) (hg : Gl X x) (hm : X.mg x = some (.ref f)) (hk : PySem.W.keepIn X.K (.ref f) = true) (hb : Binds X.K fd ps []) (hx : ∀ σ, PassesAt CX X σ (E σ))
    (hdb : (x == ("__debug__" : Str)) = false := by decide) : PE X (.Call (.Name x p) [] [] pos) (tCallSD sp [] E tNil) := by
  refine ⟨fun pins s σ H Q I h => ?_⟩
  refine wpAny_Call_Name_kw (ld_glob I hg hm ?_ hdb)
  exact PySem.W.callWith_K0 I.kIn hk (run_fnS (us := []) F hr hb (hx σ) I .nil h)
/-! ### C(..) -/
def tMakeS (C : Addr) (sp : Sp) (E : L2.St → XK) (t : TA) : TE := fun σ H Q => t σ H fun vs H1 => ∀ x dx, H1 x = none → H1 dx = none → dx ≠ x →
  sp (.ref x :: vs) (upd (upd H1 dx (.own x)) x (.ins C dx [])) (fun v H2 => v = .non ∧ Q (.ref x) H2) (E σ)
theorem run_makeS {pins : List (Addr × Obj)} {σ : L2.St} {H : Hp} {s : Shared} {Q : VK} {us : List Value} {vs : List V} (M : Mk X.K C f) (F : FnOk X.prog X.w X.K X.mg X.base CX k f fd ps sp) (hr : Room (k + 1) X.A) (hb : Binds X.K fd ps [])
    (hx : ∀ σ, PassesAt CX X σ (E σ)) (I : Inv X pins σ H s) (r : Vals vs us)
    (h : ∀ x dx, H x = none → H dx = none → dx ≠ x → sp (.ref x :: vs) (upd (upd H dx (.own x)) x (.ins C dx [])) (fun v H2 => v = .non ∧ Q (.ref x) H2) (E σ)) :
    wpAny (model X.prog X.w) X.A (call (.ref C) us) (EP X pins σ Q) X.xe s := by
  have hq := h (s.heap.objs.size + 1) s.heap.objs.size (I.hok.fresh (Nat.le_succ _)) (I.hok.fresh (Nat.le_refl _)) (Nat.ne_of_lt (Nat.lt_succ_self _))
  have I2 := Inv.made (C := C) I
  have r2 : Vals (V.ref (s.heap.objs.size + 1) :: vs) (Value.ref (s.heap.objs.size + 1) :: us) := .cons rfl r
  have hl : ((Value.ref (s.heap.objs.size + 1) :: us) ++ []).length = ps.length := by
    have e := r2.length
    rw [F.len _ _ _ _ hq] at e
    rw [List.append_nil]
    exact e.symm
  have b := hb _ (Value.ref (s.heap.objs.size + 1) :: us) I2.kIn hl
  rw [List.append_nil] at b
  refine wpAny_call (make_map (f := f) I.kIn M.makes M.init (beq_iff_eq.mp M.fn) (codeAny_mono (F.run _ X.stack _ _ ⟨Value.ref (s.heap.objs.size + 1) :: us, []⟩ (Value.ref (s.heap.objs.size + 1) :: us) _ _ (E σ) (hr.make C us [])
    (I2.env0.make C us []) b r2 hq) fun r s' hq' => ?_))
  cases r with
  | error e => exact hx σ pins _ _ e s' I2 hq'
  | ok fl =>
    cases fl with
    | ret u =>
      obtain ⟨v, H', I3, rv, ev, q3⟩ := I2.after hq'
      subst ev
      exact ⟨rv, ⟨V.ref (s.heap.objs.size + 1), H', I3, rfl, q3⟩⟩
    | next => exact False.elim hq'
    | brk => exact False.elim hq'
    | cont => exact False.elim hq'
theorem pe_makeS (M : Mk X.K C f) (F : FnOk X.prog X.w X.K X.mg X.base CX k f fd ps sp) (hr : Room (k + 1) X.A) (hg : Gl X x) (hm : X.mg x = some (.ref C)) (hb : Binds X.K fd ps []) (hx : ∀ σ, PassesAt CX X σ (E σ))
    (ha : PA X (e :: es) t) (hdb : (x == ("__debug__" : Str)) = false := by decide) (he : starEach (e :: es) X.env = (false, eval e X.env) :: starEach es X.env := by rfl) (hpl : (backTo pos (starEach es X.env)).any (·.1) = false := by rfl) :
    PE X (.Call (.Name x p) (e :: es) [] pos) (tMakeS C sp E t) := by
  refine ⟨fun pins s σ H Q I h => ?_⟩
  refine wpAny_Call_Name_kw (ld_glob I hg hm ?_ hdb)
  refine PySem.W.callWith_K (h₀ := X.base) I.ok.mod.kin M.kp (thn (ha.run pos pins s σ H _ I h) fun us s1 ⟨vs, H1, I1, r, q⟩ => ⟨I1.kIn, ?_⟩) he hpl
  exact run_makeS M F hr hb hx I1 r q
theorem pe_makeS0 (M : Mk X.K C f) (F : FnOk X.prog X.w X.K X.mg X.base CX k f fd ps sp) (hr : Room (k + 1) X.A) (hg : Gl X x) (hm : X.mg x = some (.ref C)) (hb : Binds X.K fd ps []) (hx : ∀ σ, PassesAt CX X σ (E σ))
    (hdb : (x == ("__debug__" : Str)) = false := by decide) : PE X (.Call (.Name x p) [] [] pos) (tMakeS C sp E tNil) := by
  refine ⟨fun pins s σ H Q I h => ?_⟩
  refine wpAny_Call_Name_kw (ld_glob I hg hm ?_ hdb)
  exact PySem.W.callWith_K0 I.kIn M.kp (run_makeS (us := []) M F hr hb hx I .nil h)
end
end DL
/-! DL10 -/
set_option Elab.async false
set_option linter.all false
set_option maxRecDepth 100000
set_option maxHeartbeats 1000000
namespace DL
open PySem PySem.Spec PyProof.Rows L2

/-! ### fields -/
def getF : List Str → List D → Str → Option D
  | g :: gs, d :: ds, f => if f = g then some d else getF gs ds f
  | _, _, _ => none
def putFs : List Str → Str → List Str
  | [], f => [f]
  | g :: gs, f => if f = g then g :: gs else g :: putFs gs f
def putFd : List Str → List D → Str → D → List D
  | [], [], f, d => [d]
  | g :: gs, x :: xs, f, d => if f = g then d :: xs else x :: putFd gs xs f d
  | _, xs, _, _ => xs
/-- what is known of classes and of their instances' names -/
def FldOk (g : Gx) (tab : List (Str × List Str)) : Prop := ∀ c f, (tab.any fun p => decide (p.1 = c) && decide (f ∈ p.2)) = true → Cls g.K (g.cl c) ∧ NoAttr g.K (g.cl c) f
def tabOk (tab : List (Str × List Str)) (c f : Str) : Bool := tab.any fun p => decide (p.1 = c) && decide (f ∈ p.2)
theorem lookup_cons {α : Type} {f g : Str} {v : α} {r : List (Str × α)} : ((g, v) :: r).lookup f = if f = g then some v else r.lookup f := by
  rw [List.lookup_cons]
  by_cases h : f = g
  · subst h; simp
  · simp [h, beq_false_of_ne h]
section
variable {g : Gx} {W : WX} {Z E : Addr → Prop} {ρ ρa : Env} {σ : L2.St} {H : Hp} {pre : List Pre} {vs : List V} {cs : List Str} {n : Nat} {md : Md} {m : Env → R D} {tab : List (Str × List Str)}
theorem getF_val : ∀ {fs : List Str} {ds : List D} {vs : List V} {F : List Addr} {f : Str} {d : D}, fs.length = vs.length → RepL g H E ds vs F → getF fs ds f = some d → ∃ v F', (fs.zip vs).lookup f = some v ∧ Rep g H E d v F' ∧ ∀ a ∈ F', a ∈ F
  | [], ds, vs, F, f, d, hl, r, h => by unfold getF at h; cases h
  | c :: fs, [], vs, F, f, d, hl, r, h => by unfold getF at h; cases h
  | c :: fs, x :: ds, vs, F, f, d, hl, r, h => by
    unfold RepL at r
    obtain ⟨v, vr, F1, F2, rfl, rfl, r1, r2⟩ := r
    unfold getF at h
    by_cases e : f = c
    · rw [if_pos e] at h
      cases h
      exact ⟨v, F1, by rw [List.zip_cons_cons, lookup_cons, if_pos e], r1, fun a h => List.mem_append_left _ h⟩
    · rw [if_neg e] at h
      obtain ⟨v', F', a1, a2, a3⟩ := getF_val (Nat.succ.inj hl) r2 h
      exact ⟨v', F', by rw [List.zip_cons_cons, lookup_cons, if_neg e]; exact a1, a2, fun a h => List.mem_append_right _ (a3 a h)⟩
theorem RepL.sub0 {d : D} {v : V} {F : List Addr} (h : Rep g H E d v F) (e : ∀ a ∈ F, a ∈ ([] : List Addr)) : Rep g H E d v [] := by
  cases F with
  | nil => exact h
  | cons a F => exact nomatch e a List.mem_cons_self
def fFld (tab : List (Str × List Str)) (f : Str) : D → P D
  | .ins _ c fs ds => if tabOk tab c f = true then (match getF fs ds f with | some d => .ok d | none => .stk) else .stk
  | _ => .stk
def dFld (tab : List (Str × List Str)) (f : Str) (a : Env → R D) : Env → R D := fun ρ => (a ρ).bind fun d ρ1 => (fFld tab f d).at ρ1
theorem snd_fld {ta : TE} {pa : Bool} {ma : Md} {da : Env → R D} {f : Str} (tb : FldOk g tab) (ha : SndE g W pa ma ta da) (oa : SQ ma) : SndE g W pa .S (tFld g.K ta f) (dFld tab f da) := by
  refine ⟨fun hp ρ d ρ' h => ?_, fun σ H ρ Z E Q A h => ?_⟩
  · obtain ⟨d1, ρ1, h1, h⟩ := R.bind_ok h
    rw [(P.at_ok h).2, ha.pure hp _ _ _ h1]
  · refine ha.run σ H ρ Z E _ A (R.sat_mono (R.sat_bind.mp h) (fun d ρ1 he k v H1 E1 p1 t1 s1 => ?_) fun c xs ρ1 k => k)
    have r1 := p1.rep1 oa
    have k := P.sat_at.mp k
    unfold fFld at k
    split at k
    · rename_i o c fs ds _
      split at k
      · rename_i ok
        obtain ⟨a, dx, vs, rfl, h1, hl, r⟩ := r1
        split at k
        · rename_i d' q
          obtain ⟨v', F', a1, a2, a3⟩ := getF_val hl r q
          exact ⟨a, _, dx, _, v', rfl, h1, (tb c f ok).1, (tb c f ok).2, a1, k v' H1 E1 ⟨p1.env oa, RepL.sub0 a2 a3⟩ t1 s1⟩
        · exact k.elim
      · exact k.elim
    · exact k.elim

/-! ### o.m(..) -/
def isRecv (c mn : Str) : D → Bool
  | .ins _ c' fs _ => decide (c' = c) && decide (mn ∉ fs)
  | _ => false
theorem zip_lookup_none : ∀ {fs : List Str} {vs : List V} {f : Str}, f ∉ fs → (fs.zip vs).lookup f = none
  | [], vs, f, h => rfl
  | c :: fs, [], f, h => rfl
  | c :: fs, v :: vs, f, h => by
    have ne : f ≠ c := fun e => h (by rw [e]; exact List.mem_cons_self)
    rw [List.zip_cons_cons, lookup_cons, if_neg ne]
    exact zip_lookup_none fun q => h (List.mem_cons_of_mem _ q)
theorem recv_val {c mn : Str} {d : D} {v : V} (h : isRecv c mn d = true) (r : Rep1 g H E d v ∨ ∃ F, Rep g H E d v F) : ∃ a dx fs, v = .ref a ∧ H a = some (.ins (g.cl c) dx fs) ∧ fs.lookup mn = none := by
  unfold isRecv at h
  split at h
  · rename_i o c' fs ds
    have e1 := of_decide_eq_true (and_l h)
    subst e1
    have e2 := of_decide_eq_true (and_r h)
    rcases r with r | ⟨F, r⟩
    · obtain ⟨a, dx, vs, rfl, h1, hl, r⟩ := r
      exact ⟨a, dx, _, rfl, h1, zip_lookup_none e2⟩
    · cases o with
      | true => unfold Rep at r; obtain ⟨a, dx, vs, F1, rfl, h1, hl, _, r⟩ := r; exact ⟨a, dx, _, rfl, h1, zip_lookup_none e2⟩
      | false => unfold Rep at r; obtain ⟨a, dx, vs, rfl, h1, hl, _, _, r⟩ := r; exact ⟨a, dx, _, rfl, h1, zip_lookup_none e2⟩
  · cases h
def run0 (m : Env → R D) (ds : List D) (ρ1 : Env) : R D := match m (ds.map fun d => some (Slot.sh d)) with
  | .ok d _ => .ok d ρ1
  | .exc c xs _ => .exc c xs ρ1
  | .stk => .stk
theorem dCall0_eq {a : Env → R (List D)} {ρ : Env} : dCall0 m a ρ = (a ρ).bind fun ds ρ1 => run0 m ds ρ1 := rfl
theorem run0_ok {ds : List D} {ρ1 ρ2 : Env} {d : D} (h : run0 m ds ρ1 = .ok d ρ2) : ρ2 = ρ1 := by
  unfold run0 at h
  split at h <;> cases h
  rfl
def dMeth0 (c mn : Str) (m : Env → R D) (o : Env → R D) (a : Env → R (List D)) : Env → R D := fun ρ => (o ρ).bind fun x ρ1 => if isRecv c mn x = true then (a ρ1).bind fun ds ρ2 => run0 m (x :: ds) ρ2 else .stk
theorem snd_meth0 {te : TE} {ta : TA} {po pa : Bool} {c mn : Str} {dob : Env → R D} {da : Env → R (List D)} (hm : SD md) (ho : SndE g W po .S te dob) (ha : SndA g W pa n ta da) :
    SndE g W (po && pa) md (tMethS (g.cl c) mn (spM g (n + 1) md m) (WE W) te ta) (dMeth0 c mn m dob da) := by
  refine ⟨fun hp ρ d ρ' h => ?_, fun σ H ρ Z E Q A h => ?_⟩
  · obtain ⟨x, ρ1, h1, h⟩ := R.bind_ok h
    split at h
    · obtain ⟨ds, ρ2, h2, h⟩ := R.bind_ok h
      rw [run0_ok h, ha.pure (and_r hp) _ _ _ h2, ho.pure (and_l hp) _ _ _ h1]
    · cases h
  · refine ho.run σ H ρ Z E _ A (R.sat_mono (R.sat_bind.mp h) (fun x ρ1 he k v H1 E1 p1 t1 s1 => ?_) fun c xs ρ1 k => k)
    split at k
    · rename_i rv
      obtain ⟨a, dx, fs, e, h1, h2⟩ := recv_val (g := g) (H := H1) (E := E1) rv (.inr ⟨[], p1.2⟩)
      refine ⟨a, dx, fs, e, h1, h2, ?_⟩
      refine ha.run σ H1 ρ1 Z E1 _ p1.1 (R.sat_mono (R.sat_bind.mp k) (fun ds ρ2 he2 k2 vs H2 E2 A2 r2 t2 s2 => ?_) fun c xs ρ2 k2 cls dd H2 E2 x A2 t2 => k2 cls dd H2 E2 x A2 (t1.trans t2 fun _ h => h))
      have rx : Rep g H2 E2 x v [] := p1.2.keep (t2.kp p1.1.ki fun _ h => nomatch h)
      have t12 := t1.trans t2 fun _ h => h
      refine call_core0 (ds := x :: ds) A2 (RepL.cons0 rx r2) (by rw [List.length_cons, ha.len _ _ _ he2]) hm ?_
      unfold run0 at k2
      revert k2
      cases m ((x :: ds).map fun d => some (Slot.sh d)) with
      | ok d ρ' => exact fun k v H' E' p t s => k v H' E' p (t12.trans t fun _ h => h) fun hp => ((s1 (and_l hp)).trans (s2 (and_r hp))).trans s
      | exc c xs ρ' => exact fun k cls dd H' E' x A' t => k cls dd H' E' x A' (t12.trans t fun _ h => h)
      | stk => exact fun k => k
    · exact k.elim
def slotDat : Option (Option Slot) → Option D
  | some (some (.sh d)) => some d
  | some (some (.dp d)) => some d
  | _ => none
def preD (ρ : Env) : Pre → Option D
  | .v d => some d
  | .q i => slotDat (ρ[i]?)
  | .io i => slotDat (ρ[i]?)
theorem preD_rep {p : Pre} {v : V} {d : D} (A : EnvAt g Z E ρ σ H) (hp : PreRep g H E σ p v) (h : preD ρ p = some d) : ∃ F, Rep g H E d v F := by
  have key : ∀ i, σ[i]? = some (some v) → slotDat (ρ[i]?) = some d → ∃ F, Rep g H E d v F := fun i e q => by
    obtain ⟨Fs, B⟩ := A
    unfold slotDat at q
    split at q
    · rename_i d' e'
      cases q
      obtain ⟨w, a, b⟩ := B.row i _ e'
      rw [e] at a
      cases a
      exact ⟨[], b.2⟩
    · rename_i d' e'
      cases q
      obtain ⟨w, a, b⟩ := B.row i _ e'
      rw [e] at a
      cases a
      exact ⟨_, b⟩
    · cases q
  cases p with
  | v d' => cases h; exact ⟨[], hp⟩
  | q i => exact key i hp h
  | io i => exact key i hp h
def dMeth (cs : List Str) (c mn : Str) (m : Env → R D) (o : Env → R Pre) (a : Env → R (List Pre)) : Env → R D := fun ρ => (o ρ).bind fun p ρ1 => match preD ρ1 p with
  | some x => if isRecv c mn x = true then (a ρ1).bind fun ps ρ2 => doCall cs m (p :: ps) ρ2 else .stk
  | none => .stk
theorem snd_meth {te : TE} {ta : TA} {c mn : Str} {dob : Env → R Pre} {da : Env → R (List Pre)} (ap : ClsApart g cs) (hm : SD md) (ho : SndP1 g W te dob) (ha : SndP g W n ta da) :
    SndE g W false md (tMethS (g.cl c) mn (spM g (n + 1) md m) (WE W) te ta) (dMeth cs c mn m dob da) := by
  refine ⟨(fun h => nomatch h), fun σ H ρ Z E Q A h => ?_⟩
  refine ho.run σ H ρ Z E _ A (R.sat_mono (R.sat_bind.mp h) (fun p ρ1 he k v H1 E1 A1 r1 t1 => ?_) fun c xs ρ1 k => k)
  split at k
  · rename_i x ex
    split at k
    · rename_i rv
      obtain ⟨a, dx, fs, e, h1, h2⟩ := recv_val (g := g) (H := H1) (E := E1) rv (.inr (preD_rep A1 r1 ex))
      refine ⟨a, dx, fs, e, h1, h2, ?_⟩
      refine ha.run σ H1 ρ1 Z E1 _ A1 (R.sat_mono (R.sat_bind.mp k) (fun ps ρ2 he2 k2 vs H2 E2 A2 r2 t2 => ?_) fun c xs ρ2 k2 cls dd H2 E2 x A2 t2 => k2 cls dd H2 E2 x A2 (t1.trans t2 fun _ h => h))
      have rx : PreRep g H2 E2 σ p v := r1.keep (t2.kp A1.ki fun _ h => nomatch h)
      have t12 := t1.trans t2 fun _ h => h
      exact doCall_run ap A2 (pre := p :: ps) (vs := v :: vs) ⟨v, vs, rfl, rx, r2⟩ (by rw [List.length_cons, ha.len _ _ _ he2]) hm (R.sat_mono k2 (fun d ρ2 _ k v H' E' p t => k v H' E' p (t12.trans t fun _ h => h) fun h => nomatch h) fun c xs ρ2 k cls dd H' E' x A' t => k cls dd H' E' x A' (t12.trans t fun _ h => h))
    · exact k.elim
  · exact k.elim

/-! ### C(..) -/
def make0 (c : Str) (m : Env → R D) (ds : List D) (ρ1 : Env) : R D := match m (some (Slot.dp (.ins true c [] [])) :: ds.map fun d => some (Slot.sh d)) with
  | .ok .non (some (.dp d) :: _) => .ok d ρ1
  | .exc c xs _ => .exc c xs ρ1
  | _ => .stk
theorem make0_ok {c : Str} {ds : List D} {ρ1 ρ2 : Env} {d : D} (h : make0 c m ds ρ1 = .ok d ρ2) : ρ2 = ρ1 := by
  unfold make0 at h
  split at h <;> cases h
  rfl
theorem make_core0 {c : Str} {ds : List D} {x dx : Addr} (A : EnvAt g Z E ρ σ H) (hp : RepL g H E ds vs []) (hn : ds.length = n) (hx : H x = none) (hdx : H dx = none) (hne : dx ≠ x) {Q : VK} {X : XK}
    (h : (make0 c m ds ρ).sat (fun d ρ2 => ∀ v H' E', Post .D g Z E' ρ2 σ H' d v → Tr Z H E H' E' → Same H H' → Q v H') (fun c xs ρ2 => ∀ cls dd H' E', ExcAt g H' E' c xs cls dd → EnvAt g Z E' ρ2 σ H' → Tr Z H E H' E' → X cls dd H')) :
    spM g (n + 1) .S m (.ref x :: vs) (upd (upd H dx (.own x)) x (.ins (g.cl c) dx [])) (fun v H2 => v = .non ∧ Q (.ref x) H2) X := by
  obtain ⟨Fs, B⟩ := A
  have hl := hp.len
  have s0 : Same H (upd (upd H dx (.own x)) x (.ins (g.cl c) dx [])) := fun a o e => by
    rw [upd_ne (ne_of_none e hx), upd_ne (ne_of_none e hdx)]; exact e
  have e0 : ∀ a, more [x] E a → E a ∨ H a = none := fun a h => by
    rcases h with h | h
    · rw [List.mem_singleton.mp h]; exact .inr hx
    · exact .inl h
  have xE : ¬ E x := fun z => mutAt_ne (B.ki x z) hx
  have hx' : upd (upd H dx (.own x)) x (.ins (g.cl c) dx []) x = some (.ins (g.cl c) dx []) := upd_same
  generalize upd (upd H dx (.own x)) x (.ins (g.cl c) dx []) = H0 at s0 hx'
  have envc : EnvAt g E (more [x] E) (some (Slot.dp (.ins true c [] [])) :: ds.map fun d => some (Slot.sh d)) ((V.ref x :: vs).map some) H0 := by
    refine ⟨fun k => if k = 0 then [x] else [], fun a => ?_, fun k s q => ?_, fun k h => ?_, fun k => ?_, fun i j a hi hj => ?_, fun i a h z => ?_, fun a h => ?_, by simp [hl]⟩
    · constructor
      · rintro (h | h)
        · exact .inl ⟨0, by simpa using h⟩
        · exact .inr h
      · rintro (⟨k, h⟩ | h)
        · split at h
          · exact .inl h
          · cases h
        · exact .inr h
    · cases k with
      | zero =>
        simp at q
        subst q
        exact ⟨.ref x, rfl, by rw [if_pos rfl]; unfold SlotRep Rep; exact ⟨x, dx, [], [], rfl, hx', rfl, rfl, RepL.nil⟩⟩
      | succ k =>
        rw [List.getElem?_cons_succ, List.getElem?_map] at q
        cases e : ds[k]? with
        | none => rw [e] at q; cases q
        | some d =>
          rw [e] at q
          cases q
          obtain ⟨v, a, b⟩ := hp.get e
          exact ⟨v, by rw [List.map_cons, List.getElem?_cons_succ, List.getElem?_map, a]; rfl, by rw [if_neg (Nat.succ_ne_zero k)], b.keep (Kp.same s0 e0)⟩
    · cases k with
      | zero => exact absurd rfl (h _)
      | succ k => rw [if_neg (Nat.succ_ne_zero k)]
    · split
      · simp
      · exact List.nodup_nil
    · split at hi
      · split at hj
        · omega
        · cases hj
      · cases hi
    · split at h
      · rw [List.mem_singleton.mp h] at z; exact xE z
      · cases h
    · rcases h with h | h
      · rw [List.mem_singleton.mp h]; exact ⟨_, hx', rfl⟩
      · exact mutAt_mono s0 (B.ki a h)
  refine ⟨by simp [hl, hn], _, E, _, envc, ?_⟩
  unfold make0 at h
  revert h
  cases q : m (some (Slot.dp (.ins true c [] [])) :: ds.map fun d => some (Slot.sh d)) with
  | stk => exact fun h => h
  | exc c xs ρ' =>
    intro k cls dd H' E' x' A' t
    have s : Same H H' := fun a o e => t.k a o (s0 a o e) (by
      by_cases z : more [x] E a
      · rcases z with z | z
        · rw [List.mem_singleton.mp z, hx] at e; cases e
        · exact .inr z
      · exact .inl z)
    refine k cls dd H' E ?_ (EnvAt.same ⟨Fs, B⟩ s) ⟨fun a o h _ => s a o h, fun a h => .inl h⟩
    unfold ExcAt at x' ⊢
    refine ⟨x'.1, ?_⟩
    have x2 := x'.2
    cases xs with
    | nil => exact x2
    | cons y r =>
      obtain ⟨a, ws, e1, e3, e4, e5⟩ := x2
      obtain ⟨Fs', B'⟩ := A'
      exact ⟨a, ws, e1, e3, e4, e5.keep (Kp.same (fun _ _ h => h) fun a h => .inl ((B'.iff a).mpr (.inr h)))⟩
  | ok d ρ' =>
    intro k
    split at k
    · rename_i _ d' tl e
      cases e
      intro v H' E' p t
      refine ⟨by have := p.2; unfold Rep at this; exact this.1, ?_⟩
      have s : Same H H' := fun a o e => t.k a o (s0 a o e) (by
        by_cases z : more [x] E a
        · rcases z with z | z
          · rw [List.mem_singleton.mp z, hx] at e; cases e
          · exact .inr z
        · exact .inl z)
      obtain ⟨Fs', B'⟩ := p.1
      obtain ⟨w, a1, r⟩ := B'.row 0 _ (show (some (Slot.dp d') :: tl)[0]? = _ from rfl)
      cases a1
      have r : Rep g H' E' d' (.ref x) (Fs' 0) := r
      have FE' : ∀ a ∈ Fs' 0, E' a := fun a h => (B'.iff a).mpr (.inl ⟨0, h⟩)
      have EE' : ∀ a, E a → E' a := fun a h => (B'.iff a).mpr (.inr h)
      have sub : ∀ a, more (Fs' 0) E a → E' a := fun a h => h.elim (FE' a) (EE' a)
      have newF : ∀ a ∈ Fs' 0, H a = none := fun a h => by
        rcases t.e a (FE' a h) with z | z
        · rcases z with z | z
          · rw [List.mem_singleton.mp z]; exact hx
          · exact absurd z (B'.dz 0 a h)
        · cases q' : H a with
          | none => rfl
          | some o => rw [s0 a o q'] at z; cases z
      refine k _ H' (more (Fs' 0) E) ⟨Fs' 0, ⟨Fs, fun a => ?_, fun i s' q => let ⟨v, a, b⟩ := B.row i s' q; ⟨v, a, b.keep (Kp.same s fun a h => ?_)⟩, B.emp, B.nd, B.dj, fun i a h z => ?_, fun a h => B'.ki a (sub a h), B.len⟩, r.keep (Kp.same (fun _ _ h => h) fun a h => .inl (sub a h)), B'.nd 0, fun a h z => ?_⟩ ⟨fun a o h _ => s a o h, fun a h => ?_⟩ s
      · constructor
        · rintro (h | h)
          · exact .inr (.inl h)
          · rcases (B.iff a).mp h with h | h
            · exact .inl h
            · exact .inr (.inr h)
        · rintro (h | h | h)
          · exact .inr ((B.iff a).mpr (.inl h))
          · exact .inl h
          · exact .inr ((B.iff a).mpr (.inr h))
      · rcases h with h | h
        · exact .inr (newF a h)
        · exact .inl h
      · rcases z with z | z
        · exact mutAt_ne (B.ki a ((B.iff a).mpr (.inl ⟨i, h⟩))) (newF a z)
        · exact B.dz i a h z
      · exact mutAt_ne (B.ki a ((B.iff a).mpr (.inr z))) (newF a h)
      · rcases h with h | h
        · exact .inr (newF a h)
        · exact .inl h
    · rename_i e; cases e
    · exact k.elim
def dMake0 (c : Str) (m : Env → R D) (a : Env → R (List D)) : Env → R D := fun ρ => (a ρ).bind fun ds ρ1 => make0 c m ds ρ1
theorem snd_make0 {ta : TA} {pa : Bool} {c : Str} {da : Env → R (List D)} (ha : SndA g W pa n ta da) : SndE g W pa .D (tMakeS (g.cl c) (spM g (n + 1) .S m) (WE W) ta) (dMake0 c m da) := by
  refine ⟨fun hp ρ d ρ' h => ?_, fun σ H ρ Z E Q A h => ?_⟩
  · obtain ⟨ds, ρ1, h1, h⟩ := R.bind_ok h
    rw [make0_ok h, ha.pure hp _ _ _ h1]
  · refine ha.run σ H ρ Z E _ A (R.sat_mono (R.sat_bind.mp h) (fun ds ρ1 he k vs H1 E1 A1 r1 t1 s1 x dx hx hdx hne => ?_) fun c xs ρ1 k => k)
    exact make_core0 A1 r1 (ha.len _ _ _ he) hx hdx hne (R.sat_mono k (fun d ρ2 _ k v H' E' p t s => k v H' E' p (t1.trans t fun _ h => h) fun hp => (s1 hp).trans s) fun c xs ρ2 k cls dd H' E' x A' t => k cls dd H' E' x A' (t1.trans t fun _ h => h))
end
end DL
/-! DL11 -/
set_option Elab.async false
set_option linter.all false
set_option maxRecDepth 100000
set_option maxHeartbeats 1000000
namespace DL
open PySem PySem.Spec PyProof.Rows L2

/-! ### places within what a name holds -/
inductive Stp where
  | fld (f : Str)
  | at (e : D)
def idxF : List Str → Str → Option Nat
  | [], _ => none
  | g :: gs, f => if f = g then some 0 else (idxF gs f).map (· + 1)
def idxK : List Key → Key → Option Nat
  | [], _ => none
  | g :: gs, f => if g = f then some 0 else (idxK gs f).map (· + 1)
def kids : D → List D
  | .lst _ xs => xs
  | .tup xs => xs
  | .dic _ _ xs => xs
  | .ins _ _ _ xs => xs
  | _ => []
def withK : D → List D → D
  | .lst o _, xs => .lst o xs
  | .tup _, xs => .tup xs
  | .dic o ks _, xs => .dic o ks xs
  | .ins o c fs _, xs => .ins o c fs xs
  | d, _ => d
def canPut : D → Bool
  | .lst o _ => o
  | .tup _ => true
  | .dic o _ _ => o
  | .ins o _ _ _ => o
  | _ => false
def intOf : D → Option Int
  | .int i => some i
  | _ => none
def idx1 (tab : List (Str × List Str)) (s : Stp) (d : D) : Option Nat := match s, d with
  | .fld f, .ins _ c fs _ => if tabOk tab c f = true then idxF fs f else none
  | .at e, .lst _ xs => (intOf e).bind (ixN xs.length)
  | .at e, .tup xs => (intOf e).bind (ixN xs.length)
  | .at e, .dic _ ks _ => (toKey e).bind (idxK ks)
  | _, _ => none
/-- the last step stands first -/
def focusR (tab : List (Str × List Str)) (d : D) : List Stp → Option D
  | [] => some d
  | s :: r => (focusR tab d r).bind fun p => (idx1 tab s p).bind fun k => (kids p)[k]?
def putR (tab : List (Str × List Str)) (d : D) : List Stp → D → Option D
  | [], x => some x
  | s :: r, x => (focusR tab d r).bind fun p => (idx1 tab s p).bind fun k => if canPut p = true then putR tab d r (withK p ((kids p).set k x)) else none
def Loc1 (g : Gx) (H : Hp) (v : V) (s : Stp) (v' : V) : Prop := match s with
  | .fld f => ∃ a C dx fs, v = .ref a ∧ H a = some (.ins C dx fs) ∧ Cls g.K C ∧ NoAttr g.K C f ∧ fs.lookup f = some v'
  | .at e => (∃ a vs i, v = .ref a ∧ e = .int i ∧ H a = some (.lst vs) ∧ atI vs i = some v') ∨ (∃ a vs i, v = .ref a ∧ e = .int i ∧ Rd H a (.tup vs) ∧ atI vs i = some v') ∨
      ∃ a kvs k, v = .ref a ∧ toKey e = some k ∧ Rd H a (.dK kvs) ∧ valV kvs k = some v'
def LocAt (g : Gx) (H : Hp) (v0 : V) : List Stp → V → Prop
  | [], v => v = v0
  | s :: r, v => ∃ x, LocAt g H v0 r x ∧ Loc1 g H x s v
section
variable {g : Gx} {W : WX} {Z E E' : Addr → Prop} {ρ : Env} {σ : L2.St} {H H' : Hp} {F : List Addr} {tab : List (Str × List Str)} {v : V} {d : D}
theorem Loc1.mono {s : Stp} {v' : V} (h : Loc1 g H v s v') (k : Same H H') : Loc1 g H' v s v' := by
  cases s with
  | fld f => obtain ⟨a, C, dx, fs, e, h1, c, n, l⟩ := h; exact ⟨a, C, dx, fs, e, k _ _ h1, c, n, l⟩
  | «at» e =>
    rcases h with ⟨a, vs, i, e1, e2, h1, h2⟩ | ⟨a, vs, i, e1, e2, h1, h2⟩ | ⟨a, kvs, kk, e1, e2, h1, h2⟩
    · exact .inl ⟨a, vs, i, e1, e2, k _ _ h1, h2⟩
    · exact .inr (.inl ⟨a, vs, i, e1, e2, Rd.keep h1 fun o e => k _ _ e, h2⟩)
    · exact .inr (.inr ⟨a, kvs, kk, e1, e2, Rd.keep h1 fun o e => k _ _ e, h2⟩)
theorem LocAt.mono {v0 : V} (k : Same H H') : ∀ {st : List Stp} {v' : V}, LocAt g H v0 st v' → LocAt g H' v0 st v'
  | [], v', h => h
  | s :: r, v', ⟨x, h, h1⟩ => ⟨x, LocAt.mono k h, h1.mono k⟩
theorem Rd.det {a : Addr} {u u' : HO} (h : Rd H a u) (h' : Rd H a u') (hu : ∀ o x, u ≠ .frz o x) (hu' : ∀ o x, u' ≠ .frz o x) : u = u' := by
  rcases h with h | ⟨o, h⟩ <;> rcases h' with h' | ⟨o', h'⟩ <;> rw [h] at h' <;> cases h' <;> first | rfl | exact absurd rfl (hu _ _) | exact absurd rfl (hu' _ _)
theorem Loc1.det {s : Stp} {v1 v2 : V} (h : Loc1 g H v s v1) (h' : Loc1 g H v s v2) : v1 = v2 := by
  cases s with
  | fld f =>
    obtain ⟨a, C, dx, fs, e, h1, c, n, l⟩ := h
    obtain ⟨a', C', dx', fs', e', h1', c', n', l'⟩ := h'
    rw [e] at e'
    cases e'
    rw [h1] at h1'
    cases h1'
    rw [l] at l'
    exact Option.some.inj l'
  | «at» x =>
    rcases h with ⟨a, vs, i, e1, e2, h1, h2⟩ | ⟨a, vs, i, e1, e2, h1, h2⟩ | ⟨a, kvs, kk, e1, e2, h1, h2⟩ <;>
    rcases h' with ⟨a', vs', i', e1', e2', h1', h2'⟩ | ⟨a', vs', i', e1', e2', h1', h2'⟩ | ⟨a', kvs', kk', e1', e2', h1', h2'⟩ <;> rw [e1] at e1' <;> cases e1'
    · rw [h1] at h1'
      cases h1'
      rw [e2] at e2'
      cases e2'
      rw [h2] at h2'
      exact Option.some.inj h2'
    · rcases h1' with h1' | ⟨o, h1'⟩ <;> (rw [h1] at h1'; cases h1')
    · rcases h1' with h1' | ⟨o, h1'⟩ <;> (rw [h1] at h1'; cases h1')
    · rcases h1 with h1 | ⟨o, h1⟩ <;> (rw [h1] at h1'; cases h1')
    · have z := Rd.det h1 h1' (fun _ _ z => by cases z) (fun _ _ z => by cases z)
      cases z
      rw [e2] at e2'
      cases e2'
      rw [h2] at h2'
      exact Option.some.inj h2'
    · have z := Rd.det h1 h1' (fun _ _ z => by cases z) (fun _ _ z => by cases z)
      cases z
    · rcases h1 with h1 | ⟨o, h1⟩ <;> (rw [h1] at h1'; cases h1')
    · have z := Rd.det h1 h1' (fun _ _ z => by cases z) (fun _ _ z => by cases z)
      cases z
    · have z := Rd.det h1 h1' (fun _ _ z => by cases z) (fun _ _ z => by cases z)
      cases z
      rw [e2] at e2'
      cases e2'
      rw [h2] at h2'
      exact Option.some.inj h2'
theorem LocAt.det {v0 : V} : ∀ {st : List Stp} {v1 v2 : V}, LocAt g H v0 st v1 → LocAt g H v0 st v2 → v1 = v2
  | [], v1, v2, h, h' => by rw [show v1 = v0 from h, show v2 = v0 from h']
  | s :: r, v1, v2, ⟨x, h, h1⟩, ⟨x', h', h1'⟩ => by
    have e := LocAt.det h h'
    subst e
    exact h1.det h1'
theorem RepL.lens : ∀ {ds : List D} {vs : List V} {F : List Addr} {k : Nat} {d' : D}, RepL g H E ds vs F → ds[k]? = some d' → ∃ v' F' Fr, vs[k]? = some v' ∧ Rep g H E d' v' F' ∧ F.Perm (F' ++ Fr) ∧
    ∀ H' E' d'' v'' F'', Kp H E H' E' Fr → Rep g H' E' d'' v'' F'' → ∃ F3, F3.Perm (F'' ++ Fr) ∧ RepL g H' E' (ds.set k d'') (vs.set k v'') F3
  | [], vs, F, k, d', r, h => by simp at h
  | d :: ds, vs, F, k, d', r, h => by
    unfold RepL at r
    obtain ⟨v, vr, F1, F2, rfl, rfl, r1, r2⟩ := r
    cases k with
    | zero =>
      simp at h
      subst h
      refine ⟨v, F1, F2, rfl, r1, .rfl, fun H' E' d'' v'' F'' k rr => ⟨F'' ++ F2, .rfl, ?_⟩⟩
      exact RepL.cons rr (RepL.keep k r2)
    | succ k =>
      obtain ⟨v', F', Fr, e, rr, pm, put⟩ := RepL.lens (k := k) r2 (by simpa using h)
      refine ⟨v', F', F1 ++ Fr, by simpa using e, rr, ?_, fun H' E' d'' v'' F'' kp rr' => ?_⟩
      · exact (pm.append_left F1).trans (by rw [← List.append_assoc, ← List.append_assoc]; exact List.Perm.append_right Fr List.perm_append_comm)
      · obtain ⟨F3, pm3, r3⟩ := put H' E' d'' v'' F'' (kp.sub fun a h => List.mem_append_right _ h) rr'
        refine ⟨F1 ++ F3, ?_, RepL.cons (Rep.keep (kp.sub fun a h => List.mem_append_left _ h) r1) r3⟩
        exact (pm3.append_left F1).trans (by rw [← List.append_assoc, ← List.append_assoc]; exact List.Perm.append_right Fr List.perm_append_comm)
theorem idxF_val {fs : List Str} {f : Str} {k : Nat} : ∀ {fs : List Str} {vs : List V} {k : Nat}, idxF fs f = some k → ∀ {v : V}, vs[k]? = some v → (fs.zip vs).lookup f = some v
  | [], vs, k, h, v, e => by cases h
  | c :: fs, [], k, h, v, e => by simp at e
  | c :: fs, x :: vs, k, h, v, e => by
    unfold idxF at h
    rw [List.zip_cons_cons, lookup_cons]
    by_cases q : f = c
    · rw [if_pos q] at h ⊢
      cases h
      exact e
    · rw [if_neg q] at h ⊢
      cases q2 : idxF fs f with
      | none => rw [q2] at h; cases h
      | some j =>
        rw [q2] at h
        cases h
        exact idxF_val (fs := fs) (k := j) q2 (by simpa using e)
theorem idxK_val {f : Key} : ∀ {fs : List Key} {vs : List V} {k : Nat}, idxK fs f = some k → ∀ {v : V}, vs[k]? = some v → valV (fs.zip vs) f = some v
  | [], vs, k, h, v, e => by cases h
  | c :: fs, [], k, h, v, e => by simp at e
  | c :: fs, x :: vs, k, h, v, e => by
    unfold idxK at h
    by_cases q : c = f
    · rw [if_pos q] at h
      cases h
      simp at e
      subst e
      exact valV_pos (p := (c, x)) q
    · rw [if_neg q] at h
      cases q2 : idxK fs f with
      | none => rw [q2] at h; cases h
      | some j =>
        rw [q2] at h
        cases h
        have e2 : valV ((c :: fs).zip (x :: vs)) f = valV (fs.zip vs) f := valV_neg (p := (c, x)) q
        rw [e2]
        exact idxK_val (fs := fs) (k := j) q2 (by simpa using e)
theorem zip_set {α : Type} : ∀ {fs : List α} {vs : List V} {k : Nat} {x : V}, (fs.zip (vs.set k x)).length = (fs.zip vs).length := by
  intro fs vs k x
  simp
theorem lens1 (tb : FldOk g tab) {s : Stp} {k : Nat} {d' : D} (r : Rep g H E d v F) (hi : idx1 tab s d = some k) (hk : (kids d)[k]? = some d') :
    ∃ v' F' Fr, Loc1 g H v s v' ∧ Rep g H E d' v' F' ∧ F.Perm (F' ++ Fr) ∧
      (canPut d = true → ∀ H' E' d'' F'', Kp H E H' E' Fr → Rep g H' E' d'' v' F'' → ∃ F3, F3.Perm (F'' ++ Fr) ∧ Rep g H' E' (withK d ((kids d).set k d'')) v F3) := by
  have atV : ∀ {xs : List D} {vs : List V} {e : D} {w : V}, xs.length = vs.length → (intOf e).bind (ixN xs.length) = some k → vs[k]? = some w → ∃ i, e = .int i ∧ atI vs i = some w := fun {xs vs e w} hl h hv => by
    cases e with
    | int i =>
      refine ⟨i, rfl, ?_⟩
      unfold L2.atI
      have h : ixN xs.length i = some k := h
      rw [← hl, h]
      exact hv
    | _ => cases h
  have setV : ∀ {vs : List V} {w : V}, vs[k]? = some w → vs.set k w = vs := fun h => setSame h
  cases d with
  | lst o xs =>
    cases s with
    | fld f => cases hi
    | «at» e =>
      cases o with
      | true =>
        unfold Rep at r
        obtain ⟨a, vs, F1, rfl, h1, rfl, r1⟩ := r
        obtain ⟨v', F', Fr, e1, rr, pm, put⟩ := r1.lens hk
        obtain ⟨i, e2, e3⟩ := atV r1.len.symm hi e1
        refine ⟨v', F', a :: Fr, .inl ⟨a, vs, i, rfl, e2, h1, e3⟩, rr, (pm.cons a).trans List.perm_middle.symm, fun _ H' E' d'' F'' kp rr' => ?_⟩
        obtain ⟨F3, pm3, r3⟩ := put H' E' d'' v' F'' (kp.sub fun b h => List.mem_cons_of_mem _ h) rr'
        rw [setV e1] at r3
        refine ⟨a :: F3, (pm3.cons a).trans List.perm_middle.symm, ?_⟩
        unfold withK Rep
        exact ⟨a, vs, F3, rfl, kp.k a _ h1 (.inr (.inl List.mem_cons_self)), rfl, r3⟩
      | false =>
        unfold Rep at r
        obtain ⟨a, vs, rfl, h1, ne, rfl, r1⟩ := r
        obtain ⟨v', F', Fr, e1, rr, pm, put⟩ := r1.lens hk
        obtain ⟨i, e2, e3⟩ := atV r1.len.symm hi e1
        exact ⟨v', F', Fr, .inl ⟨a, vs, i, rfl, e2, h1, e3⟩, rr, pm, fun z => nomatch z⟩
  | tup xs =>
    cases s with
    | fld f => cases hi
    | «at» e =>
      unfold Rep at r
      obtain ⟨a, vs, rfl, h1, r1⟩ := r
      obtain ⟨v', F', Fr, e1, rr, pm, put⟩ := r1.lens hk
      obtain ⟨i, e2, e3⟩ := atV r1.len.symm hi e1
      refine ⟨v', F', Fr, .inr (.inl ⟨a, vs, i, rfl, e2, h1, e3⟩), rr, pm, fun _ H' E' d'' F'' kp rr' => ?_⟩
      obtain ⟨F3, pm3, r3⟩ := put H' E' d'' v' F'' kp rr'
      rw [setV e1] at r3
      refine ⟨F3, pm3, ?_⟩
      unfold withK Rep
      exact ⟨a, vs, rfl, Rd.keepT h1 fun o e m => kp.k a o e (.inr (.inr m)), r3⟩
  | dic o ks xs =>
    cases s with
    | fld f => cases hi
    | «at» e =>
      have hi : (toKey e).bind (idxK ks) = some k := hi
      cases q : toKey e with
      | none => rw [q] at hi; cases hi
      | some kk =>
        rw [q] at hi
        have hj : idxK ks kk = some k := hi
        cases o with
        | true =>
          unfold Rep at r
          obtain ⟨a, vs, F1, rfl, h1, hl, rfl, r1⟩ := r
          obtain ⟨v', F', Fr, e1, rr, pm, put⟩ := r1.lens hk
          refine ⟨v', F', a :: Fr, .inr (.inr ⟨a, _, kk, rfl, q, .inl h1, idxK_val hj e1⟩), rr, (pm.cons a).trans List.perm_middle.symm, fun _ H' E' d'' F'' kp rr' => ?_⟩
          obtain ⟨F3, pm3, r3⟩ := put H' E' d'' v' F'' (kp.sub fun b h => List.mem_cons_of_mem _ h) rr'
          rw [setV e1] at r3
          refine ⟨a :: F3, (pm3.cons a).trans List.perm_middle.symm, ?_⟩
          unfold withK Rep
          exact ⟨a, vs, F3, rfl, kp.k a _ h1 (.inr (.inl List.mem_cons_self)), hl, rfl, r3⟩
        | false =>
          unfold Rep at r
          obtain ⟨a, vs, rfl, h1, hl, ne, rfl, r1⟩ := r
          obtain ⟨v', F', Fr, e1, rr, pm, put⟩ := r1.lens hk
          exact ⟨v', F', Fr, .inr (.inr ⟨a, _, kk, rfl, q, h1, idxK_val hj e1⟩), rr, pm, fun z => nomatch z⟩
  | ins o c fs xs =>
    cases s with
    | «at» f => cases hi
    | fld f =>
      have hi : (if tabOk tab c f = true then idxF fs f else none) = some k := hi
      by_cases ok : tabOk tab c f = true
      · rw [if_pos ok] at hi
        have hj : idxF fs f = some k := hi
        have tb := tb c f ok
        cases o with
        | true =>
          unfold Rep at r
          obtain ⟨a, dx, vs, F1, rfl, h1, hl, rfl, r1⟩ := r
          obtain ⟨v', F', Fr, e1, rr, pm, put⟩ := r1.lens hk
          refine ⟨v', F', a :: Fr, ⟨a, _, dx, _, rfl, h1, tb.1, tb.2, idxF_val (fs := fs) (k := k) hj e1⟩, rr, (pm.cons a).trans List.perm_middle.symm, fun _ H' E' d'' F'' kp rr' => ?_⟩
          obtain ⟨F3, pm3, r3⟩ := put H' E' d'' v' F'' (kp.sub fun b h => List.mem_cons_of_mem _ h) rr'
          rw [setV e1] at r3
          refine ⟨a :: F3, (pm3.cons a).trans List.perm_middle.symm, ?_⟩
          unfold withK Rep
          exact ⟨a, dx, vs, F3, rfl, kp.k a _ h1 (.inr (.inl List.mem_cons_self)), hl, rfl, r3⟩
        | false =>
          unfold Rep at r
          obtain ⟨a, dx, vs, rfl, h1, hl, ne, rfl, r1⟩ := r
          obtain ⟨v', F', Fr, e1, rr, pm, put⟩ := r1.lens hk
          exact ⟨v', F', Fr, ⟨a, _, dx, _, rfl, h1, tb.1, tb.2, idxF_val (fs := fs) (k := k) hj e1⟩, rr, pm, fun z => nomatch z⟩
      · rw [if_neg ok] at hi; cases hi
  | _ => cases s <;> cases hi
theorem lens (tb : FldOk g tab) {v0 : V} (r : Rep g H E d v0 F) : ∀ {st : List Stp} {d' : D}, focusR tab d st = some d' → ∃ v' F' Fr, LocAt g H v0 st v' ∧ Rep g H E d' v' F' ∧ F.Perm (F' ++ Fr) ∧
    ∀ H' E' d'' F'' d3, Kp H E H' E' Fr → Rep g H' E' d'' v' F'' → putR tab d st d'' = some d3 → ∃ F3, F3.Perm (F'' ++ Fr) ∧ Rep g H' E' d3 v0 F3
  | [], d', h => by
    cases h
    exact ⟨v0, F, [], rfl, r, by simp, fun H' E' d'' F'' d3 _ rr e => by cases e; exact ⟨F'', by simp, rr⟩⟩
  | s :: st, d', h => by
    unfold focusR at h
    cases q : focusR tab d st with
    | none => rw [q] at h; cases h
    | some p =>
      rw [q] at h
      have h : (idx1 tab s p).bind (fun k => (kids p)[k]?) = some d' := h
      cases q1 : idx1 tab s p with
      | none => rw [q1] at h; cases h
      | some k =>
        rw [q1] at h
        have h : (kids p)[k]? = some d' := h
        obtain ⟨vr, Fp, Fr0, l0, r0, pm0, put0⟩ := lens tb r q
        obtain ⟨v', F', Fr1, l1, r1, pm1, put1⟩ := lens1 tb r0 q1 h
        refine ⟨v', F', Fr1 ++ Fr0, ⟨vr, l0, l1⟩, r1, ?_, fun H' E' d'' F'' d3 kp rr e => ?_⟩
        · exact pm0.trans ((pm1.append_right Fr0).trans (by rw [List.append_assoc]))
        · unfold putR at e
          rw [q] at e
          have e : (idx1 tab s p).bind (fun k => if canPut p = true then putR tab d st (withK p ((kids p).set k d'')) else none) = some d3 := e
          rw [q1] at e
          have e : (if canPut p = true then putR tab d st (withK p ((kids p).set k d'')) else none) = some d3 := e
          by_cases cp : canPut p = true
          · rw [if_pos cp] at e
            obtain ⟨F3a, pa, ra⟩ := put1 cp H' E' d'' F'' (kp.sub fun a h => List.mem_append_left _ h) rr
            obtain ⟨F3, pb, rb⟩ := put0 H' E' _ F3a d3 (kp.sub fun a h => List.mem_append_right _ h) ra e
            refine ⟨F3, pb.trans ((pa.append_right Fr0).trans (by rw [List.append_assoc])), rb⟩
          · rw [if_neg cp] at e; cases e

/-! ### a place is come to -/
structure SndL (g : Gx) (W : WX) (i : Nat) (t0 : TE) (tp : Env → R (List Stp)) : Prop where
  pure : ∀ ρ st ρ', tp ρ = .ok st ρ' → ρ' = ρ
  run : ∀ (σ : L2.St) (H : Hp) (ρ : Env) (Z E : Addr → Prop) (Q : VK) (v0 : V) (st : List Stp) (ρ' : Env) (v' : V), EnvAt g Z E ρ σ H → σ[i]? = some (some v0) → tp ρ = .ok st ρ' → LocAt g H v0 st v' →
    (∀ H' E', EnvAt g Z E' ρ σ H' → Tr Z H E H' E' → Same H H' → Q v' H') → t0 σ H Q
def lVar : Env → R (List Stp) := fun ρ => .ok [] ρ
def lFld (f : Str) (tp : Env → R (List Stp)) : Env → R (List Stp) := fun ρ => (tp ρ).bind fun st ρ1 => .ok (.fld f :: st) ρ1
def lIx (tp : Env → R (List Stp)) (a : Env → R D) : Env → R (List Stp) := fun ρ => (tp ρ).bind fun st ρ1 => (a ρ1).bind fun e ρ2 => match toKey e with
  | some _ => .ok (.at e :: st) ρ2
  | none => .stk
theorem snd_lVar (i : Nat) : SndL g W i (tVar i) lVar := ⟨fun ρ st ρ' h => by cases h; rfl, fun σ H ρ Z E Q v0 st ρ' v' A e h l k => by
  cases h
  cases (show v' = v0 from l)
  exact ⟨v0, e, k H E A Tr.refl (Same.refl H)⟩⟩
theorem snd_lFld {i : Nat} {ta : TE} {tp : Env → R (List Stp)} {f : Str} (h : SndL g W i ta tp) : SndL g W i (tFld g.K ta f) (lFld f tp) := by
  refine ⟨fun ρ st ρ' q => ?_, fun σ H ρ Z E Q v0 st ρ' v' A e q l k => ?_⟩
  · obtain ⟨s1, ρ1, q1, q⟩ := R.bind_ok q
    cases q
    exact h.pure _ _ _ q1
  · obtain ⟨s1, ρ1, q1, q⟩ := R.bind_ok q
    cases q
    obtain ⟨x, l0, l1⟩ := l
    refine h.run σ H ρ Z E _ v0 s1 _ x A e q1 l0 fun H1 E1 A1 t1 s1 => ?_
    obtain ⟨a, C, dx, fs, e1, h1, c, n, lk⟩ := l1.mono s1
    exact ⟨a, C, dx, fs, v', e1, h1, c, n, lk, k H1 E1 A1 t1 s1⟩
theorem snd_lIx {i : Nat} {ta tb : TE} {tp : Env → R (List Stp)} {db : Env → R D} (h : SndL g W i ta tp) (hb : SndE g W true .S tb db) : SndL g W i (tOp (rIxA g.K) ta tb) (lIx tp db) := by
  refine ⟨fun ρ st ρ' q => ?_, fun σ H ρ Z E Q v0 st ρ' v' A e q l k => ?_⟩
  · obtain ⟨s1, ρ1, q1, q⟩ := R.bind_ok q
    obtain ⟨d, ρ2, q2, q⟩ := R.bind_ok q
    split at q
    · cases q; rw [hb.pure rfl _ _ _ q2, h.pure _ _ _ q1]
    · cases q
  · obtain ⟨s1, ρ1, q1, q0⟩ := R.bind_ok q
    obtain ⟨d, ρ2, q2, q3⟩ := R.bind_ok q0
    clear q q0
    have e1 := h.pure _ _ _ q1
    subst e1
    have e2 := hb.pure rfl _ _ _ q2
    subst e2
    split at q3
    · rename_i kk tk
      cases q3
      obtain ⟨x, l0, l1⟩ := l
      refine h.run σ H _ Z E _ v0 s1 _ x A e q1 l0 fun H1 E1 A1 t1 sa1 => ?_
      refine hb.run σ H1 _ Z E1 _ A1 ?_
      rw [q2]
      intro y H2 E2 p2 t2 sa2
      have t12 := t1.trans t2 fun _ h => h
      have s12 := sa1.trans (sa2 rfl)
      have fin := k H2 E2 p2.1 t12 s12
      have ry := p2.2.rep1
      rcases l1.mono s12 with ⟨a, vs, i, e1, e2, h1, h2⟩ | ⟨a, vs, i, e1, e2, h1, h2⟩ | ⟨a, kvs, kk, e1, e2, h1, h2⟩
      · subst e1 e2
        exact .inl ⟨a, vs, i, v', rfl, rep1_int ry, SqL.of h1, h2, fin⟩
      · subst e1 e2
        exact .inr (.inl ⟨a, vs, i, v', rfl, rep1_int ry, .inl h1, h2, fin⟩)
      · subst e1
        exact .inr (.inr (.inr ⟨a, v', rfl, .inl ⟨kvs, kk, h1, toKey_rep e2 ry, h2.symm⟩, fin⟩))
    · cases q3
end
end DL
/-! DL12 -/
set_option Elab.async false
set_option linter.all false
set_option maxRecDepth 100000
set_option maxHeartbeats 1000000
namespace DL
open PySem PySem.Spec PyProof.Rows L2

section
variable {g : Gx} {W : WX} {Z E E' : Addr → Prop} {ρ : Env} {σ : L2.St} {H H' : Hp} {F Fo F3 : List Addr} {tab : List (Str × List Str)} {v : V} {d : D}
/-! ### reading at a place -/
def dRead (tab : List (Str × List Str)) (i : Nat) (tp : Env → R (List Stp)) : Env → R D := fun ρ => match tp ρ with
  | .ok st _ => (match (slotDat (ρ[i]?)).bind fun d => focusR tab d st with
    | some d => if noOwn d = true then .ok d ρ else .stk
    | none => .stk)
  | _ => .stk
def dPeekP (tab : List (Str × List Str)) (i : Nat) (tp : Env → R (List Stp)) : Env → R D := fun ρ => match tp ρ with
  | .ok st _ => (match (slotDat (ρ[i]?)).bind fun d => focusR tab d st with
    | some d => if noOwn (frzTop d) = true then .ok (frzTop d) ρ else .stk
    | none => .stk)
  | _ => .stk
theorem slotDat_row {i : Nat} (A : EnvAt g Z E ρ σ H) (h : slotDat (ρ[i]?) = some d) : ∃ v F, σ[i]? = some (some v) ∧ Rep g H E d v F := by
  obtain ⟨Fs, B⟩ := A
  unfold slotDat at h
  split at h
  · rename_i d' e
    cases h
    obtain ⟨w, a, b⟩ := B.row i _ e
    exact ⟨w, [], a, b.2⟩
  · rename_i d' e
    cases h
    obtain ⟨w, a, b⟩ := B.row i _ e
    exact ⟨w, _, a, b⟩
  · cases h
theorem snd_read {i : Nat} {ta : TE} {tp : Env → R (List Stp)} (tb : FldOk g tab) (h : SndL g W i ta tp) : SndE g W true .S ta (dRead tab i tp) := by
  refine ⟨fun _ ρ d ρ' q => ?_, fun σ H ρ Z E Q A k => ?_⟩
  · unfold dRead at q
    split at q
    · split at q
      · split at q
        · cases q; rfl
        · cases q
      · cases q
    · cases q
  · unfold dRead at k
    split at k
    · rename_i st ρ1 q
      split at k
      · rename_i d' q1
        split at k
        · rename_i n
          cases q2 : slotDat (ρ[i]?) with
          | none => rw [q2] at q1; cases q1
          | some d0 =>
            rw [q2] at q1
            obtain ⟨v0, F, e, r⟩ := slotDat_row A q2
            obtain ⟨v', F', Fr, l, r', _, _⟩ := lens tb r (show focusR tab d0 st = some d' from q1)
            refine h.run σ H ρ Z E Q v0 st ρ1 v' A e q l fun H1 E1 A1 t1 s1 => ?_
            obtain ⟨v1, F1, e1, r1⟩ := slotDat_row A1 q2
            have e0 := r'.noOwn n
            subst e0
            exact k v' H1 E1 ⟨A1, r'.keep (t1.kp A.ki fun _ h => nomatch h)⟩ t1 fun _ => s1
        · exact k.elim
      · exact k.elim
    · exact k.elim
theorem snd_peekP {i : Nat} {ta : TE} {tp : Env → R (List Stp)} (tb : FldOk g tab) (h : SndL g W i ta tp) : SndE g W true .Q ta (dPeekP tab i tp) := by
  refine ⟨fun _ ρ d ρ' q => ?_, fun σ H ρ Z E Q A k => ?_⟩
  · unfold dPeekP at q
    split at q
    · split at q
      · split at q
        · cases q; rfl
        · cases q
      · cases q
    · cases q
  · unfold dPeekP at k
    split at k
    · rename_i st ρ1 q
      split at k
      · rename_i d' q1
        split at k
        · rename_i n
          cases q2 : slotDat (ρ[i]?) with
          | none => rw [q2] at q1; cases q1
          | some d0 =>
            rw [q2] at q1
            obtain ⟨v0, F, e, r⟩ := slotDat_row A q2
            obtain ⟨v', F', Fr, l, r', _, _⟩ := lens tb r (show focusR tab d0 st = some d' from q1)
            refine h.run σ H ρ Z E Q v0 st ρ1 v' A e q l fun H1 E1 A1 t1 s1 => ?_
            exact k v' H1 E1 ⟨A1, Rep1.same s1 t1.e (r'.top n).rep1⟩ t1 fun _ => s1
        · exact k.elim
      · exact k.elim
    · exact k.elim

/-! ### a name's own part is changed -/
theorem nodup_app {α : Type} {a b : List α} (h : (a ++ b).Nodup) : a.Nodup ∧ b.Nodup ∧ ∀ x ∈ a, x ∉ b := by
  rw [List.nodup_append] at h
  exact ⟨h.1, h.2.1, fun x h1 h2 => h.2.2 x h1 x h2 rfl⟩
theorem EnvF.modify {Fs : Nat → List Addr} {i : Nat} {s0 : Slot} {a : Addr} {d3 : D} (B : EnvF g (more F Z) E ρ σ H Fs) (hi : ρ[i]? = some (some s0)) (hv : σ[i]? = some (some v)) (ha : a ∈ Fs i) (off : ∀ b, b ≠ a → ∀ o, H b = some o → H' b = some o) (m : MutAt H' a)
    (r : Rep g H' E d3 v F3) (nd : (F3 ++ Fo).Nodup) (sub : ∀ b ∈ F3 ++ Fo, b ∈ Fs i ∨ b ∈ F) (hFZ : ∀ b ∈ F, ¬ Z b) :
    ∃ E', EnvAt g (more Fo Z) E' (ρ.set i (some (.dp d3))) σ H' ∧ (∀ b, E' b → E b) ∧ Tr Z H E H' E' := by
  have hil : i < ρ.length := ltOf hi
  have hne : ∀ {j b}, b ∈ Fs j → j ≠ i → b ≠ a := fun {j b} hb hj e => by subst e; exact hj (B.dj j i b hb ha)
  have hz : ∀ b, more F Z b → b ≠ a := fun b hb e => by subst e; exact B.dz i b ha hb
  have inE : ∀ b, ((∃ j, b ∈ (if j = i then F3 else Fs j)) ∨ more Fo Z b) → E b := fun b h => (B.iff b).mpr (by
    rcases h with ⟨j, h⟩ | h | h
    · split at h
      · rcases sub b (List.mem_append_left _ h) with z | z
        · exact .inl ⟨i, z⟩
        · exact .inr (.inl z)
      · exact .inl ⟨j, h⟩
    · rcases sub b (List.mem_append_right _ h) with z | z
      · exact .inl ⟨i, z⟩
      · exact .inr (.inl z)
    · exact .inr (.inr h))
  obtain ⟨nd1, nd2, nd3⟩ := nodup_app nd
  have kp : ∀ {F'}, (∀ b ∈ F', b ≠ a) → Kp H E H' (fun b => (∃ j, b ∈ (if j = i then F3 else Fs j)) ∨ more Fo Z b) F' := fun {F'} hF' => ⟨fun b o e n => by
    refine off b ?_ o e
    rcases n with n | n | n
    · intro z; subst z; exact n ((B.iff b).mpr (.inl ⟨i, ha⟩))
    · exact hF' b n
    · intro z
      subst z
      obtain ⟨o', e', m'⟩ := B.ki b ((B.iff b).mpr (.inl ⟨i, ha⟩))
      rw [e] at e'
      cases e'
      rw [n] at m'
      exact Bool.false_ne_true m', fun b h => .inl (inE b h)⟩
  refine ⟨fun b => (∃ j, b ∈ (if j = i then F3 else Fs j)) ∨ more Fo Z b, ⟨fun j => if j = i then F3 else Fs j, fun b => Iff.rfl, fun j s h => ?_, fun j h => ?_, fun j => ?_, fun j k b hj hk => ?_, fun j b hj hz' => ?_, fun b h => ?_, by simp [B.len]⟩, inE, ⟨fun b o e n => off b ?_ o e, fun b h => .inl (inE b h)⟩⟩
  · rw [getSet hil] at h
    by_cases e : j = i
    · rw [if_pos e] at h
      cases h
      subst e
      refine ⟨v, hv, ?_⟩
      rw [if_pos rfl]
      exact Rep.keep (Kp.same (fun _ _ h => h) fun b h => .inl (inE b h)) r
    · rw [if_neg e] at h
      obtain ⟨w, a1, b1⟩ := B.row j s h
      refine ⟨w, a1, ?_⟩
      rw [if_neg e]
      exact b1.keep (kp fun b hb => hne hb e)
  · by_cases e : j = i
    · exact absurd (by rw [getSet hil, if_pos e]) (h (.dp d3))
    · rw [if_neg e]
      exact B.emp j fun s q => h s (by rw [getSet hil, if_neg e]; exact q)
  · by_cases e : j = i
    · rw [if_pos e]; exact nd1
    · rw [if_neg e]; exact B.nd j
  · have key : ∀ {j b}, j ≠ i → b ∈ Fs j → b ∉ F3 := fun {j b} hj hb hb' => by
      rcases sub b (List.mem_append_left _ hb') with z | z
      · exact hj (B.dj j i b hb z)
      · exact B.dz j b hb (.inl z)
    by_cases e : j = i
    · by_cases e' : k = i
      · rw [e, e']
      · rw [if_pos e] at hj; rw [if_neg e'] at hk
        exact absurd hj (key e' hk)
    · by_cases e' : k = i
      · rw [if_neg e] at hj; rw [if_pos e'] at hk
        exact absurd hk (key e hj)
      · rw [if_neg e] at hj; rw [if_neg e'] at hk
        exact B.dj j k b hj hk
  · by_cases e : j = i
    · rw [if_pos e] at hj
      rcases hz' with z | z
      · exact nd3 b hj z
      · rcases sub b (List.mem_append_left _ hj) with y | y
        · exact B.dz i b y (.inr z)
        · exact hFZ b y z
    · rw [if_neg e] at hj
      rcases hz' with z | z
      · rcases sub b (List.mem_append_right _ z) with y | y
        · exact e (B.dj j i b hj y)
        · exact B.dz j b hj (.inl y)
      · exact B.dz j b hj (.inr z)
  · by_cases e : b = a
    · subst e; exact m
    · obtain ⟨o, e1, m1⟩ := B.ki b (inE b h)
      exact ⟨o, off b e o e1, m1⟩
  · intro z
    subst z
    have hE : E b := (B.iff b).mpr (.inl ⟨i, ha⟩)
    rcases n with n | n
    · exact n hE
    · exact B.dz i b ha (.inr n)
end
/-- the tops that can be changed: the place, and its parts -/
def ownTop (g : Gx) (H : Hp) (E : Addr → Prop) (d : D) (a : Addr) (F1 : List Addr) : Prop := match d with
  | .lst true ds => ∃ vs, H a = some (.lst vs) ∧ RepL g H E ds vs F1
  | .dic true ks ds => ∃ vs, H a = some (.dK (ks.zip vs)) ∧ KsOk ks vs ∧ RepL g H E ds vs F1
  | .ins true c fs ds => ∃ dx vs, H a = some (.ins (g.cl c) dx (fs.zip vs)) ∧ fs.length = vs.length ∧ RepL g H E ds vs F1
  | _ => False
def isOwn : D → Bool
  | .lst true _ => true
  | .dic true _ _ => true
  | .ins true _ _ _ => true
  | _ => false
section
variable {g : Gx} {W : WX} {Z E E' : Addr → Prop} {ρ : Env} {σ : L2.St} {H H' : Hp} {F Fo F3 : List Addr} {tab : List (Str × List Str)} {v : V} {d : D}
theorem Rep.ownTop (r : Rep g H E d v F) (h : isOwn d = true) : ∃ a F1, v = .ref a ∧ F = a :: F1 ∧ DL.ownTop g H E d a F1 := by
  unfold isOwn at h
  split at h
  · unfold Rep at r; obtain ⟨a, vs, F1, e, h1, h2, h3⟩ := r; exact ⟨a, F1, e, h2, vs, h1, h3⟩
  · unfold Rep at r; obtain ⟨a, vs, F1, e, h1, hl, h2, h3⟩ := r; exact ⟨a, F1, e, h2, vs, h1, hl, h3⟩
  · unfold Rep at r; obtain ⟨a, dx, vs, F1, e, h1, hl, h2, h3⟩ := r; exact ⟨a, F1, e, h2, dx, vs, h1, hl, h3⟩
  · cases h
theorem Rep.ofTop {a : Addr} {F1 : List Addr} (h : DL.ownTop g H E d a F1) : Rep g H E d (.ref a) (a :: F1) := by
  unfold DL.ownTop at h
  split at h
  · obtain ⟨vs, h1, h3⟩ := h; unfold Rep; exact ⟨a, vs, F1, rfl, h1, rfl, h3⟩
  · obtain ⟨vs, h1, hl, h3⟩ := h; unfold Rep; exact ⟨a, vs, F1, rfl, h1, hl, rfl, h3⟩
  · obtain ⟨dx, vs, h1, hl, h3⟩ := h; unfold Rep; exact ⟨a, dx, vs, F1, rfl, h1, hl, rfl, h3⟩
  · exact h.elim
theorem ownTop_mut {a : Addr} {F1 : List Addr} (h : DL.ownTop g H E d a F1) : MutAt H a := by
  unfold DL.ownTop at h
  split at h
  · obtain ⟨vs, h1, h3⟩ := h; exact ⟨_, h1, rfl⟩
  · obtain ⟨vs, h1, hl, h3⟩ := h; exact ⟨_, h1, rfl⟩
  · obtain ⟨dx, vs, h1, hl, h3⟩ := h; exact ⟨_, h1, rfl⟩
  · exact h.elim
/-- what a change at a place does: from d' to d'' at the place a, the new own parts F go in; what comes out holds Ret -/
def Chg (g : Gx) (d' d'' : D) (a : Addr) (H H' : Hp) (E : Addr → Prop) (F : List Addr) (Ret : List Addr → Prop) : Prop :=
  (∀ b, b ≠ a → ∀ o, H b = some o → H' b = some o) ∧ ∀ F1, E a → DL.ownTop g H E d' a F1 → a ∉ F1 → (F1 ++ F).Nodup → (∀ b ∈ F, b ≠ a) → ∃ F2 Fo, Ret Fo ∧ DL.ownTop g H' E d'' a F2 ∧ (F2 ++ Fo).Nodup ∧ ∀ b ∈ F2 ++ Fo, b ∈ F1 ∨ b ∈ F
theorem EnvF.same {Fs : Nat → List Addr} (B : EnvF g Z E ρ σ H Fs) (k : Same H H') : EnvF g Z E ρ σ H' Fs :=
  ⟨B.iff, fun i s h => let ⟨v, a, b⟩ := B.row i s h; ⟨v, a, b.keep (Kp.same k fun _ h => .inl h)⟩, B.emp, B.nd, B.dj, B.dz, fun a h => let ⟨o, e, m⟩ := B.ki a h; ⟨o, k a o e, m⟩, B.len⟩
/-- at the place -/
theorem place_change (tb : FldOk g tab) {i : Nat} {d0 d' d'' d3 : D} {st : List Stp} {v0 : V} (A : EnvAt g (more F Z) E ρ σ H) (hF : F.Nodup) (hFZ : ∀ b ∈ F, ¬ Z b) (hi : ρ[i]? = some (some (.dp d0))) (hv : σ[i]? = some (some v0)) (hf : focusR tab d0 st = some d') (ho : isOwn d' = true) (hp : putR tab d0 st d'' = some d3) :
    ∃ a, LocAt g H v0 st (.ref a) ∧ ∀ H2, Same H H2 → (∃ F1, DL.ownTop g H2 E d' a F1) ∧ ∀ H' Ret, Chg g d' d'' a H2 H' E F Ret → ∃ E' Fo, Ret Fo ∧ EnvAt g (more Fo Z) E' (ρ.set i (some (.dp d3))) σ H' ∧ Tr Z H E H' E' ∧ (∀ b, E' b → E b) ∧ Fo.Nodup ∧ ∀ b ∈ Fo, ¬ Z b := by
  obtain ⟨Fs, B⟩ := A
  obtain ⟨w, a0, b0⟩ := B.row i _ hi
  rw [hv] at a0
  cases a0
  have b0 : Rep g H E d0 v0 (Fs i) := b0
  obtain ⟨v1, F', Fr, l1, r1, pm, put⟩ := lens tb b0 hf
  obtain ⟨a, F1, rfl, rfl, top⟩ := r1.ownTop ho
  have ndi : ((a :: F1) ++ Fr).Nodup := pm.nodup_iff.mp (B.nd i)
  obtain ⟨n1, n2, n3⟩ := nodup_app ndi
  have n1' := List.nodup_cons.mp n1
  have ha : a ∈ Fs i := pm.mem_iff.mpr (by simp)
  have F1i : ∀ b ∈ F1, b ∈ Fs i := fun b hb => pm.mem_iff.mpr (by simp [hb])
  have Fri : ∀ b ∈ Fr, b ∈ Fs i := fun b hb => pm.mem_iff.mpr (by simp [hb])
  have fF : ∀ b ∈ F, b ∉ Fs i := fun b hb z => B.dz i b z (.inl hb)
  refine ⟨a, l1, fun H2 sm => ?_⟩
  have top' : DL.ownTop g H2 E d' a F1 := by
    obtain ⟨a', F1', e1, e2, top'⟩ := (Rep.keep (Kp.same sm fun _ h => .inl h) r1).ownTop ho
    cases e1
    cases e2
    exact top'
  refine ⟨⟨F1, top'⟩, fun H' Ret ⟨off, ch⟩ => ?_⟩
  obtain ⟨F2, Fo, ret, top2, nd2, sub2⟩ := ch F1 ((B.iff a).mpr (.inl ⟨i, ha⟩)) top' n1'.1 (List.nodup_append.mpr ⟨n1'.2, hF, fun x hx y hy e => by subst e; exact fF x hy (F1i x hx)⟩) fun b hb e => by subst e; exact fF b hb ha
  obtain ⟨m1, m2, m3⟩ := nodup_app nd2
  have r2 := Rep.ofTop top2
  have kp : Kp H E H' E Fr := ⟨fun b o e n => off b (by
    rcases n with n | n | n
    · intro z; subst z; exact n ((B.iff b).mpr (.inl ⟨i, ha⟩))
    · intro z; subst z; exact n3 b List.mem_cons_self n
    · intro z
      subst z
      obtain ⟨o', e', m'⟩ := B.ki b ((B.iff b).mpr (.inl ⟨i, ha⟩))
      rw [e] at e'
      cases e'
      rw [n] at m'
      exact Bool.false_ne_true m') o (sm b o e), fun b h => .inl h⟩
  obtain ⟨F3, p3, r3⟩ := put H' E d'' (a :: F2) d3 kp r2 hp
  have sub3 : ∀ b ∈ F3 ++ Fo, b ∈ Fs i ∨ b ∈ F := fun b hb => by
    rcases List.mem_append.mp hb with hb | hb
    · rcases List.mem_append.mp (p3.mem_iff.mp hb) with hb | hb
      · rcases List.mem_cons.mp hb with hb | hb
        · subst hb; exact .inl ha
        · rcases sub2 b (List.mem_append_left _ hb) with z | z
          · exact .inl (F1i b z)
          · exact .inr z
      · exact .inl (Fri b hb)
    · rcases sub2 b (List.mem_append_right _ hb) with z | z
      · exact .inl (F1i b z)
      · exact .inr z
  have inF1F : ∀ b, (b ∈ F1 ∨ b ∈ F) → b ≠ a ∧ b ∉ Fr := fun b hb => by
    rcases hb with hb | hb
    · exact ⟨fun z => by subst z; exact n1'.1 hb, n3 b (List.mem_cons_of_mem _ hb)⟩
    · exact ⟨fun z => by subst z; exact fF b hb ha, fun z => fF b hb (Fri b z)⟩
  have nd3 : (F3 ++ Fo).Nodup := by
    have : ((a :: F2 ++ Fr) ++ Fo).Nodup := by
      refine List.nodup_append.mpr ⟨List.nodup_append.mpr ⟨List.nodup_cons.mpr ⟨fun z => ?_, m1⟩, n2, fun x hx y hy e => ?_⟩, m2, fun x hx y hy e => ?_⟩
      · exact (inF1F a (sub2 a (List.mem_append_left _ z))).1 rfl
      · subst e
        rcases List.mem_cons.mp hx with hx | hx
        · subst hx; exact n3 x List.mem_cons_self hy
        · exact (inF1F x (sub2 x (List.mem_append_left _ hx))).2 hy
      · subst e
        have zz := inF1F x (sub2 x (List.mem_append_right _ hy))
        rcases List.mem_append.mp hx with hx | hx
        · rcases List.mem_cons.mp hx with hx | hx
          · exact zz.1 hx
          · exact m3 x hx hy
        · exact zz.2 hx
    exact (p3.append_right Fo).nodup_iff.mpr this
  obtain ⟨E', A', s', t'⟩ := (B.same sm).modify hi hv ha off (ownTop_mut top2) r3 nd3 sub3 hFZ
  refine ⟨E', Fo, ret, A', ⟨fun b o e n => t'.k b o (sm b o e) n, fun b h => .inl (s' b h)⟩, s', m2, fun b hb z => ?_⟩
  rcases sub3 b (List.mem_append_right _ hb) with y | y
  · exact B.dz i b y (.inr z)
  · exact hFZ b y z
end
end DL
/-! DL13 -/
set_option Elab.async false
set_option linter.all false
set_option maxRecDepth 100000
set_option maxHeartbeats 1000000
namespace DL
open PySem PySem.Spec PyProof.Rows L2

/-! ### argument lists with own parts -/
structure SndB (g : Gx) (W : WX) (pu : Bool) (n : Nat) (t0 : TA) (t : Env → R (List D)) : Prop where
  len : ∀ ρ d ρ', t ρ = .ok d ρ' → d.length = n
  pure : pu = true → ∀ ρ d ρ', t ρ = .ok d ρ' → ρ' = ρ
  run : ∀ (σ : L2.St) (H : Hp) (ρ : Env) (Z E : Addr → Prop) (Q : List V → Hp → Prop), EnvAt g Z E ρ σ H →
    (t ρ).sat (fun ds ρ' => ∀ vs H' E' F, EnvAt g (more F Z) E' ρ' σ H' → RepL g H' E' ds vs F → F.Nodup → (∀ a ∈ F, ¬ Z a) → Tr Z H E H' E' → (pu = true → Same H H') → Q vs H')
      (fun c xs ρ' => ∀ cls dd H' E', ExcAt g H' E' c xs cls dd → EnvAt g Z E' ρ' σ H' → Tr Z H E H' E' → W cls dd σ H') → t0 σ H Q
section
variable {g : Gx} {W : WX} {Z E E' : Addr → Prop} {ρ : Env} {σ : L2.St} {H H' : Hp} {F Fo F3 : List Addr} {tab : List (Str × List Str)} {v : V} {d : D}
theorem SndA.toB {n : Nat} {pu : Bool} {ta : TA} {da : Env → R (List D)} (h : SndA g W pu n ta da) : SndB g W pu n ta da :=
  ⟨h.len, h.pure, fun σ H ρ Z E Q A k => h.run σ H ρ Z E Q A (R.sat_mono k (fun ds ρ1 _ k vs H1 E1 A1 r t s => k vs H1 E1 [] A1.nil0 r List.nodup_nil (fun _ h => nomatch h) t s) fun _ _ _ k => k)⟩
theorem EnvAt.nd2 {F1 F2 : List Addr} (A : EnvAt g (more F1 Z) E ρ σ H) : True := trivial
theorem snd_bcons {te : TE} {ta : TA} {pa pb : Bool} {n : Nat} {da : Env → R D} {db : Env → R (List D)} (ha : SndE g W pa .D te da) (hb : SndB g W pb n ta db) : SndB g W (pa && pb) (n + 1) (tCons te ta) (dCons da db) := by
  refine ⟨fun ρ d ρ' h => ?_, fun hp ρ d ρ' h => ?_, fun σ H ρ Z E Q A h => ?_⟩
  · obtain ⟨d1, ρ1, h1, h⟩ := R.bind_ok h
    obtain ⟨d2, ρ2, h2, h⟩ := R.bind_ok h
    cases h
    rw [List.length_cons, hb.len _ _ _ h2]
  · obtain ⟨d1, ρ1, h1, h⟩ := R.bind_ok h
    obtain ⟨d2, ρ2, h2, h⟩ := R.bind_ok h
    cases h
    rw [hb.pure (and_r hp) _ _ _ h2, ha.pure (and_l hp) _ _ _ h1]
  · refine ha.run σ H ρ Z E _ A (R.sat_mono (R.sat_bind.mp h) (fun d ρ1 he k v H1 E1 p1 t1 s1 => ?_) fun c xs ρ1 k => k)
    obtain ⟨F1, q1⟩ := p1
    refine hb.run σ H1 ρ1 (more F1 Z) E1 _ q1.env (R.sat_mono (R.sat_bind.mp k) (fun e ρ2 he2 k2 vs H2 E2 F2 A2 r2 n2 z2 t2 s2 => ?_) fun c xs ρ2 k2 cls dd H2 E2 x A2 t2 => ?_)
    · have t2' : Tr Z H1 E1 H2 E2 := ⟨fun a o h n => t2.k a o h (n.elim .inl fun z => .inr (.inr z)), t2.e⟩
      refine k2 (v :: vs) H2 E2 (F1 ++ F2) ?_ (RepL.cons (Rep.keep (t2.kp q1.env.ki fun a h => .inl h) q1.rep) r2) ?_ (fun a h => ?_) (t1.trans t2' fun _ h => h) fun hp => (s1 (and_l hp)).trans (s2 (and_r hp))
      · rw [more_app, more_comm]; exact A2
      · exact List.nodup_append.mpr ⟨q1.nd, n2, fun x hx y hy e => by subst e; exact z2 x hy (.inl hx)⟩
      · rcases List.mem_append.mp h with h | h
        · exact q1.dz a h
        · exact fun z => z2 a h (.inr z)
    · obtain ⟨E3, A3, s3, _⟩ := A2.drop q1.dz
      have t2' : Tr Z H1 E1 H2 E3 := ⟨fun a o h n => t2.k a o h (n.elim .inl fun z => .inr (.inr z)), fun a h => t2.e a (s3 a h)⟩
      refine k2 cls dd H2 E3 ?_ A3 (t1.trans t2' fun _ h => h)
      unfold ExcAt at x ⊢
      refine ⟨x.1, ?_⟩
      have x2 := x.2
      cases xs with
      | nil => exact x2
      | cons y r =>
        obtain ⟨a, ws, e1, e3, e4, e5⟩ := x2
        exact ⟨a, ws, e1, e3, e4, e5.keep (Kp.same (fun _ _ h => h) fun a h => .inl (s3 a h))⟩
theorem snd_btup {ta : TA} {pa : Bool} {n : Nat} {da : Env → R (List D)} (ha : SndB g W pa n ta da) (hn : n ≤ 1000 := by decide) : SndE g W pa .D (tTup ta) (dTup da) := by
  refine ⟨fun hp ρ d ρ' h => ?_, fun σ H ρ Z E Q A h => ?_⟩
  · obtain ⟨d1, ρ1, h1, h⟩ := R.bind_ok h
    cases h
    exact ha.pure hp _ _ _ h1
  · refine ha.run σ H ρ Z E _ A (R.sat_mono (R.sat_bind.mp h) (fun ds ρ1 he k vs H1 E1 F A1 r1 n1 z1 t1 s1 => ⟨line1000 (by rw [r1.len, ha.len _ _ _ he]; exact hn), fun p hp => ?_⟩) fun c xs ρ1 k => k)
    have s := same_upd (o := .tup vs) hp
    refine k _ _ E1 ⟨F, A1.same s, ?_, n1, z1⟩ (t1.trans (Tr.of_same s fun a h => .inl h) fun _ h => h) fun q => (s1 q).trans s
    unfold Rep
    exact ⟨p, vs, rfl, .inl upd_same, r1.keep (Kp.same s fun a h => .inl h)⟩
theorem snd_blst {ta : TA} {pa : Bool} {n : Nat} {da : Env → R (List D)} (ha : SndB g W pa n ta da) (hn : n ≤ 1000 := by decide) : SndE g W pa .D (tLst ta) (dLst da) := by
  refine ⟨fun hp ρ d ρ' h => ?_, fun σ H ρ Z E Q A h => ?_⟩
  · obtain ⟨d1, ρ1, h1, h⟩ := R.bind_ok h
    cases h
    exact ha.pure hp _ _ _ h1
  · refine ha.run σ H ρ Z E _ A (R.sat_mono (R.sat_bind.mp h) (fun ds ρ1 he k vs H1 E1 F A1 r1 n1 z1 t1 s1 => ⟨line1000 (by rw [r1.len, ha.len _ _ _ he]; exact hn), fun p hp => ?_⟩) fun c xs ρ1 k => k)
    have s := same_upd (o := .lst vs) hp
    have e : ∀ a, more [p] E1 a → E1 a ∨ H1 a = none := fun a h => by
      rcases h with h | h
      · rw [List.mem_singleton.mp h]; exact .inr hp
      · exact .inl h
    have A2 := A1.new hp s ⟨_, upd_same, rfl⟩
    have pE : ∀ {a}, E1 a → a ≠ p := fun {a} h z => by subst z; exact mutAt_ne (A1.ki _ h) hp
    have FE : ∀ a ∈ F, E1 a := fun a h => A1.zE a (.inl h)
    refine k _ _ (more [p] E1) ⟨p :: F, ?_, ?_, List.nodup_cons.mpr ⟨fun z => pE (FE p z) rfl, n1⟩, fun a h z => ?_⟩ (t1.trans (Tr.of_same s e) fun _ h => h) fun q => (s1 q).trans s
    · have : more (p :: F) Z = more [p] (more F Z) := more_app [p] F Z
      rw [this]
      exact A2
    · unfold Rep
      exact ⟨p, vs, F, rfl, upd_same, rfl, r1.keep (Kp.same s e)⟩
    · rcases List.mem_cons.mp h with h | h
      · exact pE (A1.zE a (.inr z)) h
      · exact z1 a h z

mutual
/-- nothing is held alone any more -/
def frzAll : D → D
  | .tup xs => .tup (frzL xs)
  | .lst _ xs => .lst false (frzL xs)
  | .dic _ ks xs => .dic false ks (frzL xs)
  | .ins _ c fs xs => .ins false c fs (frzL xs)
  | d => d
def frzL : List D → List D
  | [] => []
  | d :: ds => frzAll d :: frzL ds
end
mutual
theorem Rep.frz (sub : ∀ a, E' a → E a) : ∀ {d : D} {v : V} {F : List Addr}, Rep g H E d v F → (∀ a ∈ F, ¬ E' a) → Rep g H E' (frzAll d) v []
  | .non, v, F, h, _ => by unfold frzAll Rep at *; exact ⟨h.1, rfl⟩
  | .bl _, v, F, h, _ => by unfold frzAll Rep at *; exact ⟨h.1, rfl⟩
  | .int _, v, F, h, _ => by unfold frzAll Rep at *; exact ⟨h.1, rfl⟩
  | .str _, v, F, h, _ => by unfold frzAll Rep at *; exact ⟨h.1, rfl⟩
  | .fn _, v, F, h, _ => by unfold frzAll Rep at *; exact ⟨h.1, rfl⟩
  | .err c ds, v, F, h, _ => by
    have e : F = [] := by unfold Rep at h; obtain ⟨a, dd, _, _, e, _⟩ := h; exact e
    subst e
    unfold frzAll
    exact h.keep ⟨fun _ _ h _ => h, fun a h => .inl (sub a h)⟩
  | .scr _, v, F, h, _ => by unfold frzAll Rep at *; obtain ⟨a, e, h1, _⟩ := h; exact ⟨a, e, h1, rfl⟩
  | .tup ds, v, F, h, n => by
    unfold Rep at h
    obtain ⟨a, vs, e, h1, h2⟩ := h
    unfold frzAll Rep
    exact ⟨a, vs, e, h1, RepL.frz sub h2 n⟩
  | .lst true ds, v, F, h, n => by
    unfold Rep at h
    obtain ⟨a, vs, F1, e, h1, h2, h3⟩ := h
    unfold frzAll Rep
    subst h2
    exact ⟨a, vs, e, h1, n a List.mem_cons_self, rfl, RepL.frz sub h3 fun b hb => n b (List.mem_cons_of_mem _ hb)⟩
  | .lst false ds, v, F, h, n => by
    unfold Rep at h
    obtain ⟨a, vs, e, h1, ne, f, h3⟩ := h
    unfold frzAll Rep
    exact ⟨a, vs, e, h1, fun z => ne (sub a z), rfl, RepL.frz sub h3 fun b hb => nomatch hb⟩
  | .dic true ks ds, v, F, h, n => by
    unfold Rep at h
    obtain ⟨a, vs, F1, e, h1, hl, h2, h3⟩ := h
    unfold frzAll Rep
    subst h2
    exact ⟨a, vs, e, .inl h1, hl, n a List.mem_cons_self, rfl, RepL.frz sub h3 fun b hb => n b (List.mem_cons_of_mem _ hb)⟩
  | .dic false ks ds, v, F, h, n => by
    unfold Rep at h
    obtain ⟨a, vs, e, h1, hl, ne, f, h3⟩ := h
    unfold frzAll Rep
    exact ⟨a, vs, e, h1, hl, fun z => ne (sub a z), rfl, RepL.frz sub h3 fun b hb => nomatch hb⟩
  | .ins true c fs ds, v, F, h, n => by
    unfold Rep at h
    obtain ⟨a, dx, vs, F1, e, h1, hl, h2, h3⟩ := h
    unfold frzAll Rep
    subst h2
    exact ⟨a, dx, vs, e, h1, hl, n a List.mem_cons_self, rfl, RepL.frz sub h3 fun b hb => n b (List.mem_cons_of_mem _ hb)⟩
  | .ins false c fs ds, v, F, h, n => by
    unfold Rep at h
    obtain ⟨a, dx, vs, e, h1, hl, ne, f, h3⟩ := h
    unfold frzAll Rep
    exact ⟨a, dx, vs, e, h1, hl, fun z => ne (sub a z), rfl, RepL.frz sub h3 fun b hb => nomatch hb⟩
theorem RepL.frz (sub : ∀ a, E' a → E a) : ∀ {ds : List D} {vs : List V} {F : List Addr}, RepL g H E ds vs F → (∀ a ∈ F, ¬ E' a) → RepL g H E' (frzL ds) vs []
  | [], vs, F, h, _ => by unfold RepL at h; unfold frzL RepL; exact ⟨h.1, rfl⟩
  | d :: ds, vs, F, h, n => by
    unfold RepL at h
    obtain ⟨v, r, F1, F2, e1, e2, h1, h2⟩ := h
    unfold frzL RepL
    exact ⟨v, r, [], [], e1, rfl, Rep.frz sub h1 fun a ha => n a (by rw [e2]; exact List.mem_append_left _ ha), RepL.frz sub h2 fun a ha => n a (by rw [e2]; exact List.mem_append_right _ ha)⟩
end
/-- what came is let go, with all its parts -/
def dFA (a : Env → R D) : Env → R D := fun ρ => (a ρ).bind fun d ρ1 => .ok (frzAll d) ρ1
theorem SndE.fa {t : TE} {pa : Bool} {da : Env → R D} (h : SndE g W pa .D t da) : SndE g W pa .S t (dFA da) := by
  refine ⟨fun hp ρ d ρ' q => ?_, fun σ H ρ Z E Q A k => h.run σ H ρ Z E Q A (R.sat_mono (R.sat_bind.mp k) (fun d ρ1 _ k v H1 E1 p t s => ?_) fun _ _ _ k => k)⟩
  · obtain ⟨d1, ρ1, h1, q⟩ := R.bind_ok q
    cases q
    exact h.pure hp _ _ _ h1
  · obtain ⟨F, p⟩ := p
    obtain ⟨E2, A2, s2, n2⟩ := p.env.drop p.dz
    exact k v H1 E2 ⟨A2, p.rep.frz s2 n2⟩ ⟨t.k, fun a h => t.e a (s2 a h)⟩ s
/-- a name that was held alone is let go, with all its parts -/
def dFrzA (i : Nat) : Env → R D := fun ρ => match ρ[i]? with
  | some (some (.sh d)) => .ok d ρ
  | some (some (.dp d)) => .ok (frzAll d) (ρ.set i (some (.sh (frzAll d))))
  | _ => .stk
theorem snd_frzA (i : Nat) : SndE g W false .S (tVar i) (dFrzA i) := by
  refine ⟨(fun h => nomatch h), fun σ H ρ Z E Q A h => ?_⟩
  unfold dFrzA at h
  split at h
  · rename_i d e
    obtain ⟨v, a, b⟩ := A.get e
    exact ⟨v, a, h v H E ⟨A, b⟩ Tr.refl fun _ => Same.refl H⟩
  · rename_i d e
    obtain ⟨v, F, a, b, nd, n, A'⟩ := A.take e
    obtain ⟨E1, A1, s1, n1⟩ := A'.drop n
    have r1 := b.frz s1 n1
    have hi : i < (ρ.set i none).length := by simpa using ltOf e
    obtain ⟨E2, A2, s2⟩ := A1.bindS r1 hi
    rw [List.set_set, setSame a] at A2
    exact ⟨v, a, h v H E2 ⟨A2, r1.keep ⟨fun _ _ h _ => h, fun a h => .inl (s2 a h)⟩⟩ ⟨fun _ _ h _ => h, fun a h => .inl (s1 a (s2 a h))⟩ fun _ => Same.refl H⟩
  · exact h.elim

/-! ### changes at a place, by values -/
theorem kpOff {a : Addr} (off : ∀ b, b ≠ a → ∀ o, H b = some o → H' b = some o) (hE : E a) (m : MutAt H a) (n : ∀ b ∈ F, b ≠ a) : Kp H E H' E F := ⟨fun b o e z => off b (by
  rcases z with z | z | z
  · intro q; subst q; exact z hE
  · exact n b z
  · intro q
    subst q
    obtain ⟨o', e', m'⟩ := m
    rw [e] at e'
    cases e'
    rw [z] at m'
    exact Bool.false_ne_true m') o e, fun b h => .inl h⟩
theorem upd_off {a : Addr} {o : HO} : ∀ b, b ≠ a → ∀ o', H b = some o' → upd H a o b = some o' := fun b h o' e => by rw [upd_ne h]; exact e
/-- f: the new data at the place, and what comes out -/
def MutOp (g : Gx) (r : V → List V → Hp → VK → Prop) (f : D → List D → Option (D × D)) : Prop :=
  ∀ (H : Hp) (E : Addr → Prop) (d' : D) (ds : List D) (a : Addr) (vs : List V) (F F1 : List Addr) (d'' out : D), f d' ds = some (d'', out) → DL.ownTop g H E d' a F1 → RepL g H E ds vs F →
    ∃ H' y, (∀ Q : VK, Q y H' → r (.ref a) vs H Q) ∧ Chg g d' d'' a H H' E F fun Fo => Rep g H' E out y Fo
theorem ndOf {α : Type} {a b : List α} (h : a.Perm b) (n : a.Nodup) : b.Nodup := h.nodup_iff.mp n
def fAppend : D → List D → Option (D × D)
  | .lst true xs, [d] => if xs.length < 100000 then some (.lst true (xs ++ [d]), .non) else none
  | _, _ => none
theorem line100000 {n : Nat} (h : n < 100000) : n < sizeLine := Nat.lt_of_lt_of_le h (by rw [sizeLine_eq]; decide)
theorem RepL.one_inv {vs : List V} (h : RepL g H E [d] vs F) : ∃ v, vs = [v] ∧ Rep g H E d v F := by
  unfold RepL at h
  obtain ⟨v, r, F1, F2, e1, e2, h1, h2⟩ := h
  unfold RepL at h2
  obtain ⟨rfl, rfl⟩ := h2
  rw [List.append_nil] at e2
  subst e2
  exact ⟨v, e1, h1⟩
theorem RepL.nil_inv {vs : List V} (h : RepL g H E [] vs F) : vs = [] ∧ F = [] := by unfold RepL at h; exact h
theorem mop_append : MutOp g rAppend fAppend := by
  intro H E d' ds a vs F F1 d'' out h top r
  unfold fAppend at h
  split at h
  · rename_i xs d
    split at h
    · rename_i hl
      cases h
      obtain ⟨ws, h1, r1⟩ := top
      obtain ⟨v, rfl, rv⟩ := r.one_inv
      refine ⟨upd H a (.lst (ws ++ [v])), .non, fun Q q => ⟨a, ws, v, rfl, rfl, h1, line100000 (by rw [r1.len]; exact hl), q⟩, upd_off, fun F1 hE top nF nd nb => ?_⟩
      obtain ⟨ws', h1', r1'⟩ := top
      rw [h1] at h1'
      cases h1'
      have kp : ∀ {F'}, (∀ b ∈ F', b ≠ a) → Kp H E (upd H a (.lst (ws ++ [v]))) E F' := fun {F'} n => kpOff upd_off hE ⟨_, h1, rfl⟩ n
      refine ⟨F1 ++ F, [], rep_non, ⟨_, upd_same, (RepL.keep (kp fun b hb z => nF (z ▸ hb)) r1').app (RepL.one (Rep.keep (kp nb) rv))⟩, by rw [List.append_nil]; exact nd, fun b hb => ?_⟩
      rw [List.append_nil] at hb
      exact List.mem_append.mp hb
    · cases h
  · cases h
theorem RepL.last : ∀ {xs : List D} {vs : List V} {F : List Addr} {d : D}, RepL g H E xs vs F → xs[xs.length - 1]? = some d → ∃ v Fi Fl, vs[vs.length - 1]? = some v ∧ F = Fi ++ Fl ∧ RepL g H E xs.dropLast vs.dropLast Fi ∧ Rep g H E d v Fl
  | [], vs, F, d, r, h => by simp at h
  | [x], vs, F, d, r, h => by
    obtain ⟨v, rfl, rv⟩ := r.one_inv
    simp at h
    subst h
    exact ⟨v, [], F, rfl, rfl, RepL.nil, rv⟩
  | x :: y :: xs, vs, F, d, r, h => by
    unfold RepL at r
    obtain ⟨v, vr, F1, F2, rfl, rfl, r1, r2⟩ := r
    have hl := r2.len
    obtain ⟨w, Fi, Fl, e1, e2, r3, r4⟩ := RepL.last r2 (by simpa using h)
    cases vr with
    | nil => simp at hl
    | cons v2 vr =>
      refine ⟨w, F1 ++ Fi, Fl, by simpa using e1, by rw [e2, List.append_assoc], ?_, r4⟩
      exact RepL.cons r1 r3
def fPop : D → List D → Option (D × D)
  | .lst true xs, [] => match xs[xs.length - 1]? with
    | some d => some (.lst true xs.dropLast, d)
    | none => none
  | _, _ => none
theorem mop_pop : MutOp g rPop fPop := by
  intro H E d' ds a vs F F1 d'' out h top r
  unfold fPop at h
  split at h
  · rename_i xs
    split at h
    · rename_i d hd
      cases h
      obtain ⟨ws, h1, r1⟩ := top
      obtain ⟨rfl, rfl⟩ := r.nil_inv
      obtain ⟨v, Fi, Fl, e1, e2, r2, r3⟩ := r1.last hd
      refine ⟨upd H a (.lst ws.dropLast), v, fun Q q => ⟨a, ws, v, rfl, rfl, h1, e1, q⟩, upd_off, fun F1 hE top nF nd nb => ?_⟩
      obtain ⟨ws', h1', r1'⟩ := top
      rw [h1] at h1'
      cases h1'
      obtain ⟨v', Fi, Fl, e1', e2, r2, r3⟩ := r1'.last hd
      rw [e1] at e1'
      cases e1'
      subst e2
      have kp : ∀ {F'}, (∀ b ∈ F', b ≠ a) → Kp H E (upd H a (.lst ws.dropLast)) E F' := fun {F'} n => kpOff upd_off hE ⟨_, h1, rfl⟩ n
      refine ⟨Fi, Fl, Rep.keep (kp fun b hb z => nF (z ▸ List.mem_append_right _ hb)) r3, ⟨_, upd_same, RepL.keep (kp fun b hb z => nF (z ▸ List.mem_append_left _ hb)) r2⟩, by rw [List.append_nil] at nd; exact nd, fun b hb => .inl hb⟩
    · cases h
  · cases h

/-! o.m(..) that changes o -/
def rowDat (ρ : Env) (i : Nat) : Option D := match ρ[i]? with
  | some (some (.dp d)) => some d
  | _ => none
def mutAt (tab : List (Str × List Str)) (i : Nat) (st : List Stp) (f : D → List D → Option (D × D)) (ds : List D) (ρ : Env) : R D := match (rowDat ρ i).bind fun d0 => (focusR tab d0 st).bind fun d' => if isOwn d' = true then (f d' ds).bind fun p => (putR tab d0 st p.1).map fun d3 => (d3, p.2) else none with
  | some (d3, out) => .ok out (ρ.set i (some (.dp d3)))
  | none => .stk
def listOwn : D → Bool
  | .lst true _ => true
  | _ => false
def dMut (tab : List (Str × List Str)) (pb : Bool) (i : Nat) (tp : Env → R (List Stp)) (f : D → List D → Option (D × D)) (da : Env → R (List D)) : Env → R D := fun ρ => match tp ρ with
  | .ok st _ => if (pb || st.isEmpty) = true ∧ ((rowDat ρ i).bind fun d0 => (focusR tab d0 st).map listOwn) = some true then (da ρ).bind fun ds ρ1 => mutAt tab i st f ds ρ1 else .stk
  | _ => .stk
theorem rowDat_eq {i : Nat} {d : D} (h : rowDat ρ i = some d) : ρ[i]? = some (some (.dp d)) := by
  unfold rowDat at h
  split at h
  · rename_i d' e; cases h; exact e
  · cases h
/-- the place is an own list: it is come to, and it is a list -/
theorem place_at (tb : FldOk g tab) {i : Nat} {d0 d' : D} {st : List Stp} (A : EnvAt g Z E ρ σ H) (hi : ρ[i]? = some (some (.dp d0))) (hf : focusR tab d0 st = some d') (ho : isOwn d' = true) :
    ∃ v0 a, σ[i]? = some (some v0) ∧ LocAt g H v0 st (.ref a) ∧ ∀ H2, Same H H2 → ∃ F1, DL.ownTop g H2 E d' a F1 := by
  obtain ⟨Fs, B⟩ := A
  obtain ⟨w, a0, b0⟩ := B.row i _ hi
  obtain ⟨v1, F', Fr, l1, r1, pm, put⟩ := lens tb (show Rep g H E d0 w (Fs i) from b0) hf
  obtain ⟨a, F1, rfl, rfl, top⟩ := r1.ownTop ho
  refine ⟨w, a, a0, l1, fun H2 sm => ⟨F1, ?_⟩⟩
  obtain ⟨a', F1', e1, e2, top'⟩ := (Rep.keep (Kp.same sm fun _ h => .inl h) r1).ownTop ho
  cases e1
  cases e2
  exact top'
theorem listOwn_own {d : D} (h : listOwn d = true) : isOwn d = true := by
  unfold listOwn at h
  split at h
  · rfl
  · cases h
theorem mutAt_run (tb : FldOk g tab) {r : V → List V → Hp → VK → Prop} {f : D → List D → Option (D × D)} (mo : MutOp g r f) {i : Nat} {st : List Stp} {ds : List D} {vs : List V} {v0 : V} {a : Addr} {Q : VK} {X : Str → List D → Env → Prop}
    (A : EnvAt g (more F Z) E ρ σ H) (rv : RepL g H E ds vs F) (hF : F.Nodup) (hFZ : ∀ b ∈ F, ¬ Z b) (hv : σ[i]? = some (some v0)) (hl : LocAt g H v0 st (.ref a))
    (h : (mutAt tab i st f ds ρ).sat (fun d ρ' => ∀ v H' E', Post .D g Z E' ρ' σ H' d v → Tr Z H E H' E' → Q v H') X) : r (.ref a) vs H Q := by
  unfold mutAt at h
  split at h
  · rename_i d3 out e
    cases q1 : rowDat ρ i with
    | none => rw [q1] at e; cases e
    | some d0 =>
      rw [q1] at e
      have e : ((focusR tab d0 st).bind fun d' => if isOwn d' = true then (f d' ds).bind fun p => (putR tab d0 st p.1).map fun d3 => (d3, p.2) else none) = some (d3, out) := e
      cases q2 : focusR tab d0 st with
      | none => rw [q2] at e; cases e
      | some d' =>
        rw [q2] at e
        have e : (if isOwn d' = true then (f d' ds).bind fun p => (putR tab d0 st p.1).map fun d3 => (d3, p.2) else none) = some (d3, out) := e
        by_cases ho : isOwn d' = true
        · rw [if_pos ho] at e
          cases q3 : f d' ds with
          | none => rw [q3] at e; cases e
          | some p =>
            obtain ⟨d'', out'⟩ := p
            rw [q3] at e
            have e : (putR tab d0 st d'').map (fun d3 => (d3, out')) = some (d3, out) := e
            cases q4 : putR tab d0 st d'' with
            | none => rw [q4] at e; cases e
            | some d3' =>
              rw [q4] at e
              cases e
              obtain ⟨a2, l2, ch⟩ := place_change tb A hF hFZ (rowDat_eq q1) hv q2 ho q4
              have ea := LocAt.det hl l2
              cases ea
              obtain ⟨⟨F1, top⟩, ch⟩ := ch H (Same.refl H)
              obtain ⟨H', y, run, cg⟩ := mo H E d' ds a vs F F1 d'' out q3 top rv
              obtain ⟨E', Fo, ret, A', t', s', nd', dz'⟩ := ch H' _ cg
              exact run Q (h y H' E' ⟨Fo, A', ret.keep (Kp.same (fun _ _ h => h) fun b h => .inl (s' b h)), nd', dz'⟩ t')
        · rw [if_neg ho] at e; cases e
  · exact h.elim
theorem snd_mut {to : TE} {ta : TA} {tp : Env → R (List Stp)} {pb : Bool} {n i : Nat} {da : Env → R (List D)} {r : V → List V → Hp → VK → Prop} {f : D → List D → Option (D × D)} (tb : FldOk g tab) (mo : MutOp g r f) (hl : SndL g W i to tp) (ha : SndB g W pb n ta da) :
    SndE g W false .D (tBM g.K "list" r to ta) (dMut tab pb i tp f da) := by
  refine ⟨(fun h => nomatch h), fun σ H ρ Z E Q A h => ?_⟩
  unfold dMut at h
  split at h
  · rename_i st ρ0 q
    split at h
    · rename_i c
      obtain ⟨c1, c2⟩ := c
      cases q1 : rowDat ρ i with
      | none => rw [q1] at c2; cases c2
      | some d0 =>
        rw [q1] at c2
        have c2 : (focusR tab d0 st).map listOwn = some true := c2
        cases q2 : focusR tab d0 st with
        | none => rw [q2] at c2; cases c2
        | some d' =>
          rw [q2] at c2
          have lo : listOwn d' = true := Option.some.inj c2
          obtain ⟨v0, a, ev, l0, tops⟩ := place_at tb A (rowDat_eq q1) q2 (listOwn_own lo)
          refine hl.run σ H ρ Z E _ v0 st ρ0 _ A ev q l0 fun H1 E1 A1 t1 s1 => ⟨?_, ?_⟩
          · obtain ⟨F1, top⟩ := tops H1 s1
            unfold listOwn at lo
            split at lo
            · obtain ⟨ws, h1, _⟩ := top
              exact .inl ⟨rfl, ws, SqL.of h1⟩
            · cases lo
          · refine ha.run σ H1 ρ Z E1 _ A1 (R.sat_mono (R.sat_bind.mp h) (fun ds ρ1 he k vs H2 E2 F A2 r2 n2 z2 t2 s2 => ?_) fun c xs ρ2 k2 cls dd H2 E2 x A2 t2 => k2 cls dd H2 E2 x A2 (t1.trans t2 fun _ h => h))
            have l2 : LocAt g H2 v0 st (.ref a) := by
              cases pb with
              | true => exact l0.mono (s1.trans (s2 rfl))
              | false =>
                cases st with
                | nil => exact l0
                | cons s st => cases c1
            refine mutAt_run tb mo A2 r2 n2 z2 ev l2 (R.sat_mono k (fun d ρ3 _ k v H3 E3 p3 t3 => k v H3 E3 p3 ((t1.trans t2 fun _ h => h).trans t3 fun _ h => h) fun h => nomatch h) fun _ _ _ k => k)
    · exact h.elim
  · exact h.elim
end
end DL
/-! DL14 -/
set_option Elab.async false
set_option linter.all false
set_option maxRecDepth 100000
set_option maxHeartbeats 1000000
namespace DL
open PySem PySem.Spec PyProof.Rows L2

/-! ### targets: readings and rules -/
section
variable {X : Cx} {pos : Pos}
theorem pg_or {tg : Expr} {t u : TG} (h1 : PG X tg t) (h2 : PG X tg u) : PG X tg (fun v σ H Q => t v σ H Q ∨ u v σ H Q) :=
  ⟨fun pins s σ H v w Q I r h => h.elim (h1.run pins s σ H v w Q I r) (h2.run pins s σ H v w Q I r)⟩
def gTupA (K : PySem.W.Frag) (n : Nat) (t : TGs) : TG := fun v σ H Q => gTup K n t v σ H Q ∨ gUnl K n t v σ H Q
theorem pg_tupA {es : List Expr} {k : Nat} {t : TGs} {n : Nat} (hc : X.calm = true) (h : PGs X es t)
    (hn : (assignEach es X.env).length = n := by rfl) (hst : (assignEach es X.env).findIdx? (·.1) = none := by rfl) : PG X (.Tuple es k pos) (gTupA X.K n t) :=
  pg_or (pg_tup hc h hn hst) (pg_unl hc h hn hst)
def rSetA : TSet := fun o i v H Q => rSetL o i v H Q ∨ rSetD o i v H Q
theorem set_any (hu : X.A.units + 1 < cLine) : PSet X rSetA := by
  intro pins s σ H o i v ov iv u Q I ro ri rv h
  rcases h with h | h
  · exact set_list pins s σ H o i v ov iv u Q I ro ri rv h
  · exact set_dict hu pins s σ H o i v ov iv u Q I ro ri rv h
/-- o.f = .. -/
def gFld (K : PySem.W.Frag) (to : TE) (f : Str) : TG := fun v σ H Q => to σ H fun x H1 => ∃ a C dx fs, x = .ref a ∧ H1 a = some (.ins C dx fs) ∧ Cls K C ∧ NoAttr K C f ∧ fs.length < 1000 ∧ Q σ (upd H1 a (.ins C dx (putF f v fs)))
theorem pg_fld {o : Expr} {to : TE} {f : Str} (ho : PE X o to) : PG X (.Attribute o f pos) (gFld X.K to f) := by
  refine ⟨fun pins s σ H v u Q I r h => ?_⟩
  rw [PySem.assign_Attribute]
  refine wpAny_bind (wpAny_holding (thn (ho.run pins s σ H _ I h) fun ov s1 ⟨x, H1, I1, r1, a, C, dx, fs, ex, ea, c, n, l, q1⟩ => ?_))
  subst ex
  obtain rfl : ov = Value.ref a := r1
  refine wpAny_bind (wpAny_standAt (wpAny_bind (wpAny_holding ?_)))
  exact setattr_ok I1 ea c n l r fun s3 I3 => wpAny_release ⟨σ, _, I3, q1⟩
end

/-! ### targets: soundness -/
/-- the names io stand for what they stood for -/
def An (io : List Nat) (σ σ' : L2.St) : Prop := σ'.length = σ.length ∧ ∀ k ∈ io, σ'[k]? = σ[k]?
theorem An.refl {io : List Nat} {σ : L2.St} : An io σ σ := ⟨rfl, fun _ _ => rfl⟩
theorem An.trans {io : List Nat} {σ σ1 σ2 : L2.St} (h : An io σ σ1) (h' : An io σ1 σ2) : An io σ σ2 := ⟨h'.1.trans h.1, fun k m => (h'.2 k m).trans (h.2 k m)⟩
structure SndG (g : Gx) (io : List Nat) (t0 : TG) (t : D → Env → Option Env) : Prop where
  run : ∀ (σ : L2.St) (H : Hp) (ρ : Env) (Z E : Addr → Prop) (F : List Addr) (v : V) (d : D) (ρ' : Env) (Q : L2.St → Hp → Prop), EnvAt g (more F Z) E ρ σ H → Rep g H E d v F → F.Nodup → (∀ a ∈ F, ¬ Z a) → t d ρ = some ρ' →
    (∀ σ' H' E', An io σ σ' → EnvAt g Z E' ρ' σ' H' → Tr Z H E H' E' → Q σ' H') → t0 v σ H Q
structure SndGs (g : Gx) (io : List Nat) (n : Nat) (t0 : TGs) (t : List D → Env → Option Env) : Prop where
  len : ∀ ds ρ ρ', t ds ρ = some ρ' → ds.length = n
  run : ∀ (σ : L2.St) (H : Hp) (ρ : Env) (Z E : Addr → Prop) (F : List Addr) (vs : List V) (ds : List D) (ρ' : Env) (Q : L2.St → Hp → Prop), EnvAt g (more F Z) E ρ σ H → RepL g H E ds vs F → F.Nodup → (∀ a ∈ F, ¬ Z a) → t ds ρ = some ρ' →
    (∀ σ' H' E', An io σ σ' → EnvAt g Z E' ρ' σ' H' → Tr Z H E H' E' → Q σ' H') → t0 vs σ H Q
/-- a name that is only read -/
def gS (i : Nat) (d : D) (ρ : Env) : Option Env := if noOwn d = true ∧ i < ρ.length then some (ρ.set i (some (.sh d))) else none
/-- a name that is changed -/
def gD (i : Nat) (d : D) (ρ : Env) : Option Env := if i < ρ.length then some (ρ.set i (some (.dp d))) else none
/-- a name, let go at once -/
def gF (i : Nat) (d : D) (ρ : Env) : Option Env := if i < ρ.length then some (ρ.set i (some (.sh (frzAll d)))) else none
section
variable {g : Gx} {io : List Nat} {tab : List (Str × List Str)}
theorem An.set {σ : L2.St} {i : Nat} {x : Option V} (h : i ∉ io) : An io σ (σ.set i x) := ⟨List.length_set, fun k m => List.getElem?_set_ne (fun e => h (by rw [e]; exact m))⟩
theorem snd_gD {i : Nat} (h : i ∉ io := by decide) : SndG g io (gName i) (gD i) := by
  refine ⟨fun σ H ρ Z E F v d ρ' Q A r n z e k => ?_⟩
  unfold gD at e
  split at e
  · rename_i hi
    cases e
    obtain ⟨E', A', s'⟩ := (Res.mk A r n z).bindD hi
    exact k _ H E' (An.set h) A' ⟨fun _ _ h _ => h, fun a h => .inl (s' a h)⟩
  · cases e
theorem snd_gS {i : Nat} (h : i ∉ io := by decide) : SndG g io (gName i) (gS i) := by
  refine ⟨fun σ H ρ Z E F v d ρ' Q A r n z e k => ?_⟩
  unfold gS at e
  split at e
  · rename_i hi
    cases e
    have e0 := r.noOwn hi.1
    subst e0
    rw [more_nil] at A
    obtain ⟨E', A', s'⟩ := A.bindS r hi.2
    exact k _ H E' (An.set h) A' ⟨fun _ _ h _ => h, fun a h => .inl (s' a h)⟩
  · cases e
theorem snd_gF {i : Nat} (h : i ∉ io := by decide) : SndG g io (gName i) (gF i) := by
  refine ⟨fun σ H ρ Z E F v d ρ' Q A r n z e k => ?_⟩
  unfold gF at e
  split at e
  · rename_i hi
    cases e
    obtain ⟨E1, A1, s1, n1⟩ := A.drop z
    obtain ⟨E', A', s'⟩ := A1.bindS (r.frz s1 n1) hi
    exact k _ H E' (An.set h) A' ⟨fun _ _ h _ => h, fun a h => .inl (s1 a (s' a h))⟩
  · cases e
def gsNil (ds : List D) (ρ : Env) : Option Env := match ds with
  | [] => some ρ
  | _ => none
def gsCons (t : D → Env → Option Env) (u : List D → Env → Option Env) (ds : List D) (ρ : Env) : Option Env := match ds with
  | d :: ds => (t d ρ).bind (u ds)
  | [] => none
theorem snd_gsNil : SndGs g io 0 gNil gsNil := by
  refine ⟨fun ds ρ ρ' h => ?_, fun σ H ρ Z E F vs ds ρ' Q A r n z e k => ?_⟩
  · unfold gsNil at h
    split at h
    · rfl
    · cases h
  · unfold gsNil at e
    split at e
    · cases e
      obtain ⟨rfl, rfl⟩ := r.nil_inv
      rw [more_nil] at A
      exact ⟨rfl, k σ H E An.refl A Tr.refl⟩
    · cases e
theorem snd_gsCons {n : Nat} {t0 : TG} {u0 : TGs} {t : D → Env → Option Env} {u : List D → Env → Option Env} (h : SndG g io t0 t) (hs : SndGs g io n u0 u) : SndGs g io (n + 1) (gCons t0 u0) (gsCons t u) := by
  refine ⟨fun ds ρ ρ' h => ?_, fun σ H ρ Z E F vs ds ρ' Q A r n z e k => ?_⟩
  · unfold gsCons at h
    split at h
    · rename_i d ds
      cases q : t d ρ with
      | none => rw [q] at h; cases h
      | some ρ1 => rw [q] at h; rw [List.length_cons, hs.len _ _ _ h]
    · cases h
  · unfold gsCons at e
    split at e
    · rename_i d ds
      cases q : t d ρ with
      | none => rw [q] at e; cases e
      | some ρ1 =>
        rw [q] at e
        have e : u ds ρ1 = some ρ' := e
        unfold RepL at r
        obtain ⟨v, vr, F1, F2, rfl, rfl, r1, r2⟩ := r
        obtain ⟨n1, n2, n3⟩ := nodup_app n
        refine ⟨v, vr, rfl, h.run σ H ρ (more F2 Z) E F1 v d ρ1 _ (by rw [← more_app]; exact A) r1 n1 (fun a ha => ?_) q fun σ1 H1 E1 an1 A1 t1 => ?_⟩
        · rintro (y | y)
          · exact n3 a ha y
          · exact z a (List.mem_append_left _ ha) y
        · refine hs.run σ1 H1 ρ1 Z E1 F2 vr ds ρ' Q A1 (RepL.keep (t1.kp A.ki fun a ha => .inl ha) r2) n2 (fun a ha => z a (List.mem_append_right _ ha)) e fun σ2 H2 E2 an2 A2 t2 => ?_
          have t1' : Tr Z H E H1 E1 := ⟨fun a o h n => t1.k a o h (n.elim .inl fun z => .inr (.inr z)), t1.e⟩
          exact k σ2 H2 E2 (an1.trans an2) A2 (t1'.trans t2 fun _ h => h)
    · cases e
def gTupM (u : List D → Env → Option Env) (d : D) (ρ : Env) : Option Env := match d with
  | .tup ds => u ds ρ
  | .lst _ ds => u ds ρ
  | _ => none
theorem snd_gTup {n : Nat} {u0 : TGs} {u : List D → Env → Option Env} (hs : SndGs g io n u0 u) : SndG g io (gTupA g.K n u0) (gTupM u) := by
  refine ⟨fun σ H ρ Z E F v d ρ' Q A r nd z e k => ?_⟩
  unfold gTupM at e
  split at e
  · rename_i ds
    unfold Rep at r
    obtain ⟨a, vs, rfl, h1, r1⟩ := r
    exact .inl ⟨a, vs, rfl, .inl h1, by rw [r1.len, hs.len _ _ _ e], hs.run σ H ρ Z E F vs ds ρ' Q A r1 nd z e k⟩
  · rename_i o ds
    cases o with
    | true =>
      unfold Rep at r
      obtain ⟨a, vs, F1, rfl, h1, rfl, r1⟩ := r
      have A0 : EnvAt g (more [a] (more F1 Z)) E ρ σ H := by rw [← more_app]; exact A
      have nd' := List.nodup_cons.mp nd
      obtain ⟨E1, A1, s1, n1⟩ := A0.drop (fun b hb => by
        rw [List.mem_singleton.mp hb]
        rintro (y | y)
        · exact nd'.1 y
        · exact z a List.mem_cons_self y)
      exact .inr ⟨a, vs, rfl, SqL.of h1, by rw [r1.len, hs.len _ _ _ e], hs.run σ H ρ Z E1 F1 vs ds ρ' Q A1 (r1.keep (Kp.same (fun _ _ h => h) fun a h => .inl (s1 a h))) nd'.2 (fun b hb => z b (List.mem_cons_of_mem _ hb)) e fun σ' H' E' an A' t => k σ' H' E' an A' ⟨fun b o h n => t.k b o h (n.elim (fun n => .inl fun y => n (s1 b y)) .inr), fun b h => (t.e b h).elim (fun h => .inl (s1 b h)) .inr⟩⟩
    | false =>
      unfold Rep at r
      obtain ⟨a, vs, rfl, h1, ne, rfl, r1⟩ := r
      exact .inr ⟨a, vs, rfl, SqL.of h1, by rw [r1.len, hs.len _ _ _ e], hs.run σ H ρ Z E [] vs ds ρ' Q A r1 nd z e k⟩
  · cases e

/-! o[i] = .., o.f = .. -/
def SetOp (g : Gx) (tab : List (Str × List Str)) (r : V → V → Hp → (Hp → Prop) → Prop) (f : D → D → Option D) : Prop :=
  ∀ (H : Hp) (E : Addr → Prop) (d' d d'' : D) (a : Addr) (v : V) (F F1 : List Addr), f d' d = some d'' → DL.ownTop g H E d' a F1 → Rep g H E d v F →
    ∃ H', (∀ Q : Hp → Prop, Q H' → r (.ref a) v H Q) ∧ Chg g d' d'' a H H' E F fun Fo => Fo = []
def setIx (e d' d : D) : Option D := match d' with
  | .lst true xs => (intOf e).bind fun i => (ixN xs.length i).map fun k => .lst true (xs.set k d)
  | .dic true ks xs => (toKey e).bind fun k => if ks.length < 100000 then (match idxK ks k with
    | some j => some (.dic true ks (xs.set j d))
    | none => some (.dic true (ks ++ [k]) (xs ++ [d]))) else none
  | _ => none
theorem intOf_eq {e : D} {i : Int} (h : intOf e = some i) : e = .int i := by
  unfold intOf at h
  split at h
  · cases h; rfl
  · cases h
theorem ixN_lt {n : Nat} {i : Int} {k : Nat} (h : ixN n i = some k) : k < n := (ixN_seq h).2.1
theorem idxK_lt {f : Key} : ∀ {ks : List Key} {j : Nat}, idxK ks f = some j → ks[j]? = some f
  | [], j, h => by cases h
  | c :: ks, j, h => by
    unfold idxK at h
    by_cases q : c = f
    · rw [if_pos q] at h
      cases h
      rw [q]
      rfl
    · rw [if_neg q] at h
      cases q2 : idxK ks f with
      | none => rw [q2] at h; cases h
      | some i =>
        rw [q2] at h
        cases h
        simpa using idxK_lt q2
theorem idxK_none {f : Key} : ∀ {ks : List Key}, idxK ks f = none → f ∉ ks
  | [], h => fun z => nomatch z
  | c :: ks, h => by
    unfold idxK at h
    by_cases q : c = f
    · rw [if_pos q] at h; cases h
    · rw [if_neg q] at h
      have h2 : idxK ks f = none := by
        cases q2 : idxK ks f with
        | none => rfl
        | some i => rw [q2] at h; cases h
      intro z
      rcases List.mem_cons.mp z with z | z
      · exact q z.symm
      · exact idxK_none h2 z
theorem putK_in {f : Key} {v : V} : ∀ {ks : List Key} {vs : List V} {j : Nat}, KsOk ks vs → idxK ks f = some j → (ks.zip vs).any (fun kv => decide (kv.1 = f)) = true ∧ (ks.zip vs).map (fun kv => if kv.1 = f then (kv.1, v) else kv) = ks.zip (vs.set j v)
  | [], vs, j, h, e => by cases e
  | c :: ks, [], j, h, e => by have := h.len; cases this
  | c :: ks, x :: vs, j, h, e => by
    have nd := List.nodup_cons.mp h.nd
    have h2 : KsOk ks vs := ⟨Nat.succ.inj h.len, nd.2⟩
    unfold idxK at e
    by_cases q : c = f
    · rw [if_pos q] at e
      cases e
      subst q
      refine ⟨by simp, ?_⟩
      rw [List.zip_cons_cons, List.map_cons, if_pos rfl, List.set_cons_zero, List.zip_cons_cons]
      congr 1
      have : ∀ p ∈ ks.zip vs, (if p.1 = c then (p.1, v) else p) = p := fun p hp => by
        have := (List.of_mem_zip hp).1
        rw [if_neg (fun z : p.1 = c => nd.1 (by rw [← z]; exact this))]
      rw [List.map_congr_left this]
      exact List.map_id' _
    · rw [if_neg q] at e
      cases q2 : idxK ks f with
      | none => rw [q2] at e; cases e
      | some i =>
        rw [q2] at e
        cases e
        obtain ⟨a, b⟩ := putK_in (v := v) h2 q2
        refine ⟨by rw [List.zip_cons_cons, List.any_cons, a]; simp, ?_⟩
        rw [List.zip_cons_cons, List.map_cons, if_neg q, b]
        rfl
theorem putK_idx {f : Key} {v : V} {ks : List Key} {vs : List V} {j : Nat} (h : KsOk ks vs) (e : idxK ks f = some j) : putK (ks.zip vs) f v = ks.zip (vs.set j v) := by
  obtain ⟨a, b⟩ := putK_in (v := v) h e
  unfold putK
  rw [if_pos a, b]
theorem putK_new {f : Key} {v : V} {ks : List Key} {vs : List V} (h : KsOk ks vs) (e : idxK ks f = none) : putK (ks.zip vs) f v = (ks ++ [f]).zip (vs ++ [v]) := by
  have n := idxK_none e
  have a : ¬ (ks.zip vs).any (fun kv => decide (kv.1 = f)) = true := fun z => by
    obtain ⟨p, hp, hq⟩ := List.any_eq_true.mp z
    exact n (of_decide_eq_true hq ▸ (List.of_mem_zip hp).1)
  unfold putK
  rw [if_neg a, List.zip_append h.len]
  rfl
theorem KsOk.set {ks : List Key} {vs : List V} {j : Nat} {v : V} (h : KsOk ks vs) : KsOk ks (vs.set j v) := ⟨by rw [List.length_set]; exact h.len, h.nd⟩
theorem KsOk.new {f : Key} {ks : List Key} {vs : List V} {v : V} (h : KsOk ks vs) (e : idxK ks f = none) : KsOk (ks ++ [f]) (vs ++ [v]) :=
  ⟨by simp [h.len], List.nodup_append.mpr ⟨h.nd, by simp, fun x hx y hy e' => by rw [List.mem_singleton.mp hy] at e'; exact idxK_none e (e' ▸ hx)⟩⟩
theorem RepL.setNew {H H' : Hp} {E : Addr → Prop} {a : Addr} {xs : List D} {ws : List V} {F F1 : List Addr} {k : Nat} {d : D} {v : V} (r1 : RepL g H E xs ws F1) (hk : k < xs.length) (kp : ∀ {F'}, (∀ b ∈ F', b ≠ a) → Kp H E H' E F') (nF : a ∉ F1) (nb : ∀ b ∈ F, b ≠ a) (nd : (F1 ++ F).Nodup) (r : Rep g H E d v F) :
    ∃ F3, RepL g H' E (xs.set k d) (ws.set k v) F3 ∧ F3.Nodup ∧ ∀ b ∈ F3, b ∈ F1 ∨ b ∈ F := by
  obtain ⟨v', F', Fr, e1, rr, pm, put⟩ := r1.lens (List.getElem?_eq_getElem hk)
  have frF : ∀ b ∈ Fr, b ∈ F1 := fun b hb => pm.mem_iff.mpr (List.mem_append_right _ hb)
  obtain ⟨F3, p3, r3⟩ := put H' E d v F (kp fun b hb z => nF (z ▸ frF b hb)) (Rep.keep (kp nb) r)
  refine ⟨F3, r3, ?_, fun b hb => ?_⟩
  · refine p3.nodup_iff.mpr ?_
    obtain ⟨m1, m2, m3⟩ := nodup_app nd
    have n1 := nodup_app (pm.nodup_iff.mp m1)
    exact List.nodup_append.mpr ⟨m2, n1.2.1, fun x hx y hy e => by subst e; exact m3 x (frF x hy) hx⟩
  · rcases List.mem_append.mp (p3.mem_iff.mp hb) with hb | hb
    · exact .inr hb
    · exact .inl (frF b hb)
theorem RepL.appNew {H H' : Hp} {E : Addr → Prop} {a : Addr} {xs : List D} {ws : List V} {F F1 : List Addr} {d : D} {v : V} (r1 : RepL g H E xs ws F1) (kp : ∀ {F'}, (∀ b ∈ F', b ≠ a) → Kp H E H' E F') (nF : a ∉ F1) (nb : ∀ b ∈ F, b ≠ a) (nd : (F1 ++ F).Nodup) (r : Rep g H E d v F) :
    ∃ F3, RepL g H' E (xs ++ [d]) (ws ++ [v]) F3 ∧ F3.Nodup ∧ ∀ b ∈ F3, b ∈ F1 ∨ b ∈ F :=
  ⟨F1 ++ F, (RepL.keep (kp fun b hb z => nF (z ▸ hb)) r1).app (RepL.one (Rep.keep (kp nb) r)), nd, fun b hb => List.mem_append.mp hb⟩
theorem zip_inj {α : Type} : ∀ {ks : List α} {ws ws' : List V}, ks.length = ws.length → ks.length = ws'.length → ks.zip ws = ks.zip ws' → ws = ws'
  | [], ws, ws', h, h', _ => by rw [List.length_eq_zero_iff.mp h.symm, List.length_eq_zero_iff.mp h'.symm]
  | k :: ks, [], _, h, _, _ => by cases h
  | k :: ks, _ :: _, [], _, h', _ => by cases h'
  | k :: ks, w :: ws, w' :: ws', h, h', e => by
    rw [List.zip_cons_cons, List.zip_cons_cons] at e
    injection e with e1 e2
    cases e1
    rw [zip_inj (Nat.succ.inj h) (Nat.succ.inj h') e2]
theorem set_ix {e : D} {iv : V} (hk : ∀ {k}, toKey e = some k → iv = kV k) (hi : ∀ {i}, intOf e = some i → iv = .int i) : SetOp g tab (fun o v H Q => rSetA o iv v H Q) (setIx e) := by
  intro H E d' d d'' a v F F1 h top r
  unfold setIx at h
  split at h
  · rename_i xs
    cases q1 : intOf e with
    | none => rw [q1] at h; cases h
    | some i =>
      rw [q1] at h
      have h : (ixN xs.length i).map (fun k => D.lst true (xs.set k d)) = some d'' := h
      cases q2 : ixN xs.length i with
      | none => rw [q2] at h; cases h
      | some k =>
        rw [q2] at h
        cases h
        obtain ⟨ws, h1, r1⟩ := top
        refine ⟨upd H a (.lst (ws.set k v)), fun Q q => .inl ⟨a, ws, i, k, rfl, hi q1, h1, by rw [r1.len]; exact q2, q⟩, upd_off, fun F1 hE top nF nd nb => ?_⟩
        obtain ⟨ws', h1', r1'⟩ := top
        rw [h1] at h1'
        cases h1'
        obtain ⟨F3, r3, n3, s3⟩ := r1'.setNew (ixN_lt q2) (fun n => kpOff upd_off hE ⟨_, h1, rfl⟩ n) nF nb nd r
        exact ⟨F3, [], rfl, ⟨_, upd_same, r3⟩, by rw [List.append_nil]; exact n3, fun b hb => s3 b (by rw [List.append_nil] at hb; exact hb)⟩
  · rename_i ks xs
    cases q1 : toKey e with
    | none => rw [q1] at h; cases h
    | some k =>
      rw [q1] at h
      have h : (if ks.length < 100000 then (match idxK ks k with
        | some j => some (D.dic true ks (xs.set j d))
        | none => some (.dic true (ks ++ [k]) (xs ++ [d]))) else none) = some d'' := h
      obtain ⟨ws, h1, hl, r1⟩ := top
      by_cases h0 : ks.length < 100000
      case neg => rw [if_neg h0] at h; cases h
      rw [if_pos h0] at h
      split at h
      · rename_i j q2
        cases h
        have hj : j < xs.length := by rw [← r1.len, ← hl.len]; exact ltOf (idxK_lt q2)
        have hput := putK_idx (v := v) hl q2
        · refine ⟨upd H a (.dK (ks.zip (ws.set j v))), fun Q q => .inr ⟨a, _, rfl, .inl ⟨_, k, h1, hk q1, line100000 (by rw [List.length_zip, ← hl.len, Nat.min_self]; exact h0), by rw [hput]⟩, q⟩, upd_off, fun F1 hE top nF nd nb => ?_⟩
          obtain ⟨ws', h1', hl', r1'⟩ := top
          rw [h1] at h1'
          have ez := zip_inj hl.len hl'.len (HO.dK.inj (Option.some.inj h1'))
          subst ez
          obtain ⟨F3, r3, n3, s3⟩ := r1'.setNew hj (fun n => kpOff upd_off hE ⟨_, h1, rfl⟩ n) nF nb nd r
          exact ⟨F3, [], rfl, ⟨_, upd_same, hl.set, r3⟩, by rw [List.append_nil]; exact n3, fun b hb => s3 b (by rw [List.append_nil] at hb; exact hb)⟩
      · rename_i q2
        cases h
        refine ⟨upd H a (.dK ((ks ++ [k]).zip (ws ++ [v]))), fun Q q => .inr ⟨a, _, rfl, .inl ⟨_, k, h1, hk q1, line100000 (by rw [List.length_zip, ← hl.len, Nat.min_self]; exact h0), by rw [putK_new hl q2]⟩, q⟩, upd_off, fun F1 hE top nF nd nb => ?_⟩
        obtain ⟨ws', h1', hl', r1'⟩ := top
        rw [h1] at h1'
        have ez := zip_inj hl.len hl'.len (HO.dK.inj (Option.some.inj h1'))
        subst ez
        obtain ⟨F3, r3, n3, s3⟩ := r1'.appNew (fun n => kpOff upd_off hE ⟨_, h1, rfl⟩ n) nF nb nd r
        exact ⟨F3, [], rfl, ⟨_, upd_same, hl.new q2, r3⟩, by rw [List.append_nil]; exact n3, fun b hb => s3 b (by rw [List.append_nil] at hb; exact hb)⟩
  · cases h
/-- o.f = .. -/
def setFld (tab : List (Str × List Str)) (f : Str) (d' d : D) : Option D := match d' with
  | .ins true c fs xs => if tabOk tab c f = true ∧ fs.length < 900 then some (match idxF fs f with
    | some j => .ins true c fs (xs.set j d)
    | none => .ins true c (fs ++ [f]) (xs ++ [d])) else none
  | _ => none
theorem putF_idx {f : Str} {v : V} : ∀ {fs : List Str} {vs : List V} {j : Nat}, fs.length = vs.length → idxF fs f = some j → putF f v (fs.zip vs) = fs.zip (vs.set j v)
  | [], vs, j, h, e => by cases e
  | c :: fs, [], j, h, e => by cases h
  | c :: fs, x :: vs, j, h, e => by
    unfold idxF at e
    rw [List.zip_cons_cons]
    unfold putF
    by_cases q : f = c
    · rw [if_pos q] at e
      cases e
      rw [if_pos q.symm]
      rfl
    · rw [if_neg q] at e
      rw [if_neg fun z => q z.symm]
      cases q2 : idxF fs f with
      | none => rw [q2] at e; cases e
      | some i =>
        rw [q2] at e
        cases e
        rw [putF_idx (Nat.succ.inj h) q2]
        rfl
theorem putF_new {f : Str} {v : V} : ∀ {fs : List Str} {vs : List V}, fs.length = vs.length → idxF fs f = none → putF f v (fs.zip vs) = (fs ++ [f]).zip (vs ++ [v])
  | [], vs, h, e => by rw [List.length_eq_zero_iff.mp h.symm]; rfl
  | c :: fs, [], h, e => by cases h
  | c :: fs, x :: vs, h, e => by
    unfold idxF at e
    rw [List.zip_cons_cons]
    unfold putF
    by_cases q : f = c
    · rw [if_pos q] at e; cases e
    · rw [if_neg q] at e
      rw [if_neg fun z => q z.symm]
      have e2 : idxF fs f = none := by
        cases q2 : idxF fs f with
        | none => rfl
        | some i => rw [q2] at e; cases e
      rw [putF_new (Nat.succ.inj h) e2]
      rfl
theorem idxF_lt {f : Str} : ∀ {fs : List Str} {j : Nat}, idxF fs f = some j → j < fs.length
  | [], j, h => by cases h
  | c :: fs, j, h => by
    unfold idxF at h
    by_cases q : f = c
    · rw [if_pos q] at h; cases h; exact Nat.succ_pos _
    · rw [if_neg q] at h
      cases q2 : idxF fs f with
      | none => rw [q2] at h; cases h
      | some i =>
        rw [q2] at h
        cases h
        exact Nat.succ_lt_succ (idxF_lt q2)
def rSetF (K : PySem.W.Frag) (f : Str) : V → V → Hp → (Hp → Prop) → Prop := fun x v H1 Q => ∃ a C dx fs, x = .ref a ∧ H1 a = some (.ins C dx fs) ∧ Cls K C ∧ NoAttr K C f ∧ fs.length < 1000 ∧ Q (upd H1 a (.ins C dx (putF f v fs)))
theorem set_fld (tb : FldOk g tab) {f : Str} : SetOp g tab (rSetF g.K f) (setFld tab f) := by
  intro H E d' d d'' a v F F1 h top r
  unfold setFld at h
  split at h
  · rename_i c fs xs
    split at h
    · rename_i ok
      have tb := tb c f ok.1
      obtain ⟨dx, ws, h1, hl, r1⟩ := top
      have hlen : (fs.zip ws).length < 1000 := by rw [List.length_zip, ← hl, Nat.min_self]; omega
      cases q2 : idxF fs f with
      | some j =>
        rw [q2] at h
        cases h
        refine ⟨upd H a (.ins (g.cl c) dx (fs.zip (ws.set j v))), fun Q q => ⟨a, _, dx, _, rfl, h1, tb.1, tb.2, hlen, by rw [putF_idx hl q2]; exact q⟩, upd_off, fun F1 hE top nF nd nb => ?_⟩
        obtain ⟨dx', ws', h1', hl', r1'⟩ := top
        rw [h1] at h1'
        injection h1' with h1'
        injection h1' with _ edx ez
        subst edx
        have ez := zip_inj hl hl' ez
        subst ez
        obtain ⟨F3, r3, n3, s3⟩ := r1'.setNew (by rw [← r1.len, ← hl]; exact idxF_lt q2) (fun n => kpOff upd_off hE ⟨_, h1, rfl⟩ n) nF nb nd r
        exact ⟨F3, [], rfl, ⟨_, _, upd_same, by rw [List.length_set]; exact hl, r3⟩, by rw [List.append_nil]; exact n3, fun b hb => s3 b (by rw [List.append_nil] at hb; exact hb)⟩
      | none =>
        rw [q2] at h
        cases h
        refine ⟨upd H a (.ins (g.cl c) dx ((fs ++ [f]).zip (ws ++ [v]))), fun Q q => ⟨a, _, dx, _, rfl, h1, tb.1, tb.2, hlen, by rw [putF_new hl q2]; exact q⟩, upd_off, fun F1 hE top nF nd nb => ?_⟩
        obtain ⟨dx', ws', h1', hl', r1'⟩ := top
        rw [h1] at h1'
        injection h1' with h1'
        injection h1' with _ edx ez
        subst edx
        have ez := zip_inj hl hl' ez
        subst ez
        obtain ⟨F3, r3, n3, s3⟩ := r1'.appNew (fun n => kpOff upd_off hE ⟨_, h1, rfl⟩ n) nF nb nd r
        exact ⟨F3, [], rfl, ⟨_, _, upd_same, by simp [hl], r3⟩, by rw [List.append_nil]; exact n3, fun b hb => s3 b (by rw [List.append_nil] at hb; exact hb)⟩
    · cases h
  · cases h
/-- what a store at a place leaves -/
def setAtM (tab : List (Str × List Str)) (i : Nat) (st : List Stp) (f : D → D → Option D) (d : D) (ρ : Env) : Option Env := (rowDat ρ i).bind fun d0 => (focusR tab d0 st).bind fun d' => if isOwn d' = true then (f d' d).bind fun d'' => (putR tab d0 st d'').map fun d3 => ρ.set i (some (.dp d3)) else none
theorem setAt_run (tb : FldOk g tab) {Z E : Addr → Prop} {ρ ρ' : Env} {σ : L2.St} {H : Hp} {F : List Addr} {r : V → V → Hp → (Hp → Prop) → Prop} {f : D → D → Option D} (so : SetOp g tab r f) {i : Nat} {st : List Stp} {d : D} {v v0 : V} {Q : L2.St → Hp → Prop}
    (A : EnvAt g (more F Z) E ρ σ H) (rv : Rep g H E d v F) (hF : F.Nodup) (hFZ : ∀ b ∈ F, ¬ Z b) (hv : σ[i]? = some (some v0)) (h : setAtM tab i st f d ρ = some ρ') :
    ∃ a, LocAt g H v0 st (.ref a) ∧ ∀ H2, Same H H2 → (∀ E2, EnvAt g (more F Z) E2 ρ σ H2 → Tr (more F Z) H E H2 E2 → (∀ σ' H' E', An io σ σ' → EnvAt g Z E' ρ' σ' H' → Tr Z H E H' E' → Q σ' H') → r (.ref a) v H2 (Q σ)) := by
  unfold setAtM at h
  cases q1 : rowDat ρ i with
  | none => rw [q1] at h; cases h
  | some d0 =>
    rw [q1] at h
    have h : ((focusR tab d0 st).bind fun d' => if isOwn d' = true then (f d' d).bind fun d'' => (putR tab d0 st d'').map fun d3 => ρ.set i (some (.dp d3)) else none) = some ρ' := h
    cases q2 : focusR tab d0 st with
    | none => rw [q2] at h; cases h
    | some d' =>
      rw [q2] at h
      have h : (if isOwn d' = true then (f d' d).bind fun d'' => (putR tab d0 st d'').map fun d3 => ρ.set i (some (.dp d3)) else none) = some ρ' := h
      by_cases ho : isOwn d' = true
      · rw [if_pos ho] at h
        cases q3 : f d' d with
        | none => rw [q3] at h; cases h
        | some d'' =>
          rw [q3] at h
          have h : (putR tab d0 st d'').map (fun d3 => ρ.set i (some (.dp d3))) = some ρ' := h
          cases q4 : putR tab d0 st d'' with
          | none => rw [q4] at h; cases h
          | some d3 =>
            rw [q4] at h
            cases h
            obtain ⟨a, l, ch⟩ := place_change tb A hF hFZ (rowDat_eq q1) hv q2 ho q4
            refine ⟨a, l, fun H2 sm E2 A2 t2 k => ?_⟩
            obtain ⟨⟨F1, top⟩, ch⟩ := ch H2 sm
            obtain ⟨H', run, cg⟩ := so H2 E d' d d'' a v F F1 q3 top (rv.keep (Kp.same sm fun _ h => .inl h))
            obtain ⟨E', Fo, rfl, A', t', s', nd', dz'⟩ := ch H' _ cg
            rw [more_nil] at A'
            exact run _ (k σ H' E' An.refl A' t')
      · rw [if_neg ho] at h; cases h
def gFldM (tab : List (Str × List Str)) (i : Nat) (tp : Env → R (List Stp)) (f : Str) (d : D) (ρ : Env) : Option Env := match tp ρ with
  | .ok st _ => setAtM tab i st (setFld tab f) d ρ
  | _ => none
theorem row_val {Z E : Addr → Prop} {ρ : Env} {σ : L2.St} {H : Hp} {i : Nat} {d : D} (A : EnvAt g Z E ρ σ H) (h : rowDat ρ i = some d) : ∃ v, σ[i]? = some (some v) := by
  obtain ⟨v, F, a, b, n⟩ := A.getO (rowDat_eq h)
  exact ⟨v, a⟩
theorem setAtM_row {i : Nat} {st : List Stp} {f : D → D → Option D} {d : D} {ρ ρ' : Env} (h : setAtM tab i st f d ρ = some ρ') : ∃ d0, rowDat ρ i = some d0 := by
  unfold setAtM at h
  cases q1 : rowDat ρ i with
  | none => rw [q1] at h; cases h
  | some d0 => exact ⟨d0, rfl⟩
theorem snd_gFld (tb : FldOk g tab) {W : WX} {i : Nat} {to : TE} {tp : Env → R (List Stp)} {f : Str} (hl : SndL g W i to tp) : SndG g io (gFld g.K to f) (gFldM tab i tp f) := by
  refine ⟨fun σ H ρ Z E F v d ρ' Q A r nd z e k => ?_⟩
  unfold gFldM at e
  split at e
  · rename_i st ρ0 q
    obtain ⟨d0, q0⟩ := setAtM_row e
    obtain ⟨v0, hv⟩ := row_val A q0
    obtain ⟨a, l, run⟩ := setAt_run (io := io) (Q := Q) tb (set_fld tb) A r nd z hv e
    exact hl.run σ H ρ (more F Z) E _ v0 st ρ0 _ A hv q l fun H1 E1 A1 t1 s1 => run H1 s1 E1 A1 t1 k
  · cases e
def gIxM (tab : List (Str × List Str)) (i : Nat) (tp : Env → R (List Stp)) (ti : Env → R D) (d : D) (ρ : Env) : Option Env := match tp ρ, ti ρ with
  | .ok st _, .ok e _ => setAtM tab i st (setIx e) d ρ
  | _, _ => none
theorem snd_gIx (tb : FldOk g tab) {W : WX} {i : Nat} {to ti : TE} {tp : Env → R (List Stp)} {di : Env → R D} (hl : SndL g W i to tp) (hi : SndE g W true .S ti di) : SndG g io (gSub to ti rSetA) (gIxM tab i tp di) := by
  refine ⟨fun σ H ρ Z E F v d ρ' Q A r nd z e k => ?_⟩
  unfold gIxM at e
  split at e
  · rename_i st ρ0 x ρ3 q qi
    obtain ⟨d0, q0⟩ := setAtM_row e
    obtain ⟨v0, hv⟩ := row_val A q0
    have e3 := hi.pure rfl _ _ _ qi
    subst e3
    -- the index is not known yet: its value comes below
    have key : ∀ iv, (∀ {k}, toKey x = some k → iv = kV k) → (∀ {i}, intOf x = some i → iv = .int i) → ∃ a, LocAt g H v0 st (.ref a) ∧ ∀ H2, Same H H2 → (∀ E2, EnvAt g (more F Z) E2 ρ3 σ H2 → Tr (more F Z) H E H2 E2 → rSetA (.ref a) iv v H2 (Q σ)) := fun iv h1 h2 => by
      obtain ⟨a, l, run⟩ := setAt_run (io := io) (Q := Q) tb (set_ix h1 h2) A r nd z hv e
      exact ⟨a, l, fun H2 s E2 A2 t2 => run H2 s E2 A2 t2 k⟩
    obtain ⟨d1, q4⟩ : ∃ d1, focusR tab d0 st = some d1 ∧ isOwn d1 = true := by
      unfold setAtM at e
      rw [q0] at e
      have e : ((focusR tab d0 st).bind fun d' => if isOwn d' = true then (setIx x d' d).bind fun d'' => (putR tab d0 st d'').map fun d3 => ρ3.set i (some (.dp d3)) else none) = some ρ' := e
      cases q2 : focusR tab d0 st with
      | none => rw [q2] at e; cases e
      | some d' =>
        rw [q2] at e
        have e : (if isOwn d' = true then (setIx x d' d).bind fun d'' => (putR tab d0 st d'').map fun d3 => ρ3.set i (some (.dp d3)) else none) = some ρ' := e
        by_cases ho : isOwn d' = true
        · exact ⟨d', rfl, ho⟩
        · rw [if_neg ho] at e; cases e
    obtain ⟨v0', a, hv', l0, _⟩ := place_at tb A (rowDat_eq q0) q4.1 q4.2
    rw [hv] at hv'
    cases hv'
    refine hl.run σ H ρ3 (more F Z) E _ v0 st ρ0 _ A hv q l0 fun H1 E1 A1 t1 s1 => ?_
    refine hi.run σ H1 ρ3 (more F Z) E1 _ A1 ?_
    rw [qi]
    intro iv H2 E2 p2 t2 s2
    have ri := p2.2.rep1
    obtain ⟨a2, l2, run⟩ := key iv (fun {k} h => toKey_rep h ri) (fun {j} h => by rw [intOf_eq h] at ri; exact rep1_int ri)
    have := LocAt.det l0 l2
    cases this
    exact run H2 (s1.trans (s2 rfl)) E2 p2.1 (t1.trans t2 fun _ h => h)
  · cases e
end
end DL
/-! DL15 -/
set_option Elab.async false
set_option linter.all false
set_option maxRecDepth 100000
set_option maxHeartbeats 1000000
namespace DL
open PySem PySem.Spec PyProof.Rows L2

/-! ### statements -/
inductive Fl where
  | nx
  | rt (d : D)
  | bk
  | ct
def flK (g : Gx) (io : List Nat) (md : Md) (D' : Ends) (Z : Addr → Prop) (σ : L2.St) (H : Hp) (E : Addr → Prop) (fl : Fl) (ρ' : Env) : Prop := ∀ σ' H' E', An io σ σ' → Tr Z H E H' E' → match fl with
  | .nx => EnvAt g Z E' ρ' σ' H' → D'.nx σ' H'
  | .bk => EnvAt g Z E' ρ' σ' H' → D'.bk σ' H'
  | .ct => EnvAt g Z E' ρ' σ' H' → D'.ct σ' H'
  | .rt d => ∀ v, Post md g Z E' ρ' σ' H' d v → D'.rt v H'
def exK (g : Gx) (io : List Nat) (W : WX) (Z : Addr → Prop) (σ : L2.St) (H : Hp) (E : Addr → Prop) (c : Str) (xs : List D) (ρ' : Env) : Prop := ∀ cls dd σ' H' E', An io σ σ' → Tr Z H E H' E' → ExcAt g H' E' c xs cls dd → EnvAt g Z E' ρ' σ' H' → W cls dd σ' H'
structure SndS (g : Gx) (W : WX) (io : List Nat) (md : Md) (t0 : TS) (t : Env → R Fl) : Prop where
  run : ∀ (σ : L2.St) (H : Hp) (ρ : Env) (Z E : Addr → Prop) (D' : Ends), EnvAt g Z E ρ σ H → (t ρ).sat (flK g io md D' Z σ H E) (exK g io W Z σ H E) → t0 D' σ H
section
variable {g : Gx} {W : WX} {io : List Nat} {md : Md} {Z E E1 : Addr → Prop} {σ σ1 : L2.St} {H H1 : Hp} {D' : Ends} {ρ ρ1 : Env}
theorem flK.base (an : An io σ σ1) (t : Tr Z H E H1 E1) {fl : Fl} {ρ' : Env} (h : flK g io md D' Z σ H E fl ρ') : flK g io md D' Z σ1 H1 E1 fl ρ' := fun σ' H' E' a t' => h σ' H' E' (an.trans a) (t.trans t' fun _ h => h)
theorem exK.base (an : An io σ σ1) (t : Tr Z H E H1 E1) {c : Str} {xs : List D} {ρ' : Env} (h : exK g io W Z σ H E c xs ρ') : exK g io W Z σ1 H1 E1 c xs ρ' := fun cls dd σ' H' E' a t' => h cls dd σ' H' E' (an.trans a) (t.trans t' fun _ h => h)
theorem exK.e {c : Str} {xs : List D} {ρ' : Env} (h : exK g io W Z σ H E c xs ρ') : ∀ cls dd H' E', ExcAt g H' E' c xs cls dd → EnvAt g Z E' ρ' σ H' → Tr Z H E H' E' → W cls dd σ H' := fun cls dd H' E' x A t => h cls dd σ H' E' An.refl t x A
/-- from an expression's answer -/
theorem SndS.ofE {pu : Bool} {m : Md} {te : TE} {de : Env → R D} (he : SndE g W pu m te de) {k : D → Env → R Fl} {Q : VK} (A : EnvAt g Z E ρ σ H) (h : ((de ρ).bind k).sat (flK g io md D' Z σ H E) (exK g io W Z σ H E))
    (hk : ∀ d ρ1 v H1 E1, (k d ρ1).sat (flK g io md D' Z σ H1 E1) (exK g io W Z σ H1 E1) → Post m g Z E1 ρ1 σ H1 d v → Tr Z H E H1 E1 → Q v H1) : te σ H Q :=
  he.run σ H ρ Z E Q A (R.sat_mono (R.sat_bind.mp h) (fun d ρ1 _ k1 v H1 E1 p t _ => hk d ρ1 v H1 E1 (R.sat_mono k1 (fun _ _ _ q => q.base An.refl t) fun _ _ _ q => q.base An.refl t) p t) fun _ _ _ q => q.e)
def sNext : Env → R Fl := fun ρ => .ok .nx ρ
def sSeq (t u : Env → R Fl) : Env → R Fl := fun ρ => (t ρ).bind fun fl ρ1 => match fl with
  | .nx => u ρ1
  | .rt d => .ok (.rt d) ρ1
  | .bk => .ok .bk ρ1
  | .ct => .ok .ct ρ1
theorem snd_next : SndS g W io md tNext sNext := ⟨fun σ H ρ Z E D' A h => h σ H E An.refl Tr.refl A⟩
theorem snd_seq {t0 u0 : TS} {t u : Env → R Fl} (h1 : SndS g W io md t0 t) (h2 : SndS g W io md u0 u) : SndS g W io md (tSeq t0 u0) (sSeq t u) := by
  refine ⟨fun σ H ρ Z E D' A h => h1.run σ H ρ Z E _ A (R.sat_mono (R.sat_bind.mp h) (fun fl ρ1 _ k => ?_) fun _ _ _ k => k)⟩
  cases fl with
  | nx => exact fun σ1 H1 E1 an t A1 => h2.run σ1 H1 ρ1 Z E1 D' A1 (R.sat_mono k (fun _ _ _ q => q.base an t) fun _ _ _ q => q.base an t)
  | rt d => exact k
  | bk => exact k
  | ct => exact k
def sAsg (a : Env → R D) (tg : D → Env → Option Env) : Env → R Fl := fun ρ => (a ρ).bind fun d ρ1 => match tg d ρ1 with
  | some ρ2 => .ok .nx ρ2
  | none => .stk
theorem snd_asg {te : TE} {pa : Bool} {da : Env → R D} {t0 : TG} {tg : D → Env → Option Env} (ha : SndE g W pa .D te da) (hg : SndG g io t0 tg) : SndS g W io md (tAsg te t0) (sAsg da tg) := by
  refine ⟨fun σ H ρ Z E D' A h => SndS.ofE ha A h fun d ρ1 v H1 E1 k p t => ?_⟩
  obtain ⟨F, p⟩ := p
  split at k
  · rename_i ρ2 e
    exact hg.run σ H1 ρ1 Z E1 F v d ρ2 _ p.env p.rep p.nd p.dz e fun σ2 H2 E2 an A2 t2 => k σ2 H2 E2 an t2 A2
  · exact k.elim
/-- a, b = x, y -/
def sPar (i j : Nat) (a : Env → R (List D)) : Env → R Fl := fun ρ => (a ρ).bind fun ds ρ1 => match ds with
  | [d, e] => (match (gS i d ρ1).bind (gS j e) with
    | some ρ2 => .ok .nx ρ2
    | none => .stk)
  | _ => .stk
theorem snd_par {i j : Nat} {ta : TA} {pa : Bool} {n : Nat} {da : Env → R (List D)} (ha : SndA g W pa n ta da) (hi : i ∉ io := by decide) (hj : j ∉ io := by decide) : SndS g W io md (tPar i j ta) (sPar i j da) := by
  refine ⟨fun σ H ρ Z E D' A h => ha.run σ H ρ Z E _ A (R.sat_mono (R.sat_bind.mp h) (fun ds ρ1 _ k vs H1 E1 A1 r1 t1 _ => ?_) fun _ _ _ k => k.e)⟩
  split at k
  · rename_i d e _
    obtain ⟨v, vr, rfl, rv, r2⟩ := r1.uncons
    obtain ⟨w, vr, rfl, rw', r3⟩ := r2.uncons
    have e0 := (r3.nil_inv).1
    subst e0
    refine ⟨v, w, rfl, ?_⟩
    split at k
    · rename_i ρ2 q
      cases q1 : gS i d ρ1 with
      | none => rw [q1] at q; cases q
      | some ρ3 =>
        rw [q1] at q
        have q : gS j e ρ3 = some ρ2 := q
        unfold gS at q1 q
        split at q1
        · rename_i c1
          cases q1
          split at q
          · rename_i c2
            cases q
            obtain ⟨E2, A2, s2⟩ := A1.bindS rv c1.2
            have rw2 : Rep g H1 E2 e w [] := rw'.keep (Kp.same (fun _ _ h => h) fun a h => .inl (s2 a h))
            obtain ⟨E3, A3, s3⟩ := A2.bindS rw2 c2.2
            exact k _ H1 E3 ((An.set hi).trans (An.set hj)) (t1.trans ⟨fun _ _ h _ => h, fun a h => .inl (s2 a (s3 a h))⟩ fun _ h => h) A3
          · cases q
        · cases q1
    · exact k.elim
  · exact k.elim
def sExpr (a : Env → R D) : Env → R Fl := fun ρ => (a ρ).bind fun _ ρ1 => .ok .nx ρ1
theorem snd_expr {te : TE} {pa : Bool} {da : Env → R D} (ha : SndE g W pa .D te da) : SndS g W io md (tDrop te) (sExpr da) := by
  refine ⟨fun σ H ρ Z E D' A h => SndS.ofE ha A h fun d ρ1 v H1 E1 k p t => ?_⟩
  obtain ⟨F, p⟩ := p
  obtain ⟨E2, A2, s2, _⟩ := p.env.drop p.dz
  exact k σ H1 E2 An.refl ⟨fun _ _ h _ => h, fun a h => .inl (s2 a h)⟩ A2
def sRet (a : Env → R D) : Env → R Fl := fun ρ => (a ρ).bind fun d ρ1 => .ok (.rt d) ρ1
theorem snd_ret {te : TE} {pa : Bool} {da : Env → R D} (ha : SndE g W pa md te da) : SndS g W io md (tRet te) (sRet da) :=
  ⟨fun σ H ρ Z E D' A h => SndS.ofE ha A h fun d ρ1 v H1 E1 k p t => k σ H1 E1 An.refl Tr.refl v p⟩
theorem Post.ofS (hm : SD md) {d : D} {v : V} (p : Post .S g Z E ρ σ H d v) : Post md g Z E ρ σ H d v := by
  cases hm with
  | s => exact p
  | d => exact p.toT.toD
def sRetN : Env → R Fl := fun ρ => .ok (.rt .non) ρ
theorem snd_retN (hm : SD md) : SndS g W io md tRetN sRetN := ⟨fun σ H ρ Z E D' A h => h σ H E An.refl Tr.refl .non (Post.ofS hm ⟨A, rep_non⟩)⟩
def sBreak : Env → R Fl := fun ρ => .ok .bk ρ
def sCont : Env → R Fl := fun ρ => .ok .ct ρ
theorem snd_break : SndS g W io md tBreak sBreak := ⟨fun σ H ρ Z E D' A h => h σ H E An.refl Tr.refl A⟩
theorem snd_cont : SndS g W io md tCont sCont := ⟨fun σ H ρ Z E D' A h => h σ H E An.refl Tr.refl A⟩
def sIf (c : Env → R Bool) (t u : Env → R Fl) : Env → R Fl := fun ρ => (c ρ).bind fun b ρ1 => if b = true then t ρ1 else u ρ1
theorem snd_ifS {tc : TT} {pc : Bool} {dc : Env → R Bool} {t0 u0 : TS} {t u : Env → R Fl} (hc : SndT g W pc tc dc) (h1 : SndS g W io md t0 t) (h2 : SndS g W io md u0 u) : SndS g W io md (tIfS tc t0 u0) (sIf dc t u) := by
  refine ⟨fun σ H ρ Z E D' A h => hc.run σ H ρ Z E _ A (R.sat_mono (R.sat_bind.mp h) (fun b ρ1 _ k H1 E1 A1 t1 _ => ?_) fun _ _ _ k => k.e)⟩
  cases b with
  | true => exact h1.run σ H1 ρ1 Z E1 D' A1 (R.sat_mono k (fun _ _ _ q => q.base An.refl t1) fun _ _ _ q => q.base An.refl t1)
  | false => exact h2.run σ H1 ρ1 Z E1 D' A1 (R.sat_mono k (fun _ _ _ q => q.base An.refl t1) fun _ _ _ q => q.base An.refl t1)

/-! ### loops -/
/-- behind a turn -/
def aftB (k : Env → R Fl) (fl : Fl) (ρ : Env) : R Fl := match fl with
  | .nx => k ρ
  | .ct => k ρ
  | .bk => .ok .nx ρ
  | .rt d => .ok (.rt d) ρ
def whileM (c : Env → R Bool) (b : Env → R Fl) : Nat → Env → R Fl
  | 0, _ => .stk
  | n + 1, ρ => (c ρ).bind fun x ρ1 => if x = true then (b ρ1).bind fun fl ρ2 => aftB (whileM c b n) fl ρ2 else .ok .nx ρ1
theorem R.bind_congr {α β : Type} {r : R α} {k k' : α → Env → R β} (h : ∀ a ρ, r = .ok a ρ → r.bind k ≠ .stk → k a ρ = k' a ρ) (n : r.bind k ≠ .stk) : r.bind k = r.bind k' := by
  cases r with
  | ok a ρ => exact h a ρ rfl n
  | exc c xs ρ => rfl
  | stk => rfl
theorem whileM_mono {c : Env → R Bool} {b : Env → R Fl} : ∀ {n : Nat} {ρ : Env}, whileM c b n ρ ≠ .stk → whileM c b (n + 1) ρ = whileM c b n ρ
  | 0, ρ, h => absurd rfl h
  | n + 1, ρ, h => by
    have e1 : whileM c b (n + 1) ρ = (c ρ).bind fun x ρ1 => if x = true then (b ρ1).bind fun fl ρ2 => aftB (whileM c b n) fl ρ2 else .ok .nx ρ1 := rfl
    rw [e1] at h ⊢
    have e2 : whileM c b (n + 2) ρ = (c ρ).bind fun x ρ1 => if x = true then (b ρ1).bind fun fl ρ2 => aftB (whileM c b (n + 1)) fl ρ2 else .ok .nx ρ1 := rfl
    rw [e2]
    refine (R.bind_congr (fun x ρ1 ex h => ?_) h).symm
    rw [ex] at h
    have h : (if x = true then (b ρ1).bind fun fl ρ2 => aftB (whileM c b n) fl ρ2 else R.ok .nx ρ1) ≠ .stk := h
    cases x with
    | false => rfl
    | true =>
      have h : ((b ρ1).bind fun fl ρ2 => aftB (whileM c b n) fl ρ2) ≠ .stk := h
      show ((b ρ1).bind fun fl ρ2 => aftB (whileM c b n) fl ρ2) = (b ρ1).bind fun fl ρ2 => aftB (whileM c b (n + 1)) fl ρ2
      refine R.bind_congr (fun fl ρ2 ef h => ?_) h
      rw [ef] at h
      have h : aftB (whileM c b n) fl ρ2 ≠ .stk := h
      cases fl with
      | nx => exact (whileM_mono h).symm
      | ct => exact (whileM_mono h).symm
      | bk => rfl
      | rt d => rfl
theorem whileM_le {c : Env → R Bool} {b : Env → R Fl} {n : Nat} {ρ : Env} (h : whileM c b n ρ ≠ .stk) : ∀ k, whileM c b (n + k) ρ = whileM c b n ρ
  | 0 => rfl
  | k + 1 => by
    have ih := whileM_le h k
    rw [← ih] at h
    rw [← Nat.add_assoc, whileM_mono h, ih]
open Classical in
noncomputable def sWhile (c : Env → R Bool) (b : Env → R Fl) : Env → R Fl := fun ρ => if h : ∃ n, whileM c b n ρ ≠ .stk then whileM c b h.choose ρ else .stk
theorem sWhile_of {c : Env → R Bool} {b : Env → R Fl} {n : Nat} {ρ : Env} (h : whileM c b n ρ ≠ .stk) : sWhile c b ρ = whileM c b n ρ := by
  unfold sWhile
  have x : ∃ n, whileM c b n ρ ≠ .stk := ⟨n, h⟩
  rw [dif_pos x]
  have h2 := x.choose_spec
  rcases Nat.le_total n x.choose with z | z
  · obtain ⟨k, e⟩ := Nat.exists_eq_add_of_le z
    rw [e]
    exact whileM_le h k
  · obtain ⟨k, e⟩ := Nat.exists_eq_add_of_le z
    have := whileM_le h2 k
    rw [← e] at this
    exact this.symm
/-- one turn -/
theorem sWhile_eq {c : Env → R Bool} {b : Env → R Fl} {ρ : Env} : sWhile c b ρ = (c ρ).bind fun x ρ1 => if x = true then (b ρ1).bind fun fl ρ2 => aftB (sWhile c b) fl ρ2 else .ok .nx ρ1 := by
  cases ec : c ρ with
  | exc cc xs ρ1 =>
    have : whileM c b 1 ρ ≠ .stk := by unfold whileM; rw [ec]; exact fun z => nomatch z
    rw [sWhile_of this]; unfold whileM; rw [ec]; rfl
  | stk =>
    unfold sWhile
    rw [dif_neg]
    · rfl
    · rintro ⟨n, h⟩
      cases n with
      | zero => exact h rfl
      | succ n => unfold whileM at h; rw [ec] at h; exact h rfl
  | ok x ρ1 =>
    show _ = if x = true then (b ρ1).bind fun fl ρ2 => aftB (sWhile c b) fl ρ2 else .ok .nx ρ1
    have un : ∀ n, whileM c b (n + 1) ρ = if x = true then (b ρ1).bind fun fl ρ2 => aftB (whileM c b n) fl ρ2 else .ok .nx ρ1 := fun n => by
      rw [whileM, ec]; rfl
    cases x with
    | false =>
      have : whileM c b 1 ρ ≠ .stk := by rw [un 0]; exact fun z => nomatch z
      rw [sWhile_of this, un 0]; rfl
    | true =>
      rw [if_pos rfl]
      cases eb : b ρ1 with
      | exc cc xs ρ2 =>
        have : whileM c b 1 ρ ≠ .stk := by rw [un 0, if_pos rfl, eb]; exact fun z => nomatch z
        rw [sWhile_of this, un 0, if_pos rfl, eb]; rfl
      | stk =>
        unfold sWhile
        rw [dif_neg]
        · rfl
        · rintro ⟨n, h⟩
          cases n with
          | zero => exact h rfl
          | succ n => rw [un n, if_pos rfl, eb] at h; exact h rfl
      | ok fl ρ2 =>
        show _ = aftB (sWhile c b) fl ρ2
        have un2 : ∀ n, whileM c b (n + 1) ρ = aftB (whileM c b n) fl ρ2 := fun n => by rw [un n, if_pos rfl, eb]; rfl
        have lift : ∀ n, aftB (whileM c b n) fl ρ2 ≠ .stk → sWhile c b ρ = aftB (whileM c b n) fl ρ2 := fun n h => by
          rw [← un2 n] at h ⊢
          exact sWhile_of h
        cases fl with
        | bk => exact lift 0 fun z => nomatch z
        | rt d => exact lift 0 fun z => nomatch z
        | nx =>
          show _ = sWhile c b ρ2
          by_cases q : ∃ n, whileM c b n ρ2 ≠ .stk
          · obtain ⟨n, hn⟩ := q
            rw [lift n hn, sWhile_of hn]; rfl
          · have h1 : sWhile c b ρ2 = .stk := by unfold sWhile; rw [dif_neg q]
            rw [h1]
            unfold sWhile
            rw [dif_neg]
            rintro ⟨n, h⟩
            cases n with
            | zero => exact h rfl
            | succ n => rw [un2 n] at h; exact q ⟨n, h⟩
        | ct =>
          show _ = sWhile c b ρ2
          by_cases q : ∃ n, whileM c b n ρ2 ≠ .stk
          · obtain ⟨n, hn⟩ := q
            rw [lift n hn, sWhile_of hn]; rfl
          · have h1 : sWhile c b ρ2 = .stk := by unfold sWhile; rw [dif_neg q]
            rw [h1]
            unfold sWhile
            rw [dif_neg]
            rintro ⟨n, h⟩
            cases n with
            | zero => exact h rfl
            | succ n => rw [un2 n] at h; exact q ⟨n, h⟩
theorem aft_ends {N : L2.St → Hp → Prop} {k : Env → R Fl} {fl : Fl} {ρ2 : Env} (h : (aftB k fl ρ2).sat (flK g io md D' Z σ H E) (exK g io W Z σ H E))
    (hN : ∀ ρ2 σ' H' E', (k ρ2).sat (flK g io md D' Z σ H E) (exK g io W Z σ H E) → An io σ σ' → Tr Z H E H' E' → EnvAt g Z E' ρ2 σ' H' → N σ' H') : flK g io md { D' with nx := N, ct := N, bk := D'.nx } Z σ H E fl ρ2 := by
  cases fl with
  | nx => exact fun σ' H' E' an t A => hN ρ2 σ' H' E' h an t A
  | ct => exact fun σ' H' E' an t A => hN ρ2 σ' H' E' h an t A
  | bk => exact h
  | rt d => exact h
theorem snd_while {tc : TT} {pc : Bool} {dc : Env → R Bool} {t0 : TS} {t : Env → R Fl} (hc : SndT g W pc tc dc) (hb : SndS g W io md t0 t) : SndS g W io md (tWhile tc t0) (sWhile dc t) := by
  refine ⟨fun σ H ρ Z E D' A h => ?_⟩
  unfold sWhile at h
  split at h
  · rename_i x
    generalize x.choose = n at h
    refine ⟨fun m σ1 H1 => ∃ ρ1 E1, An io σ σ1 ∧ Tr Z H E H1 E1 ∧ EnvAt g Z E1 ρ1 σ1 H1 ∧ (whileM dc t m ρ1).sat (flK g io md D' Z σ H E) (exK g io W Z σ H E), ⟨n, ρ, E, An.refl, Tr.refl, A, h⟩, ?_⟩
    rintro m σ1 H1 ⟨ρ1, E1, an1, t1, A1, h1⟩
    cases m with
    | zero => exact h1.elim
    | succ m =>
      unfold whileM at h1
      refine hc.run σ1 H1 ρ1 Z E1 _ A1 (R.sat_mono (R.sat_bind.mp h1) (fun b ρ2 _ k H2 E2 A2 t2 _ => ?_) fun _ _ _ k => (k.base an1 t1).e)
      have t12 := t1.trans t2 fun _ h => h
      cases b with
      | false => exact k σ1 H2 E2 an1 t12 A2
      | true =>
        rw [if_pos rfl] at k ⊢
        refine ⟨fun σ' H' => ∃ ρ' E', An io σ σ' ∧ Tr Z H E H' E' ∧ EnvAt g Z E' ρ' σ' H' ∧ (whileM dc t m ρ').sat (flK g io md D' Z σ H E) (exK g io W Z σ H E), fun σ' H' q => ⟨m, Nat.lt_succ_self m, q⟩, ?_⟩
        refine hb.run σ1 H2 ρ2 Z E2 _ A2 (R.sat_mono (R.sat_bind.mp k) (fun fl ρ3 _ k3 => ?_) fun _ _ _ k => k.base an1 t12)
        exact (aft_ends k3 fun ρ3 σ' H' E' q an t A => ⟨ρ3, E', an, t, A, q⟩).base an1 t12
  · exact h.elim

/-- what a loop walks: the items ds -/
def Src (g : Gx) (J : It) (ds : List D) (H0 : Hp) (E0 : Addr → Prop) : Prop := ∀ i H E, Kp H0 E0 H E [] → (ds.length ≤ i → J.stop i H) ∧ ∀ d, ds[i]? = some d → J.go i H ∧ ∀ x H', J.yld i H x H' → Same H H' ∧ Rep g H' E d x []
structure SndI (g : Gx) (W : WX) (wi : TI) (t : Env → R (List D)) : Prop where
  run : ∀ (σ : L2.St) (H : Hp) (ρ : Env) (Z E : Addr → Prop) (Rr : It → Hp → Prop), EnvAt g Z E ρ σ H →
    (t ρ).sat (fun ds ρ' => ∀ J H' E', EnvAt g Z E' ρ' σ H' → Tr Z H E H' E' → Src g J ds H' E' → Rr J H')
      (fun c xs ρ' => ∀ cls dd H' E', ExcAt g H' E' c xs cls dd → EnvAt g Z E' ρ' σ H' → Tr Z H E H' E' → W cls dd σ H') → wi σ H Rr
def forM (tg : D → Env → Option Env) (b : Env → R Fl) : List D → Env → R Fl
  | [], ρ => .ok .nx ρ
  | d :: ds, ρ => match tg d ρ with
    | some ρ1 => (b ρ1).bind fun fl ρ2 => aftB (forM tg b ds) fl ρ2
    | none => .stk
def sFor (s : Env → R (List D)) (tg : D → Env → Option Env) (b : Env → R Fl) : Env → R Fl := fun ρ => (s ρ).bind fun ds ρ1 => forM tg b ds ρ1
theorem snd_for {wi : TI} {ds0 : Env → R (List D)} {g0 : TG} {tg : D → Env → Option Env} {t0 : TS} {t : Env → R Fl} (hi : SndI g W wi ds0) (hg : SndG g io g0 tg) (hb : SndS g W io md t0 t) : SndS g W io md (tFor wi g0 t0) (sFor ds0 tg t) := by
  refine ⟨fun σ H ρ Z E D' A h => hi.run σ H ρ Z E _ A (R.sat_mono (R.sat_bind.mp h) (fun ds ρ1 _ k J H0 E0 A0 t0 src => ?_) fun _ _ _ k => k.e)⟩
  refine ⟨fun i m σ1 H1 => m + i = ds.length ∧ ∃ ρ1 E1, An io σ σ1 ∧ Tr Z H0 E0 H1 E1 ∧ EnvAt g Z E1 ρ1 σ1 H1 ∧ (forM tg t (ds.drop i) ρ1).sat (flK g io md D' Z σ H E) (exK g io W Z σ H E), ⟨ds.length, rfl, ρ1, E0, An.refl, Tr.refl, A0, k⟩, ?_⟩
  rintro i m σ1 H1 ⟨em, ρ1, E1, an1, t1, A1, h1⟩
  have s1 := src i H1 E1 (t1.kp A0.ki fun _ h => nomatch h)
  have t01 := t0.trans t1 fun _ h => h
  cases m with
  | zero =>
    have el : ds.length ≤ i := by omega
    rw [List.drop_eq_nil_of_le el] at h1
    exact .inl ⟨s1.1 el, h1 σ1 H1 E1 an1 t01 A1⟩
  | succ m =>
    have hlt : i < ds.length := by omega
    have ed : ds[i]? = some ds[i] := List.getElem?_eq_getElem hlt
    rw [List.drop_eq_getElem_cons hlt] at h1
    obtain ⟨go, yl⟩ := s1.2 _ ed
    refine .inr ⟨go, fun σ' H' => ∃ ρ' E', An io σ σ' ∧ Tr Z H0 E0 H' E' ∧ EnvAt g Z E' ρ' σ' H' ∧ (forM tg t (ds.drop (i + 1)) ρ').sat (flK g io md D' Z σ H E) (exK g io W Z σ H E), fun σ' H' q => ⟨m, Nat.lt_succ_self m, by omega, q⟩, fun x H2 y => ?_⟩
    obtain ⟨sm, r⟩ := yl x H2 y
    unfold forM at h1
    split at h1
    · rename_i ρ2 e2
      have t2 : Tr Z H1 E1 H2 E1 := Tr.of_same sm fun a h => .inl h
      refine hg.run σ1 H2 ρ1 Z E1 [] x _ ρ2 _ (A1.same sm).nil0 r List.nodup_nil (fun _ h => nomatch h) e2 fun σ3 H3 E3 an3 A3 t3 => ?_
      have t13 := (t1.trans t2 fun _ h => h).trans t3 fun _ h => h
      have t03 := t0.trans t13 fun _ h => h
      have an := an1.trans an3
      refine hb.run σ3 H3 ρ2 Z E3 _ A3 (R.sat_mono (R.sat_bind.mp h1) (fun fl ρ4 _ k4 => ?_) fun _ _ _ k => k.base an t03)
      intro σ5 H5 E5 an5 t5
      have t05 := t13.trans t5 fun _ h => h
      have z : flK g io md { D' with nx := fun σ' H' => ∃ ρ' E', An io σ σ' ∧ Tr Z H0 E0 H' E' ∧ EnvAt g Z E' ρ' σ' H' ∧ (forM tg t (ds.drop (i + 1)) ρ').sat (flK g io md D' Z σ H E) (exK g io W Z σ H E), ct := fun σ' H' => ∃ ρ' E', An io σ σ' ∧ Tr Z H0 E0 H' E' ∧ EnvAt g Z E' ρ' σ' H' ∧ (forM tg t (ds.drop (i + 1)) ρ').sat (flK g io md D' Z σ H E) (exK g io W Z σ H E), bk := D'.nx } Z σ3 H3 E3 fl ρ4 := by
        cases fl with
        | nx => exact fun σ' H' E' an' t' A' => ⟨ρ4, E', an.trans an', t13.trans t' fun _ h => h, A', k4⟩
        | ct => exact fun σ' H' E' an' t' A' => ⟨ρ4, E', an.trans an', t13.trans t' fun _ h => h, A', k4⟩
        | bk => exact fun σ' H' E' an' t' A' => k4 σ' H' E' (an.trans an') (t03.trans t' fun _ h => h) A'
        | rt d => exact fun σ' H' E' an' t' v p => k4 σ' H' E' (an.trans an') (t03.trans t' fun _ h => h) v p
      exact z σ5 H5 E5 an5 t5
    · exact h1.elim
end
end DL
/-! DL16 -/
set_option Elab.async false
set_option linter.all false
set_option maxRecDepth 100000
set_option maxHeartbeats 1000000
namespace DL
open PySem PySem.Spec PyProof.Rows L2

/-! ### list comprehensions -/
abbrev WF : WX := fun _ _ _ _ => False
def wipeR (ρ : Env) : List Nat → Env
  | [] => ρ
  | v :: vs => (wipeR ρ vs).set v none
section
variable {g : Gx} {W : WX} {io : List Nat} {md : Md} {Z E E1 : Addr → Prop} {σ σ1 : L2.St} {H H1 : Hp} {D' : Ends} {ρ ρ1 : Env}
theorem EnvAt.clear' (A : EnvAt g Z E ρ σ H) (i : Nat) : ∃ E', EnvAt g Z E' (ρ.set i none) (σ.set i none) H ∧ ∀ a, E' a → E a := by
  by_cases hi : i < ρ.length
  · exact A.clear none hi
  · refine ⟨E, ?_, fun _ h => h⟩
    have h1 : ρ.set i none = ρ := List.set_eq_of_length_le (by omega)
    have h2 : σ.set i none = σ := List.set_eq_of_length_le (by have := A.len; omega)
    rw [h1, h2]
    exact A
theorem EnvAt.wipe (A : EnvAt g Z E ρ σ H) : ∀ vs : List Nat, ∃ E', EnvAt g Z E' (wipeR ρ vs) (L2.wipe σ vs) H ∧ ∀ a, E' a → E a
  | [] => ⟨E, A, fun _ h => h⟩
  | v :: vs => by
    obtain ⟨E1, A1, s1⟩ := EnvAt.wipe A vs
    obtain ⟨E2, A2, s2⟩ := A1.clear' v
    exact ⟨E2, A2, fun a h => s1 a (s2 a h)⟩
theorem wipeR_none {ρ : Env} {i : Nat} {s : Slot} : ∀ {vs : List Nat}, (wipeR ρ vs)[i]? = some (some s) → i ∉ vs
  | [], h => by simp
  | v :: vs, h => by
    unfold wipeR at h
    intro z
    by_cases hi : i = v
    · subst hi
      by_cases hl : i < (wipeR ρ vs).length
      · rw [List.getElem?_set_self hl] at h; cases h
      · rw [List.getElem?_eq_none (by simpa using hl)] at h; cases h
    · rw [List.getElem?_set_ne (Ne.symm hi)] at h
      rcases List.mem_cons.mp z with z | z
      · exact hi z
      · exact wipeR_none h z
/-- the block's names are forgotten: back in the def -/
theorem EnvAt.unwipe {vs : List Nat} (A : EnvAt g Z E (wipeR ρ vs) (L2.wipe σ vs) H) : EnvAt g Z E (wipeR ρ vs) σ H := by
  obtain ⟨Fs, B⟩ := A
  refine ⟨Fs, B.iff, fun i s h => ?_, B.emp, B.nd, B.dj, B.dz, B.ki, by rw [B.len, wipe_length]⟩
  obtain ⟨v, a, b⟩ := B.row i s h
  exact ⟨v, by rw [← wipe_out (wipeR_none h)]; exact a, b⟩
/-- a change beside the rows -/
theorem EnvAt.updZ {a : Addr} {o : HO} (A : EnvAt g Z E ρ σ H) (hz : Z a) (m : mutO o = true) : EnvAt g Z E ρ σ (upd H a o) := by
  obtain ⟨Fs, B⟩ := A
  have hE : E a := (B.iff a).mpr (.inr hz)
  have kp : ∀ {F}, (∀ b ∈ F, b ≠ a) → Kp H E (upd H a o) E F := fun {F} n => kpOff upd_off hE (B.ki a hE) n
  refine ⟨Fs, B.iff, fun i s h => let ⟨v, x, y⟩ := B.row i s h; ⟨v, x, y.keep (kp fun b hb e => B.dz i b hb (e ▸ hz))⟩, B.emp, B.nd, B.dj, B.dz, fun b h => ?_, B.len⟩
  by_cases e : b = a
  · subst e; exact ⟨o, upd_same, m⟩
  · obtain ⟨o', e', m'⟩ := B.ki b h
    exact ⟨o', by rw [upd_ne e]; exact e', m'⟩
def tYesD : Env → R Bool := fun ρ => .ok true ρ
theorem snd_yes : SndT g W true tYes tYesD := ⟨fun _ ρ d ρ' h => by cases h; rfl, fun σ H ρ Z E Q A h => h H E A Tr.refl fun _ => Same.refl H⟩
/-- an answer that lets no error out -/
def noX {α : Type} (r : R α) : R α := match r with
  | .ok a ρ => .ok a ρ
  | _ => .stk
theorem noX_sat {α : Type} {r : R α} {K : α → Env → Prop} {X X' : Str → List D → Env → Prop} (h : (noX r).sat K X) : r.sat K X' := by
  cases r with
  | ok a ρ => exact h
  | exc c xs ρ => exact h.elim
  | stk => exact h
theorem noX_ok {α : Type} {r : R α} {a : α} {ρ : Env} (h : noX r = .ok a ρ) : r = .ok a ρ := by
  cases r with
  | ok b ρ1 => exact h
  | exc c xs ρ => cases h
  | stk => cases h
def lcM (tg : D → Env → Option Env) (tt : Env → R Bool) (te : Env → R D) (vs : List Nat) : List D → List D → Env → R (List D)
  | [], acc, ρ => .ok acc ρ
  | d :: ds, acc, ρ => match tg d ρ with
    | some ρ1 => (noX (tt ρ1)).bind fun b ρ2 => if b = true then (noX (te ρ2)).bind fun e ρ3 => if acc.length < 100000 then lcM tg tt te vs ds (acc ++ [e]) (wipeR ρ3 vs) else .stk else lcM tg tt te vs ds acc (wipeR ρ2 vs)
    | none => .stk
def dLc (s : Env → R (List D)) (tg : D → Env → Option Env) (tt : Env → R Bool) (te : Env → R D) (n : Nat) (vs : List Nat) : Env → R D := fun ρ => (s ρ).bind fun ds ρ1 => if ρ1.length = n then (lcM tg tt te vs ds [] (wipeR ρ1 vs)).bind fun acc ρ2 => .ok (.lst true acc) ρ2 else .stk
theorem wipe_an {n : Nat} {vs : List Nat} (hl : σ.length = n) (hio : (List.range n).all (fun k => decide (k ∈ vs) || decide (k ∈ io)) = true) (an : An io (L2.wipe σ vs) σ1) : L2.wipe σ1 vs = L2.wipe σ vs := by
  apply List.ext_getElem?
  intro k
  have l1 : σ1.length = n := by rw [an.1, wipe_length]; exact hl
  by_cases hk : k < n
  · by_cases hv : k ∈ vs
    · have key : ∀ {s : L2.St}, k < s.length → (L2.wipe s vs)[k]? = some none := fun {s} hs => by
        cases q : (L2.wipe s vs)[k]? with
        | none =>
          have := List.getElem?_eq_none_iff.mp q
          rw [wipe_length] at this
          omega
        | some x =>
          cases x with
          | none => rfl
          | some y => exact absurd hv (wipe_some q).2
      rw [key (by omega), key (by omega)]
    · have z := List.all_eq_true.mp hio k (List.mem_range.mpr hk)
      have hk' : k ∈ io := by
        rcases Bool.or_eq_true_iff.mp z with z | z
        · exact absurd (of_decide_eq_true z) hv
        · exact of_decide_eq_true z
      rw [wipe_out hv, an.2 k hk']
  · rw [List.getElem?_eq_none (by rw [wipe_length]; omega), List.getElem?_eq_none (by rw [wipe_length]; omega)]
theorem lcM_len {tg : D → Env → Option Env} {tt : Env → R Bool} {te : Env → R D} {vs : List Nat} : True := trivial
theorem lcM_wiped {tg : D → Env → Option Env} {tt : Env → R Bool} {te : Env → R D} {vs : List Nat} : ∀ {ds acc out : List D} {ρ ρ' : Env}, (∃ ρ0, ρ = wipeR ρ0 vs) → lcM tg tt te vs ds acc ρ = .ok out ρ' → ∃ ρ0, ρ' = wipeR ρ0 vs
  | [], acc, out, ρ, ρ', h, e => by cases e; exact h
  | d :: ds, acc, out, ρ, ρ', h, e => by
    unfold lcM at e
    split at e
    · obtain ⟨b, ρ2, e1, e⟩ := R.bind_ok e
      split at e
      · obtain ⟨x, ρ3, e2, e⟩ := R.bind_ok e
        split at e
        · exact lcM_wiped ⟨_, rfl⟩ e
        · cases e
      · exact lcM_wiped ⟨_, rfl⟩ e
    · cases e
theorem Rep.sub {d : D} {v : V} {F : List Addr} {E' : Addr → Prop} (r : Rep g H E d v F) (s : ∀ a, E' a → E a) : Rep g H E' d v F := r.keep (Kp.same (fun _ _ h => h) fun a h => .inl (s a h))
theorem RepL.sub {d : List D} {v : List V} {F : List Addr} {E' : Addr → Prop} (r : RepL g H E d v F) (s : ∀ a, E' a → E a) : RepL g H E' d v F := r.keep (Kp.same (fun _ _ h => h) fun a h => .inl (s a h))
theorem snd_lc {wi : TI} {src : Env → R (List D)} {g0 : TG} {tg : D → Env → Option Env} {tt0 : TT} {tt : Env → R Bool} {te0 : TE} {te : Env → R D} {pt pe : Bool} {n : Nat} {vs : List Nat}
    (hi : SndI g W wi src) (hg : SndG g io g0 tg) (ht : SndT g WF pt tt0 tt) (he : SndE g WF pe .D te0 te) (hio : (List.range n).all (fun k => decide (k ∈ vs) || decide (k ∈ io)) = true := by decide) :
    SndE g W false .D (tLc wi g0 tt0 te0 vs) (dLc src tg tt te n vs) := by
  refine ⟨(fun h => nomatch h), fun σ H ρ Z E Q A h => hi.run σ H ρ Z E _ A (R.sat_mono (R.sat_bind.mp h) (fun ds ρ1 _ k J H0 E0 A0 t0 sr => ?_) fun _ _ _ k => k)⟩
  intro L hL
  split at k
  case isFalse => exact k.elim
  rename_i hn
  have hσ : σ.length = n := by rw [← A0.len]; exact hn
  have k := R.sat_bind.mp k
  obtain ⟨Ew, Aw, sw⟩ := A0.wipe vs
  let Inv : Nat → Nat → Hp → Prop := fun i m H1 => m + i = ds.length ∧ ∃ ρ1 E1 acc accV Fa, (∃ ρ0, ρ1 = wipeR ρ0 vs) ∧ Tr Z H0 E0 H1 E1 ∧ EnvAt g (more (L :: Fa) Z) E1 ρ1 (L2.wipe σ vs) H1 ∧ H1 L = some (.lst accV) ∧ RepL g H1 E1 acc accV Fa ∧ (L :: Fa).Nodup ∧ (∀ a ∈ L :: Fa, ¬ Z a) ∧
    (lcM tg tt te vs (ds.drop i) acc ρ1).sat (fun acc ρ2 => ∀ v H' E', Post .D g Z E' ρ2 σ H' (.lst true acc) v → Tr Z H E H' E' → (false = true → Same H H') → Q v H') (fun c xs ρ' => True)
  have notZ : ¬ Z L := fun z => mutAt_ne (A0.ki L (A0.zE L z)) hL
  have sL : Same H0 (upd H0 L (.lst [])) := same_upd hL
  have eL : ∀ a, more [L] Ew a → E0 a ∨ H0 a = none := fun a h => by
    rcases h with h | h
    · rw [List.mem_singleton.mp h]; exact .inr hL
    · exact .inl (sw a h)
  refine ⟨Inv, ⟨ds.length, rfl, wipeR ρ1 vs, more [L] Ew, [], [], [], ⟨_, rfl⟩, Tr.of_same sL eL, ?_, upd_same, RepL.nil, by simp, fun a h => by rw [List.mem_singleton.mp h]; exact notZ, ?_⟩, ?_⟩
  · exact Aw.new hL sL ⟨_, upd_same, rfl⟩
  · exact R.sat_mono k (fun acc ρ2 _ k => k) fun _ _ _ _ => trivial
  rintro i m H1 ⟨em, ρ2, E1, acc, accV, Fa, ⟨ρ0, ew⟩, t1, A1, hD, ra, nd, nz, h1⟩
  have s1 := sr i H1 E1 (t1.kp A0.ki fun _ h => nomatch h)
  have t01 := t0.trans t1 fun _ h => h
  cases m with
  | zero =>
    have el : ds.length ≤ i := by omega
    rw [List.drop_eq_nil_of_le el] at h1
    refine .inl ⟨s1.1 el, ?_⟩
    subst ew
    refine h1 _ H1 E1 ⟨L :: Fa, A1.unwipe, ?_, nd, nz⟩ t01 fun h => nomatch h
    unfold Rep
    exact ⟨L, accV, Fa, rfl, hD, rfl, ra⟩
  | succ m =>
    have hlt : i < ds.length := by omega
    have ed : ds[i]? = some ds[i] := List.getElem?_eq_getElem hlt
    rw [List.drop_eq_getElem_cons hlt] at h1
    obtain ⟨go, yl⟩ := s1.2 _ ed
    refine .inr ⟨go, fun H' => Inv (i + 1) m H', fun H' q => ⟨m, Nat.lt_succ_self m, q⟩, fun x H2 y => ?_⟩
    obtain ⟨sm, r⟩ := yl x H2 y
    unfold lcM at h1
    split at h1
    case h_2 => exact h1.elim
    rename_i ρ3 e3
    refine hg.run _ H2 ρ2 (more (L :: Fa) Z) E1 [] x _ ρ3 _ (A1.same sm).nil0 r List.nodup_nil (fun _ h => nomatch h) e3 fun σ3 H3 E3 an3 A3 t3 => ?_
    refine ⟨wipe_an hσ hio an3, ?_⟩
    have t12 : Tr (more (L :: Fa) Z) H1 E1 H2 E1 := Tr.of_same sm fun a h => .inl h
    have t13 := t12.trans t3 fun _ h => h
    have h1 := R.sat_bind.mp h1
    refine ht.run σ3 H3 ρ3 (more (L :: Fa) Z) E3 _ A3 (R.sat_mono (noX_sat (X' := fun _ _ _ => False) h1) (fun b ρ4 _ k4 H4 E4 A4 t4 _ => ?_) fun c xs ρ' k => k.elim)
    have t14 := t13.trans t4 fun _ h => h
    have toZ : ∀ {Ha Hb : Hp} {Ea Eb : Addr → Prop}, Tr (more (L :: Fa) Z) Ha Ea Hb Eb → Tr Z Ha Ea Hb Eb := fun {Ha Hb Ea Eb} t => ⟨fun a o h n => t.k a o h (n.elim .inl fun z => .inr (.inr z)), t.e⟩
    have keepL : ∀ {Hb : Hp} {Eb : Addr → Prop}, Tr (more (L :: Fa) Z) H1 E1 Hb Eb → Hb L = some (.lst accV) ∧ RepL g Hb Eb acc accV Fa := fun {Hb Eb} t => ⟨t.k L _ hD (.inr (.inl List.mem_cons_self)), ra.keep (t.kp A1.ki fun a h => .inl (List.mem_cons_of_mem _ h))⟩
    cases b with
    | false =>
      rw [if_neg Bool.false_ne_true] at k4 ⊢
      obtain ⟨E5, A5, s5⟩ := A4.wipe vs
      rw [wipe_an hσ hio an3] at A5
      obtain ⟨k1, k2⟩ := keepL t14
      exact ⟨by omega, wipeR ρ4 vs, E5, acc, accV, Fa, ⟨_, rfl⟩, (t1.trans (toZ t14) fun _ h => h).trans ⟨fun _ _ h _ => h, fun a h => .inl (s5 a h)⟩ fun _ h => h, A5, k1, k2.sub s5, nd, nz, k4⟩
    | true =>
      rw [if_pos rfl] at k4 ⊢
      have k4 := R.sat_bind.mp k4
      refine he.run σ3 H4 ρ4 (more (L :: Fa) Z) E4 _ A4 (R.sat_mono (noX_sat (X' := fun _ _ _ => False) k4) (fun e ρ5 _ k5 yv H5 E5 p5 t5 _ => ?_) fun c xs ρ' k => k.elim)
      obtain ⟨F, p5⟩ := p5
      have t15 := t14.trans t5 fun _ h => h
      obtain ⟨k1, k2⟩ := keepL t15
      split at k5
      case isFalse => exact k5.elim
      rename_i hlen
      refine ⟨accV, k1, line100000 (by rw [ra.len]; exact hlen), ?_⟩
      obtain ⟨E6, A6, s6⟩ := p5.env.wipe vs
      rw [wipe_an hσ hio an3] at A6
      have nL := List.nodup_cons.mp nd
      have LF : L ∉ F := fun h => p5.dz L h (.inl List.mem_cons_self)
      have hE6 : E6 L := A6.zE L (.inr (.inl List.mem_cons_self))
      have A7 := A6.updZ (o := .lst (accV ++ [yv])) (.inr (.inl List.mem_cons_self)) rfl
      have off : ∀ b, b ≠ L → ∀ o, H5 b = some o → upd H5 L (.lst (accV ++ [yv])) b = some o := upd_off
      have kp : ∀ {F'}, (∀ b ∈ F', b ≠ L) → Kp H5 E6 (upd H5 L (.lst (accV ++ [yv]))) E6 F' := fun {F'} n => kpOff off hE6 ⟨_, k1, rfl⟩ n
      have tu : Tr Z H5 E5 (upd H5 L (.lst (accV ++ [yv]))) E6 := ⟨fun a o h n => off a (by
        rcases n with n | n
        · intro z; subst z; exact n (s6 _ hE6)
        · intro z; subst z; exact notZ n) o h, fun a h => .inl (s6 a h)⟩
      refine ⟨by omega, wipeR ρ5 vs, E6, acc ++ [e], accV ++ [yv], Fa ++ F, ⟨_, rfl⟩, (t1.trans (toZ t15) fun _ h => h).trans tu fun _ h => h, ?_, upd_same, ?_, ?_, ?_, k5⟩
      · have e1 : more (L :: (Fa ++ F)) Z = more F (more (L :: Fa) Z) := by
          rw [show L :: (Fa ++ F) = (L :: Fa) ++ F from rfl, more_app, more_comm]
        rw [e1]
        exact A7
      · exact (RepL.keep (kp fun b hb z => nL.1 (z ▸ hb)) (k2.sub s6)).app (RepL.one (Rep.keep (kp fun b hb z => LF (z ▸ hb)) (p5.rep.sub s6)))
      · have : ((L :: Fa) ++ F).Nodup := List.nodup_append.mpr ⟨nd, p5.nd, fun x hx y hy e => by subst e; exact p5.dz x hy (.inl hx)⟩
        exact this
      · intro a ha
        rcases List.mem_cons.mp ha with ha | ha
        · subst ha; exact notZ
        · rcases List.mem_append.mp ha with ha | ha
          · exact nz a (List.mem_cons_of_mem _ ha)
          · exact fun z => p5.dz a ha (.inr z)
end
end DL
/-! DL17 -/
set_option Elab.async false
set_option linter.all false
set_option maxRecDepth 100000
set_option maxHeartbeats 1000000
namespace DL
open PySem PySem.Spec PyProof.Rows L2

/-! ### what is walked -/
section
variable {X : Cx} {tg iter : Expr}
theorem pi_or {w1 w2 : TI} (h1 : PI X tg iter w1) (h2 : PI X tg iter w2) : PI X tg iter (fun σ H R => w1 σ H R ∨ w2 σ H R) :=
  ⟨fun pins s σ H R I h => h.elim (h1.run pins s σ H R I) (h2.run pins s σ H R I)⟩
def iAny (K : PySem.W.Frag) (te : TE) : TI := fun σ H R => iList K te σ H R ∨ iTup K te σ H R ∨ iStr te σ H R
theorem pi_any {te : TE} (h : PE X iter te) : PI X tg iter (iAny X.K te) := pi_or (pi_list h) (pi_or (pi_tup h) (pi_str h))
end
def strD (s : Str) : List D := s.cps.toList.map fun c => .str ⟨#[c]⟩
def itemsOf : D → Option (List D)
  | .lst _ ds => some ds
  | .tup ds => some ds
  | .scr ns => some (ns.map .int)
  | .str s => some (strD s)
  | _ => none
def sIt (a : Env → R D) : Env → R (List D) := fun ρ => (a ρ).bind fun d ρ1 => match itemsOf d with
  | some ds => .ok ds ρ1
  | none => .stk
section
variable {g : Gx} {W : WX} {io : List Nat} {md : Md} {Z E E1 : Addr → Prop} {σ σ1 : L2.St} {H H1 : Hp} {D' : Ends} {ρ ρ1 : Env}
theorem src_list {a : Addr} {vs : List V} {ds : List D} (h : ∀ H' E', Kp H E H' E' [] → SqL g.K H' a vs) (r : RepL g H E ds vs []) : Src g (Itl g.K a) ds H E := fun i H' E' kp =>
  ⟨fun hi => ⟨vs, h H' E' kp, by rw [r.len]; exact hi⟩, fun d hd => by
    obtain ⟨v, ev, rv⟩ := r.get hd
    refine ⟨⟨vs, v, h H' E' kp, ev⟩, fun x H2 y => ?_⟩
    obtain ⟨e, y⟩ := y
    have := y vs (h H' E' kp)
    rw [ev] at this
    cases this
    rw [e]
    exact ⟨Same.refl _, rv.keep kp⟩⟩
theorem src_tup {a : Addr} {vs : List V} {ds : List D} (h : Rd H a (.tup vs)) (r : RepL g H E ds vs []) : Src g (Itt g.K a) ds H E := fun i H' E' kp => by
  have h' : SqT g.K H' a vs := .inl (Rd.keepT h fun o e m => kp.k a o e (.inr (.inr m)))
  refine ⟨fun hi => ⟨vs, h', by rw [r.len]; exact hi⟩, fun d hd => ?_⟩
  obtain ⟨v, ev, rv⟩ := r.get hd
  refine ⟨⟨vs, v, h', ev⟩, fun x H2 y => ?_⟩
  obtain ⟨e, y⟩ := y
  have := y vs h'
  rw [ev] at this
  cases this
  rw [e]
  exact ⟨Same.refl _, rv.keep kp⟩
theorem src_str {s : Str} : Src g (Its s) (strD s) H E := fun i H' E' kp => by
  have hl : (strD s).length = s.cps.size := by simp [strD]
  refine ⟨fun hi => by show s.cps.size ≤ i; omega, fun d hd => ?_⟩
  have hi : i < s.cps.size := by rw [← hl]; exact ltOf hd
  refine ⟨hi, fun x H2 y => ?_⟩
  obtain ⟨e, c, ec, ex⟩ := y
  subst e ex
  refine ⟨Same.refl _, ?_⟩
  unfold strD at hd
  rw [List.getElem?_map, Array.getElem?_toList, ec] at hd
  cases hd
  exact rep_str _
theorem snd_it {te : TE} {pa : Bool} {da : Env → R D} (ha : SndE g W pa .S te da) : SndI g W (iAny g.K te) (sIt da) := by
  refine ⟨fun σ H ρ Z E Rr A h => ?_⟩
  have h := R.sat_bind.mp h
  cases e : da ρ with
  | stk => rw [e] at h; exact h.elim
  | exc c xs ρ1 =>
    rw [e] at h
    exact .inl (ha.run σ H ρ Z E _ A (by rw [e]; exact h))
  | ok d ρ1 =>
    rw [e] at h
    have h : R.sat (match itemsOf d with | some ds => R.ok ds ρ1 | none => .stk) _ _ := h
    unfold itemsOf at h
    split at h
    case h_2 => exact h.elim
    rename_i ds q
    split at q
    · rename_i o ds'
      cases q
      refine .inl (ha.run σ H ρ Z E _ A ?_)
      rw [e]
      intro v H' E' p t _
      have r := p.2
      cases o with
      | true => unfold Rep at r; obtain ⟨a, vs, F1, e1, h1, h2, h3⟩ := r; cases h2
      | false =>
        unfold Rep at r
        obtain ⟨a, vs, rfl, h1, ne, _, r1⟩ := r
        exact ⟨a, rfl, ⟨vs, SqL.of h1⟩, h _ H' E' p.1 t (src_list (vs := vs) (fun H2 E2 kp => SqL.of (kp.k a _ h1 (.inl ne))) r1)⟩
    · rename_i ds'
      cases q
      refine .inr (.inl (ha.run σ H ρ Z E _ A ?_))
      rw [e]
      intro v H' E' p t _
      have r := p.2
      unfold Rep at r
      obtain ⟨a, vs, rfl, h1, r1⟩ := r
      exact ⟨a, rfl, ⟨vs, .inl h1⟩, h _ H' E' p.1 t (src_tup h1 r1)⟩
    · rename_i ns
      cases q
      refine .inl (ha.run σ H ρ Z E _ A ?_)
      rw [e]
      intro v H' E' p t _
      have r := p.2
      unfold Rep at r
      obtain ⟨a, rfl, h1, _⟩ := r
      have sq : ∀ H2, (∀ o u, H' a = some (.frz o u) → H2 a = some (.frz o u)) → SqL g.K H2 a (ns.map V.int) := fun H2 k => by
        rcases h1 with ⟨o, h1⟩ | h1
        · exact .inl (.inr ⟨o, k _ _ h1⟩)
        · exact .inr h1
      exact ⟨a, rfl, ⟨_, sq H' fun _ _ h => h⟩, h _ H' E' p.1 t (src_list (fun H2 E2 kp => sq H2 fun o u h => kp.k a _ h (.inr (.inr rfl))) (repL_ints ns))⟩
    · rename_i s
      cases q
      refine .inr (.inr (ha.run σ H ρ Z E _ A ?_))
      rw [e]
      intro v H' E' p t _
      have r := p.2
      unfold Rep at r
      exact ⟨s, r.1, h _ H' E' p.1 t src_str⟩
    · cases q
def rangeD (lo : Int) (n : Nat) : List D := (List.range n).map fun (i : Nat) => .int (lo + i)
theorem src_rng {lo : Int} {n : Nat} : Src g (Itr lo n) (rangeD lo n) H E := fun i H' E' kp => by
  have hl : (rangeD lo n).length = n := by simp [rangeD]
  refine ⟨fun hi => by show n ≤ i; omega, fun d hd => ?_⟩
  have hi : i < n := by rw [← hl]; exact ltOf hd
  refine ⟨hi, fun x H2 y => ?_⟩
  obtain ⟨e, ex⟩ := y
  subst e ex
  refine ⟨Same.refl _, ?_⟩
  unfold rangeD at hd
  rw [List.getElem?_map, List.getElem?_range hi] at hd
  cases hd
  exact rep_int _
def small62 (i : Int) : Prop := -(2 ^ 62) ≤ i ∧ i < 2 ^ 62
instance (i : Int) : Decidable (small62 i) := by unfold small62; exact inferInstance
def sRng1 (a : Env → R (List D)) : Env → R (List D) := fun ρ => (a ρ).bind fun ds ρ1 => match ds with
  | [.int j] => if small62 j then .ok (rangeD 0 j.toNat) ρ1 else .stk
  | _ => .stk
def sRng2 (a : Env → R (List D)) : Env → R (List D) := fun ρ => (a ρ).bind fun ds ρ1 => match ds with
  | [.int i, .int j] => if small62 i ∧ small62 j then .ok (rangeD i (j - i).toNat) ρ1 else .stk
  | _ => .stk
theorem repL_int1 {vs : List V} {j : Int} (r : RepL g H E [.int j] vs []) : vs = [.int j] := by
  obtain ⟨v, rfl, rv⟩ := r.one_inv
  unfold Rep at rv
  rw [rv.1]
theorem repL_int2 {vs : List V} {i j : Int} (r : RepL g H E [.int i, .int j] vs []) : vs = [.int i, .int j] := by
  obtain ⟨v, vr, rfl, rv, r2⟩ := r.uncons
  rw [repL_int1 r2]
  unfold Rep at rv
  rw [rv.1]
theorem snd_rng1 {ta : TA} {pa : Bool} {n : Nat} {da : Env → R (List D)} (ha : SndA g W pa n ta da) : SndI g W (iRng1 ta) (sRng1 da) := by
  refine ⟨fun σ H ρ Z E Rr A h => ha.run σ H ρ Z E _ A (R.sat_mono (R.sat_bind.mp h) (fun ds ρ1 _ k vs H1 E1 A1 r1 t1 _ => ?_) fun _ _ _ k => k)⟩
  split at k
  · rename_i j _
    split at k
    · rename_i hj
      exact ⟨j, repL_int1 r1, hj.1, hj.2, k _ H1 E1 A1 t1 src_rng⟩
    · exact k.elim
  · exact k.elim
theorem snd_rng2 {ta : TA} {pa : Bool} {n : Nat} {da : Env → R (List D)} (ha : SndA g W pa n ta da) : SndI g W (iRng2 ta) (sRng2 da) := by
  refine ⟨fun σ H ρ Z E Rr A h => ha.run σ H ρ Z E _ A (R.sat_mono (R.sat_bind.mp h) (fun ds ρ1 _ k vs H1 E1 A1 r1 t1 _ => ?_) fun _ _ _ k => k)⟩
  split at k
  · rename_i i j _
    split at k
    · rename_i hj
      exact ⟨i, j, repL_int2 r1, ⟨hj.1.1, hj.1.2, hj.2.1, hj.2.2⟩, k _ H1 E1 A1 t1 src_rng⟩
    · exact k.elim
  · exact k.elim
/-- pairs in new tuples -/
theorem pairNew {i : Nat} {T : Addr} {x y : V} {d e : D} {H' : Hp} (hT : H T = none) (eH : H' = upd H T (.tup [x, y])) (rx : Rep g H E d x []) (ry : Rep g H E e y []) : Same H H' ∧ Rep g H' E (.tup [d, e]) (.ref T) [] := by
  subst eH
  have s := same_upd (o := .tup [x, y]) hT
  refine ⟨s, ?_⟩
  unfold Rep
  exact ⟨T, [x, y], rfl, .inl upd_same, (RepL.cons0 rx (RepL.cons0 ry RepL.nil)).keep (Kp.same s fun _ h => .inl h)⟩
def enumD (ds : List D) : List D := (List.range ds.length).map fun (i : Nat) => .tup [.int (i : Nat), (ds[i]?).getD .non]
theorem enumD_get {ds : List D} {i : Nat} {d : D} (h : (enumD ds)[i]? = some d) : ∃ e, ds[i]? = some e ∧ d = .tup [.int (i : Nat), e] := by
  have hi : i < ds.length := by
    have := ltOf h
    simpa [enumD] using this
  unfold enumD at h
  rw [List.getElem?_map, List.getElem?_range hi] at h
  cases h
  exact ⟨ds[i], List.getElem?_eq_getElem hi, by simp [List.getElem?_eq_getElem hi]⟩
theorem enumD_len {ds : List D} : (enumD ds).length = ds.length := by simp [enumD]
theorem src_enum {a : Addr} {vs : List V} {ds : List D} (h : ∀ H' E', Kp H E H' E' [] → SqL g.K H' a vs) (r : RepL g H E ds vs []) : Src g (Ite g.K a) (enumD ds) H E := fun i H' E' kp =>
  ⟨fun hi => ⟨vs, h H' E' kp, by rw [r.len, ← enumD_len]; exact hi⟩, fun d hd => by
    obtain ⟨e, he, rfl⟩ := enumD_get hd
    obtain ⟨v, ev, rv⟩ := r.get he
    refine ⟨⟨vs, v, h H' E' kp, ev⟩, fun x H2 y => ?_⟩
    obtain ⟨T, x', e1, e2, e3, y⟩ := y
    have := y vs (h H' E' kp)
    rw [ev] at this
    cases this
    rw [e1]
    exact pairNew (i := i) e2 e3 (rep_int _) (rv.keep kp)⟩
def lstItems : D → Option (List D)
  | .lst _ ds => some ds
  | .scr ns => some (ns.map .int)
  | _ => none
/-- a list, or the script: read where nothing of it is changed -/
theorem lst_sq {v : V} {d : D} {ds : List D} (h : lstItems d = some ds) (r : Rep g H E d v []) : ∃ a vs, v = .ref a ∧ (∀ H' E', Kp H E H' E' [] → SqL g.K H' a vs) ∧ RepL g H E ds vs [] := by
  unfold lstItems at h
  split at h
  · rename_i o ds'
    cases h
    cases o with
    | true => unfold Rep at r; obtain ⟨a, vs, F1, e1, h1, h2, h3⟩ := r; cases h2
    | false =>
      unfold Rep at r
      obtain ⟨a, vs, rfl, h1, ne, _, r1⟩ := r
      exact ⟨a, vs, rfl, fun H2 E2 kp => SqL.of (kp.k a _ h1 (.inl ne)), r1⟩
  · rename_i ns
    cases h
    unfold Rep at r
    obtain ⟨a, rfl, h1, _⟩ := r
    refine ⟨a, _, rfl, fun H2 E2 kp => ?_, repL_ints ns⟩
    rcases h1 with ⟨o, h1⟩ | h1
    · exact .inl (.inr ⟨o, kp.k a _ h1 (.inr (.inr rfl))⟩)
    · exact .inr h1
  · cases h
def sEnum (a : Env → R (List D)) : Env → R (List D) := fun ρ => (a ρ).bind fun ds ρ1 => match ds with
  | [d] => (match lstItems d with | some xs => .ok (enumD xs) ρ1 | none => .stk)
  | _ => .stk
theorem Kp.self {H : Hp} {E : Addr → Prop} {F : List Addr} : Kp H E H E F := Kp.same (fun _ _ h => h) fun _ h => .inl h
theorem snd_enum {ta : TA} {pa : Bool} {n : Nat} {da : Env → R (List D)} (ha : SndA g W pa n ta da) : SndI g W (iEnum g.K ta) (sEnum da) := by
  refine ⟨fun σ H ρ Z E Rr A h => ha.run σ H ρ Z E _ A (R.sat_mono (R.sat_bind.mp h) (fun ds ρ1 _ k vs H1 E1 A1 r1 t1 _ => ?_) fun _ _ _ k => k)⟩
  split at k
  · rename_i d _
    split at k
    · rename_i xs q
      obtain ⟨v, rfl, rv⟩ := r1.one_inv
      obtain ⟨a, ws, rfl, sq, rs⟩ := lst_sq q rv
      exact ⟨a, ws, rfl, sq H1 E1 Kp.self, k _ H1 E1 A1 t1 (src_enum sq rs)⟩
    · exact k.elim
  · exact k.elim
def zipD (xs ys : List D) : List D := (xs.zip ys).map fun p => .tup [p.1, p.2]
theorem zipD_get {xs ys : List D} {i : Nat} {d : D} (h : (zipD xs ys)[i]? = some d) : ∃ x y, xs[i]? = some x ∧ ys[i]? = some y ∧ d = .tup [x, y] := by
  unfold zipD at h
  rw [List.getElem?_map] at h
  cases q : (xs.zip ys)[i]? with
  | none => rw [q] at h; cases h
  | some p =>
    rw [q] at h
    cases h
    have z := List.getElem?_zip_eq_some.mp q
    exact ⟨p.1, p.2, z.1, z.2, rfl⟩
theorem zipD_len {xs ys : List D} : (zipD xs ys).length = min xs.length ys.length := by simp [zipD]
theorem src_zipL {a b : Addr} {vs ws : List V} {xs ys : List D} (h1 : ∀ H' E', Kp H E H' E' [] → SqL g.K H' a vs) (r1 : RepL g H E xs vs []) (h2 : ∀ H' E', Kp H E H' E' [] → SqL g.K H' b ws) (r2 : RepL g H E ys ws []) : Src g (Itz g.K a b) (zipD xs ys) H E := fun i H' E' kp =>
  ⟨fun hi => ⟨vs, ws, h1 H' E' kp, h2 H' E' kp, by rw [r1.len, r2.len]; rw [zipD_len] at hi; omega⟩, fun d hd => by
    obtain ⟨x, y, ex, ey, rfl⟩ := zipD_get hd
    obtain ⟨v, ev, rv⟩ := r1.get ex
    obtain ⟨w, ew, rw'⟩ := r2.get ey
    refine ⟨⟨vs, ws, v, w, h1 H' E' kp, h2 H' E' kp, ev, ew⟩, fun z H2 q => ?_⟩
    obtain ⟨T, x', y', e1, e2, e3, q1, q2⟩ := q
    have z1 := q1 vs (h1 H' E' kp)
    rw [ev] at z1
    cases z1
    have z2 := q2 ws (h2 H' E' kp)
    rw [ew] at z2
    cases z2
    rw [e1]
    exact pairNew (i := i) e2 e3 (rv.keep kp) (rw'.keep kp)⟩
theorem src_zipT {a b : Addr} {vs ws : List V} {xs ys : List D} (h1 : Rd H a (.tup vs)) (r1 : RepL g H E xs vs []) (h2 : Rd H b (.tup ws)) (r2 : RepL g H E ys ws []) : Src g (RZ.ItzT g.K a b) (zipD xs ys) H E := fun i H' E' kp => by
  have h1' : SqT g.K H' a vs := .inl (Rd.keepT h1 fun o e m => kp.k a o e (.inr (.inr m)))
  have h2' : SqT g.K H' b ws := .inl (Rd.keepT h2 fun o e m => kp.k b o e (.inr (.inr m)))
  refine ⟨fun hi => ⟨vs, ws, h1', h2', by rw [r1.len, r2.len]; rw [zipD_len] at hi; omega⟩, fun d hd => ?_⟩
  obtain ⟨x, y, ex, ey, rfl⟩ := zipD_get hd
  obtain ⟨v, ev, rv⟩ := r1.get ex
  obtain ⟨w, ew, rw'⟩ := r2.get ey
  refine ⟨⟨vs, ws, v, w, h1', h2', ev, ew⟩, fun z H2 q => ?_⟩
  obtain ⟨T, x', y', e1, e2, e3, q1, q2⟩ := q
  have z1 := q1 vs h1'
  rw [ev] at z1
  cases z1
  have z2 := q2 ws h2'
  rw [ew] at z2
  cases z2
  rw [e1]
  exact pairNew (i := i) e2 e3 (rv.keep kp) (rw'.keep kp)
def sZip (a : Env → R (List D)) : Env → R (List D) := fun ρ => (a ρ).bind fun ds ρ1 => match ds with
  | [.tup xs, .tup ys] => .ok (zipD xs ys) ρ1
  | [d, e] => (match lstItems d, lstItems e with | some xs, some ys => .ok (zipD xs ys) ρ1 | _, _ => .stk)
  | _ => .stk
theorem snd_zip {ta : TA} {pa : Bool} {n : Nat} {da : Env → R (List D)} (ha : SndA g W pa n ta da) : SndI g W (RZ.iZipA g.K ta) (sZip da) := by
  refine ⟨fun σ H ρ Z E Rr A h => ha.run σ H ρ Z E _ A (R.sat_mono (R.sat_bind.mp h) (fun ds ρ1 _ k vs H1 E1 A1 r1 t1 _ => ?_) fun _ _ _ k => k)⟩
  split at k
  · rename_i xs ys _
    obtain ⟨v, vr, rfl, rv, r2⟩ := r1.uncons
    obtain ⟨w, rfl, rw'⟩ := r2.one_inv
    unfold Rep at rv rw'
    obtain ⟨a, vs, rfl, h1, q1⟩ := rv
    obtain ⟨b, ws, rfl, h2, q2⟩ := rw'
    exact ⟨a, b, vs, ws, rfl, .inr ⟨.inl h1, .inl h2, k _ H1 E1 A1 t1 (src_zipT h1 q1 h2 q2)⟩⟩
  · rename_i d e _ _
    split at k
    · rename_i xs ys e1 e2
      obtain ⟨v, vr, rfl, rv, r2⟩ := r1.uncons
      obtain ⟨w, rfl, rw'⟩ := r2.one_inv
      obtain ⟨a, vs, rfl, s1, q1⟩ := lst_sq e1 rv
      obtain ⟨b, ws, rfl, s2, q2⟩ := lst_sq e2 rw'
      exact ⟨a, b, vs, ws, rfl, .inl ⟨s1 H1 E1 Kp.self, s2 H1 E1 Kp.self, k _ H1 E1 A1 t1 (src_zipL s1 q1 s2 q2)⟩⟩
    · exact k.elim
  · exact k.elim
end
end DL
/-! DL18 -/
set_option Elab.async false
set_option linter.all false
set_option maxRecDepth 100000
set_option maxHeartbeats 1000000
namespace DL
open PySem PySem.Spec PyProof.Rows L2

/-! ### operators on data -/
section
variable {g : Gx} {W : WX} {io : List Nat} {md : Md} {Z E E1 : Addr → Prop} {σ σ1 : L2.St} {H H1 : Hp} {ρ ρ1 : Env} {c : Str}
theorem OpSnd.or' {md : Md} {r r' : R2} {f f' : D → D → P D} (h : OpSnd g W md r f) (h' : OpSnd g W md r' f') (s : D → D → Bool) : OpSnd g W md (fun x y H Q => r x y H Q ∨ r' x y H Q) (fun d e => if s d e = true then f d e else f' d e) := by
  intro σ H ρ Z E x y d e Q A hx hy k
  by_cases q : s d e = true
  · simp only [if_pos q] at k
    exact .inl (h σ H ρ Z E x y d e Q A hx hy k)
  · simp only [if_neg q] at k
    exact .inr (h' σ H ρ Z E x y d e Q A hx hy k)
theorem OpSnd.toT {r : R2} {f : D → D → P D} (h : OpSnd g W .S r f) : OpSnd g W .T r f := by
  intro σ H ρ Z E x y d e Q A hx hy k
  refine h σ H ρ Z E x y d e Q A hx hy ?_
  revert k
  cases f d e with
  | ok z => exact fun k v H' E' p t s => k v H' E' p.toT t s
  | exc c xs => exact fun k => k
  | stk => exact fun k => k
/-! text + text -/
def fCatS (d e : D) : P D := match d, e with
  | .str a, .str b => if a.length + b.length ≤ 1000000 then .ok (.str (a ++ b)) else .stk
  | _, _ => .stk
theorem line1M {n : Nat} (h : n ≤ 1000000) : n ≤ sizeLine := Nat.le_trans h (by rw [sizeLine_eq]; decide)
theorem snd_catS : OpSnd g W .S (fun x y H Q => ∃ i j, x = .str i ∧ y = .str j ∧ i.length + j.length ≤ sizeLine ∧ Q (.str (i ++ j)) H) fCatS := by
  refine op_flat (fun H E x y d e z Q hx hy h => ?_) (fun d e cc xs => ?_)
  · unfold fCatS at h
    split at h
    · split at h
      · rename_i a b hl
        cases h
        exact ⟨_, fun _ _ => rep_str _, fun z => ⟨a, b, rep1_str hx, rep1_str hy, line1M hl, z⟩⟩
      · cases h
    · cases h
  · unfold fCatS
    split
    · split <;> (intro z; cases z)
    · intro z; cases z
/-! list + list -/
def fCatL (d e : D) : P D := match d, e with
  | .lst _ xs, .lst _ ys => if xs.length + ys.length ≤ 100000 then .ok (.lst true (xs ++ ys)) else .stk
  | _, _ => .stk
theorem line100k {n : Nat} (h : n ≤ 100000) : n ≤ sizeLine := Nat.le_trans h (by rw [sizeLine_eq]; decide)
theorem snd_catL : OpSnd g W .T rCat fCatL := by
  intro σ H ρ Z E x y d e Q A hx hy k
  unfold fCatL at k
  split at k
  · split at k
    · rename_i o xs o' ys hl
      obtain ⟨a, vs, rfl, h1, r1⟩ := hx
      obtain ⟨b, ws, rfl, h2, r2⟩ := hy
      refine ⟨a, b, vs, ws, rfl, rfl, h1, h2, line100k (by rw [r1.len, r2.len]; exact hl), fun p hp => ?_⟩
      obtain ⟨a1, b1⟩ := post_lst A (r1.app r2) hp
      exact k _ _ _ a1 b1 (same_upd hp)
    · exact k.elim
  · exact k.elim
/-! tuple + tuple -/
def fCatT (d e : D) : P D := match d, e with
  | .tup xs, .tup ys => if xs.length + ys.length ≤ 100000 then .ok (.tup (xs ++ ys)) else .stk
  | _, _ => .stk
theorem snd_catT : OpSnd g W .S (rCatA g.K) fCatT := by
  intro σ H ρ Z E x y d e Q A hx hy k
  unfold fCatT at k
  split at k
  · split at k
    · rename_i xs ys hl
      obtain ⟨a, vs, rfl, h1, r1⟩ := rep1_tupR hx
      obtain ⟨b, ws, rfl, h2, r2⟩ := rep1_tupR hy
      refine ⟨a, b, vs, ws, rfl, rfl, .inl h1, .inl h2, line100k (by rw [r1.len, r2.len]; exact hl), fun e1 => ?_, fun e1 e2 => ?_, fun _ _ p hp => ?_⟩
      · have z := r1.len
        rw [e1] at z
        have z : xs = [] := List.length_eq_zero_iff.mp z.symm
        subst z
        refine k _ H E ⟨A, ?_⟩ Tr.refl (Same.refl H)
        unfold Rep
        exact ⟨b, ws, rfl, h2, r2⟩
      · have z := r2.len
        rw [e2] at z
        have z : ys = [] := List.length_eq_zero_iff.mp z.symm
        subst z
        refine k _ H E ⟨A, ?_⟩ Tr.refl (Same.refl H)
        rw [List.append_nil]
        unfold Rep
        exact ⟨a, vs, rfl, h1, r1⟩
      · exact k _ _ E (post_tup A (r1.app r2) hp) (Tr.of_same (same_upd hp) fun a h => .inl h) (same_upd hp)
    · exact k.elim
  · exact k.elim
/-! list * int, tuple * int -/
def repD (xs : List D) (k : Int) : List D := (List.replicate k.toNat xs).flatten
theorem RepL.rep0 {xs : List D} {vs : List V} (r : RepL g H E xs vs []) : ∀ n : Nat, RepL g H E (List.replicate n xs).flatten (List.replicate n vs).flatten []
  | 0 => RepL.nil
  | n + 1 => by
    rw [List.replicate_succ, List.replicate_succ, List.flatten_cons, List.flatten_cons]
    exact r.app (RepL.rep0 r n)
def fRepL (d e : D) : P D := match d, e with
  | .lst _ xs, .int k => if -(2 ^ 63) ≤ k ∧ k < 2 ^ 63 ∧ xs.length * k.toNat ≤ 100000 then .ok (.lst true (repD xs k)) else .stk
  | _, _ => .stk
theorem snd_repL : OpSnd g W .T rRep fRepL := by
  intro σ H ρ Z E x y d e Q A hx hy k
  unfold fRepL at k
  split at k
  · split at k
    · rename_i o xs n hl
      obtain ⟨a, vs, rfl, h1, r1⟩ := hx
      refine ⟨a, n, vs, rfl, rep1_int hy, h1, hl.1, hl.2.1, line100k (by rw [r1.len]; exact hl.2.2), fun p hp => ?_⟩
      obtain ⟨a1, b1⟩ := post_lst A (r1.rep0 n.toNat) hp
      exact k _ _ _ a1 b1 (same_upd hp)
    · exact k.elim
  · exact k.elim
def fRepT (d e : D) : P D := match d, e with
  | .tup xs, .int k => if xs ≠ [] ∧ 2 ≤ k ∧ k ≤ 1000 ∧ xs.length ≤ 1000 then .ok (.tup (repD xs k)) else .stk
  | _, _ => .stk
theorem snd_repT : OpSnd g W .S (rRepT g.K) fRepT := by
  intro σ H ρ Z E x y d e Q A hx hy k
  unfold fRepT at k
  split at k
  · split at k
    · rename_i xs n hl
      obtain ⟨a, vs, rfl, h1, r1⟩ := rep1_tupR hx
      refine ⟨a, n, vs, rfl, rep1_int hy, .inl h1, fun z => hl.1 ?_, hl.2.1, hl.2.2.1, by rw [r1.len]; exact hl.2.2.2, fun p hp => ?_⟩
      · have := r1.len
        rw [z] at this
        exact List.length_eq_zero_iff.mp this.symm
      · exact k _ _ E (post_tup A (r1.rep0 n.toNat) hp) (Tr.of_same (same_upd hp) fun a h => .inl h) (same_upd hp)
    · exact k.elim
  · exact k.elim

/-! own operators: the class's def is called; it lets no error out -/
def E00 : XK := fun _ _ _ => False
def isIns (c : Str) : D → Bool
  | .ins _ c' _ _ => decide (c' = c)
  | _ => false
theorem isIns_val {d : D} {v : V} (h : isIns c d = true) (r : Rep1 g H E d v) : ∃ a dx fs, v = .ref a ∧ H a = some (.ins (g.cl c) dx fs) := by
  unfold isIns at h
  split at h
  · obtain ⟨a, dx, vs, rfl, h1, hl, r⟩ := r
    rw [← of_decide_eq_true h]
    exact ⟨a, dx, _, rfl, h1⟩
  · cases h
def rOwn2 (C : Addr) (sp : Sp) : R2 := fun x y H Q => ∃ a dx fs b dy gs, x = .ref a ∧ y = .ref b ∧ H a = some (.ins C dx fs) ∧ H b = some (.ins C dy gs) ∧ sp [x, y] H Q E00
def isSh : D → Bool
  | .ins o _ _ _ => !o
  | _ => true
def fOwn2 (c : Str) (m : Env → R D) (d e : D) : P D := if isIns c d = true ∧ isIns c e = true ∧ isSh d = true ∧ isSh e = true then (match m [some (.sh d), some (.sh e)] with
  | .ok z _ => .ok z
  | _ => .stk) else .stk
end
/-- what an own operator is judged on: operands that nobody holds alone -/
def OpSnd0 (g : Gx) (W : WX) (md : Md) (r : R2) (f : D → D → P D) : Prop :=
  ∀ (σ : L2.St) (H : Hp) (ρ : Env) (Z E : Addr → Prop) (x y : V) (d e : D) (Q : VK), EnvAt g Z E ρ σ H → Rep g H E d x [] → Rep g H E e y [] →
    (f d e).sat (fun z => ∀ v H' E', Post md g Z E' ρ σ H' z v → Tr Z H E H' E' → Same H H' → Q v H')
      (fun c xs => ∀ cls dd H' E', ExcAt g H' E' c xs cls dd → EnvAt g Z E' ρ σ H' → Tr Z H E H' E' → W cls dd σ H') → r x y H Q
section
variable {g : Gx} {W : WX} {io : List Nat} {md mo : Md} {Z E E1 : Addr → Prop} {σ σ1 : L2.St} {H H1 : Hp} {ρ ρ1 : Env} {c : Str}
theorem OpSnd.to0 {r : R2} {f : D → D → P D} (h : OpSnd g W md r f) : OpSnd0 g W md r f := fun σ H ρ Z E x y d e Q A hx hy => h σ H ρ Z E x y d e Q A hx.rep1 hy.rep1
theorem OpSnd0.or' {md : Md} {r r' : R2} {f f' : D → D → P D} (h : OpSnd0 g W md r f) (h' : OpSnd0 g W md r' f') (s : D → D → Bool) : OpSnd0 g W md (fun x y H Q => r x y H Q ∨ r' x y H Q) (fun d e => if s d e = true then f d e else f' d e) := by
  intro σ H ρ Z E x y d e Q A hx hy k
  by_cases q : s d e = true
  · simp only [if_pos q] at k
    exact .inl (h σ H ρ Z E x y d e Q A hx hy k)
  · simp only [if_neg q] at k
    exact .inr (h' σ H ρ Z E x y d e Q A hx hy k)
theorem OpSnd0.toT {r : R2} {f : D → D → P D} (h : OpSnd0 g W .S r f) : OpSnd0 g W .T r f := by
  intro σ H ρ Z E x y d e Q A hx hy k
  refine h σ H ρ Z E x y d e Q A hx hy ?_
  revert k
  cases f d e with
  | ok z => exact fun k v H' E' p t s => k v H' E' p.toT t s
  | exc c xs => exact fun k => k
  | stk => exact fun k => k
theorem snd_op0 {ta tb : TE} {pa pb : Bool} {da db : Env → R D} {r : R2} {f : D → D → P D} (ho : OpSnd0 g W mo r f) (ha : SndE g W pa .S ta da) (hb : SndE g W pb .S tb db) :
    SndE g W (pa && pb) mo (tOp r ta tb) (dOp f da db) := by
  refine ⟨fun hp ρ d ρ' h => ?_, fun σ H ρ Z E Q A h => ?_⟩
  · obtain ⟨d1, ρ1, h1, h⟩ := R.bind_ok h
    obtain ⟨d2, ρ2, h2, h⟩ := R.bind_ok h
    rw [(P.at_ok h).2, hb.pure (and_r hp) _ _ _ h2, ha.pure (and_l hp) _ _ _ h1]
  · have h := R.sat_bind.mp h
    refine ha.run σ H ρ Z E _ A (R.sat_mono h (fun d ρ1 he k v H1 E1 p1 t1 s1 => ?_) fun c xs ρ1 k => k)
    have k := R.sat_bind.mp k
    refine hb.run σ H1 ρ1 Z E1 _ p1.1 (R.sat_mono k (fun e ρ2 he2 k2 w H2 E2 p2 t2 s2 => ?_) fun c xs ρ2 k2 cls dd H2 E2 x A2 t2 => k2 cls dd H2 E2 x A2 (t1.trans t2 fun _ h => h))
    have k2 := P.sat_at.mp k2
    refine ho σ H2 ρ2 Z E2 v w d e Q p2.1 (Rep.keep (t2.kp p1.1.ki fun _ h => nomatch h) p1.2) p2.2 ?_
    have t12 := t1.trans t2 fun _ h => h
    revert k2
    cases f d e with
    | ok z => exact fun k2 v3 H3 E3 p3 t3 s3 => k2 v3 H3 E3 p3 (t12.trans t3 fun _ h => h) fun hp => ((s1 (and_l hp)).trans (s2 (and_r hp))).trans s3
    | exc c xs => exact fun k2 cls dd H3 E3 x A3 t3 => k2 cls dd H3 E3 x A3 (t12.trans t3 fun _ h => h)
    | stk => exact fun k2 => k2
theorem snd_own2 {m : Env → R D} : OpSnd0 g W .S (rOwn2 (g.cl c) (spM g 2 .S m)) (fOwn2 c m) := by
  intro σ H ρ Z E x y d e Q A hx hy k
  unfold fOwn2 at k
  split at k
  · rename_i hc
    obtain ⟨a, dx, fs, rfl, h1⟩ := isIns_val hc.1 hx.rep1
    obtain ⟨b, dy, gs, rfl, h2⟩ := isIns_val hc.2.1 hy.rep1
    refine ⟨a, dx, fs, b, dy, gs, rfl, rfl, h1, h2, call_core0 (ds := [d, e]) A (RepL.cons0 hx (RepL.one hy)) rfl .s ?_⟩
    show (m [some (.sh d), some (.sh e)]).sat _ _
    revert k
    cases m [some (.sh d), some (.sh e)] with
    | ok z ρ' => exact fun k v H' E' p t s => k v H' E' p t s
    | exc c xs ρ' => exact fun k => k.elim
    | stk => exact fun k => k
  · exact k.elim
end
section
variable {X : Cx} {n : Nat} {C f : Addr} {fd : FuncData} {ps : List Str} {sp : Sp}
theorem pass00 (σ : L2.St) : PassesAt (L2.CX X.prog X.w) X σ E00 := fun pins H s e s' I h => by
  obtain ⟨a, B, H', cls, d, _, _, _, _, _, _, _, z⟩ := h
  exact z.elim
theorem op_own2 {op : Operator} (hc : PySem.W.selfFirst X.K C = true) (hs : PySem.W.findIn X.K (.ref C) (PySem.dunder op.info.2) = some (some (.ref f))) (hf : PySem.W.isFn X.K (.ref f) = true)
    (F : FnOk X.prog X.w X.K X.mg X.base (L2.CX X.prog X.w) n f fd ps sp) (hr : Room n X.A) (hb : Binds X.K fd ps []) : OpR X (binaryOp op) (rOwn2 C sp) := by
  intro pins s σ H x y v u Q I rx ry h
  obtain ⟨a, dx, fs, b, dy, gs, rfl, rfl, ha, hb', q⟩ := h
  cases (show v = Value.ref a from rx)
  cases (show u = Value.ref b from ry)
  obtain ⟨mA, J, _⟩ := ins_get I.hok ha
  obtain ⟨mB, J', _⟩ := ins_get I.hok hb'
  obtain ⟨od, J, _⟩ := J.look
  obtain ⟨od', J', _⟩ := J'.look
  obtain ⟨m, hF⟩ := I.fr
  refine PySem.W.binop_K (op := op) hF I.ok.mod.kin J J'.type hc hs hf ?_
  refine wpAny_mono (run_fnS (E := fun _ => E00) (us := [.ref a, .ref b]) (vs := [.ref a, .ref b]) F hr hb (pass00 σ) I (.cons rfl (.cons rfl .nil)) q) (fun w s' z => ?_) fun _ _ x => x
  obtain ⟨z', H', I', rz, qz⟩ := z
  exact SlX.cmpback rz ⟨z', H', I', rz, qz⟩
theorem cmp_own2 {op : CmpOp} (hop : ∀ a b, compareOp op a b = richCompare op a b) (hn : PySem.W.notFirst X.K C (.ref C) = true) (hs : PySem.W.findIn X.K (.ref C) (cmpInfo op).2.1 = some (some (.ref f))) (hf : PySem.W.isFn X.K (.ref f) = true)
    (F : FnOk X.prog X.w X.K X.mg X.base (L2.CX X.prog X.w) n f fd ps sp) (hr : Room n X.A) (hb : Binds X.K fd ps []) : OpR X (compareOp op) (rOwn2 C sp) := by
  intro pins s σ H x y v u Q I rx ry h
  obtain ⟨a, dx, fs, b, dy, gs, rfl, rfl, ha, hb', q⟩ := h
  cases (show v = Value.ref a from rx)
  cases (show u = Value.ref b from ry)
  obtain ⟨mA, J, _⟩ := ins_get I.hok ha
  obtain ⟨mB, J', _⟩ := ins_get I.hok hb'
  obtain ⟨od, J, _⟩ := J.look
  obtain ⟨od', J', _⟩ := J'.look
  obtain ⟨m, hF⟩ := I.fr
  rw [hop]
  refine PySem.W.cmp_K (op := op) (tb := .ref C) hr.units0 hF I.ok.mod.kin J J'.type hn hs hf ?_
  refine wpAny_mono (run_fnS (E := fun _ => E00) (us := [.ref a, .ref b]) (vs := [.ref a, .ref b]) F hr hb (pass00 σ) I (.cons rfl (.cons rfl .nil)) q) (fun w s' z => ?_) fun _ _ x => x
  obtain ⟨z', H', I', rz, qz⟩ := z
  exact SlX.cmpback rz ⟨z', H', I', rz, qz⟩
end

/-! ### == and != on data -/
mutual
def py : D → PyData
  | .non => .none
  | .bl b => .bool b
  | .int i => .int i
  | .str s => .str s
  | .tup xs => .tuple (pyL xs)
  | .lst _ xs => .list (pyL xs)
  | .scr ns => .list (ns.map .int)
  | _ => .none
def pyL : List D → List PyData
  | [] => []
  | d :: ds => py d :: pyL ds
end
mutual
/-- data all through, not deeper than n -/
def okPy : Nat → D → Bool
  | _, .non => true
  | _, .bl _ => true
  | _, .int _ => true
  | _, .str s => PyData.canLay0 (.str s)
  | n + 1, .tup xs => okPyL n xs
  | n + 1, .lst _ xs => okPyL n xs
  | _, _ => false
def okPyL : Nat → List D → Bool
  | _, [] => true
  | n, d :: ds => okPy n d && okPyL n ds
end
section
variable {g : Gx} {W : WX} {io : List Nat} {md : Md} {Z E E1 : Addr → Prop} {σ σ1 : L2.St} {H H1 : Hp} {ρ ρ1 : Env} {c : Str}
mutual
theorem okPy_dp : ∀ {n : Nat} {d : D} {v : V}, okPy n d = true → Rep g H E d v [] → Dp g.K H v (py d)
  | n, .non, v, _, r => by unfold Rep at r; rw [r.1]; exact .non
  | n, .bl b, v, _, r => by unfold Rep at r; rw [r.1]; exact .bl b
  | n, .int b, v, _, r => by unfold Rep at r; rw [r.1]; exact .int b
  | n, .str b, v, _, r => by unfold Rep at r; rw [r.1]; exact .str b
  | n + 1, .tup xs, v, h, r => by
    unfold okPy at h
    unfold Rep at r
    obtain ⟨a, vs, rfl, h1, r1⟩ := r
    unfold py
    exact .tup (.inl h1) (okPyL_dp h r1)
  | n + 1, .lst true xs, v, h, r => by unfold Rep at r; obtain ⟨a, vs, F1, e1, h1, h2, h3⟩ := r; cases h2
  | n + 1, .lst false xs, v, h, r => by
    unfold okPy at h
    unfold Rep at r
    obtain ⟨a, vs, rfl, h1, ne, _, r1⟩ := r
    unfold py
    exact .lst (SqL.of h1) (okPyL_dp h r1)
  | 0, .tup xs, v, h, r => by unfold okPy at h; cases h
  | 0, .lst o xs, v, h, r => by unfold okPy at h; cases h
  | n, .fn x, v, h, r => by unfold okPy at h; cases h
  | n, .scr x, v, h, r => by unfold okPy at h; cases h
  | n, .dic o k x, v, h, r => by unfold okPy at h; cases h
  | n, .ins o k f x, v, h, r => by unfold okPy at h; cases h
theorem okPyL_dp : ∀ {n : Nat} {ds : List D} {vs : List V}, okPyL n ds = true → RepL g H E ds vs [] → DpAll g.K H vs (pyL ds)
  | n, [], vs, _, r => by obtain ⟨rfl, _⟩ := r.nil_inv; exact .nil
  | n, d :: ds, vs, h, r => by
    unfold okPyL at h
    obtain ⟨v, vr, rfl, r1, r2⟩ := r.uncons
    exact .cons (okPy_dp (and_l h) r1) (okPyL_dp (and_r h) r2)
end
theorem okPy_dp1 {n : Nat} {d : D} {v : V} (h : okPy n d = true) (r : Rep1 g H E d v) : Dp g.K H v (py d) := by
  cases d with
  | lst o xs =>
    cases n with
    | zero => unfold okPy at h; cases h
    | succ n =>
      unfold okPy at h
      obtain ⟨a, vs, rfl, h1, r1⟩ := r
      unfold py
      exact .lst (SqL.of h1) (okPyL_dp h r1)
  | dic o k x => unfold okPy at h; cases h
  | ins o k f x => unfold okPy at h; cases h
  | _ => exact okPy_dp (E := E) h r
mutual
theorem okPy_lay : ∀ {n : Nat} {d : D}, okPy n d = true → (py d).canLay0 = true ∧ (py d).depth ≤ n + 1
  | n, .non, _ => ⟨rfl, by unfold py PyData.depth; omega⟩
  | n, .bl b, _ => ⟨rfl, by unfold py PyData.depth; omega⟩
  | n, .int b, _ => ⟨rfl, by unfold py PyData.depth; omega⟩
  | n, .str b, h => ⟨by unfold okPy at h; unfold py; exact h, by unfold py PyData.depth; omega⟩
  | n + 1, .tup xs, h => by
    unfold okPy at h
    have := okPyL_lay h
    unfold py PyData.canLay0 PyData.depth
    exact ⟨this.1, by omega⟩
  | n + 1, .lst o xs, h => by
    unfold okPy at h
    have := okPyL_lay h
    unfold py PyData.canLay0 PyData.depth
    exact ⟨this.1, by omega⟩
  | 0, .tup xs, h => by unfold okPy at h; cases h
  | 0, .lst o xs, h => by unfold okPy at h; cases h
  | n, .fn x, h => by unfold okPy at h; cases h
  | n, .scr x, h => by unfold okPy at h; cases h
  | n, .dic o k x, h => by unfold okPy at h; cases h
  | n, .ins o k f x, h => by unfold okPy at h; cases h
theorem okPyL_lay : ∀ {n : Nat} {ds : List D}, okPyL n ds = true → PyData.canLayAll0 (pyL ds) = true ∧ PyData.depthAll (pyL ds) ≤ n + 1
  | n, [], _ => ⟨rfl, by unfold pyL PyData.depthAll; omega⟩
  | n, d :: ds, h => by
    unfold okPyL at h
    have h1 := okPy_lay (and_l h)
    have h2 := okPyL_lay (and_r h)
    unfold pyL PyData.canLayAll0 PyData.depthAll
    refine ⟨by rw [h1.1, h2.1]; rfl, by omega⟩
end
theorem okPy_shaped {d : D} (h : okPy 60 d = true) : SeqAt.shaped (py d) = true := by
  have := okPy_lay h
  unfold SeqAt.shaped
  rw [this.1, Bool.true_and]
  exact decide_eq_true (by omega)
def fEqD (d e : D) : P D := if okPy 60 d = true ∧ okPy 60 e = true then .ok (.bl (PyData.eqv (py d) (py e))) else .stk
def fNeD (d e : D) : P D := if okPy 60 d = true ∧ okPy 60 e = true then .ok (.bl (!PyData.eqv (py d) (py e))) else .stk
theorem snd_eqD : OpSnd g W .S (rEqD g.K) fEqD := by
  refine op_flat (fun H E x y d e z Q hx hy h => ?_) (fun d e cc xs => ?_)
  · unfold fEqD at h
    split at h
    · rename_i ok
      cases h
      exact ⟨_, fun _ _ => rep_bl _, fun z => ⟨_, _, okPy_dp1 ok.1 hx, okPy_dp1 ok.2 hy, okPy_shaped ok.1, okPy_shaped ok.2, z⟩⟩
    · cases h
  · unfold fEqD
    split <;> (intro z; cases z)
theorem snd_neD : OpSnd g W .S (rNeD g.K) fNeD := by
  refine op_flat (fun H E x y d e z Q hx hy h => ?_) (fun d e cc xs => ?_)
  · unfold fNeD at h
    split at h
    · rename_i ok
      cases h
      exact ⟨_, fun _ _ => rep_bl _, fun z => ⟨_, _, okPy_dp1 ok.1 hx, okPy_dp1 ok.2 hy, okPy_shaped ok.1, okPy_shaped ok.2, z⟩⟩
    · cases h
  · unfold fNeD
    split <;> (intro z; cases z)
def flatEq (d e : D) : Option Bool := match d, e with
  | .non, .non => some true
  | .non, .int _ => some false
  | .int _, .non => some false
  | .non, .bl _ => some false
  | .bl _, .non => some false
  | .non, .str _ => some false
  | .str _, .non => some false
  | .int i, .int j => some (decide (i = j))
  | .bl i, .bl j => some (decide (i = j))
  | .str i, .str j => some (decide (i = j))
  | .int _, .str _ => some false
  | .str _, .int _ => some false
  | .bl _, .str _ => some false
  | .str _, .bl _ => some false
  | _, _ => none
theorem dec_of {α : Type} {x y : V} {a b : α} [DecidableEq α] (h : x = y ↔ a = b) : decide (x = y) = decide (a = b) := by
  by_cases q : a = b
  · rw [decide_eq_true q, decide_eq_true (h.mpr q)]
  · rw [decide_eq_false q, decide_eq_false fun z => q (h.mp z)]
theorem flatEq_val {d e : D} {x y : V} {b : Bool} (h : flatEq d e = some b) (hx : Rep1 g H E d x) (hy : Rep1 g H E e y) : scal x y = true ∧ decide (x = y) = b := by
  unfold flatEq at h
  split at h <;> cases h
  · rw [rep1_non hx, rep1_non hy]; exact ⟨rfl, decide_eq_true rfl⟩
  · rw [rep1_non hx, rep1_int hy]; exact ⟨rfl, decide_eq_false fun z => by cases z⟩
  · rw [rep1_int hx, rep1_non hy]; exact ⟨rfl, decide_eq_false fun z => by cases z⟩
  · rw [rep1_non hx, rep1_bl hy]; exact ⟨rfl, decide_eq_false fun z => by cases z⟩
  · rw [rep1_bl hx, rep1_non hy]; exact ⟨rfl, decide_eq_false fun z => by cases z⟩
  · rw [rep1_non hx, rep1_str hy]; exact ⟨rfl, decide_eq_false fun z => by cases z⟩
  · rw [rep1_str hx, rep1_non hy]; exact ⟨rfl, decide_eq_false fun z => by cases z⟩
  · rw [rep1_int hx, rep1_int hy]; exact ⟨rfl, dec_of ⟨fun z => by cases z; rfl, fun z => by rw [z]⟩⟩
  · rw [rep1_bl hx, rep1_bl hy]; exact ⟨rfl, dec_of ⟨fun z => by cases z; rfl, fun z => by rw [z]⟩⟩
  · rw [rep1_str hx, rep1_str hy]; exact ⟨rfl, dec_of ⟨fun z => by cases z; rfl, fun z => by rw [z]⟩⟩
  · rw [rep1_int hx, rep1_str hy]; exact ⟨rfl, decide_eq_false fun z => by cases z⟩
  · rw [rep1_str hx, rep1_int hy]; exact ⟨rfl, decide_eq_false fun z => by cases z⟩
  · rw [rep1_bl hx, rep1_str hy]; exact ⟨rfl, decide_eq_false fun z => by cases z⟩
  · rw [rep1_str hx, rep1_bl hy]; exact ⟨rfl, decide_eq_false fun z => by cases z⟩
def fEqA (d e : D) : P D := match flatEq d e with
  | some b => .ok (.bl b)
  | none => fEqD d e
def fNeA (d e : D) : P D := match flatEq d e with
  | some b => .ok (.bl (!b))
  | none => fNeD d e
def rEqA (K : PySem.W.Frag) : R2 := fun x y H Q => rEq x y H Q ∨ rEqD K x y H Q
def rNeA (K : PySem.W.Frag) : R2 := fun x y H Q => rNe x y H Q ∨ rNeD K x y H Q
theorem op_eqA {X : Cx} (hu : X.A.units + 64 < cLine) : OpR X (compareOp .Eq) (rEqA X.K) := op_eq.or (op_eqD hu)
theorem op_neA {X : Cx} (hu : X.A.units + 64 < cLine) : OpR X (compareOp .NotEq) (rNeA X.K) := op_ne.or (op_neD hu)
theorem snd_eqA : OpSnd g W .S (rEqA g.K) fEqA := by
  intro σ H ρ Z E x y d e Q A hx hy k
  unfold fEqA at k
  split at k
  · rename_i b q
    obtain ⟨h1, h2⟩ := flatEq_val q hx hy
    exact .inl ⟨h1, by rw [h2]; exact k _ H E ⟨A, rep_bl _⟩ Tr.refl (Same.refl H)⟩
  · exact .inr (snd_eqD σ H ρ Z E x y d e Q A hx hy k)
theorem snd_neA : OpSnd g W .S (rNeA g.K) fNeA := by
  intro σ H ρ Z E x y d e Q A hx hy k
  unfold fNeA at k
  split at k
  · rename_i b q
    obtain ⟨h1, h2⟩ := flatEq_val q hx hy
    exact .inl ⟨h1, by rw [h2]; exact k _ H E ⟨A, rep_bl _⟩ Tr.refl (Same.refl H)⟩
  · exact .inr (snd_neD σ H ρ Z E x y d e Q A hx hy k)

/-! ### x in y: a text in a text; flat values in a list or tuple; data in a list -/
def flatD : D → Bool
  | .non => true
  | .bl _ => true
  | .int _ => true
  | .str _ => true
  | _ => false
def inD (d : D) (ys : List D) : Bool := ys.any fun y => PyData.eqv (py y) (py d)
theorem flatD_val {d : D} (h : flatD d = true) : ∃ v, (∀ H E x, Rep1 g H E d x → x = v) ∧ (∀ H E x F, Rep g H E d x F → x = v) ∧ flatV v = true := by
  cases d with
  | non => exact ⟨.non, fun H E x r => rep1_non r, fun H E x F r => by unfold Rep at r; exact r.1, rfl⟩
  | bl b => exact ⟨.bl b, fun H E x r => rep1_bl r, fun H E x F r => by unfold Rep at r; exact r.1, rfl⟩
  | int b => exact ⟨.int b, fun H E x r => rep1_int r, fun H E x F r => by unfold Rep at r; exact r.1, rfl⟩
  | str b => exact ⟨.str b, fun H E x r => rep1_str r, fun H E x F r => by unfold Rep at r; exact r.1, rfl⟩
  | _ => cases h
theorem eqV_py {d e : D} {x y : V} (hd : flatD d = true) (he : flatD e = true) (rx : Rep g H E d x []) (ry : Rep g H E e y []) : flatV x = true ∧ eqV x y = PyData.eqv (py d) (py e) := by
  cases d <;> first | cases hd | skip
  all_goals (cases e <;> first | cases he | skip)
  all_goals (unfold Rep at rx ry; rw [rx.1, ry.1]; refine ⟨rfl, ?_⟩; first | rfl | (unfold eqV PyData.eqv py; rfl))
theorem inV_py {d : D} {x : V} (hd : flatD d = true) (rx : Rep g H E d x []) : ∀ {ys : List D} {vs : List V}, ys.all flatD = true → RepL g H E ys vs [] → vs.all flatV = true ∧ inV x vs = inD d ys
  | [], vs, _, r => by obtain ⟨rfl, _⟩ := r.nil_inv; exact ⟨rfl, rfl⟩
  | y :: ys, vs, h, r => by
    obtain ⟨v, vr, rfl, r1, r2⟩ := r.uncons
    rw [List.all_cons] at h
    have ih := inV_py hd rx (and_r h) r2
    have e := eqV_py (and_l h) hd r1 rx
    refine ⟨by rw [List.all_cons, e.1, ih.1]; rfl, ?_⟩
    have ih2 := ih.2
    unfold inV inD at ih2 ⊢
    rw [List.any_cons, List.any_cons, e.2, ih2]
def fIn (neg : Bool) (d e : D) : P D := match e with
  | .str b => (match d with
    | .str a => .ok (.bl (if neg then !(!(Builtin.Str.occurrences b a 0 b.length 1).isEmpty) else !(Builtin.Str.occurrences b a 0 b.length 1).isEmpty))
    | _ => .stk)
  | .lst _ ys => if flatD d = true ∧ ys.all flatD = true then .ok (.bl (if neg then !inD d ys else inD d ys)) else if okPy 60 d = true ∧ okPy 60 e = true then .ok (.bl (if neg then !(pyL ys).any (fun z => PyData.eqv z (py d)) else (pyL ys).any fun z => PyData.eqv z (py d))) else .stk
  | .tup ys => if flatD d = true ∧ ys.all flatD = true then .ok (.bl (if neg then !inD d ys else inD d ys)) else .stk
  | .dic _ ks xs => (match toKey d with
    | some k => .ok (.bl (if neg then !(dicGet ks xs k).isSome else (dicGet ks xs k).isSome))
    | none => .stk)
  | _ => .stk
def rInA (K : PySem.W.Frag) : R2 := fun x y H Q => (∃ i j, x = .str i ∧ y = .str j ∧ Q (.bl (!(Builtin.Str.occurrences j i 0 j.length 1).isEmpty)) H) ∨ rIn K false x y H Q ∨ rInD K x y H Q ∨ ∃ a ov, y = .ref a ∧ DGet H a x ov ∧ Q (.bl ov.isSome) H
def rNotInA (K : PySem.W.Frag) : R2 := fun x y H Q => (∃ i j, x = .str i ∧ y = .str j ∧ Q (.bl (!(!(Builtin.Str.occurrences j i 0 j.length 1).isEmpty))) H) ∨ rIn K true x y H Q ∨ rNotInD K x y H Q ∨ ∃ a ov, y = .ref a ∧ DGet H a x ov ∧ Q (.bl (!ov.isSome)) H
theorem op_din {X : Cx} (hu : X.A.units + 1 < cLine) : OpR X (compareOp .In) (fun x y H Q => ∃ a ov, y = .ref a ∧ DGet H a x ov ∧ Q (.bl ov.isSome) H) := by
  intro pins s σ H x y v u Q I rx ry h
  obtain ⟨a, ov, rfl, gg, q⟩ := h
  cases (show u = Value.ref a from ry)
  exact d_in hu I gg rx fun s3 I3 => ⟨.bl ov.isSome, H, I3, rfl, q⟩
theorem op_dnotin {X : Cx} (hu : X.A.units + 1 < cLine) : OpR X (compareOp .NotIn) (fun x y H Q => ∃ a ov, y = .ref a ∧ DGet H a x ov ∧ Q (.bl (!ov.isSome)) H) := by
  intro pins s σ H x y v u Q I rx ry h
  obtain ⟨a, ov, rfl, gg, q⟩ := h
  cases (show u = Value.ref a from ry)
  exact d_notIn hu I gg rx fun s3 I3 => ⟨.bl (!ov.isSome), H, I3, rfl, q⟩
theorem op_inA {X : Cx} (hu : X.A.units + 65 < cLine) : OpR X (compareOp .In) (rInA X.K) := op_in_str.or (op_in_seq.or ((op_inD hu).or (op_din (by omega))))
theorem op_notInA {X : Cx} (hu : X.A.units + 65 < cLine) : OpR X (compareOp .NotIn) (rNotInA X.K) := op_notin_str.or (op_notIn_seq.or ((op_notInD hu).or (op_dnotin (by omega))))
theorem Rep1.flat {d : D} {x : V} (h : flatD d = true) (r : Rep1 g H E d x) : Rep g H E d x [] := by
  cases d <;> first | exact r | cases h
theorem in_cases {neg : Bool} {x y : V} {d e : D} {r : Hp → VK → Prop} {Q : VK} (hx : Rep1 g H E d x) (hy : Rep1 g H E e y)
    (h1 : ∀ i j b, x = .str i → y = .str j → b = (if neg then !(!(Builtin.Str.occurrences j i 0 j.length 1).isEmpty) else !(Builtin.Str.occurrences j i 0 j.length 1).isEmpty) → Q (.bl b) H → r H Q)
    (h2 : ∀ b p xs, y = .ref p → (SqL g.K H p xs ∨ SqT g.K H p xs) → flatV x = true → xs.all flatV = true → b = (if neg then !inV x xs else inV x xs) → Q (.bl b) H → r H Q)
    (h3 : ∀ b dd ds, Dp g.K H x dd → Dp g.K H y (.list ds) → SeqAt.shaped dd = true → SeqAt.shaped (.list ds) = true → b = (if neg then !ds.any (fun z => PyData.eqv z dd) else ds.any fun z => PyData.eqv z dd) → Q (.bl b) H → r H Q)
    (h4 : ∀ b a ov, y = .ref a → DGet H a x ov → b = (if neg then !ov.isSome else ov.isSome) → Q (.bl b) H → r H Q)
    {z : D} (hf : fIn neg d e = .ok z) (k : ∀ v, Rep g H E z v [] → Q v H) : r H Q := by
  unfold fIn at hf
  split at hf
  · split at hf
    · cases hf
      exact h1 _ _ _ (rep1_str hx) (rep1_str hy) rfl (k _ (rep_bl _))
    · cases hf
  · rename_i o ys
    split at hf
    · rename_i fl
      cases hf
      obtain ⟨a, vs, rfl, q1, r1⟩ := hy
      have ii := inV_py fl.1 (hx.flat fl.1) fl.2 r1
      have fx := (eqV_py fl.1 fl.1 (hx.flat fl.1) (hx.flat fl.1)).1
      exact h2 _ a vs rfl (.inl (SqL.of q1)) fx ii.1 rfl (by rw [ii.2]; exact k _ (rep_bl _))
    · split at hf
      · rename_i ok
        cases hf
        have dy := okPy_dp1 ok.2 hy
        unfold py at dy
        have sy := okPy_shaped ok.2
        unfold py at sy
        exact h3 _ _ _ (okPy_dp1 ok.1 hx) dy (okPy_shaped ok.1) sy rfl (k _ (rep_bl _))
      · cases hf
  · rename_i ys
    split at hf
    · rename_i fl
      cases hf
      obtain ⟨a, vs, rfl, q1, r1⟩ := rep1_tup hy
      have ii := inV_py fl.1 (hx.flat fl.1) fl.2 r1
      have fx := (eqV_py fl.1 fl.1 (hx.flat fl.1) (hx.flat fl.1)).1
      exact h2 _ a vs rfl (.inr q1) fx ii.1 rfl (by rw [ii.2]; exact k _ (rep_bl _))
    · cases hf
  · rename_i o ks xs
    split at hf
    · rename_i kk tk
      cases hf
      obtain ⟨a, vs, rfl, q1, hl, r1⟩ := hy
      have zz := dicGet_val (k := kk) hl.len r1
      refine h4 _ a (valV (ks.zip vs) kk) rfl (.inl ⟨_, kk, q1, toKey_rep tk hx, rfl⟩) rfl ?_
      split at zz
      · rename_i d' q'
        obtain ⟨v, e1, _⟩ := zz
        rw [e1]
        have := k _ (rep_bl (g := g) (H := H) (E := E) (if neg = true then !(dicGet ks xs kk).isSome else (dicGet ks xs kk).isSome))
        rw [q'] at this
        exact this
      · rename_i q'
        rw [zz]
        have := k _ (rep_bl (g := g) (H := H) (E := E) (if neg = true then !(dicGet ks xs kk).isSome else (dicGet ks xs kk).isSome))
        rw [q'] at this
        exact this
    · cases hf
  · cases hf
theorem fIn_exc {neg : Bool} {d e : D} {c : Str} {xs : List D} : fIn neg d e ≠ .exc c xs := by
  unfold fIn
  split
  · split <;> (intro z; cases z)
  · split
    · intro z; cases z
    · split <;> (intro z; cases z)
  · split <;> (intro z; cases z)
  · split <;> (intro z; cases z)
  · intro z; cases z
theorem snd_inA : OpSnd g W .S (rInA g.K) (fIn false) := by
  intro σ H ρ Z E x y d e Q A hx hy k
  cases q : fIn false d e with
  | stk => rw [q] at k; exact k.elim
  | exc c xs => exact absurd q fIn_exc
  | ok z =>
    rw [q] at k
    have k' : ∀ v, Rep g H E z v [] → Q v H := fun v r => k v H E ⟨A, r⟩ Tr.refl (Same.refl H)
    exact in_cases (neg := false) (r := fun H Q => rInA g.K x y H Q) hx hy (fun i j b e1 e2 e3 q => .inl ⟨i, j, e1, e2, by subst e3; exact q⟩) (fun b p xs e1 e2 e3 e4 e5 q => .inr (.inl ⟨p, xs, e1, e2, e3, e4, by subst e5; exact q⟩))
      (fun b dd ds e1 e2 e3 e4 e5 q => .inr (.inr (.inl ⟨dd, ds, e1, e2, e3, e4, by subst e5; exact q⟩))) (fun b a ov e1 e2 e3 q => .inr (.inr (.inr ⟨a, ov, e1, e2, by subst e3; exact q⟩))) q k'
theorem snd_notInA : OpSnd g W .S (rNotInA g.K) (fIn true) := by
  intro σ H ρ Z E x y d e Q A hx hy k
  cases q : fIn true d e with
  | stk => rw [q] at k; exact k.elim
  | exc c xs => exact absurd q fIn_exc
  | ok z =>
    rw [q] at k
    have k' : ∀ v, Rep g H E z v [] → Q v H := fun v r => k v H E ⟨A, r⟩ Tr.refl (Same.refl H)
    exact in_cases (neg := true) (r := fun H Q => rNotInA g.K x y H Q) hx hy (fun i j b e1 e2 e3 q => .inl ⟨i, j, e1, e2, by subst e3; exact q⟩) (fun b p xs e1 e2 e3 e4 e5 q => .inr (.inl ⟨p, xs, e1, e2, e3, e4, by subst e5; exact q⟩))
      (fun b dd ds e1 e2 e3 e4 e5 q => .inr (.inr (.inl ⟨dd, ds, e1, e2, e3, e4, by subst e5; exact q⟩))) (fun b a ov e1 e2 e3 q => .inr (.inr (.inr ⟨a, ov, e1, e2, by subst e3; exact q⟩))) q k'
end
end DL
/-! DL19 -/
set_option Elab.async false
set_option linter.all false
set_option maxRecDepth 100000
set_option maxHeartbeats 1000000
namespace DL
open PySem PySem.Spec PyProof.Rows L2

/-! ### built-in functions -/
section
variable {g : Gx} {W : WX} {io : List Nat} {md mo : Md} {Z E E1 : Addr → Prop} {σ σ1 : L2.St} {H H1 : Hp} {ρ ρ1 : Env} {c : Str}
/-- one argument -/
theorem snd_b1 {ta : TE} {pa : Bool} {ma : Md} {da : Env → R D} {r : List V → Hp → VK → Prop} {f : D → P D} (ho : UnSnd g W mo (fun x H Q => r [x] H Q) f) (ha : SndE g W pa ma ta da) (oa : SQ ma) : SndE g W pa mo (tCB r (tCons ta tNil)) (dUn f da) :=
  snd_un (r := fun x H Q => r [x] H Q) ho ha oa
/-- what several arguments, that nobody holds alone, give -/
def NSnd (g : Gx) (W : WX) (md : Md) (r : List V → Hp → VK → Prop) (f : List D → P D) : Prop :=
  ∀ (σ : L2.St) (H : Hp) (ρ : Env) (Z E : Addr → Prop) (vs : List V) (ds : List D) (Q : VK), EnvAt g Z E ρ σ H → RepL g H E ds vs [] →
    (f ds).sat (fun z => ∀ v H' E', Post md g Z E' ρ σ H' z v → Tr Z H E H' E' → Same H H' → Q v H')
      (fun c xs => ∀ cls dd H' E', ExcAt g H' E' c xs cls dd → EnvAt g Z E' ρ σ H' → Tr Z H E H' E' → W cls dd σ H') → r vs H Q
def dN (f : List D → P D) (a : Env → R (List D)) : Env → R D := fun ρ => (a ρ).bind fun ds ρ1 => (f ds).at ρ1
theorem snd_bn {ta : TA} {pa : Bool} {n : Nat} {da : Env → R (List D)} {r : List V → Hp → VK → Prop} {f : List D → P D} (ho : NSnd g W mo r f) (ha : SndA g W pa n ta da) : SndE g W pa mo (tCB r ta) (dN f da) := by
  refine ⟨fun hp ρ d ρ' h => ?_, fun σ H ρ Z E Q A h => ?_⟩
  · obtain ⟨d1, ρ1, h1, h⟩ := R.bind_ok h
    rw [(P.at_ok h).2, ha.pure hp _ _ _ h1]
  · refine ha.run σ H ρ Z E _ A (R.sat_mono (R.sat_bind.mp h) (fun ds ρ1 _ k vs H1 E1 A1 r1 t1 s1 => ?_) fun _ _ _ k => k)
    have k := P.sat_at.mp k
    refine ho σ H1 ρ1 Z E1 vs ds Q A1 r1 ?_
    revert k
    cases f ds with
    | ok z => exact fun k2 v3 H3 E3 p3 t3 s3 => k2 v3 H3 E3 p3 (t1.trans t3 fun _ h => h) fun hp => (s1 hp).trans s3
    | exc c xs => exact fun k2 cls dd H3 E3 x A3 t3 => k2 cls dd H3 E3 x A3 (t1.trans t3 fun _ h => h)
    | stk => exact fun k2 => k2
theorem n_flat {r : List V → Hp → VK → Prop} {f : List D → P D} (h : ∀ H E vs ds z (Q : VK), RepL g H E ds vs [] → f ds = .ok z → ∃ v, (∀ H E, Rep g H E z v []) ∧ (Q v H → r vs H Q)) (hx : ∀ ds c xs, f ds ≠ .exc c xs) : NSnd g W .S r f := by
  intro σ H ρ Z E vs ds Q A r1 k
  cases z : f ds with
  | ok z' =>
    rw [z] at k
    obtain ⟨v, h1, h2⟩ := h H E vs ds z' Q r1 z
    exact h2 (k v H E ⟨A, h1 H E⟩ Tr.refl (Same.refl H))
  | exc c xs => exact absurd z (hx ds c xs)
  | stk => rw [z] at k; exact k.elim
def fAbs : D → P D
  | .int i => .ok (.int (if i < 0 then -i else i))
  | _ => .stk
theorem snd_abs : UnSnd g W .S (fun x H Q => ∃ i, [x] = [V.int i] ∧ Q (.int (if i < 0 then -i else i)) H) fAbs := by
  refine un_flat (fun H E x d z Q hx h => ?_) (fun d cc xs => ?_)
  · unfold fAbs at h
    split at h
    · rename_i i
      cases h
      exact ⟨_, fun _ _ => rep_int _, fun z => ⟨i, by rw [rep1_int hx], z⟩⟩
    · cases h
  · unfold fAbs
    split <;> (intro z; cases z)
def rInt1 : List V → Hp → VK → Prop := fun xs H Q => ((∃ i, xs = [.int i] ∧ Q (.int i) H) ∨ ∃ k, xs = [.bl k] ∧ Q (.int (if k then 1 else 0)) H) ∨ ∃ a n, xs = [.str a] ∧ PySem.intText? a = some n ∧ a.length ≤ 640 ∧ Q (.int n) H
theorem call_intA {X : Cx} : CallR X (.type "int") rInt1 := by
  intro pins s σ H xs us Q I r h
  rcases h with h | h
  · exact call_int1 pins s σ H xs us Q I r h
  · exact L2.call_int_str pins s σ H xs us Q I r h
def fInt : D → P D
  | .int i => .ok (.int i)
  | .bl k => .ok (.int (if k then 1 else 0))
  | .str a => match PySem.intText? a with
    | some n => if a.length ≤ 640 then .ok (.int n) else .stk
    | none => .stk
  | _ => .stk
theorem snd_int1 : UnSnd g W .S (fun x H Q => rInt1 [x] H Q) fInt := by
  refine un_flat (fun H E x d z Q hx h => ?_) (fun d cc xs => ?_)
  · unfold fInt at h
    split at h
    · rename_i i
      cases h
      exact ⟨_, fun _ _ => rep_int _, fun z => .inl (.inl ⟨i, by rw [rep1_int hx], z⟩)⟩
    · rename_i i
      cases h
      exact ⟨_, fun _ _ => rep_int _, fun z => .inl (.inr ⟨i, by rw [rep1_bl hx], z⟩)⟩
    · rename_i a
      split at h
      · rename_i n e
        split at h
        · rename_i hl
          cases h
          exact ⟨_, fun _ _ => rep_int _, fun z => .inr ⟨a, n, by rw [rep1_str hx], e, hl, z⟩⟩
        · cases h
      · cases h
    · cases h
  · unfold fInt
    split
    · intro z; cases z
    · intro z; cases z
    · split
      · split <;> (intro z; cases z)
      · intro z; cases z
    · intro z; cases z
def fStr : D → P D
  | .int i => if i.natAbs.log2 < 1920 then .ok (.str (toString i)) else .stk
  | _ => .stk
theorem snd_str1 : UnSnd g W .S (fun x H Q => ∃ i, [x] = [V.int i] ∧ i.natAbs.log2 < 1920 ∧ Q (.str (toString i)) H) fStr := by
  refine un_flat (fun H E x d z Q hx h => ?_) (fun d cc xs => ?_)
  · unfold fStr at h
    split at h
    · rename_i i
      split at h
      · rename_i hl
        cases h
        exact ⟨_, fun _ _ => rep_str _, fun z => ⟨i, by rw [rep1_int hx], hl, z⟩⟩
      · cases h
    · cases h
  · unfold fStr
    split
    · split <;> (intro z; cases z)
    · intro z; cases z
def fLen : D → P D
  | .lst _ xs => .ok (.int xs.length)
  | .tup xs => .ok (.int xs.length)
  | .scr xs => .ok (.int xs.length)
  | .str a => if a.length ≤ 1000000 then .ok (.int a.length) else .stk
  | .dic _ ks _ => .ok (.int ks.length)
  | _ => .stk
def rLenA (K : PySem.W.Frag) : List V → Hp → VK → Prop := fun xs H Q => (∃ x n, xs = [x] ∧ LenV K x H n ∧ Q (.int n) H) ∨ ∃ a kvs, xs = [.ref a] ∧ Rd H a (.dK kvs) ∧ Q (.int kvs.length) H
theorem call_lenA {X : Cx} : CallR X (.builtin "len") (rLenA X.K) := by
  intro pins s σ H xs us Q I r h
  rcases h with h | ⟨a, kvs, rfl, e, q⟩
  · exact call_len pins s σ H xs us Q I r h
  · rw [Vals.ref1 r]
    exact d_len I e fun t s' I' => ⟨.int kvs.length, H, I', ⟨t, rfl⟩, q⟩
theorem snd_len : UnSnd g W .S (fun x H Q => rLenA g.K [x] H Q) fLen := by
  intro σ H ρ Z E x d Q A hx k
  unfold fLen at k
  split at k
  · rename_i o xs
    obtain ⟨a, vs, rfl, h1, r1⟩ := hx
    exact .inl ⟨_, xs.length, rfl, .inl ⟨vs, SqL.of h1, r1.len.symm⟩, k _ H E ⟨A, rep_int _⟩ Tr.refl (Same.refl H)⟩
  · rename_i xs
    obtain ⟨a, vs, rfl, h1, r1⟩ := rep1_tup hx
    exact .inl ⟨_, xs.length, rfl, .inr ⟨vs, h1, r1.len.symm⟩, k _ H E ⟨A, rep_int _⟩ Tr.refl (Same.refl H)⟩
  · rename_i xs
    unfold Rep1 Rep at hx
    obtain ⟨a, rfl, h1, _⟩ := hx
    refine .inl ⟨_, xs.length, rfl, .inl ⟨xs.map V.int, ?_, by simp⟩, k _ H E ⟨A, rep_int _⟩ Tr.refl (Same.refl H)⟩
    rcases h1 with h1 | h1
    · exact .inl (.inr h1)
    · exact .inr h1
  · rename_i a
    split at k
    · rename_i hl
      exact .inl ⟨_, a.length, rfl, by rw [rep1_str hx]; exact ⟨line1M hl, rfl⟩, k _ H E ⟨A, rep_int _⟩ Tr.refl (Same.refl H)⟩
    · exact k.elim
  · rename_i o ks xs
    obtain ⟨a, vs, rfl, h1, hl, r1⟩ := hx
    have e : (ks.zip vs).length = ks.length := by rw [List.length_zip, ← hl.len, Nat.min_self]
    exact .inr ⟨a, _, rfl, h1, by rw [e]; exact k _ H E ⟨A, rep_int _⟩ Tr.refl (Same.refl H)⟩
  · exact k.elim
/-! tuple(..), list(..) -/
def fTup : D → P D
  | .lst _ xs => .ok (.tup xs)
  | .scr xs => .ok (.tup (xs.map .int))
  | .tup xs => .ok (.tup xs)
  | _ => .stk
def rTupOf (K : PySem.W.Frag) : List V → Hp → VK → Prop := fun xs H Q => ∃ p ys, xs = [.ref p] ∧ ((SqL K H p ys ∧ ∀ l, H l = none → Q (.ref l) (upd H l (.tup ys))) ∨ (SqT K H p ys ∧ Q (.ref p) H))
theorem snd_tupOf : UnSnd g W .S (fun x H Q => rTupOf g.K [x] H Q) fTup := by
  intro σ H ρ Z E x d Q A hx k
  unfold fTup at k
  split at k
  · rename_i o xs
    obtain ⟨a, vs, rfl, h1, r1⟩ := hx
    exact ⟨a, vs, rfl, .inl ⟨SqL.of h1, fun p hp => k _ _ E (post_tup A r1 hp) (Tr.of_same (same_upd hp) fun a h => .inl h) (same_upd hp)⟩⟩
  · rename_i xs
    unfold Rep1 Rep at hx
    obtain ⟨a, rfl, h1, _⟩ := hx
    refine ⟨a, xs.map V.int, rfl, .inl ⟨?_, fun p hp => k _ _ E (post_tup A (repL_ints xs) hp) (Tr.of_same (same_upd hp) fun a h => .inl h) (same_upd hp)⟩⟩
    rcases h1 with h1 | h1
    · exact .inl (.inr h1)
    · exact .inr h1
  · rename_i xs
    have hx' : Rep g H E (.tup xs) x [] := hx
    obtain ⟨a, vs, rfl, h1, r1⟩ := rep1_tup hx
    exact ⟨a, vs, rfl, .inr ⟨h1, k _ H E ⟨A, hx'⟩ Tr.refl (Same.refl H)⟩⟩
  · exact k.elim
def fLstOf : D → P D
  | .lst _ xs => .ok (.lst true xs)
  | .scr xs => .ok (.lst true (xs.map .int))
  | .tup xs => .ok (.lst true xs)
  | _ => .stk
def rLstOf (K : PySem.W.Frag) : List V → Hp → VK → Prop := fun xs H Q => ∃ p ys, xs = [.ref p] ∧ (SqL K H p ys ∨ SqT K H p ys) ∧ ∀ l, H l = none → Q (.ref l) (upd H l (.lst ys))
theorem snd_lstOf : UnSnd g W .T (fun x H Q => rLstOf g.K [x] H Q) fLstOf := by
  intro σ H ρ Z E x d Q A hx k
  have fin : ∀ {vs : List V} {xs : List D} {p : Addr}, RepL g H E xs vs [] → H p = none → (∀ v H' E', Post .T g Z E' ρ σ H' (.lst true xs) v → Tr Z H E H' E' → Same H H' → Q v H') → Q (.ref p) (upd H p (.lst vs)) := fun {vs xs p} r hp k => by
    obtain ⟨a1, b1⟩ := post_lst A r hp
    exact k _ _ _ a1 b1 (same_upd hp)
  unfold fLstOf at k
  split at k
  · rename_i o xs
    obtain ⟨a, vs, rfl, h1, r1⟩ := hx
    exact ⟨a, vs, rfl, .inl (SqL.of h1), fun p hp => fin r1 hp k⟩
  · rename_i xs
    unfold Rep1 Rep at hx
    obtain ⟨a, rfl, h1, _⟩ := hx
    refine ⟨a, xs.map V.int, rfl, .inl ?_, fun p hp => fin (repL_ints xs) hp k⟩
    rcases h1 with h1 | h1
    · exact .inl (.inr h1)
    · exact .inr h1
  · rename_i xs
    obtain ⟨a, vs, rfl, h1, r1⟩ := rep1_tup hx
    exact ⟨a, vs, rfl, .inr h1, fun p hp => fin r1 hp k⟩
  · exact k.elim
/-! all, any of a list of flags -/
def bools : List D → Option (List Bool)
  | [] => some []
  | .bl b :: ds => (bools ds).map (b :: ·)
  | _ => none
theorem bools_val : ∀ {ds : List D} {vs : List V} {bs : List Bool}, bools ds = some bs → RepL g H E ds vs [] → vs = bs.map V.bl
  | [], vs, bs, h, r => by cases h; rw [r.nil_inv.1]; rfl
  | d :: ds, vs, bs, h, r => by
    obtain ⟨v, vr, rfl, r1, r2⟩ := r.uncons
    cases d with
    | bl b =>
      unfold bools at h
      cases q : bools ds with
      | none => rw [q] at h; cases h
      | some bs' =>
        rw [q] at h
        cases h
        rw [bools_val q r2, rep1_bl r1.rep1]
        rfl
    | _ => cases h
def fAll : D → P D
  | .lst _ xs => match bools xs with | some bs => .ok (.bl (bs.all id)) | none => .stk
  | _ => .stk
def fAny : D → P D
  | .lst _ xs => match bools xs with | some bs => .ok (.bl (bs.any id)) | none => .stk
  | _ => .stk
theorem snd_all : UnSnd g W .S (fun x H Q => rAll g.K [x] H Q) fAll := by
  intro σ H ρ Z E x d Q A hx k
  unfold fAll at k
  split at k
  · rename_i o xs
    split at k
    · rename_i bs q
      obtain ⟨a, vs, rfl, h1, r1⟩ := hx
      rw [bools_val q r1] at h1
      exact ⟨a, bs, rfl, SqL.of h1, k _ H E ⟨A, rep_bl _⟩ Tr.refl (Same.refl H)⟩
    · exact k.elim
  · exact k.elim
theorem snd_any : UnSnd g W .S (fun x H Q => rAny g.K [x] H Q) fAny := by
  intro σ H ρ Z E x d Q A hx k
  unfold fAny at k
  split at k
  · rename_i o xs
    split at k
    · rename_i bs q
      obtain ⟨a, vs, rfl, h1, r1⟩ := hx
      rw [bools_val q r1] at h1
      exact ⟨a, bs, rfl, SqL.of h1, k _ H E ⟨A, rep_bl _⟩ Tr.refl (Same.refl H)⟩
    · exact k.elim
  · exact k.elim
/-! min, max of two -/
def fMin : List D → P D
  | [.int i, .int j] => .ok (.int (if j < i then j else i))
  | _ => .stk
def fMax : List D → P D
  | [.int i, .int j] => .ok (.int (if j > i then j else i))
  | _ => .stk
theorem snd_min : NSnd g W .S (fun xs H Q => ∃ i j, xs = [.int i, .int j] ∧ Q (.int (if j < i then j else i)) H) fMin := by
  refine n_flat (fun H E vs ds z Q r h => ?_) (fun d cc xs => ?_)
  · unfold fMin at h
    split at h
    · rename_i i j
      cases h
      exact ⟨_, fun _ _ => rep_int _, fun z => ⟨i, j, repL_int2 r, z⟩⟩
    · cases h
  · unfold fMin
    split <;> (intro z; cases z)
theorem snd_max : NSnd g W .S (fun xs H Q => ∃ i j, xs = [.int i, .int j] ∧ Q (.int (if j > i then j else i)) H) fMax := by
  refine n_flat (fun H E vs ds z Q r h => ?_) (fun d cc xs => ?_)
  · unfold fMax at h
    split at h
    · rename_i i j
      cases h
      exact ⟨_, fun _ _ => rep_int _, fun z => ⟨i, j, repL_int2 r, z⟩⟩
    · cases h
  · unfold fMax
    split <;> (intro z; cases z)

/-! ### isinstance -/
inductive Tg where
  | non | bl | int | str | lst | tup | dic
  | ins (c : Str)
def tgOf : D → Option Tg
  | .non => some .non
  | .bl _ => some .bl
  | .int _ => some .int
  | .str _ => some .str
  | .lst _ _ => some .lst
  | .scr _ => some .lst
  | .tup _ => some .tup
  | .dic _ _ _ => some .dic
  | .ins _ c _ _ => some (.ins c)
  | .fn _ => none
  | .err _ _ => none
def tgV (g : Gx) : Tg → Value
  | .non => .type "NoneType"
  | .bl => .type "bool"
  | .int => .type "int"
  | .str => .type "str"
  | .lst => .type "list"
  | .tup => .type "tuple"
  | .dic => .type "dict"
  | .ins c => .ref (g.cl c)
/-- what isinstance asks of an own class -/
structure InsOk (K : PySem.W.Frag) (C : Addr) : Prop where
  cl : Cls K C
  ha : PySem.W.findIn K (.ref C) "__class__" = some (some (.builtin "object.__class__"))
  hn : PySem.W.specialIn K (.builtin "object.__class__") "__get__" = some (some (.builtin "getset_descriptor.__get__"))
  ht : PySem.W.takesIn K (.builtin "object.__class__") = some true
  hm : PySem.W.mroIn K C (.type "object") = some true
theorem tg_ty {d : D} {v : V} {t : Tg} (h : tgOf d = some t) (r : Rep1 g H E d v) (hi : ∀ c, t = .ins c → InsOk g.K (g.cl c)) : TyX g.K H v (tgV g t) := by
  cases d with
  | non => cases h; rw [rep1_non r]; exact .base .non
  | bl b => cases h; rw [rep1_bl r]; exact .base (.bl b)
  | int b => cases h; rw [rep1_int r]; exact .base (.int b)
  | str b => cases h; rw [rep1_str r]; exact .base (.str b)
  | fn x => cases h
  | err _ _ => cases h
  | scr x =>
    cases h
    unfold Rep1 Rep at r
    obtain ⟨a, rfl, h1, _⟩ := r
    rcases h1 with ⟨o, h1⟩ | ⟨o, its, n, h1, h2, h3⟩
    · exact .base (.frz h1)
    · exact .kList h1 h2
  | tup x =>
    cases h
    obtain ⟨a, vs, rfl, h1, _⟩ := rep1_tupR r
    rcases h1 with h1 | ⟨o, h1⟩
    · exact .base (.tup h1)
    · exact .fTuple h1
  | lst o x =>
    cases h
    obtain ⟨a, vs, rfl, h1, _⟩ := r
    exact .base (.lst h1)
  | dic o k x =>
    cases h
    obtain ⟨a, vs, rfl, h1, _⟩ := r
    rcases h1 with h1 | ⟨o, h1⟩
    · exact .base (.dK h1)
    · exact .fDict h1
  | ins o c f x =>
    cases h
    obtain ⟨a, dx, vs, rfl, h1, _⟩ := r
    have i := hi c rfl
    exact .base (.ins h1 i.cl i.ha i.hn i.ht i.hm)
def dIsi (f : Tg → Option Bool) (a : Env → R D) : Env → R D := fun ρ => (a ρ).bind fun d ρ1 => match (tgOf d).bind f with
  | some b => .ok (.bl b) ρ1
  | none => .stk
/-- isinstance(x, T) of one class -/
theorem snd_isi {ta : TE} {pa : Bool} {ma : Md} {da : Env → R D} {f : Tg → Option Bool} {cv : V} {u : Value} (hc : ClsV cv u) (hk : ∀ t b, f t = some b → PySem.W.kitOne g.K (tgV g t) u = some b ∧ ∀ c, t = .ins c → InsOk g.K (g.cl c)) (ha : SndE g W pa ma ta da) (oa : SQ ma) :
    SndE g W pa .S (tCB (rIsi g.K) (tCons ta (tCons (tC cv) tNil))) (dIsi f da) := by
  refine ⟨fun hp ρ d ρ' h => ?_, fun σ H ρ Z E Q A h => ?_⟩
  · obtain ⟨d1, ρ1, h1, h⟩ := R.bind_ok h
    split at h
    · cases h; exact ha.pure hp _ _ _ h1
    · cases h
  · refine ha.run σ H ρ Z E _ A (R.sat_mono (R.sat_bind.mp h) (fun d ρ1 _ k v H1 E1 p1 t1 s1 => ?_) fun _ _ _ k => k)
    split at k
    · rename_i b q
      cases q1 : tgOf d with
      | none => rw [q1] at q; cases q
      | some t =>
        rw [q1] at q
        obtain ⟨e1, e2⟩ := hk t b q
        exact ⟨v, cv, _, u, b, rfl, hc, tg_ty q1 (p1.rep1 oa) e2, e1, k _ H1 E1 ⟨p1.env oa, rep_bl _⟩ t1 s1⟩
    · exact k.elim
/-- isinstance(x, (T, U)) -/
theorem snd_isi2 {ta : TE} {pa : Bool} {ma : Md} {da : Env → R D} {f : Tg → Option Bool} {cv cv2 : V} {u u2 : Value} (hc : ClsV cv u) (hc2 : ClsV cv2 u2) (hk : ∀ t b, f t = some b → PySem.W.kitAny g.K (tgV g t) [u, u2] = some b ∧ ∀ c, t = .ins c → InsOk g.K (g.cl c)) (ha : SndE g W pa ma ta da) (oa : SQ ma) :
    SndE g W pa .S (tCB (rIsiT g.K) (tCons ta (tCons (tTup (tCons (tC cv) (tCons (tC cv2) tNil))) tNil))) (dIsi f da) := by
  refine ⟨fun hp ρ d ρ' h => ?_, fun σ H ρ Z E Q A h => ?_⟩
  · obtain ⟨d1, ρ1, h1, h⟩ := R.bind_ok h
    split at h
    · cases h; exact ha.pure hp _ _ _ h1
    · cases h
  · refine ha.run σ H ρ Z E _ A (R.sat_mono (R.sat_bind.mp h) (fun d ρ1 _ k v H1 E1 p1 t1 s1 => ?_) fun _ _ _ k => k)
    split at k
    · rename_i b q
      cases q1 : tgOf d with
      | none => rw [q1] at q; cases q
      | some t =>
        rw [q1] at q
        obtain ⟨e1, e2⟩ := hk t b q
        refine ⟨by rw [sizeLine_eq]; show 2 ≤ 16777216; omega, fun p hp => ?_⟩
        have s := same_upd (o := .tup [cv, cv2]) hp
        refine ⟨v, p, [cv, cv2], _, [u, u2], b, rfl, upd_same, .cons hc (.cons hc2 .nil), tg_ty (E := E1) q1 (Rep1.same s (fun _ h => .inl h) (p1.rep1 oa)) e2, e1, k _ _ E1 ⟨(p1.env oa).same s, rep_bl _⟩ (t1.trans (Tr.of_same s fun a h => .inl h) fun _ h => h) fun hp => (s1 hp).trans s⟩
    · exact k.elim

/-! ### methods of texts -/
def dMt (f : D → List D → P D) (o : Env → R D) (a : Env → R (List D)) : Env → R D := fun ρ => (o ρ).bind fun x ρ1 => (a ρ1).bind fun ds ρ2 => (f x ds).at ρ2
/-- the receiver is a text -/
def MtS (g : Gx) (W : WX) (md : Md) (r : V → List V → Hp → VK → Prop) (f : D → List D → P D) : Prop :=
  ∀ (σ : L2.St) (H : Hp) (ρ : Env) (Z E : Addr → Prop) (s : Str) (vs : List V) (ds : List D) (Q : VK), EnvAt g Z E ρ σ H → RepL g H E ds vs [] →
    (f (.str s) ds).sat (fun z => ∀ v H' E', Post md g Z E' ρ σ H' z v → Tr Z H E H' E' → Same H H' → Q v H')
      (fun c xs => ∀ cls dd H' E', ExcAt g H' E' c xs cls dd → EnvAt g Z E' ρ σ H' → Tr Z H E H' E' → W cls dd σ H') → r (.str s) vs H Q
def isStr : D → Bool
  | .str _ => true
  | _ => false
theorem isStr_eq {d : D} (h : isStr d = true) : ∃ s, d = .str s := by
  cases d <;> first | exact ⟨_, rfl⟩ | cases h
def dMtS (f : D → List D → P D) (o : Env → R D) (a : Env → R (List D)) : Env → R D := fun ρ => (o ρ).bind fun x ρ1 => if isStr x = true then (a ρ1).bind fun ds ρ2 => (f x ds).at ρ2 else .stk
theorem snd_mtS {to : TE} {ta : TA} {po pa : Bool} {n : Nat} {dob : Env → R D} {da : Env → R (List D)} {r : V → List V → Hp → VK → Prop} {f : D → List D → P D} (hm : MtS g W mo r f) (ho : SndE g W po .S to dob) (ha : SndA g W pa n ta da) :
    SndE g W (po && pa) mo (tBM g.K "str" r to ta) (dMtS f dob da) := by
  refine ⟨fun hp ρ d ρ' h => ?_, fun σ H ρ Z E Q A h => ?_⟩
  · obtain ⟨x, ρ1, h1, h⟩ := R.bind_ok h
    split at h
    · obtain ⟨ds, ρ2, h2, h⟩ := R.bind_ok h
      rw [(P.at_ok h).2, ha.pure (and_r hp) _ _ _ h2, ho.pure (and_l hp) _ _ _ h1]
    · cases h
  · refine ho.run σ H ρ Z E _ A (R.sat_mono (R.sat_bind.mp h) (fun x ρ1 _ k v H1 E1 p1 t1 s1 => ?_) fun _ _ _ k => k)
    split at k
    · rename_i hs
      obtain ⟨s, rfl⟩ := isStr_eq hs
      have ev : v = .str s := rep1_str p1.2.rep1
      subst ev
      refine ⟨rfl, ha.run σ H1 ρ1 Z E1 _ p1.1 (R.sat_mono (R.sat_bind.mp k) (fun ds ρ2 _ k2 vs H2 E2 A2 r2 t2 s2 => ?_) fun c xs ρ2 k2 cls dd H2 E2 x A2 t2 => k2 cls dd H2 E2 x A2 (t1.trans t2 fun _ h => h))⟩
      have k2 := P.sat_at.mp k2
      have t12 := t1.trans t2 fun _ h => h
      refine hm σ H2 ρ2 Z E2 s vs ds Q A2 r2 ?_
      revert k2
      cases f (.str s) ds with
      | ok z => exact fun k2 v3 H3 E3 p3 t3 s3 => k2 v3 H3 E3 p3 (t12.trans t3 fun _ h => h) fun hp => ((s1 (and_l hp)).trans (s2 (and_r hp))).trans s3
      | exc c xs => exact fun k2 cls dd H3 E3 x A3 t3 => k2 cls dd H3 E3 x A3 (t12.trans t3 fun _ h => h)
      | stk => exact fun k2 => k2
    · exact k.elim
theorem repL_strs {H : Hp} {E : Addr → Prop} : ∀ ys : List Str, RepL g H E (ys.map .str) (ys.map V.str) []
  | [] => RepL.nil
  | y :: ys => RepL.cons0 (rep_str y) (repL_strs ys)
theorem repL_str1 {vs : List V} {j : Str} (r : RepL g H E [.str j] vs []) : vs = [.str j] := by
  obtain ⟨v, rfl, rv⟩ := r.one_inv
  unfold Rep at rv
  rw [rv.1]
def fSplit (x : D) (ds : List D) : P D := match x, ds with
  | .str a, [.str b] => if b.length ≠ 0 ∧ a.length ≤ 900000 then .ok (.lst true ((Txt.split a b).map .str)) else .stk
  | _, _ => .stk
theorem mts_split : MtS g W .T (fun x xs H Q => ∃ a b, x = .str a ∧ xs = [.str b] ∧ (b.length == 0) = false ∧ a.length + 2 ≤ sizeLine ∧ rNewStrs (Txt.split a b) H Q) fSplit := by
  intro σ H ρ Z E s vs ds Q A r k
  unfold fSplit at k
  split at k
  · rename_i a b e
    cases e
    split at k
    · rename_i hl
      refine ⟨s, b, rfl, repL_str1 r, by simpa using hl.1, line1M (by omega), fun p hp => ?_⟩
      obtain ⟨a1, b1⟩ := post_lst A (repL_strs (Txt.split s b)) hp
      exact k _ _ _ a1 b1 (same_upd hp)
    · exact k.elim
  · exact k.elim
def textsOf : List D → Option (List Str)
  | [] => some []
  | .str b :: ds => (textsOf ds).map (b :: ·)
  | _ => none
theorem textsOf_val : ∀ {ds : List D} {vs : List V} {bs : List Str}, textsOf ds = some bs → RepL g H E ds vs [] → vs = bs.map V.str
  | [], vs, bs, h, r => by cases h; rw [r.nil_inv.1]; rfl
  | d :: ds, vs, bs, h, r => by
    obtain ⟨v, vr, rfl, r1, r2⟩ := r.uncons
    cases d with
    | str b =>
      unfold textsOf at h
      cases q : textsOf ds with
      | none => rw [q] at h; cases h
      | some bs' =>
        rw [q] at h
        cases h
        rw [textsOf_val q r2, rep1_str r1.rep1]
        rfl
    | _ => cases h
def fJoin (x : D) (ds : List D) : P D := match x, ds with
  | .str a, [.lst _ xs] => (match textsOf xs with
    | some ys => if (ys.map (·.length)).sum + ys.length * a.length ≤ 16000000 then .ok (.str (Txt.join a ys)) else .stk
    | none => .stk)
  | .str a, [.tup xs] => (match textsOf xs with
    | some ys => if (ys.map (·.length)).sum + ys.length * a.length ≤ 16000000 then .ok (.str (Txt.join a ys)) else .stk
    | none => .stk)
  | _, _ => .stk
theorem mts_join : MtS g W .S (fun x xs H Q => ∃ a p, ∃ ys : List Str, x = .str a ∧ xs = [.ref p] ∧ (SqL g.K H p (ys.map V.str) ∨ SqT g.K H p (ys.map V.str)) ∧
    (ys.map (·.length)).sum + ys.length * a.length ≤ 16777216 ∧ Q (.str (Txt.join a ys)) H) fJoin := by
  intro σ H ρ Z E s vs ds Q A r k
  unfold fJoin at k
  split at k
  · rename_i a o xs e
    cases e
    split at k
    · rename_i ys q
      split at k
      · rename_i hl
        obtain ⟨v, rfl, rv⟩ := r.one_inv
        cases o with
        | true => unfold Rep at rv; obtain ⟨a, vs, F1, e1, h1, h2, h3⟩ := rv; cases h2
        | false =>
          unfold Rep at rv
          obtain ⟨a, vs, rfl, h1, ne, _, r1⟩ := rv
          rw [textsOf_val q r1] at h1
          exact ⟨s, a, ys, rfl, rfl, .inl (SqL.of h1), Nat.le_trans hl (by decide), k _ H E ⟨A, rep_str _⟩ Tr.refl (Same.refl H)⟩
      · exact k.elim
    · exact k.elim
  · rename_i a xs e
    cases e
    split at k
    · rename_i ys q
      split at k
      · rename_i hl
        obtain ⟨v, rfl, rv⟩ := r.one_inv
        unfold Rep at rv
        obtain ⟨a, vs, rfl, h1, r1⟩ := rv
        rw [textsOf_val q r1] at h1
        exact ⟨s, a, ys, rfl, rfl, .inr (.inl h1), Nat.le_trans hl (by decide), k _ H E ⟨A, rep_str _⟩ Tr.refl (Same.refl H)⟩
      · exact k.elim
    · exact k.elim
  · exact k.elim
def fStarts (x : D) (ds : List D) : P D := match x, ds with
  | .str a, [.str b] => .ok (.bl (Txt.startswith a b))
  | _, _ => .stk
theorem mts_starts : MtS g W .S (fun x xs H Q => ∃ a b, x = .str a ∧ xs = [.str b] ∧ Q (.bl (Txt.startswith a b)) H) fStarts := by
  intro σ H ρ Z E s vs ds Q A r k
  unfold fStarts at k
  split at k
  · rename_i a b e
    cases e
    exact ⟨s, b, rfl, repL_str1 r, k _ H E ⟨A, rep_bl _⟩ Tr.refl (Same.refl H)⟩
  · exact k.elim
end
end DL
/-! DL20 -/
set_option Elab.async false
set_option linter.all false
set_option maxRecDepth 100000
set_option maxHeartbeats 1000000
namespace DL
open PySem PySem.Spec PyProof.Rows L2

/-! ### a def by its body -/
/-- only the parameters io are told back -/
def maskR (io : List Nat) (n : Nat) (ρ : Env) : Env := (List.range n).map fun k => if k ∈ io then (ρ[k]?).join else none
def fnM (n N : Nat) (io : List Nat) (b : Env → R Fl) (ρ : Env) : R D := if ρ.length = n then (match b (ρ ++ List.replicate (N - n) none) with
  | .ok .nx ρ' => .ok .non (maskR io n ρ')
  | .ok (.rt d) ρ' => .ok d (maskR io n ρ')
  | .exc c xs ρ' => .exc c xs (maskR io n ρ')
  | _ => .stk) else .stk
section
variable {g : Gx} {W : WX} {io : List Nat} {md : Md} {Z E E1 : Addr → Prop} {σ σ1 : L2.St} {H H1 : Hp} {ρ ρ1 : Env} {F : List Addr}
theorem maskR_get {n : Nat} {k : Nat} {s : Slot} (h : (maskR io n ρ)[k]? = some (some s)) : k < n ∧ k ∈ io ∧ ρ[k]? = some (some s) := by
  unfold maskR at h
  have hk : k < n := by
    have := ltOf h
    simpa using this
  rw [List.getElem?_map, List.getElem?_range hk] at h
  have h : (if k ∈ io then (ρ[k]?).join else none) = some s := Option.some.inj h
  by_cases q : k ∈ io
  · rw [if_pos q] at h
    refine ⟨hk, q, ?_⟩
    cases e : ρ[k]? with
    | none => rw [e] at h; cases h
    | some x => rw [e] at h; rw [show x = some s from h]
  · rw [if_neg q] at h; cases h
theorem maskR_len {n : Nat} : (maskR io n ρ).length = n := by simp [maskR]
/-- rows that are left out are let go -/
theorem EnvAt.masked {n : Nat} {vs : List V} (A : EnvAt g Z E ρ σ H) (hn : vs.length = n) (hv : ∀ k ∈ io, k < n → σ[k]? = (vs.map some)[k]?) :
    ∃ E', EnvAt g Z E' (maskR io n ρ) (vs.map some) H ∧ ∀ a, E' a → E a := by
  obtain ⟨Fs, B⟩ := A
  let Fm : Nat → List Addr := fun k => if k < n ∧ k ∈ io then Fs k else []
  have sub : ∀ a, ((∃ k, a ∈ Fm k) ∨ Z a) → E a := fun a h => (B.iff a).mpr (by
    rcases h with ⟨k, h⟩ | h
    · by_cases q : k < n ∧ k ∈ io
      · exact .inl ⟨k, by simpa only [Fm, if_pos q] using h⟩
      · simp only [Fm, if_neg q] at h; cases h
    · exact .inr h)
  refine ⟨fun a => (∃ k, a ∈ Fm k) ∨ Z a, ⟨Fm, fun a => Iff.rfl, fun k s h => ?_, fun k h => ?_, fun k => ?_, fun i j a hi hj => ?_, fun k a h => ?_, fun a h => B.ki a (sub a h), by rw [maskR_len, List.length_map, hn]⟩, sub⟩
  · obtain ⟨h1, h2, h3⟩ := maskR_get h
    obtain ⟨v, a, b⟩ := B.row k s h3
    refine ⟨v, by rw [← hv k h2 h1]; exact a, ?_⟩
    simp only [Fm, if_pos (And.intro h1 h2)]
    exact b.keep (Kp.same (fun _ _ h => h) fun a h => .inl (sub a h))
  · by_cases q : k < n ∧ k ∈ io
    · simp only [Fm, if_pos q]
      refine B.emp k fun s z => h s ?_
      unfold maskR
      rw [List.getElem?_map, List.getElem?_range q.1]
      show some (if k ∈ io then (ρ[k]?).join else none) = _
      rw [if_pos q.2, z]
      rfl
    · simp only [Fm, if_neg q]
  · by_cases q : k < n ∧ k ∈ io
    · simp only [Fm, if_pos q]; exact B.nd k
    · simp only [Fm, if_neg q]; exact List.nodup_nil
  · by_cases q : i < n ∧ i ∈ io
    · by_cases q' : j < n ∧ j ∈ io
      · simp only [Fm, if_pos q] at hi
        simp only [Fm, if_pos q'] at hj
        exact B.dj i j a hi hj
      · simp only [Fm, if_neg q'] at hj; cases hj
    · simp only [Fm, if_neg q] at hi; cases hi
  · by_cases q : k < n ∧ k ∈ io
    · simp only [Fm, if_pos q] at h; exact B.dz k a h
    · simp only [Fm, if_neg q] at h; cases h
theorem EnvAt.grow (A : EnvAt g Z E ρ σ H) (m : Nat) : EnvAt g Z E (ρ ++ List.replicate m none) (σ ++ List.replicate m none) H := by
  obtain ⟨Fs, B⟩ := A
  have key : ∀ {i s}, (ρ ++ List.replicate m none)[i]? = some (some s) → ρ[i]? = some (some s) := fun {i s} h => by
    by_cases hi : i < ρ.length
    · rw [List.getElem?_append_left hi] at h; exact h
    · rw [List.getElem?_append_right (by omega), List.getElem?_replicate] at h
      split at h <;> cases h
  refine ⟨Fs, B.iff, fun i s h => ?_, fun i h => ?_, B.nd, B.dj, B.dz, B.ki, by simp [B.len]⟩
  · have h := key h
    obtain ⟨v, a, b⟩ := B.row i s h
    exact ⟨v, by rw [List.getElem?_append_left (by rw [← B.len]; exact ltOf h)]; exact a, b⟩
  · exact B.emp i fun s z => h s (by rw [List.getElem?_append_left (ltOf z)]; exact z)
/-- from a body's mirror to the def's promise -/
theorem fn_run {n : Nat} {N : List Str} {t0 : TS} {b : Env → R Fl} (hm : SD md) {X : XK} (hs : SndS g (fun cls d _ H => X cls d H) io md t0 b) (hN : n ≤ N.length) {vs : List V} {Q : VK} (h : spM g n md (fnM n N.length io b) vs H Q X) :
    t0 { nx := fun _ H' => Q .non H', rt := Q } (L2.start N vs) H := by
  obtain ⟨hl, ρ, Z, E, A, k⟩ := h
  have hρ : ρ.length = n := by rw [A.len, List.length_map, hl]
  have es : L2.start N vs = vs.map some ++ List.replicate (N.length - n) none := by unfold L2.start; rw [hl]
  have A0 := A.grow (N.length - n)
  rw [← es] at A0
  unfold fnM at k
  rw [if_pos hρ] at k
  have io_ok : ∀ {σ' : L2.St}, An io (L2.start N vs) σ' → ∀ k ∈ io, k < n → σ'[k]? = (vs.map some)[k]? := fun {σ'} an k hk hn => by
    rw [an.2 k hk, es, List.getElem?_append_left (by simp [hl]; exact hn)]
  refine hs.run (L2.start N vs) H _ Z E _ A0 ?_
  revert k
  cases b (ρ ++ List.replicate (N.length - n) none) with
  | stk => exact fun k => k
  | exc c xs ρ' =>
    intro k cls dd σ' H' E' an t x A'
    obtain ⟨E2, A2, s2⟩ := A'.masked hl (io_ok an)
    refine k cls dd H' E2 ?_ A2 ⟨t.k, fun a h => t.e a (s2 a h)⟩
    unfold ExcAt at x ⊢
    refine ⟨x.1, ?_⟩
    have x2 := x.2
    cases xs with
    | nil => exact x2
    | cons y r =>
      obtain ⟨a, ws, e1, e3, e4, e5⟩ := x2
      exact ⟨a, ws, e1, e3, e4, e5.sub s2⟩
  | ok fl ρ' =>
    cases fl with
    | bk => exact fun k => k.elim
    | ct => exact fun k => k.elim
    | nx =>
      intro k σ' H' E' an t A'
      obtain ⟨E2, A2, s2⟩ := A'.masked hl (io_ok an)
      exact k .non H' E2 (Post.ofS hm ⟨A2, rep_non⟩) ⟨t.k, fun a h => t.e a (s2 a h)⟩
    | rt d =>
      intro k σ' H' E' an t v p
      cases hm with
      | s =>
        obtain ⟨E2, A2, s2⟩ := EnvAt.masked p.1 hl (io_ok an)
        exact k v H' E2 ⟨A2, p.2.sub s2⟩ ⟨t.k, fun a h => t.e a (s2 a h)⟩
      | d =>
        obtain ⟨F, p⟩ := p
        obtain ⟨E2, A2, s2⟩ := p.env.masked hl (io_ok an)
        exact k v H' E2 ⟨F, A2, p.rep.sub s2, p.nd, p.dz⟩ ⟨t.k, fun a h => t.e a (s2 a h)⟩
end
section
variable {g : Gx} {P : Program} {w : World} {mg : Str → Option Value} {base : Heap} {x qual : Str} {params : Arguments} {body : List Stmt} {scope : Scope} {f : Addr} {fd : FuncData}
/-- THE RULE for a def: its body, judged in the def's context, whatever is wished of errors -/
theorem fn_ok {N ps : List Str} {k n : Nat} {io : List Nat} {md : Md} {b : Env → R Fl} (F : FunD g.K x qual params body scope [] [] f fd) (S : FnScope N ps scope) (hn : ps.length = n) (hN : n ≤ N.length) (hm : SD md)
    (hb : ∀ (cdv : Value) (A : Around) (outer : List PySem.Env) (s : Shared) (H : Hp) (E : XK), Room k (A.deeper (envOfC qual scope s.heap.objs.size f cdv)) →
      ∃ t, PSs (cxOf (L2.CX P w) P w g.K mg base N qual scope f cdv A outer s H E) body t ∧ SndS g (fun cls d _ H => E cls d H) io md t b) :
    FnOk P w g.K mg base (L2.CX P w) (k + 1) f fd ps (spM g n md (fnM n N.length io b)) :=
  F.ok S (fun vs H Q E h => by rw [hn]; exact h.1) fun cdv A outer s H vs Q E hr hsp => by
    obtain ⟨t, d, s'⟩ := hb cdv A outer s H E hr
    exact ⟨t, d, fn_run hm s' hN hsp⟩
end
end DL
/-! DL21 -/
set_option Elab.async false
set_option linter.all false
set_option maxRecDepth 100000
set_option maxHeartbeats 1000000
namespace DL
open PySem PySem.Spec PyProof.Rows L2

/-! ### a construct with its mirror, in a family of contexts -/
def EvE {ι : Type} (X : ι → Cx) (g : Gx) (W : WX) (pu : Bool) (md : Md) (e : Expr) (m : Env → R D) : Prop := ∃ t, (∀ i, PE (X i) e t) ∧ SndE g W pu md t m
def EvT {ι : Type} (X : ι → Cx) (g : Gx) (W : WX) (pu : Bool) (e : Expr) (m : Env → R Bool) : Prop := ∃ t, (∀ i, PT (X i) e t) ∧ SndT g W pu t m
def EvW {ι : Type} (X : ι → Cx) (g : Gx) (W : WX) (pu : Bool) (e : Expr) (m : Env → R Bool) : Prop := ∃ t, (∀ i, PW (X i) e t) ∧ SndT g W pu t m
def EvA {ι : Type} (X : ι → Cx) (g : Gx) (W : WX) (pu : Bool) (n : Nat) (es : List Expr) (m : Env → R (List D)) : Prop := ∃ t, (∀ i, PA (X i) es t) ∧ SndA g W pu n t m
def EvB {ι : Type} (X : ι → Cx) (g : Gx) (W : WX) (pu : Bool) (n : Nat) (es : List Expr) (m : Env → R (List D)) : Prop := ∃ t, (∀ i, PA (X i) es t) ∧ SndB g W pu n t m
def EvP {ι : Type} (X : ι → Cx) (g : Gx) (W : WX) (n : Nat) (es : List Expr) (m : Env → R (List Pre)) : Prop := ∃ t, (∀ i, PA (X i) es t) ∧ SndP g W n t m
def EvP1 {ι : Type} (X : ι → Cx) (g : Gx) (W : WX) (e : Expr) (m : Env → R Pre) : Prop := ∃ t, (∀ i, PE (X i) e t) ∧ SndP1 g W t m
def EvO {ι : Type} (X : ι → Cx) (g : Gx) (W : WX) (e : Option Expr) (m : Env → R (Option Int)) : Prop := ∃ t, (∀ i, PO (X i) e t) ∧ SndO g W t m
def EvL {ι : Type} (X : ι → Cx) (g : Gx) (W : WX) (k : Nat) (e : Expr) (m : Env → R (List Stp)) : Prop := ∃ t, (∀ i, PE (X i) e t) ∧ SndL g W k t m
def EvG {ι : Type} (X : ι → Cx) (g : Gx) (io : List Nat) (e : Expr) (m : D → Env → Option Env) : Prop := ∃ t, (∀ i, PG (X i) e t) ∧ SndG g io t m
def EvGs {ι : Type} (X : ι → Cx) (g : Gx) (io : List Nat) (n : Nat) (es : List Expr) (m : List D → Env → Option Env) : Prop := ∃ t, (∀ i, PGs (X i) es t) ∧ SndGs g io n t m
def EvI {ι : Type} (X : ι → Cx) (g : Gx) (W : WX) (tg e : Expr) (m : Env → R (List D)) : Prop := ∃ t, (∀ i, PI (X i) tg e t) ∧ SndI g W t m
def EvS {ι : Type} (X : ι → Cx) (g : Gx) (W : WX) (io : List Nat) (md : Md) (st : Stmt) (m : Env → R Fl) : Prop := ∃ t, (∀ i, PS (X i) st t) ∧ SndS g W io md t m
def EvSs {ι : Type} (X : ι → Cx) (g : Gx) (W : WX) (io : List Nat) (md : Md) (st : List Stmt) (m : Env → R Fl) : Prop := ∃ t, (∀ i, PSs (X i) st t) ∧ SndS g W io md t m
/-- a call's operator, by values, in all the contexts -/
def EvOp {ι : Type} (X : ι → Cx) (g : Gx) (W : WX) (md : Md) (fn : Value → Value → Sem Value) (f : D → D → P D) : Prop := ∃ r, (∀ i, OpR (X i) fn r) ∧ OpSnd g W md r f
def EvOp0 {ι : Type} (X : ι → Cx) (g : Gx) (W : WX) (md : Md) (fn : Value → Value → Sem Value) (f : D → D → P D) : Prop := ∃ r, (∀ i, OpR (X i) fn r) ∧ OpSnd0 g W md r f
/-- all contexts stand in one world -/
structure Fam {ι : Type} (X : ι → Cx) (g : Gx) (W : WX) : Prop where
  K : ∀ i, (X i).K = g.K
  un : ∀ i, (X i).A.units + 65 < cLine
  tk : ∀ i, Takes (X i) W
/-- .. with room for calls -/
structure FamC {ι : Type} (X : ι → Cx) (g : Gx) (W : WX) (k : Nat) : Prop extends Fam X g W where
  rm : ∀ i, Room k (X i).A
  calm : ∀ i, (X i).calm = true
/-- a def, with all that a call asks -/
structure FnX (X : Cx) (g : Gx) (k : Nat) (f : Addr) (n : Nat) (md : Md) (m : Env → R D) : Prop where
  ok : ∃ fd ps, FnOk X.prog X.w X.K X.mg X.base (L2.CX X.prog X.w) k f fd ps (spM g n md m) ∧ Binds X.K fd ps []
  kp : PySem.W.keepIn X.K (.ref f) = true
section
variable {ι : Type} {X : ι → Cx} {g : Gx} {W : WX} {k : Nat} {md mo ma mb : Md} {pa pb pc : Bool} {io : List Nat} {tab : List (Str × List Str)} {cs : List Str}
variable {a b c e o : Expr} {es : List Expr} {pos p apos : Pos} {da db dc dob : Env → R D} {das : Env → R (List D)}
theorem e_int {i : Int} {j : Nat} : EvE X g W true .S (.Constant (.int i) j pos) (dC (.int i)) := ⟨_, fun _ => pe_int, snd_int⟩
theorem e_bl {i : Bool} {j : Nat} : EvE X g W true .S (.Constant (.bool i) j pos) (dC (.bl i)) := ⟨_, fun _ => pe_bl, snd_bl⟩
theorem e_str {i : Str} {j : Nat} : EvE X g W true .S (.Constant (.str i) j pos) (dC (.str i)) := ⟨_, fun _ => pe_str, snd_str⟩
theorem e_non {j : Nat} : EvE X g W true .S (.Constant .none j pos) (dC .non) := ⟨_, fun _ => pe_non, snd_non⟩
/-- a module's constant -/
theorem e_con {x : Str} {v : V} {d : D} {u : Value} (hm : ∀ i, (X i).mg x = some u) (r : RelV v u) (h : ∀ H E, Rep g H E d v []) (hg : ∀ i, Gl (X i) x := by intro _; rfl) (hd : (x == ("__debug__" : Str)) = false := by decide) : EvE X g W true .S (.Name x pos) (dC d) :=
  ⟨_, fun i => pe_glob (hg i) (hm i) r hd, snd_c h⟩
theorem pv_of (i : Nat) {x : Str} (hN : ∀ j, (X j).N[i]? = some x) (hv : ∀ j, Vis (X j).env.scope x) (hd : (x == ("__debug__" : Str)) = false) (hcd : (x == ("__classdict__" : Str)) = false) : ∀ j, PE (X j) (.Name x pos) (tVar i) := fun j => pe_var (hN j) (hv j) hd hcd
section
variable (i : Nat) {x : Str} (hN : ∀ j, (X j).N[i]? = some x := by intro _; rfl) (hv : ∀ j, Vis (X j).env.scope x := by intro _; first | exact Or.inl rfl | exact Or.inr (Or.inl rfl) | exact Or.inr (Or.inr rfl))
  (hd : (x == ("__debug__" : Str)) = false := by decide) (hcd : (x == ("__classdict__" : Str)) = false := by decide)
include hN hv hd hcd
theorem e_var : EvE X g W true .S (.Name x pos) (dVar i) := ⟨_, pv_of i hN hv hd hcd, snd_var i⟩
theorem e_peek : EvE X g W true .Q (.Name x pos) (dPeek i) := ⟨_, pv_of i hN hv hd hcd, snd_peek i⟩
theorem e_move : EvE X g W false .D (.Name x pos) (dMove i) := ⟨_, pv_of i hN hv hd hcd, snd_move i⟩
theorem e_frzA : EvE X g W false .S (.Name x pos) (dFrzA i) := ⟨_, pv_of i hN hv hd hcd, snd_frzA i⟩
theorem e_pQ : EvP1 X g W (.Name x pos) (pQ i) := ⟨_, pv_of i hN hv hd hcd, snd_pQ i⟩
theorem e_pIo : EvP1 X g W (.Name x pos) (pIo i) := ⟨_, pv_of i hN hv hd hcd, snd_pIo i⟩
theorem l_var : EvL X g W i (.Name x pos) lVar := ⟨_, pv_of i hN hv hd hcd, snd_lVar i⟩
end
/-! modes -/
theorem EvE.toT (h : EvE X g W pa .S a da) : EvE X g W pa .T a da := let ⟨t, d, s⟩ := h; ⟨t, d, s.toT⟩
theorem EvE.toD (h : EvE X g W pa .T a da) : EvE X g W pa .D a da := let ⟨t, d, s⟩ := h; ⟨t, d, s.toD⟩
theorem EvE.sD (h : EvE X g W pa .S a da) : EvE X g W pa .D a da := h.toT.toD
theorem EvE.fa (h : EvE X g W pa .D a da) : EvE X g W pa .S a (dFA da) := let ⟨t, d, s⟩ := h; ⟨t, d, s.fa⟩
theorem EvE.faT (h : EvE X g W pa .T a da) : EvE X g W pa .S a (dFA da) := h.toD.fa
theorem EvE.toQ (h : EvE X g W pa .S a da) : EvE X g W pa .Q a da := let ⟨t, d, s⟩ := h; ⟨t, d, s.toQ⟩
/-! operators -/
theorem e_op {op : Operator} {f : D → D → P D} (ho : EvOp X g W mo (binaryOp op) f) (ha : EvE X g W pa ma a da) (hb : EvE X g W pb mb b db) (oa : SQ ma := by constructor) (ob : SQ mb := by constructor) (hq : ma = .S ∨ pb = true := by first | exact .inl rfl | exact .inr rfl) :
    EvE X g W (pa && pb) mo (.BinOp a op b pos) (dOp f da db) := let ⟨_, r, s⟩ := ho; let ⟨_, d1, s1⟩ := ha; let ⟨_, d2, s2⟩ := hb; ⟨_, fun i => pe_op (r i) (d1 i) (d2 i), snd_op s s1 s2 oa ob hq⟩
theorem e_op0 {op : Operator} {f : D → D → P D} (ho : EvOp0 X g W mo (binaryOp op) f) (ha : EvE X g W pa .S a da) (hb : EvE X g W pb .S b db) : EvE X g W (pa && pb) mo (.BinOp a op b pos) (dOp f da db) :=
  let ⟨_, r, s⟩ := ho; let ⟨_, d1, s1⟩ := ha; let ⟨_, d2, s2⟩ := hb; ⟨_, fun i => pe_op (r i) (d1 i) (d2 i), snd_op0 s s1 s2⟩
theorem e_cmp {op : CmpOp} {f : D → D → P D} (ho : EvOp X g W .S (compareOp op) f) (ha : EvE X g W pa ma a da) (hb : EvE X g W pb mb b db) (oa : SQ ma := by constructor) (ob : SQ mb := by constructor) (hq : ma = .S ∨ pb = true := by first | exact .inl rfl | exact .inr rfl) (hm : behindInMarks op b = false := by first | exact nobehind _ (by decide) (by decide) | rfl) :
    EvE X g W (pa && pb) .S (.Compare a [op] [b] pos) (dOp f da db) := let ⟨_, r, s⟩ := ho; let ⟨_, d1, s1⟩ := ha; let ⟨_, d2, s2⟩ := hb; ⟨_, fun i => pe_cmpR (r i) (d1 i) (d2 i) hm, snd_op s s1 s2 oa ob hq⟩
theorem t_cmp {op : CmpOp} {f : D → D → P D} (ho : EvOp X g W .S (compareOp op) f) (ha : EvE X g W pa ma a da) (hb : EvE X g W pb mb b db) (oa : SQ ma := by constructor) (ob : SQ mb := by constructor) (hq : ma = .S ∨ pb = true := by first | exact .inl rfl | exact .inr rfl) (hm : behindInMarks op b = false := by first | exact nobehind _ (by decide) (by decide) | rfl) :
    EvT X g W (pa && pb) (.Compare a [op] [b] pos) (dTest (dOp f da db)) := let ⟨_, r, s⟩ := ho; let ⟨_, d1, s1⟩ := ha; let ⟨_, d2, s2⟩ := hb; ⟨_, fun i => pt_cmpR (r i) (d1 i) (d2 i) hm, snd_test (snd_op s s1 s2 oa ob hq) .s⟩
theorem e_cmp0 {op : CmpOp} {f : D → D → P D} (ho : EvOp0 X g W .S (compareOp op) f) (ha : EvE X g W pa .S a da) (hb : EvE X g W pb .S b db) (hm : behindInMarks op b = false := by first | exact nobehind _ (by decide) (by decide) | rfl) :
    EvE X g W (pa && pb) .S (.Compare a [op] [b] pos) (dOp f da db) := let ⟨_, r, s⟩ := ho; let ⟨_, d1, s1⟩ := ha; let ⟨_, d2, s2⟩ := hb; ⟨_, fun i => pe_cmpR (r i) (d1 i) (d2 i) hm, snd_op0 s s1 s2⟩
theorem t_cmp0 {op : CmpOp} {f : D → D → P D} (ho : EvOp0 X g W .S (compareOp op) f) (ha : EvE X g W pa .S a da) (hb : EvE X g W pb .S b db) (hm : behindInMarks op b = false := by first | exact nobehind _ (by decide) (by decide) | rfl) :
    EvT X g W (pa && pb) (.Compare a [op] [b] pos) (dTest (dOp f da db)) := let ⟨_, r, s⟩ := ho; let ⟨_, d1, s1⟩ := ha; let ⟨_, d2, s2⟩ := hb; ⟨_, fun i => pt_cmpR (r i) (d1 i) (d2 i) hm, snd_test (snd_op0 s s1 s2) .s⟩
theorem e_chain {op op' : CmpOp} {f f' : D → D → P D} (ho : EvOp X g W .S (compareOp op) f) (ho' : EvOp X g W .S (compareOp op') f') (ha : EvE X g W pa .S a da) (hb : EvE X g W pb .S b db) (hc : EvE X g W pc .S c dc) (hm : lastMarks [op, op'] [b, c] = false := by with_unfolding_all rfl) :
    EvE X g W (pa && (pb && pc)) .S (.Compare a [op, op'] [b, c] pos) (dChain f f' da db dc) := let ⟨_, r, s⟩ := ho; let ⟨_, r', s'⟩ := ho'; let ⟨_, d1, s1⟩ := ha; let ⟨_, d2, s2⟩ := hb; let ⟨_, d3, s3⟩ := hc; ⟨_, fun i => pe_chain (r i) (r' i) (d1 i) (d2 i) (d3 i) hm, snd_chain s s' s1 s2 s3⟩
theorem t_chain {op op' : CmpOp} {f f' : D → D → P D} (ho : EvOp X g W .S (compareOp op) f) (ho' : EvOp X g W .S (compareOp op') f') (ha : EvE X g W pa .S a da) (hb : EvE X g W pb .S b db) (hc : EvE X g W pc .S c dc) (hm : lastMarks [op, op'] [b, c] = false := by with_unfolding_all rfl) :
    EvT X g W (pa && (pb && pc)) (.Compare a [op, op'] [b, c] pos) (dTest (dChain f f' da db dc)) := let ⟨_, r, s⟩ := ho; let ⟨_, r', s'⟩ := ho'; let ⟨_, d1, s1⟩ := ha; let ⟨_, d2, s2⟩ := hb; let ⟨_, d3, s3⟩ := hc; ⟨_, fun i => pt_chain (r i) (r' i) (d1 i) (d2 i) (d3 i) hm, snd_test (snd_chain s s' s1 s2 s3) .s⟩
/-! tests -/
variable {ta tb : Env → R Bool} {rest : List Expr}
theorem t_val (h : EvE X g W pa ma a da) (oa : SQ ma := by constructor) (he : ∀ i, ∀ whole, isTrue a (X i).env whole = (do let v ← whole; standAt a.pos; holding [v] (truthy v)) := by intro _ _; rfl) : EvT X g W pa a (dTest da) := let ⟨_, d, s⟩ := h; ⟨_, fun i => pt_val (d i) (he i), snd_test s oa⟩
theorem t_not (h : EvT X g W pa a ta) : EvT X g W pa (.UnaryOp .Not a pos) (dNot ta) := let ⟨_, d, s⟩ := h; ⟨_, fun i => pt_not (d i), snd_not s⟩
theorem w_and1 (h : EvT X g W pa a ta) : EvW X g W pa (.BoolOp .And [a] pos) ta := let ⟨_, d, s⟩ := h; ⟨_, fun i => pw_and1 (d i), s⟩
theorem w_or1 (h : EvT X g W pa a ta) : EvW X g W pa (.BoolOp .Or [a] pos) ta := let ⟨_, d, s⟩ := h; ⟨_, fun i => pw_or1 (d i), s⟩
theorem w_and (h : EvT X g W pa a ta) (h2 : EvW X g W pb (.BoolOp .And (b :: rest) pos) tb) : EvW X g W (pa && pb) (.BoolOp .And (a :: b :: rest) pos) (dAnd ta tb) := let ⟨_, d, s⟩ := h; let ⟨_, d2, s2⟩ := h2; ⟨_, fun i => pw_and (d i) (d2 i), snd_and s s2⟩
theorem w_or (h : EvT X g W pa a ta) (h2 : EvW X g W pb (.BoolOp .Or (b :: rest) pos) tb) : EvW X g W (pa && pb) (.BoolOp .Or (a :: b :: rest) pos) (dOr ta tb) := let ⟨_, d, s⟩ := h; let ⟨_, d2, s2⟩ := h2; ⟨_, fun i => pw_or (d i) (d2 i), snd_or s s2⟩
theorem EvW.t (h : EvW X g W pa a ta) : EvT X g W pa a ta := let ⟨_, d, s⟩ := h; ⟨_, fun i => (d i).pt, s⟩
theorem e_one {op : BoolOp} (h : EvE X g W pa ma a da) : EvE X g W pa ma (.BoolOp op [a] pos) da := let ⟨_, d, s⟩ := h; ⟨_, fun i => pe_one (d i), s⟩
theorem e_and (h : EvE X g W pa ma a da) (h2 : EvE X g W pb .S (.BoolOp .And (b :: rest) pos) db) (oa : SQ ma := by constructor) : EvE X g W (pa && pb) .S (.BoolOp .And (a :: b :: rest) pos) (dAndV da db) := let ⟨_, d, s⟩ := h; let ⟨_, d2, s2⟩ := h2; ⟨_, fun i => pe_and (d i) (d2 i), snd_andV s oa s2⟩
theorem e_or (h : EvE X g W pa ma a da) (h2 : EvE X g W pb .S (.BoolOp .Or (b :: rest) pos) db) (oa : SQ ma := by constructor) : EvE X g W (pa && pb) .S (.BoolOp .Or (a :: b :: rest) pos) (dOrV da db) := let ⟨_, d, s⟩ := h; let ⟨_, d2, s2⟩ := h2; ⟨_, fun i => pe_or (d i) (d2 i), snd_orV s oa s2⟩
theorem e_not (h : EvE X g W pa ma a da) (oa : SQ ma := by constructor) : EvE X g W pa .S (.UnaryOp .Not a pos) (dNotV da) := let ⟨_, d, s⟩ := h; ⟨_, fun i => pe_not (d i), snd_notV s oa⟩
theorem e_if (hc : EvT X g W pc c ta) (ha : EvE X g W pa md a da) (hb : EvE X g W pb md b db) : EvE X g W (pc && (pa && pb)) md (.IfExp c a b pos) (dIf ta da db) := let ⟨_, d, s⟩ := hc; let ⟨_, d1, s1⟩ := ha; let ⟨_, d2, s2⟩ := hb; ⟨_, fun i => pe_ifExp (d i) (d1 i) (d2 i), snd_if s s1 s2⟩
theorem e_neg (h : EvE X g W pa ma a da) (oa : SQ ma := by constructor) : EvE X g W pa .S (.UnaryOp .USub a pos) (dUn fNeg da) := let ⟨_, d, s⟩ := h; ⟨_, fun i => pe_un un_neg (d i), snd_un snd_neg s oa⟩
/-! argument lists, displays -/
theorem a_nil : EvA X g W true 0 [] dNil := ⟨_, fun _ => pa_nil, snd_nil⟩
theorem a_cons {n : Nat} {db : Env → R (List D)} (h : EvE X g W pa .S a da) (h2 : EvA X g W pb n es db) (hs : ∀ i, starEach (a :: es) (X i).env = (false, eval a (X i).env) :: starEach es (X i).env := by intro _; rfl) : EvA X g W (pa && pb) (n + 1) (a :: es) (dCons da db) :=
  let ⟨_, d, s⟩ := h; let ⟨_, d2, s2⟩ := h2; ⟨_, fun i => pa_cons (d i) (d2 i) (hs i), snd_cons s s2⟩
theorem EvA.toB {n : Nat} (h : EvA X g W pa n es das) : EvB X g W pa n es das := let ⟨_, d, s⟩ := h; ⟨_, d, s.toB⟩
theorem b_cons {n : Nat} {db : Env → R (List D)} (h : EvE X g W pa .D a da) (h2 : EvB X g W pb n es db) (hs : ∀ i, starEach (a :: es) (X i).env = (false, eval a (X i).env) :: starEach es (X i).env := by intro _; rfl) : EvB X g W (pa && pb) (n + 1) (a :: es) (dCons da db) :=
  let ⟨_, d, s⟩ := h; let ⟨_, d2, s2⟩ := h2; ⟨_, fun i => pa_cons (d i) (d2 i) (hs i), snd_bcons s s2⟩
theorem p_nil : EvP X g W 0 [] pNil := ⟨_, fun _ => pa_nil, snd_pNil⟩
theorem p_cons {n : Nat} {pd : Env → R Pre} {db : Env → R (List Pre)} (h : EvP1 X g W a pd) (h2 : EvP X g W n es db) (hs : ∀ i, starEach (a :: es) (X i).env = (false, eval a (X i).env) :: starEach es (X i).env := by intro _; rfl) : EvP X g W (n + 1) (a :: es) (pCons pd db) :=
  let ⟨_, d, s⟩ := h; let ⟨_, d2, s2⟩ := h2; ⟨_, fun i => pa_cons (d i) (d2 i) (hs i), snd_pCons s s2⟩
theorem p_e (h : EvE X g W pa .S a da) : EvP1 X g W a (pE da) := let ⟨_, d, s⟩ := h; ⟨_, d, snd_pE s⟩
theorem e_tup {n x1 : Nat} (h : EvA X g W pa n es das) (hn : n ≤ 1000 := by decide) : EvE X g W pa .S (.Tuple es x1 pos) (dTup das) := let ⟨_, d, s⟩ := h; ⟨_, fun i => pe_tup (d i), snd_tup s hn⟩
theorem e_lst {n : Nat} (h : EvA X g W pa n es das) (hn : n ≤ 1000 := by decide) : EvE X g W pa .T (.List es pos) (dLst das) := let ⟨_, d, s⟩ := h; ⟨_, fun i => pe_lst (d i), snd_lst s hn⟩
theorem e_btup {n x1 : Nat} (h : EvB X g W pa n es das) (hn : n ≤ 1000 := by decide) : EvE X g W pa .D (.Tuple es x1 pos) (dTup das) := let ⟨_, d, s⟩ := h; ⟨_, fun i => pe_tup (d i), snd_btup s hn⟩
theorem e_blst {n : Nat} (h : EvB X g W pa n es das) (hn : n ≤ 1000 := by decide) : EvE X g W pa .D (.List es pos) (dLst das) := let ⟨_, d, s⟩ := h; ⟨_, fun i => pe_lst (d i), snd_blst s hn⟩
/-! fields, subscripts, slices -/
theorem e_fld (F : Fam X g W) (tb : FldOk g tab) {f : Str} (h : EvE X g W pa ma a da) (oa : SQ ma := by constructor) (hb : ∀ i, attributeBase a f (X i).env (eval a (X i).env) = eval a (X i).env := by intro _; rfl) : EvE X g W pa .S (.Attribute a f pos) (dFld tab f da) :=
  let ⟨_, d, s⟩ := h; ⟨_, fun i => by have z := pe_fld (pos := pos) (d i) (hb i); rw [F.K i] at z; exact z, snd_fld tb s oa⟩
theorem e_ix (F : Fam X g W) (ha : EvE X g W pa ma a da) (hb : EvE X g W pb mb b db) (oa : SQ ma := by constructor) (ob : SQ mb := by constructor) (hq : ma = .S ∨ pb = true := by first | exact .inl rfl | exact .inr rfl) (hs : PlainIx b := by intro _ _; rfl) : EvE X g W (pa && pb) .S (.Subscript a b pos) (dOp fIx da db) :=
  let ⟨_, d1, s1⟩ := ha; let ⟨_, d2, s2⟩ := hb; ⟨_, fun i => by have z := pe_ix (pos := pos) (ix_any (X := X i) (by have := F.un i; omega)) (d1 i) (d2 i) hs; rw [F.K i] at z; exact z, snd_op snd_fIx s1 s2 oa ob hq⟩
theorem o_none : EvO X g W none dNoPart := ⟨_, fun _ => po_none, snd_noPart⟩
theorem o_some (h : EvE X g W true ma a da) (oa : SQ ma := by constructor) : EvO X g W (some a) (tPartD da) := let ⟨_, d, s⟩ := h; ⟨_, fun i => po_some (d i), snd_part s oa⟩
theorem e_sl (F : Fam X g W) {lo hi : Option Expr} {p2 : Pos} {dl dh : Env → R (Option Int)} (ha : EvE X g W pa ma a da) (hl : EvO X g W lo dl) (hh : EvO X g W hi dh) (oa : SQ ma := by constructor) : EvE X g W pa .T (.Subscript a (.Slice lo hi none p2) pos) (dSl da dl dh) :=
  let ⟨_, d1, s1⟩ := ha; let ⟨_, d2, s2⟩ := hl; let ⟨_, d3, s3⟩ := hh; ⟨_, fun i => by have z := pe_slice (pos := pos) (p2 := p2) (sl_any (X := X i)) (d1 i) (d2 i) (d3 i); rw [F.K i] at z; exact z, snd_sl s1 oa s2 s3⟩
/-! places -/
variable {n : Nat} {tp : Env → R (List Stp)}
theorem l_fld (F : Fam X g W) {f : Str} (h : EvL X g W n a tp) (hb : ∀ i, attributeBase a f (X i).env (eval a (X i).env) = eval a (X i).env := by intro _; rfl) : EvL X g W n (.Attribute a f pos) (lFld f tp) :=
  let ⟨_, d, s⟩ := h; ⟨_, fun i => by have z := pe_fld (pos := pos) (d i) (hb i); rw [F.K i] at z; exact z, snd_lFld s⟩
theorem l_ix (F : Fam X g W) (h : EvL X g W n a tp) (hb : EvE X g W true .S b db) (hs : PlainIx b := by intro _ _; rfl) : EvL X g W n (.Subscript a b pos) (lIx tp db) :=
  let ⟨_, d1, s1⟩ := h; let ⟨_, d2, s2⟩ := hb; ⟨_, fun i => by have z := pe_ix (pos := pos) (ix_any (X := X i) (by have := F.un i; omega)) (d1 i) (d2 i) hs; rw [F.K i] at z; exact z, snd_lIx s1 s2⟩
theorem e_read (tb : FldOk g tab) (h : EvL X g W n a tp) : EvE X g W true .S a (dRead tab n tp) := let ⟨_, d, s⟩ := h; ⟨_, d, snd_read tb s⟩
theorem e_peekP (tb : FldOk g tab) (h : EvL X g W n a tp) : EvE X g W true .Q a (dPeekP tab n tp) := let ⟨_, d, s⟩ := h; ⟨_, d, snd_peekP tb s⟩
/-! calls -/
theorem e_call0 (F : FamC X g W k) {x : Str} {f : Addr} {k' : Nat} {m : Env → R D} (fn : ∀ i, FnX (X i) g k' f n md m) (hm : ∀ i, (X i).mg x = some (.ref f)) (ha : EvA X g W pa n (e :: es) das) (hk : k' ≤ k := by first | decide | exact Nat.le_refl _ | omega | (simp only [Nat.add_eq]; omega)) (sd : SD md := by constructor) (hg : ∀ i, Gl (X i) x := by intro _; rfl)
    (hdb : (x == ("__debug__" : Str)) = false := by decide) (he : ∀ i, starEach (e :: es) (X i).env = (false, eval e (X i).env) :: starEach es (X i).env := by intro _; rfl) (hpl : ∀ i, (backTo pos (starEach es (X i).env)).any (·.1) = false := by intro _; rfl) :
    EvE X g W pa md (.Call (.Name x p) (e :: es) [] pos) (dCall0 m das) := let ⟨_, d, s⟩ := ha; ⟨_, fun i => by
      obtain ⟨fd, ps, ok, bd⟩ := (fn i).ok
      exact pe_callSD ok ((F.rm i).mono hk) (hg i) (hm i) (fn i).kp bd .nil (fun σ => passAt (F.tk i) σ) (d i) hdb (he i) (hpl i), snd_call0 sd s⟩
theorem e_call (F : FamC X g W k) {x : Str} {f : Addr} {k' : Nat} {m : Env → R D} {dps : Env → R (List Pre)} (ap : ClsApart g cs) (fn : ∀ i, FnX (X i) g k' f n md m) (hm : ∀ i, (X i).mg x = some (.ref f)) (ha : EvP X g W n (e :: es) dps) (hk : k' ≤ k := by first | decide | exact Nat.le_refl _ | omega | (simp only [Nat.add_eq]; omega)) (sd : SD md := by constructor) (hg : ∀ i, Gl (X i) x := by intro _; rfl)
    (hdb : (x == ("__debug__" : Str)) = false := by decide) (he : ∀ i, starEach (e :: es) (X i).env = (false, eval e (X i).env) :: starEach es (X i).env := by intro _; rfl) (hpl : ∀ i, (backTo pos (starEach es (X i).env)).any (·.1) = false := by intro _; rfl) :
    EvE X g W false md (.Call (.Name x p) (e :: es) [] pos) (dCall cs m dps) := let ⟨_, d, s⟩ := ha; ⟨_, fun i => by
      obtain ⟨fd, ps, ok, bd⟩ := (fn i).ok
      exact pe_callSD ok ((F.rm i).mono hk) (hg i) (hm i) (fn i).kp bd .nil (fun σ => passAt (F.tk i) σ) (d i) hdb (he i) (hpl i), snd_call ap sd s⟩
theorem e_meth0 (F : FamC X g W k) {c mn : Str} {f : Addr} {k' : Nat} {m : Env → R D} {pl : ι → Sem Bool} (fn : ∀ i, FnX (X i) g k' f (n + 1) md m) (cl : Cls g.K (g.cl c)) (me : Meth g.K (g.cl c) mn f) (ho : EvE X g W pb .S o dob) (ha : EvA X g W pa n (e :: es) das) (hk : k' ≤ k := by first | decide | exact Nat.le_refl _ | omega | (simp only [Nat.add_eq]; omega)) (sd : SD md := by constructor)
    (hst : ∀ i, starEach (e :: es) (X i).env = (false, eval e (X i).env) :: starEach es (X i).env := by intro _; rfl) (hpl : ∀ i, (backTo pos (starEach es (X i).env)).any (·.1) = false := by intro _; rfl)
    (ht : ∀ i, eval (.Call (.Attribute o mn apos) (e :: es) [] pos) (X i).env = (do
      let ov ← eval o (X i).env
      standAt apos.atName
      let (f, first) ← holding [ov] (getMethod ov mn (pl i))
      callWith pos f first (backTo pos (starEach (e :: es) (X i).env)) (backToKw pos (keywordEach [] (X i).env))) := by intro _; rfl) :
    EvE X g W (pb && pa) md (.Call (.Attribute o mn apos) (e :: es) [] pos) (dMeth0 c mn m dob das) := let ⟨_, d1, s1⟩ := ho; let ⟨_, d, s⟩ := ha; ⟨_, fun i => by
      obtain ⟨fd, ps, ok, bd⟩ := (fn i).ok
      exact pe_methS (d1 i) (by rw [F.K i]; exact cl) (by rw [F.K i]; exact me) ok ((F.rm i).mono hk) bd (fun σ => passAt (F.tk i) σ) (d i) (hst i) (hpl i) (ht i), snd_meth0 sd s1 s⟩
theorem e_meth00 (F : FamC X g W k) {c mn : Str} {f : Addr} {k' : Nat} {m : Env → R D} {pl : ι → Sem Bool} (fn : ∀ i, FnX (X i) g k' f 1 md m) (cl : Cls g.K (g.cl c)) (me : Meth g.K (g.cl c) mn f) (ho : EvE X g W pb .S o dob) (hk : k' ≤ k := by first | decide | exact Nat.le_refl _ | omega | (simp only [Nat.add_eq]; omega)) (sd : SD md := by constructor)
    (ht : ∀ i, eval (.Call (.Attribute o mn apos) [] [] pos) (X i).env = (do
      let ov ← eval o (X i).env
      standAt apos.atName
      let (f, first) ← holding [ov] (getMethod ov mn (pl i))
      callWith pos f first (backTo pos (starEach [] (X i).env)) (backToKw pos (keywordEach [] (X i).env))) := by intro _; rfl) :
    EvE X g W (pb && true) md (.Call (.Attribute o mn apos) [] [] pos) (dMeth0 c mn m dob dNil) := let ⟨_, d1, s1⟩ := ho; ⟨_, fun i => by
      obtain ⟨fd, ps, ok, bd⟩ := (fn i).ok
      exact pe_methS0 (d1 i) (by rw [F.K i]; exact cl) (by rw [F.K i]; exact me) ok ((F.rm i).mono hk) bd (fun σ => passAt (F.tk i) σ) (ht i), snd_meth0 sd s1 snd_nil⟩
theorem e_meth (F : FamC X g W k) {c mn : Str} {f : Addr} {k' : Nat} {m : Env → R D} {pl : ι → Sem Bool} {po : Env → R Pre} {dps : Env → R (List Pre)} (ap : ClsApart g cs) (fn : ∀ i, FnX (X i) g k' f (n + 1) md m) (cl : Cls g.K (g.cl c)) (me : Meth g.K (g.cl c) mn f) (ho : EvP1 X g W o po) (ha : EvP X g W n (e :: es) dps) (hk : k' ≤ k := by first | decide | exact Nat.le_refl _ | omega | (simp only [Nat.add_eq]; omega)) (sd : SD md := by constructor)
    (hst : ∀ i, starEach (e :: es) (X i).env = (false, eval e (X i).env) :: starEach es (X i).env := by intro _; rfl) (hpl : ∀ i, (backTo pos (starEach es (X i).env)).any (·.1) = false := by intro _; rfl)
    (ht : ∀ i, eval (.Call (.Attribute o mn apos) (e :: es) [] pos) (X i).env = (do
      let ov ← eval o (X i).env
      standAt apos.atName
      let (f, first) ← holding [ov] (getMethod ov mn (pl i))
      callWith pos f first (backTo pos (starEach (e :: es) (X i).env)) (backToKw pos (keywordEach [] (X i).env))) := by intro _; rfl) :
    EvE X g W false md (.Call (.Attribute o mn apos) (e :: es) [] pos) (dMeth cs c mn m po dps) := let ⟨_, d1, s1⟩ := ho; let ⟨_, d, s⟩ := ha; ⟨_, fun i => by
      obtain ⟨fd, ps, ok, bd⟩ := (fn i).ok
      exact pe_methS (d1 i) (by rw [F.K i]; exact cl) (by rw [F.K i]; exact me) ok ((F.rm i).mono hk) bd (fun σ => passAt (F.tk i) σ) (d i) (hst i) (hpl i) (ht i), snd_meth ap sd s1 s⟩
theorem e_methN (F : FamC X g W k) {c mn : Str} {f : Addr} {k' : Nat} {m : Env → R D} {pl : ι → Sem Bool} {po : Env → R Pre} (ap : ClsApart g cs) (fn : ∀ i, FnX (X i) g k' f 1 md m) (cl : Cls g.K (g.cl c)) (me : Meth g.K (g.cl c) mn f) (ho : EvP1 X g W o po) (hk : k' ≤ k := by first | decide | exact Nat.le_refl _ | omega | (simp only [Nat.add_eq]; omega)) (sd : SD md := by constructor)
    (ht : ∀ i, eval (.Call (.Attribute o mn apos) [] [] pos) (X i).env = (do
      let ov ← eval o (X i).env
      standAt apos.atName
      let (f, first) ← holding [ov] (getMethod ov mn (pl i))
      callWith pos f first (backTo pos (starEach [] (X i).env)) (backToKw pos (keywordEach [] (X i).env))) := by intro _; rfl) :
    EvE X g W false md (.Call (.Attribute o mn apos) [] [] pos) (dMeth cs c mn m po pNil) := let ⟨_, d1, s1⟩ := ho; ⟨_, fun i => by
      obtain ⟨fd, ps, ok, bd⟩ := (fn i).ok
      exact pe_methS0 (d1 i) (by rw [F.K i]; exact cl) (by rw [F.K i]; exact me) ok ((F.rm i).mono hk) bd (fun σ => passAt (F.tk i) σ) (ht i), snd_meth ap sd s1 snd_pNil⟩
theorem e_make0 (F : FamC X g W k) {x c : Str} {f : Addr} {k' : Nat} {m : Env → R D} (fn : ∀ i, FnX (X i) g k' f (n + 1) .S m) (M : Mk g.K (g.cl c) f) (hm : ∀ i, (X i).mg x = some (.ref (g.cl c))) (ha : EvA X g W pa n (e :: es) das) (hk : k' + 1 ≤ k := by first | decide | exact Nat.le_refl _ | omega | (simp only [Nat.add_eq]; omega)) (hg : ∀ i, Gl (X i) x := by intro _; rfl)
    (hdb : (x == ("__debug__" : Str)) = false := by decide) (he : ∀ i, starEach (e :: es) (X i).env = (false, eval e (X i).env) :: starEach es (X i).env := by intro _; rfl) (hpl : ∀ i, (backTo pos (starEach es (X i).env)).any (·.1) = false := by intro _; rfl) :
    EvE X g W pa .D (.Call (.Name x p) (e :: es) [] pos) (dMake0 c m das) := let ⟨_, d, s⟩ := ha; ⟨_, fun i => by
      obtain ⟨fd, ps, ok, bd⟩ := (fn i).ok
      exact pe_makeS (by rw [F.K i]; exact M) ok ((F.rm i).mono hk) (hg i) (hm i) bd (fun σ => passAt (F.tk i) σ) (d i) hdb (he i) (hpl i), snd_make0 s⟩
end
end DL
/-! DL22 -/
set_option Elab.async false
set_option linter.all false
set_option maxRecDepth 100000
set_option maxHeartbeats 1000000
namespace DL
open PySem PySem.Spec PyProof.Rows L2

section
variable {ι : Type} {X : ι → Cx} {g : Gx} {W : WX} {k : Nat} {md mo ma mb : Md} {pa pb pc : Bool} {io : List Nat} {tab : List (Str × List Str)} {cs : List Str}
variable {a b c e o tg : Expr} {es : List Expr} {pos p apos : Pos} {da db dc dob : Env → R D} {das : Env → R (List D)} {n : Nat}
/-! ### operators -/
theorem EvOp.or' {md : Md} {fn : Value → Value → Sem Value} {f f' : D → D → P D} (h : EvOp X g W md fn f) (h' : EvOp X g W md fn f') (s : D → D → Bool) : EvOp X g W md fn (fun d e => if s d e = true then f d e else f' d e) :=
  let ⟨_, r, q⟩ := h; let ⟨_, r', q'⟩ := h'; ⟨_, fun i => (r i).or (r' i), q.or' q' s⟩
theorem EvOp0.or' {md : Md} {fn : Value → Value → Sem Value} {f f' : D → D → P D} (h : EvOp0 X g W md fn f) (h' : EvOp0 X g W md fn f') (s : D → D → Bool) : EvOp0 X g W md fn (fun d e => if s d e = true then f d e else f' d e) :=
  let ⟨_, r, q⟩ := h; let ⟨_, r', q'⟩ := h'; ⟨_, fun i => (r i).or (r' i), q.or' q' s⟩
theorem EvOp.to0 {md : Md} {fn : Value → Value → Sem Value} {f : D → D → P D} (h : EvOp X g W md fn f) : EvOp0 X g W md fn f := let ⟨_, r, q⟩ := h; ⟨_, r, q.to0⟩
theorem EvOp.toT {fn : Value → Value → Sem Value} {f : D → D → P D} (h : EvOp X g W .S fn f) : EvOp X g W .T fn f := let ⟨_, r, q⟩ := h; ⟨_, r, q.toT⟩
theorem EvOp0.toT {fn : Value → Value → Sem Value} {f : D → D → P D} (h : EvOp0 X g W .S fn f) : EvOp0 X g W .T fn f := let ⟨_, r, q⟩ := h; ⟨_, r, q.toT⟩
theorem x_addI : EvOp X g W .S (binaryOp .Add) fAddI := ⟨_, fun _ => op_add, snd_addI⟩
theorem x_sub : EvOp X g W .S (binaryOp .Sub) fSub := ⟨_, fun _ => op_sub, snd_sub⟩
theorem x_mulI : EvOp X g W .S (binaryOp .Mult) fMulI := ⟨_, fun _ => op_mulA, snd_mulI⟩
theorem x_div : EvOp X g W .S (binaryOp .FloorDiv) fDiv := ⟨_, fun _ => op_fdivA, snd_div⟩
theorem x_mod : EvOp X g W .S (binaryOp .Mod) fModI := ⟨_, fun _ => op_mod, snd_modI⟩
theorem x_pow : EvOp X g W .S (binaryOp .Pow) fPow := ⟨_, fun _ => op_pow, snd_pow⟩
theorem x_shl : EvOp X g W .S (binaryOp .LShift) fShl := ⟨_, fun _ => op_shl, snd_shl⟩
theorem x_catS : EvOp X g W .S (binaryOp .Add) fCatS := ⟨_, fun _ => op_add_str, snd_catS⟩
theorem x_catL : EvOp X g W .T (binaryOp .Add) fCatL := ⟨_, fun _ => op_cat, snd_catL⟩
theorem x_catT (F : Fam X g W) : EvOp X g W .S (binaryOp .Add) fCatT := ⟨_, fun i => by have z := op_catA (X := X i); rw [F.K i] at z; exact z, snd_catT⟩
theorem x_repL : EvOp X g W .T (binaryOp .Mult) fRepL := ⟨_, fun _ => op_rep, snd_repL⟩
theorem x_repT (F : Fam X g W) : EvOp X g W .S (binaryOp .Mult) fRepT := ⟨_, fun i => by have z := op_repT (X := X i); rw [F.K i] at z; exact z, snd_repT⟩
/-- the first operand's kind tells -/
def isInt : D → Bool
  | .int _ => true
  | _ => false
def isLst : D → Bool
  | .lst _ _ => true
  | _ => false
def sFst (p : D → Bool) : D → D → Bool := fun d _ => p d
/-- + of ints, texts, lists, tuples -/
def fAdd (d e : D) : P D := if isInt d = true then fAddI d e else if isStr d = true then fCatS d e else if isLst d = true then fCatL d e else fCatT d e
theorem x_add (F : Fam X g W) : EvOp X g W .T (binaryOp .Add) fAdd := (x_addI.toT).or' (EvOp.or' x_catS.toT (EvOp.or' x_catL (x_catT F).toT (sFst isLst)) (sFst isStr)) (sFst isInt)
def fMul (d e : D) : P D := if isInt d = true then fMulI d e else if isLst d = true then fRepL d e else fRepT d e
theorem x_mul (F : Fam X g W) : EvOp X g W .T (binaryOp .Mult) fMul := (x_mulI.toT).or' (EvOp.or' x_repL (x_repT F).toT (sFst isLst)) (sFst isInt)
/-- own operators -/
theorem x_own (F : FamC X g W k) {op : Operator} {c : Str} {f : Addr} {k' : Nat} {m : Env → R D} (fn : ∀ i, FnX (X i) g k' f 2 .S m) (hc : PySem.W.selfFirst g.K (g.cl c) = true) (hs : PySem.W.findIn g.K (.ref (g.cl c)) (PySem.dunder op.info.2) = some (some (.ref f))) (hf : PySem.W.isFn g.K (.ref f) = true) (hk : k' ≤ k := by first | decide | exact Nat.le_refl _ | omega | (simp only [Nat.add_eq]; omega)) :
    EvOp0 X g W .S (binaryOp op) (fOwn2 c m) := ⟨_, fun i => by
      obtain ⟨fd, ps, ok, bd⟩ := (fn i).ok
      exact op_own2 (by rw [F.K i]; exact hc) (by rw [F.K i]; exact hs) (by rw [F.K i]; exact hf) ok ((F.rm i).mono hk) bd, snd_own2⟩
theorem x_ownC (F : FamC X g W k) {op : CmpOp} {c : Str} {f : Addr} {k' : Nat} {m : Env → R D} (fn : ∀ i, FnX (X i) g k' f 2 .S m) (hop : ∀ a b, compareOp op a b = richCompare op a b) (hc : PySem.W.notFirst g.K (g.cl c) (.ref (g.cl c)) = true) (hs : PySem.W.findIn g.K (.ref (g.cl c)) (cmpInfo op).2.1 = some (some (.ref f))) (hf : PySem.W.isFn g.K (.ref f) = true) (hk : k' ≤ k := by first | decide | exact Nat.le_refl _ | omega | (simp only [Nat.add_eq]; omega)) :
    EvOp0 X g W .S (compareOp op) (fOwn2 c m) := ⟨_, fun i => by
      obtain ⟨fd, ps, ok, bd⟩ := (fn i).ok
      exact cmp_own2 hop (by rw [F.K i]; exact hc) (by rw [F.K i]; exact hs) (by rw [F.K i]; exact hf) ok ((F.rm i).mono hk) bd, snd_own2⟩
theorem x_lt : EvOp X g W .S (compareOp .Lt) fLt := ⟨_, fun _ => op_lt, snd_lt⟩
theorem x_le : EvOp X g W .S (compareOp .LtE) fLe := ⟨_, fun _ => op_le, snd_le⟩
theorem x_gt : EvOp X g W .S (compareOp .Gt) fGt := ⟨_, fun _ => op_gt, snd_gt⟩
theorem x_ge : EvOp X g W .S (compareOp .GtE) fGe := ⟨_, fun _ => op_ge, snd_ge⟩
theorem x_is : EvOp X g W .S (compareOp .Is) fIsN := ⟨_, fun _ => op_isN, snd_isN⟩
theorem x_isNot : EvOp X g W .S (compareOp .IsNot) fNotN := ⟨_, fun _ => op_notN, snd_notN⟩
theorem x_eq (F : Fam X g W) : EvOp X g W .S (compareOp .Eq) fEqA := ⟨_, fun i => by have z := op_eqA (X := X i) (by have := F.un i; omega); rw [F.K i] at z; exact z, snd_eqA⟩
theorem x_ne (F : Fam X g W) : EvOp X g W .S (compareOp .NotEq) fNeA := ⟨_, fun i => by have z := op_neA (X := X i) (by have := F.un i; omega); rw [F.K i] at z; exact z, snd_neA⟩
theorem x_in (F : Fam X g W) : EvOp X g W .S (compareOp .In) (fIn false) := ⟨_, fun i => by have z := op_inA (X := X i) (F.un i); rw [F.K i] at z; exact z, snd_inA⟩
theorem x_notIn (F : Fam X g W) : EvOp X g W .S (compareOp .NotIn) (fIn true) := ⟨_, fun i => by have z := op_notInA (X := X i) (F.un i); rw [F.K i] at z; exact z, snd_notInA⟩

/-! ### built-ins -/
/-- a built-in function, or type, of one argument -/
def EvC1 (X : ι → Cx) (g : Gx) (W : WX) (md : Md) (fn : Value) (f : D → P D) : Prop := ∃ r, (∀ i, CallR (X i) fn r) ∧ UnSnd g W md (fun x H Q => r [x] H Q) f
def EvCN (X : ι → Cx) (g : Gx) (W : WX) (md : Md) (fn : Value) (f : List D → P D) : Prop := ∃ r, (∀ i, CallR (X i) fn r) ∧ NSnd g W md r f
theorem c_len (F : Fam X g W) : EvC1 X g W .S (.builtin "len") fLen := ⟨_, fun i => by have z := call_lenA (X := X i); rw [F.K i] at z; exact z, snd_len⟩
theorem c_abs : EvC1 X g W .S (.builtin "abs") fAbs := ⟨_, fun _ => call_abs, snd_abs⟩
theorem c_all (F : FamC X g W k) : EvC1 X g W .S (.builtin "all") fAll := ⟨_, fun i => by have z := cr_all (X := X i) (F.calm i); rw [F.K i] at z; exact z, snd_all⟩
theorem c_any (F : FamC X g W k) : EvC1 X g W .S (.builtin "any") fAny := ⟨_, fun i => by have z := cr_any (X := X i) (F.calm i); rw [F.K i] at z; exact z, snd_any⟩
theorem c_int : EvC1 X g W .S (.type "int") fInt := ⟨_, fun _ => call_intA, snd_int1⟩
theorem c_str : EvC1 X g W .S (.type "str") fStr := ⟨_, fun _ => call_str_int, snd_str1⟩
theorem c_tuple (F : Fam X g W) : EvC1 X g W .S (.type "tuple") fTup := ⟨_, fun i => by have z := call_tuple_of (X := X i); rw [F.K i] at z; exact z, snd_tupOf⟩
theorem c_list (F : Fam X g W) : EvC1 X g W .T (.type "list") fLstOf := ⟨_, fun i => by have z := call_list_of (X := X i); rw [F.K i] at z; exact z, snd_lstOf⟩
theorem c_min (F : FamC X g W k) : EvCN X g W .S (.builtin "min") fMin := ⟨_, fun i => call_min2 (F.calm i), snd_min⟩
theorem c_max (F : FamC X g W k) : EvCN X g W .S (.builtin "max") fMax := ⟨_, fun i => call_max2 (F.calm i), snd_max⟩
section
variable {x : Str} (hm : ∀ i, (X i).mg x = none) (hg : ∀ i, Gl (X i) x := by intro _; rfl) (hn : x ≠ "__name__" := by decide) (hdb : (x == ("__debug__" : Str)) = false := by decide)
  (he : ∀ i, starEach (e :: es) (X i).env = (false, eval e (X i).env) :: starEach es (X i).env := by intro _; rfl) (hpl : ∀ i, (backTo pos (starEach es (X i).env)).any (·.1) = false := by intro _; rfl)
theorem e_b1 {id : String} {f : D → P D} (hc : EvC1 X g W mo (.builtin id) f) (hm : ∀ i, (X i).mg x = none) (hv : bootBuiltins x = some (.builtin id)) (ha : EvE X g W pa ma a da) (oa : SQ ma := by constructor) (hg : ∀ i, Gl (X i) x := by intro _; rfl) (hn : x ≠ "__name__" := by decide) (hdb : (x == ("__debug__" : Str)) = false := by decide)
    (he : ∀ i, starEach (a :: []) (X i).env = (false, eval a (X i).env) :: starEach [] (X i).env := by intro _; rfl) (hpl : ∀ i, (backTo pos (starEach [] (X i).env)).any (·.1) = false := by intro _; rfl) :
    EvE X g W pa mo (.Call (.Name x p) [a] [] pos) (dUn f da) := let ⟨_, r, q⟩ := hc; let ⟨_, d, s⟩ := ha; ⟨_, fun i => pe_callB (r i) (hg i) (hm i) hv (pa_cons (d i) pa_nil (he i)) hn hdb (he i) (hpl i), snd_b1 q s oa⟩
theorem e_ty1 {T : String} {f : D → P D} (hc : EvC1 X g W mo (.type T) f) (hm : ∀ i, (X i).mg x = none) (hv : bootBuiltins x = some (.type T)) (ha : EvE X g W pa ma a da) (oa : SQ ma := by constructor) (hg : ∀ i, Gl (X i) x := by intro _; rfl) (hn : x ≠ "__name__" := by decide) (hdb : (x == ("__debug__" : Str)) = false := by decide)
    (he : ∀ i, starEach (a :: []) (X i).env = (false, eval a (X i).env) :: starEach [] (X i).env := by intro _; rfl) (hpl : ∀ i, (backTo pos (starEach [] (X i).env)).any (·.1) = false := by intro _; rfl) :
    EvE X g W pa mo (.Call (.Name x p) [a] [] pos) (dUn f da) := let ⟨_, r, q⟩ := hc; let ⟨_, d, s⟩ := ha; ⟨_, fun i => pe_callTy (r i) (hg i) (hm i) hv (pa_cons (d i) pa_nil (he i)) hn hdb (he i) (hpl i), snd_b1 q s oa⟩
theorem e_bn {id : String} {f : List D → P D} (hc : EvCN X g W mo (.builtin id) f) (hm : ∀ i, (X i).mg x = none) (hv : bootBuiltins x = some (.builtin id)) (ha : EvA X g W pa n (e :: es) das) (hg : ∀ i, Gl (X i) x := by intro _; rfl) (hn : x ≠ "__name__" := by decide) (hdb : (x == ("__debug__" : Str)) = false := by decide)
    (he : ∀ i, starEach (e :: es) (X i).env = (false, eval e (X i).env) :: starEach es (X i).env := by intro _; rfl) (hpl : ∀ i, (backTo pos (starEach es (X i).env)).any (·.1) = false := by intro _; rfl) :
    EvE X g W pa mo (.Call (.Name x p) (e :: es) [] pos) (dN f das) := let ⟨_, r, q⟩ := hc; let ⟨_, d, s⟩ := ha; ⟨_, fun i => pe_callB (r i) (hg i) (hm i) hv (d i) hn hdb (he i) (hpl i), snd_bn q s⟩
end
/-- isinstance(x, T), T a name -/
theorem e_isi (F : Fam X g W) {cv : V} {u : Value} {f : Tg → Option Bool} (hmi : ∀ i, (X i).mg "isinstance" = none) (hT : ∀ i, PE (X i) b (tC cv)) (hc : ClsV cv u) (hk : ∀ t b, f t = some b → PySem.W.kitOne g.K (tgV g t) u = some b ∧ ∀ c, t = .ins c → InsOk g.K (g.cl c)) (ha : EvE X g W pa ma a da) (oa : SQ ma := by constructor) (hg : ∀ i, Gl (X i) "isinstance" := by intro _; rfl)
    (he : ∀ i, starEach (a :: [b]) (X i).env = (false, eval a (X i).env) :: starEach [b] (X i).env := by intro _; rfl) (hpl : ∀ i, (backTo pos (starEach [b] (X i).env)).any (·.1) = false := by intro _; rfl) (he2 : ∀ i, starEach (b :: []) (X i).env = (false, eval b (X i).env) :: starEach [] (X i).env := by intro _; rfl) :
    EvE X g W pa .S (.Call (.Name "isinstance" p) [a, b] [] pos) (dIsi f da) := let ⟨_, d, s⟩ := ha; ⟨_, fun i => by
      have z := pe_callB (x := "isinstance") (p := p) (pos := pos) (call_isi (X := X i)) (hg i) (hmi i) boot_isinstance (pa_cons (d i) (pa_cons (hT i) pa_nil (he2 i)) (he i)) (by decide) (by decide) (he i) (hpl i)
      rw [F.K i] at z
      exact z, snd_isi hc hk s oa⟩
theorem e_isi2 (F : Fam X g W) {cv cv2 : V} {u u2 : Value} {x1 : Nat} {tpos : Pos} {f : Tg → Option Bool} (hmi : ∀ i, (X i).mg "isinstance" = none) (hT : ∀ i, PE (X i) b (tC cv)) (hT2 : ∀ i, PE (X i) c (tC cv2)) (hc : ClsV cv u) (hc2 : ClsV cv2 u2) (hk : ∀ t b, f t = some b → PySem.W.kitAny g.K (tgV g t) [u, u2] = some b ∧ ∀ c, t = .ins c → InsOk g.K (g.cl c)) (ha : EvE X g W pa ma a da) (oa : SQ ma := by constructor) (hg : ∀ i, Gl (X i) "isinstance" := by intro _; rfl)
    (he : ∀ i, starEach (a :: [.Tuple [b, c] x1 tpos]) (X i).env = (false, eval a (X i).env) :: starEach [.Tuple [b, c] x1 tpos] (X i).env := by intro _; rfl) (hpl : ∀ i, (backTo pos (starEach [.Tuple [b, c] x1 tpos] (X i).env)).any (·.1) = false := by intro _; rfl) (he2 : ∀ i, starEach (.Tuple [b, c] x1 tpos :: []) (X i).env = (false, eval (.Tuple [b, c] x1 tpos) (X i).env) :: starEach [] (X i).env := by intro _; rfl)
    (he3 : ∀ i, starEach (b :: [c]) (X i).env = (false, eval b (X i).env) :: starEach [c] (X i).env := by intro _; rfl) (he4 : ∀ i, starEach (c :: []) (X i).env = (false, eval c (X i).env) :: starEach [] (X i).env := by intro _; rfl) :
    EvE X g W pa .S (.Call (.Name "isinstance" p) [a, .Tuple [b, c] x1 tpos] [] pos) (dIsi f da) := let ⟨_, d, s⟩ := ha; ⟨_, fun i => by
      have z := pe_callB (x := "isinstance") (p := p) (pos := pos) (call_isiT (X := X i)) (hg i) (hmi i) boot_isinstance (pa_cons (d i) (pa_cons (pe_tup (pa_cons (hT i) (pa_cons (hT2 i) pa_nil (he4 i)) (he3 i))) pa_nil (he2 i)) (he i)) (by decide) (by decide) (he i) (hpl i)
      rw [F.K i] at z
      exact z, snd_isi2 hc hc2 hk s oa⟩
/-- methods of texts -/
def EvM (X : ι → Cx) (g : Gx) (W : WX) (md : Md) (id : String) (f : D → List D → P D) : Prop := ∃ r, (∀ i, MtR (X i) id r) ∧ MtS g W md r f
theorem m_split : EvM X g W .T "str.split" fSplit := ⟨_, fun _ => mt_split, mts_split⟩
theorem m_join (F : Fam X g W) : EvM X g W .S "str.join" fJoin := ⟨_, fun i => by have z := mt_join (X := X i); rw [F.K i] at z; exact z, mts_join⟩
theorem m_starts : EvM X g W .S "str.startswith" fStarts := ⟨_, fun _ => mt_startswith, mts_starts⟩
theorem e_mtS (F : Fam X g W) {name : Str} {id : String} {f : D → List D → P D} (hm : EvM X g W mo id f) (slot : PySem.Slot "str" name id) (hty : typeOf (.builtin id) = pure (.type "method_descriptor")) (ho : EvE X g W pb .S o dob) (ha : EvA X g W pa n (e :: es) das)
    (hbase : ∀ i, attributeBase o name (X i).env (eval o (X i).env) = eval o (X i).env := by intro _; rfl)
    (hfew : ∀ i, ((backTo pos (starEach (e :: es) (X i).env)).all (fun x => !x.1) && (backToKw pos (keywordEach [] (X i).env)).all (fun x => x.1.isSome)
      && decide ((e :: es).length + ([] : List Keyword).length + (if ([] : List Keyword).isEmpty then 0 else 1) < 30)) = true := by intro _; rfl)
    (hline : (apos.endLine == pos.line) = true := by rfl) (hs : ∀ i, starEach (e :: es) (X i).env = (false, eval e (X i).env) :: starEach es (X i).env := by intro _; rfl) (hplain : ∀ i, (backTo pos (starEach es (X i).env)).any (·.1) = false := by intro _; rfl) :
    EvE X g W (pb && pa) mo (.Call (.Attribute o name apos) (e :: es) [] pos) (dMtS f dob das) := let ⟨_, r, q⟩ := hm; let ⟨_, d1, s1⟩ := ho; let ⟨_, d, s⟩ := ha; ⟨_, fun i => by
      have z := pe_bm (apos := apos) (cpos := pos) PySem.F.plainAttrs_str slot hty (r i) (d1 i) (d i) (hbase i) (hfew i) hline (hs i) (hplain i)
      rw [F.K i] at z
      exact z, snd_mtS q s1 s⟩
/-! changing methods of lists -/
variable {tp : Env → R (List Stp)}
def EvMu (X : ι → Cx) (g : Gx) (id : String) (f : D → List D → Option (D × D)) : Prop := ∃ r, (∀ i, MtR (X i) id r) ∧ MutOp g r f
theorem mu_append : EvMu X g "list.append" fAppend := ⟨_, fun _ => mt_append, mop_append⟩
theorem mu_pop : EvMu X g "list.pop" fPop := ⟨_, fun _ => mt_pop, mop_pop⟩
theorem e_mut (F : Fam X g W) (tb : FldOk g tab) {k : Nat} {name : Str} {id : String} {f : D → List D → Option (D × D)} (hm : EvMu X g id f) (slot : PySem.Slot "list" name id) (hty : typeOf (.builtin id) = pure (.type "method_descriptor")) (ho : EvL X g W k o tp) (ha : EvB X g W pa n (e :: es) das)
    (hbase : ∀ i, attributeBase o name (X i).env (eval o (X i).env) = eval o (X i).env := by intro _; rfl)
    (hfew : ∀ i, ((backTo pos (starEach (e :: es) (X i).env)).all (fun x => !x.1) && (backToKw pos (keywordEach [] (X i).env)).all (fun x => x.1.isSome)
      && decide ((e :: es).length + ([] : List Keyword).length + (if ([] : List Keyword).isEmpty then 0 else 1) < 30)) = true := by intro _; rfl)
    (hline : (apos.endLine == pos.line) = true := by rfl) (hs : ∀ i, starEach (e :: es) (X i).env = (false, eval e (X i).env) :: starEach es (X i).env := by intro _; rfl) (hplain : ∀ i, (backTo pos (starEach es (X i).env)).any (·.1) = false := by intro _; rfl) :
    EvE X g W false .D (.Call (.Attribute o name apos) (e :: es) [] pos) (dMut tab pa k tp f das) := let ⟨_, r, q⟩ := hm; let ⟨_, d1, s1⟩ := ho; let ⟨_, d, s⟩ := ha; ⟨_, fun i => by
      have z := pe_bm (apos := apos) (cpos := pos) PySem.F.plainAttrs_list slot hty (r i) (d1 i) (d i) (hbase i) (hfew i) hline (hs i) (hplain i)
      rw [F.K i] at z
      exact z, snd_mut tb q s1 s⟩
theorem e_mut0 (F : Fam X g W) (tb : FldOk g tab) {k : Nat} {name : Str} {id : String} {f : D → List D → Option (D × D)} (hm : EvMu X g id f) (slot : PySem.Slot "list" name id) (hty : typeOf (.builtin id) = pure (.type "method_descriptor")) (ho : EvL X g W k o tp)
    (hbase : ∀ i, attributeBase o name (X i).env (eval o (X i).env) = eval o (X i).env := by intro _; rfl) (hline : (apos.endLine == pos.line) = true := by rfl) :
    EvE X g W false .D (.Call (.Attribute o name apos) [] [] pos) (dMut tab true k tp f dNil) := let ⟨_, r, q⟩ := hm; let ⟨_, d1, s1⟩ := ho; ⟨_, fun i => by
      have z := pe_bm0 (apos := apos) (cpos := pos) PySem.F.plainAttrs_list slot hty (r i) (d1 i) (hbase i) hline
      rw [F.K i] at z
      exact z, snd_mut tb q s1 snd_nil.toB⟩

/-! ### targets -/
theorem g_nameS (i : Nat) {x : Str} (hN : ∀ j, (X j).N.Nodup) (h1 : i ∉ io := by decide) (hi : ∀ j, (X j).N[i]? = some x := by intro _; rfl) (hx : ∀ j, Loc (X j).env.scope x := by intro _; first | exact Or.inl rfl | exact Or.inr rfl) (hf : ∀ j, (X j).fn x = true ∨ (X j).env.scope.names.lookup x = some .local := by intro _; first | exact Or.inl rfl | exact Or.inr rfl) : EvG X g io (.Name x pos) (gS i) :=
  ⟨_, fun j => pg_name (hN j) (hi j) (hx j) (hf j), snd_gS h1⟩
theorem g_nameD (i : Nat) {x : Str} (hN : ∀ j, (X j).N.Nodup) (h1 : i ∉ io := by decide) (hi : ∀ j, (X j).N[i]? = some x := by intro _; rfl) (hx : ∀ j, Loc (X j).env.scope x := by intro _; first | exact Or.inl rfl | exact Or.inr rfl) (hf : ∀ j, (X j).fn x = true ∨ (X j).env.scope.names.lookup x = some .local := by intro _; first | exact Or.inl rfl | exact Or.inr rfl) : EvG X g io (.Name x pos) (gD i) :=
  ⟨_, fun j => pg_name (hN j) (hi j) (hx j) (hf j), snd_gD h1⟩
theorem g_nameF (i : Nat) {x : Str} (hN : ∀ j, (X j).N.Nodup) (h1 : i ∉ io := by decide) (hi : ∀ j, (X j).N[i]? = some x := by intro _; rfl) (hx : ∀ j, Loc (X j).env.scope x := by intro _; first | exact Or.inl rfl | exact Or.inr rfl) (hf : ∀ j, (X j).fn x = true ∨ (X j).env.scope.names.lookup x = some .local := by intro _; first | exact Or.inl rfl | exact Or.inr rfl) : EvG X g io (.Name x pos) (gF i) :=
  ⟨_, fun j => pg_name (hN j) (hi j) (hx j) (hf j), snd_gF h1⟩
variable {gt : D → Env → Option Env} {gts : List D → Env → Option Env}
theorem gs_nil : EvGs X g io 0 [] gsNil := ⟨_, fun _ => pgs_nil, snd_gsNil⟩
theorem gs_cons (h : EvG X g io a gt) (h2 : EvGs X g io n es gts) (hs : ∀ i, (assignEach (a :: es) (X i).env).map (·.2) = assign a (X i).env :: (assignEach es (X i).env).map (·.2) := by intro _; rfl) : EvGs X g io (n + 1) (a :: es) (gsCons gt gts) :=
  let ⟨_, d, s⟩ := h; let ⟨_, d2, s2⟩ := h2; ⟨_, fun i => pgs_cons (d i) (d2 i) (hs i), snd_gsCons s s2⟩
theorem g_tup (F : Fam X g W) (hc : ∀ i, (X i).calm = true) {x1 : Nat} (h : EvGs X g io n es gts) (hn : ∀ i, (assignEach es (X i).env).length = n := by intro _; rfl) (hst : ∀ i, (assignEach es (X i).env).findIdx? (·.1) = none := by intro _; rfl) : EvG X g io (.Tuple es x1 pos) (gTupM gts) :=
  let ⟨_, d, s⟩ := h; ⟨_, fun i => by have z := pg_tupA (pos := pos) (k := x1) (hc i) (d i) (hn i) (hst i); rw [F.K i] at z; exact z, snd_gTup s⟩
theorem g_fld (F : Fam X g W) (tb : FldOk g tab) {k : Nat} {f : Str} (h : EvL X g W k o tp) : EvG X g io (.Attribute o f pos) (gFldM tab k tp f) :=
  let ⟨_, d, s⟩ := h; ⟨_, fun i => by have z := pg_fld (pos := pos) (f := f) (d i); rw [F.K i] at z; exact z, snd_gFld tb s⟩
theorem g_ix (F : Fam X g W) (tb : FldOk g tab) {k : Nat} (h : EvL X g W k o tp) (hi : EvE X g W true .S a da) (ha : ∀ i v, assign (.Subscript o a pos) (X i).env v = (do
      let ov ← holding [v] (eval o (X i).env)
      let iv ← holding [v, ov] (eval a (X i).env)
      standAt pos
      holding [v, ov, iv] (setItem ov iv v)
      release [v, ov, iv] []) := by intro _ _; rfl) : EvG X g io (.Subscript o a pos) (gIxM tab k tp da) :=
  let ⟨_, d, s⟩ := h; let ⟨_, d2, s2⟩ := hi; ⟨_, fun i => pg_sub (d i) (d2 i) (set_any (X := X i) (by have := F.un i; omega)) (ha i), snd_gIx tb s s2⟩

/-! ### what is walked -/
theorem i_it (F : Fam X g W) (h : EvE X g W pa .S a da) : EvI X g W tg a (sIt da) := let ⟨_, d, s⟩ := h; ⟨_, fun i => by have z := pi_any (X := X i) (tg := tg) (d i); rw [F.K i] at z; exact z, snd_it s⟩
theorem i_rng1 (hm : ∀ i, (X i).mg "range" = none) (ha : EvA X g W pa n [a] das) (hg : ∀ i, Gl (X i) "range" := by intro _; rfl) (hs : ∀ i, starEach [a] (X i).env = [(false, eval a (X i).env)] := by intro _; rfl) : EvI X g W tg (.Call (.Name "range" p) [a] [] pos) (sRng1 das) :=
  let ⟨_, d, s⟩ := ha; ⟨_, fun i => pi_range1 (hg i) (hm i) (d i) (hs i), snd_rng1 s⟩
theorem i_rng2 (hm : ∀ i, (X i).mg "range" = none) (ha : EvA X g W pa n [a, b] das) (hg : ∀ i, Gl (X i) "range" := by intro _; rfl) (hs : ∀ i, starEach [a, b] (X i).env = [(false, eval a (X i).env), (false, eval b (X i).env)] := by intro _; rfl) (hs2 : ∀ i, starEach [b] (X i).env = [(false, eval b (X i).env)] := by intro _; rfl) : EvI X g W tg (.Call (.Name "range" p) [a, b] [] pos) (sRng2 das) :=
  let ⟨_, d, s⟩ := ha; ⟨_, fun i => pi_range2 (hg i) (hm i) (d i) (hs i) (hs2 i), snd_rng2 s⟩
theorem i_enum (F : Fam X g W) {elts : List Expr} {x1 : Nat} {tpos : Pos} (hm : ∀ i, (X i).mg "enumerate" = none) (ha : EvA X g W pa n [a] das) (hg : ∀ i, Gl (X i) "enumerate" := by intro _; rfl) (hs : ∀ i, starEach [a] (X i).env = [(false, eval a (X i).env)] := by intro _; rfl) : EvI X g W (.Tuple elts x1 tpos) (.Call (.Name "enumerate" p) [a] [] pos) (sEnum das) :=
  let ⟨_, d, s⟩ := ha; ⟨_, fun i => by have z := pi_enum (p := p) (pos := pos) (elts := elts) (kk := x1) (tpos := tpos) (hg i) (hm i) (d i) (hs i); rw [F.K i] at z; exact z, snd_enum s⟩
theorem i_zip (F : Fam X g W) {elts : List Expr} {x1 : Nat} {tpos : Pos} (hm : ∀ i, (X i).mg "zip" = none) (ha : EvA X g W pa n [a, b] das) (hg : ∀ i, Gl (X i) "zip" := by intro _; rfl) (hs : ∀ i, starEach [a, b] (X i).env = (false, eval a (X i).env) :: starEach [b] (X i).env := by intro _; rfl) (hpl : ∀ i, (backTo pos (starEach [b] (X i).env)).any (·.1) = false := by intro _; rfl) : EvI X g W (.Tuple elts x1 tpos) (.Call (.Name "zip" p) [a, b] [] pos) (sZip das) :=
  let ⟨_, d, s⟩ := ha; ⟨_, fun i => by have z := RZ.pi_zipA (p := p) (pos := pos) (elts := elts) (kk := x1) (tpos := tpos) (hg i) (hm i) (d i) (hs i) (hpl i); rw [F.K i] at z; exact z, snd_zip s⟩

/-! ### statements -/
variable {st : Stmt} {sts sts2 : List Stmt} {t u : Env → R Fl}
theorem ss_nil : EvSs X g W io md [] sNext := ⟨_, fun _ => pss_nil, snd_next⟩
theorem ss_cons (h : EvS X g W io md st t) (h2 : EvSs X g W io md sts u) : EvSs X g W io md (st :: sts) (sSeq t u) := let ⟨_, d, s⟩ := h; let ⟨_, d2, s2⟩ := h2; ⟨_, fun i => pss_cons (d i) (d2 i), snd_seq s s2⟩
theorem ss_one (h : EvS X g W io md st t) : EvSs X g W io md [st] t := let ⟨_, d, s⟩ := h; ⟨_, fun i => pss_one (d i), s⟩
theorem s_pass : EvS X g W io md (.Pass pos) sNext := ⟨_, fun _ => ps_pass, snd_next⟩
theorem s_break : EvS X g W io md (.Break pos) sBreak := ⟨_, fun _ => ps_break, snd_break⟩
theorem s_cont : EvS X g W io md (.Continue pos) sCont := ⟨_, fun _ => ps_continue, snd_cont⟩
theorem s_asg (h : EvE X g W pa .D a da) (hg : EvG X g io tg gt) (hs : ∀ i, swapsWithSole [tg] a pos.line (X i).env = pure false := by intro _; rfl) (hw : ∀ i, swappedStores [tg] a (X i).env = pure none := by intro _; rfl)
    (h1 : ∀ i, (assignEach [tg] (X i).env).map (·.2) = [assign tg (X i).env] := by intro _; rfl) : EvS X g W io md (.Assign [tg] a pos) (sAsg da gt) := let ⟨_, d, s⟩ := h; let ⟨_, d2, s2⟩ := hg; ⟨_, fun i => ps_asg (d i) (d2 i) (hs i) (hw i) (h1 i), snd_asg s s2⟩
theorem s_par (hc : ∀ i, (X i).calm = true) (hN : ∀ j, (X j).N.Nodup) (i j : Nat) {x y : Str} {px py pt : Pos} {kt k2 : Nat} {pt2 : Pos} (ha : EvA X g W pa n [a, b] das) (hij : i ≠ j := by decide) (h1 : i ∉ io := by decide) (h2 : j ∉ io := by decide) (hi : ∀ q, (X q).N[i]? = some x := by intro _; rfl) (hj : ∀ q, (X q).N[j]? = some y := by intro _; rfl)
    (hx : ∀ q, (X q).env.scope.names.lookup x = some .local := by intro _; rfl) (hy : ∀ q, (X q).env.scope.names.lookup y = some .local := by intro _; rfl)
    (hw : ∀ q, swappedStores [.Tuple [.Name x px, .Name y py] kt pt] (.Tuple [a, b] k2 pt2) (X q).env = pure (some [x, y]) := by intro _; rfl)
    (hs : ∀ q, swapsWithSole [.Tuple [.Name x px, .Name y py] kt pt] (.Tuple [a, b] k2 pt2) pos.line (X q).env = pure false := by intro _; rfl) :
    EvS X g W io md (.Assign [.Tuple [.Name x px, .Name y py] kt pt] (.Tuple [a, b] k2 pt2) pos) (sPar i j das) := let ⟨_, d, s⟩ := ha; ⟨_, fun q => ps_par (hc q) (hN q) (hi q) (hj q) hij (hx q) (hy q) (d q) (hw q) (hs q), snd_par s h1 h2⟩
theorem s_expr (h : EvE X g W pa .D a da) (hs : ∀ i, swapsWith a none pos.line (X i).env = pure false := by intro _; rfl) : EvS X g W io md (.Expr a pos) (sExpr da) := let ⟨_, d, s⟩ := h; ⟨_, fun i => ps_expr (d i) (hs i), snd_expr s⟩
theorem s_ret (h : EvE X g W pa md a da) : EvS X g W io md (.Return (some a) pos) (sRet da) := let ⟨_, d, s⟩ := h; ⟨_, fun i => ps_ret (d i), snd_ret s⟩
theorem s_retN (hm : SD md := by constructor) : EvS X g W io md (.Return none pos) sRetN := ⟨_, fun _ => ps_retN, snd_retN hm⟩
theorem s_if {tc : Env → R Bool} (hc : EvT X g W pc c tc) (h : EvSs X g W io md sts t) (h2 : EvSs X g W io md sts2 u) : EvS X g W io md (.If c sts sts2 pos) (sIf tc t u) := let ⟨_, d, s⟩ := hc; let ⟨_, d1, s1⟩ := h; let ⟨_, d2, s2⟩ := h2; ⟨_, fun i => ps_if (d i) (d1 i) (d2 i), snd_ifS s s1 s2⟩
theorem s_while {tc : Env → R Bool} (hp : ∀ i, PassesOwn (model (X i).prog (X i).w) (X i).A (X i).env (X i).xe) (hc : EvT X g W pc c tc) (h : EvSs X g W io md sts t) : EvS X g W io md (.While c sts [] pos) (sWhile tc t) := let ⟨_, d, s⟩ := hc; let ⟨_, d1, s1⟩ := h; ⟨_, fun i => ps_while (hp i) (d i) (d1 i), snd_while s s1⟩
theorem s_for {ms : Env → R (List D)} (hp : ∀ i, PassesOwn (model (X i).prog (X i).w) (X i).A (X i).env (X i).xe) (hcalm : ∀ i, (X i).calm = true) (hi : EvI X g W tg a ms) (hg : EvG X g io tg gt) (h : EvSs X g W io md sts t) (hs : ∀ i x, foldedSetIterable a (X i).env x = pure x := by intro _ _; rfl) : EvS X g W io md (.For tg a sts [] pos) (sFor ms gt t) :=
  let ⟨_, d, s⟩ := hi; let ⟨_, d2, s2⟩ := hg; let ⟨_, d1, s1⟩ := h; ⟨_, fun i => ps_for (hp i) (hcalm i) (d i) (d2 i) (d1 i) (hs i), snd_for s s2 s1⟩
end
end DL
/-! DL23 -/
set_option Elab.async false
set_option linter.all false
set_option maxRecDepth 100000
set_option maxHeartbeats 1000000
namespace DL
open PySem PySem.Spec PyProof.Rows L2

/-! ### comprehensions -/
/-- the contexts of a comprehension's block -/
abbrev blkF {ι : Type} (X : ι → Cx) (scope : Scope) : (ι × Shared × Hp × Addr × List (Str × Addr) × List Addr) → Cx := fun q => (X q.1).blk q.2.1 q.2.2.1 scope (compEnvC scope q.2.2.2.2.1 q.2.2.2.1 (X q.1).env) q.2.2.2.2.2
section
variable {ι : Type} {X : ι → Cx} {g : Gx} {W : WX} {k : Nat} {md mo ma mb : Md} {pa pb pc pt pe : Bool} {io : List Nat} {tab : List (Str × List Str)} {cs : List Str}
variable {tg iter elt c : Expr} {pos p apos : Pos} {ms : Env → R (List D)} {gt : D → Env → Option Env} {tt : Env → R Bool} {de : Env → R D} {scope : Scope}
theorem FamC.blk (F : FamC X g W k) : FamC (blkF X scope) g WF k := ⟨⟨fun q => F.K q.1, fun q => F.un q.1, fun q => takes0⟩, fun q => F.rm q.1, fun q => F.calm q.1⟩
theorem e_lc (F : FamC X g W k) (hN : ∀ i, (X i).N.Nodup) (own : List (Str × Nat)) (n : Nat) (hi : EvI X g W tg iter ms) (hg : EvG (blkF X scope) g io tg gt) (he : EvE (blkF X scope) g WF pe .D elt de)
    (ok : ∀ i, blkC (X i).N (X i).env.scope scope own = true := by intro _; rfl)
    (hio : (List.range n).all (fun k => decide (k ∈ own.map (·.2)) || decide (k ∈ io)) = true := by decide) (hs : ∀ i x, foldedSetIterable iter (X i).env x = pure x := by intro _ _; rfl) :
    EvE X g W false .D (.ListComp elt [⟨tg, iter, [], 0⟩] scope pos) (dLc ms gt tYesD de n (own.map (·.2))) := by
  obtain ⟨_, d1, s1⟩ := hi
  obtain ⟨_, d2, s2⟩ := hg
  obtain ⟨_, d3, s3⟩ := he
  exact ⟨_, fun i => pe_lc (F.calm i) (hN i) (d1 i) (blkOk_by (ok i)) (fun s H C cl fp => d2 (i, s, H, C, cl, fp)) (fun s H C cl fp => pts_nil) (fun s H C cl fp => d3 (i, s, H, C, cl, fp)) (hs i), snd_lc s1 s2 snd_yes s3 hio⟩
/-- .. with a test -/
theorem e_lcIf (F : FamC X g W k) (hN : ∀ i, (X i).N.Nodup) (own : List (Str × Nat)) (n : Nat) (hi : EvI X g W tg iter ms) (hg : EvG (blkF X scope) g io tg gt) (ht : EvT (blkF X scope) g WF pt c tt) (he : EvE (blkF X scope) g WF pe .D elt de)
    (ok : ∀ i, blkC (X i).N (X i).env.scope scope own = true := by intro _; rfl)
    (hio : (List.range n).all (fun k => decide (k ∈ own.map (·.2)) || decide (k ∈ io)) = true := by decide) (hs : ∀ i x, foldedSetIterable iter (X i).env x = pure x := by intro _ _; rfl) :
    EvE X g W false .D (.ListComp elt [⟨tg, iter, [c], 0⟩] scope pos) (dLc ms gt tt de n (own.map (·.2))) := by
  obtain ⟨_, d1, s1⟩ := hi
  obtain ⟨_, d2, s2⟩ := hg
  obtain ⟨_, d3, s3⟩ := he
  obtain ⟨_, d4, s4⟩ := ht
  exact ⟨_, fun i => pe_lc (F.calm i) (hN i) (d1 i) (blkOk_by (ok i)) (fun s H C cl fp => d2 (i, s, H, C, cl, fp)) (fun s H C cl fp => pts_one (d4 (i, s, H, C, cl, fp))) (fun s H C cl fp => d3 (i, s, H, C, cl, fp)) (hs i), snd_lc s1 s2 s4 s3 hio⟩
/-- name = [..] on one line -/
theorem s_setLc (F : FamC X g W k) (hN : ∀ i, (X i).N.Nodup) (own : List (Str × Nat)) (n : Nat) (i : Nat) {y : Str} {py spos : Pos} (gy : D → Env → Option Env) (hgy : SndG g io (gName i) gy) {io2 : List Nat} (hi : EvI X g W tg iter ms) (hg : EvG (blkF X scope) g io2 tg gt) (he : EvE (blkF X scope) g WF pe .D elt de)
    (hy : ∀ q, (X q).N[i]? = some y := by intro _; rfl) (hyl : ∀ q, (X q).env.scope.names.lookup y = some .local := by intro _; rfl)
    (hsw : ∀ q, swapsWith (.ListComp elt [⟨tg, iter, [], 0⟩] scope pos) (some (.Name y py)) spos.line (X q).env = pure true := by intro _; rfl)
    (ok : ∀ i, blkC (X i).N (X i).env.scope scope own = true := by intro _; rfl)
    (hio : (List.range n).all (fun k => decide (k ∈ own.map (·.2)) || decide (k ∈ io2)) = true := by decide) (hs : ∀ i x, foldedSetIterable iter (X i).env x = pure x := by intro _ _; rfl) :
    EvS X g W io md (.Assign [.Name y py] (.ListComp elt [⟨tg, iter, [], 0⟩] scope pos) spos) (sAsg (dLc ms gt tYesD de n (own.map (·.2))) gy) := by
  obtain ⟨_, d1, s1⟩ := hi
  obtain ⟨_, d2, s2⟩ := hg
  obtain ⟨_, d3, s3⟩ := he
  exact ⟨_, fun q => ps_setLc (F.calm q) (hN q) (hy q) (hyl q) (hsw q) (d1 q) (blkOk_by (ok q)) (fun s H C cl fp => d2 (q, s, H, C, cl, fp)) (fun s H C cl fp => pts_nil) (fun s H C cl fp => d3 (q, s, H, C, cl, fp)) (hs q), snd_asg (snd_lc s1 s2 snd_yes s3 hio) hgy⟩
theorem s_setLcIf (F : FamC X g W k) (hN : ∀ i, (X i).N.Nodup) (own : List (Str × Nat)) (n : Nat) (i : Nat) {y : Str} {py spos : Pos} (gy : D → Env → Option Env) (hgy : SndG g io (gName i) gy) {io2 : List Nat} (hi : EvI X g W tg iter ms) (hg : EvG (blkF X scope) g io2 tg gt) (ht : EvT (blkF X scope) g WF pt c tt) (he : EvE (blkF X scope) g WF pe .D elt de)
    (hy : ∀ q, (X q).N[i]? = some y := by intro _; rfl) (hyl : ∀ q, (X q).env.scope.names.lookup y = some .local := by intro _; rfl)
    (hsw : ∀ q, swapsWith (.ListComp elt [⟨tg, iter, [c], 0⟩] scope pos) (some (.Name y py)) spos.line (X q).env = pure true := by intro _; rfl)
    (ok : ∀ i, blkC (X i).N (X i).env.scope scope own = true := by intro _; rfl)
    (hio : (List.range n).all (fun k => decide (k ∈ own.map (·.2)) || decide (k ∈ io2)) = true := by decide) (hs : ∀ i x, foldedSetIterable iter (X i).env x = pure x := by intro _ _; rfl) :
    EvS X g W io md (.Assign [.Name y py] (.ListComp elt [⟨tg, iter, [c], 0⟩] scope pos) spos) (sAsg (dLc ms gt tt de n (own.map (·.2))) gy) := by
  obtain ⟨_, d1, s1⟩ := hi
  obtain ⟨_, d2, s2⟩ := hg
  obtain ⟨_, d3, s3⟩ := he
  obtain ⟨_, d4, s4⟩ := ht
  exact ⟨_, fun q => ps_setLc (F.calm q) (hN q) (hy q) (hyl q) (hsw q) (d1 q) (blkOk_by (ok q)) (fun s H C cl fp => d2 (q, s, H, C, cl, fp)) (fun s H C cl fp => pts_one (d4 (q, s, H, C, cl, fp))) (fun s H C cl fp => d3 (q, s, H, C, cl, fp)) (hs q), snd_asg (snd_lc s1 s2 s4 s3 hio) hgy⟩
end

/-! ### defs -/
/-- what the world is: the program, the machine's world, the module's names, the base -/
structure Wo where
  P : Program
  w : World
  mg : Str → Option Value
  base : Heap
/-- the context of a def's body -/
abbrev fcx (o : Wo) (g : Gx) (N : List Str) (qual : Str) (scope : Scope) (f : Addr) (cdv : Value) (A : Around) (outer : List PySem.Env) (s : Shared) (H : Hp) (E : XK) : Unit → Cx := fun _ => cxOf (L2.CX o.P o.w) o.P o.w g.K o.mg o.base N qual scope f cdv A outer s H E
abbrev fW (E : XK) : WX := fun cls d _ H => E cls d H
structure FnW (o : Wo) (g : Gx) (k : Nat) (f : Addr) (n : Nat) (md : Md) (m : Env → R D) : Prop where
  ok : ∃ fd ps, FnOk o.P o.w g.K o.mg o.base (L2.CX o.P o.w) k f fd ps (spM g n md m) ∧ Binds g.K fd ps []
  kp : PySem.W.keepIn g.K (.ref f) = true
theorem FnW.x {o : Wo} {g : Gx} {k : Nat} {f : Addr} {n : Nat} {md : Md} {m : Env → R D} (h : FnW o g k f n md m) {X : Cx} (h1 : X.prog = o.P := by rfl) (h2 : X.w = o.w := by rfl) (h3 : X.K = g.K := by rfl) (h4 : X.mg = o.mg := by rfl) (h5 : X.base = o.base := by rfl) : FnX X g k f n md m := by
  obtain ⟨⟨fd, ps, ok, bd⟩, kp⟩ := h
  refine ⟨⟨fd, ps, ?_, ?_⟩, ?_⟩
  · rw [h1, h2, h3, h4, h5]; exact ok
  · rw [h3]; exact bd
  · rw [h3]; exact kp
theorem fam_fn {o : Wo} {g : Gx} {N : List Str} {qual : Str} {scope : Scope} {f : Addr} {cdv : Value} {A : Around} {outer : List PySem.Env} {s : Shared} {H : Hp} {E : XK} {k : Nat} (hr : Room k (A.deeper (envOfC qual scope s.heap.objs.size f cdv))) :
    FamC (fcx o g N qual scope f cdv A outer s H E) g (fW E) k := ⟨⟨fun _ => rfl, fun _ => by have := hr.un; show (A.deeper (envOfC qual scope s.heap.objs.size f cdv)).units + 65 < cLine; omega, fun _ => takes_of rfl rfl rfl rfl⟩, fun _ => hr, fun _ => rfl⟩
theorem passes_fn {o : Wo} {g : Gx} {N : List Str} {qual : Str} {scope : Scope} {f : Addr} {cdv : Value} {A : Around} {outer : List PySem.Env} {s : Shared} {H : Hp} {E : XK} : ∀ i, PassesOwn (model (fcx o g N qual scope f cdv A outer s H E i).prog (fcx o g N qual scope f cdv A outer s H E i).w) (fcx o g N qual scope f cdv A outer s H E i).A (fcx o g N qual scope f cdv A outer s H E i).env (fcx o g N qual scope f cdv A outer s H E i).xe := fun _ => passes_of rfl
theorem fn_ev {o : Wo} {g : Gx} {x qual : Str} {params : Arguments} {body : List Stmt} {scope : Scope} {f : Addr} {fd : FuncData} {N ps : List Str} {k n : Nat} {io : List Nat} {md : Md} {b : Env → R Fl} (F : FunD g.K x qual params body scope [] [] f fd) (S : FnScope N ps scope)
    (bd : ∀ (kV doc pm : Value) (an : Option Addr) (cdv ct : Value) (us : List Value), us.length = ps.length → bindArgs (PySem.W.fnOf x qual params body scope .none kV doc pm an cdv ct) ⟨us, []⟩ = pure (ps.zip us))
    (hb : ∀ (cdv : Value) (A : Around) (outer : List PySem.Env) (s : Shared) (H : Hp) (E : XK), FamC (fcx o g N qual scope f cdv A outer s H E) g (fW E) k → EvSs (fcx o g N qual scope f cdv A outer s H E) g (fW E) io md body b)
    (hn : ps.length = n := by rfl) (hN : n ≤ N.length := by decide) (hm : SD md := by constructor) : FnW o g (k + 1) f n md (fnM n N.length io b) := by
  refine ⟨⟨fd, ps, fn_ok F S hn hN hm fun cdv A outer s H E hr => ?_, F.bindsN bd⟩, F.kp⟩
  obtain ⟨t, d, s'⟩ := hb cdv A outer s H E (fam_fn hr)
  exact ⟨t, d (), s'⟩
end DL
namespace DL
open PySem PySem.Spec PyProof.Rows L2
theorem pe_ty {X : Cx} {x : Str} {T : String} {pos : Pos} (hm : X.mg x = none) (hv : bootBuiltins x = some (.type T)) (hg : Gl X x := by rfl) (hn : x ≠ "__name__" := by decide) (hd : (x == ("__debug__" : Str)) = false := by decide) : PE X (.Name x pos) (tC (.ty T)) :=
  pe_bltn hg hm hv (show L2.RelV (.ty T) (.type T) from rfl) hn hd
theorem pe_own {X : Cx} {x : Str} {C : Addr} {pos : Pos} (hm : X.mg x = some (.ref C)) (hg : Gl X x := by rfl) (hd : (x == ("__debug__" : Str)) = false := by decide) : PE X (.Name x pos) (tC (.ref C)) :=
  pe_glob hg hm (show L2.RelV (.ref C) (.ref C) from rfl) hd
end DL
/-! DL24 -/
set_option Elab.async false
set_option linter.all false
set_option maxRecDepth 100000
set_option maxHeartbeats 1000000
namespace DL
open PySem PySem.Spec PyProof.Rows L2
section
variable {ι : Type} {X : ι → Cx} {g : Gx} {W : WX} {k : Nat} {md mo ma mb : Md} {pa pb pc pt pe : Bool} {io : List Nat} {pos : Pos}
theorem e_conI {x : Str} {j : Int} (hm : ∀ i, ∃ u, (X i).mg x = some u ∧ L2.RelV (.int j) u) (hg : ∀ i, Gl (X i) x := by intro _; rfl) (hd : (x == ("__debug__" : Str)) = false := by decide) : EvE X g W true .S (.Name x pos) (dC (.int j)) :=
  ⟨_, fun i => let ⟨u, a, b⟩ := hm i; pe_glob (hg i) a b hd, snd_int⟩
theorem e_conS {x : Str} {j : Str} (hm : ∀ i, ∃ u, (X i).mg x = some u ∧ L2.RelV (.str j) u) (hg : ∀ i, Gl (X i) x := by intro _; rfl) (hd : (x == ("__debug__" : Str)) = false := by decide) : EvE X g W true .S (.Name x pos) (dC (.str j)) :=
  ⟨_, fun i => let ⟨u, a, b⟩ := hm i; pe_glob (hg i) a b hd, snd_str⟩
/-! a name is let go ahead of a statement -/
def frzRow (i : Nat) (ρ : Env) : Env := match ρ[i]? with
  | some (some (.dp d)) => ρ.set i (some (.sh (frzAll d)))
  | _ => ρ
def sFz (i : Nat) (t : Env → R Fl) : Env → R Fl := fun ρ => t (frzRow i ρ)
theorem EnvAt.frzRow {Z E : Addr → Prop} {ρ : Env} {σ : L2.St} {H : Hp} (A : EnvAt g Z E ρ σ H) (i : Nat) : ∃ E', EnvAt g Z E' (DL.frzRow i ρ) σ H ∧ ∀ a, E' a → E a := by
  unfold DL.frzRow
  split
  · rename_i d e
    obtain ⟨v, F, a, b, nd, n, A'⟩ := A.take e
    obtain ⟨E1, A1, s1, n1⟩ := A'.drop n
    have hi : i < (ρ.set i none).length := by simpa using ltOf e
    obtain ⟨E2, A2, s2⟩ := A1.bindS (b.frz s1 n1) hi
    rw [List.set_set, setSame a] at A2
    exact ⟨E2, A2, fun a h => s1 a (s2 a h)⟩
  · exact ⟨E, A, fun _ h => h⟩
theorem EvS.fz {st : Stmt} {t : Env → R Fl} (i : Nat) (h : EvS X g W io md st t) : EvS X g W io md st (sFz i t) := by
  obtain ⟨t0, d, s⟩ := h
  refine ⟨t0, d, ⟨fun σ H ρ Z E D' A k => ?_⟩⟩
  obtain ⟨E1, A1, s1⟩ := A.frzRow i
  have t1 : Tr Z H E H E1 := ⟨fun _ _ h _ => h, fun a h => .inl (s1 a h)⟩
  exact s.run σ H _ Z E1 D' A1 (R.sat_mono k (fun _ _ _ q => q.base An.refl t1) fun _ _ _ q => q.base An.refl t1)
/-! an argument's mode -/
theorem EvOp0.ofS {fn : Value → Value → Sem Value} {f : D → D → P D} (h : EvOp X g W md fn f) : EvOp0 X g W md fn f := h.to0
end
/-- a def that is never come to -/
theorem fn_stk {o : Wo} {g : Gx} {x qual : Str} {params : Arguments} {body : List Stmt} {scope : Scope} {f : Addr} {fd : FuncData} {N ps : List Str} {n : Nat} {md : Md} (F : FunD g.K x qual params body scope [] [] f fd) (S : FnScope N ps scope)
    (bd : ∀ (kV doc pm : Value) (an : Option Addr) (cdv ct : Value) (us : List Value), us.length = ps.length → bindArgs (PySem.W.fnOf x qual params body scope .none kV doc pm an cdv ct) ⟨us, []⟩ = pure (ps.zip us)) (k : Nat) (hn : ps.length = n := by rfl) : FnW o g (k + 1) f n md (fun _ => .stk) :=
  ⟨⟨fd, ps, F.ok S (fun vs H Q E h => by rw [hn]; exact h.1) fun cdv A outer s H vs Q E hr h => by obtain ⟨_, _, _, _, _, z⟩ := h; exact z.elim, F.bindsN bd⟩, F.kp⟩
theorem FnW.mono {o : Wo} {g : Gx} {j k : Nat} {f : Addr} {n : Nat} {md : Md} {m : Env → R D} (h : FnW o g j f n md m) (hk : j ≤ k) : FnW o g k f n md m := by
  obtain ⟨⟨fd, ps, ok, bd⟩, kp⟩ := h
  exact ⟨⟨fd, ps, ok.mono hk, bd⟩, kp⟩
end DL
/-! DL25 -/
set_option Elab.async false
set_option linter.all false
set_option maxRecDepth 100000
set_option maxHeartbeats 1000000
namespace DL
open PySem PySem.Spec PyProof.Rows L2

/-! ### own errors -/
/-- what an own error's __init__(self, y): self.f = y promises -/
def spInit (K : PySem.W.Frag) (f : Str) : Sp := fun vs H Q _ => ∃ (a C : Addr) (y : V), vs = [.ref a, y] ∧ OexC K C ∧ PySem.W.findIn K (.ref C) f = some none ∧ H a = some (exo a C none) ∧ ∀ dx, H dx = none → dx ≠ a → Q .non (upd (upd H dx (exd dx [(f, y)])) a (exo a C (some dx)))
theorem init_ok {o : Wo} {g : Gx} {x qual f y : Str} {params : Arguments} {body : List Stmt} {scope : Scope} {fa : Addr} {fd : FuncData} {N ps : List Str} {p1 p2 p3 p4 : Pos} (F : FunD g.K x qual params body scope [] [] fa fd) (S : FnScope N ps scope)
    (bd : ∀ (kV doc pm : Value) (an : Option Addr) (cdv ct : Value) (us : List Value), us.length = ps.length → bindArgs (PySem.W.fnOf x qual params body scope .none kV doc pm an cdv ct) ⟨us, []⟩ = pure (ps.zip us))
    (hb : body = [.Assign [.Attribute (.Name "self" p1) f p2] (.Name y p3) p4]) (hN0 : N[0]? = some ("self" : Str) := by rfl) (hN1 : N[1]? = some y := by rfl) (hl : ps.length = 2 := by rfl) (v0 : Vis scope "self" := by exact Or.inl rfl) (v1 : Vis scope y := by exact Or.inl rfl)
    (hd : (y == ("__debug__" : Str)) = false := by decide) (hcd : (y == ("__classdict__" : Str)) = false := by decide) (hs : ∀ env : PySem.Env, swapsWith (.Name y p3) (some (.Attribute (.Name "self" p1) f p2)) p4.line env = pure false := by intro _; rfl) :
    (∃ fd ps, FnOk o.P o.w g.K o.mg o.base (L2.CX o.P o.w) 1 fa fd ps (spInit g.K f) ∧ Binds g.K fd ps []) := by
  refine ⟨fd, ps, F.ok S (fun vs H Q E h => by obtain ⟨a, C, y, e, _⟩ := h; rw [e, hl]; rfl) fun cdv A outer s H vs Q E hr h => ?_, F.bindsN bd⟩
  obtain ⟨a, C, yv, rfl, T, hno, ea, q⟩ := h
  rw [hb]
  refine ⟨_, pss_one (ps_ost (pe_var (i := 0) hN0 v0) (pe_var (i := 1) hN1 v1 hd hcd) (hs _)), ?_⟩
  refine ⟨yv, ?_, .ref a, ?_, a, C, rfl, T, hno, .inl ⟨ea, q⟩⟩
  · rfl
  · rfl
section
variable {ι : Type} {X : ι → Cx} {g : Gx} {W : WX} {k : Nat} {md : Md} {pa : Bool} {io : List Nat} {pos p pos2 : Pos} {e : Expr} {es : List Expr} {das : Env → R (List D)} {n : Nat}
def sRaise1 (c : Str) (a : Env → R (List D)) : Env → R Fl := fun ρ => (a ρ).bind fun ds ρ1 => match ds with
  | [d] => .exc c [d] ρ1
  | _ => .stk
def sRaise0 (c : Str) : Env → R Fl := fun ρ => .exc c [] ρ
theorem snd_raise1 {c f : Str} {ta : TA} (hf : g.ef c = [f]) (T : OexC g.K (g.cl c)) (hno : PySem.W.findIn g.K (.ref (g.cl c)) f = some none) (ha : SndA g W pa n ta das) :
    SndS g W io md (fun _ σ H => tMkO (g.cl c) (spInit g.K f) [] ta σ H fun cls d H' => W cls d σ H') (sRaise1 c das) := by
  refine ⟨fun σ H ρ Z E D' A h => ha.run σ H ρ Z E _ A (R.sat_mono (R.sat_bind.mp h) (fun ds ρ1 _ k vs H1 E1 A1 r1 t1 _ => ?_) fun _ _ _ k => k.e)⟩
  split at k
  · rename_i d _
    obtain ⟨v, rfl, rv⟩ := r1.one_inv
    refine ⟨by show 1 ≤ 1000; omega, fun a hna => ?_⟩
    show spInit g.K f ([.ref a, v] ++ []) _ _ _
    rw [List.append_nil]
    refine ⟨a, g.cl c, v, rfl, T, hno, upd_same, fun dx hdx hne => ⟨rfl, dx, [(f, v)], upd_same, ?_, ?_, ?_⟩⟩
    · rw [upd_ne hne]; exact upd_same
    · rw [upd_ne hne] at hdx; exact hdx
    · have hdx1 : H1 dx = none := by rw [upd_ne hne] at hdx; exact hdx
      have s : Same H1 (upd (del (upd (upd (upd H1 a (exo a (g.cl c) none)) dx (exd dx [(f, v)])) a (exo a (g.cl c) (some dx))) a) dx (.xd [(f, v)])) := fun b o hb => by
        have n1 : b ≠ dx := ne_of_none hb hdx1
        have n2 : b ≠ a := ne_of_none hb hna
        rw [upd_ne n1, del_ne n2, upd_ne n2, upd_ne n1, upd_ne n2]
        exact hb
      have t2 : Tr Z H1 E1 _ E1 := Tr.of_same s fun a h => .inl h
      refine k _ _ σ _ E1 An.refl (t1.trans t2 fun _ h => h) ⟨rfl, dx, [v], rfl, ?_, by rw [hf]; rfl, ?_⟩ (A1.same s)
      · rw [hf]; exact upd_same
      · exact r1.keep (Kp.same s fun _ h => .inl h)
  · exact k.elim
theorem snd_raise0 {c : Str} : SndS g W io md (fun _ σ H => (fun (σ : L2.St) (H : Hp) (Q : XK) => Q (.ref (g.cl c)) none H) σ H fun cls d H' => W cls d σ H') (sRaise0 c) :=
  ⟨fun σ H ρ Z E D' A h => h _ _ σ H E An.refl Tr.refl ⟨rfl, rfl⟩ A⟩
/-- X(), X an own error without own __init__ -/
theorem pmk_own0 {X : Cx} {C : Addr} {bmB : List Value} {B newId initId : String} {x : Str} (F : ExcBaseFacts B newId initId bmB) (q : PySem.W.excIn X.K C bmB newId = true) (gC : X.mg x = some (.ref C))
    (kC : PySem.W.keepIn X.K (.ref C) = true) (r : Raises X (.ref C)) (hg : Gl X x) (hdb : (x == ("__debug__" : Str)) = false := by decide) :
    PMk X (.Call (.Name x p) [] [] pos) (fun σ H Q => Q (.ref C) none H) := by
  intro pins s σ H Q I h
  refine wpAny_Call_Name_kw (ld_glob I hg gC ?_ hdb)
  refine PySem.W.callWith_K0 I.kIn kC ?_
  show wpAny _ _ (call (.ref C) []) _ _ _
  obtain ⟨bm, N, nm, qn, bs, hdct, sn, sub, ab, col, dd, k0, k1, k2, k3, k5, mN, hC, hN, hni, T⟩ := exc_obj I.kIn q
  exact wpAny_call_exc_subT F T hC hN hni (fun h' e hm => mk_of I hm r h (I.hok.gone hm.new)) (by show 0 ≤ sizeLine; exact Nat.zero_le _)
/-- what is known of an own error class with own __init__ -/
structure ExcC1 (g : Gx) (c f : Str) (fI : Addr) : Prop where
  ef : g.ef c = [f]
  T : OexC g.K (g.cl c)
  no : PySem.W.findIn g.K (.ref (g.cl c)) f = some none
  iC : PySem.W.findIn g.K (.ref (g.cl c)) "__init__" = some (some (.ref fI))
  tI : PySem.W.typeIn g.K (.ref fI) = some (.type "function")
structure ExcC0 (g : Gx) (c : Str) : Prop where
  q : PySem.W.excIn g.K (g.cl c) [.type "ValueError", .type "Exception", .type "BaseException", .type "object"] "ValueError.__new__" = true
  kC : PySem.W.keepIn g.K (.ref (g.cl c)) = true
  ex : PySem.W.subIn g.K (.ref (g.cl c)) (.type "BaseException") = some true
  ty : PySem.W.typeIn g.K (.ref (g.cl c)) = some (.type "type")
/-- its __init__, in a world, in a context -/
def InW (o : Wo) (g : Gx) (fI : Addr) (f : Str) : Prop := ∃ fd ps, FnOk o.P o.w g.K o.mg o.base (L2.CX o.P o.w) 1 fI fd ps (spInit g.K f) ∧ Binds g.K fd ps []
def InX (X : Cx) (g : Gx) (fI : Addr) (f : Str) : Prop := ∃ fd ps, FnOk X.prog X.w X.K X.mg X.base (L2.CX X.prog X.w) 1 fI fd ps (spInit g.K f) ∧ Binds X.K fd ps []
theorem InW.x {o : Wo} {g : Gx} {fI : Addr} {f : Str} (h : InW o g fI f) {X : Cx} (h1 : X.prog = o.P := by rfl) (h2 : X.w = o.w := by rfl) (h3 : X.K = g.K := by rfl) (h4 : X.mg = o.mg := by rfl) (h5 : X.base = o.base := by rfl) : InX X g fI f := by
  obtain ⟨fd, ps, ok, bd⟩ := h
  refine ⟨fd, ps, ?_, ?_⟩
  · rw [h1, h2, h3, h4, h5]; exact ok
  · rw [h3]; exact bd
theorem s_raise1 (F : FamC X g W k) {x c f : Str} {fI : Addr} (fn : ∀ i, InX (X i) g fI f) (xc : ExcC1 g c f fI) (hm : ∀ i, (X i).mg x = some (.ref (g.cl c))) (ha : EvA X g W pa n (e :: es) das) (hk : 2 ≤ k := by first | decide | exact Nat.le_refl _ | omega | (simp only [Nat.add_eq]; omega)) (hg : ∀ i, Gl (X i) x := by intro _; rfl)
    (hdb : (x == ("__debug__" : Str)) = false := by decide) (he : ∀ i, starEach (e :: es) (X i).env = (false, eval e (X i).env) :: starEach es (X i).env := by intro _; rfl) (hpl : ∀ i, (backTo pos (starEach es (X i).env)).any (·.1) = false := by intro _; rfl) :
    EvS X g W io md (.Raise (some (.Call (.Name x p) (e :: es) [] pos)) none pos2) (sRaise1 c das) := by
  obtain ⟨_, d, s⟩ := ha
  refine ⟨_, fun i => ?_, snd_raise1 xc.ef xc.T xc.no s⟩
  obtain ⟨fd, ps, ok, bd⟩ := fn i
  exact ps_raise (F.calm i) (F.tk i) (pmk_oex (by rw [F.K i]; exact xc.T) (by rw [F.K i]; exact xc.iC) (by rw [F.K i]; exact xc.tI) ok ((F.rm i).mono hk) bd .nil (fun pins σ H s e s' I c => by obtain ⟨_, _, _, _, _, _, _, _, _, _, _, _, h⟩ := c; exact h.elim) (hg i) (hm i) (d i) hdb (he i) (hpl i))
theorem s_raise0 (F : FamC X g W k) {x c : Str} (xc : ExcC0 g c) (hm : ∀ i, (X i).mg x = some (.ref (g.cl c))) (hg : ∀ i, Gl (X i) x := by intro _; rfl) (hdb : (x == ("__debug__" : Str)) = false := by decide) :
    EvS X g W io md (.Raise (some (.Call (.Name x p) [] [] pos)) none pos2) (sRaise0 c) :=
  ⟨_, fun i => ps_raise (F.calm i) (F.tk i) (pmk_own0 PySem.F.excBase_ValueError (by rw [F.K i]; exact xc.q) (hm i) (by rw [F.K i]; exact xc.kC) (raises_own (by rw [F.K i]; exact xc.ex) (by rw [F.K i]; exact xc.ty)) (hg i) hdb), snd_raise0⟩
end
end DL
/-! DL26 -/
set_option Elab.async false
set_option linter.all false
set_option maxRecDepth 100000
set_option maxHeartbeats 1000000
namespace PySem
open Sem (wp)
set_option maxHeartbeats 1000000 in
theorem meets_enumerate_new1 {v : Value} {o : Obj} {H : Heap → Prop} (B : Begins v o H) :
    Meets (Builtin.«enumerate.__new__» ⟨[.type "enumerate", v], []⟩) (fun _ R s => H s.heap ∧
      R (.ok (.ret (.ref (s.heap.push o).objs.size))) { s with heap := (s.heap.push o).push { cls := .type "enumerate", data := .fields #[.none, .bool false, .ref s.heap.objs.size, rawInt 0, .none, .none] } }) :=
  .of_wp fun prog w A R s h => by
    obtain ⟨hp, g, d, tk, os⟩ := s; obtain ⟨h1, h⟩ := h
    have hsub := sub_enumerate
    have q1 : ∀ {A' : Around} {E : Value → Shared → Prop} {Q : Value → Shared → Prop}, Q (.ref hp.objs.size) ⟨hp.push o, g, d, tk, os⟩ → wpAny (model prog w) A' (pyIter v) Q E ⟨hp, g, d, tk, os⟩ :=
      fun q => B.iter prog w _ _ ⟨hp, g, d, tk, os⟩ _ h1 q
    wp_walk using q1
    refine wpAny_stack_any fun st => wpAny_pure ?_
    split
    · rename_i c _ _ _ _ _
      cases (c == Value.type "enumerate")
      · wp_walk using q1
        exact ⟨_, rfl, h⟩
      · wp_walk using q1
        exact ⟨_, rfl, h⟩
    · wp_walk using q1
      exact ⟨_, rfl, h⟩
section
variable {prog : Program} {w : World} {A : Around} {E : Value → Shared → Prop} {s : Shared}
/-- enumerate(v): its two new cells -/
theorem enum_begins1 {v : Value} {o : Obj} {H : Heap → Prop} {Q : Value → Shared → Prop} (B : Begins v o H) (h1 : H s.heap)
    (h : ∀ h', IsEnum h' (s.heap.objs.size + 1) s.heap.objs.size 0 .none → h'.get? s.heap.objs.size = some o → h'.objs.size = s.heap.objs.size + 2 →
      (∀ b o, s.heap.get? b = some o → h'.get? b = some o) → Q (.ref (s.heap.objs.size + 1)) { s with heap := h' }) :
    wpAny (model prog w) A (call (.type "enumerate") [v]) Q E s := by
  refine callType_new F.called_enumerate (by decide) (F.typeCall_enumerate_1 _) (F.newCall_enumerate_1 _) (fun obj => F.args_object_init_2 obj _) F.entry_enumerate_new
    (meets_enumerate_new1 B) ⟨h1, ?_⟩
  have hz : (s.heap.push o).objs.size = s.heap.objs.size + 1 := Heap.size_push ..
  show _ ∧ _
  rw [hz]
  have he : IsEnum ((s.heap.push o).push { cls := .type "enumerate", data := .fields #[.none, .bool false, .ref s.heap.objs.size, rawInt 0, .none, .none] }) (s.heap.objs.size + 1) s.heap.objs.size 0 .none := by
    have := Heap.get?_push_size (s.heap.push o) (o := { cls := .type "enumerate", data := .fields #[.none, .bool false, .ref s.heap.objs.size, rawInt 0, .none, .none] }) rfl
    rw [hz] at this; exact this
  refine ⟨⟨_, he, rfl⟩, h _ he (Heap.get?_push_of_some _ (Heap.get?_push_size _ B.free)) (by rw [Heap.size_push, hz]) fun b o x => Heap.get?_push_of_some _ (Heap.get?_push_of_some _ x)⟩
end
end PySem
namespace DL
open PySem PySem.Spec PyProof.Rows L2
/-- the tuple at a, each item in a new pair -/
def IteT (K : PySem.W.Frag) (a : Addr) : It :=
  ⟨fun i H => ∃ (xs : List V) (x : V), SqT K H a xs ∧ xs[i]? = some x, fun i H v H' => ∃ T x, v = .ref T ∧ H T = none ∧ H' = upd H T (.tup [.int (i : Nat), x]) ∧ ∀ xs, SqT K H a xs → xs[i]? = some x, fun i H => ∃ xs : List V, SqT K H a xs ∧ xs.length ≤ i⟩
theorem turn_enumT {P : Program} {w : World} {K : PySem.W.Frag} {elts : List Expr} {kk : Nat} {tpos : Pos} (a e it : Addr) (hae : a ≠ e) (hai : a ≠ it) :
    Turn P w K (.Tuple elts kk tpos) (IteT K a) [e, it] e (fun i h => (∃ old, IsEnum h e it ((i : Nat) : Int) old) ∧ h.IsTupleIter it a i ∧ e ≠ it) where
  mem := by simp
  obj := fun i h st b hb => by
    obtain ⟨⟨old, he⟩, ⟨o, ho, hc, hd⟩, _⟩ := st
    have e' : b = e ∨ b = it := by simpa using hb
    rcases e' with z | z
    · rw [z]; exact ⟨_, he, fun v q => nomatch q⟩
    · rw [z]; exact ⟨o, ho, fun v q => by rw [hd] at q; cases q⟩
  keep := fun i h h' st k => let ⟨⟨old, he⟩, hi, hne⟩ := st; ⟨⟨old, k e (by simp) _ he⟩, hi.at fun o q => k it (by simp) o q, hne⟩
  item := by
    intro X hP hw hK hc i pins s σ H E I hf st hg
    subst hP hw hK
    obtain ⟨⟨old, he⟩, hit, hne⟩ := st
    obtain ⟨xs, x, hq, hx⟩ := hg
    obtain ⟨its, rv, p, hz⟩ := I.tuple hq
    obtain ⟨u, hu, ru⟩ := rv.get hx
    have hel : e < s.heap.objs.size := Heap.lt_size he
    have hil : it < s.heap.objs.size := by obtain ⟨_, q, _⟩ := hit; exact Heap.lt_size q
    have p' : s.heap.IsTuple a its.toArray := p
    have hlt : i < its.toArray.size := by
      have := (List.getElem?_eq_some_iff.mp hu).1
      simpa using this
    refine wpAny_pyNext_enum_itemD (fp := [it, a]) (Draws.tuple (A := X.A.in1) (show X.A.in1.handled = none from I.ok.hd hc) it a hai its.toArray) he ⟨hit, p'⟩ hlt hne (by simp [hne, Ne.symm hae]) fun v h' tk hv ho hit' hT hsz hk => ?_
    have ev : v = u := by
      have z1 : its.toArray[i]? = some v := hv
      have z2 : its.toArray[i]? = some u := by simpa using hu
      rw [z1] at z2
      exact Option.some.inj z2
    subst ev
    refine ⟨_, rfl, wpAny_letOwnedTupleGo_enum (s := { s with heap := h', toks := tk + 1 }) ho fun h'' he' sb => ?_⟩
    have hT2 : h''.get? s.heap.objs.size = some { cls := .type "tuple", data := .seq #[.int i tk, v] } := (sb.2 _ (Nat.ne_of_gt hel)).trans hT
    have new : ObjOk X.prog X.w (upd H s.heap.objs.size (.tup [.int (i : Nat), x])) h'' s.heap.objs.size (.tup [.int (i : Nat), x]) :=
      ⟨by show 2 ≤ sizeLine; decide, [.int i tk, v], .cons ⟨_, rfl⟩ (.cons ru .nil), ⟨_, hT2, rfl, _, rfl⟩⟩
    have I1 : Inv X pins σ (upd H s.heap.objs.size (.tup [.int (i : Nat), x])) { s with heap := h'', toks := tk + 1 } :=
      I.turnedNew (ch := [e, it]) (fun b ob hb q => (sb.2 b (fun z => hb (by simp [z]))).trans (hk b ob (fun z => hb (by simp [z])) (fun z => hb (by simp [z])) q)) hf (Nat.le_refl _) new
    refine ⟨.ref s.heap.objs.size, _, I1, rfl, ⟨_, x, rfl, I.hok.fresh (Nat.le_refl _), rfl, fun ys hy => by rw [I.tuple_inj hy hq]; exact hx⟩, ⟨⟨v, ?_⟩, hit'.1.at fun o q => (sb.2 it (Ne.symm hne)).trans q, hne⟩, fun b hb => ?_⟩
    · have e1 : ((i + 1 : Nat) : Int) = (i : Int) + 1 := by omega
      rw [e1]; exact he'
    · have hb' : b < s.heap.objs.size := by
        have e' : b = e ∨ b = it := by simpa using hb
        rcases e' with z | z
        · rw [z]; exact hel
        · rw [z]; exact hil
      rw [upd_ne (Nat.ne_of_lt hb')]
      exact (hf b hb).1
  done := by
    intro X hP hw hK hc i pins s σ H E I hf st hg
    subst hP hw hK
    obtain ⟨⟨old, he⟩, hit, hne⟩ := st
    obtain ⟨xs, hq, hx⟩ := hg
    obtain ⟨its, rv, p, hz⟩ := I.tuple hq
    have p' : s.heap.IsTuple a its.toArray := p
    obtain ⟨f0, f1, f2, f3, f4, f5⟩ := hf it (by simp)
    have hl := rv.length
    obtain ⟨o, ho, hoc, hod⟩ := hit
    unfold pyNext
    have hT : s.TypeIs (.ref e) "enumerate" := ⟨_, he, rfl⟩
    refine wpAny_bind (wpAny_attempt (wpAny_callSpecial?_slot (name := Str.ofString "__next__") hT F.slot_enumerate_next
      (wpAny_call_entry F.slot_enumerate_next hT F.entry_enumerate_next ?_ (F.args_enumerate_next_1 _))))
    show wpAny _ _ (field (.ref e) 2 >>= _) _ _ _
    refine wpAny_bind (wpAny_field he rfl (x := .ref it) rfl ?_)
    refine wpAny_bind (wpAny_nextOf_tuple_end (I.ok.hd hc) ⟨o, ho, hoc, hod⟩ p' (by simp; omega) fun h' x he' hx' => ?_)
    obtain ⟨o, ho, hcs⟩ := hx'
    refine wpAny_bind (wpAny_isInstance (T := "StopIteration") (b := true) ⟨o, ho, hcs⟩ isSubtype_stop ?_)
    exact wpAny_pure ⟨rfl, I.turned (t' := s.toks) (fun b o hb q => he' b o hb q) f0 f1 f3 f4 f5⟩
  self := fun A i s Q E st h => let ⟨⟨_, he⟩, _⟩ := st; wpAny_pyIter_enum he h
def iEnumA (K : PySem.W.Frag) (ta : TA) : TI := fun σ H R => ta σ H fun vs H1 => ∃ a, vs = [.ref a] ∧ ((∃ xs, SqL K H1 a xs ∧ R (Ite K a) H1) ∨ ∃ xs, SqT K H1 a xs ∧ R (IteT K a) H1)
theorem pi_enumA {X : Cx} {e : Expr} {ta : TA} {p pos tpos : Pos} {elts : List Expr} {kk : Nat} (hg : Gl X "enumerate") (hm : X.mg "enumerate" = none) (ha : PA X [e] ta) (hs : starEach [e] X.env = [(false, eval e X.env)] := by rfl) :
    PI X (.Tuple elts kk tpos) (.Call (.Name "enumerate" p) [e] [] pos) (iEnumA X.K ta) := by
  refine ⟨fun pins s σ H R I h => ?_⟩
  refine Call_ (ld_blt I hg hm boot_enumerate (PyProof.Rows.callWith_type1 (thn (ha.run pos pins s σ H _ I h) fun us s1 ⟨vs, H1, I1, r1, q1⟩ => ?_) hs rfl))
  obtain ⟨a, ex, q⟩ := q1
  subst ex
  cases r1 with
  | cons r rr =>
    cases rr
    cases r
    rcases q with ⟨xs, hq, q⟩ | ⟨xs, hq, q⟩
    · obtain ⟨its, rv, p', hz⟩ := I1.list hq
      refine call_enumerate_list p'.isList fun h' he hit hsz hk => wpAny_pyIter_enum he ?_
      have I2 : Inv X pins σ H1 { s1 with heap := h' } := I1.kept (t' := s1.toks) hk
      refine ⟨s1.heap.objs.size + 1, [s1.heap.objs.size + 1, s1.heap.objs.size], _, _, H1, rfl, I2, turn_enum a (s1.heap.objs.size + 1) s1.heap.objs.size, ⟨⟨.none, he⟩, hit, Nat.succ_ne_self _⟩, fun b hb => ?_, q⟩
      have e' : b = s1.heap.objs.size + 1 ∨ b = s1.heap.objs.size := by simpa using hb
      have hle : s1.heap.objs.size ≤ b := by
        rcases e' with z | z
        · rw [z]; exact Nat.le_add_right _ _
        · rw [z]; exact Nat.le_refl _
      exact I1.fpOk hle (I1.hok.fresh hle)
    · obtain ⟨its, rv, p', hz⟩ := I1.tuple hq
      have p2 : s1.heap.IsTuple a its.toArray := p'
      have hal : a < s1.heap.objs.size := by obtain ⟨o, ho, _⟩ := p2; exact Heap.lt_size ho
      refine enum_begins1 (begins_tuple a its.toArray) p2 fun h' he hit hsz hk => wpAny_pyIter_enum he ?_
      have I2 : Inv X pins σ H1 { s1 with heap := h' } := I1.kept (t' := s1.toks) hk
      refine ⟨s1.heap.objs.size + 1, [s1.heap.objs.size + 1, s1.heap.objs.size], _, _, H1, rfl, I2, turn_enumT a (s1.heap.objs.size + 1) s1.heap.objs.size (Nat.ne_of_lt (Nat.lt_succ_of_lt hal)) (Nat.ne_of_lt hal), ⟨⟨.none, he⟩, ⟨_, hit, rfl, rfl⟩, Nat.succ_ne_self _⟩, fun b hb => ?_, q⟩
      have e' : b = s1.heap.objs.size + 1 ∨ b = s1.heap.objs.size := by simpa using hb
      have hle : s1.heap.objs.size ≤ b := by
        rcases e' with z | z
        · rw [z]; exact Nat.le_add_right _ _
        · rw [z]; exact Nat.le_refl _
      exact I1.fpOk hle (I1.hok.fresh hle)
section
variable {ι : Type} {X : ι → Cx} {g : Gx} {W : WX} {k : Nat} {md mo ma mb : Md} {pa pb : Bool} {io : List Nat} {pos p apos : Pos} {e a o : Expr} {das : Env → R (List D)} {n : Nat} {da dob : Env → R D}
variable {H H1 : Hp} {E E1 : Addr → Prop}
theorem src_enumT {a : Addr} {vs : List V} {ds : List D} (h1 : Rd H a (.tup vs)) (r : RepL g H E ds vs []) : Src g (IteT g.K a) (enumD ds) H E := fun i H' E' kp => by
  have h1' : SqT g.K H' a vs := .inl (Rd.keepT h1 fun o e m => kp.k a o e (.inr (.inr m)))
  refine ⟨fun hi => ⟨vs, h1', by rw [r.len, ← enumD_len]; exact hi⟩, fun d hd => ?_⟩
  obtain ⟨e, he, rfl⟩ := enumD_get hd
  obtain ⟨v, ev, rv⟩ := r.get he
  refine ⟨⟨vs, v, h1', ev⟩, fun x H2 y => ?_⟩
  obtain ⟨T, x', e1, e2, e3, y⟩ := y
  have := y vs h1'
  rw [ev] at this
  cases this
  rw [e1]
  exact pairNew (i := i) e2 e3 (rep_int _) (rv.keep kp)
def sEnumA (a : Env → R (List D)) : Env → R (List D) := fun ρ => (a ρ).bind fun ds ρ1 => match ds with
  | [.tup xs] => .ok (enumD xs) ρ1
  | [d] => (match lstItems d with | some xs => .ok (enumD xs) ρ1 | none => .stk)
  | _ => .stk
theorem snd_enumA {ta : TA} {pa : Bool} {n : Nat} {da : Env → R (List D)} (ha : SndA g W pa n ta da) : SndI g W (iEnumA g.K ta) (sEnumA da) := by
  refine ⟨fun σ H ρ Z E Rr A h => ha.run σ H ρ Z E _ A (R.sat_mono (R.sat_bind.mp h) (fun ds ρ1 _ k vs H1 E1 A1 r1 t1 _ => ?_) fun _ _ _ k => k)⟩
  split at k
  · rename_i xs _
    obtain ⟨v, rfl, rv⟩ := r1.one_inv
    unfold Rep at rv
    obtain ⟨a, ws, rfl, h1, q1⟩ := rv
    exact ⟨a, rfl, .inr ⟨ws, .inl h1, k _ H1 E1 A1 t1 (src_enumT h1 q1)⟩⟩
  · rename_i d _ _
    split at k
    · rename_i xs q
      obtain ⟨v, rfl, rv⟩ := r1.one_inv
      obtain ⟨a, ws, rfl, sq, rs⟩ := lst_sq q rv
      exact ⟨a, rfl, .inl ⟨ws, sq H1 E1 Kp.self, k _ H1 E1 A1 t1 (src_enum sq rs)⟩⟩
    · exact k.elim
  · exact k.elim
theorem i_enumA {elts : List Expr} {kk : Nat} {tpos : Pos} (F : Fam X g W) (hm : ∀ i, (X i).mg "enumerate" = none) (ha : EvA X g W pa n [e] das) (hg : ∀ i, Gl (X i) "enumerate" := by intro _; rfl) (hs : ∀ i, starEach [e] (X i).env = [(false, eval e (X i).env)] := by intro _; rfl) :
    EvI X g W (.Tuple elts kk tpos) (.Call (.Name "enumerate" p) [e] [] pos) (sEnumA das) := let ⟨_, d, s⟩ := ha; ⟨_, fun i => by
      have z := pi_enumA (elts := elts) (kk := kk) (tpos := tpos) (p := p) (pos := pos) (hg i) (hm i) (d i) (hs i)
      rw [F.K i] at z
      exact z, snd_enumA s⟩
/-- i.bit_length() -/
def fBits : D → P D
  | .int i => .ok (.int (Builtin.Int.intBits i : Nat))
  | _ => .stk
theorem snd_bits : UnSnd g W .S (fun x H Q => ∃ i, x = .int i ∧ Q (.int (Builtin.Int.intBits i : Nat)) H) fBits := by
  refine un_flat (fun H E x d z Q hx h => ?_) (fun d cc xs => ?_)
  · unfold fBits at h
    split at h
    · rename_i i
      cases h
      exact ⟨_, fun _ _ => rep_int _, fun z => ⟨i, rep1_int hx, z⟩⟩
    · cases h
  · unfold fBits
    split <;> (intro z; cases z)
theorem e_bits (ho : EvE X g W pa ma o dob) (oa : SQ ma := by constructor) (hbase : ∀ i, attributeBase o "bit_length" (X i).env (eval o (X i).env) = eval o (X i).env := by intro _; rfl) (hline : (apos.endLine == pos.line) = true := by rfl) :
    EvE X g W pa .S (.Call (.Attribute o "bit_length" apos) [] [] pos) (dUn fBits dob) := let ⟨_, d, s⟩ := ho; ⟨_, fun i => pe_bits (d i) (hbase i) hline, snd_un snd_bits s oa⟩
end
end DL
/-! DL27 -/
set_option Elab.async false
set_option linter.all false
set_option maxRecDepth 100000
set_option maxHeartbeats 1000000
namespace DL
open PySem PySem.Spec PyProof.Rows L2

/-! ### try, several clauses, each with a name or without -/
abbrev Cl3 := Value × Option Nat × (Addr → Value → Option Addr → TS)
def offS (i : Option Nat) (σ : L2.St) : L2.St := match i with
  | some i => σ.set i none
  | none => σ
def onS (i : Option Nat) (a : Addr) (σ : L2.St) : L2.St := match i with
  | some i => σ.set i (some (.ref a))
  | none => σ
def offE (i : Option Nat) (D : Ends) : Ends := { nx := fun σ' H' => D.nx (offS i σ') H', rt := D.rt, bk := fun σ' H' => D.bk (offS i σ') H', ct := fun σ' H' => D.ct (offS i σ') H' }
/-- what the clauses wish of an exception of the body, one after the other -/
def wCl (K : PySem.W.Frag) (Wout : WX) (D : Ends) : List Cl3 → WX
  | [] => Wout
  | (c, i, ts) :: r => fun cls d σ H => ∃ b, PySem.W.exmOne K cls c = some b ∧ (b = true → ∀ a, H a = none → ts a cls d (offE i D) (onS i a σ) H) ∧ (b = false → wCl K Wout D r cls d σ H)
inductive HdsA (X : Cx) : List ExceptHandler → List Cl3 → Prop
  | nil : HdsA X [] []
  | cons {x : Str} {c : Value} {ts : Addr → Value → Option Addr → TS} {b₀ : Stmt} {suite : List Stmt} {np pos' : Pos} {hds : List ExceptHandler} {l : List Cl3} (hc : Names X x c)
      (hsu : ∀ (a : Addr) (oe : Obj) (cls : Value) (d : Option Addr) (pn : List (Addr × Obj)), Zc cls d oe → (∃ vs, oe.data = .fields vs) → PSs (X.suite a ((a, oe) :: pn)) (b₀ :: suite) (ts a cls d)) (r : HdsA X hds l) :
      HdsA X (.ExceptHandler (some (.Name x np)) none (b₀ :: suite) pos' :: hds) ((c, none, ts) :: l)
  | as {x n : Str} {i : Nat} {c : Value} {ts : Addr → Value → Option Addr → TS} {b₀ : Stmt} {suite : List Stmt} {np pos' : Pos} {hds : List ExceptHandler} {l : List Cl3} (hi : X.N[i]? = some n) (hln : X.env.kindOf n = some .local) (hc : Names X x c)
      (hsu : ∀ (a : Addr) (oe : Obj) (cls : Value) (d : Option Addr) (pn : List (Addr × Obj)), Zc cls d oe → (∃ vs, oe.data = .fields vs) → PSs (X.suite a ((a, oe) :: pn)) (b₀ :: suite) (ts a cls d)) (r : HdsA X hds l) :
      HdsA X (.ExceptHandler (some (.Name x np)) (some n) (b₀ :: suite) pos' :: hds) ((c, some i, ts) :: l)
section
variable {X : Cx} {body : List Stmt} {h₀ : ExceptHandler} {hds : List ExceptHandler} {l : List Cl3} {pos : Pos} {tb : WX → TS} {Wout : WX}
theorem ps_try_cl (hs : X.stack = X.env :: X.outer) (hf : X.env.frame = some X.env.locals) (hN : X.N.Nodup) (tk : Takes X Wout)
    (hb : ∀ (W : WX) (pn : List (Addr × Obj)) (xe : Value → Shared → Prop), Takes (X.tr pn xe) W → PassesOwn (model X.prog X.w) X.A X.env xe → PSs (X.tr pn xe) body (tb W))
    (hh : HdsA X (h₀ :: hds) l) : PS X (.Try body (h₀ :: hds) [] [] pos) (fun D σ H => tb (wCl X.K Wout D l) D σ H) := by
  refine ⟨fun pins s σ H D I h => ?_⟩
  have ok := I.ok
  have hfr : X.A.frames = some (X.env :: X.outer) := by rw [ok.frames, hs]
  refine wpAny_Try_except ?_
  refine wpAny_mono ((hb (wCl X.K Wout D l) (X.pn ++ pins) (fun e s₁ => wpAny (model X.prog X.w) X.A (noteFrame e X.env) (fun _ s₂ => wpAny (model X.prog X.w) X.A (setFlight e none) (fun _ s₃ =>
    wpAny (model X.prog X.w) X.A (handleBy e X.env (h₀ :: hds)) (SP X pins D) X.xe s₃) X.xe s₂) X.xe s₁) (fun u s' xx => ?_) PassesOwn.looking).run [] s σ H D (I.toTry _) h) (fun f s1 hsp => ?_) (fun e s1 he => he)
  · -- the catch
    obtain ⟨a, B, sI, pins', σ', H', cls, d, rfl, J', nb, up, sky, na, os, ag, w⟩ := xx
    have J : Inv X pins σ' H' sI := J'.ofTry ok
    have sky' : Sky B (X.env :: X.outer) a (Zc cls d) X.env.locals s'.heap := by rw [← hs]; exact sky
    show wpAny (model X.prog X.w) X.A (noteFrame (.ref a) X.env) _ _ _
    refine Sky.land Zc.steady hfr hf sky' fun h3 fl3 up3 => ?_
    have J3 : Inv X pins σ' H' { s' with heap := h3 } := J.landed nb fl3.1 (up.trans up3) os ag
    obtain ⟨oe3, vs3, he3, hz3, hd3⟩ := fl3.there
    have notFr : ∀ {h : Heap} {o : Obj} {vs : Array Value}, h.FunFrames B (X.env :: X.outer) → h.get? a = some o → o.data = .fields vs → a ∉ frs (X.env :: X.outer) := fun {h o vs} ff e dd hm => by
      obtain ⟨_, o', e', hnf⟩ := ff.mem hm
      rw [e] at e'; cases e'
      exact hnf _ dd
    have nfr := notFr fl3.2.2.1 he3 hd3
    have nL : a ≠ X.env.locals := fun z => nfr (List.mem_filterMap.mpr ⟨X.env, List.mem_cons_self, by rw [hf, z]⟩)
    have nF : a ∉ X.fs := fun hm => by
      obtain ⟨e, he, q⟩ := List.mem_filterMap.mp hm
      exact nfr (List.mem_filterMap.mpr ⟨e, List.mem_cons_of_mem _ he, q⟩)
    have S3 := J3.suite he3 hd3 na nL nF
    have LT : PySem.W.Looks (model X.prog X.w) h3 (typeOf (.ref a)) cls := fun A Q E s k q => wpAny_typeOf_ref (k _ _ he3) (by rw [hz3.1]; exact q)
    have test : ∀ {x : Str} {c : Value} {np : Pos}, Names X x c → ∀ {Q : Value → Shared → Prop} {E : Value → Shared → Prop}, Q c { s' with heap := h3 } → wpAny (model X.prog X.w) (X.A.mark (some (.ref a))) (eval (.Name x np) X.env) Q E { s' with heap := h3 } := fun {x c np} hc {Q E} q => by
      obtain ⟨hg, hdbg, hm | ⟨hm, hv, hnn⟩⟩ := hc
      · exact ld_glob (X := X.suite a ((a, oe3) :: (X.pn ++ pins))) S3 hg hm q hdbg
      · exact ld_blt (X := X.suite a ((a, oe3) :: (X.pn ++ pins))) S3 hg hm hv q hnn hdbg
    have go : ∀ {hds' : List ExceptHandler} {l' : List Cl3}, HdsA X hds' l' → wCl X.K Wout D l' cls d σ' H' →
        wpAny (model X.prog X.w) X.A (handleBy (.ref a) X.env hds') (SP X pins D) X.xe { s' with heap := h3 } := by
      intro hds' l' hk
      induction hk with
      | nil =>
        intro w
        refine wpAny_handleBy_nil ?_
        obtain ⟨k1, k2, k3, oe, vs, T, oT, ts', he, hz, hd, h1, hr⟩ := id fl3
        unfold PySem.passOn
        refine wpAny_bind (wpAny_field he hd h1 ?_)
        rw [if_neg (show ¬ ((Value.ref T == Value.none) = true) from by simp)]
        have fin : wpAny (model X.prog X.w) X.A (setFlight (.ref a) X.env.frame) (fun _ s4 => wpAny (model X.prog X.w) X.A (throw (.ref a) : Sem Flow) (SP X pins D) X.xe s4) X.xe { s' with heap := h3 } := by
          rw [hf]
          refine HandSPX.setFlight_upZ fl3 fun h4 hh4 up4 => wpAny_throw (tk _ _ ?_)
          exact ⟨a, B, sI, pins, σ', H', cls, d, rfl, J, nb, (up.trans up3).trans up4, .inr (.inr (by rw [hs]; exact hh4)), na, os, ag, w⟩
        first
          | exact wpAny_bind (wpAny_pure (wpAny_bind fin))
          | exact wpAny_bind fin
      | @cons x c ts b₀ suite np pos' hds2 l2 hc hsu r ih =>
        intro w
        obtain ⟨b, hb1, hyes, hno⟩ := w
        refine wpAny_handleBy_cons (codeAny_handlers_test ?_) (by intro q; cases q)
        have LM := PySem.W.exm_one (M := model X.prog X.w) (J3.kIn) LT hb1
        refine test hc (LM.here ?_)
        cases b with
        | true =>
          refine codeAny_handlers_suite ?_
          refine HandSPX.lands_againZ fl3 fun h4 fl4 up4 => ?_
          have J4 : Inv X pins σ' H' { s' with heap := h4 } := J.landed nb fl4.1 ((up.trans up3).trans up4) os ag
          obtain ⟨oe4, vs4, he4, hz4, hd4⟩ := fl4.there
          have S4 := J4.suite he4 hd4 na nL nF
          refine wpAny_mono ((hsu a oe4 cls d (X.pn ++ pins) hz4 ⟨_, hd4⟩).run [] _ _ H' _ S4 (hyes rfl a na)) (fun f s6 hsp => ?_) (fun _ _ z => False.elim z)
          cases f with
          | next =>
            obtain ⟨σ6, H6, S6, q6⟩ := hsp
            exact ⟨_, _, S6.unsuite ok, q6⟩
          | brk =>
            obtain ⟨σ6, H6, S6, q6⟩ := hsp
            exact ⟨_, _, S6.unsuite ok, q6⟩
          | cont =>
            obtain ⟨σ6, H6, S6, q6⟩ := hsp
            exact ⟨_, _, S6.unsuite ok, q6⟩
          | ret u =>
            obtain ⟨v6, σ6, H6, S6, r6, q6⟩ := hsp
            exact ⟨_, _, _, S6.unsuite ok, r6, q6⟩
        | false =>
          show wpAny _ X.A (handleBy (.ref a) X.env hds2) _ _ _
          exact ih (hno rfl)
      | @as x n i c ts b₀ suite np pos' hds2 l2 hi hln hc hsu r ih =>
        intro w
        obtain ⟨b, hb1, hyes, hno⟩ := w
        refine wpAny_handleBy_cons (codeAny_handlers_test ?_) (by intro q; cases q)
        have LM := PySem.W.exm_one (M := model X.prog X.w) (J3.kIn) LT hb1
        refine test hc (LM.here ?_)
        cases b with
        | true =>
          refine codeAny_handlers_suite_as ?_
          refine HandSPX.lands_againZ fl3 fun h4 fl4 up4 => ?_
          have J4 : Inv X pins σ' H' { s' with heap := h4 } := J.landed nb fl4.1 ((up.trans up3).trans up4) os ag
          obtain ⟨oe4, vs4, he4, hz4, hd4⟩ := fl4.there
          have S4 := J4.suite he4 hd4 na nL nF
          refine store_ok (X := X.suite a ((a, oe4) :: (X.pn ++ pins))) (v := .ref a) S4 hN hi (.inl hln) rfl (fun s5 S5 => ?_) (.inr hln)
          refine wpAny_mono ((hsu a oe4 cls d (X.pn ++ pins) hz4 ⟨_, hd4⟩).run [] s5 _ H' _ S5 (hyes rfl a na)) (fun f s6 hsp => ?_) (fun _ _ z => False.elim z)
          have end_ : ∀ {σ6 : L2.St} {H6 : Hp} {Q : Shared → Prop}, Inv (X.suite a ((a, oe4) :: (X.pn ++ pins))) [] σ6 H6 s6 → (∀ s7, Inv X pins (σ6.set i none) H6 s7 → Q s7) →
              wpAny (model X.prog X.w) X.A (do bindName X.env n .none; unbindBehindTheSuite X.env n pos') (fun _ s7 => Q s7) X.xe s6 := fun {σ6 H6 Q} S6 hq => gone_ok (S6.unsuite ok) hN hi hln hq
          cases f with
          | next =>
            obtain ⟨σ6, H6, S6, q6⟩ := hsp
            exact end_ S6 fun s7 J7 => ⟨_, _, J7, q6⟩
          | brk =>
            obtain ⟨σ6, H6, S6, q6⟩ := hsp
            exact end_ S6 fun s7 J7 => ⟨_, _, J7, q6⟩
          | cont =>
            obtain ⟨σ6, H6, S6, q6⟩ := hsp
            exact end_ S6 fun s7 J7 => ⟨_, _, J7, q6⟩
          | ret u =>
            obtain ⟨v6, σ6, H6, S6, r6, q6⟩ := hsp
            exact end_ S6 fun s7 J7 => ⟨_, _, _, J7, r6, q6⟩
        | false =>
          show wpAny _ X.A (handleBy (.ref a) X.env hds2) _ _ _
          exact ih (hno rfl)
    exact go hh w
  · cases f with
    | next =>
      obtain ⟨σ', H', J', q⟩ := hsp
      exact wpAny_execs_nil ⟨σ', H', J'.ofTry ok, q⟩
    | brk =>
      obtain ⟨σ', H', J', q⟩ := hsp
      exact ⟨σ', H', J'.ofTry ok, q⟩
    | cont =>
      obtain ⟨σ', H', J', q⟩ := hsp
      exact ⟨σ', H', J'.ofTry ok, q⟩
    | ret u =>
      obtain ⟨v, σ', H', J', r, q⟩ := hsp
      exact ⟨v, σ', H', J'.ofTry ok, r, q⟩
end

/-! ### holding an exception -/
mutual
def noErr : D → Bool
  | .tup ds => noErrL ds
  | .lst _ ds => noErrL ds
  | .dic _ _ ds => noErrL ds
  | .ins _ _ _ ds => noErrL ds
  | .err _ _ => false
  | _ => true
def noErrL : List D → Bool
  | [] => true
  | d :: ds => noErr d && noErrL ds
end
def Gx.hold (g : Gx) (q : Option (Addr × Value × Option Addr)) : Gx := { g with held := q }
section
variable {g : Gx} {H : Hp} {E Z : Addr → Prop} {q : Option (Addr × Value × Option Addr)}
mutual
theorem Rep.hold : ∀ {d : D} {v : V} {F : List Addr}, Rep g H E d v F → noErr d = true → Rep (g.hold q) H E d v F
  | .non, v, F, h, _ => by unfold Rep at h ⊢; exact h
  | .bl _, v, F, h, _ => by unfold Rep at h ⊢; exact h
  | .int _, v, F, h, _ => by unfold Rep at h ⊢; exact h
  | .str _, v, F, h, _ => by unfold Rep at h ⊢; exact h
  | .fn _, v, F, h, _ => by unfold Rep at h ⊢; exact h
  | .scr _, v, F, h, _ => by unfold Rep at h ⊢; exact h
  | .tup ds, v, F, h, n => by
    unfold Rep at h ⊢
    unfold noErr at n
    obtain ⟨a, vs, e, h1, h2⟩ := h
    exact ⟨a, vs, e, h1, RepL.hold h2 n⟩
  | .lst true ds, v, F, h, n => by
    unfold Rep at h ⊢
    unfold noErr at n
    obtain ⟨a, vs, F1, e, h1, h2, h3⟩ := h
    exact ⟨a, vs, F1, e, h1, h2, RepL.hold h3 n⟩
  | .lst false ds, v, F, h, n => by
    unfold Rep at h ⊢
    unfold noErr at n
    obtain ⟨a, vs, e, h1, h2, f, h3⟩ := h
    exact ⟨a, vs, e, h1, h2, f, RepL.hold h3 n⟩
  | .dic true ks ds, v, F, h, n => by
    unfold Rep at h ⊢
    unfold noErr at n
    obtain ⟨a, vs, F1, e, h1, hl, h2, h3⟩ := h
    exact ⟨a, vs, F1, e, h1, hl, h2, RepL.hold h3 n⟩
  | .dic false ks ds, v, F, h, n => by
    unfold Rep at h ⊢
    unfold noErr at n
    obtain ⟨a, vs, e, h1, hl, h2, f, h3⟩ := h
    exact ⟨a, vs, e, h1, hl, h2, f, RepL.hold h3 n⟩
  | .ins true c fs ds, v, F, h, n => by
    unfold Rep at h ⊢
    unfold noErr at n
    obtain ⟨a, dx, vs, F1, e, h1, hl, h2, h3⟩ := h
    exact ⟨a, dx, vs, F1, e, h1, hl, h2, RepL.hold h3 n⟩
  | .ins false c fs ds, v, F, h, n => by
    unfold Rep at h ⊢
    unfold noErr at n
    obtain ⟨a, dx, vs, e, h1, hl, h2, f, h3⟩ := h
    exact ⟨a, dx, vs, e, h1, hl, h2, f, RepL.hold h3 n⟩
  | .err _ _, v, F, h, n => by unfold noErr at n; cases n
theorem RepL.hold : ∀ {ds : List D} {vs : List V} {F : List Addr}, RepL g H E ds vs F → noErrL ds = true → RepL (g.hold q) H E ds vs F
  | [], vs, F, h, _ => by unfold RepL at h ⊢; exact h
  | d :: ds, vs, F, h, n => by
    unfold RepL at h ⊢
    unfold noErrL at n
    obtain ⟨v, r, F1, F2, e1, e2, h1, h2⟩ := h
    exact ⟨v, r, F1, F2, e1, e2, Rep.hold h1 (Bool.and_eq_true_iff.mp n).1, RepL.hold h2 (Bool.and_eq_true_iff.mp n).2⟩
end
mutual
theorem Rep.noErr (hg : g.held = none) : ∀ {d : D} {v : V} {F : List Addr}, Rep g H E d v F → DL.noErr d = true
  | .non, v, F, h => by unfold DL.noErr; rfl
  | .bl _, v, F, h => by unfold DL.noErr; rfl
  | .int _, v, F, h => by unfold DL.noErr; rfl
  | .str _, v, F, h => by unfold DL.noErr; rfl
  | .fn _, v, F, h => by unfold DL.noErr; rfl
  | .scr _, v, F, h => by unfold DL.noErr; rfl
  | .tup ds, v, F, h => by
    unfold Rep at h
    unfold DL.noErr
    obtain ⟨a, vs, e, h1, h2⟩ := h
    exact RepL.noErr hg h2
  | .lst true ds, v, F, h => by
    unfold Rep at h
    unfold DL.noErr
    obtain ⟨a, vs, F1, e, h1, h2, h3⟩ := h
    exact RepL.noErr hg h3
  | .lst false ds, v, F, h => by
    unfold Rep at h
    unfold DL.noErr
    obtain ⟨a, vs, e, h1, h2, f, h3⟩ := h
    exact RepL.noErr hg h3
  | .dic true ks ds, v, F, h => by
    unfold Rep at h
    unfold DL.noErr
    obtain ⟨a, vs, F1, e, h1, hl, h2, h3⟩ := h
    exact RepL.noErr hg h3
  | .dic false ks ds, v, F, h => by
    unfold Rep at h
    unfold DL.noErr
    obtain ⟨a, vs, e, h1, hl, h2, f, h3⟩ := h
    exact RepL.noErr hg h3
  | .ins true c fs ds, v, F, h => by
    unfold Rep at h
    unfold DL.noErr
    obtain ⟨a, dx, vs, F1, e, h1, hl, h2, h3⟩ := h
    exact RepL.noErr hg h3
  | .ins false c fs ds, v, F, h => by
    unfold Rep at h
    unfold DL.noErr
    obtain ⟨a, dx, vs, e, h1, hl, h2, f, h3⟩ := h
    exact RepL.noErr hg h3
  | .err _ _, v, F, h => by
    unfold Rep at h
    obtain ⟨a, dd, _, h, _⟩ := h
    rw [hg] at h; cases h
theorem RepL.noErr (hg : g.held = none) : ∀ {ds : List D} {vs : List V} {F : List Addr}, RepL g H E ds vs F → noErrL ds = true
  | [], vs, F, h => by unfold noErrL; rfl
  | d :: ds, vs, F, h => by
    unfold RepL at h
    unfold noErrL
    obtain ⟨v, r, F1, F2, e1, e2, h1, h2⟩ := h
    exact Bool.and_eq_true_iff.mpr ⟨Rep.noErr hg h1, RepL.noErr hg h2⟩
end
def noErrS : Option Slot → Bool
  | some (.sh d) => noErr d
  | some (.dp d) => noErr d
  | none => true
def noErrR (ρ : Env) : Bool := ρ.all noErrS
theorem noErrR_get {ρ : Env} {i : Nat} {s : Slot} (h : noErrR ρ = true) (e : ρ[i]? = some (some s)) : noErrS (some s) = true := List.all_eq_true.mp h _ (List.mem_of_getElem? e)
theorem SlotRep.hold {s : Slot} {v : V} {F : List Addr} (h : SlotRep g H E s v F) (n : noErrS (some s) = true) : SlotRep (g.hold q) H E s v F := by
  cases s with
  | sh d => exact ⟨h.1, Rep.hold h.2 n⟩
  | dp d => exact Rep.hold (show Rep g H E d v F from h) n
theorem SlotRep.noErr (hg : g.held = none) {s : Slot} {v : V} {F : List Addr} (h : SlotRep g H E s v F) : noErrS (some s) = true := by
  cases s with
  | sh d => exact Rep.noErr hg h.2
  | dp d => exact Rep.noErr hg (show Rep g H E d v F from h)
variable {ρ : Env} {σ : L2.St}
theorem EnvAt.hold (A : EnvAt g Z E ρ σ H) (n : noErrR ρ = true) : EnvAt (g.hold q) Z E ρ σ H := by
  obtain ⟨Fs, B⟩ := A
  exact ⟨Fs, B.iff, fun i s h => let ⟨v, x, y⟩ := B.row i s h; ⟨v, x, y.hold (noErrR_get n h)⟩, B.emp, B.nd, B.dj, B.dz, B.ki, B.len⟩
theorem EnvAt.noErr (hg : g.held = none) (A : EnvAt g Z E ρ σ H) : noErrR ρ = true := by
  obtain ⟨Fs, B⟩ := A
  refine List.all_eq_true.mpr fun s hs => ?_
  obtain ⟨i, hi⟩ := List.getElem?_of_mem hs
  cases s with
  | none => rfl
  | some s =>
    obtain ⟨v, x, y⟩ := B.row i s hi
    exact y.noErr hg
theorem hold_back (hg : g.held = none) : (g.hold q).hold none = g := by
  obtain ⟨a, b, c, d, e⟩ := g
  cases hg
  rfl
end
end DL
/-! DL28 -/
set_option Elab.async false
set_option linter.all false
set_option maxRecDepth 100000
set_option maxHeartbeats 1000000
namespace DL
open PySem PySem.Spec PyProof.Rows L2

/-! ### try -/
def offR (i : Option Nat) (ρ : Env) : Env := match i with
  | some i => ρ.set i none
  | none => ρ
def onR (i : Option Nat) (c : Str) (xs : List D) (ρ : Env) : Option Env := match i with
  | some i => if i < ρ.length then some (ρ.set i (some (.sh (.err c xs)))) else none
  | none => some ρ
def noErrF : Fl → Bool
  | .rt d => noErr d
  | _ => true
/-- a suite's end: the name goes -/
def endR (i : Option Nat) : R Fl → R Fl
  | .ok fl ρ => if (noErrR (offR i ρ) && noErrF fl) = true then .ok fl (offR i ρ) else .stk
  | _ => .stk
abbrev Hd3 := (Str → Option Bool) × Option Nat × (Env → R Fl)
def hdlM (c : Str) (xs : List D) (ρ : Env) : List Hd3 → R Fl
  | [] => .exc c xs ρ
  | (t, i, m) :: r => match t c with
    | none => .stk
    | some false => hdlM c xs ρ r
    | some true => match onR i c xs ρ with
      | none => .stk
      | some ρ2 => endR i (m ρ2)
def sTry (b : Env → R Fl) (l : List Hd3) : Env → R Fl := fun ρ => match b ρ with
  | .ok fl ρ1 => .ok fl ρ1
  | .exc c xs ρ1 => hdlM c xs ρ1 l
  | .stk => .stk
inductive ClsA (g : Gx) (io : List Nat) (md : Md) : List Cl3 → List Hd3 → Prop
  | nil : ClsA g io md [] []
  | cons {cv : Value} {i : Option Nat} {ts : Addr → Value → Option Addr → TS} {t : Str → Option Bool} {m : Env → R Fl} {l : List Cl3} {lm : List Hd3} (ht : ∀ c b, t c = some b → PySem.W.exmOne g.K (.ref (g.cl c)) cv = some b)
      (hi : ∀ j, i = some j → j ∉ io) (hs : ∀ a cls d, SndS (g.hold (some (a, cls, d))) WF io md (ts a cls d) m) (r : ClsA g io md l lm) : ClsA g io md ((cv, i, ts) :: l) ((t, i, m) :: lm)
section
variable {g : Gx} {W : WX} {io : List Nat} {md : Md} {Z E E1 : Addr → Prop} {σ σ1 : L2.St} {H H1 : Hp} {D' : Ends} {ρ ρ1 : Env}
theorem An.off {i : Option Nat} (hi : ∀ j, i = some j → j ∉ io) : An io σ (offS i σ) := by
  cases i with
  | none => exact An.refl
  | some i => exact An.set (hi i rfl)
theorem An.on {i : Option Nat} {a : Addr} (hi : ∀ j, i = some j → j ∉ io) : An io σ (onS i a σ) := by
  cases i with
  | none => exact An.refl
  | some i => exact An.set (hi i rfl)
theorem EnvAt.off {i : Option Nat} (A : EnvAt g Z E ρ σ H) : ∃ E', EnvAt g Z E' (offR i ρ) (offS i σ) H ∧ ∀ a, E' a → E a := by
  cases i with
  | none => exact ⟨E, A, fun _ h => h⟩
  | some i => exact A.clear' i
theorem Rep.err {c : Str} {xs : List D} {cls : Value} {dd : Option Addr} {a : Addr} (hg : g.held = none) (x : ExcAt g H E c xs cls dd) : Rep (g.hold (some (a, cls, dd))) H E (.err c xs) (.ref a) [] := by
  unfold ExcAt at x
  obtain ⟨rfl, x⟩ := x
  unfold Rep
  refine ⟨a, dd, rfl, rfl, rfl, ?_⟩
  cases xs with
  | nil => exact .inl ⟨rfl, x⟩
  | cons y r =>
    obtain ⟨b, vs, e1, e2, e3, e4⟩ := x
    exact .inr ⟨b, vs, e1, e2, e3, e4.hold (RepL.noErr hg e4)⟩
theorem Post.unhold {q : Option (Addr × Value × Option Addr)} {i : Option Nat} {d : D} {v : V} (hg : g.held = none) (sd : SD md) (p : Post md (g.hold q) Z E ρ σ H d v) (n : noErrR (offR i ρ) = true) (n2 : noErr d = true) : ∃ E', Post md g Z E' (offR i ρ) (offS i σ) H d v ∧ ∀ a, E' a → E a := by
  cases sd with
  | s =>
    obtain ⟨A, r⟩ := p
    obtain ⟨E', A', s⟩ := A.off (i := i)
    have A2 := A'.hold (q := none) n
    rw [hold_back hg] at A2
    have r2 := Rep.hold (q := none) r n2
    rw [hold_back hg] at r2
    exact ⟨E', ⟨A2, r2.keep ⟨fun _ _ h _ => h, fun a h => .inl (s a h)⟩⟩, s⟩
  | d =>
    obtain ⟨F, p⟩ := p
    obtain ⟨E', A', s⟩ := p.env.off (i := i)
    have A2 := A'.hold (q := none) n
    rw [hold_back hg] at A2
    have r2 := Rep.hold (q := none) p.rep n2
    rw [hold_back hg] at r2
    exact ⟨E', ⟨F, A2, r2.keep ⟨fun _ _ h _ => h, fun a h => .inl (s a h)⟩, p.nd, p.dz⟩, s⟩
theorem flK.unhold {q : Option (Addr × Value × Option Addr)} {i : Option Nat} {fl : Fl} {a : Addr} (hg : g.held = none) (sd : SD md) (hi : ∀ j, i = some j → j ∉ io) {E2 : Addr → Prop} (hE : ∀ a, E2 a → E a) (n : noErrR (offR i ρ1) = true) (n2 : noErrF fl = true)
    (h : flK g io md D' Z σ H E fl (offR i ρ1)) : flK (g.hold q) io md (offE i D') Z (onS i a σ) H E2 fl ρ1 := by
  intro σ3 H3 E3 an t
  have an2 : An io σ (offS i σ3) := (An.on hi).trans (an.trans (An.off hi))
  have t2 : ∀ E4 : Addr → Prop, (∀ a, E4 a → E3 a) → Tr Z H E H3 E4 := fun E4 s => ⟨fun b o e z => t.k b o e (z.imp (fun z => fun y => z (hE b y)) fun z => z), fun b y => (t.e b (s b y)).imp (hE b) fun z => z⟩
  cases fl with
  | nx =>
    intro A
    obtain ⟨E4, A4, s⟩ := A.off (i := i)
    have A5 := A4.hold (q := none) n
    rw [hold_back hg] at A5
    exact h (offS i σ3) H3 E4 an2 (t2 E4 s) A5
  | bk =>
    intro A
    obtain ⟨E4, A4, s⟩ := A.off (i := i)
    have A5 := A4.hold (q := none) n
    rw [hold_back hg] at A5
    exact h (offS i σ3) H3 E4 an2 (t2 E4 s) A5
  | ct =>
    intro A
    obtain ⟨E4, A4, s⟩ := A.off (i := i)
    have A5 := A4.hold (q := none) n
    rw [hold_back hg] at A5
    exact h (offS i σ3) H3 E4 an2 (t2 E4 s) A5
  | rt d =>
    intro v p
    obtain ⟨E4, p4, s⟩ := p.unhold (i := i) hg sd n n2
    exact h (offS i σ3) H3 E4 an2 (t2 E4 s) v p4
theorem clauses {l : List Cl3} {lm : List Hd3} (hg : g.held = none) (sd : SD md) (x : ClsA g io md l lm) {c : Str} {xs : List D} (h : (hdlM c xs ρ lm).sat (flK g io md D' Z σ H E) (exK g io W Z σ H E)) :
    exK g io (wCl g.K W D' l) Z σ H E c xs ρ := by
  intro cls dd σ' H' E' an t x' A
  have ec : cls = .ref (g.cl c) := x'.1
  induction x with
  | nil => exact h cls dd σ' H' E' an t x' A
  | @cons cv i ts tt m l lm ht hi hs r ih =>
    unfold hdlM at h
    split at h
    · exact h.elim
    · rename_i e
      exact ⟨false, by rw [ec]; exact ht _ _ e, fun z => (by cases z), fun _ => ih h⟩
    · rename_i e
      refine ⟨true, by rw [ec]; exact ht _ _ e, fun _ a ha => ?_, fun z => (by cases z)⟩
      split at h
      · exact h.elim
      · rename_i ρ2 e2
        have A' := A.hold (q := some (a, cls, dd)) (A.noErr hg)
        have hx : Rep (g.hold (some (a, cls, dd))) H' E' (.err c xs) (.ref a) [] := Rep.err hg x'
        have ent : ∃ E2, EnvAt (g.hold (some (a, cls, dd))) Z E2 ρ2 (onS i a σ') H' ∧ ∀ b, E2 b → E' b := by
          cases i with
          | none => cases e2; exact ⟨E', A', fun _ h => h⟩
          | some i =>
            unfold onR at e2
            dsimp only at e2
            split at e2
            · rename_i hi2
              cases e2
              exact A'.bindS hx hi2
            · cases e2
        obtain ⟨E2, A2, s2⟩ := ent
        refine (hs a cls dd).run _ H' ρ2 Z E2 _ A2 ?_
        cases q : m ρ2 with
        | stk => rw [q] at h; exact h.elim
        | exc c2 xs2 ρ3 => rw [q] at h; exact h.elim
        | ok fl ρ3 =>
          rw [q] at h
          unfold endR at h
          dsimp only at h
          split at h
          · rename_i nn
            obtain ⟨n1, n2⟩ := Bool.and_eq_true_iff.mp nn
            exact flK.unhold hg sd hi s2 n1 n2 (flK.base an t h)
          · exact h.elim
theorem snd_try {tb : WX → TS} {b : Env → R Fl} {l : List Cl3} {lm : List Hd3} (hg : g.held = none) (sd : SD md) (hb : ∀ W', SndS g W' io md (tb W') b) (x : ClsA g io md l lm) : SndS g W io md (fun D σ H => tb (wCl g.K W D l) D σ H) (sTry b lm) := by
  refine ⟨fun σ H ρ Z E D' A h => (hb _).run σ H ρ Z E D' A ?_⟩
  unfold sTry at h
  cases q : b ρ with
  | ok fl ρ1 => rw [q] at h; exact h
  | stk => rw [q] at h; exact h.elim
  | exc c xs ρ1 => rw [q] at h; exact clauses hg sd x h
end
end DL
/-! DL29 -/
set_option Elab.async false
set_option linter.all false
set_option maxRecDepth 100000
set_option maxHeartbeats 1000000
namespace DL
open PySem PySem.Spec PyProof.Rows L2

/-! ### try, in families -/
structure TrI {ι : Type} (X : ι → Cx) (W : WX) where
  i : ι
  pn : List (Addr × Obj)
  xe : Value → Shared → Prop
  tk : Takes ((X i).tr pn xe) W
  po : PassesOwn (model (X i).prog (X i).w) (X i).A (X i).env xe
abbrev trF {ι : Type} (X : ι → Cx) (W : WX) : TrI X W → Cx := fun q => (X q.i).tr q.pn q.xe
structure SuI {ι : Type} (X : ι → Cx) (a : Addr) (cls : Value) (d : Option Addr) where
  i : ι
  oe : Obj
  pn : List (Addr × Obj)
  z : Zc cls d oe
  f : ∃ vs, oe.data = .fields vs
abbrev suF {ι : Type} (X : ι → Cx) (a : Addr) (cls : Value) (d : Option Addr) : SuI X a cls d → Cx := fun q => (X q.i).suite a ((a, q.oe) :: q.pn)
section
variable {ι : Type} {X : ι → Cx} {g : Gx} {W : WX} {k : Nat} {md mo ma mb : Md} {pa pb : Bool} {io : List Nat} {pos p apos : Pos} {e a o : Expr} {das : Env → R (List D)} {n : Nat} {da dob : Env → R D}
theorem FamC.tr (F : FamC X g W k) (W' : WX) : FamC (trF X W') g W' k := ⟨⟨fun q => F.K q.i, fun q => F.un q.i, fun q => q.tk⟩, fun q => F.rm q.i, fun q => F.calm q.i⟩
theorem passes_tr {W' : WX} : ∀ q : TrI X W', PassesOwn (model (trF X W' q).prog (trF X W' q).w) (trF X W' q).A (trF X W' q).env (trF X W' q).xe := fun q => q.po
theorem Fam.su (F : Fam X g W) (a : Addr) (cls : Value) (d : Option Addr) : Fam (suF X a cls d) (g.hold (some (a, cls, d))) WF := ⟨fun q => F.K q.i, fun q => F.un q.i, fun q => takes0⟩
/-- the clauses in a family -/
inductive EvH {ι : Type} (X : ι → Cx) (g : Gx) (io : List Nat) (md : Md) : List ExceptHandler → List Hd3 → Prop
  | nil : EvH X g io md [] []
  | cons {x : Str} {cv : Value} {t : Str → Option Bool} {m : Env → R Fl} {b₀ : Stmt} {suite : List Stmt} {np pos' : Pos} {hds : List ExceptHandler} {l : List Hd3} (hc : ∀ i, Names (X i) x cv) (ht : ∀ c b, t c = some b → PySem.W.exmOne g.K (.ref (g.cl c)) cv = some b)
      (hs : ∀ a cls d, EvSs (suF X a cls d) (g.hold (some (a, cls, d))) WF io md (b₀ :: suite) m) (r : EvH X g io md hds l) : EvH X g io md (.ExceptHandler (some (.Name x np)) none (b₀ :: suite) pos' :: hds) ((t, none, m) :: l)
  | as {x y : Str} (j : Nat) {cv : Value} {t : Str → Option Bool} {m : Env → R Fl} {b₀ : Stmt} {suite : List Stmt} {np pos' : Pos} {hds : List ExceptHandler} {l : List Hd3} (hi : ∀ i, (X i).N[j]? = some y) (hln : ∀ i, (X i).env.kindOf y = some .local) (hj : j ∉ io) (hc : ∀ i, Names (X i) x cv)
      (ht : ∀ c b, t c = some b → PySem.W.exmOne g.K (.ref (g.cl c)) cv = some b)
      (hs : ∀ a cls d, EvSs (suF X a cls d) (g.hold (some (a, cls, d))) WF io md (b₀ :: suite) m) (r : EvH X g io md hds l) : EvH X g io md (.ExceptHandler (some (.Name x np)) (some y) (b₀ :: suite) pos' :: hds) ((t, some j, m) :: l)
theorem EvH.cl {hds : List ExceptHandler} {lm : List Hd3} (h : EvH X g io md hds lm) : ∃ l, ClsA g io md l lm ∧ ∀ i, HdsA (X i) hds l := by
  induction h with
  | nil => exact ⟨[], .nil, fun _ => .nil⟩
  | @cons x cv t m b₀ suite np pos' hds l hc ht hs r ih =>
    obtain ⟨l', c1, c2⟩ := ih
    refine ⟨(cv, none, fun a cls d => Classical.choose (hs a cls d)) :: l', .cons ht (fun j e => by cases e) (fun a cls d => (Classical.choose_spec (hs a cls d)).2) c1, fun i => .cons (hc i) (fun a oe cls d pn z f => (Classical.choose_spec (hs a cls d)).1 ⟨i, oe, pn, z, f⟩) (c2 i)⟩
  | @as x y j cv t m b₀ suite np pos' hds l hi hln hj hc ht hs r ih =>
    obtain ⟨l', c1, c2⟩ := ih
    refine ⟨(cv, some j, fun a cls d => Classical.choose (hs a cls d)) :: l', .cons ht (fun j' e => by cases e; exact hj) (fun a cls d => (Classical.choose_spec (hs a cls d)).2) c1, fun i => .as (hi i) (hln i) (hc i) (fun a oe cls d pn z f => (Classical.choose_spec (hs a cls d)).1 ⟨i, oe, pn, z, f⟩) (c2 i)⟩
theorem s_try (F : FamC X g W k) (hg : g.held = none) (hN : ∀ i, (X i).N.Nodup) {body : List Stmt} {h₀ : ExceptHandler} {hds : List ExceptHandler} {b : Env → R Fl} {lm : List Hd3} (hb : ∀ W', EvSs (trF X W') g W' io md body b) (hh : EvH X g io md (h₀ :: hds) lm) (sd : SD md := by constructor)
    (hs : ∀ i, (X i).stack = (X i).env :: (X i).outer := by intro _; rfl) (hf : ∀ i, (X i).env.frame = some (X i).env.locals := by intro _; rfl) :
    EvS X g W io md (.Try body (h₀ :: hds) [] [] pos) (sTry b lm) := by
  obtain ⟨l, c1, c2⟩ := hh.cl
  refine ⟨fun D σ H => (Classical.choose (hb (wCl g.K W D l))) D σ H, fun i => ?_, snd_try (tb := fun W' => Classical.choose (hb W')) hg sd (fun W' => (Classical.choose_spec (hb W')).2) c1⟩
  have z := ps_try_cl (pos := pos) (tb := fun W' => Classical.choose (hb W')) (hs i) (hf i) (hN i) (F.tk i) (fun W' pn xe tk po => (Classical.choose_spec (hb W')).1 ⟨i, pn, xe, tk, po⟩) (c2 i)
  rw [F.K i] at z
  exact z
end
end DL
/-! DL30 -/
set_option Elab.async false
set_option linter.all false
set_option maxRecDepth 100000
set_option maxHeartbeats 4000000
namespace PySem.W
open PySem PySem.Spec PySem.Calls PyProof.Rows
section
variable {prog : Program} {w : World} {A : Around} {E : Value → Shared → Prop} {s : Shared} {K : Frag} {x D : Addr} {ox : Obj} {od : Option Obj}
/-- HandS.ExcIs has these for an exception without a dict; here with one -/
theorem dl_findObj {C : Addr} {name : Str} {a g : Value} (hc : (clsIn K C).isSome = true) (ha : findIn K (.ref C) name = some (some a)) (hg : specialIn K a "__get__" = some (some g)) (ht : takesIn K a = some true) : findObj K C od name = some (.bind g a) := by
  obtain ⟨cd, hc⟩ := Option.isSome_iff_exists.mp hc
  unfold findObj
  rw [hc, Option.bind_some, ha, Option.bind_some]
  simp [hg, ht]
theorem dl_kin {Q : Option Value → Shared → Prop} (T : L2.ExcC K D) (X : K.In s.heap) (I : InstAt s.heap x ox D od) (h : Q (some (.ref D)) { s with toks := s.toks + 1 }) : wpAny (model prog w) A (getAttr? (.ref x) "__class__") Q E s := by
  have hf : findObj K D od "__class__" = some (.bind (.builtin "getset_descriptor.__get__") (.builtin "object.__class__")) := dl_findObj (by obtain ⟨cd, hc, _⟩ := any_some T.hd; rw [hc]; rfl) T.ha T.hn T.ht
  obtain ⟨hp, g, d, t, os⟩ := s
  have L0 := I.type (M := model prog w)
  have L1 := looks_findIn (M := model prog w) X T.hg
  have L2 := looks_findIn (M := model prog w) X T.hk
  have L3 := looks_find (M := model prog w) X I hf
  have sub : Looks (model prog w) hp (isInstance (.ref x) (.type "BaseException")) true := L0.andThen (looks_subIn X T.hs)
  have hx0 : (false && onTheHeap (Value.builtin "BaseException.__getattribute__")) = false := rfl
  have hx2 : (Value.builtin "BaseException.__getattribute__" == Value.builtin "object.__getattribute__") = false := by decide +kernel
  have hx1 : (onTheHeap (Value.ref D) && Value.builtin "BaseException.__getattribute__" == Value.builtin "object.__getattribute__") = false := by rw [hx2]; rfl
  unfold getAttr? getAttrBy? getAttrBy
  refine wpAny_bind (wpAny_mkText (wpAny_bind (wpAny_attempt (wpAny_holding (wpAny_bind (L0.at (wpAny_bind (L1.at ?_))))))))
  show wpAny _ _ (if (onTheHeap (Value.ref D) && Value.builtin "BaseException.__getattribute__" == Value.builtin "object.__getattribute__") = true then _ else _) _ _ _
  rw [hx1, if_neg Bool.false_ne_true]
  unfold getAttrByItsOwn hookBefore
  refine wpAny_bind ?_
  rw [if_pos (show onTheHeap (Value.ref D) = true from rfl)]
  refine L2.at ?_
  refine wpAny_bind (wpAny_attempt (wpAny_holding ?_))
  unfold callGetattribute
  rw [hx0, if_neg Bool.false_ne_true]
  unfold boundAndCalled
  rw [PySem.F.excAttr_ValueError.ga.bind (.ref x)]
  refine wpAny_bind (wpAny_pure ?_)
  show wpAny _ _ (call (.builtin "BaseException.__getattribute__") [.ref x, .str "__class__" t]) _ _ _
  refine wpAny_call (codeAny_call_builtin PySem.F.excAttr_ValueError.ga.plain PySem.F.entry_bexc_ga ?_)
  refine @check_slot (model prog w) _ _ ⟨hp, g, d, t + 1, os⟩ "BaseException.__getattribute__" "BaseException" "__getattribute__" (.ref x) [.str "__class__" t] [] _ (by decide +kernel) (by decide +kernel) sub (PySem.F.args_bexc_ga (.ref x) (.str "__class__" t)) ?_
  unfold Builtin.«object.__getattribute__»
  refine wpAny_bind (wpAny_of_eq (a := ((Value.ref x : Value), [Value.str "__class__" t])) (by first | rfl | (simp only [slotArgs]; rfl)) ?_)
  refine wpAny_bind (wpAny_pure (wpAny_bind (L0.at (wpAny_bind (L3.at ?_)))))
  show wpAny _ _ (holding [Value.builtin "object.__class__"] (call (.builtin "getset_descriptor.__get__") [.builtin "object.__class__", .ref x, .ref D]) >>= ret) _ _ _
  refine wpAny_bind (wpAny_holding (wpAny_call (class_get (s := ⟨hp, g, d, t + 1, os⟩) (ox := ox) (od := od) X I T.hm ?_)))
  refine wpAny_pure ?_
  show wpAny _ _ (handedOut (.ref D)) _ _ _
  rw [handedOut_of (v := .ref D) rfl]
  first
    | exact wpAny_pure (wpAny_pure h)
    | exact wpAny_pure h
    | exact wpAny_pure (wpAny_bind (wpAny_pure (wpAny_pure h)))
theorem dl_kitx (T : L2.ExcC K D) : KitX K (.ref x) (.ref D) (fun h => ∃ od, InstAt h x ox D od) where
  ty := fun _ _ _ I => let ⟨_, I⟩ := I; I.type
  it := fun _ _ X _ => by
    obtain ⟨cdD, hcD, _⟩ := any_some T.hd
    unfold clsIn at hcD
    split at hcD
    · rename_i c' d' cd' sl' ho
      intro A' Q' E' s' k q
      unfold isType loadHead
      exact wpAny_bind (wpAny_loadPart (k _ _ (X _ _ ho)) (wpAny_pure q))
    · cases hcD
  ne := fun h tp dd its n sl X htp => by
    obtain ⟨cdD, hcD, _⟩ := any_some T.hd
    refine Bool.eq_false_iff.mpr fun q => ?_
    have e : D = tp := Value.ref.inj (beq_iff_eq.mp q)
    subst e
    unfold clsIn at hcD
    split at hcD
    · rename_i c' d' cd' sl' ho
      have z := (X _ _ ho).symm.trans htp
      cases z
    · cases hcD
  ca := fun X I k => let ⟨_, I⟩ := I; dl_kin T X I k
end
end PySem.W
namespace DL
open PySem PySem.Spec PyProof.Rows L2
theorem call_isX {X : Cx} {a D : Addr} {d : Option Addr} {oe : Obj} {pn : List (Addr × Obj)} (C : ExcC X.K D) (hz : Zc (.ref D) d oe) (hf : ∃ vs, oe.data = .fields vs) :
    CallR (X.suite a ((a, oe) :: pn)) (.builtin "isinstance") (fun xs H Q => (∀ dd, d = some dd → ∃ fs, H dd = some (.xd fs)) ∧ rIsE X.K D a xs H Q) := by
  intro pins s σ H xs us Q I r h
  obtain ⟨hdd, c, cv, b, rfl, hcv, e, q⟩ := h
  cases r with
  | cons rx rr =>
    cases rr with
    | cons rt rr =>
      cases rr
      cases rx
      have ec := hcv _ rt
      subst ec
      obtain ⟨hget, _⟩ := I.pin (a, oe) (List.mem_append.mpr (.inl List.mem_cons_self))
      obtain ⟨vs, hv⟩ := hf
      have J : ∃ od, PySem.W.InstAt s.heap a oe D od := by
        obtain ⟨oc, od, oda, osl⟩ := oe
        obtain ⟨h1, h2⟩ := hz
        dsimp only at h1 h2 hv
        subst h1 h2 hv
        cases od with
        | none => exact ⟨none, hget, rfl, rfl, trivial⟩
        | some dd =>
          obtain ⟨fs, hfs⟩ := hdd dd rfl
          have hx : ObjOk X.prog X.w H s.heap dd (.xd fs) := I.hok dd _ hfs
          obtain ⟨mA, hns, hr⟩ := hx
          obtain ⟨od, ho, hl⟩ := lookIn_ns hns
          exact ⟨some od, hget, rfl, rfl, ho⟩
      exact PySem.W.kia_one (PySem.W.dl_kitx C) I.kIn J e (fun z => nomatch z) fun tk => ⟨.bl b, H, I.kept (t' := tk) fun _ _ z => z, rfl, q⟩
end DL
/-! DL31 -/
set_option Elab.async false
set_option linter.all false
set_option maxRecDepth 100000
set_option maxHeartbeats 1000000
namespace DL
open PySem PySem.Spec PyProof.Rows L2

/-- what is known of the own errors' classes -/
structure ErrOk (g : Gx) (et : List (Str × List Str)) : Prop where
  ok : ∀ c fs, et.lookup c = some fs → g.ef c = fs ∧ XfC g.K (g.cl c) ∧ ExcC g.K (g.cl c) ∧ ∀ f ∈ fs, PySem.W.findIn g.K (.ref (g.cl c)) f = some none
/-- e.f, e the held error -/
def dErrF (et : List (Str × List Str)) (j : Nat) (f : Str) : Env → R D := fun ρ => match ρ[j]? with
  | some (some (.sh (.err c xs))) => (match et.lookup c with
    | some fs => if f ∈ fs then (match getF fs xs f with | some d => if noErr d = true then .ok d ρ else .stk | none => .stk) else .stk
    | none => .stk)
  | _ => .stk
/-- isinstance(e, T) -/
def dErrI (et : List (Str × List Str)) (j : Nat) (t : Str → Option Bool) : Env → R D := fun ρ => match ρ[j]? with
  | some (some (.sh (.err c xs))) => (match et.lookup c, t c with
    | some _, some b => .ok (.bl b) ρ
    | _, _ => .stk)
  | _ => .stk
section
variable {ι : Type} {X : ι → Cx} {g : Gx} {W : WX} {et : List (Str × List Str)} {j : Nat} {f y : Str} {a : Addr} {cls : Value} {d : Option Addr} {p p1 p2 pos : Pos}
theorem held_at {H : Hp} {E Z : Addr → Prop} {ρ : Env} {σ : L2.St} {c : Str} {xs : List D} (A : EnvAt (g.hold (some (a, cls, d))) Z E ρ σ H) (h : ρ[j]? = some (some (.sh (.err c xs)))) :
    σ[j]? = some (some (.ref a)) ∧ cls = .ref (g.cl c) ∧ ((xs = [] ∧ d = none) ∨ ∃ b vs, d = some b ∧ H b = some (.xd ((g.ef c).zip vs)) ∧ (g.ef c).length = vs.length ∧ RepL (g.hold (some (a, cls, d))) H E xs vs []) := by
  obtain ⟨v, e, r⟩ := A.get h
  unfold Rep at r
  obtain ⟨a', dd, rfl, e2, _, r⟩ := r
  have e2 : some (a, cls, d) = some (a', Value.ref (g.cl c), dd) := e2
  cases e2
  exact ⟨e, rfl, r⟩
theorem e_errF (F : Fam X g W) (eo : ErrOk g et) (j : Nat) (hN : ∀ i, (X i).N[j]? = some y := by intro _; rfl) (hv : ∀ i, Vis (X i).env.scope y := by intro _; first | exact Or.inl rfl | exact Or.inr (Or.inl rfl) | exact Or.inr (Or.inr rfl))
    (hd : (y == ("__debug__" : Str)) = false := by decide) (hcd : (y == ("__classdict__" : Str)) = false := by decide) (hb : ∀ i, attributeBase (.Name y p1) f (X i).env (eval (.Name y p1) (X i).env) = eval (.Name y p1) (X i).env := by intro _; rfl) :
    EvE (suF X a cls d) (g.hold (some (a, cls, d))) WF true .S (.Attribute (.Name y p1) f p2) (dErrF et j f) := by
  have pv : ∀ q : SuI X a cls d, PE (suF X a cls d q) (.Name y p1) (tVar j) := fun q => pe_var (X := suF X a cls d q) (hN q.i) (hv q.i) hd hcd
  have pr : true = true → ∀ ρ dd ρ', dErrF et j f ρ = .ok dd ρ' → ρ' = ρ := fun _ ρ dd ρ' h => by
    unfold dErrF at h
    split at h
    · split at h
      · split at h
        · split at h
          · split at h
            · cases h; rfl
            · cases h
          · cases h
        · cases h
      · cases h
    · cases h
  by_cases hC : ∃ C, cls = .ref C ∧ XfC g.K C ∧ PySem.W.findIn g.K (.ref C) f = some none
  · obtain ⟨C, ec, T, hno⟩ := hC
    refine ⟨tXf a cls d C f (tVar j), fun q => pe_xf (by rw [F.K q.i]; exact T) (by rw [F.K q.i]; exact hno) q.z q.f (pv q) (hb q.i), pr, fun σ H ρ Z E Q A h => ?_⟩
    unfold dErrF at h
    split at h
    · rename_i c xs e
      obtain ⟨e1, e2, e3⟩ := held_at A e
      split at h
      · rename_i fs e4
        obtain ⟨k1, k2, k3, k4⟩ := eo.ok _ _ e4
        split at h
        · split at h
          · rename_i dv e5
            split at h
            · rename_i ne
              refine ⟨_, e1, rfl, ec, ?_⟩
              rcases e3 with ⟨rfl, e3⟩ | ⟨b, vs, e3, e6, e7, e8⟩
              · exfalso
                have : getF fs [] f = none := by cases fs <;> rfl
                rw [this] at e5; cases e5
              · rw [k1] at e6 e7
                obtain ⟨v, F', l, r, s⟩ := getF_val e7 e8 e5
                have eF : F' = [] := by
                  cases F' with
                  | nil => rfl
                  | cons z zs => exact absurd (s z List.mem_cons_self) (by simp)
                subst eF
                exact ⟨b, _, v, e3, e6, l, h v H E ⟨A, r⟩ Tr.refl fun _ => Same.refl H⟩
            · exact h.elim
          · exact h.elim
        · exact h.elim
      · exact h.elim
    · exact h.elim
  · refine ⟨fun _ _ _ => False, fun q => ⟨fun pins s σ H Q I h => h.elim⟩, pr, fun σ H ρ Z E Q A h => hC ?_⟩
    unfold dErrF at h
    split at h
    · rename_i c xs e
      obtain ⟨e1, e2, e3⟩ := held_at A e
      split at h
      · rename_i fs e4
        obtain ⟨k1, k2, k3, k4⟩ := eo.ok _ _ e4
        split at h
        · rename_i m
          exact ⟨_, e2, k2, k4 f m⟩
        · exact h.elim
      · exact h.elim
    · exact h.elim
theorem e_errI (F : Fam X g W) (eo : ErrOk g et) (j : Nat) {b : Expr} {cv : V} {u : Value} {t : Str → Option Bool} (hmi : ∀ i, (X i).mg "isinstance" = none) (hT : ∀ q : SuI X a cls d, PE (suF X a cls d q) b (tC cv)) (hc : ClsV cv u) (hk : ∀ c k, t c = some k → PySem.W.kitOne g.K (.ref (g.cl c)) u = some k)
    (hN : ∀ i, (X i).N[j]? = some y := by intro _; rfl) (hv : ∀ i, Vis (X i).env.scope y := by intro _; first | exact Or.inl rfl | exact Or.inr (Or.inl rfl) | exact Or.inr (Or.inr rfl))
    (hd : (y == ("__debug__" : Str)) = false := by decide) (hcd : (y == ("__classdict__" : Str)) = false := by decide)
    (hg : ∀ i, Gl (X i) "isinstance" := by intro _; rfl) (he : ∀ i, starEach [.Name y p1, b] (X i).env = (false, eval (.Name y p1) (X i).env) :: starEach [b] (X i).env := by intro _; rfl) (he2 : ∀ i, starEach [b] (X i).env = (false, eval b (X i).env) :: starEach [] (X i).env := by intro _; rfl)
    (hpl : ∀ i, (backTo pos (starEach [b] (X i).env)).any (·.1) = false := by intro _; rfl) :
    EvE (suF X a cls d) (g.hold (some (a, cls, d))) WF true .S (.Call (.Name "isinstance" p) [.Name y p1, b] [] pos) (dErrI et j t) := by
  have pv : ∀ q : SuI X a cls d, PE (suF X a cls d q) (.Name y p1) (tVar j) := fun q => pe_var (X := suF X a cls d q) (hN q.i) (hv q.i) hd hcd
  have pr : true = true → ∀ ρ dd ρ', dErrI et j t ρ = .ok dd ρ' → ρ' = ρ := fun _ ρ dd ρ' h => by
    unfold dErrI at h
    split at h
    · split at h
      · cases h; rfl
      · cases h
    · cases h
  by_cases hC : ∃ C, cls = .ref C ∧ ExcC g.K C
  · obtain ⟨C, ec, T⟩ := hC
    subst ec
    refine ⟨tCB (fun xs H Q => (∀ dd, d = some dd → ∃ fs, H dd = some (.xd fs)) ∧ rIsE g.K C a xs H Q) (tCons (tVar j) (tCons (tC cv) tNil)), fun q => ?_, pr, fun σ H ρ Z E Q A h => ?_⟩
    · have z := pe_callB (X := suF X a (.ref C) d q) (x := "isinstance") (p := p) (pos := pos) (call_isX (X := X q.i) (a := a) (pn := q.pn) (d := d) (D := C) (by rw [F.K q.i]; exact T) q.z q.f) (hg q.i) (hmi q.i) boot_isinstance (pa_cons (pv q) (pa_cons (hT q) pa_nil (he2 q.i)) (he q.i)) (by decide) (by decide) (he q.i) (hpl q.i)
      rw [F.K q.i] at z
      exact z
    · unfold dErrI at h
      split at h
      · rename_i c xs e
        obtain ⟨e1, e2, e3⟩ := held_at A e
        split at h
        · rename_i e4 e5
          refine ⟨.ref a, e1, ?_⟩
          have ec : C = g.cl c := Value.ref.inj e2
          refine ⟨fun dd ed => ?_, cv, u, _, rfl, (fun w rw => by cases hc <;> exact rw), by rw [ec]; exact hk _ _ e5, h _ H E ⟨A, rep_bl _⟩ Tr.refl fun _ => Same.refl H⟩
          rcases e3 with ⟨_, e3⟩ | ⟨b, vs, e3, e6, _⟩
          · rw [e3] at ed; cases ed
          · rw [e3] at ed; cases ed; exact ⟨_, e6⟩
        · exact h.elim
      · exact h.elim
  · refine ⟨fun _ _ _ => False, fun q => ⟨fun pins s σ H Q I h => h.elim⟩, pr, fun σ H ρ Z E Q A h => hC ?_⟩
    unfold dErrI at h
    split at h
    · rename_i c xs e
      obtain ⟨e1, e2, e3⟩ := held_at A e
      split at h
      · rename_i e4 e5
        exact ⟨_, e2, (eo.ok _ _ e4).2.2.1⟩
      · exact h.elim
    · exact h.elim
end
end DL
/-! DL32 -/
set_option Elab.async false
set_option linter.all false
set_option maxRecDepth 100000
set_option maxHeartbeats 1000000
namespace DL
open PySem PySem.Spec PyProof.Rows L2

/-! ### the head: checks of one's own -/
abbrev Chk := PySem.W.Frag → List Bool
def obsC (chk : Chk) (fn : List He.DefD) (K : PySem.W.Frag) : He.AlD := ((chk K).all id && fn.all fun d => d.ok K, fn.map fun d => He.fnW K d.at_)
def SaysC (chk : Chk) (fn : List He.DefD) (K : PySem.W.Frag) : Prop := obsC chk fn K = He.valD fn
def obsCG (n : Nat) (chk : Chk) (fn : List He.DefD) (g : Addr → Option Obj) : He.AlD := obsC chk fn (He.frG g (He.asD g n))
def hookC (n : Nat) (chk : Chk) (fn : List He.DefD) : PySem.W.Hook where
  α := He.AlD
  obs := fun s => obsCG n chk fn s.heap.get?
  val := fun _ => He.valD fn
  says := fun _ h => ∃ K : PySem.W.Frag, K.In h ∧ SaysC chk fn K
  of := fun _ _ e => ⟨_, He.frG_in, e⟩
  keeps := fun _ _ _ ⟨K, hK, c⟩ k => ⟨K, PySem.W.Frag.In.keeps hK k, c⟩
theorem obsCG_eq {n : Nat} {chk : Chk} {fn : List He.DefD} {g : Addr → Option Obj} {s : Shared} (h : ∀ a, g a = s.heap.get? a) : obsCG n chk fn g = (hookC n chk fn).obs s := by
  have e : g = s.heap.get? := funext h
  rw [e] <;> rfl
section
variable {chk : Chk} {fn : List He.DefD} {K : PySem.W.Frag}
theorem SaysC.all (c : SaysC chk fn K) : ∀ b ∈ chk K, b = true := fun b hb => by
  have c1 := (He.ba (show ((chk K).all id && fn.all fun d => d.ok K) = true from congrArg (fun z : He.AlD => z.1) c)).1
  exact List.all_eq_true.mp c1 b hb
theorem SaysC.def_ (c : SaysC chk fn K) (i : Nat) {d : He.DefD} (h : fn[i]? = some d := by rfl) : ∃ fd, FunD K d.name d.qual d.params d.body d.scope (d.dvs K) (d.kws K) (He.fAd K d.at_) fd := by
  have c2 := (He.ba (show ((chk K).all id && fn.all fun d => d.ok K) = true from congrArg (fun z : He.AlD => z.1) c)).2
  have e : fn.map (fun d => He.fnW K d.at_) = fn.map He.DefD.val := congrArg (fun z : He.AlD => z.2) c
  have e2 : (fn.map fun d => He.fnW K d.at_)[i]? = (fn.map He.DefD.val)[i]? := by rw [e]
  rw [List.getElem?_map, List.getElem?_map, h] at e2
  exact He.DefD.funD (Option.some.inj e2) (List.all_eq_true.mp c2 d (List.mem_of_getElem? h))
end
/-! the checks -/
def kGlo (K : PySem.W.Frag) (x : Str) (a : Addr) : Bool := He.eqO (PySem.W.nsIn K mainGlobals x) (some (some (.ref a)))
def kFind (K : PySem.W.Frag) (C : Addr) (m : Str) (r : Option (Option Value)) : Bool := He.eqO (PySem.W.findIn K (.ref C) m) r
def kCls (K : PySem.W.Frag) (C : Addr) : Bool := PySem.W.plainGet K C Str.empty && (PySem.W.hasDictIn K C && (PySem.W.plainOver K C && kFind K C "__setattr__" (some (some (.builtin "object.__setattr__")))))
def kMeth (K : PySem.W.Frag) (C : Addr) (m : Str) (f : Addr) : Bool := kFind K C m (some (some (.ref f))) && (PySem.W.isFn K (.ref f) && PySem.W.keepIn K (.ref f))
def kMk (K : PySem.W.Frag) (C f : Addr) : Bool := PySem.W.makesIn K C && (kFind K C "__init__" (some (some (.ref f))) && (PySem.W.isFn K (.ref f) && PySem.W.keepIn K (.ref C)))
def kTypeFn (K : PySem.W.Frag) (f : Addr) : Bool := decide (PySem.W.typeIn K (.ref f) = some (.type "function"))
def kOex (K : PySem.W.Frag) (C : Addr) : Bool := (match K.lookup C with
  | some ⟨.type "type", _, .cls cd, sl⟩ => (match cd.mro, sl.toList with
    | .ref C' :: bm, [_, _, _, _, some (.builtin n), _] => C' == C && n == "ValueError.__new__" && !cd.hasDel && cd.hasDict && PySem.HandSPX.refsVE bm
    | _, _ => false)
  | _ => false) && (kFind K C "__setattr__" (some (some (.builtin "object.__setattr__"))) && (decide (PySem.W.subIn K (.ref C) (.type "BaseException") = some true) && (decide (PySem.W.typeIn K (.ref C) = some (.type "type")) && PySem.W.keepIn K (.ref C))))
def kExc (K : PySem.W.Frag) (C : Addr) : Bool := PySem.W.excIn K C He.veBase "ValueError.__new__" && (PySem.W.keepIn K (.ref C) && (decide (PySem.W.subIn K (.ref C) (.type "BaseException") = some true) && decide (PySem.W.typeIn K (.ref C) = some (.type "type"))))
def kExcC (K : PySem.W.Frag) (C : Addr) : Bool := kFind K C "__getattribute__" (some (some (.builtin "BaseException.__getattribute__"))) && (kFind K C "__getattr__" (some none) && (decide (PySem.W.subIn K (.ref C) (.type "BaseException") = some true) && (PySem.W.hasDictIn K C && (kFind K C "__class__" (some (some (.builtin "object.__class__"))) &&
  (decide (PySem.W.specialIn K (.builtin "object.__class__") "__get__" = some (some (.builtin "getset_descriptor.__get__"))) && (decide (PySem.W.takesIn K (.builtin "object.__class__") = some true) && decide (PySem.W.mroIn K C (.type "object") = some true)))))))
section
variable {K : PySem.W.Frag} {C f : Addr} {m x : Str} {h : Heap} {mg : Str → Option Value}
theorem kGlo_ok (X : K.In h) (G : h.Ns mainGlobals mg) {a : Addr} (c : kGlo K x a = true) : mg x = some (.ref a) := PySem.W.mg_of X G (He.eqO_ok c)
theorem kFind_ok {r : Option (Option Value)} (c : kFind K C m r = true) : PySem.W.findIn K (.ref C) m = r := He.eqO_ok c
theorem kCls_ok (c : kCls K C = true) : Cls K C := by
  obtain ⟨c1, c⟩ := He.ba c
  obtain ⟨c2, c⟩ := He.ba c
  obtain ⟨c3, c4⟩ := He.ba c
  exact ⟨c1, c2, c3, kFind_ok c4⟩
theorem kMeth_ok (c : kMeth K C m f = true) : Meth K C m f := by
  obtain ⟨c1, c⟩ := He.ba c
  obtain ⟨c2, c3⟩ := He.ba c
  exact ⟨kFind_ok c1, c2, c3⟩
theorem kMk_ok (c : kMk K C f = true) : Mk K C f := by
  obtain ⟨c1, c⟩ := He.ba c
  obtain ⟨c2, c⟩ := He.ba c
  obtain ⟨c3, c4⟩ := He.ba c
  exact ⟨c1, kFind_ok c2, c3, c4⟩
theorem kOex_ok (c : kOex K C = true) : OexC K C := by
  obtain ⟨c1, c⟩ := He.ba c
  obtain ⟨c2, c⟩ := He.ba c
  obtain ⟨c3, c⟩ := He.ba c
  obtain ⟨c4, c5⟩ := He.ba c
  refine ⟨?_, kFind_ok c2, of_decide_eq_true c3, of_decide_eq_true c4, c5⟩
  split at c1
  · rename_i dd cd sl ho
    split at c1
    · rename_i C' bm k0 k1 k2 k3 n k5 hm hs
      simp only [Bool.and_eq_true, beq_iff_eq, Bool.not_eq_true'] at c1
      obtain ⟨⟨⟨⟨rfl, rfl⟩, hdel⟩, hdc⟩, ht⟩ := c1
      obtain ⟨nm, bs, mro, ns, qn, hd, sn, sub, ab, col, del⟩ := cd
      dsimp only at hm hdel hdc
      subst hm hdel hdc
      have hsl : sl = #[k0, k1, k2, k3, some (.builtin "ValueError.__new__"), k5] := by
        obtain ⟨l⟩ := sl
        simp only at hs
        rw [hs]
      subst hsl
      exact ⟨_, _, _, _, _, _, _, _, _, _, _, _, _, _, _, ho, ht⟩
    · cases c1
  · cases c1
theorem kExc_ok {g : Gx} {c : Str} (q : kExc g.K (g.cl c) = true) : ExcC0 g c := by
  obtain ⟨c1, q⟩ := He.ba q
  obtain ⟨c2, q⟩ := He.ba q
  obtain ⟨c3, c4⟩ := He.ba q
  exact ⟨c1, c2, of_decide_eq_true c3, of_decide_eq_true c4⟩
theorem kExcC_ok (c : kExcC K C = true) : ExcC K C := by
  obtain ⟨c1, c⟩ := He.ba c
  obtain ⟨c2, c⟩ := He.ba c
  obtain ⟨c3, c⟩ := He.ba c
  obtain ⟨c4, c⟩ := He.ba c
  obtain ⟨c5, c⟩ := He.ba c
  obtain ⟨c6, c⟩ := He.ba c
  obtain ⟨c7, c8⟩ := He.ba c
  exact ⟨kFind_ok c1, kFind_ok c2, of_decide_eq_true c3, c4, kFind_ok c5, of_decide_eq_true c6, of_decide_eq_true c7, of_decide_eq_true c8⟩
end
end DL
namespace DL
open PySem PySem.Spec PyProof.Rows L2
def kIns (K : PySem.W.Frag) (C : Addr) : Bool := kCls K C && (kFind K C "__class__" (some (some (.builtin "object.__class__"))) && (decide (PySem.W.specialIn K (.builtin "object.__class__") "__get__" = some (some (.builtin "getset_descriptor.__get__"))) &&
  (decide (PySem.W.takesIn K (.builtin "object.__class__") = some true) && decide (PySem.W.mroIn K C (.type "object") = some true))))
def kApart (g : Gx) (cs : List Str) : Bool := cs.all fun c => cs.all fun c' => decide (c = c') || !decide (g.cl c = g.cl c')
def kFld (g : Gx) (tab : List (Str × List Str)) : Bool := tab.all fun p => kCls g.K (g.cl p.1) && p.2.all fun f => kFind g.K (g.cl p.1) f (some none)
def tagsOf (cs : List Str) : List Tg := [.non, .bl, .int, .str, .lst, .tup, .dic] ++ cs.map .ins
def kIsi (g : Gx) (cs : List Str) (f : Tg → Option Bool) (u : Value) : Bool := (tagsOf cs).all fun t => match f t with
  | some b => decide (PySem.W.kitOne g.K (tgV g t) u = some b)
  | none => true
def kIsi2 (g : Gx) (cs : List Str) (f : Tg → Option Bool) (us : List Value) : Bool := (tagsOf cs).all fun t => match f t with
  | some b => decide (PySem.W.kitAny g.K (tgV g t) us = some b)
  | none => true
def kErr (g : Gx) (et : List (Str × List Str)) : Bool := et.all fun p => decide (g.ef p.1 = p.2) && (xfB g.K (g.cl p.1) && (kExcC g.K (g.cl p.1) && p.2.all fun f => kFind g.K (g.cl p.1) f (some none)))
def kKit (g : Gx) (et : List (Str × Bool)) (u : Value) : Bool := et.all fun p => decide (PySem.W.kitOne g.K (.ref (g.cl p.1)) u = some p.2)
def kExm (g : Gx) (et : List (Str × Bool)) (u : Value) : Bool := et.all fun p => decide (PySem.W.exmOne g.K (.ref (g.cl p.1)) u = some p.2)
section
variable {g : Gx} {cs : List Str} {f : Tg → Option Bool} {u : Value} {us : List Value}
theorem kIns_ok {K : PySem.W.Frag} {C : Addr} (c : kIns K C = true) : InsOk K C := by
  obtain ⟨c1, c⟩ := He.ba c
  obtain ⟨c2, c⟩ := He.ba c
  obtain ⟨c3, c⟩ := He.ba c
  obtain ⟨c4, c5⟩ := He.ba c
  exact ⟨kCls_ok c1, kFind_ok c2, of_decide_eq_true c3, of_decide_eq_true c4, of_decide_eq_true c5⟩
theorem kApart_ok (c : kApart g cs = true) : ClsApart g cs := fun a b ha hb ne e => by
  have z := List.all_eq_true.mp (List.all_eq_true.mp c a ha) b hb
  rw [decide_eq_false ne, decide_eq_true e] at z
  cases z
theorem kFld_ok {tab : List (Str × List Str)} (c : kFld g tab = true) : FldOk g tab := fun a f h => by
  obtain ⟨p, hp, q⟩ := List.any_eq_true.mp h
  obtain ⟨q1, q2⟩ := He.ba q
  have e := of_decide_eq_true q1
  subst e
  obtain ⟨z1, z2⟩ := He.ba (List.all_eq_true.mp c p hp)
  exact ⟨kCls_ok z1, kFind_ok (List.all_eq_true.mp z2 f (of_decide_eq_true q2))⟩
theorem tags_mem {t : Tg} {b : Bool} (hf : ∀ c, c ∉ cs → f (.ins c) = none) (h : f t = some b) : t ∈ tagsOf cs := by
  unfold tagsOf
  cases t with
  | ins c =>
    by_cases hc : c ∈ cs
    · exact List.mem_append_right _ (List.mem_map.mpr ⟨c, hc, rfl⟩)
    · rw [hf c hc] at h; cases h
  | _ => exact List.mem_append_left _ (by simp)
theorem kIsi_ok (hi : cs.all (fun c => kIns g.K (g.cl c)) = true) (c : kIsi g cs f u = true) (hf : ∀ c, c ∉ cs → f (.ins c) = none) : ∀ t b, f t = some b → PySem.W.kitOne g.K (tgV g t) u = some b ∧ ∀ c, t = .ins c → InsOk g.K (g.cl c) := fun t b h => by
  have m := tags_mem hf h
  have z := List.all_eq_true.mp c t m
  rw [h] at z
  refine ⟨of_decide_eq_true z, fun c e => ?_⟩
  subst e
  by_cases hc : c ∈ cs
  · exact kIns_ok (List.all_eq_true.mp hi c hc)
  · rw [hf c hc] at h; cases h
theorem kIsi2_ok (hi : cs.all (fun c => kIns g.K (g.cl c)) = true) (c : kIsi2 g cs f us = true) (hf : ∀ c, c ∉ cs → f (.ins c) = none) : ∀ t b, f t = some b → PySem.W.kitAny g.K (tgV g t) us = some b ∧ ∀ c, t = .ins c → InsOk g.K (g.cl c) := fun t b h => by
  have m := tags_mem hf h
  have z := List.all_eq_true.mp c t m
  rw [h] at z
  refine ⟨of_decide_eq_true z, fun c e => ?_⟩
  subst e
  by_cases hc : c ∈ cs
  · exact kIns_ok (List.all_eq_true.mp hi c hc)
  · rw [hf c hc] at h; cases h
theorem lookup_mem {α : Type} : ∀ {l : List (Str × α)} {c : Str} {v : α}, l.lookup c = some v → (c, v) ∈ l
  | [], c, v, h => by cases h
  | (d, w) :: r, c, v, h => by
    rw [lookup_cons] at h
    split at h
    · rename_i e; cases h; rw [e]; exact List.mem_cons_self
    · exact List.mem_cons_of_mem _ (lookup_mem h)
theorem kErr_ok {et : List (Str × List Str)} (c : kErr g et = true) : ErrOk g et := ⟨fun a fs h => by
  obtain ⟨z1, z⟩ := He.ba (List.all_eq_true.mp c _ (lookup_mem h))
  obtain ⟨z2, z⟩ := He.ba z
  obtain ⟨z3, z4⟩ := He.ba z
  exact ⟨of_decide_eq_true z1, xfB_ok z2, kExcC_ok z3, fun f m => kFind_ok (List.all_eq_true.mp z4 f m)⟩⟩
theorem kKit_ok {et : List (Str × Bool)} (c : kKit g et u = true) : ∀ a k, et.lookup a = some k → PySem.W.kitOne g.K (.ref (g.cl a)) u = some k := fun a k h => of_decide_eq_true (List.all_eq_true.mp c _ (lookup_mem h))
theorem kExm_ok {et : List (Str × Bool)} (c : kExm g et u = true) : ∀ a k, et.lookup a = some k → PySem.W.exmOne g.K (.ref (g.cl a)) u = some k := fun a k h => of_decide_eq_true (List.all_eq_true.mp c _ (lookup_mem h))
end
end DL
/-! DL33 -/
set_option Elab.async false
set_option linter.all false
set_option maxRecDepth 100000
set_option maxHeartbeats 1000000
namespace DL
open PySem PySem.Spec PyProof.Rows L2
/-! ### the end: from a law's mirror to the law -/
theorem fnQuiet {P : Program} {w : World} {K : PySem.W.Frag} {mg : Str → Option Value} {base : Heap} {k : Nat} {f : Addr} {fd : FuncData} {ps : List Str} {sp : Sp} (F : FnOk P w K mg base (L2.CX P w) k f fd ps sp) :
    FnOk P w K mg base CX0 k f fd ps (fun vs H Q _ => sp vs H Q fun _ _ _ => False) :=
  ⟨fun vs H Q _ h => F.len vs H Q _ h, fun A outer s H args us vs Q E hr he hb hv hs => codeAny_mono (F.run A outer s H args us vs Q _ hr he hb hv hs) fun r s' hq => by
    cases r with
    | ok c => cases c <;> exact hq
    | error e =>
      obtain ⟨_, _, _, _, _, _, _, _, _, _, _, _, z⟩ := hq
      exact z.elim⟩
/-- what is asked of a law's mirror -/
def Law (m : Env → R D) : Prop := ∀ ns : List Int, ns.length ≤ 63 → (m [some (.sh (.scr ns))]).sat (fun d _ => d = .bl true) fun _ _ _ => False
theorem Law.sp {g : Gx} {m : Env → R D} (h : Law m) {H : Hp} {a : Addr} {ns : List Int} (hl : ns.length ≤ 63) (hO : Only H) (hS : SqL g.K H a (ns.map V.int)) : spM g 1 .S m [.ref a] H (fun v _ => v = .bl true) fun _ _ _ => False := by
  refine ⟨rfl, [some (.sh (.scr ns))], fun _ => False, fun _ => False, ⟨fun _ => [], fun a => by simp, fun i s q => ?_, fun i _ => rfl, fun i => List.nodup_nil, fun i j a q => (by cases q), fun i a q => (by cases q), fun a q => q.elim, rfl⟩, ?_⟩
  · cases i with
    | zero =>
      simp at q
      subst q
      refine ⟨.ref a, rfl, rfl, ?_⟩
      unfold Rep
      refine ⟨a, rfl, ?_, rfl⟩
      rcases hS with (q | ⟨o, q⟩) | q
      · rcases hO a with z | ⟨o, xs, z⟩
        · rw [z] at q; cases q
        · rw [z] at q; cases q
      · exact .inl ⟨o, q⟩
      · exact .inr q
    | succ i => simp at q
  · refine R.sat_mono (h ns hl) (fun d ρ _ hd v H' E' p _ => ?_) fun c xs ρ q => q.elim
    subst hd
    have r := p.2
    unfold Rep at r
    exact r.1
theorem fn_evX {o : Wo} {g : Gx} {x qual : Str} {params : Arguments} {body : List Stmt} {scope : Scope} {f : Addr} {fd : FuncData} {N ps : List Str} {k n : Nat} {io : List Nat} {md : Md} {b : Env → R Fl} (F : FunD g.K x qual params body scope [] [] f fd) (S : FnScope N ps scope)
    (hb : ∀ (cdv : Value) (A : Around) (outer : List PySem.Env) (s : Shared) (H : Hp) (E : XK), FamC (fcx o g N qual scope f cdv A outer s H E) g (fW E) k → EvSs (fcx o g N qual scope f cdv A outer s H E) g (fW E) io md body b)
    (hn : ps.length = n := by rfl) (hN : n ≤ N.length := by decide) (hm : SD md := by constructor) : FnOk o.P o.w g.K o.mg o.base (L2.CX o.P o.w) (k + 1) f fd ps (spM g n md (fnM n N.length io b)) :=
  fn_ok F S hn hN hm fun cdv A outer s H E hr => by
    obtain ⟨t, d, s'⟩ := hb cdv A outer s H E (fam_fn hr)
    exact ⟨t, d (), s'⟩
end DL
/-! DL34 -/
set_option Elab.async false
set_option linter.all false
set_option maxRecDepth 100000
set_option maxHeartbeats 1000000
namespace DL
open PySem PySem.Spec PyProof.Rows L2
/-! ### len of a place, whatever is held in it -/
def lenD : D → Option Int
  | .lst _ xs => some xs.length
  | .tup xs => some xs.length
  | .dic _ ks _ => some ks.length
  | _ => none
def dLenP (tab : List (Str × List Str)) (i : Nat) (tp : Env → R (List Stp)) : Env → R D := fun ρ => match tp ρ with
  | .ok st _ => (match ((slotDat (ρ[i]?)).bind fun d => focusR tab d st).bind lenD with
    | some n => .ok (.int n) ρ
    | none => .stk)
  | _ => .stk
section
variable {g : Gx} {W : WX} {tab : List (Str × List Str)}
theorem snd_lenP {i : Nat} {ta : TE} {tp : Env → R (List Stp)} (tb : FldOk g tab) (h : SndL g W i ta tp) : SndE g W true .S (tCB (rLenA g.K) (tCons ta tNil)) (dLenP tab i tp) := by
  refine ⟨fun _ ρ d ρ' q => ?_, fun σ H ρ Z E Q A k => ?_⟩
  · unfold dLenP at q
    split at q
    · split at q
      · cases q; rfl
      · cases q
    · cases q
  · unfold dLenP at k
    split at k
    · rename_i st ρ1 q
      split at k
      · rename_i n q1
        cases q2 : slotDat (ρ[i]?) with
        | none => rw [q2] at q1; cases q1
        | some d0 =>
          rw [q2] at q1
          have q1 : (focusR tab d0 st).bind lenD = some n := q1
          cases q3 : focusR tab d0 st with
          | none => rw [q3] at q1; cases q1
          | some d' =>
            rw [q3] at q1
            have q1 : lenD d' = some n := q1
            obtain ⟨v0, F, e, r⟩ := slotDat_row A q2
            obtain ⟨v', F', Fr, l, r', _, _⟩ := lens tb r q3
            show ta σ H fun v H1 => rLenA g.K [v] H1 Q
            refine h.run σ H ρ Z E (fun v H1 => rLenA g.K [v] H1 Q) v0 st ρ1 v' A e q l fun H1 E1 A1 t1 s1 => ?_
            have r2 := r'.keep (Kp.same s1 t1.e)
            have fin : Q (.int n) H1 := k (.int n) H1 E1 ⟨A1, rep_int _⟩ t1 fun _ => s1
            cases d' with
            | lst o xs =>
              cases q1
              cases o with
              | true =>
                unfold Rep at r2
                obtain ⟨a, vs, F1, rfl, h1, _, r3⟩ := r2
                exact .inl ⟨_, xs.length, rfl, .inl ⟨vs, SqL.of h1, r3.len.symm⟩, fin⟩
              | false =>
                unfold Rep at r2
                obtain ⟨a, vs, rfl, h1, _, _, r3⟩ := r2
                exact .inl ⟨_, xs.length, rfl, .inl ⟨vs, SqL.of h1, r3.len.symm⟩, fin⟩
            | tup xs =>
              cases q1
              unfold Rep at r2
              obtain ⟨a, vs, rfl, h1, r3⟩ := r2
              exact .inl ⟨_, xs.length, rfl, .inr ⟨vs, .inl h1, r3.len.symm⟩, fin⟩
            | dic o ks xs =>
              cases q1
              cases o with
              | true =>
                unfold Rep at r2
                obtain ⟨a, vs, F1, rfl, h1, hl, _, r3⟩ := r2
                have e2 : (ks.zip vs).length = ks.length := by rw [List.length_zip, ← hl.len, Nat.min_self]
                exact .inr ⟨a, _, rfl, .inl h1, by rw [e2]; exact fin⟩
              | false =>
                unfold Rep at r2
                obtain ⟨a, vs, rfl, h1, hl, _, _, r3⟩ := r2
                have e2 : (ks.zip vs).length = ks.length := by rw [List.length_zip, ← hl.len, Nat.min_self]
                exact .inr ⟨a, _, rfl, h1, by rw [e2]; exact fin⟩
            | _ => cases q1
      · exact k.elim
    · exact k.elim
end
section
variable {ι : Type} {X : ι → Cx} {g : Gx} {W : WX} {tab : List (Str × List Str)} {n : Nat} {a : Expr} {tp : Env → R (List Stp)} {pos p : Pos} {x : Str}
theorem e_lenP (F : Fam X g W) (tb : FldOk g tab) (hm : ∀ i, (X i).mg x = none) (hv : bootBuiltins x = some (.builtin "len")) (h : EvL X g W n a tp) (hg : ∀ i, Gl (X i) x := by intro _; rfl) (hn : x ≠ "__name__" := by decide) (hdb : (x == ("__debug__" : Str)) = false := by decide)
    (he : ∀ i, starEach (a :: []) (X i).env = (false, eval a (X i).env) :: starEach [] (X i).env := by intro _; rfl) (hpl : ∀ i, (backTo pos (starEach [] (X i).env)).any (·.1) = false := by intro _; rfl) :
    EvE X g W true .S (.Call (.Name x p) [a] [] pos) (dLenP tab n tp) := by
  obtain ⟨_, d, s⟩ := h
  exact ⟨_, fun i => by have z := call_lenA (X := X i); rw [F.K i] at z; exact pe_callB z (hg i) (hm i) hv (pa_cons (d i) pa_nil (he i)) hn hdb (he i) (hpl i), snd_lenP tb s⟩
end
end DL
/-! M0 -/
set_option Elab.async false
set_option linter.all false
set_option maxRecDepth 100000
set_option maxHeartbeats 1000000
namespace DL
open PySem PySem.Spec PyProof.Rows L2
theorem ofString_inj {a b : String} : (Str.ofString a = Str.ofString b) ↔ a = b := by
  rw [Str.ofString_eq_toList, Str.ofString_eq_toList]
  constructor
  · intro h
    have h1 : (a.toList.map Char.toNat) = (b.toList.map Char.toNat) := by
      have := congrArg (fun s : Str => s.cps.toList) h
      simpa using this
    have h2 : a.toList = b.toList := by
      apply List.map_inj_right (f := Char.toNat) _ |>.mp h1
      intro x y e
      exact Char.ext (UInt32.toNat_inj.mp e)
    exact String.toList_inj.mp h2
  · intro h; rw [h]
/-! ### what a mirror does, step by step -/
theorem R.bind_cg {α β : Type} {r r' : R α} {k : α → DL.Env → R β} (h : r = r') : r.bind k = r'.bind k := by rw [h]
@[simp] theorem R.bind_okE {α β : Type} (a : α) (ρ : DL.Env) (k : α → DL.Env → R β) : (R.ok a ρ).bind k = k a ρ := (rfl)
@[simp] theorem R.bind_excE {α β : Type} (c : Str) (xs : List D) (ρ : DL.Env) (k : α → DL.Env → R β) : (R.exc c xs ρ : R α).bind k = R.exc c xs ρ := (rfl)
@[simp] theorem R.bind_stkE {α β : Type} (k : α → DL.Env → R β) : (R.stk : R α).bind k = R.stk := (rfl)
@[simp] theorem R.bind_ite {α β : Type} {p : Prop} [Decidable p] (a b : R α) (k : α → DL.Env → R β) : (if p then a else b).bind k = if p then a.bind k else b.bind k := by split <;> rfl
@[simp] theorem P.at_okE {α : Type} (a : α) (ρ : DL.Env) : (P.ok a).at ρ = R.ok a ρ := (rfl)
@[simp] theorem P.at_excE {α : Type} (c : Str) (xs : List D) (ρ : DL.Env) : (P.exc c xs : P α).at ρ = R.exc c xs ρ := (rfl)
@[simp] theorem P.at_stkE {α : Type} (ρ : DL.Env) : (P.stk : P α).at ρ = R.stk := (rfl)
theorem P.at_ite {α : Type} {p : Prop} [Decidable p] (a b : P α) (ρ : DL.Env) : (if p then a else b).at ρ = if p then a.at ρ else b.at ρ := by split <;> rfl
@[simp] theorem R.sat_okE {α : Type} (a : α) (ρ : DL.Env) (K X) : (R.ok a ρ : R α).sat K X = K a ρ := (rfl)
@[simp] theorem R.sat_excE {α : Type} (c xs) (ρ : DL.Env) (K X) : (R.exc c xs ρ : R α).sat K X = X c xs ρ := (rfl)
@[simp] theorem R.sat_stkE {α : Type} (K X) : (R.stk : R α).sat K X = False := (rfl)
section
variable (ρ : DL.Env) (i j : Nat) (a b c : DL.Env → R D) (as bs : DL.Env → R (List D)) (t u v : DL.Env → R Bool) (p q : DL.Env → R Pre) (ps : DL.Env → R (List Pre)) (m : DL.Env → R D) (lo hi : DL.Env → R (Option Int)) (tp : DL.Env → R (List Stp))
@[simp] theorem dC_e (d : D) : dC d ρ = .ok d ρ := (rfl)
@[simp] theorem dVar_e : dVar i ρ = match ρ[i]? with
  | some (some (.sh d)) => .ok d ρ
  | _ => .stk := (rfl)
@[simp] theorem dPeek_e : dPeek i ρ = match ρ[i]? with
  | some (some (.sh d)) => .ok d ρ
  | some (some (.dp d)) => if noOwn (frzTop d) = true then .ok (frzTop d) ρ else .stk
  | _ => .stk := (rfl)
@[simp] theorem dFrz_e : dFrz i ρ = match ρ[i]? with
  | some (some (.sh d)) => .ok d ρ
  | some (some (.dp d)) => if noOwn (frzTop d) = true then .ok (frzTop d) (ρ.set i (some (.sh (frzTop d)))) else .stk
  | _ => .stk := (rfl)
@[simp] theorem dMove_e : dMove i ρ = match ρ[i]? with
  | some (some (.dp d)) => .ok d (ρ.set i none)
  | some (some (.sh d)) => .ok d ρ
  | _ => .stk := (rfl)
@[simp] theorem dOp_e (f : D → D → P D) : dOp f a b ρ = (a ρ).bind fun d ρ1 => (b ρ1).bind fun e ρ2 => (f d e).at ρ2 := (rfl)
@[simp] theorem dUn_e (f : D → P D) : dUn f a ρ = (a ρ).bind fun d ρ1 => (f d).at ρ1 := (rfl)
/-- a flag as a test -/
def tst (d : D) (ρ : DL.Env) : R Bool := match d with
  | .bl b => .ok b ρ
  | _ => .stk
@[simp] theorem tst_bl (b : Bool) : tst (.bl b) ρ = .ok b ρ := (rfl)
@[simp] theorem dTest_e : dTest a ρ = (a ρ).bind tst := (rfl)
@[simp] theorem dAnd_e : dAnd t u ρ = (t ρ).bind fun c ρ1 => if c = true then u ρ1 else .ok false ρ1 := (rfl)
@[simp] theorem dOr_e : dOr t u ρ = (t ρ).bind fun c ρ1 => if c = true then .ok true ρ1 else u ρ1 := (rfl)
@[simp] theorem dNot_e : dNot t ρ = (t ρ).bind fun c ρ1 => .ok (!c) ρ1 := (rfl)
@[simp] theorem dIf_e : dIf t a b ρ = (t ρ).bind fun c ρ1 => if c = true then a ρ1 else b ρ1 := (rfl)
@[simp] theorem dAndV_e : dAndV a b ρ = (dTest a ρ).bind fun c ρ1 => if c = true then b ρ1 else .ok (.bl false) ρ1 := (rfl)
@[simp] theorem dOrV_e : dOrV a b ρ = (dTest a ρ).bind fun c ρ1 => if c = true then .ok (.bl true) ρ1 else b ρ1 := (rfl)
@[simp] theorem dNotV_e : dNotV a ρ = (dTest a ρ).bind fun c ρ1 => .ok (.bl (!c)) ρ1 := (rfl)
def chn (f' : D → D → P D) (c : DL.Env → R D) (e z : D) (ρ3 : DL.Env) : R D := match z with
  | .bl true => (c ρ3).bind fun h ρ4 => (f' e h).at ρ4
  | .bl false => .ok (.bl false) ρ3
  | _ => .stk
@[simp] theorem chn_bl (f' : D → D → P D) (e : D) (z : Bool) : chn f' c e (.bl z) ρ = if z = true then (c ρ).bind fun h ρ4 => (f' e h).at ρ4 else .ok (.bl false) ρ := by cases z <;> rfl
@[simp] theorem dChain_e (f f' : D → D → P D) : dChain f f' a b c ρ = (a ρ).bind fun d ρ1 => (b ρ1).bind fun e ρ2 => ((f d e).at ρ2).bind (chn f' c e) := (rfl)
@[simp] theorem dNil_e : dNil ρ = .ok [] ρ := (rfl)
@[simp] theorem dCons_e : dCons a as ρ = (a ρ).bind fun d ρ1 => (as ρ1).bind fun ds ρ2 => .ok (d :: ds) ρ2 := (rfl)
@[simp] theorem dTup_e : dTup as ρ = (as ρ).bind fun ds ρ1 => .ok (.tup ds) ρ1 := (rfl)
@[simp] theorem dLst_e : dLst as ρ = (as ρ).bind fun ds ρ1 => .ok (.lst true ds) ρ1 := (rfl)
@[simp] theorem dDic_e : dDic ρ = .ok (.dic true [] []) ρ := (rfl)
@[simp] theorem dFA_e : dFA a ρ = (a ρ).bind fun d ρ1 => .ok (frzAll d) ρ1 := (rfl)
def prt (d : D) (ρ1 : DL.Env) : R (Option Int) := match d with
  | .int i => .ok (some i) ρ1
  | _ => .stk
@[simp] theorem prt_int (i : Int) : prt (.int i) ρ = .ok (some i) ρ := (rfl)
@[simp] theorem tPartD_e : tPartD a ρ = (a ρ).bind prt := (rfl)
@[simp] theorem dNoPart_e : dNoPart ρ = .ok none ρ := (rfl)
@[simp] theorem dSl_e : dSl a lo hi ρ = (a ρ).bind fun d ρ1 => (lo ρ1).bind fun l ρ2 => (hi ρ2).bind fun h ρ3 => (fSl d l h).at ρ3 := (rfl)
@[simp] theorem dN_e (f : List D → P D) : dN f as ρ = (as ρ).bind fun ds ρ1 => (f ds).at ρ1 := (rfl)
def isiK (f : Tg → Option Bool) (d : D) (ρ1 : DL.Env) : R D := match (tgOf d).bind f with
  | some b => .ok (.bl b) ρ1
  | none => .stk
@[simp] theorem dIsi_e (f : Tg → Option Bool) : dIsi f a ρ = (a ρ).bind (isiK f) := (rfl)
def mtK (f : D → List D → P D) (as : DL.Env → R (List D)) (x : D) (ρ1 : DL.Env) : R D := if isStr x = true then (as ρ1).bind fun ds ρ2 => (f x ds).at ρ2 else .stk
@[simp] theorem mtK_str (f : D → List D → P D) (s : Str) : mtK f as (.str s) ρ = (as ρ).bind fun ds ρ2 => (f (.str s) ds).at ρ2 := by show (if true = true then _ else _) = _; rw [if_pos rfl]
@[simp] theorem dMtS_e (f : D → List D → P D) : dMtS f a as ρ = (a ρ).bind (mtK f as) := (rfl)
/-! calls -/
/-- what a call of shared things gives -/
def retC (r : R D) (ρ1 : DL.Env) : R D := match r with
  | .ok d _ => .ok d ρ1
  | .exc c xs _ => .exc c xs ρ1
  | .stk => .stk
@[simp] theorem retC_ok (d : D) (ρ' : DL.Env) : retC (.ok d ρ') ρ = .ok d ρ := (rfl)
@[simp] theorem retC_exc (c xs) (ρ' : DL.Env) : retC (.exc c xs ρ') ρ = .exc c xs ρ := (rfl)
@[simp] theorem retC_stk : retC .stk ρ = .stk := (rfl)
@[simp] theorem dCall0_e : dCall0 m as ρ = (as ρ).bind fun ds ρ1 => retC (m (ds.map fun d => some (Slot.sh d))) ρ1 := (rfl)
@[simp] theorem run0_e (ds : List D) : run0 m ds ρ = retC (m (ds.map fun d => some (Slot.sh d))) ρ := (rfl)
@[simp] theorem dFld_e (tab : List (Str × List Str)) (f : Str) : dFld tab f a ρ = (a ρ).bind fun d ρ1 => (fFld tab f d).at ρ1 := (rfl)
def mth0K (c mn : Str) (m : DL.Env → R D) (as : DL.Env → R (List D)) (x : D) (ρ1 : DL.Env) : R D := if isRecv c mn x = true then (as ρ1).bind fun ds ρ2 => run0 m (x :: ds) ρ2 else .stk
theorem mth0K_of {cn mn : Str} {x : D} (h : isRecv cn mn x = true) : mth0K cn mn m as x ρ = (as ρ).bind fun ds ρ2 => run0 m (x :: ds) ρ2 := if_pos h
@[simp] theorem dMeth0_e (cn mn : Str) : dMeth0 cn mn m a as ρ = (a ρ).bind (mth0K cn mn m as) := (rfl)
def madeC (c : Str) (r : R D) (ρ1 : DL.Env) : R D := match r with
  | .ok .non (some (.dp d) :: _) => .ok d ρ1
  | .exc c xs _ => .exc c xs ρ1
  | _ => .stk
@[simp] theorem madeC_ok (cn : Str) (d : D) (ρ' : DL.Env) : madeC cn (.ok .non (some (.dp d) :: ρ')) ρ = .ok d ρ := (rfl)
@[simp] theorem madeC_exc (cn : Str) (c xs) (ρ' : DL.Env) : madeC cn (.exc c xs ρ') ρ = .exc c xs ρ := (rfl)
@[simp] theorem make0_e (cn : Str) (ds : List D) : make0 cn m ds ρ = madeC cn (m (some (Slot.dp (.ins true cn [] [])) :: ds.map fun d => some (Slot.sh d))) ρ := (rfl)
@[simp] theorem dMake0_e (cn : Str) : dMake0 cn m as ρ = (as ρ).bind fun ds ρ1 => make0 cn m ds ρ1 := (rfl)
@[simp] theorem pE_e : pE a ρ = (a ρ).bind fun d ρ1 => .ok (.v d) ρ1 := (rfl)
@[simp] theorem pQ_e : pQ i ρ = match ρ[i]? with
  | some (some _) => .ok (.q i) ρ
  | _ => .stk := (rfl)
@[simp] theorem pIo_e : pIo i ρ = match ρ[i]? with
  | some (some _) => .ok (.io i) ρ
  | _ => .stk := (rfl)
@[simp] theorem pNil_e : pNil ρ = .ok [] ρ := (rfl)
@[simp] theorem pCons_e : pCons p ps ρ = (p ρ).bind fun x ρ1 => (ps ρ1).bind fun xs ρ2 => .ok (x :: xs) ρ2 := (rfl)
@[simp] theorem dCall_e (cs : List Str) : dCall cs m ps ρ = (ps ρ).bind fun pre ρ1 => doCall cs m pre ρ1 := (rfl)
def mthK (cs : List Str) (c mn : Str) (m : DL.Env → R D) (ps : DL.Env → R (List Pre)) (p : Pre) (ρ1 : DL.Env) : R D := match preD ρ1 p with
  | some x => if isRecv c mn x = true then (ps ρ1).bind fun ps ρ2 => doCall cs m (p :: ps) ρ2 else .stk
  | none => .stk
theorem mthK_of {cs : List Str} {cn mn : Str} {p : Pre} {x : D} (e : preD ρ p = some x) (h : isRecv cn mn x = true) : mthK cs cn mn m ps p ρ = (ps ρ).bind fun ps ρ2 => doCall cs m (p :: ps) ρ2 := by
  unfold mthK
  rw [e]
  exact if_pos h
@[simp] theorem dMeth_e (cs : List Str) (cn mn : Str) : dMeth cs cn mn m p ps ρ = (p ρ).bind (mthK cs cn mn m ps) := (rfl)
@[simp] theorem preEnv_nil : preEnv ρ [] = some [] := (rfl)
@[simp] theorem preEnv_v (d : D) (qs : List Pre) : preEnv ρ (.v d :: qs) = (preEnv ρ qs).map (some (.sh d) :: ·) := by
  show (match some (Slot.sh d), preEnv ρ qs with | some s, some r => some (some s :: r) | _, _ => none) = _
  cases preEnv ρ qs <;> rfl
@[simp] theorem preEnv_io (qs : List Pre) : preEnv ρ (.io i :: qs) = (ρ[i]?).bind fun s => s.bind fun s => (preEnv ρ qs).map (some s :: ·) := by
  show (match preSlot ρ (.io i), preEnv ρ qs with | some s, some r => some (some s :: r) | _, _ => none) = _
  unfold preSlot
  dsimp only
  rcases ρ[i]? with _ | _ | s <;> cases preEnv ρ qs <;> rfl
def qSlot : Option (Option Slot) → Option (Option Slot)
  | some (some (.sh d)) => some (some (.sh d))
  | some (some (.dp d)) => if noOwn (frzTop d) = true then some (some (.sh (frzTop d))) else none
  | _ => none
@[simp] theorem qSlot_sh (d : D) : qSlot (some (some (.sh d))) = some (some (.sh d)) := (rfl)
@[simp] theorem qSlot_dp (d : D) : qSlot (some (some (.dp d))) = if noOwn (frzTop d) = true then some (some (.sh (frzTop d))) else none := (rfl)
@[simp] theorem preEnv_q (qs : List Pre) : preEnv ρ (.q i :: qs) = (qSlot (ρ[i]?)).bind fun s => s.bind fun s => (preEnv ρ qs).map (some s :: ·) := by
  show (match preSlot ρ (.q i), preEnv ρ qs with | some s, some r => some (some s :: r) | _, _ => none) = _
  unfold preSlot qSlot
  dsimp only
  rcases ρ[i]? with _ | _ | _ | d
  · rfl
  · rfl
  · cases preEnv ρ qs <;> rfl
  · dsimp only
    by_cases h : noOwn (frzTop d) = true
    · rw [if_pos h, if_pos h]; cases preEnv ρ qs <;> rfl
    · rw [if_neg h, if_neg h]; rfl
def dcK (cs : List Str) (m : DL.Env → R D) (pre : List Pre) (ρ : DL.Env) : Option DL.Env → R D
  | some ρa => callR cs ρ pre (m ρa)
  | none => .stk
@[simp] theorem dcK_some (cs : List Str) (pre : List Pre) (ρa : DL.Env) : dcK cs m pre ρ (some ρa) = callR cs ρ pre (m ρa) := (rfl)
theorem doCall_e (cs : List Str) (pre : List Pre) (h : ioOk pre = true) : doCall cs m pre ρ = dcK cs m pre ρ (preEnv ρ pre) := by
  unfold doCall dcK
  cases preEnv ρ pre with
  | none => rfl
  | some ρa => exact if_pos h
def cRk (cs : List Str) (ρ : DL.Env) (pre : List Pre) (ρ' : DL.Env) (d : D) : Option DL.Env → R D
  | some ρ2 => if backOk cs (lent ρ pre) [d] = true ∧ backOk cs (lent ρ pre) (ioData pre ρ') = true then .ok d ρ2 else .stk
  | none => .stk
def cRx (cs : List Str) (ρ : DL.Env) (pre : List Pre) (ρ' : DL.Env) (c : Str) (xs : List D) : Option DL.Env → R D
  | some ρ2 => if backOk cs (lent ρ pre) xs = true ∧ backOk cs (lent ρ pre) (ioData pre ρ') = true then .exc c xs ρ2 else .stk
  | none => .stk
@[simp] theorem callR_ok (cs : List Str) (pre : List Pre) (d : D) (ρ' : DL.Env) : callR cs ρ pre (.ok d ρ') = cRk cs ρ pre ρ' d (postEnv ρ pre ρ') := (rfl)
@[simp] theorem callR_exc (cs : List Str) (pre : List Pre) (c xs) (ρ' : DL.Env) : callR cs ρ pre (.exc c xs ρ') = cRx cs ρ pre ρ' c xs (postEnv ρ pre ρ') := (rfl)
@[simp] theorem callR_stk (cs : List Str) (pre : List Pre) : callR cs ρ pre .stk = .stk := (rfl)
def noLent : List Pre → Bool
  | [] => true
  | .q _ :: _ => false
  | _ :: r => noLent r
theorem lent_nil : ∀ {pre : List Pre}, noLent pre = true → lent ρ pre = []
  | [], _ => rfl
  | .v _ :: r, h => lent_nil (pre := r) h
  | .io _ :: r, h => lent_nil (pre := r) h
@[simp] theorem cRk_some (cs : List Str) (pre : List Pre) (ρ' : DL.Env) (d : D) (ρ2 : DL.Env) (h : noLent pre = true) : cRk cs ρ pre ρ' d (some ρ2) = .ok d ρ2 := by
  show (if _ ∧ _ then _ else _) = _
  rw [lent_nil ρ h, if_pos ⟨rfl, rfl⟩]
@[simp] theorem cRx_some (cs : List Str) (pre : List Pre) (ρ' : DL.Env) (c : Str) (xs : List D) (ρ2 : DL.Env) (h : noLent pre = true) : cRx cs ρ pre ρ' c xs (some ρ2) = .exc c xs ρ2 := by
  show (if _ ∧ _ then _ else _) = _
  rw [lent_nil ρ h, if_pos ⟨rfl, rfl⟩]
@[simp] theorem postEnv_nil (ρ' : DL.Env) : postEnv ρ [] ρ' = some ρ := by unfold postEnv; rfl
@[simp] theorem postEnv_v (d : D) (qs : List Pre) (s : Option Slot) (ρ' : DL.Env) : postEnv ρ (.v d :: qs) (s :: ρ') = postEnv ρ qs ρ' := (rfl)
@[simp] theorem postEnv_q (qs : List Pre) (s : Option Slot) (ρ' : DL.Env) : postEnv ρ (.q i :: qs) (s :: ρ') = postEnv ρ qs ρ' := (rfl)
theorem postEnv_io {d d' : D} (qs : List Pre) (ρ' : DL.Env) (h : ρ[i]? = some (some (.dp d))) : postEnv ρ (.io i :: qs) (some (.dp d') :: ρ') = postEnv (ρ.set i (some (.dp d'))) qs ρ' := by
  show (match ρ[i]?, some (Slot.dp d') with
    | some (some (.dp _)), some (.dp d) => postEnv (ρ.set i (some (.dp d))) qs ρ'
    | some (some (.sh _)), _ => postEnv ρ qs ρ'
    | _, _ => none) = _
  rw [h]
/-! places -/
@[simp] theorem lVar_e : lVar ρ = .ok [] ρ := (rfl)
@[simp] theorem lFld_e (f : Str) : lFld f tp ρ = (tp ρ).bind fun st ρ1 => .ok (.fld f :: st) ρ1 := (rfl)
def ixK (st : List Stp) (e : D) (ρ2 : DL.Env) : R (List Stp) := match toKey e with
  | some _ => .ok (.at e :: st) ρ2
  | none => .stk
@[simp] theorem ixK_int (st : List Stp) (n : Int) : ixK st (.int n) ρ = .ok (.at (.int n) :: st) ρ := (rfl)
@[simp] theorem ixK_str (st : List Stp) (n : Str) : ixK st (.str n) ρ = .ok (.at (.str n) :: st) ρ := (rfl)
@[simp] theorem lIx_e : lIx tp a ρ = (tp ρ).bind fun st ρ1 => (a ρ1).bind (ixK st) := (rfl)
def rdK (tab : List (Str × List Str)) (i : Nat) (ρ : DL.Env) : R (List Stp) → R D
  | .ok st _ => (match (slotDat (ρ[i]?)).bind fun d => focusR tab d st with
    | some d => if noOwn d = true then .ok d ρ else .stk
    | none => .stk)
  | _ => .stk
def rdO (ρ : DL.Env) : Option D → R D
  | some d => if noOwn d = true then .ok d ρ else .stk
  | none => .stk
@[simp] theorem rdO_some (d : D) : rdO ρ (some d) = if noOwn d = true then .ok d ρ else .stk := (rfl)
@[simp] theorem rdK_ok (tab : List (Str × List Str)) (ρ' : DL.Env) (st : List Stp) : rdK tab i ρ (.ok st ρ') = rdO ρ ((slotDat (ρ[i]?)).bind fun d => focusR tab d st) := by
  unfold rdK rdO
  rfl
@[simp] theorem dRead_e (tab : List (Str × List Str)) : dRead tab i tp ρ = rdK tab i ρ (tp ρ) := by
  unfold dRead rdK
  cases tp ρ <;> rfl
def pkK (tab : List (Str × List Str)) (i : Nat) (ρ : DL.Env) : R (List Stp) → R D
  | .ok st _ => (match (slotDat (ρ[i]?)).bind fun d => focusR tab d st with
    | some d => if noOwn (frzTop d) = true then .ok (frzTop d) ρ else .stk
    | none => .stk)
  | _ => .stk
@[simp] theorem dPeekP_e (tab : List (Str × List Str)) : dPeekP tab i tp ρ = pkK tab i ρ (tp ρ) := by
  unfold dPeekP pkK
  cases tp ρ <;> rfl
def pkO (ρ : DL.Env) : Option D → R D
  | some d => if noOwn (frzTop d) = true then .ok (frzTop d) ρ else .stk
  | none => .stk
@[simp] theorem pkO_some (d : D) : pkO ρ (some d) = if noOwn (frzTop d) = true then .ok (frzTop d) ρ else .stk := (rfl)
@[simp] theorem pkK_ok (tab : List (Str × List Str)) (ρ' : DL.Env) (st : List Stp) : pkK tab i ρ (.ok st ρ') = pkO ρ ((slotDat (ρ[i]?)).bind fun d => focusR tab d st) := by
  unfold pkK pkO
  rfl
/-! targets -/
theorem gS_ok {i : Nat} {d : D} {ρ : DL.Env} (n : noOwn d = true) (h : i < ρ.length) : gS i d ρ = some (ρ.set i (some (.sh d))) := if_pos ⟨n, h⟩
theorem gD_ok {i : Nat} {d : D} {ρ : DL.Env} (h : i < ρ.length) : gD i d ρ = some (ρ.set i (some (.dp d))) := if_pos h
theorem gF_ok {i : Nat} {d : D} {ρ : DL.Env} (h : i < ρ.length) : gF i d ρ = some (ρ.set i (some (.sh (frzAll d)))) := if_pos h
@[simp] theorem gS_e (d : D) : gS i d ρ = if noOwn d = true ∧ i < ρ.length then some (ρ.set i (some (.sh d))) else none := (rfl)
@[simp] theorem gD_e (d : D) : gD i d ρ = if i < ρ.length then some (ρ.set i (some (.dp d))) else none := (rfl)
@[simp] theorem gF_e (d : D) : gF i d ρ = if i < ρ.length then some (ρ.set i (some (.sh (frzAll d)))) else none := (rfl)
@[simp] theorem gsNil_e : gsNil [] ρ = some ρ := (rfl)
@[simp] theorem gsCons_e (g : D → DL.Env → Option DL.Env) (u : List D → DL.Env → Option DL.Env) (d : D) (ds : List D) : gsCons g u (d :: ds) ρ = (g d ρ).bind (u ds) := (rfl)
@[simp] theorem gTupM_tup (u : List D → DL.Env → Option DL.Env) (ds : List D) : gTupM u (.tup ds) ρ = u ds ρ := (rfl)
@[simp] theorem gTupM_lst (u : List D → DL.Env → Option DL.Env) (o : Bool) (ds : List D) : gTupM u (.lst o ds) ρ = u ds ρ := (rfl)
def gFK (tab : List (Str × List Str)) (i : Nat) (f : D → D → Option D) (d : D) (ρ : DL.Env) : R (List Stp) → Option DL.Env
  | .ok st _ => setAtM tab i st f d ρ
  | _ => none
@[simp] theorem gFK_ok (tab : List (Str × List Str)) (f : D → D → Option D) (d : D) (st : List Stp) (ρ' : DL.Env) : gFK tab i f d ρ (.ok st ρ') = setAtM tab i st f d ρ := (rfl)
@[simp] theorem gFldM_e (tab : List (Str × List Str)) (f : Str) (d : D) : gFldM tab i tp f d ρ = gFK tab i (setFld tab f) d ρ (tp ρ) := by
  unfold gFldM gFK
  cases tp ρ <;> rfl
def gIK (tab : List (Str × List Str)) (i : Nat) (d : D) (ρ : DL.Env) : R (List Stp) → R D → Option DL.Env
  | .ok st _, .ok e _ => setAtM tab i st (setIx e) d ρ
  | _, _ => none
@[simp] theorem gIK_ok (tab : List (Str × List Str)) (d e : D) (st : List Stp) (ρ' ρ2 : DL.Env) : gIK tab i d ρ (.ok st ρ') (.ok e ρ2) = setAtM tab i st (setIx e) d ρ := (rfl)
@[simp] theorem gIxM_e (tab : List (Str × List Str)) (d : D) : gIxM tab i tp a d ρ = gIK tab i d ρ (tp ρ) (a ρ) := by
  unfold gIxM gIK
  cases tp ρ <;> cases a ρ <;> rfl
/-! statements -/
def sqK (u : DL.Env → R Fl) (fl : Fl) (ρ1 : DL.Env) : R Fl := match fl with
  | .nx => u ρ1
  | .rt d => .ok (.rt d) ρ1
  | .bk => .ok .bk ρ1
  | .ct => .ok .ct ρ1
variable (s s' : DL.Env → R Fl)
@[simp] theorem sqK_nx : sqK s .nx ρ = s ρ := (rfl)
@[simp] theorem sqK_rt (d : D) : sqK s (.rt d) ρ = .ok (.rt d) ρ := (rfl)
@[simp] theorem sqK_bk : sqK s .bk ρ = .ok .bk ρ := (rfl)
@[simp] theorem sqK_ct : sqK s .ct ρ = .ok .ct ρ := (rfl)
@[simp] theorem sSeq_e : sSeq s s' ρ = (s ρ).bind (sqK s') := (rfl)
def asK : Option DL.Env → R Fl
  | some ρ2 => .ok .nx ρ2
  | none => .stk
@[simp] theorem asK_some : asK (some ρ) = .ok .nx ρ := (rfl)
@[simp] theorem sAsg_e (g : D → DL.Env → Option DL.Env) : sAsg a g ρ = (a ρ).bind fun d ρ1 => asK (g d ρ1) := by
  unfold sAsg asK
  rfl
def prK (i j : Nat) (ds : List D) (ρ1 : DL.Env) : R Fl := match ds with
  | [d, e] => asK ((gS i d ρ1).bind (gS j e))
  | _ => .stk
@[simp] theorem prK_e (d e : D) : prK i j [d, e] ρ = asK ((gS i d ρ).bind (gS j e)) := (rfl)
@[simp] theorem sPar_e : sPar i j as ρ = (as ρ).bind (prK i j) := (rfl)
@[simp] theorem sExpr_e : sExpr a ρ = (a ρ).bind fun _ ρ1 => .ok .nx ρ1 := (rfl)
@[simp] theorem sRet_e : sRet a ρ = (a ρ).bind fun d ρ1 => .ok (.rt d) ρ1 := (rfl)
@[simp] theorem sRetN_e : sRetN ρ = .ok (.rt .non) ρ := (rfl)
@[simp] theorem sNext_e : sNext ρ = .ok .nx ρ := (rfl)
@[simp] theorem sBreak_e : sBreak ρ = .ok .bk ρ := (rfl)
@[simp] theorem sCont_e : sCont ρ = .ok .ct ρ := (rfl)
@[simp] theorem sIf_e : sIf t s s' ρ = (t ρ).bind fun b ρ1 => if b = true then s ρ1 else s' ρ1 := (rfl)
@[simp] theorem sFz_e : sFz i s ρ = s (frzRow i ρ) := (rfl)
def r1K (c : Str) (ds : List D) (ρ1 : DL.Env) : R Fl := match ds with
  | [d] => .exc c [d] ρ1
  | _ => .stk
@[simp] theorem r1K_e (c : Str) (d : D) : r1K c [d] ρ = .exc c [d] ρ := (rfl)
@[simp] theorem sRaise1_e (c : Str) : sRaise1 c as ρ = (as ρ).bind (r1K c) := (rfl)
@[simp] theorem sRaise0_e (c : Str) : sRaise0 c ρ = .exc c [] ρ := (rfl)
@[simp] theorem sFor_e (g : D → DL.Env → Option DL.Env) : sFor as g s ρ = (as ρ).bind fun ds ρ1 => forM g s ds ρ1 := (rfl)
@[simp] theorem aftB_nx : aftB s .nx ρ = s ρ := (rfl)
@[simp] theorem aftB_ct : aftB s .ct ρ = s ρ := (rfl)
@[simp] theorem aftB_bk : aftB s .bk ρ = .ok .nx ρ := (rfl)
@[simp] theorem aftB_rt (d : D) : aftB s (.rt d) ρ = .ok (.rt d) ρ := (rfl)
/-- a def's end -/
def fnE (n : Nat) (io : List Nat) : R Fl → R D
  | .ok .nx ρ' => .ok .non (maskR io n ρ')
  | .ok (.rt d) ρ' => .ok d (maskR io n ρ')
  | .exc c xs ρ' => .exc c xs (maskR io n ρ')
  | _ => .stk
@[simp] theorem fnE_nx (n : Nat) (io : List Nat) : fnE n io (.ok .nx ρ) = .ok .non (maskR io n ρ) := (rfl)
@[simp] theorem fnE_rt (n : Nat) (io : List Nat) (d : D) : fnE n io (.ok (.rt d) ρ) = .ok d (maskR io n ρ) := (rfl)
@[simp] theorem fnE_exc (n : Nat) (io : List Nat) (c xs) : fnE n io (.exc c xs ρ) = .exc c xs (maskR io n ρ) := (rfl)
@[simp] theorem fnE_ite (n : Nat) (io : List Nat) {p : Prop} [Decidable p] (x y : R Fl) : fnE n io (if p then x else y) = if p then fnE n io x else fnE n io y := by split <;> rfl
theorem fnM_e (n N : Nat) (io : List Nat) (h : ρ.length = n) : fnM n N io s ρ = fnE n io (s (ρ ++ List.replicate (N - n) none)) := by
  unfold fnM
  rw [if_pos h]
  rcases s (ρ ++ List.replicate (N - n) none) with ⟨fl, ρ'⟩ | _ | _
  · cases fl <;> rfl
  · rfl
  · rfl
def itK (d : D) (ρ1 : DL.Env) : R (List D) := match itemsOf d with
  | some ds => .ok ds ρ1
  | none => .stk
@[simp] theorem itK_lst (o : Bool) (ds : List D) : itK (.lst o ds) ρ = .ok ds ρ := (rfl)
@[simp] theorem itK_tup (ds : List D) : itK (.tup ds) ρ = .ok ds ρ := (rfl)
@[simp] theorem itK_scr (ns : List Int) : itK (.scr ns) ρ = .ok (ns.map .int) ρ := (rfl)
@[simp] theorem itK_str (x : Str) : itK (.str x) ρ = .ok (strD x) ρ := (rfl)
@[simp] theorem sIt_e : sIt a ρ = (a ρ).bind itK := (rfl)
def rngK (ds : List D) (ρ1 : DL.Env) : R (List D) := match ds with
  | [.int j] => if small62 j then .ok (rangeD 0 j.toNat) ρ1 else .stk
  | _ => .stk
@[simp] theorem rngK_e (j : Int) : rngK [.int j] ρ = if small62 j then .ok (rangeD 0 j.toNat) ρ else .stk := (rfl)
@[simp] theorem sRng1_e : sRng1 as ρ = (as ρ).bind rngK := (rfl)
def rng2K (ds : List D) (ρ1 : DL.Env) : R (List D) := match ds with
  | [.int i, .int j] => if small62 i ∧ small62 j then .ok (rangeD i (j - i).toNat) ρ1 else .stk
  | _ => .stk
@[simp] theorem rng2K_e (i j : Int) : rng2K [.int i, .int j] ρ = if small62 i ∧ small62 j then .ok (rangeD i (j - i).toNat) ρ else .stk := (rfl)
@[simp] theorem sRng2_e : sRng2 as ρ = (as ρ).bind rng2K := (rfl)
def enK (ds : List D) (ρ1 : DL.Env) : R (List D) := match ds with
  | [.tup xs] => .ok (enumD xs) ρ1
  | [d] => (match lstItems d with | some xs => .ok (enumD xs) ρ1 | none => .stk)
  | _ => .stk
@[simp] theorem enK_tup (xs : List D) : enK [.tup xs] ρ = .ok (enumD xs) ρ := (rfl)
@[simp] theorem enK_lst (o : Bool) (xs : List D) : enK [.lst o xs] ρ = .ok (enumD xs) ρ := (rfl)
@[simp] theorem enK_scr (ns : List Int) : enK [.scr ns] ρ = .ok (enumD (ns.map .int)) ρ := (rfl)
@[simp] theorem sEnumA_e : sEnumA as ρ = (as ρ).bind enK := (rfl)
def zpK (ds : List D) (ρ1 : DL.Env) : R (List D) := match ds with
  | [.tup xs, .tup ys] => .ok (zipD xs ys) ρ1
  | [d, e] => (match lstItems d, lstItems e with | some xs, some ys => .ok (zipD xs ys) ρ1 | _, _ => .stk)
  | _ => .stk
@[simp] theorem zpK_tup (xs ys : List D) : zpK [.tup xs, .tup ys] ρ = .ok (zipD xs ys) ρ := (rfl)
@[simp] theorem zpK_lst (o o' : Bool) (xs ys : List D) : zpK [.lst o xs, .lst o' ys] ρ = .ok (zipD xs ys) ρ := (rfl)
@[simp] theorem sZip_e : sZip as ρ = (as ρ).bind zpK := (rfl)
@[simp] theorem tYesD_e : tYesD ρ = .ok true ρ := (rfl)
/-- a comprehension -/
def lcE (r : R (List D)) : R D := r.bind fun acc ρ2 => .ok (.lst true acc) ρ2
@[simp] theorem lcE_ok (acc : List D) : lcE (.ok acc ρ) = .ok (.lst true acc) ρ := (rfl)
def lcK (g : D → DL.Env → Option DL.Env) (t : DL.Env → R Bool) (a : DL.Env → R D) (n : Nat) (vs : List Nat) (ds : List D) (ρ1 : DL.Env) : R D := if ρ1.length = n then lcE (lcM g t a vs ds [] (wipeR ρ1 vs)) else .stk
theorem lcK_of (g : D → DL.Env → Option DL.Env) {n : Nat} (vs : List Nat) (ds : List D) (h : ρ.length = n) : lcK g t a n vs ds ρ = lcE (lcM g t a vs ds [] (wipeR ρ vs)) := if_pos h
@[simp] theorem dLc_e (g : D → DL.Env → Option DL.Env) (n : Nat) (vs : List Nat) : dLc as g t a n vs ρ = (as ρ).bind (lcK g t a n vs) := (rfl)
@[simp] theorem wipeR_nil : wipeR ρ [] = ρ := (rfl)
@[simp] theorem wipeR_cons (v : Nat) (vs : List Nat) : wipeR ρ (v :: vs) = (wipeR ρ vs).set v none := (rfl)
/-- errors that are caught -/
def tryK (l : List Hd3) : R Fl → R Fl
  | .ok fl ρ1 => .ok fl ρ1
  | .exc c xs ρ1 => hdlM c xs ρ1 l
  | .stk => .stk
@[simp] theorem tryK_ok (l : List Hd3) (fl : Fl) : tryK l (.ok fl ρ) = .ok fl ρ := (rfl)
@[simp] theorem tryK_exc (l : List Hd3) (c xs) : tryK l (.exc c xs ρ) = hdlM c xs ρ l := (rfl)
@[simp] theorem sTry_e (l : List Hd3) : sTry s l ρ = tryK l (s ρ) := by
  unfold sTry tryK
  cases s ρ <;> rfl
/-! changes in place -/
def mutK (tab : List (Str × List Str)) (pb : Bool) (i : Nat) (f : D → List D → Option (D × D)) (as : DL.Env → R (List D)) (ρ : DL.Env) : R (List Stp) → R D
  | .ok st _ => if (pb || st.isEmpty) = true ∧ ((rowDat ρ i).bind fun d0 => (focusR tab d0 st).map listOwn) = some true then (as ρ).bind fun ds ρ1 => mutAt tab i st f ds ρ1 else .stk
  | _ => .stk
theorem mutK_ok {tab : List (Str × List Str)} {pb : Bool} {f : D → List D → Option (D × D)} {st : List Stp} {ρ' : DL.Env} (h : (pb || st.isEmpty) = true) (h2 : ((rowDat ρ i).bind fun d0 => (focusR tab d0 st).map listOwn) = some true) :
    mutK tab pb i f as ρ (.ok st ρ') = (as ρ).bind fun ds ρ1 => mutAt tab i st f ds ρ1 := if_pos ⟨h, h2⟩
@[simp] theorem dMut_e (tab : List (Str × List Str)) (pb : Bool) (f : D → List D → Option (D × D)) : dMut tab pb i tp f as ρ = mutK tab pb i f as ρ (tp ρ) := by
  unfold dMut mutK
  cases tp ρ <;> rfl
def muK (i : Nat) (ρ : DL.Env) : Option (D × D) → R D
  | some (d3, out) => .ok out (ρ.set i (some (.dp d3)))
  | none => .stk
@[simp] theorem muK_some (d3 out : D) : muK i ρ (some (d3, out)) = .ok out (ρ.set i (some (.dp d3))) := (rfl)
theorem mutAt_e (tab : List (Str × List Str)) (st : List Stp) (f : D → List D → Option (D × D)) (ds : List D) : mutAt tab i st f ds ρ = muK i ρ ((rowDat ρ i).bind fun d0 => (focusR tab d0 st).bind fun d' => if isOwn d' = true then (f d' ds).bind fun p => (putR tab d0 st p.1).map fun d3 => (d3, p.2) else none) := by
  unfold mutAt muK
  rfl
def lnO (ρ : DL.Env) : Option Int → R D
  | some n => .ok (.int n) ρ
  | none => .stk
@[simp] theorem lnO_some (n : Int) : lnO ρ (some n) = .ok (.int n) ρ := (rfl)
def lnK (tab : List (Str × List Str)) (i : Nat) (ρ : DL.Env) : R (List Stp) → R D
  | .ok st _ => lnO ρ (((slotDat (ρ[i]?)).bind fun d => focusR tab d st).bind lenD)
  | _ => .stk
@[simp] theorem lnK_ok (tab : List (Str × List Str)) (st : List Stp) (ρ' : DL.Env) : lnK tab i ρ (.ok st ρ') = lnO ρ (((slotDat (ρ[i]?)).bind fun d => focusR tab d st).bind lenD) := (rfl)
@[simp] theorem dLenP_e (tab : List (Str × List Str)) : dLenP tab i tp ρ = lnK tab i ρ (tp ρ) := by
  unfold dLenP lnK lnO
  cases tp ρ with
  | ok st ρ' =>
    dsimp only
    all_goals (cases ((slotDat ρ[i]?).bind fun d => focusR tab d st).bind lenD <;> rfl)
  | _ => rfl
@[simp] theorem lenD_lst (o : Bool) (xs : List D) : lenD (.lst o xs) = some (xs.length : Int) := (rfl)
@[simp] theorem lenD_tup (xs : List D) : lenD (.tup xs) = some (xs.length : Int) := (rfl)
@[simp] theorem lenD_dic (o : Bool) (ks) (xs : List D) : lenD (.dic o ks xs) = some (ks.length : Int) := (rfl)
end
end DL
/-! M1 -/
set_option Elab.async false
set_option linter.all false
set_option maxRecDepth 100000
set_option maxHeartbeats 1000000
namespace DL
open PySem PySem.Spec PyProof.Rows L2
/-! operators on data -/
section
variable (i j : Int) (x y : Str) (d e : D) (ds es : List D) (o o' : Bool)
@[simp] theorem fAdd_int : fAdd (.int i) (.int j) = .ok (.int (i + j)) := (rfl)
theorem fAdd_str (h : x.length + y.length ≤ 1000000) : fAdd (.str x) (.str y) = .ok (.str (x ++ y)) := by
  show (if x.length + y.length ≤ 1000000 then P.ok (D.str (x ++ y)) else .stk) = _
  exact if_pos h
theorem fAdd_lst (h : ds.length + es.length ≤ 100000) : fAdd (.lst o ds) (.lst o' es) = .ok (.lst true (ds ++ es)) := by
  show (if ds.length + es.length ≤ 100000 then P.ok (D.lst true (ds ++ es)) else .stk) = _
  exact if_pos h
theorem fAdd_tup (h : ds.length + es.length ≤ 100000) : fAdd (.tup ds) (.tup es) = .ok (.tup (ds ++ es)) := by
  show (if ds.length + es.length ≤ 100000 then P.ok (D.tup (ds ++ es)) else .stk) = _
  exact if_pos h
@[simp] theorem fSub_int : fSub (.int i) (.int j) = .ok (.int (i - j)) := (rfl)
theorem fMul_int (h : mulOk i j = true) : fMul (.int i) (.int j) = .ok (.int (i * j)) := by
  show (if mulOk i j = true then P.ok (D.int (i * j)) else .stk) = _
  exact if_pos h
theorem fMul_lst (h : -(2 ^ 63) ≤ j ∧ j < 2 ^ 63 ∧ ds.length * j.toNat ≤ 100000) : fMul (.lst o ds) (.int j) = .ok (.lst true (repD ds j)) := by
  show (if -(2 ^ 63) ≤ j ∧ j < 2 ^ 63 ∧ ds.length * j.toNat ≤ 100000 then P.ok (D.lst true (repD ds j)) else .stk) = _
  exact if_pos h
theorem fDiv_int (h : divOk i j = true) : fDiv (.int i) (.int j) = .ok (.int (i / j)) := by
  show (if divOk i j = true then P.ok (D.int (i / j)) else .stk) = _
  exact if_pos h
theorem fModI_int (h : 0 < j) : fModI (.int i) (.int j) = .ok (.int (i % j)) := by
  show (if modOk i j = true then P.ok (D.int (i % j)) else .stk) = _
  exact if_pos (decide_eq_true h)
theorem fPow_int (h : powOk i j = true) : fPow (.int i) (.int j) = .ok (.int (i ^ j.toNat)) := if_pos h
theorem fShl_int (h : powOk i j = true) : fShl (.int i) (.int j) = .ok (.int (i * 2 ^ j.toNat)) := if_pos h
@[simp] theorem fLt_int : fLt (.int i) (.int j) = .ok (.bl (decide (i < j))) := (rfl)
@[simp] theorem fLe_int : fLe (.int i) (.int j) = .ok (.bl (decide (i ≤ j))) := (rfl)
@[simp] theorem fGt_int : fGt (.int i) (.int j) = .ok (.bl (decide (j < i))) := (rfl)
@[simp] theorem fGe_int : fGe (.int i) (.int j) = .ok (.bl (decide (j ≤ i))) := (rfl)
@[simp] theorem fIsN_e : fIsN d .non = .ok (.bl (isNon d)) := by cases d <;> rfl
@[simp] theorem fNotN_e : fNotN d .non = .ok (.bl (!isNon d)) := by cases d <;> rfl
@[simp] theorem isNon_non : isNon .non = true := (rfl)
@[simp] theorem isNon_int : isNon (.int i) = false := (rfl)
@[simp] theorem isNon_str : isNon (.str x) = false := (rfl)
@[simp] theorem isNon_tup : isNon (.tup ds) = false := (rfl)
@[simp] theorem isNon_lst : isNon (.lst o ds) = false := (rfl)
@[simp] theorem isNon_bl (b) : isNon (.bl b) = false := (rfl)
@[simp] theorem isNon_ins (c fs) : isNon (.ins o c fs ds) = false := (rfl)
@[simp] theorem fNeg_int : fNeg (.int i) = .ok (.int (-i)) := (rfl)
@[simp] theorem fAbs_int : fAbs (.int i) = .ok (.int (if i < 0 then -i else i)) := (rfl)
@[simp] theorem fInt_int : fInt (.int i) = .ok (.int i) := (rfl)
@[simp] theorem fInt_bl (b : Bool) : fInt (.bl b) = .ok (.int (if b then 1 else 0)) := (rfl)
@[simp] theorem fLen_lst : fLen (.lst o ds) = .ok (.int ds.length) := (rfl)
@[simp] theorem fLen_tup : fLen (.tup ds) = .ok (.int ds.length) := (rfl)
@[simp] theorem fLen_scr (ns : List Int) : fLen (.scr ns) = .ok (.int ns.length) := (rfl)
@[simp] theorem fLen_dic (ks) : fLen (.dic o ks ds) = .ok (.int ks.length) := (rfl)
theorem fLen_str (h : x.length ≤ 1000000) : fLen (.str x) = .ok (.int x.length) := if_pos h
@[simp] theorem fTup_lst : fTup (.lst o ds) = .ok (.tup ds) := (rfl)
@[simp] theorem fTup_tup : fTup (.tup ds) = .ok (.tup ds) := (rfl)
@[simp] theorem fLstOf_lst : fLstOf (.lst o ds) = .ok (.lst true ds) := (rfl)
@[simp] theorem fLstOf_tup : fLstOf (.tup ds) = .ok (.lst true ds) := (rfl)
@[simp] theorem fLstOf_scr (ns : List Int) : fLstOf (.scr ns) = .ok (.lst true (ns.map .int)) := (rfl)
theorem bools_map {α : Type} (f : α → Bool) : ∀ l : List α, bools (l.map fun z => .bl (f z)) = some (l.map f)
  | [] => rfl
  | z :: r => by
    show (bools (r.map fun z => .bl (f z))).map (f z :: ·) = _
    rw [bools_map f r]; rfl
theorem fAll_map {α : Type} (f : α → Bool) (l : List α) : fAll (.lst o (l.map fun z => .bl (f z))) = .ok (.bl (l.all f)) := by
  show (match bools (l.map fun z => .bl (f z)) with | some bs => P.ok (D.bl (bs.all id)) | none => .stk) = _
  rw [bools_map]
  simp [List.all_map, Function.comp_def]
theorem fAny_map {α : Type} (f : α → Bool) (l : List α) : fAny (.lst o (l.map fun z => .bl (f z))) = .ok (.bl (l.any f)) := by
  show (match bools (l.map fun z => .bl (f z)) with | some bs => P.ok (D.bl (bs.any id)) | none => .stk) = _
  rw [bools_map]
  simp [List.any_map, Function.comp_def]
@[simp] theorem fMin_int : fMin [.int i, .int j] = .ok (.int (min i j)) := by
  show P.ok (D.int (if j < i then j else i)) = _
  congr 2
  split <;> omega
@[simp] theorem fMax_int : fMax [.int i, .int j] = .ok (.int (max i j)) := by
  show P.ok (D.int (if j > i then j else i)) = _
  congr 2
  split <;> omega
/-! a part -/
theorem fIx_lst {z : D} (h : atI ds i = some z) : fIx (.lst o ds) (.int i) = .ok z := by
  show (match atI ds i with | some d => P.ok d | none => .stk) = _
  rw [h]
theorem fIx_tup {z : D} (h : atI ds i = some z) : fIx (.tup ds) (.int i) = .ok z := by
  show (match atI ds i with | some d => P.ok d | none => .stk) = _
  rw [h]
theorem atI_nat {α : Type} {xs : List α} {k : Nat} {z : α} (h : xs[k]? = some z) : atI xs (k : Int) = some z := by
  unfold atI ixN
  have hk : k < xs.length := ltOf h
  rw [if_pos (by omega), if_pos (by omega)]
  simpa using h
theorem atI_neg {α : Type} {xs : List α} {k : Nat} {z : α} (hk : k < xs.length) (h : xs[xs.length - 1 - k]? = some z) : atI xs (-(k + 1 : Int)) = some z := by
  unfold atI ixN
  rw [if_neg (by omega), if_pos (by omega)]
  show xs[(-(k + 1 : Int) + xs.length).toNat]? = _
  rw [show (-(k + 1 : Int) + xs.length).toNat = xs.length - 1 - k by omega]
  exact h
/-! with literals -/
@[simp] theorem fIx_lst0 : fIx (.lst o (d :: ds)) (.int 0) = .ok d := fIx_lst _ _ _ (atI_nat (k := 0) rfl)
@[simp] theorem fIx_tup0 : fIx (.tup (d :: ds)) (.int 0) = .ok d := fIx_tup _ _ (atI_nat (k := 0) rfl)
section
variable (d1 d2 d3 d4 d5 d6 : D)
@[simp] theorem fIx_lst1 : fIx (.lst o (d :: d1 :: ds)) (.int 1) = .ok d1 := fIx_lst _ _ _ (atI_nat (k := 1) rfl)
@[simp] theorem fIx_tup1 : fIx (.tup (d :: d1 :: ds)) (.int 1) = .ok d1 := fIx_tup _ _ (atI_nat (k := 1) rfl)
@[simp] theorem fIx_lst2 : fIx (.lst o (d :: d1 :: d2 :: ds)) (.int 2) = .ok d2 := fIx_lst _ _ _ (atI_nat (k := 2) rfl)
@[simp] theorem fIx_tup2 : fIx (.tup (d :: d1 :: d2 :: ds)) (.int 2) = .ok d2 := fIx_tup _ _ (atI_nat (k := 2) rfl)
@[simp] theorem fIx_lst3 : fIx (.lst o (d :: d1 :: d2 :: d3 :: ds)) (.int 3) = .ok d3 := fIx_lst _ _ _ (atI_nat (k := 3) rfl)
@[simp] theorem fIx_tup3 : fIx (.tup (d :: d1 :: d2 :: d3 :: ds)) (.int 3) = .ok d3 := fIx_tup _ _ (atI_nat (k := 3) rfl)
@[simp] theorem fIx_lst4 : fIx (.lst o (d :: d1 :: d2 :: d3 :: d4 :: ds)) (.int 4) = .ok d4 := fIx_lst _ _ _ (atI_nat (k := 4) rfl)
@[simp] theorem fIx_tup4 : fIx (.tup (d :: d1 :: d2 :: d3 :: d4 :: ds)) (.int 4) = .ok d4 := fIx_tup _ _ (atI_nat (k := 4) rfl)
end
/-! slices of tuples and lists -/
@[simp] theorem fSl_lst (lo hi : Option Int) : fSl (.lst o ds) lo hi = .ok (.lst true (cutD ds lo hi)) := (rfl)
@[simp] theorem fSl_tup (lo hi : Option Int) : fSl (.tup ds) lo hi = .ok (.tup (cutD ds lo hi)) := (rfl)
@[simp] theorem fSl_scr (ns : List Int) (lo hi : Option Int) : fSl (.scr ns) lo hi = .ok (.lst true (cutD (ns.map .int) lo hi)) := (rfl)
theorem cutD_to (k : Nat) : cutD ds none (some (k : Int)) = ds.take k := by
  unfold cutD
  rw [HT.sIx_none, HT.sIx_nat, List.drop_zero, Nat.sub_zero]
  rw [Nat.min_def]
  split
  · rfl
  · rw [List.take_of_length_le (by omega), List.take_of_length_le (by omega)]
theorem cutD_from (k : Nat) : cutD ds (some (k : Int)) none = ds.drop k := by
  unfold cutD
  rw [HT.sIx_none, HT.sIx_nat]
  rw [Nat.min_def]
  split
  · rw [List.take_of_length_le]; simp
  · rw [List.drop_of_length_le (by omega), List.drop_of_length_le (by omega)]; simp
theorem cutD_mid (k l : Nat) : cutD ds (some (k : Int)) (some (l : Int)) = (ds.take l).drop k := by
  unfold cutD
  rw [HT.sIx_nat, HT.sIx_nat]
  rw [List.drop_take]
  by_cases hk : k ≤ ds.length
  · rw [Nat.min_eq_left hk]
    by_cases hl : l ≤ ds.length
    · rw [Nat.min_eq_left hl]
    · rw [Nat.min_eq_right (by omega), List.take_of_length_le (by simp), List.take_of_length_le (by simp; omega)]
  · have e1 : ds.drop k = [] := List.drop_of_length_le (by omega)
    have e2 : ds.drop ds.length = [] := List.drop_of_length_le (Nat.le_refl _)
    rw [Nat.min_eq_right (show ds.length ≤ k by omega), e1, e2]
    simp
@[simp] theorem cutD_to2 : cutD ds none (some 2) = ds.take 2 := cutD_to ds 2
@[simp] theorem cutD_from1 : cutD ds (some 1) none = ds.drop 1 := cutD_from ds 1
@[simp] theorem cutD_from2 : cutD ds (some 2) none = ds.drop 2 := cutD_from ds 2
/-! equality -/
@[simp] theorem fEqA_int : fEqA (.int i) (.int j) = .ok (.bl (decide (i = j))) := (rfl)
@[simp] theorem fEqA_str : fEqA (.str x) (.str y) = .ok (.bl (decide (x = y))) := (rfl)
@[simp] theorem fEqA_bl (a b : Bool) : fEqA (.bl a) (.bl b) = .ok (.bl (decide (a = b))) := (rfl)
@[simp] theorem fNeA_int : fNeA (.int i) (.int j) = .ok (.bl (!decide (i = j))) := (rfl)
@[simp] theorem fNeA_str : fNeA (.str x) (.str y) = .ok (.bl (!decide (x = y))) := (rfl)
@[simp] theorem fNeA_bl (a b : Bool) : fNeA (.bl a) (.bl b) = .ok (.bl (!decide (a = b))) := (rfl)
@[simp] theorem fNeA_nn : fNeA .non .non = .ok (.bl false) := (rfl)
@[simp] theorem fNeA_ni : fNeA .non (.int j) = .ok (.bl true) := (rfl)
@[simp] theorem fNeA_in : fNeA (.int j) .non = .ok (.bl true) := (rfl)
@[simp] theorem fEqA_nn : fEqA .non .non = .ok (.bl true) := (rfl)
@[simp] theorem fEqA_ni : fEqA .non (.int j) = .ok (.bl false) := (rfl)
@[simp] theorem fEqA_in : fEqA (.int j) .non = .ok (.bl false) := (rfl)
end
/-! what is held alone -/
@[simp] theorem noOwn_non : noOwn .non = true := (rfl)
@[simp] theorem noOwn_bl (b) : noOwn (.bl b) = true := (rfl)
@[simp] theorem noOwn_int (b) : noOwn (.int b) = true := (rfl)
@[simp] theorem noOwn_str (b) : noOwn (.str b) = true := (rfl)
@[simp] theorem noOwn_fn (b) : noOwn (.fn b) = true := (rfl)
@[simp] theorem noOwn_scr (b) : noOwn (.scr b) = true := (rfl)
@[simp] theorem noOwn_err (c b) : noOwn (.err c b) = true := (rfl)
@[simp] theorem noOwn_tup (ds) : noOwn (.tup ds) = noOwnL ds := by rw [noOwn]
@[simp] theorem noOwn_lst (o ds) : noOwn (.lst o ds) = (!o && noOwnL ds) := by rw [noOwn]
@[simp] theorem noOwn_dic (o ks ds) : noOwn (.dic o ks ds) = (!o && noOwnL ds) := by rw [noOwn]
@[simp] theorem noOwn_ins (o c fs ds) : noOwn (.ins o c fs ds) = (!o && noOwnL ds) := by rw [noOwn]
@[simp] theorem noOwnL_nil : noOwnL [] = true := by rw [noOwnL]
@[simp] theorem noOwnL_cons (d ds) : noOwnL (d :: ds) = (noOwn d && noOwnL ds) := by rw [noOwnL]
theorem noOwnL_all : ∀ {ds : List D}, noOwnL ds = ds.all noOwn
  | [] => by simp
  | d :: ds => by rw [noOwnL_cons, List.all_cons, noOwnL_all]
@[simp] theorem noOwnL_map {α : Type} (f : α → D) (l : List α) : noOwnL (l.map f) = l.all fun z => noOwn (f z) := by rw [noOwnL_all, List.all_map]; rfl
@[simp] theorem noOwnL_app (a b : List D) : noOwnL (a ++ b) = (noOwnL a && noOwnL b) := by simp [noOwnL_all]
@[simp] theorem frzAll_non : frzAll .non = .non := by simp only [frzAll]
@[simp] theorem frzAll_bl (b) : frzAll (.bl b) = .bl b := by simp only [frzAll]
@[simp] theorem frzAll_int (b) : frzAll (.int b) = .int b := by simp only [frzAll]
@[simp] theorem frzAll_str (b) : frzAll (.str b) = .str b := by simp only [frzAll]
@[simp] theorem frzAll_fn (b) : frzAll (.fn b) = .fn b := by simp only [frzAll]
@[simp] theorem frzAll_scr (b) : frzAll (.scr b) = .scr b := by simp only [frzAll]
@[simp] theorem frzAll_tup (ds) : frzAll (.tup ds) = .tup (frzL ds) := by rw [frzAll]
@[simp] theorem frzAll_lst (o ds) : frzAll (.lst o ds) = .lst false (frzL ds) := by rw [frzAll]
@[simp] theorem frzAll_dic (o ks ds) : frzAll (.dic o ks ds) = .dic false ks (frzL ds) := by rw [frzAll]
@[simp] theorem frzAll_ins (o c fs ds) : frzAll (.ins o c fs ds) = .ins false c fs (frzL ds) := by rw [frzAll]
@[simp] theorem frzL_nil : frzL [] = [] := by rw [frzL]
@[simp] theorem frzL_cons (d ds) : frzL (d :: ds) = frzAll d :: frzL ds := by rw [frzL]
theorem frzL_map : ∀ {ds : List D}, frzL ds = ds.map frzAll
  | [] => by simp
  | d :: ds => by rw [frzL_cons, List.map_cons, frzL_map]
@[simp] theorem frzL_app (a b : List D) : frzL (a ++ b) = frzL a ++ frzL b := by simp only [frzL_map, List.map_append]
mutual
theorem frzAll_id : ∀ {d : D}, noOwn d = true → frzAll d = d
  | .non, _ => by simp
  | .bl _, _ => by simp
  | .int _, _ => by simp
  | .str _, _ => by simp
  | .fn _, _ => by simp
  | .scr _, _ => by simp
  | .err _ _, _ => by simp only [frzAll]
  | .tup ds, h => by rw [noOwn_tup] at h; rw [frzAll_tup, frzL_id h]
  | .lst o ds, h => by
    rw [noOwn_lst, Bool.and_eq_true] at h
    rw [frzAll_lst, frzL_id h.2]
    cases o
    · rfl
    · exact absurd h.1 (by decide)
  | .dic o ks ds, h => by
    rw [noOwn_dic, Bool.and_eq_true] at h
    rw [frzAll_dic, frzL_id h.2]
    cases o
    · rfl
    · exact absurd h.1 (by decide)
  | .ins o c fs ds, h => by
    rw [noOwn_ins, Bool.and_eq_true] at h
    rw [frzAll_ins, frzL_id h.2]
    cases o
    · rfl
    · exact absurd h.1 (by decide)
theorem frzL_id : ∀ {ds : List D}, noOwnL ds = true → frzL ds = ds
  | [], _ => by simp
  | d :: ds, h => by
    rw [noOwnL_cons, Bool.and_eq_true] at h
    rw [frzL_cons, frzAll_id h.1, frzL_id h.2]
end
@[simp] theorem frzTop_lst (o xs) : frzTop (.lst o xs) = .lst false xs := (rfl)
@[simp] theorem frzTop_dic (o ks xs) : frzTop (.dic o ks xs) = .dic false ks xs := (rfl)
@[simp] theorem frzTop_ins (o c fs xs) : frzTop (.ins o c fs xs) = .ins false c fs xs := (rfl)
@[simp] theorem frzTop_int (i) : frzTop (.int i) = .int i := (rfl)
@[simp] theorem frzTop_str (i) : frzTop (.str i) = .str i := (rfl)
@[simp] theorem frzTop_tup (i) : frzTop (.tup i) = .tup i := (rfl)
@[simp] theorem frzTop_non : frzTop .non = .non := (rfl)
@[simp] theorem frzTop_bl (i) : frzTop (.bl i) = .bl i := (rfl)
/-! rows of slots -/
@[simp] theorem maskR_nil (n : Nat) (ρ : DL.Env) : maskR [] n ρ = List.replicate n none := by
  unfold maskR
  simp [List.map_const']
@[simp] theorem maskR_zero (n : Nat) (s : Option Slot) (ρ : DL.Env) : maskR [0] (n + 1) (s :: ρ) = s :: List.replicate n none := by
  unfold maskR
  rw [List.range_succ_eq_map, List.map_cons, List.map_map]
  have h1 : (if 0 ∈ [0] then (s :: ρ)[0]?.join else none) = s := by simp
  have h2 : ((fun k => if k ∈ [0] then (s :: ρ)[k]?.join else none) ∘ Nat.succ) = fun _ => (none : Option Slot) := by
    funext k
    simp
  rw [h1, h2, List.map_const', List.length_range]
@[simp] theorem slotDat_sh (d : D) : slotDat (some (some (.sh d))) = some d := (rfl)
@[simp] theorem slotDat_dp (d : D) : slotDat (some (some (.dp d))) = some d := (rfl)
theorem rowDat_of {ρ : DL.Env} {i : Nat} {d : D} (h : ρ[i]? = some (some (.dp d))) : rowDat ρ i = some d := by unfold rowDat; rw [h]
@[simp] theorem focusR_nil (tab : List (Str × List Str)) (d : D) : focusR tab d [] = some d := (rfl)
@[simp] theorem focusR_cons (tab : List (Str × List Str)) (d : D) (s : Stp) (r : List Stp) : focusR tab d (s :: r) = (focusR tab d r).bind fun p => (idx1 tab s p).bind fun k => (kids p)[k]? := (rfl)
@[simp] theorem putR_nil (tab : List (Str × List Str)) (d x : D) : putR tab d [] x = some x := (rfl)
@[simp] theorem putR_cons (tab : List (Str × List Str)) (d x : D) (s : Stp) (r : List Stp) : putR tab d (s :: r) x = (focusR tab d r).bind fun p => (idx1 tab s p).bind fun k => if canPut p = true then putR tab d r (withK p ((kids p).set k x)) else none := (rfl)
end DL
/-! M2 -/
set_option Elab.async false
set_option linter.all false
set_option maxRecDepth 100000
set_option maxHeartbeats 1000000
namespace DL
open PySem PySem.Spec PyProof.Rows L2
/-! loops -/
theorem forM_sat {g : D → DL.Env → Option DL.Env} {b : DL.Env → R Fl} {K : Fl → DL.Env → Prop} {X : Str → List D → DL.Env → Prop} (I : List D → DL.Env → Prop) :
    ∀ (ds pre : List D) (ρ : DL.Env), I pre ρ →
      (∀ pre d post ρ, pre ++ d :: post = pre ++ d :: post → I pre ρ → d ∈ ds → ∃ ρ1, g d ρ = some ρ1 ∧ (b ρ1).sat (fun fl ρ2 => match fl with
        | .nx => I (pre ++ [d]) ρ2
        | .ct => I (pre ++ [d]) ρ2
        | .bk => K .nx ρ2
        | .rt z => K (.rt z) ρ2) X) →
      (∀ ρ, I (pre ++ ds) ρ → K .nx ρ) → (forM g b ds ρ).sat K X
  | [], pre, ρ, h0, _, hf => hf ρ (by rw [List.append_nil]; exact h0)
  | d :: ds, pre, ρ, h0, hs, hf => by
    obtain ⟨ρ1, e, h⟩ := hs pre d ds ρ rfl h0 List.mem_cons_self
    unfold forM
    rw [e]
    refine R.sat_bind.mpr (R.sat_mono h (fun fl ρ2 _ k => ?_) fun _ _ _ k => k)
    have ih : I (pre ++ [d]) ρ2 → (forM g b ds ρ2).sat K X := fun k => forM_sat I ds (pre ++ [d]) ρ2 k (fun pre' d' post' ρ' _ i m => hs pre' d' post' ρ' rfl i (List.mem_cons_of_mem _ m)) fun ρ' i => hf ρ' (by simpa using i)
    cases fl with
    | nx => exact ih k
    | ct => exact ih k
    | bk => exact k
    | rt z => exact k
/-- a loop that goes through -/
theorem forM_run {g : D → DL.Env → Option DL.Env} {b : DL.Env → R Fl} {α σ : Type} (e : α → D) (E : σ → DL.Env) (f : σ → α → σ) : ∀ (l : List α) (s : σ),
    (∀ z ∈ l, ∀ s, ∃ ρ1, g (e z) (E s) = some ρ1 ∧ b ρ1 = .ok .nx (E (f s z))) → forM g b (l.map e) (E s) = .ok .nx (E (l.foldl f s))
  | [], s, _ => rfl
  | z :: l, s, h => by
    obtain ⟨ρ1, e1, e2⟩ := h z List.mem_cons_self s
    show forM g b (e z :: l.map e) (E s) = _
    unfold forM
    rw [e1]
    show (b ρ1).bind _ = _
    rw [e2]
    exact forM_run e E f l (f s z) fun z m => h z (List.mem_cons_of_mem _ m)
/-- .. with what holds meanwhile -/
theorem forM_runI {g : D → DL.Env → Option DL.Env} {b : DL.Env → R Fl} {α σ : Type} (e : α → D) (E : σ → DL.Env) (f : σ → α → σ) (I : σ → Prop) : ∀ (l : List α) (s : σ), I s →
    (∀ z ∈ l, ∀ s, I s → I (f s z) ∧ ∃ ρ1, g (e z) (E s) = some ρ1 ∧ b ρ1 = .ok .nx (E (f s z))) → forM g b (l.map e) (E s) = .ok .nx (E (l.foldl f s)) ∧ I (l.foldl f s)
  | [], s, i, _ => ⟨rfl, i⟩
  | z :: l, s, i, h => by
    obtain ⟨i2, ρ1, e1, e2⟩ := h z List.mem_cons_self s i
    have ih := forM_runI e E f I l (f s z) i2 fun z m => h z (List.mem_cons_of_mem _ m)
    refine ⟨?_, ih.2⟩
    show forM g b (e z :: l.map e) (E s) = _
    unfold forM
    rw [e1]
    show (b ρ1).bind _ = _
    rw [e2]
    exact ih.1
/-- a loop that looks for the first that is not right: c z says what is told -/
theorem forM_first {g : D → DL.Env → Option DL.Env} {b : DL.Env → R Fl} {α : Type} (e : α → D) (ok : α → Bool) (E : Option α → DL.Env) (r : α → R Fl) : ∀ (l : List α) (s : Option α),
    (∀ z ∈ l, ∀ s, ∃ ρ1, g (e z) (E s) = some ρ1 ∧ b ρ1 = if ok z = true then .ok .nx (E (some z)) else r z) →
    (∀ z ∈ l, (∃ d ρ, r z = .ok (.rt d) ρ) ∨ ∃ c xs ρ, r z = .exc c xs ρ) →
    forM g b (l.map e) (E s) = match l.find? fun z => !ok z with
      | some z => r z
      | none => .ok .nx (E (l.getLast?.or s))
  | [], s, _, _ => rfl
  | z :: l, s, h, hr => by
    obtain ⟨ρ1, e1, e2⟩ := h z List.mem_cons_self s
    show forM g b (e z :: l.map e) (E s) = _
    unfold forM
    rw [e1]
    show (b ρ1).bind _ = _
    rw [e2]
    by_cases o : ok z = true
    · rw [if_pos o, List.find?_cons_of_neg (by simp [o])]
      show forM g b (l.map e) (E (some z)) = _
      rw [forM_first e ok E r l (some z) (fun z m => h z (List.mem_cons_of_mem _ m)) fun z m => hr z (List.mem_cons_of_mem _ m)]
      cases l.find? fun z => !ok z with
      | some w => rfl
      | none =>
        congr 2
        cases l with
        | nil => rfl
        | cons w l => rw [List.getLast?_cons_cons]; rfl
    · rw [if_neg o, List.find?_cons_of_pos (by simp [o])]
      show (r z).bind _ = r z
      rcases hr z List.mem_cons_self with ⟨d, ρ, q⟩ | ⟨c, xs, ρ, q⟩ <;> rw [q] <;> rfl
/-! comprehensions -/
theorem lcM_map {g : D → DL.Env → Option DL.Env} {a : DL.Env → R D} {vs : List Nat} {ρ : DL.Env} {α : Type} (e f : α → D) : ∀ (l : List α) (acc : List D),
    (∀ z ∈ l, ∃ ρ' ρ'', g (e z) ρ = some ρ' ∧ a ρ' = .ok (f z) ρ'' ∧ wipeR ρ'' vs = ρ) → acc.length + l.length ≤ 100000 → lcM g tYesD a vs (l.map e) acc ρ = .ok (acc ++ l.map f) ρ
  | [], acc, _, _ => by rw [List.map_nil, List.map_nil, List.append_nil]; rfl
  | z :: l, acc, h, hl => by
    obtain ⟨ρ', ρ'', e1, e2, e3⟩ := h z List.mem_cons_self
    rw [List.length_cons] at hl
    show lcM g tYesD a vs (e z :: l.map e) acc ρ = _
    unfold lcM
    rw [e1]
    show (noX (a ρ')).bind _ = _
    rw [e2]
    show (if acc.length < 100000 then lcM g tYesD a vs (l.map e) (acc ++ [f z]) (wipeR ρ'' vs) else .stk) = _
    rw [if_pos (by omega), e3, lcM_map e f l (acc ++ [f z]) (fun z m => h z (List.mem_cons_of_mem _ m)) (by rw [List.length_append, List.length_singleton]; omega), List.map_cons, List.append_assoc]
    rfl
theorem lcM_filter {g : D → DL.Env → Option DL.Env} {t : DL.Env → R Bool} {a : DL.Env → R D} {vs : List Nat} {ρ : DL.Env} {α : Type} (e f : α → D) (p : α → Bool) : ∀ (l : List α) (acc : List D),
    (∀ z ∈ l, ∃ ρ' ρ1 ρ'', g (e z) ρ = some ρ' ∧ t ρ' = .ok (p z) ρ1 ∧ wipeR ρ1 vs = ρ ∧ (p z = true → a ρ1 = .ok (f z) ρ'' ∧ wipeR ρ'' vs = ρ)) → acc.length + l.length ≤ 100000 → lcM g t a vs (l.map e) acc ρ = .ok (acc ++ (l.filter p).map f) ρ
  | [], acc, _, _ => by rw [List.map_nil, List.filter_nil, List.map_nil, List.append_nil]; rfl
  | z :: l, acc, h, hl => by
    obtain ⟨ρ', ρ1, ρ'', e1, e2, e3, e4⟩ := h z List.mem_cons_self
    rw [List.length_cons] at hl
    show lcM g t a vs (e z :: l.map e) acc ρ = _
    unfold lcM
    rw [e1]
    show (noX (t ρ')).bind _ = _
    rw [e2]
    show (if p z = true then _ else _) = _
    by_cases q : p z = true
    · obtain ⟨e5, e6⟩ := e4 q
      rw [if_pos q, e5, List.filter_cons_of_pos q]
      show (if acc.length < 100000 then lcM g t a vs (l.map e) (acc ++ [f z]) (wipeR ρ'' vs) else .stk) = _
      rw [if_pos (by omega), e6, lcM_filter e f p l (acc ++ [f z]) (fun z m => h z (List.mem_cons_of_mem _ m)) (by rw [List.length_append, List.length_singleton]; omega), List.map_cons, List.append_assoc]
      rfl
    · rw [if_neg q, e3, List.filter_cons_of_neg q]
      exact lcM_filter e f p l acc (fun z m => h z (List.mem_cons_of_mem _ m)) (by omega)
/-- a comprehension whose parts change what is held -/
theorem lcM_sat {g : D → DL.Env → Option DL.Env} {a : DL.Env → R D} {vs : List Nat} {K : List D → DL.Env → Prop} {X : Str → List D → DL.Env → Prop} (I : List D → DL.Env → Prop) : ∀ (ds acc : List D) (ρ : DL.Env), I acc ρ →
    (∀ d ∈ ds, ∀ acc ρ, I acc ρ → ∃ ρ', g d ρ = some ρ' ∧ (a ρ').sat (fun z ρ'' => I (acc ++ [z]) (wipeR ρ'' vs)) fun _ _ _ => False) → acc.length + ds.length ≤ 100000 →
    (∀ acc' ρ, acc'.length = acc.length + ds.length → I acc' ρ → K acc' ρ) → (lcM g tYesD a vs ds acc ρ).sat K X
  | [], acc, ρ, i, _, _, hf => hf acc ρ rfl i
  | d :: ds, acc, ρ, i, h, hl, hf => by
    rw [List.length_cons] at hl
    obtain ⟨ρ', e1, s1⟩ := h d List.mem_cons_self acc ρ i
    unfold lcM
    rw [e1]
    show ((noX (a ρ')).bind _).sat K X
    cases q : a ρ' with
    | stk => rw [q] at s1; exact s1.elim
    | exc c xs ρ1 => rw [q] at s1; exact s1.elim
    | ok z ρ1 =>
      rw [q] at s1
      show (if acc.length < 100000 then lcM g tYesD a vs ds (acc ++ [z]) (wipeR ρ1 vs) else .stk).sat K X
      rw [if_pos (by omega)]
      exact lcM_sat I ds (acc ++ [z]) _ s1 (fun d m => h d (List.mem_cons_of_mem _ m)) (by rw [List.length_append, List.length_singleton]; omega) fun acc' ρ2 l i => hf acc' ρ2 (by rw [l, List.length_append, List.length_singleton, List.length_cons]; omega) i
end DL
namespace DL
open PySem PySem.Spec PyProof.Rows L2
/-- [f(x) for x in ds] -/
theorem lcM_fun {g : D → DL.Env → Option DL.Env} {a : DL.Env → R D} {vs : List Nat} {ρ : DL.Env} (f : D → D) {ds : List D} (h : ∀ d ∈ ds, ∃ ρ' ρ'', g d ρ = some ρ' ∧ a ρ' = .ok (f d) ρ'' ∧ wipeR ρ'' vs = ρ) (hl : ds.length ≤ 100000) :
    lcM g tYesD a vs ds [] ρ = .ok (ds.map f) ρ := by
  have z := lcM_map (g := g) (a := a) (vs := vs) (ρ := ρ) id f ds [] h (by simpa using hl)
  rw [List.map_id, List.nil_append] at z
  exact z
@[simp] theorem frzL_bl {α : Type} (f : α → Bool) (l : List α) : frzL (l.map fun z => .bl (f z)) = l.map fun z => .bl (f z) := by
  rw [frzL_map, List.map_map]
  simp [Function.comp_def]
theorem fAll_bl {α : Type} (o : Bool) (f : α → Bool) (l : List α) : fAll (.lst o (l.map fun z => .bl (f z))) = .ok (.bl (l.all f)) := fAll_map o f l
theorem frzL_id' {α : Type} (f : α → D) (l : List α) (h : ∀ z ∈ l, noOwn (f z) = true) : frzL (l.map f) = l.map f := by
  rw [frzL_map, List.map_map]
  exact List.map_congr_left fun z m => frzAll_id (h z m)
end DL
namespace DL
open PySem PySem.Spec PyProof.Rows L2
@[simp] theorem bools_nil : bools [] = some [] := (rfl)
@[simp] theorem bools_cons (b : Bool) (ds : List D) : bools (.bl b :: ds) = (bools ds).map (b :: ·) := (rfl)
def fallK (f : List Bool → Bool) : Option (List Bool) → P D
  | some bs => .ok (.bl (f bs))
  | none => .stk
@[simp] theorem fallK_some (f : List Bool → Bool) (bs : List Bool) : fallK f (some bs) = .ok (.bl (f bs)) := (rfl)
@[simp] theorem fAll_lst (o : Bool) (ds : List D) : fAll (.lst o ds) = fallK (·.all id) (bools ds) := by
  show (match bools ds with | some bs => P.ok (D.bl (bs.all id)) | none => .stk) = _
  cases bools ds <;> rfl
@[simp] theorem fAny_lst (o : Bool) (ds : List D) : fAny (.lst o ds) = fallK (·.any id) (bools ds) := by
  show (match bools ds with | some bs => P.ok (D.bl (bs.any id)) | none => .stk) = _
  cases bools ds <;> rfl
@[simp] theorem bools_map' {α : Type} (f : α → Bool) (l : List α) : bools (l.map fun z => .bl (f z)) = some (l.map f) := bools_map f l
end DL
namespace DL
open PySem PySem.Spec PyProof.Rows L2
/-- enumerate from a number on -/
def enumF : Nat → List D → List D
  | _, [] => []
  | k, d :: ds => .tup [.int k, d] :: enumF (k + 1) ds
theorem enumF_len : ∀ (k : Nat) (ds : List D), (enumF k ds).length = ds.length
  | _, [] => rfl
  | k, d :: ds => by rw [enumF, List.length_cons, enumF_len, List.length_cons]
theorem enumF_get : ∀ (k : Nat) (ds : List D) (i : Nat) (h : i < ds.length), (enumF k ds)[i]? = some (.tup [.int (k + i : Nat), (ds[i]?).getD .non])
  | k, [], i, h => absurd h (Nat.not_lt_zero _)
  | k, d :: ds, 0, h => rfl
  | k, d :: ds, i + 1, h => by
    rw [enumF, List.getElem?_cons_succ, enumF_get (k + 1) ds i (by simpa using h), List.getElem?_cons_succ]
    congr 4
    omega
theorem enumD_eq (ds : List D) : enumD ds = enumF 0 ds := by
  apply List.ext_getElem?
  intro i
  by_cases h : i < ds.length
  · rw [enumF_get 0 ds i h]
    unfold enumD
    rw [List.getElem?_map, List.getElem?_range h]
    simp
  · unfold enumD
    rw [List.getElem?_eq_none (by simp; omega), List.getElem?_eq_none (by rw [enumF_len]; omega)]
end DL
namespace DL
open PySem PySem.Spec PyProof.Rows L2
section
variable (tab : List (Str × List Str)) (e : D) (o : Bool) (xs ys : List D) (ks : List Key) (c f : Str) (fs : List Str)
theorem idx1_fld : idx1 tab (.fld f) (.ins o c fs xs) = if tabOk tab c f = true then idxF fs f else none := (rfl)
@[simp] theorem idx1_lst : idx1 tab (.at e) (.lst o xs) = (intOf e).bind (ixN xs.length) := (rfl)
@[simp] theorem idx1_tup : idx1 tab (.at e) (.tup xs) = (intOf e).bind (ixN xs.length) := (rfl)
@[simp] theorem idx1_dic : idx1 tab (.at e) (.dic o ks xs) = (toKey e).bind (idxK ks) := (rfl)
@[simp] theorem intOf_int (i : Int) : intOf (.int i) = some i := (rfl)
@[simp] theorem kids_lst : kids (.lst o xs) = xs := (rfl)
@[simp] theorem kids_tup : kids (.tup xs) = xs := (rfl)
@[simp] theorem kids_dic : kids (.dic o ks xs) = xs := (rfl)
@[simp] theorem kids_ins : kids (.ins o c fs xs) = xs := (rfl)
@[simp] theorem canPut_lst : canPut (.lst o xs) = o := (rfl)
@[simp] theorem canPut_tup : canPut (.tup xs) = true := (rfl)
@[simp] theorem canPut_dic : canPut (.dic o ks xs) = o := (rfl)
@[simp] theorem canPut_ins : canPut (.ins o c fs xs) = o := (rfl)
@[simp] theorem withK_lst : withK (.lst o xs) ys = .lst o ys := (rfl)
@[simp] theorem withK_tup : withK (.tup xs) ys = .tup ys := (rfl)
@[simp] theorem withK_dic : withK (.dic o ks xs) ys = .dic o ks ys := (rfl)
@[simp] theorem withK_ins : withK (.ins o c fs xs) ys = .ins o c fs ys := (rfl)
@[simp] theorem isOwn_lst : isOwn (.lst true xs) = true := (rfl)
@[simp] theorem isOwn_dic : isOwn (.dic true ks xs) = true := (rfl)
@[simp] theorem isOwn_ins : isOwn (.ins true c fs xs) = true := (rfl)
@[simp] theorem listOwn_lst : listOwn (.lst true xs) = true := (rfl)
@[simp] theorem fAppend_e (d : D) : fAppend (.lst true xs) [d] = if xs.length < 100000 then some (.lst true (xs ++ [d]), .non) else none := (rfl)
theorem fPop_e {d : D} : fPop (.lst true (xs ++ [d])) [] = some (.lst true xs, d) := by
  show (match (xs ++ [d])[(xs ++ [d]).length - 1]? with | some d' => some (D.lst true (xs ++ [d]).dropLast, d') | none => none) = _
  simp
@[simp] theorem ixN_10 : ixN 1 0 = some 0 := (rfl)
@[simp] theorem ixN_20 : ixN 2 0 = some 0 := (rfl)
@[simp] theorem ixN_21 : ixN 2 1 = some 1 := (rfl)
@[simp] theorem ixN_30 : ixN 3 0 = some 0 := (rfl)
@[simp] theorem ixN_31 : ixN 3 1 = some 1 := (rfl)
@[simp] theorem ixN_32 : ixN 3 2 = some 2 := (rfl)
@[simp] theorem ixN_40 : ixN 4 0 = some 0 := (rfl)
@[simp] theorem ixN_41 : ixN 4 1 = some 1 := (rfl)
@[simp] theorem ixN_42 : ixN 4 2 = some 2 := (rfl)
@[simp] theorem ixN_43 : ixN 4 3 = some 3 := (rfl)
theorem ixN_last (n : Nat) : ixN (n + 1) (-1) = some n := by
  unfold ixN
  rw [if_neg (by omega), if_pos (by omega)]
  congr 1
  omega
theorem ixN_nat {n k : Nat} (h : k < n) : ixN n (k : Int) = some k := by
  unfold ixN
  rw [if_pos (by omega), if_pos (by omega)]
  simp
end
theorem rowDat_e (ρ : DL.Env) (i : Nat) : rowDat ρ i = match ρ[i]? with
  | some (some (.dp d)) => some d
  | _ => none := (rfl)
@[simp] theorem setIx_lst (e d : D) (xs : List D) : setIx e (.lst true xs) d = (intOf e).bind fun i => (ixN xs.length i).map fun k => .lst true (xs.set k d) := (rfl)
end DL
namespace DL
open PySem PySem.Spec PyProof.Rows L2
theorem ioOk_v : ∀ (xs : List D), ioOk (xs.map .v) = true
  | [] => rfl
  | x :: xs => ioOk_v xs
theorem ioOk_io (i : Nat) (xs : List D) : ioOk (.io i :: xs.map .v) = true := by
  show ((xs.map Pre.v).all (fun p => !uses i p) && ioOk (xs.map .v)) = true
  rw [ioOk_v, Bool.and_true, List.all_map, List.all_eq_true]
  intro x _
  rfl
theorem preEnv_vs (ρ : DL.Env) : ∀ xs : List D, preEnv ρ (xs.map .v) = some (xs.map fun x => some (.sh x))
  | [] => rfl
  | x :: xs => by rw [List.map_cons, preEnv_v, preEnv_vs ρ xs]; rfl
theorem postEnv_vs (ρ : DL.Env) : ∀ (xs : List D) (ρ' : DL.Env), xs.length ≤ ρ'.length → postEnv ρ (xs.map .v) ρ' = some ρ
  | [], ρ', _ => by rw [List.map_nil, postEnv_nil]
  | x :: xs, [], h => by simp at h
  | x :: xs, s :: ρ', h => by rw [List.map_cons, postEnv_v]; exact postEnv_vs ρ xs ρ' (by simpa using h)
theorem noLent_io (i : Nat) (xs : List D) : noLent (.io i :: xs.map .v) = true := by
  show noLent (xs.map .v) = true
  induction xs with
  | nil => rfl
  | cons x xs ih => exact ih
/-- a call with one thing that it may change, ahead of shared ones -/
theorem doCall_io {cs : List Str} {m : DL.Env → R D} {i : Nat} {d d' z : D} {xs : List D} {ρ r : DL.Env} (hi : ρ[i]? = some (some (.dp d))) (h : m (some (.dp d) :: xs.map fun x => some (.sh x)) = .ok z (some (.dp d') :: r)) (hr : xs.length ≤ r.length) :
    doCall cs m (.io i :: xs.map .v) ρ = .ok z (ρ.set i (some (.dp d'))) := by
  rw [doCall_e _ _ _ _ (ioOk_io i xs), preEnv_io, hi, preEnv_vs]
  show callR cs ρ _ (m (some (.dp d) :: xs.map fun x => some (.sh x))) = _
  rw [h, callR_ok, postEnv_io (d := d) _ _ _ _ hi, postEnv_vs _ _ _ hr, cRk_some _ _ _ _ _ _ (noLent_io i xs)]
theorem doCall_ioX {cs : List Str} {m : DL.Env → R D} {i : Nat} {d d' : D} {c : Str} {zs xs : List D} {ρ r : DL.Env} (hi : ρ[i]? = some (some (.dp d))) (h : m (some (.dp d) :: xs.map fun x => some (.sh x)) = .exc c zs (some (.dp d') :: r)) (hr : xs.length ≤ r.length) :
    doCall cs m (.io i :: xs.map .v) ρ = .exc c zs (ρ.set i (some (.dp d'))) := by
  rw [doCall_e _ _ _ _ (ioOk_io i xs), preEnv_io, hi, preEnv_vs]
  show callR cs ρ _ (m (some (.dp d) :: xs.map fun x => some (.sh x))) = _
  rw [h, callR_exc, postEnv_io (d := d) _ _ _ _ hi, postEnv_vs _ _ _ hr, cRx_some _ _ _ _ _ _ _ (noLent_io i xs)]
end DL
/-! M3 -/
set_option Elab.async false
set_option linter.all false
set_option maxRecDepth 100000
set_option maxHeartbeats 1000000
namespace DL
open PySem PySem.Spec PyProof.Rows L2
/-! equality of plain data -/
mutual
/-- no flags, nothing held, no objects; n deep at most -/
def plainD : Nat → D → Bool
  | _, .non => true
  | _, .int _ => true
  | _, .str s => PyData.canLay0 (.str s)
  | n + 1, .tup xs => plainL n xs
  | n + 1, .lst false xs => plainL n xs
  | _, _ => false
def plainL : Nat → List D → Bool
  | _, [] => true
  | n, d :: ds => plainD n d && plainL n ds
end
@[simp] theorem plainD_non (n) : plainD n .non = true := by cases n <;> simp [plainD]
@[simp] theorem plainD_int (n i) : plainD n (.int i) = true := by cases n <;> simp [plainD]
@[simp] theorem plainD_tup (n xs) : plainD (n + 1) (.tup xs) = plainL n xs := by simp [plainD]
@[simp] theorem plainD_lst (n xs) : plainD (n + 1) (.lst false xs) = plainL n xs := by simp [plainD]
@[simp] theorem plainL_nil (n) : plainL n [] = true := by simp [plainL]
@[simp] theorem plainL_cons (n d ds) : plainL n (d :: ds) = (plainD n d && plainL n ds) := by simp [plainL]
theorem plainL_all (n) : ∀ {ds : List D}, plainL n ds = ds.all (plainD n)
  | [] => by simp
  | d :: ds => by rw [plainL_cons, List.all_cons, plainL_all]
@[simp] theorem plainL_map {α : Type} (n) (f : α → D) (l : List α) : plainL n (l.map f) = l.all fun z => plainD n (f z) := by rw [plainL_all, List.all_map]; rfl
mutual
theorem plain_ok : ∀ (n : Nat) (d : D), plainD n d = true → okPy n d = true
  | n, .non, _ => by cases n <;> simp [okPy]
  | n, .int _, _ => by cases n <;> simp [okPy]
  | n, .str s, h => by cases n <;> (simp only [plainD] at h; simp only [okPy]; exact h)
  | n + 1, .tup xs, h => by simp only [okPy]; exact plain_okL n xs (by simpa using h)
  | n + 1, .lst false xs, h => by simp only [okPy]; exact plain_okL n xs (by simpa using h)
  | 0, .tup _, h => by simp [plainD] at h
  | 0, .lst false _, h => by simp [plainD] at h
  | n, .lst true _, h => by cases n <;> simp [plainD] at h
  | n, .bl _, h => by cases n <;> simp [plainD] at h
  | n, .fn _, h => by cases n <;> simp [plainD] at h
  | n, .scr _, h => by cases n <;> simp [plainD] at h
  | n, .dic _ _ _, h => by cases n <;> simp [plainD] at h
  | n, .ins _ _ _ _, h => by cases n <;> simp [plainD] at h
  | n, .err _ _, h => by cases n <;> simp [plainD] at h
theorem plain_okL : ∀ (n : Nat) (ds : List D), plainL n ds = true → okPyL n ds = true
  | n, [], _ => by simp [okPyL]
  | n, d :: ds, h => by
    rw [plainL_cons, Bool.and_eq_true] at h
    simp only [okPyL, Bool.and_eq_true]
    exact ⟨plain_ok n d h.1, plain_okL n ds h.2⟩
end
mutual
theorem eqv_iff : ∀ (n : Nat) (d e : D), plainD n d = true → plainD n e = true → (PyData.eqv (py d) (py e) = true ↔ d = e)
  | n, .non, e, _, h => by
    cases e <;> first | (cases n <;> simp [plainD] at h; done) | simp [py, PyData.eqv]
  | n, .int i, e, _, h => by
    cases e <;> first | (cases n <;> simp [plainD] at h; done) | simp [py, PyData.eqv]
  | n, .str s, e, _, h => by
    cases e <;> first | (cases n <;> simp [plainD] at h; done) | simp [py, PyData.eqv]
  | n + 1, .tup xs, e, h1, h => by
    cases e with
    | tup ys =>
      have := eqvL_iff n xs ys (by simpa using h1) (by simpa using h)
      simp [py, PyData.eqv, this]
    | _ => first | (simp [plainD] at h; done) | simp [py, PyData.eqv]
  | n + 1, .lst false xs, e, h1, h => by
    cases e with
    | lst o ys =>
      cases o with
      | true => simp [plainD] at h
      | false =>
        have := eqvL_iff n xs ys (by simpa using h1) (by simpa using h)
        simp [py, PyData.eqv, this]
    | _ => first | (simp [plainD] at h; done) | simp [py, PyData.eqv]
  | 0, .tup _, _, h, _ => by simp [plainD] at h
  | 0, .lst false _, _, h, _ => by simp [plainD] at h
  | n, .lst true _, _, h, _ => by cases n <;> simp [plainD] at h
  | n, .bl _, _, h, _ => by cases n <;> simp [plainD] at h
  | n, .fn _, _, h, _ => by cases n <;> simp [plainD] at h
  | n, .scr _, _, h, _ => by cases n <;> simp [plainD] at h
  | n, .dic _ _ _, _, h, _ => by cases n <;> simp [plainD] at h
  | n, .ins _ _ _ _, _, h, _ => by cases n <;> simp [plainD] at h
  | n, .err _ _, _, h, _ => by cases n <;> simp [plainD] at h
theorem eqvL_iff : ∀ (n : Nat) (ds es : List D), plainL n ds = true → plainL n es = true → (PyData.eqvAll (pyL ds) (pyL es) = true ↔ ds = es)
  | n, [], [], _, _ => by simp [pyL, PyData.eqvAll]
  | n, [], e :: es, _, _ => by simp [pyL, PyData.eqvAll]
  | n, d :: ds, [], _, _ => by simp [pyL, PyData.eqvAll]
  | n, d :: ds, e :: es, h1, h2 => by
    rw [plainL_cons, Bool.and_eq_true] at h1 h2
    simp [pyL, PyData.eqvAll, eqv_iff n d e h1.1 h2.1, eqvL_iff n ds es h1.2 h2.2]
end
theorem fEqD_same {d : D} (h : plainD 60 d = true) : fEqD d d = .ok (.bl true) := by
  unfold fEqD
  rw [if_pos ⟨plain_ok 60 d h, plain_ok 60 d h⟩, (eqv_iff 60 d d h h).mpr rfl]
theorem fEqD_diff {d e : D} (h : plainD 60 d = true) (h' : plainD 60 e = true) (n : d ≠ e) : fEqD d e = .ok (.bl false) := by
  unfold fEqD
  rw [if_pos ⟨plain_ok 60 d h, plain_ok 60 e h'⟩]
  cases z : PyData.eqv (py d) (py e)
  · rfl
  · exact absurd ((eqv_iff 60 d e h h').mp z) n
theorem fNeD_same {d : D} (h : plainD 60 d = true) : fNeD d d = .ok (.bl false) := by
  unfold fNeD
  rw [if_pos ⟨plain_ok 60 d h, plain_ok 60 d h⟩, (eqv_iff 60 d d h h).mpr rfl]
  rfl
theorem fNeD_diff {d e : D} (h : plainD 60 d = true) (h' : plainD 60 e = true) (n : d ≠ e) : fNeD d e = .ok (.bl true) := by
  unfold fNeD
  rw [if_pos ⟨plain_ok 60 d h, plain_ok 60 e h'⟩]
  cases z : PyData.eqv (py d) (py e)
  · rfl
  · exact absurd ((eqv_iff 60 d e h h').mp z) n
/-- neither is flat -/
theorem fEqA_tt (a b : List D) : fEqA (.tup a) (.tup b) = fEqD (.tup a) (.tup b) := (rfl)
theorem fNeA_tt (a b : List D) : fNeA (.tup a) (.tup b) = fNeD (.tup a) (.tup b) := (rfl)
theorem fEqA_ll (o o') (a b : List D) : fEqA (.lst o a) (.lst o' b) = fEqD (.lst o a) (.lst o' b) := (rfl)
theorem fNeA_ll (o o') (a b : List D) : fNeA (.lst o a) (.lst o' b) = fNeD (.lst o a) (.lst o' b) := (rfl)
end DL
/-! G72 -/
set_option Elab.async false
set_option linter.all false
set_option maxRecDepth 100000
set_option maxHeartbeats 4000000
namespace G
open PySem PySem.Spec PyProof.Rows L2 DL
abbrev P : Program := PySem.Challenge.pw_rootstalls_k72_whole_loops_of_orders
def top (i : Nat) : Stmt := P.main.body.getD i (.Pass ⟨0, 0, 0, 0⟩)
def n_BadPurse : Str := "BadPurse"
def n_BadStall : Str := "BadStall"
def n_BadText : Str := "BadText"
def n_BadWares : Str := "BadWares"
def n_Exact : Str := "Exact"
def n_Run : Str := "Run"
def n_StallError : Str := "StallError"
def n_TooMany : Str := "TooMany"
def n_Web : Str := "Web"
def n_bottom : Str := "bottom"
def n_do : Str := "do"
def n_index : Str := "index"
def n_is_less : Str := "is_less"
def n_lead : Str := "lead"
def n_limit : Str := "limit"
def n_moves : Str := "moves"
def n_over : Str := "over"
def n_own : Str := "own"
def n_pair : Str := "pair"
def n_part_of : Str := "part_of"
def n_put : Str := "put"
def n_sign : Str := "sign"
def n_square : Str := "square"
def n_stalls : Str := "stalls"
def n_top : Str := "top"
def n_wares : Str := "wares"
def n_web : Str := "web"
def tab : List (Str × List Str) := [(n_Exact, [n_top, n_bottom]), (n_Web, [n_wares, n_stalls]), (n_Run, [n_web, n_own, n_moves])]
def clsAll : List Str := [n_Exact, n_Web, n_Run]
def tg_Exact : Tg → Option Bool
  | .non => some false
  | .bl => some false
  | .int => some false
  | .str => some false
  | .lst => some false
  | .tup => some false
  | .dic => some false
  | .ins c => if c ∈ clsAll then some (false || decide (c = n_Exact)) else none
def tg_Web : Tg → Option Bool
  | .non => some false
  | .bl => some false
  | .int => some false
  | .str => some false
  | .lst => some false
  | .tup => some false
  | .dic => some false
  | .ins c => if c ∈ clsAll then some (false || decide (c = n_Web)) else none
def tg_bool : Tg → Option Bool
  | .non => some false
  | .bl => some true
  | .int => some false
  | .str => some false
  | .lst => some false
  | .tup => some false
  | .dic => some false
  | .ins c => if c ∈ clsAll then some (false) else none
def tg_int : Tg → Option Bool
  | .non => some false
  | .bl => some true
  | .int => some true
  | .str => some false
  | .lst => some false
  | .tup => some false
  | .dic => some false
  | .ins c => if c ∈ clsAll then some (false) else none
def tg_list_tuple : Tg → Option Bool
  | .non => some false
  | .bl => some false
  | .int => some false
  | .str => some false
  | .lst => some true
  | .tup => some true
  | .dic => some false
  | .ins c => if c ∈ clsAll then some (false) else none
def tg_str : Tg → Option Bool
  | .non => some false
  | .bl => some false
  | .int => some false
  | .str => some true
  | .lst => some false
  | .tup => some false
  | .dic => some false
  | .ins c => if c ∈ clsAll then some (false) else none
def tg_tuple : Tg → Option Bool
  | .non => some false
  | .bl => some false
  | .int => some false
  | .str => some false
  | .lst => some false
  | .tup => some true
  | .dic => some false
  | .ins c => if c ∈ clsAll then some (false) else none
def etab : List (Str × List Str) := [(n_BadPurse, []), (n_BadStall, [n_index]), (n_BadText, [n_index]), (n_BadWares, []), (n_TooMany, [n_limit])]
def xt_StallError : List (Str × Bool) := [(n_BadPurse, true), (n_BadStall, true), (n_BadText, true), (n_BadWares, true), (n_TooMany, true)]
def ex_StallError (c : Str) : Option Bool := xt_StallError.lookup c
def xt_TooMany : List (Str × Bool) := [(n_BadPurse, false), (n_BadStall, false), (n_BadText, false), (n_BadWares, false), (n_TooMany, true)]
def ex_TooMany (c : Str) : Option Bool := xt_TooMany.lookup c
structure Facts (o : Wo) (g : Gx) : Prop where
  ap : ClsApart g clsAll
  tb : FldOk g tab
  b_abs : o.mg "abs" = none
  b_all : o.mg "all" = none
  b_bool : o.mg "bool" = none
  b_enumerate : o.mg "enumerate" = none
  b_int : o.mg "int" = none
  b_isinstance : o.mg "isinstance" = none
  b_len : o.mg "len" = none
  b_list : o.mg "list" = none
  b_min : o.mg "min" = none
  b_range : o.mg "range" = none
  b_str : o.mg "str" = none
  b_tuple : o.mg "tuple" = none
  v_DIGITS : ∃ u, o.mg "DIGITS" = some u ∧ L2.RelV (.str "0123456789") u
  v_MOST_DEPTH : ∃ u, o.mg "MOST_DEPTH" = some u ∧ L2.RelV (.int 4) u
  v_MOST_DIGITS : ∃ u, o.mg "MOST_DIGITS" = some u ∧ L2.RelV (.int 12) u
  v_MOST_MOVES : ∃ u, o.mg "MOST_MOVES" = some u ∧ L2.RelV (.int 200) u
  v_MOST_NUMBER : ∃ u, o.mg "MOST_NUMBER" = some u ∧ L2.RelV (.int 9) u
  v_MOST_STALLS : ∃ u, o.mg "MOST_STALLS" = some u ∧ L2.RelV (.int 16) u
  v_MOST_TIMES : ∃ u, o.mg "MOST_TIMES" = some u ∧ L2.RelV (.int 20) u
  v_MOST_WARES : ∃ u, o.mg "MOST_WARES" = some u ∧ L2.RelV (.int 8) u
  d_is_integer : ∃ fd, FunD g.K "is_integer" "is_integer" (defArgs (top 8)) (defBody (top 8)) (defScope (top 8)) [] [] (g.fa "is_integer") fd
  f_is_integer : o.mg "is_integer" = some (.ref (g.fa "is_integer"))
  d_common : ∃ fd, FunD g.K "common" "common" (defArgs (top 9)) (defBody (top 9)) (defScope (top 9)) [] [] (g.fa "common") fd
  f_common : o.mg "common" = some (.ref (g.fa "common"))
  d_Exact___init__ : ∃ fd, FunD g.K "__init__" "Exact.__init__" (defArgs (inClass (top 10) 0)) (defBody (inClass (top 10) 0)) (defScope (inClass (top 10) 0)) [] [] (g.fa "Exact.__init__") fd
  d_Exact___add__ : ∃ fd, FunD g.K "__add__" "Exact.__add__" (defArgs (inClass (top 10) 1)) (defBody (inClass (top 10) 1)) (defScope (inClass (top 10) 1)) [] [] (g.fa "Exact.__add__") fd
  me_Exact___add__ : Meth g.K (g.cl n_Exact) "__add__" (g.fa "Exact.__add__")
  d_Exact___sub__ : ∃ fd, FunD g.K "__sub__" "Exact.__sub__" (defArgs (inClass (top 10) 2)) (defBody (inClass (top 10) 2)) (defScope (inClass (top 10) 2)) [] [] (g.fa "Exact.__sub__") fd
  me_Exact___sub__ : Meth g.K (g.cl n_Exact) "__sub__" (g.fa "Exact.__sub__")
  d_Exact___mul__ : ∃ fd, FunD g.K "__mul__" "Exact.__mul__" (defArgs (inClass (top 10) 3)) (defBody (inClass (top 10) 3)) (defScope (inClass (top 10) 3)) [] [] (g.fa "Exact.__mul__") fd
  me_Exact___mul__ : Meth g.K (g.cl n_Exact) "__mul__" (g.fa "Exact.__mul__")
  d_Exact___eq__ : ∃ fd, FunD g.K "__eq__" "Exact.__eq__" (defArgs (inClass (top 10) 4)) (defBody (inClass (top 10) 4)) (defScope (inClass (top 10) 4)) [] [] (g.fa "Exact.__eq__") fd
  me_Exact___eq__ : Meth g.K (g.cl n_Exact) "__eq__" (g.fa "Exact.__eq__")
  d_Exact_over : ∃ fd, FunD g.K "over" "Exact.over" (defArgs (inClass (top 10) 5)) (defBody (inClass (top 10) 5)) (defScope (inClass (top 10) 5)) [] [] (g.fa "Exact.over") fd
  me_Exact_over : Meth g.K (g.cl n_Exact) "over" (g.fa "Exact.over")
  d_Exact_sign : ∃ fd, FunD g.K "sign" "Exact.sign" (defArgs (inClass (top 10) 6)) (defBody (inClass (top 10) 6)) (defScope (inClass (top 10) 6)) [] [] (g.fa "Exact.sign") fd
  me_Exact_sign : Meth g.K (g.cl n_Exact) "sign" (g.fa "Exact.sign")
  d_Exact_is_less : ∃ fd, FunD g.K "is_less" "Exact.is_less" (defArgs (inClass (top 10) 7)) (defBody (inClass (top 10) 7)) (defScope (inClass (top 10) 7)) [] [] (g.fa "Exact.is_less") fd
  me_Exact_is_less : Meth g.K (g.cl n_Exact) "is_less" (g.fa "Exact.is_less")
  d_Exact_square : ∃ fd, FunD g.K "square" "Exact.square" (defArgs (inClass (top 10) 8)) (defBody (inClass (top 10) 8)) (defScope (inClass (top 10) 8)) [] [] (g.fa "Exact.square") fd
  me_Exact_square : Meth g.K (g.cl n_Exact) "square" (g.fa "Exact.square")
  d_Exact_pair : ∃ fd, FunD g.K "pair" "Exact.pair" (defArgs (inClass (top 10) 9)) (defBody (inClass (top 10) 9)) (defScope (inClass (top 10) 9)) [] [] (g.fa "Exact.pair") fd
  me_Exact_pair : Meth g.K (g.cl n_Exact) "pair" (g.fa "Exact.pair")
  d_exact : ∃ fd, FunD g.K "exact" "exact" (defArgs (top 11)) (defBody (top 11)) (defScope (top 11)) [] [] (g.fa "exact") fd
  f_exact : o.mg "exact" = some (.ref (g.fa "exact"))
  d_is_fraction : ∃ fd, FunD g.K "is_fraction" "is_fraction" (defArgs (top 13)) (defBody (top 13)) (defScope (top 13)) [] [] (g.fa "is_fraction") fd
  f_is_fraction : o.mg "is_fraction" = some (.ref (g.fa "is_fraction"))
  d_is_amount : ∃ fd, FunD g.K "is_amount" "is_amount" (defArgs (top 14)) (defBody (top 14)) (defScope (top 14)) [] [] (g.fa "is_amount") fd
  f_is_amount : o.mg "is_amount" = some (.ref (g.fa "is_amount"))
  d_is_some : ∃ fd, FunD g.K "is_some" "is_some" (defArgs (top 15)) (defBody (top 15)) (defScope (top 15)) [] [] (g.fa "is_some") fd
  f_is_some : o.mg "is_some" = some (.ref (g.fa "is_some"))
  d_is_ware_below : ∃ fd, FunD g.K "is_ware_below" "is_ware_below" (defArgs (top 19)) (defBody (top 19)) (defScope (top 19)) [] [] (g.fa "is_ware_below") fd
  f_is_ware_below : o.mg "is_ware_below" = some (.ref (g.fa "is_ware_below"))
  d_is_stall : ∃ fd, FunD g.K "is_stall" "is_stall" (defArgs (top 20)) (defBody (top 20)) (defScope (top 20)) [] [] (g.fa "is_stall") fd
  f_is_stall : o.mg "is_stall" = some (.ref (g.fa "is_stall"))
  d_Web___init__ : ∃ fd, FunD g.K "__init__" "Web.__init__" (defArgs (inClass (top 21) 0)) (defBody (inClass (top 21) 0)) (defScope (inClass (top 21) 0)) [] [] (g.fa "Web.__init__") fd
  d_Web___eq__ : ∃ fd, FunD g.K "__eq__" "Web.__eq__" (defArgs (inClass (top 21) 1)) (defBody (inClass (top 21) 1)) (defScope (inClass (top 21) 1)) [] [] (g.fa "Web.__eq__") fd
  me_Web___eq__ : Meth g.K (g.cl n_Web) "__eq__" (g.fa "Web.__eq__")
  d_is_amounts : ∃ fd, FunD g.K "is_amounts" "is_amounts" (defArgs (top 22)) (defBody (top 22)) (defScope (top 22)) [] [] (g.fa "is_amounts") fd
  f_is_amounts : o.mg "is_amounts" = some (.ref (g.fa "is_amounts"))
  d_check_purse : ∃ fd, FunD g.K "check_purse" "check_purse" (defArgs (top 23)) (defBody (top 23)) (defScope (top 23)) [] [] (g.fa "check_purse") fd
  f_check_purse : o.mg "check_purse" = some (.ref (g.fa "check_purse"))
  d_other_ware : ∃ fd, FunD g.K "other_ware" "other_ware" (defArgs (top 24)) (defBody (top 24)) (defScope (top 24)) [] [] (g.fa "other_ware") fd
  f_other_ware : o.mg "other_ware" = some (.ref (g.fa "other_ware"))
  d_held_of : ∃ fd, FunD g.K "held_of" "held_of" (defArgs (top 25)) (defBody (top 25)) (defScope (top 25)) [] [] (g.fa "held_of") fd
  f_held_of : o.mg "held_of" = some (.ref (g.fa "held_of"))
  d_root_exact : ∃ fd, FunD g.K "root_exact" "root_exact" (defArgs (top 26)) (defBody (top 26)) (defScope (top 26)) [] [] (g.fa "root_exact") fd
  f_root_exact : o.mg "root_exact" = some (.ref (g.fa "root_exact"))
  d_is_index : ∃ fd, FunD g.K "is_index" "is_index" (defArgs (top 28)) (defBody (top 28)) (defScope (top 28)) [] [] (g.fa "is_index") fd
  f_is_index : o.mg "is_index" = some (.ref (g.fa "is_index"))
  d_with_held : ∃ fd, FunD g.K "with_held" "with_held" (defArgs (top 29)) (defBody (top 29)) (defScope (top 29)) [] [] (g.fa "with_held") fd
  f_with_held : o.mg "with_held" = some (.ref (g.fa "with_held"))
  d_with_stall : ∃ fd, FunD g.K "with_stall" "with_stall" (defArgs (top 30)) (defBody (top 30)) (defScope (top 30)) [] [] (g.fa "with_stall") fd
  f_with_stall : o.mg "with_stall" = some (.ref (g.fa "with_stall"))
  d_behind_move : ∃ fd, FunD g.K "behind_move" "behind_move" (defArgs (top 31)) (defBody (top 31)) (defScope (top 31)) [] [] (g.fa "behind_move") fd
  f_behind_move : o.mg "behind_move" = some (.ref (g.fa "behind_move"))
  d_number_in : ∃ fd, FunD g.K "number_in" "number_in" (defArgs (top 39)) (defBody (top 39)) (defScope (top 39)) [] [] (g.fa "number_in") fd
  f_number_in : o.mg "number_in" = some (.ref (g.fa "number_in"))
  d_amount_in : ∃ fd, FunD g.K "amount_in" "amount_in" (defArgs (top 40)) (defBody (top 40)) (defScope (top 40)) [] [] (g.fa "amount_in") fd
  f_amount_in : o.mg "amount_in" = some (.ref (g.fa "amount_in"))
  d_some_in : ∃ fd, FunD g.K "some_in" "some_in" (defArgs (top 41)) (defBody (top 41)) (defScope (top 41)) [] [] (g.fa "some_in") fd
  f_some_in : o.mg "some_in" = some (.ref (g.fa "some_in"))
  d_stall_in : ∃ fd, FunD g.K "stall_in" "stall_in" (defArgs (top 42)) (defBody (top 42)) (defScope (top 42)) [] [] (g.fa "stall_in") fd
  f_stall_in : o.mg "stall_in" = some (.ref (g.fa "stall_in"))
  d_ware_and_stall : ∃ fd, FunD g.K "ware_and_stall" "ware_and_stall" (defArgs (top 43)) (defBody (top 43)) (defScope (top 43)) [] [] (g.fa "ware_and_stall") fd
  f_ware_and_stall : o.mg "ware_and_stall" = some (.ref (g.fa "ware_and_stall"))
  d_deed_in : ∃ fd, FunD g.K "deed_in" "deed_in" (defArgs (top 44)) (defBody (top 44)) (defScope (top 44)) [] [] (g.fa "deed_in") fd
  f_deed_in : o.mg "deed_in" = some (.ref (g.fa "deed_in"))
  d_times_in : ∃ fd, FunD g.K "times_in" "times_in" (defArgs (top 45)) (defBody (top 45)) (defScope (top 45)) [] [] (g.fa "times_in") fd
  f_times_in : o.mg "times_in" = some (.ref (g.fa "times_in"))
  d_read_orders : ∃ fd, FunD g.K "read_orders" "read_orders" (defArgs (top 46)) (defBody (top 46)) (defScope (top 46)) [] [] (g.fa "read_orders") fd
  f_read_orders : o.mg "read_orders" = some (.ref (g.fa "read_orders"))
  d_Run___init__ : ∃ fd, FunD g.K "__init__" "Run.__init__" (defArgs (inClass (top 47) 0)) (defBody (inClass (top 47) 0)) (defScope (inClass (top 47) 0)) [] [] (g.fa "Run.__init__") fd
  d_Run_put : ∃ fd, FunD g.K "put" "Run.put" (defArgs (inClass (top 47) 1)) (defBody (inClass (top 47) 1)) (defScope (inClass (top 47) 1)) [] [] (g.fa "Run.put") fd
  me_Run_put : Meth g.K (g.cl n_Run) "put" (g.fa "Run.put")
  d_Run_lead : ∃ fd, FunD g.K "lead" "Run.lead" (defArgs (inClass (top 47) 2)) (defBody (inClass (top 47) 2)) (defScope (inClass (top 47) 2)) [] [] (g.fa "Run.lead") fd
  me_Run_lead : Meth g.K (g.cl n_Run) "lead" (g.fa "Run.lead")
  d_Run_part_of : ∃ fd, FunD g.K "part_of" "Run.part_of" (defArgs (inClass (top 47) 3)) (defBody (inClass (top 47) 3)) (defScope (inClass (top 47) 3)) [] [] (g.fa "Run.part_of") fd
  me_Run_part_of : Meth g.K (g.cl n_Run) "part_of" (g.fa "Run.part_of")
  d_Run_do : ∃ fd, FunD g.K "do" "Run.do" (defArgs (inClass (top 47) 4)) (defBody (inClass (top 47) 4)) (defScope (inClass (top 47) 4)) [] [] (g.fa "Run.do") fd
  me_Run_do : Meth g.K (g.cl n_Run) "do" (g.fa "Run.do")
  d_run : ∃ fd, FunD g.K "run" "run" (defArgs (top 48)) (defBody (top 48)) (defScope (top 48)) [] [] (g.fa "run") fd
  f_run : o.mg "run" = some (.ref (g.fa "run"))
  d__law_deck : ∃ fd, FunD g.K "_law_deck" "_law_deck" (defArgs (top 50)) (defBody (top 50)) (defScope (top 50)) [] [] (g.fa "_law_deck") fd
  f__law_deck : o.mg "_law_deck" = some (.ref (g.fa "_law_deck"))
  d__law_pick : ∃ fd, FunD g.K "_law_pick" "_law_pick" (defArgs (top 51)) (defBody (top 51)) (defScope (top 51)) [] [] (g.fa "_law_pick") fd
  f__law_pick : o.mg "_law_pick" = some (.ref (g.fa "_law_pick"))
  d__law_divisor : ∃ fd, FunD g.K "_law_divisor" "_law_divisor" (defArgs (top 52)) (defBody (top 52)) (defScope (top 52)) [] [] (g.fa "_law_divisor") fd
  f__law_divisor : o.mg "_law_divisor" = some (.ref (g.fa "_law_divisor"))
  d__law_f : ∃ fd, FunD g.K "_law_f" "_law_f" (defArgs (top 53)) (defBody (top 53)) (defScope (top 53)) [] [] (g.fa "_law_f") fd
  f__law_f : o.mg "_law_f" = some (.ref (g.fa "_law_f"))
  d__law_add : ∃ fd, FunD g.K "_law_add" "_law_add" (defArgs (top 54)) (defBody (top 54)) (defScope (top 54)) [] [] (g.fa "_law_add") fd
  f__law_add : o.mg "_law_add" = some (.ref (g.fa "_law_add"))
  d__law_sub : ∃ fd, FunD g.K "_law_sub" "_law_sub" (defArgs (top 55)) (defBody (top 55)) (defScope (top 55)) [] [] (g.fa "_law_sub") fd
  f__law_sub : o.mg "_law_sub" = some (.ref (g.fa "_law_sub"))
  d__law_mul : ∃ fd, FunD g.K "_law_mul" "_law_mul" (defArgs (top 56)) (defBody (top 56)) (defScope (top 56)) [] [] (g.fa "_law_mul") fd
  f__law_mul : o.mg "_law_mul" = some (.ref (g.fa "_law_mul"))
  d__law_div : ∃ fd, FunD g.K "_law_div" "_law_div" (defArgs (top 57)) (defBody (top 57)) (defScope (top 57)) [] [] (g.fa "_law_div") fd
  f__law_div : o.mg "_law_div" = some (.ref (g.fa "_law_div"))
  d__law_less : ∃ fd, FunD g.K "_law_less" "_law_less" (defArgs (top 58)) (defBody (top 58)) (defScope (top 58)) [] [] (g.fa "_law_less") fd
  f__law_less : o.mg "_law_less" = some (.ref (g.fa "_law_less"))
  d__law_loops : ∃ fd, FunD g.K "_law_loops" "_law_loops" (defArgs (top 59)) (defBody (top 59)) (defScope (top 59)) [] [] (g.fa "_law_loops") fd
  f__law_loops : o.mg "_law_loops" = some (.ref (g.fa "_law_loops"))
  d__law_within : ∃ fd, FunD g.K "_law_within" "_law_within" (defArgs (top 60)) (defBody (top 60)) (defScope (top 60)) [] [] (g.fa "_law_within") fd
  f__law_within : o.mg "_law_within" = some (.ref (g.fa "_law_within"))
  d__law_many : ∃ fd, FunD g.K "_law_many" "_law_many" (defArgs (top 61)) (defBody (top 61)) (defScope (top 61)) [] [] (g.fa "_law_many") fd
  f__law_many : o.mg "_law_many" = some (.ref (g.fa "_law_many"))
  d__law_told : ∃ fd, FunD g.K "_law_told" "_law_told" (defArgs (top 62)) (defBody (top 62)) (defScope (top 62)) [] [] (g.fa "_law_told") fd
  f__law_told : o.mg "_law_told" = some (.ref (g.fa "_law_told"))
  d__law_is_counted : ∃ fd, FunD g.K "_law_is_counted" "_law_is_counted" (defArgs (top 63)) (defBody (top 63)) (defScope (top 63)) [] [] (g.fa "_law_is_counted") fd
  f__law_is_counted : o.mg "_law_is_counted" = some (.ref (g.fa "_law_is_counted"))
  d_law : ∃ fd, FunD g.K "law" "law" (defArgs (top 64)) (defBody (top 64)) (defScope (top 64)) [] [] (g.fa "law") fd
  f_law : o.mg "law" = some (.ref (g.fa "law"))
  c_Exact : o.mg "Exact" = some (.ref (g.cl n_Exact))
  cl_Exact : Cls g.K (g.cl n_Exact)
  mk_Exact : Mk g.K (g.cl n_Exact) (g.fa "Exact.__init__")
  sf_Exact : PySem.W.selfFirst g.K (g.cl n_Exact) = true
  nf_Exact : PySem.W.notFirst g.K (g.cl n_Exact) (.ref (g.cl n_Exact)) = true
  op_Exact__add__ : PySem.W.findIn g.K (.ref (g.cl n_Exact)) "__add__" = some (some (.ref (g.fa "Exact.__add__")))
  fn_Exact__add__ : PySem.W.isFn g.K (.ref (g.fa "Exact.__add__")) = true
  op_Exact__sub__ : PySem.W.findIn g.K (.ref (g.cl n_Exact)) "__sub__" = some (some (.ref (g.fa "Exact.__sub__")))
  fn_Exact__sub__ : PySem.W.isFn g.K (.ref (g.fa "Exact.__sub__")) = true
  op_Exact__mul__ : PySem.W.findIn g.K (.ref (g.cl n_Exact)) "__mul__" = some (some (.ref (g.fa "Exact.__mul__")))
  fn_Exact__mul__ : PySem.W.isFn g.K (.ref (g.fa "Exact.__mul__")) = true
  op_Exact__eq__ : PySem.W.findIn g.K (.ref (g.cl n_Exact)) "__eq__" = some (some (.ref (g.fa "Exact.__eq__")))
  fn_Exact__eq__ : PySem.W.isFn g.K (.ref (g.fa "Exact.__eq__")) = true
  c_Web : o.mg "Web" = some (.ref (g.cl n_Web))
  cl_Web : Cls g.K (g.cl n_Web)
  mk_Web : Mk g.K (g.cl n_Web) (g.fa "Web.__init__")
  nf_Web : PySem.W.notFirst g.K (g.cl n_Web) (.ref (g.cl n_Web)) = true
  op_Web__eq__ : PySem.W.findIn g.K (.ref (g.cl n_Web)) "__eq__" = some (some (.ref (g.fa "Web.__eq__")))
  fn_Web__eq__ : PySem.W.isFn g.K (.ref (g.fa "Web.__eq__")) = true
  c_Run : o.mg "Run" = some (.ref (g.cl n_Run))
  cl_Run : Cls g.K (g.cl n_Run)
  mk_Run : Mk g.K (g.cl n_Run) (g.fa "Run.__init__")
  hg : g.held = none
  eo : ErrOk g etab
  ki_StallError : ∀ c k, ex_StallError c = some k → PySem.W.kitOne g.K (.ref (g.cl c)) (.ref (g.cl n_StallError)) = some k
  em_StallError : ∀ c k, ex_StallError c = some k → PySem.W.exmOne g.K (.ref (g.cl c)) (.ref (g.cl n_StallError)) = some k
  ki_TooMany : ∀ c k, ex_TooMany c = some k → PySem.W.kitOne g.K (.ref (g.cl c)) (.ref (g.cl n_TooMany)) = some k
  em_TooMany : ∀ c k, ex_TooMany c = some k → PySem.W.exmOne g.K (.ref (g.cl c)) (.ref (g.cl n_TooMany)) = some k
  c_BadPurse : o.mg "BadPurse" = some (.ref (g.cl n_BadPurse))
  xc_BadPurse : ExcC0 g n_BadPurse
  c_BadStall : o.mg "BadStall" = some (.ref (g.cl n_BadStall))
  d_BadStall___init__ : ∃ fd, FunD g.K "__init__" "BadStall.__init__" (defArgs (inClass (top 3) 0)) (defBody (inClass (top 3) 0)) (defScope (inClass (top 3) 0)) [] [] (g.fa "BadStall.__init__") fd
  xc_BadStall : ExcC1 g n_BadStall n_index (g.fa "BadStall.__init__")
  c_BadText : o.mg "BadText" = some (.ref (g.cl n_BadText))
  d_BadText___init__ : ∃ fd, FunD g.K "__init__" "BadText.__init__" (defArgs (inClass (top 5) 0)) (defBody (inClass (top 5) 0)) (defScope (inClass (top 5) 0)) [] [] (g.fa "BadText.__init__") fd
  xc_BadText : ExcC1 g n_BadText n_index (g.fa "BadText.__init__")
  c_BadWares : o.mg "BadWares" = some (.ref (g.cl n_BadWares))
  xc_BadWares : ExcC0 g n_BadWares
  c_StallError : o.mg "StallError" = some (.ref (g.cl n_StallError))
  xc_StallError : ExcC0 g n_StallError
  c_TooMany : o.mg "TooMany" = some (.ref (g.cl n_TooMany))
  d_TooMany___init__ : ∃ fd, FunD g.K "__init__" "TooMany.__init__" (defArgs (inClass (top 6) 0)) (defBody (inClass (top 6) 0)) (defScope (inClass (top 6) 0)) [] [] (g.fa "TooMany.__init__") fd
  xc_TooMany : ExcC1 g n_TooMany n_limit (g.fa "TooMany.__init__")
  k_Exact : ∀ t b, tg_Exact t = some b → PySem.W.kitOne g.K (tgV g t) (.ref (g.cl n_Exact)) = some b ∧ ∀ c, t = .ins c → InsOk g.K (g.cl c)
  k_Web : ∀ t b, tg_Web t = some b → PySem.W.kitOne g.K (tgV g t) (.ref (g.cl n_Web)) = some b ∧ ∀ c, t = .ins c → InsOk g.K (g.cl c)
  k_bool : ∀ t b, tg_bool t = some b → PySem.W.kitOne g.K (tgV g t) (.type "bool") = some b ∧ ∀ c, t = .ins c → InsOk g.K (g.cl c)
  k_int : ∀ t b, tg_int t = some b → PySem.W.kitOne g.K (tgV g t) (.type "int") = some b ∧ ∀ c, t = .ins c → InsOk g.K (g.cl c)
  k_list_tuple : ∀ t b, tg_list_tuple t = some b → PySem.W.kitAny g.K (tgV g t) [(.type "list"), (.type "tuple")] = some b ∧ ∀ c, t = .ins c → InsOk g.K (g.cl c)
  k_str : ∀ t b, tg_str t = some b → PySem.W.kitOne g.K (tgV g t) (.type "str") = some b ∧ ∀ c, t = .ins c → InsOk g.K (g.cl c)
  k_tuple : ∀ t b, tg_tuple t = some b → PySem.W.kitOne g.K (tgV g t) (.type "tuple") = some b ∧ ∀ c, t = .ins c → InsOk g.K (g.cl c)
theorem in_BadStall {o : Wo} {g : Gx} (C : Facts o g) : InW o g (g.fa "BadStall.__init__") n_index := by
  obtain ⟨fd, F⟩ := C.d_BadStall___init__
  exact init_ok (N := ["self", "index"]) (ps := ["self", "index"]) F ⟨by rfl, by rfl, by rfl, by decide, by rfl, by decide, by decide⟩ (fun _ _ _ _ _ _ us hl => match us, hl with | [_, _], _ => rfl) rfl
theorem in_BadText {o : Wo} {g : Gx} (C : Facts o g) : InW o g (g.fa "BadText.__init__") n_index := by
  obtain ⟨fd, F⟩ := C.d_BadText___init__
  exact init_ok (N := ["self", "index"]) (ps := ["self", "index"]) F ⟨by rfl, by rfl, by rfl, by decide, by rfl, by decide, by decide⟩ (fun _ _ _ _ _ _ us hl => match us, hl with | [_, _], _ => rfl) rfl
theorem in_TooMany {o : Wo} {g : Gx} (C : Facts o g) : InW o g (g.fa "TooMany.__init__") n_limit := by
  obtain ⟨fd, F⟩ := C.d_TooMany___init__
  exact init_ok (N := ["self", "limit"]) (ps := ["self", "limit"]) F ⟨by rfl, by rfl, by rfl, by decide, by rfl, by decide, by decide⟩ (fun _ _ _ _ _ _ us hl => match us, hl with | [_, _], _ => rfl) rfl
noncomputable def b_is_integer : DL.Env → R Fl :=
    (sRet (dAndV (dIsi tg_int (dVar 0)) (dNotV (dIsi tg_bool (dVar 0)))))
noncomputable def m_is_integer : DL.Env → R D := fnM 1 1 [] b_is_integer
theorem ok_is_integer {o : Wo} {g : Gx} (C : Facts o g) : FnW o g 1 (g.fa "is_integer") 1 .S m_is_integer := by
  obtain ⟨fd, F⟩ := C.d_is_integer
  exact fn_ev (N := ["thing"]) (ps := ["thing"]) F ⟨by rfl, by rfl, by rfl, by decide, by rfl, by decide, by decide⟩ (fun _ _ _ _ _ _ us hl => match us, hl with | [_], _ => rfl) fun cdv A outer s H E F =>
    have ND : (["thing"] : List Str).Nodup := by decide
    show EvSs _ _ _ _ _ _ b_is_integer from
    (ss_one (s_ret (e_and (e_isi F.toFam (fun _ => C.b_isinstance) (fun _ => pe_ty C.b_int boot_int) (.ty "int") C.k_int (e_var 0)) (e_one (e_not (e_isi F.toFam (fun _ => C.b_isinstance) (fun _ => pe_ty C.b_bool boot_bool) (.ty "bool") C.k_bool (e_var 0)))))))
noncomputable def k_common_1 : DL.Env → R Fl :=
    (sPar 0 1 (dCons (dVar 1) (dCons (dOp fModI (dVar 0) (dVar 1)) dNil)))
noncomputable def b_common : DL.Env → R Fl :=
    (sSeq (sPar 0 1 (dCons (dUn fAbs (dVar 0)) (dCons (dUn fAbs (dVar 1)) dNil)))
    (sSeq (sWhile (dTest (dOp fGt (dVar 1) (dC (.int 0))))
    k_common_1)
    (sRet (dVar 0))))
noncomputable def m_common : DL.Env → R D := fnM 2 2 [] b_common
theorem ok_common {o : Wo} {g : Gx} (C : Facts o g) : FnW o g 1 (g.fa "common") 2 .S m_common := by
  obtain ⟨fd, F⟩ := C.d_common
  exact fn_ev (N := ["one", "other"]) (ps := ["one", "other"]) F ⟨by rfl, by rfl, by rfl, by decide, by rfl, by decide, by decide⟩ (fun _ _ _ _ _ _ us hl => match us, hl with | [_, _], _ => rfl) fun cdv A outer s H E F =>
    have ND : (["one", "other"] : List Str).Nodup := by decide
    show EvSs _ _ _ _ _ _ b_common from
    (ss_cons (s_par (F).calm (fun _ => ND) 0 1 (a_cons (e_b1 c_abs (fun _ => C.b_abs) boot_abs (e_var 0)) (a_cons (e_b1 c_abs (fun _ => C.b_abs) boot_abs (e_var 1)) a_nil)))
    (ss_cons (s_while passes_fn (t_cmp x_gt (e_var 1) e_int)
    (ss_one (s_par (F).calm (fun _ => ND) 0 1 (a_cons (e_var 1) (a_cons (e_op x_mod (e_var 0) (e_var 1)) a_nil)))))
    (ss_one (s_ret (e_var 0)))))
noncomputable def b_Exact___init__ : DL.Env → R Fl :=
    (sSeq (sIf (dTest (dOp fLt (dVar 2) (dC (.int 0))))
    (sPar 1 2 (dCons (dUn fNeg (dVar 1)) (dCons (dUn fNeg (dVar 2)) dNil)))
    sNext)
    (sSeq (sAsg (dCall0 m_common (dCons (dVar 1) (dCons (dVar 2) dNil))) (gS 3))
    (sSeq (sAsg (dOp fDiv (dVar 1) (dVar 3)) (gFldM tab 0 lVar n_top))
    (sAsg (dOp fDiv (dVar 2) (dVar 3)) (gFldM tab 0 lVar n_bottom)))))
noncomputable def m_Exact___init__ : DL.Env → R D := fnM 3 4 [0] b_Exact___init__
theorem ok_Exact___init__ {o : Wo} {g : Gx} (C : Facts o g) : FnW o g 2 (g.fa "Exact.__init__") 3 .S m_Exact___init__ := by
  obtain ⟨fd, F⟩ := C.d_Exact___init__
  exact fn_ev (N := ["self", "top", "bottom", "part"]) (ps := ["self", "top", "bottom"]) F ⟨by rfl, by rfl, by rfl, by decide, by rfl, by decide, by decide⟩ (fun _ _ _ _ _ _ us hl => match us, hl with | [_, _, _], _ => rfl) fun cdv A outer s H E F =>
    have ND : (["self", "top", "bottom", "part"] : List Str).Nodup := by decide
    show EvSs _ _ _ _ _ _ b_Exact___init__ from
    (ss_cons (s_if (t_cmp x_lt (e_var 2) e_int)
    (ss_one (s_par (F).calm (fun _ => ND) 1 2 (a_cons (e_neg (e_var 1)) (a_cons (e_neg (e_var 2)) a_nil))))
    ss_nil)
    (ss_cons (s_asg ((e_call0 F (fun _ => (ok_common C).x) (fun _ => C.f_common) (a_cons (e_var 1) (a_cons (e_var 2) a_nil)))).sD (g_nameS 3 (fun _ => ND)))
    (ss_cons (s_asg ((e_op x_div (e_var 1) (e_var 3))).sD (g_fld F.toFam C.tb (l_var 0)))
    (ss_one (s_asg ((e_op x_div (e_var 2) (e_var 3))).sD (g_fld F.toFam C.tb (l_var 0)))))))
noncomputable def b_Exact___add__ : DL.Env → R Fl :=
    (sRet (dFA (dMake0 n_Exact m_Exact___init__ (dCons (dFA (dOp fAdd (dFA (dOp fMul (dFld tab n_top (dVar 0)) (dFld tab n_bottom (dVar 1)))) (dFA (dOp fMul (dFld tab n_top (dVar 1)) (dFld tab n_bottom (dVar 0)))))) (dCons (dFA (dOp fMul (dFld tab n_bottom (dVar 0)) (dFld tab n_bottom (dVar 1)))) dNil)))))
noncomputable def m_Exact___add__ : DL.Env → R D := fnM 2 2 [] b_Exact___add__
theorem ok_Exact___add__ {o : Wo} {g : Gx} (C : Facts o g) : FnW o g 4 (g.fa "Exact.__add__") 2 .S m_Exact___add__ := by
  obtain ⟨fd, F⟩ := C.d_Exact___add__
  exact fn_ev (N := ["self", "other"]) (ps := ["self", "other"]) F ⟨by rfl, by rfl, by rfl, by decide, by rfl, by decide, by decide⟩ (fun _ _ _ _ _ _ us hl => match us, hl with | [_, _], _ => rfl) fun cdv A outer s H E F =>
    have ND : (["self", "other"] : List Str).Nodup := by decide
    show EvSs _ _ _ _ _ _ b_Exact___add__ from
    (ss_one (s_ret ((e_make0 (c := n_Exact) F (fun _ => (ok_Exact___init__ C).x) C.mk_Exact (fun _ => C.c_Exact) (a_cons ((e_op (x_add F.toFam) ((e_op (x_mul F.toFam) (e_fld F.toFam C.tb (e_var 0)) (e_fld F.toFam C.tb (e_var 1)))).faT ((e_op (x_mul F.toFam) (e_fld F.toFam C.tb (e_var 1)) (e_fld F.toFam C.tb (e_var 0)))).faT)).faT (a_cons ((e_op (x_mul F.toFam) (e_fld F.toFam C.tb (e_var 0)) (e_fld F.toFam C.tb (e_var 1)))).faT a_nil)))).fa))
noncomputable def b_Exact___sub__ : DL.Env → R Fl :=
    (sRet (dFA (dMake0 n_Exact m_Exact___init__ (dCons (dOp fSub (dFA (dOp fMul (dFld tab n_top (dVar 0)) (dFld tab n_bottom (dVar 1)))) (dFA (dOp fMul (dFld tab n_top (dVar 1)) (dFld tab n_bottom (dVar 0))))) (dCons (dFA (dOp fMul (dFld tab n_bottom (dVar 0)) (dFld tab n_bottom (dVar 1)))) dNil)))))
noncomputable def m_Exact___sub__ : DL.Env → R D := fnM 2 2 [] b_Exact___sub__
theorem ok_Exact___sub__ {o : Wo} {g : Gx} (C : Facts o g) : FnW o g 4 (g.fa "Exact.__sub__") 2 .S m_Exact___sub__ := by
  obtain ⟨fd, F⟩ := C.d_Exact___sub__
  exact fn_ev (N := ["self", "other"]) (ps := ["self", "other"]) F ⟨by rfl, by rfl, by rfl, by decide, by rfl, by decide, by decide⟩ (fun _ _ _ _ _ _ us hl => match us, hl with | [_, _], _ => rfl) fun cdv A outer s H E F =>
    have ND : (["self", "other"] : List Str).Nodup := by decide
    show EvSs _ _ _ _ _ _ b_Exact___sub__ from
    (ss_one (s_ret ((e_make0 (c := n_Exact) F (fun _ => (ok_Exact___init__ C).x) C.mk_Exact (fun _ => C.c_Exact) (a_cons (e_op x_sub ((e_op (x_mul F.toFam) (e_fld F.toFam C.tb (e_var 0)) (e_fld F.toFam C.tb (e_var 1)))).faT ((e_op (x_mul F.toFam) (e_fld F.toFam C.tb (e_var 1)) (e_fld F.toFam C.tb (e_var 0)))).faT) (a_cons ((e_op (x_mul F.toFam) (e_fld F.toFam C.tb (e_var 0)) (e_fld F.toFam C.tb (e_var 1)))).faT a_nil)))).fa))
noncomputable def b_Exact___mul__ : DL.Env → R Fl :=
    (sRet (dFA (dMake0 n_Exact m_Exact___init__ (dCons (dFA (dOp fMul (dFld tab n_top (dVar 0)) (dFld tab n_top (dVar 1)))) (dCons (dFA (dOp fMul (dFld tab n_bottom (dVar 0)) (dFld tab n_bottom (dVar 1)))) dNil)))))
noncomputable def m_Exact___mul__ : DL.Env → R D := fnM 2 2 [] b_Exact___mul__
theorem ok_Exact___mul__ {o : Wo} {g : Gx} (C : Facts o g) : FnW o g 4 (g.fa "Exact.__mul__") 2 .S m_Exact___mul__ := by
  obtain ⟨fd, F⟩ := C.d_Exact___mul__
  exact fn_ev (N := ["self", "other"]) (ps := ["self", "other"]) F ⟨by rfl, by rfl, by rfl, by decide, by rfl, by decide, by decide⟩ (fun _ _ _ _ _ _ us hl => match us, hl with | [_, _], _ => rfl) fun cdv A outer s H E F =>
    have ND : (["self", "other"] : List Str).Nodup := by decide
    show EvSs _ _ _ _ _ _ b_Exact___mul__ from
    (ss_one (s_ret ((e_make0 (c := n_Exact) F (fun _ => (ok_Exact___init__ C).x) C.mk_Exact (fun _ => C.c_Exact) (a_cons ((e_op (x_mul F.toFam) (e_fld F.toFam C.tb (e_var 0)) (e_fld F.toFam C.tb (e_var 1)))).faT (a_cons ((e_op (x_mul F.toFam) (e_fld F.toFam C.tb (e_var 0)) (e_fld F.toFam C.tb (e_var 1)))).faT a_nil)))).fa))
noncomputable def b_Exact___eq__ : DL.Env → R Fl :=
    (sRet (dAndV (dIsi tg_Exact (dVar 1)) (dAndV (dOp fEqA (dFld tab n_top (dVar 0)) (dFld tab n_top (dVar 1))) (dOp fEqA (dFld tab n_bottom (dVar 0)) (dFld tab n_bottom (dVar 1))))))
noncomputable def m_Exact___eq__ : DL.Env → R D := fnM 2 2 [] b_Exact___eq__
theorem ok_Exact___eq__ {o : Wo} {g : Gx} (C : Facts o g) : FnW o g 1 (g.fa "Exact.__eq__") 2 .S m_Exact___eq__ := by
  obtain ⟨fd, F⟩ := C.d_Exact___eq__
  exact fn_ev (N := ["self", "other"]) (ps := ["self", "other"]) F ⟨by rfl, by rfl, by rfl, by decide, by rfl, by decide, by decide⟩ (fun _ _ _ _ _ _ us hl => match us, hl with | [_, _], _ => rfl) fun cdv A outer s H E F =>
    have ND : (["self", "other"] : List Str).Nodup := by decide
    show EvSs _ _ _ _ _ _ b_Exact___eq__ from
    (ss_one (s_ret (e_and (e_isi F.toFam (fun _ => C.b_isinstance) (fun _ => pe_own C.c_Exact) (.own (g.cl n_Exact)) C.k_Exact (e_var 1)) (e_and (e_cmp (x_eq F.toFam) (e_fld F.toFam C.tb (e_var 0)) (e_fld F.toFam C.tb (e_var 1))) (e_one (e_cmp (x_eq F.toFam) (e_fld F.toFam C.tb (e_var 0)) (e_fld F.toFam C.tb (e_var 1))))))))
noncomputable def b_Exact_over : DL.Env → R Fl :=
    (sRet (dFA (dMake0 n_Exact m_Exact___init__ (dCons (dFA (dOp fMul (dFld tab n_top (dVar 0)) (dFld tab n_bottom (dVar 1)))) (dCons (dFA (dOp fMul (dFld tab n_bottom (dVar 0)) (dFld tab n_top (dVar 1)))) dNil)))))
noncomputable def m_Exact_over : DL.Env → R D := fnM 2 2 [] b_Exact_over
theorem ok_Exact_over {o : Wo} {g : Gx} (C : Facts o g) : FnW o g 4 (g.fa "Exact.over") 2 .S m_Exact_over := by
  obtain ⟨fd, F⟩ := C.d_Exact_over
  exact fn_ev (N := ["self", "other"]) (ps := ["self", "other"]) F ⟨by rfl, by rfl, by rfl, by decide, by rfl, by decide, by decide⟩ (fun _ _ _ _ _ _ us hl => match us, hl with | [_, _], _ => rfl) fun cdv A outer s H E F =>
    have ND : (["self", "other"] : List Str).Nodup := by decide
    show EvSs _ _ _ _ _ _ b_Exact_over from
    (ss_one (s_ret ((e_make0 (c := n_Exact) F (fun _ => (ok_Exact___init__ C).x) C.mk_Exact (fun _ => C.c_Exact) (a_cons ((e_op (x_mul F.toFam) (e_fld F.toFam C.tb (e_var 0)) (e_fld F.toFam C.tb (e_var 1)))).faT (a_cons ((e_op (x_mul F.toFam) (e_fld F.toFam C.tb (e_var 0)) (e_fld F.toFam C.tb (e_var 1)))).faT a_nil)))).fa))
noncomputable def b_Exact_sign : DL.Env → R Fl :=
    (sRet (dOp fSub (dUn fInt (dOp fGt (dFld tab n_top (dVar 0)) (dC (.int 0)))) (dUn fInt (dOp fLt (dFld tab n_top (dVar 0)) (dC (.int 0))))))
noncomputable def m_Exact_sign : DL.Env → R D := fnM 1 1 [] b_Exact_sign
theorem ok_Exact_sign {o : Wo} {g : Gx} (C : Facts o g) : FnW o g 1 (g.fa "Exact.sign") 1 .S m_Exact_sign := by
  obtain ⟨fd, F⟩ := C.d_Exact_sign
  exact fn_ev (N := ["self"]) (ps := ["self"]) F ⟨by rfl, by rfl, by rfl, by decide, by rfl, by decide, by decide⟩ (fun _ _ _ _ _ _ us hl => match us, hl with | [_], _ => rfl) fun cdv A outer s H E F =>
    have ND : (["self"] : List Str).Nodup := by decide
    show EvSs _ _ _ _ _ _ b_Exact_sign from
    (ss_one (s_ret (e_op x_sub (e_ty1 c_int (fun _ => C.b_int) boot_int (e_cmp x_gt (e_fld F.toFam C.tb (e_var 0)) e_int)) (e_ty1 c_int (fun _ => C.b_int) boot_int (e_cmp x_lt (e_fld F.toFam C.tb (e_var 0)) e_int)))))
noncomputable def b_Exact_is_less : DL.Env → R Fl :=
    (sRet (dOp fLt (dFA (dOp fMul (dFld tab n_top (dVar 0)) (dFld tab n_bottom (dVar 1)))) (dFA (dOp fMul (dFld tab n_top (dVar 1)) (dFld tab n_bottom (dVar 0))))))
noncomputable def m_Exact_is_less : DL.Env → R D := fnM 2 2 [] b_Exact_is_less
theorem ok_Exact_is_less {o : Wo} {g : Gx} (C : Facts o g) : FnW o g 1 (g.fa "Exact.is_less") 2 .S m_Exact_is_less := by
  obtain ⟨fd, F⟩ := C.d_Exact_is_less
  exact fn_ev (N := ["self", "other"]) (ps := ["self", "other"]) F ⟨by rfl, by rfl, by rfl, by decide, by rfl, by decide, by decide⟩ (fun _ _ _ _ _ _ us hl => match us, hl with | [_, _], _ => rfl) fun cdv A outer s H E F =>
    have ND : (["self", "other"] : List Str).Nodup := by decide
    show EvSs _ _ _ _ _ _ b_Exact_is_less from
    (ss_one (s_ret (e_cmp x_lt ((e_op (x_mul F.toFam) (e_fld F.toFam C.tb (e_var 0)) (e_fld F.toFam C.tb (e_var 1)))).faT ((e_op (x_mul F.toFam) (e_fld F.toFam C.tb (e_var 1)) (e_fld F.toFam C.tb (e_var 0)))).faT)))
noncomputable def b_Exact_square : DL.Env → R Fl :=
    (sRet (dFA (dMake0 n_Exact m_Exact___init__ (dCons (dFA (dOp fMul (dFld tab n_top (dVar 0)) (dFld tab n_top (dVar 0)))) (dCons (dFA (dOp fMul (dFld tab n_bottom (dVar 0)) (dFld tab n_bottom (dVar 0)))) dNil)))))
noncomputable def m_Exact_square : DL.Env → R D := fnM 1 1 [] b_Exact_square
theorem ok_Exact_square {o : Wo} {g : Gx} (C : Facts o g) : FnW o g 4 (g.fa "Exact.square") 1 .S m_Exact_square := by
  obtain ⟨fd, F⟩ := C.d_Exact_square
  exact fn_ev (N := ["self"]) (ps := ["self"]) F ⟨by rfl, by rfl, by rfl, by decide, by rfl, by decide, by decide⟩ (fun _ _ _ _ _ _ us hl => match us, hl with | [_], _ => rfl) fun cdv A outer s H E F =>
    have ND : (["self"] : List Str).Nodup := by decide
    show EvSs _ _ _ _ _ _ b_Exact_square from
    (ss_one (s_ret ((e_make0 (c := n_Exact) F (fun _ => (ok_Exact___init__ C).x) C.mk_Exact (fun _ => C.c_Exact) (a_cons ((e_op (x_mul F.toFam) (e_fld F.toFam C.tb (e_var 0)) (e_fld F.toFam C.tb (e_var 0)))).faT (a_cons ((e_op (x_mul F.toFam) (e_fld F.toFam C.tb (e_var 0)) (e_fld F.toFam C.tb (e_var 0)))).faT a_nil)))).fa))
noncomputable def b_Exact_pair : DL.Env → R Fl :=
    (sRet (dTup (dCons (dFld tab n_top (dVar 0)) (dCons (dFld tab n_bottom (dVar 0)) dNil))))
noncomputable def m_Exact_pair : DL.Env → R D := fnM 1 1 [] b_Exact_pair
theorem ok_Exact_pair {o : Wo} {g : Gx} (C : Facts o g) : FnW o g 1 (g.fa "Exact.pair") 1 .S m_Exact_pair := by
  obtain ⟨fd, F⟩ := C.d_Exact_pair
  exact fn_ev (N := ["self"]) (ps := ["self"]) F ⟨by rfl, by rfl, by rfl, by decide, by rfl, by decide, by decide⟩ (fun _ _ _ _ _ _ us hl => match us, hl with | [_], _ => rfl) fun cdv A outer s H E F =>
    have ND : (["self"] : List Str).Nodup := by decide
    show EvSs _ _ _ _ _ _ b_Exact_pair from
    (ss_one (s_ret (e_tup (a_cons (e_fld F.toFam C.tb (e_var 0)) (a_cons (e_fld F.toFam C.tb (e_var 0)) a_nil)))))
noncomputable def b_exact : DL.Env → R Fl :=
    (sRet (dFA (dMake0 n_Exact m_Exact___init__ (dCons (dOp fIx (dVar 0) (dC (.int 0))) (dCons (dOp fIx (dVar 0) (dC (.int 1))) dNil)))))
noncomputable def m_exact : DL.Env → R D := fnM 1 1 [] b_exact
theorem ok_exact {o : Wo} {g : Gx} (C : Facts o g) : FnW o g 4 (g.fa "exact") 1 .S m_exact := by
  obtain ⟨fd, F⟩ := C.d_exact
  exact fn_ev (N := ["pair"]) (ps := ["pair"]) F ⟨by rfl, by rfl, by rfl, by decide, by rfl, by decide, by decide⟩ (fun _ _ _ _ _ _ us hl => match us, hl with | [_], _ => rfl) fun cdv A outer s H E F =>
    have ND : (["pair"] : List Str).Nodup := by decide
    show EvSs _ _ _ _ _ _ b_exact from
    (ss_one (s_ret ((e_make0 (c := n_Exact) F (fun _ => (ok_Exact___init__ C).x) C.mk_Exact (fun _ => C.c_Exact) (a_cons (e_ix F.toFam (e_var 0) e_int) (a_cons (e_ix F.toFam (e_var 0) e_int) a_nil)))).fa))
noncomputable def b_is_fraction : DL.Env → R Fl :=
    (sSeq (sIf (dOr (dNot (dTest (dIsi tg_tuple (dVar 0)))) (dOr (dTest (dOp fNeA (dUn fLen (dVar 0)) (dC (.int 2)))) (dOr (dNot (dTest (dCall0 m_is_integer (dCons (dOp fIx (dVar 0) (dC (.int 0))) dNil)))) (dNot (dTest (dCall0 m_is_integer (dCons (dOp fIx (dVar 0) (dC (.int 1))) dNil)))))))
    (sRet (dC (.bl false)))
    sNext)
    (sRet (dAndV (dOp fGt (dOp fIx (dVar 0) (dC (.int 1))) (dC (.int 0))) (dOp fEqA (dCall0 m_common (dCons (dOp fIx (dVar 0) (dC (.int 0))) (dCons (dOp fIx (dVar 0) (dC (.int 1))) dNil))) (dC (.int 1))))))
noncomputable def m_is_fraction : DL.Env → R D := fnM 1 1 [] b_is_fraction
theorem ok_is_fraction {o : Wo} {g : Gx} (C : Facts o g) : FnW o g 2 (g.fa "is_fraction") 1 .S m_is_fraction := by
  obtain ⟨fd, F⟩ := C.d_is_fraction
  exact fn_ev (N := ["thing"]) (ps := ["thing"]) F ⟨by rfl, by rfl, by rfl, by decide, by rfl, by decide, by decide⟩ (fun _ _ _ _ _ _ us hl => match us, hl with | [_], _ => rfl) fun cdv A outer s H E F =>
    have ND : (["thing"] : List Str).Nodup := by decide
    show EvSs _ _ _ _ _ _ b_is_fraction from
    (ss_cons (s_if ((w_or (t_not (t_val (e_isi F.toFam (fun _ => C.b_isinstance) (fun _ => pe_ty C.b_tuple boot_tuple) (.ty "tuple") C.k_tuple (e_var 0)))) (w_or (t_cmp (x_ne F.toFam) (e_b1 (c_len F.toFam) (fun _ => C.b_len) boot_len (e_var 0)) e_int) (w_or (t_not (t_val (e_call0 F (fun _ => (ok_is_integer C).x) (fun _ => C.f_is_integer) (a_cons (e_ix F.toFam (e_var 0) e_int) a_nil)))) (w_or1 (t_not (t_val (e_call0 F (fun _ => (ok_is_integer C).x) (fun _ => C.f_is_integer) (a_cons (e_ix F.toFam (e_var 0) e_int) a_nil))))))))).t
    (ss_one (s_ret e_bl))
    ss_nil)
    (ss_one (s_ret (e_and (e_cmp x_gt (e_ix F.toFam (e_var 0) e_int) e_int) (e_one (e_cmp (x_eq F.toFam) (e_call0 F (fun _ => (ok_common C).x) (fun _ => C.f_common) (a_cons (e_ix F.toFam (e_var 0) e_int) (a_cons (e_ix F.toFam (e_var 0) e_int) a_nil))) e_int))))))
noncomputable def b_is_amount : DL.Env → R Fl :=
    (sRet (dAndV (dCall0 m_is_fraction (dCons (dVar 0) dNil)) (dOp fGe (dOp fIx (dVar 0) (dC (.int 0))) (dC (.int 0)))))
noncomputable def m_is_amount : DL.Env → R D := fnM 1 1 [] b_is_amount
theorem ok_is_amount {o : Wo} {g : Gx} (C : Facts o g) : FnW o g 3 (g.fa "is_amount") 1 .S m_is_amount := by
  obtain ⟨fd, F⟩ := C.d_is_amount
  exact fn_ev (N := ["thing"]) (ps := ["thing"]) F ⟨by rfl, by rfl, by rfl, by decide, by rfl, by decide, by decide⟩ (fun _ _ _ _ _ _ us hl => match us, hl with | [_], _ => rfl) fun cdv A outer s H E F =>
    have ND : (["thing"] : List Str).Nodup := by decide
    show EvSs _ _ _ _ _ _ b_is_amount from
    (ss_one (s_ret (e_and (e_call0 F (fun _ => (ok_is_fraction C).x) (fun _ => C.f_is_fraction) (a_cons (e_var 0) a_nil)) (e_one (e_cmp x_ge (e_ix F.toFam (e_var 0) e_int) e_int)))))
noncomputable def b_is_some : DL.Env → R Fl :=
    (sRet (dAndV (dCall0 m_is_fraction (dCons (dVar 0) dNil)) (dOp fGt (dOp fIx (dVar 0) (dC (.int 0))) (dC (.int 0)))))
noncomputable def m_is_some : DL.Env → R D := fnM 1 1 [] b_is_some
theorem ok_is_some {o : Wo} {g : Gx} (C : Facts o g) : FnW o g 3 (g.fa "is_some") 1 .S m_is_some := by
  obtain ⟨fd, F⟩ := C.d_is_some
  exact fn_ev (N := ["thing"]) (ps := ["thing"]) F ⟨by rfl, by rfl, by rfl, by decide, by rfl, by decide, by decide⟩ (fun _ _ _ _ _ _ us hl => match us, hl with | [_], _ => rfl) fun cdv A outer s H E F =>
    have ND : (["thing"] : List Str).Nodup := by decide
    show EvSs _ _ _ _ _ _ b_is_some from
    (ss_one (s_ret (e_and (e_call0 F (fun _ => (ok_is_fraction C).x) (fun _ => C.f_is_fraction) (a_cons (e_var 0) a_nil)) (e_one (e_cmp x_gt (e_ix F.toFam (e_var 0) e_int) e_int)))))
noncomputable def b_is_ware_below : DL.Env → R Fl :=
    (sRet (dAndV (dCall0 m_is_integer (dCons (dVar 0) dNil)) (dChain fLe fLt (dC (.int 0)) (dVar 0) (dVar 1))))
noncomputable def m_is_ware_below : DL.Env → R D := fnM 2 2 [] b_is_ware_below
theorem ok_is_ware_below {o : Wo} {g : Gx} (C : Facts o g) : FnW o g 2 (g.fa "is_ware_below") 2 .S m_is_ware_below := by
  obtain ⟨fd, F⟩ := C.d_is_ware_below
  exact fn_ev (N := ["thing", "wares"]) (ps := ["thing", "wares"]) F ⟨by rfl, by rfl, by rfl, by decide, by rfl, by decide, by decide⟩ (fun _ _ _ _ _ _ us hl => match us, hl with | [_, _], _ => rfl) fun cdv A outer s H E F =>
    have ND : (["thing", "wares"] : List Str).Nodup := by decide
    show EvSs _ _ _ _ _ _ b_is_ware_below from
    (ss_one (s_ret (e_and (e_call0 F (fun _ => (ok_is_integer C).x) (fun _ => C.f_is_integer) (a_cons (e_var 0) a_nil)) (e_one (e_chain x_le x_lt e_int (e_var 0) (e_var 1))))))
noncomputable def b_is_stall : DL.Env → R Fl :=
    (sSeq (sIf (dOr (dNot (dTest (dIsi tg_tuple (dVar 0)))) (dOr (dTest (dOp fNeA (dUn fLen (dVar 0)) (dC (.int 5)))) (dNot (dTest (dUn fAll (dFA (dLc (sIt (dFA (dSl (dVar 0) dNoPart (tPartD (dC (.int 2)))))) (gS 2) tYesD (dCall0 m_is_ware_below (dCons (dVar 2) (dCons (dVar 1) dNil))) 4 (List.map (·.2) ([("ware", 2)] : List (Str × Nat))))))))))
    (sRet (dC (.bl false)))
    sNext)
    (sSeq (sIf (dOr (dTest (dOp fEqA (dOp fIx (dVar 0) (dC (.int 0))) (dOp fIx (dVar 0) (dC (.int 1))))) (dNot (dTest (dUn fAll (dFA (dLc (sIt (dFA (dSl (dVar 0) (tPartD (dC (.int 2))) dNoPart))) (gS 3) tYesD (dCall0 m_is_some (dCons (dVar 3) dNil)) 4 (List.map (·.2) ([("amount", 3)] : List (Str × Nat)))))))))
    (sRet (dC (.bl false)))
    sNext)
    (sRet (dOp (fun d e => if sFst (isIns n_Exact) d e = true then fOwn2 n_Exact m_Exact___eq__ d e else fEqA d e) (dFA (dOp (fun d e => if sFst (isIns n_Exact) d e = true then fOwn2 n_Exact m_Exact___mul__ d e else fMul d e) (dCall0 m_exact (dCons (dOp fIx (dVar 0) (dC (.int 2))) dNil)) (dCall0 m_exact (dCons (dOp fIx (dVar 0) (dC (.int 3))) dNil)))) (dMeth0 n_Exact n_square m_Exact_square (dCall0 m_exact (dCons (dOp fIx (dVar 0) (dC (.int 4))) dNil)) dNil)))))
noncomputable def m_is_stall : DL.Env → R D := fnM 2 4 [] b_is_stall
theorem ok_is_stall {o : Wo} {g : Gx} (C : Facts o g) : FnW o g 5 (g.fa "is_stall") 2 .S m_is_stall := by
  obtain ⟨fd, F⟩ := C.d_is_stall
  exact fn_ev (N := ["thing", "wares", "ware", "amount"]) (ps := ["thing", "wares"]) F ⟨by rfl, by rfl, by rfl, by decide, by rfl, by decide, by decide⟩ (fun _ _ _ _ _ _ us hl => match us, hl with | [_, _], _ => rfl) fun cdv A outer s H E F =>
    have ND : (["thing", "wares", "ware", "amount"] : List Str).Nodup := by decide
    show EvSs _ _ _ _ _ _ b_is_stall from
    (ss_cons (s_if ((w_or (t_not (t_val (e_isi F.toFam (fun _ => C.b_isinstance) (fun _ => pe_ty C.b_tuple boot_tuple) (.ty "tuple") C.k_tuple (e_var 0)))) (w_or (t_cmp (x_ne F.toFam) (e_b1 (c_len F.toFam) (fun _ => C.b_len) boot_len (e_var 0)) e_int) (w_or1 (t_not (t_val (e_b1 (c_all F) (fun _ => C.b_all) boot_all ((e_lc (io := [0, 1, 3]) F (fun _ => ND) [("ware", 2)] 4 (i_it F.toFam ((e_sl F.toFam (e_var 0) o_none (o_some e_int))).faT) (g_nameS 2 (fun _ => ND)) ((e_call0 F.blk (fun _ => (ok_is_ware_below C).x) (fun _ => C.f_is_ware_below) (a_cons (e_var 2) (a_cons (e_var 1) a_nil)))).sD)).fa))))))).t
    (ss_one (s_ret e_bl))
    ss_nil)
    (ss_cons (s_if ((w_or (t_cmp (x_eq F.toFam) (e_ix F.toFam (e_var 0) e_int) (e_ix F.toFam (e_var 0) e_int)) (w_or1 (t_not (t_val (e_b1 (c_all F) (fun _ => C.b_all) boot_all ((e_lc (io := [0, 1, 2]) F (fun _ => ND) [("amount", 3)] 4 (i_it F.toFam ((e_sl F.toFam (e_var 0) (o_some e_int) o_none)).faT) (g_nameS 3 (fun _ => ND)) ((e_call0 F.blk (fun _ => (ok_is_some C).x) (fun _ => C.f_is_some) (a_cons (e_var 3) a_nil))).sD)).fa)))))).t
    (ss_one (s_ret e_bl))
    ss_nil)
    (ss_one (s_ret (e_cmp0 (EvOp0.or' (x_ownC (op := .Eq) F (fun _ => (ok_Exact___eq__ C).x) (fun _ _ => rfl) C.nf_Exact C.op_Exact__eq__ C.fn_Exact__eq__) ((x_eq F.toFam)).to0 (sFst (isIns n_Exact))) ((e_op0 (EvOp0.or' ((x_own (op := .Mult) F (fun _ => (ok_Exact___mul__ C).x) C.sf_Exact C.op_Exact__mul__ C.fn_Exact__mul__)).toT ((x_mul F.toFam)).to0 (sFst (isIns n_Exact))) (e_call0 F (fun _ => (ok_exact C).x) (fun _ => C.f_exact) (a_cons (e_ix F.toFam (e_var 0) e_int) a_nil)) (e_call0 F (fun _ => (ok_exact C).x) (fun _ => C.f_exact) (a_cons (e_ix F.toFam (e_var 0) e_int) a_nil)))).faT (e_meth00 (c := n_Exact) (mn := n_square) F (fun _ => (ok_Exact_square C).x) C.cl_Exact C.me_Exact_square (e_call0 F (fun _ => (ok_exact C).x) (fun _ => C.f_exact) (a_cons (e_ix F.toFam (e_var 0) e_int) a_nil))))))))
noncomputable def k_Web___init___1 : DL.Env → R Fl :=
    (sIf (dNot (dTest (dCall0 m_is_stall (dCons (dVar 4) (dCons (dVar 1) dNil)))))
    (sRaise1 n_BadStall (dCons (dVar 3) dNil))
    sNext)
noncomputable def b_Web___init__ : DL.Env → R Fl :=
    (sSeq (sIf (dOr (dNot (dTest (dCall0 m_is_integer (dCons (dVar 1) dNil)))) (dNot (dTest (dChain fLe fLe (dC (.int 1)) (dVar 1) (dC (.int 8))))))
    (sRaise0 n_BadWares)
    sNext)
    (sSeq (sIf (dOr (dNot (dTest (dIsi tg_list_tuple (dVar 2)))) (dTest (dOp fGt (dUn fLen (dVar 2)) (dC (.int 16)))))
    (sRaise1 n_BadStall (dCons (dUn fNeg (dC (.int 1))) dNil))
    sNext)
    (sSeq (sFor (sEnumA (dCons (dVar 2) dNil)) (gTupM (gsCons (gS 3) (gsCons (gS 4) gsNil)))
    k_Web___init___1)
    (sSeq (sAsg (dVar 1) (gFldM tab 0 lVar n_wares))
    (sAsg (dUn fTup (dVar 2)) (gFldM tab 0 lVar n_stalls))))))
noncomputable def m_Web___init__ : DL.Env → R D := fnM 3 5 [0] b_Web___init__
theorem ok_Web___init__ {o : Wo} {g : Gx} (C : Facts o g) : FnW o g 6 (g.fa "Web.__init__") 3 .S m_Web___init__ := by
  obtain ⟨fd, F⟩ := C.d_Web___init__
  exact fn_ev (N := ["self", "wares", "stalls", "index", "stall"]) (ps := ["self", "wares", "stalls"]) F ⟨by rfl, by rfl, by rfl, by decide, by rfl, by decide, by decide⟩ (fun _ _ _ _ _ _ us hl => match us, hl with | [_, _, _], _ => rfl) fun cdv A outer s H E F =>
    have ND : (["self", "wares", "stalls", "index", "stall"] : List Str).Nodup := by decide
    show EvSs _ _ _ _ _ _ b_Web___init__ from
    (ss_cons (s_if ((w_or (t_not (t_val (e_call0 F (fun _ => (ok_is_integer C).x) (fun _ => C.f_is_integer) (a_cons (e_var 1) a_nil)))) (w_or1 (t_not (t_chain x_le x_le e_int (e_var 1) (e_conI (fun _ => C.v_MOST_WARES))))))).t
    (ss_one (s_raise0 (c := n_BadWares) F C.xc_BadWares (fun _ => C.c_BadWares)))
    ss_nil)
    (ss_cons (s_if ((w_or (t_not (t_val (e_isi2 F.toFam (fun _ => C.b_isinstance) (fun _ => pe_ty C.b_list boot_list) (fun _ => pe_ty C.b_tuple boot_tuple) (.ty "list") (.ty "tuple") C.k_list_tuple (e_var 2)))) (w_or1 (t_cmp x_gt (e_b1 (c_len F.toFam) (fun _ => C.b_len) boot_len (e_var 2)) (e_conI (fun _ => C.v_MOST_STALLS)))))).t
    (ss_one (s_raise1 (c := n_BadStall) (f := n_index) F (fun _ => (in_BadStall C).x) C.xc_BadStall (fun _ => C.c_BadStall) (a_cons (e_neg e_int) a_nil)))
    ss_nil)
    (ss_cons (s_for passes_fn (F).calm (i_enumA F.toFam (fun _ => C.b_enumerate) (a_cons (e_var 2) a_nil)) (g_tup F.toFam (F).calm (gs_cons (g_nameS 3 (fun _ => ND)) (gs_cons (g_nameS 4 (fun _ => ND)) gs_nil)))
    (ss_one (s_if (t_not (t_val (e_call0 F (fun _ => (ok_is_stall C).x) (fun _ => C.f_is_stall) (a_cons (e_var 4) (a_cons (e_var 1) a_nil)))))
    (ss_one (s_raise1 (c := n_BadStall) (f := n_index) F (fun _ => (in_BadStall C).x) C.xc_BadStall (fun _ => C.c_BadStall) (a_cons (e_var 3) a_nil)))
    ss_nil)))
    (ss_cons (s_asg ((e_var 1)).sD (g_fld F.toFam C.tb (l_var 0)))
    (ss_one (s_asg ((e_ty1 (c_tuple F.toFam) (fun _ => C.b_tuple) boot_tuple (e_var 2))).sD (g_fld F.toFam C.tb (l_var 0))))))))
noncomputable def b_Web___eq__ : DL.Env → R Fl :=
    (sRet (dAndV (dIsi tg_Web (dVar 1)) (dAndV (dOp fEqA (dFld tab n_wares (dVar 0)) (dFld tab n_wares (dVar 1))) (dOp fEqA (dFld tab n_stalls (dVar 0)) (dFld tab n_stalls (dVar 1))))))
noncomputable def m_Web___eq__ : DL.Env → R D := fnM 2 2 [] b_Web___eq__
theorem ok_Web___eq__ {o : Wo} {g : Gx} (C : Facts o g) : FnW o g 1 (g.fa "Web.__eq__") 2 .S m_Web___eq__ := by
  obtain ⟨fd, F⟩ := C.d_Web___eq__
  exact fn_ev (N := ["self", "other"]) (ps := ["self", "other"]) F ⟨by rfl, by rfl, by rfl, by decide, by rfl, by decide, by decide⟩ (fun _ _ _ _ _ _ us hl => match us, hl with | [_, _], _ => rfl) fun cdv A outer s H E F =>
    have ND : (["self", "other"] : List Str).Nodup := by decide
    show EvSs _ _ _ _ _ _ b_Web___eq__ from
    (ss_one (s_ret (e_and (e_isi F.toFam (fun _ => C.b_isinstance) (fun _ => pe_own C.c_Web) (.own (g.cl n_Web)) C.k_Web (e_var 1)) (e_and (e_cmp (x_eq F.toFam) (e_fld F.toFam C.tb (e_var 0)) (e_fld F.toFam C.tb (e_var 1))) (e_one (e_cmp (x_eq F.toFam) (e_fld F.toFam C.tb (e_var 0)) (e_fld F.toFam C.tb (e_var 1))))))))
noncomputable def b_is_amounts : DL.Env → R Fl :=
    (sRet (dAndV (dIsi tg_list_tuple (dVar 0)) (dAndV (dOp fEqA (dUn fLen (dVar 0)) (dVar 1)) (dUn fAll (dFA (dLc (sIt (dVar 0)) (gS 2) tYesD (dCall0 m_is_amount (dCons (dVar 2) dNil)) 3 (List.map (·.2) ([("item", 2)] : List (Str × Nat)))))))))
noncomputable def m_is_amounts : DL.Env → R D := fnM 2 3 [] b_is_amounts
theorem ok_is_amounts {o : Wo} {g : Gx} (C : Facts o g) : FnW o g 4 (g.fa "is_amounts") 2 .S m_is_amounts := by
  obtain ⟨fd, F⟩ := C.d_is_amounts
  exact fn_ev (N := ["thing", "many", "item"]) (ps := ["thing", "many"]) F ⟨by rfl, by rfl, by rfl, by decide, by rfl, by decide, by decide⟩ (fun _ _ _ _ _ _ us hl => match us, hl with | [_, _], _ => rfl) fun cdv A outer s H E F =>
    have ND : (["thing", "many", "item"] : List Str).Nodup := by decide
    show EvSs _ _ _ _ _ _ b_is_amounts from
    (ss_one (s_ret (e_and (e_isi2 F.toFam (fun _ => C.b_isinstance) (fun _ => pe_ty C.b_list boot_list) (fun _ => pe_ty C.b_tuple boot_tuple) (.ty "list") (.ty "tuple") C.k_list_tuple (e_var 0)) (e_and (e_cmp (x_eq F.toFam) (e_b1 (c_len F.toFam) (fun _ => C.b_len) boot_len (e_var 0)) (e_var 1)) (e_one (e_b1 (c_all F) (fun _ => C.b_all) boot_all ((e_lc (io := [0, 1]) F (fun _ => ND) [("item", 2)] 3 (i_it F.toFam (e_var 0)) (g_nameS 2 (fun _ => ND)) ((e_call0 F.blk (fun _ => (ok_is_amount C).x) (fun _ => C.f_is_amount) (a_cons (e_var 2) a_nil))).sD)).fa))))))
noncomputable def b_check_purse : DL.Env → R Fl :=
    (sSeq (sIf (dNot (dTest (dCall0 m_is_amounts (dCons (dVar 1) (dCons (dFld tab n_wares (dVar 0)) dNil)))))
    (sRaise0 n_BadPurse)
    sNext)
    (sRet (dFA (dLc (sIt (dVar 1)) (gS 2) tYesD (dCall0 m_exact (dCons (dVar 2) dNil)) 3 (List.map (·.2) ([("amount", 2)] : List (Str × Nat)))))))
noncomputable def m_check_purse : DL.Env → R D := fnM 2 3 [] b_check_purse
theorem ok_check_purse {o : Wo} {g : Gx} (C : Facts o g) : FnW o g 5 (g.fa "check_purse") 2 .S m_check_purse := by
  obtain ⟨fd, F⟩ := C.d_check_purse
  exact fn_ev (N := ["web", "purse", "amount"]) (ps := ["web", "purse"]) F ⟨by rfl, by rfl, by rfl, by decide, by rfl, by decide, by decide⟩ (fun _ _ _ _ _ _ us hl => match us, hl with | [_, _], _ => rfl) fun cdv A outer s H E F =>
    have ND : (["web", "purse", "amount"] : List Str).Nodup := by decide
    show EvSs _ _ _ _ _ _ b_check_purse from
    (ss_cons (s_if (t_not (t_val (e_call0 F (fun _ => (ok_is_amounts C).x) (fun _ => C.f_is_amounts) (a_cons (e_var 1) (a_cons (e_fld F.toFam C.tb (e_var 0)) a_nil)))))
    (ss_one (s_raise0 (c := n_BadPurse) F C.xc_BadPurse (fun _ => C.c_BadPurse)))
    ss_nil)
    (ss_one (s_ret ((e_lc (io := [0, 1]) F (fun _ => ND) [("amount", 2)] 3 (i_it F.toFam (e_var 1)) (g_nameS 2 (fun _ => ND)) ((e_call0 F.blk (fun _ => (ok_exact C).x) (fun _ => C.f_exact) (a_cons (e_var 2) a_nil))).sD)).fa)))
noncomputable def b_other_ware : DL.Env → R Fl :=
    (sRet (dIf (dTest (dOp fEqA (dOp fIx (dVar 0) (dC (.int 0))) (dVar 1))) (dOp fIx (dVar 0) (dC (.int 1))) (dOp fIx (dVar 0) (dC (.int 0)))))
noncomputable def m_other_ware : DL.Env → R D := fnM 2 2 [] b_other_ware
theorem ok_other_ware {o : Wo} {g : Gx} (C : Facts o g) : FnW o g 1 (g.fa "other_ware") 2 .S m_other_ware := by
  obtain ⟨fd, F⟩ := C.d_other_ware
  exact fn_ev (N := ["stall", "ware"]) (ps := ["stall", "ware"]) F ⟨by rfl, by rfl, by rfl, by decide, by rfl, by decide, by decide⟩ (fun _ _ _ _ _ _ us hl => match us, hl with | [_, _], _ => rfl) fun cdv A outer s H E F =>
    have ND : (["stall", "ware"] : List Str).Nodup := by decide
    show EvSs _ _ _ _ _ _ b_other_ware from
    (ss_one (s_ret (e_if (t_cmp (x_eq F.toFam) (e_ix F.toFam (e_var 0) e_int) (e_var 1)) (e_ix F.toFam (e_var 0) e_int) (e_ix F.toFam (e_var 0) e_int))))
noncomputable def b_held_of : DL.Env → R Fl :=
    (sRet (dCall0 m_exact (dCons (dIf (dTest (dOp fEqA (dOp fIx (dVar 0) (dC (.int 0))) (dVar 1))) (dOp fIx (dVar 0) (dC (.int 2))) (dOp fIx (dVar 0) (dC (.int 3)))) dNil)))
noncomputable def m_held_of : DL.Env → R D := fnM 2 2 [] b_held_of
theorem ok_held_of {o : Wo} {g : Gx} (C : Facts o g) : FnW o g 5 (g.fa "held_of") 2 .S m_held_of := by
  obtain ⟨fd, F⟩ := C.d_held_of
  exact fn_ev (N := ["stall", "ware"]) (ps := ["stall", "ware"]) F ⟨by rfl, by rfl, by rfl, by decide, by rfl, by decide, by decide⟩ (fun _ _ _ _ _ _ us hl => match us, hl with | [_, _], _ => rfl) fun cdv A outer s H E F =>
    have ND : (["stall", "ware"] : List Str).Nodup := by decide
    show EvSs _ _ _ _ _ _ b_held_of from
    (ss_one (s_ret (e_call0 F (fun _ => (ok_exact C).x) (fun _ => C.f_exact) (a_cons (e_if (t_cmp (x_eq F.toFam) (e_ix F.toFam (e_var 0) e_int) (e_var 1)) (e_ix F.toFam (e_var 0) e_int) (e_ix F.toFam (e_var 0) e_int)) a_nil))))
noncomputable def b_root_exact : DL.Env → R Fl :=
    (sRet (dCall0 m_exact (dCons (dOp fIx (dVar 0) (dC (.int 4))) dNil)))
noncomputable def m_root_exact : DL.Env → R D := fnM 1 1 [] b_root_exact
theorem ok_root_exact {o : Wo} {g : Gx} (C : Facts o g) : FnW o g 5 (g.fa "root_exact") 1 .S m_root_exact := by
  obtain ⟨fd, F⟩ := C.d_root_exact
  exact fn_ev (N := ["stall"]) (ps := ["stall"]) F ⟨by rfl, by rfl, by rfl, by decide, by rfl, by decide, by decide⟩ (fun _ _ _ _ _ _ us hl => match us, hl with | [_], _ => rfl) fun cdv A outer s H E F =>
    have ND : (["stall"] : List Str).Nodup := by decide
    show EvSs _ _ _ _ _ _ b_root_exact from
    (ss_one (s_ret (e_call0 F (fun _ => (ok_exact C).x) (fun _ => C.f_exact) (a_cons (e_ix F.toFam (e_var 0) e_int) a_nil))))
noncomputable def b_is_index : DL.Env → R Fl :=
    (sRet (dAndV (dCall0 m_is_integer (dCons (dVar 1) dNil)) (dChain fLe fLt (dC (.int 0)) (dVar 1) (dUn fLen (dFld tab n_stalls (dVar 0))))))
noncomputable def m_is_index : DL.Env → R D := fnM 2 2 [] b_is_index
theorem ok_is_index {o : Wo} {g : Gx} (C : Facts o g) : FnW o g 2 (g.fa "is_index") 2 .S m_is_index := by
  obtain ⟨fd, F⟩ := C.d_is_index
  exact fn_ev (N := ["web", "thing"]) (ps := ["web", "thing"]) F ⟨by rfl, by rfl, by rfl, by decide, by rfl, by decide, by decide⟩ (fun _ _ _ _ _ _ us hl => match us, hl with | [_, _], _ => rfl) fun cdv A outer s H E F =>
    have ND : (["web", "thing"] : List Str).Nodup := by decide
    show EvSs _ _ _ _ _ _ b_is_index from
    (ss_one (s_ret (e_and (e_call0 F (fun _ => (ok_is_integer C).x) (fun _ => C.f_is_integer) (a_cons (e_var 1) a_nil)) (e_one (e_chain x_le x_lt e_int (e_var 1) (e_b1 (c_len F.toFam) (fun _ => C.b_len) boot_len (e_fld F.toFam C.tb (e_var 0))))))))
noncomputable def b_with_held : DL.Env → R Fl :=
    (sSeq (sAsg (dMeth0 n_Exact n_over m_Exact_over (dMeth0 n_Exact n_square m_Exact_square (dCall0 m_root_exact (dCons (dVar 0) dNil)) dNil) (dCons (dVar 2) dNil)) (gS 3))
    (sSeq (sIf (dTest (dOp fEqA (dOp fIx (dVar 0) (dC (.int 0))) (dVar 1)))
    (sRet (dTup (dCons (dOp fIx (dVar 0) (dC (.int 0))) (dCons (dOp fIx (dVar 0) (dC (.int 1))) (dCons (dMeth0 n_Exact n_pair m_Exact_pair (dVar 2) dNil) (dCons (dMeth0 n_Exact n_pair m_Exact_pair (dVar 3) dNil) (dCons (dOp fIx (dVar 0) (dC (.int 4))) dNil)))))))
    sNext)
    (sRet (dTup (dCons (dOp fIx (dVar 0) (dC (.int 0))) (dCons (dOp fIx (dVar 0) (dC (.int 1))) (dCons (dMeth0 n_Exact n_pair m_Exact_pair (dVar 3) dNil) (dCons (dMeth0 n_Exact n_pair m_Exact_pair (dVar 2) dNil) (dCons (dOp fIx (dVar 0) (dC (.int 4))) dNil)))))))))
noncomputable def m_with_held : DL.Env → R D := fnM 3 4 [] b_with_held
theorem ok_with_held {o : Wo} {g : Gx} (C : Facts o g) : FnW o g 6 (g.fa "with_held") 3 .S m_with_held := by
  obtain ⟨fd, F⟩ := C.d_with_held
  exact fn_ev (N := ["stall", "ware", "amount", "rest"]) (ps := ["stall", "ware", "amount"]) F ⟨by rfl, by rfl, by rfl, by decide, by rfl, by decide, by decide⟩ (fun _ _ _ _ _ _ us hl => match us, hl with | [_, _, _], _ => rfl) fun cdv A outer s H E F =>
    have ND : (["stall", "ware", "amount", "rest"] : List Str).Nodup := by decide
    show EvSs _ _ _ _ _ _ b_with_held from
    (ss_cons (s_asg ((e_meth0 (c := n_Exact) (mn := n_over) F (fun _ => (ok_Exact_over C).x) C.cl_Exact C.me_Exact_over (e_meth00 (c := n_Exact) (mn := n_square) F (fun _ => (ok_Exact_square C).x) C.cl_Exact C.me_Exact_square (e_call0 F (fun _ => (ok_root_exact C).x) (fun _ => C.f_root_exact) (a_cons (e_var 0) a_nil))) (a_cons (e_var 2) a_nil))).sD (g_nameS 3 (fun _ => ND)))
    (ss_cons (s_if (t_cmp (x_eq F.toFam) (e_ix F.toFam (e_var 0) e_int) (e_var 1))
    (ss_one (s_ret (e_tup (a_cons (e_ix F.toFam (e_var 0) e_int) (a_cons (e_ix F.toFam (e_var 0) e_int) (a_cons (e_meth00 (c := n_Exact) (mn := n_pair) F (fun _ => (ok_Exact_pair C).x) C.cl_Exact C.me_Exact_pair (e_var 2)) (a_cons (e_meth00 (c := n_Exact) (mn := n_pair) F (fun _ => (ok_Exact_pair C).x) C.cl_Exact C.me_Exact_pair (e_var 3)) (a_cons (e_ix F.toFam (e_var 0) e_int) a_nil))))))))
    ss_nil)
    (ss_one (s_ret (e_tup (a_cons (e_ix F.toFam (e_var 0) e_int) (a_cons (e_ix F.toFam (e_var 0) e_int) (a_cons (e_meth00 (c := n_Exact) (mn := n_pair) F (fun _ => (ok_Exact_pair C).x) C.cl_Exact C.me_Exact_pair (e_var 3)) (a_cons (e_meth00 (c := n_Exact) (mn := n_pair) F (fun _ => (ok_Exact_pair C).x) C.cl_Exact C.me_Exact_pair (e_var 2)) (a_cons (e_ix F.toFam (e_var 0) e_int) a_nil))))))))))
noncomputable def b_with_stall : DL.Env → R Fl :=
    (sRet (dFA (dMake0 n_Web m_Web___init__ (dCons (dFld tab n_wares (dVar 0)) (dCons (dFA (dOp (fun d e => if sFst (isIns n_Exact) d e = true then fOwn2 n_Exact m_Exact___add__ d e else fAdd d e) (dFA (dOp (fun d e => if sFst (isIns n_Exact) d e = true then fOwn2 n_Exact m_Exact___add__ d e else fAdd d e) (dFA (dSl (dFld tab n_stalls (dVar 0)) dNoPart (tPartD (dVar 1)))) (dTup (dCons (dVar 2) dNil)))) (dFA (dSl (dFld tab n_stalls (dVar 0)) (tPartD (dFA (dOp (fun d e => if sFst (isIns n_Exact) d e = true then fOwn2 n_Exact m_Exact___add__ d e else fAdd d e) (dVar 1) (dC (.int 1))))) dNoPart)))) dNil)))))
noncomputable def m_with_stall : DL.Env → R D := fnM 3 3 [] b_with_stall
theorem ok_with_stall {o : Wo} {g : Gx} (C : Facts o g) : FnW o g 8 (g.fa "with_stall") 3 .S m_with_stall := by
  obtain ⟨fd, F⟩ := C.d_with_stall
  exact fn_ev (N := ["web", "index", "stall"]) (ps := ["web", "index", "stall"]) F ⟨by rfl, by rfl, by rfl, by decide, by rfl, by decide, by decide⟩ (fun _ _ _ _ _ _ us hl => match us, hl with | [_, _, _], _ => rfl) fun cdv A outer s H E F =>
    have ND : (["web", "index", "stall"] : List Str).Nodup := by decide
    show EvSs _ _ _ _ _ _ b_with_stall from
    (ss_one (s_ret ((e_make0 (c := n_Web) F (fun _ => (ok_Web___init__ C).x) C.mk_Web (fun _ => C.c_Web) (a_cons (e_fld F.toFam C.tb (e_var 0)) (a_cons ((e_op0 (EvOp0.or' ((x_own (op := .Add) F (fun _ => (ok_Exact___add__ C).x) C.sf_Exact C.op_Exact__add__ C.fn_Exact__add__)).toT ((x_add F.toFam)).to0 (sFst (isIns n_Exact))) ((e_op0 (EvOp0.or' ((x_own (op := .Add) F (fun _ => (ok_Exact___add__ C).x) C.sf_Exact C.op_Exact__add__ C.fn_Exact__add__)).toT ((x_add F.toFam)).to0 (sFst (isIns n_Exact))) ((e_sl F.toFam (e_fld F.toFam C.tb (e_var 0)) o_none (o_some (e_var 1)))).faT (e_tup (a_cons (e_var 2) a_nil)))).faT ((e_sl F.toFam (e_fld F.toFam C.tb (e_var 0)) (o_some ((e_op0 (EvOp0.or' ((x_own (op := .Add) F (fun _ => (ok_Exact___add__ C).x) C.sf_Exact C.op_Exact__add__ C.fn_Exact__add__)).toT ((x_add F.toFam)).to0 (sFst (isIns n_Exact))) (e_var 1) e_int)).faT) o_none)).faT)).faT a_nil)))).fa))
noncomputable def b_behind_move : DL.Env → R Fl :=
    (sSeq (sAsg (dVar 1) (gTupM (gsCons (gS 2) (gsCons (gS 3) (gsCons (gS 4) gsNil)))))
    (sSeq (sAsg (dOp fIx (dFld tab n_stalls (dVar 0)) (dVar 2)) (gS 5))
    (sSeq (sAsg (dCall0 m_with_held (dCons (dVar 5) (dCons (dVar 3) (dCons (dFA (dOp (fun d e => if sFst (isIns n_Exact) d e = true then fOwn2 n_Exact m_Exact___add__ d e else fAdd d e) (dCall0 m_held_of (dCons (dVar 5) (dCons (dVar 3) dNil))) (dCall0 m_exact (dCons (dVar 4) dNil)))) dNil)))) (gS 6))
    (sSeq (sAsg (dCall0 m_other_ware (dCons (dVar 5) (dCons (dVar 3) dNil))) (gS 7))
    (sRet (dTup (dCons (dCall0 m_with_stall (dCons (dVar 0) (dCons (dVar 2) (dCons (dVar 6) dNil)))) (dCons (dOp (fun d e => if sFst (isIns n_Exact) d e = true then fOwn2 n_Exact m_Exact___sub__ d e else fSub d e) (dCall0 m_held_of (dCons (dVar 5) (dCons (dVar 7) dNil))) (dCall0 m_held_of (dCons (dVar 6) (dCons (dVar 7) dNil)))) dNil))))))))
noncomputable def m_behind_move : DL.Env → R D := fnM 2 8 [] b_behind_move
theorem ok_behind_move {o : Wo} {g : Gx} (C : Facts o g) : FnW o g 9 (g.fa "behind_move") 2 .S m_behind_move := by
  obtain ⟨fd, F⟩ := C.d_behind_move
  exact fn_ev (N := ["web", "move", "index", "ware", "amount", "stall", "later", "other"]) (ps := ["web", "move"]) F ⟨by rfl, by rfl, by rfl, by decide, by rfl, by decide, by decide⟩ (fun _ _ _ _ _ _ us hl => match us, hl with | [_, _], _ => rfl) fun cdv A outer s H E F =>
    have ND : (["web", "move", "index", "ware", "amount", "stall", "later", "other"] : List Str).Nodup := by decide
    show EvSs _ _ _ _ _ _ b_behind_move from
    (ss_cons (s_asg ((e_var 1)).sD (g_tup F.toFam (F).calm (gs_cons (g_nameS 2 (fun _ => ND)) (gs_cons (g_nameS 3 (fun _ => ND)) (gs_cons (g_nameS 4 (fun _ => ND)) gs_nil)))))
    (ss_cons (s_asg ((e_ix F.toFam (e_fld F.toFam C.tb (e_var 0)) (e_var 2))).sD (g_nameS 5 (fun _ => ND)))
    (ss_cons (s_asg ((e_call0 F (fun _ => (ok_with_held C).x) (fun _ => C.f_with_held) (a_cons (e_var 5) (a_cons (e_var 3) (a_cons ((e_op0 (EvOp0.or' ((x_own (op := .Add) F (fun _ => (ok_Exact___add__ C).x) C.sf_Exact C.op_Exact__add__ C.fn_Exact__add__)).toT ((x_add F.toFam)).to0 (sFst (isIns n_Exact))) (e_call0 F (fun _ => (ok_held_of C).x) (fun _ => C.f_held_of) (a_cons (e_var 5) (a_cons (e_var 3) a_nil))) (e_call0 F (fun _ => (ok_exact C).x) (fun _ => C.f_exact) (a_cons (e_var 4) a_nil)))).faT a_nil))))).sD (g_nameS 6 (fun _ => ND)))
    (ss_cons (s_asg ((e_call0 F (fun _ => (ok_other_ware C).x) (fun _ => C.f_other_ware) (a_cons (e_var 5) (a_cons (e_var 3) a_nil)))).sD (g_nameS 7 (fun _ => ND)))
    (ss_one (s_ret (e_tup (a_cons (e_call0 F (fun _ => (ok_with_stall C).x) (fun _ => C.f_with_stall) (a_cons (e_var 0) (a_cons (e_var 2) (a_cons (e_var 6) a_nil)))) (a_cons (e_op0 (EvOp0.or' (x_own (op := .Sub) F (fun _ => (ok_Exact___sub__ C).x) C.sf_Exact C.op_Exact__sub__ C.fn_Exact__sub__) (x_sub).to0 (sFst (isIns n_Exact))) (e_call0 F (fun _ => (ok_held_of C).x) (fun _ => C.f_held_of) (a_cons (e_var 5) (a_cons (e_var 7) a_nil))) (e_call0 F (fun _ => (ok_held_of C).x) (fun _ => C.f_held_of) (a_cons (e_var 6) (a_cons (e_var 7) a_nil)))) a_nil)))))))))
noncomputable def b_number_in : DL.Env → R Fl :=
    (sSeq (sIf (dOr (dTest (dOp fEqA (dVar 0) (dC (.str "")))) (dOr (dTest (dOp fGt (dUn fLen (dVar 0)) (dVar 1))) (dNot (dTest (dUn fAll (dFA (dLc (sIt (dVar 0)) (gS 2) tYesD (dOp (fIn false) (dVar 2) (dC (.str "0123456789"))) 3 (List.map (·.2) ([("sign", 2)] : List (Str × Nat))))))))))
    (sRet (dC .non))
    sNext)
    (sRet (dIf (dOr (dTest (dOp fEqA (dVar 0) (dC (.str "0")))) (dNot (dTest (dMtS fStarts (dVar 0) (dCons (dC (.str "0")) dNil))))) (dUn fInt (dVar 0)) (dC .non))))
noncomputable def m_number_in : DL.Env → R D := fnM 2 3 [] b_number_in
theorem ok_number_in {o : Wo} {g : Gx} (C : Facts o g) : FnW o g 1 (g.fa "number_in") 2 .S m_number_in := by
  obtain ⟨fd, F⟩ := C.d_number_in
  exact fn_ev (N := ["word", "most", "sign"]) (ps := ["word", "most"]) F ⟨by rfl, by rfl, by rfl, by decide, by rfl, by decide, by decide⟩ (fun _ _ _ _ _ _ us hl => match us, hl with | [_, _], _ => rfl) fun cdv A outer s H E F =>
    have ND : (["word", "most", "sign"] : List Str).Nodup := by decide
    show EvSs _ _ _ _ _ _ b_number_in from
    (ss_cons (s_if ((w_or (t_cmp (x_eq F.toFam) (e_var 0) e_str) (w_or (t_cmp x_gt (e_b1 (c_len F.toFam) (fun _ => C.b_len) boot_len (e_var 0)) (e_var 1)) (w_or1 (t_not (t_val (e_b1 (c_all F) (fun _ => C.b_all) boot_all ((e_lc (io := [0, 1]) F (fun _ => ND) [("sign", 2)] 3 (i_it F.toFam (e_var 0)) (g_nameS 2 (fun _ => ND)) ((e_cmp (x_in F.blk.toFam) (e_var 2) (e_conS (fun _ => C.v_DIGITS)))).sD)).fa))))))).t
    (ss_one (s_ret e_non))
    ss_nil)
    (ss_one (s_ret (e_if ((w_or (t_cmp (x_eq F.toFam) (e_var 0) e_str) (w_or1 (t_not (t_val (e_mtS F.toFam m_starts PySem.F.slot_str_startswith PySem.F.type_str_startswith (e_var 0) (a_cons e_str a_nil))))))).t (e_ty1 c_int (fun _ => C.b_int) boot_int (e_var 0)) e_non))))
noncomputable def b_amount_in : DL.Env → R Fl :=
    (sSeq (sAsg (dMtS fSplit (dVar 0) (dCons (dC (.str "/")) dNil)) (gF 1))
    (sSeq (sAsg (dLc (sIt (dVar 1)) (gS 3) tYesD (dCall0 m_number_in (dCons (dVar 3) (dCons (dC (.int 12)) dNil))) 4 (List.map (·.2) ([("part", 3)] : List (Str × Nat)))) (gF 2))
    (sSeq (sIf (dOr (dTest (dOp fGt (dUn fLen (dVar 1)) (dC (.int 2)))) (dTest (dOp (fIn false) (dC .non) (dVar 2))))
    (sRet (dC .non))
    sNext)
    (sSeq (sIf (dTest (dOp fEqA (dUn fLen (dVar 1)) (dC (.int 1))))
    (sRet (dTup (dCons (dOp fIx (dVar 2) (dC (.int 0))) (dCons (dC (.int 1)) dNil))))
    sNext)
    (sRet (dIf (dAnd (dTest (dOp fGt (dOp fIx (dVar 2) (dC (.int 1))) (dC (.int 1)))) (dTest (dCall0 m_is_amount (dCons (dUn fTup (dVar 2)) dNil)))) (dUn fTup (dVar 2)) (dC .non)))))))
noncomputable def m_amount_in : DL.Env → R D := fnM 1 4 [] b_amount_in
theorem ok_amount_in {o : Wo} {g : Gx} (C : Facts o g) : FnW o g 4 (g.fa "amount_in") 1 .S m_amount_in := by
  obtain ⟨fd, F⟩ := C.d_amount_in
  exact fn_ev (N := ["word", "parts", "numbers", "part"]) (ps := ["word"]) F ⟨by rfl, by rfl, by rfl, by decide, by rfl, by decide, by decide⟩ (fun _ _ _ _ _ _ us hl => match us, hl with | [_], _ => rfl) fun cdv A outer s H E F =>
    have ND : (["word", "parts", "numbers", "part"] : List Str).Nodup := by decide
    show EvSs _ _ _ _ _ _ b_amount_in from
    (ss_cons (s_asg ((e_mtS F.toFam m_split PySem.F.slot_str_split PySem.F.type_str_split (e_var 0) (a_cons e_str a_nil))).toD (g_nameF 1 (fun _ => ND)))
    (ss_cons (s_setLc (io2 := [0, 1, 2]) F (fun _ => ND) [("part", 3)] 4 2 (gF 2) snd_gF (i_it F.toFam (e_var 1)) (g_nameS 3 (fun _ => ND)) ((e_call0 F.blk (fun _ => (ok_number_in C).x) (fun _ => C.f_number_in) (a_cons (e_var 3) (a_cons (e_conI (fun _ => C.v_MOST_DIGITS)) a_nil)))).sD)
    (ss_cons (s_if ((w_or (t_cmp x_gt (e_b1 (c_len F.toFam) (fun _ => C.b_len) boot_len (e_var 1)) e_int) (w_or1 (t_cmp (x_in F.toFam) e_non (e_var 2))))).t
    (ss_one (s_ret e_non))
    ss_nil)
    (ss_cons (s_if (t_cmp (x_eq F.toFam) (e_b1 (c_len F.toFam) (fun _ => C.b_len) boot_len (e_var 1)) e_int)
    (ss_one (s_ret (e_tup (a_cons (e_ix F.toFam (e_var 2) e_int) (a_cons e_int a_nil)))))
    ss_nil)
    (ss_one (s_ret (e_if ((w_and (t_cmp x_gt (e_ix F.toFam (e_var 2) e_int) e_int) (w_and1 (t_val (e_call0 F (fun _ => (ok_is_amount C).x) (fun _ => C.f_is_amount) (a_cons (e_ty1 (c_tuple F.toFam) (fun _ => C.b_tuple) boot_tuple (e_var 2)) a_nil)))))).t (e_ty1 (c_tuple F.toFam) (fun _ => C.b_tuple) boot_tuple (e_var 2)) e_non)))))))
noncomputable def b_some_in : DL.Env → R Fl :=
    (sSeq (sAsg (dCall0 m_amount_in (dCons (dVar 0) dNil)) (gS 1))
    (sRet (dIf (dOr (dTest (dOp fIsN (dVar 1) (dC .non))) (dTest (dOp fEqA (dOp fIx (dVar 1) (dC (.int 0))) (dC (.int 0))))) (dC .non) (dVar 1))))
noncomputable def m_some_in : DL.Env → R D := fnM 1 2 [] b_some_in
theorem ok_some_in {o : Wo} {g : Gx} (C : Facts o g) : FnW o g 5 (g.fa "some_in") 1 .S m_some_in := by
  obtain ⟨fd, F⟩ := C.d_some_in
  exact fn_ev (N := ["word", "found"]) (ps := ["word"]) F ⟨by rfl, by rfl, by rfl, by decide, by rfl, by decide, by decide⟩ (fun _ _ _ _ _ _ us hl => match us, hl with | [_], _ => rfl) fun cdv A outer s H E F =>
    have ND : (["word", "found"] : List Str).Nodup := by decide
    show EvSs _ _ _ _ _ _ b_some_in from
    (ss_cons (s_asg ((e_call0 F (fun _ => (ok_amount_in C).x) (fun _ => C.f_amount_in) (a_cons (e_var 0) a_nil))).sD (g_nameS 1 (fun _ => ND)))
    (ss_one (s_ret (e_if ((w_or (t_cmp x_is (e_var 1) e_non) (w_or1 (t_cmp (x_eq F.toFam) (e_ix F.toFam (e_var 1) e_int) e_int)))).t e_non (e_var 1)))))
noncomputable def b_stall_in : DL.Env → R Fl :=
    (sSeq (sAsg (dCall0 m_number_in (dCons (dVar 1) (dCons (dC (.int 9)) dNil))) (gS 2))
    (sRet (dIf (dAnd (dTest (dOp fNotN (dVar 2) (dC .non))) (dTest (dCall0 m_is_index (dCons (dVar 0) (dCons (dVar 2) dNil))))) (dVar 2) (dC .non))))
noncomputable def m_stall_in : DL.Env → R D := fnM 2 3 [] b_stall_in
theorem ok_stall_in {o : Wo} {g : Gx} (C : Facts o g) : FnW o g 3 (g.fa "stall_in") 2 .S m_stall_in := by
  obtain ⟨fd, F⟩ := C.d_stall_in
  exact fn_ev (N := ["web", "word", "found"]) (ps := ["web", "word"]) F ⟨by rfl, by rfl, by rfl, by decide, by rfl, by decide, by decide⟩ (fun _ _ _ _ _ _ us hl => match us, hl with | [_, _], _ => rfl) fun cdv A outer s H E F =>
    have ND : (["web", "word", "found"] : List Str).Nodup := by decide
    show EvSs _ _ _ _ _ _ b_stall_in from
    (ss_cons (s_asg ((e_call0 F (fun _ => (ok_number_in C).x) (fun _ => C.f_number_in) (a_cons (e_var 1) (a_cons (e_conI (fun _ => C.v_MOST_NUMBER)) a_nil)))).sD (g_nameS 2 (fun _ => ND)))
    (ss_one (s_ret (e_if ((w_and (t_cmp x_isNot (e_var 2) e_non) (w_and1 (t_val (e_call0 F (fun _ => (ok_is_index C).x) (fun _ => C.f_is_index) (a_cons (e_var 0) (a_cons (e_var 2) a_nil))))))).t (e_var 2) e_non))))
noncomputable def b_ware_and_stall : DL.Env → R Fl :=
    (sSeq (sAsg (dCall0 m_number_in (dCons (dOp fIx (dVar 1) (dC (.int 0))) (dCons (dC (.int 9)) dNil))) (gS 2))
    (sSeq (sAsg (dCall0 m_stall_in (dCons (dVar 0) (dCons (dOp fIx (dVar 1) (dC (.int 1))) dNil))) (gS 3))
    (sSeq (sIf (dOr (dTest (dOp fIsN (dVar 2) (dC .non))) (dOr (dTest (dOp fIsN (dVar 3) (dC .non))) (dOr (dNot (dTest (dCall0 m_is_ware_below (dCons (dVar 2) (dCons (dFld tab n_wares (dVar 0)) dNil))))) (dTest (dOp (fIn true) (dVar 2) (dFA (dSl (dOp fIx (dFld tab n_stalls (dVar 0)) (dVar 3)) dNoPart (tPartD (dC (.int 2))))))))))
    (sRet (dC .non))
    sNext)
    (sRet (dTup (dCons (dVar 2) (dCons (dVar 3) dNil)))))))
noncomputable def m_ware_and_stall : DL.Env → R D := fnM 2 4 [] b_ware_and_stall
theorem ok_ware_and_stall {o : Wo} {g : Gx} (C : Facts o g) : FnW o g 4 (g.fa "ware_and_stall") 2 .S m_ware_and_stall := by
  obtain ⟨fd, F⟩ := C.d_ware_and_stall
  exact fn_ev (N := ["web", "words", "ware", "index"]) (ps := ["web", "words"]) F ⟨by rfl, by rfl, by rfl, by decide, by rfl, by decide, by decide⟩ (fun _ _ _ _ _ _ us hl => match us, hl with | [_, _], _ => rfl) fun cdv A outer s H E F =>
    have ND : (["web", "words", "ware", "index"] : List Str).Nodup := by decide
    show EvSs _ _ _ _ _ _ b_ware_and_stall from
    (ss_cons (s_asg ((e_call0 F (fun _ => (ok_number_in C).x) (fun _ => C.f_number_in) (a_cons (e_ix F.toFam (e_var 1) e_int) (a_cons (e_conI (fun _ => C.v_MOST_NUMBER)) a_nil)))).sD (g_nameS 2 (fun _ => ND)))
    (ss_cons (s_asg ((e_call0 F (fun _ => (ok_stall_in C).x) (fun _ => C.f_stall_in) (a_cons (e_var 0) (a_cons (e_ix F.toFam (e_var 1) e_int) a_nil)))).sD (g_nameS 3 (fun _ => ND)))
    (ss_cons (s_if ((w_or (t_cmp x_is (e_var 2) e_non) (w_or (t_cmp x_is (e_var 3) e_non) (w_or (t_not (t_val (e_call0 F (fun _ => (ok_is_ware_below C).x) (fun _ => C.f_is_ware_below) (a_cons (e_var 2) (a_cons (e_fld F.toFam C.tb (e_var 0)) a_nil))))) (w_or1 (t_cmp (x_notIn F.toFam) (e_var 2) ((e_sl F.toFam (e_ix F.toFam (e_fld F.toFam C.tb (e_var 0)) (e_var 3)) o_none (o_some e_int))).faT)))))).t
    (ss_one (s_ret e_non))
    ss_nil)
    (ss_one (s_ret (e_tup (a_cons (e_var 2) (a_cons (e_var 3) a_nil))))))))
noncomputable def b_deed_in : DL.Env → R Fl :=
    (sSeq (sIf (dAnd (dTest (dOp fEqA (dOp fIx (dVar 1) (dC (.int 0))) (dC (.str "put")))) (dTest (dOp fEqA (dUn fLen (dVar 1)) (dC (.int 4)))))
    (sSeq (sAsg (dCall0 m_some_in (dCons (dOp fIx (dVar 1) (dC (.int 1))) dNil)) (gS 2))
    (sSeq (sAsg (dCall0 m_ware_and_stall (dCons (dVar 0) (dCons (dFA (dSl (dVar 1) (tPartD (dC (.int 2))) dNoPart)) dNil))) (gS 3))
    (sRet (dIf (dOr (dTest (dOp fIsN (dVar 2) (dC .non))) (dTest (dOp fIsN (dVar 3) (dC .non)))) (dC .non) (dTup (dCons (dC (.str "put")) (dCons (dOp fIx (dVar 3) (dC (.int 0))) (dCons (dOp fIx (dVar 3) (dC (.int 1))) (dCons (dVar 2) dNil)))))))))
    sNext)
    (sSeq (sIf (dAnd (dTest (dOp (fIn false) (dOp fIx (dVar 1) (dC (.int 0))) (dTup (dCons (dC (.str "all")) (dCons (dC (.str "half")) dNil))))) (dTest (dOp fEqA (dUn fLen (dVar 1)) (dC (.int 3)))))
    (sSeq (sAsg (dCall0 m_ware_and_stall (dCons (dVar 0) (dCons (dFA (dSl (dVar 1) (tPartD (dC (.int 1))) dNoPart)) dNil))) (gS 3))
    (sRet (dIf (dTest (dOp fIsN (dVar 3) (dC .non))) (dC .non) (dTup (dCons (dOp fIx (dVar 1) (dC (.int 0))) (dCons (dOp fIx (dVar 3) (dC (.int 0))) (dCons (dOp fIx (dVar 3) (dC (.int 1))) dNil)))))))
    sNext)
    (sSeq (sIf (dAnd (dTest (dOp fEqA (dOp fIx (dVar 1) (dC (.int 0))) (dC (.str "to")))) (dTest (dOp fEqA (dUn fLen (dVar 1)) (dC (.int 3)))))
    (sSeq (sAsg (dCall0 m_stall_in (dCons (dVar 0) (dCons (dOp fIx (dVar 1) (dC (.int 1))) dNil))) (gS 4))
    (sSeq (sAsg (dCall0 m_some_in (dCons (dOp fIx (dVar 1) (dC (.int 2))) dNil)) (gS 2))
    (sRet (dIf (dOr (dTest (dOp fIsN (dVar 4) (dC .non))) (dTest (dOp fIsN (dVar 2) (dC .non)))) (dC .non) (dTup (dCons (dC (.str "to")) (dCons (dVar 4) (dCons (dVar 2) dNil))))))))
    sNext)
    (sRet (dC .non)))))
noncomputable def m_deed_in : DL.Env → R D := fnM 2 5 [] b_deed_in
theorem ok_deed_in {o : Wo} {g : Gx} (C : Facts o g) : FnW o g 6 (g.fa "deed_in") 2 .S m_deed_in := by
  obtain ⟨fd, F⟩ := C.d_deed_in
  exact fn_ev (N := ["web", "words", "amount", "pair", "index"]) (ps := ["web", "words"]) F ⟨by rfl, by rfl, by rfl, by decide, by rfl, by decide, by decide⟩ (fun _ _ _ _ _ _ us hl => match us, hl with | [_, _], _ => rfl) fun cdv A outer s H E F =>
    have ND : (["web", "words", "amount", "pair", "index"] : List Str).Nodup := by decide
    show EvSs _ _ _ _ _ _ b_deed_in from
    (ss_cons (s_if ((w_and (t_cmp (x_eq F.toFam) (e_ix F.toFam (e_var 1) e_int) e_str) (w_and1 (t_cmp (x_eq F.toFam) (e_b1 (c_len F.toFam) (fun _ => C.b_len) boot_len (e_var 1)) e_int)))).t
    (ss_cons (s_asg ((e_call0 F (fun _ => (ok_some_in C).x) (fun _ => C.f_some_in) (a_cons (e_ix F.toFam (e_var 1) e_int) a_nil))).sD (g_nameS 2 (fun _ => ND)))
    (ss_cons (s_asg ((e_call0 F (fun _ => (ok_ware_and_stall C).x) (fun _ => C.f_ware_and_stall) (a_cons (e_var 0) (a_cons ((e_sl F.toFam (e_var 1) (o_some e_int) o_none)).faT a_nil)))).sD (g_nameS 3 (fun _ => ND)))
    (ss_one (s_ret (e_if ((w_or (t_cmp x_is (e_var 2) e_non) (w_or1 (t_cmp x_is (e_var 3) e_non)))).t e_non (e_tup (a_cons e_str (a_cons (e_ix F.toFam (e_var 3) e_int) (a_cons (e_ix F.toFam (e_var 3) e_int) (a_cons (e_var 2) a_nil))))))))))
    ss_nil)
    (ss_cons (s_if ((w_and (t_cmp (x_in F.toFam) (e_ix F.toFam (e_var 1) e_int) (e_tup (a_cons e_str (a_cons e_str a_nil)))) (w_and1 (t_cmp (x_eq F.toFam) (e_b1 (c_len F.toFam) (fun _ => C.b_len) boot_len (e_var 1)) e_int)))).t
    (ss_cons (s_asg ((e_call0 F (fun _ => (ok_ware_and_stall C).x) (fun _ => C.f_ware_and_stall) (a_cons (e_var 0) (a_cons ((e_sl F.toFam (e_var 1) (o_some e_int) o_none)).faT a_nil)))).sD (g_nameS 3 (fun _ => ND)))
    (ss_one (s_ret (e_if (t_cmp x_is (e_var 3) e_non) e_non (e_tup (a_cons (e_ix F.toFam (e_var 1) e_int) (a_cons (e_ix F.toFam (e_var 3) e_int) (a_cons (e_ix F.toFam (e_var 3) e_int) a_nil))))))))
    ss_nil)
    (ss_cons (s_if ((w_and (t_cmp (x_eq F.toFam) (e_ix F.toFam (e_var 1) e_int) e_str) (w_and1 (t_cmp (x_eq F.toFam) (e_b1 (c_len F.toFam) (fun _ => C.b_len) boot_len (e_var 1)) e_int)))).t
    (ss_cons (s_asg ((e_call0 F (fun _ => (ok_stall_in C).x) (fun _ => C.f_stall_in) (a_cons (e_var 0) (a_cons (e_ix F.toFam (e_var 1) e_int) a_nil)))).sD (g_nameS 4 (fun _ => ND)))
    (ss_cons (s_asg ((e_call0 F (fun _ => (ok_some_in C).x) (fun _ => C.f_some_in) (a_cons (e_ix F.toFam (e_var 1) e_int) a_nil))).sD (g_nameS 2 (fun _ => ND)))
    (ss_one (s_ret (e_if ((w_or (t_cmp x_is (e_var 4) e_non) (w_or1 (t_cmp x_is (e_var 2) e_non)))).t e_non (e_tup (a_cons e_str (a_cons (e_var 4) (a_cons (e_var 2) a_nil)))))))))
    ss_nil)
    (ss_one (s_ret e_non)))))
noncomputable def b_times_in : DL.Env → R Fl :=
    (sSeq (sIf (dOr (dTest (dOp fNeA (dOp fIx (dVar 0) (dC (.int 0))) (dC (.str "times")))) (dTest (dOp fNeA (dUn fLen (dVar 0)) (dC (.int 2)))))
    (sRet (dC .non))
    sNext)
    (sSeq (sAsg (dCall0 m_number_in (dCons (dOp fIx (dVar 0) (dC (.int 1))) (dCons (dC (.int 9)) dNil))) (gS 1))
    (sRet (dIf (dAnd (dTest (dOp fNotN (dVar 1) (dC .non))) (dTest (dOp fLe (dVar 1) (dC (.int 20))))) (dVar 1) (dC .non)))))
noncomputable def m_times_in : DL.Env → R D := fnM 1 2 [] b_times_in
theorem ok_times_in {o : Wo} {g : Gx} (C : Facts o g) : FnW o g 2 (g.fa "times_in") 1 .S m_times_in := by
  obtain ⟨fd, F⟩ := C.d_times_in
  exact fn_ev (N := ["words", "found"]) (ps := ["words"]) F ⟨by rfl, by rfl, by rfl, by decide, by rfl, by decide, by decide⟩ (fun _ _ _ _ _ _ us hl => match us, hl with | [_], _ => rfl) fun cdv A outer s H E F =>
    have ND : (["words", "found"] : List Str).Nodup := by decide
    show EvSs _ _ _ _ _ _ b_times_in from
    (ss_cons (s_if ((w_or (t_cmp (x_ne F.toFam) (e_ix F.toFam (e_var 0) e_int) e_str) (w_or1 (t_cmp (x_ne F.toFam) (e_b1 (c_len F.toFam) (fun _ => C.b_len) boot_len (e_var 0)) e_int)))).t
    (ss_one (s_ret e_non))
    ss_nil)
    (ss_cons (s_asg ((e_call0 F (fun _ => (ok_number_in C).x) (fun _ => C.f_number_in) (a_cons (e_ix F.toFam (e_var 0) e_int) (a_cons (e_conI (fun _ => C.v_MOST_NUMBER)) a_nil)))).sD (g_nameS 1 (fun _ => ND)))
    (ss_one (s_ret (e_if ((w_and (t_cmp x_isNot (e_var 1) e_non) (w_and1 (t_cmp x_le (e_var 1) (e_conI (fun _ => C.v_MOST_TIMES)))))).t (e_var 1) e_non)))))
noncomputable def k_read_orders_1 : DL.Env → R Fl :=
    (sSeq (sAsg (dMtS fSplit (dVar 5) (dCons (dC (.str " ")) dNil)) (gF 6))
    (sSeq (sAsg (dCall0 m_times_in (dCons (dVar 6) dNil)) (gS 7))
    (sSeq (sAsg (dCall0 m_deed_in (dCons (dVar 0) (dCons (dVar 6) dNil))) (gS 8))
    (sIf (dAnd (dTest (dOp fEqA (dVar 5) (dC (.str "end")))) (dTest (dOp fGt (dLenP tab 3 lVar) (dC (.int 1)))))
    (sSeq (sAsg (dMut tab true 3 lVar fPop dNil) (gTupM (gsCons (gF 9) (gsCons (gF 10) gsNil))))
    (sExpr (dMut tab true 3 (lIx (lIx lVar (dUn fNeg (dC (.int 1)))) (dC (.int 1))) fAppend (dCons (dTup (dCons (dC (.str "times")) (dCons (dVar 9) (dCons (dVar 10) dNil)))) dNil))))
    (sIf (dAnd (dTest (dOp fNotN (dVar 7) (dC .non))) (dTest (dOp fLe (dLenP tab 3 lVar) (dC (.int 4)))))
    (sExpr (dMut tab true 3 lVar fAppend (dCons (dTup (dCons (dVar 7) (dCons (dLst dNil) dNil))) dNil)))
    (sIf (dTest (dOp fNotN (dVar 8) (dC .non)))
    (sExpr (dMut tab true 3 (lIx (lIx lVar (dUn fNeg (dC (.int 1)))) (dC (.int 1))) fAppend (dCons (dVar 8) dNil)))
    (sRaise1 n_BadText (dCons (dVar 4) dNil))))))))
noncomputable def b_read_orders : DL.Env → R Fl :=
    (sSeq (sIf (dNot (dTest (dIsi tg_str (dVar 1))))
    (sRaise1 n_BadText (dCons (dUn fNeg (dC (.int 1))) dNil))
    sNext)
    (sSeq (sAsg (dIf (dTest (dOp fNeA (dVar 1) (dC (.str "")))) (dMtS fSplit (dVar 1) (dCons (dC (.str "\n")) dNil)) (dLst dNil)) (gF 2))
    (sSeq (sFz 3 (sAsg (dLst (dCons (dTup (dCons (dC (.int 1)) (dCons (dLst dNil) dNil))) dNil)) (gD 3)))
    (sSeq (sFor (sEnumA (dCons (dVar 2) dNil)) (gTupM (gsCons (gS 4) (gsCons (gS 5) gsNil)))
    k_read_orders_1)
    (sSeq (sFz 3 (sIf (dTest (dOp fGt (dUn fLen (dVar 3)) (dC (.int 1))))
    (sRaise1 n_BadText (dCons (dUn fLen (dVar 2)) dNil))
    sNext))
    (sFz 3 (sRet (dOp fIx (dOp fIx (dVar 3) (dC (.int 0))) (dC (.int 1))))))))))
noncomputable def m_read_orders : DL.Env → R D := fnM 2 11 [] b_read_orders
theorem ok_read_orders {o : Wo} {g : Gx} (C : Facts o g) : FnW o g 7 (g.fa "read_orders") 2 .S m_read_orders := by
  obtain ⟨fd, F⟩ := C.d_read_orders
  exact fn_ev (N := ["web", "text", "lines", "stack", "index", "line", "words", "times", "deed", "count", "deeds"]) (ps := ["web", "text"]) F ⟨by rfl, by rfl, by rfl, by decide, by rfl, by decide, by decide⟩ (fun _ _ _ _ _ _ us hl => match us, hl with | [_, _], _ => rfl) fun cdv A outer s H E F =>
    have ND : (["web", "text", "lines", "stack", "index", "line", "words", "times", "deed", "count", "deeds"] : List Str).Nodup := by decide
    show EvSs _ _ _ _ _ _ b_read_orders from
    (ss_cons (s_if (t_not (t_val (e_isi F.toFam (fun _ => C.b_isinstance) (fun _ => pe_ty C.b_str boot_str) (.ty "str") C.k_str (e_var 1))))
    (ss_one (s_raise1 (c := n_BadText) (f := n_index) F (fun _ => (in_BadText C).x) C.xc_BadText (fun _ => C.c_BadText) (a_cons (e_neg e_int) a_nil)))
    ss_nil)
    (ss_cons (s_asg (e_if (t_cmp (x_ne F.toFam) (e_var 1) e_str) ((e_mtS F.toFam m_split PySem.F.slot_str_split PySem.F.type_str_split (e_var 1) (a_cons e_str a_nil))).toD ((e_lst a_nil)).toD) (g_nameF 2 (fun _ => ND)))
    (ss_cons (EvS.fz 3 (s_asg (e_blst (b_cons (e_btup (b_cons (e_int).sD (b_cons ((e_lst a_nil)).toD (a_nil).toB))) (a_nil).toB)) (g_nameD 3 (fun _ => ND))))
    (ss_cons (s_for passes_fn (F).calm (i_enumA F.toFam (fun _ => C.b_enumerate) (a_cons (e_var 2) a_nil)) (g_tup F.toFam (F).calm (gs_cons (g_nameS 4 (fun _ => ND)) (gs_cons (g_nameS 5 (fun _ => ND)) gs_nil)))
    (ss_cons (s_asg ((e_mtS F.toFam m_split PySem.F.slot_str_split PySem.F.type_str_split (e_var 5) (a_cons e_str a_nil))).toD (g_nameF 6 (fun _ => ND)))
    (ss_cons (s_asg ((e_call0 F (fun _ => (ok_times_in C).x) (fun _ => C.f_times_in) (a_cons (e_var 6) a_nil))).sD (g_nameS 7 (fun _ => ND)))
    (ss_cons (s_asg ((e_call0 F (fun _ => (ok_deed_in C).x) (fun _ => C.f_deed_in) (a_cons (e_var 0) (a_cons (e_var 6) a_nil)))).sD (g_nameS 8 (fun _ => ND)))
    (ss_one (s_if ((w_and (t_cmp (x_eq F.toFam) (e_var 5) e_str) (w_and1 (t_cmp x_gt (e_lenP F.toFam C.tb (fun _ => C.b_len) boot_len (l_var 3)) e_int)))).t
    (ss_cons (s_asg (e_mut0 F.toFam C.tb mu_pop PySem.F.slot_list_pop PySem.F.type_list_pop (l_var 3)) (g_tup F.toFam (F).calm (gs_cons (g_nameF 9 (fun _ => ND)) (gs_cons (g_nameF 10 (fun _ => ND)) gs_nil))))
    (ss_one (s_expr (e_mut F.toFam C.tb mu_append PySem.F.slot_list_append PySem.F.type_list_append (l_ix F.toFam (l_ix F.toFam (l_var 3) (e_neg e_int)) e_int) ((a_cons (e_tup (a_cons e_str (a_cons (e_var 9) (a_cons (e_var 10) a_nil)))) a_nil)).toB))))
    (ss_one (s_if ((w_and (t_cmp x_isNot (e_var 7) e_non) (w_and1 (t_cmp x_le (e_lenP F.toFam C.tb (fun _ => C.b_len) boot_len (l_var 3)) (e_conI (fun _ => C.v_MOST_DEPTH)))))).t
    (ss_one (s_expr (e_mut F.toFam C.tb mu_append PySem.F.slot_list_append PySem.F.type_list_append (l_var 3) (b_cons (e_btup (b_cons ((e_var 7)).sD (b_cons ((e_lst a_nil)).toD (a_nil).toB))) (a_nil).toB))))
    (ss_one (s_if (t_cmp x_isNot (e_var 8) e_non)
    (ss_one (s_expr (e_mut F.toFam C.tb mu_append PySem.F.slot_list_append PySem.F.type_list_append (l_ix F.toFam (l_ix F.toFam (l_var 3) (e_neg e_int)) e_int) ((a_cons (e_var 8) a_nil)).toB)))
    (ss_one (s_raise1 (c := n_BadText) (f := n_index) F (fun _ => (in_BadText C).x) C.xc_BadText (fun _ => C.c_BadText) (a_cons (e_var 4) a_nil)))))))))))))
    (ss_cons (EvS.fz 3 (s_if (t_cmp x_gt (e_b1 (c_len F.toFam) (fun _ => C.b_len) boot_len (e_var 3)) e_int)
    (ss_one (s_raise1 (c := n_BadText) (f := n_index) F (fun _ => (in_BadText C).x) C.xc_BadText (fun _ => C.c_BadText) (a_cons (e_b1 (c_len F.toFam) (fun _ => C.b_len) boot_len (e_var 2)) a_nil)))
    ss_nil))
    (ss_one (EvS.fz 3 (s_ret (e_ix F.toFam (e_ix F.toFam (e_var 3) e_int) e_int)))))))))
noncomputable def b_Run___init__ : DL.Env → R Fl :=
    (sSeq (sAsg (dVar 1) (gFldM tab 0 lVar n_web))
    (sSeq (sAsg (dUn fLstOf (dVar 2)) (gFldM tab 0 lVar n_own))
    (sAsg (dLst dNil) (gFldM tab 0 lVar n_moves))))
noncomputable def m_Run___init__ : DL.Env → R D := fnM 3 3 [0] b_Run___init__
theorem ok_Run___init__ {o : Wo} {g : Gx} (C : Facts o g) : FnW o g 1 (g.fa "Run.__init__") 3 .S m_Run___init__ := by
  obtain ⟨fd, F⟩ := C.d_Run___init__
  exact fn_ev (N := ["self", "web", "own"]) (ps := ["self", "web", "own"]) F ⟨by rfl, by rfl, by rfl, by decide, by rfl, by decide, by decide⟩ (fun _ _ _ _ _ _ us hl => match us, hl with | [_, _, _], _ => rfl) fun cdv A outer s H E F =>
    have ND : (["self", "web", "own"] : List Str).Nodup := by decide
    show EvSs _ _ _ _ _ _ b_Run___init__ from
    (ss_cons (s_asg ((e_var 1)).sD (g_fld F.toFam C.tb (l_var 0)))
    (ss_cons (s_asg ((e_ty1 (c_list F.toFam) (fun _ => C.b_list) boot_list (e_var 2))).toD (g_fld F.toFam C.tb (l_var 0)))
    (ss_one (s_asg ((e_lst a_nil)).toD (g_fld F.toFam C.tb (l_var 0))))))
noncomputable def b_Run_put : DL.Env → R Fl :=
    (sSeq (sIf (dTest (dOp fEqA (dLenP tab 0 (lFld n_moves lVar)) (dC (.int 200))))
    (sRaise1 n_TooMany (dCons (dC (.int 200)) dNil))
    sNext)
    (sSeq (sAsg (dTup (dCons (dVar 1) (dCons (dVar 2) (dCons (dMeth0 n_Exact n_pair m_Exact_pair (dVar 3) dNil) dNil)))) (gS 4))
    (sSeq (sAsg (dCall0 m_other_ware (dCons (dRead tab 0 (lIx (lFld n_stalls (lFld n_web lVar)) (dVar 1))) (dCons (dVar 2) dNil))) (gS 5))
    (sSeq (sAsg (dCall0 m_behind_move (dCons (dRead tab 0 (lFld n_web lVar)) (dCons (dVar 4) dNil))) (gTupM (gsCons (gFldM tab 0 lVar n_web) (gsCons (gS 6) gsNil))))
    (sSeq (sAsg (dOp (fun d e => if sFst (isIns n_Exact) d e = true then fOwn2 n_Exact m_Exact___sub__ d e else fSub d e) (dRead tab 0 (lIx (lFld n_own lVar) (dVar 2))) (dVar 3)) (gIxM tab 0 (lFld n_own lVar) (dVar 2)))
    (sSeq (sAsg (dFA (dOp (fun d e => if sFst (isIns n_Exact) d e = true then fOwn2 n_Exact m_Exact___add__ d e else fAdd d e) (dRead tab 0 (lIx (lFld n_own lVar) (dVar 5))) (dVar 6))) (gIxM tab 0 (lFld n_own lVar) (dVar 5)))
    (sExpr (dMut tab true 0 (lFld n_moves lVar) fAppend (dCons (dVar 4) dNil)))))))))
noncomputable def m_Run_put : DL.Env → R D := fnM 4 7 [0] b_Run_put
theorem ok_Run_put {o : Wo} {g : Gx} (C : Facts o g) : FnW o g 10 (g.fa "Run.put") 4 .S m_Run_put := by
  obtain ⟨fd, F⟩ := C.d_Run_put
  exact fn_ev (N := ["self", "index", "ware", "amount", "move", "other", "out"]) (ps := ["self", "index", "ware", "amount"]) F ⟨by rfl, by rfl, by rfl, by decide, by rfl, by decide, by decide⟩ (fun _ _ _ _ _ _ us hl => match us, hl with | [_, _, _, _], _ => rfl) fun cdv A outer s H E F =>
    have ND : (["self", "index", "ware", "amount", "move", "other", "out"] : List Str).Nodup := by decide
    show EvSs _ _ _ _ _ _ b_Run_put from
    (ss_cons (s_if (t_cmp (x_eq F.toFam) (e_lenP F.toFam C.tb (fun _ => C.b_len) boot_len (l_fld F.toFam (l_var 0))) (e_conI (fun _ => C.v_MOST_MOVES)))
    (ss_one (s_raise1 (c := n_TooMany) (f := n_limit) F (fun _ => (in_TooMany C).x) C.xc_TooMany (fun _ => C.c_TooMany) (a_cons (e_conI (fun _ => C.v_MOST_MOVES)) a_nil)))
    ss_nil)
    (ss_cons (s_asg ((e_tup (a_cons (e_var 1) (a_cons (e_var 2) (a_cons (e_meth00 (c := n_Exact) (mn := n_pair) F (fun _ => (ok_Exact_pair C).x) C.cl_Exact C.me_Exact_pair (e_var 3)) a_nil))))).sD (g_nameS 4 (fun _ => ND)))
    (ss_cons (s_asg ((e_call0 F (fun _ => (ok_other_ware C).x) (fun _ => C.f_other_ware) (a_cons (e_read C.tb (l_ix F.toFam (l_fld F.toFam (l_fld F.toFam (l_var 0))) (e_var 1))) (a_cons (e_var 2) a_nil)))).sD (g_nameS 5 (fun _ => ND)))
    (ss_cons (s_asg ((e_call0 F (fun _ => (ok_behind_move C).x) (fun _ => C.f_behind_move) (a_cons (e_read C.tb (l_fld F.toFam (l_var 0))) (a_cons (e_var 4) a_nil)))).sD (g_tup F.toFam (F).calm (gs_cons (g_fld F.toFam C.tb (l_var 0)) (gs_cons (g_nameS 6 (fun _ => ND)) gs_nil))))
    (ss_cons (s_asg ((e_op0 (EvOp0.or' (x_own (op := .Sub) F (fun _ => (ok_Exact___sub__ C).x) C.sf_Exact C.op_Exact__sub__ C.fn_Exact__sub__) (x_sub).to0 (sFst (isIns n_Exact))) (e_read C.tb (l_ix F.toFam (l_fld F.toFam (l_var 0)) (e_var 2))) (e_var 3))).sD (g_ix F.toFam C.tb (l_fld F.toFam (l_var 0)) (e_var 2)))
    (ss_cons (s_asg (((e_op0 (EvOp0.or' ((x_own (op := .Add) F (fun _ => (ok_Exact___add__ C).x) C.sf_Exact C.op_Exact__add__ C.fn_Exact__add__)).toT ((x_add F.toFam)).to0 (sFst (isIns n_Exact))) (e_read C.tb (l_ix F.toFam (l_fld F.toFam (l_var 0)) (e_var 5))) (e_var 6))).faT).sD (g_ix F.toFam C.tb (l_fld F.toFam (l_var 0)) (e_var 5)))
    (ss_one (s_expr (e_mut F.toFam C.tb mu_append PySem.F.slot_list_append PySem.F.type_list_append (l_fld F.toFam (l_var 0)) ((a_cons (e_var 4) a_nil)).toB)))))))))
noncomputable def b_Run_lead : DL.Env → R Fl :=
    (sSeq (sAsg (dRead tab 0 (lIx (lFld n_stalls (lFld n_web lVar)) (dVar 1))) (gS 3))
    (sSeq (sAsg (dCall0 m_held_of (dCons (dVar 3) (dCons (dOp fIx (dVar 3) (dC (.int 0))) dNil))) (gS 4))
    (sIf (dTest (dMeth0 n_Exact n_is_less m_Exact_is_less (dVar 4) (dCons (dVar 2) dNil)))
    (sExpr (dMeth clsAll n_Run n_put m_Run_put (pIo 0) (pCons (pE (dVar 1)) (pCons (pE (dOp fIx (dVar 3) (dC (.int 0)))) (pCons (pE (dOp (fun d e => if sFst (isIns n_Exact) d e = true then fOwn2 n_Exact m_Exact___sub__ d e else fSub d e) (dVar 2) (dVar 4))) pNil)))))
    (sIf (dTest (dMeth0 n_Exact n_is_less m_Exact_is_less (dVar 2) (dCons (dVar 4) dNil)))
    (sSeq (sAsg (dMeth0 n_Exact n_over m_Exact_over (dMeth0 n_Exact n_square m_Exact_square (dCall0 m_root_exact (dCons (dVar 3) dNil)) dNil) (dCons (dVar 2) dNil)) (gS 5))
    (sExpr (dMeth clsAll n_Run n_put m_Run_put (pIo 0) (pCons (pE (dVar 1)) (pCons (pE (dOp fIx (dVar 3) (dC (.int 1)))) (pCons (pE (dOp (fun d e => if sFst (isIns n_Exact) d e = true then fOwn2 n_Exact m_Exact___sub__ d e else fSub d e) (dVar 5) (dCall0 m_held_of (dCons (dVar 3) (dCons (dOp fIx (dVar 3) (dC (.int 1))) dNil))))) pNil))))))
    sNext))))
noncomputable def m_Run_lead : DL.Env → R D := fnM 3 6 [0] b_Run_lead
theorem ok_Run_lead {o : Wo} {g : Gx} (C : Facts o g) : FnW o g 11 (g.fa "Run.lead") 3 .S m_Run_lead := by
  obtain ⟨fd, F⟩ := C.d_Run_lead
  exact fn_ev (N := ["self", "index", "amount", "stall", "here", "rest"]) (ps := ["self", "index", "amount"]) F ⟨by rfl, by rfl, by rfl, by decide, by rfl, by decide, by decide⟩ (fun _ _ _ _ _ _ us hl => match us, hl with | [_, _, _], _ => rfl) fun cdv A outer s H E F =>
    have ND : (["self", "index", "amount", "stall", "here", "rest"] : List Str).Nodup := by decide
    show EvSs _ _ _ _ _ _ b_Run_lead from
    (ss_cons (s_asg ((e_read C.tb (l_ix F.toFam (l_fld F.toFam (l_fld F.toFam (l_var 0))) (e_var 1)))).sD (g_nameS 3 (fun _ => ND)))
    (ss_cons (s_asg ((e_call0 F (fun _ => (ok_held_of C).x) (fun _ => C.f_held_of) (a_cons (e_var 3) (a_cons (e_ix F.toFam (e_var 3) e_int) a_nil)))).sD (g_nameS 4 (fun _ => ND)))
    (ss_one (s_if (t_val (e_meth0 (c := n_Exact) (mn := n_is_less) F (fun _ => (ok_Exact_is_less C).x) C.cl_Exact C.me_Exact_is_less (e_var 4) (a_cons (e_var 2) a_nil)))
    (ss_one (s_expr ((e_meth (c := n_Run) (mn := n_put) F C.ap (fun _ => (ok_Run_put C).x) C.cl_Run C.me_Run_put (e_pIo 0) (p_cons (p_e (e_var 1)) (p_cons (p_e (e_ix F.toFam (e_var 3) e_int)) (p_cons (p_e (e_op0 (EvOp0.or' (x_own (op := .Sub) F (fun _ => (ok_Exact___sub__ C).x) C.sf_Exact C.op_Exact__sub__ C.fn_Exact__sub__) (x_sub).to0 (sFst (isIns n_Exact))) (e_var 2) (e_var 4))) p_nil))))).sD))
    (ss_one (s_if (t_val (e_meth0 (c := n_Exact) (mn := n_is_less) F (fun _ => (ok_Exact_is_less C).x) C.cl_Exact C.me_Exact_is_less (e_var 2) (a_cons (e_var 4) a_nil)))
    (ss_cons (s_asg ((e_meth0 (c := n_Exact) (mn := n_over) F (fun _ => (ok_Exact_over C).x) C.cl_Exact C.me_Exact_over (e_meth00 (c := n_Exact) (mn := n_square) F (fun _ => (ok_Exact_square C).x) C.cl_Exact C.me_Exact_square (e_call0 F (fun _ => (ok_root_exact C).x) (fun _ => C.f_root_exact) (a_cons (e_var 3) a_nil))) (a_cons (e_var 2) a_nil))).sD (g_nameS 5 (fun _ => ND)))
    (ss_one (s_expr ((e_meth (c := n_Run) (mn := n_put) F C.ap (fun _ => (ok_Run_put C).x) C.cl_Run C.me_Run_put (e_pIo 0) (p_cons (p_e (e_var 1)) (p_cons (p_e (e_ix F.toFam (e_var 3) e_int)) (p_cons (p_e (e_op0 (EvOp0.or' (x_own (op := .Sub) F (fun _ => (ok_Exact___sub__ C).x) C.sf_Exact C.op_Exact__sub__ C.fn_Exact__sub__) (x_sub).to0 (sFst (isIns n_Exact))) (e_var 5) (e_call0 F (fun _ => (ok_held_of C).x) (fun _ => C.f_held_of) (a_cons (e_var 3) (a_cons (e_ix F.toFam (e_var 3) e_int) a_nil))))) p_nil))))).sD)))
    ss_nil))))))
noncomputable def b_Run_part_of : DL.Env → R Fl :=
    (sRet (dIf (dTest (dOp fEqA (dVar 1) (dC (.str "all")))) (dRead tab 0 (lIx (lFld n_own lVar) (dVar 2))) (dFA (dOp (fun d e => if sFst (isIns n_Exact) d e = true then fOwn2 n_Exact m_Exact___mul__ d e else fMul d e) (dRead tab 0 (lIx (lFld n_own lVar) (dVar 2))) (dFA (dMake0 n_Exact m_Exact___init__ (dCons (dC (.int 1)) (dCons (dC (.int 2)) dNil))))))))
noncomputable def m_Run_part_of : DL.Env → R D := fnM 3 3 [0] b_Run_part_of
theorem ok_Run_part_of {o : Wo} {g : Gx} (C : Facts o g) : FnW o g 5 (g.fa "Run.part_of") 3 .S m_Run_part_of := by
  obtain ⟨fd, F⟩ := C.d_Run_part_of
  exact fn_ev (N := ["self", "word", "ware"]) (ps := ["self", "word", "ware"]) F ⟨by rfl, by rfl, by rfl, by decide, by rfl, by decide, by decide⟩ (fun _ _ _ _ _ _ us hl => match us, hl with | [_, _, _], _ => rfl) fun cdv A outer s H E F =>
    have ND : (["self", "word", "ware"] : List Str).Nodup := by decide
    show EvSs _ _ _ _ _ _ b_Run_part_of from
    (ss_one (s_ret (e_if (t_cmp (x_eq F.toFam) (e_var 1) e_str) (e_read C.tb (l_ix F.toFam (l_fld F.toFam (l_var 0)) (e_var 2))) ((e_op0 (EvOp0.or' ((x_own (op := .Mult) F (fun _ => (ok_Exact___mul__ C).x) C.sf_Exact C.op_Exact__mul__ C.fn_Exact__mul__)).toT ((x_mul F.toFam)).to0 (sFst (isIns n_Exact))) (e_read C.tb (l_ix F.toFam (l_fld F.toFam (l_var 0)) (e_var 2))) ((e_make0 (c := n_Exact) F (fun _ => (ok_Exact___init__ C).x) C.mk_Exact (fun _ => C.c_Exact) (a_cons e_int (a_cons e_int a_nil)))).fa)).faT)))
noncomputable def k_Run_do_1 (n : Nat) (m : DL.Env → R D) : DL.Env → R Fl :=
    (sExpr (dMeth clsAll n_Run n_do m (pIo 0) (pCons (pE (dOp fIx (dVar 2) (dC (.int 2)))) pNil)))
noncomputable def k_Run_do_2 (n : Nat) (m : DL.Env → R D) : DL.Env → R Fl :=
    (sIf (dTest (dOp fEqA (dOp fIx (dVar 2) (dC (.int 0))) (dC (.str "times"))))
    (sFor (sRng1 (dCons (dOp fIx (dVar 2) (dC (.int 1))) dNil)) (gS 3)
    (k_Run_do_1 n m))
    (sIf (dTest (dOp fEqA (dOp fIx (dVar 2) (dC (.int 0))) (dC (.str "put"))))
    (sExpr (dMeth clsAll n_Run n_put m_Run_put (pIo 0) (pCons (pE (dOp fIx (dVar 2) (dC (.int 2)))) (pCons (pE (dOp fIx (dVar 2) (dC (.int 1)))) (pCons (pE (dCall0 m_exact (dCons (dOp fIx (dVar 2) (dC (.int 3))) dNil))) pNil)))))
    (sIf (dTest (dOp fEqA (dOp fIx (dVar 2) (dC (.int 0))) (dC (.str "to"))))
    (sExpr (dMeth clsAll n_Run n_lead m_Run_lead (pIo 0) (pCons (pE (dOp fIx (dVar 2) (dC (.int 1)))) (pCons (pE (dCall0 m_exact (dCons (dOp fIx (dVar 2) (dC (.int 2))) dNil))) pNil))))
    (sIf (dTest (dOp fGt (dMeth0 n_Exact n_sign m_Exact_sign (dRead tab 0 (lIx (lFld n_own lVar) (dOp fIx (dVar 2) (dC (.int 1))))) dNil) (dC (.int 0))))
    (sExpr (dMeth clsAll n_Run n_put m_Run_put (pIo 0) (pCons (pE (dOp fIx (dVar 2) (dC (.int 2)))) (pCons (pE (dOp fIx (dVar 2) (dC (.int 1)))) (pCons (pE (dMeth clsAll n_Run n_part_of m_Run_part_of (pIo 0) (pCons (pE (dOp fIx (dVar 2) (dC (.int 0)))) (pCons (pE (dOp fIx (dVar 2) (dC (.int 1)))) pNil)))) pNil)))))
    sNext))))
noncomputable def b_Run_do (n : Nat) (m : DL.Env → R D) : DL.Env → R Fl :=
    (sFor (sIt (dVar 1)) (gS 2)
    (k_Run_do_2 n m))
noncomputable def m_Run_do : Nat → DL.Env → R D
  | 0 => fun _ => .stk
  | n + 1 => fnM 2 4 [0] (b_Run_do n (m_Run_do n))
theorem ok_Run_do {o : Wo} {g : Gx} (C : Facts o g) : ∀ n, FnW o g (12 + n) (g.fa "Run.do") 2 .S (m_Run_do n)
  | 0 => by
    obtain ⟨fd, F⟩ := C.d_Run_do
    exact fn_stk (N := ["self", "deeds", "deed", "turn"]) (ps := ["self", "deeds"]) F ⟨by rfl, by rfl, by rfl, by decide, by rfl, by decide, by decide⟩ (fun _ _ _ _ _ _ us hl => match us, hl with | [_, _], _ => rfl) 11
  | n + 1 => by
    have IH := ok_Run_do C n
    obtain ⟨fd, F⟩ := C.d_Run_do
    exact fn_ev (N := ["self", "deeds", "deed", "turn"]) (ps := ["self", "deeds"]) F ⟨by rfl, by rfl, by rfl, by decide, by rfl, by decide, by decide⟩ (fun _ _ _ _ _ _ us hl => match us, hl with | [_, _], _ => rfl) fun cdv A outer s H E F =>
      have ND : (["self", "deeds", "deed", "turn"] : List Str).Nodup := by decide
      show EvSs _ _ _ _ _ _ (b_Run_do n (m_Run_do n)) from
      (ss_one (s_for passes_fn (F).calm (i_it F.toFam (e_var 1)) (g_nameS 2 (fun _ => ND))
    (ss_one (s_if (t_cmp (x_eq F.toFam) (e_ix F.toFam (e_var 2) e_int) e_str)
    (ss_one (s_for passes_fn (F).calm (i_rng1 (fun _ => C.b_range) (a_cons (e_ix F.toFam (e_var 2) e_int) a_nil)) (g_nameS 3 (fun _ => ND))
    (ss_one (s_expr ((e_meth (c := n_Run) (mn := n_do) F C.ap (fun _ => IH.x) C.cl_Run C.me_Run_do (e_pIo 0) (p_cons (p_e (e_ix F.toFam (e_var 2) e_int)) p_nil))).sD))))
    (ss_one (s_if (t_cmp (x_eq F.toFam) (e_ix F.toFam (e_var 2) e_int) e_str)
    (ss_one (s_expr ((e_meth (c := n_Run) (mn := n_put) F C.ap (fun _ => (ok_Run_put C).x) C.cl_Run C.me_Run_put (e_pIo 0) (p_cons (p_e (e_ix F.toFam (e_var 2) e_int)) (p_cons (p_e (e_ix F.toFam (e_var 2) e_int)) (p_cons (p_e (e_call0 F (fun _ => (ok_exact C).x) (fun _ => C.f_exact) (a_cons (e_ix F.toFam (e_var 2) e_int) a_nil))) p_nil))))).sD))
    (ss_one (s_if (t_cmp (x_eq F.toFam) (e_ix F.toFam (e_var 2) e_int) e_str)
    (ss_one (s_expr ((e_meth (c := n_Run) (mn := n_lead) F C.ap (fun _ => (ok_Run_lead C).x) C.cl_Run C.me_Run_lead (e_pIo 0) (p_cons (p_e (e_ix F.toFam (e_var 2) e_int)) (p_cons (p_e (e_call0 F (fun _ => (ok_exact C).x) (fun _ => C.f_exact) (a_cons (e_ix F.toFam (e_var 2) e_int) a_nil))) p_nil)))).sD))
    (ss_one (s_if (t_cmp x_gt (e_meth00 (c := n_Exact) (mn := n_sign) F (fun _ => (ok_Exact_sign C).x) C.cl_Exact C.me_Exact_sign (e_read C.tb (l_ix F.toFam (l_fld F.toFam (l_var 0)) (e_ix F.toFam (e_var 2) e_int)))) e_int)
    (ss_one (s_expr ((e_meth (c := n_Run) (mn := n_put) F C.ap (fun _ => (ok_Run_put C).x) C.cl_Run C.me_Run_put (e_pIo 0) (p_cons (p_e (e_ix F.toFam (e_var 2) e_int)) (p_cons (p_e (e_ix F.toFam (e_var 2) e_int)) (p_cons (p_e (e_meth (c := n_Run) (mn := n_part_of) F C.ap (fun _ => (ok_Run_part_of C).x) C.cl_Run C.me_Run_part_of (e_pIo 0) (p_cons (p_e (e_ix F.toFam (e_var 2) e_int)) (p_cons (p_e (e_ix F.toFam (e_var 2) e_int)) p_nil)))) p_nil))))).sD))
    ss_nil))))))))))
noncomputable def b_run : DL.Env → R Fl :=
    (sSeq (sAsg (dCall0 m_check_purse (dCons (dVar 0) (dCons (dVar 1) dNil))) (gS 3))
    (sSeq (sFz 4 (sAsg (dMake0 n_Run m_Run___init__ (dCons (dVar 0) (dCons (dVar 3) dNil))) (gD 4)))
    (sSeq (sExpr (dMeth clsAll n_Run n_do (m_Run_do 40) (pIo 4) (pCons (pE (dCall0 m_read_orders (dCons (dVar 0) (dCons (dVar 2) dNil)))) pNil)))
    (sFz 4 (sRet (dTup (dCons (dFld tab n_web (dVar 4)) (dCons (dUn fTup (dFA (dLc (sIt (dFld tab n_own (dVar 4))) (gS 5) tYesD (dMeth0 n_Exact n_pair m_Exact_pair (dVar 5) dNil) 6 (List.map (·.2) ([("amount", 5)] : List (Str × Nat)))))) (dCons (dFld tab n_moves (dVar 4)) dNil)))))))))
noncomputable def m_run : DL.Env → R D := fnM 3 6 [] b_run
theorem ok_run {o : Wo} {g : Gx} (C : Facts o g) : FnW o g 93 (g.fa "run") 3 .S m_run := by
  obtain ⟨fd, F⟩ := C.d_run
  exact fn_ev (N := ["web", "purse", "text", "own", "found", "amount"]) (ps := ["web", "purse", "text"]) F ⟨by rfl, by rfl, by rfl, by decide, by rfl, by decide, by decide⟩ (fun _ _ _ _ _ _ us hl => match us, hl with | [_, _, _], _ => rfl) fun cdv A outer s H E F =>
    have ND : (["web", "purse", "text", "own", "found", "amount"] : List Str).Nodup := by decide
    show EvSs _ _ _ _ _ _ b_run from
    (ss_cons (s_asg ((e_call0 F (fun _ => (ok_check_purse C).x) (fun _ => C.f_check_purse) (a_cons (e_var 0) (a_cons (e_var 1) a_nil)))).sD (g_nameS 3 (fun _ => ND)))
    (ss_cons (EvS.fz 4 (s_asg (e_make0 (c := n_Run) F (fun _ => (ok_Run___init__ C).x) C.mk_Run (fun _ => C.c_Run) (a_cons (e_var 0) (a_cons (e_var 3) a_nil))) (g_nameD 4 (fun _ => ND))))
    (ss_cons (s_expr ((e_meth (c := n_Run) (mn := n_do) F C.ap (fun _ => (ok_Run_do C 40).x) C.cl_Run C.me_Run_do (e_pIo 4) (p_cons (p_e (e_call0 F (fun _ => (ok_read_orders C).x) (fun _ => C.f_read_orders) (a_cons (e_var 0) (a_cons (e_var 2) a_nil)))) p_nil))).sD)
    (ss_one (EvS.fz 4 (s_ret (e_tup (a_cons (e_fld F.toFam C.tb (e_var 4)) (a_cons (e_ty1 (c_tuple F.toFam) (fun _ => C.b_tuple) boot_tuple ((e_lc (io := [0, 1, 2, 3, 4]) F (fun _ => ND) [("amount", 5)] 6 (i_it F.toFam (e_fld F.toFam C.tb (e_var 4))) (g_nameS 5 (fun _ => ND)) ((e_meth00 (c := n_Exact) (mn := n_pair) F.blk (fun _ => (ok_Exact_pair C).x) C.cl_Exact C.me_Exact_pair (e_var 5))).sD)).fa) (a_cons (e_fld F.toFam C.tb (e_var 4)) a_nil))))))))))
noncomputable def b__law_deck : DL.Env → R Fl :=
    (sRet (dLst (dCons (dFA (dLc (sIt (dFA (dSl (dVar 0) dNoPart (tPartD (dC (.int 63)))))) (gS 1) tYesD (dUn fInt (dVar 1)) 2 (List.map (·.2) ([("_law_cell", 1)] : List (Str × Nat))))) (dCons (dC (.int 0)) (dCons (dC (.int 0)) (dCons (dC (.int 0)) dNil))))))
noncomputable def m__law_deck : DL.Env → R D := fnM 1 2 [] b__law_deck
theorem ok__law_deck {o : Wo} {g : Gx} (C : Facts o g) : FnW o g 1 (g.fa "_law_deck") 1 .D m__law_deck := by
  obtain ⟨fd, F⟩ := C.d__law_deck
  exact fn_ev (N := ["_law_script", "_law_cell"]) (ps := ["_law_script"]) F ⟨by rfl, by rfl, by rfl, by decide, by rfl, by decide, by decide⟩ (fun _ _ _ _ _ _ us hl => match us, hl with | [_], _ => rfl) fun cdv A outer s H E F =>
    have ND : (["_law_script", "_law_cell"] : List Str).Nodup := by decide
    show EvSs _ _ _ _ _ _ b__law_deck from
    (ss_one (s_ret ((e_lst (a_cons ((e_lc (io := [0]) F (fun _ => ND) [("_law_cell", 1)] 2 (i_it F.toFam ((e_sl F.toFam (e_var 0) o_none (o_some e_int))).faT) (g_nameS 1 (fun _ => ND)) ((e_ty1 c_int (fun _ => C.b_int) boot_int (e_var 1))).sD)).fa (a_cons e_int (a_cons e_int (a_cons e_int a_nil)))))).toD))
noncomputable def b__law_pick : DL.Env → R Fl :=
    (sSeq (sAsg (dFA (dOp fAdd (dPeekP tab 0 (lIx lVar (dC (.int 3)))) (dC (.int 1)))) (gIxM tab 0 lVar (dC (.int 3))))
    (sSeq (sIf (dTest (dOp fGt (dPeekP tab 0 (lIx lVar (dC (.int 2)))) (dC (.int 0))))
    (sSeq (sAsg (dOp fModI (dUn fInt (dPeekP tab 0 (lIx lVar (dC (.int 2))))) (dVar 1)) (gS 2))
    (sSeq (sAsg (dOp fDiv (dUn fInt (dPeekP tab 0 (lIx lVar (dC (.int 2))))) (dVar 1)) (gIxM tab 0 lVar (dC (.int 2))))
    (sRet (dVar 2))))
    sNext)
    (sSeq (sAsg (dRead tab 0 (lIx lVar (dC (.int 0)))) (gS 3))
    (sSeq (sAsg (dC (.int 0)) (gS 4))
    (sSeq (sIf (dTest (dOp fGt (dUn fLen (dVar 3)) (dC (.int 0))))
    (sAsg (dOp fIx (dVar 3) (dOp fModI (dUn fInt (dPeekP tab 0 (lIx lVar (dC (.int 1))))) (dUn fLen (dVar 3)))) (gS 4))
    sNext)
    (sSeq (sAsg (dFA (dOp fAdd (dPeekP tab 0 (lIx lVar (dC (.int 1)))) (dC (.int 1)))) (gIxM tab 0 lVar (dC (.int 1))))
    (sSeq (sIf (dAnd (dTest (dOp fGe (dVar 4) (dOp fPow (dC (.int 10)) (dC (.int 18))))) (dTest (dOp fLe (dPeekP tab 0 (lIx lVar (dC (.int 1)))) (dUn fLen (dVar 3)))))
    (sSeq (sAsg (dOp fDiv (dUn fInt (dVar 4)) (dVar 1)) (gIxM tab 0 lVar (dC (.int 2))))
    (sRet (dOp fModI (dUn fInt (dVar 4)) (dVar 1))))
    sNext)
    (sSeq (sAsg (dOp fModI (dFA (dOp fMul (dUn fInt (dFA (dOp fAdd (dFA (dOp fAdd (dVar 4) (dFA (dOp fMul (dC (.int 7919)) (dPeekP tab 0 (lIx lVar (dC (.int 3)))))))) (dC (.int 1))))) (dC (.int 48271)))) (dC (.int 2147483647))) (gS 5))
    (sSeq (sAsg (dOp fModI (dFA (dOp fMul (dVar 5) (dFA (dOp fAdd (dOp fDiv (dVar 5) (dC (.int 1009))) (dC (.int 69621)))))) (dC (.int 2147483647))) (gS 5))
    (sSeq (sAsg (dOp fModI (dFA (dOp fMul (dVar 5) (dFA (dOp fAdd (dOp fDiv (dVar 5) (dC (.int 2003))) (dC (.int 40692)))))) (dC (.int 2147483399))) (gS 5))
    (sRet (dOp fModI (dVar 5) (dVar 1)))))))))))))
noncomputable def m__law_pick : DL.Env → R D := fnM 2 6 [0] b__law_pick
theorem ok__law_pick {o : Wo} {g : Gx} (C : Facts o g) : FnW o g 1 (g.fa "_law_pick") 2 .S m__law_pick := by
  obtain ⟨fd, F⟩ := C.d__law_pick
  exact fn_ev (N := ["_law_deck_here", "_law_many_here", "_law_found", "_law_cells", "_law_cell", "_law_number"]) (ps := ["_law_deck_here", "_law_many_here"]) F ⟨by rfl, by rfl, by rfl, by decide, by rfl, by decide, by decide⟩ (fun _ _ _ _ _ _ us hl => match us, hl with | [_, _], _ => rfl) fun cdv A outer s H E F =>
    have ND : (["_law_deck_here", "_law_many_here", "_law_found", "_law_cells", "_law_cell", "_law_number"] : List Str).Nodup := by decide
    show EvSs _ _ _ _ _ _ b__law_pick from
    (ss_cons (s_asg (((e_op (x_add F.toFam) (e_peekP C.tb (l_ix F.toFam (l_var 0) e_int)) e_int)).faT).sD (g_ix F.toFam C.tb (l_var 0) e_int))
    (ss_cons (s_if (t_cmp x_gt (e_peekP C.tb (l_ix F.toFam (l_var 0) e_int)) e_int)
    (ss_cons (s_asg ((e_op x_mod (e_ty1 c_int (fun _ => C.b_int) boot_int (e_peekP C.tb (l_ix F.toFam (l_var 0) e_int))) (e_var 1))).sD (g_nameS 2 (fun _ => ND)))
    (ss_cons (s_asg ((e_op x_div (e_ty1 c_int (fun _ => C.b_int) boot_int (e_peekP C.tb (l_ix F.toFam (l_var 0) e_int))) (e_var 1))).sD (g_ix F.toFam C.tb (l_var 0) e_int))
    (ss_one (s_ret (e_var 2)))))
    ss_nil)
    (ss_cons (s_asg ((e_read C.tb (l_ix F.toFam (l_var 0) e_int))).sD (g_nameS 3 (fun _ => ND)))
    (ss_cons (s_asg (e_int).sD (g_nameS 4 (fun _ => ND)))
    (ss_cons (s_if (t_cmp x_gt (e_b1 (c_len F.toFam) (fun _ => C.b_len) boot_len (e_var 3)) e_int)
    (ss_one (s_asg ((e_ix F.toFam (e_var 3) (e_op x_mod (e_ty1 c_int (fun _ => C.b_int) boot_int (e_peekP C.tb (l_ix F.toFam (l_var 0) e_int))) (e_b1 (c_len F.toFam) (fun _ => C.b_len) boot_len (e_var 3))))).sD (g_nameS 4 (fun _ => ND))))
    ss_nil)
    (ss_cons (s_asg (((e_op (x_add F.toFam) (e_peekP C.tb (l_ix F.toFam (l_var 0) e_int)) e_int)).faT).sD (g_ix F.toFam C.tb (l_var 0) e_int))
    (ss_cons (s_if ((w_and (t_cmp x_ge (e_var 4) (e_op x_pow e_int e_int)) (w_and1 (t_cmp x_le (e_peekP C.tb (l_ix F.toFam (l_var 0) e_int)) (e_b1 (c_len F.toFam) (fun _ => C.b_len) boot_len (e_var 3)))))).t
    (ss_cons (s_asg ((e_op x_div (e_ty1 c_int (fun _ => C.b_int) boot_int (e_var 4)) (e_var 1))).sD (g_ix F.toFam C.tb (l_var 0) e_int))
    (ss_one (s_ret (e_op x_mod (e_ty1 c_int (fun _ => C.b_int) boot_int (e_var 4)) (e_var 1)))))
    ss_nil)
    (ss_cons (s_asg ((e_op x_mod ((e_op (x_mul F.toFam) (e_ty1 c_int (fun _ => C.b_int) boot_int ((e_op (x_add F.toFam) ((e_op (x_add F.toFam) (e_var 4) ((e_op (x_mul F.toFam) e_int (e_peekP C.tb (l_ix F.toFam (l_var 0) e_int)))).faT)).faT e_int)).faT) e_int)).faT e_int)).sD (g_nameS 5 (fun _ => ND)))
    (ss_cons (s_asg ((e_op x_mod ((e_op (x_mul F.toFam) (e_var 5) ((e_op (x_add F.toFam) (e_op x_div (e_var 5) e_int) e_int)).faT)).faT e_int)).sD (g_nameS 5 (fun _ => ND)))
    (ss_cons (s_asg ((e_op x_mod ((e_op (x_mul F.toFam) (e_var 5) ((e_op (x_add F.toFam) (e_op x_div (e_var 5) e_int) e_int)).faT)).faT e_int)).sD (g_nameS 5 (fun _ => ND)))
    (ss_one (s_ret (e_op x_mod (e_var 5) (e_var 1))))))))))))))
noncomputable def k__law_divisor_1 : DL.Env → R Fl :=
    (sSeq (sIf (dTest (dOp fEqA (dVar 1) (dC (.int 0))))
    (sRet (dVar 0))
    sNext)
    (sSeq (sAsg (dOp fModI (dUn fInt (dVar 0)) (dVar 1)) (gS 3))
    (sSeq (sAsg (dVar 1) (gS 0))
    (sAsg (dVar 3) (gS 1)))))
noncomputable def b__law_divisor : DL.Env → R Fl :=
    (sSeq (sAsg (dUn fAbs (dVar 0)) (gS 0))
    (sSeq (sAsg (dUn fAbs (dVar 1)) (gS 1))
    (sSeq (sFor (sRng1 (dCons (dFA (dOp fAdd (dFA (dOp fMul (dC (.int 2)) (dUn fBits (dVar 1)))) (dC (.int 2)))) dNil)) (gS 2)
    k__law_divisor_1)
    (sRet (dVar 0)))))
noncomputable def m__law_divisor : DL.Env → R D := fnM 2 4 [] b__law_divisor
theorem ok__law_divisor {o : Wo} {g : Gx} (C : Facts o g) : FnW o g 1 (g.fa "_law_divisor") 2 .S m__law_divisor := by
  obtain ⟨fd, F⟩ := C.d__law_divisor
  exact fn_ev (N := ["_law_one", "_law_other", "_law_turn", "_law_rest"]) (ps := ["_law_one", "_law_other"]) F ⟨by rfl, by rfl, by rfl, by decide, by rfl, by decide, by decide⟩ (fun _ _ _ _ _ _ us hl => match us, hl with | [_, _], _ => rfl) fun cdv A outer s H E F =>
    have ND : (["_law_one", "_law_other", "_law_turn", "_law_rest"] : List Str).Nodup := by decide
    show EvSs _ _ _ _ _ _ b__law_divisor from
    (ss_cons (s_asg ((e_b1 c_abs (fun _ => C.b_abs) boot_abs (e_var 0))).sD (g_nameS 0 (fun _ => ND)))
    (ss_cons (s_asg ((e_b1 c_abs (fun _ => C.b_abs) boot_abs (e_var 1))).sD (g_nameS 1 (fun _ => ND)))
    (ss_cons (s_for passes_fn (F).calm (i_rng1 (fun _ => C.b_range) (a_cons ((e_op (x_add F.toFam) ((e_op (x_mul F.toFam) e_int (e_bits (e_var 1)))).faT e_int)).faT a_nil)) (g_nameS 2 (fun _ => ND))
    (ss_cons (s_if (t_cmp (x_eq F.toFam) (e_var 1) e_int)
    (ss_one (s_ret (e_var 0)))
    ss_nil)
    (ss_cons (s_asg ((e_op x_mod (e_ty1 c_int (fun _ => C.b_int) boot_int (e_var 0)) (e_var 1))).sD (g_nameS 3 (fun _ => ND)))
    (ss_cons (s_asg ((e_var 1)).sD (g_nameS 0 (fun _ => ND)))
    (ss_one (s_asg ((e_var 3)).sD (g_nameS 1 (fun _ => ND))))))))
    (ss_one (s_ret (e_var 0))))))
noncomputable def b__law_f : DL.Env → R Fl :=
    (sSeq (sIf (dTest (dOp fLt (dVar 1) (dC (.int 0))))
    (sPar 0 1 (dCons (dUn fNeg (dVar 0)) (dCons (dUn fNeg (dVar 1)) dNil)))
    sNext)
    (sSeq (sAsg (dCall0 m__law_divisor (dCons (dVar 0) (dCons (dVar 1) dNil))) (gS 2))
    (sRet (dTup (dCons (dOp fDiv (dVar 0) (dVar 2)) (dCons (dOp fDiv (dVar 1) (dVar 2)) dNil))))))
noncomputable def m__law_f : DL.Env → R D := fnM 2 3 [] b__law_f
theorem ok__law_f {o : Wo} {g : Gx} (C : Facts o g) : FnW o g 2 (g.fa "_law_f") 2 .S m__law_f := by
  obtain ⟨fd, F⟩ := C.d__law_f
  exact fn_ev (N := ["_law_top", "_law_bottom", "_law_common"]) (ps := ["_law_top", "_law_bottom"]) F ⟨by rfl, by rfl, by rfl, by decide, by rfl, by decide, by decide⟩ (fun _ _ _ _ _ _ us hl => match us, hl with | [_, _], _ => rfl) fun cdv A outer s H E F =>
    have ND : (["_law_top", "_law_bottom", "_law_common"] : List Str).Nodup := by decide
    show EvSs _ _ _ _ _ _ b__law_f from
    (ss_cons (s_if (t_cmp x_lt (e_var 1) e_int)
    (ss_one (s_par (F).calm (fun _ => ND) 0 1 (a_cons (e_neg (e_var 0)) (a_cons (e_neg (e_var 1)) a_nil))))
    ss_nil)
    (ss_cons (s_asg ((e_call0 F (fun _ => (ok__law_divisor C).x) (fun _ => C.f__law_divisor) (a_cons (e_var 0) (a_cons (e_var 1) a_nil)))).sD (g_nameS 2 (fun _ => ND)))
    (ss_one (s_ret (e_tup (a_cons (e_op x_div (e_var 0) (e_var 2)) (a_cons (e_op x_div (e_var 1) (e_var 2)) a_nil)))))))
noncomputable def b__law_add : DL.Env → R Fl :=
    (sRet (dCall0 m__law_f (dCons (dFA (dOp fAdd (dFA (dOp fMul (dOp fIx (dVar 0) (dC (.int 0))) (dOp fIx (dVar 1) (dC (.int 1))))) (dFA (dOp fMul (dOp fIx (dVar 1) (dC (.int 0))) (dOp fIx (dVar 0) (dC (.int 1))))))) (dCons (dFA (dOp fMul (dOp fIx (dVar 0) (dC (.int 1))) (dOp fIx (dVar 1) (dC (.int 1))))) dNil))))
noncomputable def m__law_add : DL.Env → R D := fnM 2 2 [] b__law_add
theorem ok__law_add {o : Wo} {g : Gx} (C : Facts o g) : FnW o g 3 (g.fa "_law_add") 2 .S m__law_add := by
  obtain ⟨fd, F⟩ := C.d__law_add
  exact fn_ev (N := ["_law_one", "_law_other"]) (ps := ["_law_one", "_law_other"]) F ⟨by rfl, by rfl, by rfl, by decide, by rfl, by decide, by decide⟩ (fun _ _ _ _ _ _ us hl => match us, hl with | [_, _], _ => rfl) fun cdv A outer s H E F =>
    have ND : (["_law_one", "_law_other"] : List Str).Nodup := by decide
    show EvSs _ _ _ _ _ _ b__law_add from
    (ss_one (s_ret (e_call0 F (fun _ => (ok__law_f C).x) (fun _ => C.f__law_f) (a_cons ((e_op (x_add F.toFam) ((e_op (x_mul F.toFam) (e_ix F.toFam (e_var 0) e_int) (e_ix F.toFam (e_var 1) e_int))).faT ((e_op (x_mul F.toFam) (e_ix F.toFam (e_var 1) e_int) (e_ix F.toFam (e_var 0) e_int))).faT)).faT (a_cons ((e_op (x_mul F.toFam) (e_ix F.toFam (e_var 0) e_int) (e_ix F.toFam (e_var 1) e_int))).faT a_nil)))))
noncomputable def b__law_sub : DL.Env → R Fl :=
    (sRet (dCall0 m__law_f (dCons (dOp fSub (dFA (dOp fMul (dOp fIx (dVar 0) (dC (.int 0))) (dOp fIx (dVar 1) (dC (.int 1))))) (dFA (dOp fMul (dOp fIx (dVar 1) (dC (.int 0))) (dOp fIx (dVar 0) (dC (.int 1)))))) (dCons (dFA (dOp fMul (dOp fIx (dVar 0) (dC (.int 1))) (dOp fIx (dVar 1) (dC (.int 1))))) dNil))))
noncomputable def m__law_sub : DL.Env → R D := fnM 2 2 [] b__law_sub
theorem ok__law_sub {o : Wo} {g : Gx} (C : Facts o g) : FnW o g 3 (g.fa "_law_sub") 2 .S m__law_sub := by
  obtain ⟨fd, F⟩ := C.d__law_sub
  exact fn_ev (N := ["_law_one", "_law_other"]) (ps := ["_law_one", "_law_other"]) F ⟨by rfl, by rfl, by rfl, by decide, by rfl, by decide, by decide⟩ (fun _ _ _ _ _ _ us hl => match us, hl with | [_, _], _ => rfl) fun cdv A outer s H E F =>
    have ND : (["_law_one", "_law_other"] : List Str).Nodup := by decide
    show EvSs _ _ _ _ _ _ b__law_sub from
    (ss_one (s_ret (e_call0 F (fun _ => (ok__law_f C).x) (fun _ => C.f__law_f) (a_cons (e_op x_sub ((e_op (x_mul F.toFam) (e_ix F.toFam (e_var 0) e_int) (e_ix F.toFam (e_var 1) e_int))).faT ((e_op (x_mul F.toFam) (e_ix F.toFam (e_var 1) e_int) (e_ix F.toFam (e_var 0) e_int))).faT) (a_cons ((e_op (x_mul F.toFam) (e_ix F.toFam (e_var 0) e_int) (e_ix F.toFam (e_var 1) e_int))).faT a_nil)))))
noncomputable def b__law_mul : DL.Env → R Fl :=
    (sRet (dCall0 m__law_f (dCons (dFA (dOp fMul (dOp fIx (dVar 0) (dC (.int 0))) (dOp fIx (dVar 1) (dC (.int 0))))) (dCons (dFA (dOp fMul (dOp fIx (dVar 0) (dC (.int 1))) (dOp fIx (dVar 1) (dC (.int 1))))) dNil))))
noncomputable def m__law_mul : DL.Env → R D := fnM 2 2 [] b__law_mul
theorem ok__law_mul {o : Wo} {g : Gx} (C : Facts o g) : FnW o g 3 (g.fa "_law_mul") 2 .S m__law_mul := by
  obtain ⟨fd, F⟩ := C.d__law_mul
  exact fn_ev (N := ["_law_one", "_law_other"]) (ps := ["_law_one", "_law_other"]) F ⟨by rfl, by rfl, by rfl, by decide, by rfl, by decide, by decide⟩ (fun _ _ _ _ _ _ us hl => match us, hl with | [_, _], _ => rfl) fun cdv A outer s H E F =>
    have ND : (["_law_one", "_law_other"] : List Str).Nodup := by decide
    show EvSs _ _ _ _ _ _ b__law_mul from
    (ss_one (s_ret (e_call0 F (fun _ => (ok__law_f C).x) (fun _ => C.f__law_f) (a_cons ((e_op (x_mul F.toFam) (e_ix F.toFam (e_var 0) e_int) (e_ix F.toFam (e_var 1) e_int))).faT (a_cons ((e_op (x_mul F.toFam) (e_ix F.toFam (e_var 0) e_int) (e_ix F.toFam (e_var 1) e_int))).faT a_nil)))))
noncomputable def b__law_div : DL.Env → R Fl :=
    (sRet (dCall0 m__law_f (dCons (dFA (dOp fMul (dOp fIx (dVar 0) (dC (.int 0))) (dOp fIx (dVar 1) (dC (.int 1))))) (dCons (dFA (dOp fMul (dOp fIx (dVar 0) (dC (.int 1))) (dOp fIx (dVar 1) (dC (.int 0))))) dNil))))
noncomputable def m__law_div : DL.Env → R D := fnM 2 2 [] b__law_div
theorem ok__law_div {o : Wo} {g : Gx} (C : Facts o g) : FnW o g 3 (g.fa "_law_div") 2 .S m__law_div := by
  obtain ⟨fd, F⟩ := C.d__law_div
  exact fn_ev (N := ["_law_one", "_law_other"]) (ps := ["_law_one", "_law_other"]) F ⟨by rfl, by rfl, by rfl, by decide, by rfl, by decide, by decide⟩ (fun _ _ _ _ _ _ us hl => match us, hl with | [_, _], _ => rfl) fun cdv A outer s H E F =>
    have ND : (["_law_one", "_law_other"] : List Str).Nodup := by decide
    show EvSs _ _ _ _ _ _ b__law_div from
    (ss_one (s_ret (e_call0 F (fun _ => (ok__law_f C).x) (fun _ => C.f__law_f) (a_cons ((e_op (x_mul F.toFam) (e_ix F.toFam (e_var 0) e_int) (e_ix F.toFam (e_var 1) e_int))).faT (a_cons ((e_op (x_mul F.toFam) (e_ix F.toFam (e_var 0) e_int) (e_ix F.toFam (e_var 1) e_int))).faT a_nil)))))
noncomputable def b__law_less : DL.Env → R Fl :=
    (sRet (dOp fLt (dFA (dOp fMul (dOp fIx (dVar 0) (dC (.int 0))) (dOp fIx (dVar 1) (dC (.int 1))))) (dFA (dOp fMul (dOp fIx (dVar 1) (dC (.int 0))) (dOp fIx (dVar 0) (dC (.int 1)))))))
noncomputable def m__law_less : DL.Env → R D := fnM 2 2 [] b__law_less
theorem ok__law_less {o : Wo} {g : Gx} (C : Facts o g) : FnW o g 1 (g.fa "_law_less") 2 .S m__law_less := by
  obtain ⟨fd, F⟩ := C.d__law_less
  exact fn_ev (N := ["_law_one", "_law_other"]) (ps := ["_law_one", "_law_other"]) F ⟨by rfl, by rfl, by rfl, by decide, by rfl, by decide, by decide⟩ (fun _ _ _ _ _ _ us hl => match us, hl with | [_, _], _ => rfl) fun cdv A outer s H E F =>
    have ND : (["_law_one", "_law_other"] : List Str).Nodup := by decide
    show EvSs _ _ _ _ _ _ b__law_less from
    (ss_one (s_ret (e_cmp x_lt ((e_op (x_mul F.toFam) (e_ix F.toFam (e_var 0) e_int) (e_ix F.toFam (e_var 1) e_int))).faT ((e_op (x_mul F.toFam) (e_ix F.toFam (e_var 1) e_int) (e_ix F.toFam (e_var 0) e_int))).faT)))
noncomputable def b__law_loops : DL.Env → R Fl :=
    (sSeq (sAsg (dOp fIx (dFA (dLst (dCons (dFA (dLst (dCons (dC (.int 2)) (dCons (dC (.int 3)) dNil)))) (dCons (dFA (dLst (dCons (dC (.int 4)) (dCons (dC (.int 6)) dNil)))) (dCons (dFA (dLst (dCons (dC (.int 20)) (dCons (dC (.int 21)) dNil)))) (dCons (dFA (dLst (dCons (dC (.int 15)) (dCons (dC (.int 3)) dNil)))) dNil)))))) (dCall clsAll m__law_pick (pCons (pIo 0) (pCons (pE (dC (.int 4))) pNil)))) (gS 2))
    (sRet (dFA (dLc (sRng1 (dCons (dVar 1) dNil)) (gS 3) tYesD (dCall clsAll m__law_pick (pCons (pIo 0) (pCons (pE (dFA (dOp fAdd (dOp fIx (dVar 2) (dOp fModI (dUn fInt (dVar 3)) (dC (.int 2)))) (dC (.int 1))))) pNil))) 4 (List.map (·.2) ([("_law_turn", 3)] : List (Str × Nat)))))))
noncomputable def m__law_loops : DL.Env → R D := fnM 2 4 [0] b__law_loops
theorem ok__law_loops {o : Wo} {g : Gx} (C : Facts o g) : FnW o g 2 (g.fa "_law_loops") 2 .S m__law_loops := by
  obtain ⟨fd, F⟩ := C.d__law_loops
  exact fn_ev (N := ["_law_deck_here", "_law_deep", "_law_sizes", "_law_turn"]) (ps := ["_law_deck_here", "_law_deep"]) F ⟨by rfl, by rfl, by rfl, by decide, by rfl, by decide, by decide⟩ (fun _ _ _ _ _ _ us hl => match us, hl with | [_, _], _ => rfl) fun cdv A outer s H E F =>
    have ND : (["_law_deck_here", "_law_deep", "_law_sizes", "_law_turn"] : List Str).Nodup := by decide
    show EvSs _ _ _ _ _ _ b__law_loops from
    (ss_cons (s_asg ((e_ix F.toFam ((e_lst (a_cons ((e_lst (a_cons e_int (a_cons e_int a_nil)))).faT (a_cons ((e_lst (a_cons e_int (a_cons e_int a_nil)))).faT (a_cons ((e_lst (a_cons e_int (a_cons e_int a_nil)))).faT (a_cons ((e_lst (a_cons e_int (a_cons e_int a_nil)))).faT a_nil)))))).faT (e_call F C.ap (fun _ => (ok__law_pick C).x) (fun _ => C.f__law_pick) (p_cons (e_pIo 0) (p_cons (p_e e_int) p_nil))))).sD (g_nameS 2 (fun _ => ND)))
    (ss_one (s_ret ((e_lc (io := [0, 1, 2]) F (fun _ => ND) [("_law_turn", 3)] 4 (i_rng1 (fun _ => C.b_range) (a_cons (e_var 1) a_nil)) (g_nameS 3 (fun _ => ND)) ((e_call F.blk C.ap (fun _ => (ok__law_pick C).x) (fun _ => C.f__law_pick) (p_cons (e_pIo 0) (p_cons (p_e ((e_op (x_add F.blk.toFam) (e_ix F.blk.toFam (e_var 2) (e_op x_mod (e_ty1 c_int (fun _ => C.b_int) boot_int (e_var 3)) e_int)) e_int)).faT) p_nil)))).sD)).fa)))
noncomputable def k__law_within_1 : DL.Env → R Fl :=
    (sAsg (dOp fAdd (dFA (dOp fAdd (dFA (dLst (dCons (dFA (dOp fAdd (dC (.str "times ")) (dUn fStr (dN fMin (dCons (dC (.int 20)) (dCons (dVar 3) dNil)))))) dNil))) (dVar 2))) (dFA (dLst (dCons (dC (.str "end")) dNil)))) (gF 2))
noncomputable def b__law_within : DL.Env → R Fl :=
    (sSeq (sAsg (dUn fLstOf (dVar 1)) (gF 2))
    (sSeq (sFor (sIt (dVar 0)) (gS 3)
    k__law_within_1)
    (sRet (dVar 2))))
noncomputable def m__law_within : DL.Env → R D := fnM 2 4 [] b__law_within
theorem ok__law_within {o : Wo} {g : Gx} (C : Facts o g) : FnW o g 1 (g.fa "_law_within") 2 .S m__law_within := by
  obtain ⟨fd, F⟩ := C.d__law_within
  exact fn_ev (N := ["_law_numbers", "_law_lines", "_law_found", "_law_number"]) (ps := ["_law_numbers", "_law_lines"]) F ⟨by rfl, by rfl, by rfl, by decide, by rfl, by decide, by decide⟩ (fun _ _ _ _ _ _ us hl => match us, hl with | [_, _], _ => rfl) fun cdv A outer s H E F =>
    have ND : (["_law_numbers", "_law_lines", "_law_found", "_law_number"] : List Str).Nodup := by decide
    show EvSs _ _ _ _ _ _ b__law_within from
    (ss_cons (s_asg ((e_ty1 (c_list F.toFam) (fun _ => C.b_list) boot_list (e_var 1))).toD (g_nameF 2 (fun _ => ND)))
    (ss_cons (s_for passes_fn (F).calm (i_it F.toFam (e_var 0)) (g_nameS 3 (fun _ => ND))
    (ss_one (s_asg ((e_op (x_add F.toFam) ((e_op (x_add F.toFam) ((e_lst (a_cons ((e_op (x_add F.toFam) e_str (e_ty1 c_str (fun _ => C.b_str) boot_str (e_bn (c_min F) (fun _ => C.b_min) boot_min (a_cons e_int (a_cons (e_var 3) a_nil)))))).faT a_nil))).faT (e_var 2))).faT ((e_lst (a_cons e_str a_nil))).faT)).toD (g_nameF 2 (fun _ => ND)))))
    (ss_one (s_ret (e_var 2)))))
noncomputable def k__law_many_1 : DL.Env → R Fl :=
    (sAsg (dOp fMul (dVar 1) (dN fMin (dCons (dC (.int 20)) (dCons (dVar 2) dNil)))) (gF 1))
noncomputable def b__law_many : DL.Env → R Fl :=
    (sSeq (sAsg (dC (.int 1)) (gS 1))
    (sSeq (sFor (sIt (dVar 0)) (gS 2)
    k__law_many_1)
    (sRet (dVar 1))))
noncomputable def m__law_many : DL.Env → R D := fnM 1 3 [] b__law_many
theorem ok__law_many {o : Wo} {g : Gx} (C : Facts o g) : FnW o g 1 (g.fa "_law_many") 1 .S m__law_many := by
  obtain ⟨fd, F⟩ := C.d__law_many
  exact fn_ev (N := ["_law_numbers", "_law_found", "_law_number"]) (ps := ["_law_numbers"]) F ⟨by rfl, by rfl, by rfl, by decide, by rfl, by decide, by decide⟩ (fun _ _ _ _ _ _ us hl => match us, hl with | [_], _ => rfl) fun cdv A outer s H E F =>
    have ND : (["_law_numbers", "_law_found", "_law_number"] : List Str).Nodup := by decide
    show EvSs _ _ _ _ _ _ b__law_many from
    (ss_cons (s_asg (e_int).sD (g_nameS 1 (fun _ => ND)))
    (ss_cons (s_for passes_fn (F).calm (i_it F.toFam (e_var 0)) (g_nameS 2 (fun _ => ND))
    (ss_one (s_asg ((e_op (x_mul F.toFam) (e_var 1) (e_bn (c_min F) (fun _ => C.b_min) boot_min (a_cons e_int (a_cons (e_var 2) a_nil))))).toD (g_nameF 1 (fun _ => ND)))))
    (ss_one (s_ret (e_var 1)))))
noncomputable def b__law_told : DL.Env → R Fl :=
    (sSeq (sAsg (dC .non) (gS 3))
    (sSeq (sAsg (dC .non) (gS 4))
    (sSeq (sTry (sAsg (dCall0 m_run (dCons (dVar 0) (dCons (dVar 1) (dCons (dVar 2) dNil)))) (gS 3))
    ((ex_TooMany, some 5, (sAsg (dOp fIx (dFA (dLst (dCons (dC (.int 0)) (dCons (dErrF etab 5 n_limit) dNil)))) (dUn fInt (dErrI etab 5 ex_StallError))) (gS 4))) :: []))
    (sRet (dTup (dCons (dVar 3) (dCons (dVar 4) dNil)))))))
noncomputable def m__law_told : DL.Env → R D := fnM 3 6 [] b__law_told
theorem ok__law_told {o : Wo} {g : Gx} (C : Facts o g) : FnW o g 94 (g.fa "_law_told") 3 .S m__law_told := by
  obtain ⟨fd, F⟩ := C.d__law_told
  exact fn_ev (N := ["_law_web", "_law_purse", "_law_text", "_law_told_here", "_law_most", "e"]) (ps := ["_law_web", "_law_purse", "_law_text"]) F ⟨by rfl, by rfl, by rfl, by decide, by rfl, by decide, by decide⟩ (fun _ _ _ _ _ _ us hl => match us, hl with | [_, _, _], _ => rfl) fun cdv A outer s H E F =>
    have ND : (["_law_web", "_law_purse", "_law_text", "_law_told_here", "_law_most", "e"] : List Str).Nodup := by decide
    show EvSs _ _ _ _ _ _ b__law_told from
    (ss_cons (s_asg (e_non).sD (g_nameS 3 (fun _ => ND)))
    (ss_cons (s_asg (e_non).sD (g_nameS 4 (fun _ => ND)))
    (ss_cons (s_try F C.hg (fun _ => ND) (fun W1 => (ss_one (s_asg ((e_call0 (F.tr W1) (fun _ => (ok_run C).x) (fun _ => C.f_run) (a_cons (e_var 0) (a_cons (e_var 1) (a_cons (e_var 2) a_nil))))).sD (g_nameS 3 (fun _ => ND)))))
    (.as 5 (fun _ => rfl) (fun _ => rfl) (by decide) (fun _ => ⟨rfl, by decide, .inl C.c_TooMany⟩) C.em_TooMany (fun xa xc xd => (ss_one (s_asg ((e_ix (F.toFam.su xa xc xd) ((e_lst (a_cons e_int (a_cons (e_errF F.toFam C.eo 5) a_nil)))).faT (e_ty1 c_int (fun _ => C.b_int) boot_int (e_errI F.toFam C.eo 5 (fun _ => C.b_isinstance) (fun _ => pe_own C.c_StallError) (.own (g.cl n_StallError)) C.ki_StallError)))).sD (g_nameS 4 (fun _ => ND))))) .nil))
    (ss_one (s_ret (e_tup (a_cons (e_var 3) (a_cons (e_var 4) a_nil))))))))
noncomputable def b__law_is_counted : DL.Env → R Fl :=
    (sSeq (sIf (dOr (dTest (dOp fNeA (dOp fIx (dVar 2) (dC (.int 1))) (dTup (dCons (dTup (dCons (dOp fSub (dC (.int 5)) (dVar 1)) (dCons (dC (.int 1)) dNil))) (dCons (dCall0 m__law_sub (dCons (dTup (dCons (dC (.int 1)) (dCons (dC (.int 1)) dNil))) (dCons (dTup (dCons (dC (.int 1)) (dCons (dFA (dOp fAdd (dC (.int 1)) (dVar 1))) dNil))) dNil))) dNil))))) (dTest (dOp fNeA (dOp fIx (dVar 2) (dC (.int 2))) (dFA (dOp fMul (dFA (dLst (dCons (dTup (dCons (dC (.int 0)) (dCons (dC (.int 0)) (dCons (dTup (dCons (dC (.int 1)) (dCons (dC (.int 1)) dNil))) dNil)))) dNil))) (dVar 1))))))
    (sRet (dC (.bl false)))
    sNext)
    (sRet (dAndV (dOp fEqA (dFld tab n_stalls (dOp fIx (dVar 2) (dC (.int 0)))) (dTup (dCons (dTup (dCons (dC (.int 0)) (dCons (dC (.int 1)) (dCons (dTup (dCons (dFA (dOp fAdd (dC (.int 1)) (dVar 1))) (dCons (dC (.int 1)) dNil))) (dCons (dTup (dCons (dC (.int 1)) (dCons (dFA (dOp fAdd (dC (.int 1)) (dVar 1))) dNil))) (dCons (dTup (dCons (dC (.int 1)) (dCons (dC (.int 1)) dNil))) dNil)))))) dNil))) (dOp fEqA (dFld tab n_wares (dOp fIx (dVar 2) (dC (.int 0)))) (dC (.int 2))))))
noncomputable def m__law_is_counted : DL.Env → R D := fnM 3 3 [] b__law_is_counted
theorem ok__law_is_counted {o : Wo} {g : Gx} (C : Facts o g) : FnW o g 4 (g.fa "_law_is_counted") 3 .S m__law_is_counted := by
  obtain ⟨fd, F⟩ := C.d__law_is_counted
  exact fn_ev (N := ["_law_web", "_law_many_here", "_law_told_here"]) (ps := ["_law_web", "_law_many_here", "_law_told_here"]) F ⟨by rfl, by rfl, by rfl, by decide, by rfl, by decide, by decide⟩ (fun _ _ _ _ _ _ us hl => match us, hl with | [_, _, _], _ => rfl) fun cdv A outer s H E F =>
    have ND : (["_law_web", "_law_many_here", "_law_told_here"] : List Str).Nodup := by decide
    show EvSs _ _ _ _ _ _ b__law_is_counted from
    (ss_cons (s_if ((w_or (t_cmp (x_ne F.toFam) (e_ix F.toFam (e_var 2) e_int) (e_tup (a_cons (e_tup (a_cons (e_op x_sub e_int (e_var 1)) (a_cons e_int a_nil))) (a_cons (e_call0 F (fun _ => (ok__law_sub C).x) (fun _ => C.f__law_sub) (a_cons (e_tup (a_cons e_int (a_cons e_int a_nil))) (a_cons (e_tup (a_cons e_int (a_cons ((e_op (x_add F.toFam) e_int (e_var 1))).faT a_nil))) a_nil))) a_nil)))) (w_or1 (t_cmp (x_ne F.toFam) (e_ix F.toFam (e_var 2) e_int) ((e_op (x_mul F.toFam) ((e_lst (a_cons (e_tup (a_cons e_int (a_cons e_int (a_cons (e_tup (a_cons e_int (a_cons e_int a_nil))) a_nil)))) a_nil))).faT (e_var 1))).faT)))).t
    (ss_one (s_ret e_bl))
    ss_nil)
    (ss_one (s_ret (e_and (e_cmp (x_eq F.toFam) (e_fld F.toFam C.tb (e_ix F.toFam (e_var 2) e_int)) (e_tup (a_cons (e_tup (a_cons e_int (a_cons e_int (a_cons (e_tup (a_cons ((e_op (x_add F.toFam) e_int (e_var 1))).faT (a_cons e_int a_nil))) (a_cons (e_tup (a_cons e_int (a_cons ((e_op (x_add F.toFam) e_int (e_var 1))).faT a_nil))) (a_cons (e_tup (a_cons e_int (a_cons e_int a_nil))) a_nil)))))) a_nil))) (e_one (e_cmp (x_eq F.toFam) (e_fld F.toFam C.tb (e_ix F.toFam (e_var 2) e_int)) e_int))))))
noncomputable def k_law_1 : DL.Env → R Fl :=
    (sSeq (sAsg (dCall clsAll m__law_loops (pCons (pIo 1) (pCons (pE (dCall clsAll m__law_pick (pCons (pIo 1) (pCons (pE (dC (.int 5))) pNil)))) pNil))) (gS 5))
    (sSeq (sAsg (dCall clsAll m__law_loops (pCons (pIo 1) (pCons (pE (dCall clsAll m__law_pick (pCons (pIo 1) (pCons (pE (dC (.int 3))) pNil)))) pNil))) (gS 6))
    (sSeq (sAsg (dCall0 m__law_within (dCons (dVar 5) (dCons (dFA (dLst (dCons (dC (.str "put 1 0 0")) dNil))) dNil))) (gS 7))
    (sSeq (sAsg (dCall0 m__law_many (dCons (dVar 5) dNil)) (gS 8))
    (sSeq (sIf (dTest (dOp fEqA (dCall clsAll m__law_pick (pCons (pIo 1) (pCons (pE (dC (.int 2))) pNil))) (dC (.int 0))))
    (sSeq (sAsg (dOp fAdd (dVar 7) (dCall0 m__law_within (dCons (dVar 6) (dCons (dFA (dLst (dCons (dC (.str "put 1 0 0")) dNil))) dNil)))) (gF 7))
    (sAsg (dOp fAdd (dVar 8) (dCall0 m__law_many (dCons (dVar 6) dNil))) (gF 8)))
    sNext)
    (sSeq (sIf (dTest (dOp fEqA (dCall clsAll m__law_pick (pCons (pIo 1) (pCons (pE (dC (.int 3))) pNil))) (dC (.int 0))))
    (sAsg (dOp fAdd (dCall0 m__law_within (dCons (dFA (dLst (dCons (dCall clsAll m__law_pick (pCons (pIo 1) (pCons (pE (dC (.int 21))) pNil))) (dCons (dCall clsAll m__law_pick (pCons (pIo 1) (pCons (pE (dC (.int 21))) pNil))) dNil)))) (dCons (dFA (dLst dNil)) dNil))) (dVar 7)) (gF 7))
    sNext)
    (sSeq (sAsg (dCall0 m__law_told (dCons (dVar 2) (dCons (dVar 3) (dCons (dMtS fJoin (dC (.str "\n")) (dCons (dVar 7) dNil)) dNil)))) (gTupM (gsCons (gS 9) (gsCons (gS 10) gsNil))))
    (sSeq (sIf (dOr (dTest (dOp fNeA (dVar 10) (dOp fIx (dFA (dLst (dCons (dC .non) (dCons (dC (.int 200)) dNil)))) (dUn fInt (dOp fGt (dVar 8) (dC (.int 200))))))) (dTest (dOp fNeA (dOp fIsN (dVar 9) (dC .non)) (dOp fGt (dVar 8) (dC (.int 200))))))
    (sRet (dC (.bl false)))
    sNext)
    (sSeq (sIf (dAnd (dTest (dOp fNotN (dVar 9) (dC .non))) (dNot (dTest (dCall0 m__law_is_counted (dCons (dVar 2) (dCons (dVar 8) (dCons (dVar 9) dNil)))))))
    (sRet (dC (.bl false)))
    sNext)
    (sSeq (sAsg (dCall0 m__law_within (dCons (dFA (dLst (dCons (dC (.int 20)) (dCons (dCall clsAll m__law_pick (pCons (pIo 1) (pCons (pE (dC (.int 21))) pNil))) dNil)))) (dCons (dFA (dLst (dCons (dC (.str "all 1 0")) (dCons (dC (.str "half 1 0")) (dCons (dC (.str "to 0 1")) dNil))))) dNil))) (gS 11))
    (sIf (dNot (dTest (dCall0 m__law_is_counted (dCons (dVar 2) (dCons (dC (.int 0)) (dCons (dCall0 m_run (dCons (dVar 2) (dCons (dVar 3) (dCons (dMtS fJoin (dC (.str "\n")) (dCons (dVar 11) dNil)) dNil)))) dNil))))))
    (sRet (dC (.bl false)))
    sNext)))))))))))
noncomputable def b_law : DL.Env → R Fl :=
    (sSeq (sFz 1 (sAsg (dCall0 m__law_deck (dCons (dVar 0) dNil)) (gD 1)))
    (sSeq (sAsg (dMake0 n_Web m_Web___init__ (dCons (dC (.int 2)) (dCons (dFA (dLst (dCons (dTup (dCons (dC (.int 0)) (dCons (dC (.int 1)) (dCons (dTup (dCons (dC (.int 1)) (dCons (dC (.int 1)) dNil))) (dCons (dTup (dCons (dC (.int 1)) (dCons (dC (.int 1)) dNil))) (dCons (dTup (dCons (dC (.int 1)) (dCons (dC (.int 1)) dNil))) dNil)))))) dNil))) dNil))) (gF 2))
    (sSeq (sAsg (dTup (dCons (dTup (dCons (dC (.int 5)) (dCons (dC (.int 1)) dNil))) (dCons (dTup (dCons (dC (.int 0)) (dCons (dC (.int 1)) dNil))) dNil))) (gS 3))
    (sSeq (sFor (sRng1 (dCons (dC (.int 6)) dNil)) (gS 4)
    k_law_1)
    (sRet (dC (.bl true)))))))
noncomputable def m_law : DL.Env → R D := fnM 1 12 [] b_law
theorem ok_law {o : Wo} {g : Gx} (C : Facts o g) {fd : FuncData} (F : FunD g.K "law" "law" (defArgs (top 64)) (defBody (top 64)) (defScope (top 64)) [] [] (g.fa "law") fd) : FnOk o.P o.w g.K o.mg o.base (L2.CX o.P o.w) 95 (g.fa "law") fd ["_law_script"] (spM g 1 .S m_law) :=
  fn_evX (N := ["_law_script", "_law_deck_here", "_law_web", "_law_purse", "_law_turn", "_law_one", "_law_other", "_law_lines", "_law_many_here", "_law_told_here", "_law_most", "_law_idle"]) (ps := ["_law_script"]) F ⟨by rfl, by rfl, by rfl, by decide, by rfl, by decide, by decide⟩ fun cdv A outer s H E F =>
    have ND : (["_law_script", "_law_deck_here", "_law_web", "_law_purse", "_law_turn", "_law_one", "_law_other", "_law_lines", "_law_many_here", "_law_told_here", "_law_most", "_law_idle"] : List Str).Nodup := by decide
    show EvSs _ _ _ _ _ _ b_law from
    (ss_cons (EvS.fz 1 (s_asg (e_call0 F (fun _ => (ok__law_deck C).x) (fun _ => C.f__law_deck) (a_cons (e_var 0) a_nil)) (g_nameD 1 (fun _ => ND))))
    (ss_cons (s_asg (e_make0 (c := n_Web) F (fun _ => (ok_Web___init__ C).x) C.mk_Web (fun _ => C.c_Web) (a_cons e_int (a_cons ((e_lst (a_cons (e_tup (a_cons e_int (a_cons e_int (a_cons (e_tup (a_cons e_int (a_cons e_int a_nil))) (a_cons (e_tup (a_cons e_int (a_cons e_int a_nil))) (a_cons (e_tup (a_cons e_int (a_cons e_int a_nil))) a_nil)))))) a_nil))).faT a_nil))) (g_nameF 2 (fun _ => ND)))
    (ss_cons (s_asg ((e_tup (a_cons (e_tup (a_cons e_int (a_cons e_int a_nil))) (a_cons (e_tup (a_cons e_int (a_cons e_int a_nil))) a_nil)))).sD (g_nameS 3 (fun _ => ND)))
    (ss_cons (s_for passes_fn (F).calm (i_rng1 (fun _ => C.b_range) (a_cons e_int a_nil)) (g_nameS 4 (fun _ => ND))
    (ss_cons (s_asg ((e_call F C.ap (fun _ => (ok__law_loops C).x) (fun _ => C.f__law_loops) (p_cons (e_pIo 1) (p_cons (p_e (e_call F C.ap (fun _ => (ok__law_pick C).x) (fun _ => C.f__law_pick) (p_cons (e_pIo 1) (p_cons (p_e e_int) p_nil)))) p_nil)))).sD (g_nameS 5 (fun _ => ND)))
    (ss_cons (s_asg ((e_call F C.ap (fun _ => (ok__law_loops C).x) (fun _ => C.f__law_loops) (p_cons (e_pIo 1) (p_cons (p_e (e_call F C.ap (fun _ => (ok__law_pick C).x) (fun _ => C.f__law_pick) (p_cons (e_pIo 1) (p_cons (p_e e_int) p_nil)))) p_nil)))).sD (g_nameS 6 (fun _ => ND)))
    (ss_cons (s_asg ((e_call0 F (fun _ => (ok__law_within C).x) (fun _ => C.f__law_within) (a_cons (e_var 5) (a_cons ((e_lst (a_cons e_str a_nil))).faT a_nil)))).sD (g_nameS 7 (fun _ => ND)))
    (ss_cons (s_asg ((e_call0 F (fun _ => (ok__law_many C).x) (fun _ => C.f__law_many) (a_cons (e_var 5) a_nil))).sD (g_nameS 8 (fun _ => ND)))
    (ss_cons (s_if (t_cmp (x_eq F.toFam) (e_call F C.ap (fun _ => (ok__law_pick C).x) (fun _ => C.f__law_pick) (p_cons (e_pIo 1) (p_cons (p_e e_int) p_nil))) e_int)
    (ss_cons (s_asg ((e_op (x_add F.toFam) (e_var 7) (e_call0 F (fun _ => (ok__law_within C).x) (fun _ => C.f__law_within) (a_cons (e_var 6) (a_cons ((e_lst (a_cons e_str a_nil))).faT a_nil))))).toD (g_nameF 7 (fun _ => ND)))
    (ss_one (s_asg ((e_op (x_add F.toFam) (e_var 8) (e_call0 F (fun _ => (ok__law_many C).x) (fun _ => C.f__law_many) (a_cons (e_var 6) a_nil)))).toD (g_nameF 8 (fun _ => ND)))))
    ss_nil)
    (ss_cons (s_if (t_cmp (x_eq F.toFam) (e_call F C.ap (fun _ => (ok__law_pick C).x) (fun _ => C.f__law_pick) (p_cons (e_pIo 1) (p_cons (p_e e_int) p_nil))) e_int)
    (ss_one (s_asg ((e_op (x_add F.toFam) (e_call0 F (fun _ => (ok__law_within C).x) (fun _ => C.f__law_within) (a_cons ((e_lst (a_cons (e_call F C.ap (fun _ => (ok__law_pick C).x) (fun _ => C.f__law_pick) (p_cons (e_pIo 1) (p_cons (p_e e_int) p_nil))) (a_cons (e_call F C.ap (fun _ => (ok__law_pick C).x) (fun _ => C.f__law_pick) (p_cons (e_pIo 1) (p_cons (p_e e_int) p_nil))) a_nil)))).faT (a_cons ((e_lst a_nil)).faT a_nil))) (e_var 7))).toD (g_nameF 7 (fun _ => ND))))
    ss_nil)
    (ss_cons (s_asg ((e_call0 F (fun _ => (ok__law_told C).x) (fun _ => C.f__law_told) (a_cons (e_var 2) (a_cons (e_var 3) (a_cons (e_mtS F.toFam (m_join F.toFam) PySem.F.slot_str_join PySem.F.type_str_join e_str (a_cons (e_var 7) a_nil)) a_nil))))).sD (g_tup F.toFam (F).calm (gs_cons (g_nameS 9 (fun _ => ND)) (gs_cons (g_nameS 10 (fun _ => ND)) gs_nil))))
    (ss_cons (s_if ((w_or (t_cmp (x_ne F.toFam) (e_var 10) (e_ix F.toFam ((e_lst (a_cons e_non (a_cons e_int a_nil)))).faT (e_ty1 c_int (fun _ => C.b_int) boot_int (e_cmp x_gt (e_var 8) e_int)))) (w_or1 (t_cmp (x_ne F.toFam) (e_cmp x_is (e_var 9) e_non) (e_cmp x_gt (e_var 8) e_int))))).t
    (ss_one (s_ret e_bl))
    ss_nil)
    (ss_cons (s_if ((w_and (t_cmp x_isNot (e_var 9) e_non) (w_and1 (t_not (t_val (e_call0 F (fun _ => (ok__law_is_counted C).x) (fun _ => C.f__law_is_counted) (a_cons (e_var 2) (a_cons (e_var 8) (a_cons (e_var 9) a_nil))))))))).t
    (ss_one (s_ret e_bl))
    ss_nil)
    (ss_cons (s_asg ((e_call0 F (fun _ => (ok__law_within C).x) (fun _ => C.f__law_within) (a_cons ((e_lst (a_cons e_int (a_cons (e_call F C.ap (fun _ => (ok__law_pick C).x) (fun _ => C.f__law_pick) (p_cons (e_pIo 1) (p_cons (p_e e_int) p_nil))) a_nil)))).faT (a_cons ((e_lst (a_cons e_str (a_cons e_str (a_cons e_str a_nil))))).faT a_nil)))).sD (g_nameS 11 (fun _ => ND)))
    (ss_one (s_if (t_not (t_val (e_call0 F (fun _ => (ok__law_is_counted C).x) (fun _ => C.f__law_is_counted) (a_cons (e_var 2) (a_cons e_int (a_cons (e_call0 F (fun _ => (ok_run C).x) (fun _ => C.f_run) (a_cons (e_var 2) (a_cons (e_var 3) (a_cons (e_mtS F.toFam (m_join F.toFam) PySem.F.slot_str_join PySem.F.type_str_join e_str (a_cons (e_var 11) a_nil)) a_nil)))) a_nil))))))
    (ss_one (s_ret e_bl))
    ss_nil)))))))))))))
    (ss_one (s_ret e_bl))))))
end G
/-! X1 -/
set_option Elab.async false
set_option linter.all false
set_option maxRecDepth 100000
set_option maxHeartbeats 1000000
namespace G
open PySem PySem.Spec PyProof.Rows L2 DL
/-- the sizes of numbers -/
def lg (n : Int) : Nat := n.natAbs.log2
def Sz (k : Nat) (q : Rat) : Prop := q.num.natAbs < 2 ^ k ∧ q.den < 2 ^ k
def exO (o : Bool) (q : Rat) : D := .ins o n_Exact [n_top, n_bottom] [.int q.num, .int q.den]
abbrev exD (q : Rat) : D := exO false q
def frD (q : Rat) : D := .tup [.int q.num, .int q.den]
@[simp] theorem noOwn_exD (q) : noOwn (exO false q) = true := by unfold exO; simp
@[simp] theorem frz_exO (o q) : frzAll (exO o q) = exO false q := by unfold exO; simp
@[simp] theorem noOwn_frD (q) : noOwn (frD q) = true := by unfold frD; simp
@[simp] theorem frz_frD (q) : frzAll (frD q) = frD q := by unfold frD; simp
@[simp] theorem fld_top (q) : fFld tab n_top (exO false q) = .ok (.int q.num) := by exact (rfl)
@[simp] theorem fld_bottom (q) : fFld tab n_bottom (exO false q) = .ok (.int q.den) := by exact (rfl)
theorem mulOk_of {i j : Int} {m n : Nat} (hi : i.natAbs < 2 ^ m) (hj : j.natAbs < 2 ^ n) (h : m + n ≤ 900000) : mulOk i j = true := by
  unfold mulOk
  rw [Bool.or_eq_true]
  right
  apply decide_eq_true
  have l1 : i.natAbs.log2 < m + 1 := by
    by_cases z : i.natAbs = 0
    · rw [z]; simp
    · exact Nat.lt_succ_of_lt ((Nat.log2_lt z).mpr hi)
  have l2 : j.natAbs.log2 < n + 1 := by
    by_cases z : j.natAbs = 0
    · rw [z]; simp
    · exact Nat.lt_succ_of_lt ((Nat.log2_lt z).mpr hj)
  omega
def lim : Nat := 2 ^ 9000
theorem divOk_of {i j : Int} (hj : 0 < j) (h : j.natAbs < lim) : divOk i j = true := by
  unfold divOk
  rw [Bool.and_eq_true, decide_eq_true hj, PyProof.noPylong_of_log2 ((Nat.log2_lt (by omega)).mpr h)]
  exact ⟨rfl, rfl⟩
/-! common -/
theorem while_common : ∀ (n : Nat) (a b : Nat), b ≤ n → sWhile (dTest (dOp fGt (dVar 1) (dC (.int 0)))) k_common_1 [some (.sh (.int a)), some (.sh (.int b))] = .ok .nx [some (.sh (.int (Nat.gcd a b : Nat))), some (.sh (.int 0))]
  | n, a, 0, _ => by
    rw [sWhile_eq]
    simp
  | 0, a, b + 1, h => by omega
  | n + 1, a, b + 1, h => by
    have ih := while_common n (b + 1) (a % (b + 1)) (by have := Nat.mod_lt a (show 0 < b + 1 by omega); omega)
    rw [sWhile_eq]
    have e : ((a : Int) % ((b + 1 : Nat) : Int)) = ((a % (b + 1) : Nat) : Int) := (rfl)
    have g : Nat.gcd a (b + 1) = Nat.gcd (b + 1) (a % (b + 1)) := by
      rw [Nat.gcd_comm, Nat.gcd_rec, Nat.gcd_comm]
    have h0 : (0 : Int) < ((b + 1 : Nat) : Int) := by omega
    simp only [k_common_1, dTest_e, dOp_e, dVar_e, dC_e, List.getElem?_cons_succ, List.getElem?_cons_zero, R.bind_okE, fGt_int, P.at_okE, tst_bl, decide_eq_true h0, if_pos, sPar_e, dCons_e, dNil_e, fModI_int _ _ h0, prK_e, e]
    rw [gS_ok (by rfl) (by show 0 < 2; omega)]
    simp only [List.set_cons_zero, Option.bind_some]
    rw [gS_ok (by rfl) (by show 1 < 2; omega)]
    simp only [List.set_cons_zero, List.set_cons_succ, asK_some, R.bind_okE, aftB_nx]
    unfold k_common_1 at ih
    rw [ih, g]
theorem v_common (a b : Int) : m_common [some (.sh (.int a)), some (.sh (.int b))] = .ok (.int (Int.gcd a b : Nat)) [none, none] := by
  have ha : (if a < 0 then -a else a) = (a.natAbs : Int) := by split <;> omega
  have hb : (if b < 0 then -b else b) = (b.natAbs : Int) := by split <;> omega
  have w := while_common b.natAbs a.natAbs b.natAbs (Nat.le_refl _)
  simp [m_common, b_common, fnM_e, ha, hb, gS_ok, w, Int.gcd]
end G
/-! X2 -/
set_option Elab.async false
set_option linter.all false
set_option maxRecDepth 100000
set_option maxHeartbeats 1000000
namespace G
open PySem PySem.Spec PyProof.Rows L2 DL
theorem num_divInt {t b : Int} (hb : 0 < b) : (Rat.divInt t b).num = t / (Int.gcd t b : Int) := by
  rw [Rat.num_divInt, Int.sign_eq_one_of_pos hb, Int.one_mul, Int.gcd_comm]
theorem den_divInt {t b : Int} (hb : 0 < b) : ((Rat.divInt t b).den : Int) = b / (Int.gcd t b : Int) := by
  rw [Rat.den_divInt, if_neg (by omega), Int.gcd_comm]
  rw [Int.natCast_ediv]
  congr 1
  omega
theorem divInt_neg' {t b : Int} : Rat.divInt (-t) (-b) = Rat.divInt t b := by
  exact Rat.neg_divInt_neg t b
theorem set_top (x : D) : setFld tab n_top (.ins true n_Exact [] []) x = some (.ins true n_Exact [n_top] [x]) := by rfl
theorem set_bottom (x y : D) : setFld tab n_bottom (.ins true n_Exact [n_top] [x]) y = some (.ins true n_Exact [n_top, n_bottom] [x, y]) := by rfl
theorem init_pos {t b : Int} (hb : 0 < b) (hg : Int.gcd t b < lim) : m_Exact___init__ [some (.dp (.ins true n_Exact [] [])), some (.sh (.int t)), some (.sh (.int b))] = .ok .non [some (.dp (exO true (Rat.divInt t b))), none, none] := by
  have g0 : (0 : Int) < (Int.gcd t b : Int) := by
    have := Int.gcd_pos_of_ne_zero_right t (show b ≠ 0 by omega)
    omega
  have d1 := fDiv_int t (Int.gcd t b : Int) (divOk_of g0 (by simpa using hg))
  have d2 := fDiv_int b (Int.gcd t b : Int) (divOk_of g0 (by simpa using hg))
  simp [m_Exact___init__, b_Exact___init__, fnM_e, show ¬ b < 0 by omega, v_common, d1, d2, setAtM, rowDat, isOwn, set_top, set_bottom, exO, num_divInt hb, den_divInt hb]
theorem init_neg {t b : Int} (hb : b < 0) (hg : Int.gcd t b < lim) : m_Exact___init__ [some (.dp (.ins true n_Exact [] [])), some (.sh (.int t)), some (.sh (.int b))] = .ok .non [some (.dp (exO true (Rat.divInt t b))), none, none] := by
  have g0 : (0 : Int) < (Int.gcd t b : Int) := by
    have := Int.gcd_pos_of_ne_zero_right t (show b ≠ 0 by omega)
    omega
  have d1 := fDiv_int (-t) (Int.gcd t b : Int) (divOk_of g0 (by simpa using hg))
  have d2 := fDiv_int (-b) (Int.gcd t b : Int) (divOk_of g0 (by simpa using hg))
  have hb' : 0 < -b := by omega
  have n1 := num_divInt (t := -t) hb'
  have n2 := den_divInt (t := -t) hb'
  rw [divInt_neg', Int.gcd_neg, Int.neg_gcd] at n1 n2
  simp [m_Exact___init__, b_Exact___init__, fnM_e, hb, v_common, d1, d2, setAtM, rowDat, isOwn, set_top, set_bottom, exO, n1, n2]
theorem v_init {t b : Int} (hb : b ≠ 0) (hg : Int.gcd t b < lim) : m_Exact___init__ [some (.dp (.ins true n_Exact [] [])), some (.sh (.int t)), some (.sh (.int b))] = .ok .non [some (.dp (exO true (Rat.divInt t b))), none, none] := by
  rcases Int.lt_or_gt_of_ne hb with h | h
  · exact init_neg h hg
  · exact init_pos h hg
theorem gcd_small {t b : Int} {k : Nat} (hb : b ≠ 0) (h : b.natAbs < 2 ^ k) (hk : k ≤ 9000) : Int.gcd t b < lim := by
  have h1 : Int.gcd t b ≤ b.natAbs := Nat.le_of_dvd (by omega) (Int.natAbs_dvd_natAbs.mpr (Int.gcd_dvd_right t b))
  exact Nat.lt_of_lt_of_le (Nat.lt_of_le_of_lt h1 h) (Nat.pow_le_pow_right (by decide) hk)
/-! numbers -/
theorem mul_lt {a b m n : Nat} (ha : a < 2 ^ m) (hb : b < 2 ^ n) : a * b < 2 ^ (m + n) := by
  rw [Nat.pow_add]
  exact Nat.mul_lt_mul'' ha hb
theorem den_ne (q : Rat) : (q.den : Int) ≠ 0 := by have := q.den_nz; omega
section
variable {p q : Rat} {m n : Nat}
theorem Sz.mono {k l : Nat} (h : Sz k q) (hl : k ≤ l) : Sz l q := ⟨Nat.lt_of_lt_of_le h.1 (Nat.pow_le_pow_right (by decide) hl), Nat.lt_of_lt_of_le h.2 (Nat.pow_le_pow_right (by decide) hl)⟩
theorem divInt_sz {t b : Int} {k : Nat} (hb : b ≠ 0) (h1 : t.natAbs < 2 ^ k) (h2 : b.natAbs < 2 ^ k) : Sz k (Rat.divInt t b) := by
  have g0 : 0 < Int.gcd b t := Int.gcd_pos_of_ne_zero_left t hb
  constructor
  · rw [Rat.num_divInt]
    refine Nat.lt_of_le_of_lt ?_ h1
    have e : (b.sign * t / (Int.gcd b t : Int)).natAbs ≤ (b.sign * t).natAbs := by
      rw [Int.natAbs_ediv_of_dvd (Int.dvd_mul_of_dvd_right (Int.gcd_dvd_right b t))]
      exact Nat.div_le_self _ _
    refine Nat.le_trans e ?_
    rw [Int.natAbs_mul]
    have : b.sign.natAbs ≤ 1 := by
      rw [Int.natAbs_sign]; split <;> omega
    calc b.sign.natAbs * t.natAbs ≤ 1 * t.natAbs := Nat.mul_le_mul_right _ this
      _ = t.natAbs := Nat.one_mul _
  · rw [Rat.den_divInt, if_neg hb]
    exact Nat.lt_of_le_of_lt (Nat.div_le_self _ _) h2
theorem add_lt2 {a b k : Nat} (ha : a < 2 ^ k) (hb : b < 2 ^ k) : a + b < 2 ^ (k + 1) := by
  rw [Nat.pow_succ]; omega
theorem add_divInt (p q : Rat) : Rat.divInt (p.num * q.den + q.num * p.den) (p.den * q.den) = p + q := by
  rw [← Rat.divInt_add_divInt _ _ (den_ne p) (den_ne q), Rat.num_divInt_den, Rat.num_divInt_den]
theorem sub_divInt (p q : Rat) : Rat.divInt (p.num * q.den - q.num * p.den) (p.den * q.den) = p - q := by
  rw [← Rat.divInt_sub_divInt _ _ (den_ne p) (den_ne q), Rat.num_divInt_den, Rat.num_divInt_den]
theorem mul_divInt (p q : Rat) : Rat.divInt (p.num * q.num) (p.den * q.den) = p * q := by
  rw [← Rat.divInt_mul_divInt _ _, Rat.num_divInt_den, Rat.num_divInt_den]
theorem div_divInt (p q : Rat) : Rat.divInt (p.num * q.den) (p.den * q.num) = p / q := by
  rw [Rat.div_def, Rat.inv_def, ← Rat.divInt_mul_divInt, Rat.num_divInt_den]
theorem Sz.add (hp : Sz m p) (hq : Sz n q) : Sz (m + n + 1) (p + q) := by
  rw [← add_divInt]
  refine divInt_sz (Int.mul_ne_zero (den_ne p) (den_ne q)) ?_ ?_
  · refine Nat.lt_of_le_of_lt (Int.natAbs_add_le _ _) (add_lt2 ?_ ?_)
    · rw [Int.natAbs_mul]; simpa using mul_lt hp.1 hq.2
    · rw [Int.natAbs_mul]; have := mul_lt hq.1 hp.2; rw [Nat.add_comm n m] at this; simpa using this
  · rw [Int.natAbs_mul]
    exact Nat.lt_of_lt_of_le (by simpa using mul_lt hp.2 hq.2) (Nat.pow_le_pow_right (by decide) (Nat.le_succ _))
theorem Sz.sub (hp : Sz m p) (hq : Sz n q) : Sz (m + n + 1) (p - q) := by
  rw [← sub_divInt]
  refine divInt_sz (Int.mul_ne_zero (den_ne p) (den_ne q)) ?_ ?_
  · refine Nat.lt_of_le_of_lt (Int.natAbs_sub_le _ _) (add_lt2 ?_ ?_)
    · rw [Int.natAbs_mul]; simpa using mul_lt hp.1 hq.2
    · rw [Int.natAbs_mul]; have := mul_lt hq.1 hp.2; rw [Nat.add_comm n m] at this; simpa using this
  · rw [Int.natAbs_mul]
    exact Nat.lt_of_lt_of_le (by simpa using mul_lt hp.2 hq.2) (Nat.pow_le_pow_right (by decide) (Nat.le_succ _))
theorem Sz.mul (hp : Sz m p) (hq : Sz n q) : Sz (m + n) (p * q) := by
  rw [← mul_divInt]
  refine divInt_sz (Int.mul_ne_zero (den_ne p) (den_ne q)) ?_ ?_ <;> rw [Int.natAbs_mul]
  · exact mul_lt hp.1 hq.1
  · simpa using mul_lt hp.2 hq.2
theorem num_ne (h : q ≠ 0) : q.num ≠ 0 := fun z => h (Rat.num_eq_zero.mp z)
theorem Sz.div (hp : Sz m p) (hq : Sz n q) (h0 : q ≠ 0) : Sz (m + n) (p / q) := by
  rw [← div_divInt]
  refine divInt_sz (Int.mul_ne_zero (den_ne p) (num_ne h0)) ?_ ?_ <;> rw [Int.natAbs_mul]
  · simpa using mul_lt hp.1 hq.2
  · simpa using mul_lt hp.2 hq.1
theorem v_add (hp : Sz m p) (hq : Sz n q) (h : m + n ≤ 9000) : m_Exact___add__ [some (.sh (exD p)), some (.sh (exD q))] = .ok (exD (p + q)) [none, none] := by
  have m1 := fMul_int p.num q.den (mulOk_of hp.1 (by simpa using hq.2) (by omega))
  have m2 := fMul_int q.num p.den (mulOk_of hq.1 (by simpa using hp.2) (by omega))
  have m3 := fMul_int p.den q.den (mulOk_of (by simpa using hp.2) (by simpa using hq.2) (by omega))
  have d0 : (p.den : Int) * q.den ≠ 0 := Int.mul_ne_zero (den_ne p) (den_ne q)
  have ini := v_init (t := p.num * q.den + q.num * p.den) d0 (gcd_small d0 (k := m + n) (by rw [Int.natAbs_mul]; simpa using mul_lt hp.2 hq.2) h)
  rw [add_divInt] at ini
  simp [m_Exact___add__, b_Exact___add__, fnM_e, m1, m2, m3, ini]
theorem v_sub (hp : Sz m p) (hq : Sz n q) (h : m + n ≤ 9000) : m_Exact___sub__ [some (.sh (exD p)), some (.sh (exD q))] = .ok (exD (p - q)) [none, none] := by
  have m1 := fMul_int p.num q.den (mulOk_of hp.1 (by simpa using hq.2) (by omega))
  have m2 := fMul_int q.num p.den (mulOk_of hq.1 (by simpa using hp.2) (by omega))
  have m3 := fMul_int p.den q.den (mulOk_of (by simpa using hp.2) (by simpa using hq.2) (by omega))
  have d0 : (p.den : Int) * q.den ≠ 0 := Int.mul_ne_zero (den_ne p) (den_ne q)
  have ini := v_init (t := p.num * q.den - q.num * p.den) d0 (gcd_small d0 (k := m + n) (by rw [Int.natAbs_mul]; simpa using mul_lt hp.2 hq.2) h)
  rw [sub_divInt] at ini
  simp [m_Exact___sub__, b_Exact___sub__, fnM_e, m1, m2, m3, ini]
theorem v_mul (hp : Sz m p) (hq : Sz n q) (h : m + n ≤ 9000) : m_Exact___mul__ [some (.sh (exD p)), some (.sh (exD q))] = .ok (exD (p * q)) [none, none] := by
  have m1 := fMul_int p.num q.num (mulOk_of hp.1 hq.1 (by omega))
  have m3 := fMul_int p.den q.den (mulOk_of (by simpa using hp.2) (by simpa using hq.2) (by omega))
  have d0 : (p.den : Int) * q.den ≠ 0 := Int.mul_ne_zero (den_ne p) (den_ne q)
  have ini := v_init (t := p.num * q.num) d0 (gcd_small d0 (k := m + n) (by rw [Int.natAbs_mul]; simpa using mul_lt hp.2 hq.2) h)
  rw [mul_divInt] at ini
  simp [m_Exact___mul__, b_Exact___mul__, fnM_e, m1, m3, ini]
theorem v_over (hp : Sz m p) (hq : Sz n q) (h : m + n ≤ 9000) (h0 : q ≠ 0) : m_Exact_over [some (.sh (exD p)), some (.sh (exD q))] = .ok (exD (p / q)) [none, none] := by
  have m1 := fMul_int p.num q.den (mulOk_of hp.1 (by simpa using hq.2) (by omega))
  have m3 := fMul_int p.den q.num (mulOk_of (by simpa using hp.2) hq.1 (by omega))
  have d0 : (p.den : Int) * q.num ≠ 0 := Int.mul_ne_zero (den_ne p) (num_ne h0)
  have ini := v_init (t := p.num * q.den) d0 (gcd_small d0 (k := m + n) (by rw [Int.natAbs_mul]; simpa using mul_lt hp.2 hq.1) h)
  rw [div_divInt] at ini
  simp [m_Exact_over, b_Exact_over, fnM_e, m1, m3, ini]
theorem v_square (hp : Sz m p) (h : m + m ≤ 9000) : m_Exact_square [some (.sh (exD p))] = .ok (exD (p * p)) [none] := by
  have m1 := fMul_int p.num p.num (mulOk_of hp.1 hp.1 (by omega))
  have m3 := fMul_int p.den p.den (mulOk_of (by simpa using hp.2) (by simpa using hp.2) (by omega))
  have d0 : (p.den : Int) * p.den ≠ 0 := Int.mul_ne_zero (den_ne p) (den_ne p)
  have ini := v_init (t := p.num * p.num) d0 (gcd_small d0 (k := m + m) (by rw [Int.natAbs_mul]; simpa using mul_lt hp.2 hp.2) h)
  rw [mul_divInt] at ini
  simp [m_Exact_square, b_Exact_square, fnM_e, m1, m3, ini]
theorem v_pair : m_Exact_pair [some (.sh (exD q))] = .ok (frD q) [none] := by
  simp [m_Exact_pair, b_Exact_pair, fnM_e, frD]
theorem v_exact : m_exact [some (.sh (frD q))] = .ok (exD q) [none] := by
  have ini := v_init (t := q.num) (den_ne q) (by
    have : Int.gcd q.num q.den = 1 := q.reduced
    rw [this]
    exact Nat.one_lt_two_pow (by decide))
  rw [Rat.num_divInt_den] at ini
  simp [m_exact, b_exact, fnM_e, frD, ini]
theorem v_is_less (hp : Sz m p) (hq : Sz n q) (h : m + n ≤ 9000) : m_Exact_is_less [some (.sh (exD p)), some (.sh (exD q))] = .ok (.bl (decide (p < q))) [none, none] := by
  have m1 := fMul_int p.num q.den (mulOk_of hp.1 (by simpa using hq.2) (by omega))
  have m2 := fMul_int q.num p.den (mulOk_of hq.1 (by simpa using hp.2) (by omega))
  simp [m_Exact_is_less, b_Exact_is_less, fnM_e, m1, m2, Rat.lt_iff]
theorem num_pos : 0 < q ↔ 0 < q.num := by rw [Rat.lt_iff]; simp
theorem num_neg : q < 0 ↔ q.num < 0 := by rw [Rat.lt_iff]; simp
def sgn (q : Rat) : Int := if 0 < q then 1 else if q < 0 then -1 else 0
theorem v_sign : m_Exact_sign [some (.sh (exD q))] = .ok (.int (sgn q)) [none] := by
  simp [m_Exact_sign, b_Exact_sign, fnM_e]
  unfold sgn
  simp only [num_pos, num_neg]
  by_cases h1 : 0 < q.num
  · simp [h1, show ¬ q.num < 0 by omega]
  · by_cases h2 : q.num < 0 <;> simp [h1, h2]
theorem rat_eq : p = q ↔ p.num = q.num ∧ p.den = q.den := by
  constructor
  · intro h; rw [h]; exact ⟨rfl, rfl⟩
  · intro h; exact Rat.ext h.1 h.2
theorem v_eq : m_Exact___eq__ [some (.sh (exD p)), some (.sh (exD q))] = .ok (.bl (decide (p = q))) [none, none] := by
  have h1 : isiK tg_Exact (exD q) = R.ok (.bl true) := by rfl
  simp [m_Exact___eq__, b_Exact___eq__, fnM_e, h1, rat_eq]
  by_cases h : p.num = q.num <;> simp [h]
  omega
end
end G
/-! X3 -/
set_option Elab.async false
set_option linter.all false
set_option maxRecDepth 100000
set_option maxHeartbeats 1000000
namespace G
open PySem PySem.Spec PyProof.Rows L2 DL
mutual
def thing : D → Bool
  | .fn _ => false
  | .err _ _ => false
  | .ins o c _ xs => (!o && noOwnL xs) && decide (c ∈ clsAll)
  | .tup ds => thingL ds
  | .lst o ds => !o && thingL ds
  | .non => true
  | .bl _ => true
  | .int _ => true
  | .str _ => true
  | .scr _ => true
  | .dic o _ xs => !o && noOwnL xs
def thingL : List D → Bool
  | [] => true
  | d :: ds => thing d && thingL ds
end
@[simp] theorem thingL_nil : thingL [] = true := by simp only [thingL]
@[simp] theorem thingL_cons (d ds) : thingL (d :: ds) = (thing d && thingL ds) := by simp only [thingL]
@[simp] theorem thing_tup (ds) : thing (.tup ds) = thingL ds := by simp only [thing]
@[simp] theorem thing_lst (o ds) : thing (.lst o ds) = (!o && thingL ds) := by simp only [thing]
@[simp] theorem thing_int (i) : thing (.int i) = true := by simp only [thing]
@[simp] theorem thing_ins (o c fs xs) : thing (.ins o c fs xs) = ((!o && noOwnL xs) && decide (c ∈ clsAll)) := by simp only [thing]
theorem thingL_all : ∀ {ds : List D}, thingL ds = ds.all thing
  | [] => by simp
  | d :: ds => by rw [thingL_cons, List.all_cons, thingL_all]
mutual
theorem thing_own : ∀ {d : D}, thing d = true → noOwn d = true
  | .non, _ => by simp
  | .bl _, _ => by simp
  | .int _, _ => by simp
  | .str _, _ => by simp
  | .fn _, _ => by simp
  | .scr _, _ => by simp
  | .err _ _, _ => by simp
  | .tup ds, h => by rw [thing_tup] at h; rw [noOwn_tup]; exact thingL_own h
  | .lst o ds, h => by rw [thing_lst, Bool.and_eq_true] at h; rw [noOwn_lst, thingL_own h.2, h.1]; rfl
  | .dic o ks ds, h => by simp only [thing] at h; rw [noOwn_dic]; exact h
  | .ins o c fs ds, h => by rw [thing_ins, Bool.and_eq_true] at h; rw [noOwn_ins]; exact h.1
theorem thingL_own : ∀ {ds : List D}, thingL ds = true → noOwnL ds = true
  | [], _ => by simp
  | d :: ds, h => by
    rw [thingL_cons, Bool.and_eq_true] at h
    rw [noOwnL_cons, thing_own h.1, thingL_own h.2]; rfl
end
theorem isInt_k {d : D} (h : thing d = true) (ρ) : isiK tg_int d ρ = .ok (.bl (match d with | .int _ => true | .bl _ => true | _ => false)) ρ := by
  cases d with
  | fn x => simp [thing] at h
  | err c xs => simp [thing] at h
  | ins o c fs xs =>
    rw [thing_ins, Bool.and_eq_true] at h
    have h := of_decide_eq_true h.2
    show (match (if c ∈ clsAll then some (false) else none) with | some b => R.ok (D.bl b) ρ | none => .stk) = _
    rw [if_pos h]
  | _ => rfl
theorem isBool_k {d : D} (h : thing d = true) (ρ) : isiK tg_bool d ρ = .ok (.bl (match d with | .bl _ => true | _ => false)) ρ := by
  cases d with
  | fn x => simp [thing] at h
  | err c xs => simp [thing] at h
  | ins o c fs xs =>
    rw [thing_ins, Bool.and_eq_true] at h
    have h := of_decide_eq_true h.2
    show (match (if c ∈ clsAll then some (false) else none) with | some b => R.ok (D.bl b) ρ | none => .stk) = _
    rw [if_pos h]
  | _ => rfl
theorem isTup_k {d : D} (h : thing d = true) (ρ) : isiK tg_tuple d ρ = .ok (.bl (match d with | .tup _ => true | _ => false)) ρ := by
  cases d with
  | fn x => simp [thing] at h
  | err c xs => simp [thing] at h
  | ins o c fs xs =>
    rw [thing_ins, Bool.and_eq_true] at h
    have h := of_decide_eq_true h.2
    show (match (if c ∈ clsAll then some (false) else none) with | some b => R.ok (D.bl b) ρ | none => .stk) = _
    rw [if_pos h]
  | _ => rfl
theorem isRow_k {d : D} (h : thing d = true) (ρ) : isiK tg_list_tuple d ρ = .ok (.bl (match d with | .tup _ => true | .lst _ _ => true | .scr _ => true | _ => false)) ρ := by
  cases d with
  | fn x => simp [thing] at h
  | err c xs => simp [thing] at h
  | ins o c fs xs =>
    rw [thing_ins, Bool.and_eq_true] at h
    have h := of_decide_eq_true h.2
    show (match (if c ∈ clsAll then some (false) else none) with | some b => R.ok (D.bl b) ρ | none => .stk) = _
    rw [if_pos h]
  | _ => rfl
@[simp] theorem isInt_int (i : Int) (ρ) : isiK tg_int (.int i) ρ = .ok (.bl true) ρ := (rfl)
@[simp] theorem isBool_int (i : Int) (ρ) : isiK tg_bool (.int i) ρ = .ok (.bl false) ρ := (rfl)
@[simp] theorem isTup_tup (ds) (ρ) : isiK tg_tuple (.tup ds) ρ = .ok (.bl true) ρ := (rfl)
@[simp] theorem isRow_tup (ds) (ρ) : isiK tg_list_tuple (.tup ds) ρ = .ok (.bl true) ρ := (rfl)
@[simp] theorem isRow_lst (o ds) (ρ) : isiK tg_list_tuple (.lst o ds) ρ = .ok (.bl true) ρ := (rfl)
/-! judging -/
theorem v_is_integer {d : D} (h : thing d = true) : m_is_integer [some (.sh d)] = .ok (.bl (DL.isInt d)) [none] := by
  simp [m_is_integer, b_is_integer, fnM_e, isInt_k h, isBool_k h]
  cases d <;> simp [DL.isInt]
def isFrac : D → Bool
  | .tup [.int t, .int b] => decide (0 < b) && decide (Int.gcd t b = 1)
  | _ => false
theorem isFrac_iff {d : D} : isFrac d = true ↔ ∃ q : Rat, d = frD q := by
  constructor
  · intro h
    unfold isFrac at h
    split at h
    · rename_i t b
      rw [Bool.and_eq_true] at h
      have h1 := of_decide_eq_true h.1
      have h2 := of_decide_eq_true h.2
      refine ⟨⟨t, b.toNat, by omega, ?_⟩, ?_⟩
      · have : b.toNat = b.natAbs := by omega
        rw [this]; exact h2
      · unfold frD
        simp
        omega
    · cases h
  · rintro ⟨q, rfl⟩
    unfold frD isFrac
    rw [Bool.and_eq_true]
    exact ⟨decide_eq_true (by have := q.den_nz; omega), decide_eq_true q.reduced⟩
theorem isFrac_fr (q : Rat) : isFrac (frD q) = true := isFrac_iff.mpr ⟨q, rfl⟩
theorem v_is_fraction {d : D} (h : thing d = true) : m_is_fraction [some (.sh d)] = .ok (.bl (isFrac d)) [none] := by
  by_cases ht : ∃ ds, d = .tup ds
  · obtain ⟨ds, rfl⟩ := ht
    match ds, h with
    | [], h => simp [m_is_fraction, b_is_fraction, fnM_e, isFrac]
    | [x], h => simp [m_is_fraction, b_is_fraction, fnM_e, isFrac]
    | x :: y :: z :: r, h =>
      have : ¬ ((r.length : Int) + 1 + 1 + 1 = 2) := by omega
      simp [m_is_fraction, b_is_fraction, fnM_e, isFrac, this]
    | [x, y], h =>
      simp at h
      have hx := v_is_integer h.1
      have hy := v_is_integer h.2
      by_cases ix : DL.isInt x = true
      · by_cases iy : DL.isInt y = true
        · cases x <;> simp [DL.isInt] at ix
          cases y <;> simp [DL.isInt] at iy
          rename_i t b
          simp [m_is_fraction, b_is_fraction, fnM_e, isFrac, hx, hy, DL.isInt, v_common]
          by_cases hb : 0 < b
          · simp [hb]; omega
          · simp [hb]
        · cases y <;> simp_all [m_is_fraction, b_is_fraction, fnM_e, isFrac, DL.isInt] 
      · cases x <;> simp_all [m_is_fraction, b_is_fraction, fnM_e, isFrac, DL.isInt]
  · simp [m_is_fraction, b_is_fraction, fnM_e, isTup_k h]
    cases d <;> simp_all [isFrac]
end G
/-! X4 -/
set_option Elab.async false
set_option linter.all false
set_option maxRecDepth 100000
set_option maxHeartbeats 1000000
namespace G
open PySem PySem.Spec PyProof.Rows L2 DL
def isAmt : D → Bool
  | .tup [.int t, .int b] => decide (0 < b) && decide (Int.gcd t b = 1) && decide (0 ≤ t)
  | _ => false
def isSome' : D → Bool
  | .tup [.int t, .int b] => decide (0 < b) && decide (Int.gcd t b = 1) && decide (0 < t)
  | _ => false
theorem isAmt_fr (q : Rat) : isAmt (frD q) = decide (0 ≤ q) := by
  have h := isFrac_fr q
  have h : (decide (0 < (q.den : Int)) && decide (Int.gcd q.num q.den = 1)) = true := h
  show (decide (0 < (q.den : Int)) && decide (Int.gcd q.num q.den = 1) && decide (0 ≤ q.num)) = _
  rw [h, Bool.true_and]
  simp only [Rat.num_nonneg]
theorem isSome_fr (q : Rat) : isSome' (frD q) = decide (0 < q) := by
  have h := isFrac_fr q
  have h : (decide (0 < (q.den : Int)) && decide (Int.gcd q.num q.den = 1)) = true := h
  show (decide (0 < (q.den : Int)) && decide (Int.gcd q.num q.den = 1) && decide (0 < q.num)) = _
  rw [h, Bool.true_and]
  simp only [num_pos]
theorem isAmt_iff {d : D} : isAmt d = true ↔ ∃ q : Rat, 0 ≤ q ∧ d = frD q := by
  constructor
  · intro h
    have hf : isFrac d = true := by
      unfold isAmt at h
      unfold isFrac
      split at h
      · rw [Bool.and_eq_true] at h; exact h.1
      · cases h
    obtain ⟨q, rfl⟩ := isFrac_iff.mp hf
    rw [isAmt_fr] at h
    exact ⟨q, of_decide_eq_true h, rfl⟩
  · rintro ⟨q, h, rfl⟩
    rw [isAmt_fr]
    exact decide_eq_true h
theorem isSome_iff {d : D} : isSome' d = true ↔ ∃ q : Rat, 0 < q ∧ d = frD q := by
  constructor
  · intro h
    have hf : isFrac d = true := by
      unfold isSome' at h
      unfold isFrac
      split at h
      · rw [Bool.and_eq_true] at h; exact h.1
      · cases h
    obtain ⟨q, rfl⟩ := isFrac_iff.mp hf
    rw [isSome_fr] at h
    exact ⟨q, of_decide_eq_true h, rfl⟩
  · rintro ⟨q, h, rfl⟩
    rw [isSome_fr]
    exact decide_eq_true h
theorem isAmt_frac {d : D} (h : isAmt d = true) : isFrac d = true := by obtain ⟨q, _, rfl⟩ := isAmt_iff.mp h; exact isFrac_fr q
theorem isSome_frac {d : D} (h : isSome' d = true) : isFrac d = true := by obtain ⟨q, _, rfl⟩ := isSome_iff.mp h; exact isFrac_fr q
theorem v_is_amount {d : D} (h : thing d = true) : m_is_amount [some (.sh d)] = .ok (.bl (isAmt d)) [none] := by
  have hf := v_is_fraction h
  by_cases f : isFrac d = true
  · obtain ⟨q, rfl⟩ := isFrac_iff.mp f
    rw [isFrac_fr] at hf
    simp [m_is_amount, b_is_amount, fnM_e, hf]
    rw [isAmt_fr]
    simp only [frD, fIx_tup0, P.at_okE, R.bind_okE, fGe_int, fnE_rt, maskR_nil, Rat.num_nonneg]
    rfl
  · have e : isAmt d = false := by
      cases z : isAmt d
      · rfl
      · exact absurd (isAmt_frac z) f
    simp [m_is_amount, b_is_amount, fnM_e, hf, f, e]
theorem v_is_some {d : D} (h : thing d = true) : m_is_some [some (.sh d)] = .ok (.bl (isSome' d)) [none] := by
  have hf := v_is_fraction h
  by_cases f : isFrac d = true
  · obtain ⟨q, rfl⟩ := isFrac_iff.mp f
    rw [isFrac_fr] at hf
    simp [m_is_some, b_is_some, fnM_e, hf]
    rw [isSome_fr]
    simp only [frD, fIx_tup0, P.at_okE, R.bind_okE, fGt_int, fnE_rt, maskR_nil, num_pos]
    rfl
  · have e : isSome' d = false := by
      cases z : isSome' d
      · rfl
      · exact absurd (isSome_frac z) f
    simp [m_is_some, b_is_some, fnM_e, hf, f, e]
def isWare (n : Int) : D → Bool
  | .int i => decide (0 ≤ i) && decide (i < n)
  | _ => false
theorem v_is_ware_below {d : D} {n : Int} (h : thing d = true) : m_is_ware_below [some (.sh d), some (.sh (.int n))] = .ok (.bl (isWare n d)) [none, none] := by
  have hi := v_is_integer h
  cases d <;> simp_all [m_is_ware_below, b_is_ware_below, fnM_e, DL.isInt, isWare]
  rename_i i
  by_cases h0 : 0 ≤ i <;> simp [h0]
end G
/-! X5 -/
set_option Elab.async false
set_option linter.all false
set_option maxRecDepth 100000
set_option maxHeartbeats 1000000
namespace G
open PySem PySem.Spec PyProof.Rows L2 DL
def ratOf : D → Rat
  | .tup [.int t, .int b] => Rat.divInt t b
  | _ => 0
@[simp] theorem ratOf_fr (q : Rat) : ratOf (frD q) = q := Rat.num_divInt_den q
def isStall (n : Int) : D → Bool
  | .tup [.int a, .int b, x, y, z] => (isWare n (.int a) && isWare n (.int b)) && (!decide (a = b) && (isSome' x && (isSome' y && isSome' z)) && decide (ratOf x * ratOf y = ratOf z * ratOf z))
  | _ => false
theorem own_eq (p q : Rat) : (if sFst (isIns n_Exact) (exD p) (exD q) = true then fOwn2 n_Exact m_Exact___eq__ (exD p) (exD q) else fEqA (exD p) (exD q)) = .ok (.bl (decide (p = q))) := by
  rw [if_pos (show sFst (isIns n_Exact) (exD p) (exD q) = true by rfl)]
  unfold fOwn2
  rw [if_pos ⟨by rfl, by rfl, by rfl, by rfl⟩, v_eq]
theorem own_mul {p q : Rat} {m n : Nat} (hp : Sz m p) (hq : Sz n q) (h : m + n ≤ 9000) : (if sFst (isIns n_Exact) (exD p) (exD q) = true then fOwn2 n_Exact m_Exact___mul__ (exD p) (exD q) else fMul (exD p) (exD q)) = .ok (exD (p * q)) := by
  rw [if_pos (show sFst (isIns n_Exact) (exD p) (exD q) = true by rfl)]
  unfold fOwn2
  rw [if_pos ⟨by rfl, by rfl, by rfl, by rfl⟩, v_mul hp hq h]
theorem own_add {p q : Rat} {m n : Nat} (hp : Sz m p) (hq : Sz n q) (h : m + n ≤ 9000) : (if sFst (isIns n_Exact) (exD p) (exD q) = true then fOwn2 n_Exact m_Exact___add__ (exD p) (exD q) else fAdd (exD p) (exD q)) = .ok (exD (p + q)) := by
  rw [if_pos (show sFst (isIns n_Exact) (exD p) (exD q) = true by rfl)]
  unfold fOwn2
  rw [if_pos ⟨by rfl, by rfl, by rfl, by rfl⟩, v_add hp hq h]
theorem own_sub {p q : Rat} {m n : Nat} (hp : Sz m p) (hq : Sz n q) (h : m + n ≤ 9000) : (if sFst (isIns n_Exact) (exD p) (exD q) = true then fOwn2 n_Exact m_Exact___sub__ (exD p) (exD q) else fSub (exD p) (exD q)) = .ok (exD (p - q)) := by
  rw [if_pos (show sFst (isIns n_Exact) (exD p) (exD q) = true by rfl)]
  unfold fOwn2
  rw [if_pos ⟨by rfl, by rfl, by rfl, by rfl⟩, v_sub hp hq h]
theorem recv_ex (q : Rat) (m : Str) (h : decide (m ∉ [n_top, n_bottom]) = true) : isRecv n_Exact m (exD q) = true := by
  show (decide (n_Exact = n_Exact) && decide (m ∉ [n_top, n_bottom])) = true
  rw [h, decide_eq_true rfl]; rfl
theorem sqr_m (q : Rat) {m : Nat} (hp : Sz m q) (h : m + m ≤ 9000) (ρ : DL.Env) : mth0K n_Exact n_square m_Exact_square dNil (exD q) ρ = .ok (exD (q * q)) ρ := by
  rw [mth0K_of _ _ _ (recv_ex q n_square (by decide +kernel))]
  simp [v_square hp h]
theorem v_is_stall {d : D} {n : Int} (h : thing d = true) (hz : ∀ a b x y z, d = .tup [a, b, frD x, frD y, frD z] → Sz 4500 x ∧ Sz 4500 y ∧ Sz 4500 z) :
    m_is_stall [some (.sh d), some (.sh (.int n))] = .ok (.bl (isStall n d)) [none, none] := by
  by_cases ht : ∃ ds, d = .tup ds
  · obtain ⟨ds, rfl⟩ := ht
    by_cases h5 : ds.length = 5
    · match ds, h5 with
      | [a, b, x, y, z], _ =>
        simp at h
        obtain ⟨ha, hb, hx, hy, hz1⟩ := h
        have l1 : lcM (gS 2) tYesD (dCall0 m_is_ware_below (dCons (dVar 2) (dCons (dVar 1) dNil))) [2] [a, b] [] [some (.sh (.tup [a, b, x, y, z])), some (.sh (.int n)), none, none] = .ok ([a, b].map fun d => .bl (isWare n d)) [some (.sh (.tup [a, b, x, y, z])), some (.sh (.int n)), none, none] := by
          refine lcM_fun _ (fun d m => ?_) (by simp)
          have hd : thing d = true := by simp at m; rcases m with rfl | rfl <;> assumption
          have := thing_own hd
          simp [this, v_is_ware_below hd]
        have l2 : lcM (gS 3) tYesD (dCall0 m_is_some (dCons (dVar 3) dNil)) [3] [x, y, z] [] [some (.sh (.tup [a, b, x, y, z])), some (.sh (.int n)), none, none] = .ok ([x, y, z].map fun d => .bl (isSome' d)) [some (.sh (.tup [a, b, x, y, z])), some (.sh (.int n)), none, none] := by
          refine lcM_fun _ (fun d m => ?_) (by simp)
          have hd : thing d = true := by simp at m; rcases m with rfl | rfl | rfl <;> assumption
          have := thing_own hd
          simp [this, v_is_some hd]
        have fa := frzAll_id (thing_own ha)
        have fb := frzAll_id (thing_own hb)
        have fx := frzAll_id (thing_own hx)
        have fy := frzAll_id (thing_own hy)
        have fz := frzAll_id (thing_own hz1)
        by_cases wa : isWare n a = true
        · by_cases wb : isWare n b = true
          · cases a <;> simp [isWare] at wa
            cases b <;> simp [isWare] at wb
            rename_i a b _
            by_cases ab : a = b
            · subst ab
              simp [m_is_stall, b_is_stall, fnM_e, lcK_of, l1, isWare, wa, wb, isStall]
            · by_cases sx : (isSome' x && (isSome' y && isSome' z)) = true
              · simp at sx
                obtain ⟨p, p0, rfl⟩ := isSome_iff.mp sx.1
                obtain ⟨q, q0, rfl⟩ := isSome_iff.mp sx.2.1
                obtain ⟨r, r0, rfl⟩ := isSome_iff.mp sx.2.2
                obtain ⟨zp, zq, zr⟩ := hz _ _ _ _ _ rfl
                have om := own_mul zp zq (by decide)
                have oe := own_eq (p * q) (r * r)
                have os := sqr_m r zr (by decide)
                simp [m_is_stall, b_is_stall, fnM_e, lcK_of, l1, l2, isWare, wa, wb, ab, sx, v_exact, om, oe, os, isStall]
              · have l2' := l2
                simp at sx
                by_cases s1 : isSome' x = true
                · by_cases s2 : isSome' y = true
                  · simp [m_is_stall, b_is_stall, fnM_e, lcK_of, l1, l2, fx, fy, fz, isWare, wa, wb, ab, s1, s2, sx s1 s2, isStall]
                  · simp [m_is_stall, b_is_stall, fnM_e, lcK_of, l1, l2, fx, fy, fz, isWare, wa, wb, ab, s1, s2, isStall]
                · simp [m_is_stall, b_is_stall, fnM_e, lcK_of, l1, l2, fx, fy, fz, isWare, wa, wb, ab, s1, isStall]
          · have e : isStall n (.tup [a, b, x, y, z]) = false := by
              unfold isStall
              split
              · rename_i q
                cases q
                simp [wb]
              · rfl
            simp [m_is_stall, b_is_stall, fnM_e, lcK_of, l1, fa, fb, wa, wb, e]
        · have e : isStall n (.tup [a, b, x, y, z]) = false := by
            unfold isStall
            split
            · rename_i q
              cases q
              simp [wa]
            · rfl
          simp [m_is_stall, b_is_stall, fnM_e, lcK_of, l1, fa, fb, wa, e]
    · have : ¬ ((ds.length : Int) = 5) := by omega
      have e : isStall n (.tup ds) = false := by
        unfold isStall
        split
        · rename_i q
          cases q
          exact absurd rfl h5
        · rfl
      simp [m_is_stall, b_is_stall, fnM_e, this, e]
  · simp [m_is_stall, b_is_stall, fnM_e, isTup_k h]
    cases d <;> simp_all [isStall]
end G
/-! X6 -/
set_option Elab.async false
set_option linter.all false
set_option maxRecDepth 100000
set_option maxHeartbeats 1000000
namespace G
open PySem PySem.Spec PyProof.Rows L2 DL
mutual
/-- all numbers in it are small -/
def smallD (k : Nat) : D → Bool
  | .int i => decide (i.natAbs < 2 ^ k)
  | .tup ds => smallL k ds
  | .lst _ ds => smallL k ds
  | .non => true
  | .bl _ => true
  | .str _ => true
  | .fn _ => true
  | .scr _ => true
  | .dic _ _ _ => true
  | .ins _ _ _ _ => true
  | .err _ _ => true
def smallL (k : Nat) : List D → Bool
  | [] => true
  | d :: ds => smallD k d && smallL k ds
end
@[simp] theorem smallD_int (k i) : smallD k (.int i) = decide (i.natAbs < 2 ^ k) := by simp only [smallD]
@[simp] theorem smallD_tup (k ds) : smallD k (.tup ds) = smallL k ds := by simp only [smallD]
@[simp] theorem smallD_lst (k o ds) : smallD k (.lst o ds) = smallL k ds := by simp only [smallD]
@[simp] theorem smallL_nil (k) : smallL k [] = true := by simp only [smallL]
@[simp] theorem smallL_cons (k d ds) : smallL k (d :: ds) = (smallD k d && smallL k ds) := by simp only [smallL]
theorem smallL_all (k) : ∀ {ds : List D}, smallL k ds = ds.all (smallD k)
  | [] => by simp
  | d :: ds => by rw [smallL_cons, List.all_cons, smallL_all]
theorem smallD_fr (k : Nat) (q : Rat) : smallD k (frD q) = true ↔ Sz k q := by
  unfold frD Sz
  simp
theorem thing_fr (q : Rat) : thing (frD q) = true := by unfold frD; simp
structure St where
  u : Int
  v : Int
  h : Rat
  g : Rat
  r : Rat
def stD (s : St) : D := .tup [.int s.u, .int s.v, frD s.h, frD s.g, frD s.r]
structure St.ok (n : Int) (s : St) : Prop where
  u0 : 0 ≤ s.u
  un : s.u < n
  v0 : 0 ≤ s.v
  vn : s.v < n
  uv : s.u ≠ s.v
  h0 : 0 < s.h
  g0 : 0 < s.g
  r0 : 0 < s.r
  sq : s.h * s.g = s.r * s.r
theorem isStall_iff {n : Int} {d : D} : isStall n d = true ↔ ∃ s : St, s.ok n ∧ d = stD s := by
  constructor
  · intro h
    unfold isStall at h
    split at h
    · rename_i a b x y z
      simp [isWare] at h
      obtain ⟨⟨ha, hb⟩, ⟨hab, hx, hy, hz⟩, e⟩ := h
      obtain ⟨p, p0, rfl⟩ := isSome_iff.mp hx
      obtain ⟨q, q0, rfl⟩ := isSome_iff.mp hy
      obtain ⟨r, r0, rfl⟩ := isSome_iff.mp hz
      simp at e
      exact ⟨⟨a, b, p, q, r⟩, ⟨ha.1, ha.2, hb.1, hb.2, hab, p0, q0, r0, e⟩, rfl⟩
    · cases h
  · rintro ⟨s, ok, rfl⟩
    unfold stD isStall
    simp [isWare, isSome_fr, ok.u0, ok.un, ok.v0, ok.vn, ok.uv, ok.h0, ok.g0, ok.r0, ok.sq]
@[simp] theorem noOwn_stD (s) : noOwn (stD s) = true := by unfold stD; simp
@[simp] theorem frz_stD (s) : frzAll (stD s) = stD s := by unfold stD; simp
theorem thing_stD (s) : thing (stD s) = true := by unfold stD; simp [thing_fr]
def firstBad (p : D → Bool) (ds : List D) : Option Nat := (List.range ds.length).find? fun i => !p ((ds[i]?).getD .non)
theorem firstBad_none {p : D → Bool} {ds : List D} : firstBad p ds = none ↔ ∀ d ∈ ds, p d = true := by
  unfold firstBad
  rw [List.find?_eq_none]
  constructor
  · intro h d m
    obtain ⟨i, hi, e⟩ := List.getElem_of_mem m
    have := h i (List.mem_range.mpr hi)
    rw [List.getElem?_eq_getElem hi, e] at this
    simpa using this
  · intro h i m
    have hi := List.mem_range.mp m
    rw [List.getElem?_eq_getElem hi]
    simp [h _ (List.getElem_mem hi)]
structure Wb where
  n : Int
  ss : List St
def webO (o : Bool) (w : Wb) : D := .ins o n_Web [n_wares, n_stalls] [.int w.n, .tup (w.ss.map stD)]
abbrev webD (w : Wb) : D := webO false w
structure Wb.ok (w : Wb) : Prop where
  n1 : 1 ≤ w.n
  n8 : w.n ≤ 8
  l : w.ss.length ≤ 16
  ss : ∀ s ∈ w.ss, s.ok w.n
@[simp] theorem noOwn_webD (w) : noOwn (webO false w) = true := by unfold webO; simp
@[simp] theorem frz_webO (o w) : frzAll (webO o w) = webO false w := by
  unfold webO
  simp [frzL_id' stD]
@[simp] theorem fld_wares (w) : fFld tab n_wares (webO false w) = .ok (.int w.n) := by exact (rfl)
@[simp] theorem fld_stalls (w) : fFld tab n_stalls (webO false w) = .ok (.tup (w.ss.map stD)) := by exact (rfl)
theorem set_wares (x : D) : setFld tab n_wares (.ins true n_Web [] []) x = some (.ins true n_Web [n_wares] [x]) := by rfl
theorem set_stalls (x y : D) : setFld tab n_stalls (.ins true n_Web [n_wares] [x]) y = some (.ins true n_Web [n_wares, n_stalls] [x, y]) := by rfl
def rowOf : D → Option (List D)
  | .tup ds => some ds
  | .lst _ ds => some ds
  | .scr ns => some (ns.map .int)
  | _ => none
/-- what Web's making tells -/
def webMk (n d : D) (ρ : DL.Env) : R D := match n with
  | .int k => if 1 ≤ k ∧ k ≤ 8 then (match rowOf d with
    | some ds => if ds.length ≤ 16 then (match firstBad (isStall k) ds with
      | some i => .exc n_BadStall [.int i] ρ
      | none => .ok (.ins true n_Web [n_wares, n_stalls] [n, .tup ds]) ρ) else .exc n_BadStall [.int (-1)] ρ
    | none => .exc n_BadStall [.int (-1)] ρ) else .exc n_BadWares [] ρ
  | _ => .exc n_BadWares [] ρ
theorem web_loop (k : Int) (ds : List D) (d o : D) (hd : ∀ x ∈ ds, thing x = true ∧ ∀ a b p q r, x = .tup [a, b, frD p, frD q, frD r] → Sz 4500 p ∧ Sz 4500 q ∧ Sz 4500 r) (e f : Option Slot) :
    forM (gTupM (gsCons (gS 3) (gsCons (gS 4) gsNil))) k_Web___init___1 (enumD ds)
      [some (.dp o), some (.sh (.int k)), some (.sh d), e, f] = match firstBad (isStall k) ds with
        | some i => .exc n_BadStall [.int i] [some (.dp o), some (.sh (.int k)), some (.sh d), some (.sh (.int i)), some (.sh ((ds[i]?).getD .non))]
        | none => .ok .nx (match ((List.range ds.length).getLast?) with
          | some i => [some (.dp o), some (.sh (.int k)), some (.sh d), some (.sh (.int i)), some (.sh ((ds[i]?).getD .non))]
          | none => [some (.dp o), some (.sh (.int k)), some (.sh d), e, f]) := by
  have z := forM_first (g := gTupM (gsCons (gS 3) (gsCons (gS 4) gsNil))) (b := k_Web___init___1)
    (fun i : Nat => D.tup [.int i, (ds[i]?).getD .non]) (fun i => isStall k ((ds[i]?).getD .non))
    (fun i => match i with
      | some i => [some (.dp o), some (.sh (.int k)), some (.sh d), some (.sh (.int i)), some (.sh ((ds[i]?).getD .non))]
      | none => [some (.dp o), some (.sh (.int k)), some (.sh d), e, f])
    (fun i => .exc n_BadStall [.int i] [some (.dp o), some (.sh (.int k)), some (.sh d), some (.sh (.int i)), some (.sh ((ds[i]?).getD .non))])
    (List.range ds.length) none (fun i m s => ?_) (fun i _ => .inr ⟨_, _, _, rfl⟩)
  · unfold firstBad enumD
    rw [z]
    cases List.find? (fun i => !isStall k ((ds[i]?).getD .non)) (List.range ds.length) with
    | some i => rfl
    | none => 
      dsimp only
      cases (List.range ds.length).getLast? <;> rfl
  · have hi := List.mem_range.mp m
    rw [List.getElem?_eq_getElem hi, Option.getD_some]
    obtain ⟨h1, h2⟩ := hd _ (List.getElem_mem hi)
    have h3 := thing_own h1
    have vs := v_is_stall (n := k) h1 h2
    refine ⟨[some (.dp o), some (.sh (.int k)), some (.sh d), some (.sh (.int i)), some (.sh ds[i])], ?_, ?_⟩
    · cases s <;> simp [h3]
    · by_cases q : isStall k ds[i] = true
      · simp [k_Web___init___1, vs, q, hi]
      · simp [k_Web___init___1, vs, q]
theorem rowOf_ok {d : D} {ds : List D} (h : rowOf d = some ds) (hd : thing d = true) (sd : smallD 4500 d = true) : ∀ x ∈ ds, thing x = true ∧ ∀ a b p q r, x = .tup [a, b, frD p, frD q, frD r] → Sz 4500 p ∧ Sz 4500 q ∧ Sz 4500 r := by
  intro x m
  have go : thing x = true → smallD 4500 x = true → thing x = true ∧ ∀ a b p q r, x = .tup [a, b, frD p, frD q, frD r] → Sz 4500 p ∧ Sz 4500 q ∧ Sz 4500 r := fun h1 h2 => ⟨h1, fun a b x y z q => by
    rw [q] at h2
    simp [smallD_fr] at h2
    exact h2.2.2⟩
  cases d with
  | tup es =>
    cases h
    rw [thing_tup, thingL_all, List.all_eq_true] at hd
    rw [smallD_tup, smallL_all, List.all_eq_true] at sd
    exact go (hd x m) (sd x m)
  | lst o es =>
    cases h
    rw [thing_lst, thingL_all, Bool.and_eq_true, List.all_eq_true] at hd
    rw [smallD_lst, smallL_all, List.all_eq_true] at sd
    exact go (hd.2 x m) (sd x m)
  | scr ns =>
    cases h
    obtain ⟨i, _, rfl⟩ := List.mem_map.mp m
    exact ⟨by simp, fun a b x y z q => by cases q⟩
  | _ => cases h
theorem rowOf_isRow {d : D} {ds : List D} (h : rowOf d = some ds) (ρ) : isiK tg_list_tuple d ρ = .ok (.bl true) ρ := by
  cases d <;> first | (cases h; done) | rfl
theorem rowOf_len {d : D} {ds : List D} (h : rowOf d = some ds) : fLen d = .ok (.int ds.length) := by
  cases d <;> first | (cases h; done) | (cases h; simp)
theorem rowOf_en {d : D} {ds : List D} (h : rowOf d = some ds) (ρ) : enK [d] ρ = .ok (enumD ds) ρ := by
  cases d <;> first | (cases h; done) | (cases h; simp)
theorem rowOf_tup {d : D} {ds : List D} (h : rowOf d = some ds) : fTup d = .ok (.tup ds) := by
  cases d <;> first | (cases h; done) | (cases h; rfl)
theorem rowOf_it {d : D} {ds : List D} (h : rowOf d = some ds) (ρ) : itK d ρ = .ok ds ρ := by
  cases d <;> first | (cases h; done) | (cases h; rfl)
theorem v_web {n d : D} (hn : thing n = true) (hd : thing d = true) (sd : smallD 4500 d = true) (ρ : DL.Env) :
    make0 n_Web m_Web___init__ [n, d] ρ = webMk n d ρ := by
  have vi := v_is_integer hn
  by_cases i1 : ∃ k, n = .int k
  · obtain ⟨k, rfl⟩ := i1
    by_cases k8 : 1 ≤ k ∧ k ≤ 8
    · cases hr : rowOf d with
      | none =>
        have e : webMk (.int k) d ρ = .exc n_BadStall [.int (-1)] ρ := by simp [webMk, k8, hr]
        rw [e]
        simp [m_Web___init__, b_Web___init__, fnM_e, v_is_integer, DL.isInt, k8, isRow_k hd]
        cases d <;> simp_all [rowOf]
      | some ds =>
        have l := web_loop k ds d (.ins true n_Web [] []) (rowOf_ok hr hd sd) none none
        by_cases h16 : ds.length ≤ 16
        · have h16' : ¬ (16 : Int) < ds.length := by omega
          cases hb : firstBad (isStall k) ds with
          | some i =>
            have e : webMk (.int k) d ρ = .exc n_BadStall [.int i] ρ := by simp [webMk, k8, hr, h16, hb]
            rw [e]
            rw [hb] at l
            simp [m_Web___init__, b_Web___init__, fnM_e, v_is_integer, DL.isInt, k8, rowOf_isRow hr, rowOf_len hr, rowOf_en hr, h16', l]
          | none =>
            have e : webMk (.int k) d ρ = .ok (.ins true n_Web [n_wares, n_stalls] [.int k, .tup ds]) ρ := by simp [webMk, k8, hr, h16, hb]
            rw [e]
            rw [hb] at l
            cases hl : (List.range ds.length).getLast? with
            | none =>
              rw [hl] at l
              simp [m_Web___init__, b_Web___init__, fnM_e, v_is_integer, DL.isInt, k8, rowOf_isRow hr, rowOf_len hr, rowOf_en hr, h16', l, setAtM, rowDat, isOwn, set_wares, set_stalls, rowOf_tup hr]
            | some j =>
              rw [hl] at l
              simp [m_Web___init__, b_Web___init__, fnM_e, v_is_integer, DL.isInt, k8, rowOf_isRow hr, rowOf_len hr, rowOf_en hr, h16', l, setAtM, rowDat, isOwn, set_wares, set_stalls, rowOf_tup hr]
        · have h16' : (16 : Int) < ds.length := by omega
          have e : webMk (.int k) d ρ = .exc n_BadStall [.int (-1)] ρ := by simp [webMk, k8, hr, h16]
          rw [e]
          simp [m_Web___init__, b_Web___init__, fnM_e, v_is_integer, DL.isInt, k8, rowOf_isRow hr, rowOf_len hr, h16']
    · have e : webMk (.int k) d ρ = .exc n_BadWares [] ρ := by simp [webMk, k8]
      rw [e]
      by_cases k1 : 1 ≤ k
      · have k2 : ¬ k ≤ 8 := fun z => k8 ⟨k1, z⟩
        simp [m_Web___init__, b_Web___init__, fnM_e, v_is_integer, DL.isInt, k1, k2]
      · simp [m_Web___init__, b_Web___init__, fnM_e, v_is_integer, DL.isInt, k1]
  · have e : webMk n d ρ = .exc n_BadWares [] ρ := by cases n <;> simp_all [webMk]
    rw [e]
    have e2 : DL.isInt n = false := by cases n <;> simp_all [DL.isInt]
    simp [m_Web___init__, b_Web___init__, fnM_e, vi, e2]
end G
/-! X7 -/
set_option Elab.async false
set_option linter.all false
set_option maxRecDepth 100000
set_option maxHeartbeats 1000000
namespace G
open PySem PySem.Spec PyProof.Rows L2 DL
def isAmounts (n : Int) (d : D) : Bool := match rowOf d with
  | some ds => decide ((ds.length : Int) = n) && ds.all isAmt
  | none => false
theorem rowOf_thing {d : D} {ds : List D} (h : rowOf d = some ds) (hd : thing d = true) : ∀ x ∈ ds, thing x = true := by
  intro x m
  cases d with
  | tup es =>
    cases h
    rw [thing_tup, thingL_all, List.all_eq_true] at hd
    exact hd x m
  | lst o es =>
    cases h
    rw [thing_lst, thingL_all, Bool.and_eq_true, List.all_eq_true] at hd
    exact hd.2 x m
  | scr ns =>
    cases h
    obtain ⟨i, _, rfl⟩ := List.mem_map.mp m
    simp
  | _ => cases h
theorem rowOf_no {d : D} (h : rowOf d = none) (hd : thing d = true) (ρ) : isiK tg_list_tuple d ρ = .ok (.bl false) ρ := by
  rw [isRow_k hd]
  cases d <;> first | rfl | (cases h; done)
theorem v_is_amounts {d : D} {n : Int} (h : thing d = true) (hl : ∀ ds, rowOf d = some ds → ds.length ≤ 100000) : m_is_amounts [some (.sh d), some (.sh (.int n))] = .ok (.bl (isAmounts n d)) [none, none] := by
  cases hr : rowOf d with
  | none => simp [m_is_amounts, b_is_amounts, fnM_e, rowOf_no hr h, isAmounts, hr]
  | some ds =>
    have l : lcM (gS 2) tYesD (dCall0 m_is_amount (dCons (dVar 2) dNil)) [2] ds [] [some (.sh d), some (.sh (.int n)), none] = .ok (ds.map fun d => .bl (isAmt d)) [some (.sh d), some (.sh (.int n)), none] := by
      refine lcM_fun _ (fun x m => ?_) (hl ds hr)
      have hx := rowOf_thing hr h x m
      have := thing_own hx
      simp [this, v_is_amount hx]
    by_cases e : (ds.length : Int) = n
    · simp [m_is_amounts, b_is_amounts, fnM_e, rowOf_isRow hr, rowOf_len hr, rowOf_it hr, lcK_of, l, isAmounts, hr, e]
    · simp [m_is_amounts, b_is_amounts, fnM_e, rowOf_isRow hr, rowOf_len hr, isAmounts, hr, e]
theorem v_check_purse {w : Wb} {d : D} (h : thing d = true) (hl : ∀ ds, rowOf d = some ds → ds.length ≤ 100000) : m_check_purse [some (.sh (webD w)), some (.sh d)] = if isAmounts w.n d = true then .ok (.lst false (((rowOf d).getD []).map fun x => exD (ratOf x))) [none, none] else .exc n_BadPurse [] [none, none] := by
  have ia := v_is_amounts (n := w.n) h hl
  by_cases e : isAmounts w.n d = true
  · rw [e] at ia
    rw [if_pos e]
    unfold isAmounts at e
    cases hr : rowOf d with
    | none => rw [hr] at e; cases e
    | some ds =>
      rw [hr] at e
      have e : (decide ((ds.length : Int) = w.n) && ds.all isAmt) = true := e
      rw [Bool.and_eq_true, List.all_eq_true] at e
      have l : lcM (gS 2) tYesD (dCall0 m_exact (dCons (dVar 2) dNil)) [2] ds [] [some (.sh (webD w)), some (.sh d), none] = .ok (ds.map fun x => exD (ratOf x)) [some (.sh (webD w)), some (.sh d), none] := by
        refine lcM_fun _ (fun x m => ?_) (hl ds hr)
        obtain ⟨q, _, rfl⟩ := isAmt_iff.mp (e.2 x m)
        simp [v_exact]
      simp [m_check_purse, b_check_purse, fnM_e, ia, rowOf_it hr, lcK_of, l]
      rw [frzL_id' (fun x => exD (ratOf x)) ds (fun _ _ => by simp)]
  · rw [if_neg e]
    simp [m_check_purse, b_check_purse, fnM_e, ia, e]
def St.at (s : St) (i : Int) : Rat := if s.u = i then s.h else s.g
def St.oth (s : St) (i : Int) : Int := if s.u = i then s.v else s.u
def St.withH (s : St) (i : Int) (a : Rat) : St := if s.u = i then { s with h := a, g := s.r * s.r / a } else { s with h := s.r * s.r / a, g := a }
@[simp] theorem st0 (s) : fIx (stD s) (.int 0) = .ok (.int s.u) := by unfold stD; simp
@[simp] theorem st1 (s) : fIx (stD s) (.int 1) = .ok (.int s.v) := by unfold stD; simp
@[simp] theorem st2 (s) : fIx (stD s) (.int 2) = .ok (frD s.h) := by unfold stD; simp
@[simp] theorem st3 (s) : fIx (stD s) (.int 3) = .ok (frD s.g) := by unfold stD; simp
@[simp] theorem st4 (s) : fIx (stD s) (.int 4) = .ok (frD s.r) := by unfold stD; simp
theorem v_other_ware (s : St) (i : Int) : m_other_ware [some (.sh (stD s)), some (.sh (.int i))] = .ok (.int (s.oth i)) [none, none] := by
  simp [m_other_ware, b_other_ware, fnM_e, St.oth]
  split <;> simp
theorem v_held_of (s : St) (i : Int) : m_held_of [some (.sh (stD s)), some (.sh (.int i))] = .ok (exD (s.at i)) [none, none] := by
  by_cases h : s.u = i <;> simp [m_held_of, b_held_of, fnM_e, St.at, h, v_exact]
theorem v_root_exact (s : St) : m_root_exact [some (.sh (stD s))] = .ok (exD s.r) [none] := by
  simp [m_root_exact, b_root_exact, fnM_e, v_exact]
theorem over_m (p q : Rat) {m n : Nat} (hp : Sz m p) (hq : Sz n q) (h : m + n ≤ 9000) (h0 : q ≠ 0) (as : DL.Env → R (List D)) (ρ ρ' : DL.Env) (ha : as ρ = .ok [exD q] ρ') : mth0K n_Exact n_over m_Exact_over as (exD p) ρ = .ok (exD (p / q)) ρ' := by
  rw [mth0K_of _ _ _ (recv_ex p n_over (by decide +kernel)), ha]
  simp [v_over hp hq h h0]
theorem pair_m (q : Rat) (ρ : DL.Env) : mth0K n_Exact n_pair m_Exact_pair dNil (exD q) ρ = .ok (frD q) ρ := by
  rw [mth0K_of _ _ _ (recv_ex q n_pair (by decide +kernel))]
  simp [v_pair]
theorem v_with_held {s : St} {i : Int} {a : Rat} {m n : Nat} (hr : Sz m s.r) (ha : Sz n a) (h : m + m + n ≤ 9000) (h0 : a ≠ 0) : m_with_held [some (.sh (stD s)), some (.sh (.int i)), some (.sh (exD a))] = .ok (stD (s.withH i a)) [none, none, none] := by
  have os := sqr_m s.r hr (by omega)
  have ov := over_m (s.r * s.r) a (Sz.mul hr hr) ha h h0 (dCons (dVar 2) dNil) [some (.sh (stD s)), some (.sh (.int i)), some (.sh (exD a)), none] [some (.sh (stD s)), some (.sh (.int i)), some (.sh (exD a)), none] (by simp)
  by_cases e : s.u = i
  · simp [m_with_held, b_with_held, fnM_e, v_root_exact, os, ov, e, pair_m, St.withH]
    simp [stD, e]
  · simp [m_with_held, b_with_held, fnM_e, v_root_exact, os, ov, e, pair_m, St.withH]
    simp [stD]
theorem cutD_from' (ds : List D) (k : Nat) : cutD ds (some ((k : Int) + 1)) none = ds.drop (k + 1) := cutD_from ds (k + 1)
theorem v_webC {n d : D} (hn : thing n = true) (hd : thing d = true) (sd : smallD 4500 d = true) (ρ : DL.Env) :
    madeC n_Web (m_Web___init__ [some (.dp (.ins true n_Web [] [])), some (.sh n), some (.sh d)]) ρ = webMk n d ρ := by
  rw [← v_web hn hd sd ρ]
  simp
/-- the numbers of a web are small -/
def St.Sz (k : Nat) (s : St) : Prop := G.Sz k s.h ∧ G.Sz k s.g ∧ G.Sz k s.r
structure Wb.Sz (k : Nat) (w : Wb) : Prop where
  ss : ∀ s ∈ w.ss, s.Sz k
theorem smallD_st {s : St} {n : Int} (ok : s.ok n) (n8 : n ≤ 8) (z : s.Sz 4500) : smallD 4500 (stD s) = true := by
  unfold stD
  have hb : ∀ i : Int, 0 ≤ i → i < 8 → i.natAbs < 2 ^ 4500 := fun i h1 h2 => Nat.lt_of_lt_of_le (show i.natAbs < 2 ^ 3 by omega) (Nat.pow_le_pow_right (by decide) (by decide))
  simp only [smallD_tup, smallL_cons, smallL_nil, smallD_int, Bool.and_eq_true, (smallD_fr 4500 _).mpr z.1, (smallD_fr 4500 _).mpr z.2.1, (smallD_fr 4500 _).mpr z.2.2, and_true, decide_eq_true (hb s.u ok.u0 (by have := ok.un; omega)), decide_eq_true (hb s.v ok.v0 (by have := ok.vn; omega))]
theorem webMk_ok {w : Wb} (ok : w.ok) (ρ : DL.Env) : webMk (.int w.n) (.tup (w.ss.map stD)) ρ = .ok (webO true w) ρ := by
  have e : firstBad (isStall w.n) (w.ss.map stD) = none := by
    rw [firstBad_none]
    intro d m
    obtain ⟨s, ms, rfl⟩ := List.mem_map.mp m
    exact isStall_iff.mpr ⟨s, ok.ss s ms, rfl⟩
  simp [webMk, ok.n1, ok.n8, rowOf, ok.l, e, webO]
theorem made_web {w : Wb} (ok : w.ok) (z : w.Sz 4500) (ρ : DL.Env) : madeC n_Web (m_Web___init__ [some (.dp (.ins true n_Web [] [])), some (.sh (.int w.n)), some (.sh (.tup (w.ss.map stD)))]) ρ = .ok (webO true w) ρ := by
  rw [v_webC (by simp) (by simp [thingL_all, thing_stD]) (by
    simp only [smallD_tup, smallL_all, List.all_map, List.all_eq_true]
    exact fun s m => smallD_st (ok.ss s m) ok.n8 (z.ss s m)) ρ, webMk_ok ok]
def Wb.set (w : Wb) (i : Nat) (s : St) : Wb := { w with ss := w.ss.set i s }
theorem Wb.ok.set {w : Wb} (ok : w.ok) {s : St} (h : s.ok w.n) (i : Nat) : (w.set i s).ok := ⟨ok.n1, ok.n8, by unfold Wb.set; simpa using ok.l, fun x m => by
  rcases List.mem_or_eq_of_mem_set m with m | rfl
  · exact ok.ss x m
  · exact h⟩
theorem Wb.Sz.set {k : Nat} {w : Wb} (z : w.Sz k) {s : St} (h : s.Sz k) (i : Nat) : (w.set i s).Sz k := ⟨fun x m => by
  rcases List.mem_or_eq_of_mem_set m with m | rfl
  · exact z.ss x m
  · exact h⟩
theorem v_with_stall {w : Wb} {i : Nat} {s : St} (ok : w.ok) (hi : i < w.ss.length) (hs : s.ok w.n) (z : w.Sz 4500) (zs : s.Sz 4500) :
    m_with_stall [some (.sh (webD w)), some (.sh (.int i)), some (.sh (stD s))] = .ok (webD (w.set i s)) [none, none, none] := by
  have mk := made_web (ok.set hs i) (z.set zs i)
  have e : List.take i (w.ss.map stD) ++ (stD s :: List.drop (i + 1) (w.ss.map stD)) = (w.ss.set i s).map stD := by
    rw [List.set_eq_take_append_cons_drop, if_pos hi]
    simp
  have l1 : min i w.ss.length ≤ 99999 := by have := ok.l; omega
  have f1 : frzL (List.take i (List.map stD w.ss)) = List.take i (List.map stD w.ss) := by
    rw [← List.map_take]; exact frzL_id' stD _ (fun _ _ => by simp)
  have f2 : frzL (List.drop (i + 1) (List.map stD w.ss)) = List.drop (i + 1) (List.map stD w.ss) := by
    rw [← List.map_drop]; exact frzL_id' stD _ (fun _ _ => by simp)
  have a1 := fAdd_tup (List.take i (List.map stD w.ss)) [stD s] (by simp; omega)
  have a2 := fAdd_tup (List.take i (List.map stD w.ss) ++ [stD s]) (List.drop (i + 1) (List.map stD w.ss)) (by simp; have := ok.l; omega)
  have e2 : List.take i (w.ss.map stD) ++ [stD s] ++ List.drop (i + 1) (w.ss.map stD) = (w.ss.set i s).map stD := by rw [← e]; simp
  rw [e2] at a2
  simp [m_with_stall, b_with_stall, fnM_e, cutD_to, cutD_from', sFst, isIns, f1, f2, a1, a2, frzL_id' stD, -List.map_set]
  have mk' := mk [some (.sh (webD w)), some (.sh (.int i)), some (.sh (stD s))]
  simp only [Wb.set] at mk'
  rw [mk']
  simp [Wb.set]
theorem v_is_index {w : Wb} {d : D} (h : thing d = true) : m_is_index [some (.sh (webD w)), some (.sh d)] = .ok (.bl (isWare w.ss.length d)) [none, none] := by
  have hi := v_is_integer h
  cases d <;> simp_all [m_is_index, b_is_index, fnM_e, DL.isInt, isWare]
  rename_i i
  by_cases h0 : 0 ≤ i <;> simp [h0]
/-- a move: the web behind it, what comes out -/
def Wb.put (w : Wb) (i : Nat) (ware : Int) (a : Rat) : Wb × Rat := match w.ss[i]? with
  | some s => (w.set i (s.withH ware (s.at ware + a)), s.at (s.oth ware) - (s.withH ware (s.at ware + a)).at (s.oth ware))
  | none => (w, 0)
theorem St.at_withH (s : St) (i : Int) (a : Rat) (h : s.u ≠ s.v) : (s.withH i a).at (s.oth i) = s.r * s.r / a := by
  unfold St.withH St.at St.oth
  by_cases e : s.u = i
  · simp only [if_pos e]
    rw [if_neg h]
  · simp only [if_neg e, if_pos]
theorem St.sq' {n : Int} {s : St} (ok : s.ok n) (i : Int) : s.at i * s.at (s.oth i) = s.r * s.r := by
  unfold St.at St.oth
  by_cases e : s.u = i
  · rw [if_pos e, if_pos e, if_neg ok.uv, ok.sq]
  · rw [if_neg e, if_neg e, if_pos rfl, Rat.mul_comm, ok.sq]
theorem St.at_pos {n : Int} {s : St} (ok : s.ok n) (i : Int) : 0 < s.at i := by
  unfold St.at
  split
  · exact ok.h0
  · exact ok.g0
theorem rr_pos {a b : Rat} (ha : 0 < a) (hb : 0 < b) : 0 < a * b := Rat.mul_pos ha hb
theorem div_pos {a b : Rat} (ha : 0 < a) (hb : 0 < b) : 0 < a / b := by rw [Rat.div_def]; exact Rat.mul_pos ha (Rat.inv_pos.mpr hb)
theorem St.ok.withH {n : Int} {s : St} (ok : s.ok n) (i : Int) {a : Rat} (ha : 0 < a) : (s.withH i a).ok n := by
  have p := div_pos (rr_pos ok.r0 ok.r0) ha
  have ne : a ≠ 0 := by intro z; rw [z] at ha; exact absurd ha (by decide)
  have q : s.r * s.r / a * a = s.r * s.r := Rat.div_mul_cancel ne
  unfold St.withH
  split
  · exact ⟨ok.u0, ok.un, ok.v0, ok.vn, ok.uv, ha, p, ok.r0, by show a * (s.r * s.r / a) = _; rw [Rat.mul_comm, q]⟩
  · exact ⟨ok.u0, ok.un, ok.v0, ok.vn, ok.uv, p, ha, ok.r0, q⟩
theorem v_behind_move {w : Wb} {i : Nat} {s : St} {ware : Int} {a : Rat} {k m n : Nat} (ok : w.ok) (hi : w.ss[i]? = some s) (ha : 0 < a) (z : w.Sz 4500) (zr : Sz k s.r) (zh : Sz m (s.at ware + a)) (z1 : Sz n (s.at ware)) (z2 : Sz n a) (hn : n ≤ 4500) (hk : k + k + m ≤ 4000) :
    m_behind_move [some (.sh (webD w)), some (.sh (.tup [.int i, .int ware, frD a]))] = .ok (.tup [webD (w.put i ware a).1, exD (w.put i ware a).2]) [none, none] := by
  have il : i < w.ss.length := ltOf hi
  have ms : s ∈ w.ss := List.mem_of_getElem? hi
  have so := ok.ss s ms
  have p1 : 0 < s.at ware + a := by
    have := St.at_pos so ware
    grind
  have p0 : s.at ware + a ≠ 0 := by intro z; rw [z] at p1; exact absurd p1 (by decide)
  have oa := own_add z1 z2 (by omega)
  have wh := v_with_held (i := ware) zr zh (by omega) p0
  have so2 := so.withH ware p1
  have zd : Sz (k + k + m) (s.r * s.r / (s.at ware + a)) := Sz.div (Sz.mul zr zr) zh p0
  have zs2 : (s.withH ware (s.at ware + a)).Sz 4500 := by
    unfold St.withH
    split
    · exact ⟨zh.mono (by omega), zd.mono (by omega), zr.mono (by omega)⟩
    · exact ⟨zd.mono (by omega), zh.mono (by omega), zr.mono (by omega)⟩
  have ws := v_with_stall ok il so2 z zs2
  have e2 : (s.withH ware (s.at ware + a)).at (s.oth ware) = s.r * s.r / (s.at ware + a) := St.at_withH s ware _ so.uv
  have zo : Sz 4500 (s.at (s.oth ware)) := by
    unfold St.at
    split
    · exact (z.ss s ms).1
    · exact (z.ss s ms).2.1
  have os := own_sub (p := s.at (s.oth ware)) (q := (s.withH ware (s.at ware + a)).at (s.oth ware)) zo (by rw [e2]; exact zd) (by omega)
  have ix : fIx (.tup (w.ss.map stD)) (.int i) = .ok (stD s) := fIx_tup _ _ (DL.atI_nat (by rw [List.getElem?_map, hi]; rfl))
  have pt : w.put i ware a = (w.set i (s.withH ware (s.at ware + a)), s.at (s.oth ware) - (s.withH ware (s.at ware + a)).at (s.oth ware)) := by
    unfold Wb.put
    rw [hi]
  rw [pt]
  simp [m_behind_move, b_behind_move, fnM_e, ix, v_held_of, v_exact, oa, wh, v_other_ware, ws, os]
end G
/-! X8 -/
set_option Elab.async false
set_option linter.all false
set_option maxRecDepth 100000
set_option maxHeartbeats 1000000
namespace G
open PySem PySem.Spec PyProof.Rows L2 DL SX
theorem S_eq {a b : List Nat} : (S a = S b) ↔ a = b := ⟨fun h => S_inj h, fun h => by rw [h]⟩
theorem ofS (s : String) : (Str.ofString s : Str) = S (s.toList.map Char.toNat) := Str.ofString_eq_toList s
@[simp] theorem lit_ : (Str.ofString "" : Str) = S [] := by decide +kernel
@[simp] theorem lit_0 : (Str.ofString "0" : Str) = S [48] := by decide +kernel
@[simp] theorem lit_slash : (Str.ofString "/" : Str) = S [47] := by decide +kernel
@[simp] theorem lit_blank : (Str.ofString " " : Str) = S [32] := by decide +kernel
@[simp] theorem lit_nl : (Str.ofString "\n" : Str) = S [10] := by decide +kernel
@[simp] theorem lit_digits : (Str.ofString "0123456789" : Str) = S [48, 49, 50, 51, 52, 53, 54, 55, 56, 57] := by decide +kernel
@[simp] theorem lit_put : (Str.ofString "put" : Str) = S [112, 117, 116] := by decide +kernel
@[simp] theorem lit_all : (Str.ofString "all" : Str) = S [97, 108, 108] := by decide +kernel
@[simp] theorem lit_half : (Str.ofString "half" : Str) = S [104, 97, 108, 102] := by decide +kernel
@[simp] theorem lit_to : (Str.ofString "to" : Str) = S [116, 111] := by decide +kernel
@[simp] theorem lit_times : (Str.ofString "times" : Str) = S [116, 105, 109, 101, 115] := by decide +kernel
@[simp] theorem lit_end : (Str.ofString "end" : Str) = S [101, 110, 100] := by decide +kernel
theorem strD_S (l : List Nat) : strD (S l) = l.map fun c => .str (S [c]) := rfl
theorem isDig (c : Nat) : c ∈ [48, 49, 50, 51, 52, 53, 54, 55, 56, 57] ↔ 48 ≤ c ∧ c ≤ 57 := by
  simp
  omega
theorem fIn_sign (c : Nat) (l : List Nat) : fIn false (.str (S [c])) (.str (S l)) = .ok (.bl (decide (c ∈ l))) := by
  show P.ok (D.bl (!(Builtin.Str.occurrences (S l) (S [c]) 0 (S l).length 1).isEmpty)) = _
  rw [show (!(Builtin.Str.occurrences (S l) (S [c]) 0 (S l).length 1).isEmpty) = decide (c ∈ (S l).cps.toList) from PySem.StrLaws.found_one (S l) c]
def isDigs (l : List Nat) : Bool := l.all fun c => decide (48 ≤ c ∧ c ≤ 57)
def numIn (l : List Nat) (most : Nat) : Option Nat :=
  if l = [] ∨ most < l.length ∨ isDigs l = false then none
  else if l = [48] ∨ l.head? ≠ some 48 then some (NumText.digitsVal l) else none
def optI : Option Nat → D
  | none => .non
  | some n => .int n
@[simp] theorem optI_none : optI none = .non := rfl
@[simp] theorem optI_some (n) : optI (some n) = .int n := rfl
@[simp] theorem noOwn_optI (o) : noOwn (optI o) = true := by cases o <;> simp
@[simp] theorem frz_optI (o) : frzAll (optI o) = optI o := by cases o <;> simp
theorem starts_one (l : List Nat) (c : Nat) : Txt.startswith (S l) (S [c]) = decide (l.head? = some c) := by
  have h := PySem.StrLaws.subAt_one (S l) c 0
  have e : (S l).cps.toList[0]? = l.head? := by cases l <;> rfl
  rw [e] at h
  rw [Bool.eq_iff_iff, decide_eq_true_iff]
  refine Iff.trans ?_ h
  show (decide (0 + (S [c]).length ≤ (S l).length) && Builtin.Str.subAt (S l) (S [c]) 0) = true ↔ _
  rw [Bool.and_eq_true, decide_eq_true_iff]
@[simp] theorem fStarts_S (l : List Nat) (c : Nat) : fStarts (.str (S l)) [.str (S [c])] = .ok (.bl (decide (l.head? = some c))) := by
  show P.ok (D.bl (Txt.startswith (S l) (S [c]))) = _
  rw [starts_one]
theorem fInt_digs {l : List Nat} (h : isDigs l = true) (h1 : l ≠ []) (h2 : l.length ≤ 640) : fInt (.str (S l)) = .ok (.int (NumText.digitsVal l)) := by
  have hd : NumText.AllDigits l := fun c m => by
    have := List.all_eq_true.mp h c m
    simpa using this
  have e := PySem.intText_digits (x := S l) hd h1 (by rw [S_len]; omega)
  show (match PySem.intText? (S l) with | some n => if (S l).length ≤ 640 then P.ok (D.int n) else .stk | none => .stk) = _
  rw [e]
  exact if_pos (by rw [S_len]; exact h2)
theorem v_number_in {l : List Nat} {most : Nat} (hl : l.length ≤ 100000) (hm : most ≤ 640) : m_number_in [some (.sh (.str (S l))), some (.sh (.int most))] = .ok (optI (numIn l most)) [none, none] := by
  have fl := fLen_str (S l) (by rw [S_len]; omega)
  rw [S_len] at fl
  have lc : lcM (gS 2) tYesD (dOp (fIn false) (dVar 2) (dC (.str (S [48, 49, 50, 51, 52, 53, 54, 55, 56, 57])))) [2] (strD (S l)) [] [some (.sh (.str (S l))), some (.sh (.int most)), none] = .ok (l.map fun c => .bl (decide (48 ≤ c ∧ c ≤ 57))) [some (.sh (.str (S l))), some (.sh (.int most)), none] := by
    rw [strD_S]
    have := lcM_map (g := gS 2) (a := dOp (fIn false) (dVar 2) (dC (.str (S [48, 49, 50, 51, 52, 53, 54, 55, 56, 57])))) (vs := [2]) (ρ := [some (.sh (.str (S l))), some (.sh (.int most)), none]) (fun c : Nat => D.str (S [c])) (fun c => .bl (decide (48 ≤ c ∧ c ≤ 57))) l [] (fun c m => by
      have hc : decide (c ∈ [48, 49, 50, 51, 52, 53, 54, 55, 56, 57]) = decide (48 ≤ c ∧ c ≤ 57) := by simp only [isDig]
      have fi := fIn_sign c [48, 49, 50, 51, 52, 53, 54, 55, 56, 57]
      rw [hc] at fi
      simp [fi]) (by simpa using hl)
    rw [List.nil_append] at this
    exact this
  by_cases h0 : l = []
  · subst h0
    simp [m_number_in, b_number_in, fnM_e, numIn]
  · by_cases h1 : most < l.length
    · have h1' : (most : Int) < l.length := by omega
      simp [m_number_in, b_number_in, fnM_e, numIn, S_eq, h0, h1, fl]
    · have h1' : ¬ (most : Int) < l.length := by omega
      by_cases h2 : isDigs l = true
      · have fi := fInt_digs h2 h0 (by omega)
        have h2' : ∀ x ∈ l, 48 ≤ x ∧ x ≤ 57 := by
          intro x m
          simpa using List.all_eq_true.mp h2 x m
        have e2 : l.all (fun c => decide (48 ≤ c) && decide (c ≤ 57)) = true := by rw [List.all_eq_true]; intro c m; simpa using h2' c m
        by_cases h3 : l = [48]
        · subst h3
          have m0 : ¬ (most : Int) < 1 := by simp at h1; omega
          have m1 : ¬ most = 0 := by omega
          simp [m_number_in, b_number_in, fnM_e, numIn, S_eq, h1, fl, lcK_of, lc, h2, fi, m0, m1]
        · by_cases h4 : l.head? = some 48
          · simp [m_number_in, b_number_in, fnM_e, numIn, S_eq, h0, h1, fl, lcK_of, lc, h2, fi, h3, h4, h2']
          · simp [m_number_in, b_number_in, fnM_e, numIn, S_eq, h0, h1, fl, lcK_of, lc, h2, fi, h3, h4, h2']
            exact h2'
      · have e3 : l.all (fun c => decide (48 ≤ c ∧ c ≤ 57)) = false := by simpa [isDigs] using h2
        have e4 : ¬ ∀ x ∈ l, 48 ≤ x ∧ x ≤ 57 := fun z => h2 (List.all_eq_true.mpr fun c m => decide_eq_true (z c m))
        simp [m_number_in, b_number_in, fnM_e, numIn, S_eq, h0, h1, fl, lcK_of, lc, h2, e4]
end G
/-! X9 -/
set_option Elab.async false
set_option linter.all false
set_option maxRecDepth 100000
set_option maxHeartbeats 1000000
namespace G
open PySem PySem.Spec PyProof.Rows L2 DL SX
theorem fSplit_S {l b : List Nat} (hb : b ≠ []) (hk : b.all (· < 256) = true) (hl : l.length ≤ 900000) : fSplit (.str (S l)) [.str (S b)] = .ok (.lst true ((TL.spl b 0 [] l).map fun p => .str (S p))) := by
  show (if (S b).length ≠ 0 ∧ (S l).length ≤ 900000 then P.ok (D.lst true ((Txt.split (S l) (S b)).map .str)) else .stk) = _
  rw [S_len, S_len, if_pos ⟨by simpa using hb, hl⟩, split_S hb hk, List.map_map]
  rfl
/-- the amount that a word tells -/
def amtIn (l : List Nat) : Option Rat := match (TL.spl [47] 0 [] l).map (numIn · 12) with
  | [some n] => some (n : Rat)
  | [some t, some b] => if 1 < b ∧ Nat.gcd t b = 1 then some (Rat.divInt t b) else none
  | _ => none
def optQ : Option Rat → D
  | none => .non
  | some q => frD q
@[simp] theorem optQ_none : optQ none = .non := rfl
@[simp] theorem optQ_some (n) : optQ (some n) = frD n := rfl
@[simp] theorem noOwn_optQ (o) : noOwn (optQ o) = true := by cases o <;> simp
@[simp] theorem frz_optQ (o) : frzAll (optQ o) = optQ o := by cases o <;> simp
theorem spl_len (s : Nat) : ∀ (l acc : List Nat), (TL.spl [s] 0 acc l).length ≤ l.length + 1
  | [], acc => by rw [TL.spl_nil]; simp
  | c :: r, acc => by
    by_cases h : TL.pre [s] (c :: r) = true
    · rw [TL.spl_hit h]
      have := spl_len s r []
      simp
      omega
    · rw [TL.spl_miss (by simpa using h)]
      have := spl_len s r (acc ++ [c])
      simp only [List.length_cons]
      omega
theorem spl_parts (s : Nat) : ∀ (l acc : List Nat), ∀ p ∈ TL.spl [s] 0 acc l, p.length ≤ acc.length + l.length
  | [], acc, p, m => by
    rw [TL.spl_nil] at m
    simp at m
    subst m
    simp
  | c :: r, acc, p, m => by
    by_cases h : TL.pre [s] (c :: r) = true
    · rw [TL.spl_hit h] at m
      rcases List.mem_cons.mp m with rfl | m
      · simp
      · have := spl_parts s r [] p m
        simp only [List.length_cons, List.length_nil] at this ⊢
        omega
    · rw [TL.spl_miss (by simpa using h)] at m
      have := spl_parts s r (acc ++ [c]) p m
      simp only [List.length_cons, List.length_append, List.length_nil] at this ⊢
      omega
theorem spl_ne (s : Nat) (l : List Nat) : TL.spl [s] 0 [] l ≠ [] := by
  have : ∀ (l acc : List Nat), TL.spl [s] 0 acc l ≠ [] := by
    intro l
    induction l with
    | nil => intro acc; rw [TL.spl_nil]; simp
    | cons c r ih =>
      intro acc
      by_cases h : TL.pre [s] (c :: r) = true
      · rw [TL.spl_hit h]; simp
      · rw [TL.spl_miss (by simpa using h)]; exact ih _
  exact this l []
theorem in_optI (os : List (Option Nat)) (o : Bool) : fIn false .non (.lst o (os.map optI)) = .ok (.bl (os.any (·.isNone))) := by
  have h1 : (os.map optI).all flatD = true := by
    rw [List.all_map, List.all_eq_true]
    intro z _
    cases z <;> rfl
  show (if flatD .non = true ∧ (os.map optI).all flatD = true then P.ok (D.bl (if false = true then !inD .non (os.map optI) else inD .non (os.map optI))) else _) = _
  rw [if_pos ⟨rfl, h1⟩]
  show P.ok (D.bl (inD .non (os.map optI))) = _
  unfold inD
  rw [List.any_map]
  congr 3
  funext z
  cases z <;> rfl
theorem v_amount_in {l : List Nat} (hl : l.length ≤ 90000) : m_amount_in [some (.sh (.str (S l)))] = .ok (optQ (amtIn l)) [none] := by
  have sp := fSplit_S (l := l) (b := [47]) (by simp) (by decide) (by omega)
  have hlen := spl_len 47 l []
  have hp := spl_parts 47 l []
  have ne := spl_ne 47 l
  unfold amtIn
  generalize hps : TL.spl [47] 0 [] l = ps at *
  have lc : lcM (gS 3) tYesD (dCall0 m_number_in (dCons (dVar 3) (dCons (dC (.int 12)) dNil))) [3] (ps.map fun p => D.str (S p)) [] [some (.sh (.str (S l))), some (.sh (.lst false (ps.map fun p => .str (S p)))), none, none] = .ok (ps.map fun p => optI (numIn p 12)) [some (.sh (.str (S l))), some (.sh (.lst false (ps.map fun p => .str (S p)))), none, none] := by
    have := lcM_map (g := gS 3) (a := dCall0 m_number_in (dCons (dVar 3) (dCons (dC (.int 12)) dNil))) (vs := [3]) (ρ := [some (.sh (.str (S l))), some (.sh (.lst false (ps.map fun p => .str (S p)))), none, none]) (fun p => D.str (S p)) (fun p => optI (numIn p 12)) ps [] (fun p m => by
      have vn : m_number_in [some (.sh (.str (S p))), some (.sh (.int 12))] = _ := v_number_in (l := p) (most := 12) (by have := hp p m; simp at this; omega) (by decide)
      simp [vn]) (by simp; omega)
    rw [List.nil_append] at this
    exact this
  have fz : frzL (ps.map fun p => D.str (S p)) = ps.map fun p => D.str (S p) := frzL_id' _ _ (fun _ _ => by simp)
  have fz2 : frzL (ps.map fun p => optI (numIn p 12)) = ps.map fun p => optI (numIn p 12) := frzL_id' _ _ (fun _ _ => by simp)
  have nl : noOwnL (ps.map fun p => optI (numIn p 12)) = true := by simp
  have fin := in_optI (ps.map fun p => numIn p 12) false
  rw [List.map_map] at fin
  have fin : fIn false .non (.lst false (ps.map fun p => optI (numIn p 12))) = _ := fin
  match ps, ne with
  | [p], _ =>
    simp only [List.map_cons, List.map_nil] at lc fz fz2 sp fin ⊢
    cases e : numIn p 12 with
    | none =>
      rw [e] at fin lc fz2
      simp at fin
      simp [m_amount_in, b_amount_in, fnM_e, sp, lcK_of, lc, fz, fin]
    | some n =>
      rw [e] at fin lc fz2
      simp at fin
      simp [m_amount_in, b_amount_in, fnM_e, sp, lcK_of, lc, fz, fin, frD]
  | [p, q], _ =>
    simp only [List.map_cons, List.map_nil] at lc fz fz2 sp fin ⊢
    cases e : numIn p 12 with
    | none =>
      rw [e] at fin lc fz2
      simp at fin
      simp [m_amount_in, b_amount_in, fnM_e, sp, lcK_of, lc, fz, fin]
    | some t =>
      cases e2 : numIn q 12 with
      | none =>
        rw [e, e2] at fin lc fz2
        simp at fin
        simp [m_amount_in, b_amount_in, fnM_e, sp, lcK_of, lc, fz, fin]
      | some b =>
        rw [e, e2] at fin lc fz2
        simp at fin
        have va : m_is_amount [some (.sh (.tup [.int t, .int b]))] = _ := v_is_amount (by simp)
        have ia : isAmt (.tup [.int t, .int b]) = (decide (0 < b) && decide (Nat.gcd t b = 1)) := by
          show (decide (0 < (b : Int)) && decide (Int.gcd t b = 1) && decide (0 ≤ (t : Int))) = _
          simp
        by_cases b1 : 1 < b
        · have b1' : (1 : Int) < b := by omega
          have b0 : 0 < b := by omega
          by_cases g1 : Nat.gcd t b = 1
          · simp [m_amount_in, b_amount_in, fnM_e, sp, lcK_of, lc, fz, fin, va, ia, b1, b1', b0, g1, frD]
            have gg : Int.gcd (t : Int) (b : Int) = 1 := g1
            have n1 := num_divInt (t := t) (b := b) (by omega)
            have n2 := den_divInt (t := t) (b := b) (by omega)
            rw [gg, Rat.divInt_ofNat] at n1 n2
            rw [n1, n2]
            simp
          · simp [m_amount_in, b_amount_in, fnM_e, sp, lcK_of, lc, fz, fin, va, ia, b1, b1', b0, g1]
        · have b1' : ¬ (1 : Int) < b := by omega
          simp [m_amount_in, b_amount_in, fnM_e, sp, lcK_of, lc, fz, fin, b1, b1']
  | p :: q :: r :: t, _ =>
    have h2 : (2 : Int) < (t.length : Int) + 1 + 1 + 1 := by omega
    simp only [List.map_cons, List.map_nil] at lc fz fz2 sp fin ⊢
    simp at fz
    simp [m_amount_in, b_amount_in, fnM_e, sp, lcK_of, lc, fz, fin, h2]
/-- some amount -/
def someIn (l : List Nat) : Option Rat := match amtIn l with
  | some q => if q = 0 then none else some q
  | none => none
theorem v_some_in {l : List Nat} (hl : l.length ≤ 90000) : m_some_in [some (.sh (.str (S l)))] = .ok (optQ (someIn l)) [none] := by
  have va := v_amount_in hl
  unfold someIn
  cases e : amtIn l with
  | none =>
    rw [e] at va
    simp [m_some_in, b_some_in, fnM_e, va]
  | some q =>
    rw [e] at va
    have h1 : isNon (frD q) = false := rfl
    have h2 : fIx (frD q) (.int 0) = .ok (.int q.num) := by unfold frD; simp
    by_cases h : q = 0
    · subst h
      simp [m_some_in, b_some_in, fnM_e, va, h1, h2]
    · have hn : ¬ q.num = 0 := fun z => h (Rat.num_eq_zero.mp z)
      simp [m_some_in, b_some_in, fnM_e, va, h1, h2, h, hn]
def stallIn (w : Wb) (l : List Nat) : Option Nat := match numIn l 9 with
  | some n => if n < w.ss.length then some n else none
  | none => none
theorem v_stall_in {w : Wb} {l : List Nat} (hl : l.length ≤ 90000) : m_stall_in [some (.sh (webD w)), some (.sh (.str (S l)))] = .ok (optI (stallIn w l)) [none, none] := by
  have vn : m_number_in [some (.sh (.str (S l))), some (.sh (.int 9))] = _ := v_number_in (l := l) (most := 9) (by omega) (by decide)
  unfold stallIn
  cases e : numIn l 9 with
  | none =>
    rw [e] at vn
    simp [m_stall_in, b_stall_in, fnM_e, vn]
  | some n =>
    rw [e] at vn
    have vi := v_is_index (w := w) (d := .int n) (by simp)
    have h : isWare w.ss.length (.int n) = decide (n < w.ss.length) := by simp [isWare]
    rw [h] at vi
    by_cases c : n < w.ss.length
    · simp [m_stall_in, b_stall_in, fnM_e, vn, vi, c]
    · simp [m_stall_in, b_stall_in, fnM_e, vn, vi, c]
/-- a ware and a stall that it has -/
def wsIn (w : Wb) (x y : List Nat) : Option (Nat × Nat) := match numIn x 9, stallIn w y with
  | some ware, some i => match w.ss[i]? with
    | some s => if (ware : Int) < w.n ∧ ((ware : Int) = s.u ∨ (ware : Int) = s.v) then some (ware, i) else none
    | none => none
  | _, _ => none
def optP : Option (Nat × Nat) → D
  | none => .non
  | some (a, b) => .tup [.int a, .int b]
@[simp] theorem noOwn_optP (o) : noOwn (optP o) = true := by rcases o with _ | ⟨a, b⟩ <;> simp [optP]
theorem in_two (a u v : Int) : fIn true (.int a) (.tup [.int u, .int v]) = .ok (.bl (!(decide (a = u) || decide (a = v)))) := by
  show (if flatD (.int a) = true ∧ [D.int u, .int v].all flatD = true then P.ok (D.bl (if true = true then !inD (.int a) [.int u, .int v] else inD (.int a) [.int u, .int v])) else .stk) = _
  rw [if_pos ⟨rfl, rfl⟩]
  have q : ∀ z : Int, (z == a) = decide (a = z) := by
    intro z
    rw [Bool.eq_iff_iff, beq_iff_eq, decide_eq_true_iff]
    exact eq_comm
  simp [inD, py, PyData.eqv, q]
theorem v_ware_and_stall {w : Wb} {x y : List Nat} {o : Bool} {r : List D} (hx : x.length ≤ 90000) (hy : y.length ≤ 90000) : m_ware_and_stall [some (.sh (webD w)), some (.sh (.lst o (.str (S x) :: .str (S y) :: r)))] = .ok (optP (wsIn w x y)) [none, none] := by
  have vn : m_number_in [some (.sh (.str (S x))), some (.sh (.int 9))] = _ := v_number_in (l := x) (most := 9) (by omega) (by decide)
  have vs := v_stall_in (w := w) hy
  unfold wsIn
  cases e : numIn x 9 with
  | none =>
    rw [e] at vn
    simp [m_ware_and_stall, b_ware_and_stall, fnM_e, vn, vs, optP]
  | some n =>
    rw [e] at vn
    cases e2 : stallIn w y with
    | none =>
      rw [e2] at vs
      simp [m_ware_and_stall, b_ware_and_stall, fnM_e, vn, vs, optP]
    | some i =>
      rw [e2] at vs
      have hi : i < w.ss.length := by
        unfold stallIn at e2
        split at e2
        · split at e2
          · cases e2; assumption
          · cases e2
        · cases e2
      have vw := v_is_ware_below (d := .int n) (n := w.n) (by simp)
      have hw : isWare w.n (.int n) = decide ((n : Int) < w.n) := by simp [isWare]
      rw [hw] at vw
      have es : w.ss[i]? = some w.ss[i] := List.getElem?_eq_getElem hi
      have ix : fIx (.tup (w.ss.map stD)) (.int i) = .ok (stD w.ss[i]) := fIx_tup _ _ (DL.atI_nat (by rw [List.getElem?_map, es]; rfl))
      have sl : fSl (stD w.ss[i]) none (some 2) = .ok (.tup [.int w.ss[i].u, .int w.ss[i].v]) := by unfold stD; simp
      dsimp only
      rw [es]
      dsimp only
      by_cases c : (n : Int) < w.n
      · by_cases d : (n : Int) = w.ss[i].u ∨ (n : Int) = w.ss[i].v
        · have it := in_two n w.ss[i].u w.ss[i].v
          have d' : (decide ((n : Int) = w.ss[i].u) || decide ((n : Int) = w.ss[i].v)) = true := by simpa using d
          rw [d'] at it
          simp [m_ware_and_stall, b_ware_and_stall, fnM_e, vn, vs, vw, c, ix, sl, it, d, optP]
        · have it := in_two n w.ss[i].u w.ss[i].v
          have d' : (decide ((n : Int) = w.ss[i].u) || decide ((n : Int) = w.ss[i].v)) = false := by simpa using d
          rw [d'] at it
          simp [m_ware_and_stall, b_ware_and_stall, fnM_e, vn, vs, vw, c, ix, sl, it, d, optP]
      · simp [m_ware_and_stall, b_ware_and_stall, fnM_e, vn, vs, vw, c, optP]
end G
/-! X10 -/
set_option Elab.async false
set_option linter.all false
set_option maxRecDepth 100000
set_option maxHeartbeats 1000000
namespace G
open PySem PySem.Spec PyProof.Rows L2 DL SX
inductive Deed where
  | put (w i : Nat) (a : Rat)
  | part (p : List Nat) (w i : Nat)
  | to (i : Nat) (a : Rat)
  | times (k : Nat) (ds : List Deed)
abbrev wPut : List Nat := [112, 117, 116]
abbrev wAll : List Nat := [97, 108, 108]
abbrev wHalf : List Nat := [104, 97, 108, 102]
abbrev wTo : List Nat := [116, 111]
abbrev wTimes : List Nat := [116, 105, 109, 101, 115]
abbrev wEnd : List Nat := [101, 110, 100]
mutual
def deedD : Deed → D
  | .put w i a => .tup [.str (S wPut), .int w, .int i, frD a]
  | .part p w i => .tup [.str (S p), .int w, .int i]
  | .to i a => .tup [.str (S wTo), .int i, frD a]
  | .times k ds => .tup [.str (S wTimes), .int k, .lst false (deedsD ds)]
def deedsD : List Deed → List D
  | [] => []
  | d :: ds => deedD d :: deedsD ds
end
mutual
@[simp] theorem noOwn_deed : ∀ d : Deed, noOwn (deedD d) = true
  | .put w i a => by simp [deedD]
  | .part p w i => by simp [deedD]
  | .to i a => by simp [deedD]
  | .times k ds => by simp [deedD, noOwn_deeds ds]
@[simp] theorem noOwn_deeds : ∀ ds : List Deed, noOwnL (deedsD ds) = true
  | [] => by simp [deedsD]
  | d :: ds => by simp [deedsD, noOwn_deed d, noOwn_deeds ds]
end
@[simp] theorem frz_deed (d : Deed) : frzAll (deedD d) = deedD d := frzAll_id (noOwn_deed d)
@[simp] theorem frz_deeds (ds : List Deed) : frzL (deedsD ds) = deedsD ds := frzL_id (noOwn_deeds ds)
theorem deedsD_app : ∀ a b : List Deed, deedsD (a ++ b) = deedsD a ++ deedsD b
  | [], b => by simp [deedsD]
  | d :: a, b => by simp [deedsD, deedsD_app a b]
theorem deedsD_len : ∀ a : List Deed, (deedsD a).length = a.length
  | [] => by simp [deedsD]
  | d :: a => by simp [deedsD, deedsD_len a]
def wordsD (ps : List (List Nat)) : D := .lst false (ps.map fun p => .str (S p))
def deedIn (w : Wb) (ps : List (List Nat)) : Option Deed := match ps with
  | [p, x, y, z] => if p = wPut then (match someIn x, wsIn w y z with
    | some a, some (k, i) => some (.put k i a)
    | _, _ => none) else none
  | [p, x, y] => if p = wAll ∨ p = wHalf then (match wsIn w x y with
      | some (k, i) => some (.part p k i)
      | none => none)
    else if p = wTo then (match stallIn w x, someIn y with
      | some i, some a => some (.to i a)
      | _, _ => none) else none
  | _ => none
def optDeed : Option Deed → D
  | none => .non
  | some d => deedD d
@[simp] theorem optDeed_none : optDeed none = .non := rfl
@[simp] theorem optDeed_some (d) : optDeed (some d) = deedD d := rfl
@[simp] theorem noOwn_optDeed (o) : noOwn (optDeed o) = true := by cases o <;> simp [noOwn_deed]
theorem in_two_str (a u v : List Nat) : fIn false (.str (S a)) (.tup [.str (S u), .str (S v)]) = .ok (.bl (decide (a = u) || decide (a = v))) := by
  show (if flatD (.str (S a)) = true ∧ [D.str (S u), .str (S v)].all flatD = true then P.ok (D.bl (if false = true then !inD (.str (S a)) [.str (S u), .str (S v)] else inD (.str (S a)) [.str (S u), .str (S v)])) else .stk) = _
  rw [if_pos ⟨rfl, rfl⟩]
  have q : ∀ z : List Nat, (S z == S a) = decide (a = z) := by
    intro z
    rw [Bool.eq_iff_iff, beq_iff_eq, decide_eq_true_iff, S_eq]
    exact eq_comm
  simp [inD, py, PyData.eqv, q]
@[simp] theorem isNon_optP_some (k i) : isNon (optP (some (k, i))) = false := rfl
@[simp] theorem isNon_optP_none : isNon (optP none) = true := rfl
@[simp] theorem isNon_fr (q) : isNon (frD q) = false := rfl
theorem v_deed_in {w : Wb} {ps : List (List Nat)} (h : ps ≠ []) (hp : ∀ p ∈ ps, p.length ≤ 90000) : m_deed_in [some (.sh (webD w)), some (.sh (wordsD ps))] = .ok (optDeed (deedIn w ps)) [none, none] := by
  unfold wordsD
  match ps, h with
  | [p], _ => 
    have it := in_two_str p wAll wHalf
    simp [m_deed_in, b_deed_in, fnM_e, S_eq, it, deedIn]
  | [p, x], _ =>
    have it := in_two_str p wAll wHalf
    simp [m_deed_in, b_deed_in, fnM_e, S_eq, it, deedIn]
  | [p, x, y], _ =>
    have it := in_two_str p wAll wHalf
    have hx : x.length ≤ 90000 := hp x (by simp)
    have hy : y.length ≤ 90000 := hp y (by simp)
    have vw := v_ware_and_stall (w := w) (o := false) (r := []) hx hy
    have vs := v_stall_in (w := w) hx
    have vy := v_some_in hy
    by_cases c : p = wAll ∨ p = wHalf
    · have c' : (decide (p = wAll) || decide (p = wHalf)) = true := by simpa using c
      rw [c'] at it
      have np : ¬ p = wPut := by rintro rfl; revert c; decide
      rcases e : wsIn w x y with _ | ⟨k, i⟩
      · rw [e] at vw
        simp [m_deed_in, b_deed_in, fnM_e, S_eq, it, deedIn, np, vw, e, c]
      · rw [e] at vw
        simp [m_deed_in, b_deed_in, fnM_e, S_eq, it, deedIn, np, vw, e, c]
        simp [optP, deedD]
    · have c' : (decide (p = wAll) || decide (p = wHalf)) = false := by simpa using c
      rw [c'] at it
      have c1 : ¬ p = wAll := fun z => c (.inl z)
      have c2 : ¬ p = wHalf := fun z => c (.inr z)
      by_cases d : p = wTo
      · subst d
        cases e1 : stallIn w x with
        | none =>
          rw [e1] at vs
          simp [m_deed_in, b_deed_in, fnM_e, S_eq, it, deedIn, vs, vy, e1]
        | some i =>
          rw [e1] at vs
          cases e2 : someIn y with
          | none =>
            rw [e2] at vy
            simp [m_deed_in, b_deed_in, fnM_e, S_eq, it, deedIn, vs, vy, e1, e2]
          | some a =>
            rw [e2] at vy
            simp [m_deed_in, b_deed_in, fnM_e, S_eq, it, deedIn, vs, vy, e1, e2]
            simp [deedD]
      · simp [m_deed_in, b_deed_in, fnM_e, S_eq, it, deedIn, c1, c2, d]
  | [p, x, y, z], _ =>
    have it := in_two_str p wAll wHalf
    have hx : x.length ≤ 90000 := hp x (by simp)
    have vw := v_ware_and_stall (w := w) (o := false) (r := []) (hp y (by simp)) (hp z (by simp))
    have vy := v_some_in hx
    by_cases c : p = wPut
    · cases e1 : someIn x with
      | none =>
        rw [e1] at vy
        simp [m_deed_in, b_deed_in, fnM_e, S_eq, deedIn, c, vy, vw, e1]
      | some a =>
        rw [e1] at vy
        rcases e : wsIn w y z with _ | ⟨k, i⟩
        · rw [e] at vw
          simp [m_deed_in, b_deed_in, fnM_e, S_eq, deedIn, c, vy, vw, e1, e]
        · rw [e] at vw
          simp [m_deed_in, b_deed_in, fnM_e, S_eq, deedIn, c, vy, vw, e1, e]
          simp [optP, deedD]
    · simp [m_deed_in, b_deed_in, fnM_e, S_eq, it, deedIn, c]
  | p :: x :: y :: z :: t :: r, _ =>
    have it := in_two_str p wAll wHalf
    have l4 : ¬ (r.length : Int) + 1 + 1 + 1 + 1 + 1 = 4 := by omega
    have l3 : ¬ (r.length : Int) + 1 + 1 + 1 + 1 + 1 = 3 := by omega
    simp [m_deed_in, b_deed_in, fnM_e, S_eq, it, deedIn, l4, l3]
def timesIn (ps : List (List Nat)) : Option Nat := match ps with
  | [p, x] => if p = wTimes then (match numIn x 9 with
    | some n => if n ≤ 20 then some n else none
    | none => none) else none
  | _ => none
theorem v_times_in {ps : List (List Nat)} (h : ps ≠ []) (hp : ∀ p ∈ ps, p.length ≤ 90000) : m_times_in [some (.sh (wordsD ps))] = .ok (optI (timesIn ps)) [none] := by
  unfold wordsD
  match ps, h with
  | [p], _ => simp [m_times_in, b_times_in, fnM_e, S_eq, timesIn]
  | [p, x], _ =>
    have vn : m_number_in [some (.sh (.str (S x))), some (.sh (.int 9))] = _ := v_number_in (l := x) (most := 9) (by have := hp x (by simp); omega) (by decide)
    by_cases e : p = wTimes
    · cases q : numIn x 9 with
      | none =>
        rw [q] at vn
        simp [m_times_in, b_times_in, fnM_e, S_eq, timesIn, e, vn, q]
      | some n =>
        rw [q] at vn
        by_cases c : n ≤ 20
        · have c' : (n : Int) ≤ 20 := by omega
          simp [m_times_in, b_times_in, fnM_e, S_eq, timesIn, e, vn, q, c, c']
        · have c' : ¬ (n : Int) ≤ 20 := by omega
          simp [m_times_in, b_times_in, fnM_e, S_eq, timesIn, e, vn, q, c, c']
    · simp [m_times_in, b_times_in, fnM_e, S_eq, timesIn, e]
  | p :: x :: y :: r, _ =>
    have l2 : ¬ (r.length : Int) + 1 + 1 + 1 = 2 := by omega
    simp [m_times_in, b_times_in, fnM_e, S_eq, timesIn, l2]
end G
/-! X11 -/
set_option Elab.async false
set_option linter.all false
set_option maxRecDepth 100000
set_option maxHeartbeats 1000000
namespace G
open PySem PySem.Spec PyProof.Rows L2 DL SX
/-- frames, the last one first -/
abbrev Stk := List (Nat × List Deed)
def frameD (p : Nat × List Deed) : D := .tup [.int p.1, .lst true (deedsD p.2)]
def stkD (st : Stk) : D := .lst true (st.map frameD).reverse
def stepO (w : Wb) (st : Stk) (line : List Nat) : Option Stk := match st with
  | [] => none
  | (k, ds) :: rest =>
    if line = wEnd ∧ rest ≠ [] then (match rest with
      | [] => none
      | (k2, ds2) :: rest2 => some ((k2, ds2 ++ [.times k ds]) :: rest2))
    else if (timesIn (TL.spl [32] 0 [] line)).isSome ∧ rest.length ≤ 3 then some (((timesIn (TL.spl [32] 0 [] line)).getD 0, []) :: (k, ds) :: rest)
    else match deedIn w (TL.spl [32] 0 [] line) with
      | some d => some ((k, ds ++ [d]) :: rest)
      | none => none
def goO (w : Wb) : List (List Nat) → Nat → Stk → Except Nat Stk
  | [], _, st => .ok st
  | l :: ls, i, st => match stepO w st l with
    | some st' => goO w ls (i + 1) st'
    | none => .error i
def pushD (k : Nat) (ds : List Deed) (x : D) (rest : Stk) : D := .lst true ((rest.map frameD).reverse ++ [.tup [.int k, .lst true (deedsD ds ++ [x])]])
theorem pushD_deed (k : Nat) (ds : List Deed) (d : Deed) (rest : Stk) : pushD k ds (deedD d) rest = stkD ((k, ds ++ [d]) :: rest) := by
  simp [pushD, stkD, frameD, deedsD_app, deedsD]
theorem pushD_times (k k2 : Nat) (ds ds2 : List Deed) (rest : Stk) : pushD k2 ds2 (.tup [.str (S [116, 105, 109, 101, 115]), .int k, .lst false (deedsD ds)]) rest = stkD ((k2, ds2 ++ [.times k ds]) :: rest) := by
  rw [← pushD_deed]
  simp [deedD]
section
variable {a0 a1 a2 : Option DL.Slot} {r ρ' : DL.Env} {k : Nat} {ds : List Deed} {rest st : Stk}
theorem stk_g : ((rest.map frameD).reverse ++ [frameD (k, ds)])[rest.length]? = some (frameD (k, ds)) := by
  rw [List.getElem?_append_right (by simp)]; simp
theorem stk_cons : stkD ((k, ds) :: rest) = .lst true ((rest.map frameD).reverse ++ [frameD (k, ds)]) := by simp [stkD]
theorem mutAt_last {x : D} (h : ds.length < 100000) : mutAt tab 3 [.at (.int 1), .at (.int (-1))] fAppend [x] (a0 :: a1 :: a2 :: some (.dp (stkD ((k, ds) :: rest))) :: r) = .ok .non (a0 :: a1 :: a2 :: some (.dp (pushD k ds x rest)) :: r) := by
  have rd : rowDat (a0 :: a1 :: a2 :: some (.dp (stkD ((k, ds) :: rest))) :: r) 3 = some (stkD ((k, ds) :: rest)) := rfl
  have g := stk_g (rest := rest) (k := k) (ds := ds)
  have st : ∀ y, ((rest.map frameD).reverse ++ [frameD (k, ds)]).set rest.length y = (rest.map frameD).reverse ++ [y] := fun y => by
    rw [List.set_append_right _ _ (by simp)]; simp
  rw [mutAt_e, rd, stk_cons]
  simp [ixN_last, g, st]
  simp [frameD, deedsD_len, h, pushD]
theorem mutK_last {as : DL.Env → R (List D)} : mutK tab true 3 fAppend as (a0 :: a1 :: a2 :: some (.dp (stkD ((k, ds) :: rest))) :: r) (.ok [.at (.int 1), .at (.int (-1))] ρ') = (as (a0 :: a1 :: a2 :: some (.dp (stkD ((k, ds) :: rest))) :: r)).bind fun ds ρ1 => mutAt tab 3 [.at (.int 1), .at (.int (-1))] fAppend ds ρ1 := by
  have rd : rowDat (a0 :: a1 :: a2 :: some (.dp (stkD ((k, ds) :: rest))) :: r) 3 = some (stkD ((k, ds) :: rest)) := rfl
  rw [mutK_ok]
  · rfl
  · rw [rd, stk_cons]
    simp [ixN_last, stk_g]
    simp [frameD]
theorem mutK_top {pb : Bool} {f : D → List D → Option (D × D)} {as : DL.Env → R (List D)} : mutK tab pb 3 f as (a0 :: a1 :: a2 :: some (.dp (stkD st)) :: r) (.ok [] ρ') = (as (a0 :: a1 :: a2 :: some (.dp (stkD st)) :: r)).bind fun ds ρ1 => mutAt tab 3 [] f ds ρ1 := by
  have rd : rowDat (a0 :: a1 :: a2 :: some (.dp (stkD st)) :: r) 3 = some (stkD st) := rfl
  rw [mutK_ok]
  · cases pb <;> rfl
  · rw [rd]; rfl
theorem mutAt_push {n : Nat} (h : st.length < 100000) : mutAt tab 3 [] fAppend [.tup [.int n, .lst true []]] (a0 :: a1 :: a2 :: some (.dp (stkD st)) :: r) = .ok .non (a0 :: a1 :: a2 :: some (.dp (stkD ((n, []) :: st))) :: r) := by
  have rd : rowDat (a0 :: a1 :: a2 :: some (.dp (stkD st)) :: r) 3 = some (stkD st) := rfl
  rw [mutAt_e, rd]
  simp [stkD, h, frameD, deedsD]
theorem mutAt_pop : mutAt tab 3 [] fPop [] (a0 :: a1 :: a2 :: some (.dp (stkD ((k, ds) :: rest))) :: r) = .ok (.tup [.int k, .lst true (deedsD ds)]) (a0 :: a1 :: a2 :: some (.dp (stkD rest)) :: r) := by
  have rd : rowDat (a0 :: a1 :: a2 :: some (.dp (stkD ((k, ds) :: rest))) :: r) 3 = some (stkD ((k, ds) :: rest)) := rfl
  rw [mutAt_e, rd, stk_cons]
  simp [fPop_e, stkD, frameD]
end
theorem spl_all (s : Nat) (l : List Nat) (hl : l.length ≤ 90000) : ∀ p ∈ TL.spl [s] 0 [] l, p.length ≤ 90000 := fun p m => by
  have := spl_parts s l [] p m
  simp at this
  omega
theorem deed_notIsNon (d : Deed) : isNon (deedD d) = false := by cases d <;> rfl
theorem v_step {w : Wb} {st : Stk} {line : List Nat} {i : Nat} {a1 a2 : Option DL.Slot} {r6 r7 r8 r9 r10 : Option DL.Slot} (hn : st ≠ []) (hl : line.length ≤ 90000) (hs : st.length ≤ 1000) (hd : ∀ p ∈ st, p.2.length < 100000) :
    ∃ r6' r7' r8' r9' r10' : Option DL.Slot, k_read_orders_1 [some (.sh (webD w)), a1, a2, some (.dp (stkD st)), some (.sh (.int i)), some (.sh (.str (S line))), r6, r7, r8, r9, r10] =
      match stepO w st line with
      | some st' => .ok .nx [some (.sh (webD w)), a1, a2, some (.dp (stkD st')), some (.sh (.int i)), some (.sh (.str (S line))), r6', r7', r8', r9', r10']
      | none => .exc n_BadText [.int i] [some (.sh (webD w)), a1, a2, some (.dp (stkD st)), some (.sh (.int i)), some (.sh (.str (S line))), r6', r7', r8', r9', r10'] := by
  obtain ⟨⟨k, ds⟩, rest, rfl⟩ : ∃ p rest, st = p :: rest := List.exists_cons_of_ne_nil hn
  have sp := fSplit_S (l := line) (b := [32]) (by simp) (by decide) (by omega)
  have ne := spl_ne 32 line
  have pl := spl_all 32 line hl
  unfold stepO
  generalize hps : TL.spl [32] 0 [] line = ps at *
  have vt := v_times_in ne pl
  have vd := v_deed_in (w := w) ne pl
  have fz : frzL (ps.map fun p => D.str (S p)) = ps.map fun p => D.str (S p) := frzL_id' _ _ (fun _ _ => by simp)
  unfold wordsD at vt vd
  have len : lenD (stkD ((k, ds) :: rest)) = some ((rest.length : Int) + 1) := by simp [stkD]
  have hds : ds.length < 100000 := hd (k, ds) (by simp)
  have nf := fun d => deed_notIsNon d
  have hs' : ((k, ds) :: rest).length < 100000 := by omega
  dsimp only
  by_cases he : line = wEnd ∧ rest ≠ []
  · rw [if_pos he]
    obtain ⟨rfl, hr⟩ := he
    obtain ⟨⟨k2, ds2⟩, rest2, rfl⟩ : ∃ p rest2, rest = p :: rest2 := List.exists_cons_of_ne_nil hr
    have hds2 : ds2.length < 100000 := hd (k2, ds2) (by simp)
    have l2 : (1 : Int) < (rest2.length : Int) + 1 + 1 := by omega
    simp [k_read_orders_1, sp, fz, vt, vd, S_eq, len, l2, mutK_top, mutAt_pop, mutK_last, mutAt_last hds2, pushD_times]
  · rw [if_neg he]
    have he2 : line = wEnd → ¬ (1 : Int) < (rest.length : Int) + 1 := fun z1 z2 => he ⟨z1, by rintro rfl; simp at z2⟩
    have c1 : (if line = wEnd then decide ((1 : Int) < (rest.length : Int) + 1) else false) = false := by
      split
      · rename_i z; simpa using he2 z
      · rfl
    by_cases e1 : line = wEnd
    · have e2 := he2 e1
      subst e1
      cases ht : timesIn ps with
      | none =>
        rw [ht] at vt
        cases hd2 : deedIn w ps with
        | none =>
          rw [hd2] at vd
          simp [k_read_orders_1, sp, fz, vt, vd, S_eq, len, e2]
        | some d =>
          rw [hd2] at vd
          simp [k_read_orders_1, sp, fz, vt, vd, S_eq, len, e2, nf, mutK_last, mutAt_last hds, pushD_deed]
      | some n =>
        rw [ht] at vt
        by_cases h3 : rest.length ≤ 3
        · have h3' : (rest.length : Int) + 1 ≤ 4 := by omega
          simp [k_read_orders_1, sp, fz, vt, vd, S_eq, len, e2, h3, h3', mutK_top, mutAt_push hs']
        · have h3' : ¬ (rest.length : Int) + 1 ≤ 4 := by omega
          cases hd2 : deedIn w ps with
          | none =>
            rw [hd2] at vd
            simp [k_read_orders_1, sp, fz, vt, vd, S_eq, len, e2, h3, h3']
          | some d =>
            rw [hd2] at vd
            simp [k_read_orders_1, sp, fz, vt, vd, S_eq, len, e2, h3, h3', nf, mutK_last, mutAt_last hds, pushD_deed]
    · skip
      cases ht : timesIn ps with
      | none =>
        rw [ht] at vt
        cases hd2 : deedIn w ps with
        | none =>
          rw [hd2] at vd
          simp [k_read_orders_1, sp, fz, vt, vd, S_eq, len, e1]
        | some d =>
          rw [hd2] at vd
          simp [k_read_orders_1, sp, fz, vt, vd, S_eq, len, e1, nf, mutK_last, mutAt_last hds, pushD_deed]
      | some n =>
        rw [ht] at vt
        by_cases h3 : rest.length ≤ 3
        · have h3' : (rest.length : Int) + 1 ≤ 4 := by omega
          simp [k_read_orders_1, sp, fz, vt, vd, S_eq, len, e1, h3, h3', mutK_top, mutAt_push hs']
        · have h3' : ¬ (rest.length : Int) + 1 ≤ 4 := by omega
          cases hd2 : deedIn w ps with
          | none =>
            rw [hd2] at vd
            simp [k_read_orders_1, sp, fz, vt, vd, S_eq, len, e1, h3, h3']
          | some d =>
            rw [hd2] at vd
            simp [k_read_orders_1, sp, fz, vt, vd, S_eq, len, e1, h3, h3', nf, mutK_last, mutAt_last hds, pushD_deed]
end G
/-! X12 -/
set_option Elab.async false
set_option linter.all false
set_option maxRecDepth 100000
set_option maxHeartbeats 1000000
namespace G
open PySem PySem.Spec PyProof.Rows L2 DL SX
theorem stepO_inv {w : Wb} {st st' : Stk} {l : List Nat} {m : Nat} (h : stepO w st l = some st') (h5 : st.length ≤ 5) (hm : ∀ p ∈ st, p.2.length ≤ m) : st' ≠ [] ∧ st'.length ≤ 5 ∧ ∀ p ∈ st', p.2.length ≤ m + 1 := by
  unfold stepO at h
  split at h
  · cases h
  · rename_i k ds rest
    have hk : ds.length ≤ m := hm (k, ds) (by simp)
    have hr : ∀ p ∈ rest, p.2.length ≤ m := fun p q => hm p (List.mem_cons_of_mem _ q)
    simp only [List.length_cons] at h5
    split at h
    · split at h
      · cases h
      · rename_i _ k2 ds2 rest2 _
        cases h
        have h2 : ds2.length ≤ m := hr (k2, ds2) (by simp)
        simp only [List.length_cons] at h5
        refine ⟨by simp, by simp; omega, fun p q => ?_⟩
        rcases List.mem_cons.mp q with rfl | q
        · simp; omega
        · exact Nat.le_succ_of_le (hr p (List.mem_cons_of_mem _ q))
    · split at h
      · rename_i c
        cases h
        refine ⟨by simp, by simp; omega, fun p q => ?_⟩
        rcases List.mem_cons.mp q with rfl | q
        · simp
        · rcases List.mem_cons.mp q with rfl | q
          · simp; omega
          · exact Nat.le_succ_of_le (hr p q)
      · split at h
        · cases h
          refine ⟨by simp, by simpa using h5, fun p q => ?_⟩
          rcases List.mem_cons.mp q with rfl | q
          · simp; omega
          · exact Nat.le_succ_of_le (hr p q)
        · cases h
theorem go_loop {w : Wb} {a1 a2 : Option DL.Slot} : ∀ (ls : List (List Nat)) (i : Nat) (st : Stk) (m : Nat) (r4 r5 r6 r7 r8 r9 r10 : Option DL.Slot), (∀ l ∈ ls, l.length ≤ 90000) → st ≠ [] → st.length ≤ 5 → (∀ p ∈ st, p.2.length ≤ m) → m + ls.length < 100000 →
    (forM (gTupM (gsCons (gS 4) (gsCons (gS 5) gsNil))) k_read_orders_1 (enumF i (ls.map fun l => .str (S l))) [some (.sh (webD w)), a1, a2, some (.dp (stkD st)), r4, r5, r6, r7, r8, r9, r10]).sat
      (fun fl ρ => fl = .nx ∧ ∃ st', goO w ls i st = .ok st' ∧ st' ≠ [] ∧ ∃ r4 r5 r6 r7 r8 r9 r10, ρ = [some (.sh (webD w)), a1, a2, some (.dp (stkD st')), r4, r5, r6, r7, r8, r9, r10])
      (fun c xs ρ => c = n_BadText ∧ ∃ j, goO w ls i st = .error j ∧ xs = [.int j])
  | [], i, st, m, r4, r5, r6, r7, r8, r9, r10, _, hn, _, _, _ => ⟨rfl, st, rfl, hn, _, _, _, _, _, _, _, rfl⟩
  | l :: ls, i, st, m, r4, r5, r6, r7, r8, r9, r10, hl, hn, h5, hm, hb => by
    simp only [List.length_cons] at hb
    obtain ⟨r6', r7', r8', r9', r10', e⟩ := v_step (w := w) (line := l) (i := i) (a1 := a1) (a2 := a2) (r6 := r6) (r7 := r7) (r8 := r8) (r9 := r9) (r10 := r10) hn (hl l (by simp)) (by omega) fun p q => by have := hm p q; omega
    rw [List.map_cons, enumF]
    unfold DL.forM
    have g : gTupM (gsCons (gS 4) (gsCons (gS 5) gsNil)) (.tup [.int i, .str (S l)]) [some (.sh (webD w)), a1, a2, some (.dp (stkD st)), r4, r5, r6, r7, r8, r9, r10] = some [some (.sh (webD w)), a1, a2, some (.dp (stkD st)), some (.sh (.int i)), some (.sh (.str (S l))), r6, r7, r8, r9, r10] := by simp
    rw [g]
    dsimp only
    rw [e]
    cases q : stepO w st l with
    | none =>
      show (_ : Prop) ∧ _
      refine ⟨rfl, i, ?_, rfl⟩
      unfold goO
      rw [q]
    | some st' =>
      obtain ⟨n2, l2, m2⟩ := stepO_inv q h5 hm
      have ih := go_loop (w := w) (a1 := a1) (a2 := a2) ls (i + 1) st' (m + 1) (some (.sh (.int i))) (some (.sh (.str (S l)))) r6' r7' r8' r9' r10' (fun l' q => hl l' (List.mem_cons_of_mem _ q)) n2 l2 m2 (by omega)
      have e2 : goO w (l :: ls) i st = goO w ls (i + 1) st' := by
        conv => lhs; unfold goO
        rw [q]
      rw [e2]
      exact ih
/-- the deeds that a text tells -/
def readO (w : Wb) (t : List Nat) : Except Int (List Deed) :=
  match goO w (if t = [] then [] else TL.spl [10] 0 [] t) 0 [(1, [])] with
  | .error j => .error j
  | .ok [(_, ds)] => .ok ds
  | .ok _ => .error ((if t = [] then [] else TL.spl [10] 0 [] t).length : Nat)
theorem isStr_S (l ρ) : isiK tg_str (.str (S l)) ρ = .ok (.bl true) ρ := rfl
theorem v_read_orders {w : Wb} {t : List Nat} (hl : t.length ≤ 90000) : m_read_orders [some (.sh (webD w)), some (.sh (.str (S t)))] = match readO w t with
    | .ok ds => .ok (.lst false (deedsD ds)) [none, none]
    | .error j => .exc n_BadText [.int j] [none, none] := by
  have sp := fSplit_S (l := t) (b := [10]) (by simp) (by decide) (by omega)
  have pl := spl_all 10 t hl
  have ln := spl_len 10 t []
  unfold readO
  have lsD : (dIf (dTest (dOp fNeA (dVar 1) (dC (.str (S []))))) (dMtS fSplit (dVar 1) (dCons (dC (.str (S [10]))) dNil)) (dLst dNil)) [some (.sh (webD w)), some (.sh (.str (S t))), none, none, none, none, none, none, none, none, none] =
      .ok (.lst true ((if t = [] then [] else TL.spl [10] 0 [] t).map fun l => .str (S l))) [some (.sh (webD w)), some (.sh (.str (S t))), none, none, none, none, none, none, none, none, none] := by
    by_cases h : t = []
    · subst h; simp
    · simp [S_eq, h, sp]
  have hls : ∀ l ∈ (if t = [] then [] else TL.spl [10] 0 [] t), l.length ≤ 90000 := by
    intro l m
    split at m
    · cases m
    · exact pl l m
  have hln : (if t = [] then [] else TL.spl [10] 0 [] t).length ≤ 90001 := by
    split
    · simp
    · omega
  generalize hq : (if t = [] then [] else TL.spl [10] 0 [] t) = ls at *
  have fz : frzL (ls.map fun p => D.str (S p)) = ls.map fun p => D.str (S p) := frzL_id' _ _ (fun _ _ => by simp)
  have lp := go_loop (w := w) (a1 := some (.sh (.str (S t)))) (a2 := some (.sh (.lst false (ls.map fun l => .str (S l))))) ls 0 [(1, [])] 0 none none none none none none none hls (by simp) (by simp) (by simp) (by omega)
  have s0 : stkD [(1, [])] = .lst true [.tup [.int 1, .lst true []]] := rfl
  rw [s0] at lp
  cases hf : DL.forM (gTupM (gsCons (gS 4) (gsCons (gS 5) gsNil))) k_read_orders_1 (enumF 0 (ls.map fun l => .str (S l))) [some (.sh (webD w)), some (.sh (.str (S t))), some (.sh (.lst false (ls.map fun l => .str (S l)))), some (.dp (.lst true [.tup [.int 1, .lst true []]])), none, none, none, none, none, none, none] with
  | stk => rw [hf] at lp; exact lp.elim
  | exc c xs ρ' =>
    rw [hf] at lp
    obtain ⟨rfl, j, e, rfl⟩ := lp
    rw [e]
    simp [m_read_orders, b_read_orders, fnM_e, isStr_S, -dIf_e, lsD, fz, frzRow, enumD_eq, hf]
  | ok fl ρ' =>
    rw [hf] at lp
    obtain ⟨rfl, st', e, n2, r4, r5, r6, r7, r8, r9, r10, rfl⟩ := lp
    rw [e]
    match st', n2 with
    | [(k, ds)], _ =>
      simp [m_read_orders, b_read_orders, fnM_e, isStr_S, -dIf_e, lsD, fz, frzRow, enumD_eq, hf, stkD, frameD]
    | p :: q :: r, _ =>
      have l1 : (1 : Int) < (r.length : Int) + 1 + 1 := by omega
      simp [m_read_orders, b_read_orders, fnM_e, isStr_S, -dIf_e, lsD, fz, frzRow, enumD_eq, hf, stkD, frzL_map, l1]
      intro z
      exact absurd z (by omega)
end G
/-! X13 -/
set_option Elab.async false
set_option linter.all false
set_option maxRecDepth 100000
set_option maxHeartbeats 1000000
namespace G
open PySem PySem.Spec PyProof.Rows L2 DL SX
structure Mv where
  i : Nat
  k : Int
  a : Rat
def mvD (m : Mv) : D := .tup [.int m.i, .int m.k, frD m.a]
@[simp] theorem noOwn_mvD (m) : noOwn (mvD m) = true := by simp [mvD]
@[simp] theorem frz_mvD (m) : frzAll (mvD m) = mvD m := frzAll_id (noOwn_mvD m)
structure Rn where
  w : Wb
  own : List Rat
  mv : List Mv
def runO (r : Rn) : D := .ins true n_Run [n_web, n_own, n_moves] [webD r.w, .lst true (r.own.map exD), .lst true (r.mv.map mvD)]
section
variable (r : Rn) (o : Bool) (w : Wb)
@[simp] theorem ix_run_web : idx1 tab (.fld n_web) (runO r) = some 0 := (rfl)
@[simp] theorem ix_run_own : idx1 tab (.fld n_own) (runO r) = some 1 := (rfl)
@[simp] theorem ix_run_moves : idx1 tab (.fld n_moves) (runO r) = some 2 := (rfl)
@[simp] theorem ix_runI_web (xs) : idx1 tab (.fld n_web) (.ins o n_Run [n_web, n_own, n_moves] xs) = some 0 := (rfl)
@[simp] theorem ix_runI_own (xs) : idx1 tab (.fld n_own) (.ins o n_Run [n_web, n_own, n_moves] xs) = some 1 := (rfl)
@[simp] theorem ix_runI_moves (xs) : idx1 tab (.fld n_moves) (.ins o n_Run [n_web, n_own, n_moves] xs) = some 2 := (rfl)
@[simp] theorem kids_run : kids (runO r) = [webD r.w, .lst true (r.own.map exD), .lst true (r.mv.map mvD)] := (rfl)
@[simp] theorem canPut_run : canPut (runO r) = true := (rfl)
@[simp] theorem withK_run (xs) : withK (runO r) xs = .ins true n_Run [n_web, n_own, n_moves] xs := (rfl)
@[simp] theorem isOwn_run : isOwn (runO r) = true := (rfl)
theorem run_fold (own : List Rat) (mv : List Mv) : D.ins true n_Run [n_web, n_own, n_moves] [webD w, .lst true (own.map exD), .lst true (mv.map mvD)] = runO ⟨w, own, mv⟩ := (rfl)
@[simp] theorem ix_web_wares : idx1 tab (.fld n_wares) (webO o w) = some 0 := (rfl)
@[simp] theorem ix_web_stalls : idx1 tab (.fld n_stalls) (webO o w) = some 1 := (rfl)
@[simp] theorem kids_web : kids (webO o w) = [.int w.n, .tup (w.ss.map stD)] := (rfl)
theorem set_run_web (w' : Wb) : setFld tab n_web (runO r) (webD w') = some (runO { r with w := w' }) := (rfl)
@[simp] theorem isRecv_run (m : Str) (h : decide (m ∉ [n_web, n_own, n_moves]) = true) : isRecv n_Run m (runO r) = true := by
  show (decide (n_Run = n_Run) && decide (m ∉ [n_web, n_own, n_moves])) = true
  rw [h, decide_eq_true rfl]; rfl
end
def Rn.put (r : Rn) (i : Nat) (k : Nat) (a : Rat) (s : St) : Rn :=
  { w := (r.w.put i k a).1, own := (r.own.set k ((r.own[k]?).getD 0 - a)).set (s.oth k).toNat ((r.own[(s.oth k).toNat]?).getD 0 + (r.w.put i k a).2), mv := r.mv ++ [⟨i, k, a⟩] }
theorem v_put_many {r : Rn} {x y z : D} (h : r.mv.length = 200) : m_Run_put [some (.dp (runO r)), some (.sh x), some (.sh y), some (.sh z)] = .exc n_TooMany [.int 200] [some (.dp (runO r)), none, none, none] := by
  simp [m_Run_put, b_Run_put, fnM_e, h]
theorem v_put {r : Rn} {i k : Nat} {s : St} {a x1 x2 : Rat} {kk m n p q p2 : Nat} (h : r.mv.length < 200) (ok : r.w.ok) (hi : r.w.ss[i]? = some s) (hk : (k : Int) = s.u ∨ (k : Int) = s.v) (ha : 0 < a)
    (e1 : r.own[k]? = some x1) {j : Nat} (hj : s.oth k = (j : Int)) (e2 : r.own[j]? = some x2)
    (z : r.w.Sz 4500) (zr : Sz kk s.r) (zh : Sz m (s.at k + a)) (z1 : Sz n (s.at k)) (z2 : Sz n a) (hn : n ≤ 4500) (hkm : kk + kk + m ≤ 4000)
    (zx1 : Sz p x1) (hp : p + n ≤ 9000) (zx2 : Sz p2 x2) (zq : Sz q (r.w.put i k a).2) (hq : p2 + q ≤ 9000) :
    m_Run_put [some (.dp (runO r)), some (.sh (.int i)), some (.sh (.int k)), some (.sh (exD a))] = .ok .non [some (.dp (runO (r.put i k a s))), none, none, none] := by
  have h1 : ¬ (r.mv.length : Int) = 200 := by omega
  have il := ltOf hi
  have so := ok.ss s (List.mem_of_getElem? hi)
  have ne : k ≠ j := by
    intro z
    have : (k : Int) = s.oth k := by omega
    unfold St.oth at this
    have uv := so.uv
    split at this
    · omega
    · rcases hk with c | c <;> omega
  have pm := fun ρ => pair_m a ρ
  have ixs : (r.w.ss.map stD)[i]? = some (stD s) := by rw [List.getElem?_map, hi]; rfl
  have vo := v_other_ware s k
  rw [hj] at vo
  have vb := v_behind_move (ware := k) ok hi ha z zr zh z1 z2 hn hkm
  have os := own_sub zx1 z2 hp
  have oa := own_add zx2 zq hq
  have lk := ltOf e1
  have lo := ltOf e2
  have g1 : (r.own.map exD)[k]? = some (exD x1) := by rw [List.getElem?_map, e1]; rfl
  have ixn := ixN_nat il
  have ixk := ixN_nat lk
  have ixj := ixN_nat lo
  have g2 : ((r.own.map exD).set k (exD (x1 - a)))[j]? = some (exD x2) := by
    rw [List.getElem?_set_ne ne, List.getElem?_map, e2]; rfl
  have hm : r.mv.length < 100000 := by omega
  simp [m_Run_put, b_Run_put, fnM_e, h1, pm, ixn, ixs, hi, vo, vb, setAtM, rowDat_e, set_run_web, ixk, ixj, e1, e2, os, oa, ne, g2, mutK_ok, mutAt_e, hm]
  rw [← run_fold]
  simp [Rn.put, e1, e2, hj, mvD]
end G
/-! X14 -/
set_option Elab.async false
set_option linter.all false
set_option maxRecDepth 100000
set_option maxHeartbeats 1000000
namespace G
open PySem PySem.Spec PyProof.Rows L2 DL SX
def Rn.step (r : Rn) (i k : Nat) (a : Rat) : Rn := match r.w.ss[i]? with
  | some s => r.put i k a s
  | none => r
structure PutOk (r : Rn) (i k : Nat) (a : Rat) : Prop where
  l : r.mv.length ≤ 200
  ex : r.mv.length < 200 → ∃ (s : St) (j kk m n p q p2 : Nat) (x1 x2 : Rat), r.w.ok ∧ r.w.ss[i]? = some s ∧ ((k : Int) = s.u ∨ (k : Int) = s.v) ∧ 0 < a ∧ r.own[k]? = some x1 ∧ s.oth k = (j : Int) ∧ r.own[j]? = some x2 ∧
    r.w.Sz 4500 ∧ Sz kk s.r ∧ Sz m (s.at k + a) ∧ Sz n (s.at k) ∧ Sz n a ∧ n ≤ 4500 ∧ kk + kk + m ≤ 4000 ∧ Sz p x1 ∧ p + n ≤ 9000 ∧ Sz p2 x2 ∧ Sz q (r.w.put i k a).2 ∧ p2 + q ≤ 9000
/-- what a put tells -/
def putR (r : Rn) (i k : Nat) (a : Rat) (ρ : DL.Env) : R D := if r.mv.length = 200 then .exc n_TooMany [.int 200] (some (.dp (runO r)) :: ρ) else .ok .non (some (.dp (runO (r.step i k a))) :: ρ)
theorem v_putR {r : Rn} {i k : Nat} {a : Rat} (h : PutOk r i k a) : m_Run_put [some (.dp (runO r)), some (.sh (.int i)), some (.sh (.int k)), some (.sh (exD a))] = putR r i k a [none, none, none] := by
  unfold putR
  by_cases c : r.mv.length = 200
  · rw [if_pos c, v_put_many c]
  · rw [if_neg c]
    have := h.l
    obtain ⟨s, j, kk, m, n, p, q, p2, x1, x2, h1, h2, h3, h4, h5, h6, h7, h8, h9, h10, h11, h12, h13, h14, h15, h16, h17, h18, h19⟩ := h.ex (by omega)
    rw [v_put (by omega) h1 h2 h3 h4 h5 h6 h7 h8 h9 h10 h11 h12 h13 h14 h15 h16 h17 h18 h19]
    unfold Rn.step
    rw [h2]
theorem recv_run (r : Rn) (ρ : DL.Env) (m : DL.Env → R D) (mn : Str) (ps : DL.Env → R (List Pre)) (h : decide (mn ∉ [n_web, n_own, n_moves]) = true) : mthK clsAll n_Run mn m ps (.io 0) (some (.dp (runO r)) :: ρ) = (ps (some (.dp (runO r)) :: ρ)).bind fun ps ρ2 => doCall clsAll m (.io 0 :: ps) ρ2 :=
  mthK_of _ _ _ rfl (isRecv_run r mn h)
theorem call_put {r : Rn} {i k : Nat} {a : Rat} (h : PutOk r i k a) (ρ : DL.Env) : doCall clsAll m_Run_put [.io 0, .v (.int i), .v (.int k), .v (exD a)] (some (.dp (runO r)) :: ρ) = putR r i k a ρ := by
  have v := v_putR h
  unfold putR at v ⊢
  by_cases c : r.mv.length = 200
  · rw [if_pos c] at v ⊢
    exact doCall_ioX (i := 0) (xs := [.int i, .int k, exD a]) rfl v (by simp)
  · rw [if_neg c] at v ⊢
    exact doCall_io (i := 0) (xs := [.int i, .int k, exD a]) rfl v (by simp)
theorem nm_put : decide (n_put ∉ [n_web, n_own, n_moves]) = true := by decide +kernel
theorem nm_lead : decide (n_lead ∉ [n_web, n_own, n_moves]) = true := by decide +kernel
theorem nm_do : decide (n_do ∉ [n_web, n_own, n_moves]) = true := by decide +kernel
theorem nm_part : decide (n_part_of ∉ [n_web, n_own, n_moves]) = true := by decide +kernel
@[simp] theorem recv_put (r : Rn) (ρ : DL.Env) (m : DL.Env → R D) (ps : DL.Env → R (List Pre)) : mthK clsAll n_Run n_put m ps (.io 0) (some (.dp (runO r)) :: ρ) = (ps (some (.dp (runO r)) :: ρ)).bind fun ps ρ2 => doCall clsAll m (.io 0 :: ps) ρ2 := recv_run r ρ m _ ps nm_put
@[simp] theorem recv_lead (r : Rn) (ρ : DL.Env) (m : DL.Env → R D) (ps : DL.Env → R (List Pre)) : mthK clsAll n_Run n_lead m ps (.io 0) (some (.dp (runO r)) :: ρ) = (ps (some (.dp (runO r)) :: ρ)).bind fun ps ρ2 => doCall clsAll m (.io 0 :: ps) ρ2 := recv_run r ρ m _ ps nm_lead
@[simp] theorem recv_do (r : Rn) (ρ : DL.Env) (m : DL.Env → R D) (ps : DL.Env → R (List Pre)) : mthK clsAll n_Run n_do m ps (.io 0) (some (.dp (runO r)) :: ρ) = (ps (some (.dp (runO r)) :: ρ)).bind fun ps ρ2 => doCall clsAll m (.io 0 :: ps) ρ2 := recv_run r ρ m _ ps nm_do
@[simp] theorem recv_part (r : Rn) (ρ : DL.Env) (m : DL.Env → R D) (ps : DL.Env → R (List Pre)) : mthK clsAll n_Run n_part_of m ps (.io 0) (some (.dp (runO r)) :: ρ) = (ps (some (.dp (runO r)) :: ρ)).bind fun ps ρ2 => doCall clsAll m (.io 0 :: ps) ρ2 := recv_run r ρ m _ ps nm_part
theorem less_m (p q : Rat) {m n : Nat} (hp : Sz m p) (hq : Sz n q) (h : m + n ≤ 9000) (as : DL.Env → R (List D)) (ρ ρ' : DL.Env) (ha : as ρ = .ok [exD q] ρ') : mth0K n_Exact n_is_less m_Exact_is_less as (exD p) ρ = .ok (.bl (decide (p < q))) ρ' := by
  rw [mth0K_of _ _ _ (recv_ex p n_is_less (by decide +kernel)), ha]
  simp [v_is_less hp hq h]
theorem sign_m (q : Rat) (ρ : DL.Env) : mth0K n_Exact n_sign m_Exact_sign dNil (exD q) ρ = .ok (.int (sgn q)) ρ := by
  rw [mth0K_of _ _ _ (recv_ex q n_sign (by decide +kernel))]
  simp [v_sign]
theorem v_lead_same {r : Rn} {i : Nat} {s : St} {m : Nat} (il : r.w.ss[i]? = some s) (zh : Sz m s.h) (hm : m + m ≤ 9000) :
    m_Run_lead [some (.dp (runO r)), some (.sh (.int i)), some (.sh (exD s.h))] = .ok .non [some (.dp (runO r)), none, none] := by
  have ixn := ixN_nat (ltOf il)
  have at0 : s.at s.u = s.h := by unfold St.at; rw [if_pos rfl]
  have vh := v_held_of s s.u
  rw [at0] at vh
  have nl : ¬ s.h < s.h := Rat.lt_irrefl
  have lm : ∀ j ρ, ρ[j]? = some (some (.sh (exD s.h))) → mth0K n_Exact n_is_less m_Exact_is_less (dCons (dVar j) dNil) (exD s.h) ρ = .ok (.bl false) ρ := fun j ρ e => by
    rw [less_m s.h s.h zh zh hm (dCons (dVar j) dNil) ρ ρ (by simp [e])]
    simp [nl]
  simp [m_Run_lead, b_Run_lead, fnM_e, ixn, il, vh, lm]
end G
/-! X15 -/
set_option Elab.async false
set_option linter.all false
set_option maxRecDepth 100000
set_option maxHeartbeats 1000000
namespace G
open PySem PySem.Spec PyProof.Rows L2 DL SX
inductive Res where
  | ok (r : Rn)
  | many (r : Rn)
def partAmt (p : List Nat) (x : Rat) : Rat := if p = wAll then x else x * Rat.divInt 1 2
mutual
inductive Do : List Deed → Rn → Res → Prop
  | nil (r : Rn) : Do [] r (.ok r)
  | put {k i : Nat} {a : Rat} {ds : List Deed} {r : Rn} {res : Res} (h : PutOk r i k a) (hl : r.mv.length ≠ 200) (t : Do ds (r.step i k a) res) : Do (.put k i a :: ds) r res
  | putX {k i : Nat} {a : Rat} {ds : List Deed} {r : Rn} (h : PutOk r i k a) (hl : r.mv.length = 200) : Do (.put k i a :: ds) r (.many r)
  | part0 {p : List Nat} {k i : Nat} {ds : List Deed} {r : Rn} {res : Res} {x : Rat} (hx : r.own[k]? = some x) (h : ¬ 0 < x) (hp : p = wAll ∨ p = wHalf) (t : Do ds r res) : Do (.part p k i :: ds) r res
  | toSame {i : Nat} {a : Rat} {ds : List Deed} {r : Rn} {res : Res} {s : St} {m : Nat} (hs : r.w.ss[i]? = some s) (ha : s.h = a) (hz : Sz m a) (hm : m + m ≤ 9000) (t : Do ds r res) : Do (.to i a :: ds) r res
  | times {n : Nat} {b ds : List Deed} {r r' : Rn} {res : Res} (hn : n < 1000) (h : Iter n b r (.ok r')) (t : Do ds r' res) : Do (.times n b :: ds) r res
  | timesX {n : Nat} {b ds : List Deed} {r r' : Rn} (hn : n < 1000) (h : Iter n b r (.many r')) : Do (.times n b :: ds) r (.many r')
inductive Iter : Nat → List Deed → Rn → Res → Prop
  | zero (b : List Deed) (r : Rn) : Iter 0 b r (.ok r)
  | succ {n : Nat} {b : List Deed} {r r' : Rn} {res : Res} (h : Do b r (.ok r')) (t : Iter n b r' res) : Iter (n + 1) b r res
  | succX {n : Nat} {b : List Deed} {r r' : Rn} (h : Do b r (.many r')) : Iter (n + 1) b r (.many r')
end
mutual
def deepO : Deed → Nat
  | .times _ ds => deepL ds + 1
  | .put _ _ _ => 0
  | .part _ _ _ => 0
  | .to _ _ => 0
def deepL : List Deed → Nat
  | [] => 0
  | d :: ds => max (deepO d) (deepL ds)
end
def resF (res : Res) (ρ : DL.Env) : R Fl := match res with
  | .ok r => .ok .nx (some (.dp (runO r)) :: ρ)
  | .many r => .exc n_TooMany [.int 200] (some (.dp (runO r)) :: ρ)
def resD (res : Res) (ρ : DL.Env) : R D := match res with
  | .ok r => .ok .non (some (.dp (runO r)) :: ρ)
  | .many r => .exc n_TooMany [.int 200] (some (.dp (runO r)) :: ρ)
theorem rangeD_cons (n : Nat) : rangeD 0 (n + 1) = rangeD 0 n ++ [.int n] := by
  unfold rangeD
  rw [List.range_succ, List.map_append]
  simp
/-- what a loop over deeds does -/
def LoopOk (N : Nat) (ds : List Deed) (r : Rn) (res : Res) : Prop := ∀ (L r2 r3 : Option DL.Slot), ∃ r2' r3', DL.forM (gS 2) (k_Run_do_2 N (m_Run_do N)) (deedsD ds) [some (.dp (runO r)), L, r2, r3] = resF res [L, r2', r3']
def CallOk (N : Nat) (b : List Deed) (r : Rn) (res : Res) : Prop := m_Run_do N [some (.dp (runO r)), some (.sh (.lst false (deedsD b)))] = resD res [none]
theorem call_of_loop {N : Nat} {b : List Deed} {r : Rn} {res : Res} (h : LoopOk N b r res) : CallOk (N + 1) b r res := by
  obtain ⟨r2', r3', e⟩ := h (some (.sh (.lst false (deedsD b)))) none none
  unfold CallOk
  cases res with
  | ok r' =>
    unfold resF at e
    simp [m_Run_do, b_Run_do, fnM_e, e, resD]
  | many r' =>
    unfold resF at e
    simp [m_Run_do, b_Run_do, fnM_e, e, resD]
theorem loop_cons {N : Nat} {d : Deed} {ds : List Deed} {r r' : Rn} {res : Res} (h : ∀ L r3, ∃ r3', k_Run_do_2 N (m_Run_do N) [some (.dp (runO r)), L, some (.sh (deedD d)), r3] = .ok .nx [some (.dp (runO r')), L, some (.sh (deedD d)), r3']) (t : LoopOk N ds r' res) : LoopOk N (d :: ds) r res := fun L r2 r3 => by
  obtain ⟨r3', e⟩ := h L r3
  obtain ⟨s2, s3, e2⟩ := t L (some (.sh (deedD d))) r3'
  refine ⟨s2, s3, ?_⟩
  show DL.forM (gS 2) (k_Run_do_2 N (m_Run_do N)) (deedD d :: deedsD ds) _ = _
  unfold DL.forM
  have g : gS 2 (deedD d) [some (.dp (runO r)), L, r2, r3] = some [some (.dp (runO r)), L, some (.sh (deedD d)), r3] := by simp
  rw [g]
  dsimp only
  rw [e]
  exact e2
theorem loop_consX {N : Nat} {d : Deed} {ds : List Deed} {r r' : Rn} (h : ∀ L r3, ∃ r3', k_Run_do_2 N (m_Run_do N) [some (.dp (runO r)), L, some (.sh (deedD d)), r3] = .exc n_TooMany [.int 200] [some (.dp (runO r')), L, some (.sh (deedD d)), r3']) : LoopOk N (d :: ds) r (.many r') := fun L r2 r3 => by
  obtain ⟨r3', e⟩ := h L r3
  refine ⟨some (.sh (deedD d)), r3', ?_⟩
  show DL.forM (gS 2) (k_Run_do_2 N (m_Run_do N)) (deedD d :: deedsD ds) _ = _
  unfold DL.forM
  have g : gS 2 (deedD d) [some (.dp (runO r)), L, r2, r3] = some [some (.dp (runO r)), L, some (.sh (deedD d)), r3] := by simp
  rw [g]
  dsimp only
  rw [e]
  rfl
theorem turn_put {N : Nat} {k i : Nat} {a : Rat} {r : Rn} (h : PutOk r i k a) (hl : r.mv.length ≠ 200) (L r3 : Option DL.Slot) : k_Run_do_2 N (m_Run_do N) [some (.dp (runO r)), L, some (.sh (deedD (.put k i a))), r3] = .ok .nx [some (.dp (runO (r.step i k a))), L, some (.sh (deedD (.put k i a))), r3] := by
  have c := call_put h
  unfold putR at c
  simp only [if_neg hl] at c
  simp [k_Run_do_2, deedD, S_eq, v_exact, nm_put, c]
theorem turn_putX {N : Nat} {k i : Nat} {a : Rat} {r : Rn} (h : PutOk r i k a) (hl : r.mv.length = 200) (L r3 : Option DL.Slot) : k_Run_do_2 N (m_Run_do N) [some (.dp (runO r)), L, some (.sh (deedD (.put k i a))), r3] = .exc n_TooMany [.int 200] [some (.dp (runO r)), L, some (.sh (deedD (.put k i a))), r3] := by
  have c := call_put h
  unfold putR at c
  simp only [if_pos hl] at c
  simp [k_Run_do_2, deedD, S_eq, v_exact, nm_put, c]
theorem sgn_le {x : Rat} (h : ¬ 0 < x) : ¬ 0 < sgn x := by
  unfold sgn
  rw [if_neg h]
  split <;> decide
theorem turn_part0 {N : Nat} {p : List Nat} {k i : Nat} {r : Rn} {x : Rat} (hx : r.own[k]? = some x) (h : ¬ 0 < x) (hp : p = wAll ∨ p = wHalf) (L r3 : Option DL.Slot) : k_Run_do_2 N (m_Run_do N) [some (.dp (runO r)), L, some (.sh (deedD (.part p k i))), r3] = .ok .nx [some (.dp (runO r)), L, some (.sh (deedD (.part p k i))), r3] := by
  have ixk := ixN_nat (ltOf hx)
  have sm := sign_m x
  have sl := sgn_le h
  rcases hp with rfl | rfl <;> simp [k_Run_do_2, deedD, S_eq, ixk, hx, sm, sl]
theorem turn_toSame {N : Nat} {i : Nat} {a : Rat} {r : Rn} {s : St} {m : Nat} (hs : r.w.ss[i]? = some s) (ha : s.h = a) (hz : Sz m a) (hm : m + m ≤ 9000) (L r3 : Option DL.Slot) : k_Run_do_2 N (m_Run_do N) [some (.dp (runO r)), L, some (.sh (deedD (.to i a))), r3] = .ok .nx [some (.dp (runO r)), L, some (.sh (deedD (.to i a))), r3] := by
  subst ha
  have v := v_lead_same hs hz hm
  have c : ∀ ρ, doCall clsAll m_Run_lead [.io 0, .v (.int i), .v (exD s.h)] (some (.dp (runO r)) :: ρ) = .ok .non (some (.dp (runO r)) :: ρ) := fun ρ => doCall_io (i := 0) (xs := [.int i, exD s.h]) rfl v (by simp)
  simp [k_Run_do_2, deedD, S_eq, v_exact, nm_lead, c]
theorem turn_times {N n : Nat} {b : List Deed} {r : Rn} {res : Res} (hn : n < 1000) (h : ∀ (L r2 r3 : Option DL.Slot) , deedD (.times n b) = deedD (.times n b) → ∃ r3', DL.forM (gS 3) (k_Run_do_1 N (m_Run_do N)) (rangeD 0 n) [some (.dp (runO r)), L, some (.sh (deedD (.times n b))), r3] = resF res [L, some (.sh (deedD (.times n b))), r3']) (L r3 : Option DL.Slot) :
    ∃ r3', k_Run_do_2 N (m_Run_do N) [some (.dp (runO r)), L, some (.sh (deedD (.times n b))), r3] = resF res [L, some (.sh (deedD (.times n b))), r3'] := by
  obtain ⟨r3', e⟩ := h L none r3 rfl
  refine ⟨r3', ?_⟩
  have sm : small62 (n : Int) := by unfold small62; omega
  simp only [deedD] at e
  simp [k_Run_do_2, deedD, S_eq, sm, e]
/-- the turns of a loop -/
theorem iter_turn {N : Nat} {b : List Deed} {r r' : Rn} (h : CallOk N b r (.ok r')) (L r3 : Option DL.Slot) (n : Nat) (x : D) (hx : noOwn x = true) : gS 3 x [some (.dp (runO r)), L, some (.sh (deedD (.times n b))), r3] = some [some (.dp (runO r)), L, some (.sh (deedD (.times n b))), some (.sh x)] ∧
    k_Run_do_1 N (m_Run_do N) [some (.dp (runO r)), L, some (.sh (deedD (.times n b))), some (.sh x)] = .ok .nx [some (.dp (runO r')), L, some (.sh (deedD (.times n b))), some (.sh x)] := by
  have c : ∀ ρ, doCall clsAll (m_Run_do N) [.io 0, .v (.lst false (deedsD b))] (some (.dp (runO r)) :: ρ) = .ok .non (some (.dp (runO r')) :: ρ) := fun ρ => doCall_io (i := 0) (xs := [.lst false (deedsD b)]) rfl h (by simp)
  refine ⟨by simp [hx], ?_⟩
  simp [k_Run_do_1, deedD, c]
theorem iter_turnX {N : Nat} {b : List Deed} {r r' : Rn} (h : CallOk N b r (.many r')) (L r3 : Option DL.Slot) (n : Nat) (x : D) :
    k_Run_do_1 N (m_Run_do N) [some (.dp (runO r)), L, some (.sh (deedD (.times n b))), some (.sh x)] = .exc n_TooMany [.int 200] [some (.dp (runO r')), L, some (.sh (deedD (.times n b))), some (.sh x)] := by
  have c : ∀ ρ, doCall clsAll (m_Run_do N) [.io 0, .v (.lst false (deedsD b))] (some (.dp (runO r)) :: ρ) = .exc n_TooMany [.int 200] (some (.dp (runO r')) :: ρ) := fun ρ => doCall_ioX (i := 0) (xs := [.lst false (deedsD b)]) rfl h (by simp)
  simp [k_Run_do_1, deedD, c]
/-- some turns, whatever they are numbered -/
def TurnsOk (N n : Nat) (b : List Deed) (r : Rn) (res : Res) : Prop := ∀ (k : Nat) (L r3 : Option DL.Slot) (xs : List D), xs.length = n → (∀ x ∈ xs, noOwn x = true) → ∃ r3', DL.forM (gS 3) (k_Run_do_1 N (m_Run_do N)) xs [some (.dp (runO r)), L, some (.sh (deedD (.times k b))), r3] = resF res [L, some (.sh (deedD (.times k b))), r3']
theorem turns_zero {N : Nat} {b : List Deed} {r : Rn} : TurnsOk N 0 b r (.ok r) := fun k L r3 xs l _ => by
  cases xs with
  | nil => exact ⟨r3, rfl⟩
  | cons x xs => simp at l
theorem turns_succ {N n : Nat} {b : List Deed} {r r' : Rn} {res : Res} (h : CallOk N b r (.ok r')) (t : TurnsOk N n b r' res) : TurnsOk N (n + 1) b r res := fun k L r3 xs l hx => by
  cases xs with
  | nil => simp at l
  | cons x xs =>
    obtain ⟨g, e⟩ := iter_turn h L r3 k x (hx x (by simp))
    obtain ⟨r3', e2⟩ := t k L (some (.sh x)) xs (by simpa using l) fun y m => hx y (List.mem_cons_of_mem _ m)
    refine ⟨r3', ?_⟩
    unfold DL.forM
    rw [g]
    dsimp only
    rw [e]
    exact e2
theorem turns_succX {N n : Nat} {b : List Deed} {r r' : Rn} (h : CallOk N b r (.many r')) : TurnsOk N (n + 1) b r (.many r') := fun k L r3 xs l hx => by
  cases xs with
  | nil => simp at l
  | cons x xs =>
    have g : gS 3 x [some (.dp (runO r)), L, some (.sh (deedD (.times k b))), r3] = some [some (.dp (runO r)), L, some (.sh (deedD (.times k b))), some (.sh x)] := by simp [hx x]
    refine ⟨some (.sh x), ?_⟩
    unfold DL.forM
    rw [g]
    dsimp only
    rw [iter_turnX h L r3 k x]
    rfl
theorem turn_of {N n : Nat} {b : List Deed} {r : Rn} {res : Res} (hn : n < 1000) (t : TurnsOk N n b r res) (L r3 : Option DL.Slot) : ∃ r3', k_Run_do_2 N (m_Run_do N) [some (.dp (runO r)), L, some (.sh (deedD (.times n b))), r3] = resF res [L, some (.sh (deedD (.times n b))), r3'] :=
  turn_times hn (fun L _ r3 _ => t n L r3 (rangeD 0 n) (by simp [rangeD]) (by simp [rangeD])) L r3
theorem do_ok {ds : List Deed} {r : Rn} {res : Res} (h : Do ds r res) : ∀ N, deepL ds ≤ N → LoopOk N ds r res := by
  refine Do.rec (motive_1 := fun ds r res _ => ∀ N, deepL ds ≤ N → LoopOk N ds r res) (motive_2 := fun n b r res _ => ∀ N, deepL b ≤ N → TurnsOk (N + 1) n b r res) ?_ ?_ ?_ ?_ ?_ ?_ ?_ ?_ ?_ ?_ h
  · intro r N _ L r2 r3
    exact ⟨r2, r3, rfl⟩
  · intro k i a ds r res hp hl t ih N hN
    simp only [deepL, deepO] at hN
    exact loop_cons (fun L r3 => ⟨r3, turn_put hp hl L r3⟩) (ih N (by omega))
  · intro k i a ds r hp hl N hN
    exact loop_consX fun L r3 => ⟨r3, turn_putX hp hl L r3⟩
  · intro p k i ds r res x hx h hp t ih N hN
    simp only [deepL, deepO] at hN
    exact loop_cons (fun L r3 => ⟨r3, turn_part0 hx h hp L r3⟩) (ih N (by omega))
  · intro i a ds r res s m hs ha hz hm t ih N hN
    simp only [deepL, deepO] at hN
    exact loop_cons (fun L r3 => ⟨r3, turn_toSame hs ha hz hm L r3⟩) (ih N (by omega))
  · intro n b ds r r' res hn hi t ih1 ih2 N hN
    simp only [deepL, deepO] at hN
    obtain ⟨M, rfl⟩ : ∃ M, N = M + 1 := ⟨N - 1, by omega⟩
    exact loop_cons (fun L r3 => turn_of hn (ih1 M (by omega)) L r3) (ih2 (M + 1) (by omega))
  · intro n b ds r r' hn hi ih N hN
    simp only [deepL, deepO] at hN
    obtain ⟨M, rfl⟩ : ∃ M, N = M + 1 := ⟨N - 1, by omega⟩
    exact loop_consX fun L r3 => turn_of hn (ih M (by omega)) L r3
  · intro b r N _
    exact turns_zero
  · intro n b r r' res hd t ih1 ih2 N hN
    exact turns_succ (call_of_loop (ih1 N hN)) (ih2 N hN)
  · intro n b r r' hd ih N hN
    exact turns_succX (call_of_loop (ih N hN))
end G
/-! X16 -/
set_option Elab.async false
set_option linter.all false
set_option maxRecDepth 100000
set_option maxHeartbeats 1000000
namespace G
open PySem PySem.Spec PyProof.Rows L2 DL SX
theorem set_run_1 (x : D) : setFld tab n_web (.ins true n_Run [] []) x = some (.ins true n_Run [n_web] [x]) := by rfl
theorem set_run_2 (x y : D) : setFld tab n_own (.ins true n_Run [n_web] [x]) y = some (.ins true n_Run [n_web, n_own] [x, y]) := by rfl
theorem set_run_3 (x y z : D) : setFld tab n_moves (.ins true n_Run [n_web, n_own] [x, y]) z = some (.ins true n_Run [n_web, n_own, n_moves] [x, y, z]) := by rfl
theorem made_run (w : Wb) (qs : List Rat) (o : Bool) (ρ : DL.Env) : madeC n_Run (m_Run___init__ [some (.dp (.ins true n_Run [] [])), some (.sh (webD w)), some (.sh (.lst o (qs.map exD)))]) ρ = .ok (runO ⟨w, qs, []⟩) ρ := by
  simp [m_Run___init__, b_Run___init__, fnM_e, setAtM, rowDat, isOwn, set_run_1, set_run_2, set_run_3]
  rfl
/-- a purse as rational numbers -/
structure Purse (w : Wb) (d : D) (qs : List Rat) : Prop where
  th : thing d = true
  row : rowOf d = some (qs.map frD)
  len : (qs.length : Int) = w.n
  pos : ∀ q ∈ qs, 0 ≤ q
theorem Purse.am {w : Wb} {d : D} {qs : List Rat} (h : Purse w d qs) : isAmounts w.n d = true := by
  unfold isAmounts
  rw [h.row]
  show (decide (((qs.map frD).length : Int) = w.n) && (qs.map frD).all isAmt) = true
  rw [Bool.and_eq_true, List.length_map]
  refine ⟨decide_eq_true h.len, ?_⟩
  rw [List.all_map, List.all_eq_true]
  intro q m
  exact isAmt_iff.mpr ⟨q, h.pos q m, rfl⟩
theorem Purse.check {w : Wb} {d : D} {qs : List Rat} (h : Purse w d qs) (n8 : w.n ≤ 8) : m_check_purse [some (.sh (webD w)), some (.sh d)] = .ok (.lst false (qs.map exD)) [none, none] := by
  have := v_check_purse (w := w) h.th (fun ds e => by rw [h.row] at e; cases e; have := h.len; simp; omega)
  rw [if_pos h.am, h.row] at this
  have e : ((fun x => exD (ratOf x)) ∘ frD) = fun q => exD q := by funext q; simp
  simpa [e] using this
def runD (r : Rn) : D := .tup [webD r.w, .tup (r.own.map frD), .lst false (r.mv.map mvD)]
theorem frz_run (r : Rn) : frzAll (runO r) = .ins false n_Run [n_web, n_own, n_moves] [webD r.w, .lst false (r.own.map exD), .lst false (r.mv.map mvD)] := by
  unfold runO
  simp [frzL_id' exD, frzL_id' mvD]
theorem frun_web (a b c : D) : fFld tab n_web (.ins false n_Run [n_web, n_own, n_moves] [a, b, c]) = .ok a := by rfl
theorem frun_own (a b c : D) : fFld tab n_own (.ins false n_Run [n_web, n_own, n_moves] [a, b, c]) = .ok b := by rfl
theorem frun_moves (a b c : D) : fFld tab n_moves (.ins false n_Run [n_web, n_own, n_moves] [a, b, c]) = .ok c := by rfl
theorem v_run {w : Wb} {d : D} {qs : List Rat} {t : List Nat} {ds : List Deed} {res : Res} (hp : Purse w d qs) (n8 : w.n ≤ 8) (hl : t.length ≤ 90000) (hr : readO w t = .ok ds) (hd : Do ds ⟨w, qs, []⟩ res) (dp : deepL ds ≤ 39) (lo : ∀ r, res = .ok r → r.own.length ≤ 100000) :
    m_run [some (.sh (webD w)), some (.sh d), some (.sh (.str (S t)))] = match res with
      | .ok r => .ok (runD r) [none, none, none]
      | .many _ => .exc n_TooMany [.int 200] [none, none, none] := by
  have ck := hp.check n8
  have mk := made_run w qs false
  have ro := v_read_orders (w := w) hl
  rw [hr] at ro
  have c := call_of_loop (do_ok hd 39 dp)
  unfold CallOk at c
  cases res with
  | many r =>
    have cc : ∀ a b c' e f, doCall clsAll (m_Run_do 40) [.io 4, .v (.lst false (deedsD ds))] [a, b, c', e, some (.dp (runO ⟨w, qs, []⟩)), f] = .exc n_TooMany [.int 200] [a, b, c', e, some (.dp (runO r)), f] := fun a b c' e f => doCall_ioX (i := 4) (xs := [.lst false (deedsD ds)]) rfl c (by simp)
    have rc : ∀ a b c' e f ps, mthK clsAll n_Run n_do (m_Run_do 40) ps (.io 4) [a, b, c', e, some (.dp (runO ⟨w, qs, []⟩)), f] = (ps [a, b, c', e, some (.dp (runO ⟨w, qs, []⟩)), f]).bind fun ps ρ2 => doCall clsAll (m_Run_do 40) (.io 4 :: ps) ρ2 := fun a b c' e f ps => mthK_of _ _ _ rfl (isRecv_run _ n_do nm_do)
    simp [m_run, b_run, fnM_e, ck, mk, frzRow, ro, rc, cc, frzL_id' exD]
  | ok r =>
    have cc : ∀ a b c' e f, doCall clsAll (m_Run_do 40) [.io 4, .v (.lst false (deedsD ds))] [a, b, c', e, some (.dp (runO ⟨w, qs, []⟩)), f] = .ok .non [a, b, c', e, some (.dp (runO r)), f] := fun a b c' e f => doCall_io (i := 4) (xs := [.lst false (deedsD ds)]) rfl c (by simp)
    have rc : ∀ a b c' e f ps, mthK clsAll n_Run n_do (m_Run_do 40) ps (.io 4) [a, b, c', e, some (.dp (runO ⟨w, qs, []⟩)), f] = (ps [a, b, c', e, some (.dp (runO ⟨w, qs, []⟩)), f]).bind fun ps ρ2 => doCall clsAll (m_Run_do 40) (.io 4 :: ps) ρ2 := fun a b c' e f ps => mthK_of _ _ _ rfl (isRecv_run _ n_do nm_do)
    have lc : ∀ a b c' e f, lcM (gS 5) tYesD (dMeth0 n_Exact n_pair m_Exact_pair (dVar 5) dNil) [5] (r.own.map exD) [] [a, b, c', e, f, none] = .ok (r.own.map frD) [a, b, c', e, f, none] := fun a b c' e f => by
      have := lcM_map (g := gS 5) (a := dMeth0 n_Exact n_pair m_Exact_pair (dVar 5) dNil) (vs := [5]) (ρ := [a, b, c', e, f, none]) exD frD r.own [] (fun q _ => by simp [pair_m]) (by simpa using lo r rfl)
      rw [List.nil_append] at this
      exact this
    simp [m_run, b_run, fnM_e, ck, mk, frzRow, ro, rc, cc, frz_run, frun_web, frun_own, frun_moves, lcK_of, lc, frzL_id' frD, frzL_id' exD]
    rfl
end G
/-! Y1 -/
set_option Elab.async false
set_option linter.all false
set_option maxRecDepth 100000
set_option maxHeartbeats 1000000
namespace G
open PySem PySem.Spec PyProof.Rows L2 DL SX
/-! the law's own numbers -/
/-- a deck of numbers -/
structure Dk where
  cs : List Int
  a : Int
  b : Int
  c : Int
def dkD (d : Dk) : D := .lst true [.lst false (d.cs.map .int), .int d.a, .int d.b, .int d.c]
structure Dk.ok (d : Dk) : Prop where
  len : d.cs.length ≤ 63
  a0 : 0 ≤ d.a
theorem small_mul {i j : Int} (h : -(2 ^ 64) < j ∧ j < 2 ^ 64) : mulOk i j = true := by
  unfold mulOk
  rw [Bool.or_eq_true]
  exact .inl (decide_eq_true (.inr h))
theorem small_mul' {i j : Int} (h : -(2 ^ 64) < i ∧ i < 2 ^ 64) : mulOk i j = true := by
  unfold mulOk
  rw [Bool.or_eq_true]
  exact .inl (decide_eq_true (.inl h))
theorem small_div {i j : Int} (h0 : 0 < j) (h : j < 2 ^ 64) : divOk i j = true := divOk_of h0 (Nat.lt_of_lt_of_le (show j.natAbs < 2 ^ 64 by omega) (Nat.pow_le_pow_right (by decide) (by decide)))
/-- what a pick gives: a number below many, and a deck again -/
def PickOk (many : Int) (ρ' : Option DL.Slot) (z : D) : Prop := ∃ (k : Int) (d : Dk), z = .int k ∧ 0 ≤ k ∧ k < many ∧ ρ' = some (.dp (dkD d)) ∧ d.ok
def hs1 (x c : Int) : Int := (x + 7919 * (c + 1) + 1) * 48271 % 2147483647
def hs2 (n : Int) : Int := n * (n / 1009 + 69621) % 2147483647
def hs3 (n : Int) : Int := n * (n / 2003 + 40692) % 2147483399
def hsh (x c : Int) : Int := hs3 (hs2 (hs1 x c))
theorem v_pick {d : Dk} {many : Int} (h : d.ok) (m0 : 0 < many) (m1 : many < 2 ^ 60) : ∃ (k : Int) (d' : Dk), 0 ≤ k ∧ k < many ∧ d'.ok ∧ m__law_pick [some (.dp (dkD d)), some (.sh (.int many))] = .ok (.int k) [some (.dp (dkD d')), none] := by
  have md := fun i => fModI_int i many m0
  have dv := fun i => fDiv_int i many (small_div m0 (by omega))
  by_cases hb : 0 < d.b
  · refine ⟨d.b % many, ⟨d.cs, d.a, d.b / many, d.c + 1⟩, Int.emod_nonneg _ (by omega), Int.emod_lt_of_pos _ m0, ⟨h.len, h.a0⟩, ?_⟩
    simp [m__law_pick, b__law_pick, fnM_e, dkD, setAtM, rowDat_e, hb, md, dv]
  · have hb' : ¬ 0 < d.b := hb
    have m1' : ∀ c : Int, fMul (.int 7919) (.int c) = .ok (.int (7919 * c)) := fun c => fMul_int _ _ (small_mul' (by omega))
    have m2' : ∀ c : Int, fMul (.int c) (.int 48271) = .ok (.int (c * 48271)) := fun c => fMul_int _ _ (small_mul (by omega))
    have q1 : ∀ c : Int, fModI (.int c) (.int 2147483647) = .ok (.int (c % 2147483647)) := fun c => fModI_int _ _ (by omega)
    have q2 : ∀ c : Int, fModI (.int c) (.int 2147483399) = .ok (.int (c % 2147483399)) := fun c => fModI_int _ _ (by omega)
    have r1 : ∀ c : Int, fDiv (.int c) (.int 1009) = .ok (.int (c / 1009)) := fun c => fDiv_int _ _ (small_div (by omega) (by omega))
    have r2 : ∀ c : Int, fDiv (.int c) (.int 2003) = .ok (.int (c / 2003)) := fun c => fDiv_int _ _ (small_div (by omega) (by omega))
    have s1 : ∀ c e : Int, fMul (.int (c % 2147483647)) (.int e) = .ok (.int (c % 2147483647 * e)) := fun c e => fMul_int _ _ (small_mul' (by omega))
    have pw : fPow (.int 10) (.int 18) = .ok (.int 1000000000000000000) := by rw [fPow_int _ _ (by decide)]; rfl
    by_cases he : d.cs = []
    · refine ⟨hsh 0 d.c % many, ⟨d.cs, d.a + 1, d.b, d.c + 1⟩, Int.emod_nonneg _ (by omega), Int.emod_lt_of_pos _ m0, ⟨h.len, by have := h.a0; show 0 ≤ d.a + 1; omega⟩, ?_⟩
      · simp [m__law_pick, b__law_pick, fnM_e, dkD, setAtM, rowDat_e, hb, md, dv, he, m1', m2', q1, q2, r1, r2, s1, pw, hsh, hs1, hs2, hs3]
    · have hl : 0 < d.cs.length := List.length_pos_iff.mpr he
      have hl' : (0 : Int) < d.cs.length := by omega
      have ml := fModI_int d.a d.cs.length hl'
      obtain ⟨x, hx⟩ : ∃ x, d.cs[(d.a % d.cs.length).toNat]? = some x := ⟨_, List.getElem?_eq_getElem (by have := Int.emod_lt_of_pos d.a hl'; have := Int.emod_nonneg d.a (show (d.cs.length : Int) ≠ 0 by omega); omega)⟩
      have ix : fIx (.lst false (d.cs.map .int)) (.int (d.a % d.cs.length)) = .ok (.int x) := by
        have hn := Int.emod_nonneg d.a (show (d.cs.length : Int) ≠ 0 by omega)
        have e : d.a % d.cs.length = ((d.a % d.cs.length).toNat : Int) := by omega
        rw [e]
        exact fIx_lst _ _ _ (DL.atI_nat (by rw [List.getElem?_map, hx]; rfl))
      by_cases hx2 : 1000000000000000000 ≤ x ∧ d.a + 1 ≤ d.cs.length
      · refine ⟨x % many, ⟨d.cs, d.a + 1, x / many, d.c + 1⟩, Int.emod_nonneg _ (by omega), Int.emod_lt_of_pos _ m0, ⟨h.len, by have := h.a0; show 0 ≤ d.a + 1; omega⟩, ?_⟩
        simp [m__law_pick, b__law_pick, fnM_e, dkD, setAtM, rowDat_e, hb, md, dv, hl', ml, ix, hx2, pw, hl]
      · refine ⟨hsh x d.c % many, ⟨d.cs, d.a + 1, d.b, d.c + 1⟩, Int.emod_nonneg _ (by omega), Int.emod_lt_of_pos _ m0, ⟨h.len, by have := h.a0; show 0 ≤ d.a + 1; omega⟩, ?_⟩
        · by_cases hx3 : 1000000000000000000 ≤ x
          · have hx4 : ¬ d.a + 1 ≤ d.cs.length := fun z => hx2 ⟨hx3, z⟩
            simp [m__law_pick, b__law_pick, fnM_e, dkD, setAtM, rowDat_e, hb, md, dv, hl', ml, ix, hx3, hx4, pw, hl, m1', m2', q1, q2, r1, r2, s1, hsh, hs1, hs2, hs3]
          · simp [m__law_pick, b__law_pick, fnM_e, dkD, setAtM, rowDat_e, hb, md, dv, hl', ml, ix, hx3, pw, hl, m1', m2', q1, q2, r1, r2, s1, hsh, hs1, hs2, hs3]
end G
/-! Y2 -/
set_option Elab.async false
set_option linter.all false
set_option maxRecDepth 100000
set_option maxHeartbeats 1000000
namespace G
open PySem PySem.Spec PyProof.Rows L2 DL SX
@[simp] theorem fBits_int (i : Int) : fBits (.int i) = .ok (.int (Builtin.Int.intBits i : Nat)) := (rfl)
theorem v_deck (ns : List Int) (h : ns.length ≤ 63) : m__law_deck [some (.sh (.scr ns))] = .ok (dkD ⟨ns, 0, 0, 0⟩) [none] := by
  have ct : cutD (ns.map D.int) none (some 63) = ns.map .int := by
    rw [show (63 : Int) = ((63 : Nat) : Int) from rfl, cutD_to, List.take_of_length_le (by simpa using h)]
  have fz : frzL (ns.map D.int) = ns.map .int := frzL_id' _ _ (fun _ _ => by simp)
  have l : lcM (gS 1) tYesD (dUn fInt (dVar 1)) [1] (ns.map .int) [] [some (.sh (.scr ns)), none] = .ok (ns.map .int) [some (.sh (.scr ns)), none] := by
    have := lcM_map (g := gS 1) (a := dUn fInt (dVar 1)) (vs := [1]) (ρ := [some (.sh (.scr ns)), none]) D.int D.int ns [] (fun z _ => by simp) (by simp; omega)
    rw [List.nil_append] at this
    exact this
  simp [m__law_deck, b__law_deck, fnM_e, ct, fz, lcK_of, l, dkD]
theorem dk0 {ns : List Int} (h : ns.length ≤ 63) : (⟨ns, 0, 0, 0⟩ : Dk).ok := ⟨h, by show (0 : Int) ≤ 0; omega⟩
theorem mod_half {r b : Nat} (h0 : 0 < r) (h : r < b) : 2 * (b % r) < b := by
  have h1 := Nat.mod_lt b h0
  have h2 : b % r + r ≤ b := by
    have := Nat.div_add_mod b r
    have h3 : 1 ≤ b / r := (Nat.one_le_div_iff h0).mpr (by omega)
    have : r * 1 ≤ r * (b / r) := Nat.mul_le_mul_left r h3
    omega
  omega
theorem div_turn0 (a : Int) (x y : Option DL.Slot) : k__law_divisor_1 [some (.sh (.int a)), some (.sh (.int 0)), x, y] = .ok (.rt (.int a)) [some (.sh (.int a)), some (.sh (.int 0)), x, y] := by
  simp [k__law_divisor_1]
theorem div_turn {a b : Nat} (hb : 0 < b) (x y : Option DL.Slot) : k__law_divisor_1 [some (.sh (.int a)), some (.sh (.int b)), x, y] = .ok .nx [some (.sh (.int b)), some (.sh (.int (a % b : Nat))), x, some (.sh (.int (a % b : Nat)))] := by
  have m := fModI_int (a : Int) (b : Int) (by omega)
  have hb' : ¬ (b : Int) = 0 := by omega
  simp [k__law_divisor_1, m, hb']
  omega
theorem div_loop : ∀ (m : Nat) (a b : Nat) (xs : List D) (x y : Option DL.Slot), b < 2 ^ m → 2 * m + 1 ≤ xs.length → (∀ z ∈ xs, noOwn z = true) →
    ∃ ρ, DL.forM (gS 2) k__law_divisor_1 xs [some (.sh (.int a)), some (.sh (.int b)), x, y] = .ok (.rt (.int (Nat.gcd a b : Nat))) ρ
  | m, a, 0, [], x, y, hb, hl, hx => by simp at hl
  | m, a, 0, z :: xs, x, y, hb, hl, hx => by
    refine ⟨[some (.sh (.int a)), some (.sh (.int 0)), some (.sh z), y], ?_⟩
    unfold DL.forM
    have g : gS 2 z [some (.sh (.int a)), some (.sh (.int (0 : Nat))), x, y] = some [some (.sh (.int a)), some (.sh (.int (0 : Nat))), some (.sh z), y] := by simp [hx z]
    rw [g]
    dsimp only
    rw [show ((0 : Nat) : Int) = 0 from rfl, div_turn0]
    simp
  | 0, a, b + 1, xs, x, y, hb, hl, hx => by simp at hb
  | m + 1, a, b + 1, [], x, y, hb, hl, hx => by simp at hl
  | m + 1, a, b + 1, [z], x, y, hb, hl, hx => by simp at hl
  | m + 1, a, b + 1, z :: z' :: xs, x, y, hb, hl, hx => by
    have g : ∀ (p q r : Option DL.Slot), gS 2 z [p, q, x, r] = some [p, q, some (.sh z), r] := fun p q r => by simp [hx z]
    have g' : ∀ (p q r s : Option DL.Slot), gS 2 z' [p, q, s, r] = some [p, q, some (.sh z'), r] := fun p q r s => by simp [hx z']
    have gc : Nat.gcd a (b + 1) = Nat.gcd (b + 1) (a % (b + 1)) := by rw [Nat.gcd_comm, Nat.gcd_rec, Nat.gcd_comm]
    by_cases hr : a % (b + 1) = 0
    · refine ⟨[some (.sh (.int (b + 1 : Nat))), some (.sh (.int 0)), some (.sh z'), some (.sh (.int 0))], ?_⟩
      unfold DL.forM
      rw [g]
      dsimp only
      rw [div_turn (by omega), hr]
      show DL.forM (gS 2) k__law_divisor_1 (z' :: xs) _ = _
      unfold DL.forM
      rw [g']
      dsimp only
      rw [show ((0 : Nat) : Int) = 0 from rfl, div_turn0, gc, hr, Nat.gcd_zero_right]
      rfl
    · have hr0 : 0 < a % (b + 1) := by omega
      have hrb : a % (b + 1) < b + 1 := Nat.mod_lt _ (by omega)
      have hh := mod_half hr0 hrb
      have gc2 : Nat.gcd (b + 1) (a % (b + 1)) = Nat.gcd (a % (b + 1)) ((b + 1) % (a % (b + 1))) := by rw [Nat.gcd_comm, Nat.gcd_rec, Nat.gcd_comm]
      obtain ⟨ρ, e⟩ := div_loop m (a % (b + 1)) ((b + 1) % (a % (b + 1))) xs (some (.sh z')) (some (.sh (.int ((b + 1) % (a % (b + 1)) : Nat)))) (by rw [Nat.pow_succ] at hb; omega) (by simp at hl; omega) (fun w m => hx w (by simp [m]))
      refine ⟨ρ, ?_⟩
      unfold DL.forM
      rw [g]
      dsimp only
      rw [div_turn (by omega)]
      show DL.forM (gS 2) k__law_divisor_1 (z' :: xs) _ = _
      unfold DL.forM
      rw [g']
      dsimp only
      rw [div_turn hr0]
      show DL.forM (gS 2) k__law_divisor_1 xs _ = _
      rw [e, gc, gc2]
theorem v_divisor {a b : Int} (hb : b.natAbs < 2 ^ 1000000) : m__law_divisor [some (.sh (.int a)), some (.sh (.int b))] = .ok (.int (Int.gcd a b : Nat)) [none, none] := by
  have ha : (if a < 0 then -a else a) = (a.natAbs : Int) := by split <;> omega
  have hb' : (if b < 0 then -b else b) = (b.natAbs : Int) := by split <;> omega
  obtain ⟨k, hk⟩ : ∃ k : Nat, k = Builtin.Int.intBits (b.natAbs : Int) := ⟨_, rfl⟩
  have bl : b.natAbs < 2 ^ k := by
    rw [hk]
    unfold Builtin.Int.intBits
    by_cases z : b.natAbs = 0
    · rw [z]; decide
    · rw [if_neg (by simp; omega)]
      simp
      exact Nat.lt_log2_self
  have k1 : k ≤ 1000000 := by
    rw [hk]
    unfold Builtin.Int.intBits
    split
    · omega
    · rename_i z
      simp
      have : b.natAbs.log2 < 1000000 := (Nat.log2_lt (by simpa using z)).mpr hb
      omega
  have m2 : fMul (.int 2) (.int k) = .ok (.int (2 * k)) := fMul_int _ _ (small_mul' (by omega))
  have sm : small62 (2 * (k : Int) + 2) := by unfold small62; omega
  obtain ⟨ρ, e⟩ := div_loop k a.natAbs b.natAbs (rangeD 0 (2 * (k : Int) + 2).toNat) none none bl (by simp [rangeD]; omega) (by simp [rangeD])
  simp [m__law_divisor, b__law_divisor, fnM_e, ha, hb', ← hk, m2, sm, e]
  rfl
theorem v_lf {t b : Int} (hb : b ≠ 0) (hg : Int.gcd t b < lim) (hs : b.natAbs < 2 ^ 1000000) : m__law_f [some (.sh (.int t)), some (.sh (.int b))] = .ok (frD (Rat.divInt t b)) [none, none] := by
  have g0 : (0 : Int) < (Int.gcd t b : Int) := by
    have := Int.gcd_pos_of_ne_zero_right t hb
    omega
  rcases Int.lt_or_gt_of_ne hb with h | h
  · have d1 := fDiv_int (-t) (Int.gcd t b : Int) (divOk_of g0 (by simpa using hg))
    have d2 := fDiv_int (-b) (Int.gcd t b : Int) (divOk_of g0 (by simpa using hg))
    have vd := v_divisor (a := -t) (b := -b) (by simpa using hs)
    have hb' : 0 < -b := by omega
    have n1 := num_divInt (t := -t) hb'
    have n2 := den_divInt (t := -t) hb'
    rw [divInt_neg', Int.gcd_neg, Int.neg_gcd] at n1 n2
    rw [Int.gcd_neg, Int.neg_gcd] at vd
    simp [m__law_f, b__law_f, fnM_e, h, vd, d1, d2, frD, n1, n2]
  · have d1 := fDiv_int t (Int.gcd t b : Int) (divOk_of g0 (by simpa using hg))
    have d2 := fDiv_int b (Int.gcd t b : Int) (divOk_of g0 (by simpa using hg))
    have vd := v_divisor (a := t) (b := b) hs
    simp [m__law_f, b__law_f, fnM_e, show ¬ b < 0 by omega, vd, d1, d2, frD, num_divInt h, den_divInt h]
end G
/-! Y3 -/
set_option Elab.async false
set_option linter.all false
set_option maxRecDepth 100000
set_option maxHeartbeats 1000000
namespace G
open PySem PySem.Spec PyProof.Rows L2 DL SX
section
variable {p q : Rat} {m n : Nat}
@[simp] theorem fr0 (q) : fIx (frD q) (.int 0) = .ok (.int q.num) := by unfold frD; simp
@[simp] theorem fr1 (q) : fIx (frD q) (.int 1) = .ok (.int q.den) := by unfold frD; simp
theorem big_of {b : Int} {k : Nat} (h : b.natAbs < 2 ^ k) (hk : k ≤ 9000) : b.natAbs < 2 ^ 1000000 := Nat.lt_of_lt_of_le h (Nat.pow_le_pow_right (by decide) (by omega))
theorem v_ladd (hp : Sz m p) (hq : Sz n q) (h : m + n ≤ 9000) : m__law_add [some (.sh (frD p)), some (.sh (frD q))] = .ok (frD (p + q)) [none, none] := by
  have m1 := fMul_int p.num q.den (mulOk_of hp.1 (by simpa using hq.2) (by omega))
  have m2 := fMul_int q.num p.den (mulOk_of hq.1 (by simpa using hp.2) (by omega))
  have m3 := fMul_int p.den q.den (mulOk_of (by simpa using hp.2) (by simpa using hq.2) (by omega))
  have d0 : (p.den : Int) * q.den ≠ 0 := Int.mul_ne_zero (den_ne p) (den_ne q)
  have bb : ((p.den : Int) * q.den).natAbs < 2 ^ (m + n) := by rw [Int.natAbs_mul]; simpa using mul_lt hp.2 hq.2
  have ini := v_lf (t := p.num * q.den + q.num * p.den) d0 (gcd_small d0 (k := m + n) bb h) (big_of bb h)
  rw [add_divInt] at ini
  simp [m__law_add, b__law_add, fnM_e, m1, m2, m3, ini]
theorem v_lsub (hp : Sz m p) (hq : Sz n q) (h : m + n ≤ 9000) : m__law_sub [some (.sh (frD p)), some (.sh (frD q))] = .ok (frD (p - q)) [none, none] := by
  have m1 := fMul_int p.num q.den (mulOk_of hp.1 (by simpa using hq.2) (by omega))
  have m2 := fMul_int q.num p.den (mulOk_of hq.1 (by simpa using hp.2) (by omega))
  have m3 := fMul_int p.den q.den (mulOk_of (by simpa using hp.2) (by simpa using hq.2) (by omega))
  have d0 : (p.den : Int) * q.den ≠ 0 := Int.mul_ne_zero (den_ne p) (den_ne q)
  have bb : ((p.den : Int) * q.den).natAbs < 2 ^ (m + n) := by rw [Int.natAbs_mul]; simpa using mul_lt hp.2 hq.2
  have ini := v_lf (t := p.num * q.den - q.num * p.den) d0 (gcd_small d0 (k := m + n) bb h) (big_of bb h)
  rw [sub_divInt] at ini
  simp [m__law_sub, b__law_sub, fnM_e, m1, m2, m3, ini]
theorem v_lmul (hp : Sz m p) (hq : Sz n q) (h : m + n ≤ 9000) : m__law_mul [some (.sh (frD p)), some (.sh (frD q))] = .ok (frD (p * q)) [none, none] := by
  have m1 := fMul_int p.num q.num (mulOk_of hp.1 hq.1 (by omega))
  have m3 := fMul_int p.den q.den (mulOk_of (by simpa using hp.2) (by simpa using hq.2) (by omega))
  have d0 : (p.den : Int) * q.den ≠ 0 := Int.mul_ne_zero (den_ne p) (den_ne q)
  have bb : ((p.den : Int) * q.den).natAbs < 2 ^ (m + n) := by rw [Int.natAbs_mul]; simpa using mul_lt hp.2 hq.2
  have ini := v_lf (t := p.num * q.num) d0 (gcd_small d0 (k := m + n) bb h) (big_of bb h)
  rw [mul_divInt] at ini
  simp [m__law_mul, b__law_mul, fnM_e, m1, m3, ini]
theorem v_ldiv (hp : Sz m p) (hq : Sz n q) (h : m + n ≤ 9000) (h0 : q ≠ 0) : m__law_div [some (.sh (frD p)), some (.sh (frD q))] = .ok (frD (p / q)) [none, none] := by
  have m1 := fMul_int p.num q.den (mulOk_of hp.1 (by simpa using hq.2) (by omega))
  have m3 := fMul_int p.den q.num (mulOk_of (by simpa using hp.2) hq.1 (by omega))
  have d0 : (p.den : Int) * q.num ≠ 0 := Int.mul_ne_zero (den_ne p) (num_ne h0)
  have bb : ((p.den : Int) * q.num).natAbs < 2 ^ (m + n) := by rw [Int.natAbs_mul]; simpa using mul_lt hp.2 hq.1
  have ini := v_lf (t := p.num * q.den) d0 (gcd_small d0 (k := m + n) bb h) (big_of bb h)
  rw [div_divInt] at ini
  simp [m__law_div, b__law_div, fnM_e, m1, m3, ini]
theorem v_lless (hp : Sz m p) (hq : Sz n q) (h : m + n ≤ 9000) : m__law_less [some (.sh (frD p)), some (.sh (frD q))] = .ok (.bl (decide (p < q))) [none, none] := by
  have m1 := fMul_int p.num q.den (mulOk_of hp.1 (by simpa using hq.2) (by omega))
  have m2 := fMul_int q.num p.den (mulOk_of hq.1 (by simpa using hp.2) (by omega))
  simp [m__law_less, b__law_less, fnM_e, m1, m2, Rat.lt_iff]
end
end G
/-! Y4 -/
set_option Elab.async false
set_option linter.all false
set_option maxRecDepth 100000
set_option maxHeartbeats 1000000
namespace G
open PySem PySem.Spec PyProof.Rows L2 DL SX
open TL (numL)
/-! texts of orders, written -/
theorem numL_head : ∀ (m n : Nat), n ≤ m → 0 < n → (numL n).head? ≠ some 48
  | m, n, hm, h0 => by
    by_cases h : n < 10
    · rw [TL.numL_lt h]
      simp
      omega
    · rw [TL.numL_step (by omega)]
      have hne := TL.numL_ne (n / 10)
      have ih : (numL (n / 10)).head? ≠ some 48 := by
        cases m with
        | zero => omega
        | succ m => exact numL_head m (n / 10) (by omega) (by omega)
      cases e : numL (n / 10) with
      | nil => exact absurd e hne
      | cons x r => rw [e] at ih; simpa using ih
theorem numIn_num {n most : Nat} (h0 : 0 < most) (h : n < 10 ^ most) : numIn (numL n) most = some n := by
  have hd := TL.numL_digits n
  have hne := TL.numL_ne n
  have hl := TL.numL_len h0 h
  have e1 : isDigs (numL n) = true := List.all_eq_true.mpr fun c m => decide_eq_true (hd c m)
  have e2 : numL n = [48] ∨ (numL n).head? ≠ some 48 := by
    by_cases z : n = 0
    · subst z; exact .inl (by decide)
    · exact .inr (numL_head n n (Nat.le_refl n) (by omega))
  unfold numIn
  rw [if_neg (by rw [e1]; simp [hne]; omega), if_pos e2, TL.numL_val]
abbrev timesL (n : Nat) : List Nat := TL.joinL [32] [wTimes, numL n]
theorem timesL_eq (n : Nat) : timesL n = [116, 105, 109, 101, 115, 32] ++ numL n := rfl
theorem timesL_ne (n : Nat) : timesL n ≠ wEnd := by rw [timesL_eq]; intro h; cases h
theorem spl_times (n : Nat) : TL.spl [32] 0 [] (timesL n) = [wTimes, numL n] := by
  refine TL.spl_join (by simp) fun p m => ?_
  rcases List.mem_cons.mp m with rfl | m
  · decide
  · rcases List.mem_cons.mp m with rfl | m
    · exact TL.numL_free (.inl (by decide))
    · cases m
theorem timesIn_times {n : Nat} (h : n ≤ 20) : timesIn (TL.spl [32] 0 [] (timesL n)) = some n := by
  rw [spl_times]
  unfold timesIn
  simp only [if_pos]
  rw [numIn_num (by decide) (by omega)]
  dsimp only
  rw [if_pos h]
/-- lines that tell deeds, so many loops deep -/
def Blk (w : Wb) (d : Nat) (L : List (List Nat)) (ds : List Deed) : Prop := ∀ (i k : Nat) (acc : List Deed) (rest : Stk) (tail : List (List Nat)), rest.length + d ≤ 4 → goO w (L ++ tail) i ((k, acc) :: rest) = goO w tail (i + L.length) ((k, acc ++ ds) :: rest)
theorem Blk.nil {w : Wb} {d : Nat} : Blk w d [] [] := fun i k acc rest tail _ => by simp
theorem Blk.mono {w : Wb} {d d' : Nat} {L : List (List Nat)} {ds : List Deed} (h : Blk w d L ds) (hd : d ≤ d') : Blk w d' L ds := fun i k acc rest tail hr => h i k acc rest tail (by omega)
theorem Blk.app {w : Wb} {d : Nat} {L M : List (List Nat)} {ds es : List Deed} (h : Blk w d L ds) (h' : Blk w d M es) : Blk w d (L ++ M) (ds ++ es) := fun i k acc rest tail hr => by
  rw [List.append_assoc, h i k acc rest _ hr, h' _ k _ rest tail hr, List.length_append, List.append_assoc, Nat.add_assoc]
theorem Blk.line {w : Wb} {l : List Nat} {x : Deed} (h1 : l ≠ wEnd) (h2 : timesIn (TL.spl [32] 0 [] l) = none) (h3 : deedIn w (TL.spl [32] 0 [] l) = some x) : Blk w 0 [l] [x] := fun i k acc rest tail hr => by
  show goO w (l :: tail) i _ = _
  conv => lhs; unfold goO
  have e : stepO w ((k, acc) :: rest) l = some ((k, acc ++ [x]) :: rest) := by
    unfold stepO
    dsimp only
    rw [if_neg (fun z => h1 z.1), h2, if_neg (by simp), h3]
  rw [e]
  rfl
theorem Blk.times {w : Wb} {d n : Nat} {L : List (List Nat)} {ds : List Deed} (h : Blk w d L ds) (hn : n ≤ 20) : Blk w (d + 1) (timesL n :: (L ++ [wEnd])) [.times n ds] := fun i k acc rest tail hr => by
  show goO w (timesL n :: (L ++ [wEnd] ++ tail)) i _ = _
  conv => lhs; unfold goO
  have e : stepO w ((k, acc) :: rest) (timesL n) = some ((n, []) :: (k, acc) :: rest) := by
    unfold stepO
    dsimp only
    rw [if_neg (fun z => timesL_ne n z.1), timesIn_times hn, if_pos ⟨rfl, by omega⟩]
    rfl
  rw [e]
  dsimp only
  rw [List.append_assoc, h (i + 1) n [] ((k, acc) :: rest) _ (by simp; omega)]
  show goO w (wEnd :: tail) _ _ = _
  conv => lhs; unfold goO
  have e2 : stepO w ((n, [] ++ ds) :: (k, acc) :: rest) wEnd = some ((k, acc ++ [.times n ds]) :: rest) := by
    unfold stepO
    dsimp only
    rw [if_pos ⟨rfl, by simp⟩]
    simp
  rw [e2]
  simp
  congr 1
  omega
theorem joinL_ne : ∀ {L : List (List Nat)}, L ≠ [] → (∀ l ∈ L, l ≠ []) → TL.joinL [10] L ≠ []
  | [], h, _ => absurd rfl h
  | [l], _, h => by
    show l ≠ []
    exact h l (by simp)
  | l :: m :: r, _, h => by
    simp [TL.joinL]
theorem readO_blk {w : Wb} {L : List (List Nat)} {ds : List Deed} (h : Blk w 4 L ds) (hl : ∀ l ∈ L, l ≠ [] ∧ 10 ∉ l) : readO w (TL.joinL [10] L) = .ok ds := by
  have e : (if TL.joinL [10] L = [] then [] else TL.spl [10] 0 [] (TL.joinL [10] L)) = L := by
    by_cases z : L = []
    · subst z; rfl
    · rw [if_neg (joinL_ne z fun l m => (hl l m).1), TL.spl_join z fun l m => (hl l m).2]
  unfold readO
  rw [e]
  have := h 0 1 [] [] [] (by simp)
  rw [List.append_nil, List.nil_append] at this
  rw [this]
  rfl
/-! loops around lines -/
def wrapL (ns : List Nat) (L : List (List Nat)) : List (List Nat) := ns.foldl (fun l n => timesL (min 20 n) :: (l ++ [wEnd])) L
def wrapD (ns : List Nat) (ds : List Deed) : List Deed := ns.foldl (fun ds n => [.times (min 20 n) ds]) ds
theorem Blk.wrap {w : Wb} : ∀ (ns : List Nat) {d : Nat} {L : List (List Nat)} {ds : List Deed}, Blk w d L ds → Blk w (d + ns.length) (wrapL ns L) (wrapD ns ds)
  | [], d, L, ds, h => h
  | n :: ns, d, L, ds, h => by
    have := Blk.wrap ns (Blk.times (n := min 20 n) h (by omega))
    rw [List.length_cons, show d + (ns.length + 1) = d + 1 + ns.length by omega]
    exact this
theorem wrapL_good : ∀ (ns : List Nat) {L : List (List Nat)}, (∀ l ∈ L, l ≠ [] ∧ 10 ∉ l) → ∀ l ∈ wrapL ns L, l ≠ [] ∧ 10 ∉ l
  | [], L, h => h
  | n :: ns, L, h => by
    refine wrapL_good ns (L := timesL (min 20 n) :: (L ++ [wEnd])) fun l m => ?_
    rcases List.mem_cons.mp m with rfl | m
    · refine ⟨by rw [timesL_eq]; simp, ?_⟩
      rw [timesL_eq, List.mem_append]
      rintro (z | z)
      · revert z; decide
      · exact TL.numL_free (.inl (by decide)) z
    · rcases List.mem_append.mp m with m | m
      · exact h l m
      · rcases List.mem_singleton.mp m with rfl
        exact ⟨by simp, by decide⟩
theorem deepL_wrap : ∀ (ns : List Nat) (ds : List Deed), deepL (wrapD ns ds) ≤ deepL ds + ns.length
  | [], ds => Nat.le_refl _
  | n :: ns, ds => by
    have := deepL_wrap ns [.times (min 20 n) ds]
    simp only [deepL, deepO] at this
    show deepL (wrapD ns [.times (min 20 n) ds]) ≤ _
    simp only [List.length_cons]
    omega
theorem deepL_app : ∀ (a b : List Deed), deepL (a ++ b) = max (deepL a) (deepL b)
  | [], b => by simp [deepL]
  | d :: a, b => by simp only [List.cons_append, deepL, deepL_app a b]; omega
end G
/-! Y5 -/
set_option Elab.async false
set_option linter.all false
set_option maxRecDepth 100000
set_option maxHeartbeats 1000000
namespace G
open PySem PySem.Spec PyProof.Rows L2 DL SX
/-! what is run -/
theorem Do.app_ok {b : List Deed} {res : Res} {r' : Rn} : ∀ (a : List Deed) {r : Rn}, Do a r (.ok r') → Do b r' res → Do (a ++ b) r res
  | [], r, h, t => by cases h; exact t
  | d :: a, r, h, t => by
    cases h with
    | put h1 h2 h3 => exact .put h1 h2 (Do.app_ok a h3 t)
    | part0 h1 h2 h3 h4 => exact .part0 h1 h2 h3 (Do.app_ok a h4 t)
    | toSame h1 h2 h3 h4 h5 => exact .toSame h1 h2 h3 h4 (Do.app_ok a h5 t)
    | times h1 h2 h3 => exact .times h1 h2 (Do.app_ok a h3 t)
theorem Do.app_many {b : List Deed} {r' : Rn} : ∀ (a : List Deed) {r : Rn}, Do a r (.many r') → Do (a ++ b) r (.many r')
  | [], r, h => by cases h
  | d :: a, r, h => by
    cases h with
    | put h1 h2 h3 => exact .put h1 h2 (Do.app_many a h3)
    | putX h1 h2 => exact .putX h1 h2
    | part0 h1 h2 h3 h4 => exact .part0 h1 h2 h3 (Do.app_many a h4)
    | toSame h1 h2 h3 h4 h5 => exact .toSame h1 h2 h3 h4 (Do.app_many a h5)
    | times h1 h2 h3 => exact .times h1 h2 (Do.app_many a h3)
    | timesX h1 h2 => exact .timesX h1 h2
/-- the stall of this law, so many moves later -/
def stK (k : Nat) : St := ⟨0, 1, 1 + k, 1 / (1 + k), 1⟩
def wbK (k : Nat) : Wb := ⟨2, [stK k]⟩
def rk (k : Nat) : Rn := ⟨wbK k, [5 - k, k / (1 + k)], List.replicate k ⟨0, 0, 1⟩⟩
theorem nn (k : Nat) : (0 : Rat) ≤ (k : Rat) := Rat.natCast_nonneg
theorem stK_ok (k : Nat) : (stK k).ok 2 := by
  have h := nn k
  have h1 : (0 : Rat) < 1 + (k : Rat) := by grind
  have h2 : (1 : Rat) + (k : Rat) ≠ 0 := by grind
  refine ⟨(by show (0 : Int) ≤ 0; decide), (by show (0 : Int) < 2; decide), (by show (0 : Int) ≤ 1; decide), (by show (1 : Int) < 2; decide), (by show (0 : Int) ≠ 1; decide), h1, div_pos (by decide) h1, (by show (0 : Rat) < 1; decide), ?_⟩
  show (1 + (k : Rat)) * (1 / (1 + (k : Rat))) = 1 * 1
  rw [Rat.mul_comm, Rat.div_mul_cancel h2, Rat.mul_one]
theorem wbK_ok (k : Nat) : (wbK k).ok := ⟨(by show (1 : Int) ≤ 2; decide), (by show (2 : Int) ≤ 8; decide), (by show 1 ≤ 16; decide), fun s m => by
  have : s = stK k := by simpa [wbK] using m
  rw [this]; exact stK_ok k⟩
theorem sz_nat {k n : Nat} (h : k < 2 ^ n) (h0 : 0 < n) : Sz n (k : Rat) := by
  refine ⟨?_, ?_⟩
  · rw [Rat.num_natCast]; simpa using h
  · rw [Rat.den_natCast]; exact Nat.one_lt_two_pow (by omega)
theorem sz_1 : Sz 1 (1 : Rat) := by refine ⟨by decide, by decide⟩
theorem sz_5 : Sz 3 (5 : Rat) := by refine ⟨by decide, by decide⟩
theorem sz_k {k : Nat} (h : k ≤ 200) : Sz 8 (k : Rat) := sz_nat (by omega) (by decide)
theorem stK_sz {k : Nat} (h : k ≤ 200) : (stK k).Sz 100 :=
  ⟨(Sz.add sz_1 (sz_k h)).mono (by decide), (Sz.div sz_1 (Sz.add sz_1 (sz_k h)) (by have := nn k; grind)).mono (by decide), sz_1.mono (by decide)⟩
theorem step_k (k : Nat) : (rk k).step 0 0 1 = rk (k + 1) := by
  have h := nn k
  have e : ((k + 1 : Nat) : Rat) = (k : Rat) + 1 := by simp
  have n1 : (1 : Rat) + (k : Rat) ≠ 0 := by grind
  have n2 : (1 : Rat) + (k : Rat) + 1 ≠ 0 := by grind
  have w1 : (stK k).withH (0 : Nat) ((stK k).at (0 : Nat) + 1) = stK (k + 1) := by
    simp [St.withH, St.at, stK, e]
    constructor
    · grind
    · congr 1; grind
  have o1 : (stK k).oth (0 : Nat) = 1 := rfl
  have a1 : (stK k).at 1 = 1 / (1 + (k : Rat)) := rfl
  have a2 : (stK (k + 1)).at 1 = 1 / (1 + ((k + 1 : Nat) : Rat)) := rfl
  have hs : (rk k).w.ss[0]? = some (stK k) := rfl
  have pt : (rk k).w.put 0 (0 : Nat) 1 = ((rk k).w.set 0 (stK (k + 1)), 1 / (1 + (k : Rat)) - 1 / (1 + ((k + 1 : Nat) : Rat))) := by
    unfold Wb.put
    rw [hs]
    dsimp only
    rw [w1, o1, a1, a2]
  unfold Rn.step
  rw [hs]
  dsimp only
  unfold Rn.put
  rw [pt, o1]
  simp [rk, wbK, Wb.set, e, List.replicate_succ']
  have n3 : (1 : Rat) + ((k : Rat) + 1) ≠ 0 := by grind
  exact ⟨by grind, by grind⟩
theorem put_k {k : Nat} (hk : k ≤ 200) : PutOk (rk k) 0 0 1 := ⟨by simpa [rk] using hk, fun hl => by
  have hk' : k < 200 := by simpa [rk] using hl
  have h := nn k
  have z1 : Sz 10 (1 + (k : Rat)) := (Sz.add sz_1 (sz_k hk))
  have ne : (1 : Rat) + (k : Rat) ≠ 0 := by grind
  have z2 : Sz 10 (1 + ((k + 1 : Nat) : Rat)) := (Sz.add sz_1 (sz_k (k := k + 1) (by omega)))
  have ne2 : (1 : Rat) + ((k + 1 : Nat) : Rat) ≠ 0 := by have := nn (k + 1); grind
  have e : ((k + 1 : Nat) : Rat) = (k : Rat) + 1 := by simp
  have hs : (rk k).w.ss[0]? = some (stK k) := rfl
  have w1 : (stK k).withH (0 : Nat) ((stK k).at (0 : Nat) + 1) = stK (k + 1) := by
    simp [St.withH, St.at, stK, e]
    constructor
    · grind
    · congr 1; grind
  have o2 : ((rk k).w.put 0 (0 : Nat) 1).2 = 1 / (1 + (k : Rat)) - 1 / (1 + ((k + 1 : Nat) : Rat)) := by
    unfold Wb.put
    rw [hs]
    dsimp only
    rw [w1]
    rfl
  refine ⟨stK k, 1, 1, 12, 10, 12, 100, 20, 5 - k, k / (1 + k), wbK_ok k, hs, .inl rfl, by decide, rfl, rfl, rfl, ⟨fun s m => ?_⟩, sz_1, ?_, ?_, sz_1.mono (by decide), by decide, by decide, ?_, by decide, ?_, ?_, by decide⟩
  · have : s = stK k := by simpa [rk, wbK] using m
    rw [this]
    have := stK_sz hk
    exact ⟨this.1.mono (by decide), this.2.1.mono (by decide), this.2.2.mono (by decide)⟩
  · show Sz 12 (1 + (k : Rat) + 1)
    exact Sz.add z1 sz_1
  · exact z1
  · exact Sz.sub sz_5 (sz_k hk)
  · exact (Sz.div (sz_k hk) z1 ne).mono (by decide)
  · rw [o2]
    exact (Sz.sub (Sz.div sz_1 z1 ne) (Sz.div sz_1 z2 ne2)).mono (by decide)⟩
/-- so many puts, from any number of puts on -/
def endK (k c : Nat) : Res := if k + c ≤ 200 then .ok (rk (k + c)) else .many (rk 200)
def Cn (ds : List Deed) (c : Nat) : Prop := ∀ k, k ≤ 200 → Do ds (rk k) (endK k c)
theorem Cn.nil : Cn [] 0 := fun k hk => by
  unfold endK
  rw [if_pos (by omega)]
  exact .nil _
theorem Cn.put : Cn [.put 0 0 1] 1 := fun k hk => by
  unfold endK
  by_cases h : k = 200
  · subst h
    rw [if_neg (by omega)]
    exact .putX (put_k hk) (by simp [rk])
  · rw [if_pos (by omega)]
    refine .put (put_k hk) (by simp [rk]; omega) ?_
    rw [step_k]
    exact .nil _
theorem Cn.app {a b : List Deed} {x y : Nat} (h : Cn a x) (h' : Cn b y) : Cn (a ++ b) (x + y) := fun k hk => by
  have h1 := h k hk
  unfold endK at h1 ⊢
  by_cases c : k + x ≤ 200
  · rw [if_pos c] at h1
    have h2 := h' (k + x) c
    unfold endK at h2
    rw [← Nat.add_assoc]
    exact Do.app_ok a h1 h2
  · rw [if_neg c] at h1
    rw [if_neg (by omega)]
    exact Do.app_many a h1
theorem iter_k {b : List Deed} {c : Nat} (h : Cn b c) : ∀ (n k : Nat), k ≤ 200 → Iter n b (rk k) (endK k (n * c))
  | 0, k, hk => by
    unfold endK
    rw [if_pos (by omega)]
    simpa using Iter.zero b (rk k)
  | n + 1, k, hk => by
    have h1 := h k hk
    have e : (n + 1) * c = c + n * c := by rw [Nat.succ_mul, Nat.add_comm]
    unfold endK at h1 ⊢
    by_cases q : k + c ≤ 200
    · rw [if_pos q] at h1
      have ih := iter_k h n (k + c) q
      unfold endK at ih
      rw [e, ← Nat.add_assoc]
      exact .succ h1 ih
    · rw [if_neg q] at h1
      rw [if_neg (by omega)]
      exact .succX h1
theorem Cn.times {b : List Deed} {c n : Nat} (h : Cn b c) (hn : n ≤ 20) : Cn [.times n b] (n * c) := fun k hk => by
  have i := iter_k h n k hk
  unfold endK at i ⊢
  by_cases q : k + n * c ≤ 200
  · rw [if_pos q] at i ⊢
    exact .times (by omega) i (.nil _)
  · rw [if_neg q] at i ⊢
    exact .timesX (by omega) i
def prodK (ns : List Nat) : Nat := ns.foldl (fun c n => min 20 n * c) 1
theorem Cn.wrap : ∀ (ns : List Nat) {b : List Deed} {c : Nat}, Cn b c → Cn (wrapD ns b) (ns.foldl (fun c n => min 20 n * c) c)
  | [], b, c, h => h
  | n :: ns, b, c, h => Cn.wrap ns (Cn.times (n := min 20 n) h (by omega))
/-- lines that do nothing at first -/
def Idle (ds : List Deed) : Prop := Do ds (rk 0) (.ok (rk 0))
theorem Idle.times {b : List Deed} (h : Idle b) {n : Nat} (hn : n ≤ 20) : Idle [.times n b] := by
  have : ∀ n, Iter n b (rk 0) (.ok (rk 0)) := fun n => by
    induction n with
    | zero => exact .zero _ _
    | succ n ih => exact .succ h ih
  exact Do.times (by omega) (this n) (Do.nil _)
theorem Idle.wrap : ∀ (ns : List Nat) {b : List Deed}, Idle b → Idle (wrapD ns b)
  | [], b, h => h
  | n :: ns, b, h => Idle.wrap ns (Idle.times h (n := min 20 n) (by omega))
theorem idle_lines : Idle [.part wAll 1 0, .part wHalf 1 0, .to 0 1] := by
  have h0 : ¬ (0 : Rat) < ((0 : Nat) : Rat) / (1 + ((0 : Nat) : Rat)) := by decide +kernel
  exact .part0 (x := _) rfl h0 (.inl rfl) (.part0 (x := _) rfl h0 (.inr rfl) (.toSame (s := stK 0) (m := 1) rfl (by decide +kernel) sz_1 (by decide) (.nil _)))
end G
/-! Y6 -/
set_option Elab.async false
set_option linter.all false
set_option maxRecDepth 100000
set_option maxHeartbeats 1000000
namespace G
open PySem PySem.Spec PyProof.Rows L2 DL SX
open TL (numL)
@[simp] theorem lit_timesb : (Str.ofString "times " : Str) = S [116, 105, 109, 101, 115, 32] := by decide +kernel
@[simp] theorem lit_putl : (Str.ofString "put 1 0 0" : Str) = S [112, 117, 116, 32, 49, 32, 48, 32, 48] := by decide +kernel
@[simp] theorem lit_alll : (Str.ofString "all 1 0" : Str) = S [97, 108, 108, 32, 49, 32, 48] := by decide +kernel
@[simp] theorem lit_halfl : (Str.ofString "half 1 0" : Str) = S [104, 97, 108, 102, 32, 49, 32, 48] := by decide +kernel
@[simp] theorem lit_tol : (Str.ofString "to 0 1" : Str) = S [116, 111, 32, 48, 32, 49] := by decide +kernel
theorem fStr_nat {n : Nat} (h : n < 10 ^ 100) : fStr (.int n) = .ok (.str (S (numL n))) := by
  have e : (Str.ofString (toString ((n : Nat) : Int)) : Str) = S (numL n) := TL.ext_tl (TL.tl_num n)
  show (if (n : Int).natAbs.log2 < 1920 then P.ok (D.str (Str.ofString (toString (n : Int)))) else .stk) = _
  rw [e, if_pos]
  have : ((n : Int)).natAbs = n := by simp
  rw [this]
  by_cases z : n = 0
  · subst z; decide
  · rw [Nat.log2_lt z]
    exact Nat.lt_of_lt_of_le h (by decide +kernel)
abbrev intsD (ns : List Nat) : List D := ns.map fun (n : Nat) => D.int (n : Int)
abbrev strsD (L : List (List Nat)) : List D := L.map fun l => .str (S l)
theorem strs_frz (L : List (List Nat)) : frzL (strsD L) = strsD L := frzL_id' _ _ (fun _ _ => by simp)
theorem within_loop {a0 a1 : Option DL.Slot} : ∀ (ns : List Nat) (L : List (List Nat)) (r3 : Option DL.Slot), L.length + 2 * ns.length ≤ 1000 →
    ∃ r3', DL.forM (gS 3) k__law_within_1 (intsD ns) [a0, a1, some (.sh (.lst false (strsD L))), r3] = .ok .nx [a0, a1, some (.sh (.lst false (strsD (wrapL ns L)))), r3']
  | [], L, r3, _ => ⟨r3, rfl⟩
  | n :: ns, L, r3, h => by
    simp only [List.length_cons] at h
    obtain ⟨r3', e⟩ := within_loop (a0 := a0) (a1 := a1) ns (timesL (min 20 n) :: (L ++ [wEnd])) (some (.sh (.int n))) (by simp; omega)
    refine ⟨r3', ?_⟩
    show DL.forM (gS 3) k__law_within_1 (.int n :: intsD ns) _ = _
    unfold DL.forM
    have g : gS 3 (.int n) [a0, a1, some (.sh (.lst false (strsD L))), r3] = some [a0, a1, some (.sh (.lst false (strsD L))), some (.sh (.int n))] := by simp
    rw [g]
    dsimp only
    have mn : (min 20 (n : Int)) = ((min 20 n : Nat) : Int) := by omega
    have fs := fStr_nat (n := min 20 n) (Nat.lt_of_le_of_lt (Nat.min_le_left 20 n) (by decide))
    have nl := TL.numL_len (n := min 20 n) (k := 2) (by decide) (by omega)
    have f1 := fAdd_str (S [116, 105, 109, 101, 115, 32]) (S (numL (min 20 n))) (by rw [S_len, S_len]; simp; omega)
    rw [S_cat] at f1
    have f2 := fAdd_lst [.str (S ([116, 105, 109, 101, 115, 32] ++ numL (min 20 n)))] (strsD L) false false (by simp; omega)
    have f3 := fAdd_lst ([.str (S ([116, 105, 109, 101, 115, 32] ++ numL (min 20 n)))] ++ strsD L) [.str (S wEnd)] false false (by simp; omega)
    have fz := strs_frz L
    simp only [List.cons_append, List.nil_append] at f1 f2 f3
    have t : k__law_within_1 [a0, a1, some (.sh (.lst false (strsD L))), some (.sh (.int n))] = .ok .nx [a0, a1, some (.sh (.lst false (strsD (timesL (min 20 n) :: (L ++ [wEnd]))))), some (.sh (.int n))] := by
      simp [k__law_within_1, mn, fs, f1, f2, fz, f3, timesL_eq]
    rw [t]
    exact e
theorem v_within {ns : List Nat} {L : List (List Nat)} {o o2 : Bool} (h : L.length + 2 * ns.length ≤ 1000) : m__law_within [some (.sh (.lst o (intsD ns))), some (.sh (.lst o2 (strsD L)))] = .ok (.lst false (strsD (wrapL ns L))) [none, none] := by
  obtain ⟨r3', e⟩ := within_loop (a0 := some (.sh (.lst o (intsD ns)))) (a1 := some (.sh (.lst o2 (strsD L)))) ns L none h
  have fz := strs_frz L
  simp [m__law_within, b__law_within, fnM_e, fz, e]
theorem many_loop {a0 : Option DL.Slot} : ∀ (ns : List Nat) (c : Nat) (r2 : Option DL.Slot), ∃ r2', DL.forM (gS 2) k__law_many_1 (intsD ns) [a0, some (.sh (.int c)), r2] = .ok .nx [a0, some (.sh (.int (ns.foldl (fun c n => min 20 n * c) c : Nat))), r2']
  | [], c, r2 => ⟨r2, rfl⟩
  | n :: ns, c, r2 => by
    obtain ⟨r2', e⟩ := many_loop (a0 := a0) ns (min 20 n * c) (some (.sh (.int n)))
    refine ⟨r2', ?_⟩
    show DL.forM (gS 2) k__law_many_1 (.int n :: intsD ns) _ = _
    unfold DL.forM
    have g : gS 2 (.int n) [a0, some (.sh (.int c)), r2] = some [a0, some (.sh (.int c)), some (.sh (.int n))] := by simp
    rw [g]
    dsimp only
    have mn : (min 20 (n : Int)) = ((min 20 n : Nat) : Int) := by omega
    have fm := fMul_int (c : Int) ((min 20 n : Nat) : Int) (small_mul (by omega))
    have em : (c : Int) * ((min 20 n : Nat) : Int) = ((min 20 n * c : Nat) : Int) := by rw [Int.natCast_mul, Int.mul_comm]
    rw [em] at fm
    have t : k__law_many_1 [a0, some (.sh (.int c)), some (.sh (.int n))] = .ok .nx [a0, some (.sh (.int (min 20 n * c : Nat))), some (.sh (.int n))] := by
      simp only [k__law_many_1, sAsg_e, dOp_e, dVar_e, dN_e, dCons_e, dC_e, dNil_e, List.getElem?_cons_succ, List.getElem?_cons_zero, R.bind_okE, fMin_int, P.at_okE, mn, fm, gF_e]
      simp
    rw [t]
    exact e
theorem v_many {ns : List Nat} {o : Bool} : m__law_many [some (.sh (.lst o (intsD ns)))] = .ok (.int (prodK ns : Nat)) [none] := by
  obtain ⟨r2', e⟩ := many_loop (a0 := some (.sh (.lst o (intsD ns)))) ns 1 none
  simp at e
  simp [m__law_many, b__law_many, fnM_e, e]
  rfl
end G
/-! Y7 -/
set_option Elab.async false
set_option linter.all false
set_option maxRecDepth 100000
set_option maxHeartbeats 1000000
namespace G
open PySem PySem.Spec PyProof.Rows L2 DL SX
open TL (numL)
theorem purse0 : frD 5 = .tup [.int 5, .int 1] := by rfl
theorem purse_ok : Purse (wbK 0) (.tup [.tup [.int 5, .int 1], .tup [.int 0, .int 1]]) [5, 0] := by
  refine ⟨by simp, rfl, rfl, ?_⟩
  intro q m
  rcases List.mem_cons.mp m with rfl | m
  · decide
  · rcases List.mem_cons.mp m with rfl | m
    · decide
    · cases m
theorem rk0 : rk 0 = ⟨wbK 0, [5, 0], []⟩ := by
  have h1 : (5 : Rat) - ((0 : Nat) : Rat) = 5 := by decide +kernel
  have h2 : ((0 : Nat) : Rat) / (1 + ((0 : Nat) : Rat)) = 0 := by decide +kernel
  show (⟨wbK 0, [5 - ((0 : Nat) : Rat), ((0 : Nat) : Rat) / (1 + ((0 : Nat) : Rat))], []⟩ : Rn) = _
  rw [h1, h2]
abbrev purseD : D := .tup [.tup [.int 5, .int 1], .tup [.int 0, .int 1]]
/-- what is told of a run -/
theorem run_k {t : List Nat} {ds : List Deed} {c : Nat} (hl : t.length ≤ 90000) (hr : readO (wbK 0) t = .ok ds) (hc : Cn ds c) (dp : deepL ds ≤ 39) :
    m_run [some (.sh (webD (wbK 0))), some (.sh purseD), some (.sh (.str (S t)))] = if c ≤ 200 then .ok (runD (rk c)) [none, none, none] else .exc n_TooMany [.int 200] [none, none, none] := by
  have h := hc 0 (by omega)
  rw [rk0] at h
  unfold endK at h
  by_cases q : c ≤ 200
  · rw [if_pos (by omega)] at h
    rw [if_pos q]
    have := v_run (w := wbK 0) purse_ok (by decide) hl hr h dp (fun r e => by cases e; simp [rk])
    simpa using this
  · rw [if_neg (by omega)] at h
    rw [if_neg q]
    exact v_run (w := wbK 0) purse_ok (by decide) hl hr h dp (fun r e => by cases e)
theorem run_idle {t : List Nat} {ds : List Deed} (hl : t.length ≤ 90000) (hr : readO (wbK 0) t = .ok ds) (hc : Idle ds) (dp : deepL ds ≤ 39) :
    m_run [some (.sh (webD (wbK 0))), some (.sh purseD), some (.sh (.str (S t)))] = .ok (runD (rk 0)) [none, none, none] := by
  have h := hc
  unfold Idle at h
  conv at h => arg 2; rw [rk0]
  exact v_run (w := wbK 0) purse_ok (by decide) hl hr h dp (fun r e => by cases e; simp [rk])
@[simp] theorem noErr_non : noErr .non = true := by simp only [noErr]
@[simp] theorem noErr_int (i) : noErr (.int i) = true := by simp only [noErr]
@[simp] theorem noErr_str (i) : noErr (.str i) = true := by simp only [noErr]
@[simp] theorem noErr_tup (ds) : noErr (.tup ds) = noErrL ds := by simp only [noErr]
@[simp] theorem noErr_ins (o c fs ds) : noErr (.ins o c fs ds) = noErrL ds := by simp only [noErr]
@[simp] theorem noErr_lst (o ds) : noErr (.lst o ds) = noErrL ds := by simp only [noErr]
@[simp] theorem noErrL_nil : noErrL [] = true := by simp only [noErrL]
@[simp] theorem noErrL_cons (d ds) : noErrL (d :: ds) = (noErr d && noErrL ds) := by simp only [noErrL]
theorem noErrL_map {α : Type} (f : α → D) : ∀ (l : List α), (∀ z ∈ l, noErr (f z) = true) → noErrL (l.map f) = true
  | [], _ => by simp
  | z :: l, h => by
    rw [List.map_cons, noErrL_cons, h z (by simp), noErrL_map f l fun z m => h z (List.mem_cons_of_mem _ m)]; rfl
theorem noErr_web (o w) : noErr (webO o w) = true := by
  unfold webO
  simp only [noErr_ins, noErrL_cons, noErr_int, noErr_tup, noErrL_nil, Bool.true_and, Bool.and_true]
  exact noErrL_map _ _ fun s _ => by simp [stD, frD]
theorem v_told {t : List Nat} {r : R D} (hr : m_run [some (.sh (webD (wbK 0))), some (.sh purseD), some (.sh (.str (S t)))] = r) :
    (∀ d ρ, noOwn d = true → r = .ok d ρ → m__law_told [some (.sh (webD (wbK 0))), some (.sh purseD), some (.sh (.str (S t)))] = .ok (.tup [d, .non]) [none, none, none]) ∧
    (∀ ρ, r = .exc n_TooMany [.int 200] ρ → m__law_told [some (.sh (webD (wbK 0))), some (.sh purseD), some (.sh (.str (S t)))] = .ok (.tup [.non, .int 200]) [none, none, none]) := by
  constructor
  · rintro d ρ hd rfl
    simp [m__law_told, b__law_told, fnM_e, hr, hd]
  · rintro ρ rfl
    have e1 : ex_TooMany n_TooMany = some true := by rfl
    have e2 : ∀ a b c d e, dErrF etab 5 n_limit [a, b, c, d, e, some (.sh (.err n_TooMany [.int 200]))] = .ok (.int 200) [a, b, c, d, e, some (.sh (.err n_TooMany [.int 200]))] := fun a b c d e => by rfl
    have e3 : ∀ a b c d e, dErrI etab 5 ex_StallError [a, b, c, d, e, some (.sh (.err n_TooMany [.int 200]))] = .ok (.bl true) [a, b, c, d, e, some (.sh (.err n_TooMany [.int 200]))] := fun a b c d e => by rfl
    simp [m__law_told, b__law_told, fnM_e, hr, hdlM, e1, onR, e2, e3, endR, offR, noErrR, noErrS, noErr_web, noErrF]
end G
/-! Y8 -/
set_option Elab.async false
set_option linter.all false
set_option maxRecDepth 100000
set_option maxHeartbeats 1000000
namespace G
open PySem PySem.Spec PyProof.Rows L2 DL SX
open TL (numL)
theorem fr_nat (n : Nat) : frD (n : Rat) = .tup [.int n, .int 1] := by
  unfold frD
  rw [Rat.num_natCast, Rat.den_natCast]
  rfl
theorem fr_int (n : Int) : frD (n : Rat) = .tup [.int n, .int 1] := by
  unfold frD
  rw [Rat.num_intCast, Rat.den_intCast]
  rfl
theorem plain_fr (n : Nat) (q : Rat) : plainD (n + 1) (frD q) = true := by unfold frD; simp
theorem plain_st (n : Nat) (s : St) : plainD (n + 2) (stD s) = true := by unfold stD; simp [plain_fr]
theorem inv_succ (c : Nat) : frD (1 / (1 + (c : Rat))) = .tup [.int 1, .int (1 + c)] := by
  have h : (0 : Int) < 1 + c := by omega
  have e : (1 / (1 + (c : Rat)) : Rat) = Rat.divInt 1 (1 + c) := by
    rw [Rat.divInt_eq_div]
    simp [Rat.intCast_natCast]
  have g : Int.gcd 1 (1 + c) = 1 := by simp
  have n1 := num_divInt (t := 1) h
  have n2 := den_divInt (t := 1) h
  rw [g] at n1 n2
  rw [e]
  unfold frD
  rw [n1, n2]
  simp
theorem v_is_counted {c : Nat} (hc : c ≤ 200) : m__law_is_counted [some (.sh (webD (wbK 0))), some (.sh (.int c)), some (.sh (runD (rk c)))] = .ok (.bl true) [none, none, none] := by
  have h := nn c
  have ne : (1 : Rat) + (c : Rat) ≠ 0 := by grind
  have i1 : fIx (runD (rk c)) (.int 1) = .ok (.tup [frD (5 - (c : Rat)), frD ((c : Rat) / (1 + c))]) := by unfold runD; simp [rk]
  have i2 : fIx (runD (rk c)) (.int 2) = .ok (.lst false (List.replicate c (mvD ⟨0, 0, 1⟩))) := by unfold runD; simp [rk]
  have i0 : fIx (runD (rk c)) (.int 0) = .ok (webD (wbK c)) := by unfold runD; simp [rk]
  have z1 : Sz 10 (1 + (c : Rat)) := (Sz.add sz_1 (sz_k hc))
  have zi : Sz 11 (1 / (1 + (c : Rat))) := Sz.div sz_1 z1 ne
  have ls := v_lsub sz_1 zi (by decide)
  rw [inv_succ] at ls
  have e1 : (1 : Rat) - 1 / (1 + (c : Rat)) = (c : Rat) / (1 + c) := by grind
  rw [e1] at ls
  have o1 : frD 1 = .tup [.int 1, .int 1] := by rfl
  rw [o1] at ls
  have f5 : frD (5 - (c : Rat)) = .tup [.int (5 - c), .int 1] := by
    have : (5 : Rat) - (c : Rat) = ((5 - c : Int) : Rat) := by simp [Rat.intCast_natCast]
    rw [this, fr_int]
  have ne1 := fNeD_same (d := .tup [.tup [.int (5 - c), .int 1], frD ((c : Rat) / (1 + c))]) (by simp [plain_fr])
  have rp : fMul (.lst false [.tup [.int 0, .int 0, .tup [.int 1, .int 1]]]) (.int c) = .ok (.lst true (List.replicate c (mvD ⟨0, 0, 1⟩))) := by
    rw [fMul_lst _ _ _ (by simp; omega)]
    unfold repD
    simp [mvD, o1]
  have pm : plainD 59 (mvD ⟨0, 0, 1⟩) = true := by unfold mvD; simp [plain_fr]
  have ne2 := fNeD_same (d := .lst false (List.replicate c (mvD ⟨0, 0, 1⟩))) (by rw [plainD_lst, plainL_all, List.all_replicate]; simp [pm])
  have fz : frzL (List.replicate c (mvD ⟨0, 0, 1⟩)) = List.replicate c (mvD ⟨0, 0, 1⟩) := by rw [frzL_map]; simp
  have sD : D.tup ((wbK c).ss.map stD) = .tup [.tup [.int 0, .int 1, .tup [.int (1 + c), .int 1], .tup [.int 1, .int (1 + c)], .tup [.int 1, .int 1]]] := by
    have e2 : (1 : Rat) + (c : Rat) = ((1 + c : Nat) : Rat) := by simp
    have e3 : frD (1 + (c : Rat)) = .tup [.int (1 + c), .int 1] := by rw [e2, fr_nat]; simp
    simp only [wbK, stK, stD, List.map_cons, List.map_nil, inv_succ, o1, e3]
  have eq1 := fEqD_same (d := .tup [.tup [.int 0, .int 1, .tup [.int (1 + c), .int 1], .tup [.int 1, .int (1 + c)], .tup [.int 1, .int 1]]]) (by simp)
  have wn : (wbK c).n = 2 := rfl
  simp only [f5] at i1
  simp [m__law_is_counted, b__law_is_counted, fnM_e, i1, i2, i0, ls, fNeA_tt, ne1, rp, fz, fNeA_ll, ne2, sD, fEqA_tt, eq1, wn]
end G
/-! Y9 -/
set_option Elab.async false
set_option linter.all false
set_option maxRecDepth 100000
set_option maxHeartbeats 1000000
namespace G
open PySem PySem.Spec PyProof.Rows L2 DL SX
open TL (numL)
theorem R.get {α : Type} {r : R α} {K : α → DL.Env → Prop} (h : r.sat K fun _ _ _ => False) : ∃ a ρ, r = .ok a ρ ∧ K a ρ := by
  cases r with
  | ok a ρ => exact ⟨a, ρ, rfl, h⟩
  | exc c xs ρ => exact h.elim
  | stk => exact h.elim
theorem v_pickN {d : Dk} {many : Nat} (h : d.ok) (m0 : 0 < many) (m1 : many < 2 ^ 60) : ∃ (k : Nat) (d' : Dk), k < many ∧ d'.ok ∧ m__law_pick [some (.dp (dkD d)), some (.sh (.int many))] = .ok (.int k) [some (.dp (dkD d')), none] := by
  obtain ⟨k, d', h0, h1, h2, e⟩ := v_pick (many := many) h (by omega) (by omega)
  refine ⟨k.toNat, d', by omega, h2, ?_⟩
  rw [e, show ((k.toNat : Nat) : Int) = k by omega]
/-- a pick by a call -/
theorem c_pick {d : Dk} (many : Nat) (h : d.ok) (m0 : 0 < many := by decide) (m1 : many < 2 ^ 60 := by decide) : ∃ (k : Nat) (d' : Dk), k < many ∧ d'.ok ∧ ∀ (i : Nat) (ρ : DL.Env), ρ[i]? = some (some (.dp (dkD d))) → doCall clsAll m__law_pick [.io i, .v (.int many)] ρ = .ok (.int k) (ρ.set i (some (.dp (dkD d')))) := by
  obtain ⟨k, d', h1, h2, e⟩ := v_pickN h m0 m1
  exact ⟨k, d', h1, h2, fun i ρ hi => doCall_io (i := i) (xs := [.int many]) hi e (by simp)⟩
theorem v_loops {d : Dk} {deep : Nat} (h : d.ok) (hd : deep ≤ 100) : ∃ (ns : List Nat) (d' : Dk), ns.length = deep ∧ d'.ok ∧ m__law_loops [some (.dp (dkD d)), some (.sh (.int deep))] = .ok (.lst false (intsD ns)) [some (.dp (dkD d')), none] := by
  obtain ⟨k, d1, k4, o1, c1⟩ := c_pick 4 h
  obtain ⟨a, b, ha, hb, ix⟩ : ∃ a b : Nat, a < 100 ∧ b < 100 ∧ fIx (.lst false [.lst false [.int 2, .int 3], .lst false [.int 4, .int 6], .lst false [.int 20, .int 21], .lst false [.int 15, .int 3]]) (.int k) = .ok (.lst false [.int a, .int b]) := by
    match k, k4 with
    | 0, _ => exact ⟨2, 3, by omega, by omega, by simp⟩
    | 1, _ => exact ⟨4, 6, by omega, by omega, by simp⟩
    | 2, _ => exact ⟨20, 21, by omega, by omega, by simp⟩
    | 3, _ => exact ⟨15, 3, by omega, by omega, by simp⟩
  have sm : small62 (deep : Int) := by unfold small62; omega
  have lc := lcM_sat (g := gS 3) (a := dCall clsAll m__law_pick (pCons (pIo 0) (pCons (pE (dFA (dOp fAdd (dOp fIx (dVar 2) (dOp fModI (dUn fInt (dVar 3)) (dC (.int 2)))) (dC (.int 1))))) pNil))) (vs := [3])
    (K := fun acc ρ => ∃ (ns : List Nat) (d' : Dk), acc = intsD ns ∧ ns.length = deep ∧ d'.ok ∧ ρ = [some (.dp (dkD d')), some (.sh (.int deep)), some (.sh (.lst false [.int a, .int b])), none]) (X := fun _ _ _ => False)
    (fun acc ρ => ∃ (ns : List Nat) (d' : Dk), acc = intsD ns ∧ d'.ok ∧ ρ = [some (.dp (dkD d')), some (.sh (.int deep)), some (.sh (.lst false [.int a, .int b])), none])
    (rangeD 0 deep) [] [some (.dp (dkD d1)), some (.sh (.int deep)), some (.sh (.lst false [.int a, .int b])), none] ⟨[], d1, rfl, o1, rfl⟩ (fun x m acc ρ i => ?_) (by simp [rangeD]; omega) (fun acc ρ l i => by
      obtain ⟨ns, d', e1, e2, e3⟩ := i
      exact ⟨ns, d', e1, by rw [e1] at l; simpa [rangeD] using l, e2, e3⟩)
  · obtain ⟨acc, ρ, e, ns, d', rfl, hl, o2, rfl⟩ := R.get lc
    refine ⟨ns, d', hl, o2, ?_⟩
    have fz : frzL (intsD ns) = intsD ns := frzL_id' _ _ (fun _ _ => by simp)
    have c1' : doCall clsAll m__law_pick [.io 0, .v (.int 4)] [some (.dp (dkD d)), some (.sh (.int deep)), none, none] = .ok (.int k) [some (.dp (dkD d1)), some (.sh (.int deep)), none, none] := c1 0 _ rfl
    simp [m__law_loops, b__law_loops, fnM_e, c1', ix, sm, lcK_of, e, fz]
  · obtain ⟨ns, d', rfl, o2, rfl⟩ := i
    obtain ⟨j, hj, rfl⟩ : ∃ j : Nat, j < deep ∧ x = .int j := by
      simp [rangeD] at m
      obtain ⟨j, hj, e⟩ := m
      exact ⟨j, hj, e.symm⟩
    have md := fModI_int (j : Int) 2 (by decide)
    obtain ⟨c, hc, ixc⟩ : ∃ c : Nat, c < 100 ∧ fIx (.lst false [.int a, .int b]) (.int ((j : Int) % 2)) = .ok (.int c) := by
      have z2 : (j : Int) % 2 = 0 ∨ (j : Int) % 2 = 1 := by omega
      rcases z2 with z | z <;> rw [z]
      · exact ⟨a, ha, by simp⟩
      · exact ⟨b, hb, by simp⟩
    obtain ⟨q, d3, _, o3, c3⟩ := c_pick (c + 1) o2 (by omega) (by omega)
    have c3' : doCall clsAll m__law_pick [.io 0, .v (.int ((c : Int) + 1))] [some (.dp (dkD d')), some (.sh (.int deep)), some (.sh (.lst false [.int a, .int b])), some (.sh (.int j))] = .ok (.int q) [some (.dp (dkD d3)), some (.sh (.int deep)), some (.sh (.lst false [.int a, .int b])), some (.sh (.int j))] := c3 0 _ rfl
    refine ⟨_, by simp; rfl, ?_⟩
    simp [md, ixc, c3']
    exact ⟨⟨ns ++ [q], by simp⟩, d3, o3, rfl⟩
theorem c_loops {d : Dk} (deep : Nat) (h : d.ok) (hd : deep ≤ 100) : ∃ (ns : List Nat) (d' : Dk), ns.length = deep ∧ d'.ok ∧ ∀ (i : Nat) (ρ : DL.Env), ρ[i]? = some (some (.dp (dkD d))) → doCall clsAll m__law_loops [.io i, .v (.int deep)] ρ = .ok (.lst false (intsD ns)) (ρ.set i (some (.dp (dkD d')))) := by
  obtain ⟨ns, d', h1, h2, e⟩ := v_loops h hd
  exact ⟨ns, d', h1, h2, fun i ρ hi => doCall_io (i := i) (xs := [.int deep]) hi e (by simp)⟩
end G
/-! Y10 -/
set_option Elab.async false
set_option linter.all false
set_option maxRecDepth 100000
set_option maxHeartbeats 1000000
namespace G
open PySem PySem.Spec PyProof.Rows L2 DL SX
open TL (numL)
theorem joinL_len : ∀ (L : List (List Nat)), (∀ l ∈ L, l.length ≤ 50) → (TL.joinL [10] L).length ≤ 51 * L.length
  | [], _ => by simp [TL.joinL]
  | [l], h => by have := h l (by simp); simp [TL.joinL]; omega
  | l :: m :: r, h => by
    have ih := joinL_len (m :: r) fun x q => h x (List.mem_cons_of_mem _ q)
    have := h l (by simp)
    simp only [TL.joinL, List.length_append, List.length_cons, List.length_nil] at ih ⊢
    omega
theorem texts_S : ∀ L : List (List Nat), textsOf (strsD L) = some (L.map S)
  | [] => rfl
  | l :: L => by
    show (textsOf (strsD L)).map (S l :: ·) = _
    rw [texts_S L]; rfl
theorem fJoin_S {L : List (List Nat)} {o : Bool} {s : List Nat} (h : (L.map List.length).sum + L.length * s.length ≤ 16000000) : fJoin (.str (S s)) [.lst o (strsD L)] = .ok (.str (S (TL.joinL s L))) := by
  show (match textsOf (strsD L) with | some ys => if (ys.map fun (y : Str) => y.length).sum + ys.length * (S s).length ≤ 16000000 then P.ok (D.str (Txt.join (S s) ys)) else .stk | none => .stk) = _
  rw [texts_S]
  dsimp only
  rw [SX.lens, List.length_map, S_len, if_pos h, join_S]
theorem sum_len : ∀ (L : List (List Nat)), (∀ l ∈ L, l.length ≤ 50) → (L.map List.length).sum ≤ 50 * L.length
  | [], _ => by simp
  | l :: r, h => by
    have ih := sum_len r fun x q => h x (List.mem_cons_of_mem _ q)
    have := h l (by simp)
    simp only [List.map_cons, List.sum_cons, List.length_cons] at ih ⊢
    omega
/-- lines of this law -/
structure Ln (n d : Nat) (L : List (List Nat)) (ds : List Deed) : Prop where
  blk : Blk (wbK 0) d L ds
  gd : ∀ l ∈ L, l ≠ [] ∧ 10 ∉ l
  dp : deepL ds ≤ d
  ll : ∀ l ∈ L, l.length ≤ 50
  ln : L.length ≤ n
theorem Ln.app {n m d : Nat} {L M : List (List Nat)} {ds es : List Deed} (h : Ln n d L ds) (h' : Ln m d M es) : Ln (n + m) d (L ++ M) (ds ++ es) := by
  refine ⟨h.blk.app h'.blk, fun l q => ?_, ?_, fun l q => ?_, ?_⟩
  · rcases List.mem_append.mp q with q | q
    · exact h.gd l q
    · exact h'.gd l q
  · rw [deepL_app]
    have := h.dp
    have := h'.dp
    omega
  · rcases List.mem_append.mp q with q | q
    · exact h.ll l q
    · exact h'.ll l q
  · have := h.ln
    have := h'.ln
    simp; omega
theorem Ln.mono {n m d e : Nat} {L : List (List Nat)} {ds : List Deed} (h : Ln n d L ds) (h1 : n ≤ m) (h2 : d ≤ e) : Ln m e L ds := ⟨h.blk.mono h2, h.gd, Nat.le_trans h.dp h2, h.ll, Nat.le_trans h.ln h1⟩
theorem wrapL_ll : ∀ (ns : List Nat) {L : List (List Nat)}, (∀ l ∈ L, l.length ≤ 50) → ∀ l ∈ wrapL ns L, l.length ≤ 50
  | [], L, h => h
  | n :: ns, L, h => by
    refine wrapL_ll ns (L := timesL (min 20 n) :: (L ++ [wEnd])) fun l m => ?_
    rcases List.mem_cons.mp m with rfl | m
    · rw [timesL_eq]
      have := TL.numL_len (n := min 20 n) (k := 2) (by decide) (by omega)
      simp; omega
    · rcases List.mem_append.mp m with m | m
      · exact h l m
      · rcases List.mem_singleton.mp m with rfl
        decide
theorem wrapL_len : ∀ (ns : List Nat) (L : List (List Nat)), (wrapL ns L).length = L.length + 2 * ns.length
  | [], L => by simp [wrapL]
  | n :: ns, L => by
    have := wrapL_len ns (timesL (min 20 n) :: (L ++ [wEnd]))
    show (wrapL ns (timesL (min 20 n) :: (L ++ [wEnd]))).length = _
    rw [this]
    simp; omega
theorem Ln.wrap (ns : List Nat) {n d : Nat} {L : List (List Nat)} {ds : List Deed} (h : Ln n d L ds) : Ln (n + 2 * ns.length) (d + ns.length) (wrapL ns L) (wrapD ns ds) := by
  refine ⟨h.blk.wrap ns, wrapL_good ns h.gd, ?_, wrapL_ll ns h.ll, ?_⟩
  · have := deepL_wrap ns ds
    have := h.dp
    omega
  · rw [wrapL_len]
    have := h.ln
    omega
theorem Ln.nil : Ln 0 0 [] [] := ⟨Blk.nil, by simp, by simp [deepL], by simp, by simp⟩
abbrev putL : List Nat := [112, 117, 116, 32, 49, 32, 48, 32, 48]
theorem spl_put : TL.spl [32] 0 [] putL = [wPut, [49], [48], [48]] := by decide +kernel
theorem some_1 : someIn [49] = some 1 := by decide +kernel
theorem stall_0 : stallIn (wbK 0) [48] = some 0 := by decide +kernel
theorem num_0 : numIn [48] 9 = some 0 := by decide +kernel
theorem num_1 : numIn [49] 9 = some 1 := by decide +kernel
theorem ws_00 : wsIn (wbK 0) [48] [48] = some (0, 0) := by
  unfold wsIn
  rw [num_0, stall_0]
  rfl
theorem ws_10 : wsIn (wbK 0) [49] [48] = some (1, 0) := by
  unfold wsIn
  rw [num_1, stall_0]
  rfl
theorem Ln.put : Ln 1 0 [putL] [.put 0 0 1] := by
  refine ⟨Blk.line (by decide) (by rw [spl_put]; rfl) ?_, ?_, by simp [deepL, deepO], by simp, by simp⟩
  · rw [spl_put]
    simp only [deedIn, if_pos, some_1, ws_00]
  · intro l m
    rcases List.mem_singleton.mp m with rfl
    decide
abbrev allL : List Nat := [97, 108, 108, 32, 49, 32, 48]
abbrev halfL : List Nat := [104, 97, 108, 102, 32, 49, 32, 48]
abbrev toL : List Nat := [116, 111, 32, 48, 32, 49]
theorem spl_all' : TL.spl [32] 0 [] allL = [wAll, [49], [48]] := by decide +kernel
theorem spl_half : TL.spl [32] 0 [] halfL = [wHalf, [49], [48]] := by decide +kernel
theorem spl_to : TL.spl [32] 0 [] toL = [wTo, [48], [49]] := by decide +kernel
theorem Ln.idle : Ln 3 0 [allL, halfL, toL] [.part wAll 1 0, .part wHalf 1 0, .to 0 1] := by
  have b1 : Blk (wbK 0) 0 [allL] [.part wAll 1 0] := Blk.line (by decide) (by rw [spl_all']; rfl) (by
    rw [spl_all']
    simp [deedIn, ws_10])
  have b2 : Blk (wbK 0) 0 [halfL] [.part wHalf 1 0] := Blk.line (by decide) (by rw [spl_half]; rfl) (by
    rw [spl_half]
    simp [deedIn, ws_10])
  have b3 : Blk (wbK 0) 0 [toL] [.to 0 1] := Blk.line (by decide) (by rw [spl_to]; rfl) (by
    rw [spl_to]
    simp [deedIn, stall_0, some_1])
  refine ⟨b1.app (b2.app b3), ?_, by simp [deepL, deepO], by simp, by simp⟩
  intro l m
  simp at m
  rcases m with rfl | rfl | rfl <;> decide
/-- the text of lines, read and run -/
theorem Ln.run {n d c : Nat} {L : List (List Nat)} {ds : List Deed} (h : Ln n d L ds) (hd : d ≤ 4) (hn : n ≤ 100) (hc : Cn ds c) :
    m_run [some (.sh (webD (wbK 0))), some (.sh purseD), some (.sh (.str (S (TL.joinL [10] L))))] = if c ≤ 200 then .ok (runD (rk c)) [none, none, none] else .exc n_TooMany [.int 200] [none, none, none] :=
  run_k (by have := joinL_len L h.ll; have := h.ln; omega) (readO_blk (h.blk.mono hd) h.gd) hc (by have := h.dp; omega)
theorem Ln.runI {n d : Nat} {L : List (List Nat)} {ds : List Deed} (h : Ln n d L ds) (hd : d ≤ 4) (hn : n ≤ 100) (hc : Idle ds) :
    m_run [some (.sh (webD (wbK 0))), some (.sh purseD), some (.sh (.str (S (TL.joinL [10] L))))] = .ok (runD (rk 0)) [none, none, none] :=
  run_idle (by have := joinL_len L h.ll; have := h.ln; omega) (readO_blk (h.blk.mono hd) h.gd) hc (by have := h.dp; omega)
theorem Ln.join {n d : Nat} {L : List (List Nat)} {ds : List Deed} {o : Bool} (h : Ln n d L ds) (hn : n ≤ 100) : fJoin (.str (S [10])) [.lst o (strsD L)] = .ok (.str (S (TL.joinL [10] L))) :=
  fJoin_S (by have := sum_len L h.ll; have := h.ln; simp; omega)
end G
/-! Y11 -/
set_option Elab.async false
set_option linter.all false
set_option maxRecDepth 100000
set_option maxHeartbeats 4000000
namespace G
open PySem PySem.Spec PyProof.Rows L2 DL SX
open TL (numL)
theorem webD0 : webD (wbK 0) = .ins false n_Web [n_wares, n_stalls] [.int 2, .tup [.tup [.int 0, .int 1, .tup [.int 1, .int 1], .tup [.int 1, .int 1], .tup [.int 1, .int 1]]]] := by
  have h : stK 0 = ⟨0, 1, 1, 1, 1⟩ := by
    unfold stK
    congr 1
    all_goals decide +kernel
  show webO false (wbK 0) = _
  unfold webO wbK
  rw [h]
  rfl
theorem str1 (l : List Nat) : [D.str (S l)] = strsD [l] := rfl
/-- the lines and their number, as the law's turn makes them -/
structure Tr4 (L : List (List Nat)) (c : Nat) : Prop where
  ex : ∃ (n d : Nat) (ds : List Deed), n ≤ 90 ∧ d ≤ 4 ∧ Ln n d L ds ∧ Cn ds c
theorem Tr4.told {L : List (List Nat)} {c : Nat} (h : Tr4 L c) : m__law_told [some (.sh (webD (wbK 0))), some (.sh purseD), some (.sh (.str (S (TL.joinL [10] L))))] = if c ≤ 200 then .ok (.tup [runD (rk c), .non]) [none, none, none] else .ok (.tup [.non, .int 200]) [none, none, none] := by
  obtain ⟨n, d, ds, hn, hd, h1, h2⟩ := h.ex
  have r := h1.run hd (by omega) h2
  obtain ⟨t1, t2⟩ := v_told r
  by_cases q : c ≤ 200
  · rw [if_pos q]
    exact t1 (runD (rk c)) [none, none, none] (by unfold runD; simp) (if_pos q)
  · rw [if_neg q]
    exact t2 [none, none, none] (if_neg q)
theorem Tr4.join {L : List (List Nat)} {c : Nat} {o : Bool} (h : Tr4 L c) : fJoin (.str (S [10])) [.lst o (strsD L)] = .ok (.str (S (TL.joinL [10] L))) := by
  obtain ⟨n, d, ds, hn, hd, h1, h2⟩ := h.ex
  exact h1.join (by omega)
/-- the rest of a turn, behind the lines -/
noncomputable def restK : DL.Env → R Fl :=
    (sSeq (sAsg (dCall0 m__law_told (dCons (dVar 2) (dCons (dVar 3) (dCons (dMtS fJoin (dC (.str "\n")) (dCons (dVar 7) dNil)) dNil)))) (gTupM (gsCons (gS 9) (gsCons (gS 10) gsNil))))
    (sSeq (sIf (dOr (dTest (dOp fNeA (dVar 10) (dOp fIx (dFA (dLst (dCons (dC .non) (dCons (dC (.int 200)) dNil)))) (dUn fInt (dOp fGt (dVar 8) (dC (.int 200))))))) (dTest (dOp fNeA (dOp fIsN (dVar 9) (dC .non)) (dOp fGt (dVar 8) (dC (.int 200))))))
    (sRet (dC (.bl false)))
    sNext)
    (sSeq (sIf (dAnd (dTest (dOp fNotN (dVar 9) (dC .non))) (dNot (dTest (dCall0 m__law_is_counted (dCons (dVar 2) (dCons (dVar 8) (dCons (dVar 9) dNil)))))))
    (sRet (dC (.bl false)))
    sNext)
    (sSeq (sAsg (dCall0 m__law_within (dCons (dFA (dLst (dCons (dC (.int 20)) (dCons (dCall clsAll m__law_pick (pCons (pIo 1) (pCons (pE (dC (.int 21))) pNil))) dNil)))) (dCons (dFA (dLst (dCons (dC (.str "all 1 0")) (dCons (dC (.str "half 1 0")) (dCons (dC (.str "to 0 1")) dNil))))) dNil))) (gS 11))
    (sIf (dNot (dTest (dCall0 m__law_is_counted (dCons (dVar 2) (dCons (dC (.int 0)) (dCons (dCall0 m_run (dCons (dVar 2) (dCons (dVar 3) (dCons (dMtS fJoin (dC (.str "\n")) (dCons (dVar 11) dNil)) dNil)))) dNil))))))
    (sRet (dC (.bl false)))
    sNext)))))
theorem rest_ok {L : List (List Nat)} {c : Nat} {d : Dk} (h : Tr4 L c) (od : d.ok) (a0 a4 a5 a6 a9 a10 a11 : Option DL.Slot) : ∃ (d' : Dk) (b9 b10 b11 : Option DL.Slot), d'.ok ∧
    restK [a0, some (.dp (dkD d)), some (.sh (webD (wbK 0))), some (.sh purseD), a4, a5, a6, some (.sh (.lst false (strsD L))), some (.sh (.int c)), a9, a10, a11] =
      .ok .nx [a0, some (.dp (dkD d')), some (.sh (webD (wbK 0))), some (.sh purseD), a4, a5, a6, some (.sh (.lst false (strsD L))), some (.sh (.int c)), b9, b10, b11] := by
  obtain ⟨k, d1, k21, o1, c1⟩ := c_pick 21 od
  have jo := h.join (o := false)
  have tl := h.told
  have wi := v_within (ns := [20, k]) (L := [allL, halfL, toL]) (o := false) (o2 := false) (by simp)
  have li : Ln (3 + 2 * 2) (0 + 2) _ _ := Ln.wrap [20, k] Ln.idle
  have ji := li.join (o := false) (by decide)
  have ri := li.runI (by decide) (by decide) (Idle.wrap [20, k] idle_lines)
  have ct0 : m__law_is_counted [some (.sh (webD (wbK 0))), some (.sh (.int 0)), some (.sh (runD (rk 0)))] = _ := v_is_counted (c := 0) (by decide)
  have nr : ∀ c, isNon (runD (rk c)) = false := fun c => rfl
  have no : ∀ c, noOwn (runD (rk c)) = true := fun c => by unfold runD; simp
  by_cases q : c ≤ 200
  · have q' : ¬ (200 : Int) < c := by omega
    rw [if_pos q] at tl
    have ct := v_is_counted q
    refine ⟨d1, some (.sh (runD (rk c))), some (.sh .non), some (.sh (.lst false (strsD (wrapL [20, k] [allL, halfL, toL])))), o1, ?_⟩
    have c1' : ∀ (x y z : Option DL.Slot), doCall clsAll m__law_pick [.io 1, .v (.int 21)] [a0, some (.dp (dkD d)), some (.sh (webD (wbK 0))), some (.sh purseD), a4, a5, a6, some (.sh (.lst false (strsD L))), some (.sh (.int c)), x, y, z] = .ok (.int k) [a0, some (.dp (dkD d1)), some (.sh (webD (wbK 0))), some (.sh purseD), a4, a5, a6, some (.sh (.lst false (strsD L))), some (.sh (.int c)), x, y, z] := fun x y z => c1 1 _ rfl
    simp at wi ji
    simp [restK, jo, tl, q', no, nr, ct, c1', wi, ji, ri, ct0]
  · have q' : (200 : Int) < c := by omega
    rw [if_neg q] at tl
    refine ⟨d1, some (.sh .non), some (.sh (.int 200)), some (.sh (.lst false (strsD (wrapL [20, k] [allL, halfL, toL])))), o1, ?_⟩
    have c1' : ∀ (x y z : Option DL.Slot), doCall clsAll m__law_pick [.io 1, .v (.int 21)] [a0, some (.dp (dkD d)), some (.sh (webD (wbK 0))), some (.sh purseD), a4, a5, a6, some (.sh (.lst false (strsD L))), some (.sh (.int c)), x, y, z] = .ok (.int k) [a0, some (.dp (dkD d1)), some (.sh (webD (wbK 0))), some (.sh purseD), a4, a5, a6, some (.sh (.lst false (strsD L))), some (.sh (.int c)), x, y, z] := fun x y z => c1 1 _ rfl
    simp at wi ji
    simp [restK, jo, tl, q', no, nr, c1', wi, ji, ri, ct0]
structure Tr3 (L : List (List Nat)) (c : Nat) : Prop where
  ex : ∃ (n d : Nat) (ds : List Deed), n ≤ 30 ∧ d ≤ 4 ∧ Ln n d L ds ∧ Cn ds c
  len : L.length ≤ 30
theorem Tr3.mk' {n d : Nat} {L : List (List Nat)} {c : Nat} {ds : List Deed} (h1 : n ≤ 30) (h2 : d ≤ 4) (h3 : Ln n d L ds) (h4 : Cn ds c) : Tr3 L c := ⟨⟨n, d, ds, h1, h2, h3, h4⟩, by have := h3.ln; omega⟩
theorem Tr3.tr {L : List (List Nat)} {c : Nat} (h : Tr3 L c) : Tr4 L c := by
  obtain ⟨n, d, ds, h1, h2, h3, h4⟩ := h.ex
  exact ⟨n, d, ds, by omega, h2, h3, h4⟩
theorem Tr3.one (ns : List Nat) (h : ns.length ≤ 4) : Tr3 (wrapL ns [putL]) (prodK ns) := .mk' (by show 1 + 2 * ns.length ≤ 30; omega) (by show 0 + ns.length ≤ 4; omega) (Ln.wrap ns Ln.put) (Cn.wrap ns Cn.put)
theorem Tr3.two (ns ms : List Nat) (h : ns.length ≤ 4) (h' : ms.length ≤ 4) : Tr3 (wrapL ns [putL] ++ wrapL ms [putL]) (prodK ns + prodK ms) :=
  .mk' (n := (1 + 2 * ns.length) + (1 + 2 * ms.length)) (d := 4) (by omega) (by omega) ((Ln.mono (Ln.wrap ns Ln.put) (Nat.le_refl _) (by omega)).app (Ln.mono (Ln.wrap ms Ln.put) (Nat.le_refl _) (by omega))) ((Cn.wrap ns Cn.put).app (Cn.wrap ms Cn.put))
theorem Cn.zero : ∀ (ns : List Nat), Cn (wrapD ns []) 0 := fun ns => by
  have h := Cn.wrap ns Cn.nil
  have e : ∀ (ns : List Nat), ns.foldl (fun c n => min 20 n * c) 0 = 0 := fun ns => by
    induction ns with
    | nil => rfl
    | cons n ns ih => simpa using ih
  rw [e] at h
  exact h
theorem Tr3.pre {L : List (List Nat)} {c : Nat} (h : Tr3 L c) (ns : List Nat) (hn : ns.length ≤ 4) : Tr4 (wrapL ns [] ++ L) c := by
  obtain ⟨n, d, ds, h1, h2, h3, h4⟩ := h.ex
  refine ⟨(0 + 2 * ns.length) + n, 4, wrapD ns [] ++ ds, by omega, by omega, (Ln.mono (Ln.wrap ns Ln.nil) (Nat.le_refl _) (by omega)).app (h3.mono (Nat.le_refl _) h2), ?_⟩
  have := (Cn.zero ns).app h4
  rwa [Nat.zero_add] at this
/-- the part of a turn ahead of the rest -/
noncomputable def midK : DL.Env → R Fl := (sIf (dTest (dOp fEqA (dCall clsAll m__law_pick (pCons (pIo 1) (pCons (pE (dC (.int 3))) pNil))) (dC (.int 0))))
    (sAsg (dOp fAdd (dCall0 m__law_within (dCons (dFA (dLst (dCons (dCall clsAll m__law_pick (pCons (pIo 1) (pCons (pE (dC (.int 21))) pNil))) (dCons (dCall clsAll m__law_pick (pCons (pIo 1) (pCons (pE (dC (.int 21))) pNil))) dNil)))) (dCons (dFA (dLst dNil)) dNil))) (dVar 7)) (gF 7))
    sNext)
noncomputable def addK : DL.Env → R Fl := (sIf (dTest (dOp fEqA (dCall clsAll m__law_pick (pCons (pIo 1) (pCons (pE (dC (.int 2))) pNil))) (dC (.int 0))))
    (sSeq (sAsg (dOp fAdd (dVar 7) (dCall0 m__law_within (dCons (dVar 6) (dCons (dFA (dLst (dCons (dC (.str "put 1 0 0")) dNil))) dNil)))) (gF 7))
    (sAsg (dOp fAdd (dVar 8) (dCall0 m__law_many (dCons (dVar 6) dNil))) (gF 8)))
    sNext)
theorem k_law_split : k_law_1 = (sSeq (sAsg (dCall clsAll m__law_loops (pCons (pIo 1) (pCons (pE (dCall clsAll m__law_pick (pCons (pIo 1) (pCons (pE (dC (.int 5))) pNil)))) pNil))) (gS 5))
    (sSeq (sAsg (dCall clsAll m__law_loops (pCons (pIo 1) (pCons (pE (dCall clsAll m__law_pick (pCons (pIo 1) (pCons (pE (dC (.int 3))) pNil)))) pNil))) (gS 6))
    (sSeq (sAsg (dCall0 m__law_within (dCons (dVar 5) (dCons (dFA (dLst (dCons (dC (.str "put 1 0 0")) dNil))) dNil))) (gS 7))
    (sSeq (sAsg (dCall0 m__law_many (dCons (dVar 5) dNil)) (gS 8)) (sSeq addK (sSeq midK restK)))))) := rfl
theorem mid_ok {L : List (List Nat)} {c : Nat} {d : Dk} (h : Tr3 L c) (od : d.ok) (a0 a4 a5 a6 a9 a10 a11 : Option DL.Slot) : ∃ (d' : Dk) (L' : List (List Nat)), d'.ok ∧ Tr4 L' c ∧
    midK [a0, some (.dp (dkD d)), some (.sh (webD (wbK 0))), some (.sh purseD), a4, a5, a6, some (.sh (.lst false (strsD L))), some (.sh (.int c)), a9, a10, a11] =
      .ok .nx [a0, some (.dp (dkD d')), some (.sh (webD (wbK 0))), some (.sh purseD), a4, a5, a6, some (.sh (.lst false (strsD L'))), some (.sh (.int c)), a9, a10, a11] := by
  obtain ⟨k, d1, k3, o1, c1⟩ := c_pick 3 od
  have c1' : ∀ (x y z : Option DL.Slot), doCall clsAll m__law_pick [.io 1, .v (.int 3)] [a0, some (.dp (dkD d)), some (.sh (webD (wbK 0))), some (.sh purseD), a4, a5, a6, some (.sh (.lst false (strsD L))), some (.sh (.int c)), x, y, z] = .ok (.int k) [a0, some (.dp (dkD d1)), some (.sh (webD (wbK 0))), some (.sh purseD), a4, a5, a6, some (.sh (.lst false (strsD L))), some (.sh (.int c)), x, y, z] := fun x y z => c1 1 _ rfl
  by_cases hk : k = 0
  · obtain ⟨p, d2, p21, o2, c2⟩ := c_pick 21 o1
    obtain ⟨q, d3, q21, o3, c3⟩ := c_pick 21 o2
    have c2' : ∀ (x y z : Option DL.Slot), doCall clsAll m__law_pick [.io 1, .v (.int 21)] [a0, some (.dp (dkD d1)), some (.sh (webD (wbK 0))), some (.sh purseD), a4, a5, a6, some (.sh (.lst false (strsD L))), some (.sh (.int c)), x, y, z] = .ok (.int p) [a0, some (.dp (dkD d2)), some (.sh (webD (wbK 0))), some (.sh purseD), a4, a5, a6, some (.sh (.lst false (strsD L))), some (.sh (.int c)), x, y, z] := fun x y z => c2 1 _ rfl
    have c3' : ∀ (x y z : Option DL.Slot), doCall clsAll m__law_pick [.io 1, .v (.int 21)] [a0, some (.dp (dkD d2)), some (.sh (webD (wbK 0))), some (.sh purseD), a4, a5, a6, some (.sh (.lst false (strsD L))), some (.sh (.int c)), x, y, z] = .ok (.int q) [a0, some (.dp (dkD d3)), some (.sh (webD (wbK 0))), some (.sh purseD), a4, a5, a6, some (.sh (.lst false (strsD L))), some (.sh (.int c)), x, y, z] := fun x y z => c3 1 _ rfl
    refine ⟨d3, _, o3, h.pre [p, q] (by simp), ?_⟩
    have wi := v_within (ns := [p, q]) (L := []) (o := false) (o2 := false) (by simp)
    have lw := wrapL_len [p, q] []
    have ll := h.len
    have fa := fAdd_lst (strsD (wrapL [p, q] [])) (strsD L) false false (by simp [lw]; omega)
    have sa : strsD (wrapL [p, q] []) ++ strsD L = strsD (wrapL [p, q] [] ++ L) := by simp
    rw [sa] at fa
    have fz := strs_frz (wrapL [p, q] [] ++ L)
    simp only [List.map_cons, List.map_nil] at wi
    subst hk
    simp only [midK, sIf_e, dTest_e, dOp_e, dCall_e, pCons_e, pIo_e, pE_e, dC_e, pNil_e, List.getElem?_cons_succ, List.getElem?_cons_zero, R.bind_okE, c1', fEqA_int, P.at_okE, tst_bl]
    simp [c2', c3', wi, fa]
    have f1 := strs_frz (wrapL [p, q] [])
    have f2 := strs_frz L
    unfold strsD at f1 f2
    rw [f1, f2]
  · have hk' : ¬ (k : Int) = 0 := by omega
    refine ⟨d1, L, o1, h.tr, ?_⟩
    simp [midK, c1', hk', hk]
end G
/-! Y12 -/
set_option Elab.async false
set_option linter.all false
set_option maxRecDepth 100000
set_option maxHeartbeats 4000000
namespace G
open PySem PySem.Spec PyProof.Rows L2 DL SX
open TL (numL)
theorem add_ok {ns ms : List Nat} {d : Dk} (hn : ns.length ≤ 4) (hm : ms.length ≤ 4) (od : d.ok) (a0 a4 a9 a10 a11 : Option DL.Slot) : ∃ (d' : Dk) (L : List (List Nat)) (c : Nat), d'.ok ∧ Tr3 L c ∧
    addK [a0, some (.dp (dkD d)), some (.sh (webD (wbK 0))), some (.sh purseD), a4, some (.sh (.lst false (intsD ns))), some (.sh (.lst false (intsD ms))), some (.sh (.lst false (strsD (wrapL ns [putL])))), some (.sh (.int (prodK ns : Nat))), a9, a10, a11] =
      .ok .nx [a0, some (.dp (dkD d')), some (.sh (webD (wbK 0))), some (.sh purseD), a4, some (.sh (.lst false (intsD ns))), some (.sh (.lst false (intsD ms))), some (.sh (.lst false (strsD L))), some (.sh (.int c)), a9, a10, a11] := by
  obtain ⟨k, d1, k3, o1, c1⟩ := c_pick 2 od
  have c1' : doCall clsAll m__law_pick [.io 1, .v (.int 2)] [a0, some (.dp (dkD d)), some (.sh (webD (wbK 0))), some (.sh purseD), a4, some (.sh (.lst false (intsD ns))), some (.sh (.lst false (intsD ms))), some (.sh (.lst false (strsD (wrapL ns [putL])))), some (.sh (.int (prodK ns : Nat))), a9, a10, a11] = .ok (.int k) [a0, some (.dp (dkD d1)), some (.sh (webD (wbK 0))), some (.sh purseD), a4, some (.sh (.lst false (intsD ns))), some (.sh (.lst false (intsD ms))), some (.sh (.lst false (strsD (wrapL ns [putL])))), some (.sh (.int (prodK ns : Nat))), a9, a10, a11] := c1 1 _ rfl
  by_cases hk : k = 0
  · subst hk
    refine ⟨d1, _, _, o1, Tr3.two ns ms hn hm, ?_⟩
    have wi := v_within (ns := ms) (L := [putL]) (o := false) (o2 := false) (by simp; omega)
    have vm := v_many (ns := ms) (o := false)
    have l1 := wrapL_len ns [putL]
    have l2 := wrapL_len ms [putL]
    have fa := fAdd_lst (strsD (wrapL ns [putL])) (strsD (wrapL ms [putL])) false false (by simp [l1, l2]; omega)
    have f1 := strs_frz (wrapL ns [putL])
    have f2 := strs_frz (wrapL ms [putL])
    simp only [List.map_cons, List.map_nil] at wi
    simp only [addK, sIf_e, dTest_e, dOp_e, dCall_e, pCons_e, pIo_e, pE_e, dC_e, pNil_e, List.getElem?_cons_succ, List.getElem?_cons_zero, R.bind_okE, c1', fEqA_int, P.at_okE, tst_bl]
    simp [wi, fa, vm]
    unfold strsD at f1 f2
    rw [f1, f2]
  · have hk' : ¬ (k : Int) = 0 := by omega
    refine ⟨d1, _, _, o1, Tr3.one ns hn, ?_⟩
    simp [addK, c1', hk', hk]
theorem turn_ok {d : Dk} (od : d.ok) (a0 a4 a5 a6 a7 a8 a9 a10 a11 : Option DL.Slot) : ∃ (d' : Dk) (b5 b6 b7 b8 b9 b10 b11 : Option DL.Slot), d'.ok ∧
    k_law_1 [a0, some (.dp (dkD d)), some (.sh (webD (wbK 0))), some (.sh purseD), a4, a5, a6, a7, a8, a9, a10, a11] = .ok .nx [a0, some (.dp (dkD d')), some (.sh (webD (wbK 0))), some (.sh purseD), a4, b5, b6, b7, b8, b9, b10, b11] := by
  obtain ⟨k1, d1, k15, o1, c1⟩ := c_pick 5 od
  obtain ⟨ns, d2, ln, o2, c2⟩ := c_loops k1 o1 (by omega)
  obtain ⟨k2, d3, k23, o3, c3⟩ := c_pick 3 o2
  obtain ⟨ms, d4, lm, o4, c4⟩ := c_loops k2 o3 (by omega)
  have c1' : doCall clsAll m__law_pick [.io 1, .v (.int 5)] [a0, some (.dp (dkD d)), some (.sh (webD (wbK 0))), some (.sh purseD), a4, a5, a6, a7, a8, a9, a10, a11] = .ok (.int k1) [a0, some (.dp (dkD d1)), some (.sh (webD (wbK 0))), some (.sh purseD), a4, a5, a6, a7, a8, a9, a10, a11] := c1 1 _ rfl
  have c2' : doCall clsAll m__law_loops [.io 1, .v (.int k1)] [a0, some (.dp (dkD d1)), some (.sh (webD (wbK 0))), some (.sh purseD), a4, a5, a6, a7, a8, a9, a10, a11] = .ok (.lst false (intsD ns)) [a0, some (.dp (dkD d2)), some (.sh (webD (wbK 0))), some (.sh purseD), a4, a5, a6, a7, a8, a9, a10, a11] := c2 1 _ rfl
  have c3' : ∀ x, doCall clsAll m__law_pick [.io 1, .v (.int 3)] [a0, some (.dp (dkD d2)), some (.sh (webD (wbK 0))), some (.sh purseD), a4, x, a6, a7, a8, a9, a10, a11] = .ok (.int k2) [a0, some (.dp (dkD d3)), some (.sh (webD (wbK 0))), some (.sh purseD), a4, x, a6, a7, a8, a9, a10, a11] := fun x => c3 1 _ rfl
  have c4' : ∀ x, doCall clsAll m__law_loops [.io 1, .v (.int k2)] [a0, some (.dp (dkD d3)), some (.sh (webD (wbK 0))), some (.sh purseD), a4, x, a6, a7, a8, a9, a10, a11] = .ok (.lst false (intsD ms)) [a0, some (.dp (dkD d4)), some (.sh (webD (wbK 0))), some (.sh purseD), a4, x, a6, a7, a8, a9, a10, a11] := fun x => c4 1 _ rfl
  have wi := v_within (ns := ns) (L := [putL]) (o := false) (o2 := false) (by simp; omega)
  have vm := v_many (ns := ns) (o := false)
  simp only [List.map_cons, List.map_nil] at wi
  obtain ⟨d5, L, c, o5, t3, ea⟩ := add_ok (ns := ns) (ms := ms) (d := d4) (by omega) (by omega) o4 a0 a4 a9 a10 a11
  obtain ⟨d6, L', o6, t4, em⟩ := mid_ok t3 o5 a0 a4 (some (.sh (.lst false (intsD ns)))) (some (.sh (.lst false (intsD ms)))) a9 a10 a11
  obtain ⟨d7, b9, b10, b11, o7, er⟩ := rest_ok t4 o6 a0 a4 (some (.sh (.lst false (intsD ns)))) (some (.sh (.lst false (intsD ms)))) a9 a10 a11
  refine ⟨d7, some (.sh (.lst false (intsD ns))), some (.sh (.lst false (intsD ms))), some (.sh (.lst false (strsD L'))), some (.sh (.int c)), b9, b10, b11, o7, ?_⟩
  · rw [k_law_split]
    simp only [sSeq_e, sAsg_e, dCall_e, dCall0_e, pCons_e, pIo_e, pE_e, dC_e, pNil_e, dVar_e, dCons_e, dNil_e, dFA_e, dLst_e, List.getElem?_cons_succ, List.getElem?_cons_zero, R.bind_okE, c1', c2', c3', c4']
    simp only [gS_e, noOwn_lst, noOwnL_map, noOwn_int, List.all_eq_true, Bool.not_false, Bool.true_and, List.length_cons, List.length_nil, List.set_cons_succ, List.set_cons_zero, implies_true]
    simp [c3', c4', wi, vm, ea, em, er]
theorem turns_ok : ∀ (xs : List D) {d : Dk} (a0 a4 a5 a6 a7 a8 a9 a10 a11 : Option DL.Slot), d.ok → (∀ x ∈ xs, noOwn x = true) → ∃ (ρ : DL.Env),
    DL.forM (gS 4) k_law_1 xs [a0, some (.dp (dkD d)), some (.sh (webD (wbK 0))), some (.sh purseD), a4, a5, a6, a7, a8, a9, a10, a11] = .ok .nx ρ
  | [], d, a0, a4, a5, a6, a7, a8, a9, a10, a11, _, _ => ⟨_, rfl⟩
  | x :: xs, d, a0, a4, a5, a6, a7, a8, a9, a10, a11, od, hx => by
    obtain ⟨d', b5, b6, b7, b8, b9, b10, b11, o', e⟩ := turn_ok od a0 (some (.sh x)) a5 a6 a7 a8 a9 a10 a11
    obtain ⟨ρ, e2⟩ := turns_ok xs a0 (some (.sh x)) b5 b6 b7 b8 b9 b10 b11 o' fun y m => hx y (List.mem_cons_of_mem _ m)
    refine ⟨ρ, ?_⟩
    unfold DL.forM
    have g : gS 4 x [a0, some (.dp (dkD d)), some (.sh (webD (wbK 0))), some (.sh purseD), a4, a5, a6, a7, a8, a9, a10, a11] = some [a0, some (.dp (dkD d)), some (.sh (webD (wbK 0))), some (.sh purseD), some (.sh x), a5, a6, a7, a8, a9, a10, a11] := by simp [hx x]
    rw [g]
    dsimp only
    rw [e]
    exact e2
theorem law72 : DL.Law m_law := fun ns h => by
  have vd := v_deck ns h
  have mw := v_webC (n := .int 2) (d := .lst false [.tup [.int 0, .int 1, .tup [.int 1, .int 1], .tup [.int 1, .int 1], .tup [.int 1, .int 1]]]) (by simp) (by simp) (by decide +kernel)
  have wk : ∀ ρ, webMk (.int 2) (.lst false [.tup [.int 0, .int 1, .tup [.int 1, .int 1], .tup [.int 1, .int 1], .tup [.int 1, .int 1]]]) ρ = .ok (.ins true n_Web [n_wares, n_stalls] [.int 2, .tup [.tup [.int 0, .int 1, .tup [.int 1, .int 1], .tup [.int 1, .int 1], .tup [.int 1, .int 1]]]]) ρ := fun ρ => by
    have fb : firstBad (isStall 2) [.tup [.int 0, .int 1, .tup [.int 1, .int 1], .tup [.int 1, .int 1], .tup [.int 1, .int 1]]] = none := by
      rw [firstBad_none]
      intro x m
      rcases List.mem_singleton.mp m with rfl
      decide +kernel
    simp [webMk, rowOf, fb]
  have sm : small62 6 := by unfold small62; omega
  obtain ⟨ρ, e⟩ := turns_ok (rangeD 0 6) (d := ⟨ns, 0, 0, 0⟩) (some (.sh (.scr ns))) none none none none none none none none (dk0 h) (by simp [rangeD])
  rw [webD0] at e
  simp [m_law, b_law, fnM_e, vd, mw, wk, frzRow, sm, e]
end G
/-! H72 -/
set_option Elab.async false
set_option linter.all false
set_option maxRecDepth 100000
set_option maxHeartbeats 0
namespace G
open PySem PySem.Spec PyProof.Rows L2 DL
abbrev RR : PySem.W.OpenRow := PySem.W.OpenLaw.row PySem.Challenge.rw_rootstalls_k72_whole_loops_of_orders
def fn0 : List He.DefD := [
  ⟨("is_integer", none), "is_integer", "is_integer", defArgs (top 8), defBody (top 8), defScope (top 8), [], []⟩,
  ⟨("common", none), "common", "common", defArgs (top 9), defBody (top 9), defScope (top 9), [], []⟩,
  ⟨("Exact", some "__init__"), "__init__", "Exact.__init__", defArgs (inClass (top 10) 0), defBody (inClass (top 10) 0), defScope (inClass (top 10) 0), [], []⟩,
  ⟨("Exact", some "__add__"), "__add__", "Exact.__add__", defArgs (inClass (top 10) 1), defBody (inClass (top 10) 1), defScope (inClass (top 10) 1), [], []⟩,
  ⟨("Exact", some "__sub__"), "__sub__", "Exact.__sub__", defArgs (inClass (top 10) 2), defBody (inClass (top 10) 2), defScope (inClass (top 10) 2), [], []⟩,
  ⟨("Exact", some "__mul__"), "__mul__", "Exact.__mul__", defArgs (inClass (top 10) 3), defBody (inClass (top 10) 3), defScope (inClass (top 10) 3), [], []⟩,
  ⟨("Exact", some "__eq__"), "__eq__", "Exact.__eq__", defArgs (inClass (top 10) 4), defBody (inClass (top 10) 4), defScope (inClass (top 10) 4), [], []⟩,
  ⟨("Exact", some "over"), "over", "Exact.over", defArgs (inClass (top 10) 5), defBody (inClass (top 10) 5), defScope (inClass (top 10) 5), [], []⟩,
  ⟨("Exact", some "sign"), "sign", "Exact.sign", defArgs (inClass (top 10) 6), defBody (inClass (top 10) 6), defScope (inClass (top 10) 6), [], []⟩,
  ⟨("Exact", some "is_less"), "is_less", "Exact.is_less", defArgs (inClass (top 10) 7), defBody (inClass (top 10) 7), defScope (inClass (top 10) 7), [], []⟩,
  ⟨("Exact", some "square"), "square", "Exact.square", defArgs (inClass (top 10) 8), defBody (inClass (top 10) 8), defScope (inClass (top 10) 8), [], []⟩,
  ⟨("Exact", some "pair"), "pair", "Exact.pair", defArgs (inClass (top 10) 9), defBody (inClass (top 10) 9), defScope (inClass (top 10) 9), [], []⟩,
  ⟨("exact", none), "exact", "exact", defArgs (top 11), defBody (top 11), defScope (top 11), [], []⟩,
  ⟨("is_fraction", none), "is_fraction", "is_fraction", defArgs (top 13), defBody (top 13), defScope (top 13), [], []⟩,
  ⟨("is_amount", none), "is_amount", "is_amount", defArgs (top 14), defBody (top 14), defScope (top 14), [], []⟩,
  ⟨("is_some", none), "is_some", "is_some", defArgs (top 15), defBody (top 15), defScope (top 15), [], []⟩,
  ⟨("is_ware_below", none), "is_ware_below", "is_ware_below", defArgs (top 19), defBody (top 19), defScope (top 19), [], []⟩,
  ⟨("is_stall", none), "is_stall", "is_stall", defArgs (top 20), defBody (top 20), defScope (top 20), [], []⟩,
  ⟨("Web", some "__init__"), "__init__", "Web.__init__", defArgs (inClass (top 21) 0), defBody (inClass (top 21) 0), defScope (inClass (top 21) 0), [], []⟩,
  ⟨("Web", some "__eq__"), "__eq__", "Web.__eq__", defArgs (inClass (top 21) 1), defBody (inClass (top 21) 1), defScope (inClass (top 21) 1), [], []⟩]
def fn1 : List He.DefD := [
  ⟨("is_amounts", none), "is_amounts", "is_amounts", defArgs (top 22), defBody (top 22), defScope (top 22), [], []⟩,
  ⟨("check_purse", none), "check_purse", "check_purse", defArgs (top 23), defBody (top 23), defScope (top 23), [], []⟩,
  ⟨("other_ware", none), "other_ware", "other_ware", defArgs (top 24), defBody (top 24), defScope (top 24), [], []⟩,
  ⟨("held_of", none), "held_of", "held_of", defArgs (top 25), defBody (top 25), defScope (top 25), [], []⟩,
  ⟨("root_exact", none), "root_exact", "root_exact", defArgs (top 26), defBody (top 26), defScope (top 26), [], []⟩,
  ⟨("is_index", none), "is_index", "is_index", defArgs (top 28), defBody (top 28), defScope (top 28), [], []⟩,
  ⟨("with_held", none), "with_held", "with_held", defArgs (top 29), defBody (top 29), defScope (top 29), [], []⟩,
  ⟨("with_stall", none), "with_stall", "with_stall", defArgs (top 30), defBody (top 30), defScope (top 30), [], []⟩,
  ⟨("behind_move", none), "behind_move", "behind_move", defArgs (top 31), defBody (top 31), defScope (top 31), [], []⟩,
  ⟨("number_in", none), "number_in", "number_in", defArgs (top 39), defBody (top 39), defScope (top 39), [], []⟩,
  ⟨("amount_in", none), "amount_in", "amount_in", defArgs (top 40), defBody (top 40), defScope (top 40), [], []⟩,
  ⟨("some_in", none), "some_in", "some_in", defArgs (top 41), defBody (top 41), defScope (top 41), [], []⟩,
  ⟨("stall_in", none), "stall_in", "stall_in", defArgs (top 42), defBody (top 42), defScope (top 42), [], []⟩,
  ⟨("ware_and_stall", none), "ware_and_stall", "ware_and_stall", defArgs (top 43), defBody (top 43), defScope (top 43), [], []⟩,
  ⟨("deed_in", none), "deed_in", "deed_in", defArgs (top 44), defBody (top 44), defScope (top 44), [], []⟩,
  ⟨("times_in", none), "times_in", "times_in", defArgs (top 45), defBody (top 45), defScope (top 45), [], []⟩,
  ⟨("read_orders", none), "read_orders", "read_orders", defArgs (top 46), defBody (top 46), defScope (top 46), [], []⟩,
  ⟨("Run", some "__init__"), "__init__", "Run.__init__", defArgs (inClass (top 47) 0), defBody (inClass (top 47) 0), defScope (inClass (top 47) 0), [], []⟩,
  ⟨("Run", some "put"), "put", "Run.put", defArgs (inClass (top 47) 1), defBody (inClass (top 47) 1), defScope (inClass (top 47) 1), [], []⟩,
  ⟨("Run", some "lead"), "lead", "Run.lead", defArgs (inClass (top 47) 2), defBody (inClass (top 47) 2), defScope (inClass (top 47) 2), [], []⟩]
def fn2 : List He.DefD := [
  ⟨("Run", some "part_of"), "part_of", "Run.part_of", defArgs (inClass (top 47) 3), defBody (inClass (top 47) 3), defScope (inClass (top 47) 3), [], []⟩,
  ⟨("Run", some "do"), "do", "Run.do", defArgs (inClass (top 47) 4), defBody (inClass (top 47) 4), defScope (inClass (top 47) 4), [], []⟩,
  ⟨("run", none), "run", "run", defArgs (top 48), defBody (top 48), defScope (top 48), [], []⟩,
  ⟨("_law_deck", none), "_law_deck", "_law_deck", defArgs (top 50), defBody (top 50), defScope (top 50), [], []⟩,
  ⟨("_law_pick", none), "_law_pick", "_law_pick", defArgs (top 51), defBody (top 51), defScope (top 51), [], []⟩,
  ⟨("_law_divisor", none), "_law_divisor", "_law_divisor", defArgs (top 52), defBody (top 52), defScope (top 52), [], []⟩,
  ⟨("_law_f", none), "_law_f", "_law_f", defArgs (top 53), defBody (top 53), defScope (top 53), [], []⟩,
  ⟨("_law_add", none), "_law_add", "_law_add", defArgs (top 54), defBody (top 54), defScope (top 54), [], []⟩,
  ⟨("_law_sub", none), "_law_sub", "_law_sub", defArgs (top 55), defBody (top 55), defScope (top 55), [], []⟩,
  ⟨("_law_mul", none), "_law_mul", "_law_mul", defArgs (top 56), defBody (top 56), defScope (top 56), [], []⟩,
  ⟨("_law_div", none), "_law_div", "_law_div", defArgs (top 57), defBody (top 57), defScope (top 57), [], []⟩,
  ⟨("_law_less", none), "_law_less", "_law_less", defArgs (top 58), defBody (top 58), defScope (top 58), [], []⟩,
  ⟨("_law_loops", none), "_law_loops", "_law_loops", defArgs (top 59), defBody (top 59), defScope (top 59), [], []⟩,
  ⟨("_law_within", none), "_law_within", "_law_within", defArgs (top 60), defBody (top 60), defScope (top 60), [], []⟩,
  ⟨("_law_many", none), "_law_many", "_law_many", defArgs (top 61), defBody (top 61), defScope (top 61), [], []⟩,
  ⟨("_law_told", none), "_law_told", "_law_told", defArgs (top 62), defBody (top 62), defScope (top 62), [], []⟩,
  ⟨("_law_is_counted", none), "_law_is_counted", "_law_is_counted", defArgs (top 63), defBody (top 63), defScope (top 63), [], []⟩,
  ⟨("law", none), "law", "law", defArgs (top 64), defBody (top 64), defScope (top 64), [], []⟩,
  ⟨("BadStall", some "__init__"), "__init__", "BadStall.__init__", defArgs (inClass (top 3) 0), defBody (inClass (top 3) 0), defScope (inClass (top 3) 0), [], []⟩,
  ⟨("BadText", some "__init__"), "__init__", "BadText.__init__", defArgs (inClass (top 5) 0), defBody (inClass (top 5) 0), defScope (inClass (top 5) 0), [], []⟩]
def fn3 : List He.DefD := [
  ⟨("TooMany", some "__init__"), "__init__", "TooMany.__init__", defArgs (inClass (top 6) 0), defBody (inClass (top 6) 0), defScope (inClass (top 6) 0), [], []⟩]
def fn : List He.DefD := fn0 ++ fn1 ++ fn2 ++ fn3
def faT0 : List (Str × Str × Option Str) := [("is_integer", "is_integer", none), ("common", "common", none), ("Exact.__init__", "Exact", some "__init__"), ("Exact.__add__", "Exact", some "__add__"), ("Exact.__sub__", "Exact", some "__sub__"), ("Exact.__mul__", "Exact", some "__mul__"), ("Exact.__eq__", "Exact", some "__eq__"), ("Exact.over", "Exact", some "over"), ("Exact.sign", "Exact", some "sign"), ("Exact.is_less", "Exact", some "is_less"), ("Exact.square", "Exact", some "square"), ("Exact.pair", "Exact", some "pair"), ("exact", "exact", none), ("is_fraction", "is_fraction", none), ("is_amount", "is_amount", none), ("is_some", "is_some", none), ("is_ware_below", "is_ware_below", none), ("is_stall", "is_stall", none), ("Web.__init__", "Web", some "__init__"), ("Web.__eq__", "Web", some "__eq__")]
def faT1 : List (Str × Str × Option Str) := [("is_amounts", "is_amounts", none), ("check_purse", "check_purse", none), ("other_ware", "other_ware", none), ("held_of", "held_of", none), ("root_exact", "root_exact", none), ("is_index", "is_index", none), ("with_held", "with_held", none), ("with_stall", "with_stall", none), ("behind_move", "behind_move", none), ("number_in", "number_in", none), ("amount_in", "amount_in", none), ("some_in", "some_in", none), ("stall_in", "stall_in", none), ("ware_and_stall", "ware_and_stall", none), ("deed_in", "deed_in", none), ("times_in", "times_in", none), ("read_orders", "read_orders", none), ("Run.__init__", "Run", some "__init__"), ("Run.put", "Run", some "put"), ("Run.lead", "Run", some "lead")]
def faT2 : List (Str × Str × Option Str) := [("Run.part_of", "Run", some "part_of"), ("Run.do", "Run", some "do"), ("run", "run", none), ("_law_deck", "_law_deck", none), ("_law_pick", "_law_pick", none), ("_law_divisor", "_law_divisor", none), ("_law_f", "_law_f", none), ("_law_add", "_law_add", none), ("_law_sub", "_law_sub", none), ("_law_mul", "_law_mul", none), ("_law_div", "_law_div", none), ("_law_less", "_law_less", none), ("_law_loops", "_law_loops", none), ("_law_within", "_law_within", none), ("_law_many", "_law_many", none), ("_law_told", "_law_told", none), ("_law_is_counted", "_law_is_counted", none), ("law", "law", none), ("BadStall.__init__", "BadStall", some "__init__"), ("BadText.__init__", "BadText", some "__init__")]
def faT3 : List (Str × Str × Option Str) := [("TooMany.__init__", "TooMany", some "__init__")]
def faT : List (Str × Str × Option Str) := faT0 ++ faT1 ++ faT2 ++ faT3
def fk (f : Str) : Str × Option Str := (faT.lookup f).getD ("", none)
def efT : List (Str × List Str) := [(n_BadStall, [n_index]), (n_BadText, [n_index]), (n_TooMany, [n_limit])]
def gOf (K : PySem.W.Frag) : Gx := ⟨K, fun c => He.ga K c, fun f => He.fAd K (fk f), fun c => (efT.lookup c).getD [], none⟩
theorem fk_is_integer : fk "is_integer" = (("is_integer", none) : Str × Option Str) := by decide +kernel
theorem fk_common : fk "common" = (("common", none) : Str × Option Str) := by decide +kernel
theorem fk_Exact___init__ : fk "Exact.__init__" = (("Exact", some "__init__") : Str × Option Str) := by decide +kernel
theorem fk_Exact___add__ : fk "Exact.__add__" = (("Exact", some "__add__") : Str × Option Str) := by decide +kernel
theorem fk_Exact___sub__ : fk "Exact.__sub__" = (("Exact", some "__sub__") : Str × Option Str) := by decide +kernel
theorem fk_Exact___mul__ : fk "Exact.__mul__" = (("Exact", some "__mul__") : Str × Option Str) := by decide +kernel
theorem fk_Exact___eq__ : fk "Exact.__eq__" = (("Exact", some "__eq__") : Str × Option Str) := by decide +kernel
theorem fk_Exact_over : fk "Exact.over" = (("Exact", some "over") : Str × Option Str) := by decide +kernel
theorem fk_Exact_sign : fk "Exact.sign" = (("Exact", some "sign") : Str × Option Str) := by decide +kernel
theorem fk_Exact_is_less : fk "Exact.is_less" = (("Exact", some "is_less") : Str × Option Str) := by decide +kernel
theorem fk_Exact_square : fk "Exact.square" = (("Exact", some "square") : Str × Option Str) := by decide +kernel
theorem fk_Exact_pair : fk "Exact.pair" = (("Exact", some "pair") : Str × Option Str) := by decide +kernel
theorem fk_exact : fk "exact" = (("exact", none) : Str × Option Str) := by decide +kernel
theorem fk_is_fraction : fk "is_fraction" = (("is_fraction", none) : Str × Option Str) := by decide +kernel
theorem fk_is_amount : fk "is_amount" = (("is_amount", none) : Str × Option Str) := by decide +kernel
theorem fk_is_some : fk "is_some" = (("is_some", none) : Str × Option Str) := by decide +kernel
theorem fk_is_ware_below : fk "is_ware_below" = (("is_ware_below", none) : Str × Option Str) := by decide +kernel
theorem fk_is_stall : fk "is_stall" = (("is_stall", none) : Str × Option Str) := by decide +kernel
theorem fk_Web___init__ : fk "Web.__init__" = (("Web", some "__init__") : Str × Option Str) := by decide +kernel
theorem fk_Web___eq__ : fk "Web.__eq__" = (("Web", some "__eq__") : Str × Option Str) := by decide +kernel
theorem fk_is_amounts : fk "is_amounts" = (("is_amounts", none) : Str × Option Str) := by decide +kernel
theorem fk_check_purse : fk "check_purse" = (("check_purse", none) : Str × Option Str) := by decide +kernel
theorem fk_other_ware : fk "other_ware" = (("other_ware", none) : Str × Option Str) := by decide +kernel
theorem fk_held_of : fk "held_of" = (("held_of", none) : Str × Option Str) := by decide +kernel
theorem fk_root_exact : fk "root_exact" = (("root_exact", none) : Str × Option Str) := by decide +kernel
theorem fk_is_index : fk "is_index" = (("is_index", none) : Str × Option Str) := by decide +kernel
theorem fk_with_held : fk "with_held" = (("with_held", none) : Str × Option Str) := by decide +kernel
theorem fk_with_stall : fk "with_stall" = (("with_stall", none) : Str × Option Str) := by decide +kernel
theorem fk_behind_move : fk "behind_move" = (("behind_move", none) : Str × Option Str) := by decide +kernel
theorem fk_number_in : fk "number_in" = (("number_in", none) : Str × Option Str) := by decide +kernel
theorem fk_amount_in : fk "amount_in" = (("amount_in", none) : Str × Option Str) := by decide +kernel
theorem fk_some_in : fk "some_in" = (("some_in", none) : Str × Option Str) := by decide +kernel
theorem fk_stall_in : fk "stall_in" = (("stall_in", none) : Str × Option Str) := by decide +kernel
theorem fk_ware_and_stall : fk "ware_and_stall" = (("ware_and_stall", none) : Str × Option Str) := by decide +kernel
theorem fk_deed_in : fk "deed_in" = (("deed_in", none) : Str × Option Str) := by decide +kernel
theorem fk_times_in : fk "times_in" = (("times_in", none) : Str × Option Str) := by decide +kernel
theorem fk_read_orders : fk "read_orders" = (("read_orders", none) : Str × Option Str) := by decide +kernel
theorem fk_Run___init__ : fk "Run.__init__" = (("Run", some "__init__") : Str × Option Str) := by decide +kernel
theorem fk_Run_put : fk "Run.put" = (("Run", some "put") : Str × Option Str) := by decide +kernel
theorem fk_Run_lead : fk "Run.lead" = (("Run", some "lead") : Str × Option Str) := by decide +kernel
theorem fk_Run_part_of : fk "Run.part_of" = (("Run", some "part_of") : Str × Option Str) := by decide +kernel
theorem fk_Run_do : fk "Run.do" = (("Run", some "do") : Str × Option Str) := by decide +kernel
theorem fk_run : fk "run" = (("run", none) : Str × Option Str) := by decide +kernel
theorem fk__law_deck : fk "_law_deck" = (("_law_deck", none) : Str × Option Str) := by decide +kernel
theorem fk__law_pick : fk "_law_pick" = (("_law_pick", none) : Str × Option Str) := by decide +kernel
theorem fk__law_divisor : fk "_law_divisor" = (("_law_divisor", none) : Str × Option Str) := by decide +kernel
theorem fk__law_f : fk "_law_f" = (("_law_f", none) : Str × Option Str) := by decide +kernel
theorem fk__law_add : fk "_law_add" = (("_law_add", none) : Str × Option Str) := by decide +kernel
theorem fk__law_sub : fk "_law_sub" = (("_law_sub", none) : Str × Option Str) := by decide +kernel
theorem fk__law_mul : fk "_law_mul" = (("_law_mul", none) : Str × Option Str) := by decide +kernel
theorem fk__law_div : fk "_law_div" = (("_law_div", none) : Str × Option Str) := by decide +kernel
theorem fk__law_less : fk "_law_less" = (("_law_less", none) : Str × Option Str) := by decide +kernel
theorem fk__law_loops : fk "_law_loops" = (("_law_loops", none) : Str × Option Str) := by decide +kernel
theorem fk__law_within : fk "_law_within" = (("_law_within", none) : Str × Option Str) := by decide +kernel
theorem fk__law_many : fk "_law_many" = (("_law_many", none) : Str × Option Str) := by decide +kernel
theorem fk__law_told : fk "_law_told" = (("_law_told", none) : Str × Option Str) := by decide +kernel
theorem fk__law_is_counted : fk "_law_is_counted" = (("_law_is_counted", none) : Str × Option Str) := by decide +kernel
theorem fk_law : fk "law" = (("law", none) : Str × Option Str) := by decide +kernel
theorem fk_BadStall___init__ : fk "BadStall.__init__" = (("BadStall", some "__init__") : Str × Option Str) := by decide +kernel
theorem fk_BadText___init__ : fk "BadText.__init__" = (("BadText", some "__init__") : Str × Option Str) := by decide +kernel
theorem fk_TooMany___init__ : fk "TooMany.__init__" = (("TooMany", some "__init__") : Str × Option Str) := by decide +kernel
def chk0 (g : Gx) : List Bool := [
  kApart g clsAll,
  kFld g tab,
  He.eqO (PySem.W.nsIn g.K mainGlobals "abs") (some none),
  He.eqO (PySem.W.nsIn g.K mainGlobals "all") (some none),
  He.eqO (PySem.W.nsIn g.K mainGlobals "bool") (some none),
  He.eqO (PySem.W.nsIn g.K mainGlobals "enumerate") (some none),
  He.eqO (PySem.W.nsIn g.K mainGlobals "int") (some none),
  He.eqO (PySem.W.nsIn g.K mainGlobals "isinstance") (some none),
  He.eqO (PySem.W.nsIn g.K mainGlobals "len") (some none),
  He.eqO (PySem.W.nsIn g.K mainGlobals "list") (some none),
  He.eqO (PySem.W.nsIn g.K mainGlobals "min") (some none),
  He.eqO (PySem.W.nsIn g.K mainGlobals "range") (some none),
  He.eqO (PySem.W.nsIn g.K mainGlobals "str") (some none),
  He.eqO (PySem.W.nsIn g.K mainGlobals "tuple") (some none),
  (He.Fa.str "DIGITS" "0123456789").ok g.K,
  (He.Fa.int "MOST_DEPTH" 4).ok g.K,
  (He.Fa.int "MOST_DIGITS" 12).ok g.K,
  (He.Fa.int "MOST_MOVES" 200).ok g.K,
  (He.Fa.int "MOST_NUMBER" 9).ok g.K,
  (He.Fa.int "MOST_STALLS" 16).ok g.K]
def chk1 (g : Gx) : List Bool := [
  (He.Fa.int "MOST_TIMES" 20).ok g.K,
  (He.Fa.int "MOST_WARES" 8).ok g.K,
  kGlo g.K "is_integer" (g.fa "is_integer"),
  kGlo g.K "common" (g.fa "common"),
  kMeth g.K (g.cl n_Exact) "__add__" (g.fa "Exact.__add__"),
  kMeth g.K (g.cl n_Exact) "__sub__" (g.fa "Exact.__sub__"),
  kMeth g.K (g.cl n_Exact) "__mul__" (g.fa "Exact.__mul__"),
  kMeth g.K (g.cl n_Exact) "__eq__" (g.fa "Exact.__eq__"),
  kMeth g.K (g.cl n_Exact) "over" (g.fa "Exact.over"),
  kMeth g.K (g.cl n_Exact) "sign" (g.fa "Exact.sign"),
  kMeth g.K (g.cl n_Exact) "is_less" (g.fa "Exact.is_less"),
  kMeth g.K (g.cl n_Exact) "square" (g.fa "Exact.square"),
  kMeth g.K (g.cl n_Exact) "pair" (g.fa "Exact.pair"),
  kGlo g.K "exact" (g.fa "exact"),
  kGlo g.K "is_fraction" (g.fa "is_fraction"),
  kGlo g.K "is_amount" (g.fa "is_amount"),
  kGlo g.K "is_some" (g.fa "is_some"),
  kGlo g.K "is_ware_below" (g.fa "is_ware_below"),
  kGlo g.K "is_stall" (g.fa "is_stall"),
  kMeth g.K (g.cl n_Web) "__eq__" (g.fa "Web.__eq__")]
def chk2 (g : Gx) : List Bool := [
  kGlo g.K "is_amounts" (g.fa "is_amounts"),
  kGlo g.K "check_purse" (g.fa "check_purse"),
  kGlo g.K "other_ware" (g.fa "other_ware"),
  kGlo g.K "held_of" (g.fa "held_of"),
  kGlo g.K "root_exact" (g.fa "root_exact"),
  kGlo g.K "is_index" (g.fa "is_index"),
  kGlo g.K "with_held" (g.fa "with_held"),
  kGlo g.K "with_stall" (g.fa "with_stall"),
  kGlo g.K "behind_move" (g.fa "behind_move"),
  kGlo g.K "number_in" (g.fa "number_in"),
  kGlo g.K "amount_in" (g.fa "amount_in"),
  kGlo g.K "some_in" (g.fa "some_in"),
  kGlo g.K "stall_in" (g.fa "stall_in"),
  kGlo g.K "ware_and_stall" (g.fa "ware_and_stall"),
  kGlo g.K "deed_in" (g.fa "deed_in"),
  kGlo g.K "times_in" (g.fa "times_in"),
  kGlo g.K "read_orders" (g.fa "read_orders"),
  kMeth g.K (g.cl n_Run) "put" (g.fa "Run.put"),
  kMeth g.K (g.cl n_Run) "lead" (g.fa "Run.lead"),
  kMeth g.K (g.cl n_Run) "part_of" (g.fa "Run.part_of")]
def chk3 (g : Gx) : List Bool := [
  kMeth g.K (g.cl n_Run) "do" (g.fa "Run.do"),
  kGlo g.K "run" (g.fa "run"),
  kGlo g.K "_law_deck" (g.fa "_law_deck"),
  kGlo g.K "_law_pick" (g.fa "_law_pick"),
  kGlo g.K "_law_divisor" (g.fa "_law_divisor"),
  kGlo g.K "_law_f" (g.fa "_law_f"),
  kGlo g.K "_law_add" (g.fa "_law_add"),
  kGlo g.K "_law_sub" (g.fa "_law_sub"),
  kGlo g.K "_law_mul" (g.fa "_law_mul"),
  kGlo g.K "_law_div" (g.fa "_law_div"),
  kGlo g.K "_law_less" (g.fa "_law_less"),
  kGlo g.K "_law_loops" (g.fa "_law_loops"),
  kGlo g.K "_law_within" (g.fa "_law_within"),
  kGlo g.K "_law_many" (g.fa "_law_many"),
  kGlo g.K "_law_told" (g.fa "_law_told"),
  kGlo g.K "_law_is_counted" (g.fa "_law_is_counted"),
  kGlo g.K "law" (g.fa "law"),
  kGlo g.K "Exact" (g.cl n_Exact),
  kCls g.K (g.cl n_Exact),
  kMk g.K (g.cl n_Exact) (g.fa "Exact.__init__")]
def chk4 (g : Gx) : List Bool := [
  PySem.W.selfFirst g.K (g.cl n_Exact),
  PySem.W.notFirst g.K (g.cl n_Exact) (.ref (g.cl n_Exact)),
  kFind g.K (g.cl n_Exact) "__add__" (some (some (.ref (g.fa "Exact.__add__")))),
  PySem.W.isFn g.K (.ref (g.fa "Exact.__add__")),
  kFind g.K (g.cl n_Exact) "__sub__" (some (some (.ref (g.fa "Exact.__sub__")))),
  PySem.W.isFn g.K (.ref (g.fa "Exact.__sub__")),
  kFind g.K (g.cl n_Exact) "__mul__" (some (some (.ref (g.fa "Exact.__mul__")))),
  PySem.W.isFn g.K (.ref (g.fa "Exact.__mul__")),
  kFind g.K (g.cl n_Exact) "__eq__" (some (some (.ref (g.fa "Exact.__eq__")))),
  PySem.W.isFn g.K (.ref (g.fa "Exact.__eq__")),
  kGlo g.K "Web" (g.cl n_Web),
  kCls g.K (g.cl n_Web),
  kMk g.K (g.cl n_Web) (g.fa "Web.__init__"),
  PySem.W.notFirst g.K (g.cl n_Web) (.ref (g.cl n_Web)),
  kFind g.K (g.cl n_Web) "__eq__" (some (some (.ref (g.fa "Web.__eq__")))),
  PySem.W.isFn g.K (.ref (g.fa "Web.__eq__")),
  kGlo g.K "Run" (g.cl n_Run),
  kCls g.K (g.cl n_Run),
  kMk g.K (g.cl n_Run) (g.fa "Run.__init__"),
  kErr g etab]
def chk5 (g : Gx) : List Bool := [
  kKit g xt_StallError (.ref (g.cl n_StallError)),
  kExm g xt_StallError (.ref (g.cl n_StallError)),
  kKit g xt_TooMany (.ref (g.cl n_TooMany)),
  kExm g xt_TooMany (.ref (g.cl n_TooMany)),
  kGlo g.K "BadPurse" (g.cl n_BadPurse),
  kExc g.K (g.cl n_BadPurse),
  kGlo g.K "BadStall" (g.cl n_BadStall),
  kOex g.K (g.cl n_BadStall),
  kFind g.K (g.cl n_BadStall) n_index (some none),
  kFind g.K (g.cl n_BadStall) "__init__" (some (some (.ref (g.fa "BadStall.__init__")))),
  kTypeFn g.K (g.fa "BadStall.__init__"),
  decide (g.ef n_BadStall = [n_index]),
  kGlo g.K "BadText" (g.cl n_BadText),
  kOex g.K (g.cl n_BadText),
  kFind g.K (g.cl n_BadText) n_index (some none),
  kFind g.K (g.cl n_BadText) "__init__" (some (some (.ref (g.fa "BadText.__init__")))),
  kTypeFn g.K (g.fa "BadText.__init__"),
  decide (g.ef n_BadText = [n_index]),
  kGlo g.K "BadWares" (g.cl n_BadWares),
  kExc g.K (g.cl n_BadWares)]
def chk6 (g : Gx) : List Bool := [
  kGlo g.K "StallError" (g.cl n_StallError),
  kExc g.K (g.cl n_StallError),
  kGlo g.K "TooMany" (g.cl n_TooMany),
  kOex g.K (g.cl n_TooMany),
  kFind g.K (g.cl n_TooMany) n_limit (some none),
  kFind g.K (g.cl n_TooMany) "__init__" (some (some (.ref (g.fa "TooMany.__init__")))),
  kTypeFn g.K (g.fa "TooMany.__init__"),
  decide (g.ef n_TooMany = [n_limit]),
  clsAll.all (fun c => kIns g.K (g.cl c)),
  kIsi g clsAll tg_Exact (.ref (g.cl n_Exact)),
  kIsi g clsAll tg_Web (.ref (g.cl n_Web)),
  kIsi g clsAll tg_bool (.type "bool"),
  kIsi g clsAll tg_int (.type "int"),
  kIsi2 g clsAll tg_list_tuple [(.type "list"), (.type "tuple")],
  kIsi g clsAll tg_str (.type "str"),
  kIsi g clsAll tg_tuple (.type "tuple")]
def chk (K : PySem.W.Frag) : List Bool := chk0 (gOf K) ++ chk1 (gOf K) ++ chk2 (gOf K) ++ chk3 (gOf K) ++ chk4 (gOf K) ++ chk5 (gOf K) ++ chk6 (gOf K)
theorem facts {w : World} {K : PySem.W.Frag} {h base : Heap} {mg : Str → Option Value} (X : K.In h) (G : h.Ns mainGlobals mg) (c : SaysC chk fn K) : Facts ⟨P, w, mg, base⟩ (gOf K) := by
  have ck : ∀ (i : Nat) {b : Bool}, (chk K)[i]? = some b → b = true := fun i b e => c.all b (List.mem_of_getElem? e)
  exact {
    ap := kApart_ok (ck 0 (by rfl))
    tb := kFld_ok (ck 1 (by rfl))
    b_abs := PySem.W.mg_none_of X G (He.eqO_ok (ck 2 (by rfl)))
    b_all := PySem.W.mg_none_of X G (He.eqO_ok (ck 3 (by rfl)))
    b_bool := PySem.W.mg_none_of X G (He.eqO_ok (ck 4 (by rfl)))
    b_enumerate := PySem.W.mg_none_of X G (He.eqO_ok (ck 5 (by rfl)))
    b_int := PySem.W.mg_none_of X G (He.eqO_ok (ck 6 (by rfl)))
    b_isinstance := PySem.W.mg_none_of X G (He.eqO_ok (ck 7 (by rfl)))
    b_len := PySem.W.mg_none_of X G (He.eqO_ok (ck 8 (by rfl)))
    b_list := PySem.W.mg_none_of X G (He.eqO_ok (ck 9 (by rfl)))
    b_min := PySem.W.mg_none_of X G (He.eqO_ok (ck 10 (by rfl)))
    b_range := PySem.W.mg_none_of X G (He.eqO_ok (ck 11 (by rfl)))
    b_str := PySem.W.mg_none_of X G (He.eqO_ok (ck 12 (by rfl)))
    b_tuple := PySem.W.mg_none_of X G (He.eqO_ok (ck 13 (by rfl)))
    v_DIGITS := by obtain ⟨t, e⟩ := He.str_ok X G (ck 14 (by rfl)); exact ⟨_, e, ⟨t, rfl⟩⟩
    v_MOST_DEPTH := by obtain ⟨t, e⟩ := He.int_ok X G (ck 15 (by rfl)); exact ⟨_, e, ⟨t, rfl⟩⟩
    v_MOST_DIGITS := by obtain ⟨t, e⟩ := He.int_ok X G (ck 16 (by rfl)); exact ⟨_, e, ⟨t, rfl⟩⟩
    v_MOST_MOVES := by obtain ⟨t, e⟩ := He.int_ok X G (ck 17 (by rfl)); exact ⟨_, e, ⟨t, rfl⟩⟩
    v_MOST_NUMBER := by obtain ⟨t, e⟩ := He.int_ok X G (ck 18 (by rfl)); exact ⟨_, e, ⟨t, rfl⟩⟩
    v_MOST_STALLS := by obtain ⟨t, e⟩ := He.int_ok X G (ck 19 (by rfl)); exact ⟨_, e, ⟨t, rfl⟩⟩
    v_MOST_TIMES := by obtain ⟨t, e⟩ := He.int_ok X G (ck 20 (by rfl)); exact ⟨_, e, ⟨t, rfl⟩⟩
    v_MOST_WARES := by obtain ⟨t, e⟩ := He.int_ok X G (ck 21 (by rfl)); exact ⟨_, e, ⟨t, rfl⟩⟩
    d_is_integer := by obtain ⟨fd, F⟩ := c.def_ 0; exact ⟨fd, by rw [show (gOf K).fa "is_integer" = He.fAd K ("is_integer", none) from congrArg (He.fAd K) fk_is_integer]; exact F⟩
    d_common := by obtain ⟨fd, F⟩ := c.def_ 1; exact ⟨fd, by rw [show (gOf K).fa "common" = He.fAd K ("common", none) from congrArg (He.fAd K) fk_common]; exact F⟩
    d_Exact___init__ := by obtain ⟨fd, F⟩ := c.def_ 2; exact ⟨fd, by rw [show (gOf K).fa "Exact.__init__" = He.fAd K ("Exact", some "__init__") from congrArg (He.fAd K) fk_Exact___init__]; exact F⟩
    d_Exact___add__ := by obtain ⟨fd, F⟩ := c.def_ 3; exact ⟨fd, by rw [show (gOf K).fa "Exact.__add__" = He.fAd K ("Exact", some "__add__") from congrArg (He.fAd K) fk_Exact___add__]; exact F⟩
    d_Exact___sub__ := by obtain ⟨fd, F⟩ := c.def_ 4; exact ⟨fd, by rw [show (gOf K).fa "Exact.__sub__" = He.fAd K ("Exact", some "__sub__") from congrArg (He.fAd K) fk_Exact___sub__]; exact F⟩
    d_Exact___mul__ := by obtain ⟨fd, F⟩ := c.def_ 5; exact ⟨fd, by rw [show (gOf K).fa "Exact.__mul__" = He.fAd K ("Exact", some "__mul__") from congrArg (He.fAd K) fk_Exact___mul__]; exact F⟩
    d_Exact___eq__ := by obtain ⟨fd, F⟩ := c.def_ 6; exact ⟨fd, by rw [show (gOf K).fa "Exact.__eq__" = He.fAd K ("Exact", some "__eq__") from congrArg (He.fAd K) fk_Exact___eq__]; exact F⟩
    d_Exact_over := by obtain ⟨fd, F⟩ := c.def_ 7; exact ⟨fd, by rw [show (gOf K).fa "Exact.over" = He.fAd K ("Exact", some "over") from congrArg (He.fAd K) fk_Exact_over]; exact F⟩
    d_Exact_sign := by obtain ⟨fd, F⟩ := c.def_ 8; exact ⟨fd, by rw [show (gOf K).fa "Exact.sign" = He.fAd K ("Exact", some "sign") from congrArg (He.fAd K) fk_Exact_sign]; exact F⟩
    d_Exact_is_less := by obtain ⟨fd, F⟩ := c.def_ 9; exact ⟨fd, by rw [show (gOf K).fa "Exact.is_less" = He.fAd K ("Exact", some "is_less") from congrArg (He.fAd K) fk_Exact_is_less]; exact F⟩
    d_Exact_square := by obtain ⟨fd, F⟩ := c.def_ 10; exact ⟨fd, by rw [show (gOf K).fa "Exact.square" = He.fAd K ("Exact", some "square") from congrArg (He.fAd K) fk_Exact_square]; exact F⟩
    d_Exact_pair := by obtain ⟨fd, F⟩ := c.def_ 11; exact ⟨fd, by rw [show (gOf K).fa "Exact.pair" = He.fAd K ("Exact", some "pair") from congrArg (He.fAd K) fk_Exact_pair]; exact F⟩
    d_exact := by obtain ⟨fd, F⟩ := c.def_ 12; exact ⟨fd, by rw [show (gOf K).fa "exact" = He.fAd K ("exact", none) from congrArg (He.fAd K) fk_exact]; exact F⟩
    d_is_fraction := by obtain ⟨fd, F⟩ := c.def_ 13; exact ⟨fd, by rw [show (gOf K).fa "is_fraction" = He.fAd K ("is_fraction", none) from congrArg (He.fAd K) fk_is_fraction]; exact F⟩
    d_is_amount := by obtain ⟨fd, F⟩ := c.def_ 14; exact ⟨fd, by rw [show (gOf K).fa "is_amount" = He.fAd K ("is_amount", none) from congrArg (He.fAd K) fk_is_amount]; exact F⟩
    d_is_some := by obtain ⟨fd, F⟩ := c.def_ 15; exact ⟨fd, by rw [show (gOf K).fa "is_some" = He.fAd K ("is_some", none) from congrArg (He.fAd K) fk_is_some]; exact F⟩
    d_is_ware_below := by obtain ⟨fd, F⟩ := c.def_ 16; exact ⟨fd, by rw [show (gOf K).fa "is_ware_below" = He.fAd K ("is_ware_below", none) from congrArg (He.fAd K) fk_is_ware_below]; exact F⟩
    d_is_stall := by obtain ⟨fd, F⟩ := c.def_ 17; exact ⟨fd, by rw [show (gOf K).fa "is_stall" = He.fAd K ("is_stall", none) from congrArg (He.fAd K) fk_is_stall]; exact F⟩
    d_Web___init__ := by obtain ⟨fd, F⟩ := c.def_ 18; exact ⟨fd, by rw [show (gOf K).fa "Web.__init__" = He.fAd K ("Web", some "__init__") from congrArg (He.fAd K) fk_Web___init__]; exact F⟩
    d_Web___eq__ := by obtain ⟨fd, F⟩ := c.def_ 19; exact ⟨fd, by rw [show (gOf K).fa "Web.__eq__" = He.fAd K ("Web", some "__eq__") from congrArg (He.fAd K) fk_Web___eq__]; exact F⟩
    d_is_amounts := by obtain ⟨fd, F⟩ := c.def_ 20; exact ⟨fd, by rw [show (gOf K).fa "is_amounts" = He.fAd K ("is_amounts", none) from congrArg (He.fAd K) fk_is_amounts]; exact F⟩
    d_check_purse := by obtain ⟨fd, F⟩ := c.def_ 21; exact ⟨fd, by rw [show (gOf K).fa "check_purse" = He.fAd K ("check_purse", none) from congrArg (He.fAd K) fk_check_purse]; exact F⟩
    d_other_ware := by obtain ⟨fd, F⟩ := c.def_ 22; exact ⟨fd, by rw [show (gOf K).fa "other_ware" = He.fAd K ("other_ware", none) from congrArg (He.fAd K) fk_other_ware]; exact F⟩
    d_held_of := by obtain ⟨fd, F⟩ := c.def_ 23; exact ⟨fd, by rw [show (gOf K).fa "held_of" = He.fAd K ("held_of", none) from congrArg (He.fAd K) fk_held_of]; exact F⟩
    d_root_exact := by obtain ⟨fd, F⟩ := c.def_ 24; exact ⟨fd, by rw [show (gOf K).fa "root_exact" = He.fAd K ("root_exact", none) from congrArg (He.fAd K) fk_root_exact]; exact F⟩
    d_is_index := by obtain ⟨fd, F⟩ := c.def_ 25; exact ⟨fd, by rw [show (gOf K).fa "is_index" = He.fAd K ("is_index", none) from congrArg (He.fAd K) fk_is_index]; exact F⟩
    d_with_held := by obtain ⟨fd, F⟩ := c.def_ 26; exact ⟨fd, by rw [show (gOf K).fa "with_held" = He.fAd K ("with_held", none) from congrArg (He.fAd K) fk_with_held]; exact F⟩
    d_with_stall := by obtain ⟨fd, F⟩ := c.def_ 27; exact ⟨fd, by rw [show (gOf K).fa "with_stall" = He.fAd K ("with_stall", none) from congrArg (He.fAd K) fk_with_stall]; exact F⟩
    d_behind_move := by obtain ⟨fd, F⟩ := c.def_ 28; exact ⟨fd, by rw [show (gOf K).fa "behind_move" = He.fAd K ("behind_move", none) from congrArg (He.fAd K) fk_behind_move]; exact F⟩
    d_number_in := by obtain ⟨fd, F⟩ := c.def_ 29; exact ⟨fd, by rw [show (gOf K).fa "number_in" = He.fAd K ("number_in", none) from congrArg (He.fAd K) fk_number_in]; exact F⟩
    d_amount_in := by obtain ⟨fd, F⟩ := c.def_ 30; exact ⟨fd, by rw [show (gOf K).fa "amount_in" = He.fAd K ("amount_in", none) from congrArg (He.fAd K) fk_amount_in]; exact F⟩
    d_some_in := by obtain ⟨fd, F⟩ := c.def_ 31; exact ⟨fd, by rw [show (gOf K).fa "some_in" = He.fAd K ("some_in", none) from congrArg (He.fAd K) fk_some_in]; exact F⟩
    d_stall_in := by obtain ⟨fd, F⟩ := c.def_ 32; exact ⟨fd, by rw [show (gOf K).fa "stall_in" = He.fAd K ("stall_in", none) from congrArg (He.fAd K) fk_stall_in]; exact F⟩
    d_ware_and_stall := by obtain ⟨fd, F⟩ := c.def_ 33; exact ⟨fd, by rw [show (gOf K).fa "ware_and_stall" = He.fAd K ("ware_and_stall", none) from congrArg (He.fAd K) fk_ware_and_stall]; exact F⟩
    d_deed_in := by obtain ⟨fd, F⟩ := c.def_ 34; exact ⟨fd, by rw [show (gOf K).fa "deed_in" = He.fAd K ("deed_in", none) from congrArg (He.fAd K) fk_deed_in]; exact F⟩
    d_times_in := by obtain ⟨fd, F⟩ := c.def_ 35; exact ⟨fd, by rw [show (gOf K).fa "times_in" = He.fAd K ("times_in", none) from congrArg (He.fAd K) fk_times_in]; exact F⟩
    d_read_orders := by obtain ⟨fd, F⟩ := c.def_ 36; exact ⟨fd, by rw [show (gOf K).fa "read_orders" = He.fAd K ("read_orders", none) from congrArg (He.fAd K) fk_read_orders]; exact F⟩
    d_Run___init__ := by obtain ⟨fd, F⟩ := c.def_ 37; exact ⟨fd, by rw [show (gOf K).fa "Run.__init__" = He.fAd K ("Run", some "__init__") from congrArg (He.fAd K) fk_Run___init__]; exact F⟩
    d_Run_put := by obtain ⟨fd, F⟩ := c.def_ 38; exact ⟨fd, by rw [show (gOf K).fa "Run.put" = He.fAd K ("Run", some "put") from congrArg (He.fAd K) fk_Run_put]; exact F⟩
    d_Run_lead := by obtain ⟨fd, F⟩ := c.def_ 39; exact ⟨fd, by rw [show (gOf K).fa "Run.lead" = He.fAd K ("Run", some "lead") from congrArg (He.fAd K) fk_Run_lead]; exact F⟩
    d_Run_part_of := by obtain ⟨fd, F⟩ := c.def_ 40; exact ⟨fd, by rw [show (gOf K).fa "Run.part_of" = He.fAd K ("Run", some "part_of") from congrArg (He.fAd K) fk_Run_part_of]; exact F⟩
    d_Run_do := by obtain ⟨fd, F⟩ := c.def_ 41; exact ⟨fd, by rw [show (gOf K).fa "Run.do" = He.fAd K ("Run", some "do") from congrArg (He.fAd K) fk_Run_do]; exact F⟩
    d_run := by obtain ⟨fd, F⟩ := c.def_ 42; exact ⟨fd, by rw [show (gOf K).fa "run" = He.fAd K ("run", none) from congrArg (He.fAd K) fk_run]; exact F⟩
    d__law_deck := by obtain ⟨fd, F⟩ := c.def_ 43; exact ⟨fd, by rw [show (gOf K).fa "_law_deck" = He.fAd K ("_law_deck", none) from congrArg (He.fAd K) fk__law_deck]; exact F⟩
    d__law_pick := by obtain ⟨fd, F⟩ := c.def_ 44; exact ⟨fd, by rw [show (gOf K).fa "_law_pick" = He.fAd K ("_law_pick", none) from congrArg (He.fAd K) fk__law_pick]; exact F⟩
    d__law_divisor := by obtain ⟨fd, F⟩ := c.def_ 45; exact ⟨fd, by rw [show (gOf K).fa "_law_divisor" = He.fAd K ("_law_divisor", none) from congrArg (He.fAd K) fk__law_divisor]; exact F⟩
    d__law_f := by obtain ⟨fd, F⟩ := c.def_ 46; exact ⟨fd, by rw [show (gOf K).fa "_law_f" = He.fAd K ("_law_f", none) from congrArg (He.fAd K) fk__law_f]; exact F⟩
    d__law_add := by obtain ⟨fd, F⟩ := c.def_ 47; exact ⟨fd, by rw [show (gOf K).fa "_law_add" = He.fAd K ("_law_add", none) from congrArg (He.fAd K) fk__law_add]; exact F⟩
    d__law_sub := by obtain ⟨fd, F⟩ := c.def_ 48; exact ⟨fd, by rw [show (gOf K).fa "_law_sub" = He.fAd K ("_law_sub", none) from congrArg (He.fAd K) fk__law_sub]; exact F⟩
    d__law_mul := by obtain ⟨fd, F⟩ := c.def_ 49; exact ⟨fd, by rw [show (gOf K).fa "_law_mul" = He.fAd K ("_law_mul", none) from congrArg (He.fAd K) fk__law_mul]; exact F⟩
    d__law_div := by obtain ⟨fd, F⟩ := c.def_ 50; exact ⟨fd, by rw [show (gOf K).fa "_law_div" = He.fAd K ("_law_div", none) from congrArg (He.fAd K) fk__law_div]; exact F⟩
    d__law_less := by obtain ⟨fd, F⟩ := c.def_ 51; exact ⟨fd, by rw [show (gOf K).fa "_law_less" = He.fAd K ("_law_less", none) from congrArg (He.fAd K) fk__law_less]; exact F⟩
    d__law_loops := by obtain ⟨fd, F⟩ := c.def_ 52; exact ⟨fd, by rw [show (gOf K).fa "_law_loops" = He.fAd K ("_law_loops", none) from congrArg (He.fAd K) fk__law_loops]; exact F⟩
    d__law_within := by obtain ⟨fd, F⟩ := c.def_ 53; exact ⟨fd, by rw [show (gOf K).fa "_law_within" = He.fAd K ("_law_within", none) from congrArg (He.fAd K) fk__law_within]; exact F⟩
    d__law_many := by obtain ⟨fd, F⟩ := c.def_ 54; exact ⟨fd, by rw [show (gOf K).fa "_law_many" = He.fAd K ("_law_many", none) from congrArg (He.fAd K) fk__law_many]; exact F⟩
    d__law_told := by obtain ⟨fd, F⟩ := c.def_ 55; exact ⟨fd, by rw [show (gOf K).fa "_law_told" = He.fAd K ("_law_told", none) from congrArg (He.fAd K) fk__law_told]; exact F⟩
    d__law_is_counted := by obtain ⟨fd, F⟩ := c.def_ 56; exact ⟨fd, by rw [show (gOf K).fa "_law_is_counted" = He.fAd K ("_law_is_counted", none) from congrArg (He.fAd K) fk__law_is_counted]; exact F⟩
    d_law := by obtain ⟨fd, F⟩ := c.def_ 57; exact ⟨fd, by rw [show (gOf K).fa "law" = He.fAd K ("law", none) from congrArg (He.fAd K) fk_law]; exact F⟩
    d_BadStall___init__ := by obtain ⟨fd, F⟩ := c.def_ 58; exact ⟨fd, by rw [show (gOf K).fa "BadStall.__init__" = He.fAd K ("BadStall", some "__init__") from congrArg (He.fAd K) fk_BadStall___init__]; exact F⟩
    d_BadText___init__ := by obtain ⟨fd, F⟩ := c.def_ 59; exact ⟨fd, by rw [show (gOf K).fa "BadText.__init__" = He.fAd K ("BadText", some "__init__") from congrArg (He.fAd K) fk_BadText___init__]; exact F⟩
    d_TooMany___init__ := by obtain ⟨fd, F⟩ := c.def_ 60; exact ⟨fd, by rw [show (gOf K).fa "TooMany.__init__" = He.fAd K ("TooMany", some "__init__") from congrArg (He.fAd K) fk_TooMany___init__]; exact F⟩
    f_is_integer := kGlo_ok X G (ck 22 (by rfl))
    f_common := kGlo_ok X G (ck 23 (by rfl))
    me_Exact___add__ := kMeth_ok (ck 24 (by rfl))
    me_Exact___sub__ := kMeth_ok (ck 25 (by rfl))
    me_Exact___mul__ := kMeth_ok (ck 26 (by rfl))
    me_Exact___eq__ := kMeth_ok (ck 27 (by rfl))
    me_Exact_over := kMeth_ok (ck 28 (by rfl))
    me_Exact_sign := kMeth_ok (ck 29 (by rfl))
    me_Exact_is_less := kMeth_ok (ck 30 (by rfl))
    me_Exact_square := kMeth_ok (ck 31 (by rfl))
    me_Exact_pair := kMeth_ok (ck 32 (by rfl))
    f_exact := kGlo_ok X G (ck 33 (by rfl))
    f_is_fraction := kGlo_ok X G (ck 34 (by rfl))
    f_is_amount := kGlo_ok X G (ck 35 (by rfl))
    f_is_some := kGlo_ok X G (ck 36 (by rfl))
    f_is_ware_below := kGlo_ok X G (ck 37 (by rfl))
    f_is_stall := kGlo_ok X G (ck 38 (by rfl))
    me_Web___eq__ := kMeth_ok (ck 39 (by rfl))
    f_is_amounts := kGlo_ok X G (ck 40 (by rfl))
    f_check_purse := kGlo_ok X G (ck 41 (by rfl))
    f_other_ware := kGlo_ok X G (ck 42 (by rfl))
    f_held_of := kGlo_ok X G (ck 43 (by rfl))
    f_root_exact := kGlo_ok X G (ck 44 (by rfl))
    f_is_index := kGlo_ok X G (ck 45 (by rfl))
    f_with_held := kGlo_ok X G (ck 46 (by rfl))
    f_with_stall := kGlo_ok X G (ck 47 (by rfl))
    f_behind_move := kGlo_ok X G (ck 48 (by rfl))
    f_number_in := kGlo_ok X G (ck 49 (by rfl))
    f_amount_in := kGlo_ok X G (ck 50 (by rfl))
    f_some_in := kGlo_ok X G (ck 51 (by rfl))
    f_stall_in := kGlo_ok X G (ck 52 (by rfl))
    f_ware_and_stall := kGlo_ok X G (ck 53 (by rfl))
    f_deed_in := kGlo_ok X G (ck 54 (by rfl))
    f_times_in := kGlo_ok X G (ck 55 (by rfl))
    f_read_orders := kGlo_ok X G (ck 56 (by rfl))
    me_Run_put := kMeth_ok (ck 57 (by rfl))
    me_Run_lead := kMeth_ok (ck 58 (by rfl))
    me_Run_part_of := kMeth_ok (ck 59 (by rfl))
    me_Run_do := kMeth_ok (ck 60 (by rfl))
    f_run := kGlo_ok X G (ck 61 (by rfl))
    f__law_deck := kGlo_ok X G (ck 62 (by rfl))
    f__law_pick := kGlo_ok X G (ck 63 (by rfl))
    f__law_divisor := kGlo_ok X G (ck 64 (by rfl))
    f__law_f := kGlo_ok X G (ck 65 (by rfl))
    f__law_add := kGlo_ok X G (ck 66 (by rfl))
    f__law_sub := kGlo_ok X G (ck 67 (by rfl))
    f__law_mul := kGlo_ok X G (ck 68 (by rfl))
    f__law_div := kGlo_ok X G (ck 69 (by rfl))
    f__law_less := kGlo_ok X G (ck 70 (by rfl))
    f__law_loops := kGlo_ok X G (ck 71 (by rfl))
    f__law_within := kGlo_ok X G (ck 72 (by rfl))
    f__law_many := kGlo_ok X G (ck 73 (by rfl))
    f__law_told := kGlo_ok X G (ck 74 (by rfl))
    f__law_is_counted := kGlo_ok X G (ck 75 (by rfl))
    f_law := kGlo_ok X G (ck 76 (by rfl))
    c_Exact := kGlo_ok X G (ck 77 (by rfl))
    cl_Exact := kCls_ok (ck 78 (by rfl))
    mk_Exact := kMk_ok (ck 79 (by rfl))
    sf_Exact := (ck 80 (by rfl))
    nf_Exact := (ck 81 (by rfl))
    op_Exact__add__ := kFind_ok (ck 82 (by rfl))
    fn_Exact__add__ := (ck 83 (by rfl))
    op_Exact__sub__ := kFind_ok (ck 84 (by rfl))
    fn_Exact__sub__ := (ck 85 (by rfl))
    op_Exact__mul__ := kFind_ok (ck 86 (by rfl))
    fn_Exact__mul__ := (ck 87 (by rfl))
    op_Exact__eq__ := kFind_ok (ck 88 (by rfl))
    fn_Exact__eq__ := (ck 89 (by rfl))
    c_Web := kGlo_ok X G (ck 90 (by rfl))
    cl_Web := kCls_ok (ck 91 (by rfl))
    mk_Web := kMk_ok (ck 92 (by rfl))
    nf_Web := (ck 93 (by rfl))
    op_Web__eq__ := kFind_ok (ck 94 (by rfl))
    fn_Web__eq__ := (ck 95 (by rfl))
    c_Run := kGlo_ok X G (ck 96 (by rfl))
    cl_Run := kCls_ok (ck 97 (by rfl))
    mk_Run := kMk_ok (ck 98 (by rfl))
    hg := rfl
    eo := kErr_ok (ck 99 (by rfl))
    ki_StallError := kKit_ok (ck 100 (by rfl))
    em_StallError := kExm_ok (ck 101 (by rfl))
    ki_TooMany := kKit_ok (ck 102 (by rfl))
    em_TooMany := kExm_ok (ck 103 (by rfl))
    c_BadPurse := kGlo_ok X G (ck 104 (by rfl))
    xc_BadPurse := kExc_ok (g := gOf K) (ck 105 (by rfl))
    c_BadStall := kGlo_ok X G (ck 106 (by rfl))
    xc_BadStall := ⟨of_decide_eq_true (ck 111 (by rfl)), kOex_ok (ck 107 (by rfl)), kFind_ok (ck 108 (by rfl)), kFind_ok (ck 109 (by rfl)), of_decide_eq_true (ck 110 (by rfl))⟩
    c_BadText := kGlo_ok X G (ck 112 (by rfl))
    xc_BadText := ⟨of_decide_eq_true (ck 117 (by rfl)), kOex_ok (ck 113 (by rfl)), kFind_ok (ck 114 (by rfl)), kFind_ok (ck 115 (by rfl)), of_decide_eq_true (ck 116 (by rfl))⟩
    c_BadWares := kGlo_ok X G (ck 118 (by rfl))
    xc_BadWares := kExc_ok (g := gOf K) (ck 119 (by rfl))
    c_StallError := kGlo_ok X G (ck 120 (by rfl))
    xc_StallError := kExc_ok (g := gOf K) (ck 121 (by rfl))
    c_TooMany := kGlo_ok X G (ck 122 (by rfl))
    xc_TooMany := ⟨of_decide_eq_true (ck 127 (by rfl)), kOex_ok (ck 123 (by rfl)), kFind_ok (ck 124 (by rfl)), kFind_ok (ck 125 (by rfl)), of_decide_eq_true (ck 126 (by rfl))⟩
    k_Exact := kIsi_ok (ck 128 (by rfl)) (ck 129 (by rfl)) (fun c h => by show (if c ∈ clsAll then _ else none) = none; exact if_neg h)
    k_Web := kIsi_ok (ck 128 (by rfl)) (ck 130 (by rfl)) (fun c h => by show (if c ∈ clsAll then _ else none) = none; exact if_neg h)
    k_bool := kIsi_ok (ck 128 (by rfl)) (ck 131 (by rfl)) (fun c h => by show (if c ∈ clsAll then _ else none) = none; exact if_neg h)
    k_int := kIsi_ok (ck 128 (by rfl)) (ck 132 (by rfl)) (fun c h => by show (if c ∈ clsAll then _ else none) = none; exact if_neg h)
    k_list_tuple := kIsi2_ok (ck 128 (by rfl)) (ck 133 (by rfl)) (fun c h => by show (if c ∈ clsAll then _ else none) = none; exact if_neg h)
    k_str := kIsi_ok (ck 128 (by rfl)) (ck 134 (by rfl)) (fun c h => by show (if c ∈ clsAll then _ else none) = none; exact if_neg h)
    k_tuple := kIsi_ok (ck 128 (by rfl)) (ck 135 (by rfl)) (fun c h => by show (if c ∈ clsAll then _ else none) = none; exact if_neg h) }
def loose : List PySem.Str := (["StallError", "BadWares", "BadStall", "BadPurse", "BadText", "TooMany", "is_integer", "common", "Exact", "exact", "is_fraction", "is_amount", "is_some", "MOST_WARES", "MOST_STALLS", "is_ware_below", "is_stall", "Web", "is_amounts", "check_purse"] : List PySem.Str) ++ (["other_ware", "held_of", "root_exact", "is_index", "with_held", "with_stall", "behind_move", "DIGITS", "MOST_DIGITS", "MOST_NUMBER", "MOST_TIMES", "MOST_DEPTH", "MOST_MOVES", "number_in", "amount_in", "some_in", "stall_in", "ware_and_stall", "deed_in", "times_in"] : List PySem.Str) ++ (["read_orders", "Run", "run", "_law_deck", "_law_pick", "_law_divisor", "_law_f", "_law_add", "_law_sub", "_law_mul", "_law_div", "_law_less", "_law_loops", "_law_within", "_law_many", "_law_told", "_law_is_counted"] : List PySem.Str)
abbrev hk : PySem.W.Hook := hookC 5 chk fn
def ob (s : PySem.W.SharedT) : He.AlD := obsCG 5 chk fn (HandSHeadRun.getT s)
theorem ob_eq (s : PySem.W.SharedT) : ob s = hk.obs s.abs := obsCG_eq (HandSHeadRun.getT_eq s)
def lawI : Nat := 64
theorem run (w : World) : HandSHeadRun.RunEq RR (PySem.W.view RR.prog [64]) hk ob 20000 loose w := by
  intro os
  kernel_rfl
theorem law_at {w : World} {K : PySem.W.Frag} {h : Heap} {mg : Str → Option Value} {f : Addr} (X : K.In h) (G : h.Ns mainGlobals mg) (hfa : mg ("law" : Str) = some (.ref f)) (c : SaysC chk fn K) :
    ∃ fd : FuncData, (∀ (s : Shared) (v : Value), BindsTo s fd ⟨[v], []⟩ [("_law_script", v)]) ∧ ∀ base : Heap, K.In base → base.Ns mainGlobals mg → FnOk P w K mg base CX0 95 f fd ["_law_script"] (fun vs H Q _ => spM (gOf K) 1 .S m_law vs H Q fun _ _ _ => False) := by
  have C0 : Facts ⟨P, w, mg, h⟩ (gOf K) := facts X G c
  have e := hfa.symm.trans C0.f_law
  cases e
  obtain ⟨fd, F⟩ := C0.d_law
  have b := FunD.bindsA (ps := ["_law_script"]) F fun _ _ _ _ _ _ us hl => match us, hl with | [_], _ => rfl
  exact ⟨fd, fun s v => b s [v] rfl, fun base hK hN => fnQuiet (ok_law (o := ⟨P, w, mg, base⟩) (facts hK hN c) F)⟩
end G
open PySem PySem.W PySem.Calls PyProof.Rows
theorem G.holds (hLaw : DL.Law G.m_law) : PySem.Challenge.rw_rootstalls_k72_whole_loops_of_orders.Holds := by
  w_on; o_law
  refine HandSHeadRun.head_any (r := OpenLaw.row PySem.Challenge.rw_rootstalls_k72_whole_loops_of_orders) (q := view (OpenLaw.row PySem.Challenge.rw_rootstalls_k72_whole_loops_of_orders).prog [64]) (H := G.hk) (ob := G.ob) (M := 20000) (loose := G.loose) (d := HandSHeadRun.topDef (OpenLaw.row PySem.Challenge.rw_rootstalls_k72_whole_loops_of_orders).prog 64) (kwd := []) G.ob_eq
    (by kernel_rfl) (fun s => by kernel_rfl) G.run (by kernel_rfl) (by kernel_rfl) (by kernel_rfl) (by rfl) (by first | assumption | decide +kernel) (by decide +kernel) ⟨rfl, rfl, rfl, rfl, rfl, by decide +kernel⟩ ?hw ?hc
  case hw => w_witness2
  case hc =>
    refine L2.walk_ofE (l := PySem.Challenge.rw_rootstalls_k72_whole_loops_of_orders) (n := 63) (k := 95) (x := "_law_script") (CX := L2.CX0) rfl (by decide) (by kernel_rfl) ⟨rfl, by decide, by decide⟩ ?F (fun _ _ _ _ z => z)
    intro w mg fa h Y G0 hmg0
    obtain ⟨K, KX, c⟩ := Y
    have hmg : mg ("law" : PySem.Str) = some (.ref fa) := by
      have e : (HandSHeadRun.topDef (OpenLaw.row PySem.Challenge.rw_rootstalls_k72_whole_loops_of_orders).prog 64).name = ("law" : PySem.Str) := by kernel_rfl
      rw [← e]
      exact hmg0
    obtain ⟨fd, hb, hF⟩ := G.law_at KX G0 hmg c
    exact ⟨K, fd, fun vs H Q _ => DL.spM (G.gOf K) 1 .S G.m_law vs H Q fun _ _ _ => False, KX, hb, fun H a ns hl hO hS => hLaw.sp (g := G.gOf K) hl hO hS, hF⟩
set_option maxRecDepth 100000 in
set_option maxHeartbeats 0 in
theorem PySem.Challenge.cw_rootstalls_k72_whole_loops_of_orders_holds : PySem.Challenge.rw_rootstalls_k72_whole_loops_of_orders.Holds := by
  exact G.holds G.law72
