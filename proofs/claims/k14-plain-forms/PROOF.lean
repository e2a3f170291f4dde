import PyProof.Rows.All
import HandS.ForMost
import HandS.ForExc
import HandS.Flow
import HandS.TupAny
import HandS.IsInst
import HandS.Style
import HandS.SetBool
import HandS.SetKeys
import HandS.Zip
import HandS.More
import HandS.Defaults
import HandS.Codes
import HandS.Head0
import HandS.Head1
import HandS.Head2
import HandS.HeadEnd
import HandS.HeadHook1
import HandS.HeadHook2
import HandS.HeadHook3
import HandS.HeadHook4
import PySem.Challenge.RW_scopeshelf_k14_plain_forms
set_option Elab.async false
set_option linter.all false
set_option maxRecDepth 100000
set_option maxHeartbeats 0
namespace Sc
open PySem PySem.Spec PyProof.Rows L2

abbrev D := PyData
abbrev St := L2.St

/-- a value of the small machine: data; a live object; the script -/
inductive W where
  | d (x : D)
  | o (n : Nat)
  | s (ns : List Int)
  | k (kvs : List (Key × D))
/-- what an expression gives: a value, or a new list or dict that nothing else holds -/
inductive R where
  | w (x : W)
  | n (xs : List D)
  | nk (kvs : List (Key × D))
/-- a live object: a list, a dict, an instance -/
inductive MO where
  | lst (xs : List D)
  | dic (kvs : List (Key × D))
  | ins (c : Str) (fs : List (Str × W))
  | dead

/-- a text that a value may hold -/
def sok (x : Str) : Bool := decide (x.length ≤ sizeLine) && PyData.strOk x
theorem sok_len {x : Str} (h : sok x = true) : x.length ≤ sizeLine := of_decide_eq_true (Bool.and_eq_true_iff.mp h).1
theorem sok_ok {x : Str} (h : sok x = true) : PyData.strOk x = true := (Bool.and_eq_true_iff.mp h).2
/-! ### how data lie in an abstract heap -/
mutual
inductive Rp (K : PySem.W.Frag) (F : Hp) : V → D → Prop
  | non : Rp K F .non .none
  | bl (b : Bool) : Rp K F (.bl b) (.bool b)
  | int (i : Int) : Rp K F (.int i) (.int i)
  | str (x : Str) (h : sok x = true) : Rp K F (.str x) (.str x)
  | lst {a : Addr} {xs : List V} {ds : List D} : F a = some (.lst xs) → RpAll K F xs ds → Rp K F (.ref a) (.list ds)
  | tup {a : Addr} {xs : List V} {ds : List D} : SqT K F a xs → RpAll K F xs ds → Rp K F (.ref a) (.tuple ds)
inductive RpAll (K : PySem.W.Frag) (F : Hp) : List V → List D → Prop
  | nil : RpAll K F [] []
  | cons {v : V} {vs : List V} {d : D} {ds : List D} : Rp K F v d → RpAll K F vs ds → RpAll K F (v :: vs) (d :: ds)
end

def Sub (F H : Hp) : Prop := ∀ a o, F a = some o → H a = some o
theorem Sub.refl (F : Hp) : Sub F F := fun _ _ h => h
theorem Sub.trans {F G H : Hp} (a : Sub F G) (b : Sub G H) : Sub F H := fun x o h => b x o (a x o h)
theorem Sub.upd {F : Hp} {p : Addr} {o : HO} (h : F p = none) : Sub F (upd F p o) := fun a u e => by
  rw [upd_ne (ne_of_none e h)]; exact e
theorem Sub.none {F H : Hp} (s : Sub F H) {p : Addr} (h : H p = none) : F p = none := by
  cases e : F p with
  | none => rfl
  | some o => rw [s p o e] at h; cases h
theorem Sub.rd {F H : Hp} (s : Sub F H) {a : Addr} {u : HO} (h : Rd F a u) : Rd H a u := by
  rcases h with h | ⟨o, h⟩
  · exact .inl (s a _ h)
  · exact .inr ⟨o, s a _ h⟩
theorem Sub.sqT {K : PySem.W.Frag} {F H : Hp} (s : Sub F H) {a : Addr} {xs : List V} (h : SqT K F a xs) : SqT K H a xs := h.imp s.rd id
theorem Sub.sqL {K : PySem.W.Frag} {F H : Hp} (s : Sub F H) {a : Addr} {xs : List V} (h : SqL K F a xs) : SqL K H a xs := h.imp s.rd id

section
variable {K : PySem.W.Frag} {F G : Hp}
mutual
theorem Rp.mono (s : Sub F G) : ∀ {d : D} {v : V}, Rp K F v d → Rp K G v d
  | _, _, .non => .non
  | _, _, .bl b => .bl b
  | _, _, .int i => .int i
  | _, _, .str x h => .str x h
  | _, _, .lst h r => .lst (s _ _ h) (RpAll.mono s r)
  | _, _, .tup h r => .tup (s.sqT h) (RpAll.mono s r)
theorem RpAll.mono (s : Sub F G) : ∀ {ds : List D} {vs : List V}, RpAll K F vs ds → RpAll K G vs ds
  | _, _, .nil => .nil
  | _, _, .cons h r => .cons (Rp.mono s h) (RpAll.mono s r)
end
mutual
theorem Rp.dp : ∀ {d : D} {v : V}, Rp K F v d → Dp K F v d
  | _, _, .non => .non
  | _, _, .bl b => .bl b
  | _, _, .int i => .int i
  | _, _, .str x h => .str x
  | _, _, .lst h r => .lst (SqL.of h) (RpAll.dp r)
  | _, _, .tup h r => .tup h (RpAll.dp r)
theorem RpAll.dp : ∀ {ds : List D} {vs : List V}, RpAll K F vs ds → DpAll K F vs ds
  | _, _, .nil => .nil
  | _, _, .cons h r => .cons (Rp.dp h) (RpAll.dp r)
end
mutual
theorem Rp.lay : ∀ {d : D} {v : V}, Rp K F v d → d.canLay0 = true
  | _, _, .non => rfl
  | _, _, .bl b => rfl
  | _, _, .int i => rfl
  | _, _, .str x h => sok_ok h
  | _, _, .lst h r => RpAll.lay r
  | _, _, .tup h r => RpAll.lay r
theorem RpAll.lay : ∀ {ds : List D} {vs : List V}, RpAll K F vs ds → PyData.canLayAll0 ds = true
  | _, _, .nil => rfl
  | _, _, .cons h r => by unfold PyData.canLayAll0; rw [Rp.lay h, RpAll.lay r]; rfl
end
theorem RpAll.length : ∀ {vs : List V} {ds : List D}, RpAll K F vs ds → vs.length = ds.length
  | _, _, .nil => rfl
  | _, _, .cons _ r => congrArg (· + 1) r.length
theorem RpAll.append : ∀ {vs : List V} {ds : List D} {us : List V} {es : List D}, RpAll K F vs ds → RpAll K F us es → RpAll K F (vs ++ us) (ds ++ es)
  | _, _, _, _, .nil, s => s
  | _, _, _, _, .cons h r, s => .cons h (r.append s)
theorem RpAll.get : ∀ {vs : List V} {ds : List D} {i : Nat} {d : D}, RpAll K F vs ds → ds[i]? = some d → ∃ v, vs[i]? = some v ∧ Rp K F v d
  | _, _, _, _, .nil, e => by simp at e
  | _, _, 0, _, .cons h _, e => by simp at e; subst e; exact ⟨_, rfl, h⟩
  | _, _, i + 1, d, .cons _ r, e => by
    obtain ⟨v, h1, h2⟩ := RpAll.get (i := i) (d := d) r (by simpa using e)
    exact ⟨v, by simpa using h1, h2⟩
theorem RpAll.get' : ∀ {vs : List V} {ds : List D} {i : Nat} {v : V}, RpAll K F vs ds → vs[i]? = some v → ∃ d, ds[i]? = some d ∧ Rp K F v d
  | _, _, _, _, .nil, e => by simp at e
  | _, _, 0, _, .cons h _, e => by simp at e; subst e; exact ⟨_, rfl, h⟩
  | _, _, i + 1, d, .cons _ r, e => by
    obtain ⟨v, h1, h2⟩ := RpAll.get' (i := i) (v := d) r (by simpa using e)
    exact ⟨v, by simpa using h1, h2⟩
theorem RpAll.take : ∀ {vs : List V} {ds : List D} (n : Nat), RpAll K F vs ds → RpAll K F (vs.take n) (ds.take n)
  | _, _, 0, _ => .nil
  | _, _, _ + 1, .nil => .nil
  | _, _, n + 1, .cons h r => .cons h (r.take n)
theorem RpAll.drop : ∀ {vs : List V} {ds : List D} (n : Nat), RpAll K F vs ds → RpAll K F (vs.drop n) (ds.drop n)
  | _, _, 0, r => r
  | _, _, _ + 1, .nil => .nil
  | _, _, n + 1, .cons _ r => RpAll.drop n r
theorem RpAll.set {v : V} {d : D} (h : Rp K F v d) : ∀ {vs : List V} {ds : List D} (n : Nat), RpAll K F vs ds → RpAll K F (vs.set n v) (ds.set n d)
  | _, _, _, .nil => .nil
  | _, _, 0, .cons _ r => .cons h r
  | _, _, n + 1, .cons q r => .cons q (r.set h n)
theorem RpAll.dropLast {vs : List V} {ds : List D} (r : RpAll K F vs ds) : RpAll K F vs.dropLast ds.dropLast := by
  rw [List.dropLast_eq_take, List.dropLast_eq_take, r.length]; exact r.take _
theorem RpAll.reverse : ∀ {vs : List V} {ds : List D}, RpAll K F vs ds → RpAll K F vs.reverse ds.reverse
  | _, _, .nil => .nil
  | _, _, .cons h r => by
    rw [List.reverse_cons, List.reverse_cons]
    exact r.reverse.append (.cons h .nil)
theorem RpAll.ints : ∀ (ns : List Int), RpAll K F (ns.map V.int) (ns.map PyData.int)
  | [] => .nil
  | i :: r => .cons (.int i) (RpAll.ints r)
end

/-- a dict's pairs -/
inductive RpKV (K : PySem.W.Frag) (F : Hp) : List (Key × V) → List (Key × D) → Prop
  | nil : RpKV K F [] []
  | cons {k : Key} {v : V} {d : D} {vs : List (Key × V)} {ds : List (Key × D)} : Rp K F v d → RpKV K F vs ds → RpKV K F ((k, v) :: vs) ((k, d) :: ds)
theorem RpKV.mono {K : PySem.W.Frag} {F G : Hp} (s : Sub F G) : ∀ {vs : List (Key × V)} {ds : List (Key × D)}, RpKV K F vs ds → RpKV K G vs ds
  | _, _, .nil => .nil
  | _, _, .cons h r => .cons (h.mono s) (r.mono s)
theorem RpKV.length {K : PySem.W.Frag} {F : Hp} : ∀ {vs : List (Key × V)} {ds : List (Key × D)}, RpKV K F vs ds → vs.length = ds.length
  | _, _, .nil => rfl
  | _, _, .cons _ r => congrArg (· + 1) r.length

/-! ### live objects -/
/-- what is live, by number; what is held privately meanwhile (a comprehension's own list) -/
structure Lv where
  l : List (Option Addr)
  p : Hp
def Lv.push (L : Lv) (a : Addr) : Lv := ⟨L.l ++ [some a], L.p⟩
def Lv.drop (L : Lv) (n : Nat) : Lv := ⟨L.l.set n none, L.p⟩
def Lv.take (L : Lv) (n : Nat) : Lv := ⟨L.l.take n, L.p⟩
/-- neither frozen, nor live, nor private -/
def Fre (F : Hp) (L : Lv) (a : Addr) : Prop := F a = none ∧ (∀ i : Nat, L.l[i]? ≠ some (some a)) ∧ L.p a = none
abbrev Sto := List MO
def RepW (K : PySem.W.Frag) (F : Hp) (L : Lv) (v : V) : W → Prop
  | .d x => Rp K F v x
  | .o n => ∃ a, L.l[n]? = some (some a) ∧ v = .ref a
  | .s ns => ∃ a, v = .ref a ∧ SqL K F a (ns.map V.int)
  | .k kvs => ∃ a vs, v = .ref a ∧ F a = some (.dK vs) ∧ RpKV K F vs kvs
def RepR (K : PySem.W.Frag) (F : Hp) (L : Lv) (H : Hp) (v : V) : R → Prop
  | .w x => RepW K F L v x
  | .n xs => ∃ a vs, v = .ref a ∧ H a = some (.lst vs) ∧ Fre F L a ∧ RpAll K F vs xs
  | .nk kvs => ∃ a vs, v = .ref a ∧ H a = some (.dK vs) ∧ Fre F L a ∧ RpKV K F vs kvs
/-- later: more is frozen, more is live -/
structure Ext (F : Hp) (L : Lv) (F' : Hp) (L' : Lv) : Prop where
  f : Sub F F'
  l : ∀ (n : Nat) (x : Option Addr), L.l[n]? = some x → L'.l[n]? = some x
  p : L'.p = L.p
theorem Ext.refl (F : Hp) (L : Lv) : Ext F L F L := ⟨Sub.refl F, fun _ _ h => h, rfl⟩
theorem Ext.trans {F F' F'' : Hp} {L L' L'' : Lv} (a : Ext F L F' L') (b : Ext F' L' F'' L'') : Ext F L F'' L'' := ⟨a.f.trans b.f, fun n x h => b.l n x (a.l n x h), b.p.trans a.p⟩
theorem RepW.mono' {K : PySem.W.Frag} {F F' : Hp} {L L' : Lv} {v : V} (f : Sub F F') : ∀ {x : W}, (∀ n, x = .o n → ∀ a, L.l[n]? = some (some a) → L'.l[n]? = some (some a)) → RepW K F L v x → RepW K F' L' v x
  | .d _, _, h => Rp.mono f h
  | .o _, l, ⟨a, h, q⟩ => ⟨a, l _ rfl _ h, q⟩
  | .s _, _, ⟨a, q, h⟩ => ⟨a, q, f.sqL h⟩
  | .k _, _, ⟨a, vs, q, h, r⟩ => ⟨a, vs, q, f _ _ h, r.mono f⟩
theorem RepW.mono {K : PySem.W.Frag} {F F' : Hp} {L L' : Lv} {v : V} (e : Ext F L F' L') {x : W} (h : RepW K F L v x) : RepW K F' L' v x := h.mono' e.f fun _ _ _ q => e.l _ _ q
inductive RepWs (K : PySem.W.Frag) (F : Hp) (L : Lv) : List V → List W → Prop
  | nil : RepWs K F L [] []
  | cons {v vs x xs} : RepW K F L v x → RepWs K F L vs xs → RepWs K F L (v :: vs) (x :: xs)
theorem RepWs.mono {K : PySem.W.Frag} {F F' : Hp} {L L' : Lv} (e : Ext F L F' L') : ∀ {vs : List V} {xs : List W}, RepWs K F L vs xs → RepWs K F' L' vs xs
  | _, _, .nil => .nil
  | _, _, .cons h r => .cons (h.mono e) (r.mono e)
theorem RepWs.length {K : PySem.W.Frag} {F : Hp} {L : Lv} : ∀ {vs : List V} {xs : List W}, RepWs K F L vs xs → vs.length = xs.length
  | _, _, .nil => rfl
  | _, _, .cons _ r => congrArg (· + 1) r.length
/-- an instance's fields -/
inductive RpF (K : PySem.W.Frag) (F : Hp) (L : Lv) : List (Str × V) → List (Str × W) → Prop
  | nil : RpF K F L [] []
  | cons {x : Str} {v : V} {w : W} {vs : List (Str × V)} {ws : List (Str × W)} : RepW K F L v w → RpF K F L vs ws → RpF K F L ((x, v) :: vs) ((x, w) :: ws)
theorem RpF.mono' {K : PySem.W.Frag} {F F' : Hp} {L L' : Lv} (f : Sub F F') : ∀ {vs : List (Str × V)} {ws : List (Str × W)}, (∀ q ∈ ws, ∀ n, q.2 = .o n → ∀ a, L.l[n]? = some (some a) → L'.l[n]? = some (some a)) → RpF K F L vs ws → RpF K F' L' vs ws
  | _, _, _, .nil => .nil
  | _, _, l, .cons h r => .cons (h.mono' f fun n e a q => l _ List.mem_cons_self n e a q) (r.mono' f fun q hq => l q (List.mem_cons_of_mem _ hq))
theorem RpF.refs {K : PySem.W.Frag} {F : Hp} {L : Lv} : ∀ {vs : List (Str × V)} {ws : List (Str × W)}, RpF K F L vs ws → ∀ q ∈ ws, ∀ n, q.2 = .o n → n < L.l.length
  | _, _, .cons h r, q, hq, n, e => by
    rcases List.mem_cons.mp hq with rfl | hq
    · have e : _ = W.o n := e
      subst e
      obtain ⟨a, ha, _⟩ := h
      exact (List.getElem?_eq_some_iff.mp ha).1
    · exact r.refs q hq n e

abbrev ClA := Str → Addr
def MoR (K : PySem.W.Frag) (cl : ClA) (F : Hp) (L : Lv) (H : Hp) (oa : Option Addr) : MO → Prop
  | .lst xs => ∃ a vs, oa = some a ∧ H a = some (.lst vs) ∧ RpAll K F vs xs
  | .dic kvs => ∃ a vs, oa = some a ∧ H a = some (.dK vs) ∧ RpKV K F vs kvs
  | .ins c fs => ∃ a dx vs, oa = some a ∧ H a = some (.ins (cl c) dx vs) ∧ RpF K F L vs fs
  | .dead => oa = none
structure Sim (K : PySem.W.Frag) (cl : ClA) (F : Hp) (L : Lv) (H : Hp) (S : Sto) : Prop where
  sub : Sub F H
  pr : ∀ a o, L.p a = some o → H a = some o ∧ F a = none ∧ ∀ i : Nat, L.l[i]? ≠ some (some a)
  nd : ∀ (i j : Nat) (a : Addr), L.l[i]? = some (some a) → L.l[j]? = some (some a) → i = j
  nf : ∀ (i : Nat) (a : Addr), L.l[i]? = some (some a) → F a = none
  len : L.l.length = S.length
  objs : ∀ (n : Nat) (oa : Option Addr) (mo : MO), L.l[n]? = some oa → S[n]? = some mo → MoR K cl F L H oa mo

/-- the slots -/
abbrev Ev := List (Option W)
def SimE (K : PySem.W.Frag) (F : Hp) (L : Lv) (σ : St) (e : Ev) : Prop :=
  σ.length = e.length ∧ ∀ (i : Nat) (w : W), e[i]? = some (some w) → ∃ v, σ[i]? = some (some v) ∧ RepW K F L v w
theorem SimE.mono {K : PySem.W.Frag} {F F' : Hp} {L L' : Lv} {σ : St} {e : Ev} (x : Ext F L F' L') (h : SimE K F L σ e) : SimE K F' L' σ e :=
  ⟨h.1, fun i w q => let ⟨v, a, b⟩ := h.2 i w q; ⟨v, a, b.mono x⟩⟩
theorem SimE.set {K : PySem.W.Frag} {F : Hp} {L : Lv} {σ : St} {e : Ev} (h : SimE K F L σ e) (i : Nat) {v : V} {w : W} (r : RepW K F L v w) : SimE K F L (σ.set i (some v)) (e.set i (some w)) := by
  refine ⟨by simp [h.1], fun j w' q => ?_⟩
  by_cases hj : i = j
  · subst hj
    by_cases hl : i < e.length
    · rw [List.getElem?_set_self hl] at q
      cases q
      exact ⟨v, List.getElem?_set_self (by rw [h.1]; exact hl), r⟩
    · rw [List.getElem?_eq_none (by simpa using hl)] at q; cases q
  · rw [List.getElem?_set_ne hj] at q
    obtain ⟨v', a, b⟩ := h.2 j w' q
    exact ⟨v', by rw [List.getElem?_set_ne hj]; exact a, b⟩

section
variable {K : PySem.W.Frag} {cl : ClA} {F : Hp} {L : Lv} {H : Hp} {S : Sto}
theorem MoR.there {oa : Option Addr} {a : Addr} : ∀ {mo : MO}, MoR K cl F L H oa mo → oa = some a → ∃ o, H a = some o
  | .lst _, ⟨b, _, e, h, _⟩, e2 => by rw [e] at e2; cases e2; exact ⟨_, h⟩
  | .dic _, ⟨b, _, e, h, _⟩, e2 => by rw [e] at e2; cases e2; exact ⟨_, h⟩
  | .ins _ _, ⟨b, _, _, e, h, _⟩, e2 => by rw [e] at e2; cases e2; exact ⟨_, h⟩
  | .dead, h, e2 => by rw [show oa = none from h] at e2; cases e2
theorem Sim.mo (s : Sim K cl F L H S) {i : Nat} {oa : Option Addr} (h : L.l[i]? = some oa) : ∃ mo, S[i]? = some mo ∧ MoR K cl F L H oa mo := by
  have hi : i < S.length := by rw [← s.len]; exact (List.getElem?_eq_some_iff.mp h).1
  exact ⟨S[i], List.getElem?_eq_getElem hi, s.objs i _ _ h (List.getElem?_eq_getElem hi)⟩
theorem Sim.there (s : Sim K cl F L H S) {i : Nat} {a : Addr} (h : L.l[i]? = some (some a)) : ∃ o, H a = some o :=
  let ⟨_, _, q⟩ := s.mo h
  q.there rfl
theorem Sim.fresh (s : Sim K cl F L H S) {p : Addr} (h : H p = none) : Fre F L p :=
  ⟨s.sub.none h, fun i e => (by obtain ⟨o, q⟩ := s.there e; rw [q] at h; cases h), by
    cases e : L.p p with
    | none => rfl
    | some o => rw [(s.pr p o e).1] at h; cases h⟩
theorem MoR.mono {F' : Hp} {L' : Lv} {H' : Hp} (hf : Sub F F') : ∀ {mo : MO} {oa : Option Addr}, (∀ a o, oa = some a → H a = some o → H' a = some o) → (∀ c fs, mo = .ins c fs → ∀ q ∈ fs, ∀ n, q.2 = .o n → ∀ a, L.l[n]? = some (some a) → L'.l[n]? = some (some a)) → MoR K cl F L H oa mo → MoR K cl F' L' H' oa mo
  | .lst _, _, k, _, ⟨a, vs, e, h, r⟩ => ⟨a, vs, e, k a _ e h, r.mono hf⟩
  | .dic _, _, k, _, ⟨a, vs, e, h, r⟩ => ⟨a, vs, e, k a _ e h, r.mono hf⟩
  | .ins c fs, _, k, l, ⟨a, dx, vs, e, h, r⟩ => ⟨a, dx, vs, e, k a _ e h, r.mono' hf (l c fs rfl)⟩
  | .dead, _, _, _, h => h
theorem MoR.mono1 {F' : Hp} {L' : Lv} {H' : Hp} (x : Ext F L F' L') {mo : MO} {oa : Option Addr} (k : ∀ a o, oa = some a → H a = some o → H' a = some o) (h : MoR K cl F L H oa mo) : MoR K cl F' L' H' oa mo := h.mono x.f k fun _ _ _ _ _ _ _ _ q => x.l _ _ q
/-- a new object is laid and frozen -/
theorem Sim.newF (s : Sim K cl F L H S) {p : Addr} {o : HO} (h : H p = none) : Sim K cl (upd F p o) L (upd H p o) S ∧ Ext F L (upd F p o) L := by
  obtain ⟨f1, f2, f3⟩ := s.fresh h
  have x : Ext F L (upd F p o) L := ⟨Sub.upd f1, fun _ _ q => q, rfl⟩
  refine ⟨⟨fun a u e => ?_, fun a u e => ?_, s.nd, fun i a e => ?_, s.len, fun n oa mo h1 h2 => ?_⟩, x⟩
  · by_cases ha : a = p
    · subst ha; rw [upd_same] at e ⊢; exact e
    · rw [upd_ne ha] at e ⊢; exact s.sub a u e
  · have ha : a ≠ p := fun z => by subst z; rw [e] at f3; cases f3
    rw [upd_ne ha, upd_ne ha]
    exact s.pr a u e
  · rw [upd_ne (fun z => by subst z; exact f2 i e)]; exact s.nf i a e
  · refine (s.objs n oa mo h1 h2).mono1 x fun a u ea hu => ?_
    rw [upd_ne (fun z => by subst z; rw [hu] at h; cases h)]; exact hu
/-- a new object is laid, neither frozen nor live -/
theorem Sim.newH (s : Sim K cl F L H S) {p : Addr} {o : HO} (h : H p = none) : Sim K cl F L (upd H p o) S ∧ Fre F L p := by
  obtain ⟨f1, f2, f3⟩ := s.fresh h
  refine ⟨⟨fun a u e => ?_, fun a u e => ?_, s.nd, s.nf, s.len, fun n oa mo h1 h2 => ?_⟩, f1, f2, f3⟩
  · rw [upd_ne (fun z => by subst z; rw [e] at f1; cases f1)]; exact s.sub a u e
  · have ha : a ≠ p := fun z => by subst z; rw [e] at f3; cases f3
    rw [upd_ne ha]
    exact s.pr a u e
  · refine (s.objs n oa mo h1 h2).mono1 (Ext.refl F L) fun a u ea hu => ?_
    rw [upd_ne (fun z => by subst z; rw [hu] at h; cases h)]; exact hu
/-- what nothing holds is frozen -/
theorem Sim.freeze (s : Sim K cl F L H S) {a : Addr} {o : HO} (h : H a = some o) (hf : Fre F L a) : Sim K cl (upd F a o) L H S ∧ Ext F L (upd F a o) L := by
  obtain ⟨f1, f2, f3⟩ := hf
  have x : Ext F L (upd F a o) L := ⟨Sub.upd f1, fun _ _ q => q, rfl⟩
  refine ⟨⟨fun b u e => ?_, fun b u e => ?_, s.nd, fun i b e => ?_, s.len, fun n oa mo h1 h2 => ?_⟩, x⟩
  · by_cases ha : b = a
    · subst ha; rw [upd_same] at e; cases e; exact h
    · rw [upd_ne ha] at e; exact s.sub b u e
  · have ha : b ≠ a := fun z => by subst z; rw [e] at f3; cases f3
    rw [upd_ne ha]
    exact s.pr b u e
  · rw [upd_ne (fun z => by subst z; exact f2 i e)]; exact s.nf i b e
  · exact (s.objs n oa mo h1 h2).mono1 x fun _ _ _ z => z
/-- what nothing holds is made live -/
theorem Sim.liveM (s : Sim K cl F L H S) {a : Addr} {mo : MO} (hf : Fre F L a) (r : MoR K cl F L H (some a) mo) :
    Sim K cl F (L.push a) H (S ++ [mo]) ∧ Ext F L F (L.push a) ∧ (L.push a).l[S.length]? = some (some a) := by
  obtain ⟨f1, hl, f3⟩ := hf
  have get : ∀ (i : Nat) (x : Option Addr), (L.push a).l[i]? = some x → L.l[i]? = some x ∨ (i = L.l.length ∧ x = some a) := fun i x e => by
    have e : (L.l ++ [some a])[i]? = some x := e
    by_cases hi : i < L.l.length
    · rw [List.getElem?_append_left hi] at e; exact .inl e
    · rw [List.getElem?_append_right (by omega)] at e
      have : i - L.l.length = 0 := by
        cases q : i - L.l.length with
        | zero => rfl
        | succ k => rw [q] at e; simp at e
      rw [this] at e
      simp at e
      exact .inr ⟨by omega, e.symm⟩
  have x : Ext F L F (L.push a) := ⟨Sub.refl F, fun n x q => by
    show (L.l ++ [some a])[n]? = some x
    rw [List.getElem?_append_left (List.getElem?_eq_some_iff.mp q).1]; exact q, rfl⟩
  refine ⟨⟨s.sub, fun b u e => ?_, fun i j b h1 h2 => ?_, fun i b h1 => ?_, by simp [Lv.push, s.len], fun n oa mo' h1 h2 => ?_⟩, x, ?_⟩
  · obtain ⟨q1, q2, q3⟩ := s.pr b u e
    refine ⟨q1, q2, fun i z => ?_⟩
    rcases get i _ z with z | ⟨_, z⟩
    · exact q3 i z
    · cases z; rw [show L.p a = some u from e] at f3; cases f3
  · rcases get i _ h1 with q1 | ⟨q1, e1⟩ <;> rcases get j _ h2 with q2 | ⟨q2, e2⟩
    · exact s.nd i j b q1 q2
    · cases e2; exact absurd q1 (hl i)
    · cases e1; exact absurd q2 (hl j)
    · omega
  · rcases get i _ h1 with q1 | ⟨q1, e1⟩
    · exact s.nf i b q1
    · cases e1; exact f1
  · rcases get n _ h1 with q1 | ⟨q1, e1⟩
    · have hn : n < S.length := by rw [← s.len]; exact (List.getElem?_eq_some_iff.mp q1).1
      rw [List.getElem?_append_left hn] at h2
      exact (s.objs n oa mo' q1 h2).mono1 x fun _ _ _ z => z
    · subst q1 e1
      rw [s.len, List.getElem?_append_right (Nat.le_refl _)] at h2
      simp at h2
      subst h2
      exact r.mono1 x fun _ _ _ z => z
  · show (L.l ++ [some a])[S.length]? = _
    rw [← s.len, List.getElem?_append_right (Nat.le_refl _)]; simp
theorem Sim.live (s : Sim K cl F L H S) {a : Addr} {vs : List V} {xs : List D} (h : H a = some (.lst vs)) (hf : Fre F L a) (r : RpAll K F vs xs) :
    Sim K cl F (L.push a) H (S ++ [.lst xs]) ∧ Ext F L F (L.push a) ∧ (L.push a).l[S.length]? = some (some a) := s.liveM hf ⟨a, vs, rfl, h, r⟩
/-- a live object is written -/
theorem Sim.writeM (s : Sim K cl F L H S) {n : Nat} {a : Addr} {o : HO} {mo : MO} (h : L.l[n]? = some (some a)) (r : MoR K cl F L (upd H a o) (some a) mo) : Sim K cl F L (upd H a o) (S.set n mo) := by
  refine ⟨fun b u e => ?_, fun b u e => ?_, s.nd, s.nf, by simp [s.len], fun m oa mo' h1 h2 => ?_⟩
  · rw [upd_ne (fun z => by subst z; have := s.nf n b h; rw [this] at e; cases e)]; exact s.sub b u e
  · obtain ⟨q1, q2, q3⟩ := s.pr b u e
    rw [upd_ne (fun z => by subst z; exact q3 n h)]
    exact ⟨q1, q2, q3⟩
  · by_cases hm : n = m
    · subst hm
      have hn : n < S.length := by rw [← s.len]; exact (List.getElem?_eq_some_iff.mp h).1
      rw [List.getElem?_set_self hn] at h2
      cases h2
      rw [h] at h1
      cases h1
      exact r
    · rw [List.getElem?_set_ne hm] at h2
      refine (s.objs m oa mo' h1 h2).mono1 (Ext.refl F L) fun b u eb hu => ?_
      rw [upd_ne (fun z => by subst z eb; exact hm (s.nd n m b h h1))]; exact hu
theorem Sim.write (s : Sim K cl F L H S) {n : Nat} {a : Addr} {vs : List V} {xs : List D} (h : L.l[n]? = some (some a)) (r : RpAll K F vs xs) : Sim K cl F L (upd H a (.lst vs)) (S.set n (.lst xs)) := s.writeM h ⟨a, vs, rfl, upd_same, r⟩
/-- no instance holds the n-th live object -/
def noRef (n : Nat) : MO → Bool
  | .ins _ fs => fs.all fun q => match q.2 with
    | .o m => m != n
    | _ => true
  | _ => true
/-- a live object is moved out -/
theorem Sim.out (s : Sim K cl F L H S) {n : Nat} {a : Addr} (h : L.l[n]? = some (some a)) (hr : S.all (noRef n) = true) : Sim K cl F (L.drop n) H (S.set n .dead) ∧ Fre F (L.drop n) a := by
  have get : ∀ (i : Nat) (b : Addr), (L.drop n).l[i]? = some (some b) → L.l[i]? = some (some b) ∧ i ≠ n := fun i b e => by
    have e : (L.l.set n none)[i]? = some (some b) := e
    by_cases hi : n = i
    · subst hi
      rw [List.getElem?_set_self (List.getElem?_eq_some_iff.mp h).1] at e; cases e
    · rw [List.getElem?_set_ne hi] at e; exact ⟨e, Ne.symm hi⟩
  refine ⟨⟨s.sub, fun b u e => ?_, fun i j b h1 h2 => s.nd i j b (get i b h1).1 (get j b h2).1, fun i b h1 => s.nf i b (get i b h1).1, by simp [Lv.drop, s.len], fun m oa mo h1 h2 => ?_⟩, s.nf n a h, fun i e => ?_, ?_⟩
  · obtain ⟨q1, q2, q3⟩ := s.pr b u e
    exact ⟨q1, q2, fun i z => q3 i (get i b z).1⟩
  · have h1 : (L.l.set n none)[m]? = some oa := h1
    by_cases hm : n = m
    · subst hm
      have hn : n < L.l.length := (List.getElem?_eq_some_iff.mp h).1
      rw [List.getElem?_set_self hn] at h1
      rw [List.getElem?_set_self (by rw [← s.len]; exact hn)] at h2
      cases h1; cases h2
      rfl
    · rw [List.getElem?_set_ne hm] at h1 h2
      refine (s.objs m oa mo h1 h2).mono (Sub.refl F) (fun _ _ _ z => z) fun c fs e q hq k eq b hb => ?_
      subst e
      have := List.all_eq_true.mp hr _ (List.mem_of_getElem? h2)
      have := List.all_eq_true.mp this q hq
      rw [eq] at this
      show (L.l.set n none)[k]? = _
      rw [List.getElem?_set_ne (fun z => by subst z; simp at this)]
      exact hb
  · obtain ⟨q, ne⟩ := get i a e
    exact ne (s.nd i n a q h)
  · show L.p a = none
    cases e : L.p a with
    | none => rfl
    | some u => exact absurd h ((s.pr a u e).2.2 n)
/-- the younger ones forgotten -/
theorem Sim.cut {G : Sto} (s : Sim K cl F L H (S ++ G)) (hc : ∀ (c : Str) (fs : List (Str × W)), MO.ins c fs ∈ S → ∀ q ∈ fs, ∀ m, q.2 = .o m → m < S.length) : Sim K cl F (L.take S.length) H S := by
  have get : ∀ (i : Nat) (x : Option Addr), (L.take S.length).l[i]? = some x → L.l[i]? = some x ∧ i < S.length := fun i x e => by
    have e : (L.l.take S.length)[i]? = some x := e
    by_cases hi : i < S.length
    · rw [List.getElem?_take_of_lt hi] at e; exact ⟨e, hi⟩
    · rw [List.getElem?_eq_none (by rw [List.length_take]; omega)] at e; cases e
  refine ⟨s.sub, fun b u e => ?_, fun i j b h1 h2 => s.nd i j b (get i _ h1).1 (get j _ h2).1, fun i b h1 => s.nf i b (get i _ h1).1, ?_, fun n oa mo h1 h2 => ?_⟩
  · obtain ⟨q1, q2, q3⟩ := s.pr b u e
    exact ⟨q1, q2, fun i z => q3 i (get i _ z).1⟩
  · show (L.l.take S.length).length = _
    rw [List.length_take, s.len, List.length_append]; omega
  · obtain ⟨q, hn⟩ := get n _ h1
    refine (s.objs n oa mo q (by rw [List.getElem?_append_left hn]; exact h2)).mono (Sub.refl F) (fun _ _ _ z => z) fun c fs e q' hq k eq b hb => ?_
    subst e
    have := hc c fs (List.mem_of_getElem? h2) q' hq k eq
    show (L.l.take S.length)[k]? = _
    rw [List.getElem?_take_of_lt this]
    exact hb
/-- an instance of a store holds live objects of the store alone -/
theorem Sim.closed (s : Sim K cl F L H S) : ∀ (c : Str) (fs : List (Str × W)), MO.ins c fs ∈ S → ∀ q ∈ fs, ∀ m, q.2 = .o m → m < S.length := fun c fs h q hq m e => by
  obtain ⟨n, hn, en⟩ := List.getElem_of_mem h
  have hl : n < L.l.length := by rw [s.len]; exact hn
  obtain ⟨a, dx, vs, _, _, r⟩ := s.objs n _ _ (List.getElem?_eq_getElem hl) (by rw [List.getElem?_eq_getElem hn, en])
  rw [← s.len]
  exact r.refs q hq m e
/-- a new list is held privately; changed; let go -/
theorem MoR.priv {l : List (Option Addr)} {M M' : Hp} {oa : Option Addr} {mo : MO} (h : MoR K cl F ⟨l, M⟩ H oa mo) : MoR K cl F ⟨l, M'⟩ H oa mo := h.mono (L := ⟨l, M⟩) (L' := ⟨l, M'⟩) (Sub.refl F) (fun _ _ _ z => z) fun _ _ _ _ _ _ _ _ q => q
theorem Sim.hold (s : Sim K cl F L H S) {a : Addr} {o : HO} (h : H a = some o) (hf : Fre F L a) : Sim K cl F ⟨L.l, upd L.p a o⟩ H S := by
  obtain ⟨f1, f2, f3⟩ := hf
  refine ⟨s.sub, fun b u e => ?_, s.nd, s.nf, s.len, fun n oa mo h1 h2 => (s.objs n oa mo h1 h2).priv⟩
  have e : upd L.p a o b = some u := e
  by_cases hb : b = a
  · subst hb; rw [upd_same] at e; cases e; exact ⟨h, f1, f2⟩
  · rw [upd_ne hb] at e; exact s.pr b u e
theorem Sim.unhold {p : Hp} (s : Sim K cl F L H S) (hp : Sub p L.p) : Sim K cl F ⟨L.l, p⟩ H S := ⟨s.sub, fun b u e => s.pr b u (hp b u e), s.nd, s.nf, s.len, fun n oa mo h1 h2 => (s.objs n oa mo h1 h2).priv⟩
theorem Sim.hwrite (s : Sim K cl F L H S) {a : Addr} {o u : HO} (h : L.p a = some o) : Sim K cl F ⟨L.l, upd L.p a u⟩ (upd H a u) S := by
  obtain ⟨q1, q2, q3⟩ := s.pr a o h
  refine ⟨fun b v e => ?_, fun b v e => ?_, s.nd, s.nf, s.len, fun n oa mo h1 h2 => ?_⟩
  · rw [upd_ne (fun z => by subst z; rw [q2] at e; cases e)]; exact s.sub b v e
  · have e : upd L.p a u b = some v := e
    by_cases hb : b = a
    · subst hb; rw [upd_same] at e ⊢; exact ⟨e, q2, q3⟩
    · rw [upd_ne hb] at e ⊢; exact s.pr b v e
  · refine (s.objs n oa mo h1 h2).mono (L := L) (L' := ⟨L.l, upd L.p a u⟩) (Sub.refl F) (fun b v eb hv => ?_) fun _ _ _ _ _ _ _ _ q => q
    rw [upd_ne (fun z => by subst z eb; exact q3 n h1)]; exact hv
end
end Sc
namespace Sc
open PySem PySem.Spec PyProof.Rows L2

inductive Res (α : Type) where
  | ok (a : α) (S : Sto)
  | exc (c : Str) (fs : List (Str × D)) (S : Sto)
  | stuck
def Res.bind {α β : Type} (r : Res α) (f : α → Sto → Res β) : Res β := match r with
  | .ok a S => f a S
  | .exc c fs S => .exc c fs S
  | .stuck => .stuck
@[simp] theorem Res.bind_ok {α β : Type} (a : α) (S : Sto) (f : α → Sto → Res β) : (Res.ok a S).bind f = f a S := rfl
@[simp] theorem Res.bind_exc {α β : Type} (c : Str) (fs : List (Str × D)) (S : Sto) (f : α → Sto → Res β) : (Res.exc c fs S : Res α).bind f = .exc c fs S := rfl
@[simp] theorem Res.bind_stuck {α β : Type} (f : α → Sto → Res β) : (Res.stuck : Res α).bind f = .stuck := rfl
def opt {α : Type} (o : Option α) (S : Sto) : Res α := match o with
  | some a => .ok a S
  | none => .stuck
@[simp] theorem opt_some {α : Type} (a : α) (S : Sto) : opt (some a) S = .ok a S := rfl
@[simp] theorem opt_none {α : Type} (S : Sto) : opt (none : Option α) S = .stuck := rfl

inductive BOp | add | sub | mul | fdiv | mod | pow
inductive COp | eq | ne | lt | le | gt | ge | isin | nin
inductive Ty | int | bool | str | tup | lst
inductive Tg | nm (i : Nat) | tp (is : List Nat)
/-- built-ins that leave the store as it is -/
inductive Bl | len | list | tuple | sum
/-- methods that change a live list -/
inductive Mu | append | extend | pop

/-- what is done by values that are there -/
inductive Pm where
  /-- d[k] | k in d -/
  | dix | din (neg : Bool)
  /-- d.get(k, x) of a written dict -/
  | kget (kvs : List (Str × Option D))
  /-- len(set(ints)) -/
  | lset
  /-- {k: v, ..} -/
  | dsp (ks : List Key)

mutual
inductive X where
  | loc (i : Nat) | dat (d : D)
  | bin (o : BOp) (a b : X) | cmp (o : COp) (a b : X) | chn (o p : COp) (a b c : X) | isN (neg : Bool) (a : X)
  | and (a b : X) | or (a b : X) | not (a : X) | ite (c a b : X)
  | tup (xs : List X) | lst (xs : List X)
  | idx (a i : X) | slF (a lo : X) | slT (a hi : X) | slB (a lo hi : X) | rev (a : X)
  | call (f : Str) (lv : List Bool) (xs : List X)
  | isi (a : X) (t : Ty)
  | blt (f : Bl) (xs : List X)
  | mut (m : Mu) (a : X) (xs : List X)
  | comp (elt : X) (tg : Tg) (it : I) (ifs : List X) (own : List Nat)
  /-- len({..}) -/
  | lsc (elt : X) (tg : Tg) (it : I) (ifs : List X) (own : List Nat)
  | prm (p : Pm) (xs : List X)
inductive I where
  | sq (a : X) | rng1 (a : X) | rng2 (a b : X) | enm (a : X) | zip (a b : X) | rev (a : X)
end

/-! ### operations on values -/
def viewL (S : Sto) : W → Option (List D)
  | .d (.list xs) => some xs
  | .o n => match S[n]? with
    | some (.lst xs) => some xs
    | _ => none
  | _ => none
def viewD (S : Sto) : W → Option D
  | .d x => some x
  | .o n => match S[n]? with
    | some (.lst xs) => some (.list xs)
    | _ => none
  | .s _ => none
  | .k _ => none
def dTruth : D → Bool
  | .none => false
  | .bool b => b
  | .int i => i != 0
  | .str x => (x.length : Int) != 0
  | .list xs => !xs.isEmpty
  | .tuple xs => !xs.isEmpty
  | .dict _ => false
def truthW (S : Sto) (w : W) : Option Bool := match viewD S w with
  | some d => some (dTruth d)
  | none => none
def ki (i : Int) : R := .w (.d (.int i))
def kb (b : Bool) : R := .w (.d (.bool b))
def mulOk (i j : Int) : Bool := (decide (-(2 ^ 64) < i) && decide (i < 2 ^ 64)) || (decide (-(2 ^ 64) < j) && decide (j < 2 ^ 64))
def rbin (o : BOp) (S : Sto) (a b : W) : Option R := match o with
  | .add => match a, b with
    | .d (.int i), .d (.int j) => some (ki (i + j))
    | .d (.str x), .d (.str y) => if x.length + y.length ≤ sizeLine then some (.w (.d (.str (x ++ y)))) else none
    | .d (.tuple xs), .d (.tuple ys) => if xs.length + ys.length ≤ sizeLine then some (.w (.d (.tuple (xs ++ ys)))) else none
    | a, b => match viewL S a, viewL S b with
      | some xs, some ys => if xs.length + ys.length ≤ sizeLine then some (.n (xs ++ ys)) else none
      | _, _ => none
  | .sub => match a, b with
    | .d (.int i), .d (.int j) => some (ki (i - j))
    | _, _ => none
  | .mul => match a, b with
    | .d (.int i), .d (.int j) => if mulOk i j then some (ki (i * j)) else none
    | _, _ => none
  | .fdiv => match a, b with
    | .d (.int i), .d (.int j) => if 0 < j ∧ j < 1073741824 then some (ki (i / j)) else none
    | _, _ => none
  | .mod => match a, b with
    | .d (.int i), .d (.int j) => if 0 < j then some (ki (i % j)) else none
    | _, _ => none
  | .pow => match a, b with
    | .d (.int i), .d (.int j) => if 0 ≤ j ∧ j ≤ 1000000 ∧ i.natAbs < 2 ^ 64 then some (ki (i ^ j.toNat)) else none
    | _, _ => none
def eqD (d e : D) : Option Bool := if min d.depth e.depth ≤ 100 then some (PyData.eqv d e) else none
def inD (d : D) : D → Option Bool
  | .list xs => if min (PyData.depthAll xs) d.depth ≤ 100 then some (xs.any fun y => PyData.eqv y d) else none
  | .tuple xs => if min (PyData.depthAll xs) d.depth ≤ 100 then some (xs.any fun y => PyData.eqv y d) else none
  | .str y => match d with
    | .str x => some (!(Builtin.Str.occurrences y x 0 y.length 1).isEmpty)
    | _ => none
  | _ => none
def cmpI (o : COp) (i j : Int) : Option Bool := match o with
  | .lt => some (decide (i < j))
  | .le => some (decide (i ≤ j))
  | .gt => some (decide (j < i))
  | .ge => some (decide (j ≤ i))
  | _ => none
def rcmpD (o : COp) (d e : D) : Option Bool := match o with
  | .eq => eqD d e
  | .ne => (eqD d e).map (!·)
  | .isin => inD d e
  | .nin => (inD d e).map (!·)
  | o => match d, e with
    | .int i, .int j => cmpI o i j
    | _, _ => none
def rcmp (o : COp) (S : Sto) (a b : W) : Option Bool := match viewD S a, viewD S b with
  | some d, some e => rcmpD o d e
  | _, _ => none
def isTy : Ty → D → Bool
  | .int, .int _ => true
  | .int, .bool _ => true
  | .bool, .bool _ => true
  | .str, .str _ => true
  | .tup, .tuple _ => true
  | .lst, .list _ => true
  | _, _ => false
def ridx (S : Sto) (a i : W) : Option R := match i with
  | .d (.int k) => match a with
    | .d (.list xs) => (atI xs k).map fun x => .w (.d x)
    | .d (.tuple xs) => (atI xs k).map fun x => .w (.d x)
    | .d (.str x) => (atI x.cps.toList k).map fun c => .w (.d (.str ⟨#[c]⟩))
    | .o n => match S[n]? with
      | some (.lst xs) => (atI xs k).map fun x => .w (.d x)
      | _ => none
    | .s ns => (atI ns k).map fun x => .w (.d (.int x))
    | _ => none
  | _ => none
def cutD (xs : List D) (lo hi : Option Int) : List D := (xs.drop (HT.sIx xs.length 0 lo)).take (HT.sIx xs.length xs.length hi - HT.sIx xs.length 0 lo)
def rsl (S : Sto) (a : W) (lo hi : Option Int) : Option R := match a with
  | .d (.tuple xs) => some (.w (.d (.tuple (cutD xs lo hi))))
  | a => match viewL S a with
    | some xs => some (.n (cutD xs lo hi))
    | none => none
def asInt : W → Option Int
  | .d (.int i) => some i
  | _ => none
def sumInts : List D → Option Int
  | [] => some 0
  | .int i :: r => (sumInts r).map (i + ·)
  | _ => none
def rblt (f : Bl) (S : Sto) (ws : List W) : Option R := match f, ws with
  | .len, [.s ns] => some (ki ns.length)
  | .len, [a] => match viewD S a with
    | some (.list xs) => some (ki xs.length)
    | some (.tuple xs) => some (ki xs.length)
    | some (.str x) => some (ki x.length)
    | _ => none
  | .list, [a] => match viewD S a with
    | some (.list xs) => some (.n xs)
    | some (.tuple xs) => some (.n xs)
    | _ => none
  | .tuple, [a] => match viewD S a with
    | some (.list xs) => some (.w (.d (.tuple xs)))
    | some (.tuple xs) => some (.w (.d (.tuple xs)))
    | _ => none
  | .sum, [a] => match viewL S a with
    | some xs => (sumInts xs).map ki
    | none => none
  | _, _ => none
def rmut (m : Mu) (S : Sto) (a : W) (ws : List W) : Res R := match a with
  | .o n => match S[n]? with
    | some (.lst xs) => match m, ws with
      | .append, [.d x] => if xs.length < sizeLine then .ok (.w (.d .none)) (S.set n (.lst (xs ++ [x]))) else .stuck
      | .extend, [.d (.list ys)] => if xs.length + ys.length ≤ sizeLine then .ok (.w (.d .none)) (S.set n (.lst (xs ++ ys))) else .stuck
      | .pop, [] => match xs[xs.length - 1]? with
        | some y => .ok (.w (.d y)) (S.set n (.lst xs.dropLast))
        | none => .stuck
      | _, _ => .stuck
    | _ => .stuck
  | _ => .stuck

/-! ### dicts, sets -/
def keyD : D → Option Key
  | .int i => some (.inl i)
  | .str x => some (.inr x)
  | _ => none
def keyW : W → Option Key
  | .d x => keyD x
  | _ => none
def viewK (S : Sto) : W → Option (List (Key × D))
  | .k kvs => some kvs
  | .o n => match S[n]? with
    | some (.dic kvs) => some kvs
    | _ => none
  | _ => none
def lookK (kvs : List (Key × D)) (k : Key) : Option D := (kvs.find? fun kv => decide (kv.1 = k)).map (·.2)
def hasK (l : List Key) (k : Key) : Bool := l.any fun j => decide (j = k)
def addK (l : List Key) (k : Key) : List Key := if hasK l k = true then l else l ++ [k]
def intsD : List D → Option (List Int)
  | [] => some []
  | .int i :: r => (intsD r).map (i :: ·)
  | _ => none
def addI (l : List Int) (k : Int) : List Int := if l.any (· == k) then l else l ++ [k]
def datas : List W → Option (List D)
  | [] => some []
  | .d x :: r => (datas r).map (x :: ·)
  | _ => none
def kgetW (kvs : List (Str × Option D)) (i : W) (d : W) : Option R := match i with
  | .d (.str x) => match kvs.lookup x with
    | some (some v) => some (.w (.d v))
    | some none => some (.w d)
    | none => none
  | _ => none
def rpm (p : Pm) (S : Sto) (ws : List W) : Option R := match p, ws with
  | .dix, [a, i] => match viewK S a, keyW i with
    | some kvs, some k => (lookK kvs k).map fun x => .w (.d x)
    | _, _ => none
  | .din neg, [i, a] => match viewK S a, keyW i with
    | some kvs, some k => some (kb (neg != (lookK kvs k).isSome))
    | _, _ => none
  | .kget kvs, [i, d] => kgetW kvs i d
  | .lset, [a] => match viewL S a with
    | some xs => match intsD xs with
      | some ns => if ns.length ≤ 4000 then some (ki (ns.foldl addI []).length) else none
      | none => none
    | none => none
  | .dsp ks, ws => match datas ws with
    | some ds => if ks.length = ds.length then some (.nk (ks.zip ds)) else none
    | none => none
  | _, _ => none

/-- a new list is frozen | made live -/
def fz : R → W
  | .w x => x
  | .n xs => .d (.list xs)
  | .nk kvs => .k kvs
def give (lv : Bool) (r : R) (S : Sto) : Res W := match r with
  | .w x => .ok x S
  | .n xs => match lv with
    | true => .ok (.o S.length) (S ++ [.lst xs])
    | false => .ok (.d (.list xs)) S
  | .nk kvs => match lv with
    | true => .ok (.o S.length) (S ++ [.dic kvs])
    | false => .ok (.k kvs) S
def setAll : List Nat → List D → Ev → Ev
  | i :: is, d :: ds, e => setAll is ds (e.set i (some (.d d)))
  | _, _, e => e
def bindT (tg : Tg) (w : W) (e : Ev) : Option Ev := match tg with
  | .nm i => some (e.set i (some w))
  | .tp is => match w with
    | .d (.tuple ds) => if ds.length = is.length then some (setAll is ds e) else none
    | _ => none
def wipeE (e : Ev) : List Nat → Ev
  | [] => e
  | v :: vs => (wipeE e vs).set v none
def enumFrom (k : Int) : List D → List W
  | [] => []
  | x :: r => .d (.tuple [.int k, x]) :: enumFrom (k + 1) r
def zipD : List D → List D → List W
  | x :: xs, y :: ys => .d (.tuple [x, y]) :: zipD xs ys
  | _, _ => []
def rangeW (lo : Int) : Nat → List W
  | 0 => []
  | n + 1 => .d (.int lo) :: rangeW (lo + 1) n
def seqD : W → Option (List D)
  | .d (.list xs) => some xs
  | .d (.tuple xs) => some xs
  | _ => none
def listD : W → Option (List D)
  | .d (.list xs) => some xs
  | _ => none
def itemsW : W → Option (List W)
  | .d (.list xs) => some (xs.map .d)
  | .d (.tuple xs) => some (xs.map .d)
  | .d (.str t) => some (t.cps.toList.map fun c => .d (.str ⟨#[c]⟩))
  | .s ns => some (ns.map fun i => .d (.int i))
  | _ => none
def loopC (f : W → Sto → Res (Option D)) : List W → Sto → Res (List D)
  | [], S => .ok [] S
  | w :: ws, S => (f w S).bind fun r S' => (loopC f ws S').bind fun ds S'' => .ok (r.toList ++ ds) S''
def few (n : Nat) {α : Type} (r : Res α) : Res α := if n ≤ sizeLine then r else .stuck
/-- nothing that is raised leaves a comprehension -/
def noX {α : Type} : Res α → Res α
  | .exc _ _ _ => .stuck
  | r => r
def oneD (r : R) (S : Sto) : Res (Option D) := match fz r with
  | .d x => .ok (some x) S
  | _ => .stuck

def oneK (r : R) (S : Sto) : Res (Option D) := match fz r with
  | .d x => match keyD x with
    | some _ => .ok (some x) S
    | none => .stuck
  | _ => .stuck

section
variable (C : Str → List W → Sto → Res R)
mutual
def evN : X → Ev → Sto → Res R
  | .loc i, e, S => match e[i]? with
    | some (some w) => .ok (.w w) S
    | _ => .stuck
  | .dat d, _, S => .ok (.w (.d d)) S
  | .bin o a b, e, S => (evN a e S).bind fun x S1 => (evN b e S1).bind fun y S2 => opt (rbin o S2 (fz x) (fz y)) S2
  | .cmp o a b, e, S => (evN a e S).bind fun x S1 => (evN b e S1).bind fun y S2 => (opt (rcmp o S2 (fz x) (fz y)) S2).bind fun k S3 => .ok (kb k) S3
  | .chn o p a b c, e, S => (evN a e S).bind fun x S1 => (evN b e S1).bind fun y S2 => (opt (rcmp o S2 (fz x) (fz y)) S2).bind fun k S3 => match k with
    | true => (evN c e S3).bind fun z S4 => (opt (rcmp p S4 (fz y) (fz z)) S4).bind fun k' S5 => .ok (kb k') S5
    | false => .ok (kb false) S3
  | .isN neg a, e, S => (evN a e S).bind fun x S1 => .ok (kb (match fz x with
    | .d .none => !neg
    | _ => neg)) S1
  | .and a b, e, S => (evN a e S).bind fun x S1 => (opt (truthW S1 (fz x)) S1).bind fun k S2 => match k with
    | true => evN b e S2
    | false => .ok (.w (fz x)) S2
  | .or a b, e, S => (evN a e S).bind fun x S1 => (opt (truthW S1 (fz x)) S1).bind fun k S2 => match k with
    | true => .ok (.w (fz x)) S2
    | false => evN b e S2
  | .not a, e, S => (evN a e S).bind fun x S1 => (opt (truthW S1 (fz x)) S1).bind fun k S2 => .ok (kb (!k)) S2
  | .ite c a b, e, S => (evN c e S).bind fun x S1 => (opt (truthW S1 (fz x)) S1).bind fun k S2 => match k with
    | true => evN a e S2
    | false => evN b e S2
  | .tup xs, e, S => (evs xs [] e S).bind fun ws S1 => (opt (datas ws) S1).bind fun ds S2 => .ok (.w (.d (.tuple ds))) S2
  | .lst xs, e, S => (evs xs [] e S).bind fun ws S1 => (opt (datas ws) S1).bind fun ds S2 => .ok (.n ds) S2
  | .idx a i, e, S => (evN a e S).bind fun x S1 => (evN i e S1).bind fun y S2 => opt (ridx S2 (fz x) (fz y)) S2
  | .slF a lo, e, S => (evN a e S).bind fun x S1 => (evN lo e S1).bind fun y S2 => (opt (asInt (fz y)) S2).bind fun i S3 => opt (rsl S3 (fz x) (some i) none) S3
  | .slT a hi, e, S => (evN a e S).bind fun x S1 => (evN hi e S1).bind fun y S2 => (opt (asInt (fz y)) S2).bind fun i S3 => opt (rsl S3 (fz x) none (some i)) S3
  | .slB a lo hi, e, S => (evN a e S).bind fun x S1 => (evN lo e S1).bind fun y S2 => (opt (asInt (fz y)) S2).bind fun i S3 => (evN hi e S3).bind fun z S4 => (opt (asInt (fz z)) S4).bind fun j S5 => opt (rsl S5 (fz x) (some i) (some j)) S5
  | .rev a, e, S => (evN a e S).bind fun x S1 => (opt (viewL S1 (fz x)) S1).bind fun xs S2 => .ok (.n xs.reverse) S2
  | .call f lv xs, e, S => (evs xs lv e S).bind fun ws S1 => C f ws S1
  | .isi a t, e, S => (evN a e S).bind fun x S1 => (opt (viewD S1 (fz x)) S1).bind fun d S2 => .ok (kb (isTy t d)) S2
  | .blt f xs, e, S => (evs xs [] e S).bind fun ws S1 => opt (rblt f S1 ws) S1
  | .mut m a xs, e, S => (evN a e S).bind fun x S1 => (opt (viewL S1 (fz x)) S1).bind fun _ S1 => (evs xs [] e S1).bind fun ws S2 => rmut m S2 (fz x) ws
  | .comp elt tg it ifs own, e, S => (evI it e S).bind fun ws S1 => few ws.length
      ((noX (loopC (fun w S => (opt (bindT tg w (wipeE e own)) S).bind fun e' S => (tests ifs e' S).bind fun k S => match k with
        | true => (evN elt e' S).bind fun r S => oneD r S
        | false => .ok none S) ws S1)).bind fun ds S2 => .ok (.n ds) S2)
  | .lsc elt tg it ifs own, e, S => (evI it e S).bind fun ws S1 => if ws.length ≤ 4000 then
      ((noX (loopC (fun w S => (opt (bindT tg w (wipeE e own)) S).bind fun e' S => (tests ifs e' S).bind fun k S => match k with
        | true => (evN elt e' S).bind fun r S => oneK r S
        | false => .ok none S) ws S1)).bind fun ds S2 => .ok (ki ((ds.filterMap keyD).foldl addK []).length) S2) else .stuck
  | .prm p xs, e, S => (evs xs [] e S).bind fun ws S1 => opt (rpm p S1 ws) S1
def evs : List X → List Bool → Ev → Sto → Res (List W)
  | [], _, _, S => .ok [] S
  | x :: xs, lv, e, S => (evN x e S).bind fun r S1 => (give (lv.headD false) r S1).bind fun w S2 => (evs xs lv.tail e S2).bind fun ws S3 => .ok (w :: ws) S3
def evI : I → Ev → Sto → Res (List W)
  | .sq a, e, S => (evN a e S).bind fun x S1 => (opt (itemsW (fz x)) S1).bind fun ws S2 => .ok ws S2
  | .rng1 a, e, S => (evN a e S).bind fun x S1 => (opt (asInt (fz x)) S1).bind fun i S2 => if -(2 ^ 62) ≤ i ∧ i < 2 ^ 62 then .ok (rangeW 0 i.toNat) S2 else .stuck
  | .rng2 a b, e, S => (evN a e S).bind fun x S1 => (evN b e S1).bind fun y S2 => (opt (asInt (fz x)) S2).bind fun i S3 => (opt (asInt (fz y)) S3).bind fun j S4 =>
      if (-(2 ^ 62) ≤ i ∧ i < 2 ^ 62) ∧ -(2 ^ 62) ≤ j ∧ j < 2 ^ 62 then .ok (rangeW i (j - i).toNat) S4 else .stuck
  | .enm a, e, S => (evN a e S).bind fun x S1 => (opt (listD (fz x)) S1).bind fun xs S2 => .ok (enumFrom 0 xs) S2
  | .zip a b, e, S => (evN a e S).bind fun x S1 => (evN b e S1).bind fun y S2 => (opt (listD (fz x)) S2).bind fun xs S3 => (opt (listD (fz y)) S3).bind fun ys S4 => .ok (zipD xs ys) S4
  | .rev a, e, S => (evN a e S).bind fun x S1 => (opt (listD (fz x)) S1).bind fun xs S2 => .ok (xs.reverse.map .d) S2
def tests : List X → Ev → Sto → Res Bool
  | [], _, S => .ok true S
  | x :: _, e, S => (evN x e S).bind fun r S1 => opt (truthW S1 (fz r)) S1
end
end
/-- a test -/
def evT (C : Str → List W → Sto → Res R) (x : X) (e : Ev) (S : Sto) : Res Bool := (evN C x e S).bind fun r S1 => opt (truthW S1 (fz r)) S1
end Sc
namespace Sc
open PySem PySem.Spec PyProof.Rows L2

/-- what is wanted of an exception -/
def excW (K : PySem.W.Frag) (cl : Str → Addr) (E : XK) (c : Str) (fs : List (Str × D)) (F H : Hp) : Prop := match fs with
  | [] => E (.ref (cl c)) none H
  | fs => ∀ (d : Addr) (vs : List V), RpAll K F vs (fs.map (·.2)) → H d = some (.xd ((fs.map (·.1)).zip vs)) → E (.ref (cl c)) (some d) H
def Post (K : PySem.W.Frag) (cl : Str → Addr) (E : XK) (F : Hp) (L : Lv) {α : Type} (ρ : α → Hp → Lv → Hp → Sto → Prop) : Res α → Prop
  | .ok a S => ∀ F' L' H', Ext F L F' L' → Sim K cl F' L' H' S → ρ a F' L' H' S
  | .exc c fs S => ∀ F' L' H', Ext F L F' L' → Sim K cl F' L' H' S → excW K cl E c fs F' H'
  | .stuck => False
section
variable {K : PySem.W.Frag} {cl : Str → Addr} {E : XK} {F F1 : Hp} {L L1 : Lv} {α β : Type} {ρ ρ' : α → Hp → Lv → Hp → Sto → Prop}
theorem Post.anti (x : Ext F L F1 L1) : ∀ {r : Res α}, Post K cl E F L ρ r → Post K cl E F1 L1 ρ r
  | .ok _ _, h => fun F' L' H' e s => h F' L' H' (x.trans e) s
  | .exc _ _ _, h => fun F' L' H' e s => h F' L' H' (x.trans e) s
  | .stuck, h => h
theorem Post.imp : ∀ {r : Res α}, Post K cl E F L ρ r → (∀ a F' L' H' S, Ext F L F' L' → Sim K cl F' L' H' S → ρ a F' L' H' S → ρ' a F' L' H' S) → Post K cl E F L ρ' r
  | .ok _ _, h, i => fun F' L' H' e s => i _ F' L' H' _ e s (h F' L' H' e s)
  | .exc _ _ _, h, _ => h
  | .stuck, h, _ => h
theorem Post.bind {ρ : β → Hp → Lv → Hp → Sto → Prop} {f : α → Sto → Res β} : ∀ {r : Res α}, Post K cl E F L ρ (r.bind f) → Post K cl E F L (fun a F1 L1 _ S1 => Post K cl E F1 L1 ρ (f a S1)) r
  | .ok _ _, h => fun F' L' H' e s => Post.anti e h
  | .exc _ _ _, h => h
  | .stuck, h => h
theorem Post.opt {o : Option α} {S : Sto} (h : Post K cl E F L ρ (opt o S)) : ∃ a, o = some a ∧ ∀ F' L' H', Ext F L F' L' → Sim K cl F' L' H' S → ρ a F' L' H' S := by
  cases o with
  | none => exact h.elim
  | some a => exact ⟨a, rfl, h⟩
end

/-- a new list is frozen -/
theorem fz_ok {K : PySem.W.Frag} {F : Hp} {L : Lv} {H : Hp} {S : Sto} {v : V} : ∀ {r : R}, Sim K cl F L H S → RepR K F L H v r → ∃ F', Ext F L F' L ∧ Sim K cl F' L H S ∧ RepW K F' L v (fz r)
  | .w _, s, h => ⟨F, Ext.refl F L, s, h⟩
  | .n xs, s, ⟨a, vs, e, hH, hF, r⟩ => by
    subst e
    obtain ⟨s', x⟩ := s.freeze hH hF
    exact ⟨_, x, s', .lst upd_same (r.mono x.f)⟩
  | .nk kvs, s, ⟨a, vs, e, hH, hF, r⟩ => by
    subst e
    obtain ⟨s', x⟩ := s.freeze hH hF
    exact ⟨_, x, s', a, vs, rfl, upd_same, r.mono x.f⟩
/-- a frozen list, a live one, as it lies -/
theorem viewL_ok {K : PySem.W.Frag} {F : Hp} {L : Lv} {H : Hp} {S : Sto} {v : V} {w : W} {xs : List D} (s : Sim K cl F L H S) (r : RepW K F L v w) (h : viewL S w = some xs) : ∃ a vs, v = .ref a ∧ H a = some (.lst vs) ∧ RpAll K F vs xs := by
  cases w with
  | d x =>
    cases x with
    | list ys =>
      cases h
      cases r with
      | lst hf ra => exact ⟨_, _, rfl, s.sub _ _ hf, ra⟩
    | _ => cases h
  | o n =>
    obtain ⟨a, hl, rfl⟩ := r
    unfold viewL at h
    cases q : S[n]? with
    | none => simp [q] at h
    | some mo =>
      cases mo with
      | lst ys =>
        simp only [q] at h
        cases h
        obtain ⟨b, vs, e, hb, ra⟩ := s.objs n _ _ hl q
        cases e
        exact ⟨a, vs, rfl, hb, ra⟩
      | dead => simp [q] at h
      | dic _ => simp [q] at h
      | ins _ _ => simp [q] at h
  | s ns => cases h
  | k kvs => cases h
/-- data, a live list, read -/
theorem viewD_ok {K : PySem.W.Frag} {F : Hp} {L : Lv} {H : Hp} {S : Sto} {v : V} {w : W} {x : D} (s : Sim K cl F L H S) (r : RepW K F L v w) (h : viewD S w = some x) : Rp K H v x := by
  cases w with
  | d y => cases h; exact Rp.mono s.sub r
  | o n =>
    unfold viewD at h
    cases q : S[n]? with
    | none => simp [q] at h
    | some mo =>
      cases mo with
      | lst ys =>
        simp only [q] at h
        cases h
        obtain ⟨a, vs, rfl, hb, ra⟩ := viewL_ok (w := .o n) (xs := ys) s r (by simp [viewL, q])
        exact .lst hb (ra.mono s.sub)
      | dead => simp [q] at h
      | dic _ => simp [q] at h
      | ins _ _ => simp [q] at h
  | s ns => cases h
  | k kvs => cases h

/-! ### the reading of an expression -/
abbrev Orc := Str → List W → Sto → Res R
def ρR (K : PySem.W.Frag) (Q : VK) : R → Hp → Lv → Hp → Sto → Prop := fun r F' L' H' _ => ∀ v, RepR K F' L' H' v r → Q v H'
def tX (K : PySem.W.Frag) (cl : Str → Addr) (C : Orc) (E : XK) (x : X) : TE := fun σ H Q => ∃ F L e S, Sim K cl F L H S ∧ SimE K F L σ e ∧ Post K cl E F L (ρR K Q) (evN C x e S)
def tXT (K : PySem.W.Frag) (cl : Str → Addr) (C : Orc) (E : XK) (x : X) : TT := fun σ H Q => ∃ F L e S, Sim K cl F L H S ∧ SimE K F L σ e ∧ Post K cl E F L (fun b _ _ H' _ => Q b H') (evT C x e S)

section
variable {K : PySem.W.Frag} {cl : Str → Addr} {C : Orc} {E : XK} {F : Hp} {L : Lv} {σ : St} {H : Hp} {e : Ev} {S : Sto} {β : Type} {ρ : β → Hp → Lv → Hp → Sto → Prop} {f : R → Sto → Res β} {x : X} {Q : VK}
theorem tX_bindR (s : Sim K cl F L H S) (se : SimE K F L σ e) (p : Post K cl E F L ρ ((evN C x e S).bind f))
    (h : ∀ r S1 v F1 L1 H1, Ext F L F1 L1 → Sim K cl F1 L1 H1 S1 → SimE K F1 L1 σ e → RepR K F1 L1 H1 v r → Post K cl E F1 L1 ρ (f r S1) → Q v H1) : tX K cl C E x σ H Q :=
  ⟨F, L, e, S, s, se, p.bind.imp fun r F1 L1 H1 S1 x1 s1 p1 v rv => h r S1 v F1 L1 H1 x1 s1 (se.mono x1) rv p1⟩
/-- .. frozen -/
theorem tX_bind (s : Sim K cl F L H S) (se : SimE K F L σ e) (p : Post K cl E F L ρ ((evN C x e S).bind f))
    (h : ∀ r S1 v F1 L1 H1, Ext F L F1 L1 → Sim K cl F1 L1 H1 S1 → SimE K F1 L1 σ e → RepW K F1 L1 v (fz r) → Post K cl E F1 L1 ρ (f r S1) → Q v H1) : tX K cl C E x σ H Q :=
  tX_bindR s se p fun r S1 v F1 L1 H1 x1 s1 se1 rv p1 => by
    obtain ⟨F2, x2, s2, w2⟩ := fz_ok s1 rv
    exact h r S1 v F2 L1 H1 (x1.trans x2) s2 (se1.mono x2) w2 (p1.anti x2)
end
theorem _root_.L2.PE.imp {X : Cx} {e : Expr} {t t' : TE} (h : PE X e t) (i : ∀ σ H Q, t' σ H Q → t σ H Q) : PE X e t' := ⟨fun pins s σ H Q I q => h.run pins s σ H Q I (i σ H Q q)⟩
theorem _root_.L2.PT.imp {X : Cx} {e : Expr} {t t' : TT} (h : PT X e t) (i : ∀ σ H Q, t' σ H Q → t σ H Q) : PT X e t' := ⟨fun pins s σ H Q I q => h.run pins s σ H Q I (i σ H Q q)⟩
theorem _root_.L2.PW.imp {X : Cx} {e : Expr} {t t' : TT} (h : PW X e t) (i : ∀ σ H Q, t' σ H Q → t σ H Q) : PW X e t' := ⟨fun wh pins s σ H Q I q => h.run wh pins s σ H Q I (i σ H Q q)⟩
theorem _root_.L2.PS.imp {X : Cx} {e : Stmt} {t t' : TS} (h : PS X e t) (i : ∀ D σ H, t' D σ H → t D σ H) : PS X e t' := ⟨fun pins s σ H D I q => h.run pins s σ H D I (i D σ H q)⟩
theorem _root_.L2.PSs.imp {X : Cx} {e : List Stmt} {t t' : TS} (h : PSs X e t) (i : ∀ D σ H, t' D σ H → t D σ H) : PSs X e t' := ⟨fun pins s σ H D I q => h.run pins s σ H D I (i D σ H q)⟩

/-! ### operations by values -/
section
variable {X : Cx} {cl : Str → Addr} {E : XK}
/-- a two-place operation of the machine -/
def rM (K : PySem.W.Frag) (cl : Str → Addr) (E : XK) (g : Sto → W → W → Option R) : R2 := fun v u H Q => ∃ F L S a b, Sim K cl F L H S ∧ RepW K F L v a ∧ RepW K F L u b ∧ Post K cl E F L (ρR K Q) (opt (g S a b) S)
def bopOf : BOp → Operator
  | .add => .Add | .sub => .Sub | .mul => .Mult | .fdiv => .FloorDiv | .mod => .Mod | .pow => .Pow
theorem op_bin {o : BOp} : OpR X (binaryOp (bopOf o)) (rM X.K cl E (rbin o)) := by
  intro pins s σ H x y v u Q I rx ry h
  obtain ⟨F, L, S, a, b, sm, ra, rb, p⟩ := h
  obtain ⟨r, e, p⟩ := p.opt
  have fin : ∀ {z : D} {t : V}, r = .w (.d z) → Rp X.K F t z → Q t H := fun er h => p F L H (Ext.refl _ _) sm _ (by subst er; exact h)
  cases o with
  | add =>
    simp only [rbin] at e
    split at e
    · rename_i i j
      cases e; cases ra; cases rb
      exact op_add pins s σ H _ _ v u Q I rx ry ⟨i, j, rfl, rfl, fin rfl (.int _)⟩
    · rename_i i j
      split at e
      · rename_i hz
        cases e
        cases ra with | str _ h1 => cases rb with | str _ h2 =>
          refine op_add_str pins s σ H _ _ v u Q I rx ry ⟨i, j, rfl, rfl, hz, fin rfl (.str _ ?_)⟩
          unfold sok
          rw [Bool.and_eq_true_iff]
          refine ⟨decide_eq_true ?_, ?_⟩
          · show (i.cps ++ j.cps).size ≤ _
            rw [Array.size_append]; exact hz
          · have a1 := sok_ok h1
            have a2 := sok_ok h2
            unfold PyData.strOk at a1 a2 ⊢
            show (i.cps ++ j.cps).all _ = true
            rw [Array.all_append, a1, a2]; rfl
      · cases e
    · rename_i xs ys
      split at e
      · rename_i hz
        cases e
        cases ra with | tup h1 r1 => cases rb with | tup h2 r2 =>
          have l1 := r1.length
          have l2 := r2.length
          refine op_catA pins s σ H _ _ v u Q I rx ry ⟨_, _, _, _, rfl, rfl, sm.sub.sqT h1, sm.sub.sqT h2, by rw [l1, l2]; exact hz, fun e0 => ?_, fun _ e0 => ?_, fun _ _ q hq => ?_⟩
          · subst e0; cases r1; exact fin rfl (.tup h2 r2)
          · subst e0; cases r2; exact fin rfl (.tup h1 (by rw [List.append_nil]; exact r1))
          · obtain ⟨s2, x2⟩ := sm.newF (o := .tup _) hq
            exact p _ _ _ x2 s2 _ (.tup (SqT.of upd_same) ((r1.append r2).mono x2.f))
      · cases e
    · split at e
      · rename_i xs ys h1 h2
        split at e
        · rename_i hz
          cases e
          obtain ⟨a1, vs, rfl, hh1, r1⟩ := viewL_ok sm ra h1
          obtain ⟨a2, us, rfl, hh2, r2⟩ := viewL_ok sm rb h2
          refine op_cat pins s σ H _ _ v u Q I rx ry ⟨_, _, _, _, rfl, rfl, hh1, hh2, by rw [r1.length, r2.length]; exact hz, fun q hq => ?_⟩
          obtain ⟨s2, f2⟩ := sm.newH (o := .lst (vs ++ us)) hq
          exact p _ _ _ (Ext.refl _ _) s2 _ ⟨q, _, rfl, upd_same, f2, r1.append r2⟩
        · cases e
      · cases e
  | sub =>
    simp only [rbin] at e
    split at e
    · rename_i i j
      cases e; cases ra; cases rb
      exact op_sub pins s σ H _ _ v u Q I rx ry ⟨i, j, rfl, rfl, fin rfl (.int _)⟩
    · cases e
  | mul =>
    simp only [rbin] at e
    split at e
    · rename_i i j
      split at e
      · rename_i hm
        cases e; cases ra; cases rb
        refine op_mul pins s σ H _ _ v u Q I rx ry ⟨i, j, rfl, rfl, ?_, fin rfl (.int _)⟩
        unfold mulOk at hm
        rcases (Bool.or_eq_true _ _).mp hm with z | z
        · obtain ⟨z1, z2⟩ := Bool.and_eq_true_iff.mp z
          exact .inl ⟨of_decide_eq_true z1, of_decide_eq_true z2⟩
        · obtain ⟨z1, z2⟩ := Bool.and_eq_true_iff.mp z
          exact .inr ⟨of_decide_eq_true z1, of_decide_eq_true z2⟩
      · cases e
    · cases e
  | fdiv =>
    simp only [rbin] at e
    split at e
    · rename_i i j
      split at e
      · rename_i hm
        cases e; cases ra; cases rb
        exact op_fdiv pins s σ H _ _ v u Q I rx ry ⟨i, j, rfl, rfl, hm, fin rfl (.int _)⟩
      · cases e
    · cases e
  | mod =>
    simp only [rbin] at e
    split at e
    · rename_i i j
      split at e
      · rename_i hm
        cases e; cases ra; cases rb
        exact op_mod pins s σ H _ _ v u Q I rx ry ⟨i, j, rfl, rfl, hm, fin rfl (.int _)⟩
      · cases e
    · cases e
  | pow =>
    simp only [rbin] at e
    split at e
    · rename_i i j
      split at e
      · rename_i hm
        cases e; cases ra; cases rb
        exact op_pow pins s σ H _ _ v u Q I rx ry ⟨i, j, rfl, rfl, hm, fin rfl (.int _)⟩
      · cases e
    · cases e

/-! ### comparisons -/
def copOf : COp → CmpOp
  | .eq => .Eq | .ne => .NotEq | .lt => .Lt | .le => .LtE | .gt => .Gt | .ge => .GtE | .isin => .In | .nin => .NotIn
def rMb (K : PySem.W.Frag) (cl : Str → Addr) (g : Sto → W → W → Option Bool) : R2 := fun v u H Q => ∃ F L S a b k, Sim K cl F L H S ∧ RepW K F L v a ∧ RepW K F L u b ∧ g S a b = some k ∧ Q (.bl k) H
theorem op_cmp {o : COp} (hu : X.A.units + 150 < cLine) : OpR X (compareOp (copOf o)) (rMb X.K cl (rcmp o)) := by
  intro pins s σ H x y v u Q I rx ry h
  obtain ⟨F, L, S, a, b, k, sm, ra, rb, e, q⟩ := h
  unfold rcmp at e
  split at e
  case h_2 => cases e
  rename_i d e' hd he
  have rd := viewD_ok sm ra hd
  have re := viewD_ok sm rb he
  obtain ⟨as, r1⟩ := Dp.reads I d x v rd.dp rx
  obtain ⟨bs, r2⟩ := Dp.reads I e' y u re.dp ry
  have fin : EP X pins σ Q (.bool k) s := ⟨.bl k, H, I, rfl, q⟩
  have heq : ∀ {k' : Bool}, eqD d e' = some k' → k' = PyData.eqv d e' ∧ X.A.units + min d.depth e'.depth < cLine := fun {k'} z => by
    unfold eqD at z
    split at z
    · cases z; exact ⟨rfl, by omega⟩
    · cases z
  have hin : ∀ {k' : Bool}, inD d e' = some k' → (∀ Q', Q' (.bool k') s → wpAny (model X.prog X.w) X.A (compareOp .In v u) Q' X.xe s) ∧ (∀ Q', Q' (.bool (!k')) s → wpAny (model X.prog X.w) X.A (compareOp .NotIn v u) Q' X.xe s) := fun {k'} z => by
    unfold inD at z
    split at z
    · split at z
      · cases z
        exact ⟨fun Q' q' => SeqAt.in_list_reads r2 r1 re.lay rd.lay (by omega) q', fun Q' q' => SeqAt.notIn_list_reads r2 r1 re.lay rd.lay (by omega) q'⟩
      · cases z
    · split at z
      · cases z
        exact ⟨fun Q' q' => SeqAt.in_tuple_reads r2 r1 re.lay rd.lay (by omega) q', fun Q' q' => SeqAt.notIn_tuple_reads r2 r1 re.lay rd.lay (by omega) q'⟩
      · cases z
    · split at z
      · cases z
        cases rd with | str i h1 => cases re with | str j h2 =>
          obtain ⟨t1, e1⟩ := rx
          obtain ⟨t2, e2⟩ := ry
          subst e1 e2
          exact ⟨fun Q' q' => PyProof.Rows.in_str q', fun Q' q' => PyProof.Rows.notIn_str q'⟩
      · cases z
    · cases z
  cases o with
  | eq =>
    obtain ⟨z1, z2⟩ := heq e
    subst z1
    exact SeqAt.compareEq_reads r1 r2 rd.lay re.lay z2 fin
  | ne =>
    obtain ⟨k', z, e⟩ := Option.map_eq_some_iff.mp (show (eqD d e').map (!·) = some k from e)
    obtain ⟨z1, z2⟩ := heq z
    subst z1 e
    exact SeqAt.compareNe_reads r1 r2 rd.lay re.lay z2 fin
  | isin => exact (hin e).1 _ fin
  | nin =>
    obtain ⟨k', z, e⟩ := Option.map_eq_some_iff.mp (show (inD d e').map (!·) = some k from e)
    subst e
    exact (hin z).2 _ fin
  | lt =>
    simp only [rcmpD] at e
    split at e
    · cases rd; cases re
      cases e
      exact op_lt pins s σ H _ _ v u Q I rx ry ⟨_, _, rfl, rfl, q⟩
    · cases e
  | le =>
    simp only [rcmpD] at e
    split at e
    · cases rd; cases re
      cases e
      exact op_le pins s σ H _ _ v u Q I rx ry ⟨_, _, rfl, rfl, q⟩
    · cases e
  | gt =>
    simp only [rcmpD] at e
    split at e
    · cases rd; cases re
      cases e
      exact op_gt pins s σ H _ _ v u Q I rx ry ⟨_, _, rfl, rfl, q⟩
    · cases e
  | ge =>
    simp only [rcmpD] at e
    split at e
    · cases rd; cases re
      cases e
      exact op_ge pins s σ H _ _ v u Q I rx ry ⟨_, _, rfl, rfl, q⟩
    · cases e
end
end Sc
namespace Sc
open PySem PySem.Spec PyProof.Rows L2

abbrev PX (X : Cx) (cl : Str → Addr) (C : Orc) (E : XK) (e : Expr) (x : Sc.X) : Prop := PE X e (tX X.K cl C E x)
abbrev PXT (X : Cx) (cl : Str → Addr) (C : Orc) (E : XK) (e : Expr) (x : Sc.X) : Prop := PT X e (tXT X.K cl C E x)
abbrev PXW (X : Cx) (cl : Str → Addr) (C : Orc) (E : XK) (e : Expr) (x : Sc.X) : Prop := PW X e (tXT X.K cl C E x)

theorem truth_ok {K : PySem.W.Frag} {H : Hp} {v : V} {d : D} (r : Rp K H v d) : TruV K v H (dTruth d) := by
  cases r with
  | non => rfl
  | bl b => rfl
  | int i => rfl
  | str x h => exact ⟨sok_len h, rfl⟩
  | lst h ra =>
    refine .inl ⟨_, SqL.of h, ?_⟩
    cases ra <;> rfl
  | tup h ra =>
    refine .inr (.inl ⟨_, h, ?_⟩)
    cases ra <;> rfl
theorem truthW_ok {K : PySem.W.Frag} {cl : ClA} {F : Hp} {L : Lv} {H : Hp} {S : Sto} {v : V} {w : W} {k : Bool} (s : Sim K cl F L H S) (r : RepW K F L v w) (h : truthW S w = some k) : TruV K v H k := by
  unfold truthW at h
  split at h
  · rename_i d hd
    cases h
    exact truth_ok (viewD_ok s r hd)
  · cases h

section
variable {X : Cx} {cl : Str → Addr} {C : Orc} {E : XK} {a b c : Expr} {xa xb xc : Sc.X} {pos : Pos}

theorem x_loc {i : Nat} {n : Str} (hN : X.N[i]? = some n) (hv : Vis X.env.scope n) (hd : (n == ("__debug__" : Str)) = false) (hcd : (n == ("__classdict__" : Str)) = false) : PX X cl C E (.Name n pos) (.loc i) :=
  (pe_var hN hv hd hcd).imp fun σ H Q ⟨F, L, e, S, s, se, p⟩ => by
    simp only [evN] at p
    split at p
    · rename_i w hw
      obtain ⟨v, h1, h2⟩ := se.2 i w hw
      exact ⟨v, h1, p F L H (Ext.refl _ _) s v h2⟩
    · exact p.elim
theorem x_dat {e : Expr} {v : V} {d : D} (h : PE X e (tC v)) (r : ∀ F, Rp X.K F v d) : PX X cl C E e (.dat d) :=
  h.imp fun σ H Q ⟨F, L, ev, S, s, se, p⟩ => by
    simp only [evN] at p
    exact p F L H (Ext.refl _ _) s v (r F)
theorem x_int {i : Int} {j : Nat} : PX X cl C E (.Constant (.int i) j pos) (.dat (.int i)) := x_dat pe_int fun _ => .int i
theorem x_bl {i : Bool} {j : Nat} : PX X cl C E (.Constant (.bool i) j pos) (.dat (.bool i)) := x_dat pe_bl fun _ => .bl i
theorem x_non {j : Nat} : PX X cl C E (.Constant .none j pos) (.dat .none) := x_dat pe_non fun _ => .non
theorem x_str {x : Str} {j : Nat} (h : sok x = true) : PX X cl C E (.Constant (.str x) j pos) (.dat (.str x)) := x_dat pe_str fun _ => .str x h

theorem x_bin {o : BOp} (ha : PX X cl C E a xa) (hb : PX X cl C E b xb) : PX X cl C E (.BinOp a (bopOf o) b pos) (.bin o xa xb) :=
  (pe_op (op_bin (cl := cl) (E := E)) ha hb).imp fun σ H Q ⟨F, L, e, S, s, se, p⟩ => by
    simp only [evN] at p
    refine tX_bind s se p fun r1 S1 v1 F1 L1 H1 x1 s1 se1 w1 p1 => ?_
    refine tX_bind s1 se1 p1 fun r2 S2 v2 F2 L2 H2 x2 s2 se2 w2 p2 => ?_
    exact ⟨F2, L2, S2, _, _, s2, w1.mono x2, w2, p2⟩
theorem x_un {i : Int} {j : Nat} {p : Pos} : PX X cl C E (.UnaryOp .USub (.Constant (.int i) j p) pos) (.dat (.int (-i))) :=
  (pe_un un_neg pe_int).imp fun σ H Q ⟨F, L, e, S, s, se, p⟩ => by
    simp only [evN] at p
    exact ⟨i, rfl, p F L H (Ext.refl _ _) s _ (.int (-i))⟩

theorem x_cmp {o : COp} (hu : X.A.units + 150 < cLine) (ha : PX X cl C E a xa) (hb : PX X cl C E b xb) (hm : behindInMarks (copOf o) b = false) : PX X cl C E (.Compare a [copOf o] [b] pos) (.cmp o xa xb) :=
  (pe_cmpR (op_cmp hu) ha hb hm).imp fun σ H Q ⟨F, L, e, S, s, se, p⟩ => by
    simp only [evN] at p
    refine tX_bind s se p fun r1 S1 v1 F1 L1 H1 x1 s1 se1 w1 p1 => ?_
    refine tX_bind s1 se1 p1 fun r2 S2 v2 F2 L2 H2 x2 s2 se2 w2 p2 => ?_
    obtain ⟨k, hk, p2⟩ := p2.bind.opt
    exact ⟨F2, L2, S2, _, _, k, s2, w1.mono x2, w2, hk, p2 F2 L2 H2 (Ext.refl _ _) s2 F2 L2 H2 (Ext.refl _ _) s2 _ (.bl k)⟩
theorem truthW_kb (S : Sto) (k : Bool) : truthW S (fz (kb k)) = some k := rfl
theorem xt_cmp {o : COp} (hu : X.A.units + 150 < cLine) (ha : PX X cl C E a xa) (hb : PX X cl C E b xb) (hm : behindInMarks (copOf o) b = false) : PXT X cl C E (.Compare a [copOf o] [b] pos) (.cmp o xa xb) :=
  (pt_cmpR (op_cmp hu) ha hb hm).imp fun σ H Q ⟨F, L, e, S, s, se, p⟩ => by
    have p : Post X.K cl E F L (fun b _ _ H' _ => Q b H') ((evN C xa e S).bind fun x S1 => (evN C xb e S1).bind fun y S2 => (opt (rcmp o S2 (fz x) (fz y)) S2).bind fun k S3 => .ok k S3) := by
      simp only [evT, evN] at p
      cases h1 : evN C xa e S with
      | ok r1 S1 =>
        simp only [h1, Res.bind_ok] at p ⊢
        cases h2 : evN C xb e S1 with
        | ok r2 S2 =>
          simp only [h2, Res.bind_ok] at p ⊢
          cases h3 : rcmp o S2 (fz r1) (fz r2) with
          | none => simp only [h3] at p; exact p
          | some k => simp only [h3, opt_some, Res.bind_ok, truthW_kb] at p ⊢; exact p
        | exc _ _ _ => simp only [h2, Res.bind_exc] at p ⊢; exact p
        | stuck => simp only [h2, Res.bind_stuck] at p ⊢; exact p
      | exc _ _ _ => simp only [h1, Res.bind_exc] at p ⊢; exact p
      | stuck => simp only [h1, Res.bind_stuck] at p ⊢; exact p
    refine tX_bind s se p fun r1 S1 v1 F1 L1 H1 x1 s1 se1 w1 p1 => ?_
    refine tX_bind s1 se1 p1 fun r2 S2 v2 F2 L2 H2 x2 s2 se2 w2 p2 => ?_
    obtain ⟨k, hk, p2⟩ := p2.bind.opt
    exact ⟨F2, L2, S2, _, _, k, s2, w1.mono x2, w2, hk, k, rfl, p2 F2 L2 H2 (Ext.refl _ _) s2 F2 L2 H2 (Ext.refl _ _) s2⟩
theorem tChn_ok {K : PySem.W.Frag} {o p : COp} {σ : St} {H : Hp} {Q : VK} (h : tX K cl C E (.chn o p xa xb xc) σ H Q) : tChain (rMb K cl (rcmp o)) (rMb K cl (rcmp p)) (tX K cl C E xa) (tX K cl C E xb) (tX K cl C E xc) σ H Q := by
    obtain ⟨F, L, e, S, s, se, p⟩ := h
    simp only [evN] at p
    refine tX_bind s se p fun r1 S1 v1 F1 L1 H1 x1 s1 se1 w1 p1 => ?_
    refine tX_bind s1 se1 p1 fun r2 S2 v2 F2 L2 H2 x2 s2 se2 w2 p2 => ?_
    obtain ⟨k, hk, p2⟩ := p2.bind.opt
    have p2 := p2 F2 L2 H2 (Ext.refl _ _) s2
    refine ⟨F2, L2, S2, _, _, k, s2, w1.mono x2, w2, hk, k, rfl, ?_⟩
    cases k with
    | true =>
      rw [if_pos rfl]
      refine tX_bind s2 se2 p2 fun r3 S3 v3 F3 L3 H3 x3 s3 se3 w3 p3 => ?_
      obtain ⟨k, hk, p3⟩ := p3.bind.opt
      exact ⟨F3, L3, S3, _, _, k, s3, w2.mono x3, w3, hk, p3 F3 L3 H3 (Ext.refl _ _) s3 F3 L3 H3 (Ext.refl _ _) s3 _ (.bl k)⟩
    | false =>
      rw [if_neg (by decide)]
      exact p2 F2 L2 H2 (Ext.refl _ _) s2 _ (.bl false)
theorem x_chn {o p : COp} (hu : X.A.units + 150 < cLine) (ha : PX X cl C E a xa) (hb : PX X cl C E b xb) (hc : PX X cl C E c xc) (hm : lastMarks [copOf o, copOf p] [b, c] = false) :
    PX X cl C E (.Compare a [copOf o, copOf p] [b, c] pos) (.chn o p xa xb xc) :=
  (pe_chain (op_cmp hu) (op_cmp hu) ha hb hc hm).imp fun σ H Q h => tChn_ok h
theorem tIsN_ok {K : PySem.W.Frag} {σ : St} {H : Hp} {Q : VK} (h : tX K cl C E (.isN false xa) σ H Q) : tIsN (tX K cl C E xa) σ H Q := by
    obtain ⟨F, L, e, S, s, se, p⟩ := h
    simp only [evN] at p
    refine tX_bind s se p fun r1 S1 v1 F1 L1 H1 x1 s1 se1 w1 p1 => ?_
    have q := p1 F1 L1 H1 (Ext.refl _ _) s1 (.bl (decide (v1 = .non)))
    refine q ?_
    generalize fz r1 = w at w1
    cases w with
    | d x =>
      cases w1 with
      | _ => exact .bl _
    | o n => obtain ⟨a, _, rfl⟩ := w1; exact .bl false
    | s ns => obtain ⟨a, rfl, _⟩ := w1; exact .bl false
    | k kvs => obtain ⟨a, vs, rfl, _⟩ := w1; exact .bl false
theorem x_isN {j : Nat} {p : Pos} (ha : PX X cl C E a xa) : PX X cl C E (.Compare a [.Is] [.Constant .none j p] pos) (.isN false xa) :=
  (pe_cmp (pc_isN ha)).imp fun σ H Q h => tIsN_ok h
theorem tIsNot_ok {K : PySem.W.Frag} {σ : St} {H : Hp} {Q : VK} (h : tX K cl C E (.isN true xa) σ H Q) : tNotN (tX K cl C E xa) σ H Q := by
    obtain ⟨F, L, e, S, s, se, p⟩ := h
    simp only [evN] at p
    refine tX_bind s se p fun r1 S1 v1 F1 L1 H1 x1 s1 se1 w1 p1 => ?_
    have q := p1 F1 L1 H1 (Ext.refl _ _) s1 (.bl (!decide (v1 = .non)))
    refine q ?_
    generalize fz r1 = w at w1
    cases w with
    | d x =>
      cases w1 with
      | _ => exact .bl _
    | o n => obtain ⟨a, _, rfl⟩ := w1; exact .bl true
    | s ns => obtain ⟨a, rfl, _⟩ := w1; exact .bl true
    | k kvs => obtain ⟨a, vs, rfl, _⟩ := w1; exact .bl true
theorem x_isNot {j : Nat} {p : Pos} (ha : PX X cl C E a xa) : PX X cl C E (.Compare a [.IsNot] [.Constant .none j p] pos) (.isN true xa) :=
  (pe_cmp (pc_notN ha)).imp fun σ H Q h => tIsNot_ok h


/-- a test by a value's truth -/
theorem xt_val (ha : PX X cl C E a xa) (he : ∀ whole, isTrue a X.env whole = (do let v ← whole; standAt a.pos; holding [v] (truthy v))) : PXT X cl C E a xa :=
  (pt_truth ha he).imp fun σ H Q ⟨F, L, e, S, s, se, p⟩ => by
    refine tX_bind s se p fun r1 S1 v1 F1 L1 H1 x1 s1 se1 w1 p1 => ?_
    obtain ⟨k, hk, p1⟩ := p1.opt
    exact ⟨k, truthW_ok s1 w1 hk, p1 F1 L1 H1 (Ext.refl _ _) s1⟩
theorem evT_and {x y : Sc.X} {e : Ev} {S : Sto} : evT C (.and x y) e S = (evT C x e S).bind fun k S1 => match k with
    | true => evT C y e S1
    | false => .ok false S1 := by
  simp only [evT, evN]
  cases h1 : evN C x e S with
  | ok r1 S1 =>
    simp only [Res.bind_ok]
    cases h2 : truthW S1 (fz r1) with
    | none => rfl
    | some k => cases k with
      | true => rfl
      | false => simp only [opt_some, Res.bind_ok]; show opt (truthW S1 (fz r1)) S1 = _; rw [h2]; rfl
  | exc _ _ _ => rfl
  | stuck => rfl
theorem evT_or {x y : Sc.X} {e : Ev} {S : Sto} : evT C (.or x y) e S = (evT C x e S).bind fun k S1 => match k with
    | true => .ok true S1
    | false => evT C y e S1 := by
  simp only [evT, evN]
  cases h1 : evN C x e S with
  | ok r1 S1 =>
    simp only [Res.bind_ok]
    cases h2 : truthW S1 (fz r1) with
    | none => rfl
    | some k => cases k with
      | false => rfl
      | true => simp only [opt_some, Res.bind_ok]; show opt (truthW S1 (fz r1)) S1 = _; rw [h2]; rfl
  | exc _ _ _ => rfl
  | stuck => rfl
theorem evT_not {x : Sc.X} {e : Ev} {S : Sto} : evT C (.not x) e S = (evT C x e S).bind fun k S1 => .ok (!k) S1 := by
  simp only [evT, evN]
  cases h1 : evN C x e S with
  | ok r1 S1 =>
    simp only [Res.bind_ok]
    cases h2 : truthW S1 (fz r1) with
    | none => rfl
    | some k => rfl
  | exc _ _ _ => rfl
  | stuck => rfl
theorem tXT_bind {K : PySem.W.Frag} {F : Hp} {L : Lv} {σ : St} {H : Hp} {e : Ev} {S : Sto} {β : Type} {ρ : β → Hp → Lv → Hp → Sto → Prop} {f : Bool → Sto → Res β} {x : Sc.X} {Q : Bool → Hp → Prop} (s : Sim K cl F L H S) (se : SimE K F L σ e) (p : Post K cl E F L ρ ((evT C x e S).bind f))
    (h : ∀ k S1 F1 L1 H1, Ext F L F1 L1 → Sim K cl F1 L1 H1 S1 → SimE K F1 L1 σ e → Post K cl E F1 L1 ρ (f k S1) → Q k H1) : tXT K cl C E x σ H Q :=
  ⟨F, L, e, S, s, se, p.bind.imp fun k F1 L1 H1 S1 x1 s1 p1 => h k S1 F1 L1 H1 x1 s1 (se.mono x1) p1⟩

theorem x_and1 {op} (ha : PX X cl C E a xa) : PX X cl C E (.BoolOp op [a] pos) xa := pe_one ha
theorem xw_and1 (ha : PXT X cl C E a xa) : PXW X cl C E (.BoolOp .And [a] pos) xa := pw_and1 ha
theorem xw_or1 (ha : PXT X cl C E a xa) : PXW X cl C E (.BoolOp .Or [a] pos) xa := pw_or1 ha
variable {rest : List Expr}
theorem xw_and (ha : PXT X cl C E a xa) (hb : PXW X cl C E (.BoolOp .And (b :: rest) pos) xb) : PXW X cl C E (.BoolOp .And (a :: b :: rest) pos) (.and xa xb) :=
  (pw_and ha hb).imp fun σ H Q ⟨F, L, e, S, s, se, p⟩ => by
    rw [evT_and] at p
    refine tXT_bind s se p fun k S1 F1 L1 H1 x1 s1 se1 p1 => ?_
    cases k with
    | true => rw [if_pos rfl]; exact ⟨F1, L1, e, S1, s1, se1, p1⟩
    | false => rw [if_neg (by decide)]; exact p1 F1 L1 H1 (Ext.refl _ _) s1
theorem xw_or (ha : PXT X cl C E a xa) (hb : PXW X cl C E (.BoolOp .Or (b :: rest) pos) xb) : PXW X cl C E (.BoolOp .Or (a :: b :: rest) pos) (.or xa xb) :=
  (pw_or ha hb).imp fun σ H Q ⟨F, L, e, S, s, se, p⟩ => by
    rw [evT_or] at p
    refine tXT_bind s se p fun k S1 F1 L1 H1 x1 s1 se1 p1 => ?_
    cases k with
    | false => rw [if_neg (by decide)]; exact ⟨F1, L1, e, S1, s1, se1, p1⟩
    | true => rw [if_pos rfl]; exact p1 F1 L1 H1 (Ext.refl _ _) s1
theorem xt_not (ha : PXT X cl C E a xa) : PXT X cl C E (.UnaryOp .Not a pos) (.not xa) :=
  (pt_not ha).imp fun σ H Q ⟨F, L, e, S, s, se, p⟩ => by
    rw [evT_not] at p
    exact tXT_bind s se p fun k S1 F1 L1 H1 x1 s1 se1 p1 => p1 F1 L1 H1 (Ext.refl _ _) s1
theorem x_and (ha : PX X cl C E a xa) (hb : PX X cl C E (.BoolOp .And (b :: rest) pos) xb) : PX X cl C E (.BoolOp .And (a :: b :: rest) pos) (.and xa xb) :=
  (pe_andT ha hb).imp fun σ H Q ⟨F, L, e, S, s, se, p⟩ => by
    simp only [evN] at p
    refine tX_bind s se p fun r1 S1 v1 F1 L1 H1 x1 s1 se1 w1 p1 => ?_
    obtain ⟨k, hk, p1⟩ := p1.bind.opt
    have p1 := p1 F1 L1 H1 (Ext.refl _ _) s1
    refine ⟨k, truthW_ok s1 w1 hk, ?_⟩
    cases k with
    | true => rw [if_pos rfl]; exact ⟨F1, L1, e, S1, s1, se1, p1⟩
    | false => rw [if_neg (by decide)]; exact p1 F1 L1 H1 (Ext.refl _ _) s1 v1 w1
theorem x_or (ha : PX X cl C E a xa) (hb : PX X cl C E (.BoolOp .Or (b :: rest) pos) xb) : PX X cl C E (.BoolOp .Or (a :: b :: rest) pos) (.or xa xb) :=
  (pe_orT ha hb).imp fun σ H Q ⟨F, L, e, S, s, se, p⟩ => by
    simp only [evN] at p
    refine tX_bind s se p fun r1 S1 v1 F1 L1 H1 x1 s1 se1 w1 p1 => ?_
    obtain ⟨k, hk, p1⟩ := p1.bind.opt
    have p1 := p1 F1 L1 H1 (Ext.refl _ _) s1
    refine ⟨k, truthW_ok s1 w1 hk, ?_⟩
    cases k with
    | false => rw [if_neg (by decide)]; exact ⟨F1, L1, e, S1, s1, se1, p1⟩
    | true => rw [if_pos rfl]; exact p1 F1 L1 H1 (Ext.refl _ _) s1 v1 w1
theorem x_not (ha : PX X cl C E a xa) : PX X cl C E (.UnaryOp .Not a pos) (.not xa) :=
  (pe_notT ha).imp fun σ H Q ⟨F, L, e, S, s, se, p⟩ => by
    simp only [evN] at p
    refine tX_bind s se p fun r1 S1 v1 F1 L1 H1 x1 s1 se1 w1 p1 => ?_
    obtain ⟨k, hk, p1⟩ := p1.bind.opt
    exact ⟨k, truthW_ok s1 w1 hk, p1 F1 L1 H1 (Ext.refl _ _) s1 F1 L1 H1 (Ext.refl _ _) s1 _ (.bl (!k))⟩
theorem x_ite (hc : PXT X cl C E c xc) (ha : PX X cl C E a xa) (hb : PX X cl C E b xb) : PX X cl C E (.IfExp c a b pos) (.ite xc xa xb) :=
  (pe_ifExp hc ha hb).imp fun σ H Q ⟨F, L, e, S, s, se, p⟩ => by
    have p : Post X.K cl E F L (ρR X.K Q) ((evT C xc e S).bind fun k S2 => match k with
      | true => evN C xa e S2
      | false => evN C xb e S2) := by
      simp only [evN] at p
      simp only [evT]
      cases h1 : evN C xc e S with
      | ok r1 S1 => simp only [h1, Res.bind_ok] at p ⊢; exact p
      | exc _ _ _ => simp only [h1, Res.bind_exc] at p ⊢; exact p
      | stuck => simp only [h1, Res.bind_stuck] at p ⊢; exact p
    refine tXT_bind s se p fun k S1 F1 L1 H1 x1 s1 se1 p1 => ?_
    cases k with
    | true => rw [if_pos rfl]; exact ⟨F1, L1, e, S1, s1, se1, p1⟩
    | false => rw [if_neg (by decide)]; exact ⟨F1, L1, e, S1, s1, se1, p1⟩
/-- a chain as a test -/
theorem xt_of_bool (h : PT X a (tTest (tX X.K cl C E xa))) (hb : ∀ e S, ∃ g : Sto → Res Bool, evN C xa e S = (g S).bind fun k S1 => .ok (kb k) S1) : PXT X cl C E a xa :=
  h.imp fun σ H Q ⟨F, L, e, S, s, se, p⟩ => by
    obtain ⟨g, hg⟩ := hb e S
    refine ⟨F, L, e, S, s, se, ?_⟩
    simp only [evT] at p
    rw [hg] at p ⊢
    generalize g S = res at p ⊢
    cases res with
    | ok k S1 =>
      simp only [Res.bind_ok, truthW_kb, opt_some] at p ⊢
      intro F' L' H' x' s' v rv
      cases rv
      exact ⟨k, rfl, p F' L' H' x' s'⟩
    | exc _ _ _ => exact p
    | stuck => exact p
end
end Sc
namespace Sc
open PySem PySem.Spec PyProof.Rows L2

theorem Post.keq {K : PySem.W.Frag} {cl : Str → Addr} {E : XK} {F : Hp} {L : Lv} {α : Type} {ρ : α → Hp → Lv → Hp → Sto → Prop} : ∀ {r : Res α}, Post K cl E F L ρ r → Post K cl E F L (fun a F' L' H' S' => ρ a F' L' H' S' ∧ r = .ok a S') r
  | .ok _ _, h => fun F' L' H' e s => ⟨h F' L' H' e s, rfl⟩
  | .exc _ _ _, h => h
  | .stuck, h => h
theorem Res.bind_eq {α β : Type} {r : Res α} {f : α → Sto → Res β} {b : β} {S : Sto} (h : r.bind f = .ok b S) : ∃ a S1, r = .ok a S1 ∧ f a S1 = .ok b S := by
  cases r with
  | ok a S1 => exact ⟨a, S1, rfl, h⟩
  | exc _ _ _ => cases h
  | stuck => cases h
theorem evs_length {C : Orc} : ∀ {xs : List Sc.X} {lv : List Bool} {e : Ev} {S : Sto} {ws : List W} {S' : Sto}, evs C xs lv e S = .ok ws S' → ws.length = xs.length
  | [], _, _, _, _, _, h => by simp only [evs] at h; cases h; rfl
  | x :: xs, lv, e, S, ws, S', h => by
    simp only [evs] at h
    obtain ⟨r, S1, _, h⟩ := Res.bind_eq h
    obtain ⟨w, S2, _, h⟩ := Res.bind_eq h
    obtain ⟨us, S3, h3, h⟩ := Res.bind_eq h
    cases h
    simp [evs_length h3]

/-! ### argument lists -/
def tXs (K : PySem.W.Frag) (cl : Str → Addr) (C : Orc) (E : XK) (xs : List Sc.X) (lv : List Bool) : TA := fun σ H Q => ∃ F L e S, Sim K cl F L H S ∧ SimE K F L σ e ∧ Post K cl E F L (fun ws F' L' H' _ => ∀ vs, RepWs K F' L' vs ws → Q vs H') (evs C xs lv e S)
theorem give_ok {K : PySem.W.Frag} {cl : Str → Addr} {E : XK} {F : Hp} {L : Lv} {H : Hp} {S : Sto} {v : V} {r : R} {lv : Bool} {β : Type} {ρ : β → Hp → Lv → Hp → Sto → Prop} {f : W → Sto → Res β} (s : Sim K cl F L H S) (h : RepR K F L H v r) (p : Post K cl E F L ρ ((give lv r S).bind f)) :
    ∃ F2 L2 S2 w, Ext F L F2 L2 ∧ Sim K cl F2 L2 H S2 ∧ RepW K F2 L2 v w ∧ Post K cl E F2 L2 ρ (f w S2) := by
  cases r with
  | w x => exact ⟨F, L, S, x, Ext.refl _ _, s, h, p⟩
  | n xs =>
    obtain ⟨a, vs, e, hH, hF, r⟩ := h
    subst e
    cases lv with
    | true =>
      obtain ⟨s2, x2, g2⟩ := s.live hH hF r
      exact ⟨F, _, _, .o S.length, x2, s2, ⟨a, g2, rfl⟩, p.anti x2⟩
    | false =>
      obtain ⟨s2, x2⟩ := s.freeze hH hF
      exact ⟨_, L, S, .d (.list xs), x2, s2, Rp.lst upd_same (r.mono x2.f), p.anti x2⟩
  | nk kvs =>
    obtain ⟨a, vs, e, hH, hF, r⟩ := h
    subst e
    cases lv with
    | true =>
      obtain ⟨s2, x2, g2⟩ := s.liveM (mo := .dic kvs) hF ⟨a, vs, rfl, hH, r⟩
      exact ⟨F, _, _, .o S.length, x2, s2, ⟨a, g2, rfl⟩, p.anti x2⟩
    | false =>
      obtain ⟨s2, x2⟩ := s.freeze hH hF
      exact ⟨_, L, S, .k kvs, x2, s2, ⟨a, vs, rfl, upd_same, r.mono x2.f⟩, p.anti x2⟩
section
variable {X : Cx} {cl : Str → Addr} {C : Orc} {E : XK} {a b c : Expr} {xa xb xc : Sc.X} {pos : Pos} {es : List Expr} {xs : List Sc.X} {lv : List Bool}
theorem _root_.L2.PA.imp {X : Cx} {e : List Expr} {t t' : TA} (h : PA X e t) (i : ∀ σ H Q, t' σ H Q → t σ H Q) : PA X e t' := ⟨fun pos pins s σ H Q I q => h.run pos pins s σ H Q I (i σ H Q q)⟩
theorem xs_nil : PA X [] (tXs X.K cl C E [] lv) := pa_nil.imp fun σ H Q ⟨F, L, e, S, s, se, p⟩ => by
  simp only [evs] at p
  exact p F L H (Ext.refl _ _) s [] .nil
theorem xs_cons (ha : PX X cl C E a xa) (hr : PA X es (tXs X.K cl C E xs lv.tail)) (hs : starEach (a :: es) X.env = (false, eval a X.env) :: starEach es X.env) : PA X (a :: es) (tXs X.K cl C E (xa :: xs) lv) :=
  (pa_cons ha hr hs).imp fun σ H Q ⟨F, L, e, S, s, se, p⟩ => by
    simp only [evs] at p
    refine tX_bindR s se p fun r1 S1 v1 F1 L1 H1 x1 s1 se1 w1 p1 => ?_
    obtain ⟨F2, L2, S2, w, x2, s2, w2, p2⟩ := give_ok s1 w1 p1
    refine ⟨F2, L2, e, S2, s2, se1.mono x2, p2.bind.imp fun ws F3 L3 H3 S3 x3 s3 p3 vs rs => ?_⟩
    exact p3 F3 L3 H3 (Ext.refl _ _) s3 (v1 :: vs) (.cons (w2.mono x3) rs)

theorem datas_ok {K : PySem.W.Frag} {F : Hp} {L : Lv} : ∀ {ws : List W} {vs : List V} {ds : List D}, RepWs K F L vs ws → datas ws = some ds → RpAll K F vs ds
  | [], _, _, .nil, h => by cases h; exact .nil
  | .d x :: ws, _, ds, .cons r rs, h => by
    obtain ⟨es, he, e⟩ := Option.map_eq_some_iff.mp (show (datas ws).map (x :: ·) = some ds from h)
    subst e
    exact .cons r (datas_ok rs he)
theorem x_tup {k : Nat} (h : PA X es (tXs X.K cl C E xs [])) (hl : xs.length ≤ sizeLine) : PX X cl C E (.Tuple es k pos) (.tup xs) :=
  (pe_tup h).imp fun σ H Q ⟨F, L, e, S, s, se, p⟩ => by
    simp only [evN] at p
    refine ⟨F, L, e, S, s, se, p.bind.keq.imp fun ws F1 L1 H1 S1 x1 s1 ⟨p1, q1⟩ vs rs => ?_⟩
    obtain ⟨ds, hd, p1⟩ := p1.bind.opt
    have p1 := p1 F1 L1 H1 (Ext.refl _ _) s1
    have rd := datas_ok rs hd
    refine ⟨by rw [rs.length, evs_length q1]; exact hl, fun q hq => ?_⟩
    obtain ⟨s2, x2⟩ := s1.newF (o := .tup vs) hq
    exact p1 _ _ _ x2 s2 _ (.tup (SqT.of upd_same) (rd.mono x2.f))
theorem x_lst (h : PA X es (tXs X.K cl C E xs [])) (hl : xs.length ≤ sizeLine) : PX X cl C E (.List es pos) (.lst xs) :=
  (pe_lst h).imp fun σ H Q ⟨F, L, e, S, s, se, p⟩ => by
    simp only [evN] at p
    refine ⟨F, L, e, S, s, se, p.bind.keq.imp fun ws F1 L1 H1 S1 x1 s1 ⟨p1, q1⟩ vs rs => ?_⟩
    obtain ⟨ds, hd, p1⟩ := p1.bind.opt
    have p1 := p1 F1 L1 H1 (Ext.refl _ _) s1
    have rd := datas_ok rs hd
    refine ⟨by rw [rs.length, evs_length q1]; exact hl, fun q hq => ?_⟩
    obtain ⟨s2, f2⟩ := s1.newH (o := .lst vs) hq
    exact p1 _ _ _ (Ext.refl _ _) s2 _ ⟨q, vs, rfl, upd_same, f2, rd⟩

/-! ### subscripts, slices -/
theorem RpAll.atI {K : PySem.W.Frag} {F : Hp} {vs : List V} {ds : List D} {k : Int} {d : D} (r : RpAll K F vs ds) (h : L2.atI ds k = some d) : ∃ v, L2.atI vs k = some v ∧ Rp K F v d := by
  unfold L2.atI at h ⊢
  rw [r.length]
  cases q : ixN ds.length k with
  | none => rw [q] at h; cases h
  | some j => rw [q] at h; exact r.get h
theorem sok_one {x : Str} {c : Nat} (h : sok x = true) (hc : c ∈ x.cps.toList) : sok ⟨#[c]⟩ = true := by
  unfold sok
  rw [Bool.and_eq_true_iff]
  refine ⟨decide_eq_true (show 1 ≤ sizeLine from by rw [sizeLine_eq]; decide), ?_⟩
  have q := sok_ok h
  unfold PyData.strOk at q ⊢
  have := Array.all_eq_true'.mp q c (by simpa using hc)
  simpa using this
theorem ix_ok : IxR X (rM X.K cl E ridx) := by
  intro value slice pins s σ H x y v u Q I rx ry h hs
  obtain ⟨F, L, S, a, i, sm, ra, ri, p⟩ := h
  obtain ⟨r, e, p⟩ := p.opt
  have fin : ∀ {z : D} {t : V}, r = .w (.d z) → Rp X.K F t z → Q t H := fun er h => p F L H (Ext.refl _ _) sm _ (by subst er; exact h)
  unfold ridx at e
  split at e
  case h_2 => cases e
  rename_i k
  cases ri
  split at e
  · rename_i xs
    obtain ⟨d, hd, er⟩ := Option.map_eq_some_iff.mp e
    cases ra with | lst h1 r1 =>
      obtain ⟨z, hz, rz⟩ := r1.atI hd
      exact ix_list value slice pins s σ H _ _ v u Q I rx ry ⟨_, _, k, z, rfl, rfl, SqL.of (sm.sub _ _ h1), hz, fin er.symm rz⟩ hs
  · rename_i xs
    obtain ⟨d, hd, er⟩ := Option.map_eq_some_iff.mp e
    cases ra with | tup h1 r1 =>
      obtain ⟨z, hz, rz⟩ := r1.atI hd
      exact ix_tup value slice pins s σ H _ _ v u Q I rx ry ⟨_, _, k, z, rfl, rfl, sm.sub.sqT h1, hz, fin er.symm rz⟩ hs
  · rename_i xs
    obtain ⟨d, hd, er⟩ := Option.map_eq_some_iff.mp e
    cases ra with | str _ h1 =>
      refine ix_str value slice pins s σ H _ _ v u Q I rx ry ⟨xs, k, d, rfl, rfl, sok_len h1, hd, fin er.symm (.str _ (sok_one h1 ?_))⟩ hs
      obtain ⟨j, _, hj, _⟩ := atI_get hd
      exact List.mem_of_getElem? hj
  · rename_i n
    obtain ⟨a, hl, rfl⟩ := ra
    split at e
    · rename_i xs hS
      obtain ⟨d, hd, er⟩ := Option.map_eq_some_iff.mp e
      obtain ⟨b, vs, eb, hb, r1⟩ := sm.objs n _ _ hl hS
      cases eb
      obtain ⟨z, hz, rz⟩ := r1.atI hd
      exact ix_list value slice pins s σ H _ _ v u Q I rx ry ⟨_, _, k, z, rfl, rfl, SqL.of hb, hz, fin er.symm rz⟩ hs
    · cases e
  · rename_i ns
    obtain ⟨a, rfl, hq⟩ := ra
    obtain ⟨d, hd, er⟩ := Option.map_eq_some_iff.mp e
    refine ix_list value slice pins s σ H _ _ v u Q I rx ry ⟨_, _, k, .int d, rfl, rfl, sm.sub.sqL hq, ?_, fin er.symm (.int d)⟩ hs
    unfold L2.atI at hd ⊢
    rw [List.length_map]
    cases q : ixN ns.length k with
    | none => rw [q] at hd; cases hd
    | some j => rw [q] at hd; simp only [Option.bind_some] at hd ⊢; rw [List.getElem?_map, hd]; rfl
  · cases e
theorem x_idx (ha : PX X cl C E a xa) (hb : PX X cl C E b xb) (hs : PlainIx b) : PX X cl C E (.Subscript a b pos) (.idx xa xb) :=
  (pe_ix (ix_ok (cl := cl) (E := E)) ha hb hs).imp fun σ H Q ⟨F, L, e, S, s, se, p⟩ => by
    simp only [evN] at p
    refine tX_bind s se p fun r1 S1 v1 F1 L1 H1 x1 s1 se1 w1 p1 => ?_
    refine tX_bind s1 se1 p1 fun r2 S2 v2 F2 L2 H2 x2 s2 se2 w2 p2 => ?_
    exact ⟨F2, L2, S2, _, _, s2, w1.mono x2, w2, p2⟩

def rSlM (K : PySem.W.Frag) (cl : Str → Addr) (E : XK) : V → Option Int → Option Int → Hp → VK → Prop := fun v lo hi H Q => ∃ F L S a, Sim K cl F L H S ∧ RepW K F L v a ∧ Post K cl E F L (ρR K Q) (opt (rsl S a lo hi) S)
theorem RpAll.cut {K : PySem.W.Frag} {F : Hp} {vs : List V} {ds : List D} (r : RpAll K F vs ds) (lo hi : Option Int) : RpAll K F (cutV vs lo hi) (cutD ds lo hi) := by
  unfold cutV cutD
  rw [r.length]
  exact (r.drop _).take _
theorem cutD_all {xs : List D} {lo hi : Option Int} (h : HT.sIx xs.length 0 lo = 0 ∧ HT.sIx xs.length xs.length hi = xs.length) : cutD xs lo hi = xs := by
  unfold cutD
  rw [h.1, h.2]
  simp
theorem sl_ok : SlR X (rSlM X.K cl E) := by
  intro pins s σ H x v vl vu lo hi sl Q I rx hs pl pu h
  obtain ⟨F, L, S, a, sm, ra, p⟩ := h
  obtain ⟨r, e, p⟩ := p.opt
  unfold rsl at e
  split at e
  · rename_i xs
    cases e
    cases ra with | tup h1 r1 =>
      have hl := r1.length
      refine sl_tupA pins s σ H _ v vl vu lo hi sl Q I rx hs pl pu ⟨_, _, rfl, sm.sub.sqT h1, fun hw => ?_, fun hw q hq => ?_⟩
      · refine p F L H (Ext.refl _ _) sm _ ?_
        rw [hl] at hw
        rw [cutD_all hw]
        exact .tup h1 r1
      · obtain ⟨s2, x2⟩ := sm.newF (o := .tup (cutV _ lo hi)) hq
        exact p _ _ _ x2 s2 _ (.tup (SqT.of upd_same) ((r1.cut lo hi).mono x2.f))
  · split at e
    · rename_i xs hx
      cases e
      obtain ⟨a1, vs, rfl, hh1, r1⟩ := viewL_ok sm ra hx
      refine sl_list pins s σ H _ v vl vu lo hi sl Q I rx hs pl pu ⟨_, _, rfl, SqL.of hh1, fun q hq => ?_⟩
      obtain ⟨s2, f2⟩ := sm.newH (o := .lst (cutV vs lo hi)) hq
      exact p _ _ _ (Ext.refl _ _) s2 _ ⟨q, _, rfl, upd_same, f2, r1.cut lo hi⟩
    · cases e
theorem asInt_ok {K : PySem.W.Frag} {F : Hp} {L : Lv} {v : V} {w : W} {i : Int} (r : RepW K F L v w) (h : asInt w = some i) : v = .int i := by
  unfold asInt at h
  split at h
  · cases h; cases r; rfl
  · cases h
variable {p2 : Pos}
theorem x_slF (ha : PX X cl C E a xa) (hb : PX X cl C E b xb) : PX X cl C E (.Subscript a (.Slice (some b) none none p2) pos) (.slF xa xb) :=
  (pe_slice (sl_ok (cl := cl) (E := E)) ha (po_some hb) po_none).imp fun σ H Q ⟨F, L, e, S, s, se, p⟩ => by
    simp only [evN] at p
    refine tX_bind s se p fun r1 S1 v1 F1 L1 H1 x1 s1 se1 w1 p1 => ?_
    refine tX_bind s1 se1 p1 fun r2 S2 v2 F2 L2 H2 x2 s2 se2 w2 p2 => ?_
    obtain ⟨i, hi, p2⟩ := p2.bind.opt
    exact ⟨i, asInt_ok w2 hi, F2, L2, S2, _, s2, w1.mono x2, p2 F2 L2 H2 (Ext.refl _ _) s2⟩
theorem x_slT (ha : PX X cl C E a xa) (hb : PX X cl C E b xb) : PX X cl C E (.Subscript a (.Slice none (some b) none p2) pos) (.slT xa xb) :=
  (pe_slice (sl_ok (cl := cl) (E := E)) ha po_none (po_some hb)).imp fun σ H Q ⟨F, L, e, S, s, se, p⟩ => by
    simp only [evN] at p
    refine tX_bind s se p fun r1 S1 v1 F1 L1 H1 x1 s1 se1 w1 p1 => ?_
    refine tX_bind s1 se1 p1 fun r2 S2 v2 F2 L2 H2 x2 s2 se2 w2 p2 => ?_
    obtain ⟨i, hi, p2⟩ := p2.bind.opt
    exact ⟨i, asInt_ok w2 hi, F2, L2, S2, _, s2, w1.mono x2, p2 F2 L2 H2 (Ext.refl _ _) s2⟩
theorem x_slB (ha : PX X cl C E a xa) (hb : PX X cl C E b xb) (hc : PX X cl C E c xc) : PX X cl C E (.Subscript a (.Slice (some b) (some c) none p2) pos) (.slB xa xb xc) :=
  (pe_slice (sl_ok (cl := cl) (E := E)) ha (po_some hb) (po_some hc)).imp fun σ H Q ⟨F, L, e, S, s, se, p⟩ => by
    simp only [evN] at p
    refine tX_bind s se p fun r1 S1 v1 F1 L1 H1 x1 s1 se1 w1 p1 => ?_
    refine tX_bind s1 se1 p1 fun r2 S2 v2 F2 L2 H2 x2 s2 se2 w2 p2 => ?_
    obtain ⟨i, hi, p2⟩ := p2.bind.opt
    have p2 := p2 F2 L2 H2 (Ext.refl _ _) s2
    refine ⟨i, asInt_ok w2 hi, ?_⟩
    refine tX_bind s2 se2 p2 fun r3 S3 v3 F3 L3 H3 x3 s3 se3 w3 p3 => ?_
    obtain ⟨j, hj, p3⟩ := p3.bind.opt
    exact ⟨j, asInt_ok w3 hj, F3, L3, S3, _, s3, (w1.mono x2).mono x3, p3 F3 L3 H3 (Ext.refl _ _) s3⟩
theorem x_rev {k : Nat} {q1 q2 q3 : Pos} (ha : PX X cl C E a xa) : PX X cl C E (.Subscript a (.Slice none none (some (.UnaryOp .USub (.Constant (.int 1) k q1) q2)) q3) pos) (.rev xa) :=
  (pe_revL ha).imp fun σ H Q ⟨F, L, e, S, s, se, p⟩ => by
    simp only [evN] at p
    refine tX_bind s se p fun r1 S1 v1 F1 L1 H1 x1 s1 se1 w1 p1 => ?_
    obtain ⟨xs, hx, p1⟩ := p1.bind.opt
    obtain ⟨a1, vs, rfl, hh1, r1⟩ := viewL_ok s1 w1 hx
    refine ⟨a1, vs, rfl, SqL.of hh1, fun q hq => ?_⟩
    obtain ⟨s2, f2⟩ := s1.newH (o := .lst vs.reverse) hq
    exact p1 F1 L1 H1 (Ext.refl _ _) s1 _ _ _ (Ext.refl _ _) s2 _ ⟨q, _, rfl, upd_same, f2, r1.reverse⟩
end
end Sc
namespace Sc
open PySem PySem.Spec PyProof.Rows L2

/-! ### isinstance -/
def dTy : D → String
  | .none => "NoneType" | .bool _ => "bool" | .int _ => "int" | .str _ => "str" | .list _ => "list" | .tuple _ => "tuple" | .dict _ => "dict"
def tyN : Ty → String
  | .int => "int" | .bool => "bool" | .str => "str" | .tup => "tuple" | .lst => "list"
def isTyS : Ty → String → Bool
  | .int, "int" => true
  | .int, "bool" => true
  | .bool, "bool" => true
  | .str, "str" => true
  | .tup, "tuple" => true
  | .lst, "list" => true
  | _, _ => false
theorem ty_of {K : PySem.W.Frag} {H : Hp} {v : V} {d : D} (r : Rp K H v d) : TyX K H v (.type (dTy d)) := by
  cases r with
  | non => exact .base .non
  | bl b => exact .base (.bl b)
  | int i => exact .base (.int i)
  | str x h => exact .base (.str x)
  | lst h ra => exact .base (.lst h)
  | tup h ra =>
    rcases h with (h | ⟨o, h⟩) | ⟨o, its, n, hk, hc, _⟩
    · exact .base (.tup h)
    · exact .fTuple h
    · exact .kTuple hk hc
theorem kit_is {K : PySem.W.Frag} (t : Ty) {v : V} {H : Hp} {d : D} (r : Rp K H v d) : PySem.W.kitOne K (.type (dTy d)) (.type (tyN t)) = some (isTy t d) := by
  have h : ∀ n : String, n ∈ ["NoneType", "bool", "int", "str", "list", "tuple"] → kitB n (tyN t) = some (isTyS t n) := by
    intro n hn
    simp only [List.mem_cons, List.not_mem_nil, or_false] at hn
    rcases hn with rfl | rfl | rfl | rfl | rfl | rfl <;> cases t <;> decide +kernel
  have e : isTy t d = isTyS t (dTy d) := by cases r <;> cases t <;> rfl
  rw [e]
  exact kit_ty (h _ (by cases r <;> simp [dTy]))
theorem boot_isinstance' : bootBuiltins ("isinstance" : Str) = some (.builtin "isinstance") := by decide +kernel
theorem boot_ty (t : Ty) : bootBuiltins (tyN t : Str) = some (.type (tyN t)) := by cases t <;> decide +kernel
theorem ty_ne (t : Ty) : (tyN t : Str) ≠ ("__name__" : Str) := by cases t <;> decide +kernel
theorem ty_nd (t : Ty) : ((tyN t : Str) == ("__debug__" : Str)) = false := by cases t <;> decide +kernel

section
variable {X : Cx} {cl : Str → Addr} {C : Orc} {E : XK} {a b c : Expr} {xa xb xc : Sc.X} {pos p pT : Pos} {es : List Expr} {xs : List Sc.X} {lv : List Bool}
theorem x_isi {t : Ty} (ha : PX X cl C E a xa) (hg : Gl X "isinstance") (hm : X.mg "isinstance" = none) (hg2 : Gl X (tyN t)) (hm2 : X.mg (tyN t) = none)
    (hs : starEach [a, .Name (tyN t) pT] X.env = (false, eval a X.env) :: starEach [.Name (tyN t) pT] X.env) (hs2 : starEach [.Name (tyN t) pT] X.env = [(false, eval (.Name (tyN t) pT) X.env)]) :
    PX X cl C E (.Call (.Name "isinstance" p) [a, .Name (tyN t) pT] [] pos) (.isi xa t) :=
  (pe_callB call_isi hg hm boot_isinstance' (pa_cons ha (pa_cons (pe_bltn (v := .ty (tyN t)) hg2 hm2 (boot_ty t) rfl (ty_ne t) (ty_nd t)) pa_nil hs2) hs) (by decide) (by decide) (hpl := by rw [hs2]; rfl) (he := hs)).imp fun σ H Q ⟨F, L, e, S, s, se, p⟩ => by
    simp only [evN] at p
    refine tX_bind s se p fun r1 S1 v1 F1 L1 H1 x1 s1 se1 w1 p1 => ?_
    obtain ⟨d, hd, p1⟩ := p1.bind.opt
    have rd := viewD_ok s1 w1 hd
    exact ⟨v1, .ty (tyN t), _, _, _, rfl, .ty _, ty_of rd, kit_is t rd, p1 F1 L1 H1 (Ext.refl _ _) s1 F1 L1 H1 (Ext.refl _ _) s1 _ (.bl _)⟩
end
end Sc
namespace Sc
open PySem PySem.Spec PyProof.Rows L2

def rBl (K : PySem.W.Frag) (cl : Str → Addr) (E : XK) (f : Bl) : List V → Hp → VK → Prop := fun vs H Q => ∃ F L S ws, Sim K cl F L H S ∧ RepWs K F L vs ws ∧ Post K cl E F L (ρR K Q) (opt (rblt f S ws) S)
def blV : Bl → Value
  | .len => .builtin "len"
  | .list => .type "list"
  | .tuple => .type "tuple"
  | .sum => .builtin "sum"
def blN : Bl → String
  | .len => "len"
  | .list => "list"
  | .tuple => "tuple"
  | .sum => "sum"
theorem RepWs.one {K : PySem.W.Frag} {F : Hp} {L : Lv} {vs : List V} {w : W} (r : RepWs K F L vs [w]) : ∃ v, vs = [v] ∧ RepW K F L v w := by
  cases r with | cons h t => cases t; exact ⟨_, rfl, h⟩
theorem viewD_list {S : Sto} {w : W} {xs : List D} (h : viewD S w = some (.list xs)) : viewL S w = some xs := by
  cases w with
  | d x => cases h; rfl
  | o n =>
    simp only [viewD] at h
    simp only [viewL]
    split at h
    · rename_i q; cases h; simp only [q]
    · cases h
  | s ns => cases h
  | k kvs => cases h
theorem viewD_tup {S : Sto} {w : W} {xs : List D} (h : viewD S w = some (.tuple xs)) : w = .d (.tuple xs) := by
  cases w with
  | d x => cases h; rfl
  | o n =>
    simp only [viewD] at h
    split at h
    · cases h
    · cases h
  | s ns => cases h
  | k kvs => cases h
theorem sumInts_ok {K : PySem.W.Frag} {F : Hp} : ∀ {xs : List D} {vs : List V} {n : Int}, RpAll K F vs xs → sumInts xs = some n → ∃ ns : List Int, vs = ns.map V.int ∧ ns.sum = n
  | [], _, _, .nil, h => by cases h; exact ⟨[], rfl, rfl⟩
  | .int i :: xs, _, n, .cons r rs, h => by
    obtain ⟨m, hm, e⟩ := Option.map_eq_some_iff.mp (show (sumInts xs).map (i + ·) = some n from h)
    obtain ⟨ns, h1, h2⟩ := sumInts_ok rs hm
    cases r
    exact ⟨i :: ns, by rw [h1]; rfl, by rw [List.sum_cons, h2]; exact e⟩
section
variable {X : Cx} {cl : Str → Addr} {C : Orc} {E : XK} {a b c : Expr} {xa xb xc : Sc.X} {pos p pT : Pos} {es : List Expr} {xs : List Sc.X} {lv : List Bool}
theorem bl_ok (hc : X.calm = true) (f : Bl) : CallR X (blV f) (rBl X.K cl E f) := by
  intro pins s σ H vs us Q I rv h
  obtain ⟨F, L, S, ws, sm, rw_, p⟩ := h
  obtain ⟨r, e, p⟩ := p.opt
  have fin : ∀ {z : D} {t : V}, r = .w (.d z) → Rp X.K F t z → Q t H := fun er h => p F L H (Ext.refl _ _) sm _ (by subst er; exact h)
  unfold rblt at e
  split at e
  · rename_i ns
    obtain ⟨v, rfl, r1⟩ := rw_.one
    obtain ⟨a, rfl, hq⟩ := r1
    cases e
    refine call_len pins s σ H _ us Q I rv ⟨.ref a, ns.length, rfl, .inl ⟨_, sm.sub.sqL hq, by rw [List.length_map]⟩, fin rfl (.int _)⟩
  · rename_i a hne
    obtain ⟨v, rfl, r1⟩ := rw_.one
    split at e
    · rename_i xs hx
      cases e
      have rd := viewD_ok sm r1 hx
      cases rd with | lst h1 ra =>
        exact call_len pins s σ H _ us Q I rv ⟨_, _, rfl, .inl ⟨_, SqL.of h1, ra.length.symm⟩, fin rfl (.int _)⟩
    · rename_i xs hx
      cases e
      have rd := viewD_ok sm r1 hx
      cases rd with | tup h1 ra =>
        exact call_len pins s σ H _ us Q I rv ⟨_, _, rfl, .inr ⟨_, h1, ra.length.symm⟩, fin rfl (.int _)⟩
    · rename_i x hx
      cases e
      have rd := viewD_ok sm r1 hx
      cases rd with | str _ h1 =>
        exact call_len pins s σ H _ us Q I rv ⟨_, _, rfl, ⟨sok_len h1, rfl⟩, fin rfl (.int _)⟩
    · cases e
  · rename_i a
    obtain ⟨v, rfl, r1⟩ := rw_.one
    split at e
    · rename_i xs hx
      cases e
      obtain ⟨a1, vs1, e1, hh1, ra⟩ := viewL_ok sm r1 (viewD_list hx)
      subst e1
      refine call_list_of pins s σ H _ us Q I rv ⟨_, _, rfl, .inl (SqL.of hh1), fun q hq => ?_⟩
      obtain ⟨s2, f2⟩ := sm.newH (o := .lst vs1) hq
      exact p _ _ _ (Ext.refl _ _) s2 _ ⟨q, _, rfl, upd_same, f2, ra⟩
    · rename_i xs hx
      cases e
      have ea := viewD_tup hx
      subst ea
      cases r1 with | tup h1 ra =>
        refine call_list_of pins s σ H _ us Q I rv ⟨_, _, rfl, .inr (sm.sub.sqT h1), fun q hq => ?_⟩
        obtain ⟨s2, f2⟩ := sm.newH (o := .lst _) hq
        exact p _ _ _ (Ext.refl _ _) s2 _ ⟨q, _, rfl, upd_same, f2, ra⟩
    · cases e
  · rename_i a
    obtain ⟨v, rfl, r1⟩ := rw_.one
    split at e
    · rename_i xs hx
      cases e
      obtain ⟨a1, vs1, e1, hh1, ra⟩ := viewL_ok sm r1 (viewD_list hx)
      subst e1
      refine call_tuple_of pins s σ H _ us Q I rv ⟨_, _, rfl, .inl ⟨SqL.of hh1, fun q hq => ?_⟩⟩
      obtain ⟨s2, x2⟩ := sm.newF (o := .tup vs1) hq
      exact p _ _ _ x2 s2 _ (.tup (SqT.of upd_same) (ra.mono x2.f))
    · rename_i xs hx
      cases e
      have ea := viewD_tup hx
      subst ea
      cases r1 with | tup h1 ra =>
        exact call_tuple_of pins s σ H _ us Q I rv ⟨_, _, rfl, .inr ⟨sm.sub.sqT h1, fin rfl (.tup h1 ra)⟩⟩
    · cases e
  · rename_i a
    obtain ⟨v, rfl, r1⟩ := rw_.one
    split at e
    · rename_i xs hx
      obtain ⟨m, hm, er⟩ := Option.map_eq_some_iff.mp e
      obtain ⟨a1, vs1, e1, hh1, ra⟩ := viewL_ok sm r1 hx
      subst e1
      obtain ⟨ns, h1, h2⟩ := sumInts_ok ra hm
      subst h1 h2
      exact cr_sum hc pins s σ H _ us Q I rv ⟨a1, ns, rfl, SqL.of hh1, fin er.symm (.int _)⟩
    · cases e
  · cases e
theorem bl_boot (f : Bl) : bootBuiltins (blN f : Str) = some (blV f) := by cases f <;> decide +kernel
theorem bl_ne (f : Bl) : (blN f : Str) ≠ ("__name__" : Str) := by cases f <;> decide +kernel
theorem bl_nd (f : Bl) : ((blN f : Str) == ("__debug__" : Str)) = false := by cases f <;> decide +kernel
theorem x_blt {f : Bl} (hc : X.calm = true) (ha : PA X (a :: es) (tXs X.K cl C E xs [])) (hg : Gl X (blN f)) (hm : X.mg (blN f) = none) (he : starEach (a :: es) X.env = (false, eval a X.env) :: starEach es X.env) (hpl : (backTo pos (starEach es X.env)).any (·.1) = false) :
    PX X cl C E (.Call (.Name (blN f) p) (a :: es) [] pos) (.blt f xs) := by
  have base : PE X (.Call (.Name (blN f) p) (a :: es) [] pos) (tCB (rBl X.K cl E f) (tXs X.K cl C E xs [])) := by
    have hk := bl_ok (cl := cl) (E := E) hc f
    have hv := bl_boot f
    cases f with
    | len => exact pe_callB hk hg hm hv ha (bl_ne _) (bl_nd _) he hpl
    | list => exact pe_callTy hk hg hm hv ha (bl_ne _) (bl_nd _) he hpl
    | tuple => exact pe_callTy hk hg hm hv ha (bl_ne _) (bl_nd _) he hpl
    | sum => exact pe_callB hk hg hm hv ha (bl_ne _) (bl_nd _) he hpl
  exact base.imp fun σ H Q ⟨F, L, e, S, s, se, p⟩ => by
    simp only [evN] at p
    exact ⟨F, L, e, S, s, se, p.bind.imp fun ws F1 L1 H1 S1 x1 s1 p1 vs rs => ⟨F1, L1, S1, ws, s1, rs, p1⟩⟩

/-! ### methods of a live list -/
def muI : Mu → String
  | .append => "list.append"
  | .extend => "list.extend"
  | .pop => "list.pop"
def muN : Mu → String
  | .append => "append"
  | .extend => "extend"
  | .pop => "pop"
def rMu (K : PySem.W.Frag) (cl : Str → Addr) (E : XK) (m : Mu) : V → List V → Hp → VK → Prop := fun v vs H Q => ∃ F L S w ws, Sim K cl F L H S ∧ RepW K F L v w ∧ RepWs K F L vs ws ∧ Post K cl E F L (ρR K Q) (rmut m S w ws)
theorem mu_ok (m : Mu) : MtR X (muI m) (rMu X.K cl E m) := by
  intro pins s σ H x vs v us Q I rx rv h
  obtain ⟨F, L, S, w, ws, sm, r0, rw_, p⟩ := h
  unfold rmut at p
  split at p
  case h_2 => exact p.elim
  rename_i n
  split at p
  case h_2 => exact p.elim
  rename_i xs hS
  obtain ⟨a, hl, rfl⟩ := r0
  obtain ⟨b, zs, eb, hb, ra⟩ := sm.objs n _ _ hl hS
  cases eb
  have hlen := ra.length
  split at p
  · rename_i y
    obtain ⟨v1, rfl, r1⟩ := rw_.one
    split at p
    · rename_i hz
      exact mt_append pins s σ H _ _ v us Q I rx rv ⟨a, zs, v1, rfl, rfl, hb, by rw [hlen]; exact hz, p F L _ (Ext.refl _ _) (sm.write hl (ra.append (.cons r1 .nil))) _ .non⟩
    · exact p.elim
  · rename_i ys
    obtain ⟨v1, rfl, r1⟩ := rw_.one
    split at p
    · rename_i hz
      cases r1 with | lst h1 r1 =>
        exact mt_extend pins s σ H _ _ v us Q I rx rv ⟨a, _, zs, _, rfl, rfl, hb, sm.sub _ _ h1, by rw [hlen, r1.length]; exact hz, p F L _ (Ext.refl _ _) (sm.write hl (ra.append r1)) _ .non⟩
    · exact p.elim
  · cases rw_
    split at p
    · rename_i y hy
      rw [← hlen] at hy
      obtain ⟨z, hz, rz⟩ := ra.get hy
      exact mt_pop pins s σ H _ _ v us Q I rx rv ⟨a, zs, z, rfl, rfl, hb, hz, p F L _ (Ext.refl _ _) (sm.write hl ra.dropLast) _ rz⟩
    · exact p.elim
  · exact p.elim
theorem x_mut {m : Mu} {apos cpos : Pos} (ha : PX X cl C E a xa) (hb : PA X (b :: es) (tXs X.K cl C E xs [])) (hm : m ≠ .pop) (hbase : attributeBase a (muN m) X.env (eval a X.env) = eval a X.env)
    (hfew : ((backTo cpos (starEach (b :: es) X.env)).all (fun x => !x.1) && (backToKw cpos (keywordEach [] X.env)).all (fun x => x.1.isSome) && decide ((b :: es).length + ([] : List Keyword).length + (if ([] : List Keyword).isEmpty then 0 else 1) < 30)) = true)
    (hline : (apos.endLine == cpos.line) = true) (hs : starEach (b :: es) X.env = (false, eval b X.env) :: starEach es X.env) (hplain : (backTo cpos (starEach es X.env)).any (·.1) = false) :
    PX X cl C E (.Call (.Attribute a (muN m) apos) (b :: es) [] cpos) (.mut m xa xs) := by
  have base : PE X (.Call (.Attribute a (muN m) apos) (b :: es) [] cpos) (tBM X.K "list" (rMu X.K cl E m) (tX X.K cl C E xa) (tXs X.K cl C E xs [])) := by
    have hk := mu_ok (X := X) (cl := cl) (E := E) m
    cases m with
    | append => exact pe_bm PySem.F.plainAttrs_list PySem.F.slot_list_append PySem.F.type_list_append hk ha hb hbase hfew hline hs hplain
    | extend => exact pe_bm PySem.F.plainAttrs_list PySem.F.slot_list_extend PySem.F.type_list_extend hk ha hb hbase hfew hline hs hplain
    | pop => exact absurd rfl hm
  exact base.imp fun σ H Q ⟨F, L, e, S, s, se, p⟩ => by
    simp only [evN] at p
    refine tX_bind s se p fun r1 S1 v1 F1 L1 H1 x1 s1 se1 w1 p1 => ?_
    obtain ⟨zs, hz, p1⟩ := p1.bind.opt
    have p1 := p1 F1 L1 H1 (Ext.refl _ _) s1
    obtain ⟨a1, vs1, e1, hh1, ra⟩ := viewL_ok s1 w1 hz
    subst e1
    refine ⟨.inl ⟨rfl, _, SqL.of hh1⟩, F1, L1, e, S1, s1, se1, p1.bind.imp fun ws F2 L2 H2 S2 x2 s2 p2 vs rs => ⟨F2, L2, S2, _, ws, s2, w1.mono x2, rs, p2⟩⟩
theorem x_pop {apos cpos : Pos} (ha : PX X cl C E a xa) (hbase : attributeBase a ("pop" : Str) X.env (eval a X.env) = eval a X.env) (hline : (apos.endLine == cpos.line) = true) :
    PX X cl C E (.Call (.Attribute a ("pop" : Str) apos) [] [] cpos) (.mut .pop xa []) :=
  (pe_bm0 PySem.F.plainAttrs_list PySem.F.slot_list_pop PySem.F.type_list_pop (mu_ok (cl := cl) (E := E) .pop) ha hbase hline).imp fun σ H Q ⟨F, L, e, S, s, se, p⟩ => by
    simp only [evN, evs] at p
    refine tX_bind s se p fun r1 S1 v1 F1 L1 H1 x1 s1 se1 w1 p1 => ?_
    obtain ⟨zs, hz, p1⟩ := p1.bind.opt
    have p1 := p1 F1 L1 H1 (Ext.refl _ _) s1
    obtain ⟨a1, vs1, e1, hh1, ra⟩ := viewL_ok s1 w1 hz
    subst e1
    exact ⟨.inl ⟨rfl, _, SqL.of hh1⟩, F1, L1, S1, _, [], s1, w1, .nil, p1⟩

/-! ### own defs -/
def spOf (K : PySem.W.Frag) (cl : Str → Addr) (n : Nat) (c : List W → Sto → Res R) : Sp := fun vs H Q E => vs.length = n ∧ ∃ F L S ws, Sim K cl F L H S ∧ RepWs K F L vs ws ∧ Post K cl E F L (ρR K Q) (c ws S)
theorem x_call {f : Str} {fa : Addr} {fd : FuncData} {ps : List Str} {k : Nat} {CX : CXT} (G : FnOk X.prog X.w X.K X.mg X.base CX k fa fd ps (spOf X.K cl ps.length (C f))) (hr : Room k X.A) (hg : Gl X f) (hm : X.mg f = some (.ref fa)) (hk : PySem.W.keepIn X.K (.ref fa) = true)
    (hb : Binds X.K fd ps []) (hx : Passes CX X E) (hd : (f == ("__debug__" : Str)) = false) (ha : PA X (a :: es) (tXs X.K cl C E xs lv)) (hl : xs.length = ps.length) (hs : starEach (a :: es) X.env = (false, eval a X.env) :: starEach es X.env) (hpl : (backTo pos (starEach es X.env)).any (·.1) = false) :
    PX X cl C E (.Call (.Name f p) (a :: es) [] pos) (.call f lv xs) :=
  (pe_call G hr hg hm hk hb .nil hx ha hd hs hpl).imp fun σ H Q ⟨F, L, e, S, s, se, p⟩ => by
    simp only [evN] at p
    refine ⟨F, L, e, S, s, se, p.bind.keq.imp fun ws F1 L1 H1 S1 x1 s1 ⟨p1, q1⟩ vs rs => ?_⟩
    show spOf X.K cl ps.length (C f) (vs ++ []) H1 Q E
    rw [List.append_nil]
    exact ⟨by rw [rs.length, evs_length q1]; exact hl, F1, L1, S1, ws, s1, rs, p1⟩
end
end Sc
namespace Sc
open PySem PySem.Spec PyProof.Rows L2

/-! ### statements of the machine -/
inductive Sm where
  | ret (x : X) | retN
  | asg (tg : Tg) (x : X) | new (i : Nat) (x : X) | exp (x : X)
  | ite (c : X) (a b : List Sm)
  | for_ (tg : Tg) (it : I) (body : List Sm)
  | six (o i v : X)
  | star (i j : Nat) (x : X)
  | pass | never
inductive Fl where
  | next (e : Ev)
  | ret (r : R)
def loopF (f : W → Ev → Sto → Res Fl) : List W → Ev → Sto → Res Fl
  | [], e, S => .ok (.next e) S
  | w :: ws, e, S => (f w e S).bind fun fl S' => match fl with
    | .next e' => loopF f ws e' S'
    | .ret r => .ok (.ret r) S'
def rset (S : Sto) (o i v : W) : Res Unit := match o, i, v with
  | .o n, .d (.int k), .d x => match S[n]? with
    | some (.lst xs) => match ixN xs.length k with
      | some j => .ok () (S.set n (.lst (xs.set j x)))
      | none => .stuck
    | _ => .stuck
  | _, _, _ => .stuck
section
variable (C : Orc)
mutual
def exec : Sm → Ev → Sto → Res Fl
  | .ret x, e, S => (evN C x e S).bind fun r S1 => .ok (.ret r) S1
  | .retN, _, S => .ok (.ret (.w (.d .none))) S
  | .asg tg x, e, S => (evN C x e S).bind fun r S1 => (opt (bindT tg (fz r) e) S1).bind fun e' S2 => .ok (.next e') S2
  | .new i x, e, S => (evN C x e S).bind fun r S1 => (give true r S1).bind fun w S2 => .ok (.next (e.set i (some w))) S2
  | .exp x, e, S => (evN C x e S).bind fun _ S1 => .ok (.next e) S1
  | .ite c a b, e, S => (evT C c e S).bind fun k S1 => match k with
    | true => execs a e S1
    | false => execs b e S1
  | .for_ tg it body, e, S => (evI C it e S).bind fun ws S1 => loopF (fun w e S => (opt (bindT tg w e) S).bind fun e' S' => execs body e' S') ws e S1
  | .six o i v, e, S => (evN C v e S).bind fun z S1 => (evN C o e S1).bind fun x S2 => (evN C i e S2).bind fun y S3 => (rset S3 (fz x) (fz y) (fz z)).bind fun _ S4 => .ok (.next e) S4
  | .star i j x, e, S => (evN C x e S).bind fun r S1 => (opt (seqD (fz r)) S1).bind fun ds S2 => match ds with
    | d :: r => .ok (.next ((e.set i (some (.d d))).set j (some (.d (.list r))))) S2
    | [] => .stuck
  | .pass, e, S => .ok (.next e) S
  | .never, _, _ => .stuck
def execs : List Sm → Ev → Sto → Res Fl
  | [], e, S => .ok (.next e) S
  | s :: ss, e, S => (exec s e S).bind fun fl S1 => match fl with
    | .next e' => execs ss e' S1
    | .ret r => .ok (.ret r) S1
end
end
/-- behind a def's body: a live list of its own is handed out -/
def leave (n0 : Nat) (fl : Fl) (S : Sto) : Res R := match fl with
  | .next _ => .ok (.w (.d .none)) S
  | .ret (.w (.o n)) => if n0 ≤ n then match S[n]? with
      | some (.lst xs) => if S.all (noRef n) then .ok (.n xs) (S.set n .dead) else .stuck
      | some (.dic kvs) => if S.all (noRef n) then .ok (.nk kvs) (S.set n .dead) else .stuck
      | _ => .stuck
    else .ok (.w (.o n)) S
  | .ret r => .ok r S
def startE (n : Nat) (ws : List W) : Ev := ws.map some ++ List.replicate (n - ws.length) none
/-- a def: how many slots, its body -/
def runDef (C : Orc) (n : Nat) (body : List Sm) (ws : List W) (S : Sto) : Res R := (execs C body (startE n ws) S).bind fun fl S1 => leave S.length fl S1

/-! ### readings -/
def ρS (K : PySem.W.Frag) (D : Ends) : Fl → Hp → Lv → Hp → Sto → Prop := fun fl F' L' H' _ => match fl with
  | .next e => ∀ σ, SimE K F' L' σ e → D.nx σ H'
  | .ret r => ∀ v, RepR K F' L' H' v r → D.rt v H'
def tS (K : PySem.W.Frag) (cl : Str → Addr) (C : Orc) (E : XK) (x : Sm) : TS := fun D σ H => ∃ F L e S, Sim K cl F L H S ∧ SimE K F L σ e ∧ Post K cl E F L (ρS K D) (exec C x e S)
def tSs (K : PySem.W.Frag) (cl : Str → Addr) (C : Orc) (E : XK) (x : List Sm) : TS := fun D σ H => ∃ F L e S, Sim K cl F L H S ∧ SimE K F L σ e ∧ Post K cl E F L (ρS K D) (execs C x e S)
section
variable {X : Cx} {cl : Str → Addr} {C : Orc} {E : XK} {a b c : Expr} {xa xb xc : Sc.X} {pos p pT : Pos} {st : Stmt} {sts : List Stmt} {sm : Sm} {sms : List Sm}
abbrev PXS (X : Cx) (cl : Str → Addr) (C : Orc) (E : XK) (st : Stmt) (x : Sm) : Prop := PS X st (tS X.K cl C E x)
abbrev PXSs (X : Cx) (cl : Str → Addr) (C : Orc) (E : XK) (st : List Stmt) (x : List Sm) : Prop := PSs X st (tSs X.K cl C E x)
theorem s_nil : PXSs X cl C E [] [] := pss_nil.imp fun D σ H ⟨F, L, e, S, s, se, p⟩ => by
  simp only [execs] at p
  exact p F L H (Ext.refl _ _) s σ se
theorem s_cons (h : PXS X cl C E st sm) (hr : PXSs X cl C E sts sms) : PXSs X cl C E (st :: sts) (sm :: sms) := (pss_cons h hr).imp fun D σ H ⟨F, L, e, S, s, se, p⟩ => by
  simp only [execs] at p
  refine ⟨F, L, e, S, s, se, p.bind.imp fun fl F1 L1 H1 S1 x1 s1 p1 => ?_⟩
  cases fl with
  | next e' => exact fun σ' se' => ⟨F1, L1, e', S1, s1, se', p1⟩
  | ret r => exact fun v rv => p1 F1 L1 H1 (Ext.refl _ _) s1 v rv
theorem s_ret (h : PX X cl C E a xa) : PXS X cl C E (.Return (some a) pos) (.ret xa) := (ps_ret h).imp fun D σ H ⟨F, L, e, S, s, se, p⟩ => by
  simp only [exec] at p
  exact tX_bindR s se p fun r1 S1 v1 F1 L1 H1 x1 s1 se1 w1 p1 => p1 F1 L1 H1 (Ext.refl _ _) s1 v1 w1
theorem s_retN : PXS X cl C E (.Return none pos) .retN := ps_retN.imp fun D σ H ⟨F, L, e, S, s, se, p⟩ => by
  simp only [exec] at p
  exact p F L H (Ext.refl _ _) s .non .non
theorem s_pass : PXS X cl C E (.Pass pos) .pass := ps_pass.imp fun D σ H ⟨F, L, e, S, s, se, p⟩ => by
  simp only [exec] at p
  exact p F L H (Ext.refl _ _) s σ se
theorem s_never : PXS X cl C E st .never := ps_never.imp fun D σ H ⟨F, L, e, S, s, se, p⟩ => by
  simp only [exec] at p
  exact p
theorem s_exp (h : PX X cl C E a xa) (hs : swapsWith a none pos.line X.env = pure false) : PXS X cl C E (.Expr a pos) (.exp xa) := (ps_expr h hs).imp fun D σ H ⟨F, L, e, S, s, se, p⟩ => by
  simp only [exec] at p
  exact tX_bindR s se p fun r1 S1 v1 F1 L1 H1 x1 s1 se1 w1 p1 => p1 F1 L1 H1 (Ext.refl _ _) s1 σ se1
theorem s_ite {p q : List Stmt} {xp xq : List Sm} (hc : PXT X cl C E c xc) (hp : PXSs X cl C E p xp) (hq : PXSs X cl C E q xq) : PXS X cl C E (.If c p q pos) (.ite xc xp xq) := (ps_if hc hp hq).imp fun D σ H ⟨F, L, e, S, s, se, p⟩ => by
  simp only [exec] at p
  refine tXT_bind s se p fun k S1 F1 L1 H1 x1 s1 se1 p1 => ?_
  cases k with
  | true => rw [if_pos rfl]; exact ⟨F1, L1, e, S1, s1, se1, p1⟩
  | false => rw [if_neg (by decide)]; exact ⟨F1, L1, e, S1, s1, se1, p1⟩

/-! ### targets -/
theorem wipe_set {σ : St} {i : Nat} {v : V} : ∀ {own : List Nat}, i ∈ own → wipe (σ.set i (some v)) own = wipe σ own
  | [], h => by cases h
  | j :: own, h => by
    unfold wipe
    by_cases hj : i ∈ own
    · rw [wipe_set hj]
    · have e : i = j := by
        rcases List.mem_cons.mp h with h | h
        · exact h
        · exact absurd h hj
      subst e
      have comm : ∀ (σ : St) (own : List Nat), i ∉ own → wipe (σ.set i (some v)) own = (wipe σ own).set i (some v) := by
        intro σ own
        induction own with
        | nil => intro _; rfl
        | cons k r ih =>
          intro hn
          unfold wipe
          rw [ih (fun z => hn (List.mem_cons_of_mem _ z)), List.set_comm _ _ (fun z => hn (by rw [z]; exact List.mem_cons_self))]
      rw [comm σ own hj, List.set_set]
def gAll : List Nat → TGs
  | [] => gNil
  | i :: is => gCons (gName i) (gAll is)
theorem gAll_ok {K : PySem.W.Frag} {F : Hp} {L : Lv} {H : Hp} {Q : St → Hp → Prop} : ∀ {is : List Nat} {ds : List D} {vs : List V} {σ : St} {e : Ev}, RpAll K F vs ds → ds.length = is.length → SimE K F L σ e →
    (∀ σ', SimE K F L σ' (setAll is ds e) → (∀ own : List Nat, (∀ i ∈ is, i ∈ own) → wipe σ' own = wipe σ own) → Q σ' H) → gAll is vs σ H Q
  | [], [], _, σ, e, .nil, _, se, q => ⟨rfl, q σ se fun _ _ => rfl⟩
  | i :: is, d :: ds, _, σ, e, .cons r rs, hl, se, q => ⟨_, _, rfl, gAll_ok rs (by simpa using hl) (se.set i (w := .d d) r) fun σ' se' hw => q σ' se' fun own ho => by
      rw [hw own fun j hj => ho j (List.mem_cons_of_mem _ hj), wipe_set (ho i List.mem_cons_self)]⟩
  | [], _ :: _, _, _, _, _, hl, _, _ => by simp at hl
  | _ :: _, [], _, _, _, _, hl, _, _ => by simp at hl
/-- a target's reading: it binds as bindT does -/
def gOf (K : PySem.W.Frag) : Tg → TG
  | .nm i => gName i
  | .tp is => gTup K is.length (gAll is)
abbrev GT (X : Cx) (tg : Expr) (t : Tg) : Prop := PG X tg (gOf X.K t)
def tgIn : Tg → List Nat → Prop
  | .nm i, own => i ∈ own
  | .tp is, own => ∀ i ∈ is, i ∈ own
theorem gOf_ok {K : PySem.W.Frag} {F : Hp} {L : Lv} {v : V} {w : W} {σ : St} {e e' : Ev} {H : Hp} {Q : St → Hp → Prop} : ∀ {t : Tg}, Sub F H → RepW K F L v w → SimE K F L σ e → bindT t w e = some e' →
    (∀ σ', SimE K F L σ' e' → (∀ own : List Nat, tgIn t own → wipe σ' own = wipe σ own) → Q σ' H) → gOf K t v σ H Q
  | .nm i, sb, r, se, h, q => by
    cases h
    exact q _ (se.set i r) fun own ho => wipe_set ho
  | .tp is, sb, r, se, h, q => by
    simp only [bindT] at h
    split at h
    · rename_i ds
      split at h
      · rename_i hl
        cases h
        cases r with | tup h1 ra =>
          exact ⟨_, _, rfl, sb.sqT h1, by rw [ra.length]; exact hl, gAll_ok ra hl se fun σ' se' hw => q σ' se' hw⟩
      · cases h
    · cases h
theorem gt_nm {i : Nat} {x : Str} (hN : X.N.Nodup) (hi : X.N[i]? = some x) (hx : Loc X.env.scope x) (hf : X.fn x = true ∨ X.env.scope.names.lookup x = some .local) : GT X (.Name x pos) (.nm i) := pg_name hN hi hx hf
theorem gt_tp {es : List Expr} {k : Nat} {is : List Nat} (hc : X.calm = true) (h : PGs X es (gAll is)) (hn : (assignEach es X.env).length = is.length) (hst : (assignEach es X.env).findIdx? (·.1) = none) : GT X (.Tuple es k pos) (.tp is) := pg_tup hc h hn hst
theorem s_asg {tg : Expr} {t : Tg} (h : PX X cl C E a xa) (hg : GT X tg t) (hs : swapsWithSole [tg] a pos.line X.env = pure false) (hw : swappedStores [tg] a X.env = pure none) (h1 : (assignEach [tg] X.env).map (·.2) = [assign tg X.env]) : PXS X cl C E (.Assign [tg] a pos) (.asg t xa) := by
  refine (ps_asg h hg hs hw h1).imp fun D σ H ⟨F, L, e, S, s, se, p⟩ => ?_
  simp only [exec] at p
  refine tX_bind s se p fun r1 S1 v1 F1 L1 H1 x1 s1 se1 w1 p1 => ?_
  obtain ⟨e', he, p1⟩ := p1.bind.opt
  exact gOf_ok s1.sub w1 se1 he fun σ' se' _ => p1 F1 L1 H1 (Ext.refl _ _) s1 F1 L1 H1 (Ext.refl _ _) s1 σ' se'
theorem s_new {i : Nat} {x : Str} {p' : Pos} (h : PX X cl C E a xa) (hN : X.N.Nodup) (hi : X.N[i]? = some x) (hx : Loc X.env.scope x) (hf : X.fn x = true ∨ X.env.scope.names.lookup x = some .local) (hs : swapsWithSole [.Name x p'] a pos.line X.env = pure false) (hw : swappedStores [.Name x p'] a X.env = pure none) :
    PXS X cl C E (.Assign [.Name x p'] a pos) (.new i xa) :=
  (ps_asg h (pg_name hN hi hx hf) hs hw).imp fun D σ H ⟨F, L, e, S, s, se, p⟩ => by
    simp only [exec] at p
    refine tX_bindR s se p fun r1 S1 v1 F1 L1 H1 x1 s1 se1 w1 p1 => ?_
    obtain ⟨F2, L2, S2, w, x2, s2, w2, p2⟩ := give_ok s1 w1 p1
    exact p2 F2 L2 H1 (Ext.refl _ _) s2 _ ((se1.mono x2).set i w2)

/-! ### o[i] = v -/
theorem x_six {o i v : Expr} {xo xi xv : Sc.X} {p' : Pos} (hv : PX X cl C E v xv) (ho : PX X cl C E o xo) (hi : PX X cl C E i xi) (hg : PG X (.Subscript o i p') (gSub (tX X.K cl C E xo) (tX X.K cl C E xi) rSetL)) (hs : swapsWithSole [.Subscript o i p'] v pos.line X.env = pure false) (hw : swappedStores [.Subscript o i p'] v X.env = pure none) :
    PXS X cl C E (.Assign [.Subscript o i p'] v pos) (.six xo xi xv) :=
  (ps_asg hv hg hs hw).imp fun D σ H ⟨F, L, e, S, s, se, p⟩ => by
    simp only [exec] at p
    refine tX_bind s se p fun r1 S1 v1 F1 L1 H1 x1 s1 se1 w1 p1 => ?_
    refine tX_bind s1 se1 p1 fun r2 S2 v2 F2 L2 H2 x2 s2 se2 w2 p2 => ?_
    refine tX_bind s2 se2 p2 fun r3 S3 v3 F3 L3 H3 x3 s3 se3 w3 p3 => ?_
    have w1 := (w1.mono x2).mono x3
    have w2 := w2.mono x3
    generalize fz r1 = z at w1 p3
    generalize fz r2 = y at w2 p3
    generalize fz r3 = x at w3 p3
    unfold rset at p3
    split at p3
    case h_2 => exact p3.elim
    rename_i n k d
    split at p3
    case h_2 => exact p3.elim
    rename_i xs hS
    split at p3
    case h_2 => exact p3.elim
    rename_i j hj
    obtain ⟨a, hl, rfl⟩ := w2
    cases w3
    obtain ⟨b, zs, eb, hb, ra⟩ := s3.objs n _ _ hl hS
    cases eb
    exact ⟨a, zs, k, j, rfl, rfl, hb, by rw [ra.length]; exact hj, p3 F3 L3 _ (Ext.refl _ _) (s3.write hl (ra.set w1 j)) σ se3⟩
end
end Sc
namespace Sc
open PySem PySem.Spec PyProof.Rows L2

/-- an iterator that gives these values -/
def ItR (K : PySem.W.Frag) (cl : ClA) (F : Hp) (L : Lv) (J : It) (ws : List W) : Prop := ∀ (F' : Hp) (L' : Lv) (H : Hp) (S : Sto), Sub F F' → Sim K cl F' L' H S → ∀ i : Nat,
  (∀ w, ws[i]? = some w → J.go i H ∧ ∀ x H', J.yld i H x H' → ∃ F'', Ext F' L' F'' L' ∧ Sim K cl F'' L' H' S ∧ RepW K F'' L' x w) ∧ (ws.length ≤ i → J.stop i H)
def tI (K : PySem.W.Frag) (cl : Str → Addr) (C : Orc) (E : XK) (it : Sc.I) : TI := fun σ H R => ∃ F L e S, Sim K cl F L H S ∧ SimE K F L σ e ∧ Post K cl E F L (fun ws F' L' H' _ => ∀ J, ItR K cl F' L' J ws → R J H') (evI C it e S)
abbrev PXI (X : Cx) (cl : Str → Addr) (C : Orc) (E : XK) (tg iter : Expr) (it : Sc.I) : Prop := PI X tg iter (tI X.K cl C E it)

section
variable {K : PySem.W.Frag} {cl : ClA} {F : Hp} {L : Lv}
theorem itr_seq {J : It} {vs : List V} {ds : List D} (r : RpAll K F vs ds) (go : ∀ H, Sub F H → ∀ (i : Nat) x, vs[i]? = some x → J.go i H) (yld : ∀ H, Sub F H → ∀ (i : Nat) v, vs[i]? = some v → ∀ x H', J.yld i H x H' → H' = H ∧ x = v) (stop : ∀ H, Sub F H → ∀ i : Nat, vs.length ≤ i → J.stop i H) : ItR K cl F L J (ds.map .d) := fun F' L' H S x s i => by
  have sb := x.trans s.sub
  refine ⟨fun w hw => ?_, fun hi => stop H sb i (by rw [r.length]; simpa using hi)⟩
  rw [List.getElem?_map] at hw
  obtain ⟨d, hd, rfl⟩ := Option.map_eq_some_iff.mp hw
  obtain ⟨v, hv, rv⟩ := r.get hd
  refine ⟨go H sb i v hv, fun z H' y => ?_⟩
  obtain ⟨e, hz⟩ := yld H sb i v hv z H' y
  subst e hz
  exact ⟨F', Ext.refl _ _, s, rv.mono x⟩
theorem itr_list {a : Addr} {vs : List V} {ds : List D} (h : SqL K F a vs) (r : RpAll K F vs ds) : ItR K cl F L (Itl K a) (ds.map .d) :=
  itr_seq r (fun H sb i x hx => ⟨vs, x, sb.sqL h, hx⟩) (fun H sb i v hv x H' ⟨e, y⟩ => ⟨e, Option.some.inj ((y vs (sb.sqL h)).symm.trans hv)⟩) fun H sb i hi => ⟨vs, sb.sqL h, hi⟩
theorem itr_tup {a : Addr} {vs : List V} {ds : List D} (h : SqT K F a vs) (r : RpAll K F vs ds) : ItR K cl F L (Itt K a) (ds.map .d) :=
  itr_seq r (fun H sb i x hx => ⟨vs, x, sb.sqT h, hx⟩) (fun H sb i v hv x H' ⟨e, y⟩ => ⟨e, Option.some.inj ((y vs (sb.sqT h)).symm.trans hv)⟩) fun H sb i hi => ⟨vs, sb.sqT h, hi⟩
theorem itr_rev {a : Addr} {vs : List V} {ds : List D} (h : SqL K F a vs) (r : RpAll K F vs ds) : ItR K cl F L (Itv K a vs.length) (ds.reverse.map .d) := by
  have key : ∀ (i : Nat) (x : V), vs.reverse[i]? = some x → i < vs.length ∧ vs[vs.length - 1 - i]? = some x := fun i x hx => by
    have hi : i < vs.reverse.length := (List.getElem?_eq_some_iff.mp hx).1
    rw [List.length_reverse] at hi
    rw [List.getElem?_reverse hi] at hx
    exact ⟨hi, hx⟩
  refine itr_seq r.reverse (fun H sb i x hx => ?_) (fun H sb i v hv x H' ⟨e, y⟩ => ⟨e, ?_⟩) fun H sb i hi => by rw [List.length_reverse] at hi; exact hi
  · obtain ⟨h1, h2⟩ := key i x hx
    exact ⟨h1, vs, x, sb.sqL h, h2⟩
  · exact Option.some.inj ((y vs (sb.sqL h)).symm.trans (key i v hv).2)
theorem rangeW_get : ∀ {n : Nat} {lo : Int} {i : Nat} {w : W}, (rangeW lo n)[i]? = some w → i < n ∧ w = .d (.int (lo + i))
  | 0, _, _, _, h => by simp [rangeW] at h
  | n + 1, lo, 0, w, h => by simp [rangeW] at h; exact ⟨by omega, by rw [← h]; simp⟩
  | n + 1, lo, i + 1, w, h => by
    simp [rangeW] at h
    obtain ⟨h1, h2⟩ := rangeW_get h
    exact ⟨by omega, by rw [h2]; congr 2; omega⟩
theorem rangeW_length : ∀ {n : Nat} {lo : Int}, (rangeW lo n).length = n
  | 0, _ => rfl
  | n + 1, _ => by simp [rangeW, rangeW_length]
theorem itr_rng {lo : Int} {n : Nat} : ItR K cl F L (Itr lo n) (rangeW lo n) := fun F' L' H S x s i => by
  refine ⟨fun w hw => ?_, fun hi => by rw [rangeW_length] at hi; exact hi⟩
  obtain ⟨h1, rfl⟩ := rangeW_get hw
  refine ⟨h1, fun z H' ⟨e, ez⟩ => ?_⟩
  subst e ez
  exact ⟨F', Ext.refl _ _, s, .int _⟩
theorem itr_str {t : Str} (ht : sok t = true) : ItR K cl F L (Its t) (t.cps.toList.map fun c => .d (.str ⟨#[c]⟩)) := fun F' L' H S x s i => by
  refine ⟨fun w hw => ?_, fun hi => by rw [List.length_map, Array.length_toList] at hi; exact hi⟩
  rw [List.getElem?_map] at hw
  obtain ⟨c, hc, rfl⟩ := Option.map_eq_some_iff.mp hw
  have hc' : t.cps[i]? = some c := by simpa using hc
  refine ⟨(Array.getElem?_eq_some_iff.mp hc').1, fun z H' ⟨e, c', h1, h2⟩ => ?_⟩
  rw [hc'] at h1
  cases h1
  subst e h2
  exact ⟨F', Ext.refl _ _, s, .str _ (sok_one ht (List.mem_of_getElem? hc))⟩
theorem enum_get : ∀ {ds : List D} {k : Int} {i : Nat} {w : W}, (enumFrom k ds)[i]? = some w → ∃ d, ds[i]? = some d ∧ w = .d (.tuple [.int (k + i), d])
  | [], _, _, _, h => by simp [enumFrom] at h
  | d :: ds, k, 0, w, h => by simp [enumFrom] at h; exact ⟨d, rfl, by rw [← h]; simp⟩
  | d :: ds, k, i + 1, w, h => by
    simp [enumFrom] at h
    obtain ⟨d', h1, h2⟩ := enum_get h
    exact ⟨d', by simpa using h1, by rw [h2]; congr 4; omega⟩
theorem enum_length : ∀ {ds : List D} {k : Int}, (enumFrom k ds).length = ds.length
  | [], _ => rfl
  | d :: ds, _ => by simp [enumFrom, enum_length]
theorem itr_enum {a : Addr} {vs : List V} {ds : List D} (h : SqL K F a vs) (r : RpAll K F vs ds) : ItR K cl F L (Ite K a) (enumFrom 0 ds) := fun F' L' H S x s i => by
  have sb := x.trans s.sub
  refine ⟨fun w hw => ?_, fun hi => ⟨vs, sb.sqL h, by rw [r.length]; rw [enum_length] at hi; exact hi⟩⟩
  obtain ⟨d, hd, rfl⟩ := enum_get hw
  obtain ⟨v, hv, rv⟩ := r.get hd
  refine ⟨⟨vs, v, sb.sqL h, hv⟩, fun z H' ⟨T, y, e1, hT, e2, hy⟩ => ?_⟩
  have := hy vs (sb.sqL h)
  rw [hv] at this
  cases this
  subst e1 e2
  obtain ⟨s2, x2⟩ := s.newF (o := .tup [.int (i : Nat), v]) hT
  refine ⟨_, x2, s2, .tup (SqT.of upd_same) (.cons ?_ (.cons (rv.mono (x.trans x2.f)) .nil))⟩
  rw [Int.zero_add]
  exact .int _
theorem zip_get : ∀ {xs ys : List D} {i : Nat} {w : W}, (zipD xs ys)[i]? = some w → ∃ x y, xs[i]? = some x ∧ ys[i]? = some y ∧ w = .d (.tuple [x, y])
  | [], _, _, _, h => by simp [zipD] at h
  | _ :: _, [], _, _, h => by simp [zipD] at h
  | x :: xs, y :: ys, 0, w, h => by simp [zipD] at h; exact ⟨x, y, rfl, rfl, h.symm⟩
  | x :: xs, y :: ys, i + 1, w, h => by
    simp [zipD] at h
    obtain ⟨x', y', h1, h2, h3⟩ := zip_get h
    exact ⟨x', y', by simpa using h1, by simpa using h2, h3⟩
theorem zip_length : ∀ {xs ys : List D}, (zipD xs ys).length = min xs.length ys.length
  | [], _ => by simp [zipD]
  | _ :: _, [] => by simp [zipD]
  | x :: xs, y :: ys => by simp [zipD, zip_length]
theorem itr_zip {a b : Addr} {vs us : List V} {xs ys : List D} (h : SqL K F a vs) (r : RpAll K F vs xs) (h2 : SqL K F b us) (r2 : RpAll K F us ys) : ItR K cl F L (Itz K a b) (zipD xs ys) := fun F' L' H S x s i => by
  have sb := x.trans s.sub
  refine ⟨fun w hw => ?_, fun hi => ⟨vs, us, sb.sqL h, sb.sqL h2, by rw [r.length, r2.length]; rw [zip_length] at hi; omega⟩⟩
  obtain ⟨d, e, hd, he, rfl⟩ := zip_get hw
  obtain ⟨v, hv, rv⟩ := r.get hd
  obtain ⟨u, hu, ru⟩ := r2.get he
  refine ⟨⟨vs, us, v, u, sb.sqL h, sb.sqL h2, hv, hu⟩, fun z H' ⟨T, y1, y2, e1, hT, e2, hy1, hy2⟩ => ?_⟩
  have q1 := hy1 vs (sb.sqL h)
  have q2 := hy2 us (sb.sqL h2)
  rw [hv] at q1
  rw [hu] at q2
  cases q1
  cases q2
  subst e1 e2
  obtain ⟨s2, x2⟩ := s.newF (o := .tup [v, u]) hT
  exact ⟨_, x2, s2, .tup (SqT.of upd_same) (.cons (rv.mono (x.trans x2.f)) (.cons (ru.mono (x.trans x2.f)) .nil))⟩
end

section
variable {X : Cx} {cl : Str → Addr} {C : Orc} {E : XK} {a b c tg : Expr} {xa xb xc : Sc.X} {pos p : Pos}
theorem tX_bindE {K : PySem.W.Frag} {F : Hp} {L : Lv} {σ : St} {H : Hp} {e : Ev} {S : Sto} {β : Type} {ρ : β → Hp → Lv → Hp → Sto → Prop} {f : R → Sto → Res β} {x : Sc.X} {Q : VK} (s : Sim K cl F L H S) (se : SimE K F L σ e) (p : Post K cl E F L ρ ((evN C x e S).bind f))
    (h : ∀ r S1 v F1 L1 H1, evN C x e S = .ok r S1 → Ext F L F1 L1 → Sim K cl F1 L1 H1 S1 → RepW K F1 L1 v (fz r) → Post K cl E F1 L1 ρ (f r S1) → Q v H1) : tX K cl C E x σ H Q :=
  ⟨F, L, e, S, s, se, p.bind.keq.imp fun r F1 L1 H1 S1 x1 s1 ⟨p1, eq⟩ v rv => by
    obtain ⟨F2, x2, s2, w2⟩ := fz_ok s1 rv
    exact h r S1 v F2 L1 H1 eq (x1.trans x2) s2 w2 (p1.anti x2)⟩
theorem i_sq (ha : PX X cl C E a xa) : PXI X cl C E tg a (.sq xa) := by
  refine ⟨fun pins s σ H R I ⟨F, L, e, S, sm, se, p⟩ => ?_⟩
  simp only [evI] at p
  cases hr : evN C xa e S with
  | stuck => rw [hr] at p; exact p.elim
  | exc c fs S1 => exact (pi_list ha).run pins s σ H R I ⟨F, L, e, S, sm, se, by rw [hr] at p ⊢; exact p⟩
  | ok r S0 =>
    have use : ∀ {Q1 : VK}, (∀ v F1 L1 H1, Sim X.K cl F1 L1 H1 S0 → RepW X.K F1 L1 v (fz r) → (∀ ws, itemsW (fz r) = some ws → ∀ J, ItR X.K cl F1 L1 J ws → R J H1) → Q1 v H1) → tX X.K cl C E xa σ H Q1 := fun h =>
      tX_bindE sm se p fun r1 S1 v1 F1 L1 H1 eq x1 s1 w1 p1 => by
        rw [hr] at eq
        cases eq
        obtain ⟨ws, hw, p1⟩ := p1.bind.opt
        exact h v1 F1 L1 H1 s1 w1 fun ws' hw' => by
          rw [hw] at hw'
          cases hw'
          exact p1 F1 L1 H1 (Ext.refl _ _) s1 F1 L1 H1 (Ext.refl _ _) s1
    rw [hr] at p
    simp only [Res.bind_ok] at p
    revert use p
    generalize fz r = w
    intro p use
    cases w with
    | o n => exact p.elim
    | k kvs => exact p.elim
    | s ns =>
      refine (pi_list ha).run pins s σ H R I (use fun v F1 L1 H1 s1 ⟨a1, e1, h1⟩ q => ⟨a1, e1, ⟨_, s1.sub.sqL h1⟩, q _ rfl _ ?_⟩)
      have := itr_list (cl := cl) (L := L1) h1 (RpAll.ints ns)
      rw [List.map_map] at this
      exact this
    | d x =>
      cases x with
      | none => exact p.elim
      | bool b => exact p.elim
      | int i => exact p.elim
      | dict kvs => exact p.elim
      | str t => exact (pi_str ha).run pins s σ H R I (use fun v F1 L1 H1 s1 w1 q => by cases w1 with | str _ ht => exact ⟨t, rfl, q _ rfl _ (itr_str ht)⟩)
      | list xs => exact (pi_list ha).run pins s σ H R I (use fun v F1 L1 H1 s1 w1 q => by cases w1 with | lst h1 r1 => exact ⟨_, rfl, ⟨_, SqL.of (s1.sub _ _ h1)⟩, q _ rfl _ (itr_list (SqL.of h1) r1)⟩)
      | tuple xs => exact (pi_tup ha).run pins s σ H R I (use fun v F1 L1 H1 s1 w1 q => by cases w1 with | tup h1 r1 => exact ⟨_, rfl, ⟨_, s1.sub.sqT h1⟩, q _ rfl _ (itr_tup h1 r1)⟩)
/-- one argument -/
theorem tXs_one {K : PySem.W.Frag} {F : Hp} {L : Lv} {σ : St} {H : Hp} {e : Ev} {S : Sto} {β : Type} {ρ : β → Hp → Lv → Hp → Sto → Prop} {f : R → Sto → Res β} {x : Sc.X} {Q : List V → Hp → Prop} (s : Sim K cl F L H S) (se : SimE K F L σ e) (p : Post K cl E F L ρ ((evN C x e S).bind f))
    (h : ∀ r S1 v F1 L1 H1, Ext F L F1 L1 → Sim K cl F1 L1 H1 S1 → SimE K F1 L1 σ e → RepW K F1 L1 v (fz r) → Post K cl E F1 L1 ρ (f r S1) → Q [v] H1) : tCons (tX K cl C E x) tNil σ H Q :=
  tX_bind s se p fun r1 S1 v1 F1 L1 H1 x1 s1 se1 w1 p1 => h r1 S1 v1 F1 L1 H1 x1 s1 se1 w1 p1
theorem i_rng1 (ha : PX X cl C E a xa) (hg : Gl X "range") (hm : X.mg "range" = none) (hs : starEach [a] X.env = [(false, eval a X.env)]) : PXI X cl C E tg (.Call (.Name "range" p) [a] [] pos) (.rng1 xa) := by
  refine ⟨fun pins s σ H R I h => (pi_range1 hg hm (pa_cons ha pa_nil hs) hs).run pins s σ H R I ?_⟩
  obtain ⟨F, L, e, S, sm, se, p⟩ := h
  simp only [evI] at p
  refine tXs_one sm se p fun r1 S1 v1 F1 L1 H1 x1 s1 se1 w1 p1 => ?_
  obtain ⟨i, hi, p1⟩ := p1.bind.opt
  have p1 := p1 F1 L1 H1 (Ext.refl _ _) s1
  have e1 := asInt_ok w1 hi
  subst e1
  split at p1
  · rename_i hz
    exact ⟨i, rfl, hz.1, hz.2, p1 F1 L1 H1 (Ext.refl _ _) s1 _ itr_rng⟩
  · exact p1.elim
theorem i_rng2 (ha : PX X cl C E a xa) (hb : PX X cl C E b xb) (hg : Gl X "range") (hm : X.mg "range" = none) (hs : starEach [a, b] X.env = [(false, eval a X.env), (false, eval b X.env)]) (hs2 : starEach [b] X.env = [(false, eval b X.env)]) : PXI X cl C E tg (.Call (.Name "range" p) [a, b] [] pos) (.rng2 xa xb) := by
  refine ⟨fun pins s σ H R I h => (pi_range2 hg hm (pa_cons ha (pa_cons hb pa_nil hs2) (by rw [hs, hs2])) hs hs2).run pins s σ H R I ?_⟩
  obtain ⟨F, L, e, S, sm, se, p⟩ := h
  simp only [evI] at p
  refine tX_bind sm se p fun r1 S1 v1 F1 L1 H1 x1 s1 se1 w1 p1 => ?_
  refine tX_bind s1 se1 p1 fun r2 S2 v2 F2 L2 H2 x2 s2 se2 w2 p2 => ?_
  obtain ⟨i, hi, p2⟩ := p2.bind.opt
  have p2 := p2 F2 L2 H2 (Ext.refl _ _) s2
  obtain ⟨j, hj, p2⟩ := p2.bind.opt
  have p2 := p2 F2 L2 H2 (Ext.refl _ _) s2
  have e1 := asInt_ok w1 hi
  have e2 := asInt_ok w2 hj
  subst e1 e2
  split at p2
  · rename_i hz
    exact ⟨i, j, rfl, ⟨hz.1.1, hz.1.2, hz.2.1, hz.2.2⟩, p2 F2 L2 H2 (Ext.refl _ _) s2 _ itr_rng⟩
  · exact p2.elim
theorem seqD_list {K : PySem.W.Frag} {F : Hp} {L : Lv} {v : V} {w : W} {xs : List D} (r : RepW K F L v w) (h : listD w = some xs) : ∃ a vs, v = .ref a ∧ F a = some (.lst vs) ∧ RpAll K F vs xs := by
  unfold listD at h
  split at h
  · cases h
    cases r with | lst h1 ra => exact ⟨_, _, rfl, h1, ra⟩
  · cases h
theorem i_rev (ha : PX X cl C E a xa) (hg : Gl X "reversed") (hm : X.mg "reversed" = none) (hs : starEach [a] X.env = [(false, eval a X.env)]) : PXI X cl C E tg (.Call (.Name "reversed" p) [a] [] pos) (.rev xa) := by
  refine ⟨fun pins s σ H R I h => (pi_reversed hg hm (pa_cons ha pa_nil hs) hs).run pins s σ H R I ?_⟩
  obtain ⟨F, L, e, S, sm, se, p⟩ := h
  simp only [evI] at p
  refine tXs_one sm se p fun r1 S1 v1 F1 L1 H1 x1 s1 se1 w1 p1 => ?_
  obtain ⟨xs, hx, p1⟩ := p1.bind.opt
  have p1 := p1 F1 L1 H1 (Ext.refl _ _) s1
  obtain ⟨a1, vs, rfl, h1, ra⟩ := seqD_list w1 hx
  exact ⟨a1, vs, rfl, SqL.of (s1.sub _ _ h1), p1 F1 L1 H1 (Ext.refl _ _) s1 _ (itr_rev (SqL.of h1) ra)⟩
theorem i_enm {elts : List Expr} {kk : Nat} {tpos : Pos} (ha : PX X cl C E a xa) (hg : Gl X "enumerate") (hm : X.mg "enumerate" = none) (hs : starEach [a] X.env = [(false, eval a X.env)]) : PXI X cl C E (.Tuple elts kk tpos) (.Call (.Name "enumerate" p) [a] [] pos) (.enm xa) := by
  refine ⟨fun pins s σ H R I h => (pi_enum hg hm (pa_cons ha pa_nil hs) hs).run pins s σ H R I ?_⟩
  obtain ⟨F, L, e, S, sm, se, p⟩ := h
  simp only [evI] at p
  refine tXs_one sm se p fun r1 S1 v1 F1 L1 H1 x1 s1 se1 w1 p1 => ?_
  obtain ⟨xs, hx, p1⟩ := p1.bind.opt
  have p1 := p1 F1 L1 H1 (Ext.refl _ _) s1
  obtain ⟨a1, vs, rfl, h1, ra⟩ := seqD_list w1 hx
  exact ⟨a1, vs, rfl, SqL.of (s1.sub _ _ h1), p1 F1 L1 H1 (Ext.refl _ _) s1 _ (itr_enum (SqL.of h1) ra)⟩
theorem i_zip {elts : List Expr} {kk : Nat} {tpos : Pos} (ha : PX X cl C E a xa) (hb : PX X cl C E b xb) (hg : Gl X "zip") (hm : X.mg "zip" = none) (hs : starEach [a, b] X.env = (false, eval a X.env) :: starEach [b] X.env) (hs2 : starEach [b] X.env = [(false, eval b X.env)]) :
    PXI X cl C E (.Tuple elts kk tpos) (.Call (.Name "zip" p) [a, b] [] pos) (.zip xa xb) := by
  refine ⟨fun pins s σ H R I h => (pi_zip hg hm (pa_cons ha (pa_cons hb pa_nil hs2) hs) hs (by rw [hs2]; rfl)).run pins s σ H R I ?_⟩
  obtain ⟨F, L, e, S, sm, se, p⟩ := h
  simp only [evI] at p
  refine tX_bind sm se p fun r1 S1 v1 F1 L1 H1 x1 s1 se1 w1 p1 => ?_
  refine tX_bind s1 se1 p1 fun r2 S2 v2 F2 L2 H2 x2 s2 se2 w2 p2 => ?_
  obtain ⟨xs, hx, p2⟩ := p2.bind.opt
  have p2 := p2 F2 L2 H2 (Ext.refl _ _) s2
  obtain ⟨ys, hy, p2⟩ := p2.bind.opt
  have p2 := p2 F2 L2 H2 (Ext.refl _ _) s2
  obtain ⟨a1, vs, rfl, h1, ra⟩ := seqD_list (w1.mono x2) hx
  obtain ⟨a2, us, rfl, h2, rb⟩ := seqD_list w2 hy
  exact ⟨a1, a2, vs, us, rfl, SqL.of (s2.sub _ _ h1), SqL.of (s2.sub _ _ h2), p2 F2 L2 H2 (Ext.refl _ _) s2 _ (itr_zip (SqL.of h1) ra (SqL.of h2) rb)⟩

/-! ### for -/
theorem s_for {body : List Stmt} {sms : List Sm} {t : Tg} {iter : Expr} {xi : Sc.I} (hp : PassesOwn (model X.prog X.w) X.A X.env X.xe) (hc : X.calm = true) (hi : PXI X cl C E tg iter xi) (hg : GT X tg t) (hb : PXSs X cl C E body sms) (hs : ∀ x, foldedSetIterable iter X.env x = pure x) :
    PXS X cl C E (.For tg iter body [] pos) (.for_ t xi sms) := by
  refine (ps_for hp hc hi hg hb hs).imp fun D σ H ⟨F, L, e, S, s, se, p⟩ => ?_
  simp only [exec] at p
  refine ⟨F, L, e, S, s, se, p.bind.imp fun ws F1 L1 H1 S1 x1 s1 p1 J hJ => ?_⟩
  refine ⟨fun i m σ' H' => m = ws.length - i ∧ i ≤ ws.length ∧ ∃ F2 L2 e2 S2, Ext F1 L1 F2 L2 ∧ Sim X.K cl F2 L2 H' S2 ∧ SimE X.K F2 L2 σ' e2 ∧
    Post X.K cl E F2 L2 (ρS X.K D) (loopF (fun w e S => (opt (bindT t w e) S).bind fun e' S' => execs C sms e' S') (ws.drop i) e2 S2), ⟨ws.length, by simp, Nat.zero_le _, F1, L1, e, S1, Ext.refl _ _, s1, se.mono x1, by simpa using p1⟩, ?_⟩
  rintro i m σ' H' ⟨rfl, hi, F2, L2, e2, S2, x2, s2, se2, p2⟩
  obtain ⟨h1, h2⟩ := hJ F2 L2 H' S2 x2.f s2 i
  by_cases hlt : i < ws.length
  · obtain ⟨go, yld⟩ := h1 ws[i] (List.getElem?_eq_getElem hlt)
    refine .inr ⟨go, fun σ3 H3 => ∃ F3 L3 e3 S3, Ext F1 L1 F3 L3 ∧ Sim X.K cl F3 L3 H3 S3 ∧ SimE X.K F3 L3 σ3 e3 ∧ Post X.K cl E F3 L3 (ρS X.K D) (loopF (fun w e S => (opt (bindT t w e) S).bind fun e' S' => execs C sms e' S') (ws.drop (i + 1)) e3 S3),
      fun σ3 H3 ⟨F3, L3, e3, S3, x3, s3, se3, p3⟩ => ⟨ws.length - (i + 1), by omega, rfl, hlt, F3, L3, e3, S3, x3, s3, se3, p3⟩, fun x H3 y => ?_⟩
    obtain ⟨F3, x3, s3, w3⟩ := yld x H3 y
    rw [List.drop_eq_getElem_cons hlt] at p2
    simp only [loopF] at p2
    have p2 := p2.anti x3
    cases hbd : bindT t ws[i] e2 with
    | none => rw [hbd] at p2; exact p2.elim
    | some e3 =>
      rw [hbd] at p2
      simp only [opt_some, Res.bind_ok] at p2
      refine gOf_ok s3.sub w3 (se2.mono x3) hbd fun σ3 se3 _ => ?_
      refine ⟨F3, L2, e3, S2, s3, se3, p2.bind.imp fun fl F4 L4 H4 S4 x4 s4 p4 => ?_⟩
      cases fl with
      | next e4 => exact fun σ4 se4 => ⟨F4, L4, e4, S4, (x2.trans x3).trans x4, s4, se4, p4⟩
      | ret r => exact fun v rv => p4 F4 L4 H4 (Ext.refl _ _) s4 v rv
  · have e' : i = ws.length := by omega
    subst e'
    simp only [List.drop_length, loopF] at p2
    exact .inl ⟨h2 (Nat.le_refl _), p2 F2 L2 H' (Ext.refl _ _) s2 σ' se2⟩
end
end Sc
namespace Sc
open PySem PySem.Spec PyProof.Rows L2

theorem wipeE_length (e : Ev) : ∀ own : List Nat, (wipeE e own).length = e.length
  | [] => rfl
  | v :: vs => by unfold wipeE; rw [List.length_set, wipeE_length e vs]
theorem wipeE_some {e : Ev} {i : Nat} {x : W} : ∀ {vs : List Nat}, (wipeE e vs)[i]? = some (some x) → e[i]? = some (some x) ∧ i ∉ vs
  | [], h => ⟨h, by simp⟩
  | v :: vs, h => by
    unfold wipeE at h
    by_cases hi : v = i
    · subst hi
      by_cases hv : v < (wipeE e vs).length
      · rw [List.getElem?_set_self hv] at h; cases h
      · rw [List.getElem?_eq_none (by simpa using hv)] at h; cases h
    · rw [List.getElem?_set_ne hi] at h
      obtain ⟨h1, h2⟩ := wipeE_some h
      exact ⟨h1, by simp only [List.mem_cons, not_or]; exact ⟨fun e => hi e.symm, h2⟩⟩
theorem SimE.wipe {K : PySem.W.Frag} {F : Hp} {L : Lv} {σ : St} {e : Ev} (h : SimE K F L σ e) (own : List Nat) : SimE K F L (L2.wipe σ own) (wipeE e own) := by
  refine ⟨by rw [wipe_length, wipeE_length, h.1], fun i w q => ?_⟩
  obtain ⟨q1, q2⟩ := wipeE_some q
  obtain ⟨v, a, b⟩ := h.2 i w q1
  exact ⟨v, by rw [wipe_out q2]; exact a, b⟩
theorem RepW.priv {K : PySem.W.Frag} {F : Hp} {l : List (Option Addr)} {M M' : Hp} {v : V} : ∀ {w : W}, RepW K F ⟨l, M⟩ v w → RepW K F ⟨l, M'⟩ v w
  | .d _, h => h
  | .o _, h => h
  | .s _, h => h
  | .k _, h => h
theorem SimE.priv {K : PySem.W.Frag} {F : Hp} {l : List (Option Addr)} {M M' : Hp} {σ : St} {e : Ev} (h : SimE K F ⟨l, M⟩ σ e) : SimE K F ⟨l, M'⟩ σ e := ⟨h.1, fun i w q => let ⟨v, a, b⟩ := h.2 i w q; ⟨v, a, b.priv⟩⟩
theorem wipe_in {σ : St} {i : Nat} : ∀ {own : List Nat}, i ∈ own → i < σ.length → (L2.wipe σ own)[i]? = some none
  | [], h, _ => by cases h
  | v :: vs, h, hl => by
    unfold L2.wipe
    by_cases hv : v = i
    · subst hv
      rw [List.getElem?_set_self (by rw [wipe_length]; exact hl)]
    · rw [List.getElem?_set_ne hv]
      rcases List.mem_cons.mp h with h | h
      · exact absurd h.symm hv
      · exact wipe_in h hl
theorem wipe_wipe {σ : St} {own : List Nat} : L2.wipe (L2.wipe σ own) own = L2.wipe σ own := by
  apply List.ext_getElem?
  intro i
  by_cases hi : i ∈ own
  · by_cases hl : i < σ.length
    · rw [wipe_in hi (by rw [wipe_length]; exact hl), wipe_in hi hl]
    · rw [List.getElem?_eq_none (by rw [wipe_length, wipe_length]; omega), List.getElem?_eq_none (by rw [wipe_length]; omega)]
  · rw [wipe_out hi]
/-- nothing that is raised leaves a comprehension -/
theorem Post.noX {K : PySem.W.Frag} {cl : Str → Addr} {E E' : XK} {F : Hp} {L : Lv} {α : Type} {ρ : α → Hp → Lv → Hp → Sto → Prop} : ∀ {r : Res α}, Post K cl E F L ρ (Sc.noX r) → Post K cl E' F L ρ r
  | .ok _ _, h => h
  | .exc _ _ _, h => h.elim
  | .stuck, h => h
/-- more is held privately meanwhile -/
theorem Post.hold {K : PySem.W.Frag} {cl : Str → Addr} {E : XK} {F : Hp} {l : List (Option Addr)} {M M' : Hp} (hM : Sub M M') {α : Type} {ρ : α → Hp → Lv → Hp → Sto → Prop} : ∀ {r : Res α}, Post K cl E F ⟨l, M⟩ ρ r → Post K cl E F ⟨l, M'⟩ (fun a F' L' H' S' => ρ a F' ⟨L'.l, M⟩ H' S') r
  | .ok a S, h => fun F' L' H' e s => h F' ⟨L'.l, M⟩ H' ⟨e.f, e.l, rfl⟩ (s.unhold (by rw [e.p]; exact hM))
  | .exc _ _ _, h => fun F' L' H' e s => h F' ⟨L'.l, M⟩ H' ⟨e.f, e.l, rfl⟩ (s.unhold (by rw [e.p]; exact hM))
  | .stuck, h => h
theorem few_ok {K : PySem.W.Frag} {cl : Str → Addr} {E : XK} {F : Hp} {L : Lv} {α : Type} {ρ : α → Hp → Lv → Hp → Sto → Prop} {n : Nat} {r : Res α} (h : Post K cl E F L ρ (few n r)) : n ≤ sizeLine ∧ Post K cl E F L ρ r := by
  unfold few at h
  split at h
  · rename_i hz; exact ⟨hz, h⟩
  · exact h.elim

def tTs (K : PySem.W.Frag) (cl : Str → Addr) (C : Orc) (E : XK) (xs : List Sc.X) : TT := fun σ H Q => ∃ F L e S, Sim K cl F L H S ∧ SimE K F L σ e ∧ Post K cl E F L (fun b _ _ H' _ => Q b H') (tests C xs e S)
section
variable {X : Cx} {cl : Str → Addr} {C : Orc} {E : XK} {a b c tg : Expr} {xa xb xc : Sc.X} {pos p : Pos}
theorem _root_.L2.PTs.imp {X : Cx} {e : List Expr} {t t' : TT} (h : PTs X e t) (i : ∀ σ H Q, t' σ H Q → t σ H Q) : PTs X e t' := ⟨fun pins s σ H Q I q => h.run pins s σ H Q I (i σ H Q q)⟩
theorem ts_nil : PTs X [] (tTs X.K cl C E []) := pts_nil.imp fun σ H Q ⟨F, L, e, S, s, se, p⟩ => by
  simp only [tests] at p
  exact p F L H (Ext.refl _ _) s
theorem ts_one (h : PXT X cl C E c xc) : PTs X [c] (tTs X.K cl C E [xc]) := (pts_one h).imp fun σ H Q ⟨F, L, e, S, s, se, p⟩ => by
  simp only [tests] at p
  exact ⟨F, L, e, S, s, se, p⟩

def E0 : XK := fun _ _ _ => False
theorem tLc_ok {K : PySem.W.Frag} {xi : Sc.I} {t : Tg} {ifs : List Sc.X} {xe : Sc.X} {own : List Nat} (hown : tgIn t own) {σ : St} {H : Hp} {Q : VK} (h : tX K cl C E (.comp xe t xi ifs own) σ H Q) :
    tLc (tI K cl C E xi) (gOf K t) (tTs K cl C E0 ifs) (tX K cl C E0 xe) own σ H Q := by
  obtain ⟨F, L, e, S, s, se, p⟩ := h
  simp only [evN] at p
  refine ⟨F, L, e, S, s, se, p.bind.imp fun ws F1 L1 H1 S1 x1 s1 p1 J hJ D hD => ?_⟩
  obtain ⟨hfew, p1⟩ := few_ok p1
  have p1 := p1.bind.noX (E' := E0)
  have se1 := se.mono x1
  obtain ⟨s1', hfre⟩ := s1.newH (o := .lst []) hD
  generalize hf : (fun (w : W) (S : Sto) => (opt (bindT t w (wipeE e own)) S).bind fun e' S => (tests C ifs e' S).bind fun k S => match k with
        | true => (evN C xe e' S).bind fun r S => oneD r S
        | false => .ok none S) = f at p1
  have hM : ∀ acc : List V, Sub L1.p (upd L1.p D (.lst acc)) := fun acc => Sub.upd hfre.2.2
  refine ⟨fun i m H2 => m = ws.length - i ∧ i ≤ ws.length ∧ ∃ F2 l2 S2 acc accD, Ext F1 L1 F2 ⟨l2, L1.p⟩ ∧ Sim K cl F2 ⟨l2, upd L1.p D (.lst acc)⟩ H2 S2 ∧ RpAll K F2 acc accD ∧ acc.length ≤ i ∧
    Post K cl E0 F2 ⟨l2, L1.p⟩ (fun ds F' L' _ S' => Post K cl E F' L' (ρR K Q) (.ok (.n (accD ++ ds)) S')) (loopC f (ws.drop i) S2),
    ⟨ws.length, by simp, Nat.zero_le _, F1, L1.l, S1, [], [], Ext.refl _ _, s1'.hold upd_same hfre, .nil, Nat.le_refl _, by simpa using p1⟩, ?_⟩
  rintro i m H2 ⟨rfl, hi, F2, l2, S2, acc, accD, x2, s2, ra, hac, p2⟩
  obtain ⟨h1, h2⟩ := hJ F2 _ H2 S2 x2.f s2 i
  obtain ⟨hDv, hDf, hDl⟩ := s2.pr D (.lst acc) upd_same
  by_cases hlt : i < ws.length
  · obtain ⟨go, yld⟩ := h1 ws[i] (List.getElem?_eq_getElem hlt)
    refine .inr ⟨go, fun H3 => ∃ F3 l3 S3 acc' accD', Ext F1 L1 F3 ⟨l3, L1.p⟩ ∧ Sim K cl F3 ⟨l3, upd L1.p D (.lst acc')⟩ H3 S3 ∧ RpAll K F3 acc' accD' ∧ acc'.length ≤ i + 1 ∧
      Post K cl E0 F3 ⟨l3, L1.p⟩ (fun ds F' L' _ S' => Post K cl E F' L' (ρR K Q) (.ok (.n (accD' ++ ds)) S')) (loopC f (ws.drop (i + 1)) S3),
      fun H3 ⟨F3, l3, S3, acc', accD', q1, q2, q3, q4, q5⟩ => ⟨ws.length - (i + 1), by omega, rfl, hlt, F3, l3, S3, acc', accD', q1, q2, q3, q4, q5⟩, fun x H3 y => ?_⟩
    obtain ⟨F3, x3, s3, w3⟩ := yld x H3 y
    have x3' : Ext F2 ⟨l2, L1.p⟩ F3 ⟨l2, L1.p⟩ := ⟨x3.f, fun _ _ z => z, rfl⟩
    have x23 := x2.trans x3'
    rw [List.drop_eq_getElem_cons hlt] at p2
    simp only [loopC] at p2
    have p3 := (p2.anti x3').bind.hold (hM acc)
    have se3 : SimE K F3 ⟨l2, upd L1.p D (.lst acc)⟩ (L2.wipe σ own) (wipeE e own) := (SimE.wipe (SimE.mono (F' := F3) (L' := ⟨l2, L1.p⟩) x23 se1) own).priv
    -- the turn's end
    have fin : ∀ (r : Option Sc.D) (F5 : Hp) (L5 : Lv) (H5 : Hp) (S5 : Sto) (acc' : List V) (H5' : Hp), Ext F3 ⟨l2, upd L1.p D (.lst acc)⟩ F5 L5 → Sim K cl F5 ⟨L5.l, upd L1.p D (.lst acc')⟩ H5' S5 → RpAll K F5 acc' (accD ++ r.toList) → acc'.length ≤ i + 1 →
        Post K cl E0 F5 ⟨L5.l, L1.p⟩ (fun ds F' L' _ S' => Post K cl E F' L' (ρR K Q) (.ok (.n (accD ++ ds)) S')) ((loopC f (ws.drop (i + 1)) S5).bind fun ds S'' => .ok (r.toList ++ ds) S'') →
        ∃ F3 l3 S3 acc' accD', Ext F1 L1 F3 ⟨l3, L1.p⟩ ∧ Sim K cl F3 ⟨l3, upd L1.p D (.lst acc')⟩ H5' S3 ∧ RpAll K F3 acc' accD' ∧ acc'.length ≤ i + 1 ∧
          Post K cl E0 F3 ⟨l3, L1.p⟩ (fun ds F' L' _ S' => Post K cl E F' L' (ρR K Q) (.ok (.n (accD' ++ ds)) S')) (loopC f (ws.drop (i + 1)) S3) := by
      intro r F5 L5 H5 S5 acc' H5' x5 s5 ra5 hac5 p5
      refine ⟨F5, L5.l, S5, acc', accD ++ r.toList, x23.trans ⟨x5.f, x5.l, rfl⟩, s5, ra5, hac5, p5.bind.imp fun ds F' L' H' S' x' s' q => ?_⟩
      have q := q F' L' H' (Ext.refl _ _) s'
      rw [List.append_assoc]
      exact q
    rw [← hf] at p3
    obtain ⟨e3, he3, p3⟩ := p3.bind.opt
    have p3 := p3 F3 _ H3 (Ext.refl _ _) s3
    refine gOf_ok s3.sub w3 se3 he3 fun σ3 se3 hw => ⟨(hw own hown).trans wipe_wipe, ?_⟩
    refine ⟨F3, _, e3, S2, s3, se3, p3.bind.imp fun k F4 L4 H4 S4 x4 s4 p4 => ?_⟩
    rw [hf] at p4
    cases k with
    | false =>
      rw [if_neg (by decide)]
      have q := p4 F4 L4 H4 (Ext.refl _ _) s4
      have e4 : L4 = ⟨L4.l, upd L1.p D (.lst acc)⟩ := by
        have z : L4.p = upd L1.p D (.lst acc) := x4.p
        rw [← z]
      exact fin none F4 L4 H4 S4 acc H4 x4 (by rw [← e4]; exact s4) (by rw [Option.toList_none, List.append_nil]; exact ra.mono (x3.f.trans x4.f)) (by omega) q
    | true =>
      rw [if_pos rfl]
      refine tX_bind s4 (se3.mono x4) p4 fun r5 S5 v5 F5 L5 H5 x5 s5 se5 w5 p5 => ?_
      have e5 : L5.p = upd L1.p D (.lst acc) := x5.p.trans x4.p
      obtain ⟨hDv5, hDf5, hDl5⟩ := s5.pr D (.lst acc) (by rw [e5]; exact upd_same)
      unfold oneD at p5
      split at p5
      case h_2 => exact p5.elim
      rename_i d hd
      rw [hd] at w5
      have q := p5 F5 L5 H5 (Ext.refl _ _) s5
      have s6 := s5.hwrite (u := .lst (acc ++ [v5])) (show L5.p D = some (.lst acc) by rw [e5]; exact upd_same)
      rw [e5, upd_upd] at s6
      exact ⟨acc, hDv5, by omega, fin (some d) F5 L5 H5 S5 (acc ++ [v5]) _ (x4.trans x5) s6 ((ra.mono (x3.f.trans (x4.f.trans x5.f))).append (.cons w5 .nil)) (by simp; omega) q⟩
  · have e' : i = ws.length := by omega
    subst e'
    simp only [List.drop_length, loopC] at p2
    have s2' : Sim K cl F2 ⟨l2, L1.p⟩ H2 S2 := s2.unhold (hM acc)
    have q := p2 F2 ⟨l2, L1.p⟩ H2 (Ext.refl _ _) s2' F2 ⟨l2, L1.p⟩ H2 (Ext.refl _ _) s2' (.ref D) ⟨D, acc, rfl, hDv, ⟨hDf, hDl, hfre.2.2⟩, by rw [List.append_nil]; exact ra⟩
    exact .inl ⟨h2 (Nat.le_refl _), q⟩
end
end Sc
namespace Sc
open PySem PySem.Spec PyProof.Rows L2

section
variable {X : Cx} {cl : Str → Addr} {C : Orc} {E : XK} {a b c tg : Expr} {xa xb xc : Sc.X} {pos p : Pos}
theorem x_comp {elt iter : Expr} {ifs : List Expr} {scope : Scope} {own : List (Str × Nat)} {xi : Sc.I} {t : Tg} {xifs : List Sc.X} {xe : Sc.X} (hc : X.calm = true) (hN : X.N.Nodup) (hi : PXI X cl C E tg iter xi) (ok : BlkOk X.N X.env.scope scope own) {ow : List Nat} (how : own.map (·.2) = ow) (hown : tgIn t ow)
    (hg : ∀ (s : Shared) (H : Hp) (A : Addr) (cs : List (Str × Addr)) (fp : List Addr), GT (X.blk s H scope (compEnvC scope cs A X.env) fp) tg t)
    (ht : ∀ (s : Shared) (H : Hp) (A : Addr) (cs : List (Str × Addr)) (fp : List Addr), PTs (X.blk s H scope (compEnvC scope cs A X.env) fp) ifs (tTs X.K cl C E0 xifs))
    (he : ∀ (s : Shared) (H : Hp) (A : Addr) (cs : List (Str × Addr)) (fp : List Addr), PX (X.blk s H scope (compEnvC scope cs A X.env) fp) cl C E0 elt xe) (hs : ∀ x, foldedSetIterable iter X.env x = pure x) :
    PX X cl C E (.ListComp elt [⟨tg, iter, ifs, 0⟩] scope pos) (.comp xe t xi xifs ow) := by
  subst how
  exact (pe_lc hc hN hi ok hg ht he hs).imp fun σ H Q h => tLc_ok hown h
theorem s_setLc {i : Nat} {y : Str} {py spos : Pos} {elt iter : Expr} {ifs : List Expr} {scope : Scope} {own : List (Str × Nat)} {xi : Sc.I} {t : Tg} {xifs : List Sc.X} {xe : Sc.X} (hc : X.calm = true) (hN : X.N.Nodup) (hy : X.N[i]? = some y) (hyl : X.env.scope.names.lookup y = some .local)
    (hsw : swapsWith (.ListComp elt [⟨tg, iter, ifs, 0⟩] scope pos) (some (.Name y py)) spos.line X.env = pure true) (hi : PXI X cl C E tg iter xi) (ok : BlkOk X.N X.env.scope scope own) {ow : List Nat} (how : own.map (·.2) = ow) (hown : tgIn t ow)
    (hg : ∀ (s : Shared) (H : Hp) (A : Addr) (cs : List (Str × Addr)) (fp : List Addr), GT (X.blk s H scope (compEnvC scope cs A X.env) fp) tg t)
    (ht : ∀ (s : Shared) (H : Hp) (A : Addr) (cs : List (Str × Addr)) (fp : List Addr), PTs (X.blk s H scope (compEnvC scope cs A X.env) fp) ifs (tTs X.K cl C E0 xifs))
    (he : ∀ (s : Shared) (H : Hp) (A : Addr) (cs : List (Str × Addr)) (fp : List Addr), PX (X.blk s H scope (compEnvC scope cs A X.env) fp) cl C E0 elt xe) (hs : ∀ x, foldedSetIterable iter X.env x = pure x) :
    PXS X cl C E (.Assign [.Name y py] (.ListComp elt [⟨tg, iter, ifs, 0⟩] scope pos) spos) (.asg (.nm i) (.comp xe t xi xifs ow)) := by
  subst how
  exact (ps_setLc hc hN hy hyl hsw hi ok hg ht he hs).imp fun D σ H ⟨F, L, e, S, s, se, p⟩ => by
    simp only [exec] at p
    refine tLc_ok hown (tX_bind s se p fun r1 S1 v1 F1 L1 H1 x1 s1 se1 w1 p1 => ?_)
    obtain ⟨e', he, p1⟩ := p1.bind.opt
    exact gOf_ok (t := .nm i) s1.sub w1 se1 he fun σ' se' _ => p1 F1 L1 H1 (Ext.refl _ _) s1 F1 L1 H1 (Ext.refl _ _) s1 σ' se'
end

/-! ### forms of syntax -/
def noStar : Expr → Bool
  | .Starred _ _ => false
  | _ => true
def plainT : Expr → Bool
  | .UnaryOp .Not _ _ => false
  | .BoolOp _ _ _ => false
  | .IfExp _ _ _ _ => false
  | .Compare _ _ _ _ => false
  | _ => true
def noComp : Expr → Bool
  | .ListComp _ _ _ _ => false
  | .SetComp _ _ _ _ => false
  | .DictComp _ _ _ _ _ => false
  | _ => true
def noTup : Expr → Bool
  | .Tuple _ _ _ => false
  | _ => true
def noSet : Expr → Bool
  | .Set _ _ _ => false
  | _ => true
def noSlice : Expr → Bool
  | .Slice _ _ _ _ => false
  | _ => true
def noCall0 : Expr → Bool
  | .Call (.Name _ _) [] [] _ => false
  | _ => true
theorem star_cons {a : Expr} {es : List Expr} {env : Env} (h : noStar a = true) : starEach (a :: es) env = (false, eval a env) :: starEach es env := by
  cases a <;> first | rfl | cases h
theorem star_any {pos : Pos} {env : Env} : ∀ {es : List Expr}, es.all noStar = true → (backTo pos (starEach es env)).any (·.1) = false
  | [], _ => rfl
  | a :: es, h => by
    simp only [List.all_cons, Bool.and_eq_true] at h
    rw [star_cons h.1]
    show (false || (backTo pos (starEach es env)).any (·.1)) = false
    rw [star_any h.2]; rfl
theorem star_all {pos : Pos} {env : Env} : ∀ {es : List Expr}, es.all noStar = true → (backTo pos (starEach es env)).all (fun x => !x.1) = true
  | [], _ => rfl
  | a :: es, h => by
    simp only [List.all_cons, Bool.and_eq_true] at h
    rw [star_cons h.1]
    show (true && (backTo pos (starEach es env)).all (fun x => !x.1)) = true
    rw [star_all h.2]; rfl
theorem plain_ok {a : Expr} {env : Env} (h : plainT a = true) : ∀ whole, isTrue a env whole = (do let v ← whole; standAt a.pos; holding [v] (truthy v)) := by
  intro whole
  cases a with
  | UnaryOp op x p => cases op <;> first | rfl | cases h
  | BoolOp _ _ _ => cases h
  | IfExp _ _ _ _ => cases h
  | Compare _ _ _ _ => cases h
  | _ => rfl
theorem noComp_ok {a : Expr} {t : Option Expr} {l : Nat} {env : Env} (h : noComp a = true) : swapsWith a t l env = pure false := by
  cases a <;> first | rfl | cases h
theorem noSet_ok {a : Expr} {env : Env} (h : noSet a = true) : ∀ x, foldedSetIterable a env x = pure x := by
  intro x
  cases a <;> first | rfl | cases h
theorem noSet_in {a : Expr} {op : CmpOp} (h : noSet a = true) : behindInMarks op a = false := by
  cases a <;> first | rfl | cases h
theorem noSlice_ok {a : Expr} (h : noSlice a = true) : PlainIx a := by
  intro o i
  cases a <;> first | rfl | cases h
theorem noCall_ok {a : Expr} {f : Str} {env : Env} {w : Sem Value} (h : noCall0 a = true) : attributeBase a f env w = w := by
  cases a with
  | Call fn args kws pos =>
    cases fn with
    | Name id p =>
      cases args with
      | nil => cases kws with
        | nil => cases h
        | cons _ _ => rfl
      | cons _ _ => rfl
    | _ => rfl
  | _ => rfl
theorem stores_ok {tg a : Expr} {env : Env} (h : noTup a = true) : swappedStores [tg] a env = pure none := by
  cases a with
  | Tuple _ _ _ => cases h
  | _ => cases tg <;> rfl
theorem stores_name {x : Str} {p : Pos} {a : Expr} {env : Env} : swappedStores [.Name x p] a env = pure none := by cases a <;> rfl
theorem stores_sub {o i : Expr} {p : Pos} {a : Expr} {env : Env} : swappedStores [.Subscript o i p] a env = pure none := by cases a <;> rfl

/-! ### data compared exactly -/
mutual
def deq : D → D → Bool
  | .none, .none => true
  | .bool a, .bool b => a == b
  | .int a, .int b => a == b
  | .str a, .str b => a == b
  | .list a, .list b => deqs a b
  | .tuple a, .tuple b => deqs a b
  | _, _ => false
def deqs : List D → List D → Bool
  | [], [] => true
  | a :: r, b :: s => deq a b && deqs r s
  | _, _ => false
end
mutual
theorem deq_ok : ∀ {a b : D}, deq a b = true → a = b
  | .none, .none, _ => rfl
  | .bool a, .bool b, h => by simp only [deq, beq_iff_eq] at h; rw [h]
  | .int a, .int b, h => by simp only [deq, beq_iff_eq] at h; rw [h]
  | .str a, .str b, h => by simp only [deq, beq_iff_eq] at h; rw [h]
  | .list a, .list b, h => by simp only [deq] at h; rw [deqs_ok h]
  | .tuple a, .tuple b, h => by simp only [deq] at h; rw [deqs_ok h]
  | .none, .bool _, h | .none, .int _, h | .none, .str _, h | .none, .list _, h | .none, .tuple _, h | .none, .dict _, h => by simp [deq] at h
  | .bool _, .none, h | .bool _, .int _, h | .bool _, .str _, h | .bool _, .list _, h | .bool _, .tuple _, h | .bool _, .dict _, h => by simp [deq] at h
  | .int _, .none, h | .int _, .bool _, h | .int _, .str _, h | .int _, .list _, h | .int _, .tuple _, h | .int _, .dict _, h => by simp [deq] at h
  | .str _, .none, h | .str _, .bool _, h | .str _, .int _, h | .str _, .list _, h | .str _, .tuple _, h | .str _, .dict _, h => by simp [deq] at h
  | .list _, .none, h | .list _, .bool _, h | .list _, .int _, h | .list _, .str _, h | .list _, .tuple _, h | .list _, .dict _, h => by simp [deq] at h
  | .tuple _, .none, h | .tuple _, .bool _, h | .tuple _, .int _, h | .tuple _, .str _, h | .tuple _, .list _, h | .tuple _, .dict _, h => by simp [deq] at h
  | .dict _, _, h => by simp [deq] at h
theorem deqs_ok : ∀ {a b : List D}, deqs a b = true → a = b
  | [], [], _ => rfl
  | a :: r, b :: s, h => by
    simp only [deqs, Bool.and_eq_true] at h
    rw [deq_ok h.1, deqs_ok h.2]
  | [], _ :: _, h => by simp [deqs] at h
  | _ :: _, [], h => by simp [deqs] at h
end
end Sc
namespace Sc
open PySem PySem.Spec PyProof.Rows L2

/-! ### set comprehensions of ints and texts: the set is known by the list of its members -/
theorem hasK_iff {l : List Key} {k : Key} : hasK l k = true ↔ k ∈ l := by
  unfold hasK
  rw [List.any_eq_true]
  exact ⟨fun ⟨x, h, e⟩ => of_decide_eq_true e ▸ h, fun h => ⟨k, h, decide_eq_true rfl⟩⟩
def setH (P : Program) (w : World) (a : Addr) (l : List Key) : HO := SetK P w a (hasK l) l.length
theorem addK_has (l : List Key) (k j : Key) : hasK (addK l k) j = (hasK l j || decide (j = k)) := by
  unfold addK
  split
  · rename_i h
    by_cases hj : j = k
    · subst hj; rw [h]; rfl
    · rw [decide_eq_false hj, Bool.or_false]
  · unfold hasK
    rw [List.any_append]
    simp only [List.any_cons, List.any_nil, Bool.or_false]
    congr 1
    by_cases hj : j = k
    · subst hj; rfl
    · rw [decide_eq_false hj, decide_eq_false (Ne.symm hj)]
theorem addK_len (l : List Key) (k : Key) : (addK l k).length = if hasK l k = true then l.length else l.length + 1 := by
  unfold addK
  split
  · rfl
  · simp
section
variable {X : Cx}
theorem add_to {pins : List (Addr × Obj)} {σ : St} {H : Hp} {s : Shared} {E : Value → Shared → Prop} {D : Addr} {l : List Key} {k : Key} {u : Value} {Q : Value → Shared → Prop} (I : Inv X pins σ H s) (hD : H D = some (setH X.prog X.w D l)) (hl : l.length + 1 < scanBound) (r : RelV (kV k) u)
    (h : ∀ s', Inv X pins σ (upd H D (setH X.prog X.w D (addK l k))) s' → Q .none s') : wpAny (model X.prog X.w) X.A (call (.builtin "set.add") [.ref D, u]) Q E s := by
  refine call_set_add (kV_is r) (key_scan r) (setK_get I hD) hl fun h' sb new => ?_
  have there : ∃ o, h'.get? D = some o := by obtain ⟨o, _, _, _, e, _⟩ := new; exact ⟨o, e⟩
  have e1 : (fun j => hasK l j || decide (j = k)) = hasK (addK l k) := funext fun j => (addK_has l k j).symm
  have ok : ObjOk X.prog X.w (upd H D (setH X.prog X.w D (addK l k))) h' D (setH X.prog X.w D (addK l k)) := by
    unfold setH
    rw [addK_len, ← e1]
    exact setK_new new
  exact h _ (I.write (e := D) (t' := s.toks + 1) (by rw [hD]; trivial) (.inl rfl) (fun b o hb ho => (sb.2 b hb).trans ho) there ok)
/-- {elt for target in iter if ..}: D the new set -/
def tSk (P : Program) (w : World) (wi : TI) (g : TG) (tt : TT) (te : TE) (own : List Nat) : TE := fun σ H Q => wi σ H fun J H1 => ∀ D, H1 D = none → ∃ W : Nat → Nat → Hp → Prop, (∃ m, W 0 m (upd H1 D (setH P w D []))) ∧
  ∀ i m H2, W i m H2 → (J.stop i H2 ∧ Q (.ref D) H2) ∨ (J.go i H2 ∧ ∃ Nx : Hp → Prop, (∀ H', Nx H' → ∃ m', m' < m ∧ W (i + 1) m' H') ∧
    ∀ x H3, J.yld i H2 x H3 → g x (L2.wipe σ own) H3 fun σ4 H4 => L2.wipe σ4 own = L2.wipe σ own ∧ tt σ4 H4 fun b H5 =>
      if b = true then te σ4 H5 fun y H6 => ∃ (k : Key) (l : List Key), y = kV k ∧ H6 D = some (setH P w D l) ∧ l.length + 1 < scanBound ∧ Nx (upd H6 D (setH P w D (addK l k))) else Nx H5)
theorem sk_run {pins : List (Addr × Obj)} {s : Shared} {σ : St} {H : Hp} {Q : VK} {elt tg iter : Expr} {ifs : List Expr} {scope : Scope} {own : List (Str × Nat)} {pos pos' : Pos} {wi : TI} {g : TG} {tt : TT} {te : TE}
    (calm : X.calm = true) (nd : X.N.Nodup) (I : Inv X pins σ H s) (hi : PI X tg iter wi) (ok : BlkOk X.N X.env.scope scope own)
    (hg : ∀ (s : Shared) (H : Hp) (A : Addr) (cs : List (Str × Addr)) (fp : List Addr), PG (X.blk s H scope (compEnvC scope cs A X.env) fp) tg g)
    (ht : ∀ (s : Shared) (H : Hp) (A : Addr) (cs : List (Str × Addr)) (fp : List Addr), PTs (X.blk s H scope (compEnvC scope cs A X.env) fp) ifs tt)
    (he : ∀ (s : Shared) (H : Hp) (A : Addr) (cs : List (Str × Addr)) (fp : List Addr), PE (X.blk s H scope (compEnvC scope cs A X.env) fp) elt te) (hs : ∀ x, foldedSetIterable iter X.env x = pure x)
    (h : tSk X.prog X.w wi g tt te (own.map (·.2)) σ H Q) :
    wpAny (model X.prog X.w) X.A (comprehension (.SetComp elt [⟨tg, iter, ifs, 0⟩] scope pos) scope X.env pos' (newSet (.type "set")) false (eval iter X.env) none) (EP X pins σ Q) X.xe s := by
  have cells : ∀ y ∈ scope.names, y.2 = .free → ∃ c, X.env.cells.lookup y.1 = some c := fun y hy e => (ok.free y hy e).elim (fun k => I.ok.has _ (.inl k)) (fun k => I.ok.has _ (.inr k))
  refine wpAny_comprehension_free (use := none) rfl hs (closure_ok cells) ok.kind (fun y hy e => by rw [ok.uniq y hy, e]) (thn (hi.run pins s σ H _ I h) fun _ _ a => thn a fun _ s2 b => ?_)
  obtain ⟨it, fp, tn, J, H2, rfl, I2, T, t2, f2, q⟩ := b
  refine PpSet.newSet_ok (newEnv_comp ?_)
  obtain ⟨D, hD⟩ : ∃ D, s2.heap.objs.size = D := ⟨_, rfl⟩
  rw [hD]
  obtain ⟨W, ⟨m0, w0⟩, turn⟩ := q D (I2.hok.fresh (Nat.le_of_eq hD))
  obtain ⟨s3, es3⟩ : ∃ s3 : Shared, ({ s2 with heap := s2.heap.push { cls := .type "set", dict := none, data := .set #[] 0 (.fresh 0 0 (!X.w.params.followText "set-order")) } } : Shared) = s3 := ⟨_, rfl⟩
  have hp3 : s3.heap = s2.heap.push { cls := .type "set", dict := none, data := .set #[] 0 (.fresh 0 0 (!X.w.params.followText "set-order")) } := by rw [← es3]
  have keep3 : ∀ b o, s2.heap.get? b = some o → s3.heap.get? b = some o := fun b o e => by rw [hp3]; exact Heap.get?_push_of_some _ e
  have new : (s2.heap.push { cls := .type "set", dict := none, data := .set #[] 0 (.fresh 0 0 (!X.w.params.followText "set-order")) }).SetOf (mixKind X.prog X.w) D (hasK []) 0 := by
    rw [← hD]
    exact ⟨_, #[], 0, _, Heap.get?_push_size _ rfl, ⟨rfl, rfl, rfl⟩, rfl, (fun e he => by simp at he), (fun k => by simp [hasK]), (by decide), (by rfl), rfl⟩
  obtain ⟨H3, eH3⟩ : ∃ H3, upd H2 D (setH X.prog X.w D []) = H3 := ⟨_, rfl⟩
  rw [eH3] at w0
  have I3 : Inv X pins σ H3 s3 := by
    rw [← es3, ← eH3]
    exact I2.laid (t' := s2.toks) (fun b o e => Heap.get?_push_of_some _ e) (Nat.le_of_eq hD) (setK_new new)
  have f3 : ∀ b ∈ fp, FpOk X pins H3 b ∧ b < s3.heap.objs.size := fun b hb => by
    obtain ⟨o, e, _⟩ := T.obj _ _ t2 b hb
    have lt := Heap.lt_size e
    refine ⟨⟨?_, (f2 b hb).2⟩, Heap.lt_size (keep3 b o e)⟩
    rw [← eH3, upd_ne (by rw [← hD]; exact Nat.ne_of_lt lt)]
    exact (f2 b hb).1
  have t3 : tn 0 s3.heap := T.keep _ _ _ t2 fun b _ o e => keep3 b o e
  have I4 := block_start I3 ok nd f3
  have pg := hg s3 H3 s3.heap.objs.size (cellsFrom (s3.heap.objs.size + 1) scope.names (cloFrom X.env.cells scope.names [])) fp
  have pt := ht s3 H3 s3.heap.objs.size (cellsFrom (s3.heap.objs.size + 1) scope.names (cloFrom X.env.cells scope.names [])) fp
  have pe := he s3 H3 s3.heap.objs.size (cellsFrom (s3.heap.objs.size + 1) scope.names (cloFrom X.env.cells scope.names [])) fp
  rw [es3]
  obtain ⟨ce, ece⟩ : ∃ ce, compEnvC scope (cellsFrom (s3.heap.objs.size + 1) scope.names (cloFrom X.env.cells scope.names [])) s3.heap.objs.size X.env = ce := ⟨_, rfl⟩
  have lce : ce.locals = s3.heap.objs.size := by rw [← ece]; rfl
  show codeAny _ _ (.compStart (.SetComp elt [⟨tg, iter, ifs, 0⟩] scope pos) 0 (.ref it) (.ref D) (compEnvC scope (cellsFrom (s3.heap.objs.size + 1) scope.names (cloFrom X.env.cells scope.names [])) s3.heap.objs.size X.env)) _ _
  rw [ece] at I4 pg pt pe ⊢
  obtain ⟨s4, es4⟩ : ∃ s4 : Shared, ({ s3 with heap := pushCells (s3.heap.push { cls := .type "dict", data := .dict #[] }) scope.names } : Shared) = s4 := ⟨_, rfl⟩
  rw [es4] at I4 ⊢
  have t4 : tn 0 s4.heap := T.keep _ _ _ t3 fun b _ o e => by rw [← es4]; exact pushCells_keeps _ _ _ _ (Heap.get?_push_of_some _ e)
  have still : ∀ {σ' : St} {H' : Hp} {s' : Shared}, Inv (X.blk s3 H3 scope ce fp) [] σ' H' s' → (∀ b ∈ fp, H' b = none) → ∀ b ∈ fp, FpOk (X.blk s3 H3 scope ce fp) [] H' b := fun {σ' H' s'} I' hn b hb =>
    ⟨hn b hb, (I'.ok.exf b hb).1, I'.ok.exfs b hb, .inl hb, (I'.ok.exf b hb).2, fun p hp => absurd (show p ∈ ([] : List (Addr × Obj)) ++ [] from hp) (by simp)⟩
  have loop : codeAny (model X.prog X.w) X.A (.compLoop (.SetComp elt [⟨tg, iter, ifs, 0⟩] scope pos) 0 (.ref it) (.ref D) ce) (compPost (model X.prog X.w) X.A X.xe none (EP X pins σ Q) (.ref D) s3.heap.objs.size) s4 := by
    refine PpSet.compLoopS_any (fun m s' => ∃ i H', Inv (X.blk s3 H3 scope ce fp) [] (L2.wipe σ (own.map (·.2))) H' s' ∧ tn i s'.heap ∧ (∀ b ∈ fp, H' b = none) ∧ W i m H') ?_ m0 ⟨0, H3, I4, t4, fun b hb => (f3 b hb).1.1, w0⟩
    rintro m s5 ⟨i, H5, I5, t5, n5, w5⟩
    rcases turn i m H5 w5 with ⟨stop, qq⟩ | ⟨go, Nx, hNx, step⟩
    · refine thnF (T.done (X.blk s3 H3 scope ce fp) rfl rfl rfl calm i [] s5 _ H5 (fun _ _ => False) I5 (still I5 n5) t5 stop) fun r s6 ⟨er, I6⟩ => ?_
      subst er
      have J6 : Inv X pins σ H5 s6 := I3.call' (ch := fp) I6.os I6.base I6.hok I6.bare fun b hb => let z := (f3 b hb).1.2; ⟨z.2.2.1, z.1, z.2.2.2.1, z.2.2.2.2⟩
      obtain ⟨mm, hn, _⟩ := I6.loc
      have hn : s6.heap.Ns ce.locals mm := hn
      have fr : H5 ce.locals = none := I6.free
      rw [lce] at hn fr
      obtain ⟨z0, z1, z2, z3, z4, z5⟩ := I3.fpOk (b := s3.heap.objs.size) (Nat.le_refl _) fr
      exact ⟨mm, hn, fun h'' sb => ⟨.ref D, H5, J6.turned (t' := s6.toks) (fun b o hb e => (sb.2 b hb).trans e) z0 z1 z3 z4 z5, rfl, qq⟩⟩
    · refine thnF (T.item (X.blk s3 H3 scope ce fp) rfl rfl rfl calm i [] s5 _ H5 (fun _ _ => False) I5 (still I5 n5) t5 go) fun r s6 ⟨u, er, a6⟩ => ?_
      subst er
      refine thnF a6 fun _ s7 ⟨x, H7, I7, r7, y7, t7, n7⟩ => ?_
      refine thnF (pg.run _ s7 _ H7 x u _ (I7.pinned (still I7 n7) (T.obj _ _ t7)) r7 (step x H7 y7)) fun _ s8 ⟨σ8, H8, I8, w8, q8⟩ => thnF (pt.run _ s8 σ8 H8 _ I8 q8) fun b s9 ⟨H9, I9, q9⟩ => ?_
      have fin : ∀ {s' : Shared} {H' : Hp}, Inv (X.blk s3 H3 scope ce fp) ([] ++ pinsAt fp s7.heap) σ8 H' s' → Nx H' → ∃ m', m' < m ∧ ∃ i H', Inv (X.blk s3 H3 scope ce fp) [] (L2.wipe σ (own.map (·.2))) H' s' ∧ tn i s'.heap ∧ (∀ b ∈ fp, H' b = none) ∧ W i m' H' := fun {s' H'} I' nx => by
        obtain ⟨m', lt, w'⟩ := hNx H' nx
        have pin' : ∀ b ∈ fp, ∀ o, s7.heap.get? b = some o → s'.heap.get? b = some o ∧ H' b = none := fun b hb o e => by
          obtain ⟨z1, z2, _⟩ := I'.pin (b, o) (List.mem_append_right _ (List.mem_append_right _ (mem_pinsAt hb e)))
          exact ⟨z1, z2⟩
        refine ⟨m', lt, i + 1, H', (I'.unpinned (pins := [])).weak (by rw [← w8, wipe_length]) (fun j v e => by rw [← w8] at e; exact (wipe_some e).1), T.keep _ _ _ t7 fun b hb o e => (pin' b hb o e).1, fun b hb => ?_, w'⟩
        obtain ⟨o, e, _⟩ := T.obj _ _ t7 b hb
        exact (pin' b hb o e).2
      cases b with
      | false => rw [if_neg (by decide)] at q9; rw [if_neg (by decide)]; exact fin I9 q9
      | true =>
        rw [if_pos rfl] at q9
        rw [if_pos rfl]
        refine thnF (pe.run _ s9 σ8 H9 _ I9 q9) fun z s10 ⟨yv, H10, I10, r10, k, l, ey, hD10, hl10, nx⟩ => ?_
        subst ey
        exact add_to (X := X.blk s3 H3 scope ce fp) I10 hD10 hl10 r10 fun s11 I11 => fin I11 nx
  exact PpSet.codeAny_compStart_set loop (T.self X.A 0 _ _ _ t4 loop)
theorem pe_sk {elt tg iter : Expr} {ifs : List Expr} {scope : Scope} {own : List (Str × Nat)} {pos : Pos} {wi : TI} {g : TG} {tt : TT} {te : TE} (calm : X.calm = true) (nd : X.N.Nodup) (hi : PI X tg iter wi) (ok : BlkOk X.N X.env.scope scope own)
    (hg : ∀ (s : Shared) (H : Hp) (A : Addr) (cs : List (Str × Addr)) (fp : List Addr), PG (X.blk s H scope (compEnvC scope cs A X.env) fp) tg g)
    (ht : ∀ (s : Shared) (H : Hp) (A : Addr) (cs : List (Str × Addr)) (fp : List Addr), PTs (X.blk s H scope (compEnvC scope cs A X.env) fp) ifs tt)
    (he : ∀ (s : Shared) (H : Hp) (A : Addr) (cs : List (Str × Addr)) (fp : List Addr), PE (X.blk s H scope (compEnvC scope cs A X.env) fp) elt te) (hs : ∀ x, foldedSetIterable iter X.env x = pure x) :
    PE X (.SetComp elt [⟨tg, iter, ifs, 0⟩] scope pos) (tSk X.prog X.w wi g tt te (own.map (·.2))) := ⟨fun pins s σ H Q I h => by
  rw [PpSet.eval_SetComp]
  exact sk_run calm nd I hi ok hg ht he hs h⟩
/-- len of a set -/
theorem len_setH {pins : List (Addr × Obj)} {σ : St} {H : Hp} {s : Shared} {D : Addr} {l : List Key} {Q : VK} (I : Inv X pins σ H s) (hD : H D = some (setH X.prog X.w D l)) (hl : l.length < scanBound) (q : Q (.int l.length) H) : wpAny (model X.prog X.w) X.A (call (.builtin "len") [.ref D]) (EP X pins σ Q) X.xe s := by
  obtain ⟨o, es, ep, t, ho, hex, hd, _, _, _, hf, hn⟩ := setK_get I hD
  refine call_len_set ho hex hd hf (by rw [hn]; unfold scanBound at hl; omega) ⟨.int l.length, H, I.tok _, ⟨_, by rw [hn]⟩, q⟩
end
end Sc
namespace Sc
open PySem PySem.Spec PyProof.Rows L2

theorem give_false (r : R) (S : Sto) : give false r S = .ok (fz r) S := by cases r <;> rfl
theorem evs_one {C : Orc} {a : X} {e : Ev} {S : Sto} : evs C [a] [] e S = (evN C a e S).bind fun r S1 => .ok [fz r] S1 := by
  simp only [evs, List.headD_nil, give_false, List.tail_nil, Res.bind_ok]
theorem evs_two {C : Orc} {a b : X} {e : Ev} {S : Sto} : evs C [a, b] [] e S = (evN C a e S).bind fun r S1 => (evN C b e S1).bind fun r2 S2 => .ok [fz r, fz r2] S2 := by
  simp only [evs, List.headD_nil, give_false, List.tail_nil, Res.bind_ok]
  congr 1
  funext r S1
  cases evN C b e S1 <;> rfl
theorem Res.bind_assoc {α β γ : Type} (r : Res α) (f : α → Sto → Res β) (g : β → Sto → Res γ) : (r.bind f).bind g = r.bind fun a S => (f a S).bind g := by cases r <;> rfl
section
variable {K : PySem.W.Frag} {cl : Str → Addr} {F : Hp} {L : Lv} {H : Hp} {S : Sto}
theorem viewK_ok {v : V} {w : W} {kvs : List (Key × Sc.D)} (s : Sim K cl F L H S) (r : RepW K F L v w) (h : viewK S w = some kvs) : ∃ a vs, v = .ref a ∧ H a = some (.dK vs) ∧ RpKV K F vs kvs := by
  cases w with
  | k ys => cases h; obtain ⟨a, vs, e, q, rk⟩ := r; exact ⟨a, vs, e, s.sub _ _ q, rk⟩
  | o n =>
    obtain ⟨a, hl, rfl⟩ := r
    unfold viewK at h
    cases q : S[n]? with
    | none => simp [q] at h
    | some mo =>
      cases mo with
      | dic ys =>
        simp only [q] at h
        cases h
        obtain ⟨b, vs, e, hb, ra⟩ := s.objs n _ _ hl q
        cases e
        exact ⟨a, vs, rfl, hb, ra⟩
      | dead => simp [q] at h
      | lst _ => simp [q] at h
      | ins _ _ => simp [q] at h
  | s ns => cases h
  | d x => cases h
theorem keyW_ok {v : V} {w : W} {k : Key} (r : RepW K F L v w) (h : keyW w = some k) : v = kV k := by
  cases w with
  | d x =>
    cases x with
    | int i => cases h; cases r; rfl
    | str x => cases h; cases r; rfl
    | _ => cases h
  | _ => cases h
theorem RpKV.look {k : Key} : ∀ {vs : List (Key × V)} {kvs : List (Key × Sc.D)}, RpKV K F vs kvs → (∀ d, lookK kvs k = some d → ∃ v, valV vs k = some v ∧ Rp K F v d) ∧ (lookK kvs k = none → valV vs k = none)
  | _, _, .nil => ⟨fun d h => (by cases h), fun _ => rfl⟩
  | _, _, .cons (k := j) (v := v) (d := d) (vs := vs) (ds := ds) h r => by
    obtain ⟨a, b⟩ := RpKV.look (k := k) r
    by_cases e : j = k
    · subst e
      refine ⟨fun d' q => ?_, fun q => ?_⟩
      · unfold lookK at q
        rw [List.find?_cons_of_pos (by simp)] at q
        cases q
        exact ⟨v, valV_pos rfl, h⟩
      · unfold lookK at q
        rw [List.find?_cons_of_pos (by simp)] at q
        cases q
    · have e1 : lookK ((j, d) :: ds) k = lookK ds k := by unfold lookK; rw [List.find?_cons_of_neg (by simpa using e)]
      rw [e1, valV_neg e]
      exact ⟨a, b⟩
theorem RpKV.isSome {k : Key} {vs : List (Key × V)} {kvs : List (Key × Sc.D)} (r : RpKV K F vs kvs) : (valV vs k).isSome = (lookK kvs k).isSome := by
  obtain ⟨a, b⟩ := r.look (k := k)
  cases q : lookK kvs k with
  | none => rw [b q]; rfl
  | some d => obtain ⟨v, h, _⟩ := a d q; rw [h]; rfl
end
section
variable {X : Cx} {cl : Str → Addr} {C : Orc} {E : XK} {a b c tg : Expr} {xa xb xc : Sc.X} {pos p : Pos}
theorem x_dix (hu : X.A.units + 150 < cLine) (ha : PX X cl C E a xa) (hb : PX X cl C E b xb) (hs : PlainIx b) : PX X cl C E (.Subscript a b pos) (.prm .dix [xa, xb]) :=
  (pe_dget (by omega) ha hb hs).imp fun σ H Q ⟨F, L, e, S, s, se, p⟩ => by
    simp only [evN, evs_two, Res.bind_assoc, Res.bind_ok] at p
    refine tX_bind s se p fun r1 S1 v1 F1 L1 H1 x1 s1 se1 w1 p1 => ?_
    refine tX_bind s1 se1 p1 fun r2 S2 v2 F2 L2 H2 x2 s2 se2 w2 p2 => ?_
    obtain ⟨r, hr, p2⟩ := p2.opt
    simp only [rpm] at hr
    split at hr
    · rename_i kvs k hk1 hk2
      obtain ⟨d, hd, e⟩ := Option.map_eq_some_iff.mp hr
      subst e
      obtain ⟨a, vs, rfl, ha, rk⟩ := viewK_ok s2 (w1.mono x2) hk1
      obtain ⟨v, hv, rv⟩ := (rk.look (k := k)).1 d hd
      have e2 := keyW_ok w2 hk2
      subst e2
      exact ⟨a, v, rfl, by rw [← hv]; exact DGet.k ha, p2 F2 L2 H2 (Ext.refl _ _) s2 v rv⟩
    · cases hr
theorem tDin_ok {K : PySem.W.Frag} {σ : St} {H : Hp} {Q : VK} (h : tX K cl C E (.prm (.din false) [xa, xb]) σ H Q) : tDIn (tX K cl C E xa) (tX K cl C E xb) σ H Q := by
    obtain ⟨F, L, e, S, s, se, p⟩ := h
    simp only [evN, evs_two, Res.bind_assoc, Res.bind_ok] at p
    refine tX_bind s se p fun r1 S1 v1 F1 L1 H1 x1 s1 se1 w1 p1 => ?_
    refine tX_bind s1 se1 p1 fun r2 S2 v2 F2 L2 H2 x2 s2 se2 w2 p2 => ?_
    obtain ⟨r, hr, p2⟩ := p2.opt
    simp only [rpm] at hr
    split at hr
    · rename_i kvs k hk1 hk2
      cases hr
      obtain ⟨a, vs, rfl, ha, rk⟩ := viewK_ok s2 w2 hk1
      have e2 := keyW_ok (w1.mono x2) hk2
      subst e2
      refine ⟨a, _, rfl, DGet.k ha, p2 F2 L2 H2 (Ext.refl _ _) s2 _ ?_⟩
      rw [rk.isSome]
      simp only [Bool.false_bne]
      exact .bl _
    · cases hr
theorem tDnin_ok {K : PySem.W.Frag} {σ : St} {H : Hp} {Q : VK} (h : tX K cl C E (.prm (.din true) [xa, xb]) σ H Q) : tDNotIn (tX K cl C E xa) (tX K cl C E xb) σ H Q := by
    obtain ⟨F, L, e, S, s, se, p⟩ := h
    simp only [evN, evs_two, Res.bind_assoc, Res.bind_ok] at p
    refine tX_bind s se p fun r1 S1 v1 F1 L1 H1 x1 s1 se1 w1 p1 => ?_
    refine tX_bind s1 se1 p1 fun r2 S2 v2 F2 L2 H2 x2 s2 se2 w2 p2 => ?_
    obtain ⟨r, hr, p2⟩ := p2.opt
    simp only [rpm] at hr
    split at hr
    · rename_i kvs k hk1 hk2
      cases hr
      obtain ⟨a, vs, rfl, ha, rk⟩ := viewK_ok s2 w2 hk1
      have e2 := keyW_ok (w1.mono x2) hk2
      subst e2
      refine ⟨a, _, rfl, DGet.k ha, p2 F2 L2 H2 (Ext.refl _ _) s2 _ ?_⟩
      rw [rk.isSome]
      simp only [Bool.true_bne]
      exact .bl _
    · cases hr
theorem x_din (hu : X.A.units + 150 < cLine) (ha : PX X cl C E a xa) (hb : PX X cl C E b xb) (hm : behindInMarks .In b = false) : PX X cl C E (.Compare a [.In] [b] pos) (.prm (.din false) [xa, xb]) :=
  (pe_cmp (pc_din (by omega) ha hb) hm).imp fun σ H Q h => tDin_ok h
theorem x_dnin (hu : X.A.units + 150 < cLine) (ha : PX X cl C E a xa) (hb : PX X cl C E b xb) (hm : behindInMarks .NotIn b = false) : PX X cl C E (.Compare a [.NotIn] [b] pos) (.prm (.din true) [xa, xb]) :=
  (pe_cmp (pc_dnotin (by omega) ha hb) hm).imp fun σ H Q h => tDnin_ok h
theorem din_bool {neg : Bool} (e : Ev) (S : Sto) : ∃ g : Sto → Res Bool, evN C (.prm (.din neg) [xa, xb]) e S = (g S).bind fun k S1 => .ok (kb k) S1 := by
  refine ⟨fun S => (evN C xa e S).bind fun x S1 => (evN C xb e S1).bind fun y S2 => match viewK S2 (fz y), keyW (fz x) with
    | some kvs, some k => .ok (neg != (lookK kvs k).isSome) S2
    | _, _ => .stuck, ?_⟩
  simp only [evN, evs_two, Res.bind_assoc, Res.bind_ok]
  cases evN C xa e S with
  | ok r1 S1 =>
    simp only [Res.bind_ok]
    cases evN C xb e S1 with
    | ok r2 S2 =>
      simp only [Res.bind_ok, rpm]
      cases viewK S2 (fz r2) with
      | none => rfl
      | some kvs => cases keyW (fz r1) <;> rfl
    | exc _ _ _ => rfl
    | stuck => rfl
  | exc _ _ _ => rfl
  | stuck => rfl
theorem xt_din (hu : X.A.units + 150 < cLine) (ha : PX X cl C E a xa) (hb : PX X cl C E b xb) (hm : behindInMarks .In b = false) : PXT X cl C E (.Compare a [.In] [b] pos) (.prm (.din false) [xa, xb]) := by
  refine xt_of_bool ?_ (fun e S => din_bool e S)
  exact (pt_cmp (pc_din (by omega) ha hb) hm).imp fun σ H Q hq => tDin_ok hq
theorem xt_dnin (hu : X.A.units + 150 < cLine) (ha : PX X cl C E a xa) (hb : PX X cl C E b xb) (hm : behindInMarks .NotIn b = false) : PXT X cl C E (.Compare a [.NotIn] [b] pos) (.prm (.din true) [xa, xb]) := by
  refine xt_of_bool ?_ (fun e S => din_bool e S)
  exact (pt_cmp (pc_dnotin (by omega) ha hb) hm).imp fun σ H Q hq => tDnin_ok hq

/-! ### d.get(k, x) of a written dict -/
/-- what stands in the written dict -/
def KdIs (K : PySem.W.Frag) (w : World) (d : Addr) (kvs : List (Str × Option Sc.D)) : Prop := (∃ es n, KDict K w d es n) ∧ ∀ x o, kvs.lookup x = some o → match o with
  | some y => ∃ u v, PySem.W.nsIn K d x = some (some u) ∧ RelV v u ∧ ∀ F, Rp K F v y
  | none => PySem.W.nsIn K d x = some none
theorem kd_dict {pins : List (Addr × Obj)} {σ : St} {H : Hp} {s : Shared} {d : Addr} {es : Array DictEntry} {n : Nat} (D : KDict X.K X.w d es n) (I : Inv X pins σ H s) : ∀ b, Value.ref d = .ref b → ∃ ob, s.heap.get? b = some ob ∧ ob.dict = none := fun b e => by
  cases e
  exact ⟨_, I.kIn d _ D.at_, rfl⟩
theorem x_kget {n : Str} {d : Addr} {apos cpos np : Pos} {kvs : List (Str × Option Sc.D)} (hd : KdIs X.K X.w d kvs) (hg : Gl X n) (hmg : X.mg n = some (.ref d)) (hdb : (n == ("__debug__" : Str)) = false) (ha : PX X cl C E a xa) (hb : PX X cl C E b xb) (m : M2 X (.Name n np) "get" apos a b cpos) :
    PX X cl C E (.Call (.Attribute (.Name n np) "get" apos) [a, b] [] cpos) (.prm (.kget kvs) [xa, xb]) := by
  obtain ⟨⟨es, nn, D⟩, hk⟩ := hd
  refine ⟨fun pins s σ H Q I h => ?_⟩
  obtain ⟨F, L, e, S, sm, se, p⟩ := h
  simp only [evN, evs_two, Res.bind_assoc, Res.bind_ok] at p
  refine wpAny_Call_method m.base m.few m.line PySem.F.plainAttrs_dict PySem.F.slot_dict_get PySem.F.type_dict_get (thn ((pe_glob (v := .ref d) hg hmg rfl hdb).run pins s σ H (fun v H' => v = .ref d ∧ H' = H) I ⟨rfl, rfl⟩) fun u s1 ⟨x, H1, I1, rx, ex, eH⟩ => ?_)
  subst ex eH
  obtain rfl : u = Value.ref d := rx
  refine ⟨kd_type D I1, kd_dict D I1, ?_⟩
  rw [m.trees]
  have h2 : tX X.K cl C E xa σ H1 fun y H2 => tX X.K cl C E xb σ H2 fun z H3 => ∃ (x : Str) (o : Option Value), y = .str x ∧ PySem.W.nsIn X.K d x = some o ∧ match o with
      | some u => ∃ v, RelV v u ∧ Q v H3
      | none => Q z H3 := by
    refine tX_bind sm se p fun r1 S1 v1 F1 L1 H1 x1 s1 se1 w1 p1 => ?_
    refine tX_bind s1 se1 p1 fun r2 S2 v2 F2 L2 H2 x2 s2 se2 w2 p2 => ?_
    obtain ⟨r, hr, p2⟩ := p2.opt
    have w1 := w1.mono x2
    generalize fz r1 = y1 at w1 hr
    generalize fz r2 = y2 at w2 hr
    simp only [rpm] at hr
    unfold kgetW at hr
    split at hr
    · rename_i x
      cases w1
      split at hr
      · rename_i y hy
        cases hr
        obtain ⟨u, v, h1, h2, h3⟩ := hk x _ hy
        exact ⟨x, some u, rfl, h1, v, h2, p2 F2 L2 H2 (Ext.refl _ _) s2 v (h3 F2)⟩
      · rename_i hy
        cases hr
        have h1 := hk x _ hy
        exact ⟨x, none, rfl, h1, p2 F2 L2 H2 (Ext.refl _ _) s2 v2 w2⟩
      · cases hr
    · cases hr
  refine Calls.callWith_builtin rfl (Calls.evalArgs_plain (Calls.spliced_cons (thn (ha.run pins s1 σ H1 _ I1 h2) fun iv s2 ⟨y, H2, I2, ry, q2⟩ =>
    Calls.spliced_cons (thn (hb.run pins s2 σ H2 _ I2 q2) fun fv s3 ⟨z, H3, I3, rz, x, o, ey, ho, q3⟩ => Calls.spliced_nil ?_))))
  subst ey
  obtain ⟨t, rfl⟩ := (show ∃ t, iv = Value.str x t from ry)
  refine call_meetsIn PySem.F.slot_dict_get (kd_type D I3) PySem.F.entry_dict_get (PySem.F.args_dict_get_3 _ _ _) (meets_dict_get_default (strKind X.prog X.w) d (strKind_is X.prog X.w x t) D.low fv) ⟨_, PySem.W.mapOf_K (prog := X.prog) I3.kIn D.at_ D.lit, ?_⟩
  rw [PySem.W.find_K D.at_ ho]
  cases o with
  | none => exact ⟨z, H3, I3.tok _, rz, q3⟩
  | some u => obtain ⟨v, rv, q⟩ := q3; exact ⟨v, H3, I3.tok _, rv, q⟩
end
end Sc
namespace Sc
open PySem PySem.Spec PyProof.Rows L2

/-! ### len(set(ints)) -/
theorem intsD_ok {K : PySem.W.Frag} {F : Hp} : ∀ {xs : List D} {vs : List V} {ns : List Int}, RpAll K F vs xs → intsD xs = some ns → vs = ns.map V.int
  | [], _, _, .nil, h => by cases h; rfl
  | .int i :: xs, _, ns, .cons r rs, h => by
    obtain ⟨m, hm, e⟩ := Option.map_eq_some_iff.mp (show (intsD xs).map (i :: ·) = some ns from h)
    subst e
    cases r
    rw [intsD_ok rs hm]; rfl
theorem firstMet_all (ns : List Int) : PyProof.Rows.firstMet (fun i => ns.getD i 0) ns.length = ns.foldl addI [] := by
  unfold PyProof.Rows.firstMet
  have e : (List.range ns.length).map (fun i => ns.getD i 0) = ns := by
    apply List.ext_getElem
    · simp
    · intro i h1 h2
      rw [List.getElem_map, List.getElem_range, List.getD_eq_getElem?_getD, List.getElem?_eq_getElem h2]
      rfl
  rw [e]
  have e2 : (PyProof.Rows.step_dedup : List Int → Int → List Int) = addI := by
    funext l k; rfl
  rw [e2]
section
variable {X : Cx} {cl : Str → Addr} {C : Orc} {E : XK} {a b c tg : Expr} {xa xb xc : Sc.X} {pos p : Pos}
theorem x_lset {p2 q : Pos} (hg : Gl X "len") (hm : X.mg "len" = none) (hg2 : Gl X "set") (hm2 : X.mg "set" = none) (ha : PX X cl C E a xa) (hc : X.calm = true)
    (na : starEach [a] X.env = (false, eval a X.env) :: starEach [] X.env) : PX X cl C E (.Call (.Name "len" p) [.Call (.Name "set" p2) [a] [] q] [] pos) (.prm .lset [xa]) := by
  refine ⟨fun pins s σ H Q I h => ?_⟩
  obtain ⟨F, L, e, S, sm, se, p⟩ := h
  simp only [evN, evs_one, Res.bind_assoc, Res.bind_ok] at p
  have h2 : tX X.K cl C E xa σ H fun x H1 => ∃ (l : Addr) (ns : List Int), x = .ref l ∧ SqL X.K H1 l (ns.map V.int) ∧ ns.length ≤ 4000 ∧ Q (.int ((ns.foldl addI []).length : Nat)) H1 := by
    refine tX_bind sm se p fun r1 S1 v1 F1 L1 H1 x1 s1 se1 w1 p1 => ?_
    obtain ⟨r, hr, p1⟩ := p1.opt
    simp only [rpm] at hr
    split at hr
    · rename_i xs hx
      split at hr
      · rename_i ns hn
        split at hr
        · rename_i hl
          cases hr
          obtain ⟨l, vs, rfl, hh, ra⟩ := viewL_ok s1 w1 hx
          have e := intsD_ok ra hn
          subst e
          exact ⟨l, ns, rfl, SqL.of hh, hl, p1 F1 L1 H1 (Ext.refl _ _) s1 _ (.int _)⟩
        · cases hr
      · cases hr
    · cases hr
  refine Call_ (ld_blt I hg hm boot_len ?_)
  refine PyProof.Rows.callWith_builtin1 (PyProof.Rows.args_cons ?_ rfl) rfl rfl
  refine Call_ (ld_blt I hg2 hm2 boot_set ?_)
  refine PyProof.Rows.callWith_type1 (PyProof.Rows.args_cons (thn (ha.run pins s σ H _ I h2) fun v s1 ⟨x, H1, I1, r1, l, ns, ex, hq, hl, q1⟩ => PyProof.Rows.args_nil ?_) na) na rfl
  subst ex
  cases r1
  obtain ⟨its, r, pl, hz⟩ := I1.list hq
  have hlen : its.toArray.size = ns.length := by rw [List.size_toArray, ← r.length, List.length_map]
  refine call_set_list (I1.ok.hd hc) pl.isList (by simpa using RZ.intsAre_vals r) (by rw [hlen]; unfold scanBound; omega) fun h' tk hS hk => ?_
  refine PyProof.Rows.args_nil ?_
  rw [hlen, firstMet_all] at hS
  have hle : (ns.foldl addI []).length ≤ ns.length := by
    rw [← firstMet_all]; exact PyProof.Rows.firstMet_length_le _ _
  obtain ⟨o, es, ep, t, ho, hex, hd, _, _, _, hf, hn⟩ := hS
  have I2 : Inv X pins σ H1 { s1 with heap := h', toks := tk } := I1.kept fun b o e => hk b o (Heap.lt_size e) e
  exact call_len_set ho hex hd hf (by rw [hn] <;> omega) ⟨.int (ns.foldl addI []).length, H1, I2.tok _, ⟨_, by rw [hn]⟩, q1⟩

/-! ### {k: v, ..} -/
def trD (K : PySem.W.Frag) (cl : Str → Addr) (C : Orc) (E : XK) : List Key → List Sc.X → List (TE × TE)
  | k :: ks, x :: xs => (tC (kV k), tX K cl C E x) :: trD K cl C E ks xs
  | _, _ => []
def kvE (k : Key) : Expr → Prop
  | .Constant (.str x) _ _ => k = .inr x
  | .Constant (.int i) _ _ => k = .inl i
  | _ => False
theorem pe_key {k : Key} {e : Expr} (h : kvE k e) : PE X e (tC (kV k)) := by
  unfold kvE at h
  split at h
  · subst h; exact pe_str
  · subst h; exact pe_int
  · exact h.elim
theorem trD_ok {K : PySem.W.Frag} {σ : St} {e : Ev} : ∀ {ks : List Key} {xs : List Sc.X} {F : Hp} {L : Lv} {H : Hp} {S : Sto} {Q : List (V × V) → Hp → Prop}, ks.length = xs.length → Sim K cl F L H S → SimE K F L σ e →
    Post K cl E F L (fun ws F' L' H' _ => ∀ vs, RepWs K F' L' vs ws → Q ((ks.map kV).zip vs) H') (evs C xs [] e S) → tPairs (trD K cl C E ks xs) σ H Q
  | [], [], F, L, H, S, Q, _, s, se, p => by
    simp only [evs] at p
    exact p F L H (Ext.refl _ _) s [] .nil
  | k :: ks, x :: xs, F, L, H, S, Q, hl, s, se, p => by
    simp only [evs, List.headD_nil, give_false, List.tail_nil, Res.bind_ok] at p
    show tC (kV k) σ H _
    show tX K cl C E x σ H _
    refine tX_bind s se p fun r1 S1 v1 F1 L1 H1 x1 s1 se1 w1 p1 => ?_
    refine trD_ok (by simpa using hl) s1 se1 (p1.bind.imp fun ws F2 L2 H2 S2 x2 s2 p2 vs rs => ?_)
    exact p2 F2 L2 H2 (Ext.refl _ _) s2 (v1 :: vs) (.cons (w1.mono x2) rs)
  | [], _ :: _, _, _, _, _, _, hl, _, _, _ => by simp at hl
  | _ :: _, [], _, _, _, _, _, hl, _, _, _ => by simp at hl
theorem mergeK_nodup : ∀ (more kvs : List (Key × V)), ((kvs ++ more).map (·.1)).Nodup → mergeK kvs more = kvs ++ more
  | [], kvs, _ => by simp [mergeK]
  | q :: more, kvs, h => by
    have hn : valV kvs q.1 = none := by
      cases e : valV kvs q.1 with
      | none => rfl
      | some v =>
        exfalso
        have := valV_any q.1 kvs
        rw [e] at this
        obtain ⟨z, hz, ez⟩ := List.any_eq_true.mp this
        have ez : z.1 = q.1 := of_decide_eq_true ez
        rw [List.map_append, List.nodup_append] at h
        exact h.2.2 z.1 (List.mem_map_of_mem hz) q.1 (by simp) ez
    show mergeK (putK kvs q.1 q.2) more = _
    rw [putK_new _ hn, mergeK_nodup more _ (by rw [List.append_assoc]; exact h), List.append_assoc]
    rfl
theorem RpKV_zip {K : PySem.W.Frag} {F : Hp} : ∀ {ks : List Key} {vs : List V} {ds : List D}, ks.length = ds.length → RpAll K F vs ds → RpKV K F (ks.zip vs) (ks.zip ds)
  | [], _, _, _, _ => .nil
  | k :: ks, _, _, hl, .nil => by simp at hl
  | k :: ks, _, _, hl, .cons r rs => .cons r (RpKV_zip (by simpa using hl) rs)
theorem x_dsp {keys : List (Option Expr)} {values : List Expr} {ks : List Key} {xs : List Sc.X} (h : PPs X pos keys values (trD X.K cl C E ks xs)) (hall : keys.all (·.isSome) = true) (hl : keys.length = values.length) (h0 : keys ≠ []) (h15 : keys.length ≤ 15) (hks : ks.length = keys.length) (hxs : ks.length = xs.length) (hnd : ks.Nodup) :
    PX X cl C E (.Dict keys values pos) (.prm (.dsp ks) xs) :=
  (pe_disp h hall hl h0 h15).imp fun σ H Q ⟨F, L, e, S, s, se, p⟩ p' hp' => by
    simp only [evN] at p
    obtain ⟨s1, fr⟩ := s.newH (o := .dK []) hp'
    have s2 := s1.hold upd_same fr
    have hM : Sub L.p (upd L.p p' (.dK [])) := Sub.upd fr.2.2
    refine trD_ok (cl := cl) (E := E) hxs s2 se.priv ?_
    refine (p.bind.hold hM).imp fun ws F2 L2 H2 S2 x2 s3 p2 vs rs => ?_
    have eL : L2.p = upd L.p p' (.dK []) := x2.p
    obtain ⟨hH, hF, hLl⟩ := s3.pr p' (.dK []) (by rw [eL]; exact upd_same)
    refine ⟨hH, ks.zip vs, ?_, ?_, ?_⟩
    · have map_zip : ∀ (ks : List Key) (vs : List V), (ks.map kV).zip vs = (ks.zip vs).map fun kv => (kV kv.1, kv.2) := by
        intro ks
        induction ks with
        | nil => intro vs; rfl
        | cons k r ih => intro vs; cases vs with
          | nil => rfl
          | cons v t => simp [ih]
      exact map_zip ks vs
    · rw [List.length_zip]; omega
    · obtain ⟨r, hr, p3⟩ := p2.opt
      simp only [rpm] at hr
      split at hr
      · rename_i ds hds
        split at hr
        · rename_i hlen
          cases hr
          have ra := datas_ok rs hds
          have hlv : ks.length = vs.length := by rw [rs.length]; rw [ra.length.symm.trans rs.length] at hlen; exact hlen
          have e1 : mergeK [] (ks.zip vs) = ks.zip vs := by
            rw [mergeK_nodup]
            · rfl
            · rw [List.nil_append, List.map_fst_zip (by omega)]; exact hnd
          rw [e1]
          have s4 := s3.hwrite (u := .dK (ks.zip vs)) (show L2.p p' = some (.dK []) by rw [eL]; exact upd_same)
          have s5 := s4.unhold (p := L.p) (by
            intro b o hb
            show upd L2.p p' (.dK (ks.zip vs)) b = some o
            have hne : b ≠ p' := ne_of_none hb fr.2.2
            rw [upd_ne hne, eL, upd_ne hne]; exact hb)
          exact p3 F2 ⟨L2.l, L.p⟩ _ (Ext.refl _ _) s5 _ ⟨p', _, rfl, upd_same, ⟨hF, hLl, fr.2.2⟩, RpKV_zip hlen ra⟩
        · cases hr
      · cases hr
end
end Sc
namespace Sc
open PySem PySem.Spec PyProof.Rows L2

/-! ### len({..}) -/
def keysOf (ds : List D) : List Key := (ds.filterMap keyD).foldl addK []
theorem keysOf_snoc {ds : List D} {d : D} {k : Key} (h : keyD d = some k) : keysOf (ds ++ [d]) = addK (keysOf ds) k := by
  unfold keysOf
  rw [List.filterMap_append, List.foldl_append]
  simp [h]
theorem addK_le (l : List Key) (k : Key) : (addK l k).length ≤ l.length + 1 := by
  rw [addK_len]; split <;> omega
theorem foldl_addK_le : ∀ (ks l : List Key), (ks.foldl addK l).length ≤ l.length + ks.length
  | [], l => by simp
  | k :: ks, l => by
    have := foldl_addK_le ks (addK l k)
    have := addK_le l k
    simp only [List.foldl_cons, List.length_cons]
    omega
theorem keysOf_le (ds : List D) : (keysOf ds).length ≤ ds.length := by
  have h := foldl_addK_le (ds.filterMap keyD) []
  have h2 := List.length_filterMap_le keyD ds
  simp only [List.length_nil, Nat.zero_add] at h
  unfold keysOf
  omega
section
variable {X : Cx} {cl : Str → Addr} {C : Orc} {E : XK} {a b c tg : Expr} {xa xb xc : Sc.X} {pos p : Pos}
theorem tSk_ok {K : PySem.W.Frag} {P : Program} {w : World} {xi : Sc.I} {t : Tg} {ifs : List Sc.X} {xe : Sc.X} {own : List Nat} (hown : tgIn t own) {σ : St} {H : Hp} {Q : VK} (h : tX K cl C E (.lsc xe t xi ifs own) σ H Q) :
    tSk P w (tI K cl C E xi) (gOf K t) (tTs K cl C E0 ifs) (tX K cl C E0 xe) own σ H fun v H' => ∃ D l, v = .ref D ∧ H' D = some (setH P w D l) ∧ l.length < scanBound ∧ Q (.int l.length) H' := by
  obtain ⟨F, L, e, S, s, se, p⟩ := h
  simp only [evN] at p
  refine ⟨F, L, e, S, s, se, p.bind.imp fun ws F1 L1 H1 S1 x1 s1 p1 J hJ D hD => ?_⟩
  have hfew : ws.length ≤ 4000 := by
    by_cases hf : ws.length ≤ 4000
    · exact hf
    · rw [if_neg hf] at p1; exact p1.elim
  rw [if_pos hfew] at p1
  have p1 := p1.bind.noX (E' := E0)
  have se1 := se.mono x1
  obtain ⟨s1', hfre⟩ := s1.newH (o := setH P w D []) hD
  generalize hf : (fun (w : W) (S : Sto) => (opt (bindT t w (wipeE e own)) S).bind fun e' S => (tests C ifs e' S).bind fun k S => match k with
        | true => (evN C xe e' S).bind fun r S => oneK r S
        | false => .ok none S) = f at p1
  have hM : ∀ o : HO, Sub L1.p (upd L1.p D o) := fun acc => Sub.upd hfre.2.2
  refine ⟨fun i m H2 => m = ws.length - i ∧ i ≤ ws.length ∧ ∃ F2 l2 S2 accD, Ext F1 L1 F2 ⟨l2, L1.p⟩ ∧ Sim K cl F2 ⟨l2, upd L1.p D (setH P w D (keysOf accD))⟩ H2 S2 ∧ accD.length ≤ i ∧
    Post K cl E0 F2 ⟨l2, L1.p⟩ (fun ds F' L' _ S' => Post K cl E F' L' (ρR K Q) (.ok (ki (keysOf (accD ++ ds)).length) S')) (loopC f (ws.drop i) S2),
    ⟨ws.length, by simp, Nat.zero_le _, F1, L1.l, S1, [], Ext.refl _ _, s1'.hold upd_same hfre, Nat.le_refl _, by simpa [keysOf] using p1⟩, ?_⟩
  rintro i m H2 ⟨rfl, hi, F2, l2, S2, accD, x2, s2, hac, p2⟩
  obtain ⟨h1, h2⟩ := hJ F2 _ H2 S2 x2.f s2 i
  obtain ⟨hDv, hDf, hDl⟩ := s2.pr D (setH P w D (keysOf accD)) upd_same
  have hkl := keysOf_le accD
  by_cases hlt : i < ws.length
  · obtain ⟨go, yld⟩ := h1 ws[i] (List.getElem?_eq_getElem hlt)
    refine .inr ⟨go, fun H3 => ∃ F3 l3 S3 accD', Ext F1 L1 F3 ⟨l3, L1.p⟩ ∧ Sim K cl F3 ⟨l3, upd L1.p D (setH P w D (keysOf accD'))⟩ H3 S3 ∧ accD'.length ≤ i + 1 ∧
      Post K cl E0 F3 ⟨l3, L1.p⟩ (fun ds F' L' _ S' => Post K cl E F' L' (ρR K Q) (.ok (ki (keysOf (accD' ++ ds)).length) S')) (loopC f (ws.drop (i + 1)) S3),
      fun H3 ⟨F3, l3, S3, accD', q1, q2, q4, q5⟩ => ⟨ws.length - (i + 1), by omega, rfl, hlt, F3, l3, S3, accD', q1, q2, q4, q5⟩, fun x H3 y => ?_⟩
    obtain ⟨F3, x3, s3, w3⟩ := yld x H3 y
    have x3' : Ext F2 ⟨l2, L1.p⟩ F3 ⟨l2, L1.p⟩ := ⟨x3.f, fun _ _ z => z, rfl⟩
    have x23 := x2.trans x3'
    rw [List.drop_eq_getElem_cons hlt] at p2
    simp only [loopC] at p2
    have p3 := (p2.anti x3').bind.hold (hM (setH P w D (keysOf accD)))
    have se3 : SimE K F3 ⟨l2, upd L1.p D (setH P w D (keysOf accD))⟩ (L2.wipe σ own) (wipeE e own) := (SimE.wipe (SimE.mono (F' := F3) (L' := ⟨l2, L1.p⟩) x23 se1) own).priv
    have fin : ∀ (r : Option Sc.D) (F5 : Hp) (L5 : Lv) (H5 : Hp) (S5 : Sto) (H5' : Hp), Ext F3 ⟨l2, upd L1.p D (setH P w D (keysOf accD))⟩ F5 L5 → Sim K cl F5 ⟨L5.l, upd L1.p D (setH P w D (keysOf (accD ++ r.toList)))⟩ H5' S5 → (accD ++ r.toList).length ≤ i + 1 →
        Post K cl E0 F5 ⟨L5.l, L1.p⟩ (fun ds F' L' _ S' => Post K cl E F' L' (ρR K Q) (.ok (ki (keysOf (accD ++ ds)).length) S')) ((loopC f (ws.drop (i + 1)) S5).bind fun ds S'' => .ok (r.toList ++ ds) S'') →
        ∃ F3 l3 S3 accD', Ext F1 L1 F3 ⟨l3, L1.p⟩ ∧ Sim K cl F3 ⟨l3, upd L1.p D (setH P w D (keysOf accD'))⟩ H5' S3 ∧ accD'.length ≤ i + 1 ∧
          Post K cl E0 F3 ⟨l3, L1.p⟩ (fun ds F' L' _ S' => Post K cl E F' L' (ρR K Q) (.ok (ki (keysOf (accD' ++ ds)).length) S')) (loopC f (ws.drop (i + 1)) S3) := by
      intro r F5 L5 H5 S5 H5' x5 s5 hac5 p5
      refine ⟨F5, L5.l, S5, accD ++ r.toList, x23.trans ⟨x5.f, x5.l, rfl⟩, s5, hac5, p5.bind.imp fun ds F' L' H' S' x' s' q => ?_⟩
      have q := q F' L' H' (Ext.refl _ _) s'
      rw [List.append_assoc]
      exact q
    rw [← hf] at p3
    obtain ⟨e3, he3, p3⟩ := p3.bind.opt
    have p3 := p3 F3 _ H3 (Ext.refl _ _) s3
    refine gOf_ok s3.sub w3 se3 he3 fun σ3 se3 hw => ⟨(hw own hown).trans wipe_wipe, ?_⟩
    refine ⟨F3, _, e3, S2, s3, se3, p3.bind.imp fun k F4 L4 H4 S4 x4 s4 p4 => ?_⟩
    rw [hf] at p4
    cases k with
    | false =>
      rw [if_neg (by decide)]
      have q := p4 F4 L4 H4 (Ext.refl _ _) s4
      have e4 : L4 = ⟨L4.l, upd L1.p D (setH P w D (keysOf accD))⟩ := by
        have z : L4.p = upd L1.p D (setH P w D (keysOf accD)) := x4.p
        rw [← z]
      exact fin none F4 L4 H4 S4 H4 x4 (by rw [Option.toList_none, List.append_nil, ← e4]; exact s4) (by simp; omega) q
    | true =>
      rw [if_pos rfl]
      refine tX_bind s4 (se3.mono x4) p4 fun r5 S5 v5 F5 L5 H5 x5 s5 se5 w5 p5 => ?_
      have e5 : L5.p = upd L1.p D (setH P w D (keysOf accD)) := x5.p.trans x4.p
      obtain ⟨hDv5, hDf5, hDl5⟩ := s5.pr D (setH P w D (keysOf accD)) (by rw [e5]; exact upd_same)
      unfold oneK at p5
      split at p5
      case h_2 => exact p5.elim
      rename_i d hd
      split at p5
      case h_2 => exact p5.elim
      rename_i k hk
      rw [hd] at w5
      have q := p5 F5 L5 H5 (Ext.refl _ _) s5
      have s6 := s5.hwrite (u := setH P w D (keysOf (accD ++ [d]))) (show L5.p D = some (setH P w D (keysOf accD)) by rw [e5]; exact upd_same)
      rw [e5, upd_upd] at s6
      refine ⟨k, keysOf accD, keyW_ok (w := .d d) w5 hk, hDv5, by unfold scanBound; omega, ?_⟩
      rw [← keysOf_snoc hk]
      exact fin (some d) F5 L5 H5 S5 _ (x4.trans x5) s6 (by simp; omega) q
  · have e' : i = ws.length := by omega
    subst e'
    simp only [List.drop_length, loopC] at p2
    have s2' : Sim K cl F2 ⟨l2, L1.p⟩ H2 S2 := s2.unhold (hM _)
    have q := p2 F2 ⟨l2, L1.p⟩ H2 (Ext.refl _ _) s2' F2 ⟨l2, L1.p⟩ H2 (Ext.refl _ _) s2' (.int (keysOf accD).length) (by rw [List.append_nil]; exact .int _)
    exact .inl ⟨h2 (Nat.le_refl _), D, keysOf accD, rfl, hDv, by unfold scanBound; omega, q⟩
theorem x_lsc {elt iter : Expr} {ifs : List Expr} {scope : Scope} {own : List (Str × Nat)} {xi : Sc.I} {t : Tg} {xifs : List Sc.X} {xe : Sc.X} {q : Pos} (hg1 : Gl X "len") (hm : X.mg "len" = none) (hc : X.calm = true) (hN : X.N.Nodup) (hi : PXI X cl C E tg iter xi) (ok : BlkOk X.N X.env.scope scope own) {ow : List Nat} (how : own.map (·.2) = ow) (hown : tgIn t ow)
    (hg : ∀ (s : Shared) (H : Hp) (A : Addr) (cs : List (Str × Addr)) (fp : List Addr), GT (X.blk s H scope (compEnvC scope cs A X.env) fp) tg t)
    (ht : ∀ (s : Shared) (H : Hp) (A : Addr) (cs : List (Str × Addr)) (fp : List Addr), PTs (X.blk s H scope (compEnvC scope cs A X.env) fp) ifs (tTs X.K cl C E0 xifs))
    (he : ∀ (s : Shared) (H : Hp) (A : Addr) (cs : List (Str × Addr)) (fp : List Addr), PX (X.blk s H scope (compEnvC scope cs A X.env) fp) cl C E0 elt xe) (hs : ∀ x, foldedSetIterable iter X.env x = pure x) :
    PX X cl C E (.Call (.Name "len" p) [.SetComp elt [⟨tg, iter, ifs, 0⟩] scope pos] [] q) (.lsc xe t xi xifs ow) := by
  subst how
  refine ⟨fun pins s σ H Q I h => ?_⟩
  refine Call_ (ld_blt I hg1 hm boot_len ?_)
  refine PyProof.Rows.callWith_builtin1 (PyProof.Rows.args_cons ?_ rfl) rfl rfl
  refine thn ((pe_sk hc hN hi ok hg ht he hs).run pins s σ H _ I (tSk_ok hown h)) fun v s1 ⟨x, H1, I1, r1, D, l, ex, hD, hl, q1⟩ => PyProof.Rows.args_nil ?_
  subst ex
  cases r1
  exact len_setH I1 hD hl q1
end
end Sc
namespace Sc
open PySem PySem.Spec PyProof.Rows L2

/-- what a module's name stands for -/
inductive GK where
  | cst (d : D)
  | blt
  | fn (n : Nat)
  /-- a written dict, as far as it is known -/
  | kd (kvs : List (Str × Option D))
structure Kx where
  T : Str → Option GK
  N : List Str
  sc : Scope
  asn : Option Scope
def asnB (o : Option Scope) (s : Str) : Bool := match o with
  | none => true
  | some sc => match sc.names.lookup s with
    | some .cell => true
    | _ => false
def nameOk (s : Str) : Bool := !(s == ("__debug__" : Str)) && !(s == ("__classdict__" : Str))
def visB (sc : Scope) (s : Str) : Bool := match sc.names.lookup s with
  | some .local => true
  | some .cell => true
  | some .free => true
  | _ => false
def glB (sc : Scope) (s : Str) : Bool := match sc.names.lookup s with
  | some .globalImplicit => true
  | _ => false
def locB (k : Kx) (s : Str) : Bool := match k.sc.names.lookup s with
  | some .local => true
  | some .cell => asnB k.asn s
  | _ => false
def isBlt (k : Kx) (s : Str) : Bool := match k.T s with
  | some .blt => glB k.sc s
  | _ => false
def isFn (k : Kx) (s : Str) (n : Nat) : Bool := match k.T s with
  | some (.fn m) => glB k.sc s && m == n
  | _ => false
def isCst (k : Kx) (s : Str) (d : D) : Bool := match k.T s with
  | some (.cst e) => glB k.sc s && deq e d
  | _ => false
def odeq : Option D → Option D → Bool
  | none, none => true
  | some a, some b => deq a b
  | _, _ => false
def kdeq : List (Str × Option D) → List (Str × Option D) → Bool
  | [], [] => true
  | (x, a) :: r, (y, b) :: s => x == y && odeq a b && kdeq r s
  | _, _ => false
theorem kdeq_ok : ∀ {a b : List (Str × Option D)}, kdeq a b = true → a = b
  | [], [], _ => rfl
  | (x, a) :: r, (y, b) :: s, h => by
    unfold kdeq at h
    rw [Bool.and_eq_true, Bool.and_eq_true] at h
    have e1 := eq_of_beq h.1.1
    have e2 : a = b := by
      have h2 := h.1.2
      cases a with
      | none => cases b with
        | none => rfl
        | some b => cases h2
      | some a => cases b with
        | none => cases h2
        | some b => rw [deq_ok h2]
    rw [e1, e2, kdeq_ok h.2]
  | [], _ :: _, h => by simp [kdeq] at h
  | _ :: _, [], h => by simp [kdeq] at h
def isKd (k : Kx) (s : Str) (kvs : List (Str × Option D)) : Bool := match k.T s with
  | some (.kd e) => glB k.sc s && kdeq e kvs
  | _ => false
def keyB (k : Key) : Expr → Bool
  | .Constant (.str x) _ _ => decide (k = .inr x)
  | .Constant (.int i) _ _ => decide (k = .inl i)
  | _ => false
theorem keyB_ok {k : Key} {e : Expr} (h : keyB k e = true) : kvE k e := by
  unfold keyB at h
  unfold kvE
  split at h
  · exact of_decide_eq_true h
  · exact of_decide_eq_true h
  · cases h
def slotB (k : Kx) (i : Nat) (s : Str) : Bool := match k.N[i]? with
  | some x => x == s
  | none => false
def opB : Operator → BOp → Bool
  | .Add, .add => true | .Sub, .sub => true | .Mult, .mul => true | .FloorDiv, .fdiv => true | .Mod, .mod => true | .Pow, .pow => true
  | _, _ => false
def copB : CmpOp → COp → Bool
  | .Eq, .eq => true | .NotEq, .ne => true | .Lt, .lt => true | .LtE, .le => true | .Gt, .gt => true | .GtE, .ge => true | .In, .isin => true | .NotIn, .nin => true
  | _, _ => false
theorem opB_ok {a : Operator} {b : BOp} (h : opB a b = true) : a = bopOf b := by cases b <;> cases a <;> first | rfl | cases h
theorem copB_ok {a : CmpOp} {b : COp} (h : copB a b = true) : a = copOf b := by cases b <;> cases a <;> first | rfl | cases h
def cstB : Const → D → Bool
  | .int i, .int j => i == j
  | .bool a, .bool b => a == b
  | .none, .none => true
  | .str s, .str t => s == t && sok s
  | _, _ => false
def namesB (k : Kx) : List Expr → List Nat → Bool
  | [], [] => true
  | .Name s _ :: es, i :: is => locB k s && slotB k i s && namesB k es is
  | _, _ => false
def chkTg (k : Kx) (e : Expr) (t : Tg) : Bool := match e, t with
  | .Name s _, .nm i => locB k s && slotB k i s
  | .Tuple es _ _, .tp is => namesB k es is
  | _, _ => false
def tgInB (t : Tg) (own : List Nat) : Bool := match t with
  | .nm i => own.contains i
  | .tp is => is.all own.contains
def ownOf (k : Kx) (own : List Nat) : List (Str × Nat) := own.map fun i => (k.N.getD i ("" : Str), i)
def Kx.blk (k : Kx) (scope : Scope) : Kx := { k with sc := relS scope k.sc, asn := some scope }
def muB (s : Str) (m : Mu) : Bool := s == (muN m : Str)
mutual
def chk : Nat → Kx → Expr → X → Bool
  | 0, _, _, _ => false
  | n + 1, k, e, x => match e, x with
    | .Name s _, .loc i => nameOk s && visB k.sc s && slotB k i s
    | .Name s _, .dat d => nameOk s && isCst k s d
    | .Constant c _ _, .dat d => cstB c d
    | .UnaryOp .USub (.Constant (.int i) _ _) _, .dat d => match d with
      | .int j => j == -i
      | _ => false
    | .UnaryOp .Not a _, .not xa => chk n k a xa
    | .BinOp a op b _, .bin o xa xb => opB op o && chk n k a xa && chk n k b xb
    | .BoolOp _ [a] _, x => chk n k a x
    | .BoolOp .And (a :: b :: r) p, .and xa xb => chk n k a xa && chk n k (.BoolOp .And (b :: r) p) xb
    | .BoolOp .Or (a :: b :: r) p, .or xa xb => chk n k a xa && chk n k (.BoolOp .Or (b :: r) p) xb
    | .Compare a [op] [b] _, .cmp o xa xb => copB op o && noSet b && chk n k a xa && chk n k b xb
    | .Compare a [op, op'] [b, c] _, .chn o p xa xb xc => copB op o && copB op' p && noSet c && chk n k a xa && chk n k b xb && chk n k c xc
    | .Compare a [.Is] [.Constant .none _ _] _, .isN false xa => chk n k a xa
    | .Compare a [.IsNot] [.Constant .none _ _] _, .isN true xa => chk n k a xa
    | .IfExp c a b _, .ite xc xa xb => chkT n k c xc && chk n k a xa && chk n k b xb
    | .Tuple es _ _, .tup xs => decide (xs.length ≤ 1000) && es.all noStar && chks n k es xs
    | .List es _, .lst xs => decide (xs.length ≤ 1000) && es.all noStar && chks n k es xs
    | .Subscript a (.Slice (some b) none none _) _, .slF xa xb => chk n k a xa && chk n k b xb
    | .Subscript a (.Slice none (some b) none _) _, .slT xa xb => chk n k a xa && chk n k b xb
    | .Subscript a (.Slice (some b) (some c) none _) _, .slB xa xb xc => chk n k a xa && chk n k b xb && chk n k c xc
    | .Subscript a (.Slice none none (some (.UnaryOp .USub (.Constant (.int 1) _ _) _)) _) _, .rev xa => chk n k a xa
    | .Subscript a b _, .idx xa xb => noSlice b && chk n k a xa && chk n k b xb
    | .Call (.Name f _) (a :: es) [] _, .call g lv xs => f == g && nameOk f && isFn k f xs.length && (a :: es).all noStar && chks n k (a :: es) xs
    | .Call (.Name f _) [a, .Name ty _] [] _, .isi xa t => f == ("isinstance" : Str) && isBlt k f && ty == (tyN t : Str) && isBlt k ty && noStar a && chk n k a xa
    | .Call (.Name f _) (a :: es) [] _, .blt b xs => f == (blN b : Str) && isBlt k f && (a :: es).all noStar && chks n k (a :: es) xs
    | .Call (.Attribute o m apos) (a :: es) [] cpos, .mut mu xo xs => muB m mu && (match mu with
        | .pop => false
        | _ => true) && noCall0 o && (apos.endLine == cpos.line) && decide ((a :: es).length < 20) && (a :: es).all noStar && chk n k o xo && chks n k (a :: es) xs
    | .Call (.Attribute o m apos) [] [] cpos, .mut .pop xo [] => m == ("pop" : Str) && noCall0 o && (apos.endLine == cpos.line) && chk n k o xo
    | .ListComp elt [⟨tg, iter, ifs, 0⟩] scope _, .comp xe t xi xifs own => blkC k.N k.sc scope (ownOf k own) && tgInB t own && noSet iter && chkI n k tg iter xi && chkTg (k.blk scope) tg t && chkIf n (k.blk scope) ifs xifs && chk n (k.blk scope) elt xe
    | .Call (.Name f _) [.SetComp elt [⟨tg, iter, ifs, 0⟩] scope _] [] _, .lsc xe t xi xifs own => f == ("len" : Str) && isBlt k f && blkC k.N k.sc scope (ownOf k own) && tgInB t own && noSet iter && chkI n k tg iter xi && chkTg (k.blk scope) tg t && chkIf n (k.blk scope) ifs xifs && chk n (k.blk scope) elt xe
    | .Subscript a b _, .prm .dix [xa, xb] => noSlice b && chk n k a xa && chk n k b xb
    | .Compare a [.In] [b] _, .prm (.din false) [xa, xb] => noSet b && chk n k a xa && chk n k b xb
    | .Compare a [.NotIn] [b] _, .prm (.din true) [xa, xb] => noSet b && chk n k a xa && chk n k b xb
    | .Call (.Attribute (.Name s _) m apos) [a, b] [] cpos, .prm (.kget kvs) [xa, xb] => m == ("get" : Str) && nameOk s && isKd k s kvs && (apos.endLine == cpos.line) && noStar a && noStar b && chk n k a xa && chk n k b xb
    | .Call (.Name f _) [.Call (.Name g _) [a] [] _] [] _, .prm .lset [xa] => f == ("len" : Str) && isBlt k f && g == ("set" : Str) && isBlt k g && noStar a && chk n k a xa
    | .Dict keys values _, .prm (.dsp ks) xs => !keys.isEmpty && decide (keys.length ≤ 15) && decide ks.Nodup && chkD n k keys values ks xs
    | _, _ => false
def chkD : Nat → Kx → List (Option Expr) → List Expr → List Key → List X → Bool
  | 0, _, _, _, _, _ => false
  | n + 1, k, keys, values, ks, xs => match keys, values, ks, xs with
    | [], [], [], [] => true
    | some e :: es, v :: vs, q :: qs, x :: xs => keyB q e && chk n k v x && chkD n k es vs qs xs
    | _, _, _, _ => false
def chkT : Nat → Kx → Expr → X → Bool
  | 0, _, _, _ => false
  | n + 1, k, e, x => match e, x with
    | .UnaryOp .Not a _, .not xa => chkT n k a xa
    | .BoolOp op vs p, x => chkW n k (.BoolOp op vs p) x
    | .Compare a [op] [b] p, .cmp o xa xb => copB op o && noSet b && chk n k a xa && chk n k b xb
    | .Compare a [op, op'] [b, c] p, .chn o q xa xb xc => copB op o && copB op' q && noSet c && chk n k a xa && chk n k b xb && chk n k c xc
    | .Compare a [.Is] [.Constant .none _ _] _, .isN false xa => chk n k a xa
    | .Compare a [.IsNot] [.Constant .none _ _] _, .isN true xa => chk n k a xa
    | .Compare a [.In] [b] _, .prm (.din false) [xa, xb] => noSet b && chk n k a xa && chk n k b xb
    | .Compare a [.NotIn] [b] _, .prm (.din true) [xa, xb] => noSet b && chk n k a xa && chk n k b xb
    | e, x => plainT e && chk n k e x
def chkW : Nat → Kx → Expr → X → Bool
  | 0, _, _, _ => false
  | n + 1, k, e, x => match e, x with
    | .BoolOp .And [a] _, x => chkT n k a x
    | .BoolOp .Or [a] _, x => chkT n k a x
    | .BoolOp .And (a :: b :: r) p, .and xa xb => chkT n k a xa && chkW n k (.BoolOp .And (b :: r) p) xb
    | .BoolOp .Or (a :: b :: r) p, .or xa xb => chkT n k a xa && chkW n k (.BoolOp .Or (b :: r) p) xb
    | _, _ => false
def chks : Nat → Kx → List Expr → List X → Bool
  | 0, _, _, _ => false
  | n + 1, k, es, xs => match es, xs with
    | [], [] => true
    | e :: es, x :: xs => chk n k e x && chks n k es xs
    | _, _ => false
def chkIf : Nat → Kx → List Expr → List X → Bool
  | 0, _, _, _ => false
  | n + 1, k, es, xs => match es, xs with
    | [], [] => true
    | [e], [x] => chkT n k e x
    | _, _ => false
def chkI : Nat → Kx → Expr → Expr → I → Bool
  | 0, _, _, _, _ => false
  | n + 1, k, tg, e, x => match e, x with
    | .Call (.Name f _) [a] [] _, .rng1 xa => f == ("range" : Str) && isBlt k f && noStar a && chk n k a xa
    | .Call (.Name f _) [a, b] [] _, .rng2 xa xb => f == ("range" : Str) && isBlt k f && noStar a && noStar b && chk n k a xa && chk n k b xb
    | .Call (.Name f _) [a] [] _, .rev xa => f == ("reversed" : Str) && isBlt k f && noStar a && chk n k a xa
    | .Call (.Name f _) [a] [] _, .enm xa => f == ("enumerate" : Str) && isBlt k f && noStar a && !noTup tg && chk n k a xa
    | .Call (.Name f _) [a, b] [] _, .zip xa xb => f == ("zip" : Str) && isBlt k f && noStar a && noStar b && !noTup tg && chk n k a xa && chk n k b xb
    | e, .sq xa => chk n k e xa
    | _, _ => false
end
/-- where a checked text stands -/
structure Good (cl : Str → Addr) (C : Orc) (CX : CXT) (kk : Nat) (k : Kx) (E : XK) (X : Cx) : Prop where
  hN : X.N = k.N
  nd : X.N.Nodup
  sc : X.env.scope = k.sc
  calm : X.calm = true
  room : Room kk X.A
  asn : ∀ s, asnB k.asn s = true → X.fn s = true
  glob : ∀ s d, k.T s = some (.cst d) → ∃ u v, X.mg s = some u ∧ RelV v u ∧ ∀ F, Rp X.K F v d
  blt : ∀ s, k.T s = some .blt → X.mg s = none
  fn : ∀ f n, k.T f = some (.fn n) → ∃ fa fd ps, ps.length = n ∧ X.mg f = some (.ref fa) ∧ PySem.W.keepIn X.K (.ref fa) = true ∧ Binds X.K fd ps [] ∧ FnOk X.prog X.w X.K X.mg X.base CX kk fa fd ps (spOf X.K cl n (C f))
  kd : ∀ s kvs, k.T s = some (.kd kvs) → ∃ a, X.mg s = some (.ref a) ∧ KdIs X.K X.w a kvs
  pass : Passes CX X E
  nox : ∀ (st : List Env) (H : Hp) (s : Shared) (e : Value) (s' : Shared), CX st H s E0 e s' → False
section
variable {cl : Str → Addr} {C : Orc} {CX : CXT} {kk : Nat} {k : Kx} {E : XK} {X : Cx}
theorem Good.blk (g : Good cl C CX kk k E X) (scope : Scope) (s : Shared) (H : Hp) (A : Addr) (cs : List (Str × Addr)) (fp : List Addr) : Good cl C CX kk (k.blk scope) E0 (X.blk s H scope (compEnvC scope cs A X.env) fp) where
  hN := g.hN
  nd := g.nd
  sc := by show relS scope X.env.scope = relS scope k.sc; rw [g.sc]
  calm := g.calm
  room := g.room
  asn := fun s h => by
    show (scope.names.lookup s == some NameKind.cell) = true
    have h : (match scope.names.lookup s with | some .cell => true | _ => false) = true := h
    split at h
    · rename_i q; rw [q]; rfl
    · cases h
  glob := g.glob
  blt := g.blt
  fn := g.fn
  kd := g.kd
  pass := fun pins σ H s e s' _ c => g.nox _ _ _ _ _ c
  nox := g.nox
theorem Good.units (g : Good cl C CX kk k E X) : X.A.units + 150 < cLine := by have := g.room.un; omega
theorem vis_ok (g : Good cl C CX kk k E X) {s : Str} (h : visB k.sc s = true) : Vis X.env.scope s := by
  rw [g.sc]
  unfold visB at h
  split at h
  · rename_i q; exact .inl q
  · rename_i q; exact .inr (.inl q)
  · rename_i q; exact .inr (.inr q)
  · cases h
theorem gl_ok (g : Good cl C CX kk k E X) {s : Str} (h : glB k.sc s = true) : Gl X s := by
  show X.env.scope.names.lookup s = _
  rw [g.sc]
  unfold glB at h
  split at h
  · rename_i q; exact q
  · cases h
theorem slot_ok (g : Good cl C CX kk k E X) {s : Str} {i : Nat} (h : slotB k i s = true) : X.N[i]? = some s := by
  rw [g.hN]
  unfold slotB at h
  split at h
  · rename_i x q; rw [q, eq_of_beq h]
  · cases h
theorem loc_ok (g : Good cl C CX kk k E X) {s : Str} (h : locB k s = true) : Loc X.env.scope s ∧ (X.fn s = true ∨ X.env.scope.names.lookup s = some .local) := by
  rw [g.sc]
  unfold locB at h
  split at h
  · rename_i q; exact ⟨.inl q, .inr q⟩
  · rename_i q; exact ⟨.inr q, .inl (g.asn s h)⟩
  · cases h
theorem blt_ok (g : Good cl C CX kk k E X) {s : Str} (h : isBlt k s = true) : Gl X s ∧ X.mg s = none := by
  unfold isBlt at h
  split at h
  · rename_i q; exact ⟨gl_ok g h, g.blt s q⟩
  · cases h
theorem name_ok {s : Str} (h : nameOk s = true) : (s == ("__debug__" : Str)) = false ∧ (s == ("__classdict__" : Str)) = false := by
  unfold nameOk at h
  rw [Bool.and_eq_true, Bool.not_eq_true', Bool.not_eq_true'] at h
  exact h
theorem names_ok (g : Good cl C CX kk k E X) : ∀ {es : List Expr} {is : List Nat}, namesB k es is = true → PGs X es (gAll is) ∧ (assignEach es X.env).length = is.length ∧ (assignEach es X.env).findIdx? (·.1) = none
  | [], [], _ => ⟨pgs_nil, rfl, rfl⟩
  | .Name s p :: es, i :: is, h => by
    simp only [namesB, Bool.and_eq_true] at h
    obtain ⟨⟨h1, h2⟩, h3⟩ := h
    obtain ⟨a, b, c⟩ := names_ok g h3
    obtain ⟨l1, l2⟩ := loc_ok g h1
    refine ⟨pgs_cons (pg_name g.nd (slot_ok g h2) l1 l2) a rfl, ?_, ?_⟩
    · show (assignEach es X.env).length + 1 = is.length + 1
      rw [b]
    · show ((false, _) :: assignEach es X.env).findIdx? (·.1) = none
      rw [List.findIdx?_cons]
      simp [c]
  | [], _ :: _, h => by simp [namesB] at h
  | e :: es, [], h => by cases e <;> simp [namesB] at h
  | .BoolOp .. :: _, _ :: _, h | .NamedExpr .. :: _, _ :: _, h | .BinOp .. :: _, _ :: _, h | .UnaryOp .. :: _, _ :: _, h | .Lambda .. :: _, _ :: _, h | .IfExp .. :: _, _ :: _, h | .Dict .. :: _, _ :: _, h
  | .Set .. :: _, _ :: _, h | .ListComp .. :: _, _ :: _, h | .SetComp .. :: _, _ :: _, h | .DictComp .. :: _, _ :: _, h | .GeneratorExp .. :: _, _ :: _, h | .Await .. :: _, _ :: _, h | .Yield .. :: _, _ :: _, h
  | .YieldFrom .. :: _, _ :: _, h | .Compare .. :: _, _ :: _, h | .Call .. :: _, _ :: _, h | .FormattedValue .. :: _, _ :: _, h | .JoinedStr .. :: _, _ :: _, h | .Constant .. :: _, _ :: _, h
  | .Attribute .. :: _, _ :: _, h | .Subscript .. :: _, _ :: _, h | .Starred .. :: _, _ :: _, h | .List .. :: _, _ :: _, h | .Tuple .. :: _, _ :: _, h | .Slice .. :: _, _ :: _, h => by simp [namesB] at h
theorem tg_ok (g : Good cl C CX kk k E X) {e : Expr} {t : Tg} (h : chkTg k e t = true) : GT X e t := by
  unfold chkTg at h
  split at h
  · rw [Bool.and_eq_true] at h
    obtain ⟨l1, l2⟩ := loc_ok g h.1
    exact gt_nm g.nd (slot_ok g h.2) l1 l2
  · obtain ⟨a, b, c⟩ := names_ok g h
    exact gt_tp g.calm a b c
  · cases h
theorem tgIn_ok {t : Tg} {own : List Nat} (h : tgInB t own = true) : tgIn t own := by
  cases t with
  | nm i => simpa [tgInB, tgIn] using h
  | tp is => simpa [tgInB, tgIn] using h
theorem ownOf_snd (k : Kx) (own : List Nat) : (ownOf k own).map (·.2) = own := by
  unfold ownOf
  rw [List.map_map]
  exact List.map_id _
end
end Sc
namespace Sc
open PySem PySem.Spec PyProof.Rows L2

structure Snd (cl : Str → Addr) (C : Orc) (CX : CXT) (kk : Nat) (n : Nat) : Prop where
  e : ∀ {k : Kx} {E : XK} {X : Cx} {e : Expr} {x : Sc.X}, Good cl C CX kk k E X → chk n k e x = true → PX X cl C E e x
  t : ∀ {k : Kx} {E : XK} {X : Cx} {e : Expr} {x : Sc.X}, Good cl C CX kk k E X → chkT n k e x = true → PXT X cl C E e x
  w : ∀ {k : Kx} {E : XK} {X : Cx} {e : Expr} {x : Sc.X}, Good cl C CX kk k E X → chkW n k e x = true → PXW X cl C E e x
  s : ∀ {k : Kx} {E : XK} {X : Cx} {es : List Expr} {xs : List Sc.X} {lv : List Bool}, Good cl C CX kk k E X → chks n k es xs = true → es.all noStar = true → PA X es (tXs X.K cl C E xs lv)
  f : ∀ {k : Kx} {E : XK} {X : Cx} {es : List Expr} {xs : List Sc.X}, Good cl C CX kk k E X → chkIf n k es xs = true → PTs X es (tTs X.K cl C E xs)
  d : ∀ {k : Kx} {E : XK} {X : Cx} {pos : Pos} {keys : List (Option Expr)} {values : List Expr} {ks : List Key} {xs : List Sc.X}, Good cl C CX kk k E X → chkD n k keys values ks xs = true → PPs X pos keys values (trD X.K cl C E ks xs) ∧ keys.all (·.isSome) = true ∧ keys.length = values.length ∧ ks.length = keys.length ∧ ks.length = xs.length
  i : ∀ {k : Kx} {E : XK} {X : Cx} {tg e : Expr} {x : Sc.I}, Good cl C CX kk k E X → chkI n k tg e x = true → PXI X cl C E tg e x

section
variable {cl : Str → Addr} {C : Orc} {CX : CXT} {kk : Nat}
theorem b2 {a b : Bool} (h : (a && b) = true) : a = true ∧ b = true := Bool.and_eq_true_iff.mp h
theorem size_1000 {n : Nat} (h : decide (n ≤ 1000) = true) : n ≤ sizeLine := Nat.le_trans (of_decide_eq_true h) (by rw [sizeLine_eq]; decide)
theorem last_marks {op op' : CmpOp} {b c : Expr} (h : noSet c = true) : lastMarks [op, op'] [b, c] = false := by
  show lastMarks [op'] [c] = false
  exact noSet_in h
theorem chn_bool {o p : COp} {xa xb xc : Sc.X} (e : Ev) (S : Sto) : ∃ g : Sto → Res Bool, evN C (.chn o p xa xb xc) e S = (g S).bind fun k S1 => .ok (kb k) S1 := by
  refine ⟨fun S => (evN C xa e S).bind fun x S1 => (evN C xb e S1).bind fun y S2 => (opt (rcmp o S2 (fz x) (fz y)) S2).bind fun k S3 => match k with
    | true => (evN C xc e S3).bind fun z S4 => (opt (rcmp p S4 (fz y) (fz z)) S4).bind fun k' S5 => .ok k' S5
    | false => .ok false S3, ?_⟩
  simp only [evN]
  cases evN C xa e S with
  | ok r1 S1 =>
    simp only [Res.bind_ok]
    cases evN C xb e S1 with
    | ok r2 S2 =>
      simp only [Res.bind_ok]
      cases rcmp o S2 (fz r1) (fz r2) with
      | none => rfl
      | some k =>
        simp only [opt_some, Res.bind_ok]
        cases k with
        | true =>
          simp only
          cases evN C xc e S2 with
          | ok r3 S3 =>
            simp only [Res.bind_ok]
            cases rcmp p S3 (fz r2) (fz r3) <;> rfl
          | exc _ _ _ => rfl
          | stuck => rfl
        | false => rfl
    | exc _ _ _ => rfl
    | stuck => rfl
  | exc _ _ _ => rfl
  | stuck => rfl
theorem isN_bool {neg : Bool} {xa : Sc.X} (e : Ev) (S : Sto) : ∃ g : Sto → Res Bool, evN C (.isN neg xa) e S = (g S).bind fun k S1 => .ok (kb k) S1 := by
  refine ⟨fun S => (evN C xa e S).bind fun x S1 => .ok (match fz x with
    | .d .none => !neg
    | _ => neg) S1, ?_⟩
  simp only [evN]
  cases evN C xa e S <;> rfl

theorem snd_e (n : Nat) (ih : Snd cl C CX kk n) {k : Kx} {E : XK} {X : Cx} {e : Expr} {x : Sc.X} (g : Good cl C CX kk k E X) (h : chk (n + 1) k e x = true) : PX X cl C E e x := by
  unfold chk at h
  split at h
  · obtain ⟨h, h3⟩ := b2 h
    obtain ⟨h1, h2⟩ := b2 h
    exact x_loc (slot_ok g h3) (vis_ok g h2) (name_ok h1).1 (name_ok h1).2
  · obtain ⟨h1, h2⟩ := b2 h
    unfold isCst at h2
    split at h2
    · rename_i d' hT
      obtain ⟨h3, h4⟩ := b2 h2
      have e := deq_ok h4
      subst e
      obtain ⟨u, v, hm, r, rp⟩ := g.glob _ _ hT
      exact x_dat (pe_glob (gl_ok g h3) hm r (name_ok h1).1) rp
    · cases h2
  · unfold cstB at h
    split at h
    · rw [eq_of_beq h]; exact x_int
    · rw [eq_of_beq h]; exact x_bl
    · exact x_non
    · obtain ⟨h1, h2⟩ := b2 h
      rw [← eq_of_beq h1]
      exact x_str h2
    · cases h
  · split at h
    · rw [eq_of_beq h]; exact x_un
    · cases h
  · exact x_not (ih.e g h)
  · obtain ⟨h, h3⟩ := b2 h
    obtain ⟨h1, h2⟩ := b2 h
    rw [opB_ok h1]
    exact x_bin (ih.e g h2) (ih.e g h3)
  · exact x_and1 (ih.e g h)
  · obtain ⟨h1, h2⟩ := b2 h
    exact x_and (ih.e g h1) (ih.e g h2)
  · obtain ⟨h1, h2⟩ := b2 h
    exact x_or (ih.e g h1) (ih.e g h2)
  · obtain ⟨h, h4⟩ := b2 h
    obtain ⟨h, h3⟩ := b2 h
    obtain ⟨h1, h2⟩ := b2 h
    rw [copB_ok h1]
    exact x_cmp g.units (ih.e g h3) (ih.e g h4) (noSet_in h2)
  · obtain ⟨h, h6⟩ := b2 h
    obtain ⟨h, h5⟩ := b2 h
    obtain ⟨h, h4⟩ := b2 h
    obtain ⟨h, h3⟩ := b2 h
    obtain ⟨h1, h2⟩ := b2 h
    rw [copB_ok h1, copB_ok h2]
    exact x_chn g.units (ih.e g h4) (ih.e g h5) (ih.e g h6) (last_marks h3)
  · exact x_isN (ih.e g h)
  · exact x_isNot (ih.e g h)
  · obtain ⟨h, h3⟩ := b2 h
    obtain ⟨h1, h2⟩ := b2 h
    exact x_ite (ih.t g h1) (ih.e g h2) (ih.e g h3)
  · obtain ⟨h, h3⟩ := b2 h
    obtain ⟨h1, h2⟩ := b2 h
    exact x_tup (ih.s g h3 h2) (size_1000 h1)
  · obtain ⟨h, h3⟩ := b2 h
    obtain ⟨h1, h2⟩ := b2 h
    exact x_lst (ih.s g h3 h2) (size_1000 h1)
  · obtain ⟨h1, h2⟩ := b2 h
    exact x_slF (ih.e g h1) (ih.e g h2)
  · obtain ⟨h1, h2⟩ := b2 h
    exact x_slT (ih.e g h1) (ih.e g h2)
  · obtain ⟨h, h3⟩ := b2 h
    obtain ⟨h1, h2⟩ := b2 h
    exact x_slB (ih.e g h1) (ih.e g h2) (ih.e g h3)
  · exact x_rev (ih.e g h)
  · obtain ⟨h, h3⟩ := b2 h
    obtain ⟨h1, h2⟩ := b2 h
    exact x_idx (ih.e g h2) (ih.e g h3) (noSlice_ok h1)
  · obtain ⟨h, h5⟩ := b2 h
    obtain ⟨h, h4⟩ := b2 h
    obtain ⟨h, h3⟩ := b2 h
    obtain ⟨h1, h2⟩ := b2 h
    rw [eq_of_beq h1] at h2 h3 ⊢
    unfold isFn at h3
    split at h3
    · rename_i m hT
      obtain ⟨h6, h7⟩ := b2 h3
      have e7 := eq_of_beq h7
      subst e7
      obtain ⟨fa, fd, ps, hp, hm, hk, hb, F⟩ := g.fn _ _ hT
      have h4' := h4
      simp only [List.all_cons, Bool.and_eq_true] at h4'
      exact x_call (ps := ps) (by rw [hp]; exact F) g.room (gl_ok g h6) hm hk hb g.pass (name_ok h2).1 (ih.s g h5 h4) hp.symm (star_cons h4'.1) (star_any h4'.2)
    · cases h3
  · obtain ⟨h, h6⟩ := b2 h
    obtain ⟨h, h5⟩ := b2 h
    obtain ⟨h, h4⟩ := b2 h
    obtain ⟨h, h3⟩ := b2 h
    obtain ⟨h1, h2⟩ := b2 h
    rw [eq_of_beq h1] at h2 ⊢
    rw [eq_of_beq h3] at h4 ⊢
    obtain ⟨q1, q2⟩ := blt_ok g h2
    obtain ⟨q3, q4⟩ := blt_ok g h4
    exact x_isi (ih.e g h6) q1 q2 q3 q4 (star_cons h5) rfl
  · obtain ⟨h, h4⟩ := b2 h
    obtain ⟨h, h3⟩ := b2 h
    obtain ⟨h1, h2⟩ := b2 h
    rw [eq_of_beq h1] at h2 ⊢
    obtain ⟨q1, q2⟩ := blt_ok g h2
    have h3' := h3
    simp only [List.all_cons, Bool.and_eq_true] at h3'
    exact x_blt g.calm (ih.s g h4 h3) q1 q2 (star_cons h3'.1) (star_any h3'.2)
  · obtain ⟨h, h8⟩ := b2 h
    obtain ⟨h, h7⟩ := b2 h
    obtain ⟨h, h6⟩ := b2 h
    obtain ⟨h, h5⟩ := b2 h
    obtain ⟨h, h4⟩ := b2 h
    obtain ⟨h, h3⟩ := b2 h
    obtain ⟨h1, h2⟩ := b2 h
    unfold muB at h1
    rw [eq_of_beq h1]
    have h6' := h6
    simp only [List.all_cons, Bool.and_eq_true] at h6'
    refine x_mut (ih.e g h7) (ih.s g h8 h6) (fun z => by subst z; cases h2) (noCall_ok h3) ?_ h4 (star_cons h6'.1) (star_any h6'.2)
    rw [star_all h6]
    have := of_decide_eq_true h5
    simp only [List.length_cons] at this
    simp [keywordEach, backToKw]
    omega
  · obtain ⟨h, h4⟩ := b2 h
    obtain ⟨h, h3⟩ := b2 h
    obtain ⟨h1, h2⟩ := b2 h
    rw [eq_of_beq h1]
    exact x_pop (ih.e g h4) (noCall_ok h2) h3
  · obtain ⟨h, h7⟩ := b2 h
    obtain ⟨h, h6⟩ := b2 h
    obtain ⟨h, h5⟩ := b2 h
    obtain ⟨h, h4⟩ := b2 h
    obtain ⟨h, h3⟩ := b2 h
    obtain ⟨h1, h2⟩ := b2 h
    have ok := blkOk_by h1
    rw [← g.hN, ← g.sc] at ok
    exact x_comp (cl := cl) (C := C) (own := ownOf k _) g.calm g.nd (ih.i g h4) ok (ownOf_snd k _) (tgIn_ok h2) (fun s H A cs fp => tg_ok (g.blk _ s H A cs fp) h5) (fun s H A cs fp => ih.f (g.blk _ s H A cs fp) h6) (fun s H A cs fp => ih.e (g.blk _ s H A cs fp) h7) (noSet_ok h3)
  · obtain ⟨h, h7⟩ := b2 h
    obtain ⟨h, h6⟩ := b2 h
    obtain ⟨h, h5⟩ := b2 h
    obtain ⟨h, h4⟩ := b2 h
    obtain ⟨h, h3⟩ := b2 h
    obtain ⟨h, h2⟩ := b2 h
    obtain ⟨h, h1⟩ := b2 h
    obtain ⟨h0, h⟩ := b2 h
    rw [eq_of_beq h0] at h ⊢
    obtain ⟨q1, q2⟩ := blt_ok g h
    have ok := blkOk_by h1
    rw [← g.hN, ← g.sc] at ok
    exact x_lsc (cl := cl) (C := C) (own := ownOf k _) q1 q2 g.calm g.nd (ih.i g h4) ok (ownOf_snd k _) (tgIn_ok h2) (fun s H A cs fp => tg_ok (g.blk _ s H A cs fp) h5) (fun s H A cs fp => ih.f (g.blk _ s H A cs fp) h6) (fun s H A cs fp => ih.e (g.blk _ s H A cs fp) h7) (noSet_ok h3)
  · obtain ⟨h, h3⟩ := b2 h
    obtain ⟨h1, h2⟩ := b2 h
    exact x_dix g.units (ih.e g h2) (ih.e g h3) (noSlice_ok h1)
  · obtain ⟨h, h3⟩ := b2 h
    obtain ⟨h1, h2⟩ := b2 h
    exact x_din g.units (ih.e g h2) (ih.e g h3) (noSet_in h1)
  · obtain ⟨h, h3⟩ := b2 h
    obtain ⟨h1, h2⟩ := b2 h
    exact x_dnin g.units (ih.e g h2) (ih.e g h3) (noSet_in h1)
  · obtain ⟨h, h8⟩ := b2 h
    obtain ⟨h, h7⟩ := b2 h
    obtain ⟨h, h6⟩ := b2 h
    obtain ⟨h, h5⟩ := b2 h
    obtain ⟨h, h4⟩ := b2 h
    obtain ⟨h, h3⟩ := b2 h
    obtain ⟨h1, h2⟩ := b2 h
    rw [eq_of_beq h1]
    unfold isKd at h3
    split at h3
    · rename_i kvs' hT
      obtain ⟨h9, h10⟩ := b2 h3
      have e := kdeq_ok h10
      subst e
      obtain ⟨d, hm, hd⟩ := g.kd _ _ hT
      refine x_kget hd (gl_ok g h9) hm (name_ok h2).1 (ih.e g h7) (ih.e g h8) ⟨rfl, ?_, h4, ?_⟩
      · rw [star_all (by simp [h5, h6])]; rfl
      · rw [star_cons h5, star_cons h6]; rfl
    · cases h3
  · obtain ⟨h, h6⟩ := b2 h
    obtain ⟨h, h5⟩ := b2 h
    obtain ⟨h, h4⟩ := b2 h
    obtain ⟨h, h3⟩ := b2 h
    obtain ⟨h1, h2⟩ := b2 h
    rw [eq_of_beq h1] at h2 ⊢
    rw [eq_of_beq h3] at h4 ⊢
    obtain ⟨q1, q2⟩ := blt_ok g h2
    obtain ⟨q3, q4⟩ := blt_ok g h4
    exact x_lset q1 q2 q3 q4 (ih.e g h6) g.calm (star_cons h5)
  · obtain ⟨h, h4⟩ := b2 h
    obtain ⟨h, h3⟩ := b2 h
    obtain ⟨h1, h2⟩ := b2 h
    obtain ⟨q1, q2, q3, q4, q5⟩ := ih.d g h4
    refine x_dsp q1 q2 q3 ?_ (of_decide_eq_true h2) q4 q5 (of_decide_eq_true h3)
    intro z
    subst z
    cases h1
  · cases h
theorem snd_d (n : Nat) (ih : Snd cl C CX kk n) {k : Kx} {E : XK} {X : Cx} {pos : Pos} {keys : List (Option Expr)} {values : List Expr} {ks : List Key} {xs : List Sc.X} (g : Good cl C CX kk k E X) (h : chkD (n + 1) k keys values ks xs = true) : PPs X pos keys values (trD X.K cl C E ks xs) ∧ keys.all (·.isSome) = true ∧ keys.length = values.length ∧ ks.length = keys.length ∧ ks.length = xs.length := by
  unfold chkD at h
  split at h
  · exact ⟨pps_nil, rfl, rfl, rfl, rfl⟩
  · obtain ⟨h, h3⟩ := b2 h
    obtain ⟨h1, h2⟩ := b2 h
    obtain ⟨q1, q2, q3, q4, q5⟩ := ih.d (pos := pos) g h3
    exact ⟨pps_cons (pe_key (keyB_ok h1)) (ih.e g h2) q1, by simpa using q2, by simp [q3], by simp [q4], by simp [q5]⟩
  · cases h
theorem snd_t (n : Nat) (ih : Snd cl C CX kk n) {k : Kx} {E : XK} {X : Cx} {e : Expr} {x : Sc.X} (g : Good cl C CX kk k E X) (h : chkT (n + 1) k e x = true) : PXT X cl C E e x := by
  unfold chkT at h
  split at h
  · exact xt_not (ih.t g h)
  · exact (ih.w g h).pt
  · obtain ⟨h, h4⟩ := b2 h
    obtain ⟨h, h3⟩ := b2 h
    obtain ⟨h1, h2⟩ := b2 h
    rw [copB_ok h1]
    exact xt_cmp g.units (ih.e g h3) (ih.e g h4) (noSet_in h2)
  · obtain ⟨h, h6⟩ := b2 h
    obtain ⟨h, h5⟩ := b2 h
    obtain ⟨h, h4⟩ := b2 h
    obtain ⟨h, h3⟩ := b2 h
    obtain ⟨h1, h2⟩ := b2 h
    rw [copB_ok h1, copB_ok h2]
    refine xt_of_bool ?_ (fun e S => chn_bool e S)
    refine (pt_chain (op_cmp (cl := cl) g.units) (op_cmp (cl := cl) g.units) (ih.e g h4) (ih.e g h5) (ih.e g h6) (last_marks h3)).imp fun σ H Q hq => ?_
    exact tChn_ok hq
  · refine xt_of_bool ?_ (fun e S => isN_bool e S)
    refine (pt_cmp (pc_isN (ih.e g h))).imp fun σ H Q hq => ?_
    exact tIsN_ok hq
  · refine xt_of_bool ?_ (fun e S => isN_bool e S)
    refine (pt_cmp (pc_notN (ih.e g h))).imp fun σ H Q hq => ?_
    exact tIsNot_ok hq
  · obtain ⟨h, h3⟩ := b2 h
    obtain ⟨h1, h2⟩ := b2 h
    exact xt_din g.units (ih.e g h2) (ih.e g h3) (noSet_in h1)
  · obtain ⟨h, h3⟩ := b2 h
    obtain ⟨h1, h2⟩ := b2 h
    exact xt_dnin g.units (ih.e g h2) (ih.e g h3) (noSet_in h1)
  · obtain ⟨h1, h2⟩ := b2 h
    exact xt_val (ih.e g h2) (plain_ok h1)
theorem snd_w (n : Nat) (ih : Snd cl C CX kk n) {k : Kx} {E : XK} {X : Cx} {e : Expr} {x : Sc.X} (g : Good cl C CX kk k E X) (h : chkW (n + 1) k e x = true) : PXW X cl C E e x := by
  unfold chkW at h
  split at h
  · exact xw_and1 (ih.t g h)
  · exact xw_or1 (ih.t g h)
  · obtain ⟨h1, h2⟩ := b2 h
    exact xw_and (ih.t g h1) (ih.w g h2)
  · obtain ⟨h1, h2⟩ := b2 h
    exact xw_or (ih.t g h1) (ih.w g h2)
  · cases h
theorem snd_s (n : Nat) (ih : Snd cl C CX kk n) {k : Kx} {E : XK} {X : Cx} {es : List Expr} {xs : List Sc.X} {lv : List Bool} (g : Good cl C CX kk k E X) (h : chks (n + 1) k es xs = true) (hs : es.all noStar = true) : PA X es (tXs X.K cl C E xs lv) := by
  unfold chks at h
  split at h
  · exact xs_nil
  · obtain ⟨h1, h2⟩ := b2 h
    simp only [List.all_cons, Bool.and_eq_true] at hs
    exact xs_cons (ih.e g h1) (ih.s g h2 hs.2) (star_cons hs.1)
  · cases h
theorem snd_f (n : Nat) (ih : Snd cl C CX kk n) {k : Kx} {E : XK} {X : Cx} {es : List Expr} {xs : List Sc.X} (g : Good cl C CX kk k E X) (h : chkIf (n + 1) k es xs = true) : PTs X es (tTs X.K cl C E xs) := by
  unfold chkIf at h
  split at h
  · exact ts_nil
  · exact ts_one (ih.t g h)
  · cases h
theorem tup_of {tg : Expr} (h : (!noTup tg) = true) : ∃ es k p, tg = .Tuple es k p := by
  cases tg with
  | Tuple es k p => exact ⟨es, k, p, rfl⟩
  | _ => simp [noTup] at h
theorem snd_i (n : Nat) (ih : Snd cl C CX kk n) {k : Kx} {E : XK} {X : Cx} {tg e : Expr} {x : Sc.I} (g : Good cl C CX kk k E X) (h : chkI (n + 1) k tg e x = true) : PXI X cl C E tg e x := by
  unfold chkI at h
  split at h
  · obtain ⟨h, h4⟩ := b2 h
    obtain ⟨h, h3⟩ := b2 h
    obtain ⟨h1, h2⟩ := b2 h
    rw [eq_of_beq h1] at h2 ⊢
    obtain ⟨q1, q2⟩ := blt_ok g h2
    exact i_rng1 (ih.e g h4) q1 q2 (star_cons h3)
  · obtain ⟨h, h6⟩ := b2 h
    obtain ⟨h, h5⟩ := b2 h
    obtain ⟨h, h4⟩ := b2 h
    obtain ⟨h, h3⟩ := b2 h
    obtain ⟨h1, h2⟩ := b2 h
    rw [eq_of_beq h1] at h2 ⊢
    obtain ⟨q1, q2⟩ := blt_ok g h2
    exact i_rng2 (ih.e g h5) (ih.e g h6) q1 q2 (by rw [star_cons h3, star_cons h4]; rfl) (star_cons h4)
  · obtain ⟨h, h4⟩ := b2 h
    obtain ⟨h, h3⟩ := b2 h
    obtain ⟨h1, h2⟩ := b2 h
    rw [eq_of_beq h1] at h2 ⊢
    obtain ⟨q1, q2⟩ := blt_ok g h2
    exact i_rev (ih.e g h4) q1 q2 (star_cons h3)
  · obtain ⟨h, h5⟩ := b2 h
    obtain ⟨h, h4⟩ := b2 h
    obtain ⟨h, h3⟩ := b2 h
    obtain ⟨h1, h2⟩ := b2 h
    rw [eq_of_beq h1] at h2 ⊢
    obtain ⟨q1, q2⟩ := blt_ok g h2
    obtain ⟨es, kk, p, rfl⟩ := tup_of h4
    exact i_enm (ih.e g h5) q1 q2 (star_cons h3)
  · obtain ⟨h, h7⟩ := b2 h
    obtain ⟨h, h6⟩ := b2 h
    obtain ⟨h, h5⟩ := b2 h
    obtain ⟨h, h4⟩ := b2 h
    obtain ⟨h, h3⟩ := b2 h
    obtain ⟨h1, h2⟩ := b2 h
    rw [eq_of_beq h1] at h2 ⊢
    obtain ⟨q1, q2⟩ := blt_ok g h2
    obtain ⟨es, kk, p, rfl⟩ := tup_of h5
    exact i_zip (ih.e g h6) (ih.e g h7) q1 q2 (star_cons h3) (star_cons h4)
  · exact i_sq (ih.e g h)
  · cases h
theorem snd : ∀ n : Nat, Snd cl C CX kk n
  | 0 => ⟨fun _ h => by simp [chk] at h, fun _ h => by simp [chkT] at h, fun _ h => by simp [chkW] at h, fun _ h _ => by simp [chks] at h, fun _ h => by simp [chkIf] at h, fun _ h => by simp [chkD] at h, fun _ h => by simp [chkI] at h⟩
  | n + 1 => ⟨snd_e n (snd n), snd_t n (snd n), snd_w n (snd n), snd_s n (snd n), snd_f n (snd n), snd_d n (snd n), snd_i n (snd n)⟩
end
end Sc
namespace Sc
open PySem PySem.Spec PyProof.Rows L2

/-- name = [..]: the two forms -/
def swapB (k : Kx) (s : Str) (pl cl : Nat) (scope : Scope) : Bool := (match k.sc.kind with
  | .function => true
  | _ => false) && (match k.sc.names.lookup s with
  | some .local => true
  | _ => false) && (pl == cl) && !(scope.names.any fun (n, q) => n == s && (q == .local || q == .cell))
def cellB (k : Kx) (s : Str) : Bool := match k.sc.names.lookup s with
  | some .cell => true
  | _ => false
mutual
def chkS : Nat → Kx → Stmt → Sm → Bool
  | 0, _, _, _ => false
  | n + 1, k, st, sm => match st, sm with
    | _, .never => true
    | .Return (some e) _, .ret x => chk n k e x
    | .Return none _, .retN => true
    | .Pass _, .pass => true
    | .Assign [.Name s p] (.ListComp elt [⟨tg, iter, ifs, 0⟩] scope lp) _, .asg (.nm i) (.comp xe t xi xifs own) => slotB k i s &&
        ((swapB k s p.line lp.line scope && blkC k.N k.sc scope (ownOf k own) && tgInB t own && noSet iter && chkI n k tg iter xi && chkTg (k.blk scope) tg t && chkIf n (k.blk scope) ifs xifs && chk n (k.blk scope) elt xe) ||
         (cellB k s && locB k s && chk n k (.ListComp elt [⟨tg, iter, ifs, 0⟩] scope lp) (.comp xe t xi xifs own)))
    | .Assign [.Name s _] e _, .asg (.nm i) x => noComp e && locB k s && slotB k i s && chk n k e x
    | .Assign [.Name s _] e _, .new i x => noComp e && locB k s && slotB k i s && chk n k e x
    | .Assign [.Tuple es q p] e _, .asg t x => noComp e && noTup e && chkTg k (.Tuple es q p) t && chk n k e x
    | .Assign [.Subscript o i _] v _, .six xo xi xv => (noComp v && noSlice i) && chk n k v xv && chk n k o xo && chk n k i xi
    | .Expr e _, .exp x => noComp e && chk n k e x
    | .If c a b _, .ite xc xa xb => chkT n k c xc && chkSs n k a xa && chkSs n k b xb
    | .For tg iter body [] _, .for_ t xi sms => noSet iter && chkI n k tg iter xi && chkTg k tg t && chkSs n k body sms
    | _, _ => false
def chkSs : Nat → Kx → List Stmt → List Sm → Bool
  | 0, _, _, _ => false
  | n + 1, k, st, sm => match st, sm with
    | [], [] => true
    | s :: ss, x :: xs => chkS n k s x && chkSs n k ss xs
    | _, _ => false
end
section
variable {cl : Str → Addr} {C : Orc} {CX : CXT} {kk : Nat}
theorem swap_ok {k : Kx} {E : XK} {X : Cx} (g : Good cl C CX kk k E X) {s : Str} {py pos : Pos} {elt : Expr} {gs : List Comprehension} {scope : Scope} {l : Nat} (h : swapB k s py.line pos.line scope = true) :
    X.env.scope.names.lookup s = some .local ∧ swapsWith (.ListComp elt gs scope pos) (some (.Name s py)) l X.env = pure true := by
  unfold swapB at h
  obtain ⟨h, h4⟩ := b2 h
  obtain ⟨h, h3⟩ := b2 h
  obtain ⟨h1, h2⟩ := b2 h
  have hk : X.env.scope.kind = .function := by
    rw [g.sc]
    split at h1
    · assumption
    · cases h1
  have hl : X.env.scope.names.lookup s = some .local := by
    rw [g.sc]
    split at h2
    · assumption
    · cases h2
  exact ⟨hl, sw_true hk hl h3 (by simpa using h4)⟩
theorem cell_ok {k : Kx} {E : XK} {X : Cx} (g : Good cl C CX kk k E X) {s : Str} {py pos : Pos} {elt : Expr} {gs : List Comprehension} {scope : Scope} {l : Nat} (h : cellB k s = true) : swapsWith (.ListComp elt gs scope pos) (some (.Name s py)) l X.env = pure false := by
  have hc : X.env.kindOf s = some .cell := by
    show X.env.scope.names.lookup s = _
    rw [g.sc]
    unfold cellB at h
    split at h
    · assumption
    · cases h
  unfold swapsWith
  simp only [hc]
  have : ((some NameKind.cell : Option NameKind) == some .local) = false := rfl
  simp only [this, Bool.and_false, Bool.false_and]
theorem noComp_sole {a t : Expr} {l : Nat} {env : Env} (h : noComp a = true) : swapsWithSole [t] a l env = pure false := noComp_ok h
theorem cell_sole {k : Kx} {E : XK} {X : Cx} (g : Good cl C CX kk k E X) {s : Str} {py pos : Pos} {elt : Expr} {gs : List Comprehension} {scope : Scope} {l : Nat} (h : cellB k s = true) : swapsWithSole [.Name s py] (.ListComp elt gs scope pos) l X.env = pure false := cell_ok (l := l) g h
theorem assign_sub {o i : Expr} {pos : Pos} {env : Env} (h : noSlice i = true) (v : Value) : assign (.Subscript o i pos) env v = (do
      let ov ← holding [v] (eval o env)
      let iv ← holding [v, ov] (eval i env)
      standAt pos
      holding [v, ov, iv] (setItem ov iv v)
      release [v, ov, iv] []) := by
  cases i <;> first | rfl | cases h
structure SndS (cl : Str → Addr) (C : Orc) (CX : CXT) (kk : Nat) (n : Nat) : Prop where
  s : ∀ {k : Kx} {E : XK} {X : Cx} {st : Stmt} {x : Sm}, Good cl C CX kk k E X → PassesOwn (model X.prog X.w) X.A X.env X.xe → chkS n k st x = true → PXS X cl C E st x
  ss : ∀ {k : Kx} {E : XK} {X : Cx} {st : List Stmt} {x : List Sm}, Good cl C CX kk k E X → PassesOwn (model X.prog X.w) X.A X.env X.xe → chkSs n k st x = true → PXSs X cl C E st x
theorem snd_st (n : Nat) (ih : SndS cl C CX kk n) {k : Kx} {E : XK} {X : Cx} {st : Stmt} {x : Sm} (g : Good cl C CX kk k E X) (po : PassesOwn (model X.prog X.w) X.A X.env X.xe) (h : chkS (n + 1) k st x = true) : PXS X cl C E st x := by
  have sn : Snd cl C CX kk n := snd n
  unfold chkS at h
  split at h
  · exact s_never
  · exact s_ret (sn.e g h)
  · exact s_retN
  · exact s_pass
  · obtain ⟨h0, h⟩ := b2 h
    rcases (Bool.or_eq_true _ _).mp h with h | h
    · obtain ⟨h, h8⟩ := b2 h
      obtain ⟨h, h7⟩ := b2 h
      obtain ⟨h, h6⟩ := b2 h
      obtain ⟨h, h5⟩ := b2 h
      obtain ⟨h, h4⟩ := b2 h
      obtain ⟨h, h3⟩ := b2 h
      obtain ⟨h1, h2⟩ := b2 h
      have ok := blkOk_by h2
      rw [← g.hN, ← g.sc] at ok
      obtain ⟨hl, hsw⟩ := swap_ok g h1
      exact s_setLc (own := ownOf k _) g.calm g.nd (slot_ok g h0) hl hsw (sn.i g h5) ok (ownOf_snd k _) (tgIn_ok h3) (fun s H A cs fp => tg_ok (g.blk _ s H A cs fp) h6) (fun s H A cs fp => sn.f (g.blk _ s H A cs fp) h7) (fun s H A cs fp => sn.e (g.blk _ s H A cs fp) h8) (noSet_ok h4)
    · obtain ⟨h, h3⟩ := b2 h
      obtain ⟨h1, h2⟩ := b2 h
      obtain ⟨l1, l2⟩ := loc_ok g h2
      exact s_asg (sn.e g h3) (gt_nm g.nd (slot_ok g h0) l1 l2) (cell_sole g h1) stores_name rfl
  · obtain ⟨h, h4⟩ := b2 h
    obtain ⟨h, h3⟩ := b2 h
    obtain ⟨h1, h2⟩ := b2 h
    obtain ⟨l1, l2⟩ := loc_ok g h2
    exact s_asg (sn.e g h4) (gt_nm g.nd (slot_ok g h3) l1 l2) (noComp_sole h1) stores_name rfl
  · obtain ⟨h, h4⟩ := b2 h
    obtain ⟨h, h3⟩ := b2 h
    obtain ⟨h1, h2⟩ := b2 h
    obtain ⟨l1, l2⟩ := loc_ok g h2
    exact s_new (sn.e g h4) g.nd (slot_ok g h3) l1 l2 (noComp_sole h1) stores_name
  · obtain ⟨h, h4⟩ := b2 h
    obtain ⟨h, h3⟩ := b2 h
    obtain ⟨h1, h2⟩ := b2 h
    exact s_asg (sn.e g h4) (tg_ok g h3) (noComp_sole h1) (stores_ok h2) rfl
  · obtain ⟨h, h4⟩ := b2 h
    obtain ⟨h, h3⟩ := b2 h
    obtain ⟨h1, h2⟩ := b2 h
    obtain ⟨h1, h5⟩ := b2 h1
    exact x_six (sn.e g h2) (sn.e g h3) (sn.e g h4) (pg_sub (sn.e g h3) (sn.e g h4) set_list (assign_sub h5)) (noComp_sole h1) stores_sub
  · obtain ⟨h1, h2⟩ := b2 h
    exact s_exp (sn.e g h2) (noComp_ok h1)
  · obtain ⟨h, h3⟩ := b2 h
    obtain ⟨h1, h2⟩ := b2 h
    exact s_ite (sn.t g h1) (ih.ss g po h2) (ih.ss g po h3)
  · obtain ⟨h, h4⟩ := b2 h
    obtain ⟨h, h3⟩ := b2 h
    obtain ⟨h1, h2⟩ := b2 h
    exact s_for po g.calm (sn.i g h2) (tg_ok g h3) (ih.ss g po h4) (noSet_ok h1)
  · cases h
theorem snd_sts (n : Nat) (ih : SndS cl C CX kk n) {k : Kx} {E : XK} {X : Cx} {st : List Stmt} {x : List Sm} (g : Good cl C CX kk k E X) (po : PassesOwn (model X.prog X.w) X.A X.env X.xe) (h : chkSs (n + 1) k st x = true) : PXSs X cl C E st x := by
  unfold chkSs at h
  split at h
  · exact s_nil
  · obtain ⟨h1, h2⟩ := b2 h
    exact s_cons (ih.s g po h1) (ih.ss g po h2)
  · cases h
theorem sndS : ∀ n : Nat, SndS cl C CX kk n
  | 0 => ⟨fun _ _ h => by simp [chkS] at h, fun _ _ h => by simp [chkSs] at h⟩
  | n + 1 => ⟨snd_st n (sndS n), snd_sts n (sndS n)⟩
end

/-! ### defs -/
/-- what is known of the module -/
structure Facts (P : Program) (w : World) (K : PySem.W.Frag) (mg : Str → Option Value) (base : Heap) (cl : Str → Addr) (C : Orc) (kk : Nat) (T : Str → Option GK) : Prop where
  glob : ∀ s d, T s = some (.cst d) → ∃ u v, mg s = some u ∧ RelV v u ∧ ∀ F, Rp K F v d
  blt : ∀ s, T s = some .blt → mg s = none
  fn : ∀ f n, T f = some (.fn n) → ∃ fa fd ps, ps.length = n ∧ mg f = some (.ref fa) ∧ PySem.W.keepIn K (.ref fa) = true ∧ Binds K fd ps [] ∧ FnOk P w K mg base (CX P w) kk fa fd ps (spOf K cl n (C f))
  kd : ∀ s kvs, T s = some (.kd kvs) → ∃ a, mg s = some (.ref a) ∧ KdIs K w a kvs
theorem Post.bind0 {K : PySem.W.Frag} {cl : Str → Addr} {E : XK} {F : Hp} {L : Lv} {α β : Type} {ρ : β → Hp → Lv → Hp → Sto → Prop} {f : α → Sto → Res β} : ∀ {r : Res α}, Post K cl E F L ρ (r.bind f) → Post K cl E F L (fun a _ _ _ S1 => Post K cl E F L ρ (f a S1)) r
  | .ok _ _, h => fun F' L' H' e s => h
  | .exc _ _ _, h => h
  | .stuck, h => h
theorem startE_ok {K : PySem.W.Frag} {F : Hp} {L : Lv} {N : List Str} {vs : List V} {ws : List W} (r : RepWs K F L vs ws) : SimE K F L (L2.start N vs) (startE N.length ws) := by
  have hl := r.length
  refine ⟨by simp [L2.start, startE, hl], fun i w h => ?_⟩
  unfold startE at h
  by_cases hi : i < ws.length
  · rw [List.getElem?_append_left (by simpa using hi), List.getElem?_map] at h
    obtain ⟨w', hw, e⟩ := Option.map_eq_some_iff.mp h
    cases e
    have get : ∀ {vs : List V} {ws : List W} {i : Nat} {w : W}, RepWs K F L vs ws → ws[i]? = some w → ∃ v, vs[i]? = some v ∧ RepW K F L v w := by
      intro vs ws i w r
      induction r generalizing i with
      | nil => intro h; simp at h
      | cons h _ ih =>
        intro hw
        cases i with
        | zero => simp at hw; subst hw; exact ⟨_, rfl, h⟩
        | succ i => exact ih (by simpa using hw)
    obtain ⟨v, h1, h2⟩ := get r hw
    refine ⟨v, ?_, h2⟩
    unfold L2.start
    rw [List.getElem?_append_left (by rw [List.length_map, hl]; exact hi), List.getElem?_map, h1]
    rfl
  · rw [List.getElem?_append_right (by simpa using hi)] at h
    rw [List.getElem?_replicate] at h
    split at h
    · cases h
    · cases h
theorem def_ok {P : Program} {w : World} {K : PySem.W.Frag} {mg : Str → Option Value} {base : Heap} {cl : Str → Addr} {C : Orc} {kk n : Nat} {T : Str → Option GK} {x qual : Str} {params : Arguments} {body : List Stmt} {scope : Scope} {dvs : List V} {kws : List (Str × V)} {f : Addr} {fd : FuncData} {N ps : List Str} {sms : List Sm}
    (fa : Facts P w K mg base cl C kk T) (F : FunD K x qual params body scope dvs kws f fd) (S : FnScope N ps scope) (h : chkSs n ⟨T, N, scope, none⟩ body sms = true) : FnOk P w K mg base (CX P w) (kk + 1) f fd ps (spOf K cl ps.length (runDef C N.length sms)) := by
  refine F.ok S (fun vs H Q E q => q.1) fun cdv A outer s H vs Q E hr ⟨hl, F', L, S', ws, sm, rw_, p⟩ => ?_
  refine ⟨tSs K cl C E sms, (sndS (cl := cl) (C := C) (CX := CX P w) (kk := kk) n).ss (k := ⟨T, N, scope, none⟩) (E := E) ?_ (passes_of rfl) h, ?_⟩
  · exact { hN := rfl, nd := S.nd, sc := rfl, calm := rfl, room := hr, asn := fun _ _ => rfl, glob := fa.glob, blt := fa.blt, fn := fa.fn, kd := fa.kd,
            pass := passes_call (takes_of rfl rfl rfl rfl) (fun _ _ _ _ z => z),
            nox := fun st H s e s' ⟨_, _, _, _, _, _, _, _, _, _, _, _, z⟩ => z }
  · refine ⟨F', L, startE N.length ws, S', sm, startE_ok rw_, ?_⟩
    unfold runDef at p
    refine p.bind0.imp fun fl F1 L1 H1 S1 x1 s1 p1 => ?_
    cases fl with
    | next e => exact fun σ _ => p1 F1 L1 H1 x1 s1 .non .non
    | ret r =>
      intro v rv
      cases r with
      | n xs => exact p1 F1 L1 H1 x1 s1 v rv
      | nk kvs => exact p1 F1 L1 H1 x1 s1 v rv
      | w x =>
        cases x with
        | d y => exact p1 F1 L1 H1 x1 s1 v rv
        | s ns => exact p1 F1 L1 H1 x1 s1 v rv
        | k kvs => exact p1 F1 L1 H1 x1 s1 v rv
        | o m =>
          simp only [leave] at p1
          split at p1
          · rename_i hm
            obtain ⟨a, ha, rfl⟩ := rv
            have ext : Ext F' L F1 (L1.drop m) := ⟨x1.f, fun i y q => by
              have hi : i < S'.length := by rw [← sm.len]; exact (List.getElem?_eq_some_iff.mp q).1
              show (L1.l.set m none)[i]? = some y
              rw [List.getElem?_set_ne (by omega)]
              exact x1.l i y q, x1.p⟩
            split at p1
            · rename_i xs hx
              split at p1
              · rename_i hr
                obtain ⟨b, zs, eb, hb, ra⟩ := s1.objs m _ _ ha hx
                cases eb
                obtain ⟨s2, fr⟩ := s1.out ha hr
                exact p1 F1 (L1.drop m) H1 ext s2 _ ⟨a, zs, rfl, hb, fr, ra⟩
              · exact p1.elim
            · rename_i xs hx
              split at p1
              · rename_i hr
                obtain ⟨b, zs, eb, hb, ra⟩ := s1.objs m _ _ ha hx
                cases eb
                obtain ⟨s2, fr⟩ := s1.out ha hr
                exact p1 F1 (L1.drop m) H1 ext s2 _ ⟨a, zs, rfl, hb, fr, ra⟩
              · exact p1.elim
            · exact p1.elim
          · exact p1 F1 L1 H1 x1 s1 v rv
end Sc
namespace Sc
open PySem PySem.Spec PyProof.Rows L2

/-! ### levels: how deep calls may go -/
abbrev Tab := Str → Option (Nat × List Sm)
def Cn (tab : Tab) : Nat → Orc
  | 0 => fun _ _ _ => .stuck
  | k + 1 => fun f ws S => match tab f with
    | some (n, b) => runDef (Cn tab k) n b ws S
    | none => .stuck
theorem Cn_eq {tab : Tab} {k n : Nat} {f : Str} {b : List Sm} {ws : List W} {S : Sto} (h : tab f = some (n, b)) : Cn tab (k + 1) f ws S = runDef (Cn tab k) n b ws S := by
  show (match tab f with
    | some (n, b) => runDef (Cn tab k) n b ws S
    | none => .stuck) = _
  rw [h]
/-- a def of the module, its form in the machine -/
def DOk (K : PySem.W.Frag) (mg : Str → Option Value) (T : Str → Option GK) (tab : Tab) (f : Str) (n : Nat) : Prop :=
  ∃ (params : Arguments) (body : List Stmt) (scope : Scope) (fa : Addr) (fd : FuncData) (ps N : List Str) (sms : List Sm) (m : Nat), FunD K f f params body scope [] [] fa fd ∧ FnScope N ps scope ∧ ps.length = n ∧ tab f = some (N.length, sms) ∧
    chkSs m ⟨T, N, scope, none⟩ body sms = true ∧ mg f = some (.ref fa) ∧ Binds K fd ps []
theorem spOf_stuck {P : Program} {w : World} {K : PySem.W.Frag} {mg : Str → Option Value} {base : Heap} {CX : CXT} {cl : Str → Addr} {n k : Nat} {f : Addr} {fd : FuncData} {ps : List Str} : FnOk P w K mg base CX k f fd ps (spOf K cl n fun _ _ => .stuck) := by
  have no : ∀ vs H Q E, spOf K cl n (fun _ _ => .stuck) vs H Q E → False := fun vs H Q E ⟨_, _, _, _, _, _, _, p⟩ => p
  exact ⟨fun vs H Q E h => (no vs H Q E h).elim, fun A outer s H args us vs Q E hr e0 hb r h => (no _ _ _ _ h).elim⟩
/-- what the module holds, without its defs' promises -/
structure Base (w : World) (K : PySem.W.Frag) (mg : Str → Option Value) (T : Str → Option GK) : Prop where
  glob : ∀ s d, T s = some (.cst d) → ∃ u v, mg s = some u ∧ RelV v u ∧ ∀ F, Rp K F v d
  blt : ∀ s, T s = some .blt → mg s = none
  kd : ∀ s kvs, T s = some (.kd kvs) → ∃ a, mg s = some (.ref a) ∧ KdIs K w a kvs
theorem mach {P : Program} {w : World} {K : PySem.W.Frag} {mg : Str → Option Value} {base : Heap} {cl : Str → Addr} {T : Str → Option GK} {tab : Tab} (b : Base w K mg T) (fn : ∀ f n, T f = some (.fn n) → DOk K mg T tab f n) :
    ∀ k, Facts P w K mg base cl (Cn tab k) k T
  | 0 => ⟨b.glob, b.blt, fun f n h => by
      obtain ⟨params, body, scope, fa, fd, ps, N, sms, m, F, S, hp, ht, hc, hm, hb⟩ := fn f n h
      exact ⟨fa, fd, ps, hp, hm, F.kp, hb, spOf_stuck⟩, b.kd⟩
  | k + 1 => ⟨b.glob, b.blt, fun f n h => by
      obtain ⟨params, body, scope, fa, fd, ps, N, sms, m, F, S, hp, ht, hc, hm, hb⟩ := fn f n h
      refine ⟨fa, fd, ps, hp, hm, F.kp, hb, ?_⟩
      have e : Cn tab (k + 1) f = runDef (Cn tab k) N.length sms := by
        funext ws S
        exact Cn_eq ht
      rw [e, ← hp]
      exact def_ok (mach b fn k) F S hc, b.kd⟩

/-! ### the module's constants, looked at -/
mutual
def rdB (K : PySem.W.Frag) : Value → D → Bool
  | u, .none => decide (u = .none)
  | u, .bool b => decide (u = .bool b)
  | u, .int i => (match u with
    | .int j _ => decide (j = i)
    | _ => false)
  | u, .str x => (match u with
    | .str y _ => decide (y = x) && sok x
    | _ => false)
  | u, .tuple ds => (match u with
    | .ref a => (match K.lookup a with
      | some ⟨.type c, _, .seq its _, _⟩ => decide (c = "tuple") && (decide (its.size ≤ sizeLine) && rdAll K its.toList ds)
      | _ => false)
    | _ => false)
  | _, _ => false
def rdAll (K : PySem.W.Frag) : List Value → List D → Bool
  | us, [] => us.isEmpty
  | us, d :: ds => match us with
    | u :: us => rdB K u d && rdAll K us ds
    | [] => false
end
mutual
theorem rdB_ok {K : PySem.W.Frag} : ∀ {d : D} {u : Value}, rdB K u d = true → ∃ v, RelV v u ∧ ∀ F, Rp K F v d
  | .none, u, h => by
    unfold rdB at h
    have e := of_decide_eq_true h
    subst e
    exact ⟨.non, rfl, fun F => .non⟩
  | .bool b, u, h => by
    unfold rdB at h
    have e := of_decide_eq_true h
    subst e
    exact ⟨.bl b, rfl, fun F => .bl b⟩
  | .int i, u, h => by
    unfold rdB at h
    split at h
    · rename_i j t
      have e := of_decide_eq_true h
      subst e
      exact ⟨.int j, ⟨t, rfl⟩, fun F => .int j⟩
    · cases h
  | .str x, u, h => by
    unfold rdB at h
    split at h
    · rename_i y t
      obtain ⟨h1, h2⟩ := b2 h
      have e := of_decide_eq_true h1
      subst e
      exact ⟨.str y, ⟨t, rfl⟩, fun F => .str y h2⟩
    · cases h
  | .tuple ds, u, h => by
    unfold rdB at h
    split at h
    · rename_i a
      split at h
      · rename_i c od its n osl q
        obtain ⟨h1, h2⟩ := b2 h
        obtain ⟨h3, h4⟩ := b2 h2
        obtain ⟨vs, r1, r2⟩ := rdAll_ok h4
        exact ⟨.ref a, rfl, fun F => .tup (.inr ⟨_, its, n, q, congrArg Value.type (of_decide_eq_true h1), rfl, of_decide_eq_true h3, r1⟩) (r2 F)⟩
      · cases h
    · cases h
  | .list _, u, h => by simp [rdB] at h
  | .dict _, u, h => by simp [rdB] at h
theorem rdAll_ok {K : PySem.W.Frag} : ∀ {ds : List D} {us : List Value}, rdAll K us ds = true → ∃ vs, Vals vs us ∧ ∀ F, RpAll K F vs ds
  | [], us, h => by
    unfold rdAll at h
    cases us with
    | nil => exact ⟨[], .nil, fun F => .nil⟩
    | cons u us => cases h
  | d :: ds, us, h => by
    unfold rdAll at h
    cases us with
    | nil => cases h
    | cons u us =>
      obtain ⟨h1, h2⟩ := b2 h
      obtain ⟨v, r1, r2⟩ := rdB_ok h1
      obtain ⟨vs, r3, r4⟩ := rdAll_ok h2
      exact ⟨v :: vs, .cons r1 r3, fun F => .cons (r2 F) (r4 F)⟩
end
def kdB (K : PySem.W.Frag) (a : Addr) (kvs : List (Str × Option D)) : Bool := kvs.all fun q => match q.2 with
  | some d => (match PySem.W.nsIn K a q.1 with
    | some (some u) => rdB K u d
    | _ => false)
  | none => He.eqO (PySem.W.nsIn K a q.1) (some none)
def gkB (K : PySem.W.Frag) (q : Str × GK) : Bool := match q.2 with
  | .cst d => (match PySem.W.nsIn K mainGlobals q.1 with
    | some (some u) => rdB K u d
    | _ => false)
  | .blt => He.eqO (PySem.W.nsIn K mainGlobals q.1) (some none)
  | .fn _ => He.eqO (PySem.W.nsIn K mainGlobals q.1) (some (some (.ref (He.ga K q.1))))
  | .kd kvs => He.eqO (PySem.W.nsIn K mainGlobals q.1) (some (some (.ref (He.ga K q.1)))) && kdB K (He.ga K q.1) kvs
theorem look_mem {α : Type} {x : Str} {y : α} : ∀ {l : List (Str × α)}, l.lookup x = some y → (x, y) ∈ l
  | [], h => by cases h
  | (a, b) :: r, h => by
    rw [List.lookup_cons] at h
    split at h
    · rename_i e
      cases h
      rw [eq_of_beq e]
      exact List.mem_cons_self
    · exact List.mem_cons_of_mem _ (look_mem h)
theorem kdB_ok {K : PySem.W.Frag} {w : World} {a : Addr} {kvs : List (Str × Option D)} (hd : ∃ es n, KDict K w a es n) (h : kdB K a kvs = true) : KdIs K w a kvs := by
  refine ⟨hd, fun x o hx => ?_⟩
  have h2 := List.all_eq_true.mp h (x, o) (look_mem hx)
  cases o with
  | none => exact He.eqO_ok h2
  | some d =>
    simp only at h2 ⊢
    split at h2
    · rename_i u hu
      obtain ⟨v, r1, r2⟩ := rdB_ok h2
      exact ⟨u, v, hu, r1, r2⟩
    · cases h2
def TL (tl : List (Str × GK)) : Str → Option GK := fun s => tl.lookup s
theorem base_ok {w : World} {K : PySem.W.Frag} {h : Heap} {mg : Str → Option Value} (X : K.In h) (G : h.Ns mainGlobals mg) {tl : List (Str × GK)} (hk : ∀ s kvs, (s, GK.kd kvs) ∈ tl → ∃ es n, KDict K w (He.ga K s) es n) (c : tl.all (gkB K) = true) : Base w K mg (TL tl) := by
  refine ⟨fun s d hs => ?_, fun s hs => ?_, fun s kvs hs => ?_⟩
  · have h2 := List.all_eq_true.mp c _ (look_mem hs)
    simp only [gkB] at h2
    split at h2
    · rename_i u hu
      obtain ⟨v, r1, r2⟩ := rdB_ok h2
      exact ⟨u, v, PySem.W.mg_of X G hu, r1, r2⟩
    · cases h2
  · have h2 := List.all_eq_true.mp c _ (look_mem hs)
    exact PySem.W.mg_none_of X G (He.eqO_ok h2)
  · have h2 := List.all_eq_true.mp c _ (look_mem hs)
    simp only [gkB] at h2
    obtain ⟨h3, h4⟩ := b2 h2
    exact ⟨_, PySem.W.mg_of X G (He.eqO_ok h3), kdB_ok (hk s kvs (look_mem hs)) h4⟩
theorem glob_fn {K : PySem.W.Frag} {h : Heap} {mg : Str → Option Value} (X : K.In h) (G : h.Ns mainGlobals mg) {tl : List (Str × GK)} (c : tl.all (gkB K) = true) {f : Str} {n : Nat} (hf : tl.lookup f = some (.fn n)) : mg f = some (.ref (He.ga K f)) := by
  have h2 := List.all_eq_true.mp c _ (look_mem hf)
  exact PySem.W.mg_of X G (He.eqO_ok h2)

/-! ### the law -/
theorem law_nox {P : Program} {w : World} {K : PySem.W.Frag} {mg : Str → Option Value} {base : Heap} {k : Nat} {f : Addr} {fd : FuncData} {ps : List Str} {sp : Sp} (F : FnOk P w K mg base (CX P w) k f fd ps sp) : FnOk P w K mg base CX0 k f fd ps (fun vs H Q _ => sp vs H Q fun _ _ _ => False) :=
  ⟨fun vs H Q E h => F.len _ _ _ _ h, fun A outer s H args us vs Q E hr e0 hb hv hs => codeAny_mono (F.run A outer s H args us vs Q (fun _ _ _ => False) hr e0 hb hv hs) fun r s' hq => by
    cases r with
    | error e =>
      obtain ⟨_, _, _, _, _, _, _, _, _, _, _, _, z⟩ := hq
      exact z
    | ok fl => cases fl <;> exact hq⟩
theorem law_sp {K : PySem.W.Frag} {cl : Str → Addr} {run : List W → Sto → Res R} {H : Hp} {a : Addr} {ns : List Int} (hS : SqL K H a (ns.map V.int)) {S : Sto} (h : run [.s ns] [] = .ok (kb true) S) : spOf K cl 1 run [.ref a] H (fun v _ => v = .bl true) fun _ _ _ => False := by
  refine ⟨rfl, H, ⟨[], fun _ => none⟩, [], [.s ns], ?_, .cons ⟨a, rfl, hS⟩ .nil, ?_⟩
  · exact ⟨Sub.refl H, fun b o e => (by cases e), fun i j x h1 => (by cases h1), fun i x h1 => (by cases h1), rfl, fun n oa mo h1 => (by cases h1)⟩
  · rw [h]
    intro F' L' H' x s v rv
    cases rv
    rfl
end Sc
namespace Sc
open PySem PySem.Spec PyProof.Rows L2

def g_KINDS : D := (.tuple [(.str "name"), (.str "noun"), (.str "of"), (.str "does"), (.str "to"), (.str "such")])
def kd_PLACES : List (Str × Option D) := [("noun", some (.int 1)), ("of", some (.int 2)), ("does", some (.int 1)), ("to", some (.int 2)), ("such", some (.int 1)), ("name", none)]
def g_OWN : D := (.tuple [(.str "every"), (.str "some"), (.str "no"), (.str "that"), (.str "of"), (.str "not"), (.str "and"), (.str "or"), (.str "if"), (.str "then"), (.str "it"), (.str "is")])
def g_SMALL : D := (.str "abcdefghijklmnopqrstuvwxyz")
def g_MOST_WORDS : D := (.int 20)
def g_MOST_LETTERS : D := (.int 10)
def g_OF_TWO : D := (.tuple [(.str "and"), (.str "or"), (.str "if")])
def g_OF_ANY : D := (.tuple [(.str "all"), (.str "some")])
def g_MOST_THING : D := (.int 99)
def g_MOST_DEEP : D := (.int 300)
def g_MOST_PREMISES : D := (.int 8)
def g_MOST_THINGS : D := (.int 3)
def g_MOST_WORLDS : D := (.int 5000)
def g_MOST_STEPS : D := (.int 1000)
def g_ALLS : D := (.tuple [(.str "every"), (.str "some"), (.str "no")])
def g_JOINS : D := (.tuple [(.str "and"), (.str "or"), (.str "if")])
def g_TURNS : D := (.tuple [(.str "every"), (.str "some"), (.str "no"), (.str "not")])
def g_MOST_TOKENS : D := (.int 16)
def g_MOST_SIZE : D := (.int 40)
def g_MOST_TURNS : D := (.int 5)
def g_MOST_SAID : D := (.int 6)
def g_MOST_TOLD : D := (.int 2000)
def kd_DENIED : List (Str × Option D) := [("and", some (.str "or")), ("or", some (.str "and")), ("all", some (.str "some")), ("some", some (.str "all"))]
def g_FIGURES : D := (.str "0123456789")
def g_MOST_TEXT : D := (.int 5000)
def g_MOST_SIZE_papers : D := (.int 400)
def g_MOST_SIZE_trees : D := (.int 40)
def g_MOST_SAID_talks : D := (.int 8)
def g_MOST_SAID_sayable : D := (.int 6)
def N_is_within : List Str := ["thing", "low", "high"]
def b_is_within : List Sm := [
  .ret (.and (.isi (.loc 0) .int) (.and (.not (.isi (.loc 0) .bool)) (.chn .le .le (.loc 1) (.loc 0) (.loc 2))))]
def N_is_word : List Str := ["thing", "sign"]
def b_is_word : List Sm := [
  .ite (.or (.not (.isi (.loc 0) .str)) (.or (.not (.chn .le .le (.dat (.int 1)) (.blt .len [(.loc 0)]) (.dat g_MOST_LETTERS))) (.cmp .isin (.loc 0) (.dat g_OWN)))) [.ret (.dat (.bool false))] [],
  .ret (.not (.comp (.loc 1) (.nm 1) (.sq (.loc 0)) [(.cmp .nin (.loc 1) (.dat g_SMALL))] [1]))]
def N_is_book : List Str := ["thing", "row"]
def b_is_book : List Sm := [
  .ite (.or (.not (.isi (.loc 0) .tup)) (.cmp .gt (.blt .len [(.loc 0)]) (.dat g_MOST_WORDS))) [.ret (.dat (.bool false))] [],
  .for_ (.nm 1) (.sq (.loc 0)) [.ite (.or (.not (.isi (.loc 1) .tup)) (.or (.cmp .ne (.blt .len [(.loc 1)]) (.dat (.int 2))) (.not (.call "is_word" [] [(.idx (.loc 1) (.dat (.int 0)))])))) [.ret (.dat (.bool false))] [], .ite (.or (.not (.isi (.idx (.loc 1) (.dat (.int 1))) .str)) (.cmp .nin (.idx (.loc 1) (.dat (.int 1))) (.dat g_KINDS))) [.ret (.dat (.bool false))] []],
  .ret (.cmp .eq (.lsc (.idx (.loc 1) (.dat (.int 0))) (.nm 1) (.sq (.loc 0)) [] [1]) (.blt .len [(.loc 0)]))]
def N_look : List Str := ["book"]
def b_look : List Sm := [
  .ite (.not (.call "is_book" [] [(.loc 0)])) [.never] []]
def N_is_of : List Str := ["book", "thing", "kind"]
def b_is_of : List Sm := [
  .ret (.and (.isi (.loc 1) .str) (.cmp .isin (.tup [(.loc 1), (.loc 2)]) (.loc 0)))]
def N_places_of : List Str := ["book", "word", "found", "one", "kind"]
def b_places_of : List Sm := [
  .asg (.nm 2) (.comp (.prm (.kget kd_PLACES) [(.loc 4), (.dat (.int 0))]) (.tp [3, 4]) (.sq (.loc 0)) [(.cmp .eq (.loc 3) (.loc 1))] [3, 4]),
  .ret (.ite (.loc 2) (.idx (.loc 2) (.dat (.int 0))) (.dat .none))]
def N_is_thing : List Str := ["book", "thing"]
def b_is_thing : List Sm := [
  .ite (.isi (.loc 1) .str) [.ret (.cmp .isin (.tup [(.loc 1), (.dat (.str "name"))]) (.loc 0))] [],
  .ite (.isi (.loc 1) .tup) [.ret (.and (.cmp .eq (.blt .len [(.loc 1)]) (.dat (.int 2))) (.and (.cmp .eq (.slT (.loc 1) (.dat (.int 1))) (.tup [(.dat (.str "it"))])) (.call "is_within" [] [(.idx (.loc 1) (.dat (.int 1))), (.dat (.int 0)), (.dat g_MOST_THING)])))] [],
  .ret (.call "is_within" [] [(.loc 1), (.dat (.int 0)), (.dat g_MOST_THING)])]
def N_is_fact : List Str := ["book", "thing", "one"]
def b_is_fact : List Sm := [
  .ite (.or (.cmp .ne (.blt .len [(.loc 1)]) (.dat (.int 3))) (.or (.not (.isi (.idx (.loc 1) (.dat (.int 1))) .str)) (.not (.isi (.idx (.loc 1) (.dat (.int 2))) .tup)))) [.ret (.dat (.bool false))] [],
  .ite (.or (.not (.idx (.loc 1) (.dat (.int 2)))) (.cmp .ne (.call "places_of" [] [(.loc 0), (.idx (.loc 1) (.dat (.int 1)))]) (.blt .len [(.idx (.loc 1) (.dat (.int 2)))]))) [.ret (.dat (.bool false))] [],
  .ret (.not (.comp (.loc 2) (.nm 2) (.sq (.idx (.loc 1) (.dat (.int 2)))) [(.not (.call "is_thing" [] [(.loc 0), (.loc 2)]))] [2]))]
def N_is_formed : List Str := ["book", "thing", "deep"]
def b_is_formed : List Sm := [
  .ite (.or (.cmp .eq (.loc 2) (.dat (.int 0))) (.or (.not (.isi (.loc 1) .tup)) (.or (.not (.loc 1)) (.not (.isi (.idx (.loc 1) (.dat (.int 0))) .str))))) [.ret (.dat (.bool false))] [],
  .ite (.cmp .eq (.idx (.loc 1) (.dat (.int 0))) (.dat (.str "fact"))) [.ret (.call "is_fact" [] [(.loc 0), (.loc 1)])] [],
  .ite (.cmp .eq (.idx (.loc 1) (.dat (.int 0))) (.dat (.str "not"))) [.ret (.and (.cmp .eq (.blt .len [(.loc 1)]) (.dat (.int 2))) (.call "is_formed" [] [(.loc 0), (.idx (.loc 1) (.dat (.int 1))), (.bin .sub (.loc 2) (.dat (.int 1)))]))] [],
  .ite (.cmp .isin (.idx (.loc 1) (.dat (.int 0))) (.dat g_OF_TWO)) [.ret (.and (.cmp .eq (.blt .len [(.loc 1)]) (.dat (.int 3))) (.and (.call "is_formed" [] [(.loc 0), (.idx (.loc 1) (.dat (.int 1))), (.bin .sub (.loc 2) (.dat (.int 1)))]) (.call "is_formed" [] [(.loc 0), (.idx (.loc 1) (.dat (.int 2))), (.bin .sub (.loc 2) (.dat (.int 1)))])))] [],
  .ite (.or (.cmp .nin (.idx (.loc 1) (.dat (.int 0))) (.dat g_OF_ANY)) (.or (.cmp .ne (.blt .len [(.loc 1)]) (.dat (.int 3))) (.not (.call "is_within" [] [(.idx (.loc 1) (.dat (.int 1))), (.dat (.int 0)), (.dat g_MOST_THING)])))) [.ret (.dat (.bool false))] [],
  .ret (.call "is_formed" [] [(.loc 0), (.idx (.loc 1) (.dat (.int 2))), (.bin .sub (.loc 2) (.dat (.int 1)))])]
def N_brought : List Str := ["formula"]
def b_brought : List Sm := [
  .ite (.cmp .eq (.idx (.loc 0) (.dat (.int 0))) (.dat (.str "fact"))) [.ret (.lst [])] [],
  .ite (.cmp .eq (.idx (.loc 0) (.dat (.int 0))) (.dat (.str "not"))) [.ret (.call "brought" [] [(.idx (.loc 0) (.dat (.int 1)))])] [],
  .ite (.cmp .isin (.idx (.loc 0) (.dat (.int 0))) (.dat g_OF_ANY)) [.ret (.bin .add (.lst [(.idx (.loc 0) (.dat (.int 1)))]) (.call "brought" [] [(.idx (.loc 0) (.dat (.int 2)))]))] [],
  .ret (.bin .add (.call "brought" [] [(.idx (.loc 0) (.dat (.int 1)))]) (.call "brought" [] [(.idx (.loc 0) (.dat (.int 2)))]))]
def N_is_formula_of : List Str := ["book", "thing", "some"]
def b_is_formula_of : List Sm := [
  .ite (.not (.call "is_formed" [] [(.loc 0), (.loc 1), (.dat g_MOST_DEEP)])) [.ret (.dat (.bool false))] [],
  .asg (.nm 2) (.call "brought" [] [(.loc 1)]),
  .ret (.cmp .eq (.prm .lset [(.loc 2)]) (.blt .len [(.loc 2)]))]
def N_look_formula : List Str := ["book", "formula"]
def b_look_formula : List Sm := [
  .exp (.call "look" [] [(.loc 0)]),
  .ite (.not (.call "is_formula_of" [] [(.loc 0), (.loc 1)])) [.never] []]
def N_things_of : List Str := ["formula"]
def b_things_of : List Sm := [
  .ite (.cmp .eq (.idx (.loc 0) (.dat (.int 0))) (.dat (.str "fact"))) [.ret (.blt .list [(.idx (.loc 0) (.dat (.int 2)))])] [],
  .ite (.cmp .eq (.idx (.loc 0) (.dat (.int 0))) (.dat (.str "not"))) [.ret (.call "things_of" [] [(.idx (.loc 0) (.dat (.int 1)))])] [],
  .ite (.cmp .isin (.idx (.loc 0) (.dat (.int 0))) (.dat g_OF_ANY)) [.ret (.call "things_of" [] [(.idx (.loc 0) (.dat (.int 2)))])] [],
  .ret (.bin .add (.call "things_of" [] [(.idx (.loc 0) (.dat (.int 1)))]) (.call "things_of" [] [(.idx (.loc 0) (.dat (.int 2)))]))]
def N_is_plain : List Str := ["formula"]
def b_is_plain : List Sm := [
  .ret (.and (.not (.call "its_of" [] [(.loc 0)])) (.not (.call "loose_of" [] [(.loc 0)])))]
def N_look_plain : List Str := ["book", "formula"]
def b_look_plain : List Sm := [
  .exp (.call "look_formula" [] [(.loc 0), (.loc 1)]),
  .ite (.not (.call "is_plain" [] [(.loc 1)])) [.never] []]
def N_look_premises : List Str := ["book", "premises", "one"]
def b_look_premises : List Sm := [
  .exp (.call "look" [] [(.loc 0)]),
  .ite (.or (.not (.isi (.loc 1) .lst)) (.cmp .gt (.blt .len [(.loc 1)]) (.dat g_MOST_PREMISES))) [.never] [],
  .ite (.comp (.loc 2) (.nm 2) (.sq (.loc 1)) [(.or (.not (.call "is_formula_of" [] [(.loc 0), (.loc 2)])) (.not (.call "is_plain" [] [(.loc 2)])))] [2]) [.never] []]
def N_parts_of : List Str := ["formula", "inner"]
def b_parts_of : List Sm := [
  .ite (.cmp .eq (.idx (.loc 0) (.dat (.int 0))) (.dat (.str "and"))) [.ret (.lst [(.idx (.loc 0) (.dat (.int 1))), (.idx (.loc 0) (.dat (.int 2)))])] [],
  .ite (.cmp .ne (.idx (.loc 0) (.dat (.int 0))) (.dat (.str "not"))) [.ret (.dat .none)] [],
  .asg (.nm 1) (.idx (.loc 0) (.dat (.int 1))),
  .ite (.cmp .eq (.idx (.loc 1) (.dat (.int 0))) (.dat (.str "not"))) [.ret (.lst [(.idx (.loc 1) (.dat (.int 1)))])] [],
  .ite (.cmp .eq (.idx (.loc 1) (.dat (.int 0))) (.dat (.str "or"))) [.ret (.lst [(.tup [(.dat (.str "not")), (.idx (.loc 1) (.dat (.int 1)))]), (.tup [(.dat (.str "not")), (.idx (.loc 1) (.dat (.int 2)))])])] [],
  .ret (.ite (.cmp .eq (.idx (.loc 1) (.dat (.int 0))) (.dat (.str "if"))) (.lst [(.idx (.loc 1) (.dat (.int 1))), (.tup [(.dat (.str "not")), (.idx (.loc 1) (.dat (.int 2)))])]) (.dat .none))]
def N_sides_of : List Str := ["formula"]
def b_sides_of : List Sm := [
  .ite (.cmp .eq (.idx (.loc 0) (.dat (.int 0))) (.dat (.str "or"))) [.ret (.tup [(.idx (.loc 0) (.dat (.int 1))), (.idx (.loc 0) (.dat (.int 2)))])] [],
  .ite (.cmp .eq (.idx (.loc 0) (.dat (.int 0))) (.dat (.str "if"))) [.ret (.tup [(.tup [(.dat (.str "not")), (.idx (.loc 0) (.dat (.int 1)))]), (.idx (.loc 0) (.dat (.int 2)))])] [],
  .ite (.and (.cmp .eq (.idx (.loc 0) (.dat (.int 0))) (.dat (.str "not"))) (.cmp .eq (.idx (.idx (.loc 0) (.dat (.int 1))) (.dat (.int 0))) (.dat (.str "and")))) [.ret (.tup [(.tup [(.dat (.str "not")), (.idx (.idx (.loc 0) (.dat (.int 1))) (.dat (.int 1)))]), (.tup [(.dat (.str "not")), (.idx (.idx (.loc 0) (.dat (.int 1))) (.dat (.int 2)))])])] [],
  .ret (.dat .none)]
def N_opened : List Str := ["formula"]
def b_opened : List Sm := [
  .ite (.cmp .eq (.idx (.loc 0) (.dat (.int 0))) (.dat (.str "some"))) [.ret (.bin .add (.lst [(.idx (.loc 0) (.dat (.int 1)))]) (.call "opened" [] [(.idx (.loc 0) (.dat (.int 2)))]))] [],
  .ite (.cmp .eq (.idx (.loc 0) (.dat (.int 0))) (.dat (.str "and"))) [.ret (.bin .add (.call "opened" [] [(.idx (.loc 0) (.dat (.int 1)))]) (.call "opened" [] [(.idx (.loc 0) (.dat (.int 2)))]))] [],
  .ret (.lst [(.call "flat_of" [] [(.loc 0)])])]
def N_around : List Str := ["row", "word", "join", "found", "one"]
def b_around : List Sm := [
  .for_ (.nm 4) (.rev (.loc 0)) [.ite (.isi (.loc 4) .int) [.asg (.nm 3) (.tup [(.loc 1), (.loc 4), (.loc 3)])] [.asg (.nm 3) (.ite (.isN false (.loc 3)) (.loc 4) (.tup [(.loc 2), (.loc 4), (.loc 3)]))]],
  .ret (.loc 3)]
def N_flat_of : List Str := ["formula"]
def b_flat_of : List Sm := [
  .ite (.cmp .eq (.idx (.loc 0) (.dat (.int 0))) (.dat (.str "fact"))) [.ret (.loc 0)] [],
  .ite (.cmp .eq (.idx (.loc 0) (.dat (.int 0))) (.dat (.str "not"))) [.ret (.tup [(.dat (.str "not")), (.call "flat_of" [] [(.idx (.loc 0) (.dat (.int 1)))])])] [],
  .ite (.cmp .eq (.idx (.loc 0) (.dat (.int 0))) (.dat (.str "all"))) [.ret (.tup [(.dat (.str "all")), (.idx (.loc 0) (.dat (.int 1))), (.call "flat_of" [] [(.idx (.loc 0) (.dat (.int 2)))])])] [],
  .ite (.cmp .eq (.idx (.loc 0) (.dat (.int 0))) (.dat (.str "or"))) [.ret (.tup [(.dat (.str "or")), (.call "flat_of" [] [(.idx (.loc 0) (.dat (.int 1)))]), (.call "flat_of" [] [(.idx (.loc 0) (.dat (.int 2)))])])] [],
  .ite (.cmp .eq (.idx (.loc 0) (.dat (.int 0))) (.dat (.str "if"))) [.ret (.call "around" [] [(.call "opened" [] [(.idx (.loc 0) (.dat (.int 1)))]), (.dat (.str "all")), (.dat (.str "if")), (.call "flat_of" [] [(.idx (.loc 0) (.dat (.int 2)))])])] [],
  .ret (.call "around" [] [(.call "opened" [] [(.loc 0)]), (.dat (.str "some")), (.dat (.str "and")), (.dat .none)])]
def N_flat : List Str := ["book", "formula"]
def b_flat : List Sm := [
  .exp (.call "look_formula" [] [(.loc 0), (.loc 1)]),
  .ret (.call "flat_of" [] [(.loc 1)])]
def N_can_be : List Str := ["formula", "tie"]
def b_can_be : List Sm := [
  .ret (.not (.call "loose_of" [] [(.call "flat_of" [] [(.call "tied_of" [] [(.loc 0), (.loc 1)])])]))]
def N_ties_of : List Str := ["formula", "tie"]
def b_ties_of : List Sm := [
  .ret (.comp (.loc 1) (.nm 1) (.sq (.call "all_ties" [] [(.loc 0)])) [(.call "can_be" [] [(.loc 0), (.loc 1)])] [1])]
def N_doubled : List Str := ["number", "many", "time"]
def b_doubled : List Sm := [
  .for_ (.nm 2) (.rng1 (.loc 1)) [.asg (.nm 0) (.bin .mul (.dat (.int 2)) (.loc 0))],
  .ret (.loc 0)]
def N_shapes : List Str := ["word", "found"]
def b_shapes : List Sm := [
  .ite (.cmp .isin (.loc 0) (.dat g_ALLS)) [.ret (.lst [(.tup [(.dat (.str "who")), (.lst [(.dat (.str "what"))])])])] [],
  .ite (.cmp .isin (.loc 0) (.dat g_JOINS)) [.ret (.lst [(.tup [(.dat (.str "say")), (.lst [(.dat (.str "say")), (.dat (.str "say"))])])])] [],
  .ite (.cmp .eq (.loc 0) (.dat (.str "says"))) [.ret (.lst [(.tup [(.dat (.str "say")), (.lst [(.dat (.str "who")), (.dat (.str "doing"))])])])] [],
  .ite (.cmp .eq (.loc 0) (.dat (.str "not"))) [.ret (.lst [(.tup [(.dat (.str "doing")), (.lst [(.dat (.str "doing"))])])])] [],
  .ite (.cmp .eq (.loc 0) (.dat (.str "it"))) [.ret (.lst [(.tup [(.dat (.str "who")), (.lst [])])])] [],
  .ite (.cmp .eq (.loc 0) (.dat (.str "that"))) [.ret (.lst [(.tup [(.dat (.str "what")), (.lst [(.dat (.str "what")), (.dat (.str "doing"))])])])] [],
  .ite (.cmp .eq (.loc 0) (.dat (.str "whom"))) [.ret (.lst [(.tup [(.dat (.str "what")), (.lst [(.dat (.str "what")), (.dat (.str "who")), (.dat (.str "*to"))])])])] [],
  .asg (.nm 1) (.prm (.dsp [.inr "name", .inr "noun", .inr "such", .inr "of", .inr "does", .inr "to", .inr "is"]) [(.tup [(.dat (.str "who")), (.lst [(.dat (.str "*name"))])]), (.tup [(.dat (.str "what")), (.lst [(.dat (.str "*noun"))])]), (.tup [(.dat (.str "what")), (.lst [(.dat (.str "*such")), (.dat (.str "what"))])]), (.tup [(.dat (.str "what")), (.lst [(.dat (.str "*of")), (.dat (.str "who"))])]), (.tup [(.dat (.str "doing")), (.lst [(.dat (.str "*does"))])]), (.tup [(.dat (.str "doing")), (.lst [(.dat (.str "*to")), (.dat (.str "who"))])]), (.tup [(.dat (.str "doing")), (.lst [(.dat (.str "*such"))])])]),
  .ret (.ite (.prm (.din false) [(.loc 0), (.loc 1)]) (.lst [(.prm .dix [(.loc 1), (.loc 0)])]) (.lst []))]
def N_fits : List Str := ["book", "wish", "part"]
def b_fits : List Sm := [
  .ite (.cmp .eq (.idx (.loc 1) (.dat (.int 0))) (.dat (.str "*"))) [.ret (.call "is_of" [] [(.loc 0), (.loc 2), (.slF (.loc 1) (.dat (.int 1)))])] [],
  .ret (.cmp .eq (.call "kind_of" [] [(.loc 0), (.loc 2)]) (.loc 1))]
def N_look_tree : List Str := ["book", "tree"]
def b_look_tree : List Sm := [
  .exp (.call "look" [] [(.loc 0)]),
  .ite (.not (.call "is_tree_of" [] [(.loc 0), (.loc 1)])) [.never] []]
def N_wrapped : List Str := ["item", "formula", "word", "number", "kind"]
def b_wrapped : List Sm := [
  .ite (.cmp .eq (.idx (.loc 0) (.dat (.int 0))) (.dat (.str "not"))) [.ret (.tup [(.dat (.str "not")), (.loc 1)])] [],
  .asg (.tp [2, 3, 4]) (.loc 0),
  .ite (.cmp .eq (.loc 2) (.dat (.str "some"))) [.ret (.tup [(.dat (.str "some")), (.loc 3), (.tup [(.dat (.str "and")), (.loc 4), (.loc 1)])])] [],
  .ret (.tup [(.dat (.str "all")), (.loc 3), (.tup [(.dat (.str "if")), (.loc 4), (.ite (.cmp .eq (.loc 2) (.dat (.str "every"))) (.loc 1) (.tup [(.dat (.str "not")), (.loc 1)]))])])]
def N_may_be_drawn : List Str := ["item", "left", "one"]
def b_may_be_drawn : List Sm := [
  .ite (.cmp .eq (.idx (.loc 0) (.dat (.int 0))) (.dat (.str "not"))) [.ret (.dat (.bool true))] [],
  .ret (.not (.comp (.loc 2) (.nm 2) (.sq (.loc 1)) [(.and (.cmp .ne (.idx (.loc 2) (.dat (.int 0))) (.dat (.str "not"))) (.cmp .isin (.idx (.loc 0) (.dat (.int 1))) (.call "loose_of" [] [(.idx (.loc 2) (.dat (.int 2)))])))] [2]))]
def N_readings : List Str := ["book", "tree"]
def b_readings : List Sm := [
  .exp (.call "look_tree" [] [(.loc 0), (.loc 1)]),
  .ret (.call "readings_of" [] [(.loc 1), (.dat (.int 0)), (.dat (.int 0))])]
def N__law_cell : List Str := ["script", "k"]
def b__law_cell : List Sm := [
  .ite (.cmp .lt (.loc 1) (.blt .len [(.loc 0)])) [.ret (.idx (.loc 0) (.loc 1))] [],
  .ret (.dat (.int 0))]
def N__law_row : List Str := ["script", "at", "cell", "found", "time"]
def b__law_row : List Sm := [
  .asg (.nm 2) (.call "_law_cell" [] [(.loc 0), (.loc 1)]),
  .new 3 (.lst []),
  .for_ (.nm 4) (.rng1 (.dat (.int 60))) [.ite (.cmp .lt (.call "_law_cell" [] [(.loc 0), (.loc 1)]) (.bin .pow (.dat (.int 10)) (.dat (.int 18)))) [.asg (.nm 2) (.bin .mod (.bin .add (.bin .add (.bin .add (.bin .mul (.loc 2) (.dat (.int 48271))) (.bin .mul (.dat (.int 131)) (.loc 4))) (.dat (.int 7))) (.call "_law_cell" [] [(.loc 0), (.bin .mod (.bin .add (.bin .add (.loc 1) (.dat (.int 1))) (.loc 4)) (.dat (.int 20)))])) (.dat (.int 2147483647))), .exp (.mut .append (.loc 3) [(.bin .mod (.bin .fdiv (.loc 2) (.dat (.int 11))) (.dat (.int 1000)))])] [.exp (.mut .append (.loc 3) [(.bin .mod (.loc 2) (.dat (.int 1000)))]), .asg (.nm 2) (.bin .fdiv (.loc 2) (.dat (.int 1000)))]],
  .ret (.loc 3)]
def N__law_book : List Str := ["row", "some", "more_of", "found", "turn", "spot", "one"]
def b__law_book : List Sm := [
  .asg (.nm 1) (.lst [(.tup [(.dat (.str "ann")), (.dat (.str "name"))]), (.tup [(.dat (.str "man")), (.dat (.str "noun"))]), (.tup [(.dat (.str "friend")), (.dat (.str "of"))]), (.tup [(.dat (.str "sleeps")), (.dat (.str "does"))]), (.tup [(.dat (.str "owns")), (.dat (.str "to"))]), (.tup [(.dat (.str "tall")), (.dat (.str "such"))])]),
  .asg (.nm 2) (.lst [(.tup [(.dat (.str "bob")), (.dat (.str "name"))]), (.tup [(.dat (.str "ass")), (.dat (.str "noun"))]), (.tup [(.dat (.str "king")), (.dat (.str "noun"))]), (.tup [(.dat (.str "runs")), (.dat (.str "does"))]), (.tup [(.dat (.str "beats")), (.dat (.str "to"))]), (.tup [(.dat (.str "wise")), (.dat (.str "such"))])]),
  .asg (.nm 3) (.bin .add (.loc 1) (.comp (.loc 6) (.tp [5, 6]) (.enm (.loc 2)) [(.cmp .eq (.bin .mod (.idx (.loc 0) (.loc 5)) (.dat (.int 2))) (.dat (.int 0)))] [5, 6])),
  .asg (.nm 4) (.bin .mod (.idx (.loc 0) (.dat (.int 7))) (.blt .len [(.loc 3)])),
  .ret (.blt .tuple [(.bin .add (.slF (.loc 3) (.loc 4)) (.slT (.loc 3) (.loc 4)))])]
def N__law_is_book : List Str := ["thing", "own", "some", "one", "sign"]
def b__law_is_book : List Sm := [
  .ite (.or (.not (.isi (.loc 0) .tup)) (.cmp .gt (.blt .len [(.loc 0)]) (.dat (.int 20)))) [.ret (.dat (.bool false))] [],
  .asg (.nm 1) (.lst [(.dat (.str "every")), (.dat (.str "some")), (.dat (.str "no")), (.dat (.str "that")), (.dat (.str "of")), (.dat (.str "not")), (.dat (.str "and")), (.dat (.str "or")), (.dat (.str "if")), (.dat (.str "then")), (.dat (.str "it")), (.dat (.str "is"))]),
  .new 2 (.lst []),
  .for_ (.nm 3) (.sq (.loc 0)) [.ite (.or (.not (.isi (.loc 3) .tup)) (.or (.cmp .ne (.blt .len [(.loc 3)]) (.dat (.int 2))) (.or (.not (.isi (.idx (.loc 3) (.dat (.int 0))) .str)) (.not (.isi (.idx (.loc 3) (.dat (.int 1))) .str))))) [.ret (.dat (.bool false))] [], .ite (.or (.not (.chn .le .le (.dat (.int 1)) (.blt .len [(.idx (.loc 3) (.dat (.int 0)))]) (.dat (.int 10)))) (.cmp .ne (.comp (.loc 4) (.nm 4) (.sq (.idx (.loc 3) (.dat (.int 0)))) [(.cmp .nin (.loc 4) (.dat (.str "abcdefghijklmnopqrstuvwxyz")))] [4]) (.lst []))) [.ret (.dat (.bool false))] [], .ite (.or (.cmp .isin (.idx (.loc 3) (.dat (.int 0))) (.loc 1)) (.cmp .nin (.idx (.loc 3) (.dat (.int 1))) (.tup [(.dat (.str "name")), (.dat (.str "noun")), (.dat (.str "of")), (.dat (.str "does")), (.dat (.str "to")), (.dat (.str "such"))]))) [.ret (.dat (.bool false))] [], .exp (.mut .append (.loc 2) [(.idx (.loc 3) (.dat (.int 0)))])],
  .ret (.cmp .eq (.prm .lset [(.loc 2)]) (.blt .len [(.loc 2)]))]
def N_is_tree : List Str := ["book", "thing"]
def b_is_tree : List Sm := [
  .exp (.call "look" [] [(.loc 0)]),
  .ret (.call "is_tree_of" [] [(.loc 0), (.loc 1)])]
def N__law_next : List Str := ["row", "state"]
def b__law_next : List Sm := [
  .six (.loc 1) (.dat (.int 0)) (.bin .mod (.bin .add (.idx (.loc 1) (.dat (.int 0))) (.dat (.int 1))) (.dat (.int 60))),
  .ret (.idx (.loc 0) (.idx (.loc 1) (.dat (.int 0))))]
def N__law_word : List Str := ["row", "state", "book", "species", "some", "word", "other"]
def b__law_word : List Sm := [
  .asg (.nm 4) (.comp (.loc 5) (.tp [5, 6]) (.sq (.loc 2)) [(.cmp .eq (.loc 6) (.loc 3))] [5, 6]),
  .ret (.idx (.loc 4) (.bin .mod (.call "_law_next" [false, true] [(.loc 0), (.loc 1)]) (.blt .len [(.loc 4)])))]
def N__law_who : List Str := ["row", "state", "book", "deep", "way", "word"]
def b__law_who : List Sm := [
  .asg (.nm 4) (.bin .mod (.call "_law_next" [false, true] [(.loc 0), (.loc 1)]) (.dat (.int 8))),
  .ite (.or (.cmp .eq (.loc 4) (.dat (.int 0))) (.or (.cmp .eq (.idx (.loc 1) (.dat (.int 1))) (.dat (.int 0))) (.cmp .eq (.loc 3) (.dat (.int 0))))) [.ret (.tup [(.dat (.str "name")), (.call "_law_word" [false, true, false, false] [(.loc 0), (.loc 1), (.loc 2), (.dat (.str "name"))])])] [],
  .ite (.cmp .eq (.loc 4) (.dat (.int 1))) [.ret (.tup [(.dat (.str "it"))])] [],
  .six (.loc 1) (.dat (.int 1)) (.bin .sub (.idx (.loc 1) (.dat (.int 1))) (.dat (.int 1))),
  .asg (.nm 5) (.idx (.lst [(.dat (.str "every")), (.dat (.str "some")), (.dat (.str "no")), (.dat (.str "some")), (.dat (.str "every"))]) (.bin .mod (.call "_law_next" [false, true] [(.loc 0), (.loc 1)]) (.dat (.int 5)))),
  .ret (.tup [(.loc 5), (.call "_law_what" [false, true, false, false] [(.loc 0), (.loc 1), (.loc 2), (.bin .sub (.loc 3) (.dat (.int 1)))])])]
def N__law_what : List Str := ["row", "state", "book", "deep", "way", "inner", "who"]
def b__law_what : List Sm := [
  .asg (.nm 4) (.ite (.cmp .gt (.loc 3) (.dat (.int 0))) (.bin .mod (.call "_law_next" [false, true] [(.loc 0), (.loc 1)]) (.dat (.int 9))) (.dat (.int 0))),
  .ite (.cmp .eq (.loc 4) (.dat (.int 4))) [.ret (.tup [(.dat (.str "such")), (.call "_law_word" [false, true, false, false] [(.loc 0), (.loc 1), (.loc 2), (.dat (.str "such"))]), (.call "_law_what" [false, true, false, false] [(.loc 0), (.loc 1), (.loc 2), (.bin .sub (.loc 3) (.dat (.int 1)))])])] [],
  .ite (.cmp .eq (.loc 4) (.dat (.int 5))) [.ret (.tup [(.dat (.str "of")), (.call "_law_word" [false, true, false, false] [(.loc 0), (.loc 1), (.loc 2), (.dat (.str "of"))]), (.call "_law_who" [false, true, false, false] [(.loc 0), (.loc 1), (.loc 2), (.bin .sub (.loc 3) (.dat (.int 1)))])])] [],
  .ite (.or (.cmp .eq (.loc 4) (.dat (.int 6))) (.cmp .eq (.loc 4) (.dat (.int 7)))) [.asg (.nm 5) (.tup [(.dat (.str "noun")), (.call "_law_word" [false, true, false, false] [(.loc 0), (.loc 1), (.loc 2), (.dat (.str "noun"))])]), .ret (.tup [(.dat (.str "that")), (.loc 5), (.call "_law_doing" [false, true, false, false] [(.loc 0), (.loc 1), (.loc 2), (.bin .sub (.loc 3) (.dat (.int 1)))])])] [],
  .ite (.cmp .eq (.loc 4) (.dat (.int 8))) [.asg (.nm 5) (.tup [(.dat (.str "noun")), (.call "_law_word" [false, true, false, false] [(.loc 0), (.loc 1), (.loc 2), (.dat (.str "noun"))])]), .asg (.nm 6) (.call "_law_who" [false, true, false, false] [(.loc 0), (.loc 1), (.loc 2), (.bin .sub (.loc 3) (.dat (.int 1)))]), .ret (.tup [(.dat (.str "whom")), (.loc 5), (.loc 6), (.call "_law_word" [false, true, false, false] [(.loc 0), (.loc 1), (.loc 2), (.dat (.str "to"))])])] [],
  .ret (.tup [(.dat (.str "noun")), (.call "_law_word" [false, true, false, false] [(.loc 0), (.loc 1), (.loc 2), (.dat (.str "noun"))])])]
def N__law_doing : List Str := ["row", "state", "book", "deep", "way"]
def b__law_doing : List Sm := [
  .asg (.nm 4) (.ite (.cmp .gt (.loc 3) (.dat (.int 0))) (.bin .mod (.call "_law_next" [false, true] [(.loc 0), (.loc 1)]) (.dat (.int 8))) (.dat (.int 0))),
  .ite (.cmp .lt (.loc 4) (.dat (.int 2))) [.ret (.tup [(.dat (.str "does")), (.call "_law_word" [false, true, false, false] [(.loc 0), (.loc 1), (.loc 2), (.dat (.str "does"))])])] [],
  .ite (.cmp .eq (.loc 4) (.dat (.int 2))) [.ret (.tup [(.dat (.str "is")), (.call "_law_word" [false, true, false, false] [(.loc 0), (.loc 1), (.loc 2), (.dat (.str "such"))])])] [],
  .ite (.and (.cmp .eq (.loc 4) (.dat (.int 3))) (.cmp .gt (.idx (.loc 1) (.dat (.int 1))) (.dat (.int 0)))) [.six (.loc 1) (.dat (.int 1)) (.bin .sub (.idx (.loc 1) (.dat (.int 1))) (.dat (.int 1))), .ret (.tup [(.dat (.str "not")), (.call "_law_doing" [false, true, false, false] [(.loc 0), (.loc 1), (.loc 2), (.bin .sub (.loc 3) (.dat (.int 1)))])])] [],
  .ret (.tup [(.dat (.str "to")), (.call "_law_word" [false, true, false, false] [(.loc 0), (.loc 1), (.loc 2), (.dat (.str "to"))]), (.call "_law_who" [false, true, false, false] [(.loc 0), (.loc 1), (.loc 2), (.bin .sub (.loc 3) (.dat (.int 1)))])])]
def N__law_says : List Str := ["row", "state", "book", "deep", "way", "who", "first"]
def b__law_says : List Sm := [
  .asg (.nm 4) (.bin .mod (.call "_law_next" [false, true] [(.loc 0), (.loc 1)]) (.dat (.int 12))),
  .ite (.and (.cmp .lt (.loc 4) (.dat (.int 3))) (.cmp .gt (.loc 3) (.dat (.int 2)))) [.asg (.nm 6) (.call "_law_says" [false, true, false, false] [(.loc 0), (.loc 1), (.loc 2), (.bin .sub (.loc 3) (.dat (.int 1)))]), .ret (.tup [(.idx (.lst [(.dat (.str "and")), (.dat (.str "or")), (.dat (.str "if"))]) (.loc 4)), (.loc 6), (.call "_law_says" [false, true, false, false] [(.loc 0), (.loc 1), (.loc 2), (.bin .sub (.loc 3) (.dat (.int 1)))])])] [],
  .asg (.nm 5) (.call "_law_who" [false, true, false, false] [(.loc 0), (.loc 1), (.loc 2), (.bin .sub (.loc 3) (.dat (.int 1)))]),
  .ret (.tup [(.dat (.str "says")), (.loc 5), (.call "_law_doing" [false, true, false, false] [(.loc 0), (.loc 1), (.loc 2), (.bin .sub (.loc 3) (.dat (.int 1)))])])]
def N__law_tree : List Str := ["script", "at", "book", "most", "row", "found"]
def b__law_tree : List Sm := [
  .asg (.nm 4) (.call "_law_row" [] [(.loc 0), (.loc 1)]),
  .asg (.nm 5) (.call "_law_says" [false, true, false, false] [(.loc 4), (.lst [(.dat (.int 0)), (.loc 3)]), (.loc 2), (.bin .add (.dat (.int 2)) (.bin .mod (.idx (.loc 4) (.dat (.int 0))) (.dat (.int 3))))]),
  .ite (.cmp .gt (.blt .len [(.call "_law_tokens" [] [(.loc 5)])]) (.dat (.int 16))) [.asg (.nm 5) (.call "_law_says" [false, true, false, false] [(.loc 4), (.lst [(.dat (.int 30)), (.loc 3)]), (.loc 2), (.dat (.int 2))])] [],
  .ret (.loc 5)]
def N__law_tokens : List Str := ["part", "word"]
def b__law_tokens : List Sm := [
  .asg (.nm 1) (.idx (.loc 0) (.dat (.int 0))),
  .ite (.cmp .eq (.loc 1) (.dat (.str "it"))) [.ret (.lst [(.dat (.str "it"))])] [],
  .ite (.cmp .isin (.loc 1) (.tup [(.dat (.str "name")), (.dat (.str "noun")), (.dat (.str "does"))])) [.ret (.lst [(.idx (.loc 0) (.dat (.int 1)))])] [],
  .ite (.cmp .eq (.loc 1) (.dat (.str "is"))) [.ret (.lst [(.dat (.str "is")), (.idx (.loc 0) (.dat (.int 1)))])] [],
  .ite (.cmp .isin (.loc 1) (.tup [(.dat (.str "every")), (.dat (.str "some")), (.dat (.str "no")), (.dat (.str "not"))])) [.ret (.bin .add (.lst [(.loc 1)]) (.call "_law_tokens" [] [(.idx (.loc 0) (.dat (.int 1)))]))] [],
  .ite (.cmp .eq (.loc 1) (.dat (.str "says"))) [.ret (.bin .add (.call "_law_tokens" [] [(.idx (.loc 0) (.dat (.int 1)))]) (.call "_law_tokens" [] [(.idx (.loc 0) (.dat (.int 2)))]))] [],
  .ite (.cmp .eq (.loc 1) (.dat (.str "if"))) [.ret (.bin .add (.bin .add (.bin .add (.lst [(.dat (.str "if"))]) (.call "_law_tokens" [] [(.idx (.loc 0) (.dat (.int 1)))])) (.lst [(.dat (.str "then"))])) (.call "_law_tokens" [] [(.idx (.loc 0) (.dat (.int 2)))]))] [],
  .ite (.cmp .isin (.loc 1) (.tup [(.dat (.str "and")), (.dat (.str "or"))])) [.ret (.bin .add (.bin .add (.call "_law_tokens" [] [(.idx (.loc 0) (.dat (.int 1)))]) (.lst [(.loc 1)])) (.call "_law_tokens" [] [(.idx (.loc 0) (.dat (.int 2)))]))] [],
  .ite (.cmp .isin (.loc 1) (.tup [(.dat (.str "such")), (.dat (.str "to"))])) [.ret (.bin .add (.lst [(.idx (.loc 0) (.dat (.int 1)))]) (.call "_law_tokens" [] [(.idx (.loc 0) (.dat (.int 2)))]))] [],
  .ite (.cmp .eq (.loc 1) (.dat (.str "of"))) [.ret (.bin .add (.lst [(.idx (.loc 0) (.dat (.int 1))), (.dat (.str "of"))]) (.call "_law_tokens" [] [(.idx (.loc 0) (.dat (.int 2)))]))] [],
  .ite (.cmp .eq (.loc 1) (.dat (.str "that"))) [.ret (.bin .add (.bin .add (.call "_law_tokens" [] [(.idx (.loc 0) (.dat (.int 1)))]) (.lst [(.dat (.str "that"))])) (.call "_law_tokens" [] [(.idx (.loc 0) (.dat (.int 2)))]))] [],
  .ret (.bin .add (.bin .add (.bin .add (.call "_law_tokens" [] [(.idx (.loc 0) (.dat (.int 1)))]) (.lst [(.dat (.str "that"))])) (.call "_law_tokens" [] [(.idx (.loc 0) (.dat (.int 2)))])) (.lst [(.idx (.loc 0) (.dat (.int 3)))]))]
def N__law_wishes : List Str := ["found"]
def b__law_wishes : List Sm := [
  .new 0 (.prm (.dsp [.inr "says", .inr "and", .inr "or"]) [(.lst [(.dat (.str "say")), (.dat (.str "who")), (.dat (.str "doing"))]), (.lst [(.dat (.str "say")), (.dat (.str "say")), (.dat (.str "say"))]), (.lst [(.dat (.str "say")), (.dat (.str "say")), (.dat (.str "say"))])]),
  .six (.loc 0) (.dat (.str "if")) (.lst [(.dat (.str "say")), (.dat (.str "say")), (.dat (.str "say"))]),
  .six (.loc 0) (.dat (.str "name")) (.lst [(.dat (.str "who")), (.dat (.str "*name"))]),
  .six (.loc 0) (.dat (.str "it")) (.lst [(.dat (.str "who"))]),
  .six (.loc 0) (.dat (.str "every")) (.lst [(.dat (.str "who")), (.dat (.str "what"))]),
  .six (.loc 0) (.dat (.str "some")) (.lst [(.dat (.str "who")), (.dat (.str "what"))]),
  .six (.loc 0) (.dat (.str "no")) (.lst [(.dat (.str "who")), (.dat (.str "what"))]),
  .six (.loc 0) (.dat (.str "noun")) (.lst [(.dat (.str "what")), (.dat (.str "*noun"))]),
  .six (.loc 0) (.dat (.str "such")) (.lst [(.dat (.str "what")), (.dat (.str "*such")), (.dat (.str "what"))]),
  .six (.loc 0) (.dat (.str "of")) (.lst [(.dat (.str "what")), (.dat (.str "*of")), (.dat (.str "who"))]),
  .six (.loc 0) (.dat (.str "that")) (.lst [(.dat (.str "what")), (.dat (.str "what")), (.dat (.str "doing"))]),
  .six (.loc 0) (.dat (.str "whom")) (.lst [(.dat (.str "what")), (.dat (.str "what")), (.dat (.str "who")), (.dat (.str "*to"))]),
  .six (.loc 0) (.dat (.str "does")) (.lst [(.dat (.str "doing")), (.dat (.str "*does"))]),
  .six (.loc 0) (.dat (.str "to")) (.lst [(.dat (.str "doing")), (.dat (.str "*to")), (.dat (.str "who"))]),
  .six (.loc 0) (.dat (.str "is")) (.lst [(.dat (.str "doing")), (.dat (.str "*such"))]),
  .six (.loc 0) (.dat (.str "not")) (.lst [(.dat (.str "doing")), (.dat (.str "doing"))]),
  .ret (.loc 0)]
def N__law_kind : List Str := ["book", "thing", "wishes", "wish", "part"]
def b__law_kind : List Sm := [
  .ite (.or (.not (.isi (.loc 1) .tup)) (.or (.cmp .eq (.loc 1) (.tup [])) (.or (.not (.isi (.idx (.loc 1) (.dat (.int 0))) .str)) (.cmp .nin (.idx (.loc 1) (.dat (.int 0))) (.call "_law_wishes" [] []))))) [.ret (.dat .none)] [],
  .asg (.nm 2) (.idx (.call "_law_wishes" [] []) (.idx (.loc 1) (.dat (.int 0)))),
  .ite (.cmp .ne (.blt .len [(.loc 1)]) (.blt .len [(.loc 2)])) [.ret (.dat .none)] [],
  .for_ (.tp [3, 4]) (.zip (.slF (.loc 2) (.dat (.int 1))) (.slF (.loc 1) (.dat (.int 1)))) [.ite (.cmp .eq (.slT (.loc 3) (.dat (.int 1))) (.dat (.str "*"))) [.ite (.or (.not (.isi (.loc 4) .str)) (.cmp .nin (.tup [(.loc 4), (.slF (.loc 3) (.dat (.int 1)))]) (.loc 0))) [.ret (.dat .none)] []] [.ite (.cmp .ne (.call "_law_kind" [] [(.loc 0), (.loc 4)]) (.loc 3)) [.ret (.dat .none)] []]],
  .ret (.idx (.loc 2) (.dat (.int 0)))]
def N__law_size : List Str := ["part", "found", "one"]
def b__law_size : List Sm := [
  .asg (.nm 1) (.dat (.int 1)),
  .for_ (.nm 2) (.sq (.slF (.loc 0) (.dat (.int 1)))) [.ite (.isi (.loc 2) .tup) [.asg (.nm 1) (.bin .add (.loc 1) (.call "_law_size" [] [(.loc 2)]))] []],
  .ret (.loc 1)]
def N__law_is_tree : List Str := ["book", "thing", "word"]
def b__law_is_tree : List Sm := [
  .ite (.or (.cmp .ne (.call "_law_kind" [] [(.loc 0), (.loc 1)]) (.dat (.str "say"))) (.cmp .gt (.call "_law_size" [] [(.loc 1)]) (.dat (.int 40)))) [.ret (.dat (.bool false))] [],
  .ret (.cmp .le (.blt .len [(.comp (.loc 2) (.nm 2) (.sq (.call "_law_tokens" [] [(.loc 1)])) [(.cmp .isin (.loc 2) (.tup [(.dat (.str "every")), (.dat (.str "some")), (.dat (.str "no")), (.dat (.str "not"))]))] [2])]) (.dat (.int 5)))]
def N__law_spoilt_tree : List Str := ["tree", "row", "at", "way", "some", "spots", "spot", "inner"]
def b__law_spoilt_tree : List Sm := [
  .asg (.nm 3) (.bin .mod (.idx (.loc 1) (.loc 2)) (.dat (.int 6))),
  .ite (.and (.cmp .lt (.loc 3) (.dat (.int 2))) (.cmp .gt (.blt .len [(.loc 0)]) (.dat (.int 1)))) [.asg (.nm 5) (.comp (.loc 6) (.nm 6) (.rng2 (.dat (.int 1)) (.blt .len [(.loc 0)])) [(.isi (.idx (.loc 0) (.loc 6)) .tup)] [6]), .ite (.cmp .ne (.loc 5) (.lst [])) [.asg (.nm 6) (.idx (.loc 5) (.bin .mod (.idx (.loc 1) (.bin .add (.loc 2) (.dat (.int 1)))) (.blt .len [(.loc 5)]))), .asg (.nm 7) (.call "_law_spoilt_tree" [] [(.idx (.loc 0) (.loc 6)), (.loc 1), (.bin .mod (.bin .add (.loc 2) (.dat (.int 2))) (.dat (.int 50)))]), .ret (.bin .add (.bin .add (.slT (.loc 0) (.loc 6)) (.tup [(.loc 7)])) (.slF (.loc 0) (.bin .add (.loc 6) (.dat (.int 1)))))] []] [],
  .asg (.nm 4) (.lst [(.dat .none), (.tup []), (.slT (.loc 0) (.dat (.int (-1)))), (.bin .add (.loc 0) (.tup [(.dat (.str "ann"))])), (.blt .list [(.loc 0)]), (.tup [(.dat (.str "it"))]), (.tup [(.dat (.str "name")), (.dat (.str "man"))]), (.tup [(.dat (.str "name")), (.dat (.str "ann"))])]),
  .asg (.nm 4) (.bin .add (.loc 4) (.lst [(.tup [(.dat (.str "noun")), (.dat (.str "man"))]), (.tup [(.dat (.str "does")), (.dat (.str "sleeps"))]), (.tup [(.dat (.str "no")), (.tup [(.dat (.str "noun")), (.dat (.str "man"))])]), (.tup [(.dat (.str "every")), (.tup [(.dat (.str "name")), (.dat (.str "ann"))])])])),
  .asg (.nm 4) (.bin .add (.loc 4) (.lst [(.tup [(.dat (.str "says")), (.tup [(.dat (.str "it"))]), (.tup [(.dat (.str "it"))])]), (.tup [(.dat (.str "is")), (.dat (.str "tall"))]), (.tup [(.dat (.str "not")), (.tup [(.dat (.str "is")), (.dat (.str "tall"))])]), (.tup [(.dat (.str "to")), (.dat (.str "owns")), (.tup [(.dat (.str "it"))])])])),
  .asg (.nm 4) (.bin .add (.loc 4) (.lst [(.tup [(.dat (.str "such")), (.dat (.str "tall")), (.tup [(.dat (.str "noun")), (.dat (.str "man"))])]), (.dat (.int 7))])),
  .ret (.idx (.loc 4) (.bin .mod (.idx (.loc 1) (.bin .add (.loc 2) (.dat (.int 1)))) (.dat (.int 18))))]
def N__law_read : List Str := ["book", "some", "kind", "found", "many", "word", "cut_at", "one", "begin", "then", "two"]
def b__law_read : List Sm := [
  .asg (.nm 3) (.lst []),
  .asg (.nm 4) (.blt .len [(.loc 1)]),
  .ite (.cmp .eq (.loc 2) (.dat (.str "say"))) [.for_ (.nm 6) (.rng2 (.dat (.int 1)) (.loc 4)) [.for_ (.nm 7) (.sq (.call "_law_read" [] [(.loc 0), (.slT (.loc 1) (.loc 6)), (.dat (.str "who"))])) [.asg (.nm 3) (.bin .add (.loc 3) (.comp (.tup [(.dat (.str "says")), (.loc 7), (.loc 10)]) (.nm 10) (.sq (.call "_law_read" [] [(.loc 0), (.slF (.loc 1) (.loc 6)), (.dat (.str "doing"))])) [] [10]))], .asg (.nm 5) (.idx (.loc 1) (.loc 6)), .asg (.nm 8) (.ite (.and (.cmp .eq (.loc 5) (.dat (.str "then"))) (.cmp .eq (.idx (.loc 1) (.dat (.int 0))) (.dat (.str "if")))) (.dat (.int 1)) (.dat (.int 0))), .ite (.or (.cmp .isin (.loc 5) (.tup [(.dat (.str "and")), (.dat (.str "or"))])) (.cmp .eq (.loc 8) (.dat (.int 1)))) [.for_ (.nm 7) (.sq (.call "_law_read" [] [(.loc 0), (.slB (.loc 1) (.loc 8) (.loc 6)), (.dat (.str "say"))])) [.asg (.nm 9) (.call "_law_read" [] [(.loc 0), (.slF (.loc 1) (.bin .add (.loc 6) (.dat (.int 1)))), (.dat (.str "say"))]), .asg (.nm 3) (.bin .add (.loc 3) (.comp (.tup [(.ite (.cmp .eq (.loc 8) (.dat (.int 1))) (.dat (.str "if")) (.loc 5)), (.loc 7), (.loc 10)]) (.nm 10) (.sq (.loc 9)) [] [10]))]] []], .ret (.loc 3)] [],
  .ite (.cmp .eq (.loc 4) (.dat (.int 0))) [.ret (.lst [])] [],
  .asg (.nm 5) (.idx (.loc 1) (.dat (.int 0))),
  .ite (.cmp .eq (.loc 2) (.dat (.str "who"))) [.ite (.cmp .eq (.loc 1) (.lst [(.dat (.str "it"))])) [.ret (.lst [(.tup [(.dat (.str "it"))])])] [], .ite (.cmp .eq (.loc 4) (.dat (.int 1))) [.ret (.ite (.cmp .isin (.tup [(.loc 5), (.dat (.str "name"))]) (.loc 0)) (.lst [(.tup [(.dat (.str "name")), (.loc 5)])]) (.lst []))] [], .ite (.cmp .isin (.loc 5) (.tup [(.dat (.str "every")), (.dat (.str "some")), (.dat (.str "no"))])) [.ret (.comp (.tup [(.loc 5), (.loc 7)]) (.nm 7) (.sq (.call "_law_read" [] [(.loc 0), (.slF (.loc 1) (.dat (.int 1))), (.dat (.str "what"))])) [] [7])] [], .ret (.lst [])] [],
  .ite (.cmp .eq (.loc 2) (.dat (.str "doing"))) [.ite (.cmp .eq (.loc 4) (.dat (.int 1))) [.ret (.ite (.cmp .isin (.tup [(.loc 5), (.dat (.str "does"))]) (.loc 0)) (.lst [(.tup [(.dat (.str "does")), (.loc 5)])]) (.lst []))] [], .ite (.and (.cmp .eq (.loc 4) (.dat (.int 2))) (.cmp .eq (.loc 5) (.dat (.str "is")))) [.ret (.ite (.cmp .isin (.tup [(.idx (.loc 1) (.dat (.int 1))), (.dat (.str "such"))]) (.loc 0)) (.lst [(.tup [(.dat (.str "is")), (.idx (.loc 1) (.dat (.int 1)))])]) (.lst []))] [], .ite (.cmp .eq (.loc 5) (.dat (.str "not"))) [.ret (.comp (.tup [(.dat (.str "not")), (.loc 7)]) (.nm 7) (.sq (.call "_law_read" [] [(.loc 0), (.slF (.loc 1) (.dat (.int 1))), (.dat (.str "doing"))])) [] [7])] [], .ret (.ite (.cmp .isin (.tup [(.loc 5), (.dat (.str "to"))]) (.loc 0)) (.comp (.tup [(.dat (.str "to")), (.loc 5), (.loc 7)]) (.nm 7) (.sq (.call "_law_read" [] [(.loc 0), (.slF (.loc 1) (.dat (.int 1))), (.dat (.str "who"))])) [] [7]) (.lst []))] [],
  .ret (.call "_law_read_what" [] [(.loc 0), (.loc 1)])]
def N__law_read_what : List Str := ["book", "some", "word", "found", "cut_at", "one", "two"]
def b__law_read_what : List Sm := [
  .asg (.nm 2) (.idx (.loc 1) (.dat (.int 0))),
  .new 3 (.lst []),
  .ite (.cmp .eq (.blt .len [(.loc 1)]) (.dat (.int 1))) [.ret (.ite (.cmp .isin (.tup [(.loc 2), (.dat (.str "noun"))]) (.loc 0)) (.lst [(.tup [(.dat (.str "noun")), (.loc 2)])]) (.lst []))] [],
  .ite (.cmp .isin (.tup [(.loc 2), (.dat (.str "such"))]) (.loc 0)) [.new 3 (.comp (.tup [(.dat (.str "such")), (.loc 2), (.loc 5)]) (.nm 5) (.sq (.call "_law_read" [] [(.loc 0), (.slF (.loc 1) (.dat (.int 1))), (.dat (.str "what"))])) [] [5])] [],
  .ite (.and (.cmp .isin (.tup [(.loc 2), (.dat (.str "of"))]) (.loc 0)) (.cmp .eq (.idx (.loc 1) (.dat (.int 1))) (.dat (.str "of")))) [.new 3 (.bin .add (.loc 3) (.comp (.tup [(.dat (.str "of")), (.loc 2), (.loc 5)]) (.nm 5) (.sq (.call "_law_read" [] [(.loc 0), (.slF (.loc 1) (.dat (.int 2))), (.dat (.str "who"))])) [] [5]))] [],
  .for_ (.nm 4) (.rng2 (.dat (.int 1)) (.blt .len [(.loc 1)])) [.ite (.cmp .eq (.idx (.loc 1) (.loc 4)) (.dat (.str "that"))) [.for_ (.nm 5) (.sq (.call "_law_read" [] [(.loc 0), (.slT (.loc 1) (.loc 4)), (.dat (.str "what"))])) [.for_ (.nm 6) (.sq (.call "_law_read" [] [(.loc 0), (.slF (.loc 1) (.bin .add (.loc 4) (.dat (.int 1)))), (.dat (.str "doing"))])) [.exp (.mut .append (.loc 3) [(.tup [(.dat (.str "that")), (.loc 5), (.loc 6)])])], .ite (.cmp .isin (.tup [(.idx (.loc 1) (.dat (.int (-1)))), (.dat (.str "to"))]) (.loc 0)) [.for_ (.nm 6) (.sq (.call "_law_read" [] [(.loc 0), (.slB (.loc 1) (.bin .add (.loc 4) (.dat (.int 1))) (.dat (.int (-1)))), (.dat (.str "who"))])) [.exp (.mut .append (.loc 3) [(.tup [(.dat (.str "whom")), (.loc 5), (.loc 6), (.idx (.loc 1) (.dat (.int (-1))))])])]] []]] []],
  .ret (.loc 3)]
def N__law_small : List Str := ["row", "nouns"]
def b__law_small : List Sm := [
  .asg (.nm 1) (.idx (.lst [(.dat (.str "man")), (.dat (.str "ass")), (.dat (.str "king"))]) (.bin .mod (.idx (.loc 0) (.dat (.int 0))) (.dat (.int 3)))),
  .ret (.tup [(.tup [(.dat (.str "ann")), (.dat (.str "name"))]), (.tup [(.loc 1), (.dat (.str "noun"))]), (.tup [(.dat (.str "friend")), (.dat (.str "of"))]), (.tup [(.dat (.str "sleeps")), (.dat (.str "does"))]), (.tup [(.dat (.str "owns")), (.dat (.str "to"))]), (.tup [(.dat (.str "tall")), (.dat (.str "such"))])])]
def N__law_pairs : List Str := ["book", "word", "kind", "first", "other", "then", "found", "one", "two"]
def b__law_pairs : List Sm := [
  .new 6 (.lst []),
  .for_ (.nm 7) (.sq (.call "_law_all" [] [(.loc 0), (.loc 2), (.loc 3)])) [.for_ (.nm 8) (.sq (.call "_law_all" [] [(.loc 0), (.loc 4), (.loc 5)])) [.exp (.mut .append (.loc 6) [(.tup [(.loc 1), (.loc 7), (.loc 8)])])]],
  .ret (.loc 6)]
def N_is_formula : List Str := ["book", "thing"]
def b_is_formula : List Sm := [
  .exp (.call "look" [] [(.loc 0)]),
  .ret (.call "is_formula_of" [] [(.loc 0), (.loc 1)])]
def N_loose : List Str := ["book", "formula"]
def b_loose : List Sm := [
  .exp (.call "look_formula" [] [(.loc 0), (.loc 1)]),
  .ret (.call "loose_of" [] [(.loc 1)])]
def N_pushed : List Str := ["book", "formula"]
def b_pushed : List Sm := [
  .exp (.call "look_plain" [] [(.loc 0), (.loc 1)]),
  .ret (.call "pushed_of" [] [(.loc 1), (.dat (.bool true))])]
def N_shown : List Str := ["book", "formula"]
def b_shown : List Sm := [
  .exp (.call "look_formula" [] [(.loc 0), (.loc 1)]),
  .ret (.call "written" [] [(.loc 1)])]
def N__law_whole : List Str := ["found"]
def b__law_whole : List Sm := [
  .ret (.and (.isi (.loc 0) .int) (.not (.isi (.loc 0) .bool)))]
def N__law_brought : List Str := ["formula", "found", "part"]
def b__law_brought : List Sm := [
  .asg (.nm 1) (.ite (.cmp .isin (.idx (.loc 0) (.dat (.int 0))) (.tup [(.dat (.str "all")), (.dat (.str "some"))])) (.lst [(.idx (.loc 0) (.dat (.int 1)))]) (.lst [])),
  .for_ (.nm 2) (.sq (.slF (.loc 0) (.dat (.int 1)))) [.ite (.and (.isi (.loc 2) .tup) (.cmp .ne (.idx (.loc 0) (.dat (.int 0))) (.dat (.str "fact")))) [.asg (.nm 1) (.bin .add (.loc 1) (.call "_law_brought" [] [(.loc 2)]))] []],
  .ret (.loc 1)]
def N__law_places : List Str := ["book", "word", "kinds_here", "found", "one", "kind"]
def b__law_places : List Sm := [
  .asg (.nm 2) (.prm (.dsp [.inr "noun", .inr "of", .inr "does", .inr "to", .inr "such"]) [(.dat (.int 1)), (.dat (.int 2)), (.dat (.int 1)), (.dat (.int 2)), (.dat (.int 1))]),
  .asg (.nm 3) (.comp (.prm .dix [(.loc 2), (.loc 5)]) (.tp [4, 5]) (.sq (.loc 0)) [(.and (.cmp .eq (.loc 4) (.loc 1)) (.prm (.din false) [(.loc 5), (.loc 2)]))] [4, 5]),
  .ret (.idx (.bin .add (.loc 3) (.lst [(.dat (.int 0))])) (.dat (.int 0)))]
def N__law_is_thing : List Str := ["book", "thing"]
def b__law_is_thing : List Sm := [
  .ite (.isi (.loc 1) .str) [.ret (.cmp .isin (.tup [(.loc 1), (.dat (.str "name"))]) (.loc 0))] [],
  .ite (.isi (.loc 1) .tup) [.ret (.and (.cmp .eq (.blt .len [(.loc 1)]) (.dat (.int 2))) (.and (.cmp .eq (.idx (.loc 1) (.dat (.int 0))) (.dat (.str "it"))) (.and (.call "_law_whole" [] [(.idx (.loc 1) (.dat (.int 1)))]) (.chn .le .le (.dat (.int 0)) (.idx (.loc 1) (.dat (.int 1))) (.dat (.int 99))))))] [],
  .ret (.and (.call "_law_whole" [] [(.loc 1)]) (.chn .le .le (.dat (.int 0)) (.loc 1) (.dat (.int 99))))]
def N__law_is_formed : List Str := ["book", "thing", "one"]
def b__law_is_formed : List Sm := [
  .ite (.or (.not (.isi (.loc 1) .tup)) (.or (.cmp .eq (.loc 1) (.tup [])) (.not (.isi (.idx (.loc 1) (.dat (.int 0))) .str)))) [.ret (.dat (.bool false))] [],
  .ite (.cmp .eq (.idx (.loc 1) (.dat (.int 0))) (.dat (.str "fact"))) [.ite (.or (.cmp .ne (.blt .len [(.loc 1)]) (.dat (.int 3))) (.or (.not (.isi (.idx (.loc 1) (.dat (.int 1))) .str)) (.or (.not (.isi (.idx (.loc 1) (.dat (.int 2))) .tup)) (.cmp .eq (.idx (.loc 1) (.dat (.int 2))) (.tup []))))) [.ret (.dat (.bool false))] [], .ite (.cmp .ne (.call "_law_places" [] [(.loc 0), (.idx (.loc 1) (.dat (.int 1)))]) (.blt .len [(.idx (.loc 1) (.dat (.int 2)))])) [.ret (.dat (.bool false))] [], .ret (.cmp .eq (.comp (.loc 2) (.nm 2) (.sq (.idx (.loc 1) (.dat (.int 2)))) [(.not (.call "_law_is_thing" [] [(.loc 0), (.loc 2)]))] [2]) (.lst []))] [],
  .ite (.cmp .eq (.idx (.loc 1) (.dat (.int 0))) (.dat (.str "not"))) [.ret (.and (.cmp .eq (.blt .len [(.loc 1)]) (.dat (.int 2))) (.call "_law_is_formed" [] [(.loc 0), (.idx (.loc 1) (.dat (.int 1)))]))] [],
  .ite (.cmp .ne (.blt .len [(.loc 1)]) (.dat (.int 3))) [.ret (.dat (.bool false))] [],
  .ite (.cmp .isin (.idx (.loc 1) (.dat (.int 0))) (.tup [(.dat (.str "all")), (.dat (.str "some"))])) [.ret (.and (.call "_law_whole" [] [(.idx (.loc 1) (.dat (.int 1)))]) (.and (.chn .le .le (.dat (.int 0)) (.idx (.loc 1) (.dat (.int 1))) (.dat (.int 99))) (.call "_law_is_formed" [] [(.loc 0), (.idx (.loc 1) (.dat (.int 2)))])))] [],
  .ret (.and (.cmp .isin (.idx (.loc 1) (.dat (.int 0))) (.tup [(.dat (.str "and")), (.dat (.str "or")), (.dat (.str "if"))])) (.and (.call "_law_is_formed" [] [(.loc 0), (.idx (.loc 1) (.dat (.int 1)))]) (.call "_law_is_formed" [] [(.loc 0), (.idx (.loc 1) (.dat (.int 2)))])))]
def N__law_is_formula : List Str := ["book", "thing", "some"]
def b__law_is_formula : List Sm := [
  .ite (.not (.call "_law_is_formed" [] [(.loc 0), (.loc 1)])) [.ret (.dat (.bool false))] [],
  .asg (.nm 2) (.call "_law_brought" [] [(.loc 1)]),
  .ret (.cmp .eq (.prm .lset [(.loc 2)]) (.blt .len [(.loc 2)]))]
def N__law_formula : List Str := ["row", "state", "book", "deep", "known", "way", "first", "then", "some", "word", "names_here", "many_things", "place", "number", "pick_at", "kind", "one"]
def b__law_formula : List Sm := [
  .asg (.nm 5) (.ite (.cmp .gt (.loc 3) (.dat (.int 0))) (.bin .mod (.call "_law_next" [false, true] [(.loc 0), (.loc 1)]) (.dat (.int 9))) (.dat (.int 0))),
  .ite (.cmp .lt (.loc 5) (.dat (.int 2))) [.asg (.nm 8) (.comp (.loc 9) (.tp [9, 15]) (.sq (.loc 2)) [(.cmp .ne (.loc 15) (.dat (.str "name")))] [9, 15]), .asg (.nm 9) (.idx (.loc 8) (.bin .mod (.call "_law_next" [false, true] [(.loc 0), (.loc 1)]) (.blt .len [(.loc 8)]))), .asg (.nm 10) (.comp (.loc 16) (.tp [16, 15]) (.sq (.loc 2)) [(.cmp .eq (.loc 15) (.dat (.str "name")))] [16, 15]), .new 11 (.lst []), .for_ (.nm 12) (.rng1 (.call "_law_places" [] [(.loc 2), (.loc 9)])) [.asg (.nm 14) (.call "_law_next" [false, true] [(.loc 0), (.loc 1)]), .ite (.or (.cmp .eq (.loc 4) (.lst [])) (.cmp .eq (.bin .mod (.loc 14) (.dat (.int 4))) (.dat (.int 0)))) [.exp (.mut .append (.loc 11) [(.idx (.loc 10) (.bin .mod (.bin .fdiv (.loc 14) (.dat (.int 4))) (.blt .len [(.loc 10)])))])] [.exp (.mut .append (.loc 11) [(.idx (.loc 4) (.bin .mod (.loc 14) (.blt .len [(.loc 4)])))])]], .ret (.tup [(.dat (.str "fact")), (.loc 9), (.blt .tuple [(.loc 11)])])] [],
  .ite (.cmp .eq (.loc 5) (.dat (.int 2))) [.ret (.tup [(.dat (.str "not")), (.call "_law_formula" [false, true, false, false, false] [(.loc 0), (.loc 1), (.loc 2), (.bin .sub (.loc 3) (.dat (.int 1))), (.loc 4)])])] [],
  .ite (.cmp .isin (.loc 5) (.tup [(.dat (.int 3)), (.dat (.int 4)), (.dat (.int 5))])) [.asg (.nm 13) (.idx (.loc 1) (.dat (.int 1))), .six (.loc 1) (.dat (.int 1)) (.bin .add (.loc 13) (.dat (.int 1))), .asg (.nm 9) (.ite (.cmp .eq (.bin .mod (.call "_law_next" [false, true] [(.loc 0), (.loc 1)]) (.dat (.int 2))) (.dat (.int 0))) (.dat (.str "all")) (.dat (.str "some"))), .ret (.tup [(.loc 9), (.loc 13), (.call "_law_formula" [false, true, false, false, false] [(.loc 0), (.loc 1), (.loc 2), (.bin .sub (.loc 3) (.dat (.int 1))), (.bin .add (.loc 4) (.lst [(.loc 13)]))])])] [],
  .asg (.nm 6) (.call "_law_formula" [false, true, false, false, false] [(.loc 0), (.loc 1), (.loc 2), (.bin .sub (.loc 3) (.dat (.int 1))), (.loc 4)]),
  .asg (.nm 7) (.call "_law_formula" [false, true, false, false, false] [(.loc 0), (.loc 1), (.loc 2), (.bin .sub (.loc 3) (.dat (.int 1))), (.loc 4)]),
  .ret (.tup [(.idx (.lst [(.dat (.str "and")), (.dat (.str "or")), (.dat (.str "if"))]) (.bin .sub (.loc 5) (.dat (.int 6)))), (.loc 6), (.loc 7)])]
def N__law_spoilt_formula : List Str := ["formula", "row", "at", "some", "spots", "spot", "inner"]
def b__law_spoilt_formula : List Sm := [
  .ite (.and (.cmp .lt (.bin .mod (.idx (.loc 1) (.loc 2)) (.dat (.int 3))) (.dat (.int 2))) (.cmp .ne (.idx (.loc 0) (.dat (.int 0))) (.dat (.str "fact")))) [.asg (.nm 4) (.comp (.loc 5) (.nm 5) (.rng2 (.dat (.int 1)) (.blt .len [(.loc 0)])) [(.isi (.idx (.loc 0) (.loc 5)) .tup)] [5]), .asg (.nm 5) (.idx (.loc 4) (.bin .mod (.idx (.loc 1) (.bin .add (.loc 2) (.dat (.int 1)))) (.blt .len [(.loc 4)]))), .asg (.nm 6) (.call "_law_spoilt_formula" [] [(.idx (.loc 0) (.loc 5)), (.loc 1), (.bin .mod (.bin .add (.loc 2) (.dat (.int 2))) (.dat (.int 50)))]), .ret (.bin .add (.bin .add (.slT (.loc 0) (.loc 5)) (.tup [(.loc 6)])) (.slF (.loc 0) (.bin .add (.loc 5) (.dat (.int 1)))))] [],
  .asg (.nm 3) (.lst [(.dat .none), (.tup []), (.slT (.loc 0) (.dat (.int (-1)))), (.bin .add (.loc 0) (.tup [(.dat (.int 1))])), (.blt .list [(.loc 0)]), (.tup [(.dat (.str "not"))]), (.tup [(.dat (.str "fact")), (.dat (.str "man")), (.tup [])])]),
  .asg (.nm 3) (.bin .add (.loc 3) (.lst [(.tup [(.dat (.str "fact")), (.dat (.str "man")), (.tup [(.dat (.int 0)), (.dat (.int 1))])]), (.tup [(.dat (.str "fact")), (.dat (.str "ann")), (.tup [(.dat (.str "ann"))])]), (.tup [(.dat (.str "fact")), (.dat (.str "man")), (.tup [(.dat (.int 100))])])])),
  .asg (.nm 3) (.bin .add (.loc 3) (.lst [(.tup [(.dat (.str "fact")), (.dat (.str "man")), (.tup [(.tup [(.dat (.str "it")), (.dat (.int 3))])])]), (.tup [(.dat (.str "fact")), (.dat (.str "man")), (.tup [(.dat (.int 7))])]), (.tup [(.dat (.str "xor")), (.loc 0), (.loc 0)])])),
  .asg (.nm 3) (.bin .add (.loc 3) (.lst [(.tup [(.dat (.str "all")), (.dat (.int 0)), (.tup [(.dat (.str "all")), (.dat (.int 0)), (.tup [(.dat (.str "fact")), (.dat (.str "man")), (.tup [(.dat (.int 0))])])])]), (.tup [(.dat (.str "some")), (.dat (.int 100)), (.tup [(.dat (.str "fact")), (.dat (.str "man")), (.tup [(.dat (.int 0))])])])])),
  .asg (.nm 3) (.bin .add (.loc 3) (.lst [(.tup [(.dat (.str "fact")), (.dat (.str "man")), (.tup [(.tup [(.dat (.str "it")), (.dat (.int 100))])])]), (.tup [(.dat (.str "fact")), (.dat (.str "man")), (.tup [(.dat (.str "man"))])]), (.tup [(.dat (.str "fact")), (.dat (.str "man")), (.tup [(.dat (.bool true))])])])),
  .asg (.nm 3) (.bin .add (.loc 3) (.lst [(.tup [(.dat (.str "not")), (.loc 0)]), (.dat (.int 7)), (.tup [(.dat (.str "fact")), (.dat (.str "owns")), (.tup [(.dat (.str "ann"))])])])),
  .ret (.idx (.loc 3) (.bin .mod (.idx (.loc 1) (.bin .add (.loc 2) (.dat (.int 1)))) (.dat (.int 21))))]
def N_thing_of : List Str := ["word", "number"]
def b_thing_of : List Sm := [
  .asg (.nm 1) (.call "number_of" [] [(.loc 0)]),
  .ite (.isN true (.loc 1)) [.ret (.loc 1)] [],
  .ite (.and (.cmp .eq (.slT (.loc 0) (.dat (.int 2))) (.dat (.str "it"))) (.isN true (.call "number_of" [] [(.slF (.loc 0) (.dat (.int 2)))]))) [.ret (.tup [(.dat (.str "it")), (.call "number_of" [] [(.slF (.loc 0) (.dat (.int 2)))])])] [],
  .ret (.loc 0)]
def N__law_draw : List Str := ["item", "formula"]
def b__law_draw : List Sm := [
  .ite (.cmp .eq (.idx (.loc 0) (.dat (.int 0))) (.dat (.str "not"))) [.ret (.tup [(.dat (.str "not")), (.loc 1)])] [],
  .ite (.cmp .eq (.idx (.loc 0) (.dat (.int 0))) (.dat (.str "some"))) [.ret (.tup [(.dat (.str "some")), (.idx (.loc 0) (.dat (.int 1))), (.tup [(.dat (.str "and")), (.idx (.loc 0) (.dat (.int 2))), (.loc 1)])])] [],
  .ret (.tup [(.dat (.str "all")), (.idx (.loc 0) (.dat (.int 1))), (.tup [(.dat (.str "if")), (.idx (.loc 0) (.dat (.int 2))), (.ite (.cmp .eq (.idx (.loc 0) (.dat (.int 0))) (.dat (.str "no"))) (.tup [(.dat (.str "not")), (.loc 1)]) (.loc 1))])])]
def N__law_drawn : List Str := ["formula", "store", "found", "at", "left", "item", "held", "one"]
def b__law_drawn : List Sm := [
  .new 2 (.lst [(.tup [(.loc 0), (.loc 1)])]),
  .for_ (.nm 3) (.rng1 (.blt .len [(.loc 1)])) [.asg (.nm 4) (.bin .add (.slT (.loc 1) (.loc 3)) (.slF (.loc 1) (.bin .add (.loc 3) (.dat (.int 1))))), .asg (.nm 5) (.idx (.loc 1) (.loc 3)), .asg (.nm 6) (.comp (.loc 7) (.nm 7) (.sq (.loc 4)) [(.and (.cmp .ne (.idx (.loc 7) (.dat (.int 0))) (.dat (.str "not"))) (.and (.cmp .ne (.idx (.loc 5) (.dat (.int 0))) (.dat (.str "not"))) (.cmp .isin (.idx (.loc 5) (.dat (.int 1))) (.call "_law_loose" [] [(.idx (.loc 7) (.dat (.int 2))), (.lst [])]))))] [7]), .ite (.cmp .eq (.loc 6) (.lst [])) [.for_ (.nm 7) (.sq (.call "_law_drawn" [] [(.call "_law_draw" [] [(.loc 5), (.loc 0)]), (.loc 4)])) [.ite (.cmp .nin (.loc 7) (.loc 2)) [.exp (.mut .append (.loc 2) [(.loc 7)])] []]] []],
  .ret (.loc 2)]
def N__law_ended : List Str := ["couples", "found", "formula", "store", "one", "left"]
def b__law_ended : List Sm := [
  .asg (.nm 1) (.lst []),
  .for_ (.tp [2, 3]) (.sq (.loc 0)) [.asg (.nm 1) (.bin .add (.loc 1) (.comp (.loc 4) (.tp [4, 5]) (.sq (.call "_law_drawn" [] [(.loc 2), (.loc 3)])) [(.cmp .eq (.loc 5) (.tup []))] [4, 5]))],
  .ret (.loc 1)]
def N__law_led_who : List Str := ["part", "state", "number", "found", "formula", "store", "one", "left"]
def b__law_led_who : List Sm := [
  .ite (.cmp .eq (.idx (.loc 0) (.dat (.int 0))) (.dat (.str "name"))) [.ret (.tup [(.idx (.loc 0) (.dat (.int 1))), (.lst [(.tup [])])])] [],
  .ite (.cmp .eq (.idx (.loc 0) (.dat (.int 0))) (.dat (.str "it"))) [.six (.loc 1) (.dat (.int 1)) (.bin .add (.idx (.loc 1) (.dat (.int 1))) (.dat (.int 1))), .ret (.tup [(.tup [(.dat (.str "it")), (.bin .sub (.idx (.loc 1) (.dat (.int 1))) (.dat (.int 1)))]), (.lst [(.tup [])])])] [],
  .asg (.nm 2) (.idx (.loc 1) (.dat (.int 0))),
  .six (.loc 1) (.dat (.int 0)) (.bin .add (.loc 2) (.dat (.int 1))),
  .asg (.nm 3) (.lst []),
  .for_ (.tp [4, 5]) (.sq (.call "_law_led_what" [false, false, true] [(.idx (.loc 0) (.dat (.int 1))), (.loc 2), (.loc 1)])) [.asg (.nm 3) (.bin .add (.loc 3) (.comp (.bin .add (.loc 7) (.tup [(.tup [(.idx (.loc 0) (.dat (.int 0))), (.loc 2), (.loc 6)])])) (.tp [6, 7]) (.sq (.call "_law_drawn" [] [(.loc 4), (.loc 5)])) [] [6, 7]))],
  .ret (.tup [(.loc 2), (.loc 3)])]
def N__law_led_what : List Str := ["part", "number", "state", "fact", "some", "found", "inner", "formula", "store", "thing", "stores", "one"]
def b__law_led_what : List Sm := [
  .asg (.nm 3) (.tup [(.dat (.str "fact")), (.idx (.loc 0) (.dat (.int 1))), (.tup [(.loc 1)])]),
  .ite (.cmp .eq (.idx (.loc 0) (.dat (.int 0))) (.dat (.str "noun"))) [.ret (.lst [(.tup [(.loc 3), (.tup [])])])] [],
  .ite (.cmp .eq (.idx (.loc 0) (.dat (.int 0))) (.dat (.str "such"))) [.ret (.comp (.tup [(.tup [(.dat (.str "and")), (.loc 3), (.loc 11)]), (.loc 8)]) (.tp [11, 8]) (.sq (.call "_law_led_what" [false, false, true] [(.idx (.loc 0) (.dat (.int 2))), (.loc 1), (.loc 2)])) [] [11, 8])] [],
  .ite (.cmp .eq (.idx (.loc 0) (.dat (.int 0))) (.dat (.str "of"))) [.asg (.tp [9, 10]) (.call "_law_led_who" [false, true] [(.idx (.loc 0) (.dat (.int 2))), (.loc 2)]), .ret (.comp (.tup [(.tup [(.dat (.str "fact")), (.idx (.loc 0) (.dat (.int 1))), (.tup [(.loc 1), (.loc 9)])]), (.loc 8)]) (.nm 8) (.sq (.loc 10)) [] [8])] [],
  .asg (.nm 4) (.call "_law_led_what" [false, false, true] [(.idx (.loc 0) (.dat (.int 1))), (.loc 1), (.loc 2)]),
  .ite (.cmp .eq (.idx (.loc 0) (.dat (.int 0))) (.dat (.str "that"))) [.asg (.nm 6) (.call "_law_ended" [] [(.call "_law_led_doing" [false, false, true] [(.idx (.loc 0) (.dat (.int 2))), (.loc 1), (.loc 2)])])] [.asg (.tp [9, 10]) (.call "_law_led_who" [false, true] [(.idx (.loc 0) (.dat (.int 2))), (.loc 2)]), .asg (.nm 6) (.call "_law_ended" [] [(.comp (.tup [(.tup [(.dat (.str "fact")), (.idx (.loc 0) (.dat (.int 3))), (.tup [(.loc 9), (.loc 1)])]), (.loc 8)]) (.nm 8) (.sq (.loc 10)) [] [8])])],
  .asg (.nm 5) (.lst []),
  .for_ (.tp [7, 8]) (.sq (.loc 4)) [.asg (.nm 5) (.bin .add (.loc 5) (.comp (.tup [(.tup [(.dat (.str "and")), (.loc 7), (.loc 11)]), (.loc 8)]) (.nm 11) (.sq (.loc 6)) [] [11]))],
  .ret (.loc 5)]
def N__law_led_doing : List Str := ["part", "thing", "state", "other", "stores", "store", "one"]
def b__law_led_doing : List Sm := [
  .ite (.cmp .eq (.idx (.loc 0) (.dat (.int 0))) (.dat (.str "not"))) [.ret (.comp (.tup [(.loc 6), (.bin .add (.loc 5) (.tup [(.tup [(.dat (.str "not"))])]))]) (.tp [6, 5]) (.sq (.call "_law_led_doing" [false, false, true] [(.idx (.loc 0) (.dat (.int 1))), (.loc 1), (.loc 2)])) [] [6, 5])] [],
  .ite (.cmp .eq (.idx (.loc 0) (.dat (.int 0))) (.dat (.str "to"))) [.asg (.tp [3, 4]) (.call "_law_led_who" [false, true] [(.idx (.loc 0) (.dat (.int 2))), (.loc 2)]), .ret (.comp (.tup [(.tup [(.dat (.str "fact")), (.idx (.loc 0) (.dat (.int 1))), (.tup [(.loc 1), (.loc 3)])]), (.loc 5)]) (.nm 5) (.sq (.loc 4)) [] [5])] [],
  .ret (.lst [(.tup [(.tup [(.dat (.str "fact")), (.idx (.loc 0) (.dat (.int 1))), (.tup [(.loc 1)])]), (.tup [])])])]
def N__law_led : List Str := ["tree", "state", "found", "ones", "others", "one", "thing", "stores", "formula", "store", "other"]
def b__law_led : List Sm := [
  .asg (.nm 2) (.lst []),
  .ite (.cmp .ne (.idx (.loc 0) (.dat (.int 0))) (.dat (.str "says"))) [.asg (.nm 3) (.call "_law_led" [false, true] [(.idx (.loc 0) (.dat (.int 1))), (.loc 1)]), .asg (.nm 4) (.call "_law_led" [false, true] [(.idx (.loc 0) (.dat (.int 2))), (.loc 1)]), .for_ (.nm 5) (.sq (.loc 3)) [.asg (.nm 2) (.bin .add (.loc 2) (.comp (.tup [(.idx (.loc 0) (.dat (.int 0))), (.loc 5), (.loc 10)]) (.nm 10) (.sq (.loc 4)) [] [10]))], .ret (.loc 2)] [],
  .asg (.tp [6, 7]) (.call "_law_led_who" [false, true] [(.idx (.loc 0) (.dat (.int 1))), (.loc 1)]),
  .for_ (.tp [8, 9]) (.sq (.call "_law_led_doing" [false, false, true] [(.idx (.loc 0) (.dat (.int 2))), (.loc 6), (.loc 1)])) [.asg (.nm 2) (.bin .add (.loc 2) (.call "_law_ended" [] [(.comp (.tup [(.loc 8), (.bin .add (.loc 5) (.loc 9))]) (.nm 5) (.sq (.loc 7)) [] [5])]))],
  .ret (.loc 2)]
def N__law_things : List Str := ["formula", "found", "part"]
def b__law_things : List Sm := [
  .ite (.cmp .eq (.idx (.loc 0) (.dat (.int 0))) (.dat (.str "fact"))) [.ret (.blt .list [(.idx (.loc 0) (.dat (.int 2)))])] [],
  .asg (.nm 1) (.lst []),
  .for_ (.nm 2) (.sq (.slF (.loc 0) (.dat (.int 1)))) [.ite (.isi (.loc 2) .tup) [.asg (.nm 1) (.bin .add (.loc 1) (.call "_law_things" [] [(.loc 2)]))] []],
  .ret (.loc 1)]
def N__law_facts : List Str := ["formula", "found", "part"]
def b__law_facts : List Sm := [
  .ite (.cmp .eq (.idx (.loc 0) (.dat (.int 0))) (.dat (.str "fact"))) [.ret (.lst [(.call "_law_text" [] [(.loc 0)])])] [],
  .asg (.nm 1) (.lst []),
  .for_ (.nm 2) (.sq (.slF (.loc 0) (.dat (.int 1)))) [.ite (.isi (.loc 2) .tup) [.asg (.nm 1) (.bin .add (.loc 1) (.call "_law_facts" [] [(.loc 2)]))] []],
  .ret (.loc 1)]
def N__law_heads_due : List Str := ["some", "word"]
def b__law_heads_due : List Sm := [
  .ret (.comp (.ite (.cmp .eq (.loc 1) (.dat (.str "some"))) (.dat (.str "some")) (.dat (.str "all"))) (.nm 1) (.sq (.loc 0)) [] [1])]
def N__law_moved : List Str := ["formula", "many_things", "its", "found", "one", "part"]
def b__law_moved : List Sm := [
  .ite (.cmp .eq (.idx (.loc 0) (.dat (.int 0))) (.dat (.str "fact"))) [.new 3 (.lst []), .for_ (.nm 4) (.sq (.idx (.loc 0) (.dat (.int 2)))) [.ite (.isi (.loc 4) .tup) [.exp (.mut .append (.loc 3) [(.tup [(.dat (.str "it")), (.bin .add (.idx (.loc 4) (.dat (.int 1))) (.loc 2))])])] [.exp (.mut .append (.loc 3) [(.ite (.call "_law_whole" [] [(.loc 4)]) (.bin .add (.loc 4) (.loc 1)) (.loc 4))])]], .ret (.tup [(.idx (.loc 0) (.dat (.int 0))), (.idx (.loc 0) (.dat (.int 1))), (.blt .tuple [(.loc 3)])])] [],
  .ite (.cmp .isin (.idx (.loc 0) (.dat (.int 0))) (.tup [(.dat (.str "all")), (.dat (.str "some"))])) [.ret (.tup [(.idx (.loc 0) (.dat (.int 0))), (.bin .add (.idx (.loc 0) (.dat (.int 1))) (.loc 1)), (.call "_law_moved" [] [(.idx (.loc 0) (.dat (.int 2))), (.loc 1), (.loc 2)])])] [],
  .ret (.bin .add (.slT (.loc 0) (.dat (.int 1))) (.blt .tuple [(.comp (.call "_law_moved" [] [(.loc 5), (.loc 1), (.loc 2)]) (.nm 5) (.sq (.slF (.loc 0) (.dat (.int 1)))) [] [5])]))]
def N__law_orders : List Str := ["many", "found", "one", "longer", "order", "spot"]
def b__law_orders : List Sm := [
  .asg (.nm 1) (.lst [(.lst [])]),
  .for_ (.nm 2) (.rng1 (.loc 0)) [.new 3 (.lst []), .for_ (.nm 4) (.sq (.loc 1)) [.for_ (.nm 5) (.rng1 (.bin .add (.blt .len [(.loc 4)]) (.dat (.int 1)))) [.exp (.mut .append (.loc 3) [(.bin .add (.bin .add (.slT (.loc 4) (.loc 5)) (.lst [(.loc 2)])) (.slF (.loc 4) (.loc 5)))])]], .asg (.nm 1) (.loc 3)],
  .ret (.loc 1)]
def N__law_opened : List Str := ["formula"]
def b__law_opened : List Sm := [
  .ite (.cmp .eq (.idx (.loc 0) (.dat (.int 0))) (.dat (.str "some"))) [.ret (.bin .add (.lst [(.idx (.loc 0) (.dat (.int 1)))]) (.call "_law_opened" [] [(.idx (.loc 0) (.dat (.int 2)))]))] [],
  .ite (.cmp .eq (.idx (.loc 0) (.dat (.int 0))) (.dat (.str "and"))) [.ret (.bin .add (.call "_law_opened" [] [(.idx (.loc 0) (.dat (.int 1)))]) (.call "_law_opened" [] [(.idx (.loc 0) (.dat (.int 2)))]))] [],
  .ret (.lst [(.call "_law_flat" [] [(.loc 0)])])]
def N__law_flat : List Str := ["formula", "word", "row", "found", "one"]
def b__law_flat : List Sm := [
  .asg (.nm 1) (.idx (.loc 0) (.dat (.int 0))),
  .ite (.cmp .eq (.loc 1) (.dat (.str "fact"))) [.ret (.loc 0)] [],
  .ite (.cmp .eq (.loc 1) (.dat (.str "not"))) [.ret (.tup [(.dat (.str "not")), (.call "_law_flat" [] [(.idx (.loc 0) (.dat (.int 1)))])])] [],
  .ite (.cmp .eq (.loc 1) (.dat (.str "or"))) [.ret (.tup [(.dat (.str "or")), (.call "_law_flat" [] [(.idx (.loc 0) (.dat (.int 1)))]), (.call "_law_flat" [] [(.idx (.loc 0) (.dat (.int 2)))])])] [],
  .ite (.cmp .eq (.loc 1) (.dat (.str "all"))) [.ret (.tup [(.dat (.str "all")), (.idx (.loc 0) (.dat (.int 1))), (.call "_law_flat" [] [(.idx (.loc 0) (.dat (.int 2)))])])] [],
  .new 2 (.call "_law_opened" [] [(.ite (.cmp .eq (.loc 1) (.dat (.str "if"))) (.idx (.loc 0) (.dat (.int 1))) (.loc 0))]),
  .asg (.nm 3) (.ite (.cmp .eq (.loc 1) (.dat (.str "if"))) (.call "_law_flat" [] [(.idx (.loc 0) (.dat (.int 2)))]) (.mut .pop (.loc 2) [])),
  .for_ (.nm 4) (.sq (.rev (.loc 2))) [.ite (.call "_law_whole" [] [(.loc 4)]) [.asg (.nm 3) (.tup [(.ite (.cmp .eq (.loc 1) (.dat (.str "if"))) (.dat (.str "all")) (.dat (.str "some"))), (.loc 4), (.loc 3)])] [.asg (.nm 3) (.tup [(.ite (.cmp .eq (.loc 1) (.dat (.str "if"))) (.dat (.str "if")) (.dat (.str "and"))), (.loc 4), (.loc 3)])]],
  .ret (.loc 3)]
def N_ties : List Str := ["book", "formula"]
def b_ties : List Sm := [
  .exp (.call "look_formula" [] [(.loc 0), (.loc 1)]),
  .ret (.call "ties_of" [] [(.loc 1)])]
def N_tied : List Str := ["book", "formula", "tie"]
def b_tied : List Sm := [
  .exp (.call "look_formula" [] [(.loc 0), (.loc 1)]),
  .ite (.or (.not (.isi (.loc 2) .tup)) (.cmp .nin (.loc 2) (.call "ties_of" [] [(.loc 1)]))) [.never] [],
  .ret (.call "flat_of" [] [(.call "tied_of" [] [(.loc 1), (.loc 2)])])]
def N_is_row : List Str := ["book", "thing", "many", "one"]
def b_is_row : List Sm := [
  .ite (.or (.not (.isi (.loc 1) .tup)) (.or (.cmp .ne (.blt .len [(.loc 1)]) (.dat (.int 2))) (.not (.isi (.idx (.loc 1) (.dat (.int 0))) .str)))) [.ret (.dat (.bool false))] [],
  .ite (.or (.not (.isi (.idx (.loc 1) (.dat (.int 1))) .tup)) (.or (.not (.idx (.loc 1) (.dat (.int 1)))) (.cmp .ne (.call "places_of" [] [(.loc 0), (.idx (.loc 1) (.dat (.int 0)))]) (.blt .len [(.idx (.loc 1) (.dat (.int 1)))])))) [.ret (.dat (.bool false))] [],
  .ret (.not (.comp (.loc 3) (.nm 3) (.sq (.idx (.loc 1) (.dat (.int 1)))) [(.not (.call "is_within" [] [(.loc 3), (.dat (.int 0)), (.bin .sub (.loc 2) (.dat (.int 1)))]))] [3]))]
def N_is_world_of : List Str := ["book", "thing", "row", "many", "names", "facts", "one", "other"]
def b_is_world_of : List Sm := [
  .ite (.or (.not (.isi (.loc 1) .tup)) (.or (.cmp .ne (.blt .len [(.loc 1)]) (.dat (.int 3))) (.not (.call "is_within" [] [(.idx (.loc 1) (.dat (.int 0))), (.dat (.int 1)), (.dat g_MOST_THINGS)])))) [.ret (.dat (.bool false))] [],
  .asg (.tp [3, 4, 5]) (.loc 1),
  .ite (.or (.not (.isi (.loc 4) .tup)) (.not (.isi (.loc 5) .tup))) [.ret (.dat (.bool false))] [],
  .for_ (.nm 2) (.sq (.loc 4)) [.ite (.or (.not (.isi (.loc 2) .tup)) (.or (.cmp .ne (.blt .len [(.loc 2)]) (.dat (.int 2))) (.or (.not (.isi (.idx (.loc 2) (.dat (.int 0))) .str)) (.cmp .nin (.tup [(.idx (.loc 2) (.dat (.int 0))), (.dat (.str "name"))]) (.loc 0))))) [.ret (.dat (.bool false))] [], .ite (.not (.call "is_within" [] [(.idx (.loc 2) (.dat (.int 1))), (.dat (.int 0)), (.bin .sub (.loc 3) (.dat (.int 1)))])) [.ret (.dat (.bool false))] []],
  .ite (.comp (.dat (.int 1)) (.tp [6, 7]) (.zip (.loc 4) (.slF (.loc 4) (.dat (.int 1)))) [(.cmp .ge (.idx (.loc 6) (.dat (.int 0))) (.idx (.loc 7) (.dat (.int 0))))] [6, 7]) [.ret (.dat (.bool false))] [],
  .ite (.comp (.loc 2) (.nm 2) (.sq (.loc 5)) [(.not (.call "is_row" [] [(.loc 0), (.loc 2), (.loc 3)]))] [2]) [.ret (.dat (.bool false))] [],
  .ret (.not (.comp (.dat (.int 1)) (.tp [6, 7]) (.zip (.loc 5) (.slF (.loc 5) (.dat (.int 1)))) [(.cmp .ge (.loc 6) (.loc 7))] [6, 7]))]
def N_is_world : List Str := ["book", "thing"]
def b_is_world : List Sm := [
  .exp (.call "look" [] [(.loc 0)]),
  .ret (.call "is_world_of" [] [(.loc 0), (.loc 1)])]
def N_look_world : List Str := ["book", "world", "names", "known", "name", "thing"]
def b_look_world : List Sm := [
  .ite (.not (.call "is_world_of" [] [(.loc 0), (.loc 1)])) [.never] [],
  .asg (.nm 3) (.comp (.loc 4) (.tp [4, 5]) (.sq (.idx (.loc 1) (.dat (.int 1)))) [] [4, 5]),
  .ite (.comp (.loc 4) (.nm 4) (.sq (.loc 2)) [(.cmp .nin (.loc 4) (.loc 3))] [4]) [.never] []]
def N__law_statement : List Str := ["script", "at", "book", "deep", "row"]
def b__law_statement : List Sm := [
  .asg (.nm 4) (.call "_law_row" [] [(.loc 0), (.loc 1)]),
  .ret (.call "_law_formula" [false, true, false, false, false] [(.loc 4), (.lst [(.dat (.int 0)), (.bin .mod (.idx (.loc 4) (.dat (.int 0))) (.dat (.int 40)))]), (.loc 2), (.loc 3), (.lst [])])]
def N__law_rows : List Str := ["many", "places", "found", "place", "longer", "one", "thing"]
def b__law_rows : List Sm := [
  .asg (.nm 2) (.lst [(.tup [])]),
  .for_ (.nm 3) (.rng1 (.loc 1)) [.asg (.nm 4) (.lst []), .for_ (.nm 5) (.sq (.loc 2)) [.asg (.nm 4) (.bin .add (.loc 4) (.comp (.bin .add (.loc 5) (.tup [(.loc 6)])) (.nm 6) (.rng1 (.loc 0)) [] [6]))], .asg (.nm 2) (.loc 4)],
  .ret (.loc 2)]
def N__law_fact_parts : List Str := ["formula", "found", "part"]
def b__law_fact_parts : List Sm := [
  .ite (.cmp .eq (.idx (.loc 0) (.dat (.int 0))) (.dat (.str "fact"))) [.ret (.lst [(.loc 0)])] [],
  .asg (.nm 1) (.lst []),
  .for_ (.nm 2) (.sq (.slF (.loc 0) (.dat (.int 1)))) [.ite (.isi (.loc 2) .tup) [.asg (.nm 1) (.bin .add (.loc 1) (.call "_law_fact_parts" [] [(.loc 2)]))] []],
  .ret (.loc 1)]
def N__law_few : List Str := ["script", "at", "deep", "book", "row", "pair"]
def b__law_few : List Sm := [
  .asg (.nm 3) (.tup [(.tup [(.dat (.str "ann")), (.dat (.str "name"))]), (.tup [(.dat (.str "man")), (.dat (.str "noun"))]), (.tup [(.dat (.str "sleeps")), (.dat (.str "does"))]), (.tup [(.dat (.str "owns")), (.dat (.str "to"))])]),
  .asg (.nm 4) (.call "_law_row" [] [(.loc 0), (.loc 1)]),
  .asg (.nm 5) (.lst [(.tup [(.dat (.str "man")), (.dat (.str "noun"))]), (.idx (.lst [(.tup [(.dat (.str "sleeps")), (.dat (.str "does"))]), (.tup [(.dat (.str "owns")), (.dat (.str "to"))])]) (.bin .mod (.idx (.loc 4) (.dat (.int 59))) (.dat (.int 2))))]),
  .ret (.call "_law_formula" [false, true, false, false, false] [(.loc 4), (.lst [(.dat (.int 0)), (.bin .mod (.idx (.loc 4) (.dat (.int 0))) (.dat (.int 40)))]), (.bin .add (.tup [(.idx (.loc 3) (.dat (.int 0)))]) (.blt .tuple [(.loc 5)])), (.loc 2), (.lst [])])]
def N_is_at : List Str := ["thing", "at", "row"]
def b_is_at : List Sm := [
  .ret (.and (.cmp .gt (.blt .len [(.loc 0)]) (.loc 1)) (.call "is_within" [] [(.idx (.loc 0) (.loc 1)), (.dat (.int 0)), (.bin .sub (.blt .len [(.loc 2)]) (.dat (.int 1)))]))]
def N_is_shut : List Str := ["book", "row", "many", "thing", "formula", "part", "more", "sides", "parts"]
def b_is_shut : List Sm := [
  .ite (.cmp .eq (.idx (.loc 3) (.dat (.int 0))) (.dat (.str "shut"))) [.ite (.or (.cmp .ne (.blt .len [(.loc 3)]) (.dat (.int 3))) (.or (.not (.call "is_at" [] [(.loc 3), (.dat (.int 1)), (.loc 1)])) (.not (.call "is_at" [] [(.loc 3), (.dat (.int 2)), (.loc 1)])))) [.ret (.dat (.bool false))] [], .ret (.cmp .eq (.idx (.loc 1) (.idx (.loc 3) (.dat (.int 2)))) (.tup [(.dat (.str "not")), (.idx (.loc 1) (.idx (.loc 3) (.dat (.int 1))))]))] [],
  .ite (.not (.call "is_at" [] [(.loc 3), (.dat (.int 1)), (.loc 1)])) [.ret (.dat (.bool false))] [],
  .asg (.nm 4) (.idx (.loc 1) (.idx (.loc 3) (.dat (.int 1)))),
  .ite (.cmp .eq (.idx (.loc 3) (.dat (.int 0))) (.dat (.str "either"))) [.asg (.nm 7) (.call "sides_of" [] [(.loc 4)]), .ite (.isN false (.loc 7)) [.ret (.dat (.bool false))] [], .ret (.and (.call "is_shut" [] [(.loc 0), (.bin .add (.loc 1) (.lst [(.idx (.loc 7) (.dat (.int 0)))])), (.loc 2), (.idx (.loc 3) (.dat (.int 2)))]) (.call "is_shut" [] [(.loc 0), (.bin .add (.loc 1) (.lst [(.idx (.loc 7) (.dat (.int 1)))])), (.loc 2), (.idx (.loc 3) (.dat (.int 3)))]))] [],
  .ite (.cmp .eq (.idx (.loc 3) (.dat (.int 0))) (.dat (.str "both"))) [.asg (.nm 8) (.call "parts_of" [] [(.loc 4)]), .ret (.and (.cmp .eq (.blt .len [(.loc 3)]) (.dat (.int 3))) (.and (.isN true (.loc 8)) (.call "is_shut" [] [(.loc 0), (.bin .add (.loc 1) (.loc 8)), (.loc 2), (.idx (.loc 3) (.dat (.int 2)))])))] [],
  .ite (.cmp .eq (.idx (.loc 3) (.dat (.int 0))) (.dat (.str "new"))) [.asg (.nm 5) (.call "put_in" [] [(.loc 4), (.tup [(.dat (.str "it")), (.loc 2)]), (.dat (.str "some"))]), .ret (.and (.cmp .eq (.blt .len [(.loc 3)]) (.dat (.int 3))) (.and (.isN true (.loc 5)) (.call "is_shut" [] [(.loc 0), (.bin .add (.loc 1) (.lst [(.loc 5)])), (.bin .add (.loc 2) (.dat (.int 1))), (.idx (.loc 3) (.dat (.int 2)))])))] [],
  .ite (.or (.cmp .ne (.blt .len [(.loc 3)]) (.dat (.int 4))) (.not (.call "may_be" [] [(.loc 0), (.idx (.loc 3) (.dat (.int 2))), (.loc 2)]))) [.ret (.dat (.bool false))] [],
  .asg (.nm 5) (.call "put_in" [] [(.loc 4), (.idx (.loc 3) (.dat (.int 2))), (.dat (.str "all"))]),
  .asg (.nm 6) (.ite (.cmp .eq (.idx (.loc 3) (.dat (.int 2))) (.tup [(.dat (.str "it")), (.loc 2)])) (.bin .add (.loc 2) (.dat (.int 1))) (.loc 2)),
  .ret (.and (.isN true (.loc 5)) (.call "is_shut" [] [(.loc 0), (.bin .add (.loc 1) (.lst [(.loc 5)])), (.loc 6), (.idx (.loc 3) (.dat (.int 3)))]))]
def N_may_be : List Str := ["book", "thing", "many"]
def b_may_be : List Sm := [
  .ite (.isi (.loc 1) .str) [.ret (.cmp .isin (.tup [(.loc 1), (.dat (.str "name"))]) (.loc 0))] [],
  .ite (.or (.not (.isi (.loc 1) .tup)) (.or (.cmp .ne (.blt .len [(.loc 1)]) (.dat (.int 2))) (.cmp .ne (.slT (.loc 1) (.dat (.int 1))) (.tup [(.dat (.str "it"))])))) [.ret (.dat (.bool false))] [],
  .ret (.call "is_within" [] [(.idx (.loc 1) (.dat (.int 1))), (.dat (.int 0)), (.loc 2)])]
def N__law_parts : List Str := ["formula", "inner"]
def b__law_parts : List Sm := [
  .ite (.cmp .eq (.idx (.loc 0) (.dat (.int 0))) (.dat (.str "and"))) [.ret (.lst [(.idx (.loc 0) (.dat (.int 1))), (.idx (.loc 0) (.dat (.int 2)))])] [],
  .ite (.cmp .ne (.idx (.loc 0) (.dat (.int 0))) (.dat (.str "not"))) [.ret (.dat .none)] [],
  .asg (.nm 1) (.idx (.loc 0) (.dat (.int 1))),
  .ite (.cmp .eq (.idx (.loc 1) (.dat (.int 0))) (.dat (.str "not"))) [.ret (.lst [(.idx (.loc 1) (.dat (.int 1)))])] [],
  .ite (.cmp .eq (.idx (.loc 1) (.dat (.int 0))) (.dat (.str "or"))) [.ret (.lst [(.tup [(.dat (.str "not")), (.idx (.loc 1) (.dat (.int 1)))]), (.tup [(.dat (.str "not")), (.idx (.loc 1) (.dat (.int 2)))])])] [],
  .ret (.ite (.cmp .eq (.idx (.loc 1) (.dat (.int 0))) (.dat (.str "if"))) (.lst [(.idx (.loc 1) (.dat (.int 1))), (.tup [(.dat (.str "not")), (.idx (.loc 1) (.dat (.int 2)))])]) (.dat .none))]
def N__law_sides : List Str := ["formula"]
def b__law_sides : List Sm := [
  .ite (.cmp .eq (.idx (.loc 0) (.dat (.int 0))) (.dat (.str "or"))) [.ret (.lst [(.idx (.loc 0) (.dat (.int 1))), (.idx (.loc 0) (.dat (.int 2)))])] [],
  .ite (.cmp .eq (.idx (.loc 0) (.dat (.int 0))) (.dat (.str "if"))) [.ret (.lst [(.tup [(.dat (.str "not")), (.idx (.loc 0) (.dat (.int 1)))]), (.idx (.loc 0) (.dat (.int 2)))])] [],
  .ite (.and (.cmp .eq (.idx (.loc 0) (.dat (.int 0))) (.dat (.str "not"))) (.cmp .eq (.idx (.idx (.loc 0) (.dat (.int 1))) (.dat (.int 0))) (.dat (.str "and")))) [.ret (.lst [(.tup [(.dat (.str "not")), (.idx (.idx (.loc 0) (.dat (.int 1))) (.dat (.int 1)))]), (.tup [(.dat (.str "not")), (.idx (.idx (.loc 0) (.dat (.int 1))) (.dat (.int 2)))])])] [],
  .ret (.dat .none)]
def N__law_lines : List Str := ["thing"]
def b__law_lines : List Sm := [
  .ite (.or (.not (.isi (.loc 0) .tup)) (.or (.cmp .lt (.blt .len [(.loc 0)]) (.dat (.int 3))) (.not (.isi (.idx (.loc 0) (.dat (.int 0))) .str)))) [.ret (.dat (.int 1000))] [],
  .ite (.and (.cmp .eq (.idx (.loc 0) (.dat (.int 0))) (.dat (.str "shut"))) (.cmp .eq (.blt .len [(.loc 0)]) (.dat (.int 3)))) [.ret (.dat (.int 1))] [],
  .ite (.or (.and (.cmp .isin (.idx (.loc 0) (.dat (.int 0))) (.tup [(.dat (.str "both")), (.dat (.str "new"))])) (.cmp .eq (.blt .len [(.loc 0)]) (.dat (.int 3)))) (.and (.cmp .eq (.idx (.loc 0) (.dat (.int 0))) (.dat (.str "each"))) (.cmp .eq (.blt .len [(.loc 0)]) (.dat (.int 4))))) [.ret (.bin .add (.dat (.int 1)) (.call "_law_lines" [] [(.idx (.loc 0) (.dat (.int (-1))))]))] [],
  .ite (.and (.cmp .eq (.idx (.loc 0) (.dat (.int 0))) (.dat (.str "either"))) (.cmp .eq (.blt .len [(.loc 0)]) (.dat (.int 4)))) [.ret (.bin .add (.bin .add (.dat (.int 1)) (.call "_law_lines" [] [(.idx (.loc 0) (.dat (.int 2)))])) (.call "_law_lines" [] [(.idx (.loc 0) (.dat (.int 3)))]))] [],
  .ret (.dat (.int 1000))]
def N__law_is_paper : List Str := ["book", "premises", "conclusion", "thing", "row"]
def b__law_is_paper : List Sm := [
  .ite (.cmp .gt (.call "_law_lines" [] [(.loc 3)]) (.dat (.int 400))) [.ret (.dat (.bool false))] [],
  .asg (.nm 4) (.bin .add (.loc 1) (.lst [(.tup [(.dat (.str "not")), (.loc 2)])])),
  .ret (.call "_law_shuts" [] [(.loc 0), (.loc 4), (.dat (.int 0)), (.loc 3)])]
def N__law_valid : List Str := ["row", "at", "a", "b", "c", "every", "then", "ann", "wide", "some", "narrow"]
def b__law_valid : List Sm := [
  .asg (.nm 2) (.tup [(.dat (.str "fact")), (.dat (.str "man")), (.tup [(.dat (.int 0))])]),
  .asg (.nm 3) (.tup [(.dat (.str "fact")), (.dat (.str "tall")), (.tup [(.dat (.int 0))])]),
  .asg (.nm 4) (.tup [(.dat (.str "fact")), (.dat (.str "sleeps")), (.tup [(.dat (.int 0))])]),
  .asg (.nm 5) (.tup [(.dat (.str "all")), (.dat (.int 0)), (.tup [(.dat (.str "if")), (.loc 2), (.loc 3)])]),
  .asg (.nm 6) (.tup [(.dat (.str "all")), (.dat (.int 1)), (.tup [(.dat (.str "if")), (.tup [(.dat (.str "fact")), (.dat (.str "tall")), (.tup [(.dat (.int 1))])]), (.tup [(.dat (.str "fact")), (.dat (.str "sleeps")), (.tup [(.dat (.int 1))])])])]),
  .asg (.nm 7) (.tup [(.dat (.str "fact")), (.dat (.str "man")), (.tup [(.dat (.str "ann"))])]),
  .asg (.nm 8) (.tup [(.dat (.str "some")), (.dat (.int 1)), (.tup [(.dat (.str "all")), (.dat (.int 0)), (.tup [(.dat (.str "if")), (.loc 2), (.tup [(.dat (.str "fact")), (.dat (.str "owns")), (.tup [(.dat (.int 0)), (.dat (.int 1))])])])])]),
  .asg (.nm 9) (.lst [(.tup [(.lst [(.loc 5), (.loc 6)]), (.tup [(.dat (.str "all")), (.dat (.int 0)), (.tup [(.dat (.str "if")), (.loc 2), (.loc 4)])])])]),
  .asg (.nm 9) (.bin .add (.loc 9) (.lst [(.tup [(.lst [(.loc 5), (.tup [(.dat (.str "some")), (.dat (.int 1)), (.tup [(.dat (.str "fact")), (.dat (.str "man")), (.tup [(.dat (.int 1))])])])]), (.tup [(.dat (.str "some")), (.dat (.int 0)), (.loc 3)])])])),
  .asg (.nm 10) (.tup [(.dat (.str "all")), (.dat (.int 0)), (.tup [(.dat (.str "if")), (.loc 2), (.tup [(.dat (.str "some")), (.dat (.int 1)), (.tup [(.dat (.str "fact")), (.dat (.str "owns")), (.tup [(.dat (.int 0)), (.dat (.int 1))])])])])]),
  .asg (.nm 9) (.bin .add (.loc 9) (.lst [(.tup [(.lst [(.loc 5), (.loc 7)]), (.tup [(.dat (.str "fact")), (.dat (.str "tall")), (.tup [(.dat (.str "ann"))])])]), (.tup [(.lst [(.loc 8)]), (.loc 10)])])),
  .asg (.nm 9) (.bin .add (.loc 9) (.lst [(.tup [(.lst [(.tup [(.dat (.str "not")), (.tup [(.dat (.str "some")), (.dat (.int 0)), (.loc 2)])])]), (.tup [(.dat (.str "all")), (.dat (.int 0)), (.tup [(.dat (.str "not")), (.loc 2)])])]), (.tup [(.lst [(.loc 7)]), (.tup [(.dat (.str "some")), (.dat (.int 0)), (.loc 2)])])])),
  .asg (.nm 9) (.bin .add (.loc 9) (.lst [(.tup [(.lst []), (.tup [(.dat (.str "or")), (.loc 7), (.tup [(.dat (.str "not")), (.loc 7)])])])])),
  .asg (.nm 9) (.bin .add (.loc 9) (.lst [(.tup [(.lst [(.tup [(.dat (.str "and")), (.loc 7), (.loc 5)])]), (.tup [(.dat (.str "and")), (.loc 5), (.loc 7)])]), (.tup [(.lst [(.tup [(.dat (.str "all")), (.dat (.int 0)), (.loc 2)])]), (.tup [(.dat (.str "some")), (.dat (.int 2)), (.tup [(.dat (.str "fact")), (.dat (.str "man")), (.tup [(.dat (.int 2))])])])])])),
  .asg (.nm 9) (.bin .add (.loc 9) (.lst [(.tup [(.lst [(.tup [(.dat (.str "all")), (.dat (.int 0)), (.tup [(.dat (.str "all")), (.dat (.int 1)), (.tup [(.dat (.str "fact")), (.dat (.str "owns")), (.tup [(.dat (.int 0)), (.dat (.int 1))])])])])]), (.tup [(.dat (.str "all")), (.dat (.int 2)), (.tup [(.dat (.str "fact")), (.dat (.str "owns")), (.tup [(.dat (.int 2)), (.dat (.int 2))])])])])])),
  .asg (.nm 9) (.bin .add (.loc 9) (.lst [(.tup [(.lst [(.tup [(.dat (.str "if")), (.loc 7), (.loc 7)]), (.tup [(.dat (.str "not")), (.loc 7)])]), (.tup [(.dat (.str "not")), (.tup [(.dat (.str "and")), (.loc 7), (.loc 5)])])]), (.tup [(.lst [(.loc 7), (.tup [(.dat (.str "not")), (.loc 7)])]), (.loc 8)])])),
  .ret (.idx (.loc 9) (.bin .mod (.idx (.loc 0) (.loc 1)) (.dat (.int 12))))]
def N__law_bent : List Str := ["thing", "row", "at", "way", "some", "spot"]
def b__law_bent : List Sm := [
  .asg (.nm 3) (.bin .mod (.idx (.loc 1) (.bin .mod (.loc 2) (.dat (.int 60)))) (.dat (.int 5))),
  .ite (.and (.cmp .lt (.loc 3) (.dat (.int 3))) (.cmp .ne (.idx (.loc 0) (.dat (.int 0))) (.dat (.str "shut")))) [.asg (.nm 5) (.bin .sub (.bin .sub (.blt .len [(.loc 0)]) (.dat (.int 1))) (.ite (.cmp .eq (.idx (.loc 0) (.dat (.int 0))) (.dat (.str "either"))) (.bin .mod (.idx (.loc 1) (.bin .mod (.bin .add (.loc 2) (.dat (.int 1))) (.dat (.int 60)))) (.dat (.int 2))) (.dat (.int 0)))), .ret (.bin .add (.bin .add (.slT (.loc 0) (.loc 5)) (.tup [(.call "_law_bent" [] [(.idx (.loc 0) (.loc 5)), (.loc 1), (.bin .add (.loc 2) (.dat (.int 2)))])])) (.slF (.loc 0) (.bin .add (.loc 5) (.dat (.int 1)))))] [],
  .asg (.nm 4) (.lst [(.tup [(.dat (.str "shut")), (.dat (.int 0)), (.dat (.int 1))]), (.tup [(.dat (.str "shut")), (.dat (.int 1)), (.dat (.int 0))]), (.slT (.loc 0) (.dat (.int (-1)))), (.bin .add (.loc 0) (.tup [(.dat (.int 0))])), (.tup [(.dat (.str "both")), (.dat (.int 0)), (.loc 0)]), (.dat .none), (.tup [(.dat (.str "shut")), (.dat (.bool true)), (.dat (.int 0))]), (.tup [])]),
  .asg (.nm 4) (.bin .add (.loc 4) (.lst [(.bin .add (.bin .add (.slT (.loc 0) (.dat (.int 1))) (.tup [(.bin .mod (.idx (.loc 1) (.bin .mod (.bin .add (.loc 2) (.dat (.int 3))) (.dat (.int 60)))) (.dat (.int 5)))])) (.slF (.loc 0) (.dat (.int 2)))), (.tup [(.dat (.str "new")), (.dat (.int 0)), (.loc 0)]), (.tup [(.dat (.str "each")), (.dat (.int 0)), (.tup [(.dat (.str "it")), (.dat (.int 0))]), (.loc 0)])])),
  .asg (.nm 4) (.bin .add (.loc 4) (.lst [(.tup [(.dat (.str "each")), (.dat (.int 0)), (.dat (.str "ann")), (.loc 0)]), (.tup [(.dat (.str "each")), (.dat (.int 0)), (.tup [(.dat (.str "it")), (.dat (.int 1))]), (.loc 0)]), (.tup [(.dat (.str "either")), (.dat (.int 0)), (.loc 0), (.loc 0)])])),
  .asg (.nm 4) (.bin .add (.loc 4) (.lst [(.blt .list [(.loc 0)]), (.tup [(.dat (.str "shut")), (.dat (.int 2)), (.dat (.int 2))])])),
  .ret (.idx (.loc 4) (.bin .mod (.idx (.loc 1) (.bin .mod (.bin .add (.loc 2) (.dat (.int 4))) (.dat (.int 60)))) (.dat (.int 16))))]
def N__law_ground : List Str := ["row", "state", "left", "deep", "way", "first"]
def b__law_ground : List Sm := [
  .asg (.nm 4) (.ite (.and (.cmp .gt (.loc 3) (.dat (.int 0))) (.cmp .gt (.idx (.loc 2) (.dat (.int 0))) (.dat (.int 2)))) (.bin .mod (.call "_law_next" [false, true] [(.loc 0), (.loc 1)]) (.dat (.int 6))) (.dat (.int 0))),
  .ite (.cmp .lt (.loc 4) (.dat (.int 2))) [.six (.loc 2) (.dat (.int 0)) (.bin .sub (.idx (.loc 2) (.dat (.int 0))) (.dat (.int 1))), .ret (.tup [(.dat (.str "fact")), (.idx (.lst [(.dat (.str "man")), (.dat (.str "sleeps")), (.dat (.str "tall"))]) (.bin .mod (.call "_law_next" [false, true] [(.loc 0), (.loc 1)]) (.dat (.int 3)))), (.tup [(.dat (.str "ann"))])])] [],
  .ite (.cmp .eq (.loc 4) (.dat (.int 2))) [.ret (.tup [(.dat (.str "not")), (.call "_law_ground" [false, true, true, false] [(.loc 0), (.loc 1), (.loc 2), (.bin .sub (.loc 3) (.dat (.int 1)))])])] [],
  .asg (.nm 5) (.call "_law_ground" [false, true, true, false] [(.loc 0), (.loc 1), (.loc 2), (.bin .sub (.loc 3) (.dat (.int 1)))]),
  .ret (.tup [(.idx (.lst [(.dat (.str "and")), (.dat (.str "or")), (.dat (.str "if"))]) (.bin .sub (.loc 4) (.dat (.int 3)))), (.loc 5), (.call "_law_ground" [false, true, true, false] [(.loc 0), (.loc 1), (.loc 2), (.bin .sub (.loc 3) (.dat (.int 1)))])])]
def N_heads_of : List Str := ["formula", "heads", "inner", "first", "more", "then"]
def b_heads_of : List Sm := [
  .ite (.cmp .isin (.idx (.loc 0) (.dat (.int 0))) (.dat g_OF_ANY)) [.asg (.tp [1, 2]) (.call "heads_of" [] [(.idx (.loc 0) (.dat (.int 2)))]), .ret (.tup [(.bin .add (.lst [(.tup [(.idx (.loc 0) (.dat (.int 0))), (.idx (.loc 0) (.dat (.int 1)))])]) (.loc 1)), (.loc 2)])] [],
  .ite (.cmp .isin (.idx (.loc 0) (.dat (.int 0))) (.tup [(.dat (.str "and")), (.dat (.str "or"))])) [.asg (.tp [1, 3]) (.call "heads_of" [] [(.idx (.loc 0) (.dat (.int 1)))]), .asg (.tp [4, 5]) (.call "heads_of" [] [(.idx (.loc 0) (.dat (.int 2)))]), .ret (.tup [(.bin .add (.loc 1) (.loc 4)), (.tup [(.idx (.loc 0) (.dat (.int 0))), (.loc 3), (.loc 5)])])] [],
  .ret (.tup [(.lst []), (.loc 0)])]
def N_headed : List Str := ["book", "formula"]
def b_headed : List Sm := [
  .exp (.call "look_plain" [] [(.loc 0), (.loc 1)]),
  .ret (.call "heads_of" [] [(.call "pushed_of" [] [(.loc 1), (.dat (.bool true))])])]
def N__law_is_pushed : List Str := ["formula", "part"]
def b__law_is_pushed : List Sm := [
  .ite (.cmp .eq (.idx (.loc 0) (.dat (.int 0))) (.dat (.str "not"))) [.ret (.cmp .eq (.idx (.idx (.loc 0) (.dat (.int 1))) (.dat (.int 0))) (.dat (.str "fact")))] [],
  .ite (.cmp .eq (.idx (.loc 0) (.dat (.int 0))) (.dat (.str "if"))) [.ret (.dat (.bool false))] [],
  .for_ (.nm 1) (.sq (.slF (.loc 0) (.dat (.int 1)))) [.ite (.and (.isi (.loc 1) .tup) (.cmp .ne (.idx (.loc 0) (.dat (.int 0))) (.dat (.str "fact")))) [.ite (.not (.call "_law_is_pushed" [] [(.loc 1)])) [.ret (.dat (.bool false))] []] []],
  .ret (.dat (.bool true))]
def N__law_words : List Str := ["script", "at", "row"]
def b__law_words : List Sm := [
  .asg (.nm 2) (.call "_law_row" [] [(.loc 0), (.loc 1)]),
  .ret (.call "_law_formula" [false, true, false, false, false] [(.loc 2), (.lst [(.dat (.int 0)), (.bin .mul (.dat (.int 10)) (.loc 1))]), (.tup [(.tup [(.dat (.str "ann")), (.dat (.str "name"))]), (.tup [(.dat (.str "man")), (.dat (.str "noun"))]), (.tup [(.dat (.str "sleeps")), (.dat (.str "does"))])]), (.dat (.int 2)), (.lst [])])]
def N__law_mood : List Str := ["book", "word", "what", "doing", "found", "one"]
def b__law_mood : List Sm := [
  .ite (.cmp .eq (.loc 1) (.dat (.str "not"))) [.asg (.nm 4) (.call "readings" [] [(.loc 0), (.tup [(.dat (.str "says")), (.tup [(.dat (.str "some")), (.loc 2)]), (.tup [(.dat (.str "not")), (.loc 3)])])]), .ret (.idx (.comp (.loc 5) (.nm 5) (.sq (.loc 4)) [(.cmp .eq (.idx (.loc 5) (.dat (.int 0))) (.dat (.str "some")))] [5]) (.dat (.int 0)))] [],
  .ret (.idx (.call "readings" [] [(.loc 0), (.tup [(.dat (.str "says")), (.tup [(.loc 1), (.loc 2)]), (.loc 3)])]) (.dat (.int 0)))]
def N__law_due_deed : List Str := ["book", "state", "deed", "found", "rows", "texts"]
def b__law_due_deed : List Sm := [
  .asg (.tp [4, 5]) (.loc 1),
  .ite (.cmp .eq (.idx (.loc 2) (.dat (.int 0))) (.dat (.str "back"))) [.ite (.cmp .eq (.loc 4) (.lst [])) [.ret (.lst [(.dat (.str "none")), (.dat (.bool true))])] [], .exp (.mut .pop (.loc 4) []), .ret (.mut .pop (.loc 5) [])] [],
  .asg (.nm 3) (.ite (.isi (.idx (.loc 2) (.dat (.int 1))) .str) (.call "_law_choices" [] [(.loc 0), (.loc 4), (.idx (.loc 2) (.dat (.int 1)))]) (.dat (.str "text"))),
  .ite (.cmp .eq (.loc 3) (.dat (.str "text"))) [.ret (.lst [(.dat (.str "text"))])] [],
  .ite (.cmp .eq (.idx (.loc 2) (.dat (.int 0))) (.dat (.str "choices"))) [.ret (.loc 3)] [],
  .ite (.and (.cmp .eq (.idx (.loc 2) (.dat (.int 0))) (.dat (.str "say"))) (.cmp .eq (.blt .len [(.loc 4)]) (.dat (.int 8)))) [.ret (.lst [(.dat (.str "many"))])] [],
  .ite (.or (.not (.call "_law_whole" [] [(.idx (.loc 2) (.dat (.int 2)))])) (.not (.chn .le .lt (.dat (.int 0)) (.idx (.loc 2) (.dat (.int 2))) (.blt .len [(.loc 3)])))) [.ret (.lst [(.dat (.str "reading")), (.blt .len [(.loc 3)])])] [],
  .ite (.cmp .eq (.idx (.loc 2) (.dat (.int 0))) (.dat (.str "say"))) [.exp (.mut .append (.loc 4) [(.idx (.loc 3) (.idx (.loc 2) (.dat (.int 2))))]), .exp (.mut .append (.loc 5) [(.idx (.loc 2) (.dat (.int 1)))]), .ret (.blt .len [(.loc 3)])] [],
  .ret (.lst [(.dat (.str "answer")), (.idx (.loc 3) (.idx (.loc 2) (.dat (.int 2))))])]
def N__law_opens : List Str := ["formula"]
def b__law_opens : List Sm := [
  .ite (.cmp .eq (.idx (.loc 0) (.dat (.int 0))) (.dat (.str "some"))) [.ret (.bin .add (.lst [(.idx (.loc 0) (.dat (.int 1)))]) (.call "_law_opens" [] [(.idx (.loc 0) (.dat (.int 2)))]))] [],
  .ite (.cmp .eq (.idx (.loc 0) (.dat (.int 0))) (.dat (.str "and"))) [.ret (.bin .add (.call "_law_opens" [] [(.idx (.loc 0) (.dat (.int 1)))]) (.call "_law_opens" [] [(.idx (.loc 0) (.dat (.int 2)))]))] [],
  .ret (.lst [])]
def tablU0 : List (Str × Nat × List Sm) := [("is_within", 3, b_is_within),
  ("is_word", 2, b_is_word),
  ("is_book", 2, b_is_book),
  ("look", 1, b_look),
  ("is_of", 3, b_is_of),
  ("places_of", 5, b_places_of),
  ("is_thing", 2, b_is_thing),
  ("is_fact", 3, b_is_fact),
  ("is_formed", 3, b_is_formed),
  ("brought", 1, b_brought),
  ("is_formula_of", 3, b_is_formula_of),
  ("look_formula", 2, b_look_formula),
  ("things_of", 1, b_things_of),
  ("is_plain", 1, b_is_plain),
  ("look_plain", 2, b_look_plain),
  ("look_premises", 3, b_look_premises),
  ("parts_of", 2, b_parts_of),
  ("sides_of", 1, b_sides_of),
  ("opened", 1, b_opened),
  ("around", 5, b_around)]
def tablU1 : List (Str × Nat × List Sm) := [("flat_of", 1, b_flat_of),
  ("flat", 2, b_flat),
  ("can_be", 2, b_can_be),
  ("ties_of", 2, b_ties_of),
  ("doubled", 3, b_doubled),
  ("shapes", 2, b_shapes),
  ("fits", 3, b_fits),
  ("look_tree", 2, b_look_tree),
  ("wrapped", 5, b_wrapped),
  ("may_be_drawn", 3, b_may_be_drawn),
  ("readings", 2, b_readings),
  ("_law_cell", 2, b__law_cell),
  ("_law_row", 5, b__law_row),
  ("_law_book", 7, b__law_book),
  ("_law_is_book", 5, b__law_is_book),
  ("is_tree", 2, b_is_tree),
  ("_law_next", 2, b__law_next),
  ("_law_word", 7, b__law_word),
  ("_law_who", 6, b__law_who),
  ("_law_what", 7, b__law_what)]
def tablU2 : List (Str × Nat × List Sm) := [("_law_doing", 5, b__law_doing),
  ("_law_says", 7, b__law_says),
  ("_law_tree", 6, b__law_tree),
  ("_law_tokens", 2, b__law_tokens),
  ("_law_wishes", 1, b__law_wishes),
  ("_law_kind", 5, b__law_kind),
  ("_law_size", 3, b__law_size),
  ("_law_is_tree", 3, b__law_is_tree),
  ("_law_spoilt_tree", 8, b__law_spoilt_tree),
  ("_law_read", 11, b__law_read),
  ("_law_read_what", 7, b__law_read_what),
  ("_law_small", 2, b__law_small),
  ("_law_pairs", 9, b__law_pairs),
  ("is_formula", 2, b_is_formula),
  ("loose", 2, b_loose),
  ("pushed", 2, b_pushed),
  ("shown", 2, b_shown),
  ("_law_whole", 1, b__law_whole),
  ("_law_brought", 3, b__law_brought),
  ("_law_places", 6, b__law_places)]
def tablU3 : List (Str × Nat × List Sm) := [("_law_is_thing", 2, b__law_is_thing),
  ("_law_is_formed", 3, b__law_is_formed),
  ("_law_is_formula", 3, b__law_is_formula),
  ("_law_formula", 17, b__law_formula),
  ("_law_spoilt_formula", 7, b__law_spoilt_formula),
  ("thing_of", 2, b_thing_of),
  ("_law_draw", 2, b__law_draw),
  ("_law_drawn", 8, b__law_drawn),
  ("_law_ended", 6, b__law_ended),
  ("_law_led_who", 8, b__law_led_who),
  ("_law_led_what", 12, b__law_led_what),
  ("_law_led_doing", 7, b__law_led_doing),
  ("_law_led", 11, b__law_led),
  ("_law_things", 3, b__law_things),
  ("_law_facts", 3, b__law_facts),
  ("_law_heads_due", 2, b__law_heads_due),
  ("_law_moved", 6, b__law_moved),
  ("_law_orders", 6, b__law_orders),
  ("_law_opened", 1, b__law_opened),
  ("_law_flat", 5, b__law_flat)]
def tablU4 : List (Str × Nat × List Sm) := [("ties", 2, b_ties),
  ("tied", 3, b_tied),
  ("is_row", 4, b_is_row),
  ("is_world_of", 8, b_is_world_of),
  ("is_world", 2, b_is_world),
  ("look_world", 6, b_look_world),
  ("_law_statement", 5, b__law_statement),
  ("_law_rows", 7, b__law_rows),
  ("_law_fact_parts", 3, b__law_fact_parts),
  ("_law_few", 6, b__law_few),
  ("is_at", 3, b_is_at),
  ("is_shut", 9, b_is_shut),
  ("may_be", 3, b_may_be),
  ("_law_parts", 2, b__law_parts),
  ("_law_sides", 1, b__law_sides),
  ("_law_lines", 1, b__law_lines),
  ("_law_is_paper", 5, b__law_is_paper),
  ("_law_valid", 11, b__law_valid),
  ("_law_bent", 6, b__law_bent),
  ("_law_ground", 6, b__law_ground)]
def tablU5 : List (Str × Nat × List Sm) := [("heads_of", 6, b_heads_of),
  ("headed", 2, b_headed),
  ("_law_is_pushed", 2, b__law_is_pushed),
  ("_law_words", 3, b__law_words),
  ("_law_mood", 6, b__law_mood),
  ("_law_due_deed", 6, b__law_due_deed),
  ("_law_opens", 1, b__law_opens)]
def tablU : List (Str × Nat × List Sm) := tablU0 ++ (tablU1 ++ (tablU2 ++ (tablU3 ++ (tablU4 ++ (tablU5)))))
def tabU : Tab := fun f => tablU.lookup f
/-- a table that has these defs -/
def Ups (tab : Tab) : Prop := ∀ f x, tabU f = some x → tab f = some x
section
variable {tab : Tab}
theorem u_is_within (u : Ups tab) {k : Nat} {ws : List W} {S : Sto} : Cn tab (k + 1) "is_within" ws S = runDef (Cn tab k) 3 b_is_within ws S := Cn_eq (u _ _ (by kernel_rfl))
theorem u_is_word (u : Ups tab) {k : Nat} {ws : List W} {S : Sto} : Cn tab (k + 1) "is_word" ws S = runDef (Cn tab k) 2 b_is_word ws S := Cn_eq (u _ _ (by kernel_rfl))
theorem u_is_book (u : Ups tab) {k : Nat} {ws : List W} {S : Sto} : Cn tab (k + 1) "is_book" ws S = runDef (Cn tab k) 2 b_is_book ws S := Cn_eq (u _ _ (by kernel_rfl))
theorem u_look (u : Ups tab) {k : Nat} {ws : List W} {S : Sto} : Cn tab (k + 1) "look" ws S = runDef (Cn tab k) 1 b_look ws S := Cn_eq (u _ _ (by kernel_rfl))
theorem u_is_of (u : Ups tab) {k : Nat} {ws : List W} {S : Sto} : Cn tab (k + 1) "is_of" ws S = runDef (Cn tab k) 3 b_is_of ws S := Cn_eq (u _ _ (by kernel_rfl))
theorem u_places_of (u : Ups tab) {k : Nat} {ws : List W} {S : Sto} : Cn tab (k + 1) "places_of" ws S = runDef (Cn tab k) 5 b_places_of ws S := Cn_eq (u _ _ (by kernel_rfl))
theorem u_is_thing (u : Ups tab) {k : Nat} {ws : List W} {S : Sto} : Cn tab (k + 1) "is_thing" ws S = runDef (Cn tab k) 2 b_is_thing ws S := Cn_eq (u _ _ (by kernel_rfl))
theorem u_is_fact (u : Ups tab) {k : Nat} {ws : List W} {S : Sto} : Cn tab (k + 1) "is_fact" ws S = runDef (Cn tab k) 3 b_is_fact ws S := Cn_eq (u _ _ (by kernel_rfl))
theorem u_is_formed (u : Ups tab) {k : Nat} {ws : List W} {S : Sto} : Cn tab (k + 1) "is_formed" ws S = runDef (Cn tab k) 3 b_is_formed ws S := Cn_eq (u _ _ (by kernel_rfl))
theorem u_brought (u : Ups tab) {k : Nat} {ws : List W} {S : Sto} : Cn tab (k + 1) "brought" ws S = runDef (Cn tab k) 1 b_brought ws S := Cn_eq (u _ _ (by kernel_rfl))
theorem u_is_formula_of (u : Ups tab) {k : Nat} {ws : List W} {S : Sto} : Cn tab (k + 1) "is_formula_of" ws S = runDef (Cn tab k) 3 b_is_formula_of ws S := Cn_eq (u _ _ (by kernel_rfl))
theorem u_look_formula (u : Ups tab) {k : Nat} {ws : List W} {S : Sto} : Cn tab (k + 1) "look_formula" ws S = runDef (Cn tab k) 2 b_look_formula ws S := Cn_eq (u _ _ (by kernel_rfl))
theorem u_things_of (u : Ups tab) {k : Nat} {ws : List W} {S : Sto} : Cn tab (k + 1) "things_of" ws S = runDef (Cn tab k) 1 b_things_of ws S := Cn_eq (u _ _ (by kernel_rfl))
theorem u_is_plain (u : Ups tab) {k : Nat} {ws : List W} {S : Sto} : Cn tab (k + 1) "is_plain" ws S = runDef (Cn tab k) 1 b_is_plain ws S := Cn_eq (u _ _ (by kernel_rfl))
theorem u_look_plain (u : Ups tab) {k : Nat} {ws : List W} {S : Sto} : Cn tab (k + 1) "look_plain" ws S = runDef (Cn tab k) 2 b_look_plain ws S := Cn_eq (u _ _ (by kernel_rfl))
theorem u_look_premises (u : Ups tab) {k : Nat} {ws : List W} {S : Sto} : Cn tab (k + 1) "look_premises" ws S = runDef (Cn tab k) 3 b_look_premises ws S := Cn_eq (u _ _ (by kernel_rfl))
theorem u_parts_of (u : Ups tab) {k : Nat} {ws : List W} {S : Sto} : Cn tab (k + 1) "parts_of" ws S = runDef (Cn tab k) 2 b_parts_of ws S := Cn_eq (u _ _ (by kernel_rfl))
theorem u_sides_of (u : Ups tab) {k : Nat} {ws : List W} {S : Sto} : Cn tab (k + 1) "sides_of" ws S = runDef (Cn tab k) 1 b_sides_of ws S := Cn_eq (u _ _ (by kernel_rfl))
theorem u_opened (u : Ups tab) {k : Nat} {ws : List W} {S : Sto} : Cn tab (k + 1) "opened" ws S = runDef (Cn tab k) 1 b_opened ws S := Cn_eq (u _ _ (by kernel_rfl))
theorem u_around (u : Ups tab) {k : Nat} {ws : List W} {S : Sto} : Cn tab (k + 1) "around" ws S = runDef (Cn tab k) 5 b_around ws S := Cn_eq (u _ _ (by kernel_rfl))
theorem u_flat_of (u : Ups tab) {k : Nat} {ws : List W} {S : Sto} : Cn tab (k + 1) "flat_of" ws S = runDef (Cn tab k) 1 b_flat_of ws S := Cn_eq (u _ _ (by kernel_rfl))
theorem u_flat (u : Ups tab) {k : Nat} {ws : List W} {S : Sto} : Cn tab (k + 1) "flat" ws S = runDef (Cn tab k) 2 b_flat ws S := Cn_eq (u _ _ (by kernel_rfl))
theorem u_can_be (u : Ups tab) {k : Nat} {ws : List W} {S : Sto} : Cn tab (k + 1) "can_be" ws S = runDef (Cn tab k) 2 b_can_be ws S := Cn_eq (u _ _ (by kernel_rfl))
theorem u_ties_of (u : Ups tab) {k : Nat} {ws : List W} {S : Sto} : Cn tab (k + 1) "ties_of" ws S = runDef (Cn tab k) 2 b_ties_of ws S := Cn_eq (u _ _ (by kernel_rfl))
theorem u_doubled (u : Ups tab) {k : Nat} {ws : List W} {S : Sto} : Cn tab (k + 1) "doubled" ws S = runDef (Cn tab k) 3 b_doubled ws S := Cn_eq (u _ _ (by kernel_rfl))
theorem u_shapes (u : Ups tab) {k : Nat} {ws : List W} {S : Sto} : Cn tab (k + 1) "shapes" ws S = runDef (Cn tab k) 2 b_shapes ws S := Cn_eq (u _ _ (by kernel_rfl))
theorem u_fits (u : Ups tab) {k : Nat} {ws : List W} {S : Sto} : Cn tab (k + 1) "fits" ws S = runDef (Cn tab k) 3 b_fits ws S := Cn_eq (u _ _ (by kernel_rfl))
theorem u_look_tree (u : Ups tab) {k : Nat} {ws : List W} {S : Sto} : Cn tab (k + 1) "look_tree" ws S = runDef (Cn tab k) 2 b_look_tree ws S := Cn_eq (u _ _ (by kernel_rfl))
theorem u_wrapped (u : Ups tab) {k : Nat} {ws : List W} {S : Sto} : Cn tab (k + 1) "wrapped" ws S = runDef (Cn tab k) 5 b_wrapped ws S := Cn_eq (u _ _ (by kernel_rfl))
theorem u_may_be_drawn (u : Ups tab) {k : Nat} {ws : List W} {S : Sto} : Cn tab (k + 1) "may_be_drawn" ws S = runDef (Cn tab k) 3 b_may_be_drawn ws S := Cn_eq (u _ _ (by kernel_rfl))
theorem u_readings (u : Ups tab) {k : Nat} {ws : List W} {S : Sto} : Cn tab (k + 1) "readings" ws S = runDef (Cn tab k) 2 b_readings ws S := Cn_eq (u _ _ (by kernel_rfl))
theorem u__law_cell (u : Ups tab) {k : Nat} {ws : List W} {S : Sto} : Cn tab (k + 1) "_law_cell" ws S = runDef (Cn tab k) 2 b__law_cell ws S := Cn_eq (u _ _ (by kernel_rfl))
theorem u__law_row (u : Ups tab) {k : Nat} {ws : List W} {S : Sto} : Cn tab (k + 1) "_law_row" ws S = runDef (Cn tab k) 5 b__law_row ws S := Cn_eq (u _ _ (by kernel_rfl))
theorem u__law_book (u : Ups tab) {k : Nat} {ws : List W} {S : Sto} : Cn tab (k + 1) "_law_book" ws S = runDef (Cn tab k) 7 b__law_book ws S := Cn_eq (u _ _ (by kernel_rfl))
theorem u__law_is_book (u : Ups tab) {k : Nat} {ws : List W} {S : Sto} : Cn tab (k + 1) "_law_is_book" ws S = runDef (Cn tab k) 5 b__law_is_book ws S := Cn_eq (u _ _ (by kernel_rfl))
theorem u_is_tree (u : Ups tab) {k : Nat} {ws : List W} {S : Sto} : Cn tab (k + 1) "is_tree" ws S = runDef (Cn tab k) 2 b_is_tree ws S := Cn_eq (u _ _ (by kernel_rfl))
theorem u__law_next (u : Ups tab) {k : Nat} {ws : List W} {S : Sto} : Cn tab (k + 1) "_law_next" ws S = runDef (Cn tab k) 2 b__law_next ws S := Cn_eq (u _ _ (by kernel_rfl))
theorem u__law_word (u : Ups tab) {k : Nat} {ws : List W} {S : Sto} : Cn tab (k + 1) "_law_word" ws S = runDef (Cn tab k) 7 b__law_word ws S := Cn_eq (u _ _ (by kernel_rfl))
theorem u__law_who (u : Ups tab) {k : Nat} {ws : List W} {S : Sto} : Cn tab (k + 1) "_law_who" ws S = runDef (Cn tab k) 6 b__law_who ws S := Cn_eq (u _ _ (by kernel_rfl))
theorem u__law_what (u : Ups tab) {k : Nat} {ws : List W} {S : Sto} : Cn tab (k + 1) "_law_what" ws S = runDef (Cn tab k) 7 b__law_what ws S := Cn_eq (u _ _ (by kernel_rfl))
theorem u__law_doing (u : Ups tab) {k : Nat} {ws : List W} {S : Sto} : Cn tab (k + 1) "_law_doing" ws S = runDef (Cn tab k) 5 b__law_doing ws S := Cn_eq (u _ _ (by kernel_rfl))
theorem u__law_says (u : Ups tab) {k : Nat} {ws : List W} {S : Sto} : Cn tab (k + 1) "_law_says" ws S = runDef (Cn tab k) 7 b__law_says ws S := Cn_eq (u _ _ (by kernel_rfl))
theorem u__law_tree (u : Ups tab) {k : Nat} {ws : List W} {S : Sto} : Cn tab (k + 1) "_law_tree" ws S = runDef (Cn tab k) 6 b__law_tree ws S := Cn_eq (u _ _ (by kernel_rfl))
theorem u__law_tokens (u : Ups tab) {k : Nat} {ws : List W} {S : Sto} : Cn tab (k + 1) "_law_tokens" ws S = runDef (Cn tab k) 2 b__law_tokens ws S := Cn_eq (u _ _ (by kernel_rfl))
theorem u__law_wishes (u : Ups tab) {k : Nat} {ws : List W} {S : Sto} : Cn tab (k + 1) "_law_wishes" ws S = runDef (Cn tab k) 1 b__law_wishes ws S := Cn_eq (u _ _ (by kernel_rfl))
theorem u__law_kind (u : Ups tab) {k : Nat} {ws : List W} {S : Sto} : Cn tab (k + 1) "_law_kind" ws S = runDef (Cn tab k) 5 b__law_kind ws S := Cn_eq (u _ _ (by kernel_rfl))
theorem u__law_size (u : Ups tab) {k : Nat} {ws : List W} {S : Sto} : Cn tab (k + 1) "_law_size" ws S = runDef (Cn tab k) 3 b__law_size ws S := Cn_eq (u _ _ (by kernel_rfl))
theorem u__law_is_tree (u : Ups tab) {k : Nat} {ws : List W} {S : Sto} : Cn tab (k + 1) "_law_is_tree" ws S = runDef (Cn tab k) 3 b__law_is_tree ws S := Cn_eq (u _ _ (by kernel_rfl))
theorem u__law_spoilt_tree (u : Ups tab) {k : Nat} {ws : List W} {S : Sto} : Cn tab (k + 1) "_law_spoilt_tree" ws S = runDef (Cn tab k) 8 b__law_spoilt_tree ws S := Cn_eq (u _ _ (by kernel_rfl))
theorem u__law_read (u : Ups tab) {k : Nat} {ws : List W} {S : Sto} : Cn tab (k + 1) "_law_read" ws S = runDef (Cn tab k) 11 b__law_read ws S := Cn_eq (u _ _ (by kernel_rfl))
theorem u__law_read_what (u : Ups tab) {k : Nat} {ws : List W} {S : Sto} : Cn tab (k + 1) "_law_read_what" ws S = runDef (Cn tab k) 7 b__law_read_what ws S := Cn_eq (u _ _ (by kernel_rfl))
theorem u__law_small (u : Ups tab) {k : Nat} {ws : List W} {S : Sto} : Cn tab (k + 1) "_law_small" ws S = runDef (Cn tab k) 2 b__law_small ws S := Cn_eq (u _ _ (by kernel_rfl))
theorem u__law_pairs (u : Ups tab) {k : Nat} {ws : List W} {S : Sto} : Cn tab (k + 1) "_law_pairs" ws S = runDef (Cn tab k) 9 b__law_pairs ws S := Cn_eq (u _ _ (by kernel_rfl))
theorem u_is_formula (u : Ups tab) {k : Nat} {ws : List W} {S : Sto} : Cn tab (k + 1) "is_formula" ws S = runDef (Cn tab k) 2 b_is_formula ws S := Cn_eq (u _ _ (by kernel_rfl))
theorem u_loose (u : Ups tab) {k : Nat} {ws : List W} {S : Sto} : Cn tab (k + 1) "loose" ws S = runDef (Cn tab k) 2 b_loose ws S := Cn_eq (u _ _ (by kernel_rfl))
theorem u_pushed (u : Ups tab) {k : Nat} {ws : List W} {S : Sto} : Cn tab (k + 1) "pushed" ws S = runDef (Cn tab k) 2 b_pushed ws S := Cn_eq (u _ _ (by kernel_rfl))
theorem u_shown (u : Ups tab) {k : Nat} {ws : List W} {S : Sto} : Cn tab (k + 1) "shown" ws S = runDef (Cn tab k) 2 b_shown ws S := Cn_eq (u _ _ (by kernel_rfl))
theorem u__law_whole (u : Ups tab) {k : Nat} {ws : List W} {S : Sto} : Cn tab (k + 1) "_law_whole" ws S = runDef (Cn tab k) 1 b__law_whole ws S := Cn_eq (u _ _ (by kernel_rfl))
theorem u__law_brought (u : Ups tab) {k : Nat} {ws : List W} {S : Sto} : Cn tab (k + 1) "_law_brought" ws S = runDef (Cn tab k) 3 b__law_brought ws S := Cn_eq (u _ _ (by kernel_rfl))
theorem u__law_places (u : Ups tab) {k : Nat} {ws : List W} {S : Sto} : Cn tab (k + 1) "_law_places" ws S = runDef (Cn tab k) 6 b__law_places ws S := Cn_eq (u _ _ (by kernel_rfl))
theorem u__law_is_thing (u : Ups tab) {k : Nat} {ws : List W} {S : Sto} : Cn tab (k + 1) "_law_is_thing" ws S = runDef (Cn tab k) 2 b__law_is_thing ws S := Cn_eq (u _ _ (by kernel_rfl))
theorem u__law_is_formed (u : Ups tab) {k : Nat} {ws : List W} {S : Sto} : Cn tab (k + 1) "_law_is_formed" ws S = runDef (Cn tab k) 3 b__law_is_formed ws S := Cn_eq (u _ _ (by kernel_rfl))
theorem u__law_is_formula (u : Ups tab) {k : Nat} {ws : List W} {S : Sto} : Cn tab (k + 1) "_law_is_formula" ws S = runDef (Cn tab k) 3 b__law_is_formula ws S := Cn_eq (u _ _ (by kernel_rfl))
theorem u__law_formula (u : Ups tab) {k : Nat} {ws : List W} {S : Sto} : Cn tab (k + 1) "_law_formula" ws S = runDef (Cn tab k) 17 b__law_formula ws S := Cn_eq (u _ _ (by kernel_rfl))
theorem u__law_spoilt_formula (u : Ups tab) {k : Nat} {ws : List W} {S : Sto} : Cn tab (k + 1) "_law_spoilt_formula" ws S = runDef (Cn tab k) 7 b__law_spoilt_formula ws S := Cn_eq (u _ _ (by kernel_rfl))
theorem u_thing_of (u : Ups tab) {k : Nat} {ws : List W} {S : Sto} : Cn tab (k + 1) "thing_of" ws S = runDef (Cn tab k) 2 b_thing_of ws S := Cn_eq (u _ _ (by kernel_rfl))
theorem u__law_draw (u : Ups tab) {k : Nat} {ws : List W} {S : Sto} : Cn tab (k + 1) "_law_draw" ws S = runDef (Cn tab k) 2 b__law_draw ws S := Cn_eq (u _ _ (by kernel_rfl))
theorem u__law_drawn (u : Ups tab) {k : Nat} {ws : List W} {S : Sto} : Cn tab (k + 1) "_law_drawn" ws S = runDef (Cn tab k) 8 b__law_drawn ws S := Cn_eq (u _ _ (by kernel_rfl))
theorem u__law_ended (u : Ups tab) {k : Nat} {ws : List W} {S : Sto} : Cn tab (k + 1) "_law_ended" ws S = runDef (Cn tab k) 6 b__law_ended ws S := Cn_eq (u _ _ (by kernel_rfl))
theorem u__law_led_who (u : Ups tab) {k : Nat} {ws : List W} {S : Sto} : Cn tab (k + 1) "_law_led_who" ws S = runDef (Cn tab k) 8 b__law_led_who ws S := Cn_eq (u _ _ (by kernel_rfl))
theorem u__law_led_what (u : Ups tab) {k : Nat} {ws : List W} {S : Sto} : Cn tab (k + 1) "_law_led_what" ws S = runDef (Cn tab k) 12 b__law_led_what ws S := Cn_eq (u _ _ (by kernel_rfl))
theorem u__law_led_doing (u : Ups tab) {k : Nat} {ws : List W} {S : Sto} : Cn tab (k + 1) "_law_led_doing" ws S = runDef (Cn tab k) 7 b__law_led_doing ws S := Cn_eq (u _ _ (by kernel_rfl))
theorem u__law_led (u : Ups tab) {k : Nat} {ws : List W} {S : Sto} : Cn tab (k + 1) "_law_led" ws S = runDef (Cn tab k) 11 b__law_led ws S := Cn_eq (u _ _ (by kernel_rfl))
theorem u__law_things (u : Ups tab) {k : Nat} {ws : List W} {S : Sto} : Cn tab (k + 1) "_law_things" ws S = runDef (Cn tab k) 3 b__law_things ws S := Cn_eq (u _ _ (by kernel_rfl))
theorem u__law_facts (u : Ups tab) {k : Nat} {ws : List W} {S : Sto} : Cn tab (k + 1) "_law_facts" ws S = runDef (Cn tab k) 3 b__law_facts ws S := Cn_eq (u _ _ (by kernel_rfl))
theorem u__law_heads_due (u : Ups tab) {k : Nat} {ws : List W} {S : Sto} : Cn tab (k + 1) "_law_heads_due" ws S = runDef (Cn tab k) 2 b__law_heads_due ws S := Cn_eq (u _ _ (by kernel_rfl))
theorem u__law_moved (u : Ups tab) {k : Nat} {ws : List W} {S : Sto} : Cn tab (k + 1) "_law_moved" ws S = runDef (Cn tab k) 6 b__law_moved ws S := Cn_eq (u _ _ (by kernel_rfl))
theorem u__law_orders (u : Ups tab) {k : Nat} {ws : List W} {S : Sto} : Cn tab (k + 1) "_law_orders" ws S = runDef (Cn tab k) 6 b__law_orders ws S := Cn_eq (u _ _ (by kernel_rfl))
theorem u__law_opened (u : Ups tab) {k : Nat} {ws : List W} {S : Sto} : Cn tab (k + 1) "_law_opened" ws S = runDef (Cn tab k) 1 b__law_opened ws S := Cn_eq (u _ _ (by kernel_rfl))
theorem u__law_flat (u : Ups tab) {k : Nat} {ws : List W} {S : Sto} : Cn tab (k + 1) "_law_flat" ws S = runDef (Cn tab k) 5 b__law_flat ws S := Cn_eq (u _ _ (by kernel_rfl))
theorem u_ties (u : Ups tab) {k : Nat} {ws : List W} {S : Sto} : Cn tab (k + 1) "ties" ws S = runDef (Cn tab k) 2 b_ties ws S := Cn_eq (u _ _ (by kernel_rfl))
theorem u_tied (u : Ups tab) {k : Nat} {ws : List W} {S : Sto} : Cn tab (k + 1) "tied" ws S = runDef (Cn tab k) 3 b_tied ws S := Cn_eq (u _ _ (by kernel_rfl))
theorem u_is_row (u : Ups tab) {k : Nat} {ws : List W} {S : Sto} : Cn tab (k + 1) "is_row" ws S = runDef (Cn tab k) 4 b_is_row ws S := Cn_eq (u _ _ (by kernel_rfl))
theorem u_is_world_of (u : Ups tab) {k : Nat} {ws : List W} {S : Sto} : Cn tab (k + 1) "is_world_of" ws S = runDef (Cn tab k) 8 b_is_world_of ws S := Cn_eq (u _ _ (by kernel_rfl))
theorem u_is_world (u : Ups tab) {k : Nat} {ws : List W} {S : Sto} : Cn tab (k + 1) "is_world" ws S = runDef (Cn tab k) 2 b_is_world ws S := Cn_eq (u _ _ (by kernel_rfl))
theorem u_look_world (u : Ups tab) {k : Nat} {ws : List W} {S : Sto} : Cn tab (k + 1) "look_world" ws S = runDef (Cn tab k) 6 b_look_world ws S := Cn_eq (u _ _ (by kernel_rfl))
theorem u__law_statement (u : Ups tab) {k : Nat} {ws : List W} {S : Sto} : Cn tab (k + 1) "_law_statement" ws S = runDef (Cn tab k) 5 b__law_statement ws S := Cn_eq (u _ _ (by kernel_rfl))
theorem u__law_rows (u : Ups tab) {k : Nat} {ws : List W} {S : Sto} : Cn tab (k + 1) "_law_rows" ws S = runDef (Cn tab k) 7 b__law_rows ws S := Cn_eq (u _ _ (by kernel_rfl))
theorem u__law_fact_parts (u : Ups tab) {k : Nat} {ws : List W} {S : Sto} : Cn tab (k + 1) "_law_fact_parts" ws S = runDef (Cn tab k) 3 b__law_fact_parts ws S := Cn_eq (u _ _ (by kernel_rfl))
theorem u__law_few (u : Ups tab) {k : Nat} {ws : List W} {S : Sto} : Cn tab (k + 1) "_law_few" ws S = runDef (Cn tab k) 6 b__law_few ws S := Cn_eq (u _ _ (by kernel_rfl))
theorem u_is_at (u : Ups tab) {k : Nat} {ws : List W} {S : Sto} : Cn tab (k + 1) "is_at" ws S = runDef (Cn tab k) 3 b_is_at ws S := Cn_eq (u _ _ (by kernel_rfl))
theorem u_is_shut (u : Ups tab) {k : Nat} {ws : List W} {S : Sto} : Cn tab (k + 1) "is_shut" ws S = runDef (Cn tab k) 9 b_is_shut ws S := Cn_eq (u _ _ (by kernel_rfl))
theorem u_may_be (u : Ups tab) {k : Nat} {ws : List W} {S : Sto} : Cn tab (k + 1) "may_be" ws S = runDef (Cn tab k) 3 b_may_be ws S := Cn_eq (u _ _ (by kernel_rfl))
theorem u__law_parts (u : Ups tab) {k : Nat} {ws : List W} {S : Sto} : Cn tab (k + 1) "_law_parts" ws S = runDef (Cn tab k) 2 b__law_parts ws S := Cn_eq (u _ _ (by kernel_rfl))
theorem u__law_sides (u : Ups tab) {k : Nat} {ws : List W} {S : Sto} : Cn tab (k + 1) "_law_sides" ws S = runDef (Cn tab k) 1 b__law_sides ws S := Cn_eq (u _ _ (by kernel_rfl))
theorem u__law_lines (u : Ups tab) {k : Nat} {ws : List W} {S : Sto} : Cn tab (k + 1) "_law_lines" ws S = runDef (Cn tab k) 1 b__law_lines ws S := Cn_eq (u _ _ (by kernel_rfl))
theorem u__law_is_paper (u : Ups tab) {k : Nat} {ws : List W} {S : Sto} : Cn tab (k + 1) "_law_is_paper" ws S = runDef (Cn tab k) 5 b__law_is_paper ws S := Cn_eq (u _ _ (by kernel_rfl))
theorem u__law_valid (u : Ups tab) {k : Nat} {ws : List W} {S : Sto} : Cn tab (k + 1) "_law_valid" ws S = runDef (Cn tab k) 11 b__law_valid ws S := Cn_eq (u _ _ (by kernel_rfl))
theorem u__law_bent (u : Ups tab) {k : Nat} {ws : List W} {S : Sto} : Cn tab (k + 1) "_law_bent" ws S = runDef (Cn tab k) 6 b__law_bent ws S := Cn_eq (u _ _ (by kernel_rfl))
theorem u__law_ground (u : Ups tab) {k : Nat} {ws : List W} {S : Sto} : Cn tab (k + 1) "_law_ground" ws S = runDef (Cn tab k) 6 b__law_ground ws S := Cn_eq (u _ _ (by kernel_rfl))
theorem u_heads_of (u : Ups tab) {k : Nat} {ws : List W} {S : Sto} : Cn tab (k + 1) "heads_of" ws S = runDef (Cn tab k) 6 b_heads_of ws S := Cn_eq (u _ _ (by kernel_rfl))
theorem u_headed (u : Ups tab) {k : Nat} {ws : List W} {S : Sto} : Cn tab (k + 1) "headed" ws S = runDef (Cn tab k) 2 b_headed ws S := Cn_eq (u _ _ (by kernel_rfl))
theorem u__law_is_pushed (u : Ups tab) {k : Nat} {ws : List W} {S : Sto} : Cn tab (k + 1) "_law_is_pushed" ws S = runDef (Cn tab k) 2 b__law_is_pushed ws S := Cn_eq (u _ _ (by kernel_rfl))
theorem u__law_words (u : Ups tab) {k : Nat} {ws : List W} {S : Sto} : Cn tab (k + 1) "_law_words" ws S = runDef (Cn tab k) 3 b__law_words ws S := Cn_eq (u _ _ (by kernel_rfl))
theorem u__law_mood (u : Ups tab) {k : Nat} {ws : List W} {S : Sto} : Cn tab (k + 1) "_law_mood" ws S = runDef (Cn tab k) 6 b__law_mood ws S := Cn_eq (u _ _ (by kernel_rfl))
theorem u__law_due_deed (u : Ups tab) {k : Nat} {ws : List W} {S : Sto} : Cn tab (k + 1) "_law_due_deed" ws S = runDef (Cn tab k) 6 b__law_due_deed ws S := Cn_eq (u _ _ (by kernel_rfl))
theorem u__law_opens (u : Ups tab) {k : Nat} {ws : List W} {S : Sto} : Cn tab (k + 1) "_law_opens" ws S = runDef (Cn tab k) 1 b__law_opens ws S := Cn_eq (u _ _ (by kernel_rfl))
end
end Sc
namespace Sc
open PySem PySem.Spec PyProof.Rows L2
/-! ### steps with named continuations -/
def locR : Option (Option W) → Sto → Res R
  | some (some w), S => .ok (.w w) S
  | _, _ => .stuck
theorem locR_ok {w : W} {S : Sto} : locR (some (some w)) S = .ok (.w w) S := rfl
theorem ev_loc {C : Orc} {e : Ev} {S : Sto} {i : Nat} : evN C (.loc i) e S = locR e[i]? S := by
  simp only [evN]
  cases e[i]? with
  | none => rfl
  | some o => cases o <;> rfl
theorem ev_dat {C : Orc} {e : Ev} {S : Sto} {d : D} : evN C (.dat d) e S = .ok (.w (.d d)) S := by first | (simp only [evN]; done) | (simp only [evN]; rfl)
def optB : Option Bool → Sto → Res R
  | some k, S => .ok (kb k) S
  | none, _ => .stuck
theorem optB_ok {k : Bool} {S : Sto} : optB (some k) S = .ok (kb k) S := rfl
theorem optB_eq (o : Option Bool) (S : Sto) : ((opt o S).bind fun k S => .ok (kb k) S) = optB o S := by cases o <;> rfl
def kBin2 (o : BOp) (x : R) : R → Sto → Res R := fun y S => opt (rbin o S (fz x) (fz y)) S
theorem kBin2_ap {o : BOp} {x y : R} {S : Sto} : kBin2 o x y S = opt (rbin o S (fz x) (fz y)) S := rfl
def kBin1 (C : Orc) (o : BOp) (b : X) (e : Ev) : R → Sto → Res R := fun x S => (evN C b e S).bind (kBin2 o x)
theorem kBin1_ap {C : Orc} {e : Ev} {S : Sto} {o : BOp} {b : X} {x : R} : kBin1 C o b e x S = (evN C b e S).bind (kBin2 o x) := rfl
theorem ev_bin {C : Orc} {e : Ev} {S : Sto} {o : BOp} {a b : X} : evN C (.bin o a b) e S = (evN C a e S).bind (kBin1 C o b e) := by first | (simp only [evN]; done) | (simp only [evN]; rfl)
def kCmp2 (o : COp) (x : R) : R → Sto → Res R := fun y S => optB (rcmp o S (fz x) (fz y)) S
theorem kCmp2_ap {o : COp} {x y : R} {S : Sto} : kCmp2 o x y S = optB (rcmp o S (fz x) (fz y)) S := rfl
def kCmp1 (C : Orc) (o : COp) (b : X) (e : Ev) : R → Sto → Res R := fun x S => (evN C b e S).bind (kCmp2 o x)
theorem kCmp1_ap {C : Orc} {e : Ev} {S : Sto} {o : COp} {b : X} {x : R} : kCmp1 C o b e x S = (evN C b e S).bind (kCmp2 o x) := rfl
theorem ev_cmp {C : Orc} {e : Ev} {S : Sto} {o : COp} {a b : X} : evN C (.cmp o a b) e S = (evN C a e S).bind (kCmp1 C o b e) := by
  first
  | (simp only [evN, exec, evI, evs, tests, execs, optB_eq]; done)
  | (simp only [evN, exec, evI, evs, tests, execs, optB_eq]; rfl)
  | ((simp only [evN, optB_eq]); (rfl))
  | ((simp only [evN, optB_eq]))
def kChn3 (C : Orc) (p : COp) (c : X) (e : Ev) (y : R) : Bool → Sto → Res R := fun k S => match k with
  | true => (evN C c e S).bind (kCmp2 p y)
  | false => .ok (kb false) S
theorem kChn3_t {C : Orc} {e : Ev} {S : Sto} {p : COp} {c : X} {y : R} : kChn3 C p c e y true S = (evN C c e S).bind (kCmp2 p y) := rfl
theorem kChn3_f {C : Orc} {e : Ev} {S : Sto} {p : COp} {c : X} {y : R} : kChn3 C p c e y false S = .ok (kb false) S := rfl
def kChn2 (C : Orc) (o p : COp) (c : X) (e : Ev) (x : R) : R → Sto → Res R := fun y S => (opt (rcmp o S (fz x) (fz y)) S).bind (kChn3 C p c e y)
theorem kChn2_ap {C : Orc} {e : Ev} {S : Sto} {o p : COp} {c : X} {x y : R} : kChn2 C o p c e x y S = (opt (rcmp o S (fz x) (fz y)) S).bind (kChn3 C p c e y) := rfl
def kChn1 (C : Orc) (o p : COp) (b c : X) (e : Ev) : R → Sto → Res R := fun x S => (evN C b e S).bind (kChn2 C o p c e x)
theorem kChn1_ap {C : Orc} {e : Ev} {S : Sto} {o p : COp} {b c : X} {x : R} : kChn1 C o p b c e x S = (evN C b e S).bind (kChn2 C o p c e x) := rfl
theorem ev_chn {C : Orc} {e : Ev} {S : Sto} {o p : COp} {a b c : X} : evN C (.chn o p a b c) e S = (evN C a e S).bind (kChn1 C o p b c e) := by
  first
  | (simp only [evN, exec, evI, evs, tests, execs, optB_eq]; done)
  | (simp only [evN, exec, evI, evs, tests, execs, optB_eq]; rfl)
  | ((simp only [evN, optB_eq]); (congr 1); (funext x S1); (show _ = (evN C b e S1).bind _); (congr 1); (funext y S2); (show _ = (opt (rcmp o S2 (fz x) (fz y)) S2).bind _); (congr 1); (funext k S3); (cases k <;> rfl))
  | ((simp only [evN, optB_eq]); (congr 1); (funext x S1); (show _ = (evN C b e S1).bind _); (congr 1); (funext y S2); (show _ = (opt (rcmp o S2 (fz x) (fz y)) S2).bind _); (congr 1); (funext k S3))
def kIsN (neg : Bool) : R → Sto → Res R := fun x S => .ok (kb (match fz x with
  | .d .none => !neg
  | _ => neg)) S
theorem kIsN_ap {neg : Bool} {x : R} {S : Sto} : kIsN neg x S = .ok (kb (match fz x with
  | .d .none => !neg
  | _ => neg)) S := rfl
theorem ev_isN {C : Orc} {e : Ev} {S : Sto} {neg : Bool} {a : X} : evN C (.isN neg a) e S = (evN C a e S).bind (kIsN neg) := by first | (simp only [evN]; done) | (simp only [evN]; rfl)
def kAnd2 (C : Orc) (b : X) (e : Ev) (x : R) : Bool → Sto → Res R := fun k S => match k with
  | true => evN C b e S
  | false => .ok (.w (fz x)) S
theorem kAnd2_t {C : Orc} {e : Ev} {S : Sto} {b : X} {x : R} : kAnd2 C b e x true S = evN C b e S := rfl
theorem kAnd2_f {C : Orc} {e : Ev} {S : Sto} {b : X} {x : R} : kAnd2 C b e x false S = .ok (.w (fz x)) S := rfl
def kAnd1 (C : Orc) (b : X) (e : Ev) : R → Sto → Res R := fun x S => (opt (truthW S (fz x)) S).bind (kAnd2 C b e x)
theorem kAnd1_ap {C : Orc} {e : Ev} {S : Sto} {b : X} {x : R} : kAnd1 C b e x S = (opt (truthW S (fz x)) S).bind (kAnd2 C b e x) := rfl
theorem ev_and {C : Orc} {e : Ev} {S : Sto} {a b : X} : evN C (.and a b) e S = (evN C a e S).bind (kAnd1 C b e) := by
  first
  | (simp only [evN, exec, evI, evs, tests, execs, optB_eq]; done)
  | (simp only [evN, exec, evI, evs, tests, execs, optB_eq]; rfl)
  | ((simp only [evN]); (congr 1); (funext x S1); (show _ = (opt (truthW S1 (fz x)) S1).bind _); (congr 1); (funext k S2); (cases k <;> rfl))
  | ((simp only [evN]); (congr 1); (funext x S1); (show _ = (opt (truthW S1 (fz x)) S1).bind _); (congr 1); (funext k S2))
def kOr2 (C : Orc) (b : X) (e : Ev) (x : R) : Bool → Sto → Res R := fun k S => match k with
  | true => .ok (.w (fz x)) S
  | false => evN C b e S
theorem kOr2_t {C : Orc} {e : Ev} {S : Sto} {b : X} {x : R} : kOr2 C b e x true S = .ok (.w (fz x)) S := rfl
theorem kOr2_f {C : Orc} {e : Ev} {S : Sto} {b : X} {x : R} : kOr2 C b e x false S = evN C b e S := rfl
def kOr1 (C : Orc) (b : X) (e : Ev) : R → Sto → Res R := fun x S => (opt (truthW S (fz x)) S).bind (kOr2 C b e x)
theorem kOr1_ap {C : Orc} {e : Ev} {S : Sto} {b : X} {x : R} : kOr1 C b e x S = (opt (truthW S (fz x)) S).bind (kOr2 C b e x) := rfl
theorem ev_or {C : Orc} {e : Ev} {S : Sto} {a b : X} : evN C (.or a b) e S = (evN C a e S).bind (kOr1 C b e) := by
  first
  | (simp only [evN, exec, evI, evs, tests, execs, optB_eq]; done)
  | (simp only [evN, exec, evI, evs, tests, execs, optB_eq]; rfl)
  | ((simp only [evN]); (congr 1); (funext x S1); (show _ = (opt (truthW S1 (fz x)) S1).bind _); (congr 1); (funext k S2); (cases k <;> rfl))
  | ((simp only [evN]); (congr 1); (funext x S1); (show _ = (opt (truthW S1 (fz x)) S1).bind _); (congr 1); (funext k S2))
def kNot   : R → Sto → Res R := fun x S => optB ((truthW S (fz x)).map (!·)) S
theorem kNot_ap {x : R} {S : Sto} : kNot x S = optB ((truthW S (fz x)).map (!·)) S := rfl
theorem ev_not {C : Orc} {e : Ev} {S : Sto} {a : X} : evN C (.not a) e S = (evN C a e S).bind kNot := by
  first
  | (simp only [evN, exec, evI, evs, tests, execs, optB_eq]; done)
  | (simp only [evN, exec, evI, evs, tests, execs, optB_eq]; rfl)
  | ((simp only [evN]); (congr 1); (funext x S1); (show _ = optB _ _); (cases truthW S1 (fz x) <;> rfl))
  | ((simp only [evN]); (congr 1); (funext x S1); (show _ = optB _ _))
def kIte2 (C : Orc) (a b : X) (e : Ev) : Bool → Sto → Res R := fun k S => match k with
  | true => evN C a e S
  | false => evN C b e S
theorem kIte2_t {C : Orc} {e : Ev} {S : Sto} {a b : X} : kIte2 C a b e true S = evN C a e S := rfl
theorem kIte2_f {C : Orc} {e : Ev} {S : Sto} {a b : X} : kIte2 C a b e false S = evN C b e S := rfl
def kIte1 (C : Orc) (a b : X) (e : Ev) : R → Sto → Res R := fun x S => (opt (truthW S (fz x)) S).bind (kIte2 C a b e)
theorem kIte1_ap {C : Orc} {e : Ev} {S : Sto} {a b : X} {x : R} : kIte1 C a b e x S = (opt (truthW S (fz x)) S).bind (kIte2 C a b e) := rfl
theorem ev_ite {C : Orc} {e : Ev} {S : Sto} {c a b : X} : evN C (.ite c a b) e S = (evN C c e S).bind (kIte1 C a b e) := by
  first
  | (simp only [evN, exec, evI, evs, tests, execs, optB_eq]; done)
  | (simp only [evN, exec, evI, evs, tests, execs, optB_eq]; rfl)
  | ((simp only [evN]); (congr 1); (funext x S1); (show _ = (opt (truthW S1 (fz x)) S1).bind _); (congr 1); (funext k S2); (cases k <;> rfl))
  | ((simp only [evN]); (congr 1); (funext x S1); (show _ = (opt (truthW S1 (fz x)) S1).bind _); (congr 1); (funext k S2))
def optT : Option (List D) → Sto → Res R
  | some ds, S => .ok (.w (.d (.tuple ds))) S
  | none, _ => .stuck
def optL : Option (List D) → Sto → Res R
  | some ds, S => .ok (.n ds) S
  | none, _ => .stuck
theorem optT_ok {ds : List D} {S : Sto} : optT (some ds) S = .ok (.w (.d (.tuple ds))) S := rfl
theorem optL_ok {ds : List D} {S : Sto} : optL (some ds) S = .ok (.n ds) S := rfl
def kTup   : List W → Sto → Res R := fun ws S => optT (datas ws) S
theorem kTup_ap {ws : List W} {S : Sto} : kTup ws S = optT (datas ws) S := rfl
def kLst   : List W → Sto → Res R := fun ws S => optL (datas ws) S
theorem kLst_ap {ws : List W} {S : Sto} : kLst ws S = optL (datas ws) S := rfl
theorem ev_tup {C : Orc} {e : Ev} {S : Sto} {xs : List X} : evN C (.tup xs) e S = (evs C xs [] e S).bind kTup := by
  first
  | (simp only [evN, exec, evI, evs, tests, execs, optB_eq]; done)
  | (simp only [evN, exec, evI, evs, tests, execs, optB_eq]; rfl)
  | ((simp only [evN]); (congr 1); (funext ws S1); (show _ = optT _ _); (cases datas ws <;> rfl))
  | ((simp only [evN]); (congr 1); (funext ws S1); (show _ = optT _ _))
theorem ev_lst {C : Orc} {e : Ev} {S : Sto} {xs : List X} : evN C (.lst xs) e S = (evs C xs [] e S).bind kLst := by
  first
  | (simp only [evN, exec, evI, evs, tests, execs, optB_eq]; done)
  | (simp only [evN, exec, evI, evs, tests, execs, optB_eq]; rfl)
  | ((simp only [evN]); (congr 1); (funext ws S1); (show _ = optL _ _); (cases datas ws <;> rfl))
  | ((simp only [evN]); (congr 1); (funext ws S1); (show _ = optL _ _))
def kIdx2 (x : R) : R → Sto → Res R := fun y S => opt (ridx S (fz x) (fz y)) S
theorem kIdx2_ap {x y : R} {S : Sto} : kIdx2 x y S = opt (ridx S (fz x) (fz y)) S := rfl
def kIdx1 (C : Orc) (i : X) (e : Ev) : R → Sto → Res R := fun x S => (evN C i e S).bind (kIdx2 x)
theorem kIdx1_ap {C : Orc} {e : Ev} {S : Sto} {i : X} {x : R} : kIdx1 C i e x S = (evN C i e S).bind (kIdx2 x) := rfl
theorem ev_idx {C : Orc} {e : Ev} {S : Sto} {a i : X} : evN C (.idx a i) e S = (evN C a e S).bind (kIdx1 C i e) := by first | (simp only [evN]; done) | (simp only [evN]; rfl)
def kslF3 (x : R) : Int → Sto → Res R := fun i S => opt (rsl S (fz x) (some i) none) S
theorem kslF3_ap {x : R} {i : Int} {S : Sto} : kslF3 x i S = opt (rsl S (fz x) (some i) none) S := rfl
def kslF2 (x : R) : R → Sto → Res R := fun y S => (opt (asInt (fz y)) S).bind (kslF3 x)
theorem kslF2_ap {x y : R} {S : Sto} : kslF2 x y S = (opt (asInt (fz y)) S).bind (kslF3 x) := rfl
def kslF1 (C : Orc) (i : X) (e : Ev) : R → Sto → Res R := fun x S => (evN C i e S).bind (kslF2 x)
theorem kslF1_ap {C : Orc} {e : Ev} {S : Sto} {i : X} {x : R} : kslF1 C i e x S = (evN C i e S).bind (kslF2 x) := rfl
theorem ev_slF {C : Orc} {e : Ev} {S : Sto} {a i : X} : evN C (.slF a i) e S = (evN C a e S).bind (kslF1 C i e) := by first | (simp only [evN]; done) | (simp only [evN]; rfl)
def kslT3 (x : R) : Int → Sto → Res R := fun i S => opt (rsl S (fz x) none (some i)) S
theorem kslT3_ap {x : R} {i : Int} {S : Sto} : kslT3 x i S = opt (rsl S (fz x) none (some i)) S := rfl
def kslT2 (x : R) : R → Sto → Res R := fun y S => (opt (asInt (fz y)) S).bind (kslT3 x)
theorem kslT2_ap {x y : R} {S : Sto} : kslT2 x y S = (opt (asInt (fz y)) S).bind (kslT3 x) := rfl
def kslT1 (C : Orc) (i : X) (e : Ev) : R → Sto → Res R := fun x S => (evN C i e S).bind (kslT2 x)
theorem kslT1_ap {C : Orc} {e : Ev} {S : Sto} {i : X} {x : R} : kslT1 C i e x S = (evN C i e S).bind (kslT2 x) := rfl
theorem ev_slT {C : Orc} {e : Ev} {S : Sto} {a i : X} : evN C (.slT a i) e S = (evN C a e S).bind (kslT1 C i e) := by first | (simp only [evN]; done) | (simp only [evN]; rfl)
def kRev2  : List D → Sto → Res R := fun xs S => .ok (.n xs.reverse) S
theorem kRev2_ap {xs : List D} {S : Sto} : kRev2 xs S = .ok (.n xs.reverse) S := rfl
def kRev  : R → Sto → Res R := fun x S => (opt (viewL S (fz x)) S).bind kRev2
theorem kRev_ap {x : R} {S : Sto} : kRev x S = (opt (viewL S (fz x)) S).bind kRev2 := rfl
theorem ev_rev {C : Orc} {e : Ev} {S : Sto} {a : X} : evN C (.rev a) e S = (evN C a e S).bind kRev := by first | (simp only [evN]; done) | (simp only [evN]; rfl)
def kCall (C : Orc) (f : Str) : List W → Sto → Res R := fun ws S => C f ws S
theorem kCall_ap {C : Orc} {f : Str} {ws : List W} {S : Sto} : kCall C f ws S = C f ws S := rfl
theorem ev_call {C : Orc} {e : Ev} {S : Sto} {f : Str} {lv : List Bool} {xs : List X} : evN C (.call f lv xs) e S = (evs C xs lv e S).bind (kCall C f) := by first | (simp only [evN]; done) | (simp only [evN]; rfl)
def kIsi2 (t : Ty) : D → Sto → Res R := fun d S => .ok (kb (isTy t d)) S
theorem kIsi2_ap {t : Ty} {d : D} {S : Sto} : kIsi2 t d S = .ok (kb (isTy t d)) S := rfl
def kIsi (t : Ty) : R → Sto → Res R := fun x S => (opt (viewD S (fz x)) S).bind (kIsi2 t)
theorem kIsi_ap {t : Ty} {x : R} {S : Sto} : kIsi t x S = (opt (viewD S (fz x)) S).bind (kIsi2 t) := rfl
theorem ev_isi {C : Orc} {e : Ev} {S : Sto} {a : X} {t : Ty} : evN C (.isi a t) e S = (evN C a e S).bind (kIsi t) := by first | (simp only [evN]; done) | (simp only [evN]; rfl)
def kBlt (f : Bl) : List W → Sto → Res R := fun ws S => opt (rblt f S ws) S
theorem kBlt_ap {f : Bl} {ws : List W} {S : Sto} : kBlt f ws S = opt (rblt f S ws) S := rfl
theorem ev_blt {C : Orc} {e : Ev} {S : Sto} {f : Bl} {xs : List X} : evN C (.blt f xs) e S = (evs C xs [] e S).bind (kBlt f) := by first | (simp only [evN]; done) | (simp only [evN]; rfl)
def kMut3 (m : Mu) (x : R) : List W → Sto → Res R := fun ws S => rmut m S (fz x) ws
theorem kMut3_ap {m : Mu} {x : R} {ws : List W} {S : Sto} : kMut3 m x ws S = rmut m S (fz x) ws := rfl
def kMut2 (C : Orc) (m : Mu) (xs : List X) (e : Ev) (x : R) : List D → Sto → Res R := fun _ S => (evs C xs [] e S).bind (kMut3 m x)
theorem kMut2_ap {C : Orc} {e : Ev} {S : Sto} {m : Mu} {xs : List X} {x : R} {ds : List D} : kMut2 C m xs e x ds S = (evs C xs [] e S).bind (kMut3 m x) := rfl
def kMut1 (C : Orc) (m : Mu) (xs : List X) (e : Ev) : R → Sto → Res R := fun x S => (opt (viewL S (fz x)) S).bind (kMut2 C m xs e x)
theorem kMut1_ap {C : Orc} {e : Ev} {S : Sto} {m : Mu} {xs : List X} {x : R} : kMut1 C m xs e x S = (opt (viewL S (fz x)) S).bind (kMut2 C m xs e x) := rfl
theorem ev_mut {C : Orc} {e : Ev} {S : Sto} {m : Mu} {a : X} {xs : List X} : evN C (.mut m a xs) e S = (evN C a e S).bind (kMut1 C m xs e) := by first | (simp only [evN]; done) | (simp only [evN]; rfl)
def kPrm (p : Pm) : List W → Sto → Res R := fun ws S => opt (rpm p S ws) S
theorem kPrm_ap {p : Pm} {ws : List W} {S : Sto} : kPrm p ws S = opt (rpm p S ws) S := rfl
theorem ev_prm {C : Orc} {e : Ev} {S : Sto} {p : Pm} {xs : List X} : evN C (.prm p xs) e S = (evs C xs [] e S).bind (kPrm p) := by first | (simp only [evN]; done) | (simp only [evN]; rfl)
def kC3 (C : Orc) (elt : X) (e : Ev) : Bool → Sto → Res (Option D) := fun k S => match k with
  | true => (evN C elt e S).bind oneD
  | false => .ok none S
theorem kC3_t {C : Orc} {e : Ev} {S : Sto} {elt : X} : kC3 C elt e true S = (evN C elt e S).bind oneD := rfl
theorem kC3_f {C : Orc} {e : Ev} {S : Sto} {elt : X} : kC3 C elt e false S = .ok none S := rfl
def kC2 (C : Orc) (elt : X) (ifs : List X) : Ev → Sto → Res (Option D) := fun e S => (tests C ifs e S).bind (kC3 C elt e)
theorem kC2_ap {C : Orc} {e : Ev} {S : Sto} {elt : X} {ifs : List X} : kC2 C elt ifs e S = (tests C ifs e S).bind (kC3 C elt e) := rfl
def cturn (C : Orc) (elt : X) (tg : Tg) (ifs : List X) (own : List Nat) (e : Ev) : W → Sto → Res (Option D) := fun w S => (opt (bindT tg w (wipeE e own)) S).bind (kC2 C elt ifs)
theorem cturn_ap {C : Orc} {e : Ev} {S : Sto} {elt : X} {tg : Tg} {ifs : List X} {own : List Nat} {w : W} : cturn C elt tg ifs own e w S = (opt (bindT tg w (wipeE e own)) S).bind (kC2 C elt ifs) := rfl
def kK3 (C : Orc) (elt : X) (e : Ev) : Bool → Sto → Res (Option D) := fun k S => match k with
  | true => (evN C elt e S).bind oneK
  | false => .ok none S
theorem kK3_t {C : Orc} {e : Ev} {S : Sto} {elt : X} : kK3 C elt e true S = (evN C elt e S).bind oneK := rfl
theorem kK3_f {C : Orc} {e : Ev} {S : Sto} {elt : X} : kK3 C elt e false S = .ok none S := rfl
def kK2 (C : Orc) (elt : X) (ifs : List X) : Ev → Sto → Res (Option D) := fun e S => (tests C ifs e S).bind (kK3 C elt e)
theorem kK2_ap {C : Orc} {e : Ev} {S : Sto} {elt : X} {ifs : List X} : kK2 C elt ifs e S = (tests C ifs e S).bind (kK3 C elt e) := rfl
def kturn (C : Orc) (elt : X) (tg : Tg) (ifs : List X) (own : List Nat) (e : Ev) : W → Sto → Res (Option D) := fun w S => (opt (bindT tg w (wipeE e own)) S).bind (kK2 C elt ifs)
theorem kturn_ap {C : Orc} {e : Ev} {S : Sto} {elt : X} {tg : Tg} {ifs : List X} {own : List Nat} {w : W} : kturn C elt tg ifs own e w S = (opt (bindT tg w (wipeE e own)) S).bind (kK2 C elt ifs) := rfl
def kN : List D → Sto → Res R := fun ds S => .ok (.n ds) S
theorem kN_ap {ds : List D} {S : Sto} : kN ds S = .ok (.n ds) S := rfl
def kComp (f : W → Sto → Res (Option D)) : List W → Sto → Res R := fun ws S => few ws.length ((noX (loopC f ws S)).bind kN)
theorem kComp_ap {f : W → Sto → Res (Option D)} {ws : List W} {S : Sto} : kComp f ws S = few ws.length ((noX (loopC f ws S)).bind kN) := rfl
def kLs : List D → Sto → Res R := fun ds S => .ok (ki (keysOf ds).length) S
theorem kLs_ap {ds : List D} {S : Sto} : kLs ds S = .ok (ki (keysOf ds).length) S := rfl
def kLsc (f : W → Sto → Res (Option D)) : List W → Sto → Res R := fun ws S => if ws.length ≤ 4000 then (noX (loopC f ws S)).bind kLs else .stuck
theorem kLsc_ap {f : W → Sto → Res (Option D)} {ws : List W} {S : Sto} : kLsc f ws S = if ws.length ≤ 4000 then (noX (loopC f ws S)).bind kLs else .stuck := rfl
theorem cturn_eq {C : Orc} {e : Ev} {elt : X} {tg : Tg} {ifs : List X} {own : List Nat} : (fun (w : W) (S : Sto) => (opt (bindT tg w (wipeE e own)) S).bind fun e' S => (tests C ifs e' S).bind fun k S => match k with
        | true => (evN C elt e' S).bind fun r S => oneD r S
        | false => .ok none S) = cturn C elt tg ifs own e := by
  funext w S
  unfold cturn
  first
  | rfl
  | (congr 1; funext e' S'; unfold kC2; congr 1; funext k S''; cases k <;> rfl)
theorem kturn_eq {C : Orc} {e : Ev} {elt : X} {tg : Tg} {ifs : List X} {own : List Nat} : (fun (w : W) (S : Sto) => (opt (bindT tg w (wipeE e own)) S).bind fun e' S => (tests C ifs e' S).bind fun k S => match k with
        | true => (evN C elt e' S).bind fun r S => oneK r S
        | false => .ok none S) = kturn C elt tg ifs own e := by
  funext w S
  unfold kturn
  first
  | rfl
  | (congr 1; funext e' S'; unfold kK2; congr 1; funext k S''; cases k <;> rfl)
theorem ev_comp {C : Orc} {e : Ev} {S : Sto} {elt : X} {tg : Tg} {it : I} {ifs : List X} {own : List Nat} : evN C (.comp elt tg it ifs own) e S = (evI C it e S).bind (kComp (cturn C elt tg ifs own e)) := by
  simp only [evN]
  exact congrArg (fun f => (evI C it e S).bind fun ws S1 => few ws.length ((noX (loopC f ws S1)).bind fun ds S2 => Res.ok (R.n ds) S2)) (cturn_eq (C := C) (e := e) (elt := elt) (tg := tg) (ifs := ifs) (own := own))
theorem ev_lsc {C : Orc} {e : Ev} {S : Sto} {elt : X} {tg : Tg} {it : I} {ifs : List X} {own : List Nat} : evN C (.lsc elt tg it ifs own) e S = (evI C it e S).bind (kLsc (kturn C elt tg ifs own e)) := by
  simp only [evN]
  exact congrArg (fun f => (evI C it e S).bind fun ws S1 => if ws.length ≤ 4000 then (noX (loopC f ws S1)).bind fun ds S2 => Res.ok (ki (keysOf ds).length) S2 else Res.stuck) (kturn_eq (C := C) (e := e) (elt := elt) (tg := tg) (ifs := ifs) (own := own))
def kCons (w : W) : List W → Sto → Res (List W) := fun ws S => .ok (w :: ws) S
theorem kCons_ap {w : W} {ws : List W} {S : Sto} : kCons w ws S = .ok (w :: ws) S := rfl
def kEvs2 (C : Orc) (xs : List X) (lv : List Bool) (e : Ev) : W → Sto → Res (List W) := fun w S => (evs C xs lv e S).bind (kCons w)
theorem kEvs2_ap {C : Orc} {e : Ev} {S : Sto} {xs : List X} {lv : List Bool} {w : W} : kEvs2 C xs lv e w S = (evs C xs lv e S).bind (kCons w) := rfl
def kEvs1 (C : Orc) (xs : List X) (lv : List Bool) (e : Ev) : R → Sto → Res (List W) := fun r S => (give (lv.headD false) r S).bind (kEvs2 C xs lv.tail e)
theorem kEvs1_ap {C : Orc} {e : Ev} {S : Sto} {xs : List X} {lv : List Bool} {r : R} : kEvs1 C xs lv e r S = (give (lv.headD false) r S).bind (kEvs2 C xs lv.tail e) := rfl
theorem ev_nil {C : Orc} {e : Ev} {S : Sto} {lv : List Bool} : evs C [] lv e S = .ok [] S := by first | (simp only [evs]; done) | (simp only [evs]; rfl)
theorem ev_cons {C : Orc} {e : Ev} {S : Sto} {x : X} {xs : List X} {lv : List Bool} : evs C (x :: xs) lv e S = (evN C x e S).bind (kEvs1 C xs lv e) := by first | (simp only [evs]; done) | (simp only [evs]; rfl)
def kSq  : R → Sto → Res (List W) := fun x S => opt (itemsW (fz x)) S
theorem kSq_ap {x : R} {S : Sto} : kSq x S = opt (itemsW (fz x)) S := rfl
theorem ev_sq {C : Orc} {e : Ev} {S : Sto} {a : X} : evI C (.sq a) e S = (evN C a e S).bind kSq := by
  first
  | (simp only [evN, exec, evI, evs, tests, execs, optB_eq]; done)
  | (simp only [evN, exec, evI, evs, tests, execs, optB_eq]; rfl)
  | ((simp only [evI]); (congr 1); (funext x S1); (show _ = opt _ _); (cases itemsW (fz x) <;> rfl))
  | ((simp only [evI]); (congr 1); (funext x S1); (show _ = opt _ _))
def rngW (i : Int) (S : Sto) : Res (List W) := if -(2 ^ 62) ≤ i ∧ i < 2 ^ 62 then .ok (rangeW 0 i.toNat) S else .stuck
def rngO : Option Int → Sto → Res (List W)
  | some i, S => rngW i S
  | none, _ => .stuck
theorem rngO_eq (o : Option Int) (S : Sto) : ((opt o S).bind fun i S2 => if -(2 ^ 62) ≤ i ∧ i < 2 ^ 62 then .ok (rangeW 0 i.toNat) S2 else .stuck) = rngO o S := by
  cases o with
  | none => rfl
  | some i => rfl
def kRng  : R → Sto → Res (List W) := fun x S => rngO (asInt (fz x)) S
theorem kRng_ap {x : R} {S : Sto} : kRng x S = rngO (asInt (fz x)) S := rfl
theorem ev_rng1 {C : Orc} {e : Ev} {S : Sto} {a : X} : evI C (.rng1 a) e S = (evN C a e S).bind kRng := by
  first
  | (simp only [evN, exec, evI, evs, tests, execs, optB_eq]; done)
  | (simp only [evN, exec, evI, evs, tests, execs, optB_eq]; rfl)
  | ((simp only [evI, rngO_eq]); (rfl))
  | ((simp only [evI, rngO_eq]))
def k_enm2  : List D → Sto → Res (List W) := fun xs S => .ok (enumFrom 0 xs) S
theorem k_enm2_ap {xs : List D} {S : Sto} : k_enm2 xs S = .ok (enumFrom 0 xs) S := rfl
def k_enm  : R → Sto → Res (List W) := fun x S => (opt (listD (fz x)) S).bind k_enm2
theorem k_enm_ap {x : R} {S : Sto} : k_enm x S = (opt (listD (fz x)) S).bind k_enm2 := rfl
theorem ev_ienm {C : Orc} {e : Ev} {S : Sto} {a : X} : evI C (.enm a) e S = (evN C a e S).bind k_enm := by first | (simp only [evI]; done) | (simp only [evI]; rfl)
def k_rev2  : List D → Sto → Res (List W) := fun xs S => .ok ((xs.reverse.map .d)) S
theorem k_rev2_ap {xs : List D} {S : Sto} : k_rev2 xs S = .ok ((xs.reverse.map .d)) S := rfl
def k_rev  : R → Sto → Res (List W) := fun x S => (opt (listD (fz x)) S).bind k_rev2
theorem k_rev_ap {x : R} {S : Sto} : k_rev x S = (opt (listD (fz x)) S).bind k_rev2 := rfl
theorem ev_irev {C : Orc} {e : Ev} {S : Sto} {a : X} : evI C (.rev a) e S = (evN C a e S).bind k_rev := by first | (simp only [evI]; done) | (simp only [evI]; rfl)
def kTest  : R → Sto → Res Bool := fun r S => opt (truthW S (fz r)) S
theorem kTest_ap {r : R} {S : Sto} : kTest r S = opt (truthW S (fz r)) S := rfl
theorem ev_t0 {C : Orc} {e : Ev} {S : Sto} : tests C [] e S = .ok true S := by first | (simp only [tests]; done) | (simp only [tests]; rfl)
theorem ev_t1 {C : Orc} {e : Ev} {S : Sto} {x : X} {xs : List X} : tests C (x :: xs) e S = (evN C x e S).bind kTest := by first | (simp only [tests]; done) | (simp only [tests]; rfl)
theorem ev_T {C : Orc} {e : Ev} {S : Sto} {x : X} : evT C x e S = (evN C x e S).bind kTest := rfl
def kRet  : R → Sto → Res Fl := fun r S => .ok (.ret r) S
theorem kRet_ap {r : R} {S : Sto} : kRet r S = .ok (.ret r) S := rfl
theorem ev_ret {C : Orc} {e : Ev} {S : Sto} {x : X} : exec C (.ret x) e S = (evN C x e S).bind kRet := by first | (simp only [exec]; done) | (simp only [exec]; rfl)
theorem ev_retN {C : Orc} {e : Ev} {S : Sto} : exec C .retN e S = .ok (.ret (.w (.d .none))) S := by first | (simp only [exec]; done) | (simp only [exec]; rfl)
def nextE : Option Ev → Sto → Res Fl
  | some e, S => .ok (.next e) S
  | none, _ => .stuck
theorem nextE_ok {e : Ev} {S : Sto} : nextE (some e) S = .ok (.next e) S := rfl
def kAsg (tg : Tg) (e : Ev) : R → Sto → Res Fl := fun r S => nextE (bindT tg (fz r) e) S
theorem kAsg_ap {tg : Tg} {e : Ev} {r : R} {S : Sto} : kAsg tg e r S = nextE (bindT tg (fz r) e) S := rfl
theorem ev_asg {C : Orc} {e : Ev} {S : Sto} {tg : Tg} {x : X} : exec C (.asg tg x) e S = (evN C x e S).bind (kAsg tg e) := by
  first
  | (simp only [evN, exec, evI, evs, tests, execs, optB_eq]; done)
  | (simp only [evN, exec, evI, evs, tests, execs, optB_eq]; rfl)
  | ((simp only [exec]); (congr 1); (funext r S1); (show _ = nextE _ _); (cases bindT tg (fz r) e <;> rfl))
  | ((simp only [exec]); (congr 1); (funext r S1); (show _ = nextE _ _))
def kNew2 (i : Nat) (e : Ev) : W → Sto → Res Fl := fun w S => .ok (.next (e.set i (some w))) S
theorem kNew2_ap {i : Nat} {e : Ev} {w : W} {S : Sto} : kNew2 i e w S = .ok (.next (e.set i (some w))) S := rfl
def kNew1 (i : Nat) (e : Ev) : R → Sto → Res Fl := fun r S => (give true r S).bind (kNew2 i e)
theorem kNew1_ap {i : Nat} {e : Ev} {r : R} {S : Sto} : kNew1 i e r S = (give true r S).bind (kNew2 i e) := rfl
theorem ev_new {C : Orc} {e : Ev} {S : Sto} {i : Nat} {x : X} : exec C (.new i x) e S = (evN C x e S).bind (kNew1 i e) := by first | (simp only [exec]; done) | (simp only [exec]; rfl)
def kExp (e : Ev) : R → Sto → Res Fl := fun _ S => .ok (.next e) S
theorem kExp_ap {e : Ev} {r : R} {S : Sto} : kExp e r S = .ok (.next e) S := rfl
theorem ev_exp {C : Orc} {e : Ev} {S : Sto} {x : X} : exec C (.exp x) e S = (evN C x e S).bind (kExp e) := by first | (simp only [exec]; done) | (simp only [exec]; rfl)
def kIf (C : Orc) (a b : List Sm) (e : Ev) : Bool → Sto → Res Fl := fun k S => match k with
  | true => execs C a e S
  | false => execs C b e S
theorem kIf_t {C : Orc} {e : Ev} {S : Sto} {a b : List Sm} : kIf C a b e true S = execs C a e S := rfl
theorem kIf_f {C : Orc} {e : Ev} {S : Sto} {a b : List Sm} : kIf C a b e false S = execs C b e S := rfl
theorem ev_if {C : Orc} {e : Ev} {S : Sto} {c : X} {a b : List Sm} : exec C (.ite c a b) e S = (evT C c e S).bind (kIf C a b e) := by
  first
  | (simp only [evN, exec, evI, evs, tests, execs, optB_eq]; done)
  | (simp only [evN, exec, evI, evs, tests, execs, optB_eq]; rfl)
  | ((simp only [exec]); (congr 1); (funext k S1); (cases k <;> rfl))
  | ((simp only [exec]); (congr 1); (funext k S1))
def turn (C : Orc) (tg : Tg) (body : List Sm) : W → Ev → Sto → Res Fl := fun w e S => (opt (bindT tg w e) S).bind fun e' S' => execs C body e' S'
def kTurn (C : Orc) (body : List Sm) : Ev → Sto → Res Fl := fun e S => execs C body e S
theorem kTurn_ap {C : Orc} {body : List Sm} {e : Ev} {S : Sto} : kTurn C body e S = execs C body e S := rfl
theorem turn_ap {C : Orc} {tg : Tg} {body : List Sm} {w : W} {e : Ev} {S : Sto} : turn C tg body w e S = (opt (bindT tg w e) S).bind (kTurn C body) := rfl
def kFor (f : W → Ev → Sto → Res Fl) (e : Ev) : List W → Sto → Res Fl := fun ws S => loopF f ws e S
theorem kFor_ap {f : W → Ev → Sto → Res Fl} {e : Ev} {ws : List W} {S : Sto} : kFor f e ws S = loopF f ws e S := rfl
theorem ev_for {C : Orc} {e : Ev} {S : Sto} {tg : Tg} {it : I} {body : List Sm} : exec C (.for_ tg it body) e S = (evI C it e S).bind (kFor (turn C tg body) e) := by first | (simp only [exec]; done) | (simp only [exec]; rfl)
def kSix4 (e : Ev) : Unit → Sto → Res Fl := fun _ S => .ok (.next e) S
theorem kSix4_ap {e : Ev} {S : Sto} : kSix4 e () S = .ok (.next e) S := rfl
def kSix3 (e : Ev) (z x : R) : R → Sto → Res Fl := fun y S => (rset S (fz x) (fz y) (fz z)).bind (kSix4 e)
theorem kSix3_ap {e : Ev} {z x y : R} {S : Sto} : kSix3 e z x y S = (rset S (fz x) (fz y) (fz z)).bind (kSix4 e) := rfl
def kSix2 (C : Orc) (i : X) (e : Ev) (z : R) : R → Sto → Res Fl := fun x S => (evN C i e S).bind (kSix3 e z x)
theorem kSix2_ap {C : Orc} {e : Ev} {S : Sto} {i : X} {z x : R} : kSix2 C i e z x S = (evN C i e S).bind (kSix3 e z x) := rfl
def kSix1 (C : Orc) (o i : X) (e : Ev) : R → Sto → Res Fl := fun z S => (evN C o e S).bind (kSix2 C i e z)
theorem kSix1_ap {C : Orc} {e : Ev} {S : Sto} {o i : X} {z : R} : kSix1 C o i e z S = (evN C o e S).bind (kSix2 C i e z) := rfl
theorem ev_six {C : Orc} {e : Ev} {S : Sto} {o i v : X} : exec C (.six o i v) e S = (evN C v e S).bind (kSix1 C o i e) := by first | (simp only [exec]; done) | (simp only [exec]; rfl)
theorem ev_pass {C : Orc} {e : Ev} {S : Sto} : exec C .pass e S = .ok (.next e) S := by first | (simp only [exec]; done) | (simp only [exec]; rfl)
def kSeq (C : Orc) (ss : List Sm) : Fl → Sto → Res Fl := fun fl S => match fl with
  | .next e => execs C ss e S
  | .ret r => .ok (.ret r) S
theorem kSeq_n {C : Orc} {e : Ev} {S : Sto} {ss : List Sm} : kSeq C ss (.next e) S = execs C ss e S := rfl
theorem kSeq_r {C : Orc} {S : Sto} {ss : List Sm} {r : R} : kSeq C ss (.ret r) S = .ok (.ret r) S := rfl
theorem ev_s0 {C : Orc} {e : Ev} {S : Sto} : execs C [] e S = .ok (.next e) S := by first | (simp only [execs]; done) | (simp only [execs]; rfl)
theorem ev_s1 {C : Orc} {e : Ev} {S : Sto} {s : Sm} {ss : List Sm} : execs C (s :: ss) e S = (exec C s e S).bind (kSeq C ss) := by
  first
  | (simp only [evN, exec, evI, evs, tests, execs, optB_eq]; done)
  | (simp only [evN, exec, evI, evs, tests, execs, optB_eq]; rfl)
  | ((simp only [execs]); (congr 1); (funext fl S1); (cases fl <;> rfl))
  | ((simp only [execs]); (congr 1); (funext fl S1))
def kLeave (n0 : Nat) : Fl → Sto → Res R := fun fl S => leave n0 fl S
theorem kLeave_n {n0 : Nat} {e : Ev} {S : Sto} : kLeave n0 (.next e) S = .ok (.w (.d .none)) S := rfl
theorem kLeave_d {n0 : Nat} {d : D} {S : Sto} : kLeave n0 (.ret (.w (.d d))) S = .ok (.w (.d d)) S := rfl
theorem kLeave_l {n0 : Nat} {xs : List D} {S : Sto} : kLeave n0 (.ret (.n xs)) S = .ok (.n xs) S := rfl
theorem kLeave_k {n0 : Nat} {xs : List (Key × D)} {S : Sto} : kLeave n0 (.ret (.nk xs)) S = .ok (.nk xs) S := rfl
theorem kLeave_o {n0 n : Nat} {S : Sto} : kLeave n0 (.ret (.w (.o n))) S = leave n0 (.ret (.w (.o n))) S := rfl
theorem run_def {C : Orc} {n : Nat} {body : List Sm} {ws : List W} {S : Sto} : runDef C n body ws S = (execs C body (startE n ws) S).bind (kLeave S.length) := rfl
/-! ### texts -/
theorem ofS_inj {a b : String} : Str.ofString a = Str.ofString b ↔ a = b := by
  constructor
  · intro h
    rw [Str.ofString_eq_toList, Str.ofString_eq_toList] at h
    have h1 : a.toList.map Char.toNat = b.toList.map Char.toNat := by
      have := congrArg (fun x : Str => x.cps.toList) h
      simpa using this
    have inj : ∀ (x y : List Char), x.map Char.toNat = y.map Char.toNat → x = y := by
      intro x
      induction x with
      | nil => intro y h; cases y with
        | nil => rfl
        | cons _ _ => simp at h
      | cons c r ih => intro y h; cases y with
        | nil => simp at h
        | cons d s =>
          simp only [List.map_cons, List.cons.injEq] at h
          have e : c = d := Char.ext (UInt32.toNat_inj.mp h.1)
          rw [e, ih s h.2]
    exact String.toList_inj.mp (inj _ _ h1)
  · intro h; rw [h]
theorem ofS_beq (a b : String) : (Str.ofString a == Str.ofString b) = (a == b) := by
  by_cases h : a = b
  · subst h; simp
  · have h2 : ¬ Str.ofString a = Str.ofString b := fun e => h (ofS_inj.mp e)
    rw [beq_eq_false_iff_ne.mpr h, beq_eq_false_iff_ne.mpr h2]
theorem eqD_str (a b : Str) : eqD (.str a) (.str b) = some (a == b) := by
  unfold eqD
  rw [if_pos (by simp [PyData.depth])]
  rfl
theorem eqD_int (a b : Int) : eqD (.int a) (.int b) = some (a == b) := by
  unfold eqD
  rw [if_pos (by simp [PyData.depth])]
  rfl
/-! ### subscripts by 0, 1, 2, 3 -/
theorem ixN_0 {n : Nat} : ixN (n + 1) 0 = some 0 := by unfold ixN; simp <;> omega
theorem ixN_1 {n : Nat} : ixN (n + 1 + 1) 1 = some 1 := by unfold ixN; simp <;> omega
theorem ixN_2 {n : Nat} : ixN (n + 1 + 1 + 1) 2 = some 2 := by unfold ixN; simp <;> omega
theorem ixN_3 {n : Nat} : ixN (n + 1 + 1 + 1 + 1) 3 = some 3 := by unfold ixN; simp <;> omega
theorem ridx_t0 {S : Sto} {a : D} {r : List D} : ridx S (.d (.tuple (a :: r))) (.d (.int 0)) = some (.w (.d a)) := by simp [ridx, atI, ixN_0]
theorem ridx_t1 {S : Sto} {a b : D} {r : List D} : ridx S (.d (.tuple (a :: b :: r))) (.d (.int 1)) = some (.w (.d b)) := by simp [ridx, atI, ixN_1]
theorem ridx_t2 {S : Sto} {a b c : D} {r : List D} : ridx S (.d (.tuple (a :: b :: c :: r))) (.d (.int 2)) = some (.w (.d c)) := by simp [ridx, atI, ixN_2]
theorem ridx_t3 {S : Sto} {a b c d : D} {r : List D} : ridx S (.d (.tuple (a :: b :: c :: d :: r))) (.d (.int 3)) = some (.w (.d d)) := by simp [ridx, atI, ixN_3]
theorem ridx_l0 {S : Sto} {a : D} {r : List D} : ridx S (.d (.list (a :: r))) (.d (.int 0)) = some (.w (.d a)) := by simp [ridx, atI, ixN_0]
theorem ridx_l1 {S : Sto} {a b : D} {r : List D} : ridx S (.d (.list (a :: b :: r))) (.d (.int 1)) = some (.w (.d b)) := by simp [ridx, atI, ixN_1]
theorem ridx_l2 {S : Sto} {a b c : D} {r : List D} : ridx S (.d (.list (a :: b :: c :: r))) (.d (.int 2)) = some (.w (.d c)) := by simp [ridx, atI, ixN_2]
theorem ridx_l3 {S : Sto} {a b c d : D} {r : List D} : ridx S (.d (.list (a :: b :: c :: d :: r))) (.d (.int 3)) = some (.w (.d d)) := by simp [ridx, atI, ixN_3]
/-- by a number within -/
theorem ridx_ln {S : Sto} {xs : List D} {i : Nat} {x : D} (h : xs[i]? = some x) : ridx S (.d (.list xs)) (.d (.int i)) = some (.w (.d x)) := by
  have hl : i < xs.length := (List.getElem?_eq_some_iff.mp h).1
  simp only [ridx, atI]
  have e : ixN xs.length (i : Int) = some i := by unfold ixN; simp <;> omega
  rw [e]
  simp [h]
theorem ridx_tn {S : Sto} {xs : List D} {i : Nat} {x : D} (h : xs[i]? = some x) : ridx S (.d (.tuple xs)) (.d (.int i)) = some (.w (.d x)) := by
  have hl : i < xs.length := (List.getElem?_eq_some_iff.mp h).1
  simp only [ridx, atI]
  have e : ixN xs.length (i : Int) = some i := by unfold ixN; simp <;> omega
  rw [e]
  simp [h]
/-! ### arithmetic -/
section
variable {S : Sto} {i j : Int}
theorem rb_add : rbin .add S (.d (.int i)) (.d (.int j)) = some (ki (i + j)) := rfl
theorem rb_sub : rbin .sub S (.d (.int i)) (.d (.int j)) = some (ki (i - j)) := rfl
theorem rb_mul (h : -1000000 < j ∧ j < 1000000) : rbin .mul S (.d (.int i)) (.d (.int j)) = some (ki (i * j)) := by
  simp only [rbin]
  rw [if_pos]
  unfold mulOk
  simp only [Bool.or_eq_true, Bool.and_eq_true, decide_eq_true_eq]
  exact .inr ⟨by omega, by omega⟩
theorem rb_mul2 (h : -1000000 < i ∧ i < 1000000) : rbin .mul S (.d (.int i)) (.d (.int j)) = some (ki (i * j)) := by
  simp only [rbin]
  rw [if_pos]
  unfold mulOk
  simp only [Bool.or_eq_true, Bool.and_eq_true, decide_eq_true_eq]
  exact .inl ⟨by omega, by omega⟩
theorem rb_mod (h : 0 < j) : rbin .mod S (.d (.int i)) (.d (.int j)) = some (ki (i % j)) := by
  simp only [rbin]
  rw [if_pos h]
theorem rb_fdiv (h : 0 < j ∧ j < 1073741824) : rbin .fdiv S (.d (.int i)) (.d (.int j)) = some (ki (i / j)) := by
  simp only [rbin]
  rw [if_pos h]
theorem rb_pow18 : rbin .pow S (.d (.int 10)) (.d (.int 18)) = some (ki 1000000000000000000) := by
  simp only [rbin]
  rw [if_pos (by decide)]
  rfl
theorem rb_addL {xs ys : List D} (h : xs.length + ys.length ≤ sizeLine) : rbin .add S (.d (.list xs)) (.d (.list ys)) = some (.n (xs ++ ys)) := by
  simp only [rbin, viewL]
  rw [if_pos h]
end
mutual
def noDic : D → Bool
  | .list xs => noDics xs
  | .tuple xs => noDics xs
  | .dict _ => false
  | _ => true
def noDics : List D → Bool
  | [] => true
  | d :: ds => noDic d && noDics ds
end
mutual
theorem eqv_refl : ∀ {d : D}, noDic d = true → PyData.eqv d d = true
  | .none, _ => rfl
  | .bool b, _ => by simp [PyData.eqv]
  | .int i, _ => by simp [PyData.eqv]
  | .str x, _ => by simp [PyData.eqv]
  | .list xs, h => by simp only [PyData.eqv]; exact eqvAll_refl (by simpa [noDic] using h)
  | .tuple xs, h => by simp only [PyData.eqv]; exact eqvAll_refl (by simpa [noDic] using h)
  | .dict _, h => by simp [noDic] at h
theorem eqvAll_refl : ∀ {ds : List D}, noDics ds = true → PyData.eqvAll ds ds = true
  | [], _ => rfl
  | d :: ds, h => by
    unfold noDics at h
    obtain ⟨h1, h2⟩ := b2 h
    simp only [PyData.eqvAll]
    rw [eqv_refl h1, eqvAll_refl h2]; rfl
end
end Sc
namespace Sc
open PySem PySem.Spec PyProof.Rows L2
/-! ### formulas -/
inductive Tm where
  | nm (s : Str) | no (i : Int) | it (i : Int)
def Tm.e : Tm → D
  | .nm s => .str s
  | .no i => .int i
  | .it i => .tuple [.str "it", .int i]
inductive O2 where | and | or | if_
def O2.s : O2 → String
  | .and => "and" | .or => "or" | .if_ => "if"
def anyS : Bool → String
  | true => "all"
  | false => "some"
inductive Fm where
  | fact (w : Str) (ts : List Tm) | not (f : Fm) | two (o : O2) (f g : Fm) | any (a : Bool) (n : Int) (f : Fm)
def Fm.e : Fm → D
  | .fact w ts => .tuple [.str "fact", .str w, .tuple (ts.map Tm.e)]
  | .not f => .tuple [.str "not", f.e]
  | .two o f g => .tuple [.str o.s, f.e, g.e]
  | .any a n f => .tuple [.str (anyS a), .int n, f.e]
def Fm.h : Fm → Nat
  | .fact _ _ => 1
  | .not f => f.h + 1
  | .two _ f g => max f.h g.h + 1
  | .any _ _ f => f.h + 1
def Fm.size : Fm → Nat
  | .fact _ _ => 1
  | .not f => f.size + 1
  | .two _ f g => f.size + g.size + 1
  | .any _ _ f => f.size + 1
abbrev Pt := Int ⊕ Fm
def ptE : Pt → D
  | .inl n => .int n
  | .inr f => f.e
def stA : Pt → Fm → Fm
  | .inl n, a => .any true n a
  | .inr f, a => .two .if_ f a
def stS : Pt → Fm → Fm
  | .inl n, a => .any false n a
  | .inr f, a => .two .and f a
/-- the plain form; what it opens, all but the last; the last -/
def fo : Fm → Fm × List Pt × Fm
  | .fact w ts => (.fact w ts, [], .fact w ts)
  | .not f => (.not (fo f).1, [], .not (fo f).1)
  | .two .or f g => (.two .or (fo f).1 (fo g).1, [], .two .or (fo f).1 (fo g).1)
  | .two .if_ f g => (((fo f).2.1 ++ [(Sum.inr (fo f).2.2 : Pt)]).foldr stA (fo g).1, [], ((fo f).2.1 ++ [(Sum.inr (fo f).2.2 : Pt)]).foldr stA (fo g).1)
  | .two .and f g => (((fo f).2.1 ++ .inr (fo f).2.2 :: (fo g).2.1).foldr stS (fo g).2.2, (fo f).2.1 ++ .inr (fo f).2.2 :: (fo g).2.1, (fo g).2.2)
  | .any true n f => (.any true n (fo f).1, [], .any true n (fo f).1)
  | .any false n f => ((.inl n :: (fo f).2.1).foldr stS (fo f).2.2, .inl n :: (fo f).2.1, (fo f).2.2)
def opE (f : Fm) : List D := (fo f).2.1.map ptE ++ [(fo f).2.2.e]
section
variable {tab : Tab} {S : Sto}
theorem Fm.e_tup : ∀ f : Fm, ∃ ds, f.e = .tuple ds
  | .fact _ _ => ⟨_, rfl⟩
  | .not _ => ⟨_, rfl⟩
  | .two _ _ _ => ⟨_, rfl⟩
  | .any _ _ _ => ⟨_, rfl⟩
def arW (w j : String) (one : D) (found : D) : D := match one with
  | .int n => .tuple [.str w, .int n, found]
  | .bool b => .tuple [.str w, .bool b, found]
  | x => match found with
    | .none => x
    | f => .tuple [.str j, x, f]
def arB : List Sm := [.ite (.isi (.loc 4) .int) [.asg (.nm 3) (.tup [(.loc 1), (.loc 4), (.loc 3)])] [.asg (.nm 3) (.ite (.isN false (.loc 3)) (.loc 4) (.tup [(.loc 2), (.loc 4), (.loc 3)]))]]
theorem around_loop {C : Orc} (w j : String) (row : W) : ∀ (xs : List D) (found : D) (o : Option W), ∃ o', loopF (turn C (.nm 4) arB) (xs.map .d) [some row, some (.d (.str w)), some (.d (.str j)), some (.d found), o] S
    = .ok (.next [some row, some (.d (.str w)), some (.d (.str j)), some (.d (xs.foldl (fun a x => arW w j x a) found)), o']) S
  | [], found, o => ⟨o, rfl⟩
  | x :: xs, found, o => by
    obtain ⟨o', h⟩ := around_loop w j row xs (arW w j x found) (some (.d x))
    refine ⟨o', ?_⟩
    have h1 : turn C (.nm 4) arB (.d x) [some row, some (.d (.str w)), some (.d (.str j)), some (.d found), o] S = .ok (.next [some row, some (.d (.str w)), some (.d (.str j)), some (.d (arW w j x found)), some (.d x)]) S := by
      cases x <;> cases found <;> simp [turn_ap, arB, arW, locR_ok, ev_loc, ev_dat, optB_ok, kBin2_ap, kBin1_ap, ev_bin, kCmp2_ap, kCmp1_ap, ev_cmp, kChn3_t, kChn3_f, kChn2_ap, kChn1_ap, ev_chn, kIsN_ap, ev_isN, kAnd2_t, kAnd2_f, kAnd1_ap, ev_and, kOr2_t, kOr2_f, kOr1_ap, ev_or, kNot_ap, ev_not, kIte2_t, kIte2_f, kIte1_ap, ev_ite, optT_ok, optL_ok, kTup_ap, kLst_ap, ev_tup, ev_lst, kIdx2_ap, kIdx1_ap, ev_idx, kslF3_ap, kslF2_ap, kslF1_ap, ev_slF, kslT3_ap, kslT2_ap, kslT1_ap, ev_slT, kRev2_ap, kRev_ap, ev_rev, kCall_ap, ev_call, kIsi2_ap, kIsi_ap, ev_isi, kBlt_ap, ev_blt, kMut3_ap, kMut2_ap, kMut1_ap, ev_mut, kPrm_ap, ev_prm, kC3_t, kC3_f, kC2_ap, kN_ap, kComp_ap, kLs_ap, kLsc_ap, kK3_t, kK3_f, kK2_ap, ev_comp, ev_lsc, kCons_ap, kEvs2_ap, kEvs1_ap, ev_nil, ev_cons, kSq_ap, ev_sq, kRng_ap, ev_rng1, k_enm2_ap, k_enm_ap, ev_ienm, k_rev2_ap, k_rev_ap, ev_irev, kTest_ap, ev_t0, ev_t1, ev_T, kRet_ap, ev_ret, ev_retN, nextE_ok, kAsg_ap, ev_asg, kNew2_ap, kNew1_ap, ev_new, kExp_ap, ev_exp, kIf_t, kIf_f, ev_if, kTurn_ap, kFor_ap, ev_for, kSix4_ap, kSix3_ap, kSix2_ap, kSix1_ap, ev_six, ev_pass, kSeq_n, kSeq_r, ev_s0, ev_s1, kLeave_n, kLeave_d, kLeave_l, kLeave_k, kLeave_o, run_def, rpm, startE, give, truthW, viewD, viewL, fz, isTy, kb, ki, dTruth, rcmp, rcmpD, cmpI, ridx_t0, ridx_t1, ridx_t2, ridx_t3, ridx_l0, ridx_l1, ridx_l2, ridx_l3, eqD_str, eqD_int, rbin, rblt, opt_some, opt_none, Res.bind_ok, Res.bind_stuck, Res.bind_exc, bindT, setAll, datas, asInt, itemsW, listD, rsl, List.map_cons, List.map_nil, List.length_cons, List.length_nil, List.cons_append, List.nil_append, List.replicate, List.getElem?_cons_zero, List.getElem?_cons_succ, List.headD_nil, List.headD_cons, List.tail_nil, List.tail_cons, Option.map_some, Option.map_none, List.set_cons_zero, List.set_cons_succ, ofS_beq, Bool.not_true, Bool.not_false, Bool.or_false, Bool.or_true, Bool.and_true, Bool.and_false, Bool.false_eq_true, if_true, if_false]
    simp only [List.map_cons, loopF, h1, Res.bind_ok]
    exact h
theorem around_ok (u : Ups tab) {k : Nat} (w j : String) (xs : List D) (found : D) : Cn tab (k + 1) "around" [.d (.list xs), .d (.str w), .d (.str j), .d found] S = .ok (.w (.d (xs.foldr (arW w j) found))) S := by
  rw [u_around u]
  obtain ⟨o', h⟩ := around_loop (S := S) (C := Cn tab k) w j (.d (.list xs)) xs.reverse found none
  rw [List.foldl_reverse] at h
  have e : b_around = [.for_ (.nm 4) (.rev (.loc 0)) arB, .ret (.loc 3)] := rfl
  simp only [e, locR_ok, ev_loc, ev_dat, optB_ok, kBin2_ap, kBin1_ap, ev_bin, kCmp2_ap, kCmp1_ap, ev_cmp, kChn3_t, kChn3_f, kChn2_ap, kChn1_ap, ev_chn, kIsN_ap, ev_isN, kAnd2_t, kAnd2_f, kAnd1_ap, ev_and, kOr2_t, kOr2_f, kOr1_ap, ev_or, kNot_ap, ev_not, kIte2_t, kIte2_f, kIte1_ap, ev_ite, optT_ok, optL_ok, kTup_ap, kLst_ap, ev_tup, ev_lst, kIdx2_ap, kIdx1_ap, ev_idx, kslF3_ap, kslF2_ap, kslF1_ap, ev_slF, kslT3_ap, kslT2_ap, kslT1_ap, ev_slT, kRev2_ap, kRev_ap, ev_rev, kCall_ap, ev_call, kIsi2_ap, kIsi_ap, ev_isi, kBlt_ap, ev_blt, kMut3_ap, kMut2_ap, kMut1_ap, ev_mut, kPrm_ap, ev_prm, kC3_t, kC3_f, kC2_ap, kN_ap, kComp_ap, kLs_ap, kLsc_ap, kK3_t, kK3_f, kK2_ap, ev_comp, ev_lsc, kCons_ap, kEvs2_ap, kEvs1_ap, ev_nil, ev_cons, kSq_ap, ev_sq, kRng_ap, ev_rng1, k_enm2_ap, k_enm_ap, ev_ienm, k_rev2_ap, k_rev_ap, ev_irev, kTest_ap, ev_t0, ev_t1, ev_T, kRet_ap, ev_ret, ev_retN, nextE_ok, kAsg_ap, ev_asg, kNew2_ap, kNew1_ap, ev_new, kExp_ap, ev_exp, kIf_t, kIf_f, ev_if, kTurn_ap, kFor_ap, ev_for, kSix4_ap, kSix3_ap, kSix2_ap, kSix1_ap, ev_six, ev_pass, kSeq_n, kSeq_r, ev_s0, ev_s1, kLeave_n, kLeave_d, kLeave_l, kLeave_k, kLeave_o, run_def, rpm, startE, give, truthW, viewD, viewL, fz, isTy, kb, ki, dTruth, rcmp, rcmpD, cmpI, ridx_t0, ridx_t1, ridx_t2, ridx_t3, ridx_l0, ridx_l1, ridx_l2, ridx_l3, eqD_str, eqD_int, rbin, rblt, opt_some, opt_none, Res.bind_ok, Res.bind_stuck, Res.bind_exc, bindT, setAll, datas, asInt, itemsW, listD, rsl, List.map_cons, List.map_nil, List.length_cons, List.length_nil, List.cons_append, List.nil_append, List.replicate, List.getElem?_cons_zero, List.getElem?_cons_succ, List.headD_nil, List.headD_cons, List.tail_nil, List.tail_cons, Option.map_some, Option.map_none, List.set_cons_zero, List.set_cons_succ, ofS_beq, Bool.not_true, Bool.not_false, Bool.or_false, Bool.or_true, Bool.and_true, Bool.and_false, Bool.false_eq_true, if_true, if_false, h]

/-! ### flat_of, opened -/
theorem arA : ∀ (ps : List Pt) (a : Fm), (ps.map ptE).foldr (arW "all" "if") a.e = (ps.foldr stA a).e
  | [], a => rfl
  | .inl n :: ps, a => by
    simp only [List.map_cons, List.foldr_cons, arA ps a, ptE, arW, stA, Fm.e, anyS]
  | .inr f :: ps, a => by
    simp only [List.map_cons, List.foldr_cons, arA ps a, ptE, stA, Fm.e, O2.s]
    obtain ⟨ds, hd⟩ := f.e_tup
    obtain ⟨es, he⟩ := (ps.foldr stA a).e_tup
    rw [hd, he]
    rfl
theorem arS1 : ∀ (ps : List Pt) (a : Fm), (ps.map ptE).foldr (arW "some" "and") a.e = (ps.foldr stS a).e
  | [], a => rfl
  | .inl n :: ps, a => by
    simp only [List.map_cons, List.foldr_cons, arS1 ps a, ptE, arW, stS, Fm.e, anyS]
  | .inr f :: ps, a => by
    simp only [List.map_cons, List.foldr_cons, arS1 ps a, ptE, stS, Fm.e, O2.s]
    obtain ⟨ds, hd⟩ := f.e_tup
    obtain ⟨es, he⟩ := (ps.foldr stS a).e_tup
    rw [hd, he]
    rfl
theorem arS (ps : List Pt) (a : Fm) : (ps.map ptE ++ [a.e]).foldr (arW "some" "and") .none = (ps.foldr stS a).e := by
  rw [List.foldr_append]
  simp only [List.foldr_cons, List.foldr_nil]
  obtain ⟨ds, hd⟩ := a.e_tup
  have : arW "some" "and" a.e .none = a.e := by rw [hd]; rfl
  rw [this, arS1]
theorem fo_size : ∀ f : Fm, (fo f).2.1.length + 1 ≤ f.size
  | .fact _ _ => by simp [fo, Fm.size]
  | .not f => by simp [fo, Fm.size]
  | .two .or f g => by simp [fo, Fm.size]
  | .two .if_ f g => by simp [fo, Fm.size]
  | .two .and f g => by
    have := fo_size f; have := fo_size g
    simp [fo, Fm.size]; omega
  | .any true n f => by simp [fo, Fm.size]
  | .any false n f => by
    have := fo_size f
    simp [fo, Fm.size]; omega
theorem size_line {n : Nat} (h : n ≤ 10000) : n ≤ sizeLine := Nat.le_trans h (by rw [sizeLine_eq]; decide)
theorem flat_ok (u : Ups tab) : ∀ (f : Fm), f.size ≤ 10000 → (∀ (k : Nat) (S : Sto), 3 * f.h ≤ k → Cn tab k "flat_of" [.d f.e] S = .ok (.w (.d (fo f).1.e)) S) ∧ (∀ (k : Nat) (S : Sto), 3 * f.h + 1 ≤ k → Cn tab k "opened" [.d f.e] S = .ok (.n (opE f)) S)
  | .fact w ts, hz => by
    have h1 : ∀ (k : Nat) (S : Sto), 3 ≤ k → Cn tab k "flat_of" [.d (Fm.fact w ts).e] S = .ok (.w (.d (Fm.fact w ts).e)) S := fun k S hk => by
      obtain ⟨k, rfl⟩ : ∃ j, k = j + 1 := ⟨k - 1, by omega⟩
      rw [u_flat_of u]
      simp [b_flat_of, Fm.e, locR_ok, ev_loc, ev_dat, optB_ok, kBin2_ap, kBin1_ap, ev_bin, kCmp2_ap, kCmp1_ap, ev_cmp, kChn3_t, kChn3_f, kChn2_ap, kChn1_ap, ev_chn, kIsN_ap, ev_isN, kAnd2_t, kAnd2_f, kAnd1_ap, ev_and, kOr2_t, kOr2_f, kOr1_ap, ev_or, kNot_ap, ev_not, kIte2_t, kIte2_f, kIte1_ap, ev_ite, optT_ok, optL_ok, kTup_ap, kLst_ap, ev_tup, ev_lst, kIdx2_ap, kIdx1_ap, ev_idx, kslF3_ap, kslF2_ap, kslF1_ap, ev_slF, kslT3_ap, kslT2_ap, kslT1_ap, ev_slT, kRev2_ap, kRev_ap, ev_rev, kCall_ap, ev_call, kIsi2_ap, kIsi_ap, ev_isi, kBlt_ap, ev_blt, kMut3_ap, kMut2_ap, kMut1_ap, ev_mut, kPrm_ap, ev_prm, kC3_t, kC3_f, kC2_ap, kN_ap, kComp_ap, kLs_ap, kLsc_ap, kK3_t, kK3_f, kK2_ap, ev_comp, ev_lsc, kCons_ap, kEvs2_ap, kEvs1_ap, ev_nil, ev_cons, kSq_ap, ev_sq, kRng_ap, ev_rng1, k_enm2_ap, k_enm_ap, ev_ienm, k_rev2_ap, k_rev_ap, ev_irev, kTest_ap, ev_t0, ev_t1, ev_T, kRet_ap, ev_ret, ev_retN, nextE_ok, kAsg_ap, ev_asg, kNew2_ap, kNew1_ap, ev_new, kExp_ap, ev_exp, kIf_t, kIf_f, ev_if, kTurn_ap, kFor_ap, ev_for, kSix4_ap, kSix3_ap, kSix2_ap, kSix1_ap, ev_six, ev_pass, kSeq_n, kSeq_r, ev_s0, ev_s1, kLeave_n, kLeave_d, kLeave_l, kLeave_k, kLeave_o, run_def, rpm, startE, give, truthW, viewD, viewL, fz, isTy, kb, ki, dTruth, rcmp, rcmpD, cmpI, ridx_t0, ridx_t1, ridx_t2, ridx_t3, ridx_l0, ridx_l1, ridx_l2, ridx_l3, eqD_str, eqD_int, rbin, rblt, opt_some, opt_none, Res.bind_ok, Res.bind_stuck, Res.bind_exc, bindT, setAll, datas, asInt, itemsW, listD, rsl, List.map_cons, List.map_nil, List.length_cons, List.length_nil, List.cons_append, List.nil_append, List.replicate, List.getElem?_cons_zero, List.getElem?_cons_succ, List.headD_nil, List.headD_cons, List.tail_nil, List.tail_cons, Option.map_some, Option.map_none, List.set_cons_zero, List.set_cons_succ, ofS_beq, Bool.not_true, Bool.not_false, Bool.or_false, Bool.or_true, Bool.and_true, Bool.and_false, Bool.false_eq_true, if_true, if_false]
    refine ⟨h1, fun k S hk => ?_⟩
    obtain ⟨k, rfl⟩ : ∃ j, k = j + 1 := ⟨k - 1, by omega⟩
    have h2 := h1 k S (by simp [Fm.h] at hk; omega)
    rw [u_opened u]
    simp only [Fm.e] at h2
    simp [b_opened, Fm.e, locR_ok, ev_loc, ev_dat, optB_ok, kBin2_ap, kBin1_ap, ev_bin, kCmp2_ap, kCmp1_ap, ev_cmp, kChn3_t, kChn3_f, kChn2_ap, kChn1_ap, ev_chn, kIsN_ap, ev_isN, kAnd2_t, kAnd2_f, kAnd1_ap, ev_and, kOr2_t, kOr2_f, kOr1_ap, ev_or, kNot_ap, ev_not, kIte2_t, kIte2_f, kIte1_ap, ev_ite, optT_ok, optL_ok, kTup_ap, kLst_ap, ev_tup, ev_lst, kIdx2_ap, kIdx1_ap, ev_idx, kslF3_ap, kslF2_ap, kslF1_ap, ev_slF, kslT3_ap, kslT2_ap, kslT1_ap, ev_slT, kRev2_ap, kRev_ap, ev_rev, kCall_ap, ev_call, kIsi2_ap, kIsi_ap, ev_isi, kBlt_ap, ev_blt, kMut3_ap, kMut2_ap, kMut1_ap, ev_mut, kPrm_ap, ev_prm, kC3_t, kC3_f, kC2_ap, kN_ap, kComp_ap, kLs_ap, kLsc_ap, kK3_t, kK3_f, kK2_ap, ev_comp, ev_lsc, kCons_ap, kEvs2_ap, kEvs1_ap, ev_nil, ev_cons, kSq_ap, ev_sq, kRng_ap, ev_rng1, k_enm2_ap, k_enm_ap, ev_ienm, k_rev2_ap, k_rev_ap, ev_irev, kTest_ap, ev_t0, ev_t1, ev_T, kRet_ap, ev_ret, ev_retN, nextE_ok, kAsg_ap, ev_asg, kNew2_ap, kNew1_ap, ev_new, kExp_ap, ev_exp, kIf_t, kIf_f, ev_if, kTurn_ap, kFor_ap, ev_for, kSix4_ap, kSix3_ap, kSix2_ap, kSix1_ap, ev_six, ev_pass, kSeq_n, kSeq_r, ev_s0, ev_s1, kLeave_n, kLeave_d, kLeave_l, kLeave_k, kLeave_o, run_def, rpm, startE, give, truthW, viewD, viewL, fz, isTy, kb, ki, dTruth, rcmp, rcmpD, cmpI, ridx_t0, ridx_t1, ridx_t2, ridx_t3, ridx_l0, ridx_l1, ridx_l2, ridx_l3, eqD_str, eqD_int, rbin, rblt, opt_some, opt_none, Res.bind_ok, Res.bind_stuck, Res.bind_exc, bindT, setAll, datas, asInt, itemsW, listD, rsl, List.map_cons, List.map_nil, List.length_cons, List.length_nil, List.cons_append, List.nil_append, List.replicate, List.getElem?_cons_zero, List.getElem?_cons_succ, List.headD_nil, List.headD_cons, List.tail_nil, List.tail_cons, Option.map_some, Option.map_none, List.set_cons_zero, List.set_cons_succ, ofS_beq, Bool.not_true, Bool.not_false, Bool.or_false, Bool.or_true, Bool.and_true, Bool.and_false, Bool.false_eq_true, if_true, if_false, h2, opE, fo]
  | .not f, hz => by
    have ih := flat_ok u f (by simp [Fm.size] at hz; omega)
    have h1 : ∀ (k : Nat) (S : Sto), 3 * f.h + 3 ≤ k → Cn tab k "flat_of" [.d (Fm.not f).e] S = .ok (.w (.d (fo (.not f)).1.e)) S := fun k S hk => by
      obtain ⟨k, rfl⟩ : ∃ j, k = j + 1 := ⟨k - 1, by omega⟩
      rw [u_flat_of u]
      simp [b_flat_of, Fm.e, locR_ok, ev_loc, ev_dat, optB_ok, kBin2_ap, kBin1_ap, ev_bin, kCmp2_ap, kCmp1_ap, ev_cmp, kChn3_t, kChn3_f, kChn2_ap, kChn1_ap, ev_chn, kIsN_ap, ev_isN, kAnd2_t, kAnd2_f, kAnd1_ap, ev_and, kOr2_t, kOr2_f, kOr1_ap, ev_or, kNot_ap, ev_not, kIte2_t, kIte2_f, kIte1_ap, ev_ite, optT_ok, optL_ok, kTup_ap, kLst_ap, ev_tup, ev_lst, kIdx2_ap, kIdx1_ap, ev_idx, kslF3_ap, kslF2_ap, kslF1_ap, ev_slF, kslT3_ap, kslT2_ap, kslT1_ap, ev_slT, kRev2_ap, kRev_ap, ev_rev, kCall_ap, ev_call, kIsi2_ap, kIsi_ap, ev_isi, kBlt_ap, ev_blt, kMut3_ap, kMut2_ap, kMut1_ap, ev_mut, kPrm_ap, ev_prm, kC3_t, kC3_f, kC2_ap, kN_ap, kComp_ap, kLs_ap, kLsc_ap, kK3_t, kK3_f, kK2_ap, ev_comp, ev_lsc, kCons_ap, kEvs2_ap, kEvs1_ap, ev_nil, ev_cons, kSq_ap, ev_sq, kRng_ap, ev_rng1, k_enm2_ap, k_enm_ap, ev_ienm, k_rev2_ap, k_rev_ap, ev_irev, kTest_ap, ev_t0, ev_t1, ev_T, kRet_ap, ev_ret, ev_retN, nextE_ok, kAsg_ap, ev_asg, kNew2_ap, kNew1_ap, ev_new, kExp_ap, ev_exp, kIf_t, kIf_f, ev_if, kTurn_ap, kFor_ap, ev_for, kSix4_ap, kSix3_ap, kSix2_ap, kSix1_ap, ev_six, ev_pass, kSeq_n, kSeq_r, ev_s0, ev_s1, kLeave_n, kLeave_d, kLeave_l, kLeave_k, kLeave_o, run_def, rpm, startE, give, truthW, viewD, viewL, fz, isTy, kb, ki, dTruth, rcmp, rcmpD, cmpI, ridx_t0, ridx_t1, ridx_t2, ridx_t3, ridx_l0, ridx_l1, ridx_l2, ridx_l3, eqD_str, eqD_int, rbin, rblt, opt_some, opt_none, Res.bind_ok, Res.bind_stuck, Res.bind_exc, bindT, setAll, datas, asInt, itemsW, listD, rsl, List.map_cons, List.map_nil, List.length_cons, List.length_nil, List.cons_append, List.nil_append, List.replicate, List.getElem?_cons_zero, List.getElem?_cons_succ, List.headD_nil, List.headD_cons, List.tail_nil, List.tail_cons, Option.map_some, Option.map_none, List.set_cons_zero, List.set_cons_succ, ofS_beq, Bool.not_true, Bool.not_false, Bool.or_false, Bool.or_true, Bool.and_true, Bool.and_false, Bool.false_eq_true, if_true, if_false, fo, ih.1 k S (by omega)]
    refine ⟨fun k S hk => h1 k S (by simp [Fm.h] at hk; omega), fun k S hk => ?_⟩
    obtain ⟨k, rfl⟩ : ∃ j, k = j + 1 := ⟨k - 1, by omega⟩
    have h2 := h1 k S (by simp [Fm.h] at hk; omega)
    rw [u_opened u]
    simp only [Fm.e] at h2
    simp [b_opened, Fm.e, locR_ok, ev_loc, ev_dat, optB_ok, kBin2_ap, kBin1_ap, ev_bin, kCmp2_ap, kCmp1_ap, ev_cmp, kChn3_t, kChn3_f, kChn2_ap, kChn1_ap, ev_chn, kIsN_ap, ev_isN, kAnd2_t, kAnd2_f, kAnd1_ap, ev_and, kOr2_t, kOr2_f, kOr1_ap, ev_or, kNot_ap, ev_not, kIte2_t, kIte2_f, kIte1_ap, ev_ite, optT_ok, optL_ok, kTup_ap, kLst_ap, ev_tup, ev_lst, kIdx2_ap, kIdx1_ap, ev_idx, kslF3_ap, kslF2_ap, kslF1_ap, ev_slF, kslT3_ap, kslT2_ap, kslT1_ap, ev_slT, kRev2_ap, kRev_ap, ev_rev, kCall_ap, ev_call, kIsi2_ap, kIsi_ap, ev_isi, kBlt_ap, ev_blt, kMut3_ap, kMut2_ap, kMut1_ap, ev_mut, kPrm_ap, ev_prm, kC3_t, kC3_f, kC2_ap, kN_ap, kComp_ap, kLs_ap, kLsc_ap, kK3_t, kK3_f, kK2_ap, ev_comp, ev_lsc, kCons_ap, kEvs2_ap, kEvs1_ap, ev_nil, ev_cons, kSq_ap, ev_sq, kRng_ap, ev_rng1, k_enm2_ap, k_enm_ap, ev_ienm, k_rev2_ap, k_rev_ap, ev_irev, kTest_ap, ev_t0, ev_t1, ev_T, kRet_ap, ev_ret, ev_retN, nextE_ok, kAsg_ap, ev_asg, kNew2_ap, kNew1_ap, ev_new, kExp_ap, ev_exp, kIf_t, kIf_f, ev_if, kTurn_ap, kFor_ap, ev_for, kSix4_ap, kSix3_ap, kSix2_ap, kSix1_ap, ev_six, ev_pass, kSeq_n, kSeq_r, ev_s0, ev_s1, kLeave_n, kLeave_d, kLeave_l, kLeave_k, kLeave_o, run_def, rpm, startE, give, truthW, viewD, viewL, fz, isTy, kb, ki, dTruth, rcmp, rcmpD, cmpI, ridx_t0, ridx_t1, ridx_t2, ridx_t3, ridx_l0, ridx_l1, ridx_l2, ridx_l3, eqD_str, eqD_int, rbin, rblt, opt_some, opt_none, Res.bind_ok, Res.bind_stuck, Res.bind_exc, bindT, setAll, datas, asInt, itemsW, listD, rsl, List.map_cons, List.map_nil, List.length_cons, List.length_nil, List.cons_append, List.nil_append, List.replicate, List.getElem?_cons_zero, List.getElem?_cons_succ, List.headD_nil, List.headD_cons, List.tail_nil, List.tail_cons, Option.map_some, Option.map_none, List.set_cons_zero, List.set_cons_succ, ofS_beq, Bool.not_true, Bool.not_false, Bool.or_false, Bool.or_true, Bool.and_true, Bool.and_false, Bool.false_eq_true, if_true, if_false, h2, opE, fo]
  | .two .or f g, hz => by
    have ihf := flat_ok u f (by simp [Fm.size] at hz; omega)
    have ihg := flat_ok u g (by simp [Fm.size] at hz; omega)
    have h1 : ∀ (k : Nat) (S : Sto), 3 * max f.h g.h + 3 ≤ k → Cn tab k "flat_of" [.d (Fm.two .or f g).e] S = .ok (.w (.d (fo (.two .or f g)).1.e)) S := fun k S hk => by
      obtain ⟨k, rfl⟩ : ∃ j, k = j + 1 := ⟨k - 1, by omega⟩
      rw [u_flat_of u]
      simp [b_flat_of, Fm.e, O2.s, locR_ok, ev_loc, ev_dat, optB_ok, kBin2_ap, kBin1_ap, ev_bin, kCmp2_ap, kCmp1_ap, ev_cmp, kChn3_t, kChn3_f, kChn2_ap, kChn1_ap, ev_chn, kIsN_ap, ev_isN, kAnd2_t, kAnd2_f, kAnd1_ap, ev_and, kOr2_t, kOr2_f, kOr1_ap, ev_or, kNot_ap, ev_not, kIte2_t, kIte2_f, kIte1_ap, ev_ite, optT_ok, optL_ok, kTup_ap, kLst_ap, ev_tup, ev_lst, kIdx2_ap, kIdx1_ap, ev_idx, kslF3_ap, kslF2_ap, kslF1_ap, ev_slF, kslT3_ap, kslT2_ap, kslT1_ap, ev_slT, kRev2_ap, kRev_ap, ev_rev, kCall_ap, ev_call, kIsi2_ap, kIsi_ap, ev_isi, kBlt_ap, ev_blt, kMut3_ap, kMut2_ap, kMut1_ap, ev_mut, kPrm_ap, ev_prm, kC3_t, kC3_f, kC2_ap, kN_ap, kComp_ap, kLs_ap, kLsc_ap, kK3_t, kK3_f, kK2_ap, ev_comp, ev_lsc, kCons_ap, kEvs2_ap, kEvs1_ap, ev_nil, ev_cons, kSq_ap, ev_sq, kRng_ap, ev_rng1, k_enm2_ap, k_enm_ap, ev_ienm, k_rev2_ap, k_rev_ap, ev_irev, kTest_ap, ev_t0, ev_t1, ev_T, kRet_ap, ev_ret, ev_retN, nextE_ok, kAsg_ap, ev_asg, kNew2_ap, kNew1_ap, ev_new, kExp_ap, ev_exp, kIf_t, kIf_f, ev_if, kTurn_ap, kFor_ap, ev_for, kSix4_ap, kSix3_ap, kSix2_ap, kSix1_ap, ev_six, ev_pass, kSeq_n, kSeq_r, ev_s0, ev_s1, kLeave_n, kLeave_d, kLeave_l, kLeave_k, kLeave_o, run_def, rpm, startE, give, truthW, viewD, viewL, fz, isTy, kb, ki, dTruth, rcmp, rcmpD, cmpI, ridx_t0, ridx_t1, ridx_t2, ridx_t3, ridx_l0, ridx_l1, ridx_l2, ridx_l3, eqD_str, eqD_int, rbin, rblt, opt_some, opt_none, Res.bind_ok, Res.bind_stuck, Res.bind_exc, bindT, setAll, datas, asInt, itemsW, listD, rsl, List.map_cons, List.map_nil, List.length_cons, List.length_nil, List.cons_append, List.nil_append, List.replicate, List.getElem?_cons_zero, List.getElem?_cons_succ, List.headD_nil, List.headD_cons, List.tail_nil, List.tail_cons, Option.map_some, Option.map_none, List.set_cons_zero, List.set_cons_succ, ofS_beq, Bool.not_true, Bool.not_false, Bool.or_false, Bool.or_true, Bool.and_true, Bool.and_false, Bool.false_eq_true, if_true, if_false, fo, ihf.1 k S (by omega), ihg.1 k S (by omega)]
    refine ⟨fun k S hk => h1 k S (by simp [Fm.h] at hk; omega), fun k S hk => ?_⟩
    obtain ⟨k, rfl⟩ : ∃ j, k = j + 1 := ⟨k - 1, by omega⟩
    have h2 := h1 k S (by simp [Fm.h] at hk; omega)
    rw [u_opened u]
    simp only [Fm.e, O2.s] at h2
    simp [b_opened, Fm.e, O2.s, locR_ok, ev_loc, ev_dat, optB_ok, kBin2_ap, kBin1_ap, ev_bin, kCmp2_ap, kCmp1_ap, ev_cmp, kChn3_t, kChn3_f, kChn2_ap, kChn1_ap, ev_chn, kIsN_ap, ev_isN, kAnd2_t, kAnd2_f, kAnd1_ap, ev_and, kOr2_t, kOr2_f, kOr1_ap, ev_or, kNot_ap, ev_not, kIte2_t, kIte2_f, kIte1_ap, ev_ite, optT_ok, optL_ok, kTup_ap, kLst_ap, ev_tup, ev_lst, kIdx2_ap, kIdx1_ap, ev_idx, kslF3_ap, kslF2_ap, kslF1_ap, ev_slF, kslT3_ap, kslT2_ap, kslT1_ap, ev_slT, kRev2_ap, kRev_ap, ev_rev, kCall_ap, ev_call, kIsi2_ap, kIsi_ap, ev_isi, kBlt_ap, ev_blt, kMut3_ap, kMut2_ap, kMut1_ap, ev_mut, kPrm_ap, ev_prm, kC3_t, kC3_f, kC2_ap, kN_ap, kComp_ap, kLs_ap, kLsc_ap, kK3_t, kK3_f, kK2_ap, ev_comp, ev_lsc, kCons_ap, kEvs2_ap, kEvs1_ap, ev_nil, ev_cons, kSq_ap, ev_sq, kRng_ap, ev_rng1, k_enm2_ap, k_enm_ap, ev_ienm, k_rev2_ap, k_rev_ap, ev_irev, kTest_ap, ev_t0, ev_t1, ev_T, kRet_ap, ev_ret, ev_retN, nextE_ok, kAsg_ap, ev_asg, kNew2_ap, kNew1_ap, ev_new, kExp_ap, ev_exp, kIf_t, kIf_f, ev_if, kTurn_ap, kFor_ap, ev_for, kSix4_ap, kSix3_ap, kSix2_ap, kSix1_ap, ev_six, ev_pass, kSeq_n, kSeq_r, ev_s0, ev_s1, kLeave_n, kLeave_d, kLeave_l, kLeave_k, kLeave_o, run_def, rpm, startE, give, truthW, viewD, viewL, fz, isTy, kb, ki, dTruth, rcmp, rcmpD, cmpI, ridx_t0, ridx_t1, ridx_t2, ridx_t3, ridx_l0, ridx_l1, ridx_l2, ridx_l3, eqD_str, eqD_int, rbin, rblt, opt_some, opt_none, Res.bind_ok, Res.bind_stuck, Res.bind_exc, bindT, setAll, datas, asInt, itemsW, listD, rsl, List.map_cons, List.map_nil, List.length_cons, List.length_nil, List.cons_append, List.nil_append, List.replicate, List.getElem?_cons_zero, List.getElem?_cons_succ, List.headD_nil, List.headD_cons, List.tail_nil, List.tail_cons, Option.map_some, Option.map_none, List.set_cons_zero, List.set_cons_succ, ofS_beq, Bool.not_true, Bool.not_false, Bool.or_false, Bool.or_true, Bool.and_true, Bool.and_false, Bool.false_eq_true, if_true, if_false, h2, opE, fo]
  | .two .if_ f g, hz => by
    have ihf := flat_ok u f (by simp [Fm.size] at hz; omega)
    have ihg := flat_ok u g (by simp [Fm.size] at hz; omega)
    have h1 : ∀ (k : Nat) (S : Sto), 3 * max f.h g.h + 3 ≤ k → Cn tab k "flat_of" [.d (Fm.two .if_ f g).e] S = .ok (.w (.d (fo (.two .if_ f g)).1.e)) S := fun k S hk => by
      obtain ⟨k, rfl⟩ : ∃ j, k = j + 2 := ⟨k - 2, by omega⟩
      rw [u_flat_of u]
      have e1 := ihf.2 (k + 1) S (by omega)
      have e2 := ihg.1 (k + 1) S (by omega)
      have e3 : opE f = ((fo f).2.1 ++ [Sum.inr (fo f).2.2]).map ptE := by simp [opE, ptE]
      have e4 := around_ok (S := S) u (k := k) "all" "if" (opE f) (fo g).1.e
      rw [e3, arA, ← e3] at e4
      simp [b_flat_of, Fm.e, O2.s, locR_ok, ev_loc, ev_dat, optB_ok, kBin2_ap, kBin1_ap, ev_bin, kCmp2_ap, kCmp1_ap, ev_cmp, kChn3_t, kChn3_f, kChn2_ap, kChn1_ap, ev_chn, kIsN_ap, ev_isN, kAnd2_t, kAnd2_f, kAnd1_ap, ev_and, kOr2_t, kOr2_f, kOr1_ap, ev_or, kNot_ap, ev_not, kIte2_t, kIte2_f, kIte1_ap, ev_ite, optT_ok, optL_ok, kTup_ap, kLst_ap, ev_tup, ev_lst, kIdx2_ap, kIdx1_ap, ev_idx, kslF3_ap, kslF2_ap, kslF1_ap, ev_slF, kslT3_ap, kslT2_ap, kslT1_ap, ev_slT, kRev2_ap, kRev_ap, ev_rev, kCall_ap, ev_call, kIsi2_ap, kIsi_ap, ev_isi, kBlt_ap, ev_blt, kMut3_ap, kMut2_ap, kMut1_ap, ev_mut, kPrm_ap, ev_prm, kC3_t, kC3_f, kC2_ap, kN_ap, kComp_ap, kLs_ap, kLsc_ap, kK3_t, kK3_f, kK2_ap, ev_comp, ev_lsc, kCons_ap, kEvs2_ap, kEvs1_ap, ev_nil, ev_cons, kSq_ap, ev_sq, kRng_ap, ev_rng1, k_enm2_ap, k_enm_ap, ev_ienm, k_rev2_ap, k_rev_ap, ev_irev, kTest_ap, ev_t0, ev_t1, ev_T, kRet_ap, ev_ret, ev_retN, nextE_ok, kAsg_ap, ev_asg, kNew2_ap, kNew1_ap, ev_new, kExp_ap, ev_exp, kIf_t, kIf_f, ev_if, kTurn_ap, kFor_ap, ev_for, kSix4_ap, kSix3_ap, kSix2_ap, kSix1_ap, ev_six, ev_pass, kSeq_n, kSeq_r, ev_s0, ev_s1, kLeave_n, kLeave_d, kLeave_l, kLeave_k, kLeave_o, run_def, rpm, startE, give, truthW, viewD, viewL, fz, isTy, kb, ki, dTruth, rcmp, rcmpD, cmpI, ridx_t0, ridx_t1, ridx_t2, ridx_t3, ridx_l0, ridx_l1, ridx_l2, ridx_l3, eqD_str, eqD_int, rbin, rblt, opt_some, opt_none, Res.bind_ok, Res.bind_stuck, Res.bind_exc, bindT, setAll, datas, asInt, itemsW, listD, rsl, List.map_cons, List.map_nil, List.length_cons, List.length_nil, List.cons_append, List.nil_append, List.replicate, List.getElem?_cons_zero, List.getElem?_cons_succ, List.headD_nil, List.headD_cons, List.tail_nil, List.tail_cons, Option.map_some, Option.map_none, List.set_cons_zero, List.set_cons_succ, ofS_beq, Bool.not_true, Bool.not_false, Bool.or_false, Bool.or_true, Bool.and_true, Bool.and_false, Bool.false_eq_true, if_true, if_false, fo, e1, e2, e4]
    refine ⟨fun k S hk => h1 k S (by simp [Fm.h] at hk; omega), fun k S hk => ?_⟩
    obtain ⟨k, rfl⟩ : ∃ j, k = j + 1 := ⟨k - 1, by omega⟩
    have h2 := h1 k S (by simp [Fm.h] at hk; omega)
    rw [u_opened u]
    simp only [Fm.e, O2.s] at h2
    simp [b_opened, Fm.e, O2.s, locR_ok, ev_loc, ev_dat, optB_ok, kBin2_ap, kBin1_ap, ev_bin, kCmp2_ap, kCmp1_ap, ev_cmp, kChn3_t, kChn3_f, kChn2_ap, kChn1_ap, ev_chn, kIsN_ap, ev_isN, kAnd2_t, kAnd2_f, kAnd1_ap, ev_and, kOr2_t, kOr2_f, kOr1_ap, ev_or, kNot_ap, ev_not, kIte2_t, kIte2_f, kIte1_ap, ev_ite, optT_ok, optL_ok, kTup_ap, kLst_ap, ev_tup, ev_lst, kIdx2_ap, kIdx1_ap, ev_idx, kslF3_ap, kslF2_ap, kslF1_ap, ev_slF, kslT3_ap, kslT2_ap, kslT1_ap, ev_slT, kRev2_ap, kRev_ap, ev_rev, kCall_ap, ev_call, kIsi2_ap, kIsi_ap, ev_isi, kBlt_ap, ev_blt, kMut3_ap, kMut2_ap, kMut1_ap, ev_mut, kPrm_ap, ev_prm, kC3_t, kC3_f, kC2_ap, kN_ap, kComp_ap, kLs_ap, kLsc_ap, kK3_t, kK3_f, kK2_ap, ev_comp, ev_lsc, kCons_ap, kEvs2_ap, kEvs1_ap, ev_nil, ev_cons, kSq_ap, ev_sq, kRng_ap, ev_rng1, k_enm2_ap, k_enm_ap, ev_ienm, k_rev2_ap, k_rev_ap, ev_irev, kTest_ap, ev_t0, ev_t1, ev_T, kRet_ap, ev_ret, ev_retN, nextE_ok, kAsg_ap, ev_asg, kNew2_ap, kNew1_ap, ev_new, kExp_ap, ev_exp, kIf_t, kIf_f, ev_if, kTurn_ap, kFor_ap, ev_for, kSix4_ap, kSix3_ap, kSix2_ap, kSix1_ap, ev_six, ev_pass, kSeq_n, kSeq_r, ev_s0, ev_s1, kLeave_n, kLeave_d, kLeave_l, kLeave_k, kLeave_o, run_def, rpm, startE, give, truthW, viewD, viewL, fz, isTy, kb, ki, dTruth, rcmp, rcmpD, cmpI, ridx_t0, ridx_t1, ridx_t2, ridx_t3, ridx_l0, ridx_l1, ridx_l2, ridx_l3, eqD_str, eqD_int, rbin, rblt, opt_some, opt_none, Res.bind_ok, Res.bind_stuck, Res.bind_exc, bindT, setAll, datas, asInt, itemsW, listD, rsl, List.map_cons, List.map_nil, List.length_cons, List.length_nil, List.cons_append, List.nil_append, List.replicate, List.getElem?_cons_zero, List.getElem?_cons_succ, List.headD_nil, List.headD_cons, List.tail_nil, List.tail_cons, Option.map_some, Option.map_none, List.set_cons_zero, List.set_cons_succ, ofS_beq, Bool.not_true, Bool.not_false, Bool.or_false, Bool.or_true, Bool.and_true, Bool.and_false, Bool.false_eq_true, if_true, if_false, h2, opE, fo]
  | .two .and f g, hz => by
    have ihf := flat_ok u f (by simp [Fm.size] at hz; omega)
    have ihg := flat_ok u g (by simp [Fm.size] at hz; omega)
    have h2 : ∀ (k : Nat) (S : Sto), 3 * max f.h g.h + 2 ≤ k → Cn tab k "opened" [.d (Fm.two .and f g).e] S = .ok (.n (opE (.two .and f g))) S := fun k S hk => by
      obtain ⟨k, rfl⟩ : ∃ j, k = j + 1 := ⟨k - 1, by omega⟩
      rw [u_opened u]
      have e1 := ihf.2 k S (by omega)
      have e2 := ihg.2 k S (by omega)
      have l1 : (opE f).length + (opE g).length ≤ sizeLine := size_line (by
        have := fo_size f; have := fo_size g
        simp [opE]
        simp [Fm.size] at hz
        omega)
      simp [b_opened, Fm.e, O2.s, locR_ok, ev_loc, ev_dat, optB_ok, kBin2_ap, kBin1_ap, ev_bin, kCmp2_ap, kCmp1_ap, ev_cmp, kChn3_t, kChn3_f, kChn2_ap, kChn1_ap, ev_chn, kIsN_ap, ev_isN, kAnd2_t, kAnd2_f, kAnd1_ap, ev_and, kOr2_t, kOr2_f, kOr1_ap, ev_or, kNot_ap, ev_not, kIte2_t, kIte2_f, kIte1_ap, ev_ite, optT_ok, optL_ok, kTup_ap, kLst_ap, ev_tup, ev_lst, kIdx2_ap, kIdx1_ap, ev_idx, kslF3_ap, kslF2_ap, kslF1_ap, ev_slF, kslT3_ap, kslT2_ap, kslT1_ap, ev_slT, kRev2_ap, kRev_ap, ev_rev, kCall_ap, ev_call, kIsi2_ap, kIsi_ap, ev_isi, kBlt_ap, ev_blt, kMut3_ap, kMut2_ap, kMut1_ap, ev_mut, kPrm_ap, ev_prm, kC3_t, kC3_f, kC2_ap, kN_ap, kComp_ap, kLs_ap, kLsc_ap, kK3_t, kK3_f, kK2_ap, ev_comp, ev_lsc, kCons_ap, kEvs2_ap, kEvs1_ap, ev_nil, ev_cons, kSq_ap, ev_sq, kRng_ap, ev_rng1, k_enm2_ap, k_enm_ap, ev_ienm, k_rev2_ap, k_rev_ap, ev_irev, kTest_ap, ev_t0, ev_t1, ev_T, kRet_ap, ev_ret, ev_retN, nextE_ok, kAsg_ap, ev_asg, kNew2_ap, kNew1_ap, ev_new, kExp_ap, ev_exp, kIf_t, kIf_f, ev_if, kTurn_ap, kFor_ap, ev_for, kSix4_ap, kSix3_ap, kSix2_ap, kSix1_ap, ev_six, ev_pass, kSeq_n, kSeq_r, ev_s0, ev_s1, kLeave_n, kLeave_d, kLeave_l, kLeave_k, kLeave_o, run_def, rpm, startE, give, truthW, viewD, viewL, fz, isTy, kb, ki, dTruth, rcmp, rcmpD, cmpI, ridx_t0, ridx_t1, ridx_t2, ridx_t3, ridx_l0, ridx_l1, ridx_l2, ridx_l3, eqD_str, eqD_int, rbin, rblt, opt_some, opt_none, Res.bind_ok, Res.bind_stuck, Res.bind_exc, bindT, setAll, datas, asInt, itemsW, listD, rsl, List.map_cons, List.map_nil, List.length_cons, List.length_nil, List.cons_append, List.nil_append, List.replicate, List.getElem?_cons_zero, List.getElem?_cons_succ, List.headD_nil, List.headD_cons, List.tail_nil, List.tail_cons, Option.map_some, Option.map_none, List.set_cons_zero, List.set_cons_succ, ofS_beq, Bool.not_true, Bool.not_false, Bool.or_false, Bool.or_true, Bool.and_true, Bool.and_false, Bool.false_eq_true, if_true, if_false, e1, e2, l1]
      simp [opE, fo, ptE]
    refine ⟨fun k S hk => ?_, fun k S hk => h2 k S (by simp [Fm.h] at hk; omega)⟩
    obtain ⟨k, rfl⟩ : ∃ j, k = j + 2 := ⟨k - 2, by simp [Fm.h] at hk; omega⟩
    have e1 := h2 (k + 1) S (by simp [Fm.h] at hk; omega)
    have e4 := around_ok (S := S) u (k := k) "some" "and" (opE (.two .and f g)) .none
    rw [opE, arS, ← opE] at e4
    rw [u_flat_of u]
    simp only [Fm.e, O2.s] at e1
    simp [b_flat_of, Fm.e, O2.s, locR_ok, ev_loc, ev_dat, optB_ok, kBin2_ap, kBin1_ap, ev_bin, kCmp2_ap, kCmp1_ap, ev_cmp, kChn3_t, kChn3_f, kChn2_ap, kChn1_ap, ev_chn, kIsN_ap, ev_isN, kAnd2_t, kAnd2_f, kAnd1_ap, ev_and, kOr2_t, kOr2_f, kOr1_ap, ev_or, kNot_ap, ev_not, kIte2_t, kIte2_f, kIte1_ap, ev_ite, optT_ok, optL_ok, kTup_ap, kLst_ap, ev_tup, ev_lst, kIdx2_ap, kIdx1_ap, ev_idx, kslF3_ap, kslF2_ap, kslF1_ap, ev_slF, kslT3_ap, kslT2_ap, kslT1_ap, ev_slT, kRev2_ap, kRev_ap, ev_rev, kCall_ap, ev_call, kIsi2_ap, kIsi_ap, ev_isi, kBlt_ap, ev_blt, kMut3_ap, kMut2_ap, kMut1_ap, ev_mut, kPrm_ap, ev_prm, kC3_t, kC3_f, kC2_ap, kN_ap, kComp_ap, kLs_ap, kLsc_ap, kK3_t, kK3_f, kK2_ap, ev_comp, ev_lsc, kCons_ap, kEvs2_ap, kEvs1_ap, ev_nil, ev_cons, kSq_ap, ev_sq, kRng_ap, ev_rng1, k_enm2_ap, k_enm_ap, ev_ienm, k_rev2_ap, k_rev_ap, ev_irev, kTest_ap, ev_t0, ev_t1, ev_T, kRet_ap, ev_ret, ev_retN, nextE_ok, kAsg_ap, ev_asg, kNew2_ap, kNew1_ap, ev_new, kExp_ap, ev_exp, kIf_t, kIf_f, ev_if, kTurn_ap, kFor_ap, ev_for, kSix4_ap, kSix3_ap, kSix2_ap, kSix1_ap, ev_six, ev_pass, kSeq_n, kSeq_r, ev_s0, ev_s1, kLeave_n, kLeave_d, kLeave_l, kLeave_k, kLeave_o, run_def, rpm, startE, give, truthW, viewD, viewL, fz, isTy, kb, ki, dTruth, rcmp, rcmpD, cmpI, ridx_t0, ridx_t1, ridx_t2, ridx_t3, ridx_l0, ridx_l1, ridx_l2, ridx_l3, eqD_str, eqD_int, rbin, rblt, opt_some, opt_none, Res.bind_ok, Res.bind_stuck, Res.bind_exc, bindT, setAll, datas, asInt, itemsW, listD, rsl, List.map_cons, List.map_nil, List.length_cons, List.length_nil, List.cons_append, List.nil_append, List.replicate, List.getElem?_cons_zero, List.getElem?_cons_succ, List.headD_nil, List.headD_cons, List.tail_nil, List.tail_cons, Option.map_some, Option.map_none, List.set_cons_zero, List.set_cons_succ, ofS_beq, Bool.not_true, Bool.not_false, Bool.or_false, Bool.or_true, Bool.and_true, Bool.and_false, Bool.false_eq_true, if_true, if_false, e1, e4]
    simp [fo]
  | .any true n f, hz => by
    have ih := flat_ok u f (by simp [Fm.size] at hz; omega)
    have h1 : ∀ (k : Nat) (S : Sto), 3 * f.h + 3 ≤ k → Cn tab k "flat_of" [.d (Fm.any true n f).e] S = .ok (.w (.d (fo (.any true n f)).1.e)) S := fun k S hk => by
      obtain ⟨k, rfl⟩ : ∃ j, k = j + 1 := ⟨k - 1, by omega⟩
      rw [u_flat_of u]
      simp [b_flat_of, Fm.e, anyS, locR_ok, ev_loc, ev_dat, optB_ok, kBin2_ap, kBin1_ap, ev_bin, kCmp2_ap, kCmp1_ap, ev_cmp, kChn3_t, kChn3_f, kChn2_ap, kChn1_ap, ev_chn, kIsN_ap, ev_isN, kAnd2_t, kAnd2_f, kAnd1_ap, ev_and, kOr2_t, kOr2_f, kOr1_ap, ev_or, kNot_ap, ev_not, kIte2_t, kIte2_f, kIte1_ap, ev_ite, optT_ok, optL_ok, kTup_ap, kLst_ap, ev_tup, ev_lst, kIdx2_ap, kIdx1_ap, ev_idx, kslF3_ap, kslF2_ap, kslF1_ap, ev_slF, kslT3_ap, kslT2_ap, kslT1_ap, ev_slT, kRev2_ap, kRev_ap, ev_rev, kCall_ap, ev_call, kIsi2_ap, kIsi_ap, ev_isi, kBlt_ap, ev_blt, kMut3_ap, kMut2_ap, kMut1_ap, ev_mut, kPrm_ap, ev_prm, kC3_t, kC3_f, kC2_ap, kN_ap, kComp_ap, kLs_ap, kLsc_ap, kK3_t, kK3_f, kK2_ap, ev_comp, ev_lsc, kCons_ap, kEvs2_ap, kEvs1_ap, ev_nil, ev_cons, kSq_ap, ev_sq, kRng_ap, ev_rng1, k_enm2_ap, k_enm_ap, ev_ienm, k_rev2_ap, k_rev_ap, ev_irev, kTest_ap, ev_t0, ev_t1, ev_T, kRet_ap, ev_ret, ev_retN, nextE_ok, kAsg_ap, ev_asg, kNew2_ap, kNew1_ap, ev_new, kExp_ap, ev_exp, kIf_t, kIf_f, ev_if, kTurn_ap, kFor_ap, ev_for, kSix4_ap, kSix3_ap, kSix2_ap, kSix1_ap, ev_six, ev_pass, kSeq_n, kSeq_r, ev_s0, ev_s1, kLeave_n, kLeave_d, kLeave_l, kLeave_k, kLeave_o, run_def, rpm, startE, give, truthW, viewD, viewL, fz, isTy, kb, ki, dTruth, rcmp, rcmpD, cmpI, ridx_t0, ridx_t1, ridx_t2, ridx_t3, ridx_l0, ridx_l1, ridx_l2, ridx_l3, eqD_str, eqD_int, rbin, rblt, opt_some, opt_none, Res.bind_ok, Res.bind_stuck, Res.bind_exc, bindT, setAll, datas, asInt, itemsW, listD, rsl, List.map_cons, List.map_nil, List.length_cons, List.length_nil, List.cons_append, List.nil_append, List.replicate, List.getElem?_cons_zero, List.getElem?_cons_succ, List.headD_nil, List.headD_cons, List.tail_nil, List.tail_cons, Option.map_some, Option.map_none, List.set_cons_zero, List.set_cons_succ, ofS_beq, Bool.not_true, Bool.not_false, Bool.or_false, Bool.or_true, Bool.and_true, Bool.and_false, Bool.false_eq_true, if_true, if_false, fo, ih.1 k S (by omega)]
    refine ⟨fun k S hk => h1 k S (by simp [Fm.h] at hk; omega), fun k S hk => ?_⟩
    obtain ⟨k, rfl⟩ : ∃ j, k = j + 1 := ⟨k - 1, by omega⟩
    have h2 := h1 k S (by simp [Fm.h] at hk; omega)
    rw [u_opened u]
    simp only [Fm.e, anyS] at h2
    simp [b_opened, Fm.e, anyS, locR_ok, ev_loc, ev_dat, optB_ok, kBin2_ap, kBin1_ap, ev_bin, kCmp2_ap, kCmp1_ap, ev_cmp, kChn3_t, kChn3_f, kChn2_ap, kChn1_ap, ev_chn, kIsN_ap, ev_isN, kAnd2_t, kAnd2_f, kAnd1_ap, ev_and, kOr2_t, kOr2_f, kOr1_ap, ev_or, kNot_ap, ev_not, kIte2_t, kIte2_f, kIte1_ap, ev_ite, optT_ok, optL_ok, kTup_ap, kLst_ap, ev_tup, ev_lst, kIdx2_ap, kIdx1_ap, ev_idx, kslF3_ap, kslF2_ap, kslF1_ap, ev_slF, kslT3_ap, kslT2_ap, kslT1_ap, ev_slT, kRev2_ap, kRev_ap, ev_rev, kCall_ap, ev_call, kIsi2_ap, kIsi_ap, ev_isi, kBlt_ap, ev_blt, kMut3_ap, kMut2_ap, kMut1_ap, ev_mut, kPrm_ap, ev_prm, kC3_t, kC3_f, kC2_ap, kN_ap, kComp_ap, kLs_ap, kLsc_ap, kK3_t, kK3_f, kK2_ap, ev_comp, ev_lsc, kCons_ap, kEvs2_ap, kEvs1_ap, ev_nil, ev_cons, kSq_ap, ev_sq, kRng_ap, ev_rng1, k_enm2_ap, k_enm_ap, ev_ienm, k_rev2_ap, k_rev_ap, ev_irev, kTest_ap, ev_t0, ev_t1, ev_T, kRet_ap, ev_ret, ev_retN, nextE_ok, kAsg_ap, ev_asg, kNew2_ap, kNew1_ap, ev_new, kExp_ap, ev_exp, kIf_t, kIf_f, ev_if, kTurn_ap, kFor_ap, ev_for, kSix4_ap, kSix3_ap, kSix2_ap, kSix1_ap, ev_six, ev_pass, kSeq_n, kSeq_r, ev_s0, ev_s1, kLeave_n, kLeave_d, kLeave_l, kLeave_k, kLeave_o, run_def, rpm, startE, give, truthW, viewD, viewL, fz, isTy, kb, ki, dTruth, rcmp, rcmpD, cmpI, ridx_t0, ridx_t1, ridx_t2, ridx_t3, ridx_l0, ridx_l1, ridx_l2, ridx_l3, eqD_str, eqD_int, rbin, rblt, opt_some, opt_none, Res.bind_ok, Res.bind_stuck, Res.bind_exc, bindT, setAll, datas, asInt, itemsW, listD, rsl, List.map_cons, List.map_nil, List.length_cons, List.length_nil, List.cons_append, List.nil_append, List.replicate, List.getElem?_cons_zero, List.getElem?_cons_succ, List.headD_nil, List.headD_cons, List.tail_nil, List.tail_cons, Option.map_some, Option.map_none, List.set_cons_zero, List.set_cons_succ, ofS_beq, Bool.not_true, Bool.not_false, Bool.or_false, Bool.or_true, Bool.and_true, Bool.and_false, Bool.false_eq_true, if_true, if_false, h2, opE, fo]
  | .any false n f, hz => by
    have ih := flat_ok u f (by simp [Fm.size] at hz; omega)
    have h2 : ∀ (k : Nat) (S : Sto), 3 * f.h + 2 ≤ k → Cn tab k "opened" [.d (Fm.any false n f).e] S = .ok (.n (opE (.any false n f))) S := fun k S hk => by
      obtain ⟨k, rfl⟩ : ∃ j, k = j + 1 := ⟨k - 1, by omega⟩
      rw [u_opened u]
      have e1 := ih.2 k S (by omega)
      have l1 : 1 + (opE f).length ≤ sizeLine := size_line (by
        have := fo_size f
        simp [opE]
        simp [Fm.size] at hz
        omega)
      simp [b_opened, Fm.e, anyS, locR_ok, ev_loc, ev_dat, optB_ok, kBin2_ap, kBin1_ap, ev_bin, kCmp2_ap, kCmp1_ap, ev_cmp, kChn3_t, kChn3_f, kChn2_ap, kChn1_ap, ev_chn, kIsN_ap, ev_isN, kAnd2_t, kAnd2_f, kAnd1_ap, ev_and, kOr2_t, kOr2_f, kOr1_ap, ev_or, kNot_ap, ev_not, kIte2_t, kIte2_f, kIte1_ap, ev_ite, optT_ok, optL_ok, kTup_ap, kLst_ap, ev_tup, ev_lst, kIdx2_ap, kIdx1_ap, ev_idx, kslF3_ap, kslF2_ap, kslF1_ap, ev_slF, kslT3_ap, kslT2_ap, kslT1_ap, ev_slT, kRev2_ap, kRev_ap, ev_rev, kCall_ap, ev_call, kIsi2_ap, kIsi_ap, ev_isi, kBlt_ap, ev_blt, kMut3_ap, kMut2_ap, kMut1_ap, ev_mut, kPrm_ap, ev_prm, kC3_t, kC3_f, kC2_ap, kN_ap, kComp_ap, kLs_ap, kLsc_ap, kK3_t, kK3_f, kK2_ap, ev_comp, ev_lsc, kCons_ap, kEvs2_ap, kEvs1_ap, ev_nil, ev_cons, kSq_ap, ev_sq, kRng_ap, ev_rng1, k_enm2_ap, k_enm_ap, ev_ienm, k_rev2_ap, k_rev_ap, ev_irev, kTest_ap, ev_t0, ev_t1, ev_T, kRet_ap, ev_ret, ev_retN, nextE_ok, kAsg_ap, ev_asg, kNew2_ap, kNew1_ap, ev_new, kExp_ap, ev_exp, kIf_t, kIf_f, ev_if, kTurn_ap, kFor_ap, ev_for, kSix4_ap, kSix3_ap, kSix2_ap, kSix1_ap, ev_six, ev_pass, kSeq_n, kSeq_r, ev_s0, ev_s1, kLeave_n, kLeave_d, kLeave_l, kLeave_k, kLeave_o, run_def, rpm, startE, give, truthW, viewD, viewL, fz, isTy, kb, ki, dTruth, rcmp, rcmpD, cmpI, ridx_t0, ridx_t1, ridx_t2, ridx_t3, ridx_l0, ridx_l1, ridx_l2, ridx_l3, eqD_str, eqD_int, rbin, rblt, opt_some, opt_none, Res.bind_ok, Res.bind_stuck, Res.bind_exc, bindT, setAll, datas, asInt, itemsW, listD, rsl, List.map_cons, List.map_nil, List.length_cons, List.length_nil, List.cons_append, List.nil_append, List.replicate, List.getElem?_cons_zero, List.getElem?_cons_succ, List.headD_nil, List.headD_cons, List.tail_nil, List.tail_cons, Option.map_some, Option.map_none, List.set_cons_zero, List.set_cons_succ, ofS_beq, Bool.not_true, Bool.not_false, Bool.or_false, Bool.or_true, Bool.and_true, Bool.and_false, Bool.false_eq_true, if_true, if_false, e1]
      rw [if_pos (by simpa using l1)]
      simp [locR_ok, ev_loc, ev_dat, optB_ok, kBin2_ap, kBin1_ap, ev_bin, kCmp2_ap, kCmp1_ap, ev_cmp, kChn3_t, kChn3_f, kChn2_ap, kChn1_ap, ev_chn, kIsN_ap, ev_isN, kAnd2_t, kAnd2_f, kAnd1_ap, ev_and, kOr2_t, kOr2_f, kOr1_ap, ev_or, kNot_ap, ev_not, kIte2_t, kIte2_f, kIte1_ap, ev_ite, optT_ok, optL_ok, kTup_ap, kLst_ap, ev_tup, ev_lst, kIdx2_ap, kIdx1_ap, ev_idx, kslF3_ap, kslF2_ap, kslF1_ap, ev_slF, kslT3_ap, kslT2_ap, kslT1_ap, ev_slT, kRev2_ap, kRev_ap, ev_rev, kCall_ap, ev_call, kIsi2_ap, kIsi_ap, ev_isi, kBlt_ap, ev_blt, kMut3_ap, kMut2_ap, kMut1_ap, ev_mut, kPrm_ap, ev_prm, kC3_t, kC3_f, kC2_ap, kN_ap, kComp_ap, kLs_ap, kLsc_ap, kK3_t, kK3_f, kK2_ap, ev_comp, ev_lsc, kCons_ap, kEvs2_ap, kEvs1_ap, ev_nil, ev_cons, kSq_ap, ev_sq, kRng_ap, ev_rng1, k_enm2_ap, k_enm_ap, ev_ienm, k_rev2_ap, k_rev_ap, ev_irev, kTest_ap, ev_t0, ev_t1, ev_T, kRet_ap, ev_ret, ev_retN, nextE_ok, kAsg_ap, ev_asg, kNew2_ap, kNew1_ap, ev_new, kExp_ap, ev_exp, kIf_t, kIf_f, ev_if, kTurn_ap, kFor_ap, ev_for, kSix4_ap, kSix3_ap, kSix2_ap, kSix1_ap, ev_six, ev_pass, kSeq_n, kSeq_r, ev_s0, ev_s1, kLeave_n, kLeave_d, kLeave_l, kLeave_k, kLeave_o, run_def, rpm, startE, give, truthW, viewD, viewL, fz, isTy, kb, ki, dTruth, rcmp, rcmpD, cmpI, ridx_t0, ridx_t1, ridx_t2, ridx_t3, ridx_l0, ridx_l1, ridx_l2, ridx_l3, eqD_str, eqD_int, rbin, rblt, opt_some, opt_none, Res.bind_ok, Res.bind_stuck, Res.bind_exc, bindT, setAll, datas, asInt, itemsW, listD, rsl, List.map_cons, List.map_nil, List.length_cons, List.length_nil, List.cons_append, List.nil_append, List.replicate, List.getElem?_cons_zero, List.getElem?_cons_succ, List.headD_nil, List.headD_cons, List.tail_nil, List.tail_cons, Option.map_some, Option.map_none, List.set_cons_zero, List.set_cons_succ, ofS_beq, Bool.not_true, Bool.not_false, Bool.or_false, Bool.or_true, Bool.and_true, Bool.and_false, Bool.false_eq_true, if_true, if_false, opE, fo, ptE]
    refine ⟨fun k S hk => ?_, fun k S hk => h2 k S (by simp [Fm.h] at hk; omega)⟩
    obtain ⟨k, rfl⟩ : ∃ j, k = j + 2 := ⟨k - 2, by simp [Fm.h] at hk; omega⟩
    have e1 := h2 (k + 1) S (by simp [Fm.h] at hk; omega)
    have e4 := around_ok (S := S) u (k := k) "some" "and" (opE (.any false n f)) .none
    rw [opE, arS, ← opE] at e4
    rw [u_flat_of u]
    simp only [Fm.e, anyS] at e1
    simp [b_flat_of, Fm.e, anyS, locR_ok, ev_loc, ev_dat, optB_ok, kBin2_ap, kBin1_ap, ev_bin, kCmp2_ap, kCmp1_ap, ev_cmp, kChn3_t, kChn3_f, kChn2_ap, kChn1_ap, ev_chn, kIsN_ap, ev_isN, kAnd2_t, kAnd2_f, kAnd1_ap, ev_and, kOr2_t, kOr2_f, kOr1_ap, ev_or, kNot_ap, ev_not, kIte2_t, kIte2_f, kIte1_ap, ev_ite, optT_ok, optL_ok, kTup_ap, kLst_ap, ev_tup, ev_lst, kIdx2_ap, kIdx1_ap, ev_idx, kslF3_ap, kslF2_ap, kslF1_ap, ev_slF, kslT3_ap, kslT2_ap, kslT1_ap, ev_slT, kRev2_ap, kRev_ap, ev_rev, kCall_ap, ev_call, kIsi2_ap, kIsi_ap, ev_isi, kBlt_ap, ev_blt, kMut3_ap, kMut2_ap, kMut1_ap, ev_mut, kPrm_ap, ev_prm, kC3_t, kC3_f, kC2_ap, kN_ap, kComp_ap, kLs_ap, kLsc_ap, kK3_t, kK3_f, kK2_ap, ev_comp, ev_lsc, kCons_ap, kEvs2_ap, kEvs1_ap, ev_nil, ev_cons, kSq_ap, ev_sq, kRng_ap, ev_rng1, k_enm2_ap, k_enm_ap, ev_ienm, k_rev2_ap, k_rev_ap, ev_irev, kTest_ap, ev_t0, ev_t1, ev_T, kRet_ap, ev_ret, ev_retN, nextE_ok, kAsg_ap, ev_asg, kNew2_ap, kNew1_ap, ev_new, kExp_ap, ev_exp, kIf_t, kIf_f, ev_if, kTurn_ap, kFor_ap, ev_for, kSix4_ap, kSix3_ap, kSix2_ap, kSix1_ap, ev_six, ev_pass, kSeq_n, kSeq_r, ev_s0, ev_s1, kLeave_n, kLeave_d, kLeave_l, kLeave_k, kLeave_o, run_def, rpm, startE, give, truthW, viewD, viewL, fz, isTy, kb, ki, dTruth, rcmp, rcmpD, cmpI, ridx_t0, ridx_t1, ridx_t2, ridx_t3, ridx_l0, ridx_l1, ridx_l2, ridx_l3, eqD_str, eqD_int, rbin, rblt, opt_some, opt_none, Res.bind_ok, Res.bind_stuck, Res.bind_exc, bindT, setAll, datas, asInt, itemsW, listD, rsl, List.map_cons, List.map_nil, List.length_cons, List.length_nil, List.cons_append, List.nil_append, List.replicate, List.getElem?_cons_zero, List.getElem?_cons_succ, List.headD_nil, List.headD_cons, List.tail_nil, List.tail_cons, Option.map_some, Option.map_none, List.set_cons_zero, List.set_cons_succ, ofS_beq, Bool.not_true, Bool.not_false, Bool.or_false, Bool.or_true, Bool.and_true, Bool.and_false, Bool.false_eq_true, if_true, if_false, e1, e4]
    simp [fo]
end
end Sc
namespace Sc
open PySem PySem.Spec PyProof.Rows L2
section
variable {tab : Tab} {S : Sto}
theorem law_whole_int (u : Ups tab) {k : Nat} {n : Int} : Cn tab (k + 1) "_law_whole" [.d (.int n)] S = .ok (kb true) S := by
  rw [u__law_whole u]
  simp [b__law_whole, locR_ok, ev_loc, ev_dat, optB_ok, kBin2_ap, kBin1_ap, ev_bin, kCmp2_ap, kCmp1_ap, ev_cmp, kChn3_t, kChn3_f, kChn2_ap, kChn1_ap, ev_chn, kIsN_ap, ev_isN, kAnd2_t, kAnd2_f, kAnd1_ap, ev_and, kOr2_t, kOr2_f, kOr1_ap, ev_or, kNot_ap, ev_not, kIte2_t, kIte2_f, kIte1_ap, ev_ite, optT_ok, optL_ok, kTup_ap, kLst_ap, ev_tup, ev_lst, kIdx2_ap, kIdx1_ap, ev_idx, kslF3_ap, kslF2_ap, kslF1_ap, ev_slF, kslT3_ap, kslT2_ap, kslT1_ap, ev_slT, kRev2_ap, kRev_ap, ev_rev, kCall_ap, ev_call, kIsi2_ap, kIsi_ap, ev_isi, kBlt_ap, ev_blt, kMut3_ap, kMut2_ap, kMut1_ap, ev_mut, kPrm_ap, ev_prm, kC3_t, kC3_f, kC2_ap, kN_ap, kComp_ap, kLs_ap, kLsc_ap, kK3_t, kK3_f, kK2_ap, ev_comp, ev_lsc, kCons_ap, kEvs2_ap, kEvs1_ap, ev_nil, ev_cons, kSq_ap, ev_sq, kRng_ap, ev_rng1, k_enm2_ap, k_enm_ap, ev_ienm, k_rev2_ap, k_rev_ap, ev_irev, kTest_ap, ev_t0, ev_t1, ev_T, kRet_ap, ev_ret, ev_retN, nextE_ok, kAsg_ap, ev_asg, kNew2_ap, kNew1_ap, ev_new, kExp_ap, ev_exp, kIf_t, kIf_f, ev_if, kTurn_ap, kFor_ap, ev_for, kSix4_ap, kSix3_ap, kSix2_ap, kSix1_ap, ev_six, ev_pass, kSeq_n, kSeq_r, ev_s0, ev_s1, kLeave_n, kLeave_d, kLeave_l, kLeave_k, kLeave_o, run_def, rpm, startE, give, truthW, viewD, viewL, fz, isTy, kb, ki, dTruth, rcmp, rcmpD, cmpI, ridx_t0, ridx_t1, ridx_t2, ridx_t3, ridx_l0, ridx_l1, ridx_l2, ridx_l3, eqD_str, eqD_int, rbin, rblt, opt_some, opt_none, Res.bind_ok, Res.bind_stuck, Res.bind_exc, bindT, setAll, datas, asInt, itemsW, listD, rsl, List.map_cons, List.map_nil, List.length_cons, List.length_nil, List.cons_append, List.nil_append, List.replicate, List.getElem?_cons_zero, List.getElem?_cons_succ, List.headD_nil, List.headD_cons, List.tail_nil, List.tail_cons, Option.map_some, Option.map_none, List.set_cons_zero, List.set_cons_succ, ofS_beq, Bool.not_true, Bool.not_false, Bool.or_false, Bool.or_true, Bool.and_true, Bool.and_false, Bool.false_eq_true, if_true, if_false]
theorem law_whole_tup (u : Ups tab) {k : Nat} {ds : List D} : Cn tab (k + 1) "_law_whole" [.d (.tuple ds)] S = .ok (kb false) S := by
  rw [u__law_whole u]
  simp [b__law_whole, locR_ok, ev_loc, ev_dat, optB_ok, kBin2_ap, kBin1_ap, ev_bin, kCmp2_ap, kCmp1_ap, ev_cmp, kChn3_t, kChn3_f, kChn2_ap, kChn1_ap, ev_chn, kIsN_ap, ev_isN, kAnd2_t, kAnd2_f, kAnd1_ap, ev_and, kOr2_t, kOr2_f, kOr1_ap, ev_or, kNot_ap, ev_not, kIte2_t, kIte2_f, kIte1_ap, ev_ite, optT_ok, optL_ok, kTup_ap, kLst_ap, ev_tup, ev_lst, kIdx2_ap, kIdx1_ap, ev_idx, kslF3_ap, kslF2_ap, kslF1_ap, ev_slF, kslT3_ap, kslT2_ap, kslT1_ap, ev_slT, kRev2_ap, kRev_ap, ev_rev, kCall_ap, ev_call, kIsi2_ap, kIsi_ap, ev_isi, kBlt_ap, ev_blt, kMut3_ap, kMut2_ap, kMut1_ap, ev_mut, kPrm_ap, ev_prm, kC3_t, kC3_f, kC2_ap, kN_ap, kComp_ap, kLs_ap, kLsc_ap, kK3_t, kK3_f, kK2_ap, ev_comp, ev_lsc, kCons_ap, kEvs2_ap, kEvs1_ap, ev_nil, ev_cons, kSq_ap, ev_sq, kRng_ap, ev_rng1, k_enm2_ap, k_enm_ap, ev_ienm, k_rev2_ap, k_rev_ap, ev_irev, kTest_ap, ev_t0, ev_t1, ev_T, kRet_ap, ev_ret, ev_retN, nextE_ok, kAsg_ap, ev_asg, kNew2_ap, kNew1_ap, ev_new, kExp_ap, ev_exp, kIf_t, kIf_f, ev_if, kTurn_ap, kFor_ap, ev_for, kSix4_ap, kSix3_ap, kSix2_ap, kSix1_ap, ev_six, ev_pass, kSeq_n, kSeq_r, ev_s0, ev_s1, kLeave_n, kLeave_d, kLeave_l, kLeave_k, kLeave_o, run_def, rpm, startE, give, truthW, viewD, viewL, fz, isTy, kb, ki, dTruth, rcmp, rcmpD, cmpI, ridx_t0, ridx_t1, ridx_t2, ridx_t3, ridx_l0, ridx_l1, ridx_l2, ridx_l3, eqD_str, eqD_int, rbin, rblt, opt_some, opt_none, Res.bind_ok, Res.bind_stuck, Res.bind_exc, bindT, setAll, datas, asInt, itemsW, listD, rsl, List.map_cons, List.map_nil, List.length_cons, List.length_nil, List.cons_append, List.nil_append, List.replicate, List.getElem?_cons_zero, List.getElem?_cons_succ, List.headD_nil, List.headD_cons, List.tail_nil, List.tail_cons, Option.map_some, Option.map_none, List.set_cons_zero, List.set_cons_succ, ofS_beq, Bool.not_true, Bool.not_false, Bool.or_false, Bool.or_true, Bool.and_true, Bool.and_false, Bool.false_eq_true, if_true, if_false]
def lfB : List Sm := [.ite (.call "_law_whole" [] [(.loc 4)]) [.asg (.nm 3) (.tup [(.ite (.cmp .eq (.loc 1) (.dat (.str "if"))) (.dat (.str "all")) (.dat (.str "some"))), (.loc 4), (.loc 3)])] [.asg (.nm 3) (.tup [(.ite (.cmp .eq (.loc 1) (.dat (.str "if"))) (.dat (.str "if")) (.dat (.str "and"))), (.loc 4), (.loc 3)])]]
def lfT : List Sm := [.for_ (.nm 4) (.sq (.rev (.loc 2))) lfB, .ret (.loc 3)]
def stB : Bool → Pt → Fm → Fm
  | true => stA
  | false => stS
theorem lf_loop (u : Ups tab) {k : Nat} (w : String) (b : Bool) (hb : (w == "if") = b) (f row : W) : ∀ (ps : List Pt) (a : Fm) (o : Option W), ∃ o', loopF (turn (Cn tab (k + 1)) (.nm 4) lfB) (ps.map fun p => .d (ptE p)) [some f, some (.d (.str w)), some row, some (.d a.e), o] S
    = .ok (.next [some f, some (.d (.str w)), some row, some (.d (ps.foldl (fun a p => stB b p a) a).e), o']) S
  | [], a, o => ⟨o, rfl⟩
  | p :: ps, a, o => by
    obtain ⟨o', h⟩ := lf_loop u w b hb f row ps (stB b p a) (some (.d (ptE p)))
    refine ⟨o', ?_⟩
    have h1 : turn (Cn tab (k + 1)) (.nm 4) lfB (.d (ptE p)) [some f, some (.d (.str w)), some row, some (.d a.e), o] S = .ok (.next [some f, some (.d (.str w)), some row, some (.d (stB b p a).e), some (.d (ptE p))]) S := by
      cases p with
      | inl n =>
        cases b <;> simp [turn_ap, lfB, locR_ok, ev_loc, ev_dat, optB_ok, kBin2_ap, kBin1_ap, ev_bin, kCmp2_ap, kCmp1_ap, ev_cmp, kChn3_t, kChn3_f, kChn2_ap, kChn1_ap, ev_chn, kIsN_ap, ev_isN, kAnd2_t, kAnd2_f, kAnd1_ap, ev_and, kOr2_t, kOr2_f, kOr1_ap, ev_or, kNot_ap, ev_not, kIte2_t, kIte2_f, kIte1_ap, ev_ite, optT_ok, optL_ok, kTup_ap, kLst_ap, ev_tup, ev_lst, kIdx2_ap, kIdx1_ap, ev_idx, kslF3_ap, kslF2_ap, kslF1_ap, ev_slF, kslT3_ap, kslT2_ap, kslT1_ap, ev_slT, kRev2_ap, kRev_ap, ev_rev, kCall_ap, ev_call, kIsi2_ap, kIsi_ap, ev_isi, kBlt_ap, ev_blt, kMut3_ap, kMut2_ap, kMut1_ap, ev_mut, kPrm_ap, ev_prm, kC3_t, kC3_f, kC2_ap, kN_ap, kComp_ap, kLs_ap, kLsc_ap, kK3_t, kK3_f, kK2_ap, ev_comp, ev_lsc, kCons_ap, kEvs2_ap, kEvs1_ap, ev_nil, ev_cons, kSq_ap, ev_sq, kRng_ap, ev_rng1, k_enm2_ap, k_enm_ap, ev_ienm, k_rev2_ap, k_rev_ap, ev_irev, kTest_ap, ev_t0, ev_t1, ev_T, kRet_ap, ev_ret, ev_retN, nextE_ok, kAsg_ap, ev_asg, kNew2_ap, kNew1_ap, ev_new, kExp_ap, ev_exp, kIf_t, kIf_f, ev_if, kTurn_ap, kFor_ap, ev_for, kSix4_ap, kSix3_ap, kSix2_ap, kSix1_ap, ev_six, ev_pass, kSeq_n, kSeq_r, ev_s0, ev_s1, kLeave_n, kLeave_d, kLeave_l, kLeave_k, kLeave_o, run_def, rpm, startE, give, truthW, viewD, viewL, fz, isTy, kb, ki, dTruth, rcmp, rcmpD, cmpI, ridx_t0, ridx_t1, ridx_t2, ridx_t3, ridx_l0, ridx_l1, ridx_l2, ridx_l3, eqD_str, eqD_int, rbin, rblt, opt_some, opt_none, Res.bind_ok, Res.bind_stuck, Res.bind_exc, bindT, setAll, datas, asInt, itemsW, listD, rsl, List.map_cons, List.map_nil, List.length_cons, List.length_nil, List.cons_append, List.nil_append, List.replicate, List.getElem?_cons_zero, List.getElem?_cons_succ, List.headD_nil, List.headD_cons, List.tail_nil, List.tail_cons, Option.map_some, Option.map_none, List.set_cons_zero, List.set_cons_succ, ofS_beq, Bool.not_true, Bool.not_false, Bool.or_false, Bool.or_true, Bool.and_true, Bool.and_false, Bool.false_eq_true, if_true, if_false, ptE, law_whole_int u, hb, stB, stA, stS, Fm.e, anyS]
      | inr g =>
        obtain ⟨ds, hd⟩ := g.e_tup
        cases b <;> simp [turn_ap, lfB, locR_ok, ev_loc, ev_dat, optB_ok, kBin2_ap, kBin1_ap, ev_bin, kCmp2_ap, kCmp1_ap, ev_cmp, kChn3_t, kChn3_f, kChn2_ap, kChn1_ap, ev_chn, kIsN_ap, ev_isN, kAnd2_t, kAnd2_f, kAnd1_ap, ev_and, kOr2_t, kOr2_f, kOr1_ap, ev_or, kNot_ap, ev_not, kIte2_t, kIte2_f, kIte1_ap, ev_ite, optT_ok, optL_ok, kTup_ap, kLst_ap, ev_tup, ev_lst, kIdx2_ap, kIdx1_ap, ev_idx, kslF3_ap, kslF2_ap, kslF1_ap, ev_slF, kslT3_ap, kslT2_ap, kslT1_ap, ev_slT, kRev2_ap, kRev_ap, ev_rev, kCall_ap, ev_call, kIsi2_ap, kIsi_ap, ev_isi, kBlt_ap, ev_blt, kMut3_ap, kMut2_ap, kMut1_ap, ev_mut, kPrm_ap, ev_prm, kC3_t, kC3_f, kC2_ap, kN_ap, kComp_ap, kLs_ap, kLsc_ap, kK3_t, kK3_f, kK2_ap, ev_comp, ev_lsc, kCons_ap, kEvs2_ap, kEvs1_ap, ev_nil, ev_cons, kSq_ap, ev_sq, kRng_ap, ev_rng1, k_enm2_ap, k_enm_ap, ev_ienm, k_rev2_ap, k_rev_ap, ev_irev, kTest_ap, ev_t0, ev_t1, ev_T, kRet_ap, ev_ret, ev_retN, nextE_ok, kAsg_ap, ev_asg, kNew2_ap, kNew1_ap, ev_new, kExp_ap, ev_exp, kIf_t, kIf_f, ev_if, kTurn_ap, kFor_ap, ev_for, kSix4_ap, kSix3_ap, kSix2_ap, kSix1_ap, ev_six, ev_pass, kSeq_n, kSeq_r, ev_s0, ev_s1, kLeave_n, kLeave_d, kLeave_l, kLeave_k, kLeave_o, run_def, rpm, startE, give, truthW, viewD, viewL, fz, isTy, kb, ki, dTruth, rcmp, rcmpD, cmpI, ridx_t0, ridx_t1, ridx_t2, ridx_t3, ridx_l0, ridx_l1, ridx_l2, ridx_l3, eqD_str, eqD_int, rbin, rblt, opt_some, opt_none, Res.bind_ok, Res.bind_stuck, Res.bind_exc, bindT, setAll, datas, asInt, itemsW, listD, rsl, List.map_cons, List.map_nil, List.length_cons, List.length_nil, List.cons_append, List.nil_append, List.replicate, List.getElem?_cons_zero, List.getElem?_cons_succ, List.headD_nil, List.headD_cons, List.tail_nil, List.tail_cons, Option.map_some, Option.map_none, List.set_cons_zero, List.set_cons_succ, ofS_beq, Bool.not_true, Bool.not_false, Bool.or_false, Bool.or_true, Bool.and_true, Bool.and_false, Bool.false_eq_true, if_true, if_false, ptE, hd, law_whole_tup u, hb, stB, stA, stS, Fm.e, O2.s]
    simp only [List.map_cons, loopF, h1, Res.bind_ok, List.foldl_cons]
    exact h
theorem at_mid {A G : Sto} {x : MO} : (A ++ x :: G)[A.length]? = some x := by simp
theorem set_mid {A G : Sto} {x y : MO} : (A ++ x :: G).set A.length y = A ++ y :: G := by simp
/-- the loop, the end: row live at its place -/
theorem lf_end (u : Ups tab) {k : Nat} (w : String) (b : Bool) (hb : (w == "if") = b) (f : W) (A G : Sto) (ps : List Pt) (a : Fm) (o : Option W) (n0 : Nat) :
    ((execs (Cn tab (k + 1)) lfT [some f, some (.d (.str w)), some (.o A.length), some (.d a.e), o] (A ++ .lst (ps.map ptE) :: G)).bind (kLeave n0)) = .ok (.w (.d (ps.foldr (stB b) a).e)) (A ++ .lst (ps.map ptE) :: G) := by
  obtain ⟨o', h⟩ := lf_loop (S := A ++ .lst (ps.map ptE) :: G) u (k := k) w b hb f (.o A.length) ps.reverse a o
  rw [List.foldl_reverse] at h
  have e1 : ((ps.map ptE).reverse.map W.d) = ps.reverse.map fun p => .d (ptE p) := by rw [← List.map_reverse, List.map_map]; rfl
  simp only [lfT, locR_ok, ev_loc, ev_dat, optB_ok, kBin2_ap, kBin1_ap, ev_bin, kCmp2_ap, kCmp1_ap, ev_cmp, kChn3_t, kChn3_f, kChn2_ap, kChn1_ap, ev_chn, kIsN_ap, ev_isN, kAnd2_t, kAnd2_f, kAnd1_ap, ev_and, kOr2_t, kOr2_f, kOr1_ap, ev_or, kNot_ap, ev_not, kIte2_t, kIte2_f, kIte1_ap, ev_ite, optT_ok, optL_ok, kTup_ap, kLst_ap, ev_tup, ev_lst, kIdx2_ap, kIdx1_ap, ev_idx, kslF3_ap, kslF2_ap, kslF1_ap, ev_slF, kslT3_ap, kslT2_ap, kslT1_ap, ev_slT, kRev2_ap, kRev_ap, ev_rev, kCall_ap, ev_call, kIsi2_ap, kIsi_ap, ev_isi, kBlt_ap, ev_blt, kMut3_ap, kMut2_ap, kMut1_ap, ev_mut, kPrm_ap, ev_prm, kC3_t, kC3_f, kC2_ap, kN_ap, kComp_ap, kLs_ap, kLsc_ap, kK3_t, kK3_f, kK2_ap, ev_comp, ev_lsc, kCons_ap, kEvs2_ap, kEvs1_ap, ev_nil, ev_cons, kSq_ap, ev_sq, kRng_ap, ev_rng1, k_enm2_ap, k_enm_ap, ev_ienm, k_rev2_ap, k_rev_ap, ev_irev, kTest_ap, ev_t0, ev_t1, ev_T, kRet_ap, ev_ret, ev_retN, nextE_ok, kAsg_ap, ev_asg, kNew2_ap, kNew1_ap, ev_new, kExp_ap, ev_exp, kIf_t, kIf_f, ev_if, kTurn_ap, kFor_ap, ev_for, kSix4_ap, kSix3_ap, kSix2_ap, kSix1_ap, ev_six, ev_pass, kSeq_n, kSeq_r, ev_s0, ev_s1, kLeave_n, kLeave_d, kLeave_l, kLeave_k, kLeave_o, run_def, rpm, startE, give, truthW, viewD, viewL, fz, isTy, kb, ki, dTruth, rcmp, rcmpD, cmpI, ridx_t0, ridx_t1, ridx_t2, ridx_t3, ridx_l0, ridx_l1, ridx_l2, ridx_l3, eqD_str, eqD_int, rbin, rblt, opt_some, opt_none, Res.bind_ok, Res.bind_stuck, Res.bind_exc, bindT, setAll, datas, asInt, itemsW, listD, rsl, List.map_cons, List.map_nil, List.length_cons, List.length_nil, List.cons_append, List.nil_append, List.replicate, List.getElem?_cons_zero, List.getElem?_cons_succ, List.headD_nil, List.headD_cons, List.tail_nil, List.tail_cons, Option.map_some, Option.map_none, List.set_cons_zero, List.set_cons_succ, ofS_beq, Bool.not_true, Bool.not_false, Bool.or_false, Bool.or_true, Bool.and_true, Bool.and_false, Bool.false_eq_true, if_true, if_false, at_mid]
  rw [e1, h]
  simp only [locR_ok, ev_loc, ev_dat, optB_ok, kBin2_ap, kBin1_ap, ev_bin, kCmp2_ap, kCmp1_ap, ev_cmp, kChn3_t, kChn3_f, kChn2_ap, kChn1_ap, ev_chn, kIsN_ap, ev_isN, kAnd2_t, kAnd2_f, kAnd1_ap, ev_and, kOr2_t, kOr2_f, kOr1_ap, ev_or, kNot_ap, ev_not, kIte2_t, kIte2_f, kIte1_ap, ev_ite, optT_ok, optL_ok, kTup_ap, kLst_ap, ev_tup, ev_lst, kIdx2_ap, kIdx1_ap, ev_idx, kslF3_ap, kslF2_ap, kslF1_ap, ev_slF, kslT3_ap, kslT2_ap, kslT1_ap, ev_slT, kRev2_ap, kRev_ap, ev_rev, kCall_ap, ev_call, kIsi2_ap, kIsi_ap, ev_isi, kBlt_ap, ev_blt, kMut3_ap, kMut2_ap, kMut1_ap, ev_mut, kPrm_ap, ev_prm, kC3_t, kC3_f, kC2_ap, kN_ap, kComp_ap, kLs_ap, kLsc_ap, kK3_t, kK3_f, kK2_ap, ev_comp, ev_lsc, kCons_ap, kEvs2_ap, kEvs1_ap, ev_nil, ev_cons, kSq_ap, ev_sq, kRng_ap, ev_rng1, k_enm2_ap, k_enm_ap, ev_ienm, k_rev2_ap, k_rev_ap, ev_irev, kTest_ap, ev_t0, ev_t1, ev_T, kRet_ap, ev_ret, ev_retN, nextE_ok, kAsg_ap, ev_asg, kNew2_ap, kNew1_ap, ev_new, kExp_ap, ev_exp, kIf_t, kIf_f, ev_if, kTurn_ap, kFor_ap, ev_for, kSix4_ap, kSix3_ap, kSix2_ap, kSix1_ap, ev_six, ev_pass, kSeq_n, kSeq_r, ev_s0, ev_s1, kLeave_n, kLeave_d, kLeave_l, kLeave_k, kLeave_o, run_def, rpm, startE, give, truthW, viewD, viewL, fz, isTy, kb, ki, dTruth, rcmp, rcmpD, cmpI, ridx_t0, ridx_t1, ridx_t2, ridx_t3, ridx_l0, ridx_l1, ridx_l2, ridx_l3, eqD_str, eqD_int, rbin, rblt, opt_some, opt_none, Res.bind_ok, Res.bind_stuck, Res.bind_exc, bindT, setAll, datas, asInt, itemsW, listD, rsl, List.map_cons, List.map_nil, List.length_cons, List.length_nil, List.cons_append, List.nil_append, List.replicate, List.getElem?_cons_zero, List.getElem?_cons_succ, List.headD_nil, List.headD_cons, List.tail_nil, List.tail_cons, Option.map_some, Option.map_none, List.set_cons_zero, List.set_cons_succ, ofS_beq, Bool.not_true, Bool.not_false, Bool.or_false, Bool.or_true, Bool.and_true, Bool.and_false, Bool.false_eq_true, if_true, if_false]
theorem rmut_pop {A G : Sto} {xs : List D} {y : D} : rmut .pop (A ++ .lst (xs ++ [y]) :: G) (.o A.length) [] = .ok (.w (.d y)) (A ++ .lst xs :: G) := by
  unfold rmut
  simp only [at_mid, List.length_append, List.length_singleton, Nat.add_sub_cancel, List.getElem?_concat_length, set_mid, List.dropLast_concat]
theorem law_flat_ok (u : Ups tab) : ∀ (f : Fm), f.size ≤ 10000 → (∀ (k : Nat) (S : Sto), 3 * f.h ≤ k → ∃ G, Cn tab k "_law_flat" [.d f.e] S = .ok (.w (.d (fo f).1.e)) (S ++ G)) ∧ (∀ (k : Nat) (S : Sto), 3 * f.h + 1 ≤ k → ∃ G, Cn tab k "_law_opened" [.d f.e] S = .ok (.n (opE f)) (S ++ G)) := by
  have eB : b__law_flat = [
  .asg (.nm 1) (.idx (.loc 0) (.dat (.int 0))),
  .ite (.cmp .eq (.loc 1) (.dat (.str "fact"))) [.ret (.loc 0)] [],
  .ite (.cmp .eq (.loc 1) (.dat (.str "not"))) [.ret (.tup [(.dat (.str "not")), (.call "_law_flat" [] [(.idx (.loc 0) (.dat (.int 1)))])])] [],
  .ite (.cmp .eq (.loc 1) (.dat (.str "or"))) [.ret (.tup [(.dat (.str "or")), (.call "_law_flat" [] [(.idx (.loc 0) (.dat (.int 1)))]), (.call "_law_flat" [] [(.idx (.loc 0) (.dat (.int 2)))])])] [],
  .ite (.cmp .eq (.loc 1) (.dat (.str "all"))) [.ret (.tup [(.dat (.str "all")), (.idx (.loc 0) (.dat (.int 1))), (.call "_law_flat" [] [(.idx (.loc 0) (.dat (.int 2)))])])] [],
  .new 2 (.call "_law_opened" [] [(.ite (.cmp .eq (.loc 1) (.dat (.str "if"))) (.idx (.loc 0) (.dat (.int 1))) (.loc 0))]),
  .asg (.nm 3) (.ite (.cmp .eq (.loc 1) (.dat (.str "if"))) (.call "_law_flat" [] [(.idx (.loc 0) (.dat (.int 2)))]) (.mut .pop (.loc 2) []))] ++ lfT := rfl
  -- opened of what is neither some nor and
  have other : ∀ (f : Fm) (s : String) (ds : List D), f.e = .tuple (.str s :: ds) → (s == "some") = false → (s == "and") = false → (fo f).2.1 = [] → (fo f).2.2 = (fo f).1 → (∀ (k : Nat) (S : Sto), 3 * f.h ≤ k → ∃ G, Cn tab k "_law_flat" [.d f.e] S = .ok (.w (.d (fo f).1.e)) (S ++ G)) → ∀ (k : Nat) (S : Sto), 3 * f.h + 1 ≤ k → ∃ G, Cn tab k "_law_opened" [.d f.e] S = .ok (.n (opE f)) (S ++ G) := by
    intro f s ds he h1 h2 h3 h4 hf k S hk
    obtain ⟨k, rfl⟩ : ∃ j, k = j + 1 := ⟨k - 1, by omega⟩
    obtain ⟨G, hG⟩ := hf k S (by omega)
    refine ⟨G, ?_⟩
    rw [u__law_opened u]
    rw [he] at hG ⊢
    simp [b__law_opened, locR_ok, ev_loc, ev_dat, optB_ok, kBin2_ap, kBin1_ap, ev_bin, kCmp2_ap, kCmp1_ap, ev_cmp, kChn3_t, kChn3_f, kChn2_ap, kChn1_ap, ev_chn, kIsN_ap, ev_isN, kAnd2_t, kAnd2_f, kAnd1_ap, ev_and, kOr2_t, kOr2_f, kOr1_ap, ev_or, kNot_ap, ev_not, kIte2_t, kIte2_f, kIte1_ap, ev_ite, optT_ok, optL_ok, kTup_ap, kLst_ap, ev_tup, ev_lst, kIdx2_ap, kIdx1_ap, ev_idx, kslF3_ap, kslF2_ap, kslF1_ap, ev_slF, kslT3_ap, kslT2_ap, kslT1_ap, ev_slT, kRev2_ap, kRev_ap, ev_rev, kCall_ap, ev_call, kIsi2_ap, kIsi_ap, ev_isi, kBlt_ap, ev_blt, kMut3_ap, kMut2_ap, kMut1_ap, ev_mut, kPrm_ap, ev_prm, kC3_t, kC3_f, kC2_ap, kN_ap, kComp_ap, kLs_ap, kLsc_ap, kK3_t, kK3_f, kK2_ap, ev_comp, ev_lsc, kCons_ap, kEvs2_ap, kEvs1_ap, ev_nil, ev_cons, kSq_ap, ev_sq, kRng_ap, ev_rng1, k_enm2_ap, k_enm_ap, ev_ienm, k_rev2_ap, k_rev_ap, ev_irev, kTest_ap, ev_t0, ev_t1, ev_T, kRet_ap, ev_ret, ev_retN, nextE_ok, kAsg_ap, ev_asg, kNew2_ap, kNew1_ap, ev_new, kExp_ap, ev_exp, kIf_t, kIf_f, ev_if, kTurn_ap, kFor_ap, ev_for, kSix4_ap, kSix3_ap, kSix2_ap, kSix1_ap, ev_six, ev_pass, kSeq_n, kSeq_r, ev_s0, ev_s1, kLeave_n, kLeave_d, kLeave_l, kLeave_k, kLeave_o, run_def, rpm, startE, give, truthW, viewD, viewL, fz, isTy, kb, ki, dTruth, rcmp, rcmpD, cmpI, ridx_t0, ridx_t1, ridx_t2, ridx_t3, ridx_l0, ridx_l1, ridx_l2, ridx_l3, eqD_str, eqD_int, rbin, rblt, opt_some, opt_none, Res.bind_ok, Res.bind_stuck, Res.bind_exc, bindT, setAll, datas, asInt, itemsW, listD, rsl, List.map_cons, List.map_nil, List.length_cons, List.length_nil, List.cons_append, List.nil_append, List.replicate, List.getElem?_cons_zero, List.getElem?_cons_succ, List.headD_nil, List.headD_cons, List.tail_nil, List.tail_cons, Option.map_some, Option.map_none, List.set_cons_zero, List.set_cons_succ, ofS_beq, Bool.not_true, Bool.not_false, Bool.or_false, Bool.or_true, Bool.and_true, Bool.and_false, Bool.false_eq_true, if_true, if_false, h1, h2, hG, opE, h3, h4]
  intro f
  induction f with
  | fact w ts =>
    intro hz
    have h1 : ∀ (k : Nat) (S : Sto), 3 * (Fm.fact w ts).h ≤ k → ∃ G, Cn tab k "_law_flat" [.d (Fm.fact w ts).e] S = .ok (.w (.d (fo (Fm.fact w ts)).1.e)) (S ++ G) := fun k S hk => by
      simp [Fm.h] at hk
      obtain ⟨k, rfl⟩ : ∃ j, k = j + 1 := ⟨k - 1, by omega⟩
      refine ⟨[], ?_⟩
      rw [u__law_flat u]
      simp [b__law_flat, Fm.e, locR_ok, ev_loc, ev_dat, optB_ok, kBin2_ap, kBin1_ap, ev_bin, kCmp2_ap, kCmp1_ap, ev_cmp, kChn3_t, kChn3_f, kChn2_ap, kChn1_ap, ev_chn, kIsN_ap, ev_isN, kAnd2_t, kAnd2_f, kAnd1_ap, ev_and, kOr2_t, kOr2_f, kOr1_ap, ev_or, kNot_ap, ev_not, kIte2_t, kIte2_f, kIte1_ap, ev_ite, optT_ok, optL_ok, kTup_ap, kLst_ap, ev_tup, ev_lst, kIdx2_ap, kIdx1_ap, ev_idx, kslF3_ap, kslF2_ap, kslF1_ap, ev_slF, kslT3_ap, kslT2_ap, kslT1_ap, ev_slT, kRev2_ap, kRev_ap, ev_rev, kCall_ap, ev_call, kIsi2_ap, kIsi_ap, ev_isi, kBlt_ap, ev_blt, kMut3_ap, kMut2_ap, kMut1_ap, ev_mut, kPrm_ap, ev_prm, kC3_t, kC3_f, kC2_ap, kN_ap, kComp_ap, kLs_ap, kLsc_ap, kK3_t, kK3_f, kK2_ap, ev_comp, ev_lsc, kCons_ap, kEvs2_ap, kEvs1_ap, ev_nil, ev_cons, kSq_ap, ev_sq, kRng_ap, ev_rng1, k_enm2_ap, k_enm_ap, ev_ienm, k_rev2_ap, k_rev_ap, ev_irev, kTest_ap, ev_t0, ev_t1, ev_T, kRet_ap, ev_ret, ev_retN, nextE_ok, kAsg_ap, ev_asg, kNew2_ap, kNew1_ap, ev_new, kExp_ap, ev_exp, kIf_t, kIf_f, ev_if, kTurn_ap, kFor_ap, ev_for, kSix4_ap, kSix3_ap, kSix2_ap, kSix1_ap, ev_six, ev_pass, kSeq_n, kSeq_r, ev_s0, ev_s1, kLeave_n, kLeave_d, kLeave_l, kLeave_k, kLeave_o, run_def, rpm, startE, give, truthW, viewD, viewL, fz, isTy, kb, ki, dTruth, rcmp, rcmpD, cmpI, ridx_t0, ridx_t1, ridx_t2, ridx_t3, ridx_l0, ridx_l1, ridx_l2, ridx_l3, eqD_str, eqD_int, rbin, rblt, opt_some, opt_none, Res.bind_ok, Res.bind_stuck, Res.bind_exc, bindT, setAll, datas, asInt, itemsW, listD, rsl, List.map_cons, List.map_nil, List.length_cons, List.length_nil, List.cons_append, List.nil_append, List.replicate, List.getElem?_cons_zero, List.getElem?_cons_succ, List.headD_nil, List.headD_cons, List.tail_nil, List.tail_cons, Option.map_some, Option.map_none, List.set_cons_zero, List.set_cons_succ, ofS_beq, Bool.not_true, Bool.not_false, Bool.or_false, Bool.or_true, Bool.and_true, Bool.and_false, Bool.false_eq_true, if_true, if_false, fo]
    exact ⟨h1, other _ "fact" _ rfl rfl rfl rfl rfl h1⟩
  | not f ih =>
    intro hz
    have ih := ih (by simp [Fm.size] at hz; omega)
    have h1 : ∀ (k : Nat) (S : Sto), 3 * (Fm.not f).h ≤ k → ∃ G, Cn tab k "_law_flat" [.d (Fm.not f).e] S = .ok (.w (.d (fo (Fm.not f)).1.e)) (S ++ G) := fun k S hk => by
      simp [Fm.h] at hk
      obtain ⟨k, rfl⟩ : ∃ j, k = j + 1 := ⟨k - 1, by omega⟩
      obtain ⟨G, hG⟩ := ih.1 k S (by omega)
      refine ⟨G, ?_⟩
      rw [u__law_flat u]
      simp [b__law_flat, Fm.e, locR_ok, ev_loc, ev_dat, optB_ok, kBin2_ap, kBin1_ap, ev_bin, kCmp2_ap, kCmp1_ap, ev_cmp, kChn3_t, kChn3_f, kChn2_ap, kChn1_ap, ev_chn, kIsN_ap, ev_isN, kAnd2_t, kAnd2_f, kAnd1_ap, ev_and, kOr2_t, kOr2_f, kOr1_ap, ev_or, kNot_ap, ev_not, kIte2_t, kIte2_f, kIte1_ap, ev_ite, optT_ok, optL_ok, kTup_ap, kLst_ap, ev_tup, ev_lst, kIdx2_ap, kIdx1_ap, ev_idx, kslF3_ap, kslF2_ap, kslF1_ap, ev_slF, kslT3_ap, kslT2_ap, kslT1_ap, ev_slT, kRev2_ap, kRev_ap, ev_rev, kCall_ap, ev_call, kIsi2_ap, kIsi_ap, ev_isi, kBlt_ap, ev_blt, kMut3_ap, kMut2_ap, kMut1_ap, ev_mut, kPrm_ap, ev_prm, kC3_t, kC3_f, kC2_ap, kN_ap, kComp_ap, kLs_ap, kLsc_ap, kK3_t, kK3_f, kK2_ap, ev_comp, ev_lsc, kCons_ap, kEvs2_ap, kEvs1_ap, ev_nil, ev_cons, kSq_ap, ev_sq, kRng_ap, ev_rng1, k_enm2_ap, k_enm_ap, ev_ienm, k_rev2_ap, k_rev_ap, ev_irev, kTest_ap, ev_t0, ev_t1, ev_T, kRet_ap, ev_ret, ev_retN, nextE_ok, kAsg_ap, ev_asg, kNew2_ap, kNew1_ap, ev_new, kExp_ap, ev_exp, kIf_t, kIf_f, ev_if, kTurn_ap, kFor_ap, ev_for, kSix4_ap, kSix3_ap, kSix2_ap, kSix1_ap, ev_six, ev_pass, kSeq_n, kSeq_r, ev_s0, ev_s1, kLeave_n, kLeave_d, kLeave_l, kLeave_k, kLeave_o, run_def, rpm, startE, give, truthW, viewD, viewL, fz, isTy, kb, ki, dTruth, rcmp, rcmpD, cmpI, ridx_t0, ridx_t1, ridx_t2, ridx_t3, ridx_l0, ridx_l1, ridx_l2, ridx_l3, eqD_str, eqD_int, rbin, rblt, opt_some, opt_none, Res.bind_ok, Res.bind_stuck, Res.bind_exc, bindT, setAll, datas, asInt, itemsW, listD, rsl, List.map_cons, List.map_nil, List.length_cons, List.length_nil, List.cons_append, List.nil_append, List.replicate, List.getElem?_cons_zero, List.getElem?_cons_succ, List.headD_nil, List.headD_cons, List.tail_nil, List.tail_cons, Option.map_some, Option.map_none, List.set_cons_zero, List.set_cons_succ, ofS_beq, Bool.not_true, Bool.not_false, Bool.or_false, Bool.or_true, Bool.and_true, Bool.and_false, Bool.false_eq_true, if_true, if_false, fo, hG]
    exact ⟨h1, other _ "not" _ rfl rfl rfl rfl rfl h1⟩
  | any a n f ih =>
    intro hz
    have hz' : f.size + 1 ≤ 10000 := hz
    have ih := ih (by omega)
    cases a with
    | true =>
      have h1 : ∀ (k : Nat) (S : Sto), 3 * (Fm.any true n f).h ≤ k → ∃ G, Cn tab k "_law_flat" [.d (Fm.any true n f).e] S = .ok (.w (.d (fo (Fm.any true n f)).1.e)) (S ++ G) := fun k S hk => by
        simp [Fm.h] at hk
        obtain ⟨k, rfl⟩ : ∃ j, k = j + 1 := ⟨k - 1, by omega⟩
        obtain ⟨G, hG⟩ := ih.1 k S (by omega)
        refine ⟨G, ?_⟩
        rw [u__law_flat u]
        simp [b__law_flat, Fm.e, anyS, locR_ok, ev_loc, ev_dat, optB_ok, kBin2_ap, kBin1_ap, ev_bin, kCmp2_ap, kCmp1_ap, ev_cmp, kChn3_t, kChn3_f, kChn2_ap, kChn1_ap, ev_chn, kIsN_ap, ev_isN, kAnd2_t, kAnd2_f, kAnd1_ap, ev_and, kOr2_t, kOr2_f, kOr1_ap, ev_or, kNot_ap, ev_not, kIte2_t, kIte2_f, kIte1_ap, ev_ite, optT_ok, optL_ok, kTup_ap, kLst_ap, ev_tup, ev_lst, kIdx2_ap, kIdx1_ap, ev_idx, kslF3_ap, kslF2_ap, kslF1_ap, ev_slF, kslT3_ap, kslT2_ap, kslT1_ap, ev_slT, kRev2_ap, kRev_ap, ev_rev, kCall_ap, ev_call, kIsi2_ap, kIsi_ap, ev_isi, kBlt_ap, ev_blt, kMut3_ap, kMut2_ap, kMut1_ap, ev_mut, kPrm_ap, ev_prm, kC3_t, kC3_f, kC2_ap, kN_ap, kComp_ap, kLs_ap, kLsc_ap, kK3_t, kK3_f, kK2_ap, ev_comp, ev_lsc, kCons_ap, kEvs2_ap, kEvs1_ap, ev_nil, ev_cons, kSq_ap, ev_sq, kRng_ap, ev_rng1, k_enm2_ap, k_enm_ap, ev_ienm, k_rev2_ap, k_rev_ap, ev_irev, kTest_ap, ev_t0, ev_t1, ev_T, kRet_ap, ev_ret, ev_retN, nextE_ok, kAsg_ap, ev_asg, kNew2_ap, kNew1_ap, ev_new, kExp_ap, ev_exp, kIf_t, kIf_f, ev_if, kTurn_ap, kFor_ap, ev_for, kSix4_ap, kSix3_ap, kSix2_ap, kSix1_ap, ev_six, ev_pass, kSeq_n, kSeq_r, ev_s0, ev_s1, kLeave_n, kLeave_d, kLeave_l, kLeave_k, kLeave_o, run_def, rpm, startE, give, truthW, viewD, viewL, fz, isTy, kb, ki, dTruth, rcmp, rcmpD, cmpI, ridx_t0, ridx_t1, ridx_t2, ridx_t3, ridx_l0, ridx_l1, ridx_l2, ridx_l3, eqD_str, eqD_int, rbin, rblt, opt_some, opt_none, Res.bind_ok, Res.bind_stuck, Res.bind_exc, bindT, setAll, datas, asInt, itemsW, listD, rsl, List.map_cons, List.map_nil, List.length_cons, List.length_nil, List.cons_append, List.nil_append, List.replicate, List.getElem?_cons_zero, List.getElem?_cons_succ, List.headD_nil, List.headD_cons, List.tail_nil, List.tail_cons, Option.map_some, Option.map_none, List.set_cons_zero, List.set_cons_succ, ofS_beq, Bool.not_true, Bool.not_false, Bool.or_false, Bool.or_true, Bool.and_true, Bool.and_false, Bool.false_eq_true, if_true, if_false, fo, hG]
      exact ⟨h1, other _ "all" _ rfl rfl rfl rfl rfl h1⟩
    | false =>
      have h2 : ∀ (k : Nat) (S : Sto), 3 * f.h + 2 ≤ k → ∃ G, Cn tab k "_law_opened" [.d (Fm.any false n f).e] S = .ok (.n (opE (.any false n f))) (S ++ G) := fun k S hk => by
        obtain ⟨k, rfl⟩ : ∃ j, k = j + 1 := ⟨k - 1, by omega⟩
        obtain ⟨G, hG⟩ := ih.2 k S (by omega)
        refine ⟨G, ?_⟩
        rw [u__law_opened u]
        have l1 : 1 + (opE f).length ≤ sizeLine := size_line (by
          have := fo_size f
          simp [opE]
          omega)
        simp [b__law_opened, Fm.e, anyS, locR_ok, ev_loc, ev_dat, optB_ok, kBin2_ap, kBin1_ap, ev_bin, kCmp2_ap, kCmp1_ap, ev_cmp, kChn3_t, kChn3_f, kChn2_ap, kChn1_ap, ev_chn, kIsN_ap, ev_isN, kAnd2_t, kAnd2_f, kAnd1_ap, ev_and, kOr2_t, kOr2_f, kOr1_ap, ev_or, kNot_ap, ev_not, kIte2_t, kIte2_f, kIte1_ap, ev_ite, optT_ok, optL_ok, kTup_ap, kLst_ap, ev_tup, ev_lst, kIdx2_ap, kIdx1_ap, ev_idx, kslF3_ap, kslF2_ap, kslF1_ap, ev_slF, kslT3_ap, kslT2_ap, kslT1_ap, ev_slT, kRev2_ap, kRev_ap, ev_rev, kCall_ap, ev_call, kIsi2_ap, kIsi_ap, ev_isi, kBlt_ap, ev_blt, kMut3_ap, kMut2_ap, kMut1_ap, ev_mut, kPrm_ap, ev_prm, kC3_t, kC3_f, kC2_ap, kN_ap, kComp_ap, kLs_ap, kLsc_ap, kK3_t, kK3_f, kK2_ap, ev_comp, ev_lsc, kCons_ap, kEvs2_ap, kEvs1_ap, ev_nil, ev_cons, kSq_ap, ev_sq, kRng_ap, ev_rng1, k_enm2_ap, k_enm_ap, ev_ienm, k_rev2_ap, k_rev_ap, ev_irev, kTest_ap, ev_t0, ev_t1, ev_T, kRet_ap, ev_ret, ev_retN, nextE_ok, kAsg_ap, ev_asg, kNew2_ap, kNew1_ap, ev_new, kExp_ap, ev_exp, kIf_t, kIf_f, ev_if, kTurn_ap, kFor_ap, ev_for, kSix4_ap, kSix3_ap, kSix2_ap, kSix1_ap, ev_six, ev_pass, kSeq_n, kSeq_r, ev_s0, ev_s1, kLeave_n, kLeave_d, kLeave_l, kLeave_k, kLeave_o, run_def, rpm, startE, give, truthW, viewD, viewL, fz, isTy, kb, ki, dTruth, rcmp, rcmpD, cmpI, ridx_t0, ridx_t1, ridx_t2, ridx_t3, ridx_l0, ridx_l1, ridx_l2, ridx_l3, eqD_str, eqD_int, rbin, rblt, opt_some, opt_none, Res.bind_ok, Res.bind_stuck, Res.bind_exc, bindT, setAll, datas, asInt, itemsW, listD, rsl, List.map_cons, List.map_nil, List.length_cons, List.length_nil, List.cons_append, List.nil_append, List.replicate, List.getElem?_cons_zero, List.getElem?_cons_succ, List.headD_nil, List.headD_cons, List.tail_nil, List.tail_cons, Option.map_some, Option.map_none, List.set_cons_zero, List.set_cons_succ, ofS_beq, Bool.not_true, Bool.not_false, Bool.or_false, Bool.or_true, Bool.and_true, Bool.and_false, Bool.false_eq_true, if_true, if_false, hG]
        rw [if_pos (by simpa using l1)]
        simp [locR_ok, ev_loc, ev_dat, optB_ok, kBin2_ap, kBin1_ap, ev_bin, kCmp2_ap, kCmp1_ap, ev_cmp, kChn3_t, kChn3_f, kChn2_ap, kChn1_ap, ev_chn, kIsN_ap, ev_isN, kAnd2_t, kAnd2_f, kAnd1_ap, ev_and, kOr2_t, kOr2_f, kOr1_ap, ev_or, kNot_ap, ev_not, kIte2_t, kIte2_f, kIte1_ap, ev_ite, optT_ok, optL_ok, kTup_ap, kLst_ap, ev_tup, ev_lst, kIdx2_ap, kIdx1_ap, ev_idx, kslF3_ap, kslF2_ap, kslF1_ap, ev_slF, kslT3_ap, kslT2_ap, kslT1_ap, ev_slT, kRev2_ap, kRev_ap, ev_rev, kCall_ap, ev_call, kIsi2_ap, kIsi_ap, ev_isi, kBlt_ap, ev_blt, kMut3_ap, kMut2_ap, kMut1_ap, ev_mut, kPrm_ap, ev_prm, kC3_t, kC3_f, kC2_ap, kN_ap, kComp_ap, kLs_ap, kLsc_ap, kK3_t, kK3_f, kK2_ap, ev_comp, ev_lsc, kCons_ap, kEvs2_ap, kEvs1_ap, ev_nil, ev_cons, kSq_ap, ev_sq, kRng_ap, ev_rng1, k_enm2_ap, k_enm_ap, ev_ienm, k_rev2_ap, k_rev_ap, ev_irev, kTest_ap, ev_t0, ev_t1, ev_T, kRet_ap, ev_ret, ev_retN, nextE_ok, kAsg_ap, ev_asg, kNew2_ap, kNew1_ap, ev_new, kExp_ap, ev_exp, kIf_t, kIf_f, ev_if, kTurn_ap, kFor_ap, ev_for, kSix4_ap, kSix3_ap, kSix2_ap, kSix1_ap, ev_six, ev_pass, kSeq_n, kSeq_r, ev_s0, ev_s1, kLeave_n, kLeave_d, kLeave_l, kLeave_k, kLeave_o, run_def, rpm, startE, give, truthW, viewD, viewL, fz, isTy, kb, ki, dTruth, rcmp, rcmpD, cmpI, ridx_t0, ridx_t1, ridx_t2, ridx_t3, ridx_l0, ridx_l1, ridx_l2, ridx_l3, eqD_str, eqD_int, rbin, rblt, opt_some, opt_none, Res.bind_ok, Res.bind_stuck, Res.bind_exc, bindT, setAll, datas, asInt, itemsW, listD, rsl, List.map_cons, List.map_nil, List.length_cons, List.length_nil, List.cons_append, List.nil_append, List.replicate, List.getElem?_cons_zero, List.getElem?_cons_succ, List.headD_nil, List.headD_cons, List.tail_nil, List.tail_cons, Option.map_some, Option.map_none, List.set_cons_zero, List.set_cons_succ, ofS_beq, Bool.not_true, Bool.not_false, Bool.or_false, Bool.or_true, Bool.and_true, Bool.and_false, Bool.false_eq_true, if_true, if_false, opE, fo, ptE]
      refine ⟨fun k S hk => ?_, fun k S hk => h2 k S (by simp [Fm.h] at hk; omega)⟩
      simp [Fm.h] at hk
      obtain ⟨k, rfl⟩ : ∃ j, k = j + 2 := ⟨k - 2, by omega⟩
      obtain ⟨G, hG⟩ := h2 (k + 1) S (by omega)
      refine ⟨G ++ [.lst ((fo (.any false n f)).2.1.map ptE)], ?_⟩
      rw [u__law_flat u]
      have e := lf_end u (k := k) "some" false rfl (.d (Fm.any false n f).e) (S ++ G) [] (fo (.any false n f)).2.1 (fo (.any false n f)).2.2 none S.length
      have hp : opE (.any false n f) = (fo (.any false n f)).2.1.map ptE ++ [(fo (.any false n f)).2.2.e] := rfl
      rw [hp] at hG
      rw [← List.append_assoc]
      generalize hA : S ++ G = A at hG e ⊢
      simp only [Fm.e, anyS] at e hG ⊢
      simp [eB, locR_ok, ev_loc, ev_dat, optB_ok, kBin2_ap, kBin1_ap, ev_bin, kCmp2_ap, kCmp1_ap, ev_cmp, kChn3_t, kChn3_f, kChn2_ap, kChn1_ap, ev_chn, kIsN_ap, ev_isN, kAnd2_t, kAnd2_f, kAnd1_ap, ev_and, kOr2_t, kOr2_f, kOr1_ap, ev_or, kNot_ap, ev_not, kIte2_t, kIte2_f, kIte1_ap, ev_ite, optT_ok, optL_ok, kTup_ap, kLst_ap, ev_tup, ev_lst, kIdx2_ap, kIdx1_ap, ev_idx, kslF3_ap, kslF2_ap, kslF1_ap, ev_slF, kslT3_ap, kslT2_ap, kslT1_ap, ev_slT, kRev2_ap, kRev_ap, ev_rev, kCall_ap, ev_call, kIsi2_ap, kIsi_ap, ev_isi, kBlt_ap, ev_blt, kMut3_ap, kMut2_ap, kMut1_ap, ev_mut, kPrm_ap, ev_prm, kC3_t, kC3_f, kC2_ap, kN_ap, kComp_ap, kLs_ap, kLsc_ap, kK3_t, kK3_f, kK2_ap, ev_comp, ev_lsc, kCons_ap, kEvs2_ap, kEvs1_ap, ev_nil, ev_cons, kSq_ap, ev_sq, kRng_ap, ev_rng1, k_enm2_ap, k_enm_ap, ev_ienm, k_rev2_ap, k_rev_ap, ev_irev, kTest_ap, ev_t0, ev_t1, ev_T, kRet_ap, ev_ret, ev_retN, nextE_ok, kAsg_ap, ev_asg, kNew2_ap, kNew1_ap, ev_new, kExp_ap, ev_exp, kIf_t, kIf_f, ev_if, kTurn_ap, kFor_ap, ev_for, kSix4_ap, kSix3_ap, kSix2_ap, kSix1_ap, ev_six, ev_pass, kSeq_n, kSeq_r, ev_s0, ev_s1, kLeave_n, kLeave_d, kLeave_l, kLeave_k, kLeave_o, run_def, rpm, startE, give, truthW, viewD, viewL, fz, isTy, kb, ki, dTruth, rcmp, rcmpD, cmpI, ridx_t0, ridx_t1, ridx_t2, ridx_t3, ridx_l0, ridx_l1, ridx_l2, ridx_l3, eqD_str, eqD_int, rbin, rblt, opt_some, opt_none, Res.bind_ok, Res.bind_stuck, Res.bind_exc, bindT, setAll, datas, asInt, itemsW, listD, rsl, List.map_cons, List.map_nil, List.length_cons, List.length_nil, List.cons_append, List.nil_append, List.replicate, List.getElem?_cons_zero, List.getElem?_cons_succ, List.headD_nil, List.headD_cons, List.tail_nil, List.tail_cons, Option.map_some, Option.map_none, List.set_cons_zero, List.set_cons_succ, ofS_beq, Bool.not_true, Bool.not_false, Bool.or_false, Bool.or_true, Bool.and_true, Bool.and_false, Bool.false_eq_true, if_true, if_false, hG, at_mid]
      rw [rmut_pop]
      simp only [locR_ok, ev_loc, ev_dat, optB_ok, kBin2_ap, kBin1_ap, ev_bin, kCmp2_ap, kCmp1_ap, ev_cmp, kChn3_t, kChn3_f, kChn2_ap, kChn1_ap, ev_chn, kIsN_ap, ev_isN, kAnd2_t, kAnd2_f, kAnd1_ap, ev_and, kOr2_t, kOr2_f, kOr1_ap, ev_or, kNot_ap, ev_not, kIte2_t, kIte2_f, kIte1_ap, ev_ite, optT_ok, optL_ok, kTup_ap, kLst_ap, ev_tup, ev_lst, kIdx2_ap, kIdx1_ap, ev_idx, kslF3_ap, kslF2_ap, kslF1_ap, ev_slF, kslT3_ap, kslT2_ap, kslT1_ap, ev_slT, kRev2_ap, kRev_ap, ev_rev, kCall_ap, ev_call, kIsi2_ap, kIsi_ap, ev_isi, kBlt_ap, ev_blt, kMut3_ap, kMut2_ap, kMut1_ap, ev_mut, kPrm_ap, ev_prm, kC3_t, kC3_f, kC2_ap, kN_ap, kComp_ap, kLs_ap, kLsc_ap, kK3_t, kK3_f, kK2_ap, ev_comp, ev_lsc, kCons_ap, kEvs2_ap, kEvs1_ap, ev_nil, ev_cons, kSq_ap, ev_sq, kRng_ap, ev_rng1, k_enm2_ap, k_enm_ap, ev_ienm, k_rev2_ap, k_rev_ap, ev_irev, kTest_ap, ev_t0, ev_t1, ev_T, kRet_ap, ev_ret, ev_retN, nextE_ok, kAsg_ap, ev_asg, kNew2_ap, kNew1_ap, ev_new, kExp_ap, ev_exp, kIf_t, kIf_f, ev_if, kTurn_ap, kFor_ap, ev_for, kSix4_ap, kSix3_ap, kSix2_ap, kSix1_ap, ev_six, ev_pass, kSeq_n, kSeq_r, ev_s0, ev_s1, kLeave_n, kLeave_d, kLeave_l, kLeave_k, kLeave_o, run_def, rpm, startE, give, truthW, viewD, viewL, fz, isTy, kb, ki, dTruth, rcmp, rcmpD, cmpI, ridx_t0, ridx_t1, ridx_t2, ridx_t3, ridx_l0, ridx_l1, ridx_l2, ridx_l3, eqD_str, eqD_int, rbin, rblt, opt_some, opt_none, Res.bind_ok, Res.bind_stuck, Res.bind_exc, bindT, setAll, datas, asInt, itemsW, listD, rsl, List.map_cons, List.map_nil, List.length_cons, List.length_nil, List.cons_append, List.nil_append, List.replicate, List.getElem?_cons_zero, List.getElem?_cons_succ, List.headD_nil, List.headD_cons, List.tail_nil, List.tail_cons, Option.map_some, Option.map_none, List.set_cons_zero, List.set_cons_succ, ofS_beq, Bool.not_true, Bool.not_false, Bool.or_false, Bool.or_true, Bool.and_true, Bool.and_false, Bool.false_eq_true, if_true, if_false]
      rw [e]
      rfl
  | two o f g ihf ihg =>
    intro hz
    have hz' : f.size + g.size + 1 ≤ 10000 := hz
    have ihf := ihf (by omega)
    have ihg := ihg (by omega)
    cases o with
    | or =>
      have h1 : ∀ (k : Nat) (S : Sto), 3 * (Fm.two .or f g).h ≤ k → ∃ G, Cn tab k "_law_flat" [.d (Fm.two .or f g).e] S = .ok (.w (.d (fo (Fm.two .or f g)).1.e)) (S ++ G) := fun k S hk => by
        simp [Fm.h] at hk
        obtain ⟨k, rfl⟩ : ∃ j, k = j + 1 := ⟨k - 1, by omega⟩
        obtain ⟨G, hG⟩ := ihf.1 k S (by omega)
        obtain ⟨G2, hG2⟩ := ihg.1 k (S ++ G) (by omega)
        refine ⟨G ++ G2, ?_⟩
        rw [u__law_flat u]
        simp only [b__law_flat, Fm.e, O2.s, locR_ok, ev_loc, ev_dat, optB_ok, kBin2_ap, kBin1_ap, ev_bin, kCmp2_ap, kCmp1_ap, ev_cmp, kChn3_t, kChn3_f, kChn2_ap, kChn1_ap, ev_chn, kIsN_ap, ev_isN, kAnd2_t, kAnd2_f, kAnd1_ap, ev_and, kOr2_t, kOr2_f, kOr1_ap, ev_or, kNot_ap, ev_not, kIte2_t, kIte2_f, kIte1_ap, ev_ite, optT_ok, optL_ok, kTup_ap, kLst_ap, ev_tup, ev_lst, kIdx2_ap, kIdx1_ap, ev_idx, kslF3_ap, kslF2_ap, kslF1_ap, ev_slF, kslT3_ap, kslT2_ap, kslT1_ap, ev_slT, kRev2_ap, kRev_ap, ev_rev, kCall_ap, ev_call, kIsi2_ap, kIsi_ap, ev_isi, kBlt_ap, ev_blt, kMut3_ap, kMut2_ap, kMut1_ap, ev_mut, kPrm_ap, ev_prm, kC3_t, kC3_f, kC2_ap, kN_ap, kComp_ap, kLs_ap, kLsc_ap, kK3_t, kK3_f, kK2_ap, ev_comp, ev_lsc, kCons_ap, kEvs2_ap, kEvs1_ap, ev_nil, ev_cons, kSq_ap, ev_sq, kRng_ap, ev_rng1, k_enm2_ap, k_enm_ap, ev_ienm, k_rev2_ap, k_rev_ap, ev_irev, kTest_ap, ev_t0, ev_t1, ev_T, kRet_ap, ev_ret, ev_retN, nextE_ok, kAsg_ap, ev_asg, kNew2_ap, kNew1_ap, ev_new, kExp_ap, ev_exp, kIf_t, kIf_f, ev_if, kTurn_ap, kFor_ap, ev_for, kSix4_ap, kSix3_ap, kSix2_ap, kSix1_ap, ev_six, ev_pass, kSeq_n, kSeq_r, ev_s0, ev_s1, kLeave_n, kLeave_d, kLeave_l, kLeave_k, kLeave_o, run_def, rpm, startE, give, truthW, viewD, viewL, fz, isTy, kb, ki, dTruth, rcmp, rcmpD, cmpI, ridx_t0, ridx_t1, ridx_t2, ridx_t3, ridx_l0, ridx_l1, ridx_l2, ridx_l3, eqD_str, eqD_int, rbin, rblt, opt_some, opt_none, Res.bind_ok, Res.bind_stuck, Res.bind_exc, bindT, setAll, datas, asInt, itemsW, listD, rsl, List.map_cons, List.map_nil, List.length_cons, List.length_nil, List.cons_append, List.nil_append, List.replicate, List.getElem?_cons_zero, List.getElem?_cons_succ, List.headD_nil, List.headD_cons, List.tail_nil, List.tail_cons, Option.map_some, Option.map_none, List.set_cons_zero, List.set_cons_succ, ofS_beq, Bool.not_true, Bool.not_false, Bool.or_false, Bool.or_true, Bool.and_true, Bool.and_false, Bool.false_eq_true, if_true, if_false, fo, hG]
        simp [locR_ok, ev_loc, ev_dat, optB_ok, kBin2_ap, kBin1_ap, ev_bin, kCmp2_ap, kCmp1_ap, ev_cmp, kChn3_t, kChn3_f, kChn2_ap, kChn1_ap, ev_chn, kIsN_ap, ev_isN, kAnd2_t, kAnd2_f, kAnd1_ap, ev_and, kOr2_t, kOr2_f, kOr1_ap, ev_or, kNot_ap, ev_not, kIte2_t, kIte2_f, kIte1_ap, ev_ite, optT_ok, optL_ok, kTup_ap, kLst_ap, ev_tup, ev_lst, kIdx2_ap, kIdx1_ap, ev_idx, kslF3_ap, kslF2_ap, kslF1_ap, ev_slF, kslT3_ap, kslT2_ap, kslT1_ap, ev_slT, kRev2_ap, kRev_ap, ev_rev, kCall_ap, ev_call, kIsi2_ap, kIsi_ap, ev_isi, kBlt_ap, ev_blt, kMut3_ap, kMut2_ap, kMut1_ap, ev_mut, kPrm_ap, ev_prm, kC3_t, kC3_f, kC2_ap, kN_ap, kComp_ap, kLs_ap, kLsc_ap, kK3_t, kK3_f, kK2_ap, ev_comp, ev_lsc, kCons_ap, kEvs2_ap, kEvs1_ap, ev_nil, ev_cons, kSq_ap, ev_sq, kRng_ap, ev_rng1, k_enm2_ap, k_enm_ap, ev_ienm, k_rev2_ap, k_rev_ap, ev_irev, kTest_ap, ev_t0, ev_t1, ev_T, kRet_ap, ev_ret, ev_retN, nextE_ok, kAsg_ap, ev_asg, kNew2_ap, kNew1_ap, ev_new, kExp_ap, ev_exp, kIf_t, kIf_f, ev_if, kTurn_ap, kFor_ap, ev_for, kSix4_ap, kSix3_ap, kSix2_ap, kSix1_ap, ev_six, ev_pass, kSeq_n, kSeq_r, ev_s0, ev_s1, kLeave_n, kLeave_d, kLeave_l, kLeave_k, kLeave_o, run_def, rpm, startE, give, truthW, viewD, viewL, fz, isTy, kb, ki, dTruth, rcmp, rcmpD, cmpI, ridx_t0, ridx_t1, ridx_t2, ridx_t3, ridx_l0, ridx_l1, ridx_l2, ridx_l3, eqD_str, eqD_int, rbin, rblt, opt_some, opt_none, Res.bind_ok, Res.bind_stuck, Res.bind_exc, bindT, setAll, datas, asInt, itemsW, listD, rsl, List.map_cons, List.map_nil, List.length_cons, List.length_nil, List.cons_append, List.nil_append, List.replicate, List.getElem?_cons_zero, List.getElem?_cons_succ, List.headD_nil, List.headD_cons, List.tail_nil, List.tail_cons, Option.map_some, Option.map_none, List.set_cons_zero, List.set_cons_succ, ofS_beq, Bool.not_true, Bool.not_false, Bool.or_false, Bool.or_true, Bool.and_true, Bool.and_false, Bool.false_eq_true, if_true, if_false, hG, hG2, Fm.e, O2.s]
      exact ⟨h1, other _ "or" _ rfl rfl rfl rfl rfl h1⟩
    | if_ =>
      have h1 : ∀ (k : Nat) (S : Sto), 3 * (Fm.two .if_ f g).h ≤ k → ∃ G, Cn tab k "_law_flat" [.d (Fm.two .if_ f g).e] S = .ok (.w (.d (fo (Fm.two .if_ f g)).1.e)) (S ++ G) := fun k S hk => by
        simp [Fm.h] at hk
        obtain ⟨k, rfl⟩ : ∃ j, k = j + 2 := ⟨k - 2, by omega⟩
        obtain ⟨G, hG⟩ := ihf.2 (k + 1) S (by omega)
        obtain ⟨G2, hG2⟩ := ihg.1 (k + 1) (S ++ G ++ [.lst (opE f)]) (by omega)
        rw [List.append_assoc (S ++ G)] at hG2
        have e3 : opE f = ((fo f).2.1 ++ [Sum.inr (fo f).2.2]).map ptE := by simp [opE, ptE]
        refine ⟨G ++ .lst (opE f) :: G2, ?_⟩
        rw [u__law_flat u]
        have e := lf_end u (k := k) "if" true rfl (.d (Fm.two .if_ f g).e) (S ++ G) G2 ((fo f).2.1 ++ [Sum.inr (fo f).2.2]) (fo g).1 none S.length
        rw [← e3] at e
        simp only [List.singleton_append] at hG2
        rw [← List.append_assoc]
        generalize hA : S ++ G = A at hG hG2 e ⊢
        simp only [Fm.e, O2.s] at e hG hG2 ⊢
        simp [eB, locR_ok, ev_loc, ev_dat, optB_ok, kBin2_ap, kBin1_ap, ev_bin, kCmp2_ap, kCmp1_ap, ev_cmp, kChn3_t, kChn3_f, kChn2_ap, kChn1_ap, ev_chn, kIsN_ap, ev_isN, kAnd2_t, kAnd2_f, kAnd1_ap, ev_and, kOr2_t, kOr2_f, kOr1_ap, ev_or, kNot_ap, ev_not, kIte2_t, kIte2_f, kIte1_ap, ev_ite, optT_ok, optL_ok, kTup_ap, kLst_ap, ev_tup, ev_lst, kIdx2_ap, kIdx1_ap, ev_idx, kslF3_ap, kslF2_ap, kslF1_ap, ev_slF, kslT3_ap, kslT2_ap, kslT1_ap, ev_slT, kRev2_ap, kRev_ap, ev_rev, kCall_ap, ev_call, kIsi2_ap, kIsi_ap, ev_isi, kBlt_ap, ev_blt, kMut3_ap, kMut2_ap, kMut1_ap, ev_mut, kPrm_ap, ev_prm, kC3_t, kC3_f, kC2_ap, kN_ap, kComp_ap, kLs_ap, kLsc_ap, kK3_t, kK3_f, kK2_ap, ev_comp, ev_lsc, kCons_ap, kEvs2_ap, kEvs1_ap, ev_nil, ev_cons, kSq_ap, ev_sq, kRng_ap, ev_rng1, k_enm2_ap, k_enm_ap, ev_ienm, k_rev2_ap, k_rev_ap, ev_irev, kTest_ap, ev_t0, ev_t1, ev_T, kRet_ap, ev_ret, ev_retN, nextE_ok, kAsg_ap, ev_asg, kNew2_ap, kNew1_ap, ev_new, kExp_ap, ev_exp, kIf_t, kIf_f, ev_if, kTurn_ap, kFor_ap, ev_for, kSix4_ap, kSix3_ap, kSix2_ap, kSix1_ap, ev_six, ev_pass, kSeq_n, kSeq_r, ev_s0, ev_s1, kLeave_n, kLeave_d, kLeave_l, kLeave_k, kLeave_o, run_def, rpm, startE, give, truthW, viewD, viewL, fz, isTy, kb, ki, dTruth, rcmp, rcmpD, cmpI, ridx_t0, ridx_t1, ridx_t2, ridx_t3, ridx_l0, ridx_l1, ridx_l2, ridx_l3, eqD_str, eqD_int, rbin, rblt, opt_some, opt_none, Res.bind_ok, Res.bind_stuck, Res.bind_exc, bindT, setAll, datas, asInt, itemsW, listD, rsl, List.map_cons, List.map_nil, List.length_cons, List.length_nil, List.cons_append, List.nil_append, List.replicate, List.getElem?_cons_zero, List.getElem?_cons_succ, List.headD_nil, List.headD_cons, List.tail_nil, List.tail_cons, Option.map_some, Option.map_none, List.set_cons_zero, List.set_cons_succ, ofS_beq, Bool.not_true, Bool.not_false, Bool.or_false, Bool.or_true, Bool.and_true, Bool.and_false, Bool.false_eq_true, if_true, if_false, hG, hG2]
        rw [e]
        simp [fo, stB]
      exact ⟨h1, other _ "if" _ rfl rfl rfl rfl rfl h1⟩
    | and =>
      have h2 : ∀ (k : Nat) (S : Sto), 3 * max f.h g.h + 2 ≤ k → ∃ G, Cn tab k "_law_opened" [.d (Fm.two .and f g).e] S = .ok (.n (opE (.two .and f g))) (S ++ G) := fun k S hk => by
        obtain ⟨k, rfl⟩ : ∃ j, k = j + 1 := ⟨k - 1, by omega⟩
        obtain ⟨G, hG⟩ := ihf.2 k S (by omega)
        obtain ⟨G2, hG2⟩ := ihg.2 k (S ++ G) (by omega)
        refine ⟨G ++ G2, ?_⟩
        rw [u__law_opened u]
        have l1 : (opE f).length + (opE g).length ≤ sizeLine := size_line (by
          have := fo_size f; have := fo_size g
          simp [opE]
          omega)
        simp [b__law_opened, Fm.e, O2.s, locR_ok, ev_loc, ev_dat, optB_ok, kBin2_ap, kBin1_ap, ev_bin, kCmp2_ap, kCmp1_ap, ev_cmp, kChn3_t, kChn3_f, kChn2_ap, kChn1_ap, ev_chn, kIsN_ap, ev_isN, kAnd2_t, kAnd2_f, kAnd1_ap, ev_and, kOr2_t, kOr2_f, kOr1_ap, ev_or, kNot_ap, ev_not, kIte2_t, kIte2_f, kIte1_ap, ev_ite, optT_ok, optL_ok, kTup_ap, kLst_ap, ev_tup, ev_lst, kIdx2_ap, kIdx1_ap, ev_idx, kslF3_ap, kslF2_ap, kslF1_ap, ev_slF, kslT3_ap, kslT2_ap, kslT1_ap, ev_slT, kRev2_ap, kRev_ap, ev_rev, kCall_ap, ev_call, kIsi2_ap, kIsi_ap, ev_isi, kBlt_ap, ev_blt, kMut3_ap, kMut2_ap, kMut1_ap, ev_mut, kPrm_ap, ev_prm, kC3_t, kC3_f, kC2_ap, kN_ap, kComp_ap, kLs_ap, kLsc_ap, kK3_t, kK3_f, kK2_ap, ev_comp, ev_lsc, kCons_ap, kEvs2_ap, kEvs1_ap, ev_nil, ev_cons, kSq_ap, ev_sq, kRng_ap, ev_rng1, k_enm2_ap, k_enm_ap, ev_ienm, k_rev2_ap, k_rev_ap, ev_irev, kTest_ap, ev_t0, ev_t1, ev_T, kRet_ap, ev_ret, ev_retN, nextE_ok, kAsg_ap, ev_asg, kNew2_ap, kNew1_ap, ev_new, kExp_ap, ev_exp, kIf_t, kIf_f, ev_if, kTurn_ap, kFor_ap, ev_for, kSix4_ap, kSix3_ap, kSix2_ap, kSix1_ap, ev_six, ev_pass, kSeq_n, kSeq_r, ev_s0, ev_s1, kLeave_n, kLeave_d, kLeave_l, kLeave_k, kLeave_o, run_def, rpm, startE, give, truthW, viewD, viewL, fz, isTy, kb, ki, dTruth, rcmp, rcmpD, cmpI, ridx_t0, ridx_t1, ridx_t2, ridx_t3, ridx_l0, ridx_l1, ridx_l2, ridx_l3, eqD_str, eqD_int, rbin, rblt, opt_some, opt_none, Res.bind_ok, Res.bind_stuck, Res.bind_exc, bindT, setAll, datas, asInt, itemsW, listD, rsl, List.map_cons, List.map_nil, List.length_cons, List.length_nil, List.cons_append, List.nil_append, List.replicate, List.getElem?_cons_zero, List.getElem?_cons_succ, List.headD_nil, List.headD_cons, List.tail_nil, List.tail_cons, Option.map_some, Option.map_none, List.set_cons_zero, List.set_cons_succ, ofS_beq, Bool.not_true, Bool.not_false, Bool.or_false, Bool.or_true, Bool.and_true, Bool.and_false, Bool.false_eq_true, if_true, if_false, hG, hG2, l1]
        simp [opE, fo, ptE]
      refine ⟨fun k S hk => ?_, fun k S hk => h2 k S (by simp [Fm.h] at hk; omega)⟩
      simp [Fm.h] at hk
      obtain ⟨k, rfl⟩ : ∃ j, k = j + 2 := ⟨k - 2, by omega⟩
      obtain ⟨G, hG⟩ := h2 (k + 1) S (by omega)
      refine ⟨G ++ [.lst ((fo (.two .and f g)).2.1.map ptE)], ?_⟩
      rw [u__law_flat u]
      have e := lf_end u (k := k) "and" false rfl (.d (Fm.two .and f g).e) (S ++ G) [] (fo (.two .and f g)).2.1 (fo (.two .and f g)).2.2 none S.length
      have hp : opE (.two .and f g) = (fo (.two .and f g)).2.1.map ptE ++ [(fo (.two .and f g)).2.2.e] := rfl
      rw [hp] at hG
      rw [← List.append_assoc]
      generalize hA : S ++ G = A at hG e ⊢
      simp only [Fm.e, O2.s] at e hG ⊢
      simp [eB, locR_ok, ev_loc, ev_dat, optB_ok, kBin2_ap, kBin1_ap, ev_bin, kCmp2_ap, kCmp1_ap, ev_cmp, kChn3_t, kChn3_f, kChn2_ap, kChn1_ap, ev_chn, kIsN_ap, ev_isN, kAnd2_t, kAnd2_f, kAnd1_ap, ev_and, kOr2_t, kOr2_f, kOr1_ap, ev_or, kNot_ap, ev_not, kIte2_t, kIte2_f, kIte1_ap, ev_ite, optT_ok, optL_ok, kTup_ap, kLst_ap, ev_tup, ev_lst, kIdx2_ap, kIdx1_ap, ev_idx, kslF3_ap, kslF2_ap, kslF1_ap, ev_slF, kslT3_ap, kslT2_ap, kslT1_ap, ev_slT, kRev2_ap, kRev_ap, ev_rev, kCall_ap, ev_call, kIsi2_ap, kIsi_ap, ev_isi, kBlt_ap, ev_blt, kMut3_ap, kMut2_ap, kMut1_ap, ev_mut, kPrm_ap, ev_prm, kC3_t, kC3_f, kC2_ap, kN_ap, kComp_ap, kLs_ap, kLsc_ap, kK3_t, kK3_f, kK2_ap, ev_comp, ev_lsc, kCons_ap, kEvs2_ap, kEvs1_ap, ev_nil, ev_cons, kSq_ap, ev_sq, kRng_ap, ev_rng1, k_enm2_ap, k_enm_ap, ev_ienm, k_rev2_ap, k_rev_ap, ev_irev, kTest_ap, ev_t0, ev_t1, ev_T, kRet_ap, ev_ret, ev_retN, nextE_ok, kAsg_ap, ev_asg, kNew2_ap, kNew1_ap, ev_new, kExp_ap, ev_exp, kIf_t, kIf_f, ev_if, kTurn_ap, kFor_ap, ev_for, kSix4_ap, kSix3_ap, kSix2_ap, kSix1_ap, ev_six, ev_pass, kSeq_n, kSeq_r, ev_s0, ev_s1, kLeave_n, kLeave_d, kLeave_l, kLeave_k, kLeave_o, run_def, rpm, startE, give, truthW, viewD, viewL, fz, isTy, kb, ki, dTruth, rcmp, rcmpD, cmpI, ridx_t0, ridx_t1, ridx_t2, ridx_t3, ridx_l0, ridx_l1, ridx_l2, ridx_l3, eqD_str, eqD_int, rbin, rblt, opt_some, opt_none, Res.bind_ok, Res.bind_stuck, Res.bind_exc, bindT, setAll, datas, asInt, itemsW, listD, rsl, List.map_cons, List.map_nil, List.length_cons, List.length_nil, List.cons_append, List.nil_append, List.replicate, List.getElem?_cons_zero, List.getElem?_cons_succ, List.headD_nil, List.headD_cons, List.tail_nil, List.tail_cons, Option.map_some, Option.map_none, List.set_cons_zero, List.set_cons_succ, ofS_beq, Bool.not_true, Bool.not_false, Bool.or_false, Bool.or_true, Bool.and_true, Bool.and_false, Bool.false_eq_true, if_true, if_false, hG, at_mid]
      rw [rmut_pop]
      simp only [locR_ok, ev_loc, ev_dat, optB_ok, kBin2_ap, kBin1_ap, ev_bin, kCmp2_ap, kCmp1_ap, ev_cmp, kChn3_t, kChn3_f, kChn2_ap, kChn1_ap, ev_chn, kIsN_ap, ev_isN, kAnd2_t, kAnd2_f, kAnd1_ap, ev_and, kOr2_t, kOr2_f, kOr1_ap, ev_or, kNot_ap, ev_not, kIte2_t, kIte2_f, kIte1_ap, ev_ite, optT_ok, optL_ok, kTup_ap, kLst_ap, ev_tup, ev_lst, kIdx2_ap, kIdx1_ap, ev_idx, kslF3_ap, kslF2_ap, kslF1_ap, ev_slF, kslT3_ap, kslT2_ap, kslT1_ap, ev_slT, kRev2_ap, kRev_ap, ev_rev, kCall_ap, ev_call, kIsi2_ap, kIsi_ap, ev_isi, kBlt_ap, ev_blt, kMut3_ap, kMut2_ap, kMut1_ap, ev_mut, kPrm_ap, ev_prm, kC3_t, kC3_f, kC2_ap, kN_ap, kComp_ap, kLs_ap, kLsc_ap, kK3_t, kK3_f, kK2_ap, ev_comp, ev_lsc, kCons_ap, kEvs2_ap, kEvs1_ap, ev_nil, ev_cons, kSq_ap, ev_sq, kRng_ap, ev_rng1, k_enm2_ap, k_enm_ap, ev_ienm, k_rev2_ap, k_rev_ap, ev_irev, kTest_ap, ev_t0, ev_t1, ev_T, kRet_ap, ev_ret, ev_retN, nextE_ok, kAsg_ap, ev_asg, kNew2_ap, kNew1_ap, ev_new, kExp_ap, ev_exp, kIf_t, kIf_f, ev_if, kTurn_ap, kFor_ap, ev_for, kSix4_ap, kSix3_ap, kSix2_ap, kSix1_ap, ev_six, ev_pass, kSeq_n, kSeq_r, ev_s0, ev_s1, kLeave_n, kLeave_d, kLeave_l, kLeave_k, kLeave_o, run_def, rpm, startE, give, truthW, viewD, viewL, fz, isTy, kb, ki, dTruth, rcmp, rcmpD, cmpI, ridx_t0, ridx_t1, ridx_t2, ridx_t3, ridx_l0, ridx_l1, ridx_l2, ridx_l3, eqD_str, eqD_int, rbin, rblt, opt_some, opt_none, Res.bind_ok, Res.bind_stuck, Res.bind_exc, bindT, setAll, datas, asInt, itemsW, listD, rsl, List.map_cons, List.map_nil, List.length_cons, List.length_nil, List.cons_append, List.nil_append, List.replicate, List.getElem?_cons_zero, List.getElem?_cons_succ, List.headD_nil, List.headD_cons, List.tail_nil, List.tail_cons, Option.map_some, Option.map_none, List.set_cons_zero, List.set_cons_succ, ofS_beq, Bool.not_true, Bool.not_false, Bool.or_false, Bool.or_true, Bool.and_true, Bool.and_false, Bool.false_eq_true, if_true, if_false]
      rw [e]
      rfl
end
end Sc
namespace Sc
open PySem PySem.Spec PyProof.Rows L2
section
variable {tab : Tab} {S : Sto}
/-! ### loops in general -/
theorem loopC_pure {f : W → Sto → Res (Option D)} {g : W → Option D} : ∀ {ws : List W}, (∀ w ∈ ws, f w S = .ok (g w) S) → loopC f ws S = .ok (ws.filterMap g) S
  | [], _ => rfl
  | w :: ws, h => by
    have ih := loopC_pure (ws := ws) fun x hx => h x (List.mem_cons_of_mem _ hx)
    simp only [loopC, h w List.mem_cons_self, Res.bind_ok, ih]
    cases hg : g w <;> simp [List.filterMap_cons, hg]
theorem few_small {n : Nat} {α : Type} {r : Res α} (h : n ≤ 10000) : few n r = r := by
  unfold few
  rw [if_pos (size_line h)]
theorem noX_ok {α : Type} {a : α} {S : Sto} : noX (.ok a S) = .ok a S := rfl
theorem inD_tup {x : D} {ys : List D} (h : x.depth ≤ 100) : inD x (.tuple ys) = some (ys.any fun y => PyData.eqv y x) := by
  simp only [inD]
  rw [if_pos (Nat.le_trans (Nat.min_le_right _ _) h)]
theorem inD_strs {w : Str} {ws : List Str} : inD (.str w) (.tuple (ws.map .str)) = some (ws.any fun y => y == w) := by
  rw [inD_tup (by simp [PyData.depth]), List.any_map]
  rfl
/-! ### numbers -/
def withinD (lo hi : Int) : D → Bool
  | .int i => decide (lo ≤ i) && decide (i ≤ hi)
  | _ => false
theorem is_within_ok (u : Ups tab) {k : Nat} {x : D} {a b : Int} : Cn tab (k + 1) "is_within" [.d x, .d (.int a), .d (.int b)] S = .ok (kb (withinD a b x)) S := by
  rw [u_is_within u]
  cases x with
  | int i =>
    by_cases h1 : a ≤ i
    · by_cases h2 : i ≤ b <;> simp [b_is_within, withinD, h1, h2, locR_ok, ev_loc, ev_dat, optB_ok, kBin2_ap, kBin1_ap, ev_bin, kCmp2_ap, kCmp1_ap, ev_cmp, kChn3_t, kChn3_f, kChn2_ap, kChn1_ap, ev_chn, kIsN_ap, ev_isN, kAnd2_t, kAnd2_f, kAnd1_ap, ev_and, kOr2_t, kOr2_f, kOr1_ap, ev_or, kNot_ap, ev_not, kIte2_t, kIte2_f, kIte1_ap, ev_ite, optT_ok, optL_ok, kTup_ap, kLst_ap, ev_tup, ev_lst, kIdx2_ap, kIdx1_ap, ev_idx, kslF3_ap, kslF2_ap, kslF1_ap, ev_slF, kslT3_ap, kslT2_ap, kslT1_ap, ev_slT, kRev2_ap, kRev_ap, ev_rev, kCall_ap, ev_call, kIsi2_ap, kIsi_ap, ev_isi, kBlt_ap, ev_blt, kMut3_ap, kMut2_ap, kMut1_ap, ev_mut, kPrm_ap, ev_prm, kC3_t, kC3_f, kC2_ap, kN_ap, kComp_ap, kLs_ap, kLsc_ap, kK3_t, kK3_f, kK2_ap, ev_comp, ev_lsc, kCons_ap, kEvs2_ap, kEvs1_ap, ev_nil, ev_cons, kSq_ap, ev_sq, kRng_ap, ev_rng1, k_enm2_ap, k_enm_ap, ev_ienm, k_rev2_ap, k_rev_ap, ev_irev, kTest_ap, ev_t0, ev_t1, ev_T, kRet_ap, ev_ret, ev_retN, nextE_ok, kAsg_ap, ev_asg, kNew2_ap, kNew1_ap, ev_new, kExp_ap, ev_exp, kIf_t, kIf_f, ev_if, kTurn_ap, kFor_ap, ev_for, kSix4_ap, kSix3_ap, kSix2_ap, kSix1_ap, ev_six, ev_pass, kSeq_n, kSeq_r, ev_s0, ev_s1, kLeave_n, kLeave_d, kLeave_l, kLeave_k, kLeave_o, run_def, rpm, startE, give, truthW, viewD, viewL, fz, isTy, kb, ki, dTruth, rcmp, rcmpD, cmpI, ridx_t0, ridx_t1, ridx_t2, ridx_t3, ridx_l0, ridx_l1, ridx_l2, ridx_l3, eqD_str, eqD_int, rbin, rblt, opt_some, opt_none, Res.bind_ok, Res.bind_stuck, Res.bind_exc, bindT, setAll, datas, asInt, itemsW, listD, rsl, List.map_cons, List.map_nil, List.length_cons, List.length_nil, List.cons_append, List.nil_append, List.replicate, List.getElem?_cons_zero, List.getElem?_cons_succ, List.headD_nil, List.headD_cons, List.tail_nil, List.tail_cons, Option.map_some, Option.map_none, List.set_cons_zero, List.set_cons_succ, ofS_beq, Bool.not_true, Bool.not_false, Bool.or_false, Bool.or_true, Bool.and_true, Bool.and_false, Bool.false_eq_true, if_true, if_false]
    · simp [b_is_within, withinD, h1, locR_ok, ev_loc, ev_dat, optB_ok, kBin2_ap, kBin1_ap, ev_bin, kCmp2_ap, kCmp1_ap, ev_cmp, kChn3_t, kChn3_f, kChn2_ap, kChn1_ap, ev_chn, kIsN_ap, ev_isN, kAnd2_t, kAnd2_f, kAnd1_ap, ev_and, kOr2_t, kOr2_f, kOr1_ap, ev_or, kNot_ap, ev_not, kIte2_t, kIte2_f, kIte1_ap, ev_ite, optT_ok, optL_ok, kTup_ap, kLst_ap, ev_tup, ev_lst, kIdx2_ap, kIdx1_ap, ev_idx, kslF3_ap, kslF2_ap, kslF1_ap, ev_slF, kslT3_ap, kslT2_ap, kslT1_ap, ev_slT, kRev2_ap, kRev_ap, ev_rev, kCall_ap, ev_call, kIsi2_ap, kIsi_ap, ev_isi, kBlt_ap, ev_blt, kMut3_ap, kMut2_ap, kMut1_ap, ev_mut, kPrm_ap, ev_prm, kC3_t, kC3_f, kC2_ap, kN_ap, kComp_ap, kLs_ap, kLsc_ap, kK3_t, kK3_f, kK2_ap, ev_comp, ev_lsc, kCons_ap, kEvs2_ap, kEvs1_ap, ev_nil, ev_cons, kSq_ap, ev_sq, kRng_ap, ev_rng1, k_enm2_ap, k_enm_ap, ev_ienm, k_rev2_ap, k_rev_ap, ev_irev, kTest_ap, ev_t0, ev_t1, ev_T, kRet_ap, ev_ret, ev_retN, nextE_ok, kAsg_ap, ev_asg, kNew2_ap, kNew1_ap, ev_new, kExp_ap, ev_exp, kIf_t, kIf_f, ev_if, kTurn_ap, kFor_ap, ev_for, kSix4_ap, kSix3_ap, kSix2_ap, kSix1_ap, ev_six, ev_pass, kSeq_n, kSeq_r, ev_s0, ev_s1, kLeave_n, kLeave_d, kLeave_l, kLeave_k, kLeave_o, run_def, rpm, startE, give, truthW, viewD, viewL, fz, isTy, kb, ki, dTruth, rcmp, rcmpD, cmpI, ridx_t0, ridx_t1, ridx_t2, ridx_t3, ridx_l0, ridx_l1, ridx_l2, ridx_l3, eqD_str, eqD_int, rbin, rblt, opt_some, opt_none, Res.bind_ok, Res.bind_stuck, Res.bind_exc, bindT, setAll, datas, asInt, itemsW, listD, rsl, List.map_cons, List.map_nil, List.length_cons, List.length_nil, List.cons_append, List.nil_append, List.replicate, List.getElem?_cons_zero, List.getElem?_cons_succ, List.headD_nil, List.headD_cons, List.tail_nil, List.tail_cons, Option.map_some, Option.map_none, List.set_cons_zero, List.set_cons_succ, ofS_beq, Bool.not_true, Bool.not_false, Bool.or_false, Bool.or_true, Bool.and_true, Bool.and_false, Bool.false_eq_true, if_true, if_false]
  | _ => simp [b_is_within, withinD, locR_ok, ev_loc, ev_dat, optB_ok, kBin2_ap, kBin1_ap, ev_bin, kCmp2_ap, kCmp1_ap, ev_cmp, kChn3_t, kChn3_f, kChn2_ap, kChn1_ap, ev_chn, kIsN_ap, ev_isN, kAnd2_t, kAnd2_f, kAnd1_ap, ev_and, kOr2_t, kOr2_f, kOr1_ap, ev_or, kNot_ap, ev_not, kIte2_t, kIte2_f, kIte1_ap, ev_ite, optT_ok, optL_ok, kTup_ap, kLst_ap, ev_tup, ev_lst, kIdx2_ap, kIdx1_ap, ev_idx, kslF3_ap, kslF2_ap, kslF1_ap, ev_slF, kslT3_ap, kslT2_ap, kslT1_ap, ev_slT, kRev2_ap, kRev_ap, ev_rev, kCall_ap, ev_call, kIsi2_ap, kIsi_ap, ev_isi, kBlt_ap, ev_blt, kMut3_ap, kMut2_ap, kMut1_ap, ev_mut, kPrm_ap, ev_prm, kC3_t, kC3_f, kC2_ap, kN_ap, kComp_ap, kLs_ap, kLsc_ap, kK3_t, kK3_f, kK2_ap, ev_comp, ev_lsc, kCons_ap, kEvs2_ap, kEvs1_ap, ev_nil, ev_cons, kSq_ap, ev_sq, kRng_ap, ev_rng1, k_enm2_ap, k_enm_ap, ev_ienm, k_rev2_ap, k_rev_ap, ev_irev, kTest_ap, ev_t0, ev_t1, ev_T, kRet_ap, ev_ret, ev_retN, nextE_ok, kAsg_ap, ev_asg, kNew2_ap, kNew1_ap, ev_new, kExp_ap, ev_exp, kIf_t, kIf_f, ev_if, kTurn_ap, kFor_ap, ev_for, kSix4_ap, kSix3_ap, kSix2_ap, kSix1_ap, ev_six, ev_pass, kSeq_n, kSeq_r, ev_s0, ev_s1, kLeave_n, kLeave_d, kLeave_l, kLeave_k, kLeave_o, run_def, rpm, startE, give, truthW, viewD, viewL, fz, isTy, kb, ki, dTruth, rcmp, rcmpD, cmpI, ridx_t0, ridx_t1, ridx_t2, ridx_t3, ridx_l0, ridx_l1, ridx_l2, ridx_l3, eqD_str, eqD_int, rbin, rblt, opt_some, opt_none, Res.bind_ok, Res.bind_stuck, Res.bind_exc, bindT, setAll, datas, asInt, itemsW, listD, rsl, List.map_cons, List.map_nil, List.length_cons, List.length_nil, List.cons_append, List.nil_append, List.replicate, List.getElem?_cons_zero, List.getElem?_cons_succ, List.headD_nil, List.headD_cons, List.tail_nil, List.tail_cons, Option.map_some, Option.map_none, List.set_cons_zero, List.set_cons_succ, ofS_beq, Bool.not_true, Bool.not_false, Bool.or_false, Bool.or_true, Bool.and_true, Bool.and_false, Bool.false_eq_true, if_true, if_false]
/-! ### words, books -/
def ownL : List Str := ["every", "some", "no", "that", "of", "not", "and", "or", "if", "then", "it", "is"]
def kindL : List Str := ["name", "noun", "of", "does", "to", "such"]
def smallL : Str := "abcdefghijklmnopqrstuvwxyz"
theorem g_OWN_eq : g_OWN = .tuple (ownL.map .str) := rfl
theorem g_KINDS_eq : g_KINDS = .tuple (kindL.map .str) := rfl
def smallB (c : Nat) : Bool := !(Builtin.Str.occurrences smallL ⟨#[c]⟩ 0 smallL.length 1).isEmpty
def wordB (w : Str) : Bool := decide (1 ≤ w.length) && decide (w.length ≤ 10) && !(ownL.any fun y => y == w) && w.cps.toList.all smallB
def wordD : D → Bool
  | .str w => wordB w
  | _ => false
def bigs (w : Str) : List D := (w.cps.toList.map fun c => W.d (.str ⟨#[c]⟩)).filterMap fun x => match x with
  | .d (.str y) => if smallB (y.cps.getD 0 0) then none else some (.str y)
  | _ => none
theorem bigs_empty (w : Str) : (bigs w).isEmpty = w.cps.toList.all smallB := by
  unfold bigs
  generalize w.cps.toList = l
  induction l with
  | nil => rfl
  | cons c l ih =>
    rw [List.map_cons, List.filterMap_cons, List.all_cons]
    cases h : smallB c with
    | true => simpa [h] using ih
    | false => simp [h]
theorem is_word_ok (u : Ups tab) {k : Nat} {x : D} : Cn tab (k + 1) "is_word" [.d x] S = .ok (kb (wordD x)) S := by
  rw [u_is_word u]
  cases x with
  | str w =>
    by_cases h1 : (1 : Int) ≤ w.length
    · by_cases h2 : (w.length : Int) ≤ 10
      · have h1' : 1 ≤ w.length := by omega
        have h2' : w.length ≤ 10 := by omega
        cases h3 : ownL.any fun y => y == w with
        | true => simp [b_is_word, wordD, wordB, h1, h2, h1', h2', h3, locR_ok, ev_loc, ev_dat, optB_ok, kBin2_ap, kBin1_ap, ev_bin, kCmp2_ap, kCmp1_ap, ev_cmp, kChn3_t, kChn3_f, kChn2_ap, kChn1_ap, ev_chn, kIsN_ap, ev_isN, kAnd2_t, kAnd2_f, kAnd1_ap, ev_and, kOr2_t, kOr2_f, kOr1_ap, ev_or, kNot_ap, ev_not, kIte2_t, kIte2_f, kIte1_ap, ev_ite, optT_ok, optL_ok, kTup_ap, kLst_ap, ev_tup, ev_lst, kIdx2_ap, kIdx1_ap, ev_idx, kslF3_ap, kslF2_ap, kslF1_ap, ev_slF, kslT3_ap, kslT2_ap, kslT1_ap, ev_slT, kRev2_ap, kRev_ap, ev_rev, kCall_ap, ev_call, kIsi2_ap, kIsi_ap, ev_isi, kBlt_ap, ev_blt, kMut3_ap, kMut2_ap, kMut1_ap, ev_mut, kPrm_ap, ev_prm, kC3_t, kC3_f, kC2_ap, kN_ap, kComp_ap, kLs_ap, kLsc_ap, kK3_t, kK3_f, kK2_ap, ev_comp, ev_lsc, kCons_ap, kEvs2_ap, kEvs1_ap, ev_nil, ev_cons, kSq_ap, ev_sq, kRng_ap, ev_rng1, k_enm2_ap, k_enm_ap, ev_ienm, k_rev2_ap, k_rev_ap, ev_irev, kTest_ap, ev_t0, ev_t1, ev_T, kRet_ap, ev_ret, ev_retN, nextE_ok, kAsg_ap, ev_asg, kNew2_ap, kNew1_ap, ev_new, kExp_ap, ev_exp, kIf_t, kIf_f, ev_if, kTurn_ap, kFor_ap, ev_for, kSix4_ap, kSix3_ap, kSix2_ap, kSix1_ap, ev_six, ev_pass, kSeq_n, kSeq_r, ev_s0, ev_s1, kLeave_n, kLeave_d, kLeave_l, kLeave_k, kLeave_o, run_def, rpm, startE, give, truthW, viewD, viewL, fz, isTy, kb, ki, dTruth, rcmp, rcmpD, cmpI, ridx_t0, ridx_t1, ridx_t2, ridx_t3, ridx_l0, ridx_l1, ridx_l2, ridx_l3, eqD_str, eqD_int, rbin, rblt, opt_some, opt_none, Res.bind_ok, Res.bind_stuck, Res.bind_exc, bindT, setAll, datas, asInt, itemsW, listD, rsl, List.map_cons, List.map_nil, List.length_cons, List.length_nil, List.cons_append, List.nil_append, List.replicate, List.getElem?_cons_zero, List.getElem?_cons_succ, List.headD_nil, List.headD_cons, List.tail_nil, List.tail_cons, Option.map_some, Option.map_none, List.set_cons_zero, List.set_cons_succ, ofS_beq, Bool.not_true, Bool.not_false, Bool.or_false, Bool.or_true, Bool.and_true, Bool.and_false, Bool.false_eq_true, if_true, if_false, g_OWN_eq, inD_strs, g_MOST_LETTERS]
        | false =>
          have hl : loopC (cturn (Cn tab k) (.loc 1) (.nm 1) [(.cmp .nin (.loc 1) (.dat g_SMALL))] [1] [some (.d (.str w)), none]) (w.cps.toList.map fun c => .d (.str ⟨#[c]⟩)) S = .ok (bigs w) S := by
            apply loopC_pure
            intro x hx
            obtain ⟨c, hc, rfl⟩ := List.mem_map.mp hx
            cases hs : smallB c with
            | true =>
              have hs2 := hs
              unfold smallB at hs2
              have e : inD (.str ⟨#[c]⟩) g_SMALL = some true := by simp only [g_SMALL, inD]; exact congrArg some hs2
              simp [cturn_ap, wipeE, locR_ok, ev_loc, ev_dat, optB_ok, kBin2_ap, kBin1_ap, ev_bin, kCmp2_ap, kCmp1_ap, ev_cmp, kChn3_t, kChn3_f, kChn2_ap, kChn1_ap, ev_chn, kIsN_ap, ev_isN, kAnd2_t, kAnd2_f, kAnd1_ap, ev_and, kOr2_t, kOr2_f, kOr1_ap, ev_or, kNot_ap, ev_not, kIte2_t, kIte2_f, kIte1_ap, ev_ite, optT_ok, optL_ok, kTup_ap, kLst_ap, ev_tup, ev_lst, kIdx2_ap, kIdx1_ap, ev_idx, kslF3_ap, kslF2_ap, kslF1_ap, ev_slF, kslT3_ap, kslT2_ap, kslT1_ap, ev_slT, kRev2_ap, kRev_ap, ev_rev, kCall_ap, ev_call, kIsi2_ap, kIsi_ap, ev_isi, kBlt_ap, ev_blt, kMut3_ap, kMut2_ap, kMut1_ap, ev_mut, kPrm_ap, ev_prm, kC3_t, kC3_f, kC2_ap, kN_ap, kComp_ap, kLs_ap, kLsc_ap, kK3_t, kK3_f, kK2_ap, ev_comp, ev_lsc, kCons_ap, kEvs2_ap, kEvs1_ap, ev_nil, ev_cons, kSq_ap, ev_sq, kRng_ap, ev_rng1, k_enm2_ap, k_enm_ap, ev_ienm, k_rev2_ap, k_rev_ap, ev_irev, kTest_ap, ev_t0, ev_t1, ev_T, kRet_ap, ev_ret, ev_retN, nextE_ok, kAsg_ap, ev_asg, kNew2_ap, kNew1_ap, ev_new, kExp_ap, ev_exp, kIf_t, kIf_f, ev_if, kTurn_ap, kFor_ap, ev_for, kSix4_ap, kSix3_ap, kSix2_ap, kSix1_ap, ev_six, ev_pass, kSeq_n, kSeq_r, ev_s0, ev_s1, kLeave_n, kLeave_d, kLeave_l, kLeave_k, kLeave_o, run_def, rpm, startE, give, truthW, viewD, viewL, fz, isTy, kb, ki, dTruth, rcmp, rcmpD, cmpI, ridx_t0, ridx_t1, ridx_t2, ridx_t3, ridx_l0, ridx_l1, ridx_l2, ridx_l3, eqD_str, eqD_int, rbin, rblt, opt_some, opt_none, Res.bind_ok, Res.bind_stuck, Res.bind_exc, bindT, setAll, datas, asInt, itemsW, listD, rsl, List.map_cons, List.map_nil, List.length_cons, List.length_nil, List.cons_append, List.nil_append, List.replicate, List.getElem?_cons_zero, List.getElem?_cons_succ, List.headD_nil, List.headD_cons, List.tail_nil, List.tail_cons, Option.map_some, Option.map_none, List.set_cons_zero, List.set_cons_succ, ofS_beq, Bool.not_true, Bool.not_false, Bool.or_false, Bool.or_true, Bool.and_true, Bool.and_false, Bool.false_eq_true, if_true, if_false, e, hs]
            | false =>
              have hs2 := hs
              unfold smallB at hs2
              have e : inD (.str ⟨#[c]⟩) g_SMALL = some false := by simp only [g_SMALL, inD]; exact congrArg some hs2
              simp [cturn_ap, wipeE, locR_ok, ev_loc, ev_dat, optB_ok, kBin2_ap, kBin1_ap, ev_bin, kCmp2_ap, kCmp1_ap, ev_cmp, kChn3_t, kChn3_f, kChn2_ap, kChn1_ap, ev_chn, kIsN_ap, ev_isN, kAnd2_t, kAnd2_f, kAnd1_ap, ev_and, kOr2_t, kOr2_f, kOr1_ap, ev_or, kNot_ap, ev_not, kIte2_t, kIte2_f, kIte1_ap, ev_ite, optT_ok, optL_ok, kTup_ap, kLst_ap, ev_tup, ev_lst, kIdx2_ap, kIdx1_ap, ev_idx, kslF3_ap, kslF2_ap, kslF1_ap, ev_slF, kslT3_ap, kslT2_ap, kslT1_ap, ev_slT, kRev2_ap, kRev_ap, ev_rev, kCall_ap, ev_call, kIsi2_ap, kIsi_ap, ev_isi, kBlt_ap, ev_blt, kMut3_ap, kMut2_ap, kMut1_ap, ev_mut, kPrm_ap, ev_prm, kC3_t, kC3_f, kC2_ap, kN_ap, kComp_ap, kLs_ap, kLsc_ap, kK3_t, kK3_f, kK2_ap, ev_comp, ev_lsc, kCons_ap, kEvs2_ap, kEvs1_ap, ev_nil, ev_cons, kSq_ap, ev_sq, kRng_ap, ev_rng1, k_enm2_ap, k_enm_ap, ev_ienm, k_rev2_ap, k_rev_ap, ev_irev, kTest_ap, ev_t0, ev_t1, ev_T, kRet_ap, ev_ret, ev_retN, nextE_ok, kAsg_ap, ev_asg, kNew2_ap, kNew1_ap, ev_new, kExp_ap, ev_exp, kIf_t, kIf_f, ev_if, kTurn_ap, kFor_ap, ev_for, kSix4_ap, kSix3_ap, kSix2_ap, kSix1_ap, ev_six, ev_pass, kSeq_n, kSeq_r, ev_s0, ev_s1, kLeave_n, kLeave_d, kLeave_l, kLeave_k, kLeave_o, run_def, rpm, startE, give, truthW, viewD, viewL, fz, isTy, kb, ki, dTruth, rcmp, rcmpD, cmpI, ridx_t0, ridx_t1, ridx_t2, ridx_t3, ridx_l0, ridx_l1, ridx_l2, ridx_l3, eqD_str, eqD_int, rbin, rblt, opt_some, opt_none, Res.bind_ok, Res.bind_stuck, Res.bind_exc, bindT, setAll, datas, asInt, itemsW, listD, rsl, List.map_cons, List.map_nil, List.length_cons, List.length_nil, List.cons_append, List.nil_append, List.replicate, List.getElem?_cons_zero, List.getElem?_cons_succ, List.headD_nil, List.headD_cons, List.tail_nil, List.tail_cons, Option.map_some, Option.map_none, List.set_cons_zero, List.set_cons_succ, ofS_beq, Bool.not_true, Bool.not_false, Bool.or_false, Bool.or_true, Bool.and_true, Bool.and_false, Bool.false_eq_true, if_true, if_false, e, hs, oneD]
          have hlen : (w.cps.toList.map fun c => W.d (.str ⟨#[c]⟩)).length ≤ 10000 := by
            rw [List.length_map, Array.length_toList]
            have : w.cps.size = w.length := rfl
            omega
          simp only [b_is_word, locR_ok, ev_loc, ev_dat, optB_ok, kBin2_ap, kBin1_ap, ev_bin, kCmp2_ap, kCmp1_ap, ev_cmp, kChn3_t, kChn3_f, kChn2_ap, kChn1_ap, ev_chn, kIsN_ap, ev_isN, kAnd2_t, kAnd2_f, kAnd1_ap, ev_and, kOr2_t, kOr2_f, kOr1_ap, ev_or, kNot_ap, ev_not, kIte2_t, kIte2_f, kIte1_ap, ev_ite, optT_ok, optL_ok, kTup_ap, kLst_ap, ev_tup, ev_lst, kIdx2_ap, kIdx1_ap, ev_idx, kslF3_ap, kslF2_ap, kslF1_ap, ev_slF, kslT3_ap, kslT2_ap, kslT1_ap, ev_slT, kRev2_ap, kRev_ap, ev_rev, kCall_ap, ev_call, kIsi2_ap, kIsi_ap, ev_isi, kBlt_ap, ev_blt, kMut3_ap, kMut2_ap, kMut1_ap, ev_mut, kPrm_ap, ev_prm, kC3_t, kC3_f, kC2_ap, kN_ap, kComp_ap, kLs_ap, kLsc_ap, kK3_t, kK3_f, kK2_ap, ev_comp, ev_lsc, kCons_ap, kEvs2_ap, kEvs1_ap, ev_nil, ev_cons, kSq_ap, ev_sq, kRng_ap, ev_rng1, k_enm2_ap, k_enm_ap, ev_ienm, k_rev2_ap, k_rev_ap, ev_irev, kTest_ap, ev_t0, ev_t1, ev_T, kRet_ap, ev_ret, ev_retN, nextE_ok, kAsg_ap, ev_asg, kNew2_ap, kNew1_ap, ev_new, kExp_ap, ev_exp, kIf_t, kIf_f, ev_if, kTurn_ap, kFor_ap, ev_for, kSix4_ap, kSix3_ap, kSix2_ap, kSix1_ap, ev_six, ev_pass, kSeq_n, kSeq_r, ev_s0, ev_s1, kLeave_n, kLeave_d, kLeave_l, kLeave_k, kLeave_o, run_def, rpm, startE, give, truthW, viewD, viewL, fz, isTy, kb, ki, dTruth, rcmp, rcmpD, cmpI, ridx_t0, ridx_t1, ridx_t2, ridx_t3, ridx_l0, ridx_l1, ridx_l2, ridx_l3, eqD_str, eqD_int, rbin, rblt, opt_some, opt_none, Res.bind_ok, Res.bind_stuck, Res.bind_exc, bindT, setAll, datas, asInt, itemsW, listD, rsl, List.map_cons, List.map_nil, List.length_cons, List.length_nil, List.cons_append, List.nil_append, List.replicate, List.getElem?_cons_zero, List.getElem?_cons_succ, List.headD_nil, List.headD_cons, List.tail_nil, List.tail_cons, Option.map_some, Option.map_none, List.set_cons_zero, List.set_cons_succ, ofS_beq, Bool.not_true, Bool.not_false, Bool.or_false, Bool.or_true, Bool.and_true, Bool.and_false, Bool.false_eq_true, if_true, if_false, h1, h2, decide_true, g_OWN_eq, inD_strs, h3, g_MOST_LETTERS, hl, few_small hlen, noX_ok]
          simp only [wordD, wordB, decide_eq_true h1', decide_eq_true h2', h3, ← bigs_empty]
          simp
      · have h2' : ¬ w.length ≤ 10 := by omega
        simp [b_is_word, wordD, wordB, h1, h2, h2', locR_ok, ev_loc, ev_dat, optB_ok, kBin2_ap, kBin1_ap, ev_bin, kCmp2_ap, kCmp1_ap, ev_cmp, kChn3_t, kChn3_f, kChn2_ap, kChn1_ap, ev_chn, kIsN_ap, ev_isN, kAnd2_t, kAnd2_f, kAnd1_ap, ev_and, kOr2_t, kOr2_f, kOr1_ap, ev_or, kNot_ap, ev_not, kIte2_t, kIte2_f, kIte1_ap, ev_ite, optT_ok, optL_ok, kTup_ap, kLst_ap, ev_tup, ev_lst, kIdx2_ap, kIdx1_ap, ev_idx, kslF3_ap, kslF2_ap, kslF1_ap, ev_slF, kslT3_ap, kslT2_ap, kslT1_ap, ev_slT, kRev2_ap, kRev_ap, ev_rev, kCall_ap, ev_call, kIsi2_ap, kIsi_ap, ev_isi, kBlt_ap, ev_blt, kMut3_ap, kMut2_ap, kMut1_ap, ev_mut, kPrm_ap, ev_prm, kC3_t, kC3_f, kC2_ap, kN_ap, kComp_ap, kLs_ap, kLsc_ap, kK3_t, kK3_f, kK2_ap, ev_comp, ev_lsc, kCons_ap, kEvs2_ap, kEvs1_ap, ev_nil, ev_cons, kSq_ap, ev_sq, kRng_ap, ev_rng1, k_enm2_ap, k_enm_ap, ev_ienm, k_rev2_ap, k_rev_ap, ev_irev, kTest_ap, ev_t0, ev_t1, ev_T, kRet_ap, ev_ret, ev_retN, nextE_ok, kAsg_ap, ev_asg, kNew2_ap, kNew1_ap, ev_new, kExp_ap, ev_exp, kIf_t, kIf_f, ev_if, kTurn_ap, kFor_ap, ev_for, kSix4_ap, kSix3_ap, kSix2_ap, kSix1_ap, ev_six, ev_pass, kSeq_n, kSeq_r, ev_s0, ev_s1, kLeave_n, kLeave_d, kLeave_l, kLeave_k, kLeave_o, run_def, rpm, startE, give, truthW, viewD, viewL, fz, isTy, kb, ki, dTruth, rcmp, rcmpD, cmpI, ridx_t0, ridx_t1, ridx_t2, ridx_t3, ridx_l0, ridx_l1, ridx_l2, ridx_l3, eqD_str, eqD_int, rbin, rblt, opt_some, opt_none, Res.bind_ok, Res.bind_stuck, Res.bind_exc, bindT, setAll, datas, asInt, itemsW, listD, rsl, List.map_cons, List.map_nil, List.length_cons, List.length_nil, List.cons_append, List.nil_append, List.replicate, List.getElem?_cons_zero, List.getElem?_cons_succ, List.headD_nil, List.headD_cons, List.tail_nil, List.tail_cons, Option.map_some, Option.map_none, List.set_cons_zero, List.set_cons_succ, ofS_beq, Bool.not_true, Bool.not_false, Bool.or_false, Bool.or_true, Bool.and_true, Bool.and_false, Bool.false_eq_true, if_true, if_false, g_MOST_LETTERS]
    · have h1' : ¬ 1 ≤ w.length := by omega
      simp [b_is_word, wordD, wordB, h1, h1', locR_ok, ev_loc, ev_dat, optB_ok, kBin2_ap, kBin1_ap, ev_bin, kCmp2_ap, kCmp1_ap, ev_cmp, kChn3_t, kChn3_f, kChn2_ap, kChn1_ap, ev_chn, kIsN_ap, ev_isN, kAnd2_t, kAnd2_f, kAnd1_ap, ev_and, kOr2_t, kOr2_f, kOr1_ap, ev_or, kNot_ap, ev_not, kIte2_t, kIte2_f, kIte1_ap, ev_ite, optT_ok, optL_ok, kTup_ap, kLst_ap, ev_tup, ev_lst, kIdx2_ap, kIdx1_ap, ev_idx, kslF3_ap, kslF2_ap, kslF1_ap, ev_slF, kslT3_ap, kslT2_ap, kslT1_ap, ev_slT, kRev2_ap, kRev_ap, ev_rev, kCall_ap, ev_call, kIsi2_ap, kIsi_ap, ev_isi, kBlt_ap, ev_blt, kMut3_ap, kMut2_ap, kMut1_ap, ev_mut, kPrm_ap, ev_prm, kC3_t, kC3_f, kC2_ap, kN_ap, kComp_ap, kLs_ap, kLsc_ap, kK3_t, kK3_f, kK2_ap, ev_comp, ev_lsc, kCons_ap, kEvs2_ap, kEvs1_ap, ev_nil, ev_cons, kSq_ap, ev_sq, kRng_ap, ev_rng1, k_enm2_ap, k_enm_ap, ev_ienm, k_rev2_ap, k_rev_ap, ev_irev, kTest_ap, ev_t0, ev_t1, ev_T, kRet_ap, ev_ret, ev_retN, nextE_ok, kAsg_ap, ev_asg, kNew2_ap, kNew1_ap, ev_new, kExp_ap, ev_exp, kIf_t, kIf_f, ev_if, kTurn_ap, kFor_ap, ev_for, kSix4_ap, kSix3_ap, kSix2_ap, kSix1_ap, ev_six, ev_pass, kSeq_n, kSeq_r, ev_s0, ev_s1, kLeave_n, kLeave_d, kLeave_l, kLeave_k, kLeave_o, run_def, rpm, startE, give, truthW, viewD, viewL, fz, isTy, kb, ki, dTruth, rcmp, rcmpD, cmpI, ridx_t0, ridx_t1, ridx_t2, ridx_t3, ridx_l0, ridx_l1, ridx_l2, ridx_l3, eqD_str, eqD_int, rbin, rblt, opt_some, opt_none, Res.bind_ok, Res.bind_stuck, Res.bind_exc, bindT, setAll, datas, asInt, itemsW, listD, rsl, List.map_cons, List.map_nil, List.length_cons, List.length_nil, List.cons_append, List.nil_append, List.replicate, List.getElem?_cons_zero, List.getElem?_cons_succ, List.headD_nil, List.headD_cons, List.tail_nil, List.tail_cons, Option.map_some, Option.map_none, List.set_cons_zero, List.set_cons_succ, ofS_beq, Bool.not_true, Bool.not_false, Bool.or_false, Bool.or_true, Bool.and_true, Bool.and_false, Bool.false_eq_true, if_true, if_false]
  | _ => simp [b_is_word, wordD, locR_ok, ev_loc, ev_dat, optB_ok, kBin2_ap, kBin1_ap, ev_bin, kCmp2_ap, kCmp1_ap, ev_cmp, kChn3_t, kChn3_f, kChn2_ap, kChn1_ap, ev_chn, kIsN_ap, ev_isN, kAnd2_t, kAnd2_f, kAnd1_ap, ev_and, kOr2_t, kOr2_f, kOr1_ap, ev_or, kNot_ap, ev_not, kIte2_t, kIte2_f, kIte1_ap, ev_ite, optT_ok, optL_ok, kTup_ap, kLst_ap, ev_tup, ev_lst, kIdx2_ap, kIdx1_ap, ev_idx, kslF3_ap, kslF2_ap, kslF1_ap, ev_slF, kslT3_ap, kslT2_ap, kslT1_ap, ev_slT, kRev2_ap, kRev_ap, ev_rev, kCall_ap, ev_call, kIsi2_ap, kIsi_ap, ev_isi, kBlt_ap, ev_blt, kMut3_ap, kMut2_ap, kMut1_ap, ev_mut, kPrm_ap, ev_prm, kC3_t, kC3_f, kC2_ap, kN_ap, kComp_ap, kLs_ap, kLsc_ap, kK3_t, kK3_f, kK2_ap, ev_comp, ev_lsc, kCons_ap, kEvs2_ap, kEvs1_ap, ev_nil, ev_cons, kSq_ap, ev_sq, kRng_ap, ev_rng1, k_enm2_ap, k_enm_ap, ev_ienm, k_rev2_ap, k_rev_ap, ev_irev, kTest_ap, ev_t0, ev_t1, ev_T, kRet_ap, ev_ret, ev_retN, nextE_ok, kAsg_ap, ev_asg, kNew2_ap, kNew1_ap, ev_new, kExp_ap, ev_exp, kIf_t, kIf_f, ev_if, kTurn_ap, kFor_ap, ev_for, kSix4_ap, kSix3_ap, kSix2_ap, kSix1_ap, ev_six, ev_pass, kSeq_n, kSeq_r, ev_s0, ev_s1, kLeave_n, kLeave_d, kLeave_l, kLeave_k, kLeave_o, run_def, rpm, startE, give, truthW, viewD, viewL, fz, isTy, kb, ki, dTruth, rcmp, rcmpD, cmpI, ridx_t0, ridx_t1, ridx_t2, ridx_t3, ridx_l0, ridx_l1, ridx_l2, ridx_l3, eqD_str, eqD_int, rbin, rblt, opt_some, opt_none, Res.bind_ok, Res.bind_stuck, Res.bind_exc, bindT, setAll, datas, asInt, itemsW, listD, rsl, List.map_cons, List.map_nil, List.length_cons, List.length_nil, List.cons_append, List.nil_append, List.replicate, List.getElem?_cons_zero, List.getElem?_cons_succ, List.headD_nil, List.headD_cons, List.tail_nil, List.tail_cons, Option.map_some, Option.map_none, List.set_cons_zero, List.set_cons_succ, ofS_beq, Bool.not_true, Bool.not_false, Bool.or_false, Bool.or_true, Bool.and_true, Bool.and_false, Bool.false_eq_true, if_true, if_false]

def kindD : D → Bool
  | .str x => kindL.any fun y => y == x
  | _ => false
def rowD : D → Bool
  | .tuple [a, b] => wordD a && kindD b
  | _ => false
def hdD : D → D
  | .tuple (a :: _) => a
  | x => x
def isBookD : D → Bool
  | .tuple rows => decide (rows.length ≤ 20) && (rows.all rowD && decide ((keysOf (rows.map hdD)).length = rows.length))
  | _ => false
def bkB : List Sm := [.ite (.or (.not (.isi (.loc 1) .tup)) (.or (.cmp .ne (.blt .len [(.loc 1)]) (.dat (.int 2))) (.not (.call "is_word" [] [(.idx (.loc 1) (.dat (.int 0)))])))) [.ret (.dat (.bool false))] [], .ite (.or (.not (.isi (.idx (.loc 1) (.dat (.int 1))) .str)) (.cmp .nin (.idx (.loc 1) (.dat (.int 1))) (.dat g_KINDS))) [.ret (.dat (.bool false))] []]
theorem kind_in {x : Str} : inD (.str x) g_KINDS = some (kindL.any fun y => y == x) := by rw [g_KINDS_eq, inD_strs]
theorem bk_turn (u : Ups tab) {k : Nat} {t : Option W} {o : Option W} (r : D) : turn (Cn tab (k + 1)) (.nm 1) bkB (.d r) [t, o] S = .ok (if rowD r then .next [t, some (.d r)] else .ret (.w (.d (.bool false)))) S := by
  cases r with
  | tuple ds =>
    cases ds with
    | nil => simp [turn_ap, bkB, locR_ok, ev_loc, ev_dat, optB_ok, kBin2_ap, kBin1_ap, ev_bin, kCmp2_ap, kCmp1_ap, ev_cmp, kChn3_t, kChn3_f, kChn2_ap, kChn1_ap, ev_chn, kIsN_ap, ev_isN, kAnd2_t, kAnd2_f, kAnd1_ap, ev_and, kOr2_t, kOr2_f, kOr1_ap, ev_or, kNot_ap, ev_not, kIte2_t, kIte2_f, kIte1_ap, ev_ite, optT_ok, optL_ok, kTup_ap, kLst_ap, ev_tup, ev_lst, kIdx2_ap, kIdx1_ap, ev_idx, kslF3_ap, kslF2_ap, kslF1_ap, ev_slF, kslT3_ap, kslT2_ap, kslT1_ap, ev_slT, kRev2_ap, kRev_ap, ev_rev, kCall_ap, ev_call, kIsi2_ap, kIsi_ap, ev_isi, kBlt_ap, ev_blt, kMut3_ap, kMut2_ap, kMut1_ap, ev_mut, kPrm_ap, ev_prm, kC3_t, kC3_f, kC2_ap, kN_ap, kComp_ap, kLs_ap, kLsc_ap, kK3_t, kK3_f, kK2_ap, ev_comp, ev_lsc, kCons_ap, kEvs2_ap, kEvs1_ap, ev_nil, ev_cons, kSq_ap, ev_sq, kRng_ap, ev_rng1, k_enm2_ap, k_enm_ap, ev_ienm, k_rev2_ap, k_rev_ap, ev_irev, kTest_ap, ev_t0, ev_t1, ev_T, kRet_ap, ev_ret, ev_retN, nextE_ok, kAsg_ap, ev_asg, kNew2_ap, kNew1_ap, ev_new, kExp_ap, ev_exp, kIf_t, kIf_f, ev_if, kTurn_ap, kFor_ap, ev_for, kSix4_ap, kSix3_ap, kSix2_ap, kSix1_ap, ev_six, ev_pass, kSeq_n, kSeq_r, ev_s0, ev_s1, kLeave_n, kLeave_d, kLeave_l, kLeave_k, kLeave_o, run_def, rpm, startE, give, truthW, viewD, viewL, fz, isTy, kb, ki, dTruth, rcmp, rcmpD, cmpI, ridx_t0, ridx_t1, ridx_t2, ridx_t3, ridx_l0, ridx_l1, ridx_l2, ridx_l3, eqD_str, eqD_int, rbin, rblt, opt_some, opt_none, Res.bind_ok, Res.bind_stuck, Res.bind_exc, bindT, setAll, datas, asInt, itemsW, listD, rsl, List.map_cons, List.map_nil, List.length_cons, List.length_nil, List.cons_append, List.nil_append, List.replicate, List.getElem?_cons_zero, List.getElem?_cons_succ, List.headD_nil, List.headD_cons, List.tail_nil, List.tail_cons, Option.map_some, Option.map_none, List.set_cons_zero, List.set_cons_succ, ofS_beq, Bool.not_true, Bool.not_false, Bool.or_false, Bool.or_true, Bool.and_true, Bool.and_false, Bool.false_eq_true, if_true, if_false, rowD]
    | cons a r =>
      cases r with
      | nil => simp [turn_ap, bkB, locR_ok, ev_loc, ev_dat, optB_ok, kBin2_ap, kBin1_ap, ev_bin, kCmp2_ap, kCmp1_ap, ev_cmp, kChn3_t, kChn3_f, kChn2_ap, kChn1_ap, ev_chn, kIsN_ap, ev_isN, kAnd2_t, kAnd2_f, kAnd1_ap, ev_and, kOr2_t, kOr2_f, kOr1_ap, ev_or, kNot_ap, ev_not, kIte2_t, kIte2_f, kIte1_ap, ev_ite, optT_ok, optL_ok, kTup_ap, kLst_ap, ev_tup, ev_lst, kIdx2_ap, kIdx1_ap, ev_idx, kslF3_ap, kslF2_ap, kslF1_ap, ev_slF, kslT3_ap, kslT2_ap, kslT1_ap, ev_slT, kRev2_ap, kRev_ap, ev_rev, kCall_ap, ev_call, kIsi2_ap, kIsi_ap, ev_isi, kBlt_ap, ev_blt, kMut3_ap, kMut2_ap, kMut1_ap, ev_mut, kPrm_ap, ev_prm, kC3_t, kC3_f, kC2_ap, kN_ap, kComp_ap, kLs_ap, kLsc_ap, kK3_t, kK3_f, kK2_ap, ev_comp, ev_lsc, kCons_ap, kEvs2_ap, kEvs1_ap, ev_nil, ev_cons, kSq_ap, ev_sq, kRng_ap, ev_rng1, k_enm2_ap, k_enm_ap, ev_ienm, k_rev2_ap, k_rev_ap, ev_irev, kTest_ap, ev_t0, ev_t1, ev_T, kRet_ap, ev_ret, ev_retN, nextE_ok, kAsg_ap, ev_asg, kNew2_ap, kNew1_ap, ev_new, kExp_ap, ev_exp, kIf_t, kIf_f, ev_if, kTurn_ap, kFor_ap, ev_for, kSix4_ap, kSix3_ap, kSix2_ap, kSix1_ap, ev_six, ev_pass, kSeq_n, kSeq_r, ev_s0, ev_s1, kLeave_n, kLeave_d, kLeave_l, kLeave_k, kLeave_o, run_def, rpm, startE, give, truthW, viewD, viewL, fz, isTy, kb, ki, dTruth, rcmp, rcmpD, cmpI, ridx_t0, ridx_t1, ridx_t2, ridx_t3, ridx_l0, ridx_l1, ridx_l2, ridx_l3, eqD_str, eqD_int, rbin, rblt, opt_some, opt_none, Res.bind_ok, Res.bind_stuck, Res.bind_exc, bindT, setAll, datas, asInt, itemsW, listD, rsl, List.map_cons, List.map_nil, List.length_cons, List.length_nil, List.cons_append, List.nil_append, List.replicate, List.getElem?_cons_zero, List.getElem?_cons_succ, List.headD_nil, List.headD_cons, List.tail_nil, List.tail_cons, Option.map_some, Option.map_none, List.set_cons_zero, List.set_cons_succ, ofS_beq, Bool.not_true, Bool.not_false, Bool.or_false, Bool.or_true, Bool.and_true, Bool.and_false, Bool.false_eq_true, if_true, if_false, rowD]
      | cons b r =>
        cases r with
        | nil =>
          cases h1 : wordD a with
          | false => simp [turn_ap, bkB, locR_ok, ev_loc, ev_dat, optB_ok, kBin2_ap, kBin1_ap, ev_bin, kCmp2_ap, kCmp1_ap, ev_cmp, kChn3_t, kChn3_f, kChn2_ap, kChn1_ap, ev_chn, kIsN_ap, ev_isN, kAnd2_t, kAnd2_f, kAnd1_ap, ev_and, kOr2_t, kOr2_f, kOr1_ap, ev_or, kNot_ap, ev_not, kIte2_t, kIte2_f, kIte1_ap, ev_ite, optT_ok, optL_ok, kTup_ap, kLst_ap, ev_tup, ev_lst, kIdx2_ap, kIdx1_ap, ev_idx, kslF3_ap, kslF2_ap, kslF1_ap, ev_slF, kslT3_ap, kslT2_ap, kslT1_ap, ev_slT, kRev2_ap, kRev_ap, ev_rev, kCall_ap, ev_call, kIsi2_ap, kIsi_ap, ev_isi, kBlt_ap, ev_blt, kMut3_ap, kMut2_ap, kMut1_ap, ev_mut, kPrm_ap, ev_prm, kC3_t, kC3_f, kC2_ap, kN_ap, kComp_ap, kLs_ap, kLsc_ap, kK3_t, kK3_f, kK2_ap, ev_comp, ev_lsc, kCons_ap, kEvs2_ap, kEvs1_ap, ev_nil, ev_cons, kSq_ap, ev_sq, kRng_ap, ev_rng1, k_enm2_ap, k_enm_ap, ev_ienm, k_rev2_ap, k_rev_ap, ev_irev, kTest_ap, ev_t0, ev_t1, ev_T, kRet_ap, ev_ret, ev_retN, nextE_ok, kAsg_ap, ev_asg, kNew2_ap, kNew1_ap, ev_new, kExp_ap, ev_exp, kIf_t, kIf_f, ev_if, kTurn_ap, kFor_ap, ev_for, kSix4_ap, kSix3_ap, kSix2_ap, kSix1_ap, ev_six, ev_pass, kSeq_n, kSeq_r, ev_s0, ev_s1, kLeave_n, kLeave_d, kLeave_l, kLeave_k, kLeave_o, run_def, rpm, startE, give, truthW, viewD, viewL, fz, isTy, kb, ki, dTruth, rcmp, rcmpD, cmpI, ridx_t0, ridx_t1, ridx_t2, ridx_t3, ridx_l0, ridx_l1, ridx_l2, ridx_l3, eqD_str, eqD_int, rbin, rblt, opt_some, opt_none, Res.bind_ok, Res.bind_stuck, Res.bind_exc, bindT, setAll, datas, asInt, itemsW, listD, rsl, List.map_cons, List.map_nil, List.length_cons, List.length_nil, List.cons_append, List.nil_append, List.replicate, List.getElem?_cons_zero, List.getElem?_cons_succ, List.headD_nil, List.headD_cons, List.tail_nil, List.tail_cons, Option.map_some, Option.map_none, List.set_cons_zero, List.set_cons_succ, ofS_beq, Bool.not_true, Bool.not_false, Bool.or_false, Bool.or_true, Bool.and_true, Bool.and_false, Bool.false_eq_true, if_true, if_false, rowD, is_word_ok u, h1]
          | true =>
            cases b with
            | str x =>
              cases h2 : kindL.any fun y => y == x with
              | true => simp [turn_ap, bkB, locR_ok, ev_loc, ev_dat, optB_ok, kBin2_ap, kBin1_ap, ev_bin, kCmp2_ap, kCmp1_ap, ev_cmp, kChn3_t, kChn3_f, kChn2_ap, kChn1_ap, ev_chn, kIsN_ap, ev_isN, kAnd2_t, kAnd2_f, kAnd1_ap, ev_and, kOr2_t, kOr2_f, kOr1_ap, ev_or, kNot_ap, ev_not, kIte2_t, kIte2_f, kIte1_ap, ev_ite, optT_ok, optL_ok, kTup_ap, kLst_ap, ev_tup, ev_lst, kIdx2_ap, kIdx1_ap, ev_idx, kslF3_ap, kslF2_ap, kslF1_ap, ev_slF, kslT3_ap, kslT2_ap, kslT1_ap, ev_slT, kRev2_ap, kRev_ap, ev_rev, kCall_ap, ev_call, kIsi2_ap, kIsi_ap, ev_isi, kBlt_ap, ev_blt, kMut3_ap, kMut2_ap, kMut1_ap, ev_mut, kPrm_ap, ev_prm, kC3_t, kC3_f, kC2_ap, kN_ap, kComp_ap, kLs_ap, kLsc_ap, kK3_t, kK3_f, kK2_ap, ev_comp, ev_lsc, kCons_ap, kEvs2_ap, kEvs1_ap, ev_nil, ev_cons, kSq_ap, ev_sq, kRng_ap, ev_rng1, k_enm2_ap, k_enm_ap, ev_ienm, k_rev2_ap, k_rev_ap, ev_irev, kTest_ap, ev_t0, ev_t1, ev_T, kRet_ap, ev_ret, ev_retN, nextE_ok, kAsg_ap, ev_asg, kNew2_ap, kNew1_ap, ev_new, kExp_ap, ev_exp, kIf_t, kIf_f, ev_if, kTurn_ap, kFor_ap, ev_for, kSix4_ap, kSix3_ap, kSix2_ap, kSix1_ap, ev_six, ev_pass, kSeq_n, kSeq_r, ev_s0, ev_s1, kLeave_n, kLeave_d, kLeave_l, kLeave_k, kLeave_o, run_def, rpm, startE, give, truthW, viewD, viewL, fz, isTy, kb, ki, dTruth, rcmp, rcmpD, cmpI, ridx_t0, ridx_t1, ridx_t2, ridx_t3, ridx_l0, ridx_l1, ridx_l2, ridx_l3, eqD_str, eqD_int, rbin, rblt, opt_some, opt_none, Res.bind_ok, Res.bind_stuck, Res.bind_exc, bindT, setAll, datas, asInt, itemsW, listD, rsl, List.map_cons, List.map_nil, List.length_cons, List.length_nil, List.cons_append, List.nil_append, List.replicate, List.getElem?_cons_zero, List.getElem?_cons_succ, List.headD_nil, List.headD_cons, List.tail_nil, List.tail_cons, Option.map_some, Option.map_none, List.set_cons_zero, List.set_cons_succ, ofS_beq, Bool.not_true, Bool.not_false, Bool.or_false, Bool.or_true, Bool.and_true, Bool.and_false, Bool.false_eq_true, if_true, if_false, rowD, is_word_ok u, h1, kindD, h2, kind_in]
              | false => simp [turn_ap, bkB, locR_ok, ev_loc, ev_dat, optB_ok, kBin2_ap, kBin1_ap, ev_bin, kCmp2_ap, kCmp1_ap, ev_cmp, kChn3_t, kChn3_f, kChn2_ap, kChn1_ap, ev_chn, kIsN_ap, ev_isN, kAnd2_t, kAnd2_f, kAnd1_ap, ev_and, kOr2_t, kOr2_f, kOr1_ap, ev_or, kNot_ap, ev_not, kIte2_t, kIte2_f, kIte1_ap, ev_ite, optT_ok, optL_ok, kTup_ap, kLst_ap, ev_tup, ev_lst, kIdx2_ap, kIdx1_ap, ev_idx, kslF3_ap, kslF2_ap, kslF1_ap, ev_slF, kslT3_ap, kslT2_ap, kslT1_ap, ev_slT, kRev2_ap, kRev_ap, ev_rev, kCall_ap, ev_call, kIsi2_ap, kIsi_ap, ev_isi, kBlt_ap, ev_blt, kMut3_ap, kMut2_ap, kMut1_ap, ev_mut, kPrm_ap, ev_prm, kC3_t, kC3_f, kC2_ap, kN_ap, kComp_ap, kLs_ap, kLsc_ap, kK3_t, kK3_f, kK2_ap, ev_comp, ev_lsc, kCons_ap, kEvs2_ap, kEvs1_ap, ev_nil, ev_cons, kSq_ap, ev_sq, kRng_ap, ev_rng1, k_enm2_ap, k_enm_ap, ev_ienm, k_rev2_ap, k_rev_ap, ev_irev, kTest_ap, ev_t0, ev_t1, ev_T, kRet_ap, ev_ret, ev_retN, nextE_ok, kAsg_ap, ev_asg, kNew2_ap, kNew1_ap, ev_new, kExp_ap, ev_exp, kIf_t, kIf_f, ev_if, kTurn_ap, kFor_ap, ev_for, kSix4_ap, kSix3_ap, kSix2_ap, kSix1_ap, ev_six, ev_pass, kSeq_n, kSeq_r, ev_s0, ev_s1, kLeave_n, kLeave_d, kLeave_l, kLeave_k, kLeave_o, run_def, rpm, startE, give, truthW, viewD, viewL, fz, isTy, kb, ki, dTruth, rcmp, rcmpD, cmpI, ridx_t0, ridx_t1, ridx_t2, ridx_t3, ridx_l0, ridx_l1, ridx_l2, ridx_l3, eqD_str, eqD_int, rbin, rblt, opt_some, opt_none, Res.bind_ok, Res.bind_stuck, Res.bind_exc, bindT, setAll, datas, asInt, itemsW, listD, rsl, List.map_cons, List.map_nil, List.length_cons, List.length_nil, List.cons_append, List.nil_append, List.replicate, List.getElem?_cons_zero, List.getElem?_cons_succ, List.headD_nil, List.headD_cons, List.tail_nil, List.tail_cons, Option.map_some, Option.map_none, List.set_cons_zero, List.set_cons_succ, ofS_beq, Bool.not_true, Bool.not_false, Bool.or_false, Bool.or_true, Bool.and_true, Bool.and_false, Bool.false_eq_true, if_true, if_false, rowD, is_word_ok u, h1, kindD, h2, kind_in]
            | _ => simp [turn_ap, bkB, locR_ok, ev_loc, ev_dat, optB_ok, kBin2_ap, kBin1_ap, ev_bin, kCmp2_ap, kCmp1_ap, ev_cmp, kChn3_t, kChn3_f, kChn2_ap, kChn1_ap, ev_chn, kIsN_ap, ev_isN, kAnd2_t, kAnd2_f, kAnd1_ap, ev_and, kOr2_t, kOr2_f, kOr1_ap, ev_or, kNot_ap, ev_not, kIte2_t, kIte2_f, kIte1_ap, ev_ite, optT_ok, optL_ok, kTup_ap, kLst_ap, ev_tup, ev_lst, kIdx2_ap, kIdx1_ap, ev_idx, kslF3_ap, kslF2_ap, kslF1_ap, ev_slF, kslT3_ap, kslT2_ap, kslT1_ap, ev_slT, kRev2_ap, kRev_ap, ev_rev, kCall_ap, ev_call, kIsi2_ap, kIsi_ap, ev_isi, kBlt_ap, ev_blt, kMut3_ap, kMut2_ap, kMut1_ap, ev_mut, kPrm_ap, ev_prm, kC3_t, kC3_f, kC2_ap, kN_ap, kComp_ap, kLs_ap, kLsc_ap, kK3_t, kK3_f, kK2_ap, ev_comp, ev_lsc, kCons_ap, kEvs2_ap, kEvs1_ap, ev_nil, ev_cons, kSq_ap, ev_sq, kRng_ap, ev_rng1, k_enm2_ap, k_enm_ap, ev_ienm, k_rev2_ap, k_rev_ap, ev_irev, kTest_ap, ev_t0, ev_t1, ev_T, kRet_ap, ev_ret, ev_retN, nextE_ok, kAsg_ap, ev_asg, kNew2_ap, kNew1_ap, ev_new, kExp_ap, ev_exp, kIf_t, kIf_f, ev_if, kTurn_ap, kFor_ap, ev_for, kSix4_ap, kSix3_ap, kSix2_ap, kSix1_ap, ev_six, ev_pass, kSeq_n, kSeq_r, ev_s0, ev_s1, kLeave_n, kLeave_d, kLeave_l, kLeave_k, kLeave_o, run_def, rpm, startE, give, truthW, viewD, viewL, fz, isTy, kb, ki, dTruth, rcmp, rcmpD, cmpI, ridx_t0, ridx_t1, ridx_t2, ridx_t3, ridx_l0, ridx_l1, ridx_l2, ridx_l3, eqD_str, eqD_int, rbin, rblt, opt_some, opt_none, Res.bind_ok, Res.bind_stuck, Res.bind_exc, bindT, setAll, datas, asInt, itemsW, listD, rsl, List.map_cons, List.map_nil, List.length_cons, List.length_nil, List.cons_append, List.nil_append, List.replicate, List.getElem?_cons_zero, List.getElem?_cons_succ, List.headD_nil, List.headD_cons, List.tail_nil, List.tail_cons, Option.map_some, Option.map_none, List.set_cons_zero, List.set_cons_succ, ofS_beq, Bool.not_true, Bool.not_false, Bool.or_false, Bool.or_true, Bool.and_true, Bool.and_false, Bool.false_eq_true, if_true, if_false, rowD, is_word_ok u, h1, kindD]
        | cons c r =>
          have h : (((r.length + 1 + 1 + 1 : Nat) : Int) == 2) = false := by simp; omega
          simp only [turn_ap, bkB, locR_ok, ev_loc, ev_dat, optB_ok, kBin2_ap, kBin1_ap, ev_bin, kCmp2_ap, kCmp1_ap, ev_cmp, kChn3_t, kChn3_f, kChn2_ap, kChn1_ap, ev_chn, kIsN_ap, ev_isN, kAnd2_t, kAnd2_f, kAnd1_ap, ev_and, kOr2_t, kOr2_f, kOr1_ap, ev_or, kNot_ap, ev_not, kIte2_t, kIte2_f, kIte1_ap, ev_ite, optT_ok, optL_ok, kTup_ap, kLst_ap, ev_tup, ev_lst, kIdx2_ap, kIdx1_ap, ev_idx, kslF3_ap, kslF2_ap, kslF1_ap, ev_slF, kslT3_ap, kslT2_ap, kslT1_ap, ev_slT, kRev2_ap, kRev_ap, ev_rev, kCall_ap, ev_call, kIsi2_ap, kIsi_ap, ev_isi, kBlt_ap, ev_blt, kMut3_ap, kMut2_ap, kMut1_ap, ev_mut, kPrm_ap, ev_prm, kC3_t, kC3_f, kC2_ap, kN_ap, kComp_ap, kLs_ap, kLsc_ap, kK3_t, kK3_f, kK2_ap, ev_comp, ev_lsc, kCons_ap, kEvs2_ap, kEvs1_ap, ev_nil, ev_cons, kSq_ap, ev_sq, kRng_ap, ev_rng1, k_enm2_ap, k_enm_ap, ev_ienm, k_rev2_ap, k_rev_ap, ev_irev, kTest_ap, ev_t0, ev_t1, ev_T, kRet_ap, ev_ret, ev_retN, nextE_ok, kAsg_ap, ev_asg, kNew2_ap, kNew1_ap, ev_new, kExp_ap, ev_exp, kIf_t, kIf_f, ev_if, kTurn_ap, kFor_ap, ev_for, kSix4_ap, kSix3_ap, kSix2_ap, kSix1_ap, ev_six, ev_pass, kSeq_n, kSeq_r, ev_s0, ev_s1, kLeave_n, kLeave_d, kLeave_l, kLeave_k, kLeave_o, run_def, rpm, startE, give, truthW, viewD, viewL, fz, isTy, kb, ki, dTruth, rcmp, rcmpD, cmpI, ridx_t0, ridx_t1, ridx_t2, ridx_t3, ridx_l0, ridx_l1, ridx_l2, ridx_l3, eqD_str, eqD_int, rbin, rblt, opt_some, opt_none, Res.bind_ok, Res.bind_stuck, Res.bind_exc, bindT, setAll, datas, asInt, itemsW, listD, rsl, List.map_cons, List.map_nil, List.length_cons, List.length_nil, List.cons_append, List.nil_append, List.replicate, List.getElem?_cons_zero, List.getElem?_cons_succ, List.headD_nil, List.headD_cons, List.tail_nil, List.tail_cons, Option.map_some, Option.map_none, List.set_cons_zero, List.set_cons_succ, ofS_beq, Bool.not_true, Bool.not_false, Bool.or_false, Bool.or_true, Bool.and_true, Bool.and_false, Bool.false_eq_true, if_true, if_false, h]
          simp [locR_ok, ev_loc, ev_dat, optB_ok, kBin2_ap, kBin1_ap, ev_bin, kCmp2_ap, kCmp1_ap, ev_cmp, kChn3_t, kChn3_f, kChn2_ap, kChn1_ap, ev_chn, kIsN_ap, ev_isN, kAnd2_t, kAnd2_f, kAnd1_ap, ev_and, kOr2_t, kOr2_f, kOr1_ap, ev_or, kNot_ap, ev_not, kIte2_t, kIte2_f, kIte1_ap, ev_ite, optT_ok, optL_ok, kTup_ap, kLst_ap, ev_tup, ev_lst, kIdx2_ap, kIdx1_ap, ev_idx, kslF3_ap, kslF2_ap, kslF1_ap, ev_slF, kslT3_ap, kslT2_ap, kslT1_ap, ev_slT, kRev2_ap, kRev_ap, ev_rev, kCall_ap, ev_call, kIsi2_ap, kIsi_ap, ev_isi, kBlt_ap, ev_blt, kMut3_ap, kMut2_ap, kMut1_ap, ev_mut, kPrm_ap, ev_prm, kC3_t, kC3_f, kC2_ap, kN_ap, kComp_ap, kLs_ap, kLsc_ap, kK3_t, kK3_f, kK2_ap, ev_comp, ev_lsc, kCons_ap, kEvs2_ap, kEvs1_ap, ev_nil, ev_cons, kSq_ap, ev_sq, kRng_ap, ev_rng1, k_enm2_ap, k_enm_ap, ev_ienm, k_rev2_ap, k_rev_ap, ev_irev, kTest_ap, ev_t0, ev_t1, ev_T, kRet_ap, ev_ret, ev_retN, nextE_ok, kAsg_ap, ev_asg, kNew2_ap, kNew1_ap, ev_new, kExp_ap, ev_exp, kIf_t, kIf_f, ev_if, kTurn_ap, kFor_ap, ev_for, kSix4_ap, kSix3_ap, kSix2_ap, kSix1_ap, ev_six, ev_pass, kSeq_n, kSeq_r, ev_s0, ev_s1, kLeave_n, kLeave_d, kLeave_l, kLeave_k, kLeave_o, run_def, rpm, startE, give, truthW, viewD, viewL, fz, isTy, kb, ki, dTruth, rcmp, rcmpD, cmpI, ridx_t0, ridx_t1, ridx_t2, ridx_t3, ridx_l0, ridx_l1, ridx_l2, ridx_l3, eqD_str, eqD_int, rbin, rblt, opt_some, opt_none, Res.bind_ok, Res.bind_stuck, Res.bind_exc, bindT, setAll, datas, asInt, itemsW, listD, rsl, List.map_cons, List.map_nil, List.length_cons, List.length_nil, List.cons_append, List.nil_append, List.replicate, List.getElem?_cons_zero, List.getElem?_cons_succ, List.headD_nil, List.headD_cons, List.tail_nil, List.tail_cons, Option.map_some, Option.map_none, List.set_cons_zero, List.set_cons_succ, ofS_beq, Bool.not_true, Bool.not_false, Bool.or_false, Bool.or_true, Bool.and_true, Bool.and_false, Bool.false_eq_true, if_true, if_false, rowD]
  | _ => simp [turn_ap, bkB, locR_ok, ev_loc, ev_dat, optB_ok, kBin2_ap, kBin1_ap, ev_bin, kCmp2_ap, kCmp1_ap, ev_cmp, kChn3_t, kChn3_f, kChn2_ap, kChn1_ap, ev_chn, kIsN_ap, ev_isN, kAnd2_t, kAnd2_f, kAnd1_ap, ev_and, kOr2_t, kOr2_f, kOr1_ap, ev_or, kNot_ap, ev_not, kIte2_t, kIte2_f, kIte1_ap, ev_ite, optT_ok, optL_ok, kTup_ap, kLst_ap, ev_tup, ev_lst, kIdx2_ap, kIdx1_ap, ev_idx, kslF3_ap, kslF2_ap, kslF1_ap, ev_slF, kslT3_ap, kslT2_ap, kslT1_ap, ev_slT, kRev2_ap, kRev_ap, ev_rev, kCall_ap, ev_call, kIsi2_ap, kIsi_ap, ev_isi, kBlt_ap, ev_blt, kMut3_ap, kMut2_ap, kMut1_ap, ev_mut, kPrm_ap, ev_prm, kC3_t, kC3_f, kC2_ap, kN_ap, kComp_ap, kLs_ap, kLsc_ap, kK3_t, kK3_f, kK2_ap, ev_comp, ev_lsc, kCons_ap, kEvs2_ap, kEvs1_ap, ev_nil, ev_cons, kSq_ap, ev_sq, kRng_ap, ev_rng1, k_enm2_ap, k_enm_ap, ev_ienm, k_rev2_ap, k_rev_ap, ev_irev, kTest_ap, ev_t0, ev_t1, ev_T, kRet_ap, ev_ret, ev_retN, nextE_ok, kAsg_ap, ev_asg, kNew2_ap, kNew1_ap, ev_new, kExp_ap, ev_exp, kIf_t, kIf_f, ev_if, kTurn_ap, kFor_ap, ev_for, kSix4_ap, kSix3_ap, kSix2_ap, kSix1_ap, ev_six, ev_pass, kSeq_n, kSeq_r, ev_s0, ev_s1, kLeave_n, kLeave_d, kLeave_l, kLeave_k, kLeave_o, run_def, rpm, startE, give, truthW, viewD, viewL, fz, isTy, kb, ki, dTruth, rcmp, rcmpD, cmpI, ridx_t0, ridx_t1, ridx_t2, ridx_t3, ridx_l0, ridx_l1, ridx_l2, ridx_l3, eqD_str, eqD_int, rbin, rblt, opt_some, opt_none, Res.bind_ok, Res.bind_stuck, Res.bind_exc, bindT, setAll, datas, asInt, itemsW, listD, rsl, List.map_cons, List.map_nil, List.length_cons, List.length_nil, List.cons_append, List.nil_append, List.replicate, List.getElem?_cons_zero, List.getElem?_cons_succ, List.headD_nil, List.headD_cons, List.tail_nil, List.tail_cons, Option.map_some, Option.map_none, List.set_cons_zero, List.set_cons_succ, ofS_beq, Bool.not_true, Bool.not_false, Bool.or_false, Bool.or_true, Bool.and_true, Bool.and_false, Bool.false_eq_true, if_true, if_false, rowD]
theorem bk_loop (u : Ups tab) {k : Nat} {t : Option W} : ∀ (rows : List D) (o : Option W), ∃ o', loopF (turn (Cn tab (k + 1)) (.nm 1) bkB) (rows.map .d) [t, o] S = .ok (if rows.all rowD then .next [t, o'] else .ret (.w (.d (.bool false)))) S
  | [], o => ⟨o, rfl⟩
  | r :: rows, o => by
    obtain ⟨o', h⟩ := bk_loop u (k := k) (t := t) rows (some (.d r))
    refine ⟨o', ?_⟩
    simp only [List.map_cons, loopF, bk_turn u, Res.bind_ok, List.all_cons]
    rcases Bool.eq_false_or_eq_true (rowD r) with hr | hr
    · simp only [hr, if_true, Bool.true_and]
      exact h
    · simp [hr]
theorem is_book_ok (u : Ups tab) {k : Nat} {x : D} : Cn tab (k + 2) "is_book" [.d x] S = .ok (kb (isBookD x)) S := by
  rw [u_is_book u]
  cases x with
  | tuple rows =>
    by_cases hl : rows.length ≤ 20
    · obtain ⟨o', h⟩ := bk_loop (S := S) u (k := k) (t := some (.d (.tuple rows))) rows none
      have h20 : decide ((20 : Int) < rows.length) = false := by simp; omega
      have eb : b_is_book = [.ite (.or (.not (.isi (.loc 0) .tup)) (.cmp .gt (.blt .len [(.loc 0)]) (.dat g_MOST_WORDS))) [.ret (.dat (.bool false))] [],
        .for_ (.nm 1) (.sq (.loc 0)) bkB, .ret (.cmp .eq (.lsc (.idx (.loc 1) (.dat (.int 0))) (.nm 1) (.sq (.loc 0)) [] [1]) (.blt .len [(.loc 0)]))] := rfl
      cases ha : rows.all rowD with
      | false =>
        rw [ha] at h
        simp only [eb, locR_ok, ev_loc, ev_dat, optB_ok, kBin2_ap, kBin1_ap, ev_bin, kCmp2_ap, kCmp1_ap, ev_cmp, kChn3_t, kChn3_f, kChn2_ap, kChn1_ap, ev_chn, kIsN_ap, ev_isN, kAnd2_t, kAnd2_f, kAnd1_ap, ev_and, kOr2_t, kOr2_f, kOr1_ap, ev_or, kNot_ap, ev_not, kIte2_t, kIte2_f, kIte1_ap, ev_ite, optT_ok, optL_ok, kTup_ap, kLst_ap, ev_tup, ev_lst, kIdx2_ap, kIdx1_ap, ev_idx, kslF3_ap, kslF2_ap, kslF1_ap, ev_slF, kslT3_ap, kslT2_ap, kslT1_ap, ev_slT, kRev2_ap, kRev_ap, ev_rev, kCall_ap, ev_call, kIsi2_ap, kIsi_ap, ev_isi, kBlt_ap, ev_blt, kMut3_ap, kMut2_ap, kMut1_ap, ev_mut, kPrm_ap, ev_prm, kC3_t, kC3_f, kC2_ap, kN_ap, kComp_ap, kLs_ap, kLsc_ap, kK3_t, kK3_f, kK2_ap, ev_comp, ev_lsc, kCons_ap, kEvs2_ap, kEvs1_ap, ev_nil, ev_cons, kSq_ap, ev_sq, kRng_ap, ev_rng1, k_enm2_ap, k_enm_ap, ev_ienm, k_rev2_ap, k_rev_ap, ev_irev, kTest_ap, ev_t0, ev_t1, ev_T, kRet_ap, ev_ret, ev_retN, nextE_ok, kAsg_ap, ev_asg, kNew2_ap, kNew1_ap, ev_new, kExp_ap, ev_exp, kIf_t, kIf_f, ev_if, kTurn_ap, kFor_ap, ev_for, kSix4_ap, kSix3_ap, kSix2_ap, kSix1_ap, ev_six, ev_pass, kSeq_n, kSeq_r, ev_s0, ev_s1, kLeave_n, kLeave_d, kLeave_l, kLeave_k, kLeave_o, run_def, rpm, startE, give, truthW, viewD, viewL, fz, isTy, kb, ki, dTruth, rcmp, rcmpD, cmpI, ridx_t0, ridx_t1, ridx_t2, ridx_t3, ridx_l0, ridx_l1, ridx_l2, ridx_l3, eqD_str, eqD_int, rbin, rblt, opt_some, opt_none, Res.bind_ok, Res.bind_stuck, Res.bind_exc, bindT, setAll, datas, asInt, itemsW, listD, rsl, List.map_cons, List.map_nil, List.length_cons, List.length_nil, List.cons_append, List.nil_append, List.replicate, List.getElem?_cons_zero, List.getElem?_cons_succ, List.headD_nil, List.headD_cons, List.tail_nil, List.tail_cons, Option.map_some, Option.map_none, List.set_cons_zero, List.set_cons_succ, ofS_beq, Bool.not_true, Bool.not_false, Bool.or_false, Bool.or_true, Bool.and_true, Bool.and_false, Bool.false_eq_true, if_true, if_false, g_MOST_WORDS, h20, h]
        simp [isBookD, ha]
      | true =>
        rw [ha] at h
        have hk : loopC (kturn (Cn tab (k + 1)) (.idx (.loc 1) (.dat (.int 0))) (.nm 1) [] [1] [some (.d (.tuple rows)), o']) (rows.map .d) S = .ok (rows.map hdD) S := by
          rw [loopC_pure (g := fun w => match w with
            | .d d => some (hdD d)
            | _ => none)]
          · rw [List.filterMap_map]
            congr 1
            show rows.filterMap (some ∘ hdD) = rows.map hdD
            rw [List.filterMap_eq_map]
          · intro w hw
            obtain ⟨r, hr, rfl⟩ := List.mem_map.mp hw
            have h1 := List.all_eq_true.mp ha r hr
            unfold rowD at h1
            split at h1
            · rename_i a b
              obtain ⟨h2, h3⟩ := b2 h1
              cases a with
              | str x => simp [kturn_ap, wipeE, locR_ok, ev_loc, ev_dat, optB_ok, kBin2_ap, kBin1_ap, ev_bin, kCmp2_ap, kCmp1_ap, ev_cmp, kChn3_t, kChn3_f, kChn2_ap, kChn1_ap, ev_chn, kIsN_ap, ev_isN, kAnd2_t, kAnd2_f, kAnd1_ap, ev_and, kOr2_t, kOr2_f, kOr1_ap, ev_or, kNot_ap, ev_not, kIte2_t, kIte2_f, kIte1_ap, ev_ite, optT_ok, optL_ok, kTup_ap, kLst_ap, ev_tup, ev_lst, kIdx2_ap, kIdx1_ap, ev_idx, kslF3_ap, kslF2_ap, kslF1_ap, ev_slF, kslT3_ap, kslT2_ap, kslT1_ap, ev_slT, kRev2_ap, kRev_ap, ev_rev, kCall_ap, ev_call, kIsi2_ap, kIsi_ap, ev_isi, kBlt_ap, ev_blt, kMut3_ap, kMut2_ap, kMut1_ap, ev_mut, kPrm_ap, ev_prm, kC3_t, kC3_f, kC2_ap, kN_ap, kComp_ap, kLs_ap, kLsc_ap, kK3_t, kK3_f, kK2_ap, ev_comp, ev_lsc, kCons_ap, kEvs2_ap, kEvs1_ap, ev_nil, ev_cons, kSq_ap, ev_sq, kRng_ap, ev_rng1, k_enm2_ap, k_enm_ap, ev_ienm, k_rev2_ap, k_rev_ap, ev_irev, kTest_ap, ev_t0, ev_t1, ev_T, kRet_ap, ev_ret, ev_retN, nextE_ok, kAsg_ap, ev_asg, kNew2_ap, kNew1_ap, ev_new, kExp_ap, ev_exp, kIf_t, kIf_f, ev_if, kTurn_ap, kFor_ap, ev_for, kSix4_ap, kSix3_ap, kSix2_ap, kSix1_ap, ev_six, ev_pass, kSeq_n, kSeq_r, ev_s0, ev_s1, kLeave_n, kLeave_d, kLeave_l, kLeave_k, kLeave_o, run_def, rpm, startE, give, truthW, viewD, viewL, fz, isTy, kb, ki, dTruth, rcmp, rcmpD, cmpI, ridx_t0, ridx_t1, ridx_t2, ridx_t3, ridx_l0, ridx_l1, ridx_l2, ridx_l3, eqD_str, eqD_int, rbin, rblt, opt_some, opt_none, Res.bind_ok, Res.bind_stuck, Res.bind_exc, bindT, setAll, datas, asInt, itemsW, listD, rsl, List.map_cons, List.map_nil, List.length_cons, List.length_nil, List.cons_append, List.nil_append, List.replicate, List.getElem?_cons_zero, List.getElem?_cons_succ, List.headD_nil, List.headD_cons, List.tail_nil, List.tail_cons, Option.map_some, Option.map_none, List.set_cons_zero, List.set_cons_succ, ofS_beq, Bool.not_true, Bool.not_false, Bool.or_false, Bool.or_true, Bool.and_true, Bool.and_false, Bool.false_eq_true, if_true, if_false, oneK, keyD, hdD]
              | _ => cases h2
            · cases h1
        have hle : (rows.map W.d).length ≤ 4000 := by rw [List.length_map]; omega
        simp only [eb, locR_ok, ev_loc, ev_dat, optB_ok, kBin2_ap, kBin1_ap, ev_bin, kCmp2_ap, kCmp1_ap, ev_cmp, kChn3_t, kChn3_f, kChn2_ap, kChn1_ap, ev_chn, kIsN_ap, ev_isN, kAnd2_t, kAnd2_f, kAnd1_ap, ev_and, kOr2_t, kOr2_f, kOr1_ap, ev_or, kNot_ap, ev_not, kIte2_t, kIte2_f, kIte1_ap, ev_ite, optT_ok, optL_ok, kTup_ap, kLst_ap, ev_tup, ev_lst, kIdx2_ap, kIdx1_ap, ev_idx, kslF3_ap, kslF2_ap, kslF1_ap, ev_slF, kslT3_ap, kslT2_ap, kslT1_ap, ev_slT, kRev2_ap, kRev_ap, ev_rev, kCall_ap, ev_call, kIsi2_ap, kIsi_ap, ev_isi, kBlt_ap, ev_blt, kMut3_ap, kMut2_ap, kMut1_ap, ev_mut, kPrm_ap, ev_prm, kC3_t, kC3_f, kC2_ap, kN_ap, kComp_ap, kLs_ap, kLsc_ap, kK3_t, kK3_f, kK2_ap, ev_comp, ev_lsc, kCons_ap, kEvs2_ap, kEvs1_ap, ev_nil, ev_cons, kSq_ap, ev_sq, kRng_ap, ev_rng1, k_enm2_ap, k_enm_ap, ev_ienm, k_rev2_ap, k_rev_ap, ev_irev, kTest_ap, ev_t0, ev_t1, ev_T, kRet_ap, ev_ret, ev_retN, nextE_ok, kAsg_ap, ev_asg, kNew2_ap, kNew1_ap, ev_new, kExp_ap, ev_exp, kIf_t, kIf_f, ev_if, kTurn_ap, kFor_ap, ev_for, kSix4_ap, kSix3_ap, kSix2_ap, kSix1_ap, ev_six, ev_pass, kSeq_n, kSeq_r, ev_s0, ev_s1, kLeave_n, kLeave_d, kLeave_l, kLeave_k, kLeave_o, run_def, rpm, startE, give, truthW, viewD, viewL, fz, isTy, kb, ki, dTruth, rcmp, rcmpD, cmpI, ridx_t0, ridx_t1, ridx_t2, ridx_t3, ridx_l0, ridx_l1, ridx_l2, ridx_l3, eqD_str, eqD_int, rbin, rblt, opt_some, opt_none, Res.bind_ok, Res.bind_stuck, Res.bind_exc, bindT, setAll, datas, asInt, itemsW, listD, rsl, List.map_cons, List.map_nil, List.length_cons, List.length_nil, List.cons_append, List.nil_append, List.replicate, List.getElem?_cons_zero, List.getElem?_cons_succ, List.headD_nil, List.headD_cons, List.tail_nil, List.tail_cons, Option.map_some, Option.map_none, List.set_cons_zero, List.set_cons_succ, ofS_beq, Bool.not_true, Bool.not_false, Bool.or_false, Bool.or_true, Bool.and_true, Bool.and_false, Bool.false_eq_true, if_true, if_false, g_MOST_WORDS, h20, h, if_pos]
        simp only [locR_ok, ev_loc, ev_dat, optB_ok, kBin2_ap, kBin1_ap, ev_bin, kCmp2_ap, kCmp1_ap, ev_cmp, kChn3_t, kChn3_f, kChn2_ap, kChn1_ap, ev_chn, kIsN_ap, ev_isN, kAnd2_t, kAnd2_f, kAnd1_ap, ev_and, kOr2_t, kOr2_f, kOr1_ap, ev_or, kNot_ap, ev_not, kIte2_t, kIte2_f, kIte1_ap, ev_ite, optT_ok, optL_ok, kTup_ap, kLst_ap, ev_tup, ev_lst, kIdx2_ap, kIdx1_ap, ev_idx, kslF3_ap, kslF2_ap, kslF1_ap, ev_slF, kslT3_ap, kslT2_ap, kslT1_ap, ev_slT, kRev2_ap, kRev_ap, ev_rev, kCall_ap, ev_call, kIsi2_ap, kIsi_ap, ev_isi, kBlt_ap, ev_blt, kMut3_ap, kMut2_ap, kMut1_ap, ev_mut, kPrm_ap, ev_prm, kC3_t, kC3_f, kC2_ap, kN_ap, kComp_ap, kLs_ap, kLsc_ap, kK3_t, kK3_f, kK2_ap, ev_comp, ev_lsc, kCons_ap, kEvs2_ap, kEvs1_ap, ev_nil, ev_cons, kSq_ap, ev_sq, kRng_ap, ev_rng1, k_enm2_ap, k_enm_ap, ev_ienm, k_rev2_ap, k_rev_ap, ev_irev, kTest_ap, ev_t0, ev_t1, ev_T, kRet_ap, ev_ret, ev_retN, nextE_ok, kAsg_ap, ev_asg, kNew2_ap, kNew1_ap, ev_new, kExp_ap, ev_exp, kIf_t, kIf_f, ev_if, kTurn_ap, kFor_ap, ev_for, kSix4_ap, kSix3_ap, kSix2_ap, kSix1_ap, ev_six, ev_pass, kSeq_n, kSeq_r, ev_s0, ev_s1, kLeave_n, kLeave_d, kLeave_l, kLeave_k, kLeave_o, run_def, rpm, startE, give, truthW, viewD, viewL, fz, isTy, kb, ki, dTruth, rcmp, rcmpD, cmpI, ridx_t0, ridx_t1, ridx_t2, ridx_t3, ridx_l0, ridx_l1, ridx_l2, ridx_l3, eqD_str, eqD_int, rbin, rblt, opt_some, opt_none, Res.bind_ok, Res.bind_stuck, Res.bind_exc, bindT, setAll, datas, asInt, itemsW, listD, rsl, List.map_cons, List.map_nil, List.length_cons, List.length_nil, List.cons_append, List.nil_append, List.replicate, List.getElem?_cons_zero, List.getElem?_cons_succ, List.headD_nil, List.headD_cons, List.tail_nil, List.tail_cons, Option.map_some, Option.map_none, List.set_cons_zero, List.set_cons_succ, ofS_beq, Bool.not_true, Bool.not_false, Bool.or_false, Bool.or_true, Bool.and_true, Bool.and_false, Bool.false_eq_true, if_true, if_false, hk, if_pos hle, noX_ok]
        simp only [isBookD, ha, hl, decide_true, Bool.true_and, kb]
        congr 4
        by_cases he : (keysOf (rows.map hdD)).length = rows.length
        · simp [he]
        · simp [he]; omega
    · have h20 : decide ((20 : Int) < rows.length) = true := by simp; omega
      simp [b_is_book, locR_ok, ev_loc, ev_dat, optB_ok, kBin2_ap, kBin1_ap, ev_bin, kCmp2_ap, kCmp1_ap, ev_cmp, kChn3_t, kChn3_f, kChn2_ap, kChn1_ap, ev_chn, kIsN_ap, ev_isN, kAnd2_t, kAnd2_f, kAnd1_ap, ev_and, kOr2_t, kOr2_f, kOr1_ap, ev_or, kNot_ap, ev_not, kIte2_t, kIte2_f, kIte1_ap, ev_ite, optT_ok, optL_ok, kTup_ap, kLst_ap, ev_tup, ev_lst, kIdx2_ap, kIdx1_ap, ev_idx, kslF3_ap, kslF2_ap, kslF1_ap, ev_slF, kslT3_ap, kslT2_ap, kslT1_ap, ev_slT, kRev2_ap, kRev_ap, ev_rev, kCall_ap, ev_call, kIsi2_ap, kIsi_ap, ev_isi, kBlt_ap, ev_blt, kMut3_ap, kMut2_ap, kMut1_ap, ev_mut, kPrm_ap, ev_prm, kC3_t, kC3_f, kC2_ap, kN_ap, kComp_ap, kLs_ap, kLsc_ap, kK3_t, kK3_f, kK2_ap, ev_comp, ev_lsc, kCons_ap, kEvs2_ap, kEvs1_ap, ev_nil, ev_cons, kSq_ap, ev_sq, kRng_ap, ev_rng1, k_enm2_ap, k_enm_ap, ev_ienm, k_rev2_ap, k_rev_ap, ev_irev, kTest_ap, ev_t0, ev_t1, ev_T, kRet_ap, ev_ret, ev_retN, nextE_ok, kAsg_ap, ev_asg, kNew2_ap, kNew1_ap, ev_new, kExp_ap, ev_exp, kIf_t, kIf_f, ev_if, kTurn_ap, kFor_ap, ev_for, kSix4_ap, kSix3_ap, kSix2_ap, kSix1_ap, ev_six, ev_pass, kSeq_n, kSeq_r, ev_s0, ev_s1, kLeave_n, kLeave_d, kLeave_l, kLeave_k, kLeave_o, run_def, rpm, startE, give, truthW, viewD, viewL, fz, isTy, kb, ki, dTruth, rcmp, rcmpD, cmpI, ridx_t0, ridx_t1, ridx_t2, ridx_t3, ridx_l0, ridx_l1, ridx_l2, ridx_l3, eqD_str, eqD_int, rbin, rblt, opt_some, opt_none, Res.bind_ok, Res.bind_stuck, Res.bind_exc, bindT, setAll, datas, asInt, itemsW, listD, rsl, List.map_cons, List.map_nil, List.length_cons, List.length_nil, List.cons_append, List.nil_append, List.replicate, List.getElem?_cons_zero, List.getElem?_cons_succ, List.headD_nil, List.headD_cons, List.tail_nil, List.tail_cons, Option.map_some, Option.map_none, List.set_cons_zero, List.set_cons_succ, ofS_beq, Bool.not_true, Bool.not_false, Bool.or_false, Bool.or_true, Bool.and_true, Bool.and_false, Bool.false_eq_true, if_true, if_false, g_MOST_WORDS, h20, isBookD, hl]
  | _ => simp [b_is_book, locR_ok, ev_loc, ev_dat, optB_ok, kBin2_ap, kBin1_ap, ev_bin, kCmp2_ap, kCmp1_ap, ev_cmp, kChn3_t, kChn3_f, kChn2_ap, kChn1_ap, ev_chn, kIsN_ap, ev_isN, kAnd2_t, kAnd2_f, kAnd1_ap, ev_and, kOr2_t, kOr2_f, kOr1_ap, ev_or, kNot_ap, ev_not, kIte2_t, kIte2_f, kIte1_ap, ev_ite, optT_ok, optL_ok, kTup_ap, kLst_ap, ev_tup, ev_lst, kIdx2_ap, kIdx1_ap, ev_idx, kslF3_ap, kslF2_ap, kslF1_ap, ev_slF, kslT3_ap, kslT2_ap, kslT1_ap, ev_slT, kRev2_ap, kRev_ap, ev_rev, kCall_ap, ev_call, kIsi2_ap, kIsi_ap, ev_isi, kBlt_ap, ev_blt, kMut3_ap, kMut2_ap, kMut1_ap, ev_mut, kPrm_ap, ev_prm, kC3_t, kC3_f, kC2_ap, kN_ap, kComp_ap, kLs_ap, kLsc_ap, kK3_t, kK3_f, kK2_ap, ev_comp, ev_lsc, kCons_ap, kEvs2_ap, kEvs1_ap, ev_nil, ev_cons, kSq_ap, ev_sq, kRng_ap, ev_rng1, k_enm2_ap, k_enm_ap, ev_ienm, k_rev2_ap, k_rev_ap, ev_irev, kTest_ap, ev_t0, ev_t1, ev_T, kRet_ap, ev_ret, ev_retN, nextE_ok, kAsg_ap, ev_asg, kNew2_ap, kNew1_ap, ev_new, kExp_ap, ev_exp, kIf_t, kIf_f, ev_if, kTurn_ap, kFor_ap, ev_for, kSix4_ap, kSix3_ap, kSix2_ap, kSix1_ap, ev_six, ev_pass, kSeq_n, kSeq_r, ev_s0, ev_s1, kLeave_n, kLeave_d, kLeave_l, kLeave_k, kLeave_o, run_def, rpm, startE, give, truthW, viewD, viewL, fz, isTy, kb, ki, dTruth, rcmp, rcmpD, cmpI, ridx_t0, ridx_t1, ridx_t2, ridx_t3, ridx_l0, ridx_l1, ridx_l2, ridx_l3, eqD_str, eqD_int, rbin, rblt, opt_some, opt_none, Res.bind_ok, Res.bind_stuck, Res.bind_exc, bindT, setAll, datas, asInt, itemsW, listD, rsl, List.map_cons, List.map_nil, List.length_cons, List.length_nil, List.cons_append, List.nil_append, List.replicate, List.getElem?_cons_zero, List.getElem?_cons_succ, List.headD_nil, List.headD_cons, List.tail_nil, List.tail_cons, Option.map_some, Option.map_none, List.set_cons_zero, List.set_cons_succ, ofS_beq, Bool.not_true, Bool.not_false, Bool.or_false, Bool.or_true, Bool.and_true, Bool.and_false, Bool.false_eq_true, if_true, if_false, isBookD]
theorem look_ok (u : Ups tab) {k : Nat} {x : D} (h : isBookD x = true) : Cn tab (k + 3) "look" [.d x] S = .ok (.w (.d .none)) S := by
  rw [u_look u]
  simp [b_look, locR_ok, ev_loc, ev_dat, optB_ok, kBin2_ap, kBin1_ap, ev_bin, kCmp2_ap, kCmp1_ap, ev_cmp, kChn3_t, kChn3_f, kChn2_ap, kChn1_ap, ev_chn, kIsN_ap, ev_isN, kAnd2_t, kAnd2_f, kAnd1_ap, ev_and, kOr2_t, kOr2_f, kOr1_ap, ev_or, kNot_ap, ev_not, kIte2_t, kIte2_f, kIte1_ap, ev_ite, optT_ok, optL_ok, kTup_ap, kLst_ap, ev_tup, ev_lst, kIdx2_ap, kIdx1_ap, ev_idx, kslF3_ap, kslF2_ap, kslF1_ap, ev_slF, kslT3_ap, kslT2_ap, kslT1_ap, ev_slT, kRev2_ap, kRev_ap, ev_rev, kCall_ap, ev_call, kIsi2_ap, kIsi_ap, ev_isi, kBlt_ap, ev_blt, kMut3_ap, kMut2_ap, kMut1_ap, ev_mut, kPrm_ap, ev_prm, kC3_t, kC3_f, kC2_ap, kN_ap, kComp_ap, kLs_ap, kLsc_ap, kK3_t, kK3_f, kK2_ap, ev_comp, ev_lsc, kCons_ap, kEvs2_ap, kEvs1_ap, ev_nil, ev_cons, kSq_ap, ev_sq, kRng_ap, ev_rng1, k_enm2_ap, k_enm_ap, ev_ienm, k_rev2_ap, k_rev_ap, ev_irev, kTest_ap, ev_t0, ev_t1, ev_T, kRet_ap, ev_ret, ev_retN, nextE_ok, kAsg_ap, ev_asg, kNew2_ap, kNew1_ap, ev_new, kExp_ap, ev_exp, kIf_t, kIf_f, ev_if, kTurn_ap, kFor_ap, ev_for, kSix4_ap, kSix3_ap, kSix2_ap, kSix1_ap, ev_six, ev_pass, kSeq_n, kSeq_r, ev_s0, ev_s1, kLeave_n, kLeave_d, kLeave_l, kLeave_k, kLeave_o, run_def, rpm, startE, give, truthW, viewD, viewL, fz, isTy, kb, ki, dTruth, rcmp, rcmpD, cmpI, ridx_t0, ridx_t1, ridx_t2, ridx_t3, ridx_l0, ridx_l1, ridx_l2, ridx_l3, eqD_str, eqD_int, rbin, rblt, opt_some, opt_none, Res.bind_ok, Res.bind_stuck, Res.bind_exc, bindT, setAll, datas, asInt, itemsW, listD, rsl, List.map_cons, List.map_nil, List.length_cons, List.length_nil, List.cons_append, List.nil_append, List.replicate, List.getElem?_cons_zero, List.getElem?_cons_succ, List.headD_nil, List.headD_cons, List.tail_nil, List.tail_cons, Option.map_some, Option.map_none, List.set_cons_zero, List.set_cons_succ, ofS_beq, Bool.not_true, Bool.not_false, Bool.or_false, Bool.or_true, Bool.and_true, Bool.and_false, Bool.false_eq_true, if_true, if_false, is_book_ok u, h]
end
end Sc
namespace Sc
open PySem PySem.Spec PyProof.Rows L2
section
variable {tab : Tab} {S : Sto}
abbrev Bk := List (Str × Str)
def pE (p : Str × Str) : D := .tuple [.str p.1, .str p.2]
def bkE (b : Bk) : D := .tuple (b.map pE)
def kindsOk (b : Bk) : Bool := b.all fun p => kindL.any fun y => y == p.2
def plc (x : Str) : Int := match kd_PLACES.lookup x with
  | some (some (.int i)) => i
  | _ => 0
theorem kget_plc {x : Str} (h : (kindL.any fun y => y == x) = true) : kgetW kd_PLACES (.d (.str x)) (.d (.int 0)) = some (.w (.d (.int (plc x)))) := by
  simp only [kindL, List.any_cons, List.any_nil, Bool.or_false, Bool.or_eq_true, beq_iff_eq] at h
  rcases h with h | h | h | h | h | h <;> subst h <;> rfl
def placesD (b : Bk) (w : Str) : D := match b.find? fun p => p.1 == w with
  | some p => .int (plc p.2)
  | none => .none
theorem places_of_ok (u : Ups tab) {k : Nat} {b : Bk} {w : Str} (hb : kindsOk b = true) (hl : b.length ≤ 10000) : Cn tab (k + 1) "places_of" [.d (bkE b), .d (.str w)] S = .ok (.w (.d (placesD b w))) S := by
  rw [u_places_of u]
  have hk : loopC (cturn (Cn tab k) (.prm (.kget kd_PLACES) [(.loc 4), (.dat (.int 0))]) (.tp [3, 4]) [(.cmp .eq (.loc 3) (.loc 1))] [3, 4] [some (.d (bkE b)), some (.d (.str w)), none, none, none]) ((b.map pE).map .d) S = .ok ((b.filter fun p => p.1 == w).map fun p => .int (plc p.2)) S := by
    have e : (b.map pE).map W.d = b.map fun p => .d (pE p) := by rw [List.map_map]; rfl
    rw [e]
    have : ∀ (l : Bk), kindsOk l = true → loopC (cturn (Cn tab k) (.prm (.kget kd_PLACES) [(.loc 4), (.dat (.int 0))]) (.tp [3, 4]) [(.cmp .eq (.loc 3) (.loc 1))] [3, 4] [some (.d (bkE b)), some (.d (.str w)), none, none, none]) (l.map fun p => .d (pE p)) S = .ok ((l.filter fun p => p.1 == w).map fun p => .int (plc p.2)) S := by
      intro l
      induction l with
      | nil => intro _; rfl
      | cons p l ih =>
        intro h
        simp only [kindsOk, List.all_cons] at h
        obtain ⟨h1, h2⟩ := b2 h
        have ih := ih h2
        rw [List.map_cons, List.filter_cons]
        have ht : cturn (Cn tab k) (.prm (.kget kd_PLACES) [(.loc 4), (.dat (.int 0))]) (.tp [3, 4]) [(.cmp .eq (.loc 3) (.loc 1))] [3, 4] [some (.d (bkE b)), some (.d (.str w)), none, none, none] (.d (pE p)) S = .ok (if p.1 == w then some (.int (plc p.2)) else none) S := by
          rcases Bool.eq_false_or_eq_true (p.1 == w) with hw | hw
          · simp [cturn_ap, wipeE, pE, locR_ok, ev_loc, ev_dat, optB_ok, kBin2_ap, kBin1_ap, ev_bin, kCmp2_ap, kCmp1_ap, ev_cmp, kChn3_t, kChn3_f, kChn2_ap, kChn1_ap, ev_chn, kIsN_ap, ev_isN, kAnd2_t, kAnd2_f, kAnd1_ap, ev_and, kOr2_t, kOr2_f, kOr1_ap, ev_or, kNot_ap, ev_not, kIte2_t, kIte2_f, kIte1_ap, ev_ite, optT_ok, optL_ok, kTup_ap, kLst_ap, ev_tup, ev_lst, kIdx2_ap, kIdx1_ap, ev_idx, kslF3_ap, kslF2_ap, kslF1_ap, ev_slF, kslT3_ap, kslT2_ap, kslT1_ap, ev_slT, kRev2_ap, kRev_ap, ev_rev, kCall_ap, ev_call, kIsi2_ap, kIsi_ap, ev_isi, kBlt_ap, ev_blt, kMut3_ap, kMut2_ap, kMut1_ap, ev_mut, kPrm_ap, ev_prm, kC3_t, kC3_f, kC2_ap, kN_ap, kComp_ap, kLs_ap, kLsc_ap, kK3_t, kK3_f, kK2_ap, ev_comp, ev_lsc, kCons_ap, kEvs2_ap, kEvs1_ap, ev_nil, ev_cons, kSq_ap, ev_sq, kRng_ap, ev_rng1, k_enm2_ap, k_enm_ap, ev_ienm, k_rev2_ap, k_rev_ap, ev_irev, kTest_ap, ev_t0, ev_t1, ev_T, kRet_ap, ev_ret, ev_retN, nextE_ok, kAsg_ap, ev_asg, kNew2_ap, kNew1_ap, ev_new, kExp_ap, ev_exp, kIf_t, kIf_f, ev_if, kTurn_ap, kFor_ap, ev_for, kSix4_ap, kSix3_ap, kSix2_ap, kSix1_ap, ev_six, ev_pass, kSeq_n, kSeq_r, ev_s0, ev_s1, kLeave_n, kLeave_d, kLeave_l, kLeave_k, kLeave_o, run_def, rpm, startE, give, truthW, viewD, viewL, fz, isTy, kb, ki, dTruth, rcmp, rcmpD, cmpI, ridx_t0, ridx_t1, ridx_t2, ridx_t3, ridx_l0, ridx_l1, ridx_l2, ridx_l3, eqD_str, eqD_int, rbin, rblt, opt_some, opt_none, Res.bind_ok, Res.bind_stuck, Res.bind_exc, bindT, setAll, datas, asInt, itemsW, listD, rsl, List.map_cons, List.map_nil, List.length_cons, List.length_nil, List.cons_append, List.nil_append, List.replicate, List.getElem?_cons_zero, List.getElem?_cons_succ, List.headD_nil, List.headD_cons, List.tail_nil, List.tail_cons, Option.map_some, Option.map_none, List.set_cons_zero, List.set_cons_succ, ofS_beq, Bool.not_true, Bool.not_false, Bool.or_false, Bool.or_true, Bool.and_true, Bool.and_false, Bool.false_eq_true, if_true, if_false, hw, kget_plc h1, oneD]
          · simp [cturn_ap, wipeE, pE, locR_ok, ev_loc, ev_dat, optB_ok, kBin2_ap, kBin1_ap, ev_bin, kCmp2_ap, kCmp1_ap, ev_cmp, kChn3_t, kChn3_f, kChn2_ap, kChn1_ap, ev_chn, kIsN_ap, ev_isN, kAnd2_t, kAnd2_f, kAnd1_ap, ev_and, kOr2_t, kOr2_f, kOr1_ap, ev_or, kNot_ap, ev_not, kIte2_t, kIte2_f, kIte1_ap, ev_ite, optT_ok, optL_ok, kTup_ap, kLst_ap, ev_tup, ev_lst, kIdx2_ap, kIdx1_ap, ev_idx, kslF3_ap, kslF2_ap, kslF1_ap, ev_slF, kslT3_ap, kslT2_ap, kslT1_ap, ev_slT, kRev2_ap, kRev_ap, ev_rev, kCall_ap, ev_call, kIsi2_ap, kIsi_ap, ev_isi, kBlt_ap, ev_blt, kMut3_ap, kMut2_ap, kMut1_ap, ev_mut, kPrm_ap, ev_prm, kC3_t, kC3_f, kC2_ap, kN_ap, kComp_ap, kLs_ap, kLsc_ap, kK3_t, kK3_f, kK2_ap, ev_comp, ev_lsc, kCons_ap, kEvs2_ap, kEvs1_ap, ev_nil, ev_cons, kSq_ap, ev_sq, kRng_ap, ev_rng1, k_enm2_ap, k_enm_ap, ev_ienm, k_rev2_ap, k_rev_ap, ev_irev, kTest_ap, ev_t0, ev_t1, ev_T, kRet_ap, ev_ret, ev_retN, nextE_ok, kAsg_ap, ev_asg, kNew2_ap, kNew1_ap, ev_new, kExp_ap, ev_exp, kIf_t, kIf_f, ev_if, kTurn_ap, kFor_ap, ev_for, kSix4_ap, kSix3_ap, kSix2_ap, kSix1_ap, ev_six, ev_pass, kSeq_n, kSeq_r, ev_s0, ev_s1, kLeave_n, kLeave_d, kLeave_l, kLeave_k, kLeave_o, run_def, rpm, startE, give, truthW, viewD, viewL, fz, isTy, kb, ki, dTruth, rcmp, rcmpD, cmpI, ridx_t0, ridx_t1, ridx_t2, ridx_t3, ridx_l0, ridx_l1, ridx_l2, ridx_l3, eqD_str, eqD_int, rbin, rblt, opt_some, opt_none, Res.bind_ok, Res.bind_stuck, Res.bind_exc, bindT, setAll, datas, asInt, itemsW, listD, rsl, List.map_cons, List.map_nil, List.length_cons, List.length_nil, List.cons_append, List.nil_append, List.replicate, List.getElem?_cons_zero, List.getElem?_cons_succ, List.headD_nil, List.headD_cons, List.tail_nil, List.tail_cons, Option.map_some, Option.map_none, List.set_cons_zero, List.set_cons_succ, ofS_beq, Bool.not_true, Bool.not_false, Bool.or_false, Bool.or_true, Bool.and_true, Bool.and_false, Bool.false_eq_true, if_true, if_false, hw]
        simp only [loopC, ht, Res.bind_ok, ih]
        rcases Bool.eq_false_or_eq_true (p.1 == w) with hw | hw
        · simp [hw]
        · simp [hw]
    exact this b hb
  have hll : ((b.map pE).map W.d).length ≤ 10000 := by simpa using hl
  have ef : placesD b w = match (b.filter fun p => p.1 == w).map fun p => PyData.int (plc p.2) with
    | x :: _ => x
    | [] => .none := by
    unfold placesD
    clear hk hll hl hb
    induction b with
    | nil => rfl
    | cons p l ih =>
      rw [List.find?_cons, List.filter_cons]
      rcases Bool.eq_false_or_eq_true (p.1 == w) with hw | hw
      · simp [hw]
      · simp only [hw, Bool.false_eq_true, if_false]
        exact ih
  rw [ef]
  generalize ((b.filter fun p => p.1 == w).map fun p => PyData.int (plc p.2)) = found at hk
  simp only [b_places_of, locR_ok, ev_loc, ev_dat, optB_ok, kBin2_ap, kBin1_ap, ev_bin, kCmp2_ap, kCmp1_ap, ev_cmp, kChn3_t, kChn3_f, kChn2_ap, kChn1_ap, ev_chn, kIsN_ap, ev_isN, kAnd2_t, kAnd2_f, kAnd1_ap, ev_and, kOr2_t, kOr2_f, kOr1_ap, ev_or, kNot_ap, ev_not, kIte2_t, kIte2_f, kIte1_ap, ev_ite, optT_ok, optL_ok, kTup_ap, kLst_ap, ev_tup, ev_lst, kIdx2_ap, kIdx1_ap, ev_idx, kslF3_ap, kslF2_ap, kslF1_ap, ev_slF, kslT3_ap, kslT2_ap, kslT1_ap, ev_slT, kRev2_ap, kRev_ap, ev_rev, kCall_ap, ev_call, kIsi2_ap, kIsi_ap, ev_isi, kBlt_ap, ev_blt, kMut3_ap, kMut2_ap, kMut1_ap, ev_mut, kPrm_ap, ev_prm, kC3_t, kC3_f, kC2_ap, kN_ap, kComp_ap, kLs_ap, kLsc_ap, kK3_t, kK3_f, kK2_ap, ev_comp, ev_lsc, kCons_ap, kEvs2_ap, kEvs1_ap, ev_nil, ev_cons, kSq_ap, ev_sq, kRng_ap, ev_rng1, k_enm2_ap, k_enm_ap, ev_ienm, k_rev2_ap, k_rev_ap, ev_irev, kTest_ap, ev_t0, ev_t1, ev_T, kRet_ap, ev_ret, ev_retN, nextE_ok, kAsg_ap, ev_asg, kNew2_ap, kNew1_ap, ev_new, kExp_ap, ev_exp, kIf_t, kIf_f, ev_if, kTurn_ap, kFor_ap, ev_for, kSix4_ap, kSix3_ap, kSix2_ap, kSix1_ap, ev_six, ev_pass, kSeq_n, kSeq_r, ev_s0, ev_s1, kLeave_n, kLeave_d, kLeave_l, kLeave_k, kLeave_o, run_def, rpm, startE, give, truthW, viewD, viewL, fz, isTy, kb, ki, dTruth, rcmp, rcmpD, cmpI, ridx_t0, ridx_t1, ridx_t2, ridx_t3, ridx_l0, ridx_l1, ridx_l2, ridx_l3, eqD_str, eqD_int, rbin, rblt, opt_some, opt_none, Res.bind_ok, Res.bind_stuck, Res.bind_exc, bindT, setAll, datas, asInt, itemsW, listD, rsl, List.map_cons, List.map_nil, List.length_cons, List.length_nil, List.cons_append, List.nil_append, List.replicate, List.getElem?_cons_zero, List.getElem?_cons_succ, List.headD_nil, List.headD_cons, List.tail_nil, List.tail_cons, Option.map_some, Option.map_none, List.set_cons_zero, List.set_cons_succ, ofS_beq, Bool.not_true, Bool.not_false, Bool.or_false, Bool.or_true, Bool.and_true, Bool.and_false, Bool.false_eq_true, if_true, if_false, bkE]
  rw [bkE] at hk
  rw [few_small hll, hk, noX_ok]
  cases found with
  | nil => simp [locR_ok, ev_loc, ev_dat, optB_ok, kBin2_ap, kBin1_ap, ev_bin, kCmp2_ap, kCmp1_ap, ev_cmp, kChn3_t, kChn3_f, kChn2_ap, kChn1_ap, ev_chn, kIsN_ap, ev_isN, kAnd2_t, kAnd2_f, kAnd1_ap, ev_and, kOr2_t, kOr2_f, kOr1_ap, ev_or, kNot_ap, ev_not, kIte2_t, kIte2_f, kIte1_ap, ev_ite, optT_ok, optL_ok, kTup_ap, kLst_ap, ev_tup, ev_lst, kIdx2_ap, kIdx1_ap, ev_idx, kslF3_ap, kslF2_ap, kslF1_ap, ev_slF, kslT3_ap, kslT2_ap, kslT1_ap, ev_slT, kRev2_ap, kRev_ap, ev_rev, kCall_ap, ev_call, kIsi2_ap, kIsi_ap, ev_isi, kBlt_ap, ev_blt, kMut3_ap, kMut2_ap, kMut1_ap, ev_mut, kPrm_ap, ev_prm, kC3_t, kC3_f, kC2_ap, kN_ap, kComp_ap, kLs_ap, kLsc_ap, kK3_t, kK3_f, kK2_ap, ev_comp, ev_lsc, kCons_ap, kEvs2_ap, kEvs1_ap, ev_nil, ev_cons, kSq_ap, ev_sq, kRng_ap, ev_rng1, k_enm2_ap, k_enm_ap, ev_ienm, k_rev2_ap, k_rev_ap, ev_irev, kTest_ap, ev_t0, ev_t1, ev_T, kRet_ap, ev_ret, ev_retN, nextE_ok, kAsg_ap, ev_asg, kNew2_ap, kNew1_ap, ev_new, kExp_ap, ev_exp, kIf_t, kIf_f, ev_if, kTurn_ap, kFor_ap, ev_for, kSix4_ap, kSix3_ap, kSix2_ap, kSix1_ap, ev_six, ev_pass, kSeq_n, kSeq_r, ev_s0, ev_s1, kLeave_n, kLeave_d, kLeave_l, kLeave_k, kLeave_o, run_def, rpm, startE, give, truthW, viewD, viewL, fz, isTy, kb, ki, dTruth, rcmp, rcmpD, cmpI, ridx_t0, ridx_t1, ridx_t2, ridx_t3, ridx_l0, ridx_l1, ridx_l2, ridx_l3, eqD_str, eqD_int, rbin, rblt, opt_some, opt_none, Res.bind_ok, Res.bind_stuck, Res.bind_exc, bindT, setAll, datas, asInt, itemsW, listD, rsl, List.map_cons, List.map_nil, List.length_cons, List.length_nil, List.cons_append, List.nil_append, List.replicate, List.getElem?_cons_zero, List.getElem?_cons_succ, List.headD_nil, List.headD_cons, List.tail_nil, List.tail_cons, Option.map_some, Option.map_none, List.set_cons_zero, List.set_cons_succ, ofS_beq, Bool.not_true, Bool.not_false, Bool.or_false, Bool.or_true, Bool.and_true, Bool.and_false, Bool.false_eq_true, if_true, if_false]
  | cons x r => simp [locR_ok, ev_loc, ev_dat, optB_ok, kBin2_ap, kBin1_ap, ev_bin, kCmp2_ap, kCmp1_ap, ev_cmp, kChn3_t, kChn3_f, kChn2_ap, kChn1_ap, ev_chn, kIsN_ap, ev_isN, kAnd2_t, kAnd2_f, kAnd1_ap, ev_and, kOr2_t, kOr2_f, kOr1_ap, ev_or, kNot_ap, ev_not, kIte2_t, kIte2_f, kIte1_ap, ev_ite, optT_ok, optL_ok, kTup_ap, kLst_ap, ev_tup, ev_lst, kIdx2_ap, kIdx1_ap, ev_idx, kslF3_ap, kslF2_ap, kslF1_ap, ev_slF, kslT3_ap, kslT2_ap, kslT1_ap, ev_slT, kRev2_ap, kRev_ap, ev_rev, kCall_ap, ev_call, kIsi2_ap, kIsi_ap, ev_isi, kBlt_ap, ev_blt, kMut3_ap, kMut2_ap, kMut1_ap, ev_mut, kPrm_ap, ev_prm, kC3_t, kC3_f, kC2_ap, kN_ap, kComp_ap, kLs_ap, kLsc_ap, kK3_t, kK3_f, kK2_ap, ev_comp, ev_lsc, kCons_ap, kEvs2_ap, kEvs1_ap, ev_nil, ev_cons, kSq_ap, ev_sq, kRng_ap, ev_rng1, k_enm2_ap, k_enm_ap, ev_ienm, k_rev2_ap, k_rev_ap, ev_irev, kTest_ap, ev_t0, ev_t1, ev_T, kRet_ap, ev_ret, ev_retN, nextE_ok, kAsg_ap, ev_asg, kNew2_ap, kNew1_ap, ev_new, kExp_ap, ev_exp, kIf_t, kIf_f, ev_if, kTurn_ap, kFor_ap, ev_for, kSix4_ap, kSix3_ap, kSix2_ap, kSix1_ap, ev_six, ev_pass, kSeq_n, kSeq_r, ev_s0, ev_s1, kLeave_n, kLeave_d, kLeave_l, kLeave_k, kLeave_o, run_def, rpm, startE, give, truthW, viewD, viewL, fz, isTy, kb, ki, dTruth, rcmp, rcmpD, cmpI, ridx_t0, ridx_t1, ridx_t2, ridx_t3, ridx_l0, ridx_l1, ridx_l2, ridx_l3, eqD_str, eqD_int, rbin, rblt, opt_some, opt_none, Res.bind_ok, Res.bind_stuck, Res.bind_exc, bindT, setAll, datas, asInt, itemsW, listD, rsl, List.map_cons, List.map_nil, List.length_cons, List.length_nil, List.cons_append, List.nil_append, List.replicate, List.getElem?_cons_zero, List.getElem?_cons_succ, List.headD_nil, List.headD_cons, List.tail_nil, List.tail_cons, Option.map_some, Option.map_none, List.set_cons_zero, List.set_cons_succ, ofS_beq, Bool.not_true, Bool.not_false, Bool.or_false, Bool.or_true, Bool.and_true, Bool.and_false, Bool.false_eq_true, if_true, if_false]
/-! ### things, facts -/
def thingD (b : Bk) : D → Bool
  | .str s => b.any fun p => p.1 == s && p.2 == "name"
  | .tuple [a, x] => PyData.eqv a (.str "it") && withinD 0 99 x
  | .tuple _ => false
  | x => withinD 0 99 x
theorem name_in {b : Bk} {s : Str} : inD (.tuple [.str s, .str "name"]) (bkE b) = some (b.any fun p => p.1 == s && p.2 == "name") := by
  rw [bkE, inD_tup (by simp [PyData.depth, PyData.depthAll]), List.any_map]
  congr 2
  funext p
  simp [pE, PyData.eqv, PyData.eqvAll]
theorem it_eq {a : D} : eqD (.tuple [a]) (.tuple [.str "it"]) = some (PyData.eqv a (.str "it")) := by
  unfold eqD
  rw [if_pos (by refine Nat.le_trans (Nat.min_le_right _ _) ?_; simp [PyData.depth, PyData.depthAll])]
  simp [PyData.eqv, PyData.eqvAll]
theorem is_thing_ok (u : Ups tab) {k : Nat} {b : Bk} {x : D} : Cn tab (k + 2) "is_thing" [.d (bkE b), .d x] S = .ok (kb (thingD b x)) S := by
  rw [u_is_thing u]
  cases x with
  | str s => simp [b_is_thing, locR_ok, ev_loc, ev_dat, optB_ok, kBin2_ap, kBin1_ap, ev_bin, kCmp2_ap, kCmp1_ap, ev_cmp, kChn3_t, kChn3_f, kChn2_ap, kChn1_ap, ev_chn, kIsN_ap, ev_isN, kAnd2_t, kAnd2_f, kAnd1_ap, ev_and, kOr2_t, kOr2_f, kOr1_ap, ev_or, kNot_ap, ev_not, kIte2_t, kIte2_f, kIte1_ap, ev_ite, optT_ok, optL_ok, kTup_ap, kLst_ap, ev_tup, ev_lst, kIdx2_ap, kIdx1_ap, ev_idx, kslF3_ap, kslF2_ap, kslF1_ap, ev_slF, kslT3_ap, kslT2_ap, kslT1_ap, ev_slT, kRev2_ap, kRev_ap, ev_rev, kCall_ap, ev_call, kIsi2_ap, kIsi_ap, ev_isi, kBlt_ap, ev_blt, kMut3_ap, kMut2_ap, kMut1_ap, ev_mut, kPrm_ap, ev_prm, kC3_t, kC3_f, kC2_ap, kN_ap, kComp_ap, kLs_ap, kLsc_ap, kK3_t, kK3_f, kK2_ap, ev_comp, ev_lsc, kCons_ap, kEvs2_ap, kEvs1_ap, ev_nil, ev_cons, kSq_ap, ev_sq, kRng_ap, ev_rng1, k_enm2_ap, k_enm_ap, ev_ienm, k_rev2_ap, k_rev_ap, ev_irev, kTest_ap, ev_t0, ev_t1, ev_T, kRet_ap, ev_ret, ev_retN, nextE_ok, kAsg_ap, ev_asg, kNew2_ap, kNew1_ap, ev_new, kExp_ap, ev_exp, kIf_t, kIf_f, ev_if, kTurn_ap, kFor_ap, ev_for, kSix4_ap, kSix3_ap, kSix2_ap, kSix1_ap, ev_six, ev_pass, kSeq_n, kSeq_r, ev_s0, ev_s1, kLeave_n, kLeave_d, kLeave_l, kLeave_k, kLeave_o, run_def, rpm, startE, give, truthW, viewD, viewL, fz, isTy, kb, ki, dTruth, rcmp, rcmpD, cmpI, ridx_t0, ridx_t1, ridx_t2, ridx_t3, ridx_l0, ridx_l1, ridx_l2, ridx_l3, eqD_str, eqD_int, rbin, rblt, opt_some, opt_none, Res.bind_ok, Res.bind_stuck, Res.bind_exc, bindT, setAll, datas, asInt, itemsW, listD, rsl, List.map_cons, List.map_nil, List.length_cons, List.length_nil, List.cons_append, List.nil_append, List.replicate, List.getElem?_cons_zero, List.getElem?_cons_succ, List.headD_nil, List.headD_cons, List.tail_nil, List.tail_cons, Option.map_some, Option.map_none, List.set_cons_zero, List.set_cons_succ, ofS_beq, Bool.not_true, Bool.not_false, Bool.or_false, Bool.or_true, Bool.and_true, Bool.and_false, Bool.false_eq_true, if_true, if_false, name_in, thingD]
  | tuple ds =>
    cases ds with
    | nil => simp [b_is_thing, locR_ok, ev_loc, ev_dat, optB_ok, kBin2_ap, kBin1_ap, ev_bin, kCmp2_ap, kCmp1_ap, ev_cmp, kChn3_t, kChn3_f, kChn2_ap, kChn1_ap, ev_chn, kIsN_ap, ev_isN, kAnd2_t, kAnd2_f, kAnd1_ap, ev_and, kOr2_t, kOr2_f, kOr1_ap, ev_or, kNot_ap, ev_not, kIte2_t, kIte2_f, kIte1_ap, ev_ite, optT_ok, optL_ok, kTup_ap, kLst_ap, ev_tup, ev_lst, kIdx2_ap, kIdx1_ap, ev_idx, kslF3_ap, kslF2_ap, kslF1_ap, ev_slF, kslT3_ap, kslT2_ap, kslT1_ap, ev_slT, kRev2_ap, kRev_ap, ev_rev, kCall_ap, ev_call, kIsi2_ap, kIsi_ap, ev_isi, kBlt_ap, ev_blt, kMut3_ap, kMut2_ap, kMut1_ap, ev_mut, kPrm_ap, ev_prm, kC3_t, kC3_f, kC2_ap, kN_ap, kComp_ap, kLs_ap, kLsc_ap, kK3_t, kK3_f, kK2_ap, ev_comp, ev_lsc, kCons_ap, kEvs2_ap, kEvs1_ap, ev_nil, ev_cons, kSq_ap, ev_sq, kRng_ap, ev_rng1, k_enm2_ap, k_enm_ap, ev_ienm, k_rev2_ap, k_rev_ap, ev_irev, kTest_ap, ev_t0, ev_t1, ev_T, kRet_ap, ev_ret, ev_retN, nextE_ok, kAsg_ap, ev_asg, kNew2_ap, kNew1_ap, ev_new, kExp_ap, ev_exp, kIf_t, kIf_f, ev_if, kTurn_ap, kFor_ap, ev_for, kSix4_ap, kSix3_ap, kSix2_ap, kSix1_ap, ev_six, ev_pass, kSeq_n, kSeq_r, ev_s0, ev_s1, kLeave_n, kLeave_d, kLeave_l, kLeave_k, kLeave_o, run_def, rpm, startE, give, truthW, viewD, viewL, fz, isTy, kb, ki, dTruth, rcmp, rcmpD, cmpI, ridx_t0, ridx_t1, ridx_t2, ridx_t3, ridx_l0, ridx_l1, ridx_l2, ridx_l3, eqD_str, eqD_int, rbin, rblt, opt_some, opt_none, Res.bind_ok, Res.bind_stuck, Res.bind_exc, bindT, setAll, datas, asInt, itemsW, listD, rsl, List.map_cons, List.map_nil, List.length_cons, List.length_nil, List.cons_append, List.nil_append, List.replicate, List.getElem?_cons_zero, List.getElem?_cons_succ, List.headD_nil, List.headD_cons, List.tail_nil, List.tail_cons, Option.map_some, Option.map_none, List.set_cons_zero, List.set_cons_succ, ofS_beq, Bool.not_true, Bool.not_false, Bool.or_false, Bool.or_true, Bool.and_true, Bool.and_false, Bool.false_eq_true, if_true, if_false, thingD]
    | cons a r =>
      cases r with
      | nil => simp [b_is_thing, locR_ok, ev_loc, ev_dat, optB_ok, kBin2_ap, kBin1_ap, ev_bin, kCmp2_ap, kCmp1_ap, ev_cmp, kChn3_t, kChn3_f, kChn2_ap, kChn1_ap, ev_chn, kIsN_ap, ev_isN, kAnd2_t, kAnd2_f, kAnd1_ap, ev_and, kOr2_t, kOr2_f, kOr1_ap, ev_or, kNot_ap, ev_not, kIte2_t, kIte2_f, kIte1_ap, ev_ite, optT_ok, optL_ok, kTup_ap, kLst_ap, ev_tup, ev_lst, kIdx2_ap, kIdx1_ap, ev_idx, kslF3_ap, kslF2_ap, kslF1_ap, ev_slF, kslT3_ap, kslT2_ap, kslT1_ap, ev_slT, kRev2_ap, kRev_ap, ev_rev, kCall_ap, ev_call, kIsi2_ap, kIsi_ap, ev_isi, kBlt_ap, ev_blt, kMut3_ap, kMut2_ap, kMut1_ap, ev_mut, kPrm_ap, ev_prm, kC3_t, kC3_f, kC2_ap, kN_ap, kComp_ap, kLs_ap, kLsc_ap, kK3_t, kK3_f, kK2_ap, ev_comp, ev_lsc, kCons_ap, kEvs2_ap, kEvs1_ap, ev_nil, ev_cons, kSq_ap, ev_sq, kRng_ap, ev_rng1, k_enm2_ap, k_enm_ap, ev_ienm, k_rev2_ap, k_rev_ap, ev_irev, kTest_ap, ev_t0, ev_t1, ev_T, kRet_ap, ev_ret, ev_retN, nextE_ok, kAsg_ap, ev_asg, kNew2_ap, kNew1_ap, ev_new, kExp_ap, ev_exp, kIf_t, kIf_f, ev_if, kTurn_ap, kFor_ap, ev_for, kSix4_ap, kSix3_ap, kSix2_ap, kSix1_ap, ev_six, ev_pass, kSeq_n, kSeq_r, ev_s0, ev_s1, kLeave_n, kLeave_d, kLeave_l, kLeave_k, kLeave_o, run_def, rpm, startE, give, truthW, viewD, viewL, fz, isTy, kb, ki, dTruth, rcmp, rcmpD, cmpI, ridx_t0, ridx_t1, ridx_t2, ridx_t3, ridx_l0, ridx_l1, ridx_l2, ridx_l3, eqD_str, eqD_int, rbin, rblt, opt_some, opt_none, Res.bind_ok, Res.bind_stuck, Res.bind_exc, bindT, setAll, datas, asInt, itemsW, listD, rsl, List.map_cons, List.map_nil, List.length_cons, List.length_nil, List.cons_append, List.nil_append, List.replicate, List.getElem?_cons_zero, List.getElem?_cons_succ, List.headD_nil, List.headD_cons, List.tail_nil, List.tail_cons, Option.map_some, Option.map_none, List.set_cons_zero, List.set_cons_succ, ofS_beq, Bool.not_true, Bool.not_false, Bool.or_false, Bool.or_true, Bool.and_true, Bool.and_false, Bool.false_eq_true, if_true, if_false, thingD]
      | cons x r =>
        cases r with
        | nil =>
          cases h : PyData.eqv a (.str "it") with
          | true => simp [b_is_thing, locR_ok, ev_loc, ev_dat, optB_ok, kBin2_ap, kBin1_ap, ev_bin, kCmp2_ap, kCmp1_ap, ev_cmp, kChn3_t, kChn3_f, kChn2_ap, kChn1_ap, ev_chn, kIsN_ap, ev_isN, kAnd2_t, kAnd2_f, kAnd1_ap, ev_and, kOr2_t, kOr2_f, kOr1_ap, ev_or, kNot_ap, ev_not, kIte2_t, kIte2_f, kIte1_ap, ev_ite, optT_ok, optL_ok, kTup_ap, kLst_ap, ev_tup, ev_lst, kIdx2_ap, kIdx1_ap, ev_idx, kslF3_ap, kslF2_ap, kslF1_ap, ev_slF, kslT3_ap, kslT2_ap, kslT1_ap, ev_slT, kRev2_ap, kRev_ap, ev_rev, kCall_ap, ev_call, kIsi2_ap, kIsi_ap, ev_isi, kBlt_ap, ev_blt, kMut3_ap, kMut2_ap, kMut1_ap, ev_mut, kPrm_ap, ev_prm, kC3_t, kC3_f, kC2_ap, kN_ap, kComp_ap, kLs_ap, kLsc_ap, kK3_t, kK3_f, kK2_ap, ev_comp, ev_lsc, kCons_ap, kEvs2_ap, kEvs1_ap, ev_nil, ev_cons, kSq_ap, ev_sq, kRng_ap, ev_rng1, k_enm2_ap, k_enm_ap, ev_ienm, k_rev2_ap, k_rev_ap, ev_irev, kTest_ap, ev_t0, ev_t1, ev_T, kRet_ap, ev_ret, ev_retN, nextE_ok, kAsg_ap, ev_asg, kNew2_ap, kNew1_ap, ev_new, kExp_ap, ev_exp, kIf_t, kIf_f, ev_if, kTurn_ap, kFor_ap, ev_for, kSix4_ap, kSix3_ap, kSix2_ap, kSix1_ap, ev_six, ev_pass, kSeq_n, kSeq_r, ev_s0, ev_s1, kLeave_n, kLeave_d, kLeave_l, kLeave_k, kLeave_o, run_def, rpm, startE, give, truthW, viewD, viewL, fz, isTy, kb, ki, dTruth, rcmp, rcmpD, cmpI, ridx_t0, ridx_t1, ridx_t2, ridx_t3, ridx_l0, ridx_l1, ridx_l2, ridx_l3, eqD_str, eqD_int, rbin, rblt, opt_some, opt_none, Res.bind_ok, Res.bind_stuck, Res.bind_exc, bindT, setAll, datas, asInt, itemsW, listD, rsl, List.map_cons, List.map_nil, List.length_cons, List.length_nil, List.cons_append, List.nil_append, List.replicate, List.getElem?_cons_zero, List.getElem?_cons_succ, List.headD_nil, List.headD_cons, List.tail_nil, List.tail_cons, Option.map_some, Option.map_none, List.set_cons_zero, List.set_cons_succ, ofS_beq, Bool.not_true, Bool.not_false, Bool.or_false, Bool.or_true, Bool.and_true, Bool.and_false, Bool.false_eq_true, if_true, if_false, thingD, cutD, HT.sIx, it_eq, h, is_within_ok u, g_MOST_THING]
          | false => simp [b_is_thing, locR_ok, ev_loc, ev_dat, optB_ok, kBin2_ap, kBin1_ap, ev_bin, kCmp2_ap, kCmp1_ap, ev_cmp, kChn3_t, kChn3_f, kChn2_ap, kChn1_ap, ev_chn, kIsN_ap, ev_isN, kAnd2_t, kAnd2_f, kAnd1_ap, ev_and, kOr2_t, kOr2_f, kOr1_ap, ev_or, kNot_ap, ev_not, kIte2_t, kIte2_f, kIte1_ap, ev_ite, optT_ok, optL_ok, kTup_ap, kLst_ap, ev_tup, ev_lst, kIdx2_ap, kIdx1_ap, ev_idx, kslF3_ap, kslF2_ap, kslF1_ap, ev_slF, kslT3_ap, kslT2_ap, kslT1_ap, ev_slT, kRev2_ap, kRev_ap, ev_rev, kCall_ap, ev_call, kIsi2_ap, kIsi_ap, ev_isi, kBlt_ap, ev_blt, kMut3_ap, kMut2_ap, kMut1_ap, ev_mut, kPrm_ap, ev_prm, kC3_t, kC3_f, kC2_ap, kN_ap, kComp_ap, kLs_ap, kLsc_ap, kK3_t, kK3_f, kK2_ap, ev_comp, ev_lsc, kCons_ap, kEvs2_ap, kEvs1_ap, ev_nil, ev_cons, kSq_ap, ev_sq, kRng_ap, ev_rng1, k_enm2_ap, k_enm_ap, ev_ienm, k_rev2_ap, k_rev_ap, ev_irev, kTest_ap, ev_t0, ev_t1, ev_T, kRet_ap, ev_ret, ev_retN, nextE_ok, kAsg_ap, ev_asg, kNew2_ap, kNew1_ap, ev_new, kExp_ap, ev_exp, kIf_t, kIf_f, ev_if, kTurn_ap, kFor_ap, ev_for, kSix4_ap, kSix3_ap, kSix2_ap, kSix1_ap, ev_six, ev_pass, kSeq_n, kSeq_r, ev_s0, ev_s1, kLeave_n, kLeave_d, kLeave_l, kLeave_k, kLeave_o, run_def, rpm, startE, give, truthW, viewD, viewL, fz, isTy, kb, ki, dTruth, rcmp, rcmpD, cmpI, ridx_t0, ridx_t1, ridx_t2, ridx_t3, ridx_l0, ridx_l1, ridx_l2, ridx_l3, eqD_str, eqD_int, rbin, rblt, opt_some, opt_none, Res.bind_ok, Res.bind_stuck, Res.bind_exc, bindT, setAll, datas, asInt, itemsW, listD, rsl, List.map_cons, List.map_nil, List.length_cons, List.length_nil, List.cons_append, List.nil_append, List.replicate, List.getElem?_cons_zero, List.getElem?_cons_succ, List.headD_nil, List.headD_cons, List.tail_nil, List.tail_cons, Option.map_some, Option.map_none, List.set_cons_zero, List.set_cons_succ, ofS_beq, Bool.not_true, Bool.not_false, Bool.or_false, Bool.or_true, Bool.and_true, Bool.and_false, Bool.false_eq_true, if_true, if_false, thingD, cutD, HT.sIx, it_eq, h]
        | cons y r =>
          have h : (((r.length + 1 + 1 + 1 : Nat) : Int) == 2) = false := by simp; omega
          simp only [b_is_thing, locR_ok, ev_loc, ev_dat, optB_ok, kBin2_ap, kBin1_ap, ev_bin, kCmp2_ap, kCmp1_ap, ev_cmp, kChn3_t, kChn3_f, kChn2_ap, kChn1_ap, ev_chn, kIsN_ap, ev_isN, kAnd2_t, kAnd2_f, kAnd1_ap, ev_and, kOr2_t, kOr2_f, kOr1_ap, ev_or, kNot_ap, ev_not, kIte2_t, kIte2_f, kIte1_ap, ev_ite, optT_ok, optL_ok, kTup_ap, kLst_ap, ev_tup, ev_lst, kIdx2_ap, kIdx1_ap, ev_idx, kslF3_ap, kslF2_ap, kslF1_ap, ev_slF, kslT3_ap, kslT2_ap, kslT1_ap, ev_slT, kRev2_ap, kRev_ap, ev_rev, kCall_ap, ev_call, kIsi2_ap, kIsi_ap, ev_isi, kBlt_ap, ev_blt, kMut3_ap, kMut2_ap, kMut1_ap, ev_mut, kPrm_ap, ev_prm, kC3_t, kC3_f, kC2_ap, kN_ap, kComp_ap, kLs_ap, kLsc_ap, kK3_t, kK3_f, kK2_ap, ev_comp, ev_lsc, kCons_ap, kEvs2_ap, kEvs1_ap, ev_nil, ev_cons, kSq_ap, ev_sq, kRng_ap, ev_rng1, k_enm2_ap, k_enm_ap, ev_ienm, k_rev2_ap, k_rev_ap, ev_irev, kTest_ap, ev_t0, ev_t1, ev_T, kRet_ap, ev_ret, ev_retN, nextE_ok, kAsg_ap, ev_asg, kNew2_ap, kNew1_ap, ev_new, kExp_ap, ev_exp, kIf_t, kIf_f, ev_if, kTurn_ap, kFor_ap, ev_for, kSix4_ap, kSix3_ap, kSix2_ap, kSix1_ap, ev_six, ev_pass, kSeq_n, kSeq_r, ev_s0, ev_s1, kLeave_n, kLeave_d, kLeave_l, kLeave_k, kLeave_o, run_def, rpm, startE, give, truthW, viewD, viewL, fz, isTy, kb, ki, dTruth, rcmp, rcmpD, cmpI, ridx_t0, ridx_t1, ridx_t2, ridx_t3, ridx_l0, ridx_l1, ridx_l2, ridx_l3, eqD_str, eqD_int, rbin, rblt, opt_some, opt_none, Res.bind_ok, Res.bind_stuck, Res.bind_exc, bindT, setAll, datas, asInt, itemsW, listD, rsl, List.map_cons, List.map_nil, List.length_cons, List.length_nil, List.cons_append, List.nil_append, List.replicate, List.getElem?_cons_zero, List.getElem?_cons_succ, List.headD_nil, List.headD_cons, List.tail_nil, List.tail_cons, Option.map_some, Option.map_none, List.set_cons_zero, List.set_cons_succ, ofS_beq, Bool.not_true, Bool.not_false, Bool.or_false, Bool.or_true, Bool.and_true, Bool.and_false, Bool.false_eq_true, if_true, if_false, h]
          simp [thingD]
  | int i => simp [b_is_thing, locR_ok, ev_loc, ev_dat, optB_ok, kBin2_ap, kBin1_ap, ev_bin, kCmp2_ap, kCmp1_ap, ev_cmp, kChn3_t, kChn3_f, kChn2_ap, kChn1_ap, ev_chn, kIsN_ap, ev_isN, kAnd2_t, kAnd2_f, kAnd1_ap, ev_and, kOr2_t, kOr2_f, kOr1_ap, ev_or, kNot_ap, ev_not, kIte2_t, kIte2_f, kIte1_ap, ev_ite, optT_ok, optL_ok, kTup_ap, kLst_ap, ev_tup, ev_lst, kIdx2_ap, kIdx1_ap, ev_idx, kslF3_ap, kslF2_ap, kslF1_ap, ev_slF, kslT3_ap, kslT2_ap, kslT1_ap, ev_slT, kRev2_ap, kRev_ap, ev_rev, kCall_ap, ev_call, kIsi2_ap, kIsi_ap, ev_isi, kBlt_ap, ev_blt, kMut3_ap, kMut2_ap, kMut1_ap, ev_mut, kPrm_ap, ev_prm, kC3_t, kC3_f, kC2_ap, kN_ap, kComp_ap, kLs_ap, kLsc_ap, kK3_t, kK3_f, kK2_ap, ev_comp, ev_lsc, kCons_ap, kEvs2_ap, kEvs1_ap, ev_nil, ev_cons, kSq_ap, ev_sq, kRng_ap, ev_rng1, k_enm2_ap, k_enm_ap, ev_ienm, k_rev2_ap, k_rev_ap, ev_irev, kTest_ap, ev_t0, ev_t1, ev_T, kRet_ap, ev_ret, ev_retN, nextE_ok, kAsg_ap, ev_asg, kNew2_ap, kNew1_ap, ev_new, kExp_ap, ev_exp, kIf_t, kIf_f, ev_if, kTurn_ap, kFor_ap, ev_for, kSix4_ap, kSix3_ap, kSix2_ap, kSix1_ap, ev_six, ev_pass, kSeq_n, kSeq_r, ev_s0, ev_s1, kLeave_n, kLeave_d, kLeave_l, kLeave_k, kLeave_o, run_def, rpm, startE, give, truthW, viewD, viewL, fz, isTy, kb, ki, dTruth, rcmp, rcmpD, cmpI, ridx_t0, ridx_t1, ridx_t2, ridx_t3, ridx_l0, ridx_l1, ridx_l2, ridx_l3, eqD_str, eqD_int, rbin, rblt, opt_some, opt_none, Res.bind_ok, Res.bind_stuck, Res.bind_exc, bindT, setAll, datas, asInt, itemsW, listD, rsl, List.map_cons, List.map_nil, List.length_cons, List.length_nil, List.cons_append, List.nil_append, List.replicate, List.getElem?_cons_zero, List.getElem?_cons_succ, List.headD_nil, List.headD_cons, List.tail_nil, List.tail_cons, Option.map_some, Option.map_none, List.set_cons_zero, List.set_cons_succ, ofS_beq, Bool.not_true, Bool.not_false, Bool.or_false, Bool.or_true, Bool.and_true, Bool.and_false, Bool.false_eq_true, if_true, if_false, thingD, is_within_ok u, g_MOST_THING]
  | _ => simp [b_is_thing, locR_ok, ev_loc, ev_dat, optB_ok, kBin2_ap, kBin1_ap, ev_bin, kCmp2_ap, kCmp1_ap, ev_cmp, kChn3_t, kChn3_f, kChn2_ap, kChn1_ap, ev_chn, kIsN_ap, ev_isN, kAnd2_t, kAnd2_f, kAnd1_ap, ev_and, kOr2_t, kOr2_f, kOr1_ap, ev_or, kNot_ap, ev_not, kIte2_t, kIte2_f, kIte1_ap, ev_ite, optT_ok, optL_ok, kTup_ap, kLst_ap, ev_tup, ev_lst, kIdx2_ap, kIdx1_ap, ev_idx, kslF3_ap, kslF2_ap, kslF1_ap, ev_slF, kslT3_ap, kslT2_ap, kslT1_ap, ev_slT, kRev2_ap, kRev_ap, ev_rev, kCall_ap, ev_call, kIsi2_ap, kIsi_ap, ev_isi, kBlt_ap, ev_blt, kMut3_ap, kMut2_ap, kMut1_ap, ev_mut, kPrm_ap, ev_prm, kC3_t, kC3_f, kC2_ap, kN_ap, kComp_ap, kLs_ap, kLsc_ap, kK3_t, kK3_f, kK2_ap, ev_comp, ev_lsc, kCons_ap, kEvs2_ap, kEvs1_ap, ev_nil, ev_cons, kSq_ap, ev_sq, kRng_ap, ev_rng1, k_enm2_ap, k_enm_ap, ev_ienm, k_rev2_ap, k_rev_ap, ev_irev, kTest_ap, ev_t0, ev_t1, ev_T, kRet_ap, ev_ret, ev_retN, nextE_ok, kAsg_ap, ev_asg, kNew2_ap, kNew1_ap, ev_new, kExp_ap, ev_exp, kIf_t, kIf_f, ev_if, kTurn_ap, kFor_ap, ev_for, kSix4_ap, kSix3_ap, kSix2_ap, kSix1_ap, ev_six, ev_pass, kSeq_n, kSeq_r, ev_s0, ev_s1, kLeave_n, kLeave_d, kLeave_l, kLeave_k, kLeave_o, run_def, rpm, startE, give, truthW, viewD, viewL, fz, isTy, kb, ki, dTruth, rcmp, rcmpD, cmpI, ridx_t0, ridx_t1, ridx_t2, ridx_t3, ridx_l0, ridx_l1, ridx_l2, ridx_l3, eqD_str, eqD_int, rbin, rblt, opt_some, opt_none, Res.bind_ok, Res.bind_stuck, Res.bind_exc, bindT, setAll, datas, asInt, itemsW, listD, rsl, List.map_cons, List.map_nil, List.length_cons, List.length_nil, List.cons_append, List.nil_append, List.replicate, List.getElem?_cons_zero, List.getElem?_cons_succ, List.headD_nil, List.headD_cons, List.tail_nil, List.tail_cons, Option.map_some, Option.map_none, List.set_cons_zero, List.set_cons_succ, ofS_beq, Bool.not_true, Bool.not_false, Bool.or_false, Bool.or_true, Bool.and_true, Bool.and_false, Bool.false_eq_true, if_true, if_false, thingD, is_within_ok u, g_MOST_THING]
def factD (b : Bk) : List D → Bool
  | [.str w, .tuple ts] => !ts.isEmpty && (PyData.eqv (placesD b w) (.int ts.length) && ts.all (thingD b))
  | _ => false
theorem places_eq {b : Bk} {w : Str} {n : Int} : eqD (placesD b w) (.int n) = some (PyData.eqv (placesD b w) (.int n)) := by
  unfold eqD
  rw [if_pos (by refine Nat.le_trans (Nat.min_le_right _ _) ?_; simp [PyData.depth])]
theorem is_fact_ok (u : Ups tab) {k : Nat} {b : Bk} {r : List D} (hb : kindsOk b = true) (hl : b.length ≤ 10000) (hr : ∀ w ts, r = [w, .tuple ts] → ts.length ≤ 10000) : Cn tab (k + 3) "is_fact" [.d (bkE b), .d (.tuple (.str "fact" :: r))] S = .ok (kb (factD b r)) S := by
  rw [u_is_fact u]
  cases r with
  | nil => simp [b_is_fact, locR_ok, ev_loc, ev_dat, optB_ok, kBin2_ap, kBin1_ap, ev_bin, kCmp2_ap, kCmp1_ap, ev_cmp, kChn3_t, kChn3_f, kChn2_ap, kChn1_ap, ev_chn, kIsN_ap, ev_isN, kAnd2_t, kAnd2_f, kAnd1_ap, ev_and, kOr2_t, kOr2_f, kOr1_ap, ev_or, kNot_ap, ev_not, kIte2_t, kIte2_f, kIte1_ap, ev_ite, optT_ok, optL_ok, kTup_ap, kLst_ap, ev_tup, ev_lst, kIdx2_ap, kIdx1_ap, ev_idx, kslF3_ap, kslF2_ap, kslF1_ap, ev_slF, kslT3_ap, kslT2_ap, kslT1_ap, ev_slT, kRev2_ap, kRev_ap, ev_rev, kCall_ap, ev_call, kIsi2_ap, kIsi_ap, ev_isi, kBlt_ap, ev_blt, kMut3_ap, kMut2_ap, kMut1_ap, ev_mut, kPrm_ap, ev_prm, kC3_t, kC3_f, kC2_ap, kN_ap, kComp_ap, kLs_ap, kLsc_ap, kK3_t, kK3_f, kK2_ap, ev_comp, ev_lsc, kCons_ap, kEvs2_ap, kEvs1_ap, ev_nil, ev_cons, kSq_ap, ev_sq, kRng_ap, ev_rng1, k_enm2_ap, k_enm_ap, ev_ienm, k_rev2_ap, k_rev_ap, ev_irev, kTest_ap, ev_t0, ev_t1, ev_T, kRet_ap, ev_ret, ev_retN, nextE_ok, kAsg_ap, ev_asg, kNew2_ap, kNew1_ap, ev_new, kExp_ap, ev_exp, kIf_t, kIf_f, ev_if, kTurn_ap, kFor_ap, ev_for, kSix4_ap, kSix3_ap, kSix2_ap, kSix1_ap, ev_six, ev_pass, kSeq_n, kSeq_r, ev_s0, ev_s1, kLeave_n, kLeave_d, kLeave_l, kLeave_k, kLeave_o, run_def, rpm, startE, give, truthW, viewD, viewL, fz, isTy, kb, ki, dTruth, rcmp, rcmpD, cmpI, ridx_t0, ridx_t1, ridx_t2, ridx_t3, ridx_l0, ridx_l1, ridx_l2, ridx_l3, eqD_str, eqD_int, rbin, rblt, opt_some, opt_none, Res.bind_ok, Res.bind_stuck, Res.bind_exc, bindT, setAll, datas, asInt, itemsW, listD, rsl, List.map_cons, List.map_nil, List.length_cons, List.length_nil, List.cons_append, List.nil_append, List.replicate, List.getElem?_cons_zero, List.getElem?_cons_succ, List.headD_nil, List.headD_cons, List.tail_nil, List.tail_cons, Option.map_some, Option.map_none, List.set_cons_zero, List.set_cons_succ, ofS_beq, Bool.not_true, Bool.not_false, Bool.or_false, Bool.or_true, Bool.and_true, Bool.and_false, Bool.false_eq_true, if_true, if_false, factD]
  | cons w r =>
    cases r with
    | nil => simp [b_is_fact, locR_ok, ev_loc, ev_dat, optB_ok, kBin2_ap, kBin1_ap, ev_bin, kCmp2_ap, kCmp1_ap, ev_cmp, kChn3_t, kChn3_f, kChn2_ap, kChn1_ap, ev_chn, kIsN_ap, ev_isN, kAnd2_t, kAnd2_f, kAnd1_ap, ev_and, kOr2_t, kOr2_f, kOr1_ap, ev_or, kNot_ap, ev_not, kIte2_t, kIte2_f, kIte1_ap, ev_ite, optT_ok, optL_ok, kTup_ap, kLst_ap, ev_tup, ev_lst, kIdx2_ap, kIdx1_ap, ev_idx, kslF3_ap, kslF2_ap, kslF1_ap, ev_slF, kslT3_ap, kslT2_ap, kslT1_ap, ev_slT, kRev2_ap, kRev_ap, ev_rev, kCall_ap, ev_call, kIsi2_ap, kIsi_ap, ev_isi, kBlt_ap, ev_blt, kMut3_ap, kMut2_ap, kMut1_ap, ev_mut, kPrm_ap, ev_prm, kC3_t, kC3_f, kC2_ap, kN_ap, kComp_ap, kLs_ap, kLsc_ap, kK3_t, kK3_f, kK2_ap, ev_comp, ev_lsc, kCons_ap, kEvs2_ap, kEvs1_ap, ev_nil, ev_cons, kSq_ap, ev_sq, kRng_ap, ev_rng1, k_enm2_ap, k_enm_ap, ev_ienm, k_rev2_ap, k_rev_ap, ev_irev, kTest_ap, ev_t0, ev_t1, ev_T, kRet_ap, ev_ret, ev_retN, nextE_ok, kAsg_ap, ev_asg, kNew2_ap, kNew1_ap, ev_new, kExp_ap, ev_exp, kIf_t, kIf_f, ev_if, kTurn_ap, kFor_ap, ev_for, kSix4_ap, kSix3_ap, kSix2_ap, kSix1_ap, ev_six, ev_pass, kSeq_n, kSeq_r, ev_s0, ev_s1, kLeave_n, kLeave_d, kLeave_l, kLeave_k, kLeave_o, run_def, rpm, startE, give, truthW, viewD, viewL, fz, isTy, kb, ki, dTruth, rcmp, rcmpD, cmpI, ridx_t0, ridx_t1, ridx_t2, ridx_t3, ridx_l0, ridx_l1, ridx_l2, ridx_l3, eqD_str, eqD_int, rbin, rblt, opt_some, opt_none, Res.bind_ok, Res.bind_stuck, Res.bind_exc, bindT, setAll, datas, asInt, itemsW, listD, rsl, List.map_cons, List.map_nil, List.length_cons, List.length_nil, List.cons_append, List.nil_append, List.replicate, List.getElem?_cons_zero, List.getElem?_cons_succ, List.headD_nil, List.headD_cons, List.tail_nil, List.tail_cons, Option.map_some, Option.map_none, List.set_cons_zero, List.set_cons_succ, ofS_beq, Bool.not_true, Bool.not_false, Bool.or_false, Bool.or_true, Bool.and_true, Bool.and_false, Bool.false_eq_true, if_true, if_false, factD]
    | cons t r =>
      cases r with
      | cons x r =>
        have h : (((r.length + 1 + 1 + 1 + 1 : Nat) : Int) == 3) = false := by simp; omega
        simp only [b_is_fact, locR_ok, ev_loc, ev_dat, optB_ok, kBin2_ap, kBin1_ap, ev_bin, kCmp2_ap, kCmp1_ap, ev_cmp, kChn3_t, kChn3_f, kChn2_ap, kChn1_ap, ev_chn, kIsN_ap, ev_isN, kAnd2_t, kAnd2_f, kAnd1_ap, ev_and, kOr2_t, kOr2_f, kOr1_ap, ev_or, kNot_ap, ev_not, kIte2_t, kIte2_f, kIte1_ap, ev_ite, optT_ok, optL_ok, kTup_ap, kLst_ap, ev_tup, ev_lst, kIdx2_ap, kIdx1_ap, ev_idx, kslF3_ap, kslF2_ap, kslF1_ap, ev_slF, kslT3_ap, kslT2_ap, kslT1_ap, ev_slT, kRev2_ap, kRev_ap, ev_rev, kCall_ap, ev_call, kIsi2_ap, kIsi_ap, ev_isi, kBlt_ap, ev_blt, kMut3_ap, kMut2_ap, kMut1_ap, ev_mut, kPrm_ap, ev_prm, kC3_t, kC3_f, kC2_ap, kN_ap, kComp_ap, kLs_ap, kLsc_ap, kK3_t, kK3_f, kK2_ap, ev_comp, ev_lsc, kCons_ap, kEvs2_ap, kEvs1_ap, ev_nil, ev_cons, kSq_ap, ev_sq, kRng_ap, ev_rng1, k_enm2_ap, k_enm_ap, ev_ienm, k_rev2_ap, k_rev_ap, ev_irev, kTest_ap, ev_t0, ev_t1, ev_T, kRet_ap, ev_ret, ev_retN, nextE_ok, kAsg_ap, ev_asg, kNew2_ap, kNew1_ap, ev_new, kExp_ap, ev_exp, kIf_t, kIf_f, ev_if, kTurn_ap, kFor_ap, ev_for, kSix4_ap, kSix3_ap, kSix2_ap, kSix1_ap, ev_six, ev_pass, kSeq_n, kSeq_r, ev_s0, ev_s1, kLeave_n, kLeave_d, kLeave_l, kLeave_k, kLeave_o, run_def, rpm, startE, give, truthW, viewD, viewL, fz, isTy, kb, ki, dTruth, rcmp, rcmpD, cmpI, ridx_t0, ridx_t1, ridx_t2, ridx_t3, ridx_l0, ridx_l1, ridx_l2, ridx_l3, eqD_str, eqD_int, rbin, rblt, opt_some, opt_none, Res.bind_ok, Res.bind_stuck, Res.bind_exc, bindT, setAll, datas, asInt, itemsW, listD, rsl, List.map_cons, List.map_nil, List.length_cons, List.length_nil, List.cons_append, List.nil_append, List.replicate, List.getElem?_cons_zero, List.getElem?_cons_succ, List.headD_nil, List.headD_cons, List.tail_nil, List.tail_cons, Option.map_some, Option.map_none, List.set_cons_zero, List.set_cons_succ, ofS_beq, Bool.not_true, Bool.not_false, Bool.or_false, Bool.or_true, Bool.and_true, Bool.and_false, Bool.false_eq_true, if_true, if_false, h]
        simp [factD]
      | nil =>
        cases w with
        | str w =>
          cases t with
          | tuple ts =>
            cases ht : ts.isEmpty with
            | true => simp [b_is_fact, locR_ok, ev_loc, ev_dat, optB_ok, kBin2_ap, kBin1_ap, ev_bin, kCmp2_ap, kCmp1_ap, ev_cmp, kChn3_t, kChn3_f, kChn2_ap, kChn1_ap, ev_chn, kIsN_ap, ev_isN, kAnd2_t, kAnd2_f, kAnd1_ap, ev_and, kOr2_t, kOr2_f, kOr1_ap, ev_or, kNot_ap, ev_not, kIte2_t, kIte2_f, kIte1_ap, ev_ite, optT_ok, optL_ok, kTup_ap, kLst_ap, ev_tup, ev_lst, kIdx2_ap, kIdx1_ap, ev_idx, kslF3_ap, kslF2_ap, kslF1_ap, ev_slF, kslT3_ap, kslT2_ap, kslT1_ap, ev_slT, kRev2_ap, kRev_ap, ev_rev, kCall_ap, ev_call, kIsi2_ap, kIsi_ap, ev_isi, kBlt_ap, ev_blt, kMut3_ap, kMut2_ap, kMut1_ap, ev_mut, kPrm_ap, ev_prm, kC3_t, kC3_f, kC2_ap, kN_ap, kComp_ap, kLs_ap, kLsc_ap, kK3_t, kK3_f, kK2_ap, ev_comp, ev_lsc, kCons_ap, kEvs2_ap, kEvs1_ap, ev_nil, ev_cons, kSq_ap, ev_sq, kRng_ap, ev_rng1, k_enm2_ap, k_enm_ap, ev_ienm, k_rev2_ap, k_rev_ap, ev_irev, kTest_ap, ev_t0, ev_t1, ev_T, kRet_ap, ev_ret, ev_retN, nextE_ok, kAsg_ap, ev_asg, kNew2_ap, kNew1_ap, ev_new, kExp_ap, ev_exp, kIf_t, kIf_f, ev_if, kTurn_ap, kFor_ap, ev_for, kSix4_ap, kSix3_ap, kSix2_ap, kSix1_ap, ev_six, ev_pass, kSeq_n, kSeq_r, ev_s0, ev_s1, kLeave_n, kLeave_d, kLeave_l, kLeave_k, kLeave_o, run_def, rpm, startE, give, truthW, viewD, viewL, fz, isTy, kb, ki, dTruth, rcmp, rcmpD, cmpI, ridx_t0, ridx_t1, ridx_t2, ridx_t3, ridx_l0, ridx_l1, ridx_l2, ridx_l3, eqD_str, eqD_int, rbin, rblt, opt_some, opt_none, Res.bind_ok, Res.bind_stuck, Res.bind_exc, bindT, setAll, datas, asInt, itemsW, listD, rsl, List.map_cons, List.map_nil, List.length_cons, List.length_nil, List.cons_append, List.nil_append, List.replicate, List.getElem?_cons_zero, List.getElem?_cons_succ, List.headD_nil, List.headD_cons, List.tail_nil, List.tail_cons, Option.map_some, Option.map_none, List.set_cons_zero, List.set_cons_succ, ofS_beq, Bool.not_true, Bool.not_false, Bool.or_false, Bool.or_true, Bool.and_true, Bool.and_false, Bool.false_eq_true, if_true, if_false, factD, ht]
            | false =>
              cases hp : PyData.eqv (placesD b w) (.int ts.length) with
              | false => simp [b_is_fact, locR_ok, ev_loc, ev_dat, optB_ok, kBin2_ap, kBin1_ap, ev_bin, kCmp2_ap, kCmp1_ap, ev_cmp, kChn3_t, kChn3_f, kChn2_ap, kChn1_ap, ev_chn, kIsN_ap, ev_isN, kAnd2_t, kAnd2_f, kAnd1_ap, ev_and, kOr2_t, kOr2_f, kOr1_ap, ev_or, kNot_ap, ev_not, kIte2_t, kIte2_f, kIte1_ap, ev_ite, optT_ok, optL_ok, kTup_ap, kLst_ap, ev_tup, ev_lst, kIdx2_ap, kIdx1_ap, ev_idx, kslF3_ap, kslF2_ap, kslF1_ap, ev_slF, kslT3_ap, kslT2_ap, kslT1_ap, ev_slT, kRev2_ap, kRev_ap, ev_rev, kCall_ap, ev_call, kIsi2_ap, kIsi_ap, ev_isi, kBlt_ap, ev_blt, kMut3_ap, kMut2_ap, kMut1_ap, ev_mut, kPrm_ap, ev_prm, kC3_t, kC3_f, kC2_ap, kN_ap, kComp_ap, kLs_ap, kLsc_ap, kK3_t, kK3_f, kK2_ap, ev_comp, ev_lsc, kCons_ap, kEvs2_ap, kEvs1_ap, ev_nil, ev_cons, kSq_ap, ev_sq, kRng_ap, ev_rng1, k_enm2_ap, k_enm_ap, ev_ienm, k_rev2_ap, k_rev_ap, ev_irev, kTest_ap, ev_t0, ev_t1, ev_T, kRet_ap, ev_ret, ev_retN, nextE_ok, kAsg_ap, ev_asg, kNew2_ap, kNew1_ap, ev_new, kExp_ap, ev_exp, kIf_t, kIf_f, ev_if, kTurn_ap, kFor_ap, ev_for, kSix4_ap, kSix3_ap, kSix2_ap, kSix1_ap, ev_six, ev_pass, kSeq_n, kSeq_r, ev_s0, ev_s1, kLeave_n, kLeave_d, kLeave_l, kLeave_k, kLeave_o, run_def, rpm, startE, give, truthW, viewD, viewL, fz, isTy, kb, ki, dTruth, rcmp, rcmpD, cmpI, ridx_t0, ridx_t1, ridx_t2, ridx_t3, ridx_l0, ridx_l1, ridx_l2, ridx_l3, eqD_str, eqD_int, rbin, rblt, opt_some, opt_none, Res.bind_ok, Res.bind_stuck, Res.bind_exc, bindT, setAll, datas, asInt, itemsW, listD, rsl, List.map_cons, List.map_nil, List.length_cons, List.length_nil, List.cons_append, List.nil_append, List.replicate, List.getElem?_cons_zero, List.getElem?_cons_succ, List.headD_nil, List.headD_cons, List.tail_nil, List.tail_cons, Option.map_some, Option.map_none, List.set_cons_zero, List.set_cons_succ, ofS_beq, Bool.not_true, Bool.not_false, Bool.or_false, Bool.or_true, Bool.and_true, Bool.and_false, Bool.false_eq_true, if_true, if_false, factD, ht, places_of_ok u hb hl, places_eq, hp]
              | true =>
                have hc : loopC (cturn (Cn tab (k + 2)) (.loc 2) (.nm 2) [(.not (.call "is_thing" [] [(.loc 0), (.loc 2)]))] [2] [some (.d (bkE b)), some (.d (.tuple [.str "fact", .str w, .tuple ts])), none]) (ts.map .d) S = .ok (ts.filter fun t => !thingD b t) S := by
                  have : ∀ l : List D, loopC (cturn (Cn tab (k + 2)) (.loc 2) (.nm 2) [(.not (.call "is_thing" [] [(.loc 0), (.loc 2)]))] [2] [some (.d (bkE b)), some (.d (.tuple [.str "fact", .str w, .tuple ts])), none]) (l.map .d) S = .ok (l.filter fun t => !thingD b t) S := by
                    intro l
                    induction l with
                    | nil => rfl
                    | cons t l ih =>
                      rw [List.map_cons, List.filter_cons]
                      simp only [loopC]
                      cases h : thingD b t with
                      | true => simp [cturn_ap, wipeE, locR_ok, ev_loc, ev_dat, optB_ok, kBin2_ap, kBin1_ap, ev_bin, kCmp2_ap, kCmp1_ap, ev_cmp, kChn3_t, kChn3_f, kChn2_ap, kChn1_ap, ev_chn, kIsN_ap, ev_isN, kAnd2_t, kAnd2_f, kAnd1_ap, ev_and, kOr2_t, kOr2_f, kOr1_ap, ev_or, kNot_ap, ev_not, kIte2_t, kIte2_f, kIte1_ap, ev_ite, optT_ok, optL_ok, kTup_ap, kLst_ap, ev_tup, ev_lst, kIdx2_ap, kIdx1_ap, ev_idx, kslF3_ap, kslF2_ap, kslF1_ap, ev_slF, kslT3_ap, kslT2_ap, kslT1_ap, ev_slT, kRev2_ap, kRev_ap, ev_rev, kCall_ap, ev_call, kIsi2_ap, kIsi_ap, ev_isi, kBlt_ap, ev_blt, kMut3_ap, kMut2_ap, kMut1_ap, ev_mut, kPrm_ap, ev_prm, kC3_t, kC3_f, kC2_ap, kN_ap, kComp_ap, kLs_ap, kLsc_ap, kK3_t, kK3_f, kK2_ap, ev_comp, ev_lsc, kCons_ap, kEvs2_ap, kEvs1_ap, ev_nil, ev_cons, kSq_ap, ev_sq, kRng_ap, ev_rng1, k_enm2_ap, k_enm_ap, ev_ienm, k_rev2_ap, k_rev_ap, ev_irev, kTest_ap, ev_t0, ev_t1, ev_T, kRet_ap, ev_ret, ev_retN, nextE_ok, kAsg_ap, ev_asg, kNew2_ap, kNew1_ap, ev_new, kExp_ap, ev_exp, kIf_t, kIf_f, ev_if, kTurn_ap, kFor_ap, ev_for, kSix4_ap, kSix3_ap, kSix2_ap, kSix1_ap, ev_six, ev_pass, kSeq_n, kSeq_r, ev_s0, ev_s1, kLeave_n, kLeave_d, kLeave_l, kLeave_k, kLeave_o, run_def, rpm, startE, give, truthW, viewD, viewL, fz, isTy, kb, ki, dTruth, rcmp, rcmpD, cmpI, ridx_t0, ridx_t1, ridx_t2, ridx_t3, ridx_l0, ridx_l1, ridx_l2, ridx_l3, eqD_str, eqD_int, rbin, rblt, opt_some, opt_none, Res.bind_ok, Res.bind_stuck, Res.bind_exc, bindT, setAll, datas, asInt, itemsW, listD, rsl, List.map_cons, List.map_nil, List.length_cons, List.length_nil, List.cons_append, List.nil_append, List.replicate, List.getElem?_cons_zero, List.getElem?_cons_succ, List.headD_nil, List.headD_cons, List.tail_nil, List.tail_cons, Option.map_some, Option.map_none, List.set_cons_zero, List.set_cons_succ, ofS_beq, Bool.not_true, Bool.not_false, Bool.or_false, Bool.or_true, Bool.and_true, Bool.and_false, Bool.false_eq_true, if_true, if_false, is_thing_ok u, h, ih]
                      | false => simp [cturn_ap, wipeE, locR_ok, ev_loc, ev_dat, optB_ok, kBin2_ap, kBin1_ap, ev_bin, kCmp2_ap, kCmp1_ap, ev_cmp, kChn3_t, kChn3_f, kChn2_ap, kChn1_ap, ev_chn, kIsN_ap, ev_isN, kAnd2_t, kAnd2_f, kAnd1_ap, ev_and, kOr2_t, kOr2_f, kOr1_ap, ev_or, kNot_ap, ev_not, kIte2_t, kIte2_f, kIte1_ap, ev_ite, optT_ok, optL_ok, kTup_ap, kLst_ap, ev_tup, ev_lst, kIdx2_ap, kIdx1_ap, ev_idx, kslF3_ap, kslF2_ap, kslF1_ap, ev_slF, kslT3_ap, kslT2_ap, kslT1_ap, ev_slT, kRev2_ap, kRev_ap, ev_rev, kCall_ap, ev_call, kIsi2_ap, kIsi_ap, ev_isi, kBlt_ap, ev_blt, kMut3_ap, kMut2_ap, kMut1_ap, ev_mut, kPrm_ap, ev_prm, kC3_t, kC3_f, kC2_ap, kN_ap, kComp_ap, kLs_ap, kLsc_ap, kK3_t, kK3_f, kK2_ap, ev_comp, ev_lsc, kCons_ap, kEvs2_ap, kEvs1_ap, ev_nil, ev_cons, kSq_ap, ev_sq, kRng_ap, ev_rng1, k_enm2_ap, k_enm_ap, ev_ienm, k_rev2_ap, k_rev_ap, ev_irev, kTest_ap, ev_t0, ev_t1, ev_T, kRet_ap, ev_ret, ev_retN, nextE_ok, kAsg_ap, ev_asg, kNew2_ap, kNew1_ap, ev_new, kExp_ap, ev_exp, kIf_t, kIf_f, ev_if, kTurn_ap, kFor_ap, ev_for, kSix4_ap, kSix3_ap, kSix2_ap, kSix1_ap, ev_six, ev_pass, kSeq_n, kSeq_r, ev_s0, ev_s1, kLeave_n, kLeave_d, kLeave_l, kLeave_k, kLeave_o, run_def, rpm, startE, give, truthW, viewD, viewL, fz, isTy, kb, ki, dTruth, rcmp, rcmpD, cmpI, ridx_t0, ridx_t1, ridx_t2, ridx_t3, ridx_l0, ridx_l1, ridx_l2, ridx_l3, eqD_str, eqD_int, rbin, rblt, opt_some, opt_none, Res.bind_ok, Res.bind_stuck, Res.bind_exc, bindT, setAll, datas, asInt, itemsW, listD, rsl, List.map_cons, List.map_nil, List.length_cons, List.length_nil, List.cons_append, List.nil_append, List.replicate, List.getElem?_cons_zero, List.getElem?_cons_succ, List.headD_nil, List.headD_cons, List.tail_nil, List.tail_cons, Option.map_some, Option.map_none, List.set_cons_zero, List.set_cons_succ, ofS_beq, Bool.not_true, Bool.not_false, Bool.or_false, Bool.or_true, Bool.and_true, Bool.and_false, Bool.false_eq_true, if_true, if_false, is_thing_ok u, h, ih, oneD]
                  exact this ts
                have hll : (ts.map W.d).length ≤ 10000 := by rw [List.length_map]; exact hr _ ts rfl
                have he : (ts.filter fun t => !thingD b t).isEmpty = ts.all (thingD b) := by
                  clear hc hll hp ht hr
                  induction ts with
                  | nil => rfl
                  | cons t l ih =>
                    rw [List.filter_cons, List.all_cons]
                    cases h : thingD b t with
                    | true => simpa using ih
                    | false => simp
                have hll' : ts.length ≤ 10000 := hr _ ts rfl
                simp [b_is_fact, locR_ok, ev_loc, ev_dat, optB_ok, kBin2_ap, kBin1_ap, ev_bin, kCmp2_ap, kCmp1_ap, ev_cmp, kChn3_t, kChn3_f, kChn2_ap, kChn1_ap, ev_chn, kIsN_ap, ev_isN, kAnd2_t, kAnd2_f, kAnd1_ap, ev_and, kOr2_t, kOr2_f, kOr1_ap, ev_or, kNot_ap, ev_not, kIte2_t, kIte2_f, kIte1_ap, ev_ite, optT_ok, optL_ok, kTup_ap, kLst_ap, ev_tup, ev_lst, kIdx2_ap, kIdx1_ap, ev_idx, kslF3_ap, kslF2_ap, kslF1_ap, ev_slF, kslT3_ap, kslT2_ap, kslT1_ap, ev_slT, kRev2_ap, kRev_ap, ev_rev, kCall_ap, ev_call, kIsi2_ap, kIsi_ap, ev_isi, kBlt_ap, ev_blt, kMut3_ap, kMut2_ap, kMut1_ap, ev_mut, kPrm_ap, ev_prm, kC3_t, kC3_f, kC2_ap, kN_ap, kComp_ap, kLs_ap, kLsc_ap, kK3_t, kK3_f, kK2_ap, ev_comp, ev_lsc, kCons_ap, kEvs2_ap, kEvs1_ap, ev_nil, ev_cons, kSq_ap, ev_sq, kRng_ap, ev_rng1, k_enm2_ap, k_enm_ap, ev_ienm, k_rev2_ap, k_rev_ap, ev_irev, kTest_ap, ev_t0, ev_t1, ev_T, kRet_ap, ev_ret, ev_retN, nextE_ok, kAsg_ap, ev_asg, kNew2_ap, kNew1_ap, ev_new, kExp_ap, ev_exp, kIf_t, kIf_f, ev_if, kTurn_ap, kFor_ap, ev_for, kSix4_ap, kSix3_ap, kSix2_ap, kSix1_ap, ev_six, ev_pass, kSeq_n, kSeq_r, ev_s0, ev_s1, kLeave_n, kLeave_d, kLeave_l, kLeave_k, kLeave_o, run_def, rpm, startE, give, truthW, viewD, viewL, fz, isTy, kb, ki, dTruth, rcmp, rcmpD, cmpI, ridx_t0, ridx_t1, ridx_t2, ridx_t3, ridx_l0, ridx_l1, ridx_l2, ridx_l3, eqD_str, eqD_int, rbin, rblt, opt_some, opt_none, Res.bind_ok, Res.bind_stuck, Res.bind_exc, bindT, setAll, datas, asInt, itemsW, listD, rsl, List.map_cons, List.map_nil, List.length_cons, List.length_nil, List.cons_append, List.nil_append, List.replicate, List.getElem?_cons_zero, List.getElem?_cons_succ, List.headD_nil, List.headD_cons, List.tail_nil, List.tail_cons, Option.map_some, Option.map_none, List.set_cons_zero, List.set_cons_succ, ofS_beq, Bool.not_true, Bool.not_false, Bool.or_false, Bool.or_true, Bool.and_true, Bool.and_false, Bool.false_eq_true, if_true, if_false, ht, places_of_ok u hb hl, places_eq, hp, hc, few_small hll, few_small hll', noX_ok, he, factD]
          | _ => simp [b_is_fact, locR_ok, ev_loc, ev_dat, optB_ok, kBin2_ap, kBin1_ap, ev_bin, kCmp2_ap, kCmp1_ap, ev_cmp, kChn3_t, kChn3_f, kChn2_ap, kChn1_ap, ev_chn, kIsN_ap, ev_isN, kAnd2_t, kAnd2_f, kAnd1_ap, ev_and, kOr2_t, kOr2_f, kOr1_ap, ev_or, kNot_ap, ev_not, kIte2_t, kIte2_f, kIte1_ap, ev_ite, optT_ok, optL_ok, kTup_ap, kLst_ap, ev_tup, ev_lst, kIdx2_ap, kIdx1_ap, ev_idx, kslF3_ap, kslF2_ap, kslF1_ap, ev_slF, kslT3_ap, kslT2_ap, kslT1_ap, ev_slT, kRev2_ap, kRev_ap, ev_rev, kCall_ap, ev_call, kIsi2_ap, kIsi_ap, ev_isi, kBlt_ap, ev_blt, kMut3_ap, kMut2_ap, kMut1_ap, ev_mut, kPrm_ap, ev_prm, kC3_t, kC3_f, kC2_ap, kN_ap, kComp_ap, kLs_ap, kLsc_ap, kK3_t, kK3_f, kK2_ap, ev_comp, ev_lsc, kCons_ap, kEvs2_ap, kEvs1_ap, ev_nil, ev_cons, kSq_ap, ev_sq, kRng_ap, ev_rng1, k_enm2_ap, k_enm_ap, ev_ienm, k_rev2_ap, k_rev_ap, ev_irev, kTest_ap, ev_t0, ev_t1, ev_T, kRet_ap, ev_ret, ev_retN, nextE_ok, kAsg_ap, ev_asg, kNew2_ap, kNew1_ap, ev_new, kExp_ap, ev_exp, kIf_t, kIf_f, ev_if, kTurn_ap, kFor_ap, ev_for, kSix4_ap, kSix3_ap, kSix2_ap, kSix1_ap, ev_six, ev_pass, kSeq_n, kSeq_r, ev_s0, ev_s1, kLeave_n, kLeave_d, kLeave_l, kLeave_k, kLeave_o, run_def, rpm, startE, give, truthW, viewD, viewL, fz, isTy, kb, ki, dTruth, rcmp, rcmpD, cmpI, ridx_t0, ridx_t1, ridx_t2, ridx_t3, ridx_l0, ridx_l1, ridx_l2, ridx_l3, eqD_str, eqD_int, rbin, rblt, opt_some, opt_none, Res.bind_ok, Res.bind_stuck, Res.bind_exc, bindT, setAll, datas, asInt, itemsW, listD, rsl, List.map_cons, List.map_nil, List.length_cons, List.length_nil, List.cons_append, List.nil_append, List.replicate, List.getElem?_cons_zero, List.getElem?_cons_succ, List.headD_nil, List.headD_cons, List.tail_nil, List.tail_cons, Option.map_some, Option.map_none, List.set_cons_zero, List.set_cons_succ, ofS_beq, Bool.not_true, Bool.not_false, Bool.or_false, Bool.or_true, Bool.and_true, Bool.and_false, Bool.false_eq_true, if_true, if_false, factD]
        | _ => simp [b_is_fact, locR_ok, ev_loc, ev_dat, optB_ok, kBin2_ap, kBin1_ap, ev_bin, kCmp2_ap, kCmp1_ap, ev_cmp, kChn3_t, kChn3_f, kChn2_ap, kChn1_ap, ev_chn, kIsN_ap, ev_isN, kAnd2_t, kAnd2_f, kAnd1_ap, ev_and, kOr2_t, kOr2_f, kOr1_ap, ev_or, kNot_ap, ev_not, kIte2_t, kIte2_f, kIte1_ap, ev_ite, optT_ok, optL_ok, kTup_ap, kLst_ap, ev_tup, ev_lst, kIdx2_ap, kIdx1_ap, ev_idx, kslF3_ap, kslF2_ap, kslF1_ap, ev_slF, kslT3_ap, kslT2_ap, kslT1_ap, ev_slT, kRev2_ap, kRev_ap, ev_rev, kCall_ap, ev_call, kIsi2_ap, kIsi_ap, ev_isi, kBlt_ap, ev_blt, kMut3_ap, kMut2_ap, kMut1_ap, ev_mut, kPrm_ap, ev_prm, kC3_t, kC3_f, kC2_ap, kN_ap, kComp_ap, kLs_ap, kLsc_ap, kK3_t, kK3_f, kK2_ap, ev_comp, ev_lsc, kCons_ap, kEvs2_ap, kEvs1_ap, ev_nil, ev_cons, kSq_ap, ev_sq, kRng_ap, ev_rng1, k_enm2_ap, k_enm_ap, ev_ienm, k_rev2_ap, k_rev_ap, ev_irev, kTest_ap, ev_t0, ev_t1, ev_T, kRet_ap, ev_ret, ev_retN, nextE_ok, kAsg_ap, ev_asg, kNew2_ap, kNew1_ap, ev_new, kExp_ap, ev_exp, kIf_t, kIf_f, ev_if, kTurn_ap, kFor_ap, ev_for, kSix4_ap, kSix3_ap, kSix2_ap, kSix1_ap, ev_six, ev_pass, kSeq_n, kSeq_r, ev_s0, ev_s1, kLeave_n, kLeave_d, kLeave_l, kLeave_k, kLeave_o, run_def, rpm, startE, give, truthW, viewD, viewL, fz, isTy, kb, ki, dTruth, rcmp, rcmpD, cmpI, ridx_t0, ridx_t1, ridx_t2, ridx_t3, ridx_l0, ridx_l1, ridx_l2, ridx_l3, eqD_str, eqD_int, rbin, rblt, opt_some, opt_none, Res.bind_ok, Res.bind_stuck, Res.bind_exc, bindT, setAll, datas, asInt, itemsW, listD, rsl, List.map_cons, List.map_nil, List.length_cons, List.length_nil, List.cons_append, List.nil_append, List.replicate, List.getElem?_cons_zero, List.getElem?_cons_succ, List.headD_nil, List.headD_cons, List.tail_nil, List.tail_cons, Option.map_some, Option.map_none, List.set_cons_zero, List.set_cons_succ, ofS_beq, Bool.not_true, Bool.not_false, Bool.or_false, Bool.or_true, Bool.and_true, Bool.and_false, Bool.false_eq_true, if_true, if_false, factD]
end
end Sc
namespace Sc
open PySem PySem.Spec PyProof.Rows L2
section
variable {tab : Tab} {S : Sto}
def twoL : List Str := ["and", "or", "if"]
def anyL : List Str := ["all", "some"]
theorem g_OF_TWO_eq : g_OF_TWO = .tuple (twoL.map .str) := rfl
theorem g_OF_ANY_eq : g_OF_ANY = .tuple (anyL.map .str) := rfl
def formedD (b : Bk) : Nat → D → Bool
  | 0, _ => false
  | n + 1, .tuple (.str s :: r) =>
    if s == "fact" then factD b r
    else if s == "not" then (match r with
      | [x] => formedD b n x
      | _ => false)
    else if twoL.any fun y => y == s then (match r with
      | [x, y] => formedD b n x && formedD b n y
      | _ => false)
    else if anyL.any fun y => y == s then (match r with
      | [x, y] => withinD 0 99 x && formedD b n y
      | _ => false)
    else false
  | _ + 1, _ => false
theorem depth_mem {x : D} : ∀ {ds : List D}, x ∈ ds → x.depth ≤ PyData.depthAll ds
  | y :: ds, h => by
    unfold PyData.depthAll
    rcases List.mem_cons.mp h with h | h
    · subst h; exact Nat.le_max_left _ _
    · exact Nat.le_trans (depth_mem h) (Nat.le_max_right _ _)
/-- every tuple in it has at most so many items -/
def wideD (d : D) : Prop := ∀ s w ts, d = .tuple [s, w, .tuple ts] → ts.length ≤ 10000
mutual
def thin : D → Bool
  | .list xs => decide (xs.length ≤ 10000) && thins xs
  | .tuple xs => decide (xs.length ≤ 10000) && thins xs
  | _ => true
def thins : List D → Bool
  | [] => true
  | d :: ds => thin d && thins ds
end
theorem thin_mem {x : D} : ∀ {ds : List D}, thins ds = true → x ∈ ds → thin x = true
  | y :: ds, h, hx => by
    unfold thins at h
    obtain ⟨h1, h2⟩ := b2 h
    rcases List.mem_cons.mp hx with hx | hx
    · subst hx; exact h1
    · exact thin_mem h2 hx
theorem thin_tup {ds : List D} (h : thin (.tuple ds) = true) : ds.length ≤ 10000 ∧ thins ds = true := by
  unfold thin at h
  obtain ⟨h1, h2⟩ := b2 h
  exact ⟨of_decide_eq_true h1, h2⟩
theorem not_len {n m : Nat} (h : n ≠ m) : (((n : Nat) : Int) == (m : Int)) = false := by simp; omega
theorem is_formed_ok (u : Ups tab) {b : Bk} (hb : kindsOk b = true) (hl : b.length ≤ 10000) : ∀ (n : Nat) (d : D) (k deep : Nat) (S : Sto), d.depth ≤ n → thin d = true → n + 3 ≤ k → Cn tab k "is_formed" [.d (bkE b), .d d, .d (.int deep)] S = .ok (kb (formedD b deep d)) S := by
  intro n
  induction n with
  | zero =>
    intro d k deep S hd ht hk
    obtain ⟨k, rfl⟩ : ∃ j, k = j + 1 := ⟨k - 1, by omega⟩
    rw [u_is_formed u]
    cases deep with
    | zero => cases d <;> simp [b_is_formed, locR_ok, ev_loc, ev_dat, optB_ok, kBin2_ap, kBin1_ap, ev_bin, kCmp2_ap, kCmp1_ap, ev_cmp, kChn3_t, kChn3_f, kChn2_ap, kChn1_ap, ev_chn, kIsN_ap, ev_isN, kAnd2_t, kAnd2_f, kAnd1_ap, ev_and, kOr2_t, kOr2_f, kOr1_ap, ev_or, kNot_ap, ev_not, kIte2_t, kIte2_f, kIte1_ap, ev_ite, optT_ok, optL_ok, kTup_ap, kLst_ap, ev_tup, ev_lst, kIdx2_ap, kIdx1_ap, ev_idx, kslF3_ap, kslF2_ap, kslF1_ap, ev_slF, kslT3_ap, kslT2_ap, kslT1_ap, ev_slT, kRev2_ap, kRev_ap, ev_rev, kCall_ap, ev_call, kIsi2_ap, kIsi_ap, ev_isi, kBlt_ap, ev_blt, kMut3_ap, kMut2_ap, kMut1_ap, ev_mut, kPrm_ap, ev_prm, kC3_t, kC3_f, kC2_ap, kN_ap, kComp_ap, kLs_ap, kLsc_ap, kK3_t, kK3_f, kK2_ap, ev_comp, ev_lsc, kCons_ap, kEvs2_ap, kEvs1_ap, ev_nil, ev_cons, kSq_ap, ev_sq, kRng_ap, ev_rng1, k_enm2_ap, k_enm_ap, ev_ienm, k_rev2_ap, k_rev_ap, ev_irev, kTest_ap, ev_t0, ev_t1, ev_T, kRet_ap, ev_ret, ev_retN, nextE_ok, kAsg_ap, ev_asg, kNew2_ap, kNew1_ap, ev_new, kExp_ap, ev_exp, kIf_t, kIf_f, ev_if, kTurn_ap, kFor_ap, ev_for, kSix4_ap, kSix3_ap, kSix2_ap, kSix1_ap, ev_six, ev_pass, kSeq_n, kSeq_r, ev_s0, ev_s1, kLeave_n, kLeave_d, kLeave_l, kLeave_k, kLeave_o, run_def, rpm, startE, give, truthW, viewD, viewL, fz, isTy, kb, ki, dTruth, rcmp, rcmpD, cmpI, ridx_t0, ridx_t1, ridx_t2, ridx_t3, ridx_l0, ridx_l1, ridx_l2, ridx_l3, eqD_str, eqD_int, rbin, rblt, opt_some, opt_none, Res.bind_ok, Res.bind_stuck, Res.bind_exc, bindT, setAll, datas, asInt, itemsW, listD, rsl, List.map_cons, List.map_nil, List.length_cons, List.length_nil, List.cons_append, List.nil_append, List.replicate, List.getElem?_cons_zero, List.getElem?_cons_succ, List.headD_nil, List.headD_cons, List.tail_nil, List.tail_cons, Option.map_some, Option.map_none, List.set_cons_zero, List.set_cons_succ, ofS_beq, Bool.not_true, Bool.not_false, Bool.or_false, Bool.or_true, Bool.and_true, Bool.and_false, Bool.false_eq_true, if_true, if_false, formedD]
    | succ m =>
      obtain ⟨z, hz⟩ : ∃ z : Int, ((m + 1 : Nat) : Int) = z := ⟨_, rfl⟩
      rw [hz]
      have hm : (z == 0) = false := by simp; omega
      cases d with
      | tuple ds => simp [PyData.depth] at hd
      | _ => simp [b_is_formed, locR_ok, ev_loc, ev_dat, optB_ok, kBin2_ap, kBin1_ap, ev_bin, kCmp2_ap, kCmp1_ap, ev_cmp, kChn3_t, kChn3_f, kChn2_ap, kChn1_ap, ev_chn, kIsN_ap, ev_isN, kAnd2_t, kAnd2_f, kAnd1_ap, ev_and, kOr2_t, kOr2_f, kOr1_ap, ev_or, kNot_ap, ev_not, kIte2_t, kIte2_f, kIte1_ap, ev_ite, optT_ok, optL_ok, kTup_ap, kLst_ap, ev_tup, ev_lst, kIdx2_ap, kIdx1_ap, ev_idx, kslF3_ap, kslF2_ap, kslF1_ap, ev_slF, kslT3_ap, kslT2_ap, kslT1_ap, ev_slT, kRev2_ap, kRev_ap, ev_rev, kCall_ap, ev_call, kIsi2_ap, kIsi_ap, ev_isi, kBlt_ap, ev_blt, kMut3_ap, kMut2_ap, kMut1_ap, ev_mut, kPrm_ap, ev_prm, kC3_t, kC3_f, kC2_ap, kN_ap, kComp_ap, kLs_ap, kLsc_ap, kK3_t, kK3_f, kK2_ap, ev_comp, ev_lsc, kCons_ap, kEvs2_ap, kEvs1_ap, ev_nil, ev_cons, kSq_ap, ev_sq, kRng_ap, ev_rng1, k_enm2_ap, k_enm_ap, ev_ienm, k_rev2_ap, k_rev_ap, ev_irev, kTest_ap, ev_t0, ev_t1, ev_T, kRet_ap, ev_ret, ev_retN, nextE_ok, kAsg_ap, ev_asg, kNew2_ap, kNew1_ap, ev_new, kExp_ap, ev_exp, kIf_t, kIf_f, ev_if, kTurn_ap, kFor_ap, ev_for, kSix4_ap, kSix3_ap, kSix2_ap, kSix1_ap, ev_six, ev_pass, kSeq_n, kSeq_r, ev_s0, ev_s1, kLeave_n, kLeave_d, kLeave_l, kLeave_k, kLeave_o, run_def, rpm, startE, give, truthW, viewD, viewL, fz, isTy, kb, ki, dTruth, rcmp, rcmpD, cmpI, ridx_t0, ridx_t1, ridx_t2, ridx_t3, ridx_l0, ridx_l1, ridx_l2, ridx_l3, eqD_str, eqD_int, rbin, rblt, opt_some, opt_none, Res.bind_ok, Res.bind_stuck, Res.bind_exc, bindT, setAll, datas, asInt, itemsW, listD, rsl, List.map_cons, List.map_nil, List.length_cons, List.length_nil, List.cons_append, List.nil_append, List.replicate, List.getElem?_cons_zero, List.getElem?_cons_succ, List.headD_nil, List.headD_cons, List.tail_nil, List.tail_cons, Option.map_some, Option.map_none, List.set_cons_zero, List.set_cons_succ, ofS_beq, Bool.not_true, Bool.not_false, Bool.or_false, Bool.or_true, Bool.and_true, Bool.and_false, Bool.false_eq_true, if_true, if_false, formedD, hm]
  | succ n ih =>
    intro d k deep S hd ht hk
    obtain ⟨k, rfl⟩ : ∃ j, k = j + 1 := ⟨k - 1, by omega⟩
    rw [u_is_formed u]
    cases deep with
    | zero => cases d <;> simp [b_is_formed, locR_ok, ev_loc, ev_dat, optB_ok, kBin2_ap, kBin1_ap, ev_bin, kCmp2_ap, kCmp1_ap, ev_cmp, kChn3_t, kChn3_f, kChn2_ap, kChn1_ap, ev_chn, kIsN_ap, ev_isN, kAnd2_t, kAnd2_f, kAnd1_ap, ev_and, kOr2_t, kOr2_f, kOr1_ap, ev_or, kNot_ap, ev_not, kIte2_t, kIte2_f, kIte1_ap, ev_ite, optT_ok, optL_ok, kTup_ap, kLst_ap, ev_tup, ev_lst, kIdx2_ap, kIdx1_ap, ev_idx, kslF3_ap, kslF2_ap, kslF1_ap, ev_slF, kslT3_ap, kslT2_ap, kslT1_ap, ev_slT, kRev2_ap, kRev_ap, ev_rev, kCall_ap, ev_call, kIsi2_ap, kIsi_ap, ev_isi, kBlt_ap, ev_blt, kMut3_ap, kMut2_ap, kMut1_ap, ev_mut, kPrm_ap, ev_prm, kC3_t, kC3_f, kC2_ap, kN_ap, kComp_ap, kLs_ap, kLsc_ap, kK3_t, kK3_f, kK2_ap, ev_comp, ev_lsc, kCons_ap, kEvs2_ap, kEvs1_ap, ev_nil, ev_cons, kSq_ap, ev_sq, kRng_ap, ev_rng1, k_enm2_ap, k_enm_ap, ev_ienm, k_rev2_ap, k_rev_ap, ev_irev, kTest_ap, ev_t0, ev_t1, ev_T, kRet_ap, ev_ret, ev_retN, nextE_ok, kAsg_ap, ev_asg, kNew2_ap, kNew1_ap, ev_new, kExp_ap, ev_exp, kIf_t, kIf_f, ev_if, kTurn_ap, kFor_ap, ev_for, kSix4_ap, kSix3_ap, kSix2_ap, kSix1_ap, ev_six, ev_pass, kSeq_n, kSeq_r, ev_s0, ev_s1, kLeave_n, kLeave_d, kLeave_l, kLeave_k, kLeave_o, run_def, rpm, startE, give, truthW, viewD, viewL, fz, isTy, kb, ki, dTruth, rcmp, rcmpD, cmpI, ridx_t0, ridx_t1, ridx_t2, ridx_t3, ridx_l0, ridx_l1, ridx_l2, ridx_l3, eqD_str, eqD_int, rbin, rblt, opt_some, opt_none, Res.bind_ok, Res.bind_stuck, Res.bind_exc, bindT, setAll, datas, asInt, itemsW, listD, rsl, List.map_cons, List.map_nil, List.length_cons, List.length_nil, List.cons_append, List.nil_append, List.replicate, List.getElem?_cons_zero, List.getElem?_cons_succ, List.headD_nil, List.headD_cons, List.tail_nil, List.tail_cons, Option.map_some, Option.map_none, List.set_cons_zero, List.set_cons_succ, ofS_beq, Bool.not_true, Bool.not_false, Bool.or_false, Bool.or_true, Bool.and_true, Bool.and_false, Bool.false_eq_true, if_true, if_false, formedD]
    | succ m =>
      obtain ⟨z, hz⟩ : ∃ z : Int, ((m + 1 : Nat) : Int) = z := ⟨_, rfl⟩
      rw [hz]
      have hm : (z == 0) = false := by simp; omega
      have hm1 : (z - 1) = (m : Int) := by omega
      cases d with
      | tuple ds =>
        cases ds with
        | nil => simp [b_is_formed, locR_ok, ev_loc, ev_dat, optB_ok, kBin2_ap, kBin1_ap, ev_bin, kCmp2_ap, kCmp1_ap, ev_cmp, kChn3_t, kChn3_f, kChn2_ap, kChn1_ap, ev_chn, kIsN_ap, ev_isN, kAnd2_t, kAnd2_f, kAnd1_ap, ev_and, kOr2_t, kOr2_f, kOr1_ap, ev_or, kNot_ap, ev_not, kIte2_t, kIte2_f, kIte1_ap, ev_ite, optT_ok, optL_ok, kTup_ap, kLst_ap, ev_tup, ev_lst, kIdx2_ap, kIdx1_ap, ev_idx, kslF3_ap, kslF2_ap, kslF1_ap, ev_slF, kslT3_ap, kslT2_ap, kslT1_ap, ev_slT, kRev2_ap, kRev_ap, ev_rev, kCall_ap, ev_call, kIsi2_ap, kIsi_ap, ev_isi, kBlt_ap, ev_blt, kMut3_ap, kMut2_ap, kMut1_ap, ev_mut, kPrm_ap, ev_prm, kC3_t, kC3_f, kC2_ap, kN_ap, kComp_ap, kLs_ap, kLsc_ap, kK3_t, kK3_f, kK2_ap, ev_comp, ev_lsc, kCons_ap, kEvs2_ap, kEvs1_ap, ev_nil, ev_cons, kSq_ap, ev_sq, kRng_ap, ev_rng1, k_enm2_ap, k_enm_ap, ev_ienm, k_rev2_ap, k_rev_ap, ev_irev, kTest_ap, ev_t0, ev_t1, ev_T, kRet_ap, ev_ret, ev_retN, nextE_ok, kAsg_ap, ev_asg, kNew2_ap, kNew1_ap, ev_new, kExp_ap, ev_exp, kIf_t, kIf_f, ev_if, kTurn_ap, kFor_ap, ev_for, kSix4_ap, kSix3_ap, kSix2_ap, kSix1_ap, ev_six, ev_pass, kSeq_n, kSeq_r, ev_s0, ev_s1, kLeave_n, kLeave_d, kLeave_l, kLeave_k, kLeave_o, run_def, rpm, startE, give, truthW, viewD, viewL, fz, isTy, kb, ki, dTruth, rcmp, rcmpD, cmpI, ridx_t0, ridx_t1, ridx_t2, ridx_t3, ridx_l0, ridx_l1, ridx_l2, ridx_l3, eqD_str, eqD_int, rbin, rblt, opt_some, opt_none, Res.bind_ok, Res.bind_stuck, Res.bind_exc, bindT, setAll, datas, asInt, itemsW, listD, rsl, List.map_cons, List.map_nil, List.length_cons, List.length_nil, List.cons_append, List.nil_append, List.replicate, List.getElem?_cons_zero, List.getElem?_cons_succ, List.headD_nil, List.headD_cons, List.tail_nil, List.tail_cons, Option.map_some, Option.map_none, List.set_cons_zero, List.set_cons_succ, ofS_beq, Bool.not_true, Bool.not_false, Bool.or_false, Bool.or_true, Bool.and_true, Bool.and_false, Bool.false_eq_true, if_true, if_false, formedD, hm]
        | cons s r =>
          obtain ⟨hl1, ht1⟩ := thin_tup ht
          have sub : ∀ x ∈ r, ∀ S, Cn tab k "is_formed" [.d (bkE b), .d x, .d (.int m)] S = .ok (kb (formedD b m x)) S := fun x hx S => ih x k m S (by
              have := depth_mem (x := x) (ds := s :: r) (List.mem_cons_of_mem _ hx)
              simp [PyData.depth] at hd
              omega) (thin_mem ht1 (List.mem_cons_of_mem _ hx)) (by omega)
          cases s with
          | str s =>
            rcases Bool.eq_false_or_eq_true (s == Str.ofString "fact") with h1 | h1
            · have e := eq_of_beq h1
              subst e
              obtain ⟨k, rfl⟩ : ∃ j, k = j + 3 := ⟨k - 3, by omega⟩
              have hf := is_fact_ok (S := S) u (k := k) (b := b) (r := r) hb hl (fun w ts e => by
                subst e
                have := thin_mem ht1 (x := .tuple ts) (by simp)
                exact (thin_tup this).1)
              simp [b_is_formed, locR_ok, ev_loc, ev_dat, optB_ok, kBin2_ap, kBin1_ap, ev_bin, kCmp2_ap, kCmp1_ap, ev_cmp, kChn3_t, kChn3_f, kChn2_ap, kChn1_ap, ev_chn, kIsN_ap, ev_isN, kAnd2_t, kAnd2_f, kAnd1_ap, ev_and, kOr2_t, kOr2_f, kOr1_ap, ev_or, kNot_ap, ev_not, kIte2_t, kIte2_f, kIte1_ap, ev_ite, optT_ok, optL_ok, kTup_ap, kLst_ap, ev_tup, ev_lst, kIdx2_ap, kIdx1_ap, ev_idx, kslF3_ap, kslF2_ap, kslF1_ap, ev_slF, kslT3_ap, kslT2_ap, kslT1_ap, ev_slT, kRev2_ap, kRev_ap, ev_rev, kCall_ap, ev_call, kIsi2_ap, kIsi_ap, ev_isi, kBlt_ap, ev_blt, kMut3_ap, kMut2_ap, kMut1_ap, ev_mut, kPrm_ap, ev_prm, kC3_t, kC3_f, kC2_ap, kN_ap, kComp_ap, kLs_ap, kLsc_ap, kK3_t, kK3_f, kK2_ap, ev_comp, ev_lsc, kCons_ap, kEvs2_ap, kEvs1_ap, ev_nil, ev_cons, kSq_ap, ev_sq, kRng_ap, ev_rng1, k_enm2_ap, k_enm_ap, ev_ienm, k_rev2_ap, k_rev_ap, ev_irev, kTest_ap, ev_t0, ev_t1, ev_T, kRet_ap, ev_ret, ev_retN, nextE_ok, kAsg_ap, ev_asg, kNew2_ap, kNew1_ap, ev_new, kExp_ap, ev_exp, kIf_t, kIf_f, ev_if, kTurn_ap, kFor_ap, ev_for, kSix4_ap, kSix3_ap, kSix2_ap, kSix1_ap, ev_six, ev_pass, kSeq_n, kSeq_r, ev_s0, ev_s1, kLeave_n, kLeave_d, kLeave_l, kLeave_k, kLeave_o, run_def, rpm, startE, give, truthW, viewD, viewL, fz, isTy, kb, ki, dTruth, rcmp, rcmpD, cmpI, ridx_t0, ridx_t1, ridx_t2, ridx_t3, ridx_l0, ridx_l1, ridx_l2, ridx_l3, eqD_str, eqD_int, rbin, rblt, opt_some, opt_none, Res.bind_ok, Res.bind_stuck, Res.bind_exc, bindT, setAll, datas, asInt, itemsW, listD, rsl, List.map_cons, List.map_nil, List.length_cons, List.length_nil, List.cons_append, List.nil_append, List.replicate, List.getElem?_cons_zero, List.getElem?_cons_succ, List.headD_nil, List.headD_cons, List.tail_nil, List.tail_cons, Option.map_some, Option.map_none, List.set_cons_zero, List.set_cons_succ, ofS_beq, Bool.not_true, Bool.not_false, Bool.or_false, Bool.or_true, Bool.and_true, Bool.and_false, Bool.false_eq_true, if_true, if_false, formedD, hm, h1, hf, hf]
            · rcases Bool.eq_false_or_eq_true (s == Str.ofString "not") with h2 | h2
              · have e := eq_of_beq h2
                subst e
                cases r with
                | nil => simp [b_is_formed, locR_ok, ev_loc, ev_dat, optB_ok, kBin2_ap, kBin1_ap, ev_bin, kCmp2_ap, kCmp1_ap, ev_cmp, kChn3_t, kChn3_f, kChn2_ap, kChn1_ap, ev_chn, kIsN_ap, ev_isN, kAnd2_t, kAnd2_f, kAnd1_ap, ev_and, kOr2_t, kOr2_f, kOr1_ap, ev_or, kNot_ap, ev_not, kIte2_t, kIte2_f, kIte1_ap, ev_ite, optT_ok, optL_ok, kTup_ap, kLst_ap, ev_tup, ev_lst, kIdx2_ap, kIdx1_ap, ev_idx, kslF3_ap, kslF2_ap, kslF1_ap, ev_slF, kslT3_ap, kslT2_ap, kslT1_ap, ev_slT, kRev2_ap, kRev_ap, ev_rev, kCall_ap, ev_call, kIsi2_ap, kIsi_ap, ev_isi, kBlt_ap, ev_blt, kMut3_ap, kMut2_ap, kMut1_ap, ev_mut, kPrm_ap, ev_prm, kC3_t, kC3_f, kC2_ap, kN_ap, kComp_ap, kLs_ap, kLsc_ap, kK3_t, kK3_f, kK2_ap, ev_comp, ev_lsc, kCons_ap, kEvs2_ap, kEvs1_ap, ev_nil, ev_cons, kSq_ap, ev_sq, kRng_ap, ev_rng1, k_enm2_ap, k_enm_ap, ev_ienm, k_rev2_ap, k_rev_ap, ev_irev, kTest_ap, ev_t0, ev_t1, ev_T, kRet_ap, ev_ret, ev_retN, nextE_ok, kAsg_ap, ev_asg, kNew2_ap, kNew1_ap, ev_new, kExp_ap, ev_exp, kIf_t, kIf_f, ev_if, kTurn_ap, kFor_ap, ev_for, kSix4_ap, kSix3_ap, kSix2_ap, kSix1_ap, ev_six, ev_pass, kSeq_n, kSeq_r, ev_s0, ev_s1, kLeave_n, kLeave_d, kLeave_l, kLeave_k, kLeave_o, run_def, rpm, startE, give, truthW, viewD, viewL, fz, isTy, kb, ki, dTruth, rcmp, rcmpD, cmpI, ridx_t0, ridx_t1, ridx_t2, ridx_t3, ridx_l0, ridx_l1, ridx_l2, ridx_l3, eqD_str, eqD_int, rbin, rblt, opt_some, opt_none, Res.bind_ok, Res.bind_stuck, Res.bind_exc, bindT, setAll, datas, asInt, itemsW, listD, rsl, List.map_cons, List.map_nil, List.length_cons, List.length_nil, List.cons_append, List.nil_append, List.replicate, List.getElem?_cons_zero, List.getElem?_cons_succ, List.headD_nil, List.headD_cons, List.tail_nil, List.tail_cons, Option.map_some, Option.map_none, List.set_cons_zero, List.set_cons_succ, ofS_beq, Bool.not_true, Bool.not_false, Bool.or_false, Bool.or_true, Bool.and_true, Bool.and_false, Bool.false_eq_true, if_true, if_false, formedD, hm, h1, h2, h1, h2]
                | cons x r =>
                  cases r with
                  | nil =>
                    have hx := sub x (by simp) S
                    simp [b_is_formed, locR_ok, ev_loc, ev_dat, optB_ok, kBin2_ap, kBin1_ap, ev_bin, kCmp2_ap, kCmp1_ap, ev_cmp, kChn3_t, kChn3_f, kChn2_ap, kChn1_ap, ev_chn, kIsN_ap, ev_isN, kAnd2_t, kAnd2_f, kAnd1_ap, ev_and, kOr2_t, kOr2_f, kOr1_ap, ev_or, kNot_ap, ev_not, kIte2_t, kIte2_f, kIte1_ap, ev_ite, optT_ok, optL_ok, kTup_ap, kLst_ap, ev_tup, ev_lst, kIdx2_ap, kIdx1_ap, ev_idx, kslF3_ap, kslF2_ap, kslF1_ap, ev_slF, kslT3_ap, kslT2_ap, kslT1_ap, ev_slT, kRev2_ap, kRev_ap, ev_rev, kCall_ap, ev_call, kIsi2_ap, kIsi_ap, ev_isi, kBlt_ap, ev_blt, kMut3_ap, kMut2_ap, kMut1_ap, ev_mut, kPrm_ap, ev_prm, kC3_t, kC3_f, kC2_ap, kN_ap, kComp_ap, kLs_ap, kLsc_ap, kK3_t, kK3_f, kK2_ap, ev_comp, ev_lsc, kCons_ap, kEvs2_ap, kEvs1_ap, ev_nil, ev_cons, kSq_ap, ev_sq, kRng_ap, ev_rng1, k_enm2_ap, k_enm_ap, ev_ienm, k_rev2_ap, k_rev_ap, ev_irev, kTest_ap, ev_t0, ev_t1, ev_T, kRet_ap, ev_ret, ev_retN, nextE_ok, kAsg_ap, ev_asg, kNew2_ap, kNew1_ap, ev_new, kExp_ap, ev_exp, kIf_t, kIf_f, ev_if, kTurn_ap, kFor_ap, ev_for, kSix4_ap, kSix3_ap, kSix2_ap, kSix1_ap, ev_six, ev_pass, kSeq_n, kSeq_r, ev_s0, ev_s1, kLeave_n, kLeave_d, kLeave_l, kLeave_k, kLeave_o, run_def, rpm, startE, give, truthW, viewD, viewL, fz, isTy, kb, ki, dTruth, rcmp, rcmpD, cmpI, ridx_t0, ridx_t1, ridx_t2, ridx_t3, ridx_l0, ridx_l1, ridx_l2, ridx_l3, eqD_str, eqD_int, rbin, rblt, opt_some, opt_none, Res.bind_ok, Res.bind_stuck, Res.bind_exc, bindT, setAll, datas, asInt, itemsW, listD, rsl, List.map_cons, List.map_nil, List.length_cons, List.length_nil, List.cons_append, List.nil_append, List.replicate, List.getElem?_cons_zero, List.getElem?_cons_succ, List.headD_nil, List.headD_cons, List.tail_nil, List.tail_cons, Option.map_some, Option.map_none, List.set_cons_zero, List.set_cons_succ, ofS_beq, Bool.not_true, Bool.not_false, Bool.or_false, Bool.or_true, Bool.and_true, Bool.and_false, Bool.false_eq_true, if_true, if_false, formedD, hm, h1, h2, hm1, hx, h1, h2, hm1, hx]
                  | cons y r =>
                    have h3 : ((r.length : Int) + 1 + 1 + 1 == 2) = false := by simp; omega
                    simp [b_is_formed, locR_ok, ev_loc, ev_dat, optB_ok, kBin2_ap, kBin1_ap, ev_bin, kCmp2_ap, kCmp1_ap, ev_cmp, kChn3_t, kChn3_f, kChn2_ap, kChn1_ap, ev_chn, kIsN_ap, ev_isN, kAnd2_t, kAnd2_f, kAnd1_ap, ev_and, kOr2_t, kOr2_f, kOr1_ap, ev_or, kNot_ap, ev_not, kIte2_t, kIte2_f, kIte1_ap, ev_ite, optT_ok, optL_ok, kTup_ap, kLst_ap, ev_tup, ev_lst, kIdx2_ap, kIdx1_ap, ev_idx, kslF3_ap, kslF2_ap, kslF1_ap, ev_slF, kslT3_ap, kslT2_ap, kslT1_ap, ev_slT, kRev2_ap, kRev_ap, ev_rev, kCall_ap, ev_call, kIsi2_ap, kIsi_ap, ev_isi, kBlt_ap, ev_blt, kMut3_ap, kMut2_ap, kMut1_ap, ev_mut, kPrm_ap, ev_prm, kC3_t, kC3_f, kC2_ap, kN_ap, kComp_ap, kLs_ap, kLsc_ap, kK3_t, kK3_f, kK2_ap, ev_comp, ev_lsc, kCons_ap, kEvs2_ap, kEvs1_ap, ev_nil, ev_cons, kSq_ap, ev_sq, kRng_ap, ev_rng1, k_enm2_ap, k_enm_ap, ev_ienm, k_rev2_ap, k_rev_ap, ev_irev, kTest_ap, ev_t0, ev_t1, ev_T, kRet_ap, ev_ret, ev_retN, nextE_ok, kAsg_ap, ev_asg, kNew2_ap, kNew1_ap, ev_new, kExp_ap, ev_exp, kIf_t, kIf_f, ev_if, kTurn_ap, kFor_ap, ev_for, kSix4_ap, kSix3_ap, kSix2_ap, kSix1_ap, ev_six, ev_pass, kSeq_n, kSeq_r, ev_s0, ev_s1, kLeave_n, kLeave_d, kLeave_l, kLeave_k, kLeave_o, run_def, rpm, startE, give, truthW, viewD, viewL, fz, isTy, kb, ki, dTruth, rcmp, rcmpD, cmpI, ridx_t0, ridx_t1, ridx_t2, ridx_t3, ridx_l0, ridx_l1, ridx_l2, ridx_l3, eqD_str, eqD_int, rbin, rblt, opt_some, opt_none, Res.bind_ok, Res.bind_stuck, Res.bind_exc, bindT, setAll, datas, asInt, itemsW, listD, rsl, List.map_cons, List.map_nil, List.length_cons, List.length_nil, List.cons_append, List.nil_append, List.replicate, List.getElem?_cons_zero, List.getElem?_cons_succ, List.headD_nil, List.headD_cons, List.tail_nil, List.tail_cons, Option.map_some, Option.map_none, List.set_cons_zero, List.set_cons_succ, ofS_beq, Bool.not_true, Bool.not_false, Bool.or_false, Bool.or_true, Bool.and_true, Bool.and_false, Bool.false_eq_true, if_true, if_false, hm, h1, h2, h3, formedD]
              · rcases Bool.eq_false_or_eq_true (twoL.any fun y => y == s) with h3 | h3
                · have hin : inD (.str s) g_OF_TWO = some true := by rw [g_OF_TWO_eq, inD_strs, h3]
                  cases r with
                  | nil => simp [b_is_formed, locR_ok, ev_loc, ev_dat, optB_ok, kBin2_ap, kBin1_ap, ev_bin, kCmp2_ap, kCmp1_ap, ev_cmp, kChn3_t, kChn3_f, kChn2_ap, kChn1_ap, ev_chn, kIsN_ap, ev_isN, kAnd2_t, kAnd2_f, kAnd1_ap, ev_and, kOr2_t, kOr2_f, kOr1_ap, ev_or, kNot_ap, ev_not, kIte2_t, kIte2_f, kIte1_ap, ev_ite, optT_ok, optL_ok, kTup_ap, kLst_ap, ev_tup, ev_lst, kIdx2_ap, kIdx1_ap, ev_idx, kslF3_ap, kslF2_ap, kslF1_ap, ev_slF, kslT3_ap, kslT2_ap, kslT1_ap, ev_slT, kRev2_ap, kRev_ap, ev_rev, kCall_ap, ev_call, kIsi2_ap, kIsi_ap, ev_isi, kBlt_ap, ev_blt, kMut3_ap, kMut2_ap, kMut1_ap, ev_mut, kPrm_ap, ev_prm, kC3_t, kC3_f, kC2_ap, kN_ap, kComp_ap, kLs_ap, kLsc_ap, kK3_t, kK3_f, kK2_ap, ev_comp, ev_lsc, kCons_ap, kEvs2_ap, kEvs1_ap, ev_nil, ev_cons, kSq_ap, ev_sq, kRng_ap, ev_rng1, k_enm2_ap, k_enm_ap, ev_ienm, k_rev2_ap, k_rev_ap, ev_irev, kTest_ap, ev_t0, ev_t1, ev_T, kRet_ap, ev_ret, ev_retN, nextE_ok, kAsg_ap, ev_asg, kNew2_ap, kNew1_ap, ev_new, kExp_ap, ev_exp, kIf_t, kIf_f, ev_if, kTurn_ap, kFor_ap, ev_for, kSix4_ap, kSix3_ap, kSix2_ap, kSix1_ap, ev_six, ev_pass, kSeq_n, kSeq_r, ev_s0, ev_s1, kLeave_n, kLeave_d, kLeave_l, kLeave_k, kLeave_o, run_def, rpm, startE, give, truthW, viewD, viewL, fz, isTy, kb, ki, dTruth, rcmp, rcmpD, cmpI, ridx_t0, ridx_t1, ridx_t2, ridx_t3, ridx_l0, ridx_l1, ridx_l2, ridx_l3, eqD_str, eqD_int, rbin, rblt, opt_some, opt_none, Res.bind_ok, Res.bind_stuck, Res.bind_exc, bindT, setAll, datas, asInt, itemsW, listD, rsl, List.map_cons, List.map_nil, List.length_cons, List.length_nil, List.cons_append, List.nil_append, List.replicate, List.getElem?_cons_zero, List.getElem?_cons_succ, List.headD_nil, List.headD_cons, List.tail_nil, List.tail_cons, Option.map_some, Option.map_none, List.set_cons_zero, List.set_cons_succ, ofS_beq, Bool.not_true, Bool.not_false, Bool.or_false, Bool.or_true, Bool.and_true, Bool.and_false, Bool.false_eq_true, if_true, if_false, formedD, hm, h1, h2, hin, h1, h2, h3]
                  | cons x r =>
                    cases r with
                    | nil => simp [b_is_formed, locR_ok, ev_loc, ev_dat, optB_ok, kBin2_ap, kBin1_ap, ev_bin, kCmp2_ap, kCmp1_ap, ev_cmp, kChn3_t, kChn3_f, kChn2_ap, kChn1_ap, ev_chn, kIsN_ap, ev_isN, kAnd2_t, kAnd2_f, kAnd1_ap, ev_and, kOr2_t, kOr2_f, kOr1_ap, ev_or, kNot_ap, ev_not, kIte2_t, kIte2_f, kIte1_ap, ev_ite, optT_ok, optL_ok, kTup_ap, kLst_ap, ev_tup, ev_lst, kIdx2_ap, kIdx1_ap, ev_idx, kslF3_ap, kslF2_ap, kslF1_ap, ev_slF, kslT3_ap, kslT2_ap, kslT1_ap, ev_slT, kRev2_ap, kRev_ap, ev_rev, kCall_ap, ev_call, kIsi2_ap, kIsi_ap, ev_isi, kBlt_ap, ev_blt, kMut3_ap, kMut2_ap, kMut1_ap, ev_mut, kPrm_ap, ev_prm, kC3_t, kC3_f, kC2_ap, kN_ap, kComp_ap, kLs_ap, kLsc_ap, kK3_t, kK3_f, kK2_ap, ev_comp, ev_lsc, kCons_ap, kEvs2_ap, kEvs1_ap, ev_nil, ev_cons, kSq_ap, ev_sq, kRng_ap, ev_rng1, k_enm2_ap, k_enm_ap, ev_ienm, k_rev2_ap, k_rev_ap, ev_irev, kTest_ap, ev_t0, ev_t1, ev_T, kRet_ap, ev_ret, ev_retN, nextE_ok, kAsg_ap, ev_asg, kNew2_ap, kNew1_ap, ev_new, kExp_ap, ev_exp, kIf_t, kIf_f, ev_if, kTurn_ap, kFor_ap, ev_for, kSix4_ap, kSix3_ap, kSix2_ap, kSix1_ap, ev_six, ev_pass, kSeq_n, kSeq_r, ev_s0, ev_s1, kLeave_n, kLeave_d, kLeave_l, kLeave_k, kLeave_o, run_def, rpm, startE, give, truthW, viewD, viewL, fz, isTy, kb, ki, dTruth, rcmp, rcmpD, cmpI, ridx_t0, ridx_t1, ridx_t2, ridx_t3, ridx_l0, ridx_l1, ridx_l2, ridx_l3, eqD_str, eqD_int, rbin, rblt, opt_some, opt_none, Res.bind_ok, Res.bind_stuck, Res.bind_exc, bindT, setAll, datas, asInt, itemsW, listD, rsl, List.map_cons, List.map_nil, List.length_cons, List.length_nil, List.cons_append, List.nil_append, List.replicate, List.getElem?_cons_zero, List.getElem?_cons_succ, List.headD_nil, List.headD_cons, List.tail_nil, List.tail_cons, Option.map_some, Option.map_none, List.set_cons_zero, List.set_cons_succ, ofS_beq, Bool.not_true, Bool.not_false, Bool.or_false, Bool.or_true, Bool.and_true, Bool.and_false, Bool.false_eq_true, if_true, if_false, formedD, hm, h1, h2, hin, h1, h2, h3]
                    | cons y r =>
                      cases r with
                      | nil =>
                        have hx := sub x (by simp) S
                        have hy := sub y (by simp) S
                        cases hxv : formedD b m x with
                        | true =>
                          rw [hxv] at hx
                          simp [b_is_formed, locR_ok, ev_loc, ev_dat, optB_ok, kBin2_ap, kBin1_ap, ev_bin, kCmp2_ap, kCmp1_ap, ev_cmp, kChn3_t, kChn3_f, kChn2_ap, kChn1_ap, ev_chn, kIsN_ap, ev_isN, kAnd2_t, kAnd2_f, kAnd1_ap, ev_and, kOr2_t, kOr2_f, kOr1_ap, ev_or, kNot_ap, ev_not, kIte2_t, kIte2_f, kIte1_ap, ev_ite, optT_ok, optL_ok, kTup_ap, kLst_ap, ev_tup, ev_lst, kIdx2_ap, kIdx1_ap, ev_idx, kslF3_ap, kslF2_ap, kslF1_ap, ev_slF, kslT3_ap, kslT2_ap, kslT1_ap, ev_slT, kRev2_ap, kRev_ap, ev_rev, kCall_ap, ev_call, kIsi2_ap, kIsi_ap, ev_isi, kBlt_ap, ev_blt, kMut3_ap, kMut2_ap, kMut1_ap, ev_mut, kPrm_ap, ev_prm, kC3_t, kC3_f, kC2_ap, kN_ap, kComp_ap, kLs_ap, kLsc_ap, kK3_t, kK3_f, kK2_ap, ev_comp, ev_lsc, kCons_ap, kEvs2_ap, kEvs1_ap, ev_nil, ev_cons, kSq_ap, ev_sq, kRng_ap, ev_rng1, k_enm2_ap, k_enm_ap, ev_ienm, k_rev2_ap, k_rev_ap, ev_irev, kTest_ap, ev_t0, ev_t1, ev_T, kRet_ap, ev_ret, ev_retN, nextE_ok, kAsg_ap, ev_asg, kNew2_ap, kNew1_ap, ev_new, kExp_ap, ev_exp, kIf_t, kIf_f, ev_if, kTurn_ap, kFor_ap, ev_for, kSix4_ap, kSix3_ap, kSix2_ap, kSix1_ap, ev_six, ev_pass, kSeq_n, kSeq_r, ev_s0, ev_s1, kLeave_n, kLeave_d, kLeave_l, kLeave_k, kLeave_o, run_def, rpm, startE, give, truthW, viewD, viewL, fz, isTy, kb, ki, dTruth, rcmp, rcmpD, cmpI, ridx_t0, ridx_t1, ridx_t2, ridx_t3, ridx_l0, ridx_l1, ridx_l2, ridx_l3, eqD_str, eqD_int, rbin, rblt, opt_some, opt_none, Res.bind_ok, Res.bind_stuck, Res.bind_exc, bindT, setAll, datas, asInt, itemsW, listD, rsl, List.map_cons, List.map_nil, List.length_cons, List.length_nil, List.cons_append, List.nil_append, List.replicate, List.getElem?_cons_zero, List.getElem?_cons_succ, List.headD_nil, List.headD_cons, List.tail_nil, List.tail_cons, Option.map_some, Option.map_none, List.set_cons_zero, List.set_cons_succ, ofS_beq, Bool.not_true, Bool.not_false, Bool.or_false, Bool.or_true, Bool.and_true, Bool.and_false, Bool.false_eq_true, if_true, if_false, formedD, hm, h1, h2, hm1, hx, hin, h1, h2, h3, hm1, hx, hy, hxv]
                        | false =>
                          rw [hxv] at hx
                          simp [b_is_formed, locR_ok, ev_loc, ev_dat, optB_ok, kBin2_ap, kBin1_ap, ev_bin, kCmp2_ap, kCmp1_ap, ev_cmp, kChn3_t, kChn3_f, kChn2_ap, kChn1_ap, ev_chn, kIsN_ap, ev_isN, kAnd2_t, kAnd2_f, kAnd1_ap, ev_and, kOr2_t, kOr2_f, kOr1_ap, ev_or, kNot_ap, ev_not, kIte2_t, kIte2_f, kIte1_ap, ev_ite, optT_ok, optL_ok, kTup_ap, kLst_ap, ev_tup, ev_lst, kIdx2_ap, kIdx1_ap, ev_idx, kslF3_ap, kslF2_ap, kslF1_ap, ev_slF, kslT3_ap, kslT2_ap, kslT1_ap, ev_slT, kRev2_ap, kRev_ap, ev_rev, kCall_ap, ev_call, kIsi2_ap, kIsi_ap, ev_isi, kBlt_ap, ev_blt, kMut3_ap, kMut2_ap, kMut1_ap, ev_mut, kPrm_ap, ev_prm, kC3_t, kC3_f, kC2_ap, kN_ap, kComp_ap, kLs_ap, kLsc_ap, kK3_t, kK3_f, kK2_ap, ev_comp, ev_lsc, kCons_ap, kEvs2_ap, kEvs1_ap, ev_nil, ev_cons, kSq_ap, ev_sq, kRng_ap, ev_rng1, k_enm2_ap, k_enm_ap, ev_ienm, k_rev2_ap, k_rev_ap, ev_irev, kTest_ap, ev_t0, ev_t1, ev_T, kRet_ap, ev_ret, ev_retN, nextE_ok, kAsg_ap, ev_asg, kNew2_ap, kNew1_ap, ev_new, kExp_ap, ev_exp, kIf_t, kIf_f, ev_if, kTurn_ap, kFor_ap, ev_for, kSix4_ap, kSix3_ap, kSix2_ap, kSix1_ap, ev_six, ev_pass, kSeq_n, kSeq_r, ev_s0, ev_s1, kLeave_n, kLeave_d, kLeave_l, kLeave_k, kLeave_o, run_def, rpm, startE, give, truthW, viewD, viewL, fz, isTy, kb, ki, dTruth, rcmp, rcmpD, cmpI, ridx_t0, ridx_t1, ridx_t2, ridx_t3, ridx_l0, ridx_l1, ridx_l2, ridx_l3, eqD_str, eqD_int, rbin, rblt, opt_some, opt_none, Res.bind_ok, Res.bind_stuck, Res.bind_exc, bindT, setAll, datas, asInt, itemsW, listD, rsl, List.map_cons, List.map_nil, List.length_cons, List.length_nil, List.cons_append, List.nil_append, List.replicate, List.getElem?_cons_zero, List.getElem?_cons_succ, List.headD_nil, List.headD_cons, List.tail_nil, List.tail_cons, Option.map_some, Option.map_none, List.set_cons_zero, List.set_cons_succ, ofS_beq, Bool.not_true, Bool.not_false, Bool.or_false, Bool.or_true, Bool.and_true, Bool.and_false, Bool.false_eq_true, if_true, if_false, formedD, hm, h1, h2, hm1, hx, hin, h1, h2, h3, hm1, hx, hxv]
                      | cons z r =>
                        have h4 : ((r.length : Int) + 1 + 1 + 1 + 1 == 3) = false := by simp; omega
                        simp [b_is_formed, locR_ok, ev_loc, ev_dat, optB_ok, kBin2_ap, kBin1_ap, ev_bin, kCmp2_ap, kCmp1_ap, ev_cmp, kChn3_t, kChn3_f, kChn2_ap, kChn1_ap, ev_chn, kIsN_ap, ev_isN, kAnd2_t, kAnd2_f, kAnd1_ap, ev_and, kOr2_t, kOr2_f, kOr1_ap, ev_or, kNot_ap, ev_not, kIte2_t, kIte2_f, kIte1_ap, ev_ite, optT_ok, optL_ok, kTup_ap, kLst_ap, ev_tup, ev_lst, kIdx2_ap, kIdx1_ap, ev_idx, kslF3_ap, kslF2_ap, kslF1_ap, ev_slF, kslT3_ap, kslT2_ap, kslT1_ap, ev_slT, kRev2_ap, kRev_ap, ev_rev, kCall_ap, ev_call, kIsi2_ap, kIsi_ap, ev_isi, kBlt_ap, ev_blt, kMut3_ap, kMut2_ap, kMut1_ap, ev_mut, kPrm_ap, ev_prm, kC3_t, kC3_f, kC2_ap, kN_ap, kComp_ap, kLs_ap, kLsc_ap, kK3_t, kK3_f, kK2_ap, ev_comp, ev_lsc, kCons_ap, kEvs2_ap, kEvs1_ap, ev_nil, ev_cons, kSq_ap, ev_sq, kRng_ap, ev_rng1, k_enm2_ap, k_enm_ap, ev_ienm, k_rev2_ap, k_rev_ap, ev_irev, kTest_ap, ev_t0, ev_t1, ev_T, kRet_ap, ev_ret, ev_retN, nextE_ok, kAsg_ap, ev_asg, kNew2_ap, kNew1_ap, ev_new, kExp_ap, ev_exp, kIf_t, kIf_f, ev_if, kTurn_ap, kFor_ap, ev_for, kSix4_ap, kSix3_ap, kSix2_ap, kSix1_ap, ev_six, ev_pass, kSeq_n, kSeq_r, ev_s0, ev_s1, kLeave_n, kLeave_d, kLeave_l, kLeave_k, kLeave_o, run_def, rpm, startE, give, truthW, viewD, viewL, fz, isTy, kb, ki, dTruth, rcmp, rcmpD, cmpI, ridx_t0, ridx_t1, ridx_t2, ridx_t3, ridx_l0, ridx_l1, ridx_l2, ridx_l3, eqD_str, eqD_int, rbin, rblt, opt_some, opt_none, Res.bind_ok, Res.bind_stuck, Res.bind_exc, bindT, setAll, datas, asInt, itemsW, listD, rsl, List.map_cons, List.map_nil, List.length_cons, List.length_nil, List.cons_append, List.nil_append, List.replicate, List.getElem?_cons_zero, List.getElem?_cons_succ, List.headD_nil, List.headD_cons, List.tail_nil, List.tail_cons, Option.map_some, Option.map_none, List.set_cons_zero, List.set_cons_succ, ofS_beq, Bool.not_true, Bool.not_false, Bool.or_false, Bool.or_true, Bool.and_true, Bool.and_false, Bool.false_eq_true, if_true, if_false, hm, h1, h2, h3, h4, hin, formedD]
                · have hin : inD (.str s) g_OF_TWO = some false := by rw [g_OF_TWO_eq, inD_strs, h3]
                  rcases Bool.eq_false_or_eq_true (anyL.any fun y => y == s) with h5 | h5
                  · have hin2 : inD (.str s) g_OF_ANY = some true := by rw [g_OF_ANY_eq, inD_strs, h5]
                    cases r with
                    | nil => simp [b_is_formed, locR_ok, ev_loc, ev_dat, optB_ok, kBin2_ap, kBin1_ap, ev_bin, kCmp2_ap, kCmp1_ap, ev_cmp, kChn3_t, kChn3_f, kChn2_ap, kChn1_ap, ev_chn, kIsN_ap, ev_isN, kAnd2_t, kAnd2_f, kAnd1_ap, ev_and, kOr2_t, kOr2_f, kOr1_ap, ev_or, kNot_ap, ev_not, kIte2_t, kIte2_f, kIte1_ap, ev_ite, optT_ok, optL_ok, kTup_ap, kLst_ap, ev_tup, ev_lst, kIdx2_ap, kIdx1_ap, ev_idx, kslF3_ap, kslF2_ap, kslF1_ap, ev_slF, kslT3_ap, kslT2_ap, kslT1_ap, ev_slT, kRev2_ap, kRev_ap, ev_rev, kCall_ap, ev_call, kIsi2_ap, kIsi_ap, ev_isi, kBlt_ap, ev_blt, kMut3_ap, kMut2_ap, kMut1_ap, ev_mut, kPrm_ap, ev_prm, kC3_t, kC3_f, kC2_ap, kN_ap, kComp_ap, kLs_ap, kLsc_ap, kK3_t, kK3_f, kK2_ap, ev_comp, ev_lsc, kCons_ap, kEvs2_ap, kEvs1_ap, ev_nil, ev_cons, kSq_ap, ev_sq, kRng_ap, ev_rng1, k_enm2_ap, k_enm_ap, ev_ienm, k_rev2_ap, k_rev_ap, ev_irev, kTest_ap, ev_t0, ev_t1, ev_T, kRet_ap, ev_ret, ev_retN, nextE_ok, kAsg_ap, ev_asg, kNew2_ap, kNew1_ap, ev_new, kExp_ap, ev_exp, kIf_t, kIf_f, ev_if, kTurn_ap, kFor_ap, ev_for, kSix4_ap, kSix3_ap, kSix2_ap, kSix1_ap, ev_six, ev_pass, kSeq_n, kSeq_r, ev_s0, ev_s1, kLeave_n, kLeave_d, kLeave_l, kLeave_k, kLeave_o, run_def, rpm, startE, give, truthW, viewD, viewL, fz, isTy, kb, ki, dTruth, rcmp, rcmpD, cmpI, ridx_t0, ridx_t1, ridx_t2, ridx_t3, ridx_l0, ridx_l1, ridx_l2, ridx_l3, eqD_str, eqD_int, rbin, rblt, opt_some, opt_none, Res.bind_ok, Res.bind_stuck, Res.bind_exc, bindT, setAll, datas, asInt, itemsW, listD, rsl, List.map_cons, List.map_nil, List.length_cons, List.length_nil, List.cons_append, List.nil_append, List.replicate, List.getElem?_cons_zero, List.getElem?_cons_succ, List.headD_nil, List.headD_cons, List.tail_nil, List.tail_cons, Option.map_some, Option.map_none, List.set_cons_zero, List.set_cons_succ, ofS_beq, Bool.not_true, Bool.not_false, Bool.or_false, Bool.or_true, Bool.and_true, Bool.and_false, Bool.false_eq_true, if_true, if_false, formedD, hm, h1, h2, hin, hin2, h1, h2, h3, h5]
                    | cons x r =>
                      cases r with
                      | nil => simp [b_is_formed, locR_ok, ev_loc, ev_dat, optB_ok, kBin2_ap, kBin1_ap, ev_bin, kCmp2_ap, kCmp1_ap, ev_cmp, kChn3_t, kChn3_f, kChn2_ap, kChn1_ap, ev_chn, kIsN_ap, ev_isN, kAnd2_t, kAnd2_f, kAnd1_ap, ev_and, kOr2_t, kOr2_f, kOr1_ap, ev_or, kNot_ap, ev_not, kIte2_t, kIte2_f, kIte1_ap, ev_ite, optT_ok, optL_ok, kTup_ap, kLst_ap, ev_tup, ev_lst, kIdx2_ap, kIdx1_ap, ev_idx, kslF3_ap, kslF2_ap, kslF1_ap, ev_slF, kslT3_ap, kslT2_ap, kslT1_ap, ev_slT, kRev2_ap, kRev_ap, ev_rev, kCall_ap, ev_call, kIsi2_ap, kIsi_ap, ev_isi, kBlt_ap, ev_blt, kMut3_ap, kMut2_ap, kMut1_ap, ev_mut, kPrm_ap, ev_prm, kC3_t, kC3_f, kC2_ap, kN_ap, kComp_ap, kLs_ap, kLsc_ap, kK3_t, kK3_f, kK2_ap, ev_comp, ev_lsc, kCons_ap, kEvs2_ap, kEvs1_ap, ev_nil, ev_cons, kSq_ap, ev_sq, kRng_ap, ev_rng1, k_enm2_ap, k_enm_ap, ev_ienm, k_rev2_ap, k_rev_ap, ev_irev, kTest_ap, ev_t0, ev_t1, ev_T, kRet_ap, ev_ret, ev_retN, nextE_ok, kAsg_ap, ev_asg, kNew2_ap, kNew1_ap, ev_new, kExp_ap, ev_exp, kIf_t, kIf_f, ev_if, kTurn_ap, kFor_ap, ev_for, kSix4_ap, kSix3_ap, kSix2_ap, kSix1_ap, ev_six, ev_pass, kSeq_n, kSeq_r, ev_s0, ev_s1, kLeave_n, kLeave_d, kLeave_l, kLeave_k, kLeave_o, run_def, rpm, startE, give, truthW, viewD, viewL, fz, isTy, kb, ki, dTruth, rcmp, rcmpD, cmpI, ridx_t0, ridx_t1, ridx_t2, ridx_t3, ridx_l0, ridx_l1, ridx_l2, ridx_l3, eqD_str, eqD_int, rbin, rblt, opt_some, opt_none, Res.bind_ok, Res.bind_stuck, Res.bind_exc, bindT, setAll, datas, asInt, itemsW, listD, rsl, List.map_cons, List.map_nil, List.length_cons, List.length_nil, List.cons_append, List.nil_append, List.replicate, List.getElem?_cons_zero, List.getElem?_cons_succ, List.headD_nil, List.headD_cons, List.tail_nil, List.tail_cons, Option.map_some, Option.map_none, List.set_cons_zero, List.set_cons_succ, ofS_beq, Bool.not_true, Bool.not_false, Bool.or_false, Bool.or_true, Bool.and_true, Bool.and_false, Bool.false_eq_true, if_true, if_false, formedD, hm, h1, h2, hin, hin2, h1, h2, h3, h5]
                      | cons y r =>
                        cases r with
                        | nil =>
                          obtain ⟨k, rfl⟩ : ∃ j, k = j + 1 := ⟨k - 1, by omega⟩
                          have hx := is_within_ok (S := S) u (k := k) (x := x) (a := 0) (b := 99)
                          have hy := sub y (by simp) S
                          cases hxv : withinD 0 99 x with
                          | true =>
                            rw [hxv] at hx
                            simp [b_is_formed, locR_ok, ev_loc, ev_dat, optB_ok, kBin2_ap, kBin1_ap, ev_bin, kCmp2_ap, kCmp1_ap, ev_cmp, kChn3_t, kChn3_f, kChn2_ap, kChn1_ap, ev_chn, kIsN_ap, ev_isN, kAnd2_t, kAnd2_f, kAnd1_ap, ev_and, kOr2_t, kOr2_f, kOr1_ap, ev_or, kNot_ap, ev_not, kIte2_t, kIte2_f, kIte1_ap, ev_ite, optT_ok, optL_ok, kTup_ap, kLst_ap, ev_tup, ev_lst, kIdx2_ap, kIdx1_ap, ev_idx, kslF3_ap, kslF2_ap, kslF1_ap, ev_slF, kslT3_ap, kslT2_ap, kslT1_ap, ev_slT, kRev2_ap, kRev_ap, ev_rev, kCall_ap, ev_call, kIsi2_ap, kIsi_ap, ev_isi, kBlt_ap, ev_blt, kMut3_ap, kMut2_ap, kMut1_ap, ev_mut, kPrm_ap, ev_prm, kC3_t, kC3_f, kC2_ap, kN_ap, kComp_ap, kLs_ap, kLsc_ap, kK3_t, kK3_f, kK2_ap, ev_comp, ev_lsc, kCons_ap, kEvs2_ap, kEvs1_ap, ev_nil, ev_cons, kSq_ap, ev_sq, kRng_ap, ev_rng1, k_enm2_ap, k_enm_ap, ev_ienm, k_rev2_ap, k_rev_ap, ev_irev, kTest_ap, ev_t0, ev_t1, ev_T, kRet_ap, ev_ret, ev_retN, nextE_ok, kAsg_ap, ev_asg, kNew2_ap, kNew1_ap, ev_new, kExp_ap, ev_exp, kIf_t, kIf_f, ev_if, kTurn_ap, kFor_ap, ev_for, kSix4_ap, kSix3_ap, kSix2_ap, kSix1_ap, ev_six, ev_pass, kSeq_n, kSeq_r, ev_s0, ev_s1, kLeave_n, kLeave_d, kLeave_l, kLeave_k, kLeave_o, run_def, rpm, startE, give, truthW, viewD, viewL, fz, isTy, kb, ki, dTruth, rcmp, rcmpD, cmpI, ridx_t0, ridx_t1, ridx_t2, ridx_t3, ridx_l0, ridx_l1, ridx_l2, ridx_l3, eqD_str, eqD_int, rbin, rblt, opt_some, opt_none, Res.bind_ok, Res.bind_stuck, Res.bind_exc, bindT, setAll, datas, asInt, itemsW, listD, rsl, List.map_cons, List.map_nil, List.length_cons, List.length_nil, List.cons_append, List.nil_append, List.replicate, List.getElem?_cons_zero, List.getElem?_cons_succ, List.headD_nil, List.headD_cons, List.tail_nil, List.tail_cons, Option.map_some, Option.map_none, List.set_cons_zero, List.set_cons_succ, ofS_beq, Bool.not_true, Bool.not_false, Bool.or_false, Bool.or_true, Bool.and_true, Bool.and_false, Bool.false_eq_true, if_true, if_false, formedD, hm, h1, h2, hm1, hx, hin, hin2, g_MOST_THING, h1, h2, h3, h5, hm1, hx, hy, hxv, g_MOST_THING]
                          | false =>
                            rw [hxv] at hx
                            simp [b_is_formed, locR_ok, ev_loc, ev_dat, optB_ok, kBin2_ap, kBin1_ap, ev_bin, kCmp2_ap, kCmp1_ap, ev_cmp, kChn3_t, kChn3_f, kChn2_ap, kChn1_ap, ev_chn, kIsN_ap, ev_isN, kAnd2_t, kAnd2_f, kAnd1_ap, ev_and, kOr2_t, kOr2_f, kOr1_ap, ev_or, kNot_ap, ev_not, kIte2_t, kIte2_f, kIte1_ap, ev_ite, optT_ok, optL_ok, kTup_ap, kLst_ap, ev_tup, ev_lst, kIdx2_ap, kIdx1_ap, ev_idx, kslF3_ap, kslF2_ap, kslF1_ap, ev_slF, kslT3_ap, kslT2_ap, kslT1_ap, ev_slT, kRev2_ap, kRev_ap, ev_rev, kCall_ap, ev_call, kIsi2_ap, kIsi_ap, ev_isi, kBlt_ap, ev_blt, kMut3_ap, kMut2_ap, kMut1_ap, ev_mut, kPrm_ap, ev_prm, kC3_t, kC3_f, kC2_ap, kN_ap, kComp_ap, kLs_ap, kLsc_ap, kK3_t, kK3_f, kK2_ap, ev_comp, ev_lsc, kCons_ap, kEvs2_ap, kEvs1_ap, ev_nil, ev_cons, kSq_ap, ev_sq, kRng_ap, ev_rng1, k_enm2_ap, k_enm_ap, ev_ienm, k_rev2_ap, k_rev_ap, ev_irev, kTest_ap, ev_t0, ev_t1, ev_T, kRet_ap, ev_ret, ev_retN, nextE_ok, kAsg_ap, ev_asg, kNew2_ap, kNew1_ap, ev_new, kExp_ap, ev_exp, kIf_t, kIf_f, ev_if, kTurn_ap, kFor_ap, ev_for, kSix4_ap, kSix3_ap, kSix2_ap, kSix1_ap, ev_six, ev_pass, kSeq_n, kSeq_r, ev_s0, ev_s1, kLeave_n, kLeave_d, kLeave_l, kLeave_k, kLeave_o, run_def, rpm, startE, give, truthW, viewD, viewL, fz, isTy, kb, ki, dTruth, rcmp, rcmpD, cmpI, ridx_t0, ridx_t1, ridx_t2, ridx_t3, ridx_l0, ridx_l1, ridx_l2, ridx_l3, eqD_str, eqD_int, rbin, rblt, opt_some, opt_none, Res.bind_ok, Res.bind_stuck, Res.bind_exc, bindT, setAll, datas, asInt, itemsW, listD, rsl, List.map_cons, List.map_nil, List.length_cons, List.length_nil, List.cons_append, List.nil_append, List.replicate, List.getElem?_cons_zero, List.getElem?_cons_succ, List.headD_nil, List.headD_cons, List.tail_nil, List.tail_cons, Option.map_some, Option.map_none, List.set_cons_zero, List.set_cons_succ, ofS_beq, Bool.not_true, Bool.not_false, Bool.or_false, Bool.or_true, Bool.and_true, Bool.and_false, Bool.false_eq_true, if_true, if_false, formedD, hm, h1, h2, hm1, hx, hin, hin2, g_MOST_THING, h1, h2, h3, h5, hm1, hx, hxv, g_MOST_THING]
                        | cons z r =>
                          have h4 : ((r.length : Int) + 1 + 1 + 1 + 1 == 3) = false := by simp; omega
                          simp [b_is_formed, locR_ok, ev_loc, ev_dat, optB_ok, kBin2_ap, kBin1_ap, ev_bin, kCmp2_ap, kCmp1_ap, ev_cmp, kChn3_t, kChn3_f, kChn2_ap, kChn1_ap, ev_chn, kIsN_ap, ev_isN, kAnd2_t, kAnd2_f, kAnd1_ap, ev_and, kOr2_t, kOr2_f, kOr1_ap, ev_or, kNot_ap, ev_not, kIte2_t, kIte2_f, kIte1_ap, ev_ite, optT_ok, optL_ok, kTup_ap, kLst_ap, ev_tup, ev_lst, kIdx2_ap, kIdx1_ap, ev_idx, kslF3_ap, kslF2_ap, kslF1_ap, ev_slF, kslT3_ap, kslT2_ap, kslT1_ap, ev_slT, kRev2_ap, kRev_ap, ev_rev, kCall_ap, ev_call, kIsi2_ap, kIsi_ap, ev_isi, kBlt_ap, ev_blt, kMut3_ap, kMut2_ap, kMut1_ap, ev_mut, kPrm_ap, ev_prm, kC3_t, kC3_f, kC2_ap, kN_ap, kComp_ap, kLs_ap, kLsc_ap, kK3_t, kK3_f, kK2_ap, ev_comp, ev_lsc, kCons_ap, kEvs2_ap, kEvs1_ap, ev_nil, ev_cons, kSq_ap, ev_sq, kRng_ap, ev_rng1, k_enm2_ap, k_enm_ap, ev_ienm, k_rev2_ap, k_rev_ap, ev_irev, kTest_ap, ev_t0, ev_t1, ev_T, kRet_ap, ev_ret, ev_retN, nextE_ok, kAsg_ap, ev_asg, kNew2_ap, kNew1_ap, ev_new, kExp_ap, ev_exp, kIf_t, kIf_f, ev_if, kTurn_ap, kFor_ap, ev_for, kSix4_ap, kSix3_ap, kSix2_ap, kSix1_ap, ev_six, ev_pass, kSeq_n, kSeq_r, ev_s0, ev_s1, kLeave_n, kLeave_d, kLeave_l, kLeave_k, kLeave_o, run_def, rpm, startE, give, truthW, viewD, viewL, fz, isTy, kb, ki, dTruth, rcmp, rcmpD, cmpI, ridx_t0, ridx_t1, ridx_t2, ridx_t3, ridx_l0, ridx_l1, ridx_l2, ridx_l3, eqD_str, eqD_int, rbin, rblt, opt_some, opt_none, Res.bind_ok, Res.bind_stuck, Res.bind_exc, bindT, setAll, datas, asInt, itemsW, listD, rsl, List.map_cons, List.map_nil, List.length_cons, List.length_nil, List.cons_append, List.nil_append, List.replicate, List.getElem?_cons_zero, List.getElem?_cons_succ, List.headD_nil, List.headD_cons, List.tail_nil, List.tail_cons, Option.map_some, Option.map_none, List.set_cons_zero, List.set_cons_succ, ofS_beq, Bool.not_true, Bool.not_false, Bool.or_false, Bool.or_true, Bool.and_true, Bool.and_false, Bool.false_eq_true, if_true, if_false, hm, h1, h2, h3, h4, h5, hin, hin2, formedD]
                  · have hin2 : inD (.str s) g_OF_ANY = some false := by rw [g_OF_ANY_eq, inD_strs, h5]
                    simp [b_is_formed, locR_ok, ev_loc, ev_dat, optB_ok, kBin2_ap, kBin1_ap, ev_bin, kCmp2_ap, kCmp1_ap, ev_cmp, kChn3_t, kChn3_f, kChn2_ap, kChn1_ap, ev_chn, kIsN_ap, ev_isN, kAnd2_t, kAnd2_f, kAnd1_ap, ev_and, kOr2_t, kOr2_f, kOr1_ap, ev_or, kNot_ap, ev_not, kIte2_t, kIte2_f, kIte1_ap, ev_ite, optT_ok, optL_ok, kTup_ap, kLst_ap, ev_tup, ev_lst, kIdx2_ap, kIdx1_ap, ev_idx, kslF3_ap, kslF2_ap, kslF1_ap, ev_slF, kslT3_ap, kslT2_ap, kslT1_ap, ev_slT, kRev2_ap, kRev_ap, ev_rev, kCall_ap, ev_call, kIsi2_ap, kIsi_ap, ev_isi, kBlt_ap, ev_blt, kMut3_ap, kMut2_ap, kMut1_ap, ev_mut, kPrm_ap, ev_prm, kC3_t, kC3_f, kC2_ap, kN_ap, kComp_ap, kLs_ap, kLsc_ap, kK3_t, kK3_f, kK2_ap, ev_comp, ev_lsc, kCons_ap, kEvs2_ap, kEvs1_ap, ev_nil, ev_cons, kSq_ap, ev_sq, kRng_ap, ev_rng1, k_enm2_ap, k_enm_ap, ev_ienm, k_rev2_ap, k_rev_ap, ev_irev, kTest_ap, ev_t0, ev_t1, ev_T, kRet_ap, ev_ret, ev_retN, nextE_ok, kAsg_ap, ev_asg, kNew2_ap, kNew1_ap, ev_new, kExp_ap, ev_exp, kIf_t, kIf_f, ev_if, kTurn_ap, kFor_ap, ev_for, kSix4_ap, kSix3_ap, kSix2_ap, kSix1_ap, ev_six, ev_pass, kSeq_n, kSeq_r, ev_s0, ev_s1, kLeave_n, kLeave_d, kLeave_l, kLeave_k, kLeave_o, run_def, rpm, startE, give, truthW, viewD, viewL, fz, isTy, kb, ki, dTruth, rcmp, rcmpD, cmpI, ridx_t0, ridx_t1, ridx_t2, ridx_t3, ridx_l0, ridx_l1, ridx_l2, ridx_l3, eqD_str, eqD_int, rbin, rblt, opt_some, opt_none, Res.bind_ok, Res.bind_stuck, Res.bind_exc, bindT, setAll, datas, asInt, itemsW, listD, rsl, List.map_cons, List.map_nil, List.length_cons, List.length_nil, List.cons_append, List.nil_append, List.replicate, List.getElem?_cons_zero, List.getElem?_cons_succ, List.headD_nil, List.headD_cons, List.tail_nil, List.tail_cons, Option.map_some, Option.map_none, List.set_cons_zero, List.set_cons_succ, ofS_beq, Bool.not_true, Bool.not_false, Bool.or_false, Bool.or_true, Bool.and_true, Bool.and_false, Bool.false_eq_true, if_true, if_false, formedD, hm, h1, h2, hin, hin2, h1, h2, h3, h5]
          | _ => simp [b_is_formed, locR_ok, ev_loc, ev_dat, optB_ok, kBin2_ap, kBin1_ap, ev_bin, kCmp2_ap, kCmp1_ap, ev_cmp, kChn3_t, kChn3_f, kChn2_ap, kChn1_ap, ev_chn, kIsN_ap, ev_isN, kAnd2_t, kAnd2_f, kAnd1_ap, ev_and, kOr2_t, kOr2_f, kOr1_ap, ev_or, kNot_ap, ev_not, kIte2_t, kIte2_f, kIte1_ap, ev_ite, optT_ok, optL_ok, kTup_ap, kLst_ap, ev_tup, ev_lst, kIdx2_ap, kIdx1_ap, ev_idx, kslF3_ap, kslF2_ap, kslF1_ap, ev_slF, kslT3_ap, kslT2_ap, kslT1_ap, ev_slT, kRev2_ap, kRev_ap, ev_rev, kCall_ap, ev_call, kIsi2_ap, kIsi_ap, ev_isi, kBlt_ap, ev_blt, kMut3_ap, kMut2_ap, kMut1_ap, ev_mut, kPrm_ap, ev_prm, kC3_t, kC3_f, kC2_ap, kN_ap, kComp_ap, kLs_ap, kLsc_ap, kK3_t, kK3_f, kK2_ap, ev_comp, ev_lsc, kCons_ap, kEvs2_ap, kEvs1_ap, ev_nil, ev_cons, kSq_ap, ev_sq, kRng_ap, ev_rng1, k_enm2_ap, k_enm_ap, ev_ienm, k_rev2_ap, k_rev_ap, ev_irev, kTest_ap, ev_t0, ev_t1, ev_T, kRet_ap, ev_ret, ev_retN, nextE_ok, kAsg_ap, ev_asg, kNew2_ap, kNew1_ap, ev_new, kExp_ap, ev_exp, kIf_t, kIf_f, ev_if, kTurn_ap, kFor_ap, ev_for, kSix4_ap, kSix3_ap, kSix2_ap, kSix1_ap, ev_six, ev_pass, kSeq_n, kSeq_r, ev_s0, ev_s1, kLeave_n, kLeave_d, kLeave_l, kLeave_k, kLeave_o, run_def, rpm, startE, give, truthW, viewD, viewL, fz, isTy, kb, ki, dTruth, rcmp, rcmpD, cmpI, ridx_t0, ridx_t1, ridx_t2, ridx_t3, ridx_l0, ridx_l1, ridx_l2, ridx_l3, eqD_str, eqD_int, rbin, rblt, opt_some, opt_none, Res.bind_ok, Res.bind_stuck, Res.bind_exc, bindT, setAll, datas, asInt, itemsW, listD, rsl, List.map_cons, List.map_nil, List.length_cons, List.length_nil, List.cons_append, List.nil_append, List.replicate, List.getElem?_cons_zero, List.getElem?_cons_succ, List.headD_nil, List.headD_cons, List.tail_nil, List.tail_cons, Option.map_some, Option.map_none, List.set_cons_zero, List.set_cons_succ, ofS_beq, Bool.not_true, Bool.not_false, Bool.or_false, Bool.or_true, Bool.and_true, Bool.and_false, Bool.false_eq_true, if_true, if_false, formedD, hm]
      | _ => simp [b_is_formed, locR_ok, ev_loc, ev_dat, optB_ok, kBin2_ap, kBin1_ap, ev_bin, kCmp2_ap, kCmp1_ap, ev_cmp, kChn3_t, kChn3_f, kChn2_ap, kChn1_ap, ev_chn, kIsN_ap, ev_isN, kAnd2_t, kAnd2_f, kAnd1_ap, ev_and, kOr2_t, kOr2_f, kOr1_ap, ev_or, kNot_ap, ev_not, kIte2_t, kIte2_f, kIte1_ap, ev_ite, optT_ok, optL_ok, kTup_ap, kLst_ap, ev_tup, ev_lst, kIdx2_ap, kIdx1_ap, ev_idx, kslF3_ap, kslF2_ap, kslF1_ap, ev_slF, kslT3_ap, kslT2_ap, kslT1_ap, ev_slT, kRev2_ap, kRev_ap, ev_rev, kCall_ap, ev_call, kIsi2_ap, kIsi_ap, ev_isi, kBlt_ap, ev_blt, kMut3_ap, kMut2_ap, kMut1_ap, ev_mut, kPrm_ap, ev_prm, kC3_t, kC3_f, kC2_ap, kN_ap, kComp_ap, kLs_ap, kLsc_ap, kK3_t, kK3_f, kK2_ap, ev_comp, ev_lsc, kCons_ap, kEvs2_ap, kEvs1_ap, ev_nil, ev_cons, kSq_ap, ev_sq, kRng_ap, ev_rng1, k_enm2_ap, k_enm_ap, ev_ienm, k_rev2_ap, k_rev_ap, ev_irev, kTest_ap, ev_t0, ev_t1, ev_T, kRet_ap, ev_ret, ev_retN, nextE_ok, kAsg_ap, ev_asg, kNew2_ap, kNew1_ap, ev_new, kExp_ap, ev_exp, kIf_t, kIf_f, ev_if, kTurn_ap, kFor_ap, ev_for, kSix4_ap, kSix3_ap, kSix2_ap, kSix1_ap, ev_six, ev_pass, kSeq_n, kSeq_r, ev_s0, ev_s1, kLeave_n, kLeave_d, kLeave_l, kLeave_k, kLeave_o, run_def, rpm, startE, give, truthW, viewD, viewL, fz, isTy, kb, ki, dTruth, rcmp, rcmpD, cmpI, ridx_t0, ridx_t1, ridx_t2, ridx_t3, ridx_l0, ridx_l1, ridx_l2, ridx_l3, eqD_str, eqD_int, rbin, rblt, opt_some, opt_none, Res.bind_ok, Res.bind_stuck, Res.bind_exc, bindT, setAll, datas, asInt, itemsW, listD, rsl, List.map_cons, List.map_nil, List.length_cons, List.length_nil, List.cons_append, List.nil_append, List.replicate, List.getElem?_cons_zero, List.getElem?_cons_succ, List.headD_nil, List.headD_cons, List.tail_nil, List.tail_cons, Option.map_some, Option.map_none, List.set_cons_zero, List.set_cons_succ, ofS_beq, Bool.not_true, Bool.not_false, Bool.or_false, Bool.or_true, Bool.and_true, Bool.and_false, Bool.false_eq_true, if_true, if_false, formedD, hm]
end
end Sc
namespace Sc
open PySem PySem.Spec PyProof.Rows L2
section
variable {tab : Tab} {S : Sto}
def Fm.bro : Fm → List Int
  | .fact _ _ => []
  | .not f => f.bro
  | .two _ f g => f.bro ++ g.bro
  | .any _ n f => n :: f.bro
theorem bro_size : ∀ f : Fm, f.bro.length ≤ f.size
  | .fact _ _ => by simp [Fm.bro]
  | .not f => by have := bro_size f; simp [Fm.bro, Fm.size]; omega
  | .two _ f g => by have := bro_size f; have := bro_size g; simp [Fm.bro, Fm.size]; omega
  | .any _ n f => by have := bro_size f; simp [Fm.bro, Fm.size]; omega
theorem any_in {a : Bool} : inD (.str (anyS a)) g_OF_ANY = some true := by
  rw [g_OF_ANY_eq, inD_strs]
  cases a <;> decide
theorem two_in {o : O2} : inD (.str o.s) g_OF_ANY = some false := by
  rw [g_OF_ANY_eq, inD_strs]
  cases o <;> decide
theorem brought_ok (u : Ups tab) : ∀ (f : Fm) (k : Nat) (S : Sto), f.size ≤ 10000 → f.h ≤ k → Cn tab k "brought" [.d f.e] S = .ok (.n (f.bro.map .int)) S
  | .fact w ts, k, S, hz, hk => by
    simp [Fm.h] at hk
    obtain ⟨k, rfl⟩ : ∃ j, k = j + 1 := ⟨k - 1, by omega⟩
    rw [u_brought u]
    simp [b_brought, Fm.e, locR_ok, ev_loc, ev_dat, optB_ok, kBin2_ap, kBin1_ap, ev_bin, kCmp2_ap, kCmp1_ap, ev_cmp, kChn3_t, kChn3_f, kChn2_ap, kChn1_ap, ev_chn, kIsN_ap, ev_isN, kAnd2_t, kAnd2_f, kAnd1_ap, ev_and, kOr2_t, kOr2_f, kOr1_ap, ev_or, kNot_ap, ev_not, kIte2_t, kIte2_f, kIte1_ap, ev_ite, optT_ok, optL_ok, kTup_ap, kLst_ap, ev_tup, ev_lst, kIdx2_ap, kIdx1_ap, ev_idx, kslF3_ap, kslF2_ap, kslF1_ap, ev_slF, kslT3_ap, kslT2_ap, kslT1_ap, ev_slT, kRev2_ap, kRev_ap, ev_rev, kCall_ap, ev_call, kIsi2_ap, kIsi_ap, ev_isi, kBlt_ap, ev_blt, kMut3_ap, kMut2_ap, kMut1_ap, ev_mut, kPrm_ap, ev_prm, kC3_t, kC3_f, kC2_ap, kN_ap, kComp_ap, kLs_ap, kLsc_ap, kK3_t, kK3_f, kK2_ap, ev_comp, ev_lsc, kCons_ap, kEvs2_ap, kEvs1_ap, ev_nil, ev_cons, kSq_ap, ev_sq, kRng_ap, ev_rng1, k_enm2_ap, k_enm_ap, ev_ienm, k_rev2_ap, k_rev_ap, ev_irev, kTest_ap, ev_t0, ev_t1, ev_T, kRet_ap, ev_ret, ev_retN, nextE_ok, kAsg_ap, ev_asg, kNew2_ap, kNew1_ap, ev_new, kExp_ap, ev_exp, kIf_t, kIf_f, ev_if, kTurn_ap, kFor_ap, ev_for, kSix4_ap, kSix3_ap, kSix2_ap, kSix1_ap, ev_six, ev_pass, kSeq_n, kSeq_r, ev_s0, ev_s1, kLeave_n, kLeave_d, kLeave_l, kLeave_k, kLeave_o, run_def, rpm, startE, give, truthW, viewD, viewL, fz, isTy, kb, ki, dTruth, rcmp, rcmpD, cmpI, ridx_t0, ridx_t1, ridx_t2, ridx_t3, ridx_l0, ridx_l1, ridx_l2, ridx_l3, eqD_str, eqD_int, rbin, rblt, opt_some, opt_none, Res.bind_ok, Res.bind_stuck, Res.bind_exc, bindT, setAll, datas, asInt, itemsW, listD, rsl, List.map_cons, List.map_nil, List.length_cons, List.length_nil, List.cons_append, List.nil_append, List.replicate, List.getElem?_cons_zero, List.getElem?_cons_succ, List.headD_nil, List.headD_cons, List.tail_nil, List.tail_cons, Option.map_some, Option.map_none, List.set_cons_zero, List.set_cons_succ, ofS_beq, Bool.not_true, Bool.not_false, Bool.or_false, Bool.or_true, Bool.and_true, Bool.and_false, Bool.false_eq_true, if_true, if_false, Fm.bro]
  | .not f, k, S, hz, hk => by
    simp [Fm.h] at hk
    simp [Fm.size] at hz
    obtain ⟨k, rfl⟩ : ∃ j, k = j + 1 := ⟨k - 1, by omega⟩
    rw [u_brought u]
    simp [b_brought, Fm.e, locR_ok, ev_loc, ev_dat, optB_ok, kBin2_ap, kBin1_ap, ev_bin, kCmp2_ap, kCmp1_ap, ev_cmp, kChn3_t, kChn3_f, kChn2_ap, kChn1_ap, ev_chn, kIsN_ap, ev_isN, kAnd2_t, kAnd2_f, kAnd1_ap, ev_and, kOr2_t, kOr2_f, kOr1_ap, ev_or, kNot_ap, ev_not, kIte2_t, kIte2_f, kIte1_ap, ev_ite, optT_ok, optL_ok, kTup_ap, kLst_ap, ev_tup, ev_lst, kIdx2_ap, kIdx1_ap, ev_idx, kslF3_ap, kslF2_ap, kslF1_ap, ev_slF, kslT3_ap, kslT2_ap, kslT1_ap, ev_slT, kRev2_ap, kRev_ap, ev_rev, kCall_ap, ev_call, kIsi2_ap, kIsi_ap, ev_isi, kBlt_ap, ev_blt, kMut3_ap, kMut2_ap, kMut1_ap, ev_mut, kPrm_ap, ev_prm, kC3_t, kC3_f, kC2_ap, kN_ap, kComp_ap, kLs_ap, kLsc_ap, kK3_t, kK3_f, kK2_ap, ev_comp, ev_lsc, kCons_ap, kEvs2_ap, kEvs1_ap, ev_nil, ev_cons, kSq_ap, ev_sq, kRng_ap, ev_rng1, k_enm2_ap, k_enm_ap, ev_ienm, k_rev2_ap, k_rev_ap, ev_irev, kTest_ap, ev_t0, ev_t1, ev_T, kRet_ap, ev_ret, ev_retN, nextE_ok, kAsg_ap, ev_asg, kNew2_ap, kNew1_ap, ev_new, kExp_ap, ev_exp, kIf_t, kIf_f, ev_if, kTurn_ap, kFor_ap, ev_for, kSix4_ap, kSix3_ap, kSix2_ap, kSix1_ap, ev_six, ev_pass, kSeq_n, kSeq_r, ev_s0, ev_s1, kLeave_n, kLeave_d, kLeave_l, kLeave_k, kLeave_o, run_def, rpm, startE, give, truthW, viewD, viewL, fz, isTy, kb, ki, dTruth, rcmp, rcmpD, cmpI, ridx_t0, ridx_t1, ridx_t2, ridx_t3, ridx_l0, ridx_l1, ridx_l2, ridx_l3, eqD_str, eqD_int, rbin, rblt, opt_some, opt_none, Res.bind_ok, Res.bind_stuck, Res.bind_exc, bindT, setAll, datas, asInt, itemsW, listD, rsl, List.map_cons, List.map_nil, List.length_cons, List.length_nil, List.cons_append, List.nil_append, List.replicate, List.getElem?_cons_zero, List.getElem?_cons_succ, List.headD_nil, List.headD_cons, List.tail_nil, List.tail_cons, Option.map_some, Option.map_none, List.set_cons_zero, List.set_cons_succ, ofS_beq, Bool.not_true, Bool.not_false, Bool.or_false, Bool.or_true, Bool.and_true, Bool.and_false, Bool.false_eq_true, if_true, if_false, Fm.bro, brought_ok u f k S (by omega) (by omega)]
  | .two o f g, k, S, hz, hk => by
    simp [Fm.h] at hk
    simp [Fm.size] at hz
    obtain ⟨k, rfl⟩ : ∃ j, k = j + 1 := ⟨k - 1, by omega⟩
    rw [u_brought u]
    have l1 : f.bro.length + g.bro.length ≤ sizeLine := size_line (by have := bro_size f; have := bro_size g; omega)
    have i1 := two_in (o := o)
    have e1 : (o.s == "fact") = false := by cases o <;> rfl
    have e2 : (o.s == "not") = false := by cases o <;> rfl
    simp [b_brought, Fm.e, locR_ok, ev_loc, ev_dat, optB_ok, kBin2_ap, kBin1_ap, ev_bin, kCmp2_ap, kCmp1_ap, ev_cmp, kChn3_t, kChn3_f, kChn2_ap, kChn1_ap, ev_chn, kIsN_ap, ev_isN, kAnd2_t, kAnd2_f, kAnd1_ap, ev_and, kOr2_t, kOr2_f, kOr1_ap, ev_or, kNot_ap, ev_not, kIte2_t, kIte2_f, kIte1_ap, ev_ite, optT_ok, optL_ok, kTup_ap, kLst_ap, ev_tup, ev_lst, kIdx2_ap, kIdx1_ap, ev_idx, kslF3_ap, kslF2_ap, kslF1_ap, ev_slF, kslT3_ap, kslT2_ap, kslT1_ap, ev_slT, kRev2_ap, kRev_ap, ev_rev, kCall_ap, ev_call, kIsi2_ap, kIsi_ap, ev_isi, kBlt_ap, ev_blt, kMut3_ap, kMut2_ap, kMut1_ap, ev_mut, kPrm_ap, ev_prm, kC3_t, kC3_f, kC2_ap, kN_ap, kComp_ap, kLs_ap, kLsc_ap, kK3_t, kK3_f, kK2_ap, ev_comp, ev_lsc, kCons_ap, kEvs2_ap, kEvs1_ap, ev_nil, ev_cons, kSq_ap, ev_sq, kRng_ap, ev_rng1, k_enm2_ap, k_enm_ap, ev_ienm, k_rev2_ap, k_rev_ap, ev_irev, kTest_ap, ev_t0, ev_t1, ev_T, kRet_ap, ev_ret, ev_retN, nextE_ok, kAsg_ap, ev_asg, kNew2_ap, kNew1_ap, ev_new, kExp_ap, ev_exp, kIf_t, kIf_f, ev_if, kTurn_ap, kFor_ap, ev_for, kSix4_ap, kSix3_ap, kSix2_ap, kSix1_ap, ev_six, ev_pass, kSeq_n, kSeq_r, ev_s0, ev_s1, kLeave_n, kLeave_d, kLeave_l, kLeave_k, kLeave_o, run_def, rpm, startE, give, truthW, viewD, viewL, fz, isTy, kb, ki, dTruth, rcmp, rcmpD, cmpI, ridx_t0, ridx_t1, ridx_t2, ridx_t3, ridx_l0, ridx_l1, ridx_l2, ridx_l3, eqD_str, eqD_int, rbin, rblt, opt_some, opt_none, Res.bind_ok, Res.bind_stuck, Res.bind_exc, bindT, setAll, datas, asInt, itemsW, listD, rsl, List.map_cons, List.map_nil, List.length_cons, List.length_nil, List.cons_append, List.nil_append, List.replicate, List.getElem?_cons_zero, List.getElem?_cons_succ, List.headD_nil, List.headD_cons, List.tail_nil, List.tail_cons, Option.map_some, Option.map_none, List.set_cons_zero, List.set_cons_succ, ofS_beq, Bool.not_true, Bool.not_false, Bool.or_false, Bool.or_true, Bool.and_true, Bool.and_false, Bool.false_eq_true, if_true, if_false, Fm.bro, brought_ok u f k S (by omega) (by omega), brought_ok u g k S (by omega) (by omega), i1, e1, e2, l1]
  | .any a n f, k, S, hz, hk => by
    simp [Fm.h] at hk
    simp [Fm.size] at hz
    obtain ⟨k, rfl⟩ : ∃ j, k = j + 1 := ⟨k - 1, by omega⟩
    rw [u_brought u]
    have l1 : 0 + 1 + f.bro.length ≤ sizeLine := size_line (by have := bro_size f; omega)
    have i1 := any_in (a := a)
    have e1 : (anyS a == "fact") = false := by cases a <;> rfl
    have e2 : (anyS a == "not") = false := by cases a <;> rfl
    simp [b_brought, Fm.e, locR_ok, ev_loc, ev_dat, optB_ok, kBin2_ap, kBin1_ap, ev_bin, kCmp2_ap, kCmp1_ap, ev_cmp, kChn3_t, kChn3_f, kChn2_ap, kChn1_ap, ev_chn, kIsN_ap, ev_isN, kAnd2_t, kAnd2_f, kAnd1_ap, ev_and, kOr2_t, kOr2_f, kOr1_ap, ev_or, kNot_ap, ev_not, kIte2_t, kIte2_f, kIte1_ap, ev_ite, optT_ok, optL_ok, kTup_ap, kLst_ap, ev_tup, ev_lst, kIdx2_ap, kIdx1_ap, ev_idx, kslF3_ap, kslF2_ap, kslF1_ap, ev_slF, kslT3_ap, kslT2_ap, kslT1_ap, ev_slT, kRev2_ap, kRev_ap, ev_rev, kCall_ap, ev_call, kIsi2_ap, kIsi_ap, ev_isi, kBlt_ap, ev_blt, kMut3_ap, kMut2_ap, kMut1_ap, ev_mut, kPrm_ap, ev_prm, kC3_t, kC3_f, kC2_ap, kN_ap, kComp_ap, kLs_ap, kLsc_ap, kK3_t, kK3_f, kK2_ap, ev_comp, ev_lsc, kCons_ap, kEvs2_ap, kEvs1_ap, ev_nil, ev_cons, kSq_ap, ev_sq, kRng_ap, ev_rng1, k_enm2_ap, k_enm_ap, ev_ienm, k_rev2_ap, k_rev_ap, ev_irev, kTest_ap, ev_t0, ev_t1, ev_T, kRet_ap, ev_ret, ev_retN, nextE_ok, kAsg_ap, ev_asg, kNew2_ap, kNew1_ap, ev_new, kExp_ap, ev_exp, kIf_t, kIf_f, ev_if, kTurn_ap, kFor_ap, ev_for, kSix4_ap, kSix3_ap, kSix2_ap, kSix1_ap, ev_six, ev_pass, kSeq_n, kSeq_r, ev_s0, ev_s1, kLeave_n, kLeave_d, kLeave_l, kLeave_k, kLeave_o, run_def, rpm, startE, give, truthW, viewD, viewL, fz, isTy, kb, ki, dTruth, rcmp, rcmpD, cmpI, ridx_t0, ridx_t1, ridx_t2, ridx_t3, ridx_l0, ridx_l1, ridx_l2, ridx_l3, eqD_str, eqD_int, rbin, rblt, opt_some, opt_none, Res.bind_ok, Res.bind_stuck, Res.bind_exc, bindT, setAll, datas, asInt, itemsW, listD, rsl, List.map_cons, List.map_nil, List.length_cons, List.length_nil, List.cons_append, List.nil_append, List.replicate, List.getElem?_cons_zero, List.getElem?_cons_succ, List.headD_nil, List.headD_cons, List.tail_nil, List.tail_cons, Option.map_some, Option.map_none, List.set_cons_zero, List.set_cons_succ, ofS_beq, Bool.not_true, Bool.not_false, Bool.or_false, Bool.or_true, Bool.and_true, Bool.and_false, Bool.false_eq_true, if_true, if_false, Fm.bro, brought_ok u f k S (by omega) (by omega), i1, e1, e2]
    rw [if_pos (by omega)]
    simp [locR_ok, ev_loc, ev_dat, optB_ok, kBin2_ap, kBin1_ap, ev_bin, kCmp2_ap, kCmp1_ap, ev_cmp, kChn3_t, kChn3_f, kChn2_ap, kChn1_ap, ev_chn, kIsN_ap, ev_isN, kAnd2_t, kAnd2_f, kAnd1_ap, ev_and, kOr2_t, kOr2_f, kOr1_ap, ev_or, kNot_ap, ev_not, kIte2_t, kIte2_f, kIte1_ap, ev_ite, optT_ok, optL_ok, kTup_ap, kLst_ap, ev_tup, ev_lst, kIdx2_ap, kIdx1_ap, ev_idx, kslF3_ap, kslF2_ap, kslF1_ap, ev_slF, kslT3_ap, kslT2_ap, kslT1_ap, ev_slT, kRev2_ap, kRev_ap, ev_rev, kCall_ap, ev_call, kIsi2_ap, kIsi_ap, ev_isi, kBlt_ap, ev_blt, kMut3_ap, kMut2_ap, kMut1_ap, ev_mut, kPrm_ap, ev_prm, kC3_t, kC3_f, kC2_ap, kN_ap, kComp_ap, kLs_ap, kLsc_ap, kK3_t, kK3_f, kK2_ap, ev_comp, ev_lsc, kCons_ap, kEvs2_ap, kEvs1_ap, ev_nil, ev_cons, kSq_ap, ev_sq, kRng_ap, ev_rng1, k_enm2_ap, k_enm_ap, ev_ienm, k_rev2_ap, k_rev_ap, ev_irev, kTest_ap, ev_t0, ev_t1, ev_T, kRet_ap, ev_ret, ev_retN, nextE_ok, kAsg_ap, ev_asg, kNew2_ap, kNew1_ap, ev_new, kExp_ap, ev_exp, kIf_t, kIf_f, ev_if, kTurn_ap, kFor_ap, ev_for, kSix4_ap, kSix3_ap, kSix2_ap, kSix1_ap, ev_six, ev_pass, kSeq_n, kSeq_r, ev_s0, ev_s1, kLeave_n, kLeave_d, kLeave_l, kLeave_k, kLeave_o, run_def, rpm, startE, give, truthW, viewD, viewL, fz, isTy, kb, ki, dTruth, rcmp, rcmpD, cmpI, ridx_t0, ridx_t1, ridx_t2, ridx_t3, ridx_l0, ridx_l1, ridx_l2, ridx_l3, eqD_str, eqD_int, rbin, rblt, opt_some, opt_none, Res.bind_ok, Res.bind_stuck, Res.bind_exc, bindT, setAll, datas, asInt, itemsW, listD, rsl, List.map_cons, List.map_nil, List.length_cons, List.length_nil, List.cons_append, List.nil_append, List.replicate, List.getElem?_cons_zero, List.getElem?_cons_succ, List.headD_nil, List.headD_cons, List.tail_nil, List.tail_cons, Option.map_some, Option.map_none, List.set_cons_zero, List.set_cons_succ, ofS_beq, Bool.not_true, Bool.not_false, Bool.or_false, Bool.or_true, Bool.and_true, Bool.and_false, Bool.false_eq_true, if_true, if_false]
/-! ### what is formed -/
def thOk (b : Bk) : Tm → Bool
  | .nm s => b.any fun p => p.1 == s && p.2 == "name"
  | .no i => decide (0 ≤ i) && decide (i ≤ 99)
  | .it i => decide (0 ≤ i) && decide (i ≤ 99)
def okF (b : Bk) : Fm → Bool
  | .fact w ts => !ts.isEmpty && (PyData.eqv (placesD b w) (.int ts.length) && ts.all (thOk b))
  | .not f => okF b f
  | .two _ f g => okF b f && okF b g
  | .any _ n f => decide (0 ≤ n) && decide (n ≤ 99) && okF b f
theorem thing_ok {b : Bk} {t : Tm} (h : thOk b t = true) : thingD b t.e = true := by
  cases t with
  | nm s => exact h
  | no i => simpa [thOk, Tm.e, thingD, withinD] using h
  | it i => simpa [thOk, Tm.e, thingD, withinD, PyData.eqv] using h
theorem formed_ok {b : Bk} : ∀ {f : Fm} {n : Nat}, okF b f = true → f.h ≤ n → formedD b n f.e = true
  | .fact w ts, n, h, hn => by
    simp [Fm.h] at hn
    obtain ⟨n, rfl⟩ : ∃ j, n = j + 1 := ⟨n - 1, by omega⟩
    simp only [okF, Bool.and_eq_true] at h
    simp only [Fm.e, formedD]
    simp only [factD, List.isEmpty_map, List.length_map, h.1, h.2.1, Bool.true_and, List.all_map]
    simp
    intro t ht
    exact thing_ok (List.all_eq_true.mp h.2.2 t ht)
  | .not f, n, h, hn => by
    simp [Fm.h] at hn
    obtain ⟨n, rfl⟩ : ∃ j, n = j + 1 := ⟨n - 1, by omega⟩
    have ih := formed_ok (f := f) (n := n) h (by omega)
    simp [Fm.e, formedD, ofS_beq, ih]
  | .two o f g, n, h, hn => by
    simp [Fm.h] at hn
    obtain ⟨n, rfl⟩ : ∃ j, n = j + 1 := ⟨n - 1, by omega⟩
    simp only [okF, Bool.and_eq_true] at h
    have ih1 := formed_ok (f := f) (n := n) h.1 (by omega)
    have ih2 := formed_ok (f := g) (n := n) h.2 (by omega)
    have e1 : (o.s == "fact") = false := by cases o <;> rfl
    have e2 : (o.s == "not") = false := by cases o <;> rfl
    have e3 : (twoL.any fun y => y == Str.ofString o.s) = true := by cases o <;> decide
    simp only [Fm.e, formedD, ofS_beq, e1, e2, e3, ih1, ih2]
    rfl
  | .any a m f, n, h, hn => by
    simp [Fm.h] at hn
    obtain ⟨n, rfl⟩ : ∃ j, n = j + 1 := ⟨n - 1, by omega⟩
    simp only [okF, Bool.and_eq_true] at h
    have ih := formed_ok (f := f) (n := n) h.2 (by omega)
    have e1 : (anyS a == "fact") = false := by cases a <;> rfl
    have e2 : (anyS a == "not") = false := by cases a <;> rfl
    have e3 : (twoL.any fun y => y == Str.ofString (anyS a)) = false := by cases a <;> decide
    have e4 : (anyL.any fun y => y == Str.ofString (anyS a)) = true := by cases a <;> decide
    have e5 : withinD 0 99 (.int m) = true := by simp only [withinD, h.1.1, h.1.2]; rfl
    simp only [Fm.e, formedD, ofS_beq, e1, e2, e3, e4, e5, ih]
    rfl
theorem depth_tms : ∀ ts : List Tm, PyData.depthAll (ts.map Tm.e) ≤ 1
  | [] => by simp [PyData.depthAll]
  | t :: ts => by
    have := depth_tms ts
    simp only [List.map_cons, PyData.depthAll]
    cases t <;> simp [Tm.e, PyData.depth, PyData.depthAll] <;> omega
theorem depth_fm : ∀ f : Fm, f.e.depth ≤ f.h + 2
  | .fact w ts => by
    have := depth_tms ts
    simp [Fm.e, PyData.depth, PyData.depthAll, Fm.h]; omega
  | .not f => by
    have := depth_fm f
    simp [Fm.e, PyData.depth, PyData.depthAll, Fm.h]; omega
  | .two o f g => by
    have := depth_fm f; have := depth_fm g
    simp [Fm.e, PyData.depth, PyData.depthAll, Fm.h]; omega
  | .any a n f => by
    have := depth_fm f
    simp [Fm.e, PyData.depth, PyData.depthAll, Fm.h]; omega
theorem thins_tms : ∀ ts : List Tm, thins (ts.map Tm.e) = true
  | [] => rfl
  | t :: ts => by
    have := thins_tms ts
    simp only [List.map_cons, thins, this, Bool.and_true]
    cases t <;> simp [Tm.e, thin, thins]
def Fm.few : Fm → Bool
  | .fact _ ts => decide (ts.length ≤ 10000)
  | .not f => f.few
  | .two _ f g => f.few && g.few
  | .any _ _ f => f.few
theorem thin_fm : ∀ f : Fm, f.few = true → thin f.e = true
  | .fact w ts, h => by
    have := thins_tms ts
    simp only [Fm.few, decide_eq_true_eq] at h
    simp [Fm.e, thin, thins, this, h]
  | .not f, h => by
    have := thin_fm f h
    simp [Fm.e, thin, thins, this]
  | .two o f g, h => by
    simp only [Fm.few, Bool.and_eq_true] at h
    have := thin_fm f h.1; have := thin_fm g h.2
    simp [Fm.e, thin, thins, *]
  | .any a n f, h => by
    have := thin_fm f h
    simp [Fm.e, thin, thins, this]
theorem addI_nodup : ∀ (ns l : List Int), (l ++ ns).Nodup → ns.foldl addI l = l ++ ns
  | [], l, _ => by simp
  | n :: ns, l, h => by
    have hn : l.any (· == n) = false := by
      rw [List.any_eq_false]
      intro x hx e
      have : x = n := by simpa using e
      subst this
      rw [List.nodup_append] at h
      exact h.2.2 x hx x (by simp) rfl
    have e : addI l n = l ++ [n] := by unfold addI; rw [hn]; rfl
    rw [List.foldl_cons, e]
    rw [addI_nodup ns (l ++ [n]) (by rw [List.append_assoc]; exact h), List.append_assoc]
    rfl
theorem intsD_map : ∀ ns : List Int, intsD (ns.map .int) = some ns
  | [] => rfl
  | n :: ns => by
    simp only [List.map_cons, intsD, intsD_map ns, Option.map_some]
theorem is_formula_of_ok (u : Ups tab) {b : Bk} {f : Fm} {k : Nat} (hb : kindsOk b = true) (hl : b.length ≤ 10000) (ho : okF b f = true) (hw : f.few = true) (hz : f.size ≤ 4000) (hh : f.h ≤ 300) (hn : f.bro.Nodup) (hk : f.h + 6 ≤ k) : Cn tab k "is_formula_of" [.d (bkE b), .d f.e] S = .ok (kb true) S := by
  obtain ⟨k, rfl⟩ : ∃ j, k = j + 1 := ⟨k - 1, by omega⟩
  rw [u_is_formula_of u]
  have h1 := is_formed_ok u hb hl (f.h + 2) f.e k 300 S (depth_fm f) (thin_fm f hw) (by omega)
  rw [formed_ok ho hh] at h1
  have h1 : Cn tab k "is_formed" [.d (bkE b), .d f.e, .d (.int 300)] S = .ok (kb true) S := h1
  have h2 := brought_ok u f k S (by omega) (by omega)
  have l1 : f.bro.length ≤ 4000 := Nat.le_trans (bro_size f) hz
  have e1 := addI_nodup f.bro [] (by simpa using hn)
  simp [b_is_formula_of, locR_ok, ev_loc, ev_dat, optB_ok, kBin2_ap, kBin1_ap, ev_bin, kCmp2_ap, kCmp1_ap, ev_cmp, kChn3_t, kChn3_f, kChn2_ap, kChn1_ap, ev_chn, kIsN_ap, ev_isN, kAnd2_t, kAnd2_f, kAnd1_ap, ev_and, kOr2_t, kOr2_f, kOr1_ap, ev_or, kNot_ap, ev_not, kIte2_t, kIte2_f, kIte1_ap, ev_ite, optT_ok, optL_ok, kTup_ap, kLst_ap, ev_tup, ev_lst, kIdx2_ap, kIdx1_ap, ev_idx, kslF3_ap, kslF2_ap, kslF1_ap, ev_slF, kslT3_ap, kslT2_ap, kslT1_ap, ev_slT, kRev2_ap, kRev_ap, ev_rev, kCall_ap, ev_call, kIsi2_ap, kIsi_ap, ev_isi, kBlt_ap, ev_blt, kMut3_ap, kMut2_ap, kMut1_ap, ev_mut, kPrm_ap, ev_prm, kC3_t, kC3_f, kC2_ap, kN_ap, kComp_ap, kLs_ap, kLsc_ap, kK3_t, kK3_f, kK2_ap, ev_comp, ev_lsc, kCons_ap, kEvs2_ap, kEvs1_ap, ev_nil, ev_cons, kSq_ap, ev_sq, kRng_ap, ev_rng1, k_enm2_ap, k_enm_ap, ev_ienm, k_rev2_ap, k_rev_ap, ev_irev, kTest_ap, ev_t0, ev_t1, ev_T, kRet_ap, ev_ret, ev_retN, nextE_ok, kAsg_ap, ev_asg, kNew2_ap, kNew1_ap, ev_new, kExp_ap, ev_exp, kIf_t, kIf_f, ev_if, kTurn_ap, kFor_ap, ev_for, kSix4_ap, kSix3_ap, kSix2_ap, kSix1_ap, ev_six, ev_pass, kSeq_n, kSeq_r, ev_s0, ev_s1, kLeave_n, kLeave_d, kLeave_l, kLeave_k, kLeave_o, run_def, rpm, startE, give, truthW, viewD, viewL, fz, isTy, kb, ki, dTruth, rcmp, rcmpD, cmpI, ridx_t0, ridx_t1, ridx_t2, ridx_t3, ridx_l0, ridx_l1, ridx_l2, ridx_l3, eqD_str, eqD_int, rbin, rblt, opt_some, opt_none, Res.bind_ok, Res.bind_stuck, Res.bind_exc, bindT, setAll, datas, asInt, itemsW, listD, rsl, List.map_cons, List.map_nil, List.length_cons, List.length_nil, List.cons_append, List.nil_append, List.replicate, List.getElem?_cons_zero, List.getElem?_cons_succ, List.headD_nil, List.headD_cons, List.tail_nil, List.tail_cons, Option.map_some, Option.map_none, List.set_cons_zero, List.set_cons_succ, ofS_beq, Bool.not_true, Bool.not_false, Bool.or_false, Bool.or_true, Bool.and_true, Bool.and_false, Bool.false_eq_true, if_true, if_false, g_MOST_DEEP, h1, h2, intsD_map, l1, e1]
theorem flat_law (u : Ups tab) {b : Bk} {f : Fm} {k : Nat} (hbk : isBookD (bkE b) = true) (hb : kindsOk b = true) (hl : b.length ≤ 10000) (ho : okF b f = true) (hw : f.few = true) (hz : f.size ≤ 4000) (hh : f.h ≤ 300) (hn : f.bro.Nodup) (hk : 3 * f.h + 12 ≤ k) : Cn tab k "flat" [.d (bkE b), .d f.e] S = .ok (.w (.d (fo f).1.e)) S := by
  obtain ⟨k, rfl⟩ : ∃ j, k = j + 5 := ⟨k - 5, by omega⟩
  rw [u_flat u]
  have h1 : Cn tab (k + 4) "look_formula" [.d (bkE b), .d f.e] S = .ok (.w (.d .none)) S := by
    rw [u_look_formula u]
    simp [b_look_formula, locR_ok, ev_loc, ev_dat, optB_ok, kBin2_ap, kBin1_ap, ev_bin, kCmp2_ap, kCmp1_ap, ev_cmp, kChn3_t, kChn3_f, kChn2_ap, kChn1_ap, ev_chn, kIsN_ap, ev_isN, kAnd2_t, kAnd2_f, kAnd1_ap, ev_and, kOr2_t, kOr2_f, kOr1_ap, ev_or, kNot_ap, ev_not, kIte2_t, kIte2_f, kIte1_ap, ev_ite, optT_ok, optL_ok, kTup_ap, kLst_ap, ev_tup, ev_lst, kIdx2_ap, kIdx1_ap, ev_idx, kslF3_ap, kslF2_ap, kslF1_ap, ev_slF, kslT3_ap, kslT2_ap, kslT1_ap, ev_slT, kRev2_ap, kRev_ap, ev_rev, kCall_ap, ev_call, kIsi2_ap, kIsi_ap, ev_isi, kBlt_ap, ev_blt, kMut3_ap, kMut2_ap, kMut1_ap, ev_mut, kPrm_ap, ev_prm, kC3_t, kC3_f, kC2_ap, kN_ap, kComp_ap, kLs_ap, kLsc_ap, kK3_t, kK3_f, kK2_ap, ev_comp, ev_lsc, kCons_ap, kEvs2_ap, kEvs1_ap, ev_nil, ev_cons, kSq_ap, ev_sq, kRng_ap, ev_rng1, k_enm2_ap, k_enm_ap, ev_ienm, k_rev2_ap, k_rev_ap, ev_irev, kTest_ap, ev_t0, ev_t1, ev_T, kRet_ap, ev_ret, ev_retN, nextE_ok, kAsg_ap, ev_asg, kNew2_ap, kNew1_ap, ev_new, kExp_ap, ev_exp, kIf_t, kIf_f, ev_if, kTurn_ap, kFor_ap, ev_for, kSix4_ap, kSix3_ap, kSix2_ap, kSix1_ap, ev_six, ev_pass, kSeq_n, kSeq_r, ev_s0, ev_s1, kLeave_n, kLeave_d, kLeave_l, kLeave_k, kLeave_o, run_def, rpm, startE, give, truthW, viewD, viewL, fz, isTy, kb, ki, dTruth, rcmp, rcmpD, cmpI, ridx_t0, ridx_t1, ridx_t2, ridx_t3, ridx_l0, ridx_l1, ridx_l2, ridx_l3, eqD_str, eqD_int, rbin, rblt, opt_some, opt_none, Res.bind_ok, Res.bind_stuck, Res.bind_exc, bindT, setAll, datas, asInt, itemsW, listD, rsl, List.map_cons, List.map_nil, List.length_cons, List.length_nil, List.cons_append, List.nil_append, List.replicate, List.getElem?_cons_zero, List.getElem?_cons_succ, List.headD_nil, List.headD_cons, List.tail_nil, List.tail_cons, Option.map_some, Option.map_none, List.set_cons_zero, List.set_cons_succ, ofS_beq, Bool.not_true, Bool.not_false, Bool.or_false, Bool.or_true, Bool.and_true, Bool.and_false, Bool.false_eq_true, if_true, if_false, look_ok u hbk, is_formula_of_ok u hb hl ho hw hz hh hn (k := k + 3) (by omega)]
  have h2 := (flat_ok u f (by omega)).1 (k + 4) S (by omega)
  simp [b_flat, locR_ok, ev_loc, ev_dat, optB_ok, kBin2_ap, kBin1_ap, ev_bin, kCmp2_ap, kCmp1_ap, ev_cmp, kChn3_t, kChn3_f, kChn2_ap, kChn1_ap, ev_chn, kIsN_ap, ev_isN, kAnd2_t, kAnd2_f, kAnd1_ap, ev_and, kOr2_t, kOr2_f, kOr1_ap, ev_or, kNot_ap, ev_not, kIte2_t, kIte2_f, kIte1_ap, ev_ite, optT_ok, optL_ok, kTup_ap, kLst_ap, ev_tup, ev_lst, kIdx2_ap, kIdx1_ap, ev_idx, kslF3_ap, kslF2_ap, kslF1_ap, ev_slF, kslT3_ap, kslT2_ap, kslT1_ap, ev_slT, kRev2_ap, kRev_ap, ev_rev, kCall_ap, ev_call, kIsi2_ap, kIsi_ap, ev_isi, kBlt_ap, ev_blt, kMut3_ap, kMut2_ap, kMut1_ap, ev_mut, kPrm_ap, ev_prm, kC3_t, kC3_f, kC2_ap, kN_ap, kComp_ap, kLs_ap, kLsc_ap, kK3_t, kK3_f, kK2_ap, ev_comp, ev_lsc, kCons_ap, kEvs2_ap, kEvs1_ap, ev_nil, ev_cons, kSq_ap, ev_sq, kRng_ap, ev_rng1, k_enm2_ap, k_enm_ap, ev_ienm, k_rev2_ap, k_rev_ap, ev_irev, kTest_ap, ev_t0, ev_t1, ev_T, kRet_ap, ev_ret, ev_retN, nextE_ok, kAsg_ap, ev_asg, kNew2_ap, kNew1_ap, ev_new, kExp_ap, ev_exp, kIf_t, kIf_f, ev_if, kTurn_ap, kFor_ap, ev_for, kSix4_ap, kSix3_ap, kSix2_ap, kSix1_ap, ev_six, ev_pass, kSeq_n, kSeq_r, ev_s0, ev_s1, kLeave_n, kLeave_d, kLeave_l, kLeave_k, kLeave_o, run_def, rpm, startE, give, truthW, viewD, viewL, fz, isTy, kb, ki, dTruth, rcmp, rcmpD, cmpI, ridx_t0, ridx_t1, ridx_t2, ridx_t3, ridx_l0, ridx_l1, ridx_l2, ridx_l3, eqD_str, eqD_int, rbin, rblt, opt_some, opt_none, Res.bind_ok, Res.bind_stuck, Res.bind_exc, bindT, setAll, datas, asInt, itemsW, listD, rsl, List.map_cons, List.map_nil, List.length_cons, List.length_nil, List.cons_append, List.nil_append, List.replicate, List.getElem?_cons_zero, List.getElem?_cons_succ, List.headD_nil, List.headD_cons, List.tail_nil, List.tail_cons, Option.map_some, Option.map_none, List.set_cons_zero, List.set_cons_succ, ofS_beq, Bool.not_true, Bool.not_false, Bool.or_false, Bool.or_true, Bool.and_true, Bool.and_false, Bool.false_eq_true, if_true, if_false, h1, h2]
end
end Sc
namespace Sc
open PySem PySem.Spec PyProof.Rows L2
section
variable {tab : Tab} {S : Sto}
/-! ### the script -/
def cellZ (ns : List Int) (k : Nat) : Int := ns.getD k 0
theorem law_cell_ok (u : Ups tab) {k : Nat} {ns : List Int} {i : Nat} : Cn tab (k + 1) "_law_cell" [.s ns, .d (.int i)] S = .ok (.w (.d (.int (cellZ ns i)))) S := by
  rw [u__law_cell u]
  by_cases h : i < ns.length
  · have h1 : decide ((i : Int) < ns.length) = true := by simp; omega
    have e : ridx S (.s ns) (.d (.int i)) = some (.w (.d (.int (cellZ ns i)))) := by
      simp only [ridx, atI]
      have e : ixN ns.length (i : Int) = some i := by unfold ixN; simp <;> omega
      rw [e]
      simp [cellZ, List.getD_eq_getElem?_getD, h]
    simp only [b__law_cell, locR_ok, ev_loc, ev_dat, optB_ok, kBin2_ap, kBin1_ap, ev_bin, kCmp2_ap, kCmp1_ap, ev_cmp, kChn3_t, kChn3_f, kChn2_ap, kChn1_ap, ev_chn, kIsN_ap, ev_isN, kAnd2_t, kAnd2_f, kAnd1_ap, ev_and, kOr2_t, kOr2_f, kOr1_ap, ev_or, kNot_ap, ev_not, kIte2_t, kIte2_f, kIte1_ap, ev_ite, optT_ok, optL_ok, kTup_ap, kLst_ap, ev_tup, ev_lst, kIdx2_ap, kIdx1_ap, ev_idx, kslF3_ap, kslF2_ap, kslF1_ap, ev_slF, kslT3_ap, kslT2_ap, kslT1_ap, ev_slT, kRev2_ap, kRev_ap, ev_rev, kCall_ap, ev_call, kIsi2_ap, kIsi_ap, ev_isi, kBlt_ap, ev_blt, kMut3_ap, kMut2_ap, kMut1_ap, ev_mut, kPrm_ap, ev_prm, kC3_t, kC3_f, kC2_ap, kN_ap, kComp_ap, kLs_ap, kLsc_ap, kK3_t, kK3_f, kK2_ap, ev_comp, ev_lsc, kCons_ap, kEvs2_ap, kEvs1_ap, ev_nil, ev_cons, kSq_ap, ev_sq, kRng_ap, ev_rng1, k_enm2_ap, k_enm_ap, ev_ienm, k_rev2_ap, k_rev_ap, ev_irev, kTest_ap, ev_t0, ev_t1, ev_T, kRet_ap, ev_ret, ev_retN, nextE_ok, kAsg_ap, ev_asg, kNew2_ap, kNew1_ap, ev_new, kExp_ap, ev_exp, kIf_t, kIf_f, ev_if, kTurn_ap, kFor_ap, ev_for, kSix4_ap, kSix3_ap, kSix2_ap, kSix1_ap, ev_six, ev_pass, kSeq_n, kSeq_r, ev_s0, ev_s1, kLeave_n, kLeave_d, kLeave_l, kLeave_k, kLeave_o, run_def, rpm, startE, give, truthW, viewD, viewL, fz, isTy, kb, ki, dTruth, rcmp, rcmpD, cmpI, ridx_t0, ridx_t1, ridx_t2, ridx_t3, ridx_l0, ridx_l1, ridx_l2, ridx_l3, eqD_str, eqD_int, rbin, rblt, opt_some, opt_none, Res.bind_ok, Res.bind_stuck, Res.bind_exc, bindT, setAll, datas, asInt, itemsW, listD, rsl, List.map_cons, List.map_nil, List.length_cons, List.length_nil, List.cons_append, List.nil_append, List.replicate, List.getElem?_cons_zero, List.getElem?_cons_succ, List.headD_nil, List.headD_cons, List.tail_nil, List.tail_cons, Option.map_some, Option.map_none, List.set_cons_zero, List.set_cons_succ, ofS_beq, Bool.not_true, Bool.not_false, Bool.or_false, Bool.or_true, Bool.and_true, Bool.and_false, Bool.false_eq_true, if_true, if_false, h1, e]
  · have h1 : decide ((i : Int) < ns.length) = false := by simp; omega
    simp only [b__law_cell, locR_ok, ev_loc, ev_dat, optB_ok, kBin2_ap, kBin1_ap, ev_bin, kCmp2_ap, kCmp1_ap, ev_cmp, kChn3_t, kChn3_f, kChn2_ap, kChn1_ap, ev_chn, kIsN_ap, ev_isN, kAnd2_t, kAnd2_f, kAnd1_ap, ev_and, kOr2_t, kOr2_f, kOr1_ap, ev_or, kNot_ap, ev_not, kIte2_t, kIte2_f, kIte1_ap, ev_ite, optT_ok, optL_ok, kTup_ap, kLst_ap, ev_tup, ev_lst, kIdx2_ap, kIdx1_ap, ev_idx, kslF3_ap, kslF2_ap, kslF1_ap, ev_slF, kslT3_ap, kslT2_ap, kslT1_ap, ev_slT, kRev2_ap, kRev_ap, ev_rev, kCall_ap, ev_call, kIsi2_ap, kIsi_ap, ev_isi, kBlt_ap, ev_blt, kMut3_ap, kMut2_ap, kMut1_ap, ev_mut, kPrm_ap, ev_prm, kC3_t, kC3_f, kC2_ap, kN_ap, kComp_ap, kLs_ap, kLsc_ap, kK3_t, kK3_f, kK2_ap, ev_comp, ev_lsc, kCons_ap, kEvs2_ap, kEvs1_ap, ev_nil, ev_cons, kSq_ap, ev_sq, kRng_ap, ev_rng1, k_enm2_ap, k_enm_ap, ev_ienm, k_rev2_ap, k_rev_ap, ev_irev, kTest_ap, ev_t0, ev_t1, ev_T, kRet_ap, ev_ret, ev_retN, nextE_ok, kAsg_ap, ev_asg, kNew2_ap, kNew1_ap, ev_new, kExp_ap, ev_exp, kIf_t, kIf_f, ev_if, kTurn_ap, kFor_ap, ev_for, kSix4_ap, kSix3_ap, kSix2_ap, kSix1_ap, ev_six, ev_pass, kSeq_n, kSeq_r, ev_s0, ev_s1, kLeave_n, kLeave_d, kLeave_l, kLeave_k, kLeave_o, run_def, rpm, startE, give, truthW, viewD, viewL, fz, isTy, kb, ki, dTruth, rcmp, rcmpD, cmpI, ridx_t0, ridx_t1, ridx_t2, ridx_t3, ridx_l0, ridx_l1, ridx_l2, ridx_l3, eqD_str, eqD_int, rbin, rblt, opt_some, opt_none, Res.bind_ok, Res.bind_stuck, Res.bind_exc, bindT, setAll, datas, asInt, itemsW, listD, rsl, List.map_cons, List.map_nil, List.length_cons, List.length_nil, List.cons_append, List.nil_append, List.replicate, List.getElem?_cons_zero, List.getElem?_cons_succ, List.headD_nil, List.headD_cons, List.tail_nil, List.tail_cons, Option.map_some, Option.map_none, List.set_cons_zero, List.set_cons_succ, ofS_beq, Bool.not_true, Bool.not_false, Bool.or_false, Bool.or_true, Bool.and_true, Bool.and_false, Bool.false_eq_true, if_true, if_false, h1]
    simp [cellZ, List.getD_eq_getElem?_getD, List.getElem?_eq_none (by omega : ns.length ≤ i)]
/-- numbers from 0 to 999 -/
def milli (xs : List Int) : Prop := ∀ x ∈ xs, 0 ≤ x ∧ x < 1000
def rwB : List Sm := [.ite (.cmp .lt (.call "_law_cell" [] [(.loc 0), (.loc 1)]) (.bin .pow (.dat (.int 10)) (.dat (.int 18)))) [.asg (.nm 2) (.bin .mod (.bin .add (.bin .add (.bin .add (.bin .mul (.loc 2) (.dat (.int 48271))) (.bin .mul (.dat (.int 131)) (.loc 4))) (.dat (.int 7))) (.call "_law_cell" [] [(.loc 0), (.bin .mod (.bin .add (.bin .add (.loc 1) (.dat (.int 1))) (.loc 4)) (.dat (.int 20)))])) (.dat (.int 2147483647))), .exp (.mut .append (.loc 3) [(.bin .mod (.bin .fdiv (.loc 2) (.dat (.int 11))) (.dat (.int 1000)))])] [.exp (.mut .append (.loc 3) [(.bin .mod (.loc 2) (.dat (.int 1000)))]), .asg (.nm 2) (.bin .fdiv (.loc 2) (.dat (.int 1000)))]]
theorem rmut_append {A G : Sto} {xs : List D} {y : D} (h : xs.length < 10000) : rmut .append (A ++ .lst xs :: G) (.o A.length) [.d y] = .ok (.w (.d .none)) (A ++ .lst (xs ++ [y]) :: G) := by
  unfold rmut
  simp only [at_mid, set_mid]
  rw [if_pos (Nat.lt_of_lt_of_le h (size_line (Nat.le_refl _)))]
theorem rw_turn (u : Ups tab) {k : Nat} {ns : List Int} {at_ t : Nat} {cell : Int} {acc : List Int} {A : Sto} {o : Option W} (hl : acc.length < 10000) : ∃ cell' x, 0 ≤ x ∧ x < 1000 ∧ turn (Cn tab (k + 1)) (.nm 4) rwB (.d (.int t)) [some (.s ns), some (.d (.int at_)), some (.d (.int cell)), some (.o A.length), o] (A ++ [.lst (acc.map .int)])
    = .ok (.next [some (.s ns), some (.d (.int at_)), some (.d (.int cell')), some (.o A.length), some (.d (.int t))]) (A ++ [.lst ((acc ++ [x]).map .int)]) := by
  obtain ⟨q, hm⟩ : ∃ q : Nat, (((at_ : Int) + 1 + t) % 20) = q := ⟨(at_ + 1 + t) % 20, by omega⟩
  have hl' : (acc.map PyData.int).length < 10000 := by simpa using hl
  by_cases hc : cellZ ns at_ < 1000000000000000000
  · refine ⟨(cell * 48271 + 131 * t + 7 + cellZ ns q) % 2147483647, ((cell * 48271 + 131 * t + 7 + cellZ ns q) % 2147483647) / 11 % 1000, Int.emod_nonneg _ (by decide), Int.emod_lt_of_pos _ (by decide), ?_⟩
    simp only [turn_ap, rwB, locR_ok, ev_loc, ev_dat, optB_ok, kBin2_ap, kBin1_ap, ev_bin, kCmp2_ap, kCmp1_ap, ev_cmp, kChn3_t, kChn3_f, kChn2_ap, kChn1_ap, ev_chn, kIsN_ap, ev_isN, kAnd2_t, kAnd2_f, kAnd1_ap, ev_and, kOr2_t, kOr2_f, kOr1_ap, ev_or, kNot_ap, ev_not, kIte2_t, kIte2_f, kIte1_ap, ev_ite, optT_ok, optL_ok, kTup_ap, kLst_ap, ev_tup, ev_lst, kIdx2_ap, kIdx1_ap, ev_idx, kslF3_ap, kslF2_ap, kslF1_ap, ev_slF, kslT3_ap, kslT2_ap, kslT1_ap, ev_slT, kRev2_ap, kRev_ap, ev_rev, kCall_ap, ev_call, kIsi2_ap, kIsi_ap, ev_isi, kBlt_ap, ev_blt, kMut3_ap, kMut2_ap, kMut1_ap, ev_mut, kPrm_ap, ev_prm, kC3_t, kC3_f, kC2_ap, kN_ap, kComp_ap, kLs_ap, kLsc_ap, kK3_t, kK3_f, kK2_ap, ev_comp, ev_lsc, kCons_ap, kEvs2_ap, kEvs1_ap, ev_nil, ev_cons, kSq_ap, ev_sq, kRng_ap, ev_rng1, k_enm2_ap, k_enm_ap, ev_ienm, k_rev2_ap, k_rev_ap, ev_irev, kTest_ap, ev_t0, ev_t1, ev_T, kRet_ap, ev_ret, ev_retN, nextE_ok, kAsg_ap, ev_asg, kNew2_ap, kNew1_ap, ev_new, kExp_ap, ev_exp, kIf_t, kIf_f, ev_if, kTurn_ap, kFor_ap, ev_for, kSix4_ap, kSix3_ap, kSix2_ap, kSix1_ap, ev_six, ev_pass, kSeq_n, kSeq_r, ev_s0, ev_s1, kLeave_n, kLeave_d, kLeave_l, kLeave_k, kLeave_o, run_def, rpm, startE, give, truthW, viewD, viewL, fz, isTy, kb, ki, dTruth, rcmp, rcmpD, cmpI, ridx_t0, ridx_t1, ridx_t2, ridx_t3, ridx_l0, ridx_l1, ridx_l2, ridx_l3, eqD_str, eqD_int, rb_add, rb_sub, rb_mul, rb_mul2, rb_mod, rb_fdiv, rb_addL, rblt, opt_some, opt_none, Res.bind_ok, Res.bind_stuck, Res.bind_exc, bindT, setAll, datas, asInt, itemsW, listD, rsl, List.map_cons, List.map_nil, List.length_cons, List.length_nil, List.cons_append, List.nil_append, List.replicate, List.getElem?_cons_zero, List.getElem?_cons_succ, List.headD_nil, List.headD_cons, List.tail_nil, List.tail_cons, Option.map_some, Option.map_none, List.set_cons_zero, List.set_cons_succ, ofS_beq, Bool.not_true, Bool.not_false, Bool.or_false, Bool.or_true, Bool.and_true, Bool.and_false, Bool.false_eq_true, if_true, if_false, law_cell_ok u, hm, at_mid, rmut_append hl', rb_pow18]
    simp [locR_ok, ev_loc, ev_dat, optB_ok, kBin2_ap, kBin1_ap, ev_bin, kCmp2_ap, kCmp1_ap, ev_cmp, kChn3_t, kChn3_f, kChn2_ap, kChn1_ap, ev_chn, kIsN_ap, ev_isN, kAnd2_t, kAnd2_f, kAnd1_ap, ev_and, kOr2_t, kOr2_f, kOr1_ap, ev_or, kNot_ap, ev_not, kIte2_t, kIte2_f, kIte1_ap, ev_ite, optT_ok, optL_ok, kTup_ap, kLst_ap, ev_tup, ev_lst, kIdx2_ap, kIdx1_ap, ev_idx, kslF3_ap, kslF2_ap, kslF1_ap, ev_slF, kslT3_ap, kslT2_ap, kslT1_ap, ev_slT, kRev2_ap, kRev_ap, ev_rev, kCall_ap, ev_call, kIsi2_ap, kIsi_ap, ev_isi, kBlt_ap, ev_blt, kMut3_ap, kMut2_ap, kMut1_ap, ev_mut, kPrm_ap, ev_prm, kC3_t, kC3_f, kC2_ap, kN_ap, kComp_ap, kLs_ap, kLsc_ap, kK3_t, kK3_f, kK2_ap, ev_comp, ev_lsc, kCons_ap, kEvs2_ap, kEvs1_ap, ev_nil, ev_cons, kSq_ap, ev_sq, kRng_ap, ev_rng1, k_enm2_ap, k_enm_ap, ev_ienm, k_rev2_ap, k_rev_ap, ev_irev, kTest_ap, ev_t0, ev_t1, ev_T, kRet_ap, ev_ret, ev_retN, nextE_ok, kAsg_ap, ev_asg, kNew2_ap, kNew1_ap, ev_new, kExp_ap, ev_exp, kIf_t, kIf_f, ev_if, kTurn_ap, kFor_ap, ev_for, kSix4_ap, kSix3_ap, kSix2_ap, kSix1_ap, ev_six, ev_pass, kSeq_n, kSeq_r, ev_s0, ev_s1, kLeave_n, kLeave_d, kLeave_l, kLeave_k, kLeave_o, run_def, rpm, startE, give, truthW, viewD, viewL, fz, isTy, kb, ki, dTruth, rcmp, rcmpD, cmpI, ridx_t0, ridx_t1, ridx_t2, ridx_t3, ridx_l0, ridx_l1, ridx_l2, ridx_l3, eqD_str, eqD_int, rb_add, rb_sub, rb_mul, rb_mul2, rb_mod, rb_fdiv, rb_addL, rblt, opt_some, opt_none, Res.bind_ok, Res.bind_stuck, Res.bind_exc, bindT, setAll, datas, asInt, itemsW, listD, rsl, List.map_cons, List.map_nil, List.length_cons, List.length_nil, List.cons_append, List.nil_append, List.replicate, List.getElem?_cons_zero, List.getElem?_cons_succ, List.headD_nil, List.headD_cons, List.tail_nil, List.tail_cons, Option.map_some, Option.map_none, List.set_cons_zero, List.set_cons_succ, ofS_beq, Bool.not_true, Bool.not_false, Bool.or_false, Bool.or_true, Bool.and_true, Bool.and_false, Bool.false_eq_true, if_true, if_false, law_cell_ok u, hc, hm, at_mid, rmut_append hl', rb_pow18]
  · refine ⟨cell / 1000, cell % 1000, Int.emod_nonneg _ (by decide), Int.emod_lt_of_pos _ (by decide), ?_⟩
    simp only [turn_ap, rwB, locR_ok, ev_loc, ev_dat, optB_ok, kBin2_ap, kBin1_ap, ev_bin, kCmp2_ap, kCmp1_ap, ev_cmp, kChn3_t, kChn3_f, kChn2_ap, kChn1_ap, ev_chn, kIsN_ap, ev_isN, kAnd2_t, kAnd2_f, kAnd1_ap, ev_and, kOr2_t, kOr2_f, kOr1_ap, ev_or, kNot_ap, ev_not, kIte2_t, kIte2_f, kIte1_ap, ev_ite, optT_ok, optL_ok, kTup_ap, kLst_ap, ev_tup, ev_lst, kIdx2_ap, kIdx1_ap, ev_idx, kslF3_ap, kslF2_ap, kslF1_ap, ev_slF, kslT3_ap, kslT2_ap, kslT1_ap, ev_slT, kRev2_ap, kRev_ap, ev_rev, kCall_ap, ev_call, kIsi2_ap, kIsi_ap, ev_isi, kBlt_ap, ev_blt, kMut3_ap, kMut2_ap, kMut1_ap, ev_mut, kPrm_ap, ev_prm, kC3_t, kC3_f, kC2_ap, kN_ap, kComp_ap, kLs_ap, kLsc_ap, kK3_t, kK3_f, kK2_ap, ev_comp, ev_lsc, kCons_ap, kEvs2_ap, kEvs1_ap, ev_nil, ev_cons, kSq_ap, ev_sq, kRng_ap, ev_rng1, k_enm2_ap, k_enm_ap, ev_ienm, k_rev2_ap, k_rev_ap, ev_irev, kTest_ap, ev_t0, ev_t1, ev_T, kRet_ap, ev_ret, ev_retN, nextE_ok, kAsg_ap, ev_asg, kNew2_ap, kNew1_ap, ev_new, kExp_ap, ev_exp, kIf_t, kIf_f, ev_if, kTurn_ap, kFor_ap, ev_for, kSix4_ap, kSix3_ap, kSix2_ap, kSix1_ap, ev_six, ev_pass, kSeq_n, kSeq_r, ev_s0, ev_s1, kLeave_n, kLeave_d, kLeave_l, kLeave_k, kLeave_o, run_def, rpm, startE, give, truthW, viewD, viewL, fz, isTy, kb, ki, dTruth, rcmp, rcmpD, cmpI, ridx_t0, ridx_t1, ridx_t2, ridx_t3, ridx_l0, ridx_l1, ridx_l2, ridx_l3, eqD_str, eqD_int, rb_add, rb_sub, rb_mul, rb_mul2, rb_mod, rb_fdiv, rb_addL, rblt, opt_some, opt_none, Res.bind_ok, Res.bind_stuck, Res.bind_exc, bindT, setAll, datas, asInt, itemsW, listD, rsl, List.map_cons, List.map_nil, List.length_cons, List.length_nil, List.cons_append, List.nil_append, List.replicate, List.getElem?_cons_zero, List.getElem?_cons_succ, List.headD_nil, List.headD_cons, List.tail_nil, List.tail_cons, Option.map_some, Option.map_none, List.set_cons_zero, List.set_cons_succ, ofS_beq, Bool.not_true, Bool.not_false, Bool.or_false, Bool.or_true, Bool.and_true, Bool.and_false, Bool.false_eq_true, if_true, if_false, law_cell_ok u, hm, at_mid, rmut_append hl', rb_pow18]
    simp [locR_ok, ev_loc, ev_dat, optB_ok, kBin2_ap, kBin1_ap, ev_bin, kCmp2_ap, kCmp1_ap, ev_cmp, kChn3_t, kChn3_f, kChn2_ap, kChn1_ap, ev_chn, kIsN_ap, ev_isN, kAnd2_t, kAnd2_f, kAnd1_ap, ev_and, kOr2_t, kOr2_f, kOr1_ap, ev_or, kNot_ap, ev_not, kIte2_t, kIte2_f, kIte1_ap, ev_ite, optT_ok, optL_ok, kTup_ap, kLst_ap, ev_tup, ev_lst, kIdx2_ap, kIdx1_ap, ev_idx, kslF3_ap, kslF2_ap, kslF1_ap, ev_slF, kslT3_ap, kslT2_ap, kslT1_ap, ev_slT, kRev2_ap, kRev_ap, ev_rev, kCall_ap, ev_call, kIsi2_ap, kIsi_ap, ev_isi, kBlt_ap, ev_blt, kMut3_ap, kMut2_ap, kMut1_ap, ev_mut, kPrm_ap, ev_prm, kC3_t, kC3_f, kC2_ap, kN_ap, kComp_ap, kLs_ap, kLsc_ap, kK3_t, kK3_f, kK2_ap, ev_comp, ev_lsc, kCons_ap, kEvs2_ap, kEvs1_ap, ev_nil, ev_cons, kSq_ap, ev_sq, kRng_ap, ev_rng1, k_enm2_ap, k_enm_ap, ev_ienm, k_rev2_ap, k_rev_ap, ev_irev, kTest_ap, ev_t0, ev_t1, ev_T, kRet_ap, ev_ret, ev_retN, nextE_ok, kAsg_ap, ev_asg, kNew2_ap, kNew1_ap, ev_new, kExp_ap, ev_exp, kIf_t, kIf_f, ev_if, kTurn_ap, kFor_ap, ev_for, kSix4_ap, kSix3_ap, kSix2_ap, kSix1_ap, ev_six, ev_pass, kSeq_n, kSeq_r, ev_s0, ev_s1, kLeave_n, kLeave_d, kLeave_l, kLeave_k, kLeave_o, run_def, rpm, startE, give, truthW, viewD, viewL, fz, isTy, kb, ki, dTruth, rcmp, rcmpD, cmpI, ridx_t0, ridx_t1, ridx_t2, ridx_t3, ridx_l0, ridx_l1, ridx_l2, ridx_l3, eqD_str, eqD_int, rb_add, rb_sub, rb_mul, rb_mul2, rb_mod, rb_fdiv, rb_addL, rblt, opt_some, opt_none, Res.bind_ok, Res.bind_stuck, Res.bind_exc, bindT, setAll, datas, asInt, itemsW, listD, rsl, List.map_cons, List.map_nil, List.length_cons, List.length_nil, List.cons_append, List.nil_append, List.replicate, List.getElem?_cons_zero, List.getElem?_cons_succ, List.headD_nil, List.headD_cons, List.tail_nil, List.tail_cons, Option.map_some, Option.map_none, List.set_cons_zero, List.set_cons_succ, ofS_beq, Bool.not_true, Bool.not_false, Bool.or_false, Bool.or_true, Bool.and_true, Bool.and_false, Bool.false_eq_true, if_true, if_false, law_cell_ok u, hc, hm, at_mid, rmut_append hl', rb_pow18]

theorem rw_loop (u : Ups tab) {k : Nat} {ns : List Int} {at_ : Nat} {A : Sto} : ∀ (n lo : Nat) (cell : Int) (acc : List Int) (o : Option W), acc.length + n < 10000 → milli acc → ∃ cell' o' acc', acc'.length = acc.length + n ∧ milli acc' ∧
    loopF (turn (Cn tab (k + 1)) (.nm 4) rwB) (rangeW lo n) [some (.s ns), some (.d (.int at_)), some (.d (.int cell)), some (.o A.length), o] (A ++ [.lst (acc.map .int)]) = .ok (.next [some (.s ns), some (.d (.int at_)), some (.d (.int cell')), some (.o A.length), o']) (A ++ [.lst (acc'.map .int)])
  | 0, lo, cell, acc, o, _, hm => ⟨cell, o, acc, rfl, hm, rfl⟩
  | n + 1, lo, cell, acc, o, hl, hm => by
    obtain ⟨cell', x, h1, h2, h3⟩ := rw_turn u (k := k) (ns := ns) (at_ := at_) (t := lo) (cell := cell) (acc := acc) (A := A) (o := o) (by omega)
    obtain ⟨cell'', o', acc', h4, h5, h6⟩ := rw_loop u (k := k) (ns := ns) (at_ := at_) (A := A) n (lo + 1) cell' (acc ++ [x]) (some (.d (.int lo))) (by simp; omega) (fun y hy => by
      rcases List.mem_append.mp hy with hy | hy
      · exact hm y hy
      · simp at hy; subst hy; exact ⟨h1, h2⟩)
    refine ⟨cell'', o', acc', by simp at h4; omega, h5, ?_⟩
    simp only [rangeW, loopF, h3, Res.bind_ok]
    exact h6
/-- no instance holds what is not there -/
def Scoped (S : Sto) : Prop := ∀ mo ∈ S, ∀ n, S.length ≤ n → noRef n mo = true
theorem Scoped.all {S : Sto} (h : Scoped S) {n : Nat} (hn : S.length ≤ n) : S.all (noRef n) = true := List.all_eq_true.mpr fun mo hm => h mo hm n hn
theorem Scoped.add {S : Sto} (h : Scoped S) {mo : MO} (hm : ∀ n, noRef n mo = true) : Scoped (S ++ [mo]) := fun x hx n hn => by
  rcases List.mem_append.mp hx with hx | hx
  · exact h x hx n (by simp at hn; omega)
  · simp at hx; subst hx; exact hm n
theorem scoped_nil : Scoped [] := fun _ h => by cases h
theorem leave_list {S : Sto} {xs : List D} (h : Scoped S) : leave S.length (.ret (.w (.o S.length))) (S ++ [.lst xs]) = .ok (.n xs) (S ++ [.dead]) := by
  unfold leave
  simp only [Nat.le_refl, if_true, at_mid]
  rw [List.all_append, h.all (Nat.le_refl _)]
  simp [noRef]
theorem rngW_ok {n : Nat} {S : Sto} (h : n ≤ 10000) : rngO (some (n : Int)) S = .ok (rangeW 0 n) S := by
  have e : rngW (n : Int) S = .ok (rangeW 0 n) S := by
    unfold rngW
    rw [if_pos ⟨by omega, by omega⟩]
    simp
  rw [← e]
  simp only [rngO]
theorem law_row_ok (u : Ups tab) {k : Nat} {ns : List Int} {at_ : Nat} (hS : Scoped S) : ∃ row : List Int, row.length = 60 ∧ milli row ∧ Cn tab (k + 2) "_law_row" [.s ns, .d (.int at_)] S = .ok (.n (row.map .int)) (S ++ [.dead]) := by
  obtain ⟨cell', o', row, h1, h2, h3⟩ := rw_loop u (k := k) (ns := ns) (at_ := at_) (A := S) 60 0 (cellZ ns at_) [] none (by simp) (fun _ h => by cases h)
  refine ⟨row, by simpa using h1, h2, ?_⟩
  rw [u__law_row u]
  have eb : b__law_row = [.asg (.nm 2) (.call "_law_cell" [] [(.loc 0), (.loc 1)]), .new 3 (.lst []), .for_ (.nm 4) (.rng1 (.dat (.int 60))) rwB, .ret (.loc 3)] := rfl
  have e60 : rngO (some 60) (S ++ [MO.lst []]) = .ok (rangeW 0 60) (S ++ [MO.lst []]) := rngW_ok (n := 60) (by omega)
  simp only [List.map_nil] at h3
  simp only [eb, locR_ok, ev_loc, ev_dat, optB_ok, kBin2_ap, kBin1_ap, ev_bin, kCmp2_ap, kCmp1_ap, ev_cmp, kChn3_t, kChn3_f, kChn2_ap, kChn1_ap, ev_chn, kIsN_ap, ev_isN, kAnd2_t, kAnd2_f, kAnd1_ap, ev_and, kOr2_t, kOr2_f, kOr1_ap, ev_or, kNot_ap, ev_not, kIte2_t, kIte2_f, kIte1_ap, ev_ite, optT_ok, optL_ok, kTup_ap, kLst_ap, ev_tup, ev_lst, kIdx2_ap, kIdx1_ap, ev_idx, kslF3_ap, kslF2_ap, kslF1_ap, ev_slF, kslT3_ap, kslT2_ap, kslT1_ap, ev_slT, kRev2_ap, kRev_ap, ev_rev, kCall_ap, ev_call, kIsi2_ap, kIsi_ap, ev_isi, kBlt_ap, ev_blt, kMut3_ap, kMut2_ap, kMut1_ap, ev_mut, kPrm_ap, ev_prm, kC3_t, kC3_f, kC2_ap, kN_ap, kComp_ap, kLs_ap, kLsc_ap, kK3_t, kK3_f, kK2_ap, ev_comp, ev_lsc, kCons_ap, kEvs2_ap, kEvs1_ap, ev_nil, ev_cons, kSq_ap, ev_sq, kRng_ap, ev_rng1, k_enm2_ap, k_enm_ap, ev_ienm, k_rev2_ap, k_rev_ap, ev_irev, kTest_ap, ev_t0, ev_t1, ev_T, kRet_ap, ev_ret, ev_retN, nextE_ok, kAsg_ap, ev_asg, kNew2_ap, kNew1_ap, ev_new, kExp_ap, ev_exp, kIf_t, kIf_f, ev_if, kTurn_ap, kFor_ap, ev_for, kSix4_ap, kSix3_ap, kSix2_ap, kSix1_ap, ev_six, ev_pass, kSeq_n, kSeq_r, ev_s0, ev_s1, kLeave_n, kLeave_d, kLeave_l, kLeave_k, kLeave_o, run_def, rpm, startE, give, truthW, viewD, viewL, fz, isTy, kb, ki, dTruth, rcmp, rcmpD, cmpI, ridx_t0, ridx_t1, ridx_t2, ridx_t3, ridx_l0, ridx_l1, ridx_l2, ridx_l3, eqD_str, eqD_int, rb_add, rb_sub, rb_mul, rb_mul2, rb_mod, rb_fdiv, rb_addL, rblt, opt_some, opt_none, Res.bind_ok, Res.bind_stuck, Res.bind_exc, bindT, setAll, datas, asInt, itemsW, listD, rsl, List.map_cons, List.map_nil, List.length_cons, List.length_nil, List.cons_append, List.nil_append, List.replicate, List.getElem?_cons_zero, List.getElem?_cons_succ, List.headD_nil, List.headD_cons, List.tail_nil, List.tail_cons, Option.map_some, Option.map_none, List.set_cons_zero, List.set_cons_succ, ofS_beq, Bool.not_true, Bool.not_false, Bool.or_false, Bool.or_true, Bool.and_true, Bool.and_false, Bool.false_eq_true, if_true, if_false, law_cell_ok u, e60]
  have h3 : loopF (turn (Cn tab (k + 1)) (Tg.nm 4) rwB) (rangeW 0 60) [some (W.s ns), some (W.d (PyData.int ↑at_)), some (W.d (PyData.int (cellZ ns at_))), some (W.o (List.length S)), none] (S ++ [MO.lst []]) = _ := h3
  simp only [h3, locR_ok, ev_loc, ev_dat, optB_ok, kBin2_ap, kBin1_ap, ev_bin, kCmp2_ap, kCmp1_ap, ev_cmp, kChn3_t, kChn3_f, kChn2_ap, kChn1_ap, ev_chn, kIsN_ap, ev_isN, kAnd2_t, kAnd2_f, kAnd1_ap, ev_and, kOr2_t, kOr2_f, kOr1_ap, ev_or, kNot_ap, ev_not, kIte2_t, kIte2_f, kIte1_ap, ev_ite, optT_ok, optL_ok, kTup_ap, kLst_ap, ev_tup, ev_lst, kIdx2_ap, kIdx1_ap, ev_idx, kslF3_ap, kslF2_ap, kslF1_ap, ev_slF, kslT3_ap, kslT2_ap, kslT1_ap, ev_slT, kRev2_ap, kRev_ap, ev_rev, kCall_ap, ev_call, kIsi2_ap, kIsi_ap, ev_isi, kBlt_ap, ev_blt, kMut3_ap, kMut2_ap, kMut1_ap, ev_mut, kPrm_ap, ev_prm, kC3_t, kC3_f, kC2_ap, kN_ap, kComp_ap, kLs_ap, kLsc_ap, kK3_t, kK3_f, kK2_ap, ev_comp, ev_lsc, kCons_ap, kEvs2_ap, kEvs1_ap, ev_nil, ev_cons, kSq_ap, ev_sq, kRng_ap, ev_rng1, k_enm2_ap, k_enm_ap, ev_ienm, k_rev2_ap, k_rev_ap, ev_irev, kTest_ap, ev_t0, ev_t1, ev_T, kRet_ap, ev_ret, ev_retN, nextE_ok, kAsg_ap, ev_asg, kNew2_ap, kNew1_ap, ev_new, kExp_ap, ev_exp, kIf_t, kIf_f, ev_if, kTurn_ap, kFor_ap, ev_for, kSix4_ap, kSix3_ap, kSix2_ap, kSix1_ap, ev_six, ev_pass, kSeq_n, kSeq_r, ev_s0, ev_s1, kLeave_n, kLeave_d, kLeave_l, kLeave_k, kLeave_o, run_def, rpm, startE, give, truthW, viewD, viewL, fz, isTy, kb, ki, dTruth, rcmp, rcmpD, cmpI, ridx_t0, ridx_t1, ridx_t2, ridx_t3, ridx_l0, ridx_l1, ridx_l2, ridx_l3, eqD_str, eqD_int, rb_add, rb_sub, rb_mul, rb_mul2, rb_mod, rb_fdiv, rb_addL, rblt, opt_some, opt_none, Res.bind_ok, Res.bind_stuck, Res.bind_exc, bindT, setAll, datas, asInt, itemsW, listD, rsl, List.map_cons, List.map_nil, List.length_cons, List.length_nil, List.cons_append, List.nil_append, List.replicate, List.getElem?_cons_zero, List.getElem?_cons_succ, List.headD_nil, List.headD_cons, List.tail_nil, List.tail_cons, Option.map_some, Option.map_none, List.set_cons_zero, List.set_cons_succ, ofS_beq, Bool.not_true, Bool.not_false, Bool.or_false, Bool.or_true, Bool.and_true, Bool.and_false, Bool.false_eq_true, if_true, if_false, leave_list hS]
end
end Sc
namespace Sc
open PySem PySem.Spec PyProof.Rows L2
section
variable {tab : Tab} {S : Sto}
/-! ### books of the laws -/
def six1 : Bk := [("ann", "name"), ("man", "noun"), ("friend", "of"), ("sleeps", "does"), ("owns", "to"), ("tall", "such")]
def six2 : Bk := [("bob", "name"), ("ass", "noun"), ("king", "noun"), ("runs", "does"), ("beats", "to"), ("wise", "such")]
def rowE (row : List Int) : D := .list (row.map .int)
theorem ridx_row {row : List Int} {i : Nat} (h : i < row.length) : ridx S (.d (rowE row)) (.d (.int i)) = some (.w (.d (.int (cellZ row i)))) := by
  apply ridx_ln
  rw [List.getElem?_map, List.getElem?_eq_getElem h]
  simp [cellZ, List.getD_eq_getElem?_getD, h]
theorem cut_from {xs : List D} {t : Nat} (h : t ≤ xs.length) : cutD xs (some (t : Int)) none = xs.drop t := by
  unfold cutD
  rw [HT.sIx_nat, HT.sIx_none, Nat.min_eq_left h, ← List.length_drop, List.take_length]
theorem cut_to {xs : List D} {t : Nat} (h : t ≤ xs.length) : cutD xs none (some (t : Int)) = xs.take t := by
  unfold cutD
  rw [HT.sIx_nat, HT.sIx_none, Nat.min_eq_left h]
  simp
/-- those that stand at some of the places -/
theorem sel_sub {c : Int → Bool} {g : W → Option D} (hg : ∀ (i : Int) (x : D), g (.d (.tuple [.int i, x])) = if c i then some x else none) : ∀ (l : Bk) (k : Int), ∃ sub : Bk, sub.Sublist l ∧ (enumFrom k (l.map pE)).filterMap g = sub.map pE
  | [], k => ⟨[], .slnil, rfl⟩
  | p :: l, k => by
    obtain ⟨sub, h1, h2⟩ := sel_sub hg l (k + 1)
    cases h : c k with
    | true => exact ⟨p :: sub, h1.cons₂ p, by simp [enumFrom, hg, h, h2]⟩
    | false => exact ⟨sub, h1.cons p, by simp [enumFrom, hg, h, h2]⟩
def BookG (b : Bk) : Prop := ∃ sub : Bk, sub.Sublist six2 ∧ b.Perm (six1 ++ sub)
def lit1 : X := (.lst [(.tup [(.dat (.str "ann")), (.dat (.str "name"))]), (.tup [(.dat (.str "man")), (.dat (.str "noun"))]), (.tup [(.dat (.str "friend")), (.dat (.str "of"))]), (.tup [(.dat (.str "sleeps")), (.dat (.str "does"))]), (.tup [(.dat (.str "owns")), (.dat (.str "to"))]), (.tup [(.dat (.str "tall")), (.dat (.str "such"))])])
def lit2 : X := (.lst [(.tup [(.dat (.str "bob")), (.dat (.str "name"))]), (.tup [(.dat (.str "ass")), (.dat (.str "noun"))]), (.tup [(.dat (.str "king")), (.dat (.str "noun"))]), (.tup [(.dat (.str "runs")), (.dat (.str "does"))]), (.tup [(.dat (.str "beats")), (.dat (.str "to"))]), (.tup [(.dat (.str "wise")), (.dat (.str "such"))])])
theorem lit1_ok {C : Orc} {e : Ev} : evN C lit1 e S = .ok (.n (six1.map pE)) S := by simp only [lit1, locR_ok, ev_loc, ev_dat, optB_ok, kBin2_ap, kBin1_ap, ev_bin, kCmp2_ap, kCmp1_ap, ev_cmp, kChn3_t, kChn3_f, kChn2_ap, kChn1_ap, ev_chn, kIsN_ap, ev_isN, kAnd2_t, kAnd2_f, kAnd1_ap, ev_and, kOr2_t, kOr2_f, kOr1_ap, ev_or, kNot_ap, ev_not, kIte2_t, kIte2_f, kIte1_ap, ev_ite, optT_ok, optL_ok, kTup_ap, kLst_ap, ev_tup, ev_lst, kIdx2_ap, kIdx1_ap, ev_idx, kslF3_ap, kslF2_ap, kslF1_ap, ev_slF, kslT3_ap, kslT2_ap, kslT1_ap, ev_slT, kRev2_ap, kRev_ap, ev_rev, kCall_ap, ev_call, kIsi2_ap, kIsi_ap, ev_isi, kBlt_ap, ev_blt, kMut3_ap, kMut2_ap, kMut1_ap, ev_mut, kPrm_ap, ev_prm, kC3_t, kC3_f, kC2_ap, kN_ap, kComp_ap, kLs_ap, kLsc_ap, kK3_t, kK3_f, kK2_ap, ev_comp, ev_lsc, kCons_ap, kEvs2_ap, kEvs1_ap, ev_nil, ev_cons, kSq_ap, ev_sq, kRng_ap, ev_rng1, k_enm2_ap, k_enm_ap, ev_ienm, k_rev2_ap, k_rev_ap, ev_irev, kTest_ap, ev_t0, ev_t1, ev_T, kRet_ap, ev_ret, ev_retN, nextE_ok, kAsg_ap, ev_asg, kNew2_ap, kNew1_ap, ev_new, kExp_ap, ev_exp, kIf_t, kIf_f, ev_if, kTurn_ap, kFor_ap, ev_for, kSix4_ap, kSix3_ap, kSix2_ap, kSix1_ap, ev_six, ev_pass, kSeq_n, kSeq_r, ev_s0, ev_s1, kLeave_n, kLeave_d, kLeave_l, kLeave_k, kLeave_o, run_def, rpm, startE, give, truthW, viewD, viewL, fz, isTy, kb, ki, dTruth, rcmp, rcmpD, cmpI, ridx_t0, ridx_t1, ridx_t2, ridx_t3, ridx_l0, ridx_l1, ridx_l2, ridx_l3, eqD_str, eqD_int, rb_add, rb_sub, rb_mul, rb_mul2, rb_mod, rb_fdiv, rb_addL, rblt, opt_some, opt_none, Res.bind_ok, Res.bind_stuck, Res.bind_exc, bindT, setAll, datas, asInt, itemsW, listD, rsl, List.map_cons, List.map_nil, List.length_cons, List.length_nil, List.cons_append, List.nil_append, List.replicate, List.getElem?_cons_zero, List.getElem?_cons_succ, List.headD_nil, List.headD_cons, List.tail_nil, List.tail_cons, Option.map_some, Option.map_none, List.set_cons_zero, List.set_cons_succ, ofS_beq, Bool.not_true, Bool.not_false, Bool.or_false, Bool.or_true, Bool.and_true, Bool.and_false, Bool.false_eq_true, if_true, if_false]; rfl
theorem lit2_ok {C : Orc} {e : Ev} : evN C lit2 e S = .ok (.n (six2.map pE)) S := by simp only [lit2, locR_ok, ev_loc, ev_dat, optB_ok, kBin2_ap, kBin1_ap, ev_bin, kCmp2_ap, kCmp1_ap, ev_cmp, kChn3_t, kChn3_f, kChn2_ap, kChn1_ap, ev_chn, kIsN_ap, ev_isN, kAnd2_t, kAnd2_f, kAnd1_ap, ev_and, kOr2_t, kOr2_f, kOr1_ap, ev_or, kNot_ap, ev_not, kIte2_t, kIte2_f, kIte1_ap, ev_ite, optT_ok, optL_ok, kTup_ap, kLst_ap, ev_tup, ev_lst, kIdx2_ap, kIdx1_ap, ev_idx, kslF3_ap, kslF2_ap, kslF1_ap, ev_slF, kslT3_ap, kslT2_ap, kslT1_ap, ev_slT, kRev2_ap, kRev_ap, ev_rev, kCall_ap, ev_call, kIsi2_ap, kIsi_ap, ev_isi, kBlt_ap, ev_blt, kMut3_ap, kMut2_ap, kMut1_ap, ev_mut, kPrm_ap, ev_prm, kC3_t, kC3_f, kC2_ap, kN_ap, kComp_ap, kLs_ap, kLsc_ap, kK3_t, kK3_f, kK2_ap, ev_comp, ev_lsc, kCons_ap, kEvs2_ap, kEvs1_ap, ev_nil, ev_cons, kSq_ap, ev_sq, kRng_ap, ev_rng1, k_enm2_ap, k_enm_ap, ev_ienm, k_rev2_ap, k_rev_ap, ev_irev, kTest_ap, ev_t0, ev_t1, ev_T, kRet_ap, ev_ret, ev_retN, nextE_ok, kAsg_ap, ev_asg, kNew2_ap, kNew1_ap, ev_new, kExp_ap, ev_exp, kIf_t, kIf_f, ev_if, kTurn_ap, kFor_ap, ev_for, kSix4_ap, kSix3_ap, kSix2_ap, kSix1_ap, ev_six, ev_pass, kSeq_n, kSeq_r, ev_s0, ev_s1, kLeave_n, kLeave_d, kLeave_l, kLeave_k, kLeave_o, run_def, rpm, startE, give, truthW, viewD, viewL, fz, isTy, kb, ki, dTruth, rcmp, rcmpD, cmpI, ridx_t0, ridx_t1, ridx_t2, ridx_t3, ridx_l0, ridx_l1, ridx_l2, ridx_l3, eqD_str, eqD_int, rb_add, rb_sub, rb_mul, rb_mul2, rb_mod, rb_fdiv, rb_addL, rblt, opt_some, opt_none, Res.bind_ok, Res.bind_stuck, Res.bind_exc, bindT, setAll, datas, asInt, itemsW, listD, rsl, List.map_cons, List.map_nil, List.length_cons, List.length_nil, List.cons_append, List.nil_append, List.replicate, List.getElem?_cons_zero, List.getElem?_cons_succ, List.headD_nil, List.headD_cons, List.tail_nil, List.tail_cons, Option.map_some, Option.map_none, List.set_cons_zero, List.set_cons_succ, ofS_beq, Bool.not_true, Bool.not_false, Bool.or_false, Bool.or_true, Bool.and_true, Bool.and_false, Bool.false_eq_true, if_true, if_false]; rfl
theorem law_book_ok (u : Ups tab) {k : Nat} {row : List Int} (hr : row.length = 60) : ∃ b, BookG b ∧ Cn tab (k + 1) "_law_book" [.d (rowE row)] S = .ok (.w (.d (bkE b))) S := by
  let c : Int → Bool := fun i => cellZ row i.toNat % 2 == 0
  let g : W → Option D := fun w => match w with
    | .d (.tuple [.int i, x]) => if c i then some x else none
    | _ => none
  obtain ⟨sub, hs, hg⟩ := sel_sub (c := c) (g := g) (fun i x => rfl) six2 0
  have hsl : sub.length ≤ 6 := hs.length_le
  obtain ⟨L, hLd⟩ : ∃ L, L = six1 ++ sub := ⟨_, rfl⟩
  have hL : L.length = 6 + sub.length := by rw [hLd]; simp [six1]; omega
  obtain ⟨t, ht, hte⟩ : ∃ t : Nat, t < L.length ∧ cellZ row 7 % (L.length : Int) = t := by
    have h0 : (0 : Int) < L.length := by omega
    refine ⟨(cellZ row 7 % (L.length : Int)).toNat, ?_, ?_⟩
    · have := Int.emod_lt_of_pos (cellZ row 7) h0
      have := Int.emod_nonneg (cellZ row 7) (b := (L.length : Int)) (by omega)
      omega
    · have := Int.emod_nonneg (cellZ row 7) (b := (L.length : Int)) (by omega)
      omega
  refine ⟨L.drop t ++ L.take t, ⟨sub, hs, ?_⟩, ?_⟩
  · rw [← hLd]
    exact (List.perm_append_comm).trans (by rw [List.take_append_drop])
  rw [u__law_book u]
  have hlp : ∀ e : Ev, e = [some (.d (rowE row)), some (.d (.list (six1.map pE))), some (.d (.list (six2.map pE))), none, none, none, none] → loopC (cturn (Cn tab k) (.loc 6) (.tp [5, 6]) [(.cmp .eq (.bin .mod (.idx (.loc 0) (.loc 5)) (.dat (.int 2))) (.dat (.int 0)))] [5, 6] e) (enumFrom 0 (six2.map pE)) S = .ok (sub.map pE) S := by
    intro e he
    rw [← hg]
    apply loopC_pure
    intro w hw
    have hcase : ∃ (i : Nat) (p : Str × Str), i < 6 ∧ w = .d (.tuple [.int i, pE p]) := by
      simp only [six2, List.map_cons, List.map_nil, enumFrom, List.mem_cons, List.not_mem_nil, or_false] at hw
      rcases hw with hw | hw | hw | hw | hw | hw
      · exact ⟨0, _, by omega, hw⟩
      · exact ⟨1, _, by omega, hw⟩
      · exact ⟨2, _, by omega, hw⟩
      · exact ⟨3, _, by omega, hw⟩
      · exact ⟨4, _, by omega, hw⟩
      · exact ⟨5, _, by omega, hw⟩
    obtain ⟨i, p, hi, rfl⟩ := hcase
    have hri := ridx_row (S := S) (row := row) (i := i) (by omega)
    have hci : c i = (cellZ row i % 2 == 0) := rfl
    subst he
    cases hc : (cellZ row i % 2 == 0) with
    | true => simp [cturn_ap, wipeE, locR_ok, ev_loc, ev_dat, optB_ok, kBin2_ap, kBin1_ap, ev_bin, kCmp2_ap, kCmp1_ap, ev_cmp, kChn3_t, kChn3_f, kChn2_ap, kChn1_ap, ev_chn, kIsN_ap, ev_isN, kAnd2_t, kAnd2_f, kAnd1_ap, ev_and, kOr2_t, kOr2_f, kOr1_ap, ev_or, kNot_ap, ev_not, kIte2_t, kIte2_f, kIte1_ap, ev_ite, optT_ok, optL_ok, kTup_ap, kLst_ap, ev_tup, ev_lst, kIdx2_ap, kIdx1_ap, ev_idx, kslF3_ap, kslF2_ap, kslF1_ap, ev_slF, kslT3_ap, kslT2_ap, kslT1_ap, ev_slT, kRev2_ap, kRev_ap, ev_rev, kCall_ap, ev_call, kIsi2_ap, kIsi_ap, ev_isi, kBlt_ap, ev_blt, kMut3_ap, kMut2_ap, kMut1_ap, ev_mut, kPrm_ap, ev_prm, kC3_t, kC3_f, kC2_ap, kN_ap, kComp_ap, kLs_ap, kLsc_ap, kK3_t, kK3_f, kK2_ap, ev_comp, ev_lsc, kCons_ap, kEvs2_ap, kEvs1_ap, ev_nil, ev_cons, kSq_ap, ev_sq, kRng_ap, ev_rng1, k_enm2_ap, k_enm_ap, ev_ienm, k_rev2_ap, k_rev_ap, ev_irev, kTest_ap, ev_t0, ev_t1, ev_T, kRet_ap, ev_ret, ev_retN, nextE_ok, kAsg_ap, ev_asg, kNew2_ap, kNew1_ap, ev_new, kExp_ap, ev_exp, kIf_t, kIf_f, ev_if, kTurn_ap, kFor_ap, ev_for, kSix4_ap, kSix3_ap, kSix2_ap, kSix1_ap, ev_six, ev_pass, kSeq_n, kSeq_r, ev_s0, ev_s1, kLeave_n, kLeave_d, kLeave_l, kLeave_k, kLeave_o, run_def, rpm, startE, give, truthW, viewD, viewL, fz, isTy, kb, ki, dTruth, rcmp, rcmpD, cmpI, ridx_t0, ridx_t1, ridx_t2, ridx_t3, ridx_l0, ridx_l1, ridx_l2, ridx_l3, eqD_str, eqD_int, rb_add, rb_sub, rb_mul, rb_mul2, rb_mod, rb_fdiv, rb_addL, rblt, opt_some, opt_none, Res.bind_ok, Res.bind_stuck, Res.bind_exc, bindT, setAll, datas, asInt, itemsW, listD, rsl, List.map_cons, List.map_nil, List.length_cons, List.length_nil, List.cons_append, List.nil_append, List.replicate, List.getElem?_cons_zero, List.getElem?_cons_succ, List.headD_nil, List.headD_cons, List.tail_nil, List.tail_cons, Option.map_some, Option.map_none, List.set_cons_zero, List.set_cons_succ, ofS_beq, Bool.not_true, Bool.not_false, Bool.or_false, Bool.or_true, Bool.and_true, Bool.and_false, Bool.false_eq_true, if_true, if_false, hri, hc, oneD, g, hci, pE]
    | false => simp [cturn_ap, wipeE, locR_ok, ev_loc, ev_dat, optB_ok, kBin2_ap, kBin1_ap, ev_bin, kCmp2_ap, kCmp1_ap, ev_cmp, kChn3_t, kChn3_f, kChn2_ap, kChn1_ap, ev_chn, kIsN_ap, ev_isN, kAnd2_t, kAnd2_f, kAnd1_ap, ev_and, kOr2_t, kOr2_f, kOr1_ap, ev_or, kNot_ap, ev_not, kIte2_t, kIte2_f, kIte1_ap, ev_ite, optT_ok, optL_ok, kTup_ap, kLst_ap, ev_tup, ev_lst, kIdx2_ap, kIdx1_ap, ev_idx, kslF3_ap, kslF2_ap, kslF1_ap, ev_slF, kslT3_ap, kslT2_ap, kslT1_ap, ev_slT, kRev2_ap, kRev_ap, ev_rev, kCall_ap, ev_call, kIsi2_ap, kIsi_ap, ev_isi, kBlt_ap, ev_blt, kMut3_ap, kMut2_ap, kMut1_ap, ev_mut, kPrm_ap, ev_prm, kC3_t, kC3_f, kC2_ap, kN_ap, kComp_ap, kLs_ap, kLsc_ap, kK3_t, kK3_f, kK2_ap, ev_comp, ev_lsc, kCons_ap, kEvs2_ap, kEvs1_ap, ev_nil, ev_cons, kSq_ap, ev_sq, kRng_ap, ev_rng1, k_enm2_ap, k_enm_ap, ev_ienm, k_rev2_ap, k_rev_ap, ev_irev, kTest_ap, ev_t0, ev_t1, ev_T, kRet_ap, ev_ret, ev_retN, nextE_ok, kAsg_ap, ev_asg, kNew2_ap, kNew1_ap, ev_new, kExp_ap, ev_exp, kIf_t, kIf_f, ev_if, kTurn_ap, kFor_ap, ev_for, kSix4_ap, kSix3_ap, kSix2_ap, kSix1_ap, ev_six, ev_pass, kSeq_n, kSeq_r, ev_s0, ev_s1, kLeave_n, kLeave_d, kLeave_l, kLeave_k, kLeave_o, run_def, rpm, startE, give, truthW, viewD, viewL, fz, isTy, kb, ki, dTruth, rcmp, rcmpD, cmpI, ridx_t0, ridx_t1, ridx_t2, ridx_t3, ridx_l0, ridx_l1, ridx_l2, ridx_l3, eqD_str, eqD_int, rb_add, rb_sub, rb_mul, rb_mul2, rb_mod, rb_fdiv, rb_addL, rblt, opt_some, opt_none, Res.bind_ok, Res.bind_stuck, Res.bind_exc, bindT, setAll, datas, asInt, itemsW, listD, rsl, List.map_cons, List.map_nil, List.length_cons, List.length_nil, List.cons_append, List.nil_append, List.replicate, List.getElem?_cons_zero, List.getElem?_cons_succ, List.headD_nil, List.headD_cons, List.tail_nil, List.tail_cons, Option.map_some, Option.map_none, List.set_cons_zero, List.set_cons_succ, ofS_beq, Bool.not_true, Bool.not_false, Bool.or_false, Bool.or_true, Bool.and_true, Bool.and_false, Bool.false_eq_true, if_true, if_false, hri, hc, g, hci]
  have hcat : six1.map pE ++ sub.map pE = L.map pE := by rw [hLd, List.map_append]
  have hlen : (L.map pE).length = L.length := by simp
  have h7 := ridx_row (S := S) (row := row) (i := 7) (by omega)
  have h7 : ridx S (.d (rowE row)) (.d (.int 7)) = some (.w (.d (.int (cellZ row 7)))) := h7
  have hadd : (six1.map pE).length + (sub.map pE).length ≤ sizeLine := size_line (by simp [six1]; omega)
  have hadd2 : ((L.map pE).drop t).length + ((L.map pE).take t).length ≤ sizeLine := size_line (by simp; omega)
  have hlp := hlp _ rfl
  have hpos : (0 : Int) < L.length := by omega
  have eb : b__law_book = [.asg (.nm 1) lit1, .asg (.nm 2) lit2,
    .asg (.nm 3) (.bin .add (.loc 1) (.comp (.loc 6) (.tp [5, 6]) (.enm (.loc 2)) [(.cmp .eq (.bin .mod (.idx (.loc 0) (.loc 5)) (.dat (.int 2))) (.dat (.int 0)))] [5, 6])),
    .asg (.nm 4) (.bin .mod (.idx (.loc 0) (.dat (.int 7))) (.blt .len [(.loc 3)])),
    .ret (.blt .tuple [(.bin .add (.slF (.loc 3) (.loc 4)) (.slT (.loc 3) (.loc 4)))])] := rfl
  have h6 : (enumFrom 0 (six2.map pE)).length ≤ 10000 := by simp [six2, enumFrom]
  simp only [eb, locR_ok, ev_loc, ev_dat, optB_ok, kBin2_ap, kBin1_ap, ev_bin, kCmp2_ap, kCmp1_ap, ev_cmp, kChn3_t, kChn3_f, kChn2_ap, kChn1_ap, ev_chn, kIsN_ap, ev_isN, kAnd2_t, kAnd2_f, kAnd1_ap, ev_and, kOr2_t, kOr2_f, kOr1_ap, ev_or, kNot_ap, ev_not, kIte2_t, kIte2_f, kIte1_ap, ev_ite, optT_ok, optL_ok, kTup_ap, kLst_ap, ev_tup, ev_lst, kIdx2_ap, kIdx1_ap, ev_idx, kslF3_ap, kslF2_ap, kslF1_ap, ev_slF, kslT3_ap, kslT2_ap, kslT1_ap, ev_slT, kRev2_ap, kRev_ap, ev_rev, kCall_ap, ev_call, kIsi2_ap, kIsi_ap, ev_isi, kBlt_ap, ev_blt, kMut3_ap, kMut2_ap, kMut1_ap, ev_mut, kPrm_ap, ev_prm, kC3_t, kC3_f, kC2_ap, kN_ap, kComp_ap, kLs_ap, kLsc_ap, kK3_t, kK3_f, kK2_ap, ev_comp, ev_lsc, kCons_ap, kEvs2_ap, kEvs1_ap, ev_nil, ev_cons, kSq_ap, ev_sq, kRng_ap, ev_rng1, k_enm2_ap, k_enm_ap, ev_ienm, k_rev2_ap, k_rev_ap, ev_irev, kTest_ap, ev_t0, ev_t1, ev_T, kRet_ap, ev_ret, ev_retN, nextE_ok, kAsg_ap, ev_asg, kNew2_ap, kNew1_ap, ev_new, kExp_ap, ev_exp, kIf_t, kIf_f, ev_if, kTurn_ap, kFor_ap, ev_for, kSix4_ap, kSix3_ap, kSix2_ap, kSix1_ap, ev_six, ev_pass, kSeq_n, kSeq_r, ev_s0, ev_s1, kLeave_n, kLeave_d, kLeave_l, kLeave_k, kLeave_o, run_def, rpm, startE, give, truthW, viewD, viewL, fz, isTy, kb, ki, dTruth, rcmp, rcmpD, cmpI, ridx_t0, ridx_t1, ridx_t2, ridx_t3, ridx_l0, ridx_l1, ridx_l2, ridx_l3, eqD_str, eqD_int, rb_add, rb_sub, rb_mul, rb_mul2, rb_mod, rb_fdiv, rb_addL, rblt, opt_some, opt_none, Res.bind_ok, Res.bind_stuck, Res.bind_exc, bindT, setAll, datas, asInt, itemsW, listD, rsl, List.map_cons, List.map_nil, List.length_cons, List.length_nil, List.cons_append, List.nil_append, List.replicate, List.getElem?_cons_zero, List.getElem?_cons_succ, List.headD_nil, List.headD_cons, List.tail_nil, List.tail_cons, Option.map_some, Option.map_none, List.set_cons_zero, List.set_cons_succ, ofS_beq, Bool.not_true, Bool.not_false, Bool.or_false, Bool.or_true, Bool.and_true, Bool.and_false, Bool.false_eq_true, if_true, if_false, lit1_ok, lit2_ok, hlp, few_small h6, noX_ok, rb_addL hadd, hcat, h7, hlen, rb_mod hpos, hte, cut_from (xs := L.map pE) (t := t) (by rw [hlen]; omega), cut_to (xs := L.map pE) (t := t) (by rw [hlen]; omega), rb_addL hadd2]
  simp [bkE]
end
end Sc
namespace Sc
open PySem PySem.Spec PyProof.Rows L2
section
variable {tab : Tab} {S : Sto}
theorem all12 : (six1 ++ six2).all (fun p => wordB p.1 && kindL.any fun y => y == p.2) = true := by decide +kernel
theorem nodup12 : ((six1 ++ six2).map (·.1)).Nodup := by decide +kernel
theorem BookG.mem {b : Bk} (h : BookG b) {p : Str × Str} (hp : p ∈ b) : p ∈ six1 ++ six2 := by
  obtain ⟨sub, hs, hb⟩ := h
  rcases List.mem_append.mp (hb.mem_iff.mp hp) with h | h
  · exact List.mem_append_left _ h
  · exact List.mem_append_right _ (hs.subset h)
theorem BookG.len {b : Bk} (h : BookG b) : 6 ≤ b.length ∧ b.length ≤ 12 := by
  obtain ⟨sub, hs, hb⟩ := h
  have h1 := hb.length_eq
  have h2 := hs.length_le
  simp [six1, six2] at h1 h2
  omega
theorem BookG.nodup {b : Bk} (h : BookG b) : (b.map (·.1)).Nodup := by
  obtain ⟨sub, hs, hb⟩ := h
  have h1 : ((six1 ++ sub).map (·.1)).Sublist ((six1 ++ six2).map (·.1)) := ((List.Sublist.refl six1).append hs).map _
  exact (hb.map _).nodup_iff.mpr (nodup12.sublist h1)
theorem BookG.row {b : Bk} (h : BookG b) {p : Str × Str} (hp : p ∈ b) : wordB p.1 = true ∧ (kindL.any fun y => y == p.2) = true := b2 (List.all_eq_true.mp all12 p (h.mem hp))
theorem BookG.kinds {b : Bk} (h : BookG b) : kindsOk b = true := List.all_eq_true.mpr fun p hp => (h.row hp).2
theorem addK_nodup : ∀ (ns l : List Key), (l ++ ns).Nodup → ns.foldl addK l = l ++ ns
  | [], l, _ => by simp
  | n :: ns, l, h => by
    have hn : hasK l n = false := by
      cases e : hasK l n with
      | false => rfl
      | true =>
        rw [List.nodup_append] at h
        exact absurd rfl (h.2.2 n (hasK_iff.mp e) n (by simp))
    have e : addK l n = l ++ [n] := by unfold addK; rw [hn]; rfl
    rw [List.foldl_cons, e, addK_nodup ns (l ++ [n]) (by rw [List.append_assoc]; exact h), List.append_assoc]
    rfl
theorem nodup_map_inr : ∀ {l : List Str}, l.Nodup → (l.map (Sum.inr : Str → Key)).Nodup
  | [], _ => by simp
  | x :: l, h => by
    rw [List.nodup_cons] at h
    rw [List.map_cons, List.nodup_cons]
    exact ⟨fun hx => by
      obtain ⟨y, hy, e⟩ := List.mem_map.mp hx
      cases e
      exact h.1 hy, nodup_map_inr h.2⟩
theorem keysOf_book (b : Bk) (h : (b.map (·.1)).Nodup) : (keysOf ((b.map pE).map hdD)).length = b.length := by
  have e1 : (b.map pE).map hdD = (b.map (·.1)).map .str := by rw [List.map_map, List.map_map]; rfl
  have e2 : ∀ l : List Str, (l.map PyData.str).filterMap keyD = l.map (Sum.inr : Str → Key) := by
    intro l
    induction l with
    | nil => rfl
    | cons x l ih => simp [keyD, ih]
  unfold keysOf
  rw [e1, e2, addK_nodup _ [] (by simpa using nodup_map_inr h)]
  simp
theorem BookG.ok {b : Bk} (h : BookG b) : isBookD (bkE b) = true := by
  have h1 := h.len
  unfold isBookD bkE
  simp only [List.length_map, keysOf_book b h.nodup, decide_true, Bool.and_true, Bool.and_eq_true, decide_eq_true_eq]
  refine ⟨by omega, ?_⟩
  rw [List.all_map]
  refine List.all_eq_true.mpr fun p hp => ?_
  have h2 := h.row hp
  show (wordB p.1 && kindL.any fun y => y == p.2) = true
  rw [h2.1, h2.2]; rfl
/-! ### next -/
def stE (a c : Int) : MO := .lst [.int a, .int c]
theorem law_next_ok (u : Ups tab) {k : Nat} {row : List Int} (hr : row.length = 60) {A G : Sto} {a : Nat} {c : Int} : Cn tab (k + 1) "_law_next" [.d (rowE row), .o A.length] (A ++ stE a c :: G) = .ok (.w (.d (.int (cellZ row ((a + 1) % 60))))) (A ++ stE ((a + 1) % 60 : Nat) c :: G) := by
  rw [u__law_next u]
  obtain ⟨q, hq⟩ : ∃ q : Nat, (a + 1) % 60 = q := ⟨_, rfl⟩
  have hq2 : (((a : Int) + 1) % 60) = q := by omega
  have hql : q < row.length := by omega
  rw [hq]
  have e0 : ridx (A ++ stE a c :: G) (.o A.length) (.d (.int 0)) = some (.w (.d (.int a))) := by
    simp only [ridx, stE, at_mid]
    rfl
  have e1 : ridx (A ++ stE q c :: G) (.o A.length) (.d (.int 0)) = some (.w (.d (.int q))) := by
    simp only [ridx, stE, at_mid]
    rfl
  have e2 : rset (A ++ stE a c :: G) (.o A.length) (.d (.int 0)) (.d (.int q)) = .ok () (A ++ stE q c :: G) := by
    simp only [rset, stE, at_mid, set_mid]
    rfl
  have e3 := ridx_row (S := A ++ stE q c :: G) hql
  simp only [b__law_next, locR_ok, ev_loc, ev_dat, optB_ok, kBin2_ap, kBin1_ap, ev_bin, kCmp2_ap, kCmp1_ap, ev_cmp, kChn3_t, kChn3_f, kChn2_ap, kChn1_ap, ev_chn, kIsN_ap, ev_isN, kAnd2_t, kAnd2_f, kAnd1_ap, ev_and, kOr2_t, kOr2_f, kOr1_ap, ev_or, kNot_ap, ev_not, kIte2_t, kIte2_f, kIte1_ap, ev_ite, optT_ok, optL_ok, kTup_ap, kLst_ap, ev_tup, ev_lst, kIdx2_ap, kIdx1_ap, ev_idx, kslF3_ap, kslF2_ap, kslF1_ap, ev_slF, kslT3_ap, kslT2_ap, kslT1_ap, ev_slT, kRev2_ap, kRev_ap, ev_rev, kCall_ap, ev_call, kIsi2_ap, kIsi_ap, ev_isi, kBlt_ap, ev_blt, kMut3_ap, kMut2_ap, kMut1_ap, ev_mut, kPrm_ap, ev_prm, kC3_t, kC3_f, kC2_ap, kN_ap, kComp_ap, kLs_ap, kLsc_ap, kK3_t, kK3_f, kK2_ap, ev_comp, ev_lsc, kCons_ap, kEvs2_ap, kEvs1_ap, ev_nil, ev_cons, kSq_ap, ev_sq, kRng_ap, ev_rng1, k_enm2_ap, k_enm_ap, ev_ienm, k_rev2_ap, k_rev_ap, ev_irev, kTest_ap, ev_t0, ev_t1, ev_T, kRet_ap, ev_ret, ev_retN, nextE_ok, kAsg_ap, ev_asg, kNew2_ap, kNew1_ap, ev_new, kExp_ap, ev_exp, kIf_t, kIf_f, ev_if, kTurn_ap, kFor_ap, ev_for, kSix4_ap, kSix3_ap, kSix2_ap, kSix1_ap, ev_six, ev_pass, kSeq_n, kSeq_r, ev_s0, ev_s1, kLeave_n, kLeave_d, kLeave_l, kLeave_k, kLeave_o, run_def, rpm, startE, give, truthW, viewD, viewL, fz, isTy, kb, ki, dTruth, rcmp, rcmpD, cmpI, ridx_t0, ridx_t1, ridx_t2, ridx_t3, ridx_l0, ridx_l1, ridx_l2, ridx_l3, eqD_str, eqD_int, rb_add, rb_sub, rb_mul, rb_mul2, rb_mod, rb_fdiv, rb_addL, rblt, opt_some, opt_none, Res.bind_ok, Res.bind_stuck, Res.bind_exc, bindT, setAll, datas, asInt, itemsW, listD, rsl, List.map_cons, List.map_nil, List.length_cons, List.length_nil, List.cons_append, List.nil_append, List.replicate, List.getElem?_cons_zero, List.getElem?_cons_succ, List.headD_nil, List.headD_cons, List.tail_nil, List.tail_cons, Option.map_some, Option.map_none, List.set_cons_zero, List.set_cons_succ, ofS_beq, Bool.not_true, Bool.not_false, Bool.or_false, Bool.or_true, Bool.and_true, Bool.and_false, Bool.false_eq_true, if_true, if_false, e0]
  rw [rb_mod (by decide), hq2]
  simp only [locR_ok, ev_loc, ev_dat, optB_ok, kBin2_ap, kBin1_ap, ev_bin, kCmp2_ap, kCmp1_ap, ev_cmp, kChn3_t, kChn3_f, kChn2_ap, kChn1_ap, ev_chn, kIsN_ap, ev_isN, kAnd2_t, kAnd2_f, kAnd1_ap, ev_and, kOr2_t, kOr2_f, kOr1_ap, ev_or, kNot_ap, ev_not, kIte2_t, kIte2_f, kIte1_ap, ev_ite, optT_ok, optL_ok, kTup_ap, kLst_ap, ev_tup, ev_lst, kIdx2_ap, kIdx1_ap, ev_idx, kslF3_ap, kslF2_ap, kslF1_ap, ev_slF, kslT3_ap, kslT2_ap, kslT1_ap, ev_slT, kRev2_ap, kRev_ap, ev_rev, kCall_ap, ev_call, kIsi2_ap, kIsi_ap, ev_isi, kBlt_ap, ev_blt, kMut3_ap, kMut2_ap, kMut1_ap, ev_mut, kPrm_ap, ev_prm, kC3_t, kC3_f, kC2_ap, kN_ap, kComp_ap, kLs_ap, kLsc_ap, kK3_t, kK3_f, kK2_ap, ev_comp, ev_lsc, kCons_ap, kEvs2_ap, kEvs1_ap, ev_nil, ev_cons, kSq_ap, ev_sq, kRng_ap, ev_rng1, k_enm2_ap, k_enm_ap, ev_ienm, k_rev2_ap, k_rev_ap, ev_irev, kTest_ap, ev_t0, ev_t1, ev_T, kRet_ap, ev_ret, ev_retN, nextE_ok, kAsg_ap, ev_asg, kNew2_ap, kNew1_ap, ev_new, kExp_ap, ev_exp, kIf_t, kIf_f, ev_if, kTurn_ap, kFor_ap, ev_for, kSix4_ap, kSix3_ap, kSix2_ap, kSix1_ap, ev_six, ev_pass, kSeq_n, kSeq_r, ev_s0, ev_s1, kLeave_n, kLeave_d, kLeave_l, kLeave_k, kLeave_o, run_def, rpm, startE, give, truthW, viewD, viewL, fz, isTy, kb, ki, dTruth, rcmp, rcmpD, cmpI, ridx_t0, ridx_t1, ridx_t2, ridx_t3, ridx_l0, ridx_l1, ridx_l2, ridx_l3, eqD_str, eqD_int, rb_add, rb_sub, rb_mul, rb_mul2, rb_mod, rb_fdiv, rb_addL, rblt, opt_some, opt_none, Res.bind_ok, Res.bind_stuck, Res.bind_exc, bindT, setAll, datas, asInt, itemsW, listD, rsl, List.map_cons, List.map_nil, List.length_cons, List.length_nil, List.cons_append, List.nil_append, List.replicate, List.getElem?_cons_zero, List.getElem?_cons_succ, List.headD_nil, List.headD_cons, List.tail_nil, List.tail_cons, Option.map_some, Option.map_none, List.set_cons_zero, List.set_cons_succ, ofS_beq, Bool.not_true, Bool.not_false, Bool.or_false, Bool.or_true, Bool.and_true, Bool.and_false, Bool.false_eq_true, if_true, if_false, e2, e1, e3]
/-! ### places -/
def lawKd : List (Key × D) := [(.inr "noun", .int 1), (.inr "of", .int 2), (.inr "does", .int 1), (.inr "to", .int 2), (.inr "such", .int 1)]
def isName (x : Str) : Bool := x == "name"
theorem kd_look {x : Str} (h : (kindL.any fun y => y == x) = true) : lookK lawKd (.inr x) = if isName x then none else some (.int (plc x)) := by
  simp only [kindL, List.any_cons, List.any_nil, Bool.or_false, Bool.or_eq_true, beq_iff_eq] at h
  rcases h with h | h | h | h | h | h <;> subst h <;> kernel_rfl
def litK : X := .prm (.dsp [.inr "noun", .inr "of", .inr "does", .inr "to", .inr "such"]) [(.dat (.int 1)), (.dat (.int 2)), (.dat (.int 1)), (.dat (.int 2)), (.dat (.int 1))]
theorem litK_ok {C : Orc} {e : Ev} : evN C litK e S = .ok (.nk lawKd) S := by
  simp only [litK, locR_ok, ev_loc, ev_dat, optB_ok, kBin2_ap, kBin1_ap, ev_bin, kCmp2_ap, kCmp1_ap, ev_cmp, kChn3_t, kChn3_f, kChn2_ap, kChn1_ap, ev_chn, kIsN_ap, ev_isN, kAnd2_t, kAnd2_f, kAnd1_ap, ev_and, kOr2_t, kOr2_f, kOr1_ap, ev_or, kNot_ap, ev_not, kIte2_t, kIte2_f, kIte1_ap, ev_ite, optT_ok, optL_ok, kTup_ap, kLst_ap, ev_tup, ev_lst, kIdx2_ap, kIdx1_ap, ev_idx, kslF3_ap, kslF2_ap, kslF1_ap, ev_slF, kslT3_ap, kslT2_ap, kslT1_ap, ev_slT, kRev2_ap, kRev_ap, ev_rev, kCall_ap, ev_call, kIsi2_ap, kIsi_ap, ev_isi, kBlt_ap, ev_blt, kMut3_ap, kMut2_ap, kMut1_ap, ev_mut, kPrm_ap, ev_prm, kC3_t, kC3_f, kC2_ap, kN_ap, kComp_ap, kLs_ap, kLsc_ap, kK3_t, kK3_f, kK2_ap, ev_comp, ev_lsc, kCons_ap, kEvs2_ap, kEvs1_ap, ev_nil, ev_cons, kSq_ap, ev_sq, kRng_ap, ev_rng1, k_enm2_ap, k_enm_ap, ev_ienm, k_rev2_ap, k_rev_ap, ev_irev, kTest_ap, ev_t0, ev_t1, ev_T, kRet_ap, ev_ret, ev_retN, nextE_ok, kAsg_ap, ev_asg, kNew2_ap, kNew1_ap, ev_new, kExp_ap, ev_exp, kIf_t, kIf_f, ev_if, kTurn_ap, kFor_ap, ev_for, kSix4_ap, kSix3_ap, kSix2_ap, kSix1_ap, ev_six, ev_pass, kSeq_n, kSeq_r, ev_s0, ev_s1, kLeave_n, kLeave_d, kLeave_l, kLeave_k, kLeave_o, run_def, rpm, startE, give, truthW, viewD, viewL, fz, isTy, kb, ki, dTruth, rcmp, rcmpD, cmpI, ridx_t0, ridx_t1, ridx_t2, ridx_t3, ridx_l0, ridx_l1, ridx_l2, ridx_l3, eqD_str, eqD_int, rb_add, rb_sub, rb_mul, rb_mul2, rb_mod, rb_fdiv, rb_addL, rblt, opt_some, opt_none, Res.bind_ok, Res.bind_stuck, Res.bind_exc, bindT, setAll, datas, asInt, itemsW, listD, rsl, List.map_cons, List.map_nil, List.length_cons, List.length_nil, List.cons_append, List.nil_append, List.replicate, List.getElem?_cons_zero, List.getElem?_cons_succ, List.headD_nil, List.headD_cons, List.tail_nil, List.tail_cons, Option.map_some, Option.map_none, List.set_cons_zero, List.set_cons_succ, ofS_beq, Bool.not_true, Bool.not_false, Bool.or_false, Bool.or_true, Bool.and_true, Bool.and_false, Bool.false_eq_true, if_true, if_false]
  rfl
/-- a word of a book that is no name -/
theorem law_places_ok (u : Ups tab) {k : Nat} {b : Bk} {w kd : Str} (hb : BookG b) (hw : (w, kd) ∈ b) (hk : isName kd = false) : Cn tab (k + 1) "_law_places" [.d (bkE b), .d (.str w)] S = .ok (.w (.d (.int (plc kd)))) S := by
  rw [u__law_places u]
  have eb : b__law_places = [.asg (.nm 2) litK,
    .asg (.nm 3) (.comp (.prm .dix [(.loc 2), (.loc 5)]) (.tp [4, 5]) (.sq (.loc 0)) [(.and (.cmp .eq (.loc 4) (.loc 1)) (.prm (.din false) [(.loc 5), (.loc 2)]))] [4, 5]),
    .ret (.idx (.bin .add (.loc 3) (.lst [(.dat (.int 0))])) (.dat (.int 0)))] := rfl
  have hlp : ∀ l : Bk, (∀ p ∈ l, p ∈ b) → loopC (cturn (Cn tab k) (.prm .dix [(.loc 2), (.loc 5)]) (.tp [4, 5]) [(.and (.cmp .eq (.loc 4) (.loc 1)) (.prm (.din false) [(.loc 5), (.loc 2)]))] [4, 5] [some (.d (bkE b)), some (.d (.str w)), some (.k lawKd), none, none, none]) ((l.map pE).map .d) S = .ok ((l.filter fun p => p.1 == w && !isName p.2).map fun p => .int (plc p.2)) S := by
    intro l
    induction l with
    | nil => intro _; rfl
    | cons p l ih =>
      intro hsub
      have ih := ih fun q hq => hsub q (List.mem_cons_of_mem _ hq)
      have hkl := kd_look (hb.row (hsub p List.mem_cons_self)).2
      have ht : cturn (Cn tab k) (.prm .dix [(.loc 2), (.loc 5)]) (.tp [4, 5]) [(.and (.cmp .eq (.loc 4) (.loc 1)) (.prm (.din false) [(.loc 5), (.loc 2)]))] [4, 5] [some (.d (bkE b)), some (.d (.str w)), some (.k lawKd), none, none, none] (.d (pE p)) S = .ok (if (p.1 == w && !isName p.2) then some (.int (plc p.2)) else none) S := by
        rcases Bool.eq_false_or_eq_true (p.1 == w) with h1 | h1
        · rcases Bool.eq_false_or_eq_true (isName p.2) with h2 | h2
          · rw [if_pos h2] at hkl
            simp [cturn_ap, wipeE, pE, locR_ok, ev_loc, ev_dat, optB_ok, kBin2_ap, kBin1_ap, ev_bin, kCmp2_ap, kCmp1_ap, ev_cmp, kChn3_t, kChn3_f, kChn2_ap, kChn1_ap, ev_chn, kIsN_ap, ev_isN, kAnd2_t, kAnd2_f, kAnd1_ap, ev_and, kOr2_t, kOr2_f, kOr1_ap, ev_or, kNot_ap, ev_not, kIte2_t, kIte2_f, kIte1_ap, ev_ite, optT_ok, optL_ok, kTup_ap, kLst_ap, ev_tup, ev_lst, kIdx2_ap, kIdx1_ap, ev_idx, kslF3_ap, kslF2_ap, kslF1_ap, ev_slF, kslT3_ap, kslT2_ap, kslT1_ap, ev_slT, kRev2_ap, kRev_ap, ev_rev, kCall_ap, ev_call, kIsi2_ap, kIsi_ap, ev_isi, kBlt_ap, ev_blt, kMut3_ap, kMut2_ap, kMut1_ap, ev_mut, kPrm_ap, ev_prm, kC3_t, kC3_f, kC2_ap, kN_ap, kComp_ap, kLs_ap, kLsc_ap, kK3_t, kK3_f, kK2_ap, ev_comp, ev_lsc, kCons_ap, kEvs2_ap, kEvs1_ap, ev_nil, ev_cons, kSq_ap, ev_sq, kRng_ap, ev_rng1, k_enm2_ap, k_enm_ap, ev_ienm, k_rev2_ap, k_rev_ap, ev_irev, kTest_ap, ev_t0, ev_t1, ev_T, kRet_ap, ev_ret, ev_retN, nextE_ok, kAsg_ap, ev_asg, kNew2_ap, kNew1_ap, ev_new, kExp_ap, ev_exp, kIf_t, kIf_f, ev_if, kTurn_ap, kFor_ap, ev_for, kSix4_ap, kSix3_ap, kSix2_ap, kSix1_ap, ev_six, ev_pass, kSeq_n, kSeq_r, ev_s0, ev_s1, kLeave_n, kLeave_d, kLeave_l, kLeave_k, kLeave_o, run_def, rpm, startE, give, truthW, viewD, viewL, fz, isTy, kb, ki, dTruth, rcmp, rcmpD, cmpI, ridx_t0, ridx_t1, ridx_t2, ridx_t3, ridx_l0, ridx_l1, ridx_l2, ridx_l3, eqD_str, eqD_int, rb_add, rb_sub, rb_mul, rb_mul2, rb_mod, rb_fdiv, rb_addL, rblt, opt_some, opt_none, Res.bind_ok, Res.bind_stuck, Res.bind_exc, bindT, setAll, datas, asInt, itemsW, listD, rsl, List.map_cons, List.map_nil, List.length_cons, List.length_nil, List.cons_append, List.nil_append, List.replicate, List.getElem?_cons_zero, List.getElem?_cons_succ, List.headD_nil, List.headD_cons, List.tail_nil, List.tail_cons, Option.map_some, Option.map_none, List.set_cons_zero, List.set_cons_succ, ofS_beq, Bool.not_true, Bool.not_false, Bool.or_false, Bool.or_true, Bool.and_true, Bool.and_false, Bool.false_eq_true, if_true, if_false, h1, viewK, keyW, keyD, hkl, h2]
          · rw [if_neg (by rw [h2]; decide)] at hkl
            simp [cturn_ap, wipeE, pE, locR_ok, ev_loc, ev_dat, optB_ok, kBin2_ap, kBin1_ap, ev_bin, kCmp2_ap, kCmp1_ap, ev_cmp, kChn3_t, kChn3_f, kChn2_ap, kChn1_ap, ev_chn, kIsN_ap, ev_isN, kAnd2_t, kAnd2_f, kAnd1_ap, ev_and, kOr2_t, kOr2_f, kOr1_ap, ev_or, kNot_ap, ev_not, kIte2_t, kIte2_f, kIte1_ap, ev_ite, optT_ok, optL_ok, kTup_ap, kLst_ap, ev_tup, ev_lst, kIdx2_ap, kIdx1_ap, ev_idx, kslF3_ap, kslF2_ap, kslF1_ap, ev_slF, kslT3_ap, kslT2_ap, kslT1_ap, ev_slT, kRev2_ap, kRev_ap, ev_rev, kCall_ap, ev_call, kIsi2_ap, kIsi_ap, ev_isi, kBlt_ap, ev_blt, kMut3_ap, kMut2_ap, kMut1_ap, ev_mut, kPrm_ap, ev_prm, kC3_t, kC3_f, kC2_ap, kN_ap, kComp_ap, kLs_ap, kLsc_ap, kK3_t, kK3_f, kK2_ap, ev_comp, ev_lsc, kCons_ap, kEvs2_ap, kEvs1_ap, ev_nil, ev_cons, kSq_ap, ev_sq, kRng_ap, ev_rng1, k_enm2_ap, k_enm_ap, ev_ienm, k_rev2_ap, k_rev_ap, ev_irev, kTest_ap, ev_t0, ev_t1, ev_T, kRet_ap, ev_ret, ev_retN, nextE_ok, kAsg_ap, ev_asg, kNew2_ap, kNew1_ap, ev_new, kExp_ap, ev_exp, kIf_t, kIf_f, ev_if, kTurn_ap, kFor_ap, ev_for, kSix4_ap, kSix3_ap, kSix2_ap, kSix1_ap, ev_six, ev_pass, kSeq_n, kSeq_r, ev_s0, ev_s1, kLeave_n, kLeave_d, kLeave_l, kLeave_k, kLeave_o, run_def, rpm, startE, give, truthW, viewD, viewL, fz, isTy, kb, ki, dTruth, rcmp, rcmpD, cmpI, ridx_t0, ridx_t1, ridx_t2, ridx_t3, ridx_l0, ridx_l1, ridx_l2, ridx_l3, eqD_str, eqD_int, rb_add, rb_sub, rb_mul, rb_mul2, rb_mod, rb_fdiv, rb_addL, rblt, opt_some, opt_none, Res.bind_ok, Res.bind_stuck, Res.bind_exc, bindT, setAll, datas, asInt, itemsW, listD, rsl, List.map_cons, List.map_nil, List.length_cons, List.length_nil, List.cons_append, List.nil_append, List.replicate, List.getElem?_cons_zero, List.getElem?_cons_succ, List.headD_nil, List.headD_cons, List.tail_nil, List.tail_cons, Option.map_some, Option.map_none, List.set_cons_zero, List.set_cons_succ, ofS_beq, Bool.not_true, Bool.not_false, Bool.or_false, Bool.or_true, Bool.and_true, Bool.and_false, Bool.false_eq_true, if_true, if_false, h1, viewK, keyW, keyD, hkl, h2, oneD]
        · simp [cturn_ap, wipeE, pE, locR_ok, ev_loc, ev_dat, optB_ok, kBin2_ap, kBin1_ap, ev_bin, kCmp2_ap, kCmp1_ap, ev_cmp, kChn3_t, kChn3_f, kChn2_ap, kChn1_ap, ev_chn, kIsN_ap, ev_isN, kAnd2_t, kAnd2_f, kAnd1_ap, ev_and, kOr2_t, kOr2_f, kOr1_ap, ev_or, kNot_ap, ev_not, kIte2_t, kIte2_f, kIte1_ap, ev_ite, optT_ok, optL_ok, kTup_ap, kLst_ap, ev_tup, ev_lst, kIdx2_ap, kIdx1_ap, ev_idx, kslF3_ap, kslF2_ap, kslF1_ap, ev_slF, kslT3_ap, kslT2_ap, kslT1_ap, ev_slT, kRev2_ap, kRev_ap, ev_rev, kCall_ap, ev_call, kIsi2_ap, kIsi_ap, ev_isi, kBlt_ap, ev_blt, kMut3_ap, kMut2_ap, kMut1_ap, ev_mut, kPrm_ap, ev_prm, kC3_t, kC3_f, kC2_ap, kN_ap, kComp_ap, kLs_ap, kLsc_ap, kK3_t, kK3_f, kK2_ap, ev_comp, ev_lsc, kCons_ap, kEvs2_ap, kEvs1_ap, ev_nil, ev_cons, kSq_ap, ev_sq, kRng_ap, ev_rng1, k_enm2_ap, k_enm_ap, ev_ienm, k_rev2_ap, k_rev_ap, ev_irev, kTest_ap, ev_t0, ev_t1, ev_T, kRet_ap, ev_ret, ev_retN, nextE_ok, kAsg_ap, ev_asg, kNew2_ap, kNew1_ap, ev_new, kExp_ap, ev_exp, kIf_t, kIf_f, ev_if, kTurn_ap, kFor_ap, ev_for, kSix4_ap, kSix3_ap, kSix2_ap, kSix1_ap, ev_six, ev_pass, kSeq_n, kSeq_r, ev_s0, ev_s1, kLeave_n, kLeave_d, kLeave_l, kLeave_k, kLeave_o, run_def, rpm, startE, give, truthW, viewD, viewL, fz, isTy, kb, ki, dTruth, rcmp, rcmpD, cmpI, ridx_t0, ridx_t1, ridx_t2, ridx_t3, ridx_l0, ridx_l1, ridx_l2, ridx_l3, eqD_str, eqD_int, rb_add, rb_sub, rb_mul, rb_mul2, rb_mod, rb_fdiv, rb_addL, rblt, opt_some, opt_none, Res.bind_ok, Res.bind_stuck, Res.bind_exc, bindT, setAll, datas, asInt, itemsW, listD, rsl, List.map_cons, List.map_nil, List.length_cons, List.length_nil, List.cons_append, List.nil_append, List.replicate, List.getElem?_cons_zero, List.getElem?_cons_succ, List.headD_nil, List.headD_cons, List.tail_nil, List.tail_cons, Option.map_some, Option.map_none, List.set_cons_zero, List.set_cons_succ, ofS_beq, Bool.not_true, Bool.not_false, Bool.or_false, Bool.or_true, Bool.and_true, Bool.and_false, Bool.false_eq_true, if_true, if_false, h1]
      rw [List.map_cons, List.map_cons, List.filter_cons]
      simp only [loopC, ht, Res.bind_ok, ih]
      cases (p.1 == w && !isName p.2) <;> simp
  have hf : (b.filter fun p => p.1 == w && !isName p.2) = [(w, kd)] := by
    have hnd := hb.nodup
    have gen : ∀ l : Bk, (l.map (·.1)).Nodup → (w, kd) ∈ l → (l.filter fun p => p.1 == w && !isName p.2) = [(w, kd)] := by
      intro l
      induction l with
      | nil => intro _ h; cases h
      | cons p l ih =>
        intro hn hm
        rw [List.map_cons, List.nodup_cons] at hn
        rcases List.mem_cons.mp hm with hm | hm
        · subst hm
          rw [List.filter_cons]
          simp only [beq_self_eq_true, Bool.true_and, hk, Bool.not_false, if_true]
          congr 1
          refine List.filter_eq_nil_iff.mpr fun q hq => ?_
          have : q.1 ≠ w := fun e => hn.1 (by show w ∈ _; rw [← e]; exact List.mem_map_of_mem (f := Prod.fst) hq)
          simp [this]
        · rw [List.filter_cons]
          have : p.1 ≠ w := fun e => hn.1 (by rw [e]; exact List.mem_map_of_mem (f := Prod.fst) hm)
          simp only [beq_eq_false_iff_ne.mpr this, Bool.false_and, Bool.false_eq_true, if_false]
          exact ih hn.2 hm
    exact gen b hnd hw
  have hlp := hlp b fun _ h => h
  rw [hf] at hlp
  have hl := hb.len
  have h12 : ((b.map pE).map W.d).length ≤ 10000 := by simp; omega
  have hadd : [PyData.int (plc kd)].length + [PyData.int 0].length ≤ sizeLine := size_line (by simp)
  simp only [List.map_cons, List.map_nil] at hlp
  simp only [eb, locR_ok, ev_loc, ev_dat, optB_ok, kBin2_ap, kBin1_ap, ev_bin, kCmp2_ap, kCmp1_ap, ev_cmp, kChn3_t, kChn3_f, kChn2_ap, kChn1_ap, ev_chn, kIsN_ap, ev_isN, kAnd2_t, kAnd2_f, kAnd1_ap, ev_and, kOr2_t, kOr2_f, kOr1_ap, ev_or, kNot_ap, ev_not, kIte2_t, kIte2_f, kIte1_ap, ev_ite, optT_ok, optL_ok, kTup_ap, kLst_ap, ev_tup, ev_lst, kIdx2_ap, kIdx1_ap, ev_idx, kslF3_ap, kslF2_ap, kslF1_ap, ev_slF, kslT3_ap, kslT2_ap, kslT1_ap, ev_slT, kRev2_ap, kRev_ap, ev_rev, kCall_ap, ev_call, kIsi2_ap, kIsi_ap, ev_isi, kBlt_ap, ev_blt, kMut3_ap, kMut2_ap, kMut1_ap, ev_mut, kPrm_ap, ev_prm, kC3_t, kC3_f, kC2_ap, kN_ap, kComp_ap, kLs_ap, kLsc_ap, kK3_t, kK3_f, kK2_ap, ev_comp, ev_lsc, kCons_ap, kEvs2_ap, kEvs1_ap, ev_nil, ev_cons, kSq_ap, ev_sq, kRng_ap, ev_rng1, k_enm2_ap, k_enm_ap, ev_ienm, k_rev2_ap, k_rev_ap, ev_irev, kTest_ap, ev_t0, ev_t1, ev_T, kRet_ap, ev_ret, ev_retN, nextE_ok, kAsg_ap, ev_asg, kNew2_ap, kNew1_ap, ev_new, kExp_ap, ev_exp, kIf_t, kIf_f, ev_if, kTurn_ap, kFor_ap, ev_for, kSix4_ap, kSix3_ap, kSix2_ap, kSix1_ap, ev_six, ev_pass, kSeq_n, kSeq_r, ev_s0, ev_s1, kLeave_n, kLeave_d, kLeave_l, kLeave_k, kLeave_o, run_def, rpm, startE, give, truthW, viewD, viewL, fz, isTy, kb, ki, dTruth, rcmp, rcmpD, cmpI, ridx_t0, ridx_t1, ridx_t2, ridx_t3, ridx_l0, ridx_l1, ridx_l2, ridx_l3, eqD_str, eqD_int, rb_add, rb_sub, rb_mul, rb_mul2, rb_mod, rb_fdiv, rb_addL, rblt, opt_some, opt_none, Res.bind_ok, Res.bind_stuck, Res.bind_exc, bindT, setAll, datas, asInt, itemsW, listD, rsl, List.map_cons, List.map_nil, List.length_cons, List.length_nil, List.cons_append, List.nil_append, List.replicate, List.getElem?_cons_zero, List.getElem?_cons_succ, List.headD_nil, List.headD_cons, List.tail_nil, List.tail_cons, Option.map_some, Option.map_none, List.set_cons_zero, List.set_cons_succ, ofS_beq, Bool.not_true, Bool.not_false, Bool.or_false, Bool.or_true, Bool.and_true, Bool.and_false, Bool.false_eq_true, if_true, if_false, litK_ok, bkE]
  rw [bkE] at hlp
  simp only [hlp, few_small h12, noX_ok, locR_ok, ev_loc, ev_dat, optB_ok, kBin2_ap, kBin1_ap, ev_bin, kCmp2_ap, kCmp1_ap, ev_cmp, kChn3_t, kChn3_f, kChn2_ap, kChn1_ap, ev_chn, kIsN_ap, ev_isN, kAnd2_t, kAnd2_f, kAnd1_ap, ev_and, kOr2_t, kOr2_f, kOr1_ap, ev_or, kNot_ap, ev_not, kIte2_t, kIte2_f, kIte1_ap, ev_ite, optT_ok, optL_ok, kTup_ap, kLst_ap, ev_tup, ev_lst, kIdx2_ap, kIdx1_ap, ev_idx, kslF3_ap, kslF2_ap, kslF1_ap, ev_slF, kslT3_ap, kslT2_ap, kslT1_ap, ev_slT, kRev2_ap, kRev_ap, ev_rev, kCall_ap, ev_call, kIsi2_ap, kIsi_ap, ev_isi, kBlt_ap, ev_blt, kMut3_ap, kMut2_ap, kMut1_ap, ev_mut, kPrm_ap, ev_prm, kC3_t, kC3_f, kC2_ap, kN_ap, kComp_ap, kLs_ap, kLsc_ap, kK3_t, kK3_f, kK2_ap, ev_comp, ev_lsc, kCons_ap, kEvs2_ap, kEvs1_ap, ev_nil, ev_cons, kSq_ap, ev_sq, kRng_ap, ev_rng1, k_enm2_ap, k_enm_ap, ev_ienm, k_rev2_ap, k_rev_ap, ev_irev, kTest_ap, ev_t0, ev_t1, ev_T, kRet_ap, ev_ret, ev_retN, nextE_ok, kAsg_ap, ev_asg, kNew2_ap, kNew1_ap, ev_new, kExp_ap, ev_exp, kIf_t, kIf_f, ev_if, kTurn_ap, kFor_ap, ev_for, kSix4_ap, kSix3_ap, kSix2_ap, kSix1_ap, ev_six, ev_pass, kSeq_n, kSeq_r, ev_s0, ev_s1, kLeave_n, kLeave_d, kLeave_l, kLeave_k, kLeave_o, run_def, rpm, startE, give, truthW, viewD, viewL, fz, isTy, kb, ki, dTruth, rcmp, rcmpD, cmpI, ridx_t0, ridx_t1, ridx_t2, ridx_t3, ridx_l0, ridx_l1, ridx_l2, ridx_l3, eqD_str, eqD_int, rb_add, rb_sub, rb_mul, rb_mul2, rb_mod, rb_fdiv, rb_addL, rblt, opt_some, opt_none, Res.bind_ok, Res.bind_stuck, Res.bind_exc, bindT, setAll, datas, asInt, itemsW, listD, rsl, List.map_cons, List.map_nil, List.length_cons, List.length_nil, List.cons_append, List.nil_append, List.replicate, List.getElem?_cons_zero, List.getElem?_cons_succ, List.headD_nil, List.headD_cons, List.tail_nil, List.tail_cons, Option.map_some, Option.map_none, List.set_cons_zero, List.set_cons_succ, ofS_beq, Bool.not_true, Bool.not_false, Bool.or_false, Bool.or_true, Bool.and_true, Bool.and_false, Bool.false_eq_true, if_true, if_false, rb_addL hadd]
end
end Sc
namespace Sc
open PySem PySem.Spec PyProof.Rows L2
section
variable {tab : Tab} {S : Sto}
/-! ### stores with the state, things behind it -/
theorem mid_last {A G : Sto} {x y : MO} {m : Nat} (hm : m = A.length + 1 + G.length) : (A ++ x :: (G ++ [y]))[m]? = some y := by
  have e : A ++ x :: (G ++ [y]) = (A ++ x :: G) ++ y :: [] := by simp
  have e2 : m = (A ++ x :: G).length := by simp; omega
  rw [e, e2, at_mid]
theorem append_last {A G : Sto} {x : MO} {xs : List D} {y : D} {m : Nat} (hm : m = A.length + 1 + G.length) (h : xs.length < 10000) : rmut .append (A ++ x :: (G ++ [.lst xs])) (.o m) [.d y] = .ok (.w (.d .none)) (A ++ x :: (G ++ [.lst (xs ++ [y])])) := by
  have e : ∀ z : MO, A ++ x :: (G ++ [z]) = (A ++ x :: G) ++ z :: [] := fun z => by simp
  have e2 : m = (A ++ x :: G).length := by simp; omega
  rw [e, e, e2, rmut_append h]
theorem view_last {A G : Sto} {x : MO} {xs : List D} {m : Nat} (hm : m = A.length + 1 + G.length) : viewL (A ++ x :: (G ++ [.lst xs])) (.o m) = some xs := by
  simp only [viewL, mid_last hm]
theorem tup_last {A G : Sto} {x : MO} {xs : List D} {m : Nat} (hm : m = A.length + 1 + G.length) : rblt .tuple (A ++ x :: (G ++ [.lst xs])) [.o m] = some (.w (.d (.tuple xs))) := by
  simp only [rblt, viewD, mid_last hm]
/-! ### choosing -/
theorem pick_ln {xs : List D} (h : xs ≠ []) (z : Int) : ∃ (q : Nat) (x : D), z % (xs.length : Int) = q ∧ x ∈ xs ∧ ∀ S, ridx S (.d (.list xs)) (.d (.int q)) = some (.w (.d x)) := by
  have h0 : 0 < xs.length := List.length_pos_iff.mpr h
  have h1 := Int.emod_lt_of_pos z (b := (xs.length : Int)) (by omega)
  have h2 := Int.emod_nonneg z (b := (xs.length : Int)) (by omega)
  have hq : (z % (xs.length : Int)).toNat < xs.length := by omega
  refine ⟨(z % (xs.length : Int)).toNat, xs[(z % (xs.length : Int)).toNat], by omega, List.getElem_mem _, fun S => ridx_ln (List.getElem?_eq_getElem hq)⟩
theorem known_nil {ts : List Tm} : eqD (.list (ts.map Tm.e)) (.list []) = some ts.isEmpty := by
  unfold eqD
  rw [if_pos (by refine Nat.le_trans (Nat.min_le_right _ _) ?_; simp [PyData.depth, PyData.depthAll])]
  cases ts <;> simp [PyData.eqv, PyData.eqvAll]
def pkB : List Sm := [.asg (.nm 14) (.call "_law_next" [false, true] [(.loc 0), (.loc 1)]), .ite (.or (.cmp .eq (.loc 4) (.lst [])) (.cmp .eq (.bin .mod (.loc 14) (.dat (.int 4))) (.dat (.int 0)))) [.exp (.mut .append (.loc 11) [(.idx (.loc 10) (.bin .mod (.bin .fdiv (.loc 14) (.dat (.int 4))) (.blt .len [(.loc 10)])))])] [.exp (.mut .append (.loc 11) [(.idx (.loc 4) (.bin .mod (.loc 14) (.blt .len [(.loc 4)])))])]]
theorem pk_turn (u : Ups tab) {k : Nat} {b : Bk} {row : List Int} (hr : row.length = 60) {names : List Tm} (hn : names ≠ []) {known : List Tm} {A G : Sto} {a : Nat} {c : Int} {m : Nat} (hm : m = A.length + 1 + G.length) {acc : List Tm} (hacc : acc.length < 10000) {x2 x3 x5 x6 x7 x8 x9 x12 x13 x14 x15 x16 : Option W} (t : Int)
    (hN : ∀ t ∈ names, thOk b t = true) (hK : ∀ t ∈ known, thOk b t = true) :
    ∃ (a' : Nat) (y : Tm) (x14' : Option W), thOk b y = true ∧ turn (Cn tab (k + 1)) (.nm 12) pkB (.d (.int t)) [some (.d (rowE row)), some (.o A.length), x2, x3, some (.d (.list (known.map Tm.e))), x5, x6, x7, x8, x9, some (.d (.list (names.map Tm.e))), some (.o m), x12, x13, x14, x15, x16] (A ++ stE a c :: (G ++ [.lst (acc.map Tm.e)]))
      = .ok (.next [some (.d (rowE row)), some (.o A.length), x2, x3, some (.d (.list (known.map Tm.e))), x5, x6, x7, x8, x9, some (.d (.list (names.map Tm.e))), some (.o m), some (.d (.int t)), x13, x14', x15, x16]) (A ++ stE a' c :: (G ++ [.lst ((acc ++ [y]).map Tm.e)])) := by
  obtain ⟨z, hz⟩ : ∃ z, cellZ row ((a + 1) % 60) = z := ⟨_, rfl⟩
  have hnx := law_next_ok u (k := k) (row := row) hr (A := A) (G := G ++ [.lst (acc.map Tm.e)]) (a := a) (c := c)
  rw [hz] at hnx
  have hacc' : (acc.map Tm.e).length < 10000 := by simpa using hacc
  have hnn : names.map Tm.e ≠ [] := by simpa using hn
  generalize (a + 1) % 60 = a' at hnx
  by_cases hcond : known.isEmpty = true ∨ (z % 4 == 0) = true
  · obtain ⟨q, x, hq, hx, hrx⟩ := pick_ln hnn (z / 4)
    obtain ⟨y, hy, rfl⟩ := List.mem_map.mp hx
    have hpos : (0 : Int) < (names.map Tm.e).length := by
      have := List.length_pos_iff.mpr hnn
      omega
    refine ⟨a', y, some (.d (.int z)), hN y hy, ?_⟩
    cases h1 : known.isEmpty with
    | true =>
      simp only [turn_ap, pkB, locR_ok, ev_loc, ev_dat, optB_ok, kBin2_ap, kBin1_ap, ev_bin, kCmp2_ap, kCmp1_ap, ev_cmp, kChn3_t, kChn3_f, kChn2_ap, kChn1_ap, ev_chn, kIsN_ap, ev_isN, kAnd2_t, kAnd2_f, kAnd1_ap, ev_and, kOr2_t, kOr2_f, kOr1_ap, ev_or, kNot_ap, ev_not, kIte2_t, kIte2_f, kIte1_ap, ev_ite, optT_ok, optL_ok, kTup_ap, kLst_ap, ev_tup, ev_lst, kIdx2_ap, kIdx1_ap, ev_idx, kslF3_ap, kslF2_ap, kslF1_ap, ev_slF, kslT3_ap, kslT2_ap, kslT1_ap, ev_slT, kRev2_ap, kRev_ap, ev_rev, kCall_ap, ev_call, kIsi2_ap, kIsi_ap, ev_isi, kBlt_ap, ev_blt, kMut3_ap, kMut2_ap, kMut1_ap, ev_mut, kPrm_ap, ev_prm, kC3_t, kC3_f, kC2_ap, kN_ap, kComp_ap, kLs_ap, kLsc_ap, kK3_t, kK3_f, kK2_ap, ev_comp, ev_lsc, kCons_ap, kEvs2_ap, kEvs1_ap, ev_nil, ev_cons, kSq_ap, ev_sq, kRng_ap, ev_rng1, k_enm2_ap, k_enm_ap, ev_ienm, k_rev2_ap, k_rev_ap, ev_irev, kTest_ap, ev_t0, ev_t1, ev_T, kRet_ap, ev_ret, ev_retN, nextE_ok, kAsg_ap, ev_asg, kNew2_ap, kNew1_ap, ev_new, kExp_ap, ev_exp, kIf_t, kIf_f, ev_if, kTurn_ap, kFor_ap, ev_for, kSix4_ap, kSix3_ap, kSix2_ap, kSix1_ap, ev_six, ev_pass, kSeq_n, kSeq_r, ev_s0, ev_s1, kLeave_n, kLeave_d, kLeave_l, kLeave_k, kLeave_o, run_def, rpm, startE, give, truthW, viewD, viewL, fz, isTy, kb, ki, dTruth, rcmp, rcmpD, cmpI, ridx_t0, ridx_t1, ridx_t2, ridx_t3, ridx_l0, ridx_l1, ridx_l2, ridx_l3, eqD_str, eqD_int, rb_add, rb_sub, rb_mul, rb_mul2, rb_mod, rb_fdiv, rb_addL, rblt, opt_some, opt_none, Res.bind_ok, Res.bind_stuck, Res.bind_exc, bindT, setAll, datas, asInt, itemsW, listD, rsl, List.map_cons, List.map_nil, List.length_cons, List.length_nil, List.cons_append, List.nil_append, List.replicate, List.getElem?_cons_zero, List.getElem?_cons_succ, List.headD_nil, List.headD_cons, List.tail_nil, List.tail_cons, Option.map_some, Option.map_none, List.set_cons_zero, List.set_cons_succ, ofS_beq, Bool.not_true, Bool.not_false, Bool.or_false, Bool.or_true, Bool.and_true, Bool.and_false, Bool.false_eq_true, if_true, if_false, hnx, known_nil, h1, rb_fdiv (i := z) (j := 4) ⟨by decide, by decide⟩, rb_mod hpos, hq, hrx, mid_last hm, append_last hm hacc']
      simp
    | false =>
      have h2 : (z % 4 == 0) = true := by
        rcases hcond with h | h
        · rw [h1] at h; cases h
        · exact h
      simp only [turn_ap, pkB, locR_ok, ev_loc, ev_dat, optB_ok, kBin2_ap, kBin1_ap, ev_bin, kCmp2_ap, kCmp1_ap, ev_cmp, kChn3_t, kChn3_f, kChn2_ap, kChn1_ap, ev_chn, kIsN_ap, ev_isN, kAnd2_t, kAnd2_f, kAnd1_ap, ev_and, kOr2_t, kOr2_f, kOr1_ap, ev_or, kNot_ap, ev_not, kIte2_t, kIte2_f, kIte1_ap, ev_ite, optT_ok, optL_ok, kTup_ap, kLst_ap, ev_tup, ev_lst, kIdx2_ap, kIdx1_ap, ev_idx, kslF3_ap, kslF2_ap, kslF1_ap, ev_slF, kslT3_ap, kslT2_ap, kslT1_ap, ev_slT, kRev2_ap, kRev_ap, ev_rev, kCall_ap, ev_call, kIsi2_ap, kIsi_ap, ev_isi, kBlt_ap, ev_blt, kMut3_ap, kMut2_ap, kMut1_ap, ev_mut, kPrm_ap, ev_prm, kC3_t, kC3_f, kC2_ap, kN_ap, kComp_ap, kLs_ap, kLsc_ap, kK3_t, kK3_f, kK2_ap, ev_comp, ev_lsc, kCons_ap, kEvs2_ap, kEvs1_ap, ev_nil, ev_cons, kSq_ap, ev_sq, kRng_ap, ev_rng1, k_enm2_ap, k_enm_ap, ev_ienm, k_rev2_ap, k_rev_ap, ev_irev, kTest_ap, ev_t0, ev_t1, ev_T, kRet_ap, ev_ret, ev_retN, nextE_ok, kAsg_ap, ev_asg, kNew2_ap, kNew1_ap, ev_new, kExp_ap, ev_exp, kIf_t, kIf_f, ev_if, kTurn_ap, kFor_ap, ev_for, kSix4_ap, kSix3_ap, kSix2_ap, kSix1_ap, ev_six, ev_pass, kSeq_n, kSeq_r, ev_s0, ev_s1, kLeave_n, kLeave_d, kLeave_l, kLeave_k, kLeave_o, run_def, rpm, startE, give, truthW, viewD, viewL, fz, isTy, kb, ki, dTruth, rcmp, rcmpD, cmpI, ridx_t0, ridx_t1, ridx_t2, ridx_t3, ridx_l0, ridx_l1, ridx_l2, ridx_l3, eqD_str, eqD_int, rb_add, rb_sub, rb_mul, rb_mul2, rb_mod, rb_fdiv, rb_addL, rblt, opt_some, opt_none, Res.bind_ok, Res.bind_stuck, Res.bind_exc, bindT, setAll, datas, asInt, itemsW, listD, rsl, List.map_cons, List.map_nil, List.length_cons, List.length_nil, List.cons_append, List.nil_append, List.replicate, List.getElem?_cons_zero, List.getElem?_cons_succ, List.headD_nil, List.headD_cons, List.tail_nil, List.tail_cons, Option.map_some, Option.map_none, List.set_cons_zero, List.set_cons_succ, ofS_beq, Bool.not_true, Bool.not_false, Bool.or_false, Bool.or_true, Bool.and_true, Bool.and_false, Bool.false_eq_true, if_true, if_false, hnx, known_nil, h1, rb_mod (i := z) (j := 4) (by decide), h2, rb_fdiv (i := z) (j := 4) ⟨by decide, by decide⟩, rb_mod hpos, hq, hrx, mid_last hm, append_last hm hacc']
      simp
  · have h1 : known.isEmpty = false := by
      cases h : known.isEmpty with
      | false => rfl
      | true => exact absurd (.inl h) hcond
    have h2 : (z % 4 == 0) = false := by
      cases h : (z % 4 == 0) with
      | false => rfl
      | true => exact absurd (.inr h) hcond
    have hkn : known.map Tm.e ≠ [] := by
      intro e
      simp at e
      subst e
      cases h1
    obtain ⟨q, x, hq, hx, hrx⟩ := pick_ln hkn z
    obtain ⟨y, hy, rfl⟩ := List.mem_map.mp hx
    have hpos : (0 : Int) < (known.map Tm.e).length := by
      have := List.length_pos_iff.mpr hkn
      omega
    refine ⟨a', y, some (.d (.int z)), hK y hy, ?_⟩
    simp only [turn_ap, pkB, locR_ok, ev_loc, ev_dat, optB_ok, kBin2_ap, kBin1_ap, ev_bin, kCmp2_ap, kCmp1_ap, ev_cmp, kChn3_t, kChn3_f, kChn2_ap, kChn1_ap, ev_chn, kIsN_ap, ev_isN, kAnd2_t, kAnd2_f, kAnd1_ap, ev_and, kOr2_t, kOr2_f, kOr1_ap, ev_or, kNot_ap, ev_not, kIte2_t, kIte2_f, kIte1_ap, ev_ite, optT_ok, optL_ok, kTup_ap, kLst_ap, ev_tup, ev_lst, kIdx2_ap, kIdx1_ap, ev_idx, kslF3_ap, kslF2_ap, kslF1_ap, ev_slF, kslT3_ap, kslT2_ap, kslT1_ap, ev_slT, kRev2_ap, kRev_ap, ev_rev, kCall_ap, ev_call, kIsi2_ap, kIsi_ap, ev_isi, kBlt_ap, ev_blt, kMut3_ap, kMut2_ap, kMut1_ap, ev_mut, kPrm_ap, ev_prm, kC3_t, kC3_f, kC2_ap, kN_ap, kComp_ap, kLs_ap, kLsc_ap, kK3_t, kK3_f, kK2_ap, ev_comp, ev_lsc, kCons_ap, kEvs2_ap, kEvs1_ap, ev_nil, ev_cons, kSq_ap, ev_sq, kRng_ap, ev_rng1, k_enm2_ap, k_enm_ap, ev_ienm, k_rev2_ap, k_rev_ap, ev_irev, kTest_ap, ev_t0, ev_t1, ev_T, kRet_ap, ev_ret, ev_retN, nextE_ok, kAsg_ap, ev_asg, kNew2_ap, kNew1_ap, ev_new, kExp_ap, ev_exp, kIf_t, kIf_f, ev_if, kTurn_ap, kFor_ap, ev_for, kSix4_ap, kSix3_ap, kSix2_ap, kSix1_ap, ev_six, ev_pass, kSeq_n, kSeq_r, ev_s0, ev_s1, kLeave_n, kLeave_d, kLeave_l, kLeave_k, kLeave_o, run_def, rpm, startE, give, truthW, viewD, viewL, fz, isTy, kb, ki, dTruth, rcmp, rcmpD, cmpI, ridx_t0, ridx_t1, ridx_t2, ridx_t3, ridx_l0, ridx_l1, ridx_l2, ridx_l3, eqD_str, eqD_int, rb_add, rb_sub, rb_mul, rb_mul2, rb_mod, rb_fdiv, rb_addL, rblt, opt_some, opt_none, Res.bind_ok, Res.bind_stuck, Res.bind_exc, bindT, setAll, datas, asInt, itemsW, listD, rsl, List.map_cons, List.map_nil, List.length_cons, List.length_nil, List.cons_append, List.nil_append, List.replicate, List.getElem?_cons_zero, List.getElem?_cons_succ, List.headD_nil, List.headD_cons, List.tail_nil, List.tail_cons, Option.map_some, Option.map_none, List.set_cons_zero, List.set_cons_succ, ofS_beq, Bool.not_true, Bool.not_false, Bool.or_false, Bool.or_true, Bool.and_true, Bool.and_false, Bool.false_eq_true, if_true, if_false, hnx, known_nil, h1, rb_mod (i := z) (j := 4) (by decide), h2, rb_mod hpos, hq, hrx, mid_last hm, append_last hm hacc']
    simp

theorem pk_loop (u : Ups tab) {k : Nat} {b : Bk} {row : List Int} (hr : row.length = 60) {names : List Tm} (hn : names ≠ []) {known : List Tm} {A G : Sto} {c : Int} {m : Nat} (hm : m = A.length + 1 + G.length) {x2 x3 x5 x6 x7 x8 x9 x13 x15 x16 : Option W}
    (hN : ∀ t ∈ names, thOk b t = true) (hK : ∀ t ∈ known, thOk b t = true) : ∀ (n : Nat) (lo : Int) (a : Nat) (acc : List Tm) (x12 x14 : Option W), acc.length + n < 10000 → (∀ t ∈ acc, thOk b t = true) →
    ∃ (a' : Nat) (acc' : List Tm) (x12' x14' : Option W), acc'.length = acc.length + n ∧ (∀ t ∈ acc', thOk b t = true) ∧ loopF (turn (Cn tab (k + 1)) (.nm 12) pkB) (rangeW lo n) [some (.d (rowE row)), some (.o A.length), x2, x3, some (.d (.list (known.map Tm.e))), x5, x6, x7, x8, x9, some (.d (.list (names.map Tm.e))), some (.o m), x12, x13, x14, x15, x16] (A ++ stE a c :: (G ++ [.lst (acc.map Tm.e)]))
      = .ok (.next [some (.d (rowE row)), some (.o A.length), x2, x3, some (.d (.list (known.map Tm.e))), x5, x6, x7, x8, x9, some (.d (.list (names.map Tm.e))), some (.o m), x12', x13, x14', x15, x16]) (A ++ stE a' c :: (G ++ [.lst (acc'.map Tm.e)]))
  | 0, lo, a, acc, x12, x14, _, h => ⟨a, acc, x12, x14, rfl, h, rfl⟩
  | n + 1, lo, a, acc, x12, x14, hl, h => by
    obtain ⟨a1, y, x14', hy, h1⟩ := pk_turn u (k := k) (b := b) hr hn (known := known) (A := A) (G := G) (a := a) (c := c) hm (acc := acc) (by omega) (x2 := x2) (x3 := x3) (x5 := x5) (x6 := x6) (x7 := x7) (x8 := x8) (x9 := x9) (x12 := x12) (x13 := x13) (x14 := x14) (x15 := x15) (x16 := x16) lo hN hK
    obtain ⟨a2, acc', x12', x14'', h2, h3, h4⟩ := pk_loop u (k := k) (b := b) hr hn (known := known) (A := A) (G := G) (c := c) hm (x2 := x2) (x3 := x3) (x5 := x5) (x6 := x6) (x7 := x7) (x8 := x8) (x9 := x9) (x13 := x13) (x15 := x15) (x16 := x16) hN hK n (lo + 1) a1 (acc ++ [y]) (some (.d (.int lo))) x14' (by simp; omega) (fun t ht => by
      rcases List.mem_append.mp ht with ht | ht
      · exact h t ht
      · simp at ht; subst ht; exact hy)
    refine ⟨a2, acc', x12', x14'', by simp at h2; omega, h3, ?_⟩
    simp only [rangeW, loopF, h1, Res.bind_ok]
    exact h4
/-! ### a fact -/
def ftB : List Sm := [.asg (.nm 8) (.comp (.loc 9) (.tp [9, 15]) (.sq (.loc 2)) [(.cmp .ne (.loc 15) (.dat (.str "name")))] [9, 15]), .asg (.nm 9) (.idx (.loc 8) (.bin .mod (.call "_law_next" [false, true] [(.loc 0), (.loc 1)]) (.blt .len [(.loc 8)]))), .asg (.nm 10) (.comp (.loc 16) (.tp [16, 15]) (.sq (.loc 2)) [(.cmp .eq (.loc 15) (.dat (.str "name")))] [16, 15]), .new 11 (.lst []), .for_ (.nm 12) (.rng1 (.call "_law_places" [] [(.loc 2), (.loc 9)])) pkB, .ret (.tup [(.dat (.str "fact")), (.loc 9), (.blt .tuple [(.loc 11)])])]
theorem plc_pos {x : Str} (h : (kindL.any fun y => y == x) = true) (hn : isName x = false) : ∃ n : Nat, (n = 1 ∨ n = 2) ∧ plc x = n := by
  simp only [kindL, List.any_cons, List.any_nil, Bool.or_false, Bool.or_eq_true, beq_iff_eq] at h
  rcases h with h | h | h | h | h | h <;> subst h
  · exact absurd hn (by decide +kernel)
  · exact ⟨1, .inl rfl, by decide +kernel⟩
  · exact ⟨2, .inr rfl, by decide +kernel⟩
  · exact ⟨1, .inl rfl, by decide +kernel⟩
  · exact ⟨2, .inr rfl, by decide +kernel⟩
  · exact ⟨1, .inl rfl, by decide +kernel⟩
theorem BookG.names {b : Bk} (h : BookG b) : (b.filter fun p => isName p.2) ≠ [] := by
  obtain ⟨sub, hs, hb⟩ := h
  have h1 : (("ann" : Str), ("name" : Str)) ∈ b := hb.mem_iff.mpr (List.mem_append_left _ (by simp [six1]))
  exact List.ne_nil_of_mem (List.mem_filter.mpr ⟨h1, by decide +kernel⟩)
theorem BookG.others {b : Bk} (h : BookG b) : (b.filter fun p => !isName p.2) ≠ [] := by
  obtain ⟨sub, hs, hb⟩ := h
  have h1 : (("man" : Str), ("noun" : Str)) ∈ b := hb.mem_iff.mpr (List.mem_append_left _ (by simp [six1]))
  exact List.ne_nil_of_mem (List.mem_filter.mpr ⟨h1, by decide +kernel⟩)
theorem placesD_of {w kd : Str} : ∀ {l : Bk}, (l.map (·.1)).Nodup → (w, kd) ∈ l → placesD l w = .int (plc kd)
  | p :: l, hn, hm => by
    rw [List.map_cons, List.nodup_cons] at hn
    unfold placesD
    rw [List.find?_cons]
    rcases List.mem_cons.mp hm with hm | hm
    · subst hm
      simp
    · have : p.1 ≠ w := fun e => hn.1 (by rw [e]; exact List.mem_map_of_mem (f := Prod.fst) hm)
      rw [beq_eq_false_iff_ne.mpr this]
      exact placesD_of hn.2 hm
theorem comp_others {C : Orc} {b : Bk} {x0 x1 x3 x4 x5 x6 x7 x8 x9 x10 x11 x12 x13 x14 x15 x16 : Option W} {S : Sto} (hl : b.length ≤ 10000) : evN C (.comp (.loc 9) (.tp [9, 15]) (.sq (.loc 2)) [(.cmp .ne (.loc 15) (.dat (.str "name")))] [9, 15]) [x0, x1, some (.d (bkE b)), x3, x4, x5, x6, x7, x8, x9, x10, x11, x12, x13, x14, x15, x16] S = .ok (.n ((b.filter fun p => !isName p.2).map fun p => .str p.1)) S := by
  have h12 : ((b.map pE).map W.d).length ≤ 10000 := by simpa using hl
  have c1 : ∀ l : Bk, loopC (cturn C (.loc 9) (.tp [9, 15]) [(.cmp .ne (.loc 15) (.dat (.str "name")))] [9, 15] [x0, x1, some (.d (.tuple (b.map pE))), x3, x4, x5, x6, x7, x8, x9, x10, x11, x12, x13, x14, x15, x16]) ((l.map pE).map .d) S = .ok ((l.filter fun p => !isName p.2).map fun p => .str p.1) S := by
    intro l
    induction l with
    | nil => rfl
    | cons p l ih =>
      have ht : cturn C (.loc 9) (.tp [9, 15]) [(.cmp .ne (.loc 15) (.dat (.str "name")))] [9, 15] [x0, x1, some (.d (.tuple (b.map pE))), x3, x4, x5, x6, x7, x8, x9, x10, x11, x12, x13, x14, x15, x16] (.d (pE p)) S = .ok (if !isName p.2 then some (.str p.1) else none) S := by
        rcases Bool.eq_false_or_eq_true (p.2 == Str.ofString "name") with h | h
        · simp only [cturn_ap, wipeE, pE, locR_ok, ev_loc, ev_dat, optB_ok, kBin2_ap, kBin1_ap, ev_bin, kCmp2_ap, kCmp1_ap, ev_cmp, kChn3_t, kChn3_f, kChn2_ap, kChn1_ap, ev_chn, kIsN_ap, ev_isN, kAnd2_t, kAnd2_f, kAnd1_ap, ev_and, kOr2_t, kOr2_f, kOr1_ap, ev_or, kNot_ap, ev_not, kIte2_t, kIte2_f, kIte1_ap, ev_ite, optT_ok, optL_ok, kTup_ap, kLst_ap, ev_tup, ev_lst, kIdx2_ap, kIdx1_ap, ev_idx, kslF3_ap, kslF2_ap, kslF1_ap, ev_slF, kslT3_ap, kslT2_ap, kslT1_ap, ev_slT, kRev2_ap, kRev_ap, ev_rev, kCall_ap, ev_call, kIsi2_ap, kIsi_ap, ev_isi, kBlt_ap, ev_blt, kMut3_ap, kMut2_ap, kMut1_ap, ev_mut, kPrm_ap, ev_prm, kC3_t, kC3_f, kC2_ap, kN_ap, kComp_ap, kLs_ap, kLsc_ap, kK3_t, kK3_f, kK2_ap, ev_comp, ev_lsc, kCons_ap, kEvs2_ap, kEvs1_ap, ev_nil, ev_cons, kSq_ap, ev_sq, kRng_ap, ev_rng1, k_enm2_ap, k_enm_ap, ev_ienm, k_rev2_ap, k_rev_ap, ev_irev, kTest_ap, ev_t0, ev_t1, ev_T, kRet_ap, ev_ret, ev_retN, nextE_ok, kAsg_ap, ev_asg, kNew2_ap, kNew1_ap, ev_new, kExp_ap, ev_exp, kIf_t, kIf_f, ev_if, kTurn_ap, kFor_ap, ev_for, kSix4_ap, kSix3_ap, kSix2_ap, kSix1_ap, ev_six, ev_pass, kSeq_n, kSeq_r, ev_s0, ev_s1, kLeave_n, kLeave_d, kLeave_l, kLeave_k, kLeave_o, run_def, rpm, startE, give, truthW, viewD, viewL, fz, isTy, kb, ki, dTruth, rcmp, rcmpD, cmpI, ridx_t0, ridx_t1, ridx_t2, ridx_t3, ridx_l0, ridx_l1, ridx_l2, ridx_l3, eqD_str, eqD_int, rb_add, rb_sub, rb_mul, rb_mul2, rb_mod, rb_fdiv, rb_addL, rblt, opt_some, opt_none, Res.bind_ok, Res.bind_stuck, Res.bind_exc, bindT, setAll, datas, asInt, itemsW, listD, rsl, List.map_cons, List.map_nil, List.length_cons, List.length_nil, List.cons_append, List.nil_append, List.replicate, List.getElem?_cons_zero, List.getElem?_cons_succ, List.headD_nil, List.headD_cons, List.tail_nil, List.tail_cons, Option.map_some, Option.map_none, List.set_cons_zero, List.set_cons_succ, ofS_beq, Bool.not_true, Bool.not_false, Bool.or_false, Bool.or_true, Bool.and_true, Bool.and_false, Bool.false_eq_true, if_true, if_false, isName, h]
        · simp only [cturn_ap, wipeE, pE, locR_ok, ev_loc, ev_dat, optB_ok, kBin2_ap, kBin1_ap, ev_bin, kCmp2_ap, kCmp1_ap, ev_cmp, kChn3_t, kChn3_f, kChn2_ap, kChn1_ap, ev_chn, kIsN_ap, ev_isN, kAnd2_t, kAnd2_f, kAnd1_ap, ev_and, kOr2_t, kOr2_f, kOr1_ap, ev_or, kNot_ap, ev_not, kIte2_t, kIte2_f, kIte1_ap, ev_ite, optT_ok, optL_ok, kTup_ap, kLst_ap, ev_tup, ev_lst, kIdx2_ap, kIdx1_ap, ev_idx, kslF3_ap, kslF2_ap, kslF1_ap, ev_slF, kslT3_ap, kslT2_ap, kslT1_ap, ev_slT, kRev2_ap, kRev_ap, ev_rev, kCall_ap, ev_call, kIsi2_ap, kIsi_ap, ev_isi, kBlt_ap, ev_blt, kMut3_ap, kMut2_ap, kMut1_ap, ev_mut, kPrm_ap, ev_prm, kC3_t, kC3_f, kC2_ap, kN_ap, kComp_ap, kLs_ap, kLsc_ap, kK3_t, kK3_f, kK2_ap, ev_comp, ev_lsc, kCons_ap, kEvs2_ap, kEvs1_ap, ev_nil, ev_cons, kSq_ap, ev_sq, kRng_ap, ev_rng1, k_enm2_ap, k_enm_ap, ev_ienm, k_rev2_ap, k_rev_ap, ev_irev, kTest_ap, ev_t0, ev_t1, ev_T, kRet_ap, ev_ret, ev_retN, nextE_ok, kAsg_ap, ev_asg, kNew2_ap, kNew1_ap, ev_new, kExp_ap, ev_exp, kIf_t, kIf_f, ev_if, kTurn_ap, kFor_ap, ev_for, kSix4_ap, kSix3_ap, kSix2_ap, kSix1_ap, ev_six, ev_pass, kSeq_n, kSeq_r, ev_s0, ev_s1, kLeave_n, kLeave_d, kLeave_l, kLeave_k, kLeave_o, run_def, rpm, startE, give, truthW, viewD, viewL, fz, isTy, kb, ki, dTruth, rcmp, rcmpD, cmpI, ridx_t0, ridx_t1, ridx_t2, ridx_t3, ridx_l0, ridx_l1, ridx_l2, ridx_l3, eqD_str, eqD_int, rb_add, rb_sub, rb_mul, rb_mul2, rb_mod, rb_fdiv, rb_addL, rblt, opt_some, opt_none, Res.bind_ok, Res.bind_stuck, Res.bind_exc, bindT, setAll, datas, asInt, itemsW, listD, rsl, List.map_cons, List.map_nil, List.length_cons, List.length_nil, List.cons_append, List.nil_append, List.replicate, List.getElem?_cons_zero, List.getElem?_cons_succ, List.headD_nil, List.headD_cons, List.tail_nil, List.tail_cons, Option.map_some, Option.map_none, List.set_cons_zero, List.set_cons_succ, ofS_beq, Bool.not_true, Bool.not_false, Bool.or_false, Bool.or_true, Bool.and_true, Bool.and_false, Bool.false_eq_true, if_true, if_false, isName, h, oneD]
      rw [List.map_cons, List.map_cons, List.filter_cons]
      simp only [loopC, ht, Res.bind_ok, ih]
      cases isName p.2 <;> simp
  simp only [locR_ok, ev_loc, ev_dat, optB_ok, kBin2_ap, kBin1_ap, ev_bin, kCmp2_ap, kCmp1_ap, ev_cmp, kChn3_t, kChn3_f, kChn2_ap, kChn1_ap, ev_chn, kIsN_ap, ev_isN, kAnd2_t, kAnd2_f, kAnd1_ap, ev_and, kOr2_t, kOr2_f, kOr1_ap, ev_or, kNot_ap, ev_not, kIte2_t, kIte2_f, kIte1_ap, ev_ite, optT_ok, optL_ok, kTup_ap, kLst_ap, ev_tup, ev_lst, kIdx2_ap, kIdx1_ap, ev_idx, kslF3_ap, kslF2_ap, kslF1_ap, ev_slF, kslT3_ap, kslT2_ap, kslT1_ap, ev_slT, kRev2_ap, kRev_ap, ev_rev, kCall_ap, ev_call, kIsi2_ap, kIsi_ap, ev_isi, kBlt_ap, ev_blt, kMut3_ap, kMut2_ap, kMut1_ap, ev_mut, kPrm_ap, ev_prm, kC3_t, kC3_f, kC2_ap, kN_ap, kComp_ap, kLs_ap, kLsc_ap, kK3_t, kK3_f, kK2_ap, ev_comp, ev_lsc, kCons_ap, kEvs2_ap, kEvs1_ap, ev_nil, ev_cons, kSq_ap, ev_sq, kRng_ap, ev_rng1, k_enm2_ap, k_enm_ap, ev_ienm, k_rev2_ap, k_rev_ap, ev_irev, kTest_ap, ev_t0, ev_t1, ev_T, kRet_ap, ev_ret, ev_retN, nextE_ok, kAsg_ap, ev_asg, kNew2_ap, kNew1_ap, ev_new, kExp_ap, ev_exp, kIf_t, kIf_f, ev_if, kTurn_ap, kFor_ap, ev_for, kSix4_ap, kSix3_ap, kSix2_ap, kSix1_ap, ev_six, ev_pass, kSeq_n, kSeq_r, ev_s0, ev_s1, kLeave_n, kLeave_d, kLeave_l, kLeave_k, kLeave_o, run_def, rpm, startE, give, truthW, viewD, viewL, fz, isTy, kb, ki, dTruth, rcmp, rcmpD, cmpI, ridx_t0, ridx_t1, ridx_t2, ridx_t3, ridx_l0, ridx_l1, ridx_l2, ridx_l3, eqD_str, eqD_int, rb_add, rb_sub, rb_mul, rb_mul2, rb_mod, rb_fdiv, rb_addL, rblt, opt_some, opt_none, Res.bind_ok, Res.bind_stuck, Res.bind_exc, bindT, setAll, datas, asInt, itemsW, listD, rsl, List.map_cons, List.map_nil, List.length_cons, List.length_nil, List.cons_append, List.nil_append, List.replicate, List.getElem?_cons_zero, List.getElem?_cons_succ, List.headD_nil, List.headD_cons, List.tail_nil, List.tail_cons, Option.map_some, Option.map_none, List.set_cons_zero, List.set_cons_succ, ofS_beq, Bool.not_true, Bool.not_false, Bool.or_false, Bool.or_true, Bool.and_true, Bool.and_false, Bool.false_eq_true, if_true, if_false, bkE, c1, few_small h12, noX_ok]
theorem comp_names {C : Orc} {b : Bk} {x0 x1 x3 x4 x5 x6 x7 x8 x9 x10 x11 x12 x13 x14 x15 x16 : Option W} {S : Sto} (hl : b.length ≤ 10000) : evN C (.comp (.loc 16) (.tp [16, 15]) (.sq (.loc 2)) [(.cmp .eq (.loc 15) (.dat (.str "name")))] [16, 15]) [x0, x1, some (.d (bkE b)), x3, x4, x5, x6, x7, x8, x9, x10, x11, x12, x13, x14, x15, x16] S = .ok (.n (((b.filter fun p => isName p.2).map fun p => Tm.nm p.1).map Tm.e)) S := by
  have h12 : ((b.map pE).map W.d).length ≤ 10000 := by simpa using hl
  have c1 : ∀ l : Bk, loopC (cturn C (.loc 16) (.tp [16, 15]) [(.cmp .eq (.loc 15) (.dat (.str "name")))] [16, 15] [x0, x1, some (.d (.tuple (b.map pE))), x3, x4, x5, x6, x7, x8, x9, x10, x11, x12, x13, x14, x15, x16]) ((l.map pE).map .d) S = .ok (((l.filter fun p => isName p.2).map fun p => Tm.nm p.1).map Tm.e) S := by
    intro l
    induction l with
    | nil => rfl
    | cons p l ih =>
      have ht : cturn C (.loc 16) (.tp [16, 15]) [(.cmp .eq (.loc 15) (.dat (.str "name")))] [16, 15] [x0, x1, some (.d (.tuple (b.map pE))), x3, x4, x5, x6, x7, x8, x9, x10, x11, x12, x13, x14, x15, x16] (.d (pE p)) S = .ok (if isName p.2 then some (.str p.1) else none) S := by
        rcases Bool.eq_false_or_eq_true (p.2 == Str.ofString "name") with h | h
        · simp only [cturn_ap, wipeE, pE, locR_ok, ev_loc, ev_dat, optB_ok, kBin2_ap, kBin1_ap, ev_bin, kCmp2_ap, kCmp1_ap, ev_cmp, kChn3_t, kChn3_f, kChn2_ap, kChn1_ap, ev_chn, kIsN_ap, ev_isN, kAnd2_t, kAnd2_f, kAnd1_ap, ev_and, kOr2_t, kOr2_f, kOr1_ap, ev_or, kNot_ap, ev_not, kIte2_t, kIte2_f, kIte1_ap, ev_ite, optT_ok, optL_ok, kTup_ap, kLst_ap, ev_tup, ev_lst, kIdx2_ap, kIdx1_ap, ev_idx, kslF3_ap, kslF2_ap, kslF1_ap, ev_slF, kslT3_ap, kslT2_ap, kslT1_ap, ev_slT, kRev2_ap, kRev_ap, ev_rev, kCall_ap, ev_call, kIsi2_ap, kIsi_ap, ev_isi, kBlt_ap, ev_blt, kMut3_ap, kMut2_ap, kMut1_ap, ev_mut, kPrm_ap, ev_prm, kC3_t, kC3_f, kC2_ap, kN_ap, kComp_ap, kLs_ap, kLsc_ap, kK3_t, kK3_f, kK2_ap, ev_comp, ev_lsc, kCons_ap, kEvs2_ap, kEvs1_ap, ev_nil, ev_cons, kSq_ap, ev_sq, kRng_ap, ev_rng1, k_enm2_ap, k_enm_ap, ev_ienm, k_rev2_ap, k_rev_ap, ev_irev, kTest_ap, ev_t0, ev_t1, ev_T, kRet_ap, ev_ret, ev_retN, nextE_ok, kAsg_ap, ev_asg, kNew2_ap, kNew1_ap, ev_new, kExp_ap, ev_exp, kIf_t, kIf_f, ev_if, kTurn_ap, kFor_ap, ev_for, kSix4_ap, kSix3_ap, kSix2_ap, kSix1_ap, ev_six, ev_pass, kSeq_n, kSeq_r, ev_s0, ev_s1, kLeave_n, kLeave_d, kLeave_l, kLeave_k, kLeave_o, run_def, rpm, startE, give, truthW, viewD, viewL, fz, isTy, kb, ki, dTruth, rcmp, rcmpD, cmpI, ridx_t0, ridx_t1, ridx_t2, ridx_t3, ridx_l0, ridx_l1, ridx_l2, ridx_l3, eqD_str, eqD_int, rb_add, rb_sub, rb_mul, rb_mul2, rb_mod, rb_fdiv, rb_addL, rblt, opt_some, opt_none, Res.bind_ok, Res.bind_stuck, Res.bind_exc, bindT, setAll, datas, asInt, itemsW, listD, rsl, List.map_cons, List.map_nil, List.length_cons, List.length_nil, List.cons_append, List.nil_append, List.replicate, List.getElem?_cons_zero, List.getElem?_cons_succ, List.headD_nil, List.headD_cons, List.tail_nil, List.tail_cons, Option.map_some, Option.map_none, List.set_cons_zero, List.set_cons_succ, ofS_beq, Bool.not_true, Bool.not_false, Bool.or_false, Bool.or_true, Bool.and_true, Bool.and_false, Bool.false_eq_true, if_true, if_false, isName, h, oneD]
        · simp only [cturn_ap, wipeE, pE, locR_ok, ev_loc, ev_dat, optB_ok, kBin2_ap, kBin1_ap, ev_bin, kCmp2_ap, kCmp1_ap, ev_cmp, kChn3_t, kChn3_f, kChn2_ap, kChn1_ap, ev_chn, kIsN_ap, ev_isN, kAnd2_t, kAnd2_f, kAnd1_ap, ev_and, kOr2_t, kOr2_f, kOr1_ap, ev_or, kNot_ap, ev_not, kIte2_t, kIte2_f, kIte1_ap, ev_ite, optT_ok, optL_ok, kTup_ap, kLst_ap, ev_tup, ev_lst, kIdx2_ap, kIdx1_ap, ev_idx, kslF3_ap, kslF2_ap, kslF1_ap, ev_slF, kslT3_ap, kslT2_ap, kslT1_ap, ev_slT, kRev2_ap, kRev_ap, ev_rev, kCall_ap, ev_call, kIsi2_ap, kIsi_ap, ev_isi, kBlt_ap, ev_blt, kMut3_ap, kMut2_ap, kMut1_ap, ev_mut, kPrm_ap, ev_prm, kC3_t, kC3_f, kC2_ap, kN_ap, kComp_ap, kLs_ap, kLsc_ap, kK3_t, kK3_f, kK2_ap, ev_comp, ev_lsc, kCons_ap, kEvs2_ap, kEvs1_ap, ev_nil, ev_cons, kSq_ap, ev_sq, kRng_ap, ev_rng1, k_enm2_ap, k_enm_ap, ev_ienm, k_rev2_ap, k_rev_ap, ev_irev, kTest_ap, ev_t0, ev_t1, ev_T, kRet_ap, ev_ret, ev_retN, nextE_ok, kAsg_ap, ev_asg, kNew2_ap, kNew1_ap, ev_new, kExp_ap, ev_exp, kIf_t, kIf_f, ev_if, kTurn_ap, kFor_ap, ev_for, kSix4_ap, kSix3_ap, kSix2_ap, kSix1_ap, ev_six, ev_pass, kSeq_n, kSeq_r, ev_s0, ev_s1, kLeave_n, kLeave_d, kLeave_l, kLeave_k, kLeave_o, run_def, rpm, startE, give, truthW, viewD, viewL, fz, isTy, kb, ki, dTruth, rcmp, rcmpD, cmpI, ridx_t0, ridx_t1, ridx_t2, ridx_t3, ridx_l0, ridx_l1, ridx_l2, ridx_l3, eqD_str, eqD_int, rb_add, rb_sub, rb_mul, rb_mul2, rb_mod, rb_fdiv, rb_addL, rblt, opt_some, opt_none, Res.bind_ok, Res.bind_stuck, Res.bind_exc, bindT, setAll, datas, asInt, itemsW, listD, rsl, List.map_cons, List.map_nil, List.length_cons, List.length_nil, List.cons_append, List.nil_append, List.replicate, List.getElem?_cons_zero, List.getElem?_cons_succ, List.headD_nil, List.headD_cons, List.tail_nil, List.tail_cons, Option.map_some, Option.map_none, List.set_cons_zero, List.set_cons_succ, ofS_beq, Bool.not_true, Bool.not_false, Bool.or_false, Bool.or_true, Bool.and_true, Bool.and_false, Bool.false_eq_true, if_true, if_false, isName, h]
      rw [List.map_cons, List.map_cons, List.filter_cons]
      simp only [loopC, ht, Res.bind_ok, ih]
      cases isName p.2 <;> simp [Tm.e]
  simp only [locR_ok, ev_loc, ev_dat, optB_ok, kBin2_ap, kBin1_ap, ev_bin, kCmp2_ap, kCmp1_ap, ev_cmp, kChn3_t, kChn3_f, kChn2_ap, kChn1_ap, ev_chn, kIsN_ap, ev_isN, kAnd2_t, kAnd2_f, kAnd1_ap, ev_and, kOr2_t, kOr2_f, kOr1_ap, ev_or, kNot_ap, ev_not, kIte2_t, kIte2_f, kIte1_ap, ev_ite, optT_ok, optL_ok, kTup_ap, kLst_ap, ev_tup, ev_lst, kIdx2_ap, kIdx1_ap, ev_idx, kslF3_ap, kslF2_ap, kslF1_ap, ev_slF, kslT3_ap, kslT2_ap, kslT1_ap, ev_slT, kRev2_ap, kRev_ap, ev_rev, kCall_ap, ev_call, kIsi2_ap, kIsi_ap, ev_isi, kBlt_ap, ev_blt, kMut3_ap, kMut2_ap, kMut1_ap, ev_mut, kPrm_ap, ev_prm, kC3_t, kC3_f, kC2_ap, kN_ap, kComp_ap, kLs_ap, kLsc_ap, kK3_t, kK3_f, kK2_ap, ev_comp, ev_lsc, kCons_ap, kEvs2_ap, kEvs1_ap, ev_nil, ev_cons, kSq_ap, ev_sq, kRng_ap, ev_rng1, k_enm2_ap, k_enm_ap, ev_ienm, k_rev2_ap, k_rev_ap, ev_irev, kTest_ap, ev_t0, ev_t1, ev_T, kRet_ap, ev_ret, ev_retN, nextE_ok, kAsg_ap, ev_asg, kNew2_ap, kNew1_ap, ev_new, kExp_ap, ev_exp, kIf_t, kIf_f, ev_if, kTurn_ap, kFor_ap, ev_for, kSix4_ap, kSix3_ap, kSix2_ap, kSix1_ap, ev_six, ev_pass, kSeq_n, kSeq_r, ev_s0, ev_s1, kLeave_n, kLeave_d, kLeave_l, kLeave_k, kLeave_o, run_def, rpm, startE, give, truthW, viewD, viewL, fz, isTy, kb, ki, dTruth, rcmp, rcmpD, cmpI, ridx_t0, ridx_t1, ridx_t2, ridx_t3, ridx_l0, ridx_l1, ridx_l2, ridx_l3, eqD_str, eqD_int, rb_add, rb_sub, rb_mul, rb_mul2, rb_mod, rb_fdiv, rb_addL, rblt, opt_some, opt_none, Res.bind_ok, Res.bind_stuck, Res.bind_exc, bindT, setAll, datas, asInt, itemsW, listD, rsl, List.map_cons, List.map_nil, List.length_cons, List.length_nil, List.cons_append, List.nil_append, List.replicate, List.getElem?_cons_zero, List.getElem?_cons_succ, List.headD_nil, List.headD_cons, List.tail_nil, List.tail_cons, Option.map_some, Option.map_none, List.set_cons_zero, List.set_cons_succ, ofS_beq, Bool.not_true, Bool.not_false, Bool.or_false, Bool.or_true, Bool.and_true, Bool.and_false, Bool.false_eq_true, if_true, if_false, bkE, c1, few_small h12, noX_ok]
theorem ft_head (u : Ups tab) {k : Nat} {b : Bk} (hb : BookG b) {row : List Int} (hr : row.length = 60) {A G : Sto} {a : Nat} {c : Int} {x3 x4 x5 : Option W} :
    ∃ (a1 : Nat) (w kd : Str), (w, kd) ∈ b ∧ isName kd = false ∧ ∀ rest : List Sm, execs (Cn tab (k + 1)) ([.asg (.nm 8) (.comp (.loc 9) (.tp [9, 15]) (.sq (.loc 2)) [(.cmp .ne (.loc 15) (.dat (.str "name")))] [9, 15]), .asg (.nm 9) (.idx (.loc 8) (.bin .mod (.call "_law_next" [false, true] [(.loc 0), (.loc 1)]) (.blt .len [(.loc 8)])))] ++ rest) [some (.d (rowE row)), some (.o A.length), some (.d (bkE b)), x3, x4, x5, none, none, none, none, none, none, none, none, none, none, none] (A ++ stE a c :: G)
      = execs (Cn tab (k + 1)) rest [some (.d (rowE row)), some (.o A.length), some (.d (bkE b)), x3, x4, x5, none, none, some (.d (.list ((b.filter fun p => !isName p.2).map fun p => .str p.1))), some (.d (.str w)), none, none, none, none, none, none, none] (A ++ stE a1 c :: G) := by
  have hl := hb.len
  obtain ⟨z, hz⟩ : ∃ z, cellZ row ((a + 1) % 60) = z := ⟨_, rfl⟩
  have hnx := law_next_ok u (k := k) (row := row) hr (A := A) (G := G) (a := a) (c := c)
  rw [hz] at hnx
  generalize (a + 1) % 60 = a1 at hnx
  have hon : ((b.filter fun p => !isName p.2).map fun p => PyData.str p.1) ≠ [] := by simpa using hb.others
  obtain ⟨q, x, hq, hx, hrx⟩ := pick_ln hon z
  obtain ⟨⟨w, kd⟩, hp, rfl⟩ := List.mem_map.mp hx
  obtain ⟨hwb, hkd⟩ := List.mem_filter.mp hp
  have hkd : isName kd = false := by simpa using hkd
  have hpos : (0 : Int) < ((b.filter fun p => !isName p.2).map fun p => PyData.str p.1).length := by
    have := List.length_pos_iff.mpr hon
    omega
  refine ⟨a1, w, kd, hwb, hkd, fun rest => ?_⟩
  have hlb : b.length ≤ 10000 := by omega
  generalize hL : ((b.filter fun p => !isName p.2).map fun p => PyData.str p.1) = L at *
  have s1 : ∀ e : Ev, e = [some (.d (rowE row)), some (.o A.length), some (.d (bkE b)), x3, x4, x5, none, none, none, none, none, none, none, none, none, none, none] → exec (Cn tab (k + 1)) (.asg (.nm 8) (.comp (.loc 9) (.tp [9, 15]) (.sq (.loc 2)) [(.cmp .ne (.loc 15) (.dat (.str "name")))] [9, 15])) e (A ++ stE a c :: G) = .ok (.next (e.set 8 (some (.d (.list L))))) (A ++ stE a c :: G) := by
    intro e he
    subst he
    rw [ev_asg, comp_others hlb, hL]
    rfl
  rw [List.cons_append, ev_s1, s1 _ rfl, Res.bind_ok, kSeq_n, List.cons_append, ev_s1]
  simp only [locR_ok, ev_loc, ev_dat, optB_ok, kBin2_ap, kBin1_ap, ev_bin, kCmp2_ap, kCmp1_ap, ev_cmp, kChn3_t, kChn3_f, kChn2_ap, kChn1_ap, ev_chn, kIsN_ap, ev_isN, kAnd2_t, kAnd2_f, kAnd1_ap, ev_and, kOr2_t, kOr2_f, kOr1_ap, ev_or, kNot_ap, ev_not, kIte2_t, kIte2_f, kIte1_ap, ev_ite, optT_ok, optL_ok, kTup_ap, kLst_ap, ev_tup, ev_lst, kIdx2_ap, kIdx1_ap, ev_idx, kslF3_ap, kslF2_ap, kslF1_ap, ev_slF, kslT3_ap, kslT2_ap, kslT1_ap, ev_slT, kRev2_ap, kRev_ap, ev_rev, kCall_ap, ev_call, kIsi2_ap, kIsi_ap, ev_isi, kBlt_ap, ev_blt, kMut3_ap, kMut2_ap, kMut1_ap, ev_mut, kPrm_ap, ev_prm, kC3_t, kC3_f, kC2_ap, kN_ap, kComp_ap, kLs_ap, kLsc_ap, kK3_t, kK3_f, kK2_ap, ev_comp, ev_lsc, kCons_ap, kEvs2_ap, kEvs1_ap, ev_nil, ev_cons, kSq_ap, ev_sq, kRng_ap, ev_rng1, k_enm2_ap, k_enm_ap, ev_ienm, k_rev2_ap, k_rev_ap, ev_irev, kTest_ap, ev_t0, ev_t1, ev_T, kRet_ap, ev_ret, ev_retN, nextE_ok, kAsg_ap, ev_asg, kNew2_ap, kNew1_ap, ev_new, kExp_ap, ev_exp, kIf_t, kIf_f, ev_if, kTurn_ap, kFor_ap, ev_for, kSix4_ap, kSix3_ap, kSix2_ap, kSix1_ap, ev_six, ev_pass, kSeq_n, kSeq_r, ev_s0, ev_s1, kLeave_n, kLeave_d, kLeave_l, kLeave_k, kLeave_o, run_def, rpm, startE, give, truthW, viewD, viewL, fz, isTy, kb, ki, dTruth, rcmp, rcmpD, cmpI, ridx_t0, ridx_t1, ridx_t2, ridx_t3, ridx_l0, ridx_l1, ridx_l2, ridx_l3, eqD_str, eqD_int, rb_add, rb_sub, rb_mul, rb_mul2, rb_mod, rb_fdiv, rb_addL, rblt, opt_some, opt_none, Res.bind_ok, Res.bind_stuck, Res.bind_exc, bindT, setAll, datas, asInt, itemsW, listD, rsl, List.map_cons, List.map_nil, List.length_cons, List.length_nil, List.cons_append, List.nil_append, List.replicate, List.getElem?_cons_zero, List.getElem?_cons_succ, List.headD_nil, List.headD_cons, List.tail_nil, List.tail_cons, Option.map_some, Option.map_none, List.set_cons_zero, List.set_cons_succ, ofS_beq, Bool.not_true, Bool.not_false, Bool.or_false, Bool.or_true, Bool.and_true, Bool.and_false, Bool.false_eq_true, if_true, if_false, hnx, rb_mod hpos, hq, hrx]
theorem st1 {C : Orc} {bb : W} {w : Str} {n : Nat} {x0 x1 x3 x4 x5 x6 x7 x8 x10 x11 x12 x13 x14 x15 x16 : Option W} (hC : C "_law_places" [bb, .d (.str w)] S = .ok (.w (.d (.int n))) S) :
    evN C (.call "_law_places" [] [(.loc 2), (.loc 9)]) [x0, x1, some bb, x3, x4, x5, x6, x7, x8, some (.d (.str w)), x10, x11, x12, x13, x14, x15, x16] S = .ok (.w (.d (.int n))) S := by
  rw [ev_call]
  simp only [ev_cons, ev_nil, ev_loc, List.getElem?_cons_zero, List.getElem?_cons_succ, locR_ok, Res.bind_ok, kEvs1_ap, give, kEvs2_ap, kCons_ap, kCall_ap]
  rw [hC]
theorem st2 {C : Orc} {n : Nat} {body : List Sm} {e : Ev} {a : X} (hn : n ≤ 10000) (hC : evN C a e S = .ok (.w (.d (.int n))) S) :
    exec C (.for_ (.nm 12) (.rng1 a) body) e S = loopF (turn C (.nm 12) body) (rangeW 0 n) e S := by
  rw [ev_for, ev_rng1, hC]
  rw [Res.bind_ok, kRng_ap]
  have e1 : asInt (fz (R.w (W.d (.int n)))) = some (n : Int) := rfl
  rw [e1, rngW_ok hn, Res.bind_ok, kFor_ap]
theorem fact_ok (u : Ups tab) {k : Nat} {b : Bk} (hb : BookG b) {row : List Int} (hr : row.length = 60) {known : List Tm} (hK : ∀ t ∈ known, thOk b t = true) {A G : Sto} {a : Nat} {c : Int} {x3 x5 : Option W} :
    ∃ (f : Fm) (a' : Nat) (x : MO), okF b f = true ∧ f.few = true ∧ f.h = 1 ∧ f.size = 1 ∧ f.bro = [] ∧
      execs (Cn tab (k + 1)) ftB [some (.d (rowE row)), some (.o A.length), some (.d (bkE b)), x3, some (.d (.list (known.map Tm.e))), x5, none, none, none, none, none, none, none, none, none, none, none] (A ++ stE a c :: G) = .ok (.ret (.w (.d f.e))) (A ++ stE a' c :: (G ++ [x])) := by
  have hl := hb.len
  have hlb : b.length ≤ 10000 := by omega
  obtain ⟨a1, w, kd, hwb, hkd, hhd⟩ := ft_head u (k := k) hb hr (A := A) (G := G) (a := a) (c := c) (x3 := x3) (x4 := some (.d (.list (known.map Tm.e)))) (x5 := x5)
  obtain ⟨n, hn12, hnp⟩ := plc_pos (hb.row hwb).2 hkd
  have hpl : ∀ S, Cn tab (k + 1) "_law_places" [.d (bkE b), .d (.str w)] S = .ok (.w (.d (.int n))) S := fun S => by
    rw [← hnp]
    exact law_places_ok (S := S) u (k := k) hb hwb hkd
  have hnames : ((b.filter fun p => isName p.2).map fun p => Tm.nm p.1) ≠ [] := by simpa using hb.names
  have hNm : ∀ t ∈ ((b.filter fun p => isName p.2).map fun p => Tm.nm p.1), thOk b t = true := by
    intro t ht
    obtain ⟨p, hp, rfl⟩ := List.mem_map.mp ht
    obtain ⟨h1, h2⟩ := List.mem_filter.mp hp
    refine List.any_eq_true.mpr ⟨p, h1, ?_⟩
    have h2 : (p.2 == Str.ofString "name") = true := h2
    simp only [h2, beq_self_eq_true, Bool.and_true]
  generalize hX8 : (some (W.d (.list ((b.filter fun p => !isName p.2).map fun p => PyData.str p.1)))) = x8 at hhd
  obtain ⟨a2, ts, x12, x14, hts, hok, hlp⟩ := pk_loop u (k := k) (b := b) hr hnames (known := known) (A := A) (G := G) (c := c) (m := A.length + 1 + G.length) rfl
    (x2 := some (.d (bkE b))) (x3 := x3) (x5 := x5) (x6 := none) (x7 := none) (x8 := x8) (x9 := some (.d (.str w))) (x13 := none) (x15 := none) (x16 := none) hNm hK n 0 a1 [] none none (by simp; omega) (fun _ h => by cases h)
  refine ⟨.fact w ts, a2, .lst (ts.map Tm.e), ?_, ?_, rfl, rfl, rfl, ?_⟩
  · simp only [List.length_nil, Nat.zero_add] at hts
    have h0 : ts.isEmpty = false := by cases ts with
      | nil => simp at hts; omega
      | cons _ _ => rfl
    simp only [okF, h0, Bool.not_false, Bool.true_and, placesD_of hb.nodup hwb, hnp, hts, Bool.and_eq_true]
    exact ⟨by simp [PyData.eqv], List.all_eq_true.mpr hok⟩
  · simp only [Fm.few, decide_eq_true_eq]
    simp only [List.length_nil, Nat.zero_add] at hts
    omega
  · have hlen : (A ++ stE a1 c :: G).length = A.length + 1 + G.length := by simp; omega
    have e0 := hhd [.asg (.nm 10) (.comp (.loc 16) (.tp [16, 15]) (.sq (.loc 2)) [(.cmp .eq (.loc 15) (.dat (.str "name")))] [16, 15]), .new 11 (.lst []), .for_ (.nm 12) (.rng1 (.call "_law_places" [] [(.loc 2), (.loc 9)])) pkB, .ret (.tup [(.dat (.str "fact")), (.loc 9), (.blt .tuple [(.loc 11)])])]
    have e1 : ftB = [.asg (.nm 8) (.comp (.loc 9) (.tp [9, 15]) (.sq (.loc 2)) [(.cmp .ne (.loc 15) (.dat (.str "name")))] [9, 15]), .asg (.nm 9) (.idx (.loc 8) (.bin .mod (.call "_law_next" [false, true] [(.loc 0), (.loc 1)]) (.blt .len [(.loc 8)])))] ++ [.asg (.nm 10) (.comp (.loc 16) (.tp [16, 15]) (.sq (.loc 2)) [(.cmp .eq (.loc 15) (.dat (.str "name")))] [16, 15]), .new 11 (.lst []), .for_ (.nm 12) (.rng1 (.call "_law_places" [] [(.loc 2), (.loc 9)])) pkB, .ret (.tup [(.dat (.str "fact")), (.loc 9), (.blt .tuple [(.loc 11)])])] := rfl
    rw [e1, e0]
    simp only [List.map_nil] at hlp
    rw [ev_s1, ev_asg, comp_names hlb]
    generalize ((b.filter fun p => isName p.2).map fun p => Tm.nm p.1) = nms at *
    generalize bkE b = bb at *
    rw [Res.bind_ok, kAsg_ap]
    simp only [bindT, fz, nextE_ok, Res.bind_ok, kSeq_n, List.set_cons_zero, List.set_cons_succ]
    rw [ev_s1, ev_new, ev_lst, ev_nil, Res.bind_ok]
    simp only [kLst_ap, datas, optL_ok, Res.bind_ok, kNew1_ap, give, kNew2_ap, kSeq_n, List.set_cons_zero, List.set_cons_succ, hlen]
    rw [ev_s1, st2 (by omega) (st1 (hpl _))]
    simp only [List.append_assoc, List.cons_append]
    rw [hlp]
    simp only [locR_ok, ev_loc, ev_dat, optB_ok, kBin2_ap, kBin1_ap, ev_bin, kCmp2_ap, kCmp1_ap, ev_cmp, kChn3_t, kChn3_f, kChn2_ap, kChn1_ap, ev_chn, kIsN_ap, ev_isN, kAnd2_t, kAnd2_f, kAnd1_ap, ev_and, kOr2_t, kOr2_f, kOr1_ap, ev_or, kNot_ap, ev_not, kIte2_t, kIte2_f, kIte1_ap, ev_ite, optT_ok, optL_ok, kTup_ap, kLst_ap, ev_tup, ev_lst, kIdx2_ap, kIdx1_ap, ev_idx, kslF3_ap, kslF2_ap, kslF1_ap, ev_slF, kslT3_ap, kslT2_ap, kslT1_ap, ev_slT, kRev2_ap, kRev_ap, ev_rev, kCall_ap, ev_call, kIsi2_ap, kIsi_ap, ev_isi, kBlt_ap, ev_blt, kMut3_ap, kMut2_ap, kMut1_ap, ev_mut, kPrm_ap, ev_prm, kC3_t, kC3_f, kC2_ap, kN_ap, kComp_ap, kLs_ap, kLsc_ap, kK3_t, kK3_f, kK2_ap, ev_comp, ev_lsc, kCons_ap, kEvs2_ap, kEvs1_ap, ev_nil, ev_cons, kSq_ap, ev_sq, kRng_ap, ev_rng1, k_enm2_ap, k_enm_ap, ev_ienm, k_rev2_ap, k_rev_ap, ev_irev, kTest_ap, ev_t0, ev_t1, ev_T, kRet_ap, ev_ret, ev_retN, nextE_ok, kAsg_ap, ev_asg, kNew2_ap, kNew1_ap, ev_new, kExp_ap, ev_exp, kIf_t, kIf_f, ev_if, kTurn_ap, kFor_ap, ev_for, kSix4_ap, kSix3_ap, kSix2_ap, kSix1_ap, ev_six, ev_pass, kSeq_n, kSeq_r, ev_s0, ev_s1, kLeave_n, kLeave_d, kLeave_l, kLeave_k, kLeave_o, run_def, rpm, startE, give, truthW, viewD, viewL, fz, isTy, kb, ki, dTruth, rcmp, rcmpD, cmpI, ridx_t0, ridx_t1, ridx_t2, ridx_t3, ridx_l0, ridx_l1, ridx_l2, ridx_l3, eqD_str, eqD_int, rb_add, rb_sub, rb_mul, rb_mul2, rb_mod, rb_fdiv, rb_addL, rblt, opt_some, opt_none, Res.bind_ok, Res.bind_stuck, Res.bind_exc, bindT, setAll, datas, asInt, itemsW, listD, rsl, List.map_cons, List.map_nil, List.length_cons, List.length_nil, List.cons_append, List.nil_append, List.replicate, List.getElem?_cons_zero, List.getElem?_cons_succ, List.headD_nil, List.headD_cons, List.tail_nil, List.tail_cons, Option.map_some, Option.map_none, List.set_cons_zero, List.set_cons_succ, ofS_beq, Bool.not_true, Bool.not_false, Bool.or_false, Bool.or_true, Bool.and_true, Bool.and_false, Bool.false_eq_true, if_true, if_false, mid_last (A := A) (G := G) rfl]
    simp [Fm.e]
end
end Sc
namespace Sc
open PySem PySem.Spec PyProof.Rows L2
section
variable {tab : Tab} {S : Sto}
/-- c, c + 1, .. -/
def iv (c : Nat) : Nat → List Int
  | 0 => []
  | n + 1 => (c : Int) :: iv (c + 1) n
theorem iv_append : ∀ (n m c : Nat), iv c n ++ iv (c + n) m = iv c (n + m)
  | 0, m, c => by simp [iv]
  | n + 1, m, c => by
    have := iv_append n m (c + 1)
    rw [show n + 1 + m = (n + m) + 1 by omega]
    simp only [iv, List.cons_append]
    rw [← this, show c + (n + 1) = c + 1 + n by omega]
theorem iv_ge : ∀ {n c : Nat} {x : Int}, x ∈ iv c n → (c : Int) ≤ x
  | 0, c, x, h => by cases h
  | n + 1, c, x, h => by
    simp only [iv, List.mem_cons] at h
    rcases h with h | h
    · omega
    · have := iv_ge h
      omega
theorem iv_nodup : ∀ (n c : Nat), (iv c n).Nodup
  | 0, c => by simp [iv]
  | n + 1, c => by
    simp only [iv, List.nodup_cons]
    exact ⟨fun h => by have := iv_ge h; omega, iv_nodup n (c + 1)⟩
def clX (x4 : X) : X := .call "_law_formula" [false, true, false, false, false] [(.loc 0), (.loc 1), (.loc 2), (.bin .sub (.loc 3) (.dat (.int 1))), x4]
def wyX : X := .ite (.cmp .gt (.loc 3) (.dat (.int 0))) (.bin .mod (.call "_law_next" [false, true] [(.loc 0), (.loc 1)]) (.dat (.int 9))) (.dat (.int 0))
def anB : List Sm := [.asg (.nm 13) (.idx (.loc 1) (.dat (.int 1))), .six (.loc 1) (.dat (.int 1)) (.bin .add (.loc 13) (.dat (.int 1))), .asg (.nm 9) (.ite (.cmp .eq (.bin .mod (.call "_law_next" [false, true] [(.loc 0), (.loc 1)]) (.dat (.int 2))) (.dat (.int 0))) (.dat (.str "all")) (.dat (.str "some"))), .ret (.tup [(.loc 9), (.loc 13), clX (.bin .add (.loc 4) (.lst [(.loc 13)]))])]
def twB : List Sm := [.asg (.nm 6) (clX (.loc 4)), .asg (.nm 7) (clX (.loc 4)), .ret (.tup [(.idx (.lst [(.dat (.str "and")), (.dat (.str "or")), (.dat (.str "if"))]) (.bin .sub (.loc 5) (.dat (.int 6)))), (.loc 6), (.loc 7)])]
theorem lf_eq : b__law_formula = .asg (.nm 5) wyX :: .ite (.cmp .lt (.loc 5) (.dat (.int 2))) ftB [] :: .ite (.cmp .eq (.loc 5) (.dat (.int 2))) [.ret (.tup [(.dat (.str "not")), clX (.loc 4)])] [] :: .ite (.cmp .isin (.loc 5) (.tup [(.dat (.int 3)), (.dat (.int 4)), (.dat (.int 5))])) anB [] :: twB := rfl
abbrev env5 (row : List Int) (n : Nat) (b : Bk) (d : Int) (known : List Tm) (way : Int) : Ev := [some (.d (rowE row)), some (.o n), some (.d (bkE b)), some (.d (.int d)), some (.d (.list (known.map Tm.e))), some (.d (.int way)), none, none, none, none, none, none, none, none, none, none, none]
theorem give_w {lv : Bool} {x : W} {S : Sto} : give lv (.w x) S = .ok x S := rfl
/-- a call from a formula's def -/
theorem cl_ok {C : Orc} {e : Ev} {w0 w1 w2 : W} {d d' : Int} {known' : List D} {x4 : X} {r : Res R} (h0 : e[0]? = some (some w0)) (h1 : e[1]? = some (some w1)) (h2 : e[2]? = some (some w2)) (h3 : e[3]? = some (some (.d (.int d)))) (hd : d - 1 = d') (h4 : ∀ S, ∃ r4, evN C x4 e S = .ok r4 S ∧ fz r4 = .d (.list known') ∧ give false r4 S = .ok (.d (.list known')) S)
    (h : C "_law_formula" [w0, w1, w2, .d (.int d'), .d (.list known')] S = r) : evN C (clX x4) e S = r := by
  obtain ⟨r4, h5, h6, h7⟩ := h4 S
  unfold clX
  rw [ev_call]
  simp only [ev_cons, ev_nil, ev_loc, h0, h1, h2, h3, locR_ok, Res.bind_ok, kEvs1_ap, List.headD_cons, List.tail_cons, give_w, kEvs2_ap, kCons_ap, ev_bin, ev_dat, kBin1_ap, kBin2_ap, fz, rb_sub, opt_some, ki, hd, h5, h7]
  simp only [Res.bind_ok, kEvs2_ap, ev_nil, kCons_ap, kCall_ap, h]

theorem st_read {A G : Sto} {a c : Int} : ridx (A ++ stE a c :: G) (.o A.length) (.d (.int 1)) = some (.w (.d (.int c))) := by
  simp only [ridx, stE, at_mid]
  rfl
theorem st_write {A G : Sto} {a c x : Int} : rset (A ++ stE a c :: G) (.o A.length) (.d (.int 1)) (.d (.int x)) = .ok () (A ++ stE a x :: G) := by
  simp only [rset, stE, at_mid, set_mid]
  rfl
theorem law_formula_ok (u : Ups tab) {b : Bk} (hb : BookG b) {row : List Int} (hr : row.length = 60) : ∀ (d k : Nat) (A G : Sto) (a c : Nat) (known : List Tm), d + 3 ≤ k → (∀ t ∈ known, thOk b t = true) → known.length + d ≤ 1000 → c + 2 ^ d ≤ 100 →
    ∃ (f : Fm) (a' n : Nat) (G' : Sto), okF b f = true ∧ f.few = true ∧ f.h ≤ d + 1 ∧ f.size + 1 ≤ 2 ^ (d + 1) ∧ n + 1 ≤ 2 ^ d ∧ f.bro = iv c n ∧
      Cn tab k "_law_formula" [.d (rowE row), .o A.length, .d (bkE b), .d (.int d), .d (.list (known.map Tm.e))] (A ++ stE a c :: G) = .ok (.w (.d f.e)) (A ++ stE a' (c + n : Nat) :: (G ++ G')) := by
  intro d
  -- a fact
  have fct : ∀ (d k : Nat) (A G : Sto) (a c : Nat) (known : List Tm) (way : Int) (n0 : Nat), (∀ t ∈ known, thOk b t = true) → decide (way < 2) = true → ∃ (f : Fm) (a' n : Nat) (G' : Sto), okF b f = true ∧ f.few = true ∧ f.h ≤ d + 1 ∧ f.size + 1 ≤ 2 ^ (d + 1) ∧ n + 1 ≤ 2 ^ d ∧ f.bro = iv c n ∧
      (execs (Cn tab (k + 1)) (.ite (.cmp .lt (.loc 5) (.dat (.int 2))) ftB [] :: .ite (.cmp .eq (.loc 5) (.dat (.int 2))) [.ret (.tup [(.dat (.str "not")), clX (.loc 4)])] [] :: .ite (.cmp .isin (.loc 5) (.tup [(.dat (.int 3)), (.dat (.int 4)), (.dat (.int 5))])) anB [] :: twB) (env5 row A.length b d known way) (A ++ stE a c :: G)).bind (kLeave n0) = .ok (.w (.d f.e)) (A ++ stE a' (c + n : Nat) :: (G ++ G')) := by
    intro d k A G a c known way n0 hK hway
    obtain ⟨f, a', x, h1, h2, h3, h4, h5, h6⟩ := fact_ok u (k := k) hb hr hK (A := A) (G := G) (a := a) (c := (c : Int)) (x3 := some (.d (.int d))) (x5 := some (.d (.int way)))
    have p0 : 0 < 2 ^ d := Nat.pos_of_ne_zero (by simp)
    refine ⟨f, a', 0, [x], h1, h2, by omega, by rw [Nat.pow_succ]; omega, by omega, h5, ?_⟩
    rw [ev_s1, ev_if, ev_T, ev_cmp, ev_loc]
    simp only [List.getElem?_cons_zero, List.getElem?_cons_succ, locR_ok, Res.bind_ok, kCmp1_ap, ev_dat, kCmp2_ap, fz, rcmp, viewD, rcmpD, cmpI, hway, optB_ok, kTest_ap, kb, truthW, dTruth, opt_some, kIf_t, h6, kSeq_r, kLeave_d]
    rfl
  have first : ∀ (d k : Nat) (A G : Sto) (a c : Nat) (known : List Tm) (way : Int) (a1 : Nat), evN (Cn tab (k + 1)) wyX [some (.d (rowE row)), some (.o A.length), some (.d (bkE b)), some (.d (.int d)), some (.d (.list (known.map Tm.e))), none, none, none, none, none, none, none, none, none, none, none, none] (A ++ stE a c :: G) = .ok (.w (.d (.int way))) (A ++ stE a1 c :: G) →
      Cn tab (k + 2) "_law_formula" [.d (rowE row), .o A.length, .d (bkE b), .d (.int d), .d (.list (known.map Tm.e))] (A ++ stE a c :: G) = (execs (Cn tab (k + 1)) (.ite (.cmp .lt (.loc 5) (.dat (.int 2))) ftB [] :: .ite (.cmp .eq (.loc 5) (.dat (.int 2))) [.ret (.tup [(.dat (.str "not")), clX (.loc 4)])] [] :: .ite (.cmp .isin (.loc 5) (.tup [(.dat (.int 3)), (.dat (.int 4)), (.dat (.int 5))])) anB [] :: twB) (env5 row A.length b d known way) (A ++ stE a1 c :: G)).bind (kLeave (A ++ stE a c :: G).length) := by
    intro d k A G a c known way a1 h
    rw [u__law_formula u, run_def, lf_eq, ev_s1, ev_asg]
    have e : startE 17 [.d (rowE row), .o A.length, .d (bkE b), .d (.int d), .d (.list (known.map Tm.e))] = [some (.d (rowE row)), some (.o A.length), some (.d (bkE b)), some (.d (.int d)), some (.d (.list (known.map Tm.e))), none, none, none, none, none, none, none, none, none, none, none, none] := rfl
    rw [e, h]
    simp only [Res.bind_ok, kAsg_ap, bindT, fz, nextE_ok, List.set_cons_succ, List.set_cons_zero, kSeq_n]
  induction d with
  | zero =>
    intro k A G a c known hk hK hl hc
    obtain ⟨k, rfl⟩ : ∃ j, k = j + 2 := ⟨k - 2, by omega⟩
    have h := first 0 k A G a c known 0 a (by simp [wyX, locR_ok, ev_loc, ev_dat, optB_ok, kBin2_ap, kBin1_ap, ev_bin, kCmp2_ap, kCmp1_ap, ev_cmp, kChn3_t, kChn3_f, kChn2_ap, kChn1_ap, ev_chn, kIsN_ap, ev_isN, kAnd2_t, kAnd2_f, kAnd1_ap, ev_and, kOr2_t, kOr2_f, kOr1_ap, ev_or, kNot_ap, ev_not, kIte2_t, kIte2_f, kIte1_ap, ev_ite, optT_ok, optL_ok, kTup_ap, kLst_ap, ev_tup, ev_lst, kIdx2_ap, kIdx1_ap, ev_idx, kslF3_ap, kslF2_ap, kslF1_ap, ev_slF, kslT3_ap, kslT2_ap, kslT1_ap, ev_slT, kRev2_ap, kRev_ap, ev_rev, kCall_ap, ev_call, kIsi2_ap, kIsi_ap, ev_isi, kBlt_ap, ev_blt, kMut3_ap, kMut2_ap, kMut1_ap, ev_mut, kPrm_ap, ev_prm, kC3_t, kC3_f, kC2_ap, kN_ap, kComp_ap, kLs_ap, kLsc_ap, kK3_t, kK3_f, kK2_ap, ev_comp, ev_lsc, kCons_ap, kEvs2_ap, kEvs1_ap, ev_nil, ev_cons, kSq_ap, ev_sq, kRng_ap, ev_rng1, k_enm2_ap, k_enm_ap, ev_ienm, k_rev2_ap, k_rev_ap, ev_irev, kTest_ap, ev_t0, ev_t1, ev_T, kRet_ap, ev_ret, ev_retN, nextE_ok, kAsg_ap, ev_asg, kNew2_ap, kNew1_ap, ev_new, kExp_ap, ev_exp, kIf_t, kIf_f, ev_if, kTurn_ap, kFor_ap, ev_for, kSix4_ap, kSix3_ap, kSix2_ap, kSix1_ap, ev_six, ev_pass, kSeq_n, kSeq_r, ev_s0, ev_s1, kLeave_n, kLeave_d, kLeave_l, kLeave_k, kLeave_o, run_def, rpm, startE, give, truthW, viewD, viewL, fz, isTy, kb, ki, dTruth, rcmp, rcmpD, cmpI, ridx_t0, ridx_t1, ridx_t2, ridx_t3, ridx_l0, ridx_l1, ridx_l2, ridx_l3, eqD_str, eqD_int, rb_add, rb_sub, rb_mul, rb_mul2, rb_mod, rb_fdiv, rb_addL, rblt, opt_some, opt_none, Res.bind_ok, Res.bind_stuck, Res.bind_exc, bindT, setAll, datas, asInt, itemsW, listD, rsl, List.map_cons, List.map_nil, List.length_cons, List.length_nil, List.cons_append, List.nil_append, List.replicate, List.getElem?_cons_zero, List.getElem?_cons_succ, List.headD_nil, List.headD_cons, List.tail_nil, List.tail_cons, Option.map_some, Option.map_none, List.set_cons_zero, List.set_cons_succ, ofS_beq, Bool.not_true, Bool.not_false, Bool.or_false, Bool.or_true, Bool.and_true, Bool.and_false, Bool.false_eq_true, if_true, if_false])
    rw [h]
    exact fct 0 k A G a c known 0 _ hK rfl
  | succ d ih =>
    intro k A G a c known hk hK hl hc
    obtain ⟨k, rfl⟩ : ∃ j, k = j + 2 := ⟨k - 2, by omega⟩
    have p0 : 0 < 2 ^ d := Nat.pos_of_ne_zero (by simp)
    have p1 : 2 ^ (d + 1) = 2 ^ d + 2 ^ d := by rw [Nat.pow_succ]; omega
    have p2 : 2 ^ (d + 1 + 1) = 2 ^ (d + 1) + 2 ^ (d + 1) := by rw [Nat.pow_succ 2 (d + 1)]; omega
    have hnx := law_next_ok u (k := k) (row := row) hr (A := A) (G := G) (a := a) (c := (c : Int))
    generalize cellZ row ((a + 1) % 60) = z at hnx
    generalize (a + 1) % 60 = a1 at hnx
    obtain ⟨way, hway9, hway⟩ : ∃ way : Nat, way < 9 ∧ z % 9 = way := ⟨(z % 9).toNat, by have := Int.emod_lt_of_pos z (b := 9) (by decide); omega, by have := Int.emod_nonneg z (b := 9) (by decide); omega⟩
    have hd0 : decide ((0 : Int) < ((d + 1 : Nat) : Int)) = true := by simp <;> omega
    have h := first (d + 1) k A G a c known way a1 (by
      simp only [wyX, locR_ok, ev_loc, ev_dat, optB_ok, kBin2_ap, kBin1_ap, ev_bin, kCmp2_ap, kCmp1_ap, ev_cmp, kChn3_t, kChn3_f, kChn2_ap, kChn1_ap, ev_chn, kIsN_ap, ev_isN, kAnd2_t, kAnd2_f, kAnd1_ap, ev_and, kOr2_t, kOr2_f, kOr1_ap, ev_or, kNot_ap, ev_not, kIte2_t, kIte2_f, kIte1_ap, ev_ite, optT_ok, optL_ok, kTup_ap, kLst_ap, ev_tup, ev_lst, kIdx2_ap, kIdx1_ap, ev_idx, kslF3_ap, kslF2_ap, kslF1_ap, ev_slF, kslT3_ap, kslT2_ap, kslT1_ap, ev_slT, kRev2_ap, kRev_ap, ev_rev, kCall_ap, ev_call, kIsi2_ap, kIsi_ap, ev_isi, kBlt_ap, ev_blt, kMut3_ap, kMut2_ap, kMut1_ap, ev_mut, kPrm_ap, ev_prm, kC3_t, kC3_f, kC2_ap, kN_ap, kComp_ap, kLs_ap, kLsc_ap, kK3_t, kK3_f, kK2_ap, ev_comp, ev_lsc, kCons_ap, kEvs2_ap, kEvs1_ap, ev_nil, ev_cons, kSq_ap, ev_sq, kRng_ap, ev_rng1, k_enm2_ap, k_enm_ap, ev_ienm, k_rev2_ap, k_rev_ap, ev_irev, kTest_ap, ev_t0, ev_t1, ev_T, kRet_ap, ev_ret, ev_retN, nextE_ok, kAsg_ap, ev_asg, kNew2_ap, kNew1_ap, ev_new, kExp_ap, ev_exp, kIf_t, kIf_f, ev_if, kTurn_ap, kFor_ap, ev_for, kSix4_ap, kSix3_ap, kSix2_ap, kSix1_ap, ev_six, ev_pass, kSeq_n, kSeq_r, ev_s0, ev_s1, kLeave_n, kLeave_d, kLeave_l, kLeave_k, kLeave_o, run_def, rpm, startE, give, truthW, viewD, viewL, fz, isTy, kb, ki, dTruth, rcmp, rcmpD, cmpI, ridx_t0, ridx_t1, ridx_t2, ridx_t3, ridx_l0, ridx_l1, ridx_l2, ridx_l3, eqD_str, eqD_int, rb_add, rb_sub, rb_mul, rb_mul2, rb_mod, rb_fdiv, rb_addL, rblt, opt_some, opt_none, Res.bind_ok, Res.bind_stuck, Res.bind_exc, bindT, setAll, datas, asInt, itemsW, listD, rsl, List.map_cons, List.map_nil, List.length_cons, List.length_nil, List.cons_append, List.nil_append, List.replicate, List.getElem?_cons_zero, List.getElem?_cons_succ, List.headD_nil, List.headD_cons, List.tail_nil, List.tail_cons, Option.map_some, Option.map_none, List.set_cons_zero, List.set_cons_succ, ofS_beq, Bool.not_true, Bool.not_false, Bool.or_false, Bool.or_true, Bool.and_true, Bool.and_false, Bool.false_eq_true, if_true, if_false, hd0, hnx, rb_mod (i := z) (j := 9) (by decide), hway])
    rw [h]
    have hd1 : ((d + 1 : Nat) : Int) - 1 = (d : Int) := by omega
    generalize hD : ((d + 1 : Nat) : Int) = dz at hd1
    by_cases hw2 : way < 2
    · have := fct (d + 1) k A G a1 c known way (A ++ stE a c :: G).length hK (by simp; omega)
      rw [hD] at this
      exact this
    · have hcs : (way : Int) = 2 ∨ (way : Int) = 3 ∨ (way : Int) = 4 ∨ (way : Int) = 5 ∨ (way : Int) = 6 ∨ (way : Int) = 7 ∨ (way : Int) = 8 := by omega
      generalize (way : Int) = wz at hcs
      have ev1 : decide (wz < 2) = false := by simp; omega
      rw [ev_s1, ev_if, ev_T, ev_cmp, ev_loc]
      simp only [List.getElem?_cons_zero, List.getElem?_cons_succ, locR_ok, Res.bind_ok, kCmp1_ap, ev_dat, kCmp2_ap, fz, rcmp, viewD, rcmpD, cmpI, ev1, optB_ok, kTest_ap, kb, truthW, dTruth, opt_some, kIf_f, ev_s0, kSeq_n]
      rw [ev_s1, ev_if, ev_T, ev_cmp, ev_loc]
      simp only [List.getElem?_cons_zero, List.getElem?_cons_succ, locR_ok, Res.bind_ok, kCmp1_ap, ev_dat, kCmp2_ap, fz, rcmp, viewD, rcmpD, eqD_int, optB_ok, kTest_ap, kb, truthW, dTruth, opt_some]
      by_cases hn2 : wz = 2
      · -- not
        subst hn2
        obtain ⟨f, a', n, G', i1, i2, i3, i4, i5, i6, i7⟩ := ih (k + 1) A G a1 c known (by omega) hK (by omega) (by omega)
        refine ⟨.not f, a', n, G', i1, i2, by simp only [Fm.h]; omega, by simp only [Fm.size]; omega, by omega, i6, ?_⟩
        have hcl : evN (Cn tab (k + 1)) (clX (.loc 4)) (env5 row A.length b dz known 2) (A ++ stE a1 c :: G) = .ok (.w (.d f.e)) (A ++ stE a' (c + n : Nat) :: (G ++ G')) := cl_ok (C := Cn tab (k + 1)) rfl rfl rfl rfl hd1 (fun S => ⟨_, by rw [ev_loc]; rfl, rfl, rfl⟩) i7
        have e2 : ((2 : Int) == 2) = true := rfl
        simp only [e2, kIf_t, ev_s1, ev_s0, ev_ret, ev_tup, ev_cons, ev_nil, ev_dat, Res.bind_ok, kEvs1_ap, give_w, List.headD_nil, List.tail_nil, kEvs2_ap, hcl, kCons_ap, kTup_ap, datas, Option.map_some, optT_ok, kRet_ap, kSeq_r, kLeave_d]
        rfl
      · have e2 : (wz == 2) = false := by simpa using hn2
        simp only [e2, kIf_f, ev_s0, Res.bind_ok, kSeq_n]
        rw [ev_s1, ev_if, ev_T, ev_cmp, ev_loc]
        simp only [List.getElem?_cons_zero, List.getElem?_cons_succ, locR_ok, Res.bind_ok, kCmp1_ap, ev_tup, ev_cons, ev_nil, ev_dat, kEvs1_ap, give_w, List.headD_nil, List.tail_nil, kEvs2_ap, kCons_ap, kTup_ap, datas, Option.map_some, optT_ok, kCmp2_ap, fz, rcmp, viewD, rcmpD]
        have hin : inD (.int wz) (.tuple [.int 3, .int 4, .int 5]) = some (decide (wz < 6)) := by
          rw [inD_tup (by simp [PyData.depth])]
          rcases hcs with h | h | h | h | h | h | h <;> subst h <;> first | rfl | (exact absurd rfl hn2)
        rw [hin]
        simp only [optB_ok, Res.bind_ok, kTest_ap, kb, fz, truthW, viewD, dTruth, opt_some]
        by_cases h6 : wz < 6
        · -- all, some
          rw [decide_eq_true h6]
          have hnx2 := law_next_ok u (k := k) (row := row) hr (A := A) (G := G) (a := a1) (c := ((c + 1 : Nat) : Int))
          generalize cellZ row ((a1 + 1) % 60) = z2 at hnx2
          generalize (a1 + 1) % 60 = a2 at hnx2
          have hc1 : (c : Int) + 1 = ((c + 1 : Nat) : Int) := by omega
          obtain ⟨f, a', n, G', i1, i2, i3, i4, i5, i6, i7⟩ := ih (k + 1) A G a2 (c + 1) (known ++ [.no c]) (by omega) (fun t ht => by
            rcases List.mem_append.mp ht with ht | ht
            · exact hK t ht
            · simp at ht
              subst ht
              simp only [thOk, Bool.and_eq_true, decide_eq_true_eq]
              omega) (by simp; omega) (by omega)
          have hkn : (known ++ [Tm.no c]).map Tm.e = known.map Tm.e ++ [.int c] := by simp [Tm.e]
          rw [hkn] at i7
          have hadd : (known.map Tm.e).length + [PyData.int (c : Int)].length ≤ sizeLine := size_line (by simp; omega)
          refine ⟨.any (z2 % 2 == 0) c f, a', n + 1, G', ?_, i2, by simp only [Fm.h]; omega, by simp only [Fm.size]; omega, by omega, by simp only [Fm.bro, i6, iv], ?_⟩
          · simp only [okF, i1, Bool.and_true, Bool.and_eq_true, decide_eq_true_eq]
            omega
          have hcl : ∀ x9 : Option W, evN (Cn tab (k + 1)) (clX (.bin .add (.loc 4) (.lst [(.loc 13)]))) [some (.d (rowE row)), some (.o A.length), some (.d (bkE b)), some (.d (.int dz)), some (.d (.list (known.map Tm.e))), some (.d (.int wz)), none, none, none, x9, none, none, none, some (.d (.int c)), none, none, none] (A ++ stE a2 (c + 1 : Nat) :: G) = .ok (.w (.d f.e)) (A ++ stE a' (c + 1 + n : Nat) :: (G ++ G')) := fun x9 => cl_ok (C := Cn tab (k + 1)) rfl rfl rfl rfl hd1 (fun S => ⟨.n (known.map Tm.e ++ [.int c]), by
              rw [ev_bin, ev_loc]
              simp only [List.getElem?_cons_zero, List.getElem?_cons_succ, locR_ok, Res.bind_ok, kBin1_ap, ev_lst, ev_cons, ev_nil, ev_loc, kEvs1_ap, give_w, List.headD_nil, List.tail_nil, kEvs2_ap, kCons_ap, kLst_ap, datas, Option.map_some, optL_ok, kBin2_ap, fz]
              rw [rb_addL hadd]
              rfl, rfl, rfl⟩) i7
          have hsum : c + (n + 1) = c + 1 + n := by omega
          rw [hsum]
          simp only [kIf_t]
          unfold anB
          simp only [ev_s1, ev_s0, ev_asg, ev_idx, ev_loc, ev_dat, List.getElem?_cons_zero, List.getElem?_cons_succ, locR_ok, Res.bind_ok, kIdx1_ap, kIdx2_ap, fz, st_read, opt_some, kAsg_ap, bindT, nextE_ok, List.set_cons_zero, List.set_cons_succ, kSeq_n, ev_six, ev_bin, kBin1_ap, kBin2_ap, rb_add, ki, kSix1_ap, kSix2_ap, kSix3_ap, hc1, st_write, kSix4_ap]
          cases hz2 : (z2 % 2 == 0) with
          | true =>
            simp only [ev_s1, ev_s0, ev_ite, ev_cmp, ev_bin, ev_call, ev_cons, ev_nil, ev_loc, ev_dat, List.getElem?_cons_zero, List.getElem?_cons_succ, locR_ok, Res.bind_ok, kEvs1_ap, give_w, List.headD_cons, List.tail_cons, kEvs2_ap, kCons_ap, kCall_ap, hnx2, kBin1_ap, kBin2_ap, fz, rb_mod (i := z2) (j := 2) (by decide), opt_some, ki, kCmp1_ap, kCmp2_ap, rcmp, viewD, rcmpD, eqD_int, hz2, optB_ok, kb, kIte1_ap, truthW, dTruth, kIte2_t, kAsg_ap, bindT, nextE_ok, List.set_cons_zero, List.set_cons_succ, kSeq_n, ev_ret, ev_tup, List.headD_nil, List.tail_nil, hcl, kTup_ap, datas, Option.map_some, optT_ok, kRet_ap, kSeq_r, kLeave_d]
            rfl
          | false =>
            simp only [ev_s1, ev_s0, ev_ite, ev_cmp, ev_bin, ev_call, ev_cons, ev_nil, ev_loc, ev_dat, List.getElem?_cons_zero, List.getElem?_cons_succ, locR_ok, Res.bind_ok, kEvs1_ap, give_w, List.headD_cons, List.tail_cons, kEvs2_ap, kCons_ap, kCall_ap, hnx2, kBin1_ap, kBin2_ap, fz, rb_mod (i := z2) (j := 2) (by decide), opt_some, ki, kCmp1_ap, kCmp2_ap, rcmp, viewD, rcmpD, eqD_int, hz2, optB_ok, kb, kIte1_ap, truthW, dTruth, kIte2_f, kAsg_ap, bindT, nextE_ok, List.set_cons_zero, List.set_cons_succ, kSeq_n, ev_ret, ev_tup, List.headD_nil, List.tail_nil, hcl, kTup_ap, datas, Option.map_some, optT_ok, kRet_ap, kSeq_r, kLeave_d]
            rfl
        · -- and, or, if
          rw [decide_eq_false h6]
          obtain ⟨f, a2, n, G', i1, i2, i3, i4, i5, i6, i7⟩ := ih (k + 1) A G a1 c known (by omega) hK (by omega) (by omega)
          obtain ⟨g, a3, n2, G2, j1, j2, j3, j4, j5, j6, j7⟩ := ih (k + 1) A (G ++ G') a2 (c + n) known (by omega) hK (by omega) (by omega)
          obtain ⟨o, ho⟩ : ∃ o : O2, ∀ S, ridx S (.d (.list [.str "and", .str "or", .str "if"])) (.d (.int (wz - 6))) = some (.w (.d (.str o.s))) := by
            rcases hcs with h | h | h | h | h | h | h <;> subst h
            · exact absurd rfl hn2
            · exact absurd (by decide) h6
            · exact absurd (by decide) h6
            · exact absurd (by decide) h6
            · exact ⟨.and, fun S => ridx_l0⟩
            · exact ⟨.or, fun S => ridx_l1⟩
            · exact ⟨.if_, fun S => ridx_l2⟩
          refine ⟨.two o f g, a3, n + n2, G' ++ G2, by simp only [okF, i1, j1]; rfl, by simp only [Fm.few, i2, j2]; rfl, by simp only [Fm.h]; omega, by simp only [Fm.size]; omega, by omega, by simp only [Fm.bro, i6, j6, iv_append], ?_⟩
          have hcl : evN (Cn tab (k + 1)) (clX (.loc 4)) (env5 row A.length b dz known wz) (A ++ stE a1 c :: G) = .ok (.w (.d f.e)) (A ++ stE a2 (c + n : Nat) :: (G ++ G')) := cl_ok (C := Cn tab (k + 1)) rfl rfl rfl rfl hd1 (fun S => ⟨_, by rw [ev_loc]; rfl, rfl, rfl⟩) i7
          have hcl2 : evN (Cn tab (k + 1)) (clX (.loc 4)) [some (.d (rowE row)), some (.o A.length), some (.d (bkE b)), some (.d (.int dz)), some (.d (.list (known.map Tm.e))), some (.d (.int wz)), some (.d f.e), none, none, none, none, none, none, none, none, none, none] (A ++ stE a2 (c + n : Nat) :: (G ++ G')) = .ok (.w (.d g.e)) (A ++ stE a3 (c + n + n2 : Nat) :: (G ++ G' ++ G2)) := cl_ok (C := Cn tab (k + 1)) rfl rfl rfl rfl hd1 (fun S => ⟨_, by rw [ev_loc]; rfl, rfl, rfl⟩) j7
          rw [← List.append_assoc G, show c + (n + n2) = c + n + n2 by omega]
          simp only [kIf_f, ev_s0, Res.bind_ok, kSeq_n]
          unfold twB
          rw [ev_s1, ev_asg, hcl]
          simp only [Res.bind_ok, kAsg_ap, bindT, fz, nextE_ok, List.set_cons_zero, List.set_cons_succ, kSeq_n]
          rw [ev_s1, ev_asg, hcl2]
          simp only [Res.bind_ok, kAsg_ap, bindT, fz, nextE_ok, List.set_cons_zero, List.set_cons_succ, kSeq_n]
          simp only [ev_s1, ev_s0, ev_ret, ev_tup, ev_lst, ev_cons, ev_nil, ev_idx, ev_bin, ev_loc, ev_dat, List.getElem?_cons_zero, List.getElem?_cons_succ, locR_ok, Res.bind_ok, kEvs1_ap, give_w, List.headD_nil, List.tail_nil, kEvs2_ap, kCons_ap, kLst_ap, datas, Option.map_some, optL_ok, kIdx1_ap, kBin1_ap, kBin2_ap, fz, rb_sub, opt_some, ki, kIdx2_ap, ho, kTup_ap, optT_ok, kRet_ap, kSeq_r, kLeave_d]
          rfl
end
end Sc
namespace Sc
open PySem PySem.Spec PyProof.Rows L2

def N_law : List Str := ["script", "row", "book", "here", "known", "formula"]
def b_law : List Sm := [
  .asg (.nm 1) (.call "_law_row" [] [(.loc 0), (.dat (.int 4))]),
  .asg (.nm 2) (.call "_law_book" [] [(.loc 1)]),
  .asg (.nm 3) (.call "_law_row" [] [(.loc 0), (.dat (.int 2))]),
  .asg (.nm 4) (.idx (.lst [(.lst []), (.lst [(.dat (.int 50))]), (.lst [(.tup [(.dat (.str "it")), (.dat (.int 1))]), (.tup [(.dat (.str "it")), (.dat (.int 4))])]), (.lst [(.dat (.int 51)), (.tup [(.dat (.str "it")), (.dat (.int 0))])])]) (.bin .mod (.idx (.loc 1) (.dat (.int 10))) (.dat (.int 4)))),
  .asg (.nm 5) (.call "_law_formula" [false, true, false, false, false] [(.loc 3), (.lst [(.dat (.int 0)), (.bin .mod (.idx (.loc 3) (.dat (.int 0))) (.dat (.int 40)))]), (.loc 2), (.dat (.int 4)), (.loc 4)]),
  .ret (.cmp .eq (.call "flat" [] [(.loc 2), (.loc 5)]) (.call "_law_flat" [] [(.loc 5)]))]
def tl0 : List (Str × GK) := [("KINDS", .cst g_KINDS),
  ("PLACES", .kd kd_PLACES),
  ("OWN", .cst g_OWN),
  ("SMALL", .cst g_SMALL),
  ("MOST_WORDS", .cst g_MOST_WORDS),
  ("MOST_LETTERS", .cst g_MOST_LETTERS),
  ("OF_TWO", .cst g_OF_TWO),
  ("OF_ANY", .cst g_OF_ANY),
  ("MOST_THING", .cst g_MOST_THING),
  ("MOST_DEEP", .cst g_MOST_DEEP),
  ("bool", .blt),
  ("enumerate", .blt),
  ("int", .blt),
  ("isinstance", .blt),
  ("len", .blt),
  ("range", .blt),
  ("reversed", .blt),
  ("set", .blt),
  ("str", .blt),
  ("tuple", .blt)]
def tl1 : List (Str × GK) := [("is_within", .fn 3),
  ("is_word", .fn 1),
  ("is_book", .fn 1),
  ("look", .fn 1),
  ("places_of", .fn 2),
  ("is_thing", .fn 2),
  ("is_fact", .fn 2),
  ("is_formed", .fn 3),
  ("brought", .fn 1),
  ("is_formula_of", .fn 2),
  ("look_formula", .fn 2),
  ("opened", .fn 1),
  ("around", .fn 4),
  ("flat_of", .fn 1),
  ("flat", .fn 2),
  ("_law_cell", .fn 2),
  ("_law_whole", .fn 1),
  ("_law_row", .fn 2),
  ("_law_book", .fn 1),
  ("_law_next", .fn 2)]
def tl2 : List (Str × GK) := [("_law_places", .fn 2),
  ("_law_formula", .fn 5),
  ("_law_opened", .fn 1),
  ("_law_flat", .fn 1)]
def tl : List (Str × GK) := tl0 ++ (tl1 ++ (tl2))
def tabl : List (Str × Nat × List Sm) := [("law", 6, b_law)]
def tab : Tab := fun f => match tabU f with
  | some x => some x
  | none => tabl.lookup f
theorem ups : Ups tab := fun f x h => by
  unfold tab
  rw [h]
theorem t_is_within : tab "is_within" = some (3, b_is_within) := ups _ _ (by kernel_rfl)
theorem t_is_word : tab "is_word" = some (2, b_is_word) := ups _ _ (by kernel_rfl)
theorem t_is_book : tab "is_book" = some (2, b_is_book) := ups _ _ (by kernel_rfl)
theorem t_look : tab "look" = some (1, b_look) := ups _ _ (by kernel_rfl)
theorem t_places_of : tab "places_of" = some (5, b_places_of) := ups _ _ (by kernel_rfl)
theorem t_is_thing : tab "is_thing" = some (2, b_is_thing) := ups _ _ (by kernel_rfl)
theorem t_is_fact : tab "is_fact" = some (3, b_is_fact) := ups _ _ (by kernel_rfl)
theorem t_is_formed : tab "is_formed" = some (3, b_is_formed) := ups _ _ (by kernel_rfl)
theorem t_brought : tab "brought" = some (1, b_brought) := ups _ _ (by kernel_rfl)
theorem t_is_formula_of : tab "is_formula_of" = some (3, b_is_formula_of) := ups _ _ (by kernel_rfl)
theorem t_look_formula : tab "look_formula" = some (2, b_look_formula) := ups _ _ (by kernel_rfl)
theorem t_opened : tab "opened" = some (1, b_opened) := ups _ _ (by kernel_rfl)
theorem t_around : tab "around" = some (5, b_around) := ups _ _ (by kernel_rfl)
theorem t_flat_of : tab "flat_of" = some (1, b_flat_of) := ups _ _ (by kernel_rfl)
theorem t_flat : tab "flat" = some (2, b_flat) := ups _ _ (by kernel_rfl)
theorem t__law_cell : tab "_law_cell" = some (2, b__law_cell) := ups _ _ (by kernel_rfl)
theorem t__law_whole : tab "_law_whole" = some (1, b__law_whole) := ups _ _ (by kernel_rfl)
theorem t__law_row : tab "_law_row" = some (5, b__law_row) := ups _ _ (by kernel_rfl)
theorem t__law_book : tab "_law_book" = some (7, b__law_book) := ups _ _ (by kernel_rfl)
theorem t__law_next : tab "_law_next" = some (2, b__law_next) := ups _ _ (by kernel_rfl)
theorem t__law_places : tab "_law_places" = some (6, b__law_places) := ups _ _ (by kernel_rfl)
theorem t__law_formula : tab "_law_formula" = some (17, b__law_formula) := ups _ _ (by kernel_rfl)
theorem t__law_opened : tab "_law_opened" = some (1, b__law_opened) := ups _ _ (by kernel_rfl)
theorem t__law_flat : tab "_law_flat" = some (5, b__law_flat) := ups _ _ (by kernel_rfl)
theorem t_law : tab "law" = some (6, b_law) := by kernel_rfl
end Sc
namespace Sc
open PySem PySem.Spec PyProof.Rows L2
/-! ### the law -/
def knX : X := (.idx (.lst [(.lst []), (.lst [(.dat (.int 50))]), (.lst [(.tup [(.dat (.str "it")), (.dat (.int 1))]), (.tup [(.dat (.str "it")), (.dat (.int 4))])]), (.lst [(.dat (.int 51)), (.tup [(.dat (.str "it")), (.dat (.int 0))])])]) (.bin .mod (.idx (.loc 1) (.dat (.int 10))) (.dat (.int 4))))
theorem law_eq : b_law = [
  .asg (.nm 1) (.call "_law_row" [] [(.loc 0), (.dat (.int 4))]),
  .asg (.nm 2) (.call "_law_book" [] [(.loc 1)]),
  .asg (.nm 3) (.call "_law_row" [] [(.loc 0), (.dat (.int 2))]),
  .asg (.nm 4) knX,
  .asg (.nm 5) (.call "_law_formula" [false, true, false, false, false] [(.loc 3), (.lst [(.dat (.int 0)), (.bin .mod (.idx (.loc 3) (.dat (.int 0))) (.dat (.int 40)))]), (.loc 2), (.dat (.int 4)), (.loc 4)]),
  .ret (.cmp .eq (.call "flat" [] [(.loc 2), (.loc 5)]) (.call "_law_flat" [] [(.loc 5)]))] := rfl
theorem kn_ok {C : Orc} {S : Sto} {b : Bk} {row : List Int} (hr : row.length = 60) {x0 x2 x3 x4 x5 : Option W} : ∃ known : List Tm, (∀ t ∈ known, thOk b t = true) ∧ known.length ≤ 2 ∧ evN C knX [x0, some (.d (rowE row)), x2, x3, x4, x5] S = .ok (.w (.d (.list (known.map Tm.e)))) S := by
  have h10 : ridx S (.d (rowE row)) (.d (.int 10)) = some (.w (.d (.int (cellZ row 10)))) := ridx_row (i := 10) (by omega)
  have hc : cellZ row 10 % 4 = 0 ∨ cellZ row 10 % 4 = 1 ∨ cellZ row 10 % 4 = 2 ∨ cellZ row 10 % 4 = 3 := by omega
  generalize cellZ row 10 = z at h10 hc
  rcases hc with hc | hc | hc | hc
  · refine ⟨[], fun t h => (by cases h), by simp, ?_⟩
    simp only [knX, locR_ok, ev_loc, ev_dat, optB_ok, kBin2_ap, kBin1_ap, ev_bin, kCmp2_ap, kCmp1_ap, ev_cmp, kChn3_t, kChn3_f, kChn2_ap, kChn1_ap, ev_chn, kIsN_ap, ev_isN, kAnd2_t, kAnd2_f, kAnd1_ap, ev_and, kOr2_t, kOr2_f, kOr1_ap, ev_or, kNot_ap, ev_not, kIte2_t, kIte2_f, kIte1_ap, ev_ite, optT_ok, optL_ok, kTup_ap, kLst_ap, ev_tup, ev_lst, kIdx2_ap, kIdx1_ap, ev_idx, kslF3_ap, kslF2_ap, kslF1_ap, ev_slF, kslT3_ap, kslT2_ap, kslT1_ap, ev_slT, kRev2_ap, kRev_ap, ev_rev, kCall_ap, ev_call, kIsi2_ap, kIsi_ap, ev_isi, kBlt_ap, ev_blt, kMut3_ap, kMut2_ap, kMut1_ap, ev_mut, kPrm_ap, ev_prm, kC3_t, kC3_f, kC2_ap, kN_ap, kComp_ap, kLs_ap, kLsc_ap, kK3_t, kK3_f, kK2_ap, ev_comp, ev_lsc, kCons_ap, kEvs2_ap, kEvs1_ap, ev_nil, ev_cons, kSq_ap, ev_sq, kRng_ap, ev_rng1, k_enm2_ap, k_enm_ap, ev_ienm, k_rev2_ap, k_rev_ap, ev_irev, kTest_ap, ev_t0, ev_t1, ev_T, kRet_ap, ev_ret, ev_retN, nextE_ok, kAsg_ap, ev_asg, kNew2_ap, kNew1_ap, ev_new, kExp_ap, ev_exp, kIf_t, kIf_f, ev_if, kTurn_ap, kFor_ap, ev_for, kSix4_ap, kSix3_ap, kSix2_ap, kSix1_ap, ev_six, ev_pass, kSeq_n, kSeq_r, ev_s0, ev_s1, kLeave_n, kLeave_d, kLeave_l, kLeave_k, kLeave_o, run_def, rpm, startE, give, truthW, viewD, viewL, fz, isTy, kb, ki, dTruth, rcmp, rcmpD, cmpI, ridx_t0, ridx_t1, ridx_t2, ridx_t3, ridx_l0, ridx_l1, ridx_l2, ridx_l3, eqD_str, eqD_int, rb_add, rb_sub, rb_mul, rb_mul2, rb_mod, rb_fdiv, rb_addL, rblt, opt_some, opt_none, Res.bind_ok, Res.bind_stuck, Res.bind_exc, bindT, setAll, datas, asInt, itemsW, listD, rsl, List.map_cons, List.map_nil, List.length_cons, List.length_nil, List.cons_append, List.nil_append, List.replicate, List.getElem?_cons_zero, List.getElem?_cons_succ, List.headD_nil, List.headD_cons, List.tail_nil, List.tail_cons, Option.map_some, Option.map_none, List.set_cons_zero, List.set_cons_succ, ofS_beq, Bool.not_true, Bool.not_false, Bool.or_false, Bool.or_true, Bool.and_true, Bool.and_false, Bool.false_eq_true, if_true, if_false, h10, rb_mod (i := z) (j := 4) (by decide), hc]
  · refine ⟨[.no 50], fun t h => (by simp at h; subst h; rfl), by simp, ?_⟩
    simp only [knX, locR_ok, ev_loc, ev_dat, optB_ok, kBin2_ap, kBin1_ap, ev_bin, kCmp2_ap, kCmp1_ap, ev_cmp, kChn3_t, kChn3_f, kChn2_ap, kChn1_ap, ev_chn, kIsN_ap, ev_isN, kAnd2_t, kAnd2_f, kAnd1_ap, ev_and, kOr2_t, kOr2_f, kOr1_ap, ev_or, kNot_ap, ev_not, kIte2_t, kIte2_f, kIte1_ap, ev_ite, optT_ok, optL_ok, kTup_ap, kLst_ap, ev_tup, ev_lst, kIdx2_ap, kIdx1_ap, ev_idx, kslF3_ap, kslF2_ap, kslF1_ap, ev_slF, kslT3_ap, kslT2_ap, kslT1_ap, ev_slT, kRev2_ap, kRev_ap, ev_rev, kCall_ap, ev_call, kIsi2_ap, kIsi_ap, ev_isi, kBlt_ap, ev_blt, kMut3_ap, kMut2_ap, kMut1_ap, ev_mut, kPrm_ap, ev_prm, kC3_t, kC3_f, kC2_ap, kN_ap, kComp_ap, kLs_ap, kLsc_ap, kK3_t, kK3_f, kK2_ap, ev_comp, ev_lsc, kCons_ap, kEvs2_ap, kEvs1_ap, ev_nil, ev_cons, kSq_ap, ev_sq, kRng_ap, ev_rng1, k_enm2_ap, k_enm_ap, ev_ienm, k_rev2_ap, k_rev_ap, ev_irev, kTest_ap, ev_t0, ev_t1, ev_T, kRet_ap, ev_ret, ev_retN, nextE_ok, kAsg_ap, ev_asg, kNew2_ap, kNew1_ap, ev_new, kExp_ap, ev_exp, kIf_t, kIf_f, ev_if, kTurn_ap, kFor_ap, ev_for, kSix4_ap, kSix3_ap, kSix2_ap, kSix1_ap, ev_six, ev_pass, kSeq_n, kSeq_r, ev_s0, ev_s1, kLeave_n, kLeave_d, kLeave_l, kLeave_k, kLeave_o, run_def, rpm, startE, give, truthW, viewD, viewL, fz, isTy, kb, ki, dTruth, rcmp, rcmpD, cmpI, ridx_t0, ridx_t1, ridx_t2, ridx_t3, ridx_l0, ridx_l1, ridx_l2, ridx_l3, eqD_str, eqD_int, rb_add, rb_sub, rb_mul, rb_mul2, rb_mod, rb_fdiv, rb_addL, rblt, opt_some, opt_none, Res.bind_ok, Res.bind_stuck, Res.bind_exc, bindT, setAll, datas, asInt, itemsW, listD, rsl, List.map_cons, List.map_nil, List.length_cons, List.length_nil, List.cons_append, List.nil_append, List.replicate, List.getElem?_cons_zero, List.getElem?_cons_succ, List.headD_nil, List.headD_cons, List.tail_nil, List.tail_cons, Option.map_some, Option.map_none, List.set_cons_zero, List.set_cons_succ, ofS_beq, Bool.not_true, Bool.not_false, Bool.or_false, Bool.or_true, Bool.and_true, Bool.and_false, Bool.false_eq_true, if_true, if_false, h10, rb_mod (i := z) (j := 4) (by decide), hc, Tm.e]
  · refine ⟨[.it 1, .it 4], fun t h => (by simp at h; rcases h with h | h <;> subst h <;> rfl), by simp, ?_⟩
    simp only [knX, locR_ok, ev_loc, ev_dat, optB_ok, kBin2_ap, kBin1_ap, ev_bin, kCmp2_ap, kCmp1_ap, ev_cmp, kChn3_t, kChn3_f, kChn2_ap, kChn1_ap, ev_chn, kIsN_ap, ev_isN, kAnd2_t, kAnd2_f, kAnd1_ap, ev_and, kOr2_t, kOr2_f, kOr1_ap, ev_or, kNot_ap, ev_not, kIte2_t, kIte2_f, kIte1_ap, ev_ite, optT_ok, optL_ok, kTup_ap, kLst_ap, ev_tup, ev_lst, kIdx2_ap, kIdx1_ap, ev_idx, kslF3_ap, kslF2_ap, kslF1_ap, ev_slF, kslT3_ap, kslT2_ap, kslT1_ap, ev_slT, kRev2_ap, kRev_ap, ev_rev, kCall_ap, ev_call, kIsi2_ap, kIsi_ap, ev_isi, kBlt_ap, ev_blt, kMut3_ap, kMut2_ap, kMut1_ap, ev_mut, kPrm_ap, ev_prm, kC3_t, kC3_f, kC2_ap, kN_ap, kComp_ap, kLs_ap, kLsc_ap, kK3_t, kK3_f, kK2_ap, ev_comp, ev_lsc, kCons_ap, kEvs2_ap, kEvs1_ap, ev_nil, ev_cons, kSq_ap, ev_sq, kRng_ap, ev_rng1, k_enm2_ap, k_enm_ap, ev_ienm, k_rev2_ap, k_rev_ap, ev_irev, kTest_ap, ev_t0, ev_t1, ev_T, kRet_ap, ev_ret, ev_retN, nextE_ok, kAsg_ap, ev_asg, kNew2_ap, kNew1_ap, ev_new, kExp_ap, ev_exp, kIf_t, kIf_f, ev_if, kTurn_ap, kFor_ap, ev_for, kSix4_ap, kSix3_ap, kSix2_ap, kSix1_ap, ev_six, ev_pass, kSeq_n, kSeq_r, ev_s0, ev_s1, kLeave_n, kLeave_d, kLeave_l, kLeave_k, kLeave_o, run_def, rpm, startE, give, truthW, viewD, viewL, fz, isTy, kb, ki, dTruth, rcmp, rcmpD, cmpI, ridx_t0, ridx_t1, ridx_t2, ridx_t3, ridx_l0, ridx_l1, ridx_l2, ridx_l3, eqD_str, eqD_int, rb_add, rb_sub, rb_mul, rb_mul2, rb_mod, rb_fdiv, rb_addL, rblt, opt_some, opt_none, Res.bind_ok, Res.bind_stuck, Res.bind_exc, bindT, setAll, datas, asInt, itemsW, listD, rsl, List.map_cons, List.map_nil, List.length_cons, List.length_nil, List.cons_append, List.nil_append, List.replicate, List.getElem?_cons_zero, List.getElem?_cons_succ, List.headD_nil, List.headD_cons, List.tail_nil, List.tail_cons, Option.map_some, Option.map_none, List.set_cons_zero, List.set_cons_succ, ofS_beq, Bool.not_true, Bool.not_false, Bool.or_false, Bool.or_true, Bool.and_true, Bool.and_false, Bool.false_eq_true, if_true, if_false, h10, rb_mod (i := z) (j := 4) (by decide), hc, Tm.e]
  · refine ⟨[.no 51, .it 0], fun t h => (by simp at h; rcases h with h | h <;> subst h <;> rfl), by simp, ?_⟩
    simp only [knX, locR_ok, ev_loc, ev_dat, optB_ok, kBin2_ap, kBin1_ap, ev_bin, kCmp2_ap, kCmp1_ap, ev_cmp, kChn3_t, kChn3_f, kChn2_ap, kChn1_ap, ev_chn, kIsN_ap, ev_isN, kAnd2_t, kAnd2_f, kAnd1_ap, ev_and, kOr2_t, kOr2_f, kOr1_ap, ev_or, kNot_ap, ev_not, kIte2_t, kIte2_f, kIte1_ap, ev_ite, optT_ok, optL_ok, kTup_ap, kLst_ap, ev_tup, ev_lst, kIdx2_ap, kIdx1_ap, ev_idx, kslF3_ap, kslF2_ap, kslF1_ap, ev_slF, kslT3_ap, kslT2_ap, kslT1_ap, ev_slT, kRev2_ap, kRev_ap, ev_rev, kCall_ap, ev_call, kIsi2_ap, kIsi_ap, ev_isi, kBlt_ap, ev_blt, kMut3_ap, kMut2_ap, kMut1_ap, ev_mut, kPrm_ap, ev_prm, kC3_t, kC3_f, kC2_ap, kN_ap, kComp_ap, kLs_ap, kLsc_ap, kK3_t, kK3_f, kK2_ap, ev_comp, ev_lsc, kCons_ap, kEvs2_ap, kEvs1_ap, ev_nil, ev_cons, kSq_ap, ev_sq, kRng_ap, ev_rng1, k_enm2_ap, k_enm_ap, ev_ienm, k_rev2_ap, k_rev_ap, ev_irev, kTest_ap, ev_t0, ev_t1, ev_T, kRet_ap, ev_ret, ev_retN, nextE_ok, kAsg_ap, ev_asg, kNew2_ap, kNew1_ap, ev_new, kExp_ap, ev_exp, kIf_t, kIf_f, ev_if, kTurn_ap, kFor_ap, ev_for, kSix4_ap, kSix3_ap, kSix2_ap, kSix1_ap, ev_six, ev_pass, kSeq_n, kSeq_r, ev_s0, ev_s1, kLeave_n, kLeave_d, kLeave_l, kLeave_k, kLeave_o, run_def, rpm, startE, give, truthW, viewD, viewL, fz, isTy, kb, ki, dTruth, rcmp, rcmpD, cmpI, ridx_t0, ridx_t1, ridx_t2, ridx_t3, ridx_l0, ridx_l1, ridx_l2, ridx_l3, eqD_str, eqD_int, rb_add, rb_sub, rb_mul, rb_mul2, rb_mod, rb_fdiv, rb_addL, rblt, opt_some, opt_none, Res.bind_ok, Res.bind_stuck, Res.bind_exc, bindT, setAll, datas, asInt, itemsW, listD, rsl, List.map_cons, List.map_nil, List.length_cons, List.length_nil, List.cons_append, List.nil_append, List.replicate, List.getElem?_cons_zero, List.getElem?_cons_succ, List.headD_nil, List.headD_cons, List.tail_nil, List.tail_cons, Option.map_some, Option.map_none, List.set_cons_zero, List.set_cons_succ, ofS_beq, Bool.not_true, Bool.not_false, Bool.or_false, Bool.or_true, Bool.and_true, Bool.and_false, Bool.false_eq_true, if_true, if_false, h10, rb_mod (i := z) (j := 4) (by decide), hc, Tm.e]
theorem noDics_tms : ∀ ts : List Tm, noDics (ts.map Tm.e) = true
  | [] => rfl
  | t :: ts => by
    have := noDics_tms ts
    simp only [List.map_cons, noDics, this, Bool.and_true]
    cases t <;> simp [Tm.e, noDic, noDics]
theorem noDic_fm : ∀ f : Fm, noDic f.e = true
  | .fact w ts => by simp [Fm.e, noDic, noDics, noDics_tms]
  | .not f => by simp [Fm.e, noDic, noDics, noDic_fm f]
  | .two o f g => by simp [Fm.e, noDic, noDics, noDic_fm f, noDic_fm g]
  | .any a n f => by simp [Fm.e, noDic, noDics, noDic_fm f]
theorem h_size : ∀ f : Fm, f.h ≤ f.size
  | .fact _ _ => by simp [Fm.h, Fm.size]
  | .not f => by have := h_size f; simp [Fm.h, Fm.size]; omega
  | .two _ f g => by have := h_size f; have := h_size g; simp [Fm.h, Fm.size]; omega
  | .any _ _ f => by have := h_size f; simp [Fm.h, Fm.size]; omega
def ptSize : Pt → Nat
  | .inl _ => 1
  | .inr f => f.size + 1
def ptsSize (ps : List Pt) : Nat := (ps.map ptSize).sum
theorem foldA_size : ∀ (ps : List Pt) (a : Fm), (ps.foldr stA a).size = ptsSize ps + a.size
  | [], a => by simp [ptsSize]
  | .inl n :: ps, a => by have := foldA_size ps a; simp [ptsSize, stA, Fm.size, ptSize] at this ⊢; omega
  | .inr f :: ps, a => by have := foldA_size ps a; simp [ptsSize, stA, Fm.size, ptSize] at this ⊢; omega
theorem foldS_size : ∀ (ps : List Pt) (a : Fm), (ps.foldr stS a).size = ptsSize ps + a.size
  | [], a => by simp [ptsSize]
  | .inl n :: ps, a => by have := foldS_size ps a; simp [ptsSize, stS, Fm.size, ptSize] at this ⊢; omega
  | .inr f :: ps, a => by have := foldS_size ps a; simp [ptsSize, stS, Fm.size, ptSize] at this ⊢; omega
theorem pts_nil : ptsSize [] = 0 := rfl
theorem pts_append (a b : List Pt) : ptsSize (a ++ b) = ptsSize a + ptsSize b := by simp [ptsSize]
theorem pts_cons (p : Pt) (b : List Pt) : ptsSize (p :: b) = ptSize p + ptsSize b := by simp [ptsSize]
theorem fo_size1 : ∀ f : Fm, (fo f).1.size ≤ f.size ∧ ptsSize (fo f).2.1 + (fo f).2.2.size ≤ f.size
  | .fact _ _ => by simp [fo, Fm.size, ptsSize]
  | .not f => by have := fo_size1 f; simp [fo, Fm.size, ptsSize]; omega
  | .two .or f g => by have := fo_size1 f; have := fo_size1 g; simp [fo, Fm.size, ptsSize]; omega
  | .two .if_ f g => by
    have := fo_size1 f; have := fo_size1 g
    simp only [fo, Fm.size, foldA_size, pts_append, pts_cons, ptSize, pts_nil] at *
    omega
  | .two .and f g => by
    have := fo_size1 f; have := fo_size1 g
    simp only [fo, Fm.size, foldS_size, pts_append, pts_cons, ptSize] at *
    omega
  | .any true n f => by have := fo_size1 f; simp [fo, Fm.size, ptsSize]; omega
  | .any false n f => by
    have := fo_size1 f
    simp only [fo, Fm.size, foldS_size, pts_append, pts_cons, ptSize] at *
    omega
theorem flat_eq {f : Fm} (hz : f.size ≤ 32) : eqD (fo f).1.e (fo f).1.e = some true := by
  unfold eqD
  have h1 := depth_fm (fo f).1
  have h2 := h_size (fo f).1
  have h3 := (fo_size1 f).1
  rw [if_pos (by rw [Nat.min_self]; omega), eqv_refl (noDic_fm _)]
theorem law_true (ns : List Int) (h : ns.length ≤ 63) : ∃ S, runDef (Cn tab 40) 6 b_law [.s ns] [] = .ok (kb true) S := by
  obtain ⟨row, r1, r2, r3⟩ := law_row_ok (S := []) ups (k := 38) (ns := ns) (at_ := 4) scoped_nil
  obtain ⟨b, hb, b1⟩ := law_book_ok (S := [.dead]) ups (k := 39) (row := row) r1
  obtain ⟨here, e1, e2, e3⟩ := law_row_ok (S := [.dead]) ups (k := 38) (ns := ns) (at_ := 2) (scoped_nil.add fun _ => rfl)
  obtain ⟨known, k1, k2, k3⟩ := kn_ok (C := Cn tab 40) (S := [.dead, .dead]) (b := b) (row := row) r1 (x0 := some (.s ns)) (x2 := some (.d (bkE b))) (x3 := some (.d (rowE here))) (x4 := none) (x5 := none)
  obtain ⟨c, hc1, hc2⟩ : ∃ c : Nat, c < 40 ∧ cellZ here 0 % 40 = c := ⟨(cellZ here 0 % 40).toNat, by omega, by omega⟩
  obtain ⟨f, a', n, G', f1, f2, f3, f4, f5, f6, f7⟩ := law_formula_ok ups hb e1 4 40 [.dead, .dead] [] 0 c known (by omega) k1 (by omega) (by omega)
  have h0 : ∀ S, ridx S (.d (rowE here)) (.d (.int 0)) = some (.w (.d (.int (cellZ here 0)))) := fun S => ridx_row (i := 0) (by omega)
  have hz : f.size ≤ 32 := by omega
  have hfl := fun S => flat_law (S := S) ups (k := 40) hb.ok hb.kinds (by have := hb.len; omega) f1 f2 (by omega) (by omega) (by rw [f6]; exact iv_nodup _ _) (by omega)
  obtain ⟨S1, hS1⟩ : ∃ S1, S1 = [MO.dead, MO.dead] ++ stE a' (c + n : Nat) :: ([] ++ G') := ⟨_, rfl⟩
  rw [← hS1] at f7
  obtain ⟨G2, hlf⟩ := (law_flat_ok ups f (by omega)).1 40 S1 (by omega)
  refine ⟨S1 ++ G2, ?_⟩
  have r3 : Cn tab 40 "_law_row" [.s ns, .d (.int 4)] [] = .ok (.n (row.map .int)) [.dead] := r3
  have e3 : Cn tab 40 "_law_row" [.s ns, .d (.int 2)] [.dead] = .ok (.n (here.map .int)) [.dead, .dead] := e3
  have f7 : Cn tab 40 "_law_formula" [.d (rowE here), .o 2, .d (bkE b), .d (.int 4), .d (.list (known.map Tm.e))] [.dead, .dead, .lst [.int 0, .int c]] = .ok (.w (.d f.e)) S1 := f7
  have hrow : (PyData.list (row.map .int)) = rowE row := rfl
  have hhere : (PyData.list (here.map .int)) = rowE here := rfl
  have est : startE 6 [.s ns] = [some (.s ns), none, none, none, none, none] := rfl
  rw [run_def, law_eq, est, ev_s1, ev_asg, ev_call]
  simp only [ev_cons, ev_nil, ev_loc, ev_dat, List.getElem?_cons_zero, List.getElem?_cons_succ, locR_ok, Res.bind_ok, kEvs1_ap, List.headD_nil, List.tail_nil, give_w, kEvs2_ap, kCons_ap, kCall_ap, r3, kAsg_ap, fz, bindT, nextE_ok, List.set_cons_zero, List.set_cons_succ, kSeq_n, hrow]
  rw [ev_s1, ev_asg, ev_call]
  simp only [ev_cons, ev_nil, ev_loc, ev_dat, List.getElem?_cons_zero, List.getElem?_cons_succ, locR_ok, Res.bind_ok, kEvs1_ap, List.headD_nil, List.tail_nil, give_w, kEvs2_ap, kCons_ap, kCall_ap, b1, kAsg_ap, fz, bindT, nextE_ok, List.set_cons_zero, List.set_cons_succ, kSeq_n]
  rw [ev_s1, ev_asg, ev_call]
  simp only [ev_cons, ev_nil, ev_loc, ev_dat, List.getElem?_cons_zero, List.getElem?_cons_succ, locR_ok, Res.bind_ok, kEvs1_ap, List.headD_nil, List.tail_nil, give_w, kEvs2_ap, kCons_ap, kCall_ap, e3, kAsg_ap, fz, bindT, nextE_ok, List.set_cons_zero, List.set_cons_succ, kSeq_n, hhere]
  rw [ev_s1, ev_asg, k3]
  simp only [Res.bind_ok, kAsg_ap, fz, bindT, nextE_ok, List.set_cons_zero, List.set_cons_succ, kSeq_n]
  rw [ev_s1, ev_asg, ev_call]
  have gl : ∀ (xs : List D) (S : Sto), give true (.n xs) S = .ok (.o S.length) (S ++ [.lst xs]) := fun xs S => rfl
  simp only [ev_cons, ev_nil, ev_loc, ev_dat, ev_lst, ev_bin, ev_idx, List.getElem?_cons_zero, List.getElem?_cons_succ, locR_ok, Res.bind_ok, kEvs1_ap, List.headD_cons, List.headD_nil, List.tail_cons, List.tail_nil, give_w, kEvs2_ap, kCons_ap, kIdx1_ap, kIdx2_ap, fz, h0, opt_some, kBin1_ap, kBin2_ap, rb_mod (i := cellZ here 0) (j := 40) (by decide), ki, hc2, kLst_ap, datas, Option.map_some, optL_ok, gl, List.length_cons, List.length_nil, List.cons_append, List.nil_append, kCall_ap, f7, kAsg_ap, bindT, nextE_ok, List.set_cons_zero, List.set_cons_succ, kSeq_n, Nat.zero_add]
  have f7' : Cn tab 40 "_law_formula" [.d (rowE here), .o (1 + 1), .d (bkE b), .d (.int 4), .d (.list (known.map Tm.e))] [.dead, .dead, .lst [.int 0, .int c]] = .ok (.w (.d f.e)) S1 := f7
  try simp only [f7', Res.bind_ok, kAsg_ap, fz, bindT, nextE_ok, List.set_cons_zero, List.set_cons_succ, kSeq_n]
  rw [ev_s1, ev_ret, ev_cmp, ev_call]
  simp only [ev_cons, ev_nil, ev_loc, List.getElem?_cons_zero, List.getElem?_cons_succ, locR_ok, Res.bind_ok, kEvs1_ap, List.headD_nil, List.tail_nil, give_w, kEvs2_ap, kCons_ap, kCall_ap, hfl, kCmp1_ap, ev_call, hlf, kCmp2_ap, fz, rcmp, viewD, rcmpD, flat_eq hz, optB_ok, kRet_ap, kSeq_r, kb, kLeave_d]
end Sc
namespace Sc
open PySem PySem.Spec PyProof.Rows L2
def top (i : Nat) : Stmt := PySem.Challenge.pw_scopeshelf_k14_plain_forms.main.body.getD i (.Pass ⟨0, 0, 0, 0⟩)
def names0 : List Str := ["TalkError", "BadBook", "BadFormula", "KINDS", "PLACES", "OWN", "SMALL", "MOST_WORDS", "MOST_LETTERS", "is_within", "is_word", "is_book", "look", "places_of", "OF_TWO", "OF_ANY", "MOST_THING", "MOST_DEEP", "is_thing", "is_fact", "is_formed", "brought", "is_formula_of", "look_formula", "opened", "around", "flat_of", "flat", "_law_cell", "_law_whole"]
def names1 : List Str := ["_law_row", "_law_book", "_law_next", "_law_places", "_law_formula", "_law_opened", "_law_flat"]
def names : List Str := names0 ++ names1
def dd_is_within : He.DefD := ⟨("is_within", none), "is_within", "is_within", defArgs (top 11), defBody (top 11), defScope (top 11), [], []⟩
def dd_is_word : He.DefD := ⟨("is_word", none), "is_word", "is_word", defArgs (top 12), defBody (top 12), defScope (top 12), [], []⟩
def dd_is_book : He.DefD := ⟨("is_book", none), "is_book", "is_book", defArgs (top 13), defBody (top 13), defScope (top 13), [], []⟩
def dd_look : He.DefD := ⟨("look", none), "look", "look", defArgs (top 14), defBody (top 14), defScope (top 14), [], []⟩
def dd_places_of : He.DefD := ⟨("places_of", none), "places_of", "places_of", defArgs (top 15), defBody (top 15), defScope (top 15), [], []⟩
def dd_is_thing : He.DefD := ⟨("is_thing", none), "is_thing", "is_thing", defArgs (top 21), defBody (top 21), defScope (top 21), [], []⟩
def dd_is_fact : He.DefD := ⟨("is_fact", none), "is_fact", "is_fact", defArgs (top 22), defBody (top 22), defScope (top 22), [], []⟩
def dd_is_formed : He.DefD := ⟨("is_formed", none), "is_formed", "is_formed", defArgs (top 23), defBody (top 23), defScope (top 23), [], []⟩
def dd_brought : He.DefD := ⟨("brought", none), "brought", "brought", defArgs (top 24), defBody (top 24), defScope (top 24), [], []⟩
def dd_is_formula_of : He.DefD := ⟨("is_formula_of", none), "is_formula_of", "is_formula_of", defArgs (top 25), defBody (top 25), defScope (top 25), [], []⟩
def dd_look_formula : He.DefD := ⟨("look_formula", none), "look_formula", "look_formula", defArgs (top 26), defBody (top 26), defScope (top 26), [], []⟩
def dd_opened : He.DefD := ⟨("opened", none), "opened", "opened", defArgs (top 28), defBody (top 28), defScope (top 28), [], []⟩
def dd_around : He.DefD := ⟨("around", none), "around", "around", defArgs (top 29), defBody (top 29), defScope (top 29), [], []⟩
def dd_flat_of : He.DefD := ⟨("flat_of", none), "flat_of", "flat_of", defArgs (top 30), defBody (top 30), defScope (top 30), [], []⟩
def dd_flat : He.DefD := ⟨("flat", none), "flat", "flat", defArgs (top 31), defBody (top 31), defScope (top 31), [], []⟩
def dd__law_cell : He.DefD := ⟨("_law_cell", none), "_law_cell", "_law_cell", defArgs (top 33), defBody (top 33), defScope (top 33), [], []⟩
def dd__law_whole : He.DefD := ⟨("_law_whole", none), "_law_whole", "_law_whole", defArgs (top 34), defBody (top 34), defScope (top 34), [], []⟩
def dd__law_row : He.DefD := ⟨("_law_row", none), "_law_row", "_law_row", defArgs (top 35), defBody (top 35), defScope (top 35), [], []⟩
def dd__law_book : He.DefD := ⟨("_law_book", none), "_law_book", "_law_book", defArgs (top 36), defBody (top 36), defScope (top 36), [], []⟩
def dd__law_next : He.DefD := ⟨("_law_next", none), "_law_next", "_law_next", defArgs (top 37), defBody (top 37), defScope (top 37), [], []⟩
def dd__law_places : He.DefD := ⟨("_law_places", none), "_law_places", "_law_places", defArgs (top 38), defBody (top 38), defScope (top 38), [], []⟩
def dd__law_formula : He.DefD := ⟨("_law_formula", none), "_law_formula", "_law_formula", defArgs (top 39), defBody (top 39), defScope (top 39), [], []⟩
def dd__law_opened : He.DefD := ⟨("_law_opened", none), "_law_opened", "_law_opened", defArgs (top 40), defBody (top 40), defScope (top 40), [], []⟩
def dd__law_flat : He.DefD := ⟨("_law_flat", none), "_law_flat", "_law_flat", defArgs (top 41), defBody (top 41), defScope (top 41), [], []⟩
def dd_law : He.DefD := ⟨("law", none), "law", "law", defArgs (top 42), defBody (top 42), defScope (top 42), [], []⟩
def fn0 : List He.DefD := [dd_is_within, dd_is_word, dd_is_book, dd_look, dd_places_of, dd_is_thing, dd_is_fact, dd_is_formed, dd_brought, dd_is_formula_of, dd_look_formula, dd_opened, dd_around, dd_flat_of, dd_flat, dd__law_cell, dd__law_whole, dd__law_row, dd__law_book, dd__law_next]
def fn1 : List He.DefD := [dd__law_places, dd__law_formula, dd__law_opened, dd__law_flat, dd_law]
def fn : List He.DefD := fn0 ++ fn1
def fa : List He.Fa := [.glo "law"]
def ts : List He.Tab := [(fun K => He.ga K "PLACES", ["noun", "of", "does", "to", "such"])]
def exk (K : PySem.W.Frag) : Bool := tl.all (gkB K)
abbrev Rw : PySem.W.OpenRow := PySem.W.OpenLaw.row PySem.Challenge.rw_scopeshelf_k14_plain_forms
abbrev hk : PySem.W.Hook := He.hookX 4 fa fn ts [] exk
def ob (s : PySem.W.SharedT) : He.AlX := He.obsX 4 fa fn ts [] exk (HandSHeadRun.getT s)
theorem ob_eq (s : PySem.W.SharedT) : ob s = hk.obs s.abs := He.obsX_eq (HandSHeadRun.getT_eq s)
theorem run (w : World) : HandSHeadRun.RunEq Rw (PySem.W.view Rw.prog [42]) hk ob 20000 names w :=
  PySem.W.byRow2 "special-get-raises" (P := fun w => HandSHeadRun.RunEq Rw (PySem.W.view Rw.prog [42]) hk ob 20000 names w) (fun w => by intro os; kernel_rfl) (fun w => by intro os; kernel_rfl) w
theorem sc_is_within : FnScope N_is_within ["thing", "low", "high"] (defScope (top 11)) := ⟨rfl, rfl, rfl, by decide +kernel, rfl, by decide +kernel, by decide +kernel⟩
theorem ck_is_within : chkSs 100 ⟨TL tl, N_is_within, defScope (top 11), none⟩ (defBody (top 11)) b_is_within = true := by decide +kernel
theorem sc_is_word : FnScope N_is_word ["thing"] (defScope (top 12)) := ⟨rfl, rfl, rfl, by decide +kernel, rfl, by decide +kernel, by decide +kernel⟩
theorem ck_is_word : chkSs 100 ⟨TL tl, N_is_word, defScope (top 12), none⟩ (defBody (top 12)) b_is_word = true := by decide +kernel
theorem sc_is_book : FnScope N_is_book ["thing"] (defScope (top 13)) := ⟨rfl, rfl, rfl, by decide +kernel, rfl, by decide +kernel, by decide +kernel⟩
theorem ck_is_book : chkSs 100 ⟨TL tl, N_is_book, defScope (top 13), none⟩ (defBody (top 13)) b_is_book = true := by decide +kernel
theorem sc_look : FnScope N_look ["book"] (defScope (top 14)) := ⟨rfl, rfl, rfl, by decide +kernel, rfl, by decide +kernel, by decide +kernel⟩
theorem ck_look : chkSs 100 ⟨TL tl, N_look, defScope (top 14), none⟩ (defBody (top 14)) b_look = true := by decide +kernel
theorem sc_places_of : FnScope N_places_of ["book", "word"] (defScope (top 15)) := ⟨rfl, rfl, rfl, by decide +kernel, rfl, by decide +kernel, by decide +kernel⟩
theorem ck_places_of : chkSs 100 ⟨TL tl, N_places_of, defScope (top 15), none⟩ (defBody (top 15)) b_places_of = true := by decide +kernel
theorem sc_is_thing : FnScope N_is_thing ["book", "thing"] (defScope (top 21)) := ⟨rfl, rfl, rfl, by decide +kernel, rfl, by decide +kernel, by decide +kernel⟩
theorem ck_is_thing : chkSs 100 ⟨TL tl, N_is_thing, defScope (top 21), none⟩ (defBody (top 21)) b_is_thing = true := by decide +kernel
theorem sc_is_fact : FnScope N_is_fact ["book", "thing"] (defScope (top 22)) := ⟨rfl, rfl, rfl, by decide +kernel, rfl, by decide +kernel, by decide +kernel⟩
theorem ck_is_fact : chkSs 100 ⟨TL tl, N_is_fact, defScope (top 22), none⟩ (defBody (top 22)) b_is_fact = true := by decide +kernel
theorem sc_is_formed : FnScope N_is_formed ["book", "thing", "deep"] (defScope (top 23)) := ⟨rfl, rfl, rfl, by decide +kernel, rfl, by decide +kernel, by decide +kernel⟩
theorem ck_is_formed : chkSs 100 ⟨TL tl, N_is_formed, defScope (top 23), none⟩ (defBody (top 23)) b_is_formed = true := by decide +kernel
theorem sc_brought : FnScope N_brought ["formula"] (defScope (top 24)) := ⟨rfl, rfl, rfl, by decide +kernel, rfl, by decide +kernel, by decide +kernel⟩
theorem ck_brought : chkSs 100 ⟨TL tl, N_brought, defScope (top 24), none⟩ (defBody (top 24)) b_brought = true := by decide +kernel
theorem sc_is_formula_of : FnScope N_is_formula_of ["book", "thing"] (defScope (top 25)) := ⟨rfl, rfl, rfl, by decide +kernel, rfl, by decide +kernel, by decide +kernel⟩
theorem ck_is_formula_of : chkSs 100 ⟨TL tl, N_is_formula_of, defScope (top 25), none⟩ (defBody (top 25)) b_is_formula_of = true := by decide +kernel
theorem sc_look_formula : FnScope N_look_formula ["book", "formula"] (defScope (top 26)) := ⟨rfl, rfl, rfl, by decide +kernel, rfl, by decide +kernel, by decide +kernel⟩
theorem ck_look_formula : chkSs 100 ⟨TL tl, N_look_formula, defScope (top 26), none⟩ (defBody (top 26)) b_look_formula = true := by decide +kernel
theorem sc_opened : FnScope N_opened ["formula"] (defScope (top 28)) := ⟨rfl, rfl, rfl, by decide +kernel, rfl, by decide +kernel, by decide +kernel⟩
theorem ck_opened : chkSs 100 ⟨TL tl, N_opened, defScope (top 28), none⟩ (defBody (top 28)) b_opened = true := by decide +kernel
theorem sc_around : FnScope N_around ["row", "word", "join", "found"] (defScope (top 29)) := ⟨rfl, rfl, rfl, by decide +kernel, rfl, by decide +kernel, by decide +kernel⟩
theorem ck_around : chkSs 100 ⟨TL tl, N_around, defScope (top 29), none⟩ (defBody (top 29)) b_around = true := by decide +kernel
theorem sc_flat_of : FnScope N_flat_of ["formula"] (defScope (top 30)) := ⟨rfl, rfl, rfl, by decide +kernel, rfl, by decide +kernel, by decide +kernel⟩
theorem ck_flat_of : chkSs 100 ⟨TL tl, N_flat_of, defScope (top 30), none⟩ (defBody (top 30)) b_flat_of = true := by decide +kernel
theorem sc_flat : FnScope N_flat ["book", "formula"] (defScope (top 31)) := ⟨rfl, rfl, rfl, by decide +kernel, rfl, by decide +kernel, by decide +kernel⟩
theorem ck_flat : chkSs 100 ⟨TL tl, N_flat, defScope (top 31), none⟩ (defBody (top 31)) b_flat = true := by decide +kernel
theorem sc__law_cell : FnScope N__law_cell ["script", "k"] (defScope (top 33)) := ⟨rfl, rfl, rfl, by decide +kernel, rfl, by decide +kernel, by decide +kernel⟩
theorem ck__law_cell : chkSs 100 ⟨TL tl, N__law_cell, defScope (top 33), none⟩ (defBody (top 33)) b__law_cell = true := by decide +kernel
theorem sc__law_whole : FnScope N__law_whole ["found"] (defScope (top 34)) := ⟨rfl, rfl, rfl, by decide +kernel, rfl, by decide +kernel, by decide +kernel⟩
theorem ck__law_whole : chkSs 100 ⟨TL tl, N__law_whole, defScope (top 34), none⟩ (defBody (top 34)) b__law_whole = true := by decide +kernel
theorem sc__law_row : FnScope N__law_row ["script", "at"] (defScope (top 35)) := ⟨rfl, rfl, rfl, by decide +kernel, rfl, by decide +kernel, by decide +kernel⟩
theorem ck__law_row : chkSs 100 ⟨TL tl, N__law_row, defScope (top 35), none⟩ (defBody (top 35)) b__law_row = true := by decide +kernel
theorem sc__law_book : FnScope N__law_book ["row"] (defScope (top 36)) := ⟨rfl, rfl, rfl, by decide +kernel, rfl, by decide +kernel, by decide +kernel⟩
theorem ck__law_book : chkSs 100 ⟨TL tl, N__law_book, defScope (top 36), none⟩ (defBody (top 36)) b__law_book = true := by decide +kernel
theorem sc__law_next : FnScope N__law_next ["row", "state"] (defScope (top 37)) := ⟨rfl, rfl, rfl, by decide +kernel, rfl, by decide +kernel, by decide +kernel⟩
theorem ck__law_next : chkSs 100 ⟨TL tl, N__law_next, defScope (top 37), none⟩ (defBody (top 37)) b__law_next = true := by decide +kernel
theorem sc__law_places : FnScope N__law_places ["book", "word"] (defScope (top 38)) := ⟨rfl, rfl, rfl, by decide +kernel, rfl, by decide +kernel, by decide +kernel⟩
theorem ck__law_places : chkSs 100 ⟨TL tl, N__law_places, defScope (top 38), none⟩ (defBody (top 38)) b__law_places = true := by decide +kernel
theorem sc__law_formula : FnScope N__law_formula ["row", "state", "book", "deep", "known"] (defScope (top 39)) := ⟨rfl, rfl, rfl, by decide +kernel, rfl, by decide +kernel, by decide +kernel⟩
theorem ck__law_formula : chkSs 100 ⟨TL tl, N__law_formula, defScope (top 39), none⟩ (defBody (top 39)) b__law_formula = true := by decide +kernel
theorem sc__law_opened : FnScope N__law_opened ["formula"] (defScope (top 40)) := ⟨rfl, rfl, rfl, by decide +kernel, rfl, by decide +kernel, by decide +kernel⟩
theorem ck__law_opened : chkSs 100 ⟨TL tl, N__law_opened, defScope (top 40), none⟩ (defBody (top 40)) b__law_opened = true := by decide +kernel
theorem sc__law_flat : FnScope N__law_flat ["formula"] (defScope (top 41)) := ⟨rfl, rfl, rfl, by decide +kernel, rfl, by decide +kernel, by decide +kernel⟩
theorem ck__law_flat : chkSs 100 ⟨TL tl, N__law_flat, defScope (top 41), none⟩ (defBody (top 41)) b__law_flat = true := by decide +kernel
theorem sc_law : FnScope N_law ["script"] (defScope (top 42)) := ⟨rfl, rfl, rfl, by decide +kernel, rfl, by decide +kernel, by decide +kernel⟩
theorem ck_law : chkSs 100 ⟨TL tl, N_law, defScope (top 42), none⟩ (defBody (top 42)) b_law = true := by decide +kernel
section
variable {P : Program} {w : World} {K : PySem.W.Frag} {h : Heap} {mg : Str → Option Value}
theorem d_is_within (X : K.In h) (G : h.Ns mainGlobals mg) (c : He.SaysD fa fn K) (e : tl.all (gkB K) = true) : DOk K mg (TL tl) tab "is_within" 3 := by
  obtain ⟨fd, F⟩ := c.def_ 0 (d := dd_is_within) rfl
  exact ⟨_, _, _, _, fd, ["thing", "low", "high"], N_is_within, b_is_within, 100, F, sc_is_within, rfl, t_is_within, ck_is_within, glob_fn X G e (n := 3) rfl, F.bindsN fun _ _ _ _ _ _ us hl => match us, hl with | [_, _, _], _ => rfl⟩
theorem d_is_word (X : K.In h) (G : h.Ns mainGlobals mg) (c : He.SaysD fa fn K) (e : tl.all (gkB K) = true) : DOk K mg (TL tl) tab "is_word" 1 := by
  obtain ⟨fd, F⟩ := c.def_ 1 (d := dd_is_word) rfl
  exact ⟨_, _, _, _, fd, ["thing"], N_is_word, b_is_word, 100, F, sc_is_word, rfl, t_is_word, ck_is_word, glob_fn X G e (n := 1) rfl, F.bindsN fun _ _ _ _ _ _ us hl => match us, hl with | [_], _ => rfl⟩
theorem d_is_book (X : K.In h) (G : h.Ns mainGlobals mg) (c : He.SaysD fa fn K) (e : tl.all (gkB K) = true) : DOk K mg (TL tl) tab "is_book" 1 := by
  obtain ⟨fd, F⟩ := c.def_ 2 (d := dd_is_book) rfl
  exact ⟨_, _, _, _, fd, ["thing"], N_is_book, b_is_book, 100, F, sc_is_book, rfl, t_is_book, ck_is_book, glob_fn X G e (n := 1) rfl, F.bindsN fun _ _ _ _ _ _ us hl => match us, hl with | [_], _ => rfl⟩
theorem d_look (X : K.In h) (G : h.Ns mainGlobals mg) (c : He.SaysD fa fn K) (e : tl.all (gkB K) = true) : DOk K mg (TL tl) tab "look" 1 := by
  obtain ⟨fd, F⟩ := c.def_ 3 (d := dd_look) rfl
  exact ⟨_, _, _, _, fd, ["book"], N_look, b_look, 100, F, sc_look, rfl, t_look, ck_look, glob_fn X G e (n := 1) rfl, F.bindsN fun _ _ _ _ _ _ us hl => match us, hl with | [_], _ => rfl⟩
theorem d_places_of (X : K.In h) (G : h.Ns mainGlobals mg) (c : He.SaysD fa fn K) (e : tl.all (gkB K) = true) : DOk K mg (TL tl) tab "places_of" 2 := by
  obtain ⟨fd, F⟩ := c.def_ 4 (d := dd_places_of) rfl
  exact ⟨_, _, _, _, fd, ["book", "word"], N_places_of, b_places_of, 100, F, sc_places_of, rfl, t_places_of, ck_places_of, glob_fn X G e (n := 2) rfl, F.bindsN fun _ _ _ _ _ _ us hl => match us, hl with | [_, _], _ => rfl⟩
theorem d_is_thing (X : K.In h) (G : h.Ns mainGlobals mg) (c : He.SaysD fa fn K) (e : tl.all (gkB K) = true) : DOk K mg (TL tl) tab "is_thing" 2 := by
  obtain ⟨fd, F⟩ := c.def_ 5 (d := dd_is_thing) rfl
  exact ⟨_, _, _, _, fd, ["book", "thing"], N_is_thing, b_is_thing, 100, F, sc_is_thing, rfl, t_is_thing, ck_is_thing, glob_fn X G e (n := 2) rfl, F.bindsN fun _ _ _ _ _ _ us hl => match us, hl with | [_, _], _ => rfl⟩
theorem d_is_fact (X : K.In h) (G : h.Ns mainGlobals mg) (c : He.SaysD fa fn K) (e : tl.all (gkB K) = true) : DOk K mg (TL tl) tab "is_fact" 2 := by
  obtain ⟨fd, F⟩ := c.def_ 6 (d := dd_is_fact) rfl
  exact ⟨_, _, _, _, fd, ["book", "thing"], N_is_fact, b_is_fact, 100, F, sc_is_fact, rfl, t_is_fact, ck_is_fact, glob_fn X G e (n := 2) rfl, F.bindsN fun _ _ _ _ _ _ us hl => match us, hl with | [_, _], _ => rfl⟩
theorem d_is_formed (X : K.In h) (G : h.Ns mainGlobals mg) (c : He.SaysD fa fn K) (e : tl.all (gkB K) = true) : DOk K mg (TL tl) tab "is_formed" 3 := by
  obtain ⟨fd, F⟩ := c.def_ 7 (d := dd_is_formed) rfl
  exact ⟨_, _, _, _, fd, ["book", "thing", "deep"], N_is_formed, b_is_formed, 100, F, sc_is_formed, rfl, t_is_formed, ck_is_formed, glob_fn X G e (n := 3) rfl, F.bindsN fun _ _ _ _ _ _ us hl => match us, hl with | [_, _, _], _ => rfl⟩
theorem d_brought (X : K.In h) (G : h.Ns mainGlobals mg) (c : He.SaysD fa fn K) (e : tl.all (gkB K) = true) : DOk K mg (TL tl) tab "brought" 1 := by
  obtain ⟨fd, F⟩ := c.def_ 8 (d := dd_brought) rfl
  exact ⟨_, _, _, _, fd, ["formula"], N_brought, b_brought, 100, F, sc_brought, rfl, t_brought, ck_brought, glob_fn X G e (n := 1) rfl, F.bindsN fun _ _ _ _ _ _ us hl => match us, hl with | [_], _ => rfl⟩
theorem d_is_formula_of (X : K.In h) (G : h.Ns mainGlobals mg) (c : He.SaysD fa fn K) (e : tl.all (gkB K) = true) : DOk K mg (TL tl) tab "is_formula_of" 2 := by
  obtain ⟨fd, F⟩ := c.def_ 9 (d := dd_is_formula_of) rfl
  exact ⟨_, _, _, _, fd, ["book", "thing"], N_is_formula_of, b_is_formula_of, 100, F, sc_is_formula_of, rfl, t_is_formula_of, ck_is_formula_of, glob_fn X G e (n := 2) rfl, F.bindsN fun _ _ _ _ _ _ us hl => match us, hl with | [_, _], _ => rfl⟩
theorem d_look_formula (X : K.In h) (G : h.Ns mainGlobals mg) (c : He.SaysD fa fn K) (e : tl.all (gkB K) = true) : DOk K mg (TL tl) tab "look_formula" 2 := by
  obtain ⟨fd, F⟩ := c.def_ 10 (d := dd_look_formula) rfl
  exact ⟨_, _, _, _, fd, ["book", "formula"], N_look_formula, b_look_formula, 100, F, sc_look_formula, rfl, t_look_formula, ck_look_formula, glob_fn X G e (n := 2) rfl, F.bindsN fun _ _ _ _ _ _ us hl => match us, hl with | [_, _], _ => rfl⟩
theorem d_opened (X : K.In h) (G : h.Ns mainGlobals mg) (c : He.SaysD fa fn K) (e : tl.all (gkB K) = true) : DOk K mg (TL tl) tab "opened" 1 := by
  obtain ⟨fd, F⟩ := c.def_ 11 (d := dd_opened) rfl
  exact ⟨_, _, _, _, fd, ["formula"], N_opened, b_opened, 100, F, sc_opened, rfl, t_opened, ck_opened, glob_fn X G e (n := 1) rfl, F.bindsN fun _ _ _ _ _ _ us hl => match us, hl with | [_], _ => rfl⟩
theorem d_around (X : K.In h) (G : h.Ns mainGlobals mg) (c : He.SaysD fa fn K) (e : tl.all (gkB K) = true) : DOk K mg (TL tl) tab "around" 4 := by
  obtain ⟨fd, F⟩ := c.def_ 12 (d := dd_around) rfl
  exact ⟨_, _, _, _, fd, ["row", "word", "join", "found"], N_around, b_around, 100, F, sc_around, rfl, t_around, ck_around, glob_fn X G e (n := 4) rfl, F.bindsN fun _ _ _ _ _ _ us hl => match us, hl with | [_, _, _, _], _ => rfl⟩
theorem d_flat_of (X : K.In h) (G : h.Ns mainGlobals mg) (c : He.SaysD fa fn K) (e : tl.all (gkB K) = true) : DOk K mg (TL tl) tab "flat_of" 1 := by
  obtain ⟨fd, F⟩ := c.def_ 13 (d := dd_flat_of) rfl
  exact ⟨_, _, _, _, fd, ["formula"], N_flat_of, b_flat_of, 100, F, sc_flat_of, rfl, t_flat_of, ck_flat_of, glob_fn X G e (n := 1) rfl, F.bindsN fun _ _ _ _ _ _ us hl => match us, hl with | [_], _ => rfl⟩
theorem d_flat (X : K.In h) (G : h.Ns mainGlobals mg) (c : He.SaysD fa fn K) (e : tl.all (gkB K) = true) : DOk K mg (TL tl) tab "flat" 2 := by
  obtain ⟨fd, F⟩ := c.def_ 14 (d := dd_flat) rfl
  exact ⟨_, _, _, _, fd, ["book", "formula"], N_flat, b_flat, 100, F, sc_flat, rfl, t_flat, ck_flat, glob_fn X G e (n := 2) rfl, F.bindsN fun _ _ _ _ _ _ us hl => match us, hl with | [_, _], _ => rfl⟩
theorem d__law_cell (X : K.In h) (G : h.Ns mainGlobals mg) (c : He.SaysD fa fn K) (e : tl.all (gkB K) = true) : DOk K mg (TL tl) tab "_law_cell" 2 := by
  obtain ⟨fd, F⟩ := c.def_ 15 (d := dd__law_cell) rfl
  exact ⟨_, _, _, _, fd, ["script", "k"], N__law_cell, b__law_cell, 100, F, sc__law_cell, rfl, t__law_cell, ck__law_cell, glob_fn X G e (n := 2) rfl, F.bindsN fun _ _ _ _ _ _ us hl => match us, hl with | [_, _], _ => rfl⟩
theorem d__law_whole (X : K.In h) (G : h.Ns mainGlobals mg) (c : He.SaysD fa fn K) (e : tl.all (gkB K) = true) : DOk K mg (TL tl) tab "_law_whole" 1 := by
  obtain ⟨fd, F⟩ := c.def_ 16 (d := dd__law_whole) rfl
  exact ⟨_, _, _, _, fd, ["found"], N__law_whole, b__law_whole, 100, F, sc__law_whole, rfl, t__law_whole, ck__law_whole, glob_fn X G e (n := 1) rfl, F.bindsN fun _ _ _ _ _ _ us hl => match us, hl with | [_], _ => rfl⟩
theorem d__law_row (X : K.In h) (G : h.Ns mainGlobals mg) (c : He.SaysD fa fn K) (e : tl.all (gkB K) = true) : DOk K mg (TL tl) tab "_law_row" 2 := by
  obtain ⟨fd, F⟩ := c.def_ 17 (d := dd__law_row) rfl
  exact ⟨_, _, _, _, fd, ["script", "at"], N__law_row, b__law_row, 100, F, sc__law_row, rfl, t__law_row, ck__law_row, glob_fn X G e (n := 2) rfl, F.bindsN fun _ _ _ _ _ _ us hl => match us, hl with | [_, _], _ => rfl⟩
theorem d__law_book (X : K.In h) (G : h.Ns mainGlobals mg) (c : He.SaysD fa fn K) (e : tl.all (gkB K) = true) : DOk K mg (TL tl) tab "_law_book" 1 := by
  obtain ⟨fd, F⟩ := c.def_ 18 (d := dd__law_book) rfl
  exact ⟨_, _, _, _, fd, ["row"], N__law_book, b__law_book, 100, F, sc__law_book, rfl, t__law_book, ck__law_book, glob_fn X G e (n := 1) rfl, F.bindsN fun _ _ _ _ _ _ us hl => match us, hl with | [_], _ => rfl⟩
theorem d__law_next (X : K.In h) (G : h.Ns mainGlobals mg) (c : He.SaysD fa fn K) (e : tl.all (gkB K) = true) : DOk K mg (TL tl) tab "_law_next" 2 := by
  obtain ⟨fd, F⟩ := c.def_ 19 (d := dd__law_next) rfl
  exact ⟨_, _, _, _, fd, ["row", "state"], N__law_next, b__law_next, 100, F, sc__law_next, rfl, t__law_next, ck__law_next, glob_fn X G e (n := 2) rfl, F.bindsN fun _ _ _ _ _ _ us hl => match us, hl with | [_, _], _ => rfl⟩
theorem d__law_places (X : K.In h) (G : h.Ns mainGlobals mg) (c : He.SaysD fa fn K) (e : tl.all (gkB K) = true) : DOk K mg (TL tl) tab "_law_places" 2 := by
  obtain ⟨fd, F⟩ := c.def_ 20 (d := dd__law_places) rfl
  exact ⟨_, _, _, _, fd, ["book", "word"], N__law_places, b__law_places, 100, F, sc__law_places, rfl, t__law_places, ck__law_places, glob_fn X G e (n := 2) rfl, F.bindsN fun _ _ _ _ _ _ us hl => match us, hl with | [_, _], _ => rfl⟩
theorem d__law_formula (X : K.In h) (G : h.Ns mainGlobals mg) (c : He.SaysD fa fn K) (e : tl.all (gkB K) = true) : DOk K mg (TL tl) tab "_law_formula" 5 := by
  obtain ⟨fd, F⟩ := c.def_ 21 (d := dd__law_formula) rfl
  exact ⟨_, _, _, _, fd, ["row", "state", "book", "deep", "known"], N__law_formula, b__law_formula, 100, F, sc__law_formula, rfl, t__law_formula, ck__law_formula, glob_fn X G e (n := 5) rfl, F.bindsN fun _ _ _ _ _ _ us hl => match us, hl with | [_, _, _, _, _], _ => rfl⟩
theorem d__law_opened (X : K.In h) (G : h.Ns mainGlobals mg) (c : He.SaysD fa fn K) (e : tl.all (gkB K) = true) : DOk K mg (TL tl) tab "_law_opened" 1 := by
  obtain ⟨fd, F⟩ := c.def_ 22 (d := dd__law_opened) rfl
  exact ⟨_, _, _, _, fd, ["formula"], N__law_opened, b__law_opened, 100, F, sc__law_opened, rfl, t__law_opened, ck__law_opened, glob_fn X G e (n := 1) rfl, F.bindsN fun _ _ _ _ _ _ us hl => match us, hl with | [_], _ => rfl⟩
theorem d__law_flat (X : K.In h) (G : h.Ns mainGlobals mg) (c : He.SaysD fa fn K) (e : tl.all (gkB K) = true) : DOk K mg (TL tl) tab "_law_flat" 1 := by
  obtain ⟨fd, F⟩ := c.def_ 23 (d := dd__law_flat) rfl
  exact ⟨_, _, _, _, fd, ["formula"], N__law_flat, b__law_flat, 100, F, sc__law_flat, rfl, t__law_flat, ck__law_flat, glob_fn X G e (n := 1) rfl, F.bindsN fun _ _ _ _ _ _ us hl => match us, hl with | [_], _ => rfl⟩
def fnl0 : List (Str × Nat) := [("is_within", 3),
  ("is_word", 1),
  ("is_book", 1),
  ("look", 1),
  ("places_of", 2),
  ("is_thing", 2),
  ("is_fact", 2),
  ("is_formed", 3),
  ("brought", 1),
  ("is_formula_of", 2),
  ("look_formula", 2),
  ("opened", 1),
  ("around", 4),
  ("flat_of", 1),
  ("flat", 2),
  ("_law_cell", 2),
  ("_law_whole", 1),
  ("_law_row", 2),
  ("_law_book", 1),
  ("_law_next", 2)]
def fnl1 : List (Str × Nat) := [("_law_places", 2),
  ("_law_formula", 5),
  ("_law_opened", 1),
  ("_law_flat", 1)]
def fnl : List (Str × Nat) := fnl0 ++ (fnl1)
theorem fns (X : K.In h) (G : h.Ns mainGlobals mg) (c : He.SaysD fa fn K) (e : tl.all (gkB K) = true) : ∀ q ∈ fnl, DOk K mg (TL tl) tab q.1 q.2 := by
  intro q hq
  simp only [fnl, fnl0, fnl1, List.cons_append, List.nil_append, List.mem_cons, List.not_mem_nil, or_false] at hq
  rcases hq with rfl | rfl | rfl | rfl | rfl | rfl | rfl | rfl | rfl | rfl | rfl | rfl | rfl | rfl | rfl | rfl | rfl | rfl | rfl | rfl | rfl | rfl | rfl | rfl
  · exact d_is_within X G c e
  · exact d_is_word X G c e
  · exact d_is_book X G c e
  · exact d_look X G c e
  · exact d_places_of X G c e
  · exact d_is_thing X G c e
  · exact d_is_fact X G c e
  · exact d_is_formed X G c e
  · exact d_brought X G c e
  · exact d_is_formula_of X G c e
  · exact d_look_formula X G c e
  · exact d_opened X G c e
  · exact d_around X G c e
  · exact d_flat_of X G c e
  · exact d_flat X G c e
  · exact d__law_cell X G c e
  · exact d__law_whole X G c e
  · exact d__law_row X G c e
  · exact d__law_book X G c e
  · exact d__law_next X G c e
  · exact d__law_places X G c e
  · exact d__law_formula X G c e
  · exact d__law_opened X G c e
  · exact d__law_flat X G c e
theorem fnl_ok : ∀ q ∈ tl, (match q.2 with
    | .fn n => decide ((q.1, n) ∈ fnl)
    | _ => true) = true := by decide +kernel
theorem fns_ok (X : K.In h) (G : h.Ns mainGlobals mg) (c : He.SaysD fa fn K) (e : tl.all (gkB K) = true) : ∀ f n, TL tl f = some (.fn n) → DOk K mg (TL tl) tab f n := by
  intro f n hf
  have h1 := fnl_ok _ (look_mem hf)
  exact fns X G c e (f, n) (of_decide_eq_true h1)
theorem facts {f : Addr} (X : K.In h) (G : h.Ns mainGlobals mg) (hfa : mg ("law" : Str) = some (.ref f)) (c : He.SaysX fa fn ts [] exk w h K) :
    ∃ fd : FuncData, (∀ (s : Shared) (v : Value), BindsTo s fd ⟨[v], []⟩ [("script", v)]) ∧ ∀ base : Heap, K.In base → base.Ns mainGlobals mg → FnOk P w K mg base CX0 41 f fd ["script"] (fun vs H Q _ => spOf K (He.ga K) 1 (runDef (Cn tab 40) 6 b_law) vs H Q fun _ _ _ => False) := by
  obtain ⟨fd, F⟩ := c.t.d.def_ 24 (d := dd_law) rfl
  have e := hfa.symm.trans (He.glo_ok X G (c.t.d.fact 0 (f := .glo "law") rfl))
  cases e
  have b := FunD.bindsA (ps := ["script"]) F fun _ _ _ _ _ _ us hl => match us, hl with | [_], _ => rfl
  refine ⟨fd, fun s v => b s [v] rfl, fun base _ _ => ?_⟩
  have bs : Base w K mg (TL tl) := base_ok X G (fun s kvs hs => ?_) c.more
  · exact law_nox (def_ok (ps := ["script"]) (N := N_law) (mach bs (fns_ok X G c.t.d c.more) 40) F sc_law ck_law)
  · have h1 : ∀ q ∈ tl, (match q.2 with
      | .kd _ => decide (q.1 ∈ [("PLACES" : Str)])
      | _ => true) = true := by decide +kernel
    have h2 : s ∈ [("PLACES" : Str)] := of_decide_eq_true (h1 _ hs)
    simp only [List.mem_cons, List.not_mem_nil, or_false] at h2
    rcases h2 with rfl
    · exact c.t.tab 0
end
end Sc
open PySem PySem.W PySem.Calls PyProof.Rows
theorem PySem.Challenge.cw_scopeshelf_k14_plain_forms_holds : PySem.Challenge.rw_scopeshelf_k14_plain_forms.Holds := by
  w_on; o_law
  refine HandSHeadRun.head_any (r := OpenLaw.row PySem.Challenge.rw_scopeshelf_k14_plain_forms) (q := view (OpenLaw.row PySem.Challenge.rw_scopeshelf_k14_plain_forms).prog [42]) (H := Sc.hk) (ob := Sc.ob) (M := 20000) (loose := Sc.names) (d := HandSHeadRun.topDef (OpenLaw.row PySem.Challenge.rw_scopeshelf_k14_plain_forms).prog 42) (kwd := []) Sc.ob_eq
    (by kernel_rfl) (fun s => by kernel_rfl) Sc.run (by kernel_rfl) (by kernel_rfl) (by kernel_rfl) (by rfl) (by first | assumption | decide +kernel) (by decide +kernel) ⟨rfl, rfl, rfl, rfl, rfl, by decide +kernel⟩ ?hw ?hc
  case hw => w_witness2
  case hc =>
    refine L2.walk_ofE (l := PySem.Challenge.rw_scopeshelf_k14_plain_forms) (n := 63) (k := 41) (x := "script") (CX := L2.CX0) rfl (by decide) (by kernel_rfl) ⟨rfl, by decide, by decide⟩ ?F (fun _ _ _ _ z => z)
    intro w mg fa h Y G hmg0
    obtain ⟨K, KX, c⟩ := Y
    have hmg : mg ("law" : PySem.Str) = some (.ref fa) := by
      have e : (HandSHeadRun.topDef (OpenLaw.row PySem.Challenge.rw_scopeshelf_k14_plain_forms).prog 42).name = ("law" : PySem.Str) := by kernel_rfl
      rw [← e]
      exact hmg0
    obtain ⟨fd, hb, hF⟩ := Sc.facts (P := (PySem.Challenge.rw_scopeshelf_k14_plain_forms).prog) (w := w) KX G hmg c
    exact ⟨K, fd, _, KX, hb, fun H a ns hl _ hS => let ⟨S, hS2⟩ := Sc.law_true ns hl; Sc.law_sp hS hS2, hF⟩

